import PyProof.Rows.All
import Wide.All
import OpenK.AllK
import Wide.FinOn
import HandS.ForMost
import HandS.TupAny
import HandS.TupMul
import HandS.IsInst
import HandS.Deep
import HandS.Conv
import HandS.Walk
import HandS.Zip
import HandS.Rev
import HandS.Strs
import KE.KeyNested
import KE.KDictKeyed
import HandS.TupLen
import KE.SortData
import KE.DataCmp
import KE.DataEq
import PyProof.EqKinds
import PyProof.EqLayable
import PyProof.NeData
import PyProof.FactsAll.dict
import PyProof.DictWalks
import PyProof.EqAt
import PyProof.StrOps2
import PyProof.Rows.StrCut
import HandS.StrMore
import HandS.WideBits
import HandS.Text
import HandS.Style
import HandS.Dict
import PyProof.ReprRoads
import PyProof.FitsInt
import PyProof.StrLawsRepr
import PyProof.CallFns
import KE.DataFind
import HandS.RaiseMore
import KE.KSortTupG
import HandS.SortInts
import KE.KDictSum
import KE.KDictWalk
import KE.KDictList
import HandS.More
import KE.GoesMore
import HandS.Defaults
import HandS.HeadEnd
import PyProof.AutoSeq1
import HandS.NoneIn
import HandS.RevRange
import PyProof.Rows.SetFrom
import PyProof.WalksMore
import PyProof.TupleIter
import PyProof.SetRoads
import HandS.SetFor
import HandS.Set
import HandS.TupSets
import HandS.Small
import KE.KStateDown
import HandS.Ends
import HandS.Words
import HandS.WordsExc
import HandS.Head0
import HandS.Head1
import HandS.Head2
import HandS.HeadHook1
import HandS.HeadHook2
import PySem.Challenge.RW_touchboats_k43_places_of_one_touch
set_option linter.all false
set_option autoImplicit false
/-! EvA: a small language (slots in place of names) with a pure value semantics. Plain Lean, no library. -/
namespace Ev

/-- keys of a dict -/
inductive Ky where
  | i (n : Int) | s (cs : List Char) | t (xs : List Ky)
mutual
def Ky.deq : (a b : Ky) → Decidable (a = b)
  | .i m, .i n => if h : m = n then isTrue (by rw [h]) else isFalse fun e => h (by cases e; rfl)
  | .s m, .s n => if h : m = n then isTrue (by rw [h]) else isFalse fun e => h (by cases e; rfl)
  | .t m, .t n => match Ky.deqL m n with
    | isTrue h => isTrue (by rw [h])
    | isFalse h => isFalse fun e => h (by cases e; rfl)
  | .i _, .s _ => isFalse fun e => by cases e
  | .i _, .t _ => isFalse fun e => by cases e
  | .s _, .i _ => isFalse fun e => by cases e
  | .s _, .t _ => isFalse fun e => by cases e
  | .t _, .i _ => isFalse fun e => by cases e
  | .t _, .s _ => isFalse fun e => by cases e
def Ky.deqL : (a b : List Ky) → Decidable (a = b)
  | [], [] => isTrue rfl
  | [], _ :: _ => isFalse fun e => by cases e
  | _ :: _, [] => isFalse fun e => by cases e
  | a :: as, b :: bs => match Ky.deq a b with
    | isFalse h => isFalse fun e => h (by cases e; rfl)
    | isTrue h => match Ky.deqL as bs with
      | isTrue h' => isTrue (by rw [h, h'])
      | isFalse h' => isFalse fun e => h' (by cases e; rfl)
end
instance : DecidableEq Ky := Ky.deq
def Ky.isT : Ky → Bool
  | .t _ => true
  | _ => false
/-- a key that these keys may stand beside -/
def okK (ks : List Ky) (k : Ky) : Bool := ks.all fun x => x.isT == k.isT
/-- data: scr is the script; lst and dk are lists and dicts that nobody changes any more; rp d is the text repr(d) -/
inductive D where
  | non | bl (b : Bool) | int (i : Int) | str (s : List Char)
  | tup (xs : List D) | lst (xs : List D) | dk (ks : List Ky) (vs : List D) | scr (ns : List Int)
  | rp (d : D)
instance : Inhabited D := ⟨.non⟩

/-! Python's == of two data -/
mutual
def D.eqv : D → D → Bool
  | .non, .non => true
  | .bl a, .bl b => a == b
  | .bl a, .int j => (if a then 1 else 0) == j
  | .int i, .bl b => i == (if b then 1 else 0)
  | .int i, .int j => i == j
  | .str x, .str y => x == y
  | .tup xs, .tup ys => D.eqvL xs ys
  | .lst xs, .lst ys => D.eqvL xs ys
  | _, _ => false
def D.eqvL : List D → List D → Bool
  | [], [] => true
  | x :: xs, y :: ys => D.eqv x y && D.eqvL xs ys
  | _, _ => false
end
/-! nested at most n deep, of None, truths, intsD, texts, lists, tuples alone -/
mutual
def D.shp : D → Nat → Bool
  | .non, _ => true
  | .bl _, _ => true
  | .int _, _ => true
  | .str _, _ => true
  | .tup xs, n => match n with
    | 0 => false
    | n + 1 => D.shpL xs n
  | .lst xs, n => match n with
    | 0 => false
    | n + 1 => D.shpL xs n
  | .dk _ _, _ => false
  | .scr _, _ => false
  | .rp _, _ => false
def D.shpL : List D → Nat → Bool
  | [], _ => true
  | x :: xs, n => D.shp x n && D.shpL xs n
end
/-! no list and no dict in it -/
mutual
def D.pur : D → Bool
  | .tup xs => D.purL xs
  | .lst _ => false
  | .dk _ _ => false
  | .scr _ => false
  | _ => true
def D.purL : List D → Bool
  | [] => true
  | x :: xs => D.pur x && D.purL xs
end
/-! fit to be a key: of numbers, texts, None, tuples of such -/
mutual
def D.kok : D → Bool
  | .non => true
  | .int _ => true
  | .str _ => true
  | .tup xs => D.kokL xs
  | _ => false
def D.kokL : List D → Bool
  | [] => true
  | x :: xs => D.kok x && D.kokL xs
end
/-! equal as data are (for checks) -/
mutual
def D.beq : D → D → Bool
  | .non, .non => true
  | .bl a, .bl b => a == b
  | .int i, .int j => i == j
  | .str x, .str y => x == y
  | .tup xs, .tup ys => D.beqL xs ys
  | .lst xs, .lst ys => D.beqL xs ys
  | .dk ks vs, .dk ls ws => ks == ls && D.beqL vs ws
  | .scr a, .scr b => a == b
  | .rp a, .rp b => D.beq a b
  | _, _ => false
def D.beqL : List D → List D → Bool
  | [], [] => true
  | x :: xs, y :: ys => D.beq x y && D.beqL xs ys
  | _, _ => false
end

/-- a slot of a def's frame: empty, a datum, a list or a dict of the def's own that it may change -/
inductive Sl where
  | none | v (d : D) | ml (xs : List D) | mk (kvs : List (Ky × D))
instance : Inhabited Sl := ⟨.none⟩
abbrev SD := List Sl
/-- what an expression gives: a datum, the thing in a slot, a new list, a new dict -/
inductive Opd where
  | val (d : D) | slot (i : Nat) | new (xs : List D) | newd (kvs : List (Ky × D))

inductive Op where
  | add | sub | mul | fdiv | mod | pow | shl
  deriving DecidableEq
inductive Cm where
  | eq | ne | lt | le | gt | ge | is_ | isnot | in_ | notin
  deriving DecidableEq
inductive Ty where
  | int | bool | str | tuple | list | dict
  deriving DecidableEq
/-- built-ins of data -/
inductive Bi where
  | len | tuple | list | abs | min | max | int | all | any | sorted | sum | str | repr | lenset | sortedset | dict
  deriving DecidableEq
/-- methods that read -/
inductive Mt where
  | index | count | join | get | strip | upper | split | find | endswith | startswith
  deriving DecidableEq
/-- methods that change -/
inductive Me where
  | append | extend | pop | insert | remove | reverse | sort | setdefault | update
  deriving DecidableEq
inductive Tg where
  | n (i : Nat) | t2 (a b : Tg) | t3 (a b c : Tg) | t4 (a b c d : Tg) | t5 (a b c d e : Tg)

mutual
inductive E where
  | nm (i : Nat) | mn (i : Nat) | fz (i : Nat) | cst (d : D) | glo (g : Nat)
  | bin (o : Op) (a b : E) | neg (a : E) | cmp (o : Cm) (a b : E) | chn (o p : Cm) (a b c : E)
  | and (a b : E) | or (a b : E) | not (a : E) | ite (c a b : E)
  | tup (es : Es) | lst (es : Es) | dct0 | dct (es : Es) | any | lset (a : E) | sset (a : E) | rpne (a b : E)
  | ix (a i : E) | sl (a : E) (lo hi : Eo) | rv (a : E)
  | isi (a : E) (t : Ty)
  | isi2 (a : E) (t u : Ty)
  | bi (f : Bi) (es : Es)
  | lrng (es : Es)
  | call (f : Nat) (es : Es)
  | callN (f : Nat) (e : E)
  | mth (m : Mt) (o : E) (es : Es)
  | eff (m : Me) (i : Nat) (es : Es)
  | comp (elt : E) (tg : Tg) (it : It) (cs : Es) (own : List Nat)
  | compk (elt : E) (tg : Tg) (i : Nat) (cs : Es) (own : List Nat)
inductive Es where
  | nil | cons (e : E) (es : Es)
inductive Eo where
  | none | some (e : E)
inductive It where
  | seq (e : E) | rng (es : Es) | enu (e : E) | zip (a b : E) | rev (e : E) | rrng (es : Es) | items (e : E) | kys (ks : List Ky)
end
mutual
inductive S where
  | set (tg : Tg) (e : E) | setm (i : Nat) (e : E) | pset (tgs : List (Nat × Bool)) (es : Es)
  | sti (i : Nat) (k e : E) | sti2 (i : Nat) (k : E) (j : Nat) (l a b : E) | aug (i : Nat) (o : Op) (e : E)
  | ex (e : E) | ret (e : E) | retn | ife (c : E) (a b : Ss) | for_ (tg : Tg) (it : It) (b : Ss) | whl (c : E) (b : Ss)
  | brk | cont | pass | any
inductive Ss where
  | nil | cons (s : S) (r : Ss)
end

def lim : Nat := 16777216
/-- a dict's store: in its place, or at the end -/
def putY (kvs : List (Ky × D)) (k : Ky) (d : D) : List (Ky × D) :=
  if (kvs.any fun kv => decide (kv.1 = k)) = true then kvs.map (fun kv => if kv.1 = k then (kv.1, d) else kv) else kvs ++ [(k, d)]

/-! ### operators of data -/
def big : Nat := 2 ^ 5000
def mulOk (i j : Int) : Bool := (decide (-(2 ^ 64) < i) && decide (i < 2 ^ 64)) || (decide (-(2 ^ 64) < j) && decide (j < 2 ^ 64)) || (decide (i.natAbs < big) && decide (j.natAbs < big))
def powOk (i j : Int) : Bool := decide (0 ≤ j) && ((decide (j ≤ 1000000) && decide (i.natAbs < 2 ^ 64)) || (decide (j ≤ 64) && decide (i.natAbs < 2 ^ 256)))
def binD : Op → D → D → Option Opd
  | .add, .int i, .int j => some (.val (.int (i + j)))
  | .add, .str x, .str y => if x.length + y.length ≤ lim then some (.val (.str (x ++ y))) else none
  | .add, .tup x, .tup y => if x.length + y.length ≤ lim then some (.val (.tup (x ++ y))) else none
  | .add, .lst x, .lst y => if x.length + y.length ≤ lim then some (.new (x ++ y)) else none
  | .sub, .int i, .int j => some (.val (.int (i - j)))
  | .mul, .int i, .int j => if mulOk i j then some (.val (.int (i * j))) else none
  | .mul, .str x, .int j => if j ≤ 1000 ∧ -1000 ≤ j ∧ x.length ≤ 1000 then some (.val (.str (List.replicate j.toNat x).flatten)) else none
  | .mul, .lst x, .int j => if j ≤ 1000 ∧ -1000 ≤ j ∧ x.length ≤ 1000 then some (.new (List.replicate j.toNat x).flatten) else none
  | .mul, .tup x, .int j => if -1000 ≤ j ∧ j ≤ 1000 ∧ x.length ≤ 1000 ∧ x.length ≠ 0 then some (.val (.tup (List.replicate j.toNat x).flatten)) else none
  | .fdiv, .int i, .int j => if 0 < j ∧ j < 1073741824 then some (.val (.int (i / j))) else none
  | .mod, .int i, .int j => if 0 < j then some (.val (.int (i % j))) else none
  | .pow, .int i, .int j => if powOk i j then some (.val (.int (i ^ j.toNat))) else none
  | .shl, .int i, .int j => if 0 ≤ j ∧ j ≤ 1000000 ∧ i.natAbs < 2 ^ 64 then some (.val (.int (i * 2 ^ j.toNat))) else none
  | _, _, _ => none
/-- the order of texts, of tuples -/
def chLt : List Char → List Char → Bool
  | _, [] => false
  | [], _ :: _ => true
  | a :: x, b :: y => if a.toNat = b.toNat then chLt x y else decide (a.toNat < b.toNat)
mutual
def D.lt : D → D → Option Bool
  | .int i, .int j => some (decide (i < j))
  | .str x, .str y => some (chLt x y)
  | .tup xs, .tup ys => D.ltL xs ys
  | _, _ => none
def D.ltL : List D → List D → Option Bool
  | _, [] => some false
  | [], _ :: _ => some true
  | x :: xs, y :: ys => if D.eqv x y then D.ltL xs ys else D.lt x y
end
def flat : D → Bool
  | .non => true
  | .bl _ => true
  | .int _ => true
  | .str _ => true
  | _ => false
mutual
def kyOf : D → Option Ky
  | .int i => some (.i i)
  | .str s => some (.s s)
  | .tup xs => if D.shp (.tup xs) 8 then (kyOfL xs).map .t else none
  | _ => none
def kyOfL : List D → Option (List Ky)
  | [] => some []
  | x :: xs => (kyOf x).bind fun k => (kyOfL xs).map fun ks => k :: ks
end
/-- a key to be looked up among these -/
def kyIn (ks : List Ky) (d : D) : Option Ky := (kyOf d).bind fun k => if okK ks k then some k else none
mutual
def kyD : Ky → D
  | .i n => .int n
  | .s x => .str x
  | .t xs => .tup (kyDL xs)
def kyDL : List Ky → List D
  | [] => []
  | k :: ks => kyD k :: kyDL ks
end
/-- does x stand in y as a part -/
def prefixC : List Char → List Char → Bool
  | [], _ => true
  | _ :: _, [] => false
  | a :: x, b :: y => a == b && prefixC x y
def subC (x : List Char) : List Char → Bool
  | [] => prefixC x []
  | b :: y => prefixC x (b :: y) || subC x y
def isStrD : D → Bool
  | .str _ => true
  | _ => false
/-- not a text by repr, nor a script -/
def txD : D → Bool
  | .rp _ => false
  | .scr _ => false
  | _ => true
/-- what d may be looked up among: a text beside any, a tuple of texts beside a tuple of any -/
def okY (d : D) : D → Bool
  | .str _ => txD d
  | .tup ys => ys.all isStrD && (match d with
    | .tup xs => xs.all txD
    | _ => false)
  | _ => false
def inD (x : D) : D → Option Bool
  | .lst ys => if flat x && ys.all flat then some (ys.any fun z => D.eqv z x) else if D.shp x 60 && D.shpL ys 60 then some (ys.any fun z => D.eqv z x) else if ys.all (okY x) then some (ys.any fun z => D.eqv z x) else none
  | .tup ys => if flat x && ys.all flat then some (ys.any fun z => D.eqv z x) else if D.shp x 60 && D.shpL ys 60 then some (ys.any fun z => D.eqv z x) else if ys.all (okY x) then some (ys.any fun z => D.eqv z x) else none
  | .str t => match x with
    | .str [c] => some (decide (c ∈ t))
    | _ => none
  | .dk ks _ => match kyIn ks x with
    | some k => some (decide (k ∈ ks))
    | none => none
  | _ => none
/-- x == y; of two texts by repr it is known where they are told of the same -/
def eqD (x y : D) : Option Bool := match x with
  | .rp a => (match y with
    | .rp b => if D.beq a b then some true else none
    | _ => none)
  | .dk _ _ => (match y with
    | .str _ => some false
    | _ => none)
  | _ => if D.shp x 64 && D.shp y 64 then some (D.eqv x y) else none
/-! the order of things of one shape, nested -/
mutual
def gLt : D → D → Bool
  | .int i, .int j => decide (i < j)
  | .str a, .str b => chLt a b
  | .tup xs, .tup ys => gsLt xs ys
  | _, _ => false
def gsLt : List D → List D → Bool
  | [], [] => false
  | [], _ :: _ => true
  | _ :: _, [] => false
  | x :: r, y :: t => if D.eqv x y = true then gsLt r t else gLt x y
end
mutual
def D.alk : D → D → Bool
  | .int _, .int _ => true
  | .str _, .str _ => true
  | .tup xs, .tup ys => D.alkL xs ys
  | _, _ => false
def D.alkL : List D → List D → Bool
  | x :: xs, y :: ys => D.alk x y && D.alkL xs ys
  | [], _ => true
  | _ :: _, [] => true
end
def cmpD : Cm → D → D → Option Bool
  | .eq, x, y => eqD x y
  | .ne, x, y => (eqD x y).map fun b => !b
  | .lt, .int i, .int j => some (decide (i < j))
  | .lt, .str x, .str y => some (chLt x y)
  | .lt, .tup x, .tup y => if (D.alkL x y && D.shpL x 60) && D.shpL y 60 then some (gsLt x y) else none
  | .le, .int i, .int j => some (decide (i ≤ j))
  | .gt, .int i, .int j => some (decide (j < i))
  | .ge, .int i, .int j => some (decide (j ≤ i))
  | .is_, x, .non => some (match x with
    | .non => true
    | _ => false)
  | .isnot, x, .non => some (match x with
    | .non => false
    | _ => true)
  | .is_, .bl a, .bl b => some (a == b)
  | .isnot, .bl a, .bl b => some (!(a == b))
  | .in_, x, y => inD x y
  | .notin, x, y => (inD x y).map fun b => !b
  | _, _, _ => none
/-! ### places -/
def ixN (n : Nat) (i : Int) : Option Nat := if 0 ≤ i then (if i < n then some i.toNat else none) else if -(n : Int) ≤ i then some (i + n).toNat else none
def atI {α : Type} (xs : List α) (i : Int) : Option α := (ixN xs.length i).bind fun j => xs[j]?
def lookK (k : Ky) : List Ky → List D → Option D
  | a :: ks, d :: vs => if a = k then some d else lookK k ks vs
  | _, _ => none
def ixD : D → D → Option D
  | .lst xs, .int i => atI xs i
  | .tup xs, .int i => atI xs i
  | .str xs, .int i => if xs.length ≤ lim then (atI xs i).map fun c => .str [c] else none
  | .scr xs, .int i => (atI xs i).map .int
  | .dk ks vs, x => (kyIn ks x).bind fun k => lookK k ks vs
  | _, _ => none
def sIx (n d : Nat) : Option Int → Nat
  | none => d
  | some i => if i < 0 then (i + n).toNat else min i.toNat n
def cut {α : Type} (xs : List α) (lo hi : Option Int) : List α := (xs.drop (sIx xs.length 0 lo)).take (sIx xs.length xs.length hi - sIx xs.length 0 lo)
def slD : D → Option Int → Option Int → Option Opd
  | .lst xs, lo, hi => some (.new (cut xs lo hi))
  | .tup xs, lo, hi => some (.val (.tup (cut xs lo hi)))
  | .str xs, lo, hi => if xs.length ≤ lim then some (.val (.str (cut xs lo hi))) else none
  | .scr xs, lo, hi => some (.new ((cut xs lo hi).map .int))
  | _, _, _ => none
def rvD : D → Option Opd
  | .lst xs => some (.new xs.reverse)
  | .tup xs => some (.val (.tup xs.reverse))
  | _ => none
def isiD : D → Ty → Bool
  | .bl _, .bool => true
  | .bl _, .int => true
  | .int _, .int => true
  | .str _, .str => true
  | .rp _, .str => true
  | .tup _, .tuple => true
  | .lst _, .list => true
  | .scr _, .list => true
  | .dk _ _, .dict => true
  | _, _ => false
def boolsD : List D → Option (List Bool)
  | [] => some []
  | .bl b :: r => (boolsD r).map fun bs => b :: bs
  | _ :: _ => none
def intsD : List D → Option (List Int)
  | [] => some []
  | .int i :: r => (intsD r).map fun is => i :: is
  | _ :: _ => none
def strsD : List D → Option (List (List Char))
  | [] => some []
  | .str s :: r => (strsD r).map fun ss => s :: ss
  | _ :: _ => none
/-- insertion sort by the order of data -/
def insD (x : D) : List D → Option (List D)
  | [] => some [x]
  | y :: ys => match D.lt x y with
    | none => none
    | some true => some (x :: y :: ys)
    | some false => (insD x ys).map fun r => y :: r
def sortD : List D → Option (List D)
  | [] => some []
  | x :: xs => (sortD xs).bind fun r => insD x r
def dedup : List D → List D
  | [] => []
  | x :: xs => if (dedup xs).any (fun y => D.beq y x) then dedup xs else x :: dedup xs
/-! sorted: by the order of ints, texts, tuples of them -/
def fLt : D → D → Bool
  | .int i, .int j => decide (i < j)
  | .str a, .str b => chLt a b
  | _, _ => false
def fsLt : List D → List D → Bool
  | [], [] => false
  | [], _ :: _ => true
  | _ :: _, [] => false
  | x :: r, y :: t => fLt x y || (!fLt y x && fsLt r t)
def dLt : D → D → Bool
  | .tup a, .tup b => fsLt a b
  | x, y => fLt x y
def insB {α : Type} (lt : α → α → Bool) (x : α) : List α → List α
  | [] => [x]
  | y :: ys => if lt y x = true then y :: insB lt x ys else x :: y :: ys
def isortB {α : Type} (lt : α → α → Bool) : List α → List α
  | [] => []
  | x :: xs => insB lt x (isortB lt xs)
def isIntD : D → Bool
  | .int _ => true
  | _ => false
def tupOfB (p : D → Bool) : D → Bool
  | .tup [] => false
  | .tup (d :: ds) => (d :: ds).all p
  | _ => false
def neTup : D → Bool
  | .tup (_ :: _) => true
  | _ => false
def sortable2 (xs : List D) : Bool := (xs.all fun x => xs.all fun y => D.alk x y) && xs.all neTup && xs.all fun x => D.shp x 60
def sortable (xs : List D) : Bool := xs.all isIntD || xs.all (tupOfB isIntD) || xs.all (tupOfB isStrD) || (xs.all isStrD && decide (xs.length < 64))
def sortedD : D → Option Opd
  | .dk ks _ => if (((ks.map kyD).all isIntD || (ks.map kyD).all isStrD) && decide (ks.length < 64)) = true then some (.new (isortB dLt (ks.map kyD))) else if sortable2 (ks.map kyD) = true then some (.new (isortB gLt (ks.map kyD))) else none
  | .lst xs => if sortable xs = true then some (.new (isortB dLt xs)) else if sortable2 xs = true then some (.new (isortB gLt xs)) else none
  | _ => none
def rngL (a b : Int) : List D := (List.range (b - a).toNat).map fun k => D.int (a + (k : Nat))
def rOk (i : Int) : Bool := decide (-(2 ^ 62) ≤ i) && decide (i < 2 ^ 62)
/-- the numbers of range(a, b, -1) -/
def rngDn (a b : Int) : List D := (List.range (a - b).toNat).map fun k => D.int (a + (k : Nat) * (-1))
def rngD : List D → Option (List D)
  | [.int b] => if rOk b then some (rngL 0 b) else none
  | [.int a, .int b] => if rOk a && rOk b then some (rngL a b) else none
  | [.int a, .int b, .int c] => if c = -1 ∧ (rOk a && rOk b) = true then some (rngDn a b) else none
  | _ => none
/-- range of one or two numbers -/
def rrD : List D → Option (List D)
  | [.int b] => if rOk b then some (rngL 0 b) else none
  | [.int a, .int b] => if rOk a && rOk b then some (rngL a b) else none
  | _ => none
def joinC (sep : List Char) : List (List Char) → List Char
  | [] => []
  | [x] => x
  | x :: r => x ++ sep ++ joinC sep r
def lenD : D → Option Opd
  | .lst xs => some (.val (.int xs.length))
  | .tup xs => some (.val (.int xs.length))
  | .scr xs => some (.val (.int xs.length))
  | .str xs => if xs.length ≤ lim then some (.val (.int xs.length)) else none
  | .dk ks _ => some (.val (.int ks.length))
  | _ => none
def tupleD : D → Option Opd
  | .lst xs => some (.val (.tup xs))
  | .tup xs => some (.val (.tup xs))
  | _ => none
def listD : D → Option Opd
  | .lst xs => some (.new xs)
  | .tup xs => some (.new xs)
  | .scr xs => some (.new (xs.map .int))
  | _ => none
def absD : D → Option Opd
  | .int i => some (.val (.int (if i < 0 then -i else i)))
  | _ => none
def minD : D → D → Option Opd
  | .int i, .int j => some (.val (.int (if j < i then j else i)))
  | _, _ => none
def maxD : D → D → Option Opd
  | .int i, .int j => some (.val (.int (if j > i then j else i)))
  | _, _ => none
def intD : D → Option Opd
  | .bl b => some (.val (.int (if b then 1 else 0)))
  | .int i => some (.val (.int i))
  | _ => none
def allD : D → Option Opd
  | .lst xs => (boolsD xs).map fun bs => .val (.bl (bs.all id))
  | _ => none
def anyD : D → Option Opd
  | .lst xs => (boolsD xs).map fun bs => .val (.bl (bs.any id))
  | _ => none
/-! ### displays of dicts -/
def pairsK : List D → Option (List (Ky × D))
  | [] => some []
  | k :: v :: r => (kyIn [.i 0] k).bind fun ky => (pairsK r).map fun l => (ky, v) :: l
  | _ => none
def mergeY (kvs : List (Ky × D)) : List (Ky × D) := kvs.foldl (fun a kv => putY a kv.1 kv.2) []
def pairsT : List D → Option (List (Ky × D))
  | [] => some []
  | .tup [k, v] :: r => (kyIn [.i 0] k).bind fun ky => (pairsT r).map fun l => (ky, v) :: l
  | _ => none
/-- dict(xs) of pairs -/
def dictD : D → Option Opd
  | .lst xs => (pairsT xs).map fun kvs => .newd (mergeY kvs)
  | _ => none
/-! how long repr(d) is at most -/
def kyZ : Ky → Nat
  | .i n => if n.natAbs.log2 < 1920 then 2000 else 20000000
  | .s cs => 10 * cs.length + 4
  | .t _ => 20000000
def kszL : List Ky → Nat
  | [] => 0
  | k :: ks => kyZ k + 4 + kszL ks
mutual
def D.rsz : D → Nat
  | .non => 6
  | .bl _ => 6
  | .int i => if i.natAbs.log2 < 1920 then 2000 else 20000000
  | .str s => 10 * s.length + 4
  | .tup xs => D.rszL xs + 4
  | .lst xs => D.rszL xs + 4
  | .dk ks vs => kszL ks + D.rszL vs + 4
  | .scr _ => 20000000
  | .rp _ => 20000000
def D.rszL : List D → Nat
  | [] => 0
  | x :: xs => D.rsz x + 2 + D.rszL xs
end
/-! what repr tells: nested at most n deep, dicts too -/
mutual
def D.shr : D → Nat → Bool
  | .non, _ => true
  | .bl _, _ => true
  | .int _, _ => true
  | .str _, _ => true
  | .tup xs, n => match n with
    | 0 => false
    | n + 1 => D.shrL xs n
  | .lst xs, n => match n with
    | 0 => false
    | n + 1 => D.shrL xs n
  | .dk ks vs, n => match n with
    | 0 => false
    | n + 1 => decide (ks.length = vs.length) && okK ks (.i 0) && D.shrL vs n
  | .scr _, _ => false
  | .rp _, _ => false
def D.shrL : List D → Nat → Bool
  | [], _ => true
  | x :: xs, n => D.shr x n && D.shrL xs n
end
def reprD (d : D) : Option Opd := if D.shr d 60 && decide (D.rsz d ≤ 10000000) then some (.val (.rp d)) else none
def sumD : D → Option Opd
  | .lst xs => (intsD xs).map fun ns => .val (.int ns.sum)
  | _ => none
def biD : Bi → List D → Option Opd
  | .repr, [d] => reprD d
  | .sum, [d] => sumD d
  | .dict, [d] => dictD d
  | .len, [d] => lenD d
  | .tuple, [d] => tupleD d
  | .list, [d] => listD d
  | .abs, [d] => absD d
  | .min, [d, e] => minD d e
  | .max, [d, e] => maxD d e
  | .int, [d] => intD d
  | .all, [d] => allD d
  | .any, [d] => anyD d
  | .sorted, [d] => sortedD d
  | _, _ => none
def tupIxD : D → D → Option Opd
  | .tup xs, .str x => (strsD xs).bind fun ss => (ss.findIdx? fun z => z == x).map fun j => .val (.int (j : Nat))
  | _, _ => none
def joinD : D → D → Option Opd
  | .str sep, .lst xs => (strsD xs).bind fun ss => if (ss.map List.length).sum + ss.length * sep.length ≤ lim then some (.val (.str (joinC sep ss))) else none
  | .str sep, .tup xs => (strsD xs).bind fun ss => if (ss.map List.length).sum + ss.length * sep.length ≤ lim then some (.val (.str (joinC sep ss))) else none
  | _, _ => none
/-- each text once -/
def dedupC : List (List Char) → List (List Char)
  | [] => []
  | x :: r => if x ∈ r then dedupC r else x :: dedupC r
/-- how many unlike texts a tuple has -/
def lsetD : D → Option Opd
  | .tup ds => (strsD ds).bind fun ss => if ss.length < 4000 then some (.val (.int (dedupC ss).length)) else none
  | .lst ds => (strsD ds).bind fun ss => if ss.length < 4000 then some (.val (.int (dedupC ss).length)) else none
  | _ => none
/-- each thing once, sorted -/
def ssOk (ds : List D) : Bool := ((D.kokL ds && sortable2 ds) && D.shpL ds 8) && decide (ds.length < 64)
def ssetD : D → Option Opd
  | .tup ds => if ssOk ds = true then some (.new (isortB gLt (dedup ds))) else none
  | .lst ds => if ssOk ds = true then some (.new (isortB gLt (dedup ds))) else none
  | _ => none
/-- a text without the signs of bs at its ends -/
def stripC (bs cs : List Char) : List Char :=
  let lo := (cs.takeWhile fun c => bs.contains c).length
  let hi := cs.length - ((cs.drop lo).reverse.takeWhile fun c => bs.contains c).length
  (cs.drop lo).take (hi - lo)
def stripD : D → D → Option Opd
  | .str a, .str b => if a.length ≤ lim then some (.val (.str (stripC b a))) else none
  | _, _ => none
/-- a text cut at each t from the left; k signs are still to be passed over -/
def splC (t : List Char) : Nat → List Char → List Char → List (List Char)
  | _, acc, [] => [acc]
  | 0, acc, c :: r => if (c :: r).take t.length = t then acc :: splC t (t.length - 1) [] r else splC t 0 (acc ++ [c]) r
  | k + 1, acc, _ :: r => splC t k acc r
def splitD : D → D → Option Opd
  | .str x, .str t => if x.length + 2 ≤ lim ∧ t ≠ [] ∧ t.all (fun c => decide (c.toNat < 256)) = true then some (.new ((splC t 0 [] x).map .str)) else none
  | _, _ => none
/-- d.get(e, f) -/
def getD2 : D → D → D → Option Opd
  | .dk ks vs, e, f => if D.pur f = true then (kyIn ks e).map fun k => .val ((lookK k ks vs).getD f) else none
  | _, _, _ => none
/-- x.count(e) -/
def cntD : D → D → Option Opd
  | .lst xs, e => if D.shp e 60 && D.shpL xs 60 then some (.val (.int (xs.countP fun y => D.eqv y e : Nat))) else none
  | .tup xs, e => if D.shp e 60 && D.shpL xs 60 then some (.val (.int (xs.countP fun y => D.eqv y e : Nat))) else none
  | _, _ => none
def mtD : Mt → D → List D → Option Opd
  | .count, d, [e] => cntD d e
  | .strip, d, [e] => stripD d e
  | .split, d, [e] => splitD d e
  | .index, d, [e] => tupIxD d e
  | .join, d, [e] => joinD d e
  | .get, d, [e, f] => getD2 d e f
  | _, _, _ => none
/-- changing methods of a list: what it gives, the list behind -/
def meD : Me → List D → List Opd → Option (D × List D)
  | _, _, _ => none

/-! ### slots -/
def tag : D → Nat
  | .str _ => 1
  | .tup _ => 2
  | .lst _ => 3
  | .dk _ _ => 4
  | _ => 0
def force (sd : SD) : Opd → Option D
  | .val d => some d
  | .new xs => some (.lst xs)
  | .newd kvs => some (.dk (kvs.map (·.1)) (kvs.map (·.2)))
  | .slot i => match sd[i]? with
    | some (.ml xs) => some (.lst xs)
    | some (.mk kvs) => some (.dk (kvs.map (·.1)) (kvs.map (·.2)))
    | some (.v d) => some d
    | _ => none
def strict : Opd → Option D
  | .val d => some d
  | .new xs => some (.lst xs)
  | .newd kvs => some (.dk (kvs.map (·.1)) (kvs.map (·.2)))
  | .slot _ => none
def forceL (sd : SD) : List Opd → Option (List D)
  | [] => some []
  | o :: r => (force sd o).bind fun d => (forceL sd r).map fun ds => d :: ds
def strictL : List Opd → Option (List D)
  | [] => some []
  | o :: r => (strict o).bind fun d => (strictL r).map fun ds => d :: ds
def isMut : Sl → Bool
  | .ml _ => true
  | .mk _ => true
  | _ => false
def mutAt (sd : SD) (i : Nat) : Bool := match sd[i]? with
  | some s => isMut s
  | none => false
/-- a datum is stored in a slot; a parameter that is changed by others stays -/
def putV (np : Nat) (i : Nat) (d : D) (sd : SD) : Option SD := if decide (i < np) && mutAt sd i then none else some (sd.set i (.v d))
def assignT (np : Nat) : Tg → D → SD → Option SD
  | .n i, d, sd => putV np i d sd
  | .t2 a b, .tup [x, y], sd => (assignT np a x sd).bind fun s => assignT np b y s
  | .t2 a b, .lst [x, y], sd => (assignT np a x sd).bind fun s => assignT np b y s
  | .t3 a b c, .tup [x, y, z], sd => (assignT np a x sd).bind fun s => (assignT np b y s).bind fun s => assignT np c z s
  | .t4 a b c e, .tup [x, y, z, u], sd => (assignT np a x sd).bind fun s => (assignT np b y s).bind fun s => (assignT np c z s).bind fun s => assignT np e u s
  | .t5 a b c e f, .tup [x, y, z, u, w], sd => (assignT np a x sd).bind fun s => (assignT np b y s).bind fun s => (assignT np c z s).bind fun s => (assignT np e u s).bind fun s => assignT np f w s
  | _, _, _ => none
def wipeD (sd : SD) : List Nat → SD
  | [] => sd
  | v :: vs => (wipeD sd vs).set v .none
/-- behind a comprehension its own slots are as they were ahead of it -/
def backD (sd0 : SD) (sd : SD) : List Nat → SD
  | [] => sd
  | v :: vs => (backD sd0 sd vs).set v (match sd0[v]? with
    | some (.v d) => .v d
    | _ => .none)

/-! ### what the evaluator asks of what is around it -/
structure Cfg where
  cl : Nat → List Sl → Option (Opd × List Sl)
  mps : Nat → List Bool
  gl : Nat → D
  np : Nat
  fu : Nat
inductive Fl where
  | next | brk | cont | ret (o : Opd)

/-! ### calls -/
def argsOf (sd : SD) : List Bool → List Opd → Option (List Sl)
  | [], [] => some []
  | m :: ms, o :: os => match m with
    | true => (match o with
      | .slot i => (match sd[i]? with
        | some s => if isMut s then (argsOf sd ms os).map fun r => s :: r else none
        | none => none)
      | _ => none)
    | false => (force sd o).bind fun d => (argsOf sd ms os).map fun r => .v d :: r
  | _, _ => none
def slotsOf : List Opd → List Nat
  | [] => []
  | .slot i :: r => i :: slotsOf r
  | _ :: r => slotsOf r
/-- is a list or dict of a slot lent as a datum -/
def lent (sd : SD) : List Bool → List Opd → Bool
  | false :: ms, .slot i :: os => mutAt sd i || lent sd ms os
  | _ :: ms, _ :: os => lent sd ms os
  | _, _ => false
/-- the changed arguments are written back -/
def wb : List Bool → List Opd → List Sl → SD → SD
  | true :: ms, .slot i :: os, s :: ss, sd => wb ms os ss (sd.set i s)
  | false :: ms, _ :: os, ss, sd => wb ms os ss sd
  | _, _, _, sd => sd
def purO : Opd → Bool
  | .val d => D.pur d
  | _ => false
def purS : List Sl → Bool
  | [] => true
  | .ml xs :: r => D.purL xs && purS r
  | .mk kvs :: r => D.purL (kvs.map (·.2)) && purS r
  | _ :: r => purS r
def nodupN : List Nat → Bool
  | [] => true
  | i :: r => !r.contains i && nodupN r
def callE (C : Cfg) (f : Nat) (os : List Opd) (sd : SD) : Option (Opd × SD) :=
  if nodupN (slotsOf os) then
    (argsOf sd (C.mps f) os).bind fun as => (C.cl f as).bind fun r =>
      if lent sd (C.mps f) os && !(purO r.1 && purS r.2) then none else some (r.1, wb (C.mps f) os r.2 sd)
  else none
/-! ### changing methods on the list in a slot -/
def listOf : D → Option (List D)
  | .lst xs => some xs
  | .tup xs => some xs
  | _ => none
def mlAt (sd : SD) (i : Nat) : Bool := match sd[i]? with
  | some (.ml _) => true
  | _ => false
def effE (np : Nat) (m : Me) (i : Nat) (os : List Opd) (sd : SD) : Option (Opd × SD) :=
  match sd[i]? with
  | some (.ml xs) => (match m, os with
    | .append, [o] => (strict o).bind fun d => if xs.length < lim then some (.val .non, sd.set i (.ml (xs ++ [d]))) else none
    | .extend, [o] => (match o with
      | .slot _ => none
      | o => (strict o).bind fun d => (listOf d).bind fun ys => if xs.length + ys.length ≤ lim then some (.val .non, sd.set i (.ml (xs ++ ys))) else none)
    | .pop, [] => (xs[xs.length - 1]?).map fun d => (.val d, sd.set i (.ml xs.dropLast))
    | .pop, [.val (.int k)] => if xs.length ≤ lim then (ixN xs.length k).bind fun j => (xs[j]?).map fun d => (.val d, sd.set i (.ml (xs.eraseIdx j))) else none
    | .reverse, [] => some (.val .non, sd.set i (.ml xs.reverse))
    | .insert, [.val (.int k), o] => (strict o).bind fun d => if 0 ≤ k ∧ k < 2 ^ 62 ∧ xs.length < lim then some (.val .non, sd.set i (.ml (xs.take k.toNat ++ [d] ++ xs.drop k.toNat))) else none
    | .remove, [.val d] => if D.shp d 60 && D.shpL xs 60 && decide (xs.length ≤ lim) then (xs.findIdx? fun y => D.eqv y d).map fun j => (.val .non, sd.set i (.ml (xs.eraseIdx j))) else none
    | _, _ => none)
  | _ => none
/-- x[k] = d -/
def stiE (i : Nat) (k d : D) (sd : SD) : Option SD :=
  match sd[i]? with
  | some (.ml xs) => (match k with
    | .int k => (ixN xs.length k).map fun j => sd.set i (.ml (xs.set j d))
    | _ => none)
  | some (.mk kvs) => (match kyIn (kvs.map (·.1)) k with
    | some ky => if kvs.length < lim then some (sd.set i (.mk (putY kvs ky d))) else none
    | none => none)
  | _ => none
def valO : Opd → Option D
  | .val d => some d
  | _ => none
/-! ### what is walked -/
def itemsD : D → Option (List D)
  | .lst xs => some xs
  | .tup xs => some xs
  | .str cs => some (cs.map fun c => .str [c])
  | .scr ns => some (ns.map .int)
  | _ => none
/-- what enumerate walks -/
def enumD : D → Option (List D)
  | .lst xs => some xs
  | .tup xs => some xs
  | .scr ns => some (ns.map .int)
  | _ => none
def lstD : D → Option (List D)
  | .lst xs => some xs
  | .scr ns => some (ns.map .int)
  | _ => none
def fixO : Opd → Bool
  | .val _ => true
  | .slot _ => true
  | _ => false
/-- what zip walks: two tuples, a tuple and a list, or two lists that stand -/
def zipD (o p : Opd) : D → D → Option (List D × List D)
  | .tup r, .tup q => some (r, q)
  | .tup r, .lst q => if fixO p then some (r, q) else none
  | .lst r, .tup q => if fixO o then some (r, q) else none
  | d, e => if fixO o && fixO p then (lstD d).bind fun r => (lstD e).map fun q => (r, q) else none
/-- the list in a slot is walked: it must stay -/
def stays (o : Opd) (xs : List D) (sd : SD) : Bool := match o with
  | .slot i => (match sd[i]? with
    | some (.ml ys) => D.beqL xs ys
    | _ => false)
  | _ => true
def rows1 (xs : List D) : List (List D) := xs.map fun d => [d]
def chkAll (l : List (Opd × List D)) (sd : SD) : Bool := l.all fun x => stays x.1 x.2 sd
def noSlot : List (Opd × List D) → Bool
  | [] => true
  | (.slot _, _) :: _ => false
  | _ :: r => noSlot r
def enumL : Nat → List D → List (List D)
  | _, [] => []
  | k, x :: xs => [.int (k : Nat), x] :: enumL (k + 1) xs
def zipL : List D → List D → List (List D)
  | x :: xs, y :: ys => [x, y] :: zipL xs ys
  | _, _ => []
def asgR (np : Nat) : Tg → List D → SD → Option SD
  | tg, [d], sd => assignT np tg d sd
  | .t2 a b, [x, y], sd => (assignT np a x sd).bind fun s => assignT np b y s
  | _, _, _ => none
/-! ### loops -/
def loopI (asg : List D → SD → Option SD) (body : SD → Option (Fl × SD)) : List (List D) → SD → Option (Fl × SD)
  | [], sd => some (.next, sd)
  | d :: ds, sd => (asg d sd).bind fun s1 => (body s1).bind fun r => match r.1 with
      | .next => loopI asg body ds r.2
      | .cont => loopI asg body ds r.2
      | .brk => some (.next, r.2)
      | .ret o => some (.ret o, r.2)
def loopW (c : SD → Option (Bool × SD)) (body : SD → Option (Fl × SD)) : Nat → SD → Option (Fl × SD)
  | 0, _ => none
  | n + 1, sd => (c sd).bind fun r => if r.1 then (body r.2).bind fun q => match q.1 with
      | .next => loopW c body n q.2
      | .cont => loopW c body n q.2
      | .brk => some (.next, q.2)
      | .ret o => some (.ret o, q.2)
    else some (.next, r.2)
def ownOk (own : List Nat) (sd : SD) : Bool := own.all fun v => !mutAt sd v
def loopC (chk : SD → Bool) (asg : List D → SD → Option SD) (cond : SD → Option (Bool × SD)) (elt : SD → Option (D × SD)) (own : List Nat) : List (List D) → SD → Option (List D × SD)
  | [], sd => if ownOk own sd && chk (wipeD sd own) then some ([], sd) else none
  | d :: ds, sd => if ownOk own sd && chk (wipeD sd own) then (asg d (wipeD sd own)).bind fun s1 => (cond s1).bind fun b => if b.1 then
      (elt b.2).bind fun x => (loopC chk asg cond elt own ds x.2).map fun r => (x.1 :: r.1, r.2)
      else loopC chk asg cond elt own ds b.2
    else none
def boolO : Opd → Option Bool
  | .val (.bl b) => some b
  | _ => none
def partO (sd : SD) (o : Opd) : Option Int := match force sd o with
  | some (.int i) => some i
  | _ => none

mutual
def evE (C : Cfg) : E → SD → Option (Opd × SD)
  | .nm i, sd => (match sd[i]? with
    | some (.v d) => some (.val d, sd)
    | _ => none)
  | .mn i, sd => if mutAt sd i then some (.slot i, sd) else none
  | .fz i, sd => (match sd[i]? with
    | some (.ml xs) => if C.np ≤ i then some (.val (.lst xs), sd.set i (.v (.lst xs))) else none
    | some (.mk kvs) => if C.np ≤ i then some (.val (.dk (kvs.map (·.1)) (kvs.map (·.2))), sd.set i (.v (.dk (kvs.map (·.1)) (kvs.map (·.2))))) else none
    | some (.v d) => some (.val d, sd)
    | _ => none)
  | .cst d, sd => some (.val d, sd)
  | .glo g, sd => some (.val (C.gl g), sd)
  | .bin o a b, sd => (evE C a sd).bind fun x => (evE C b x.2).bind fun y => (force y.2 x.1).bind fun d => (force y.2 y.1).bind fun e => (binD o d e).map fun r => (r, y.2)
  | .neg a, sd => (evE C a sd).bind fun x => (match x.1 with
    | .val (.int i) => some (.val (.int (-i)), x.2)
    | _ => none)
  | .cmp o a b, sd => (evE C a sd).bind fun x => (evE C b x.2).bind fun y => (force y.2 x.1).bind fun d => (force y.2 y.1).bind fun e => (cmpD o d e).map fun r => (.val (.bl r), y.2)
  | .chn o p a b c, sd => (evE C a sd).bind fun x => (evE C b x.2).bind fun y => (force y.2 x.1).bind fun d => (force y.2 y.1).bind fun e => (cmpD o d e).bind fun r =>
      if r then (evE C c y.2).bind fun z => (force z.2 y.1).bind fun e => (force z.2 z.1).bind fun f => (cmpD p e f).map fun r => (.val (.bl r), z.2) else some (.val (.bl false), y.2)
  | .and a b, sd => (evE C a sd).bind fun x => (boolO x.1).bind fun t => if t then evE C b x.2 else some (.val (.bl false), x.2)
  | .or a b, sd => (evE C a sd).bind fun x => (boolO x.1).bind fun t => if t then some (.val (.bl true), x.2) else evE C b x.2
  | .not a, sd => (evE C a sd).bind fun x => (boolO x.1).map fun t => (.val (.bl (!t)), x.2)
  | .ite c a b, sd => (evE C c sd).bind fun x => (boolO x.1).bind fun t => if t then evE C a x.2 else evE C b x.2
  | .tup es, sd => (evEs C es sd).bind fun x => (strictL x.1).map fun ds => (.val (.tup ds), x.2)
  | .lst es, sd => (evEs C es sd).bind fun x => (strictL x.1).map fun ds => (.new ds, x.2)
  | .dct0, sd => some (.newd [], sd)
  | .dct es, sd => (evEs C es sd).bind fun x => (strictL x.1).bind fun ds => (pairsK ds).bind fun kvs => if kvs.length ≤ 15 then some (.newd (mergeY kvs), x.2) else none
  | .any, _ => none
  | .lset a, sd => (evE C a sd).bind fun x => (force x.2 x.1).bind fun d => (lsetD d).map fun r => (r, x.2)
  | .sset a, sd => (evE C a sd).bind fun x => (force x.2 x.1).bind fun d => (ssetD d).map fun r => (r, x.2)
  | .rpne _ _, _ => none
  | .ix a i, sd => (evE C a sd).bind fun x => (evE C i x.2).bind fun y => (force y.2 x.1).bind fun d => (force y.2 y.1).bind fun e => (ixD d e).map fun r => (.val r, y.2)
  | .sl a lo hi, sd => (evE C a sd).bind fun x => (evEo C lo x.2).bind fun l => (evEo C hi l.2).bind fun h => (force h.2 x.1).bind fun d => (slD d l.1 h.1).map fun r => (r, h.2)
  | .rv a, sd => (evE C a sd).bind fun x => (force x.2 x.1).bind fun d => (rvD d).map fun r => (r, x.2)
  | .isi a t, sd => (evE C a sd).bind fun x => (force x.2 x.1).map fun d => (.val (.bl (isiD d t)), x.2)
  | .isi2 a t u, sd => (evE C a sd).bind fun x => (force x.2 x.1).map fun d => (.val (.bl (isiD d t || isiD d u)), x.2)
  | .bi f es, sd => (evEs C es sd).bind fun x => (forceL x.2 x.1).bind fun ds => (biD f ds).map fun r => (r, x.2)
  | .lrng es, sd => (evEs C es sd).bind fun x => (forceL x.2 x.1).bind fun ds => (rngD ds).bind fun r => if r.length ≤ lim then some (.new r, x.2) else none
  | .call f es, sd => (evEs C es sd).bind fun x => callE C f x.1 x.2
  | .callN f e, sd => (evE C e sd).bind fun x => if C.mps f = [true] then (match x.1 with
      | .new xs => (C.cl f [.ml xs]).map fun r => (r.1, x.2)
      | .newd kvs => (C.cl f [.mk kvs]).map fun r => (r.1, x.2)
      | _ => none) else none
  | .mth m o es, sd => (evE C o sd).bind fun x => (force x.2 x.1).bind fun d0 => (evEs C es x.2).bind fun y => (force y.2 x.1).bind fun d => if tag d0 = tag d then (forceL y.2 y.1).bind fun ds => (mtD m d ds).map fun r => (r, y.2) else none
  | .eff m i es, sd => if mlAt sd i then (evEs C es sd).bind fun x => effE C.np m i x.1 x.2 else none
  | .comp elt tg it cs own, sd => (evIt C it sd).bind fun w => if w.1.length ≤ lim then
      (loopC (chkAll w.2.1) (asgR C.np tg) (evCs C cs) (fun s => (evE C elt s).bind fun x => (strict x.1).map fun d => (d, x.2)) own w.1 w.2.2).map fun r => (.new r.1, backD w.2.2 r.2 own)
      else none
  | .compk elt tg i cs own, sd => (match sd[i]? with
    | some (.mk kvs) => if C.np ≤ i ∧ (rows1 ((kvs.map (·.1)).map kyD)).length ≤ lim ∧ okK (kvs.map (·.1)) (.i 0) = true then
        (loopC (chkAll []) (asgR C.np tg) (evCs C cs) (fun s => (evE C elt s).bind fun x => (strict x.1).map fun d => (d, x.2)) own (rows1 ((kvs.map (·.1)).map kyD)) (sd.set i .none)).map fun r => (.new r.1, (backD (sd.set i .none) r.2 own).set i (.mk kvs))
      else none
    | _ => none)
def evEs (C : Cfg) : Es → SD → Option (List Opd × SD)
  | .nil, sd => some ([], sd)
  | .cons e es, sd => (evE C e sd).bind fun x => (evEs C es x.2).map fun y => (x.1 :: y.1, y.2)
def evEo (C : Cfg) : Eo → SD → Option (Option Int × SD)
  | .none, sd => some (none, sd)
  | .some e, sd => (evE C e sd).bind fun x => (partO x.2 x.1).map fun i => (some i, x.2)
def evCs (C : Cfg) : Es → SD → Option (Bool × SD)
  | .nil, sd => some (true, sd)
  | .cons e es, sd => (evE C e sd).bind fun x => (boolO x.1).bind fun b => if b then evCs C es x.2 else some (false, x.2)
def evIt (C : Cfg) : It → SD → Option (List (List D) × List (Opd × List D) × SD)
  | .seq e, sd => (evE C e sd).bind fun x => (force x.2 x.1).bind fun d => (itemsD d).map fun r => (rows1 r, [(x.1, r)], x.2)
  | .rng es, sd => (evEs C es sd).bind fun x => (forceL x.2 x.1).bind fun ds => (rngD ds).map fun r => (rows1 r, [], x.2)
  | .enu e, sd => (evE C e sd).bind fun x => (force x.2 x.1).bind fun d => (enumD d).map fun r => (enumL 0 r, [(x.1, r)], x.2)
  | .zip a b, sd => (evE C a sd).bind fun x => (evE C b x.2).bind fun y => (force y.2 x.1).bind fun d => (force y.2 y.1).bind fun e => (zipD x.1 y.1 d e).map fun q =>
      (zipL q.1 q.2, [(x.1, q.1), (y.1, q.2)], y.2)
  | .rev e, sd => (evE C e sd).bind fun x => (force x.2 x.1).bind fun d => (enumD d).map fun r => (rows1 r.reverse, [(x.1, r)], x.2)
  | .rrng es, sd => (evEs C es sd).bind fun x => (forceL x.2 x.1).bind fun ds => (rrD ds).map fun r => (rows1 r.reverse, [], x.2)
  | .items _, _ => none
  | .kys ks, sd => some (rows1 (ks.map kyD), [], sd)
end
def evT (C : Cfg) (e : E) (sd : SD) : Option (Bool × SD) := (evE C e sd).bind fun x => (boolO x.1).map fun b => (b, x.2)

def psetE (np : Nat) : List (Nat × Bool) → List Opd → SD → Option SD
  | [], [], sd => some sd
  | (i, m) :: ts, o :: os, sd => if decide (i < np) && mutAt sd i then none else (match m with
    | true => (match o with
      | .new xs => psetE np ts os (sd.set i (.ml xs))
      | _ => none)
    | false => (strict o).bind fun d => psetE np ts os (sd.set i (.v d)))
  | _, _, _ => none
mutual
def evS (C : Cfg) : S → SD → Option (Fl × SD)
  | .set tg e, sd => (evE C e sd).bind fun x => (strict x.1).bind fun d => (assignT C.np tg d x.2).map fun s => (.next, s)
  | .setm i e, sd => (evE C e sd).bind fun x => (match x.1 with
    | .new xs => if decide (i < C.np) && mutAt x.2 i then none else some (.next, x.2.set i (.ml xs))
    | .newd kvs => if decide (i < C.np) && mutAt x.2 i then none else some (.next, x.2.set i (.mk kvs))
    | _ => none)
  | .pset ts es, sd => (evEs C es sd).bind fun x => (psetE C.np ts x.1 x.2).map fun s => (.next, s)
  | .sti i k e, sd => (evE C e sd).bind fun x => if mutAt x.2 i then (evE C k x.2).bind fun y => (strict x.1).bind fun d => (force y.2 y.1).bind fun kk => (stiE i kk d y.2).map fun s => (.next, s) else none
  | .sti2 i k j l a b, sd => (evE C a sd).bind fun x => (evE C b x.2).bind fun y => (valO x.1).bind fun d => (valO y.1).bind fun e =>
      if mutAt y.2 i then (evE C k y.2).bind fun z => (force z.2 z.1).bind fun kk => (stiE i kk d z.2).bind fun s =>
        if mutAt s j then (evE C l s).bind fun w => (force w.2 w.1).bind fun ll => (stiE j ll e w.2).map fun s' => (.next, s') else none
      else none
  | .aug i o e, sd => (match sd[i]? with
    | some (.v x) => (evE C e sd).bind fun y => (match x, y.1 with
      | .int a, .val (.int b) => (match o with
        | .add => (putV C.np i (.int (a + b)) y.2).map fun s => (.next, s)
        | .sub => (putV C.np i (.int (a - b)) y.2).map fun s => (.next, s)
        | _ => none)
      | _, _ => none)
    | _ => none)
  | .ex e, sd => (evE C e sd).map fun x => (.next, x.2)
  | .ret e, sd => (evE C e sd).bind fun x => (match x.1 with
    | .slot _ => none
    | o => some (.ret o, x.2))
  | .retn, sd => some (.ret (.val .non), sd)
  | .ife c a b, sd => (evE C c sd).bind fun x => (boolO x.1).bind fun t => if t then evSs C a x.2 else evSs C b x.2
  | .for_ tg it b, sd => (evIt C it sd).bind fun w => if noSlot w.2.1 then loopI (asgR C.np tg) (evSs C b) w.1 w.2.2 else none
  | .whl c b, sd => loopW (fun s => (evE C c s).bind fun x => (boolO x.1).map fun t => (t, x.2)) (evSs C b) C.fu sd
  | .brk, sd => some (.brk, sd)
  | .cont, sd => some (.cont, sd)
  | .pass, sd => some (.next, sd)
  | .any, _ => none
def evSs (C : Cfg) : Ss → SD → Option (Fl × SD)
  | .nil, sd => some (.next, sd)
  | .cons s r, sd => (evS C s sd).bind fun x => match x.1 with
    | .next => evSs C r x.2
    | f => some (f, x.2)
end

/-! ### defs -/
structure Fn where
  np : Nat
  mps : List Bool
  n : Nat
  fu : Nat
  body : Ss
/-- the changed parameters behind a call -/
def outs : List Bool → SD → List Sl
  | true :: ms, s :: sd => s :: outs ms sd
  | false :: ms, _ :: sd => outs ms sd
  | _, _ => []
def argsFit : List Bool → List Sl → Bool
  | [], [] => true
  | m :: ms, s :: ss => (match s with
    | .none => false
    | s => isMut s == m) && argsFit ms ss
  | _, _ => false
def mpsOf (P : Nat → Option Fn) (f : Nat) : List Bool := match P f with
  | some fn => fn.mps
  | none => []
def evF (P : Nat → Option Fn) (gl : Nat → D) : Nat → Nat → List Sl → Option (Opd × List Sl)
  | 0, _, _ => none
  | k + 1, f, as => match P f with
    | none => none
    | some fn => if argsFit fn.mps as && decide (fn.np = fn.mps.length) then
        match evSs ⟨evF P gl k, mpsOf P, gl, fn.np, fn.fu⟩ fn.body (as ++ List.replicate (fn.n - fn.np) .none) with
        | some (.ret o, sd) => (match o with
          | .slot _ => none
          | o => some (o, outs fn.mps sd))
        | some (.next, sd) => some (.val .non, outs fn.mps sd)
        | _ => none
      else none
/-! ### keys of one kind -/
def smpL (ks : List Ky) : Bool := ks.all fun k => k.isT == false
def allT (ks : List Ky) : Bool := ks.all Ky.isT
theorem okK_smp {ks : List Ky} {k : Ky} (h : k.isT = false) : okK ks k = smpL ks := by unfold okK smpL; rw [h]
theorem okK_t {ks : List Ky} {k : Ky} (h : k.isT = true) : okK ks k = allT ks := by
  unfold okK allT
  rw [h]
  congr 1
  funext x
  cases x.isT <;> rfl
end Ev

set_option linter.all false
set_option autoImplicit false
set_option Elab.async false
set_option maxRecDepth 100000
set_option maxHeartbeats 4000000
/-! EvB0: what is known beside the heap: the written part and the world. -/
namespace Ev
open PySem PySem.Spec L2
structure KW where
  f : PySem.W.Frag
  w : World
abbrev kwX (X : Cx) : KW := ⟨X.K, X.w⟩
/-- a text of the model -/
def chS (cs : List Char) : Str := ⟨(cs.map Char.toNat).toArray⟩
def kyK : Ky → L2.Key
  | .i n => .inl n
  | .s cs => .inr (chS cs)
  | .t _ => .inl 0

def kyP : Ky → PyData
  | .i n => .int n
  | .s cs => .str (chS cs)
  | .t _ => .none
/-- a tuple that is known to the object: it has no dict of its own -/
def SqP (K : KW) (H : Hp) (a : Addr) (xs : List V) : Prop :=
  (∃ o, H a = some (.frz o (.tup xs)) ∧ o.dict = none) ∨
    ∃ (o : Obj) (its : Array Value) (n : Nat), K.f.lookup a = some o ∧ o.cls = .type "tuple" ∧ o.dict = none ∧ o.data = .seq its n ∧ its.size ≤ sizeLine ∧ Vals xs its.toList
theorem SqP.t {K : KW} {H : Hp} {a : Addr} {xs : List V} (h : SqP K H a xs) : SqT K.f H a xs := by
  rcases h with ⟨o, h, _⟩ | ⟨o, its, n, h1, h2, h3, h4, h5, h6⟩
  · exact .inl (.inr ⟨o, h⟩)
  · exact .inr ⟨o, its, n, h1, h2, h4, h5, h6⟩
/-- the script's list: nobody can change it -/
def ScrP (K : KW) (H : Hp) (a : Addr) (xs : List V) : Prop :=
  (∃ o, H a = some (.frz o (.lst xs))) ∨
    ∃ (o : Obj) (its : Array Value) (n : Nat), K.f.lookup a = some o ∧ o.cls = .type "list" ∧ o.dict = none ∧ o.data = .seq its n ∧ its.size ≤ sizeLine ∧ Vals xs its.toList
theorem ScrP.l {K : KW} {H : Hp} {a : Addr} {xs : List V} (h : ScrP K H a xs) : SqL K.f H a xs := by
  rcases h with h | h
  · exact .inl (.inr h)
  · exact .inr h

/-! ### data as keys of the model -/
mutual
def nkD : D → NestedKey
  | .int i => .num i
  | .str s => .text (chS s)
  | .tup xs => .tup (nkL xs)
  | _ => .none
def nkL : List D → List NestedKey
  | [] => []
  | x :: xs => nkD x :: nkL xs
end
mutual
theorem ky_kok : ∀ k : Ky, D.kok (kyD k) = true
  | .i _ => rfl
  | .s _ => rfl
  | .t xs => by rw [kyD, D.kok]; exact ky_kokL xs
theorem ky_kokL : ∀ ks : List Ky, D.kokL (kyDL ks) = true
  | [] => rfl
  | k :: ks => by rw [kyDL, D.kokL, ky_kok k, ky_kokL ks]; rfl
end
mutual
theorem kyOf_D : ∀ (d : D) (k : Ky), kyOf d = some k → kyD k = d
  | .int i, k, h => by simp only [kyOf] at h; cases h; rfl
  | .str s, k, h => by simp only [kyOf] at h; cases h; rfl
  | .tup xs, k, h => by
    rw [kyOf] at h
    split at h
    · obtain ⟨ks, h1, rfl⟩ := Option.map_eq_some_iff.mp h
      rw [kyD, kyOf_DL xs ks h1]
    · cases h
  | .non, _, h => by simp [kyOf] at h
  | .bl _, _, h => by simp [kyOf] at h
  | .lst _, _, h => by simp [kyOf] at h
  | .dk _ _, _, h => by simp [kyOf] at h
  | .scr _, _, h => by simp [kyOf] at h
  | .rp _, _, h => by simp [kyOf] at h
theorem kyOf_DL : ∀ (ds : List D) (ks : List Ky), kyOfL ds = some ks → kyDL ks = ds
  | [], ks, h => by simp only [kyOfL] at h; cases h; rfl
  | d :: ds, ks, h => by
    rw [kyOfL] at h
    obtain ⟨k, h1, h⟩ := Option.bind_eq_some_iff.mp h
    obtain ⟨r, h2, rfl⟩ := Option.map_eq_some_iff.mp h
    rw [kyDL, kyOf_D d k h1, kyOf_DL ds r h2]
end
mutual
theorem kyD_inj : ∀ a b : Ky, kyD a = kyD b → a = b
  | .i m, b, h => by cases b <;> simp [kyD] at h; rw [h]
  | .s m, b, h => by cases b <;> simp [kyD] at h; rw [h]
  | .t m, b, h => by cases b <;> simp [kyD] at h; rw [kyDL_inj _ _ h]
theorem kyDL_inj : ∀ a b : List Ky, kyDL a = kyDL b → a = b
  | [], b, h => by cases b <;> simp [kyDL] at h; rfl
  | x :: xs, b, h => by
    cases b with
    | nil => simp [kyDL] at h
    | cons y ys =>
      simp only [kyDL, List.cons.injEq] at h
      rw [kyD_inj x y h.1, kyDL_inj xs ys h.2]
end
theorem chS_inj0 {x y : List Char} (h : chS x = chS y) : x = y := by
  have h : (x.map Char.toNat) = y.map Char.toNat := by
    have := congrArg (fun s : Str => s) h
    simpa [chS] using this
  induction x generalizing y with
  | nil => cases y <;> simp at h ⊢
  | cons a x ih =>
    cases y with
    | nil => simp at h
    | cons b y =>
      simp only [List.map_cons, List.cons.injEq] at h
      rw [ih (by unfold chS; rw [h.2]) h.2, Char.toNat_inj.mp h.1]
mutual
theorem nkY_inj : ∀ a b : Ky, nkD (kyD a) = nkD (kyD b) → a = b
  | .i m, b, h => by cases b <;> simp [kyD, nkD] at h; rw [h]
  | .s m, b, h => by cases b <;> simp [kyD, nkD] at h; rw [chS_inj0 h]
  | .t m, b, h => by cases b <;> simp [kyD, nkD] at h; rw [nkYL_inj _ _ h]
theorem nkYL_inj : ∀ a b : List Ky, nkL (kyDL a) = nkL (kyDL b) → a = b
  | [], b, h => by cases b <;> simp [kyDL, nkL] at h; rfl
  | x :: xs, b, h => by
    cases b with
    | nil => simp [kyDL, nkL] at h
    | cons y ys =>
      simp only [kyDL, nkL, List.cons.injEq] at h
      rw [nkY_inj x y h.1, nkYL_inj xs ys h.2]
end

/-! ### dicts: of simple keys, of tuples -/
/-- a key as it stands in a dict -/
inductive KX where
  | k (k : L2.Key) | t (n : NestedKey) (b : Addr)
def kxV : KX → V
  | .k k => kV k
  | .t _ b => .ref b
/-- the entries, where all keys are simple -/
def plainX : List (KX × V) → Option (List (L2.Key × V))
  | [] => some []
  | (.k k, v) :: r => (plainX r).map fun l => (k, v) :: l
  | (.t _ _, _) :: _ => none
abbrev EntR (es : List (KX × V)) (xs : List (NestedKey × Addr × Value)) : Prop := Paired (fun (p : KX × V) (q : NestedKey × Addr × Value) => p.1 = KX.t q.1 q.2.1 ∧ RelV p.2 q.2.2) es xs
/-- a dict of tuples -/
def tO (w : World) (a : Addr) (es : List (KX × V)) : HO := .ext fun h => es.length ≤ sizeLine ∧ (a == sysModules) = false ∧ ∃ xs, EntR es xs ∧
  ∃ o es' ep, h.get? a = some o ∧ o.ExactDict ∧ o.data = .dict es' ep ∧ es'.toList = xs.map (fun x => ⟨x.1.hash w, .ref x.2.1, x.2.2⟩) ∧ (xs.map (·.1)).Nodup
def dO (w : World) (a : Addr) (es : List (KX × V)) : HO := match plainX es with
  | some l => .dK l
  | none => tO w a es
theorem tO_ok {P : Program} {w : World} {H : Hp} {h : Heap} {a : Addr} {es : List (KX × V)} {xs : List (NestedKey × Addr × Value)} (z : es.length ≤ sizeLine) (y : (a == sysModules) = false) (r : EntR es xs) {o : Obj} {es' : Array DictEntry} {ep : Nat} (h1 : h.get? a = some o) (h2 : o.ExactDict) (h3 : o.data = .dict es' ep)
    (h4 : es'.toList = xs.map (fun x => ⟨x.1.hash w, .ref x.2.1, x.2.2⟩)) (h5 : (xs.map (·.1)).Nodup) : ObjOk P w H h a (tO w a es) :=
  ⟨⟨z, y, xs, r, o, es', ep, h1, h2, h3, h4, h5⟩, ⟨o, h1⟩, fun g1 g2 ⟨z, y, xs, r, o, es', ep, h1, h2, h3, h4, h5⟩ k => ⟨z, y, xs, r, o, es', ep, k _ h1, h2, h3, h4, h5⟩⟩
theorem dO_ne_tup {w : World} {a : Addr} {es : List (KX × V)} {xs : List V} : dO w a es ≠ .tup xs := by
  unfold dO
  split
  · exact fun e => by cases e
  · exact fun e => by cases e
theorem dO_ne_frz {w : World} {a : Addr} {es : List (KX × V)} {o : Obj} {u : HO} : dO w a es ≠ .frz o u := by
  unfold dO
  split
  · exact fun e => by cases e
  · exact fun e => by cases e
theorem dO_ne_lst {w : World} {a : Addr} {es : List (KX × V)} {xs : List V} : dO w a es ≠ .lst xs := by
  unfold dO
  split
  · exact fun e => by cases e
  · exact fun e => by cases e
theorem dO_mut {w : World} {a : Addr} {es : List (KX × V)} : Mut (some (dO w a es)) := by
  unfold dO
  split
  · exact True.intro
  · exact True.intro
/-- the entries of simple keys -/
theorem plainX_map : ∀ {es : List (KX × V)} {l : List (L2.Key × V)}, plainX es = some l → es = l.map fun p => (KX.k p.1, p.2)
  | [], l, h => by simp only [plainX] at h; cases h; rfl
  | (.k k, v) :: r, l, h => by
    simp only [plainX] at h
    obtain ⟨l', h1, rfl⟩ := Option.map_eq_some_iff.mp h
    rw [plainX_map h1]; rfl
  | (.t n b, v) :: r, l, h => by simp [plainX] at h
theorem plainX_of : ∀ (l : List (L2.Key × V)), plainX (l.map fun p => (KX.k p.1, p.2)) = some l
  | [] => rfl
  | (k, v) :: r => by simp only [List.map_cons, plainX, plainX_of r, Option.map_some]
section
variable (K : KW) (H : Hp)
mutual
def RepY : Ky → V → Prop
  | .i n, v => v = .int n
  | .s s, v => v = .str (chS s)
  | .t xs, v => ∃ a vs, v = .ref a ∧ SqP K H a vs ∧ RepYL xs vs
def RepYL : List Ky → List V → Prop
  | [], vs => vs = []
  | k :: ks, vs => ∃ v r, vs = v :: r ∧ RepY k v ∧ RepYL ks r
end
def KyR : Ky → KX → Prop
  | .i n, x => x = .k (.inl n)
  | .s s, x => x = .k (.inr (chS s))
  | .t xs, x => ∃ b, x = .t (nkD (kyD (.t xs))) b ∧ RepY K H (.t xs) (.ref b) ∧ D.shp (kyD (.t xs)) 8 = true
def KysR : List Ky → List KX → Prop
  | [], xs => xs = []
  | k :: ks, xs => ∃ x r, xs = x :: r ∧ KyR K H k x ∧ KysR ks r
end
end Ev

set_option linter.all false
set_option autoImplicit false
set_option Elab.async false
set_option maxRecDepth 100000
set_option maxHeartbeats 4000000
/-! EvB: how data and slots stand in the abstract heap. -/
namespace Ev
open PySem PySem.Spec L2

mutual
def pyD : D → PyData
  | .non => .none
  | .bl b => .bool b
  | .int i => .int i
  | .str s => .str (chS s)
  | .tup xs => .tuple (pyL xs)
  | .lst xs => .list (pyL xs)
  | .dk ks vs => .dict (pyV vs ks)
  | .scr _ => .dict []
  | .rp _ => .dict []
def pyL : List D → List PyData
  | [] => []
  | x :: xs => pyD x :: pyL xs
def pyV : List D → List Ky → List (PyData × PyData)
  | [], _ => []
  | x :: xs, ks => match ks with
    | [] => []
    | k :: ks => (kyP k, pyD x) :: pyV xs ks
end

section
variable (K : KW) (Fz : Addr → Prop) (H : Hp)
mutual
def Rep : D → V → Prop
  | .non, v => v = .non
  | .bl b, v => v = .bl b
  | .int i, v => v = .int i
  | .str s, v => v = .str (chS s)
  | .tup ds, v => ∃ a vs, v = .ref a ∧ SqP K H a vs ∧ RepL ds vs
  | .lst ds, v => ∃ a vs, v = .ref a ∧ Fz a ∧ H a = some (.lst vs) ∧ RepL ds vs
  | .dk ks ds, v => ∃ a es, v = .ref a ∧ Fz a ∧ Rd H a (dO K.w a es) ∧ KysR K H ks (es.map (·.1)) ∧ RepL ds (es.map (·.2))
  | .scr ns, v => ∃ a, v = .ref a ∧ ScrP K H a (ns.map V.int)
  | .rp d, v => v = .str (pyD d).shown
def RepL : List D → List V → Prop
  | [], vs => vs = []
  | d :: ds, vs => ∃ v r, vs = v :: r ∧ Rep d v ∧ RepL ds r
end
end

/-- what was known stays known -/
structure Keep (Fz : Addr → Prop) (H H' : Hp) : Prop where
  fz : ∀ a o, Fz a → H a = some o → H' a = some o
  tup : ∀ a xs, H a = some (.tup xs) → H' a = some (.tup xs)
  frz : ∀ a o u, H a = some (.frz o u) → H' a = some (.frz o u)
theorem Keep.refl {Fz : Addr → Prop} {H : Hp} : Keep Fz H H := ⟨fun _ _ _ h => h, fun _ _ h => h, fun _ _ _ h => h⟩
section
variable {K : KW} {Fz Fz' : Addr → Prop} {H H' : Hp}
theorem SqP_keep {a : Addr} {xs : List V} (k : Keep Fz H H') (h : SqP K H a xs) : SqP K H' a xs := by
  rcases h with ⟨o, h, d⟩ | h
  · exact .inl ⟨o, k.frz a o _ h, d⟩
  · exact .inr h
theorem SqL_keep {a : Addr} {xs : List V} (k : Keep Fz H H') (f : Fz a) (h : SqL K.f H a xs) : SqL K.f H' a xs := by
  rcases h with (h | ⟨o, h⟩) | h
  · exact .inl (.inl (k.fz a _ f h))
  · exact .inl (.inr ⟨o, k.frz a o _ h⟩)
  · exact .inr h
theorem ScrP_keep {a : Addr} {xs : List V} (k : Keep Fz H H') (h : ScrP K H a xs) : ScrP K H' a xs := by
  rcases h with ⟨o, h⟩ | h
  · exact .inl ⟨o, k.frz a o _ h⟩
  · exact .inr h
theorem Keep.rd {a : Addr} {u : HO} (k : Keep Fz H H') (f : Fz a) (h : Rd H a u) : Rd H' a u := by
  rcases h with h | ⟨o, h⟩
  · exact .inl (k.fz a _ f h)
  · exact .inr ⟨o, k.frz a o _ h⟩
mutual
theorem RepY.keep (k : Keep Fz H H') : ∀ (y : Ky) (v : V), RepY K H y v → RepY K H' y v
  | .i n, v, h => by simpa only [RepY] using h
  | .s n, v, h => by simpa only [RepY] using h
  | .t xs, v, h => by
    simp only [RepY] at h ⊢
    obtain ⟨a, vs, e, q, r⟩ := h
    exact ⟨a, vs, e, SqP_keep k q, RepYL.keep k xs vs r⟩
theorem RepYL.keep (k : Keep Fz H H') : ∀ (ys : List Ky) (vs : List V), RepYL K H ys vs → RepYL K H' ys vs
  | [], vs, h => by simpa only [RepYL] using h
  | y :: ys, vs, h => by
    simp only [RepYL] at h ⊢
    obtain ⟨v, r, e, h1, h2⟩ := h
    exact ⟨v, r, e, RepY.keep k y v h1, RepYL.keep k ys r h2⟩
end
theorem KyR.keep (k : Keep Fz H H') {y : Ky} {x : KX} (h : KyR K H y x) : KyR K H' y x := by
  cases y with
  | i n => exact h
  | s n => exact h
  | t xs =>
    obtain ⟨b, e, r, z⟩ := h
    exact ⟨b, e, r.keep k, z⟩
theorem KysR.keep (k : Keep Fz H H') : ∀ {ys : List Ky} {xs : List KX}, KysR K H ys xs → KysR K H' ys xs
  | [], xs, h => by simpa only [KysR] using h
  | y :: ys, xs, h => by
    simp only [KysR] at h ⊢
    obtain ⟨v, r, e, h1, h2⟩ := h
    exact ⟨v, r, e, h1.keep k, h2.keep k⟩
mutual
theorem Rep.keep (k : Keep Fz H H') (m : ∀ a, Fz a → Fz' a) : ∀ (d : D) (v : V), Rep K Fz H d v → Rep K Fz' H' d v
  | .non, v, h => by simpa only [Rep] using h
  | .bl b, v, h => by simpa only [Rep] using h
  | .int i, v, h => by simpa only [Rep] using h
  | .str s, v, h => by simpa only [Rep] using h
  | .tup ds, v, h => by
    simp only [Rep] at h ⊢
    obtain ⟨a, vs, e, q, r⟩ := h
    exact ⟨a, vs, e, SqP_keep k q, RepL.keep k m ds vs r⟩
  | .lst ds, v, h => by
    simp only [Rep] at h ⊢
    obtain ⟨a, vs, e, f, q, r⟩ := h
    exact ⟨a, vs, e, m a f, k.fz a _ f q, RepL.keep k m ds vs r⟩
  | .dk ks ds, v, h => by
    simp only [Rep] at h ⊢
    obtain ⟨a, es, e, f, q, z, r⟩ := h
    exact ⟨a, es, e, m a f, k.rd f q, z.keep k, RepL.keep k m ds _ r⟩
  | .scr ns, v, h => by
    simp only [Rep] at h ⊢
    obtain ⟨a, e, q⟩ := h
    exact ⟨a, e, ScrP_keep k q⟩
  | .rp d, v, h => by simpa only [Rep] using h
theorem RepL.keep (k : Keep Fz H H') (m : ∀ a, Fz a → Fz' a) : ∀ (ds : List D) (vs : List V), RepL K Fz H ds vs → RepL K Fz' H' ds vs
  | [], vs, h => by simpa only [RepL] using h
  | d :: ds, vs, h => by
    simp only [RepL] at h ⊢
    obtain ⟨v, r, e, h1, h2⟩ := h
    exact ⟨v, r, e, Rep.keep k m d v h1, RepL.keep k m ds r h2⟩
end
theorem repL_nil {vs : List V} : RepL K Fz H [] vs ↔ vs = [] := by simp only [RepL]
theorem repL_cons {d : D} {ds : List D} {v : V} {vs : List V} : RepL K Fz H (d :: ds) (v :: vs) ↔ Rep K Fz H d v ∧ RepL K Fz H ds vs := by
  simp only [RepL]
  constructor
  · rintro ⟨v', r, e, h1, h2⟩
    cases e
    exact ⟨h1, h2⟩
  · rintro ⟨h1, h2⟩
    exact ⟨v, vs, rfl, h1, h2⟩
theorem RepL.len : ∀ {ds : List D} {vs : List V}, RepL K Fz H ds vs → vs.length = ds.length
  | [], vs, h => by rw [repL_nil.mp h]; rfl
  | d :: ds, vs, h => by
    simp only [RepL] at h
    obtain ⟨v, r, e, _, h2⟩ := h
    subst e
    simp [RepL.len h2]
theorem RepL.get : ∀ {ds : List D} {vs : List V} {i : Nat} {d : D}, RepL K Fz H ds vs → ds[i]? = some d → ∃ v, vs[i]? = some v ∧ Rep K Fz H d v
  | [], _, _, _, _, e => by simp at e
  | d :: ds, vs, i, x, h, e => by
    simp only [RepL] at h
    obtain ⟨v, r, e1, h1, h2⟩ := h
    subst e1
    cases i with
    | zero => simp at e; subst e; exact ⟨v, rfl, h1⟩
    | succ i => simpa using RepL.get h2 (by simpa using e)
theorem RepL.append : ∀ {ds : List D} {vs : List V} {es : List D} {ws : List V}, RepL K Fz H ds vs → RepL K Fz H es ws → RepL K Fz H (ds ++ es) (vs ++ ws)
  | [], vs, es, ws, h, q => by rw [repL_nil.mp h]; exact q
  | d :: ds, vs, es, ws, h, q => by
    simp only [RepL] at h
    obtain ⟨v, r, e1, h1, h2⟩ := h
    subst e1
    exact repL_cons.mpr ⟨h1, RepL.append h2 q⟩
theorem RepL.one {d : D} {v : V} (h : Rep K Fz H d v) : RepL K Fz H [d] [v] := repL_cons.mpr ⟨h, repL_nil.mpr rfl⟩
theorem RepL.set : ∀ {ds : List D} {vs : List V} (i : Nat) {d : D} {v : V}, RepL K Fz H ds vs → Rep K Fz H d v → RepL K Fz H (ds.set i d) (vs.set i v)
  | [], vs, i, d, v, h, q => by rw [repL_nil.mp h]; exact repL_nil.mpr rfl
  | x :: ds, vs, i, d, v, h, q => by
    simp only [RepL] at h
    obtain ⟨v', r, e1, h1, h2⟩ := h
    subst e1
    cases i with
    | zero => exact repL_cons.mpr ⟨q, h2⟩
    | succ i => exact repL_cons.mpr ⟨h1, RepL.set i h2 q⟩
theorem RepL.take : ∀ {ds : List D} {vs : List V} (n : Nat), RepL K Fz H ds vs → RepL K Fz H (ds.take n) (vs.take n)
  | _, _, 0, _ => by simp [RepL]
  | [], vs, n + 1, h => by rw [repL_nil.mp h]; exact repL_nil.mpr rfl
  | x :: ds, vs, n + 1, h => by
    simp only [RepL] at h
    obtain ⟨v', r, e1, h1, h2⟩ := h
    subst e1
    exact repL_cons.mpr ⟨h1, RepL.take n h2⟩
theorem RepL.drop : ∀ {ds : List D} {vs : List V} (n : Nat), RepL K Fz H ds vs → RepL K Fz H (ds.drop n) (vs.drop n)
  | _, _, 0, h => h
  | [], vs, n + 1, h => by rw [repL_nil.mp h]; exact repL_nil.mpr rfl
  | x :: ds, vs, n + 1, h => by
    simp only [RepL] at h
    obtain ⟨v', r, e1, h1, h2⟩ := h
    subst e1
    exact RepL.drop n h2
theorem RepL.rev : ∀ {ds : List D} {vs : List V}, RepL K Fz H ds vs → RepL K Fz H ds.reverse vs.reverse
  | [], vs, h => by rw [repL_nil.mp h]; exact repL_nil.mpr rfl
  | x :: ds, vs, h => by
    simp only [RepL] at h
    obtain ⟨v', r, e1, h1, h2⟩ := h
    subst e1
    rw [List.reverse_cons, List.reverse_cons]
    exact RepL.append (RepL.rev h2) (RepL.one h1)
theorem RepL.eraseIdx : ∀ {ds : List D} {vs : List V} (i : Nat), RepL K Fz H ds vs → RepL K Fz H (ds.eraseIdx i) (vs.eraseIdx i)
  | [], vs, i, h => by rw [repL_nil.mp h]; exact repL_nil.mpr rfl
  | x :: ds, vs, i, h => by
    simp only [RepL] at h
    obtain ⟨v', r, e1, h1, h2⟩ := h
    subst e1
    cases i with
    | zero => exact h2
    | succ i => exact repL_cons.mpr ⟨h1, RepL.eraseIdx i h2⟩
theorem RepL.dropLast {ds : List D} {vs : List V} (h : RepL K Fz H ds vs) : RepL K Fz H ds.dropLast vs.dropLast := by
  rw [List.dropLast_eq_take, List.dropLast_eq_take, h.len]
  exact h.take _
theorem RepL.rep {ds : List D} {vs : List V} (h : RepL K Fz H ds vs) : ∀ n : Nat, RepL K Fz H (List.replicate n ds).flatten (List.replicate n vs).flatten
  | 0 => repL_nil.mpr rfl
  | n + 1 => by
    rw [List.replicate_succ, List.replicate_succ, List.flatten_cons, List.flatten_cons]
    exact h.append (RepL.rep h n)
theorem RepL.ofMap : ∀ (ns : List Int), RepL K Fz H (ns.map D.int) (ns.map V.int)
  | [] => repL_nil.mpr rfl
  | n :: ns => repL_cons.mpr ⟨by simp only [Rep], RepL.ofMap ns⟩
theorem RepL.ofInts : ∀ {ds : List D} {vs : List V} {ns : List Int}, RepL K Fz H ds vs → intsD ds = some ns → vs = ns.map V.int
  | [], vs, ns, h, e => by
    simp only [intsD] at e; cases e
    rw [repL_nil.mp h]; rfl
  | d :: ds, vs, ns, h, e => by
    simp only [RepL] at h
    obtain ⟨v', r, e1, h1, h2⟩ := h
    subst e1
    cases d <;> simp only [intsD] at e <;> try (cases e)
    rename_i i
    cases q : intsD ds with
    | none => rw [q] at e; cases e
    | some is =>
      rw [q] at e; cases e
      simp only [Rep] at h1
      subst h1
      rw [RepL.ofInts h2 q]; rfl
theorem RepL.ofBools : ∀ {ds : List D} {vs : List V} {ns : List Bool}, RepL K Fz H ds vs → boolsD ds = some ns → vs = ns.map V.bl
  | [], vs, ns, h, e => by
    simp only [boolsD] at e; cases e
    rw [repL_nil.mp h]; rfl
  | d :: ds, vs, ns, h, e => by
    simp only [RepL] at h
    obtain ⟨v', r, e1, h1, h2⟩ := h
    subst e1
    cases d <;> simp only [boolsD] at e <;> try (cases e)
    rename_i i
    cases q : boolsD ds with
    | none => rw [q] at e; cases e
    | some is =>
      rw [q] at e; cases e
      simp only [Rep] at h1
      subst h1
      rw [RepL.ofBools h2 q]; rfl
theorem RepL.ofStrs : ∀ {ds : List D} {vs : List V} {ns : List (List Char)}, RepL K Fz H ds vs → strsD ds = some ns → vs = ns.map fun s => V.str (chS s)
  | [], vs, ns, h, e => by
    simp only [strsD] at e; cases e
    rw [repL_nil.mp h]; rfl
  | d :: ds, vs, ns, h, e => by
    simp only [RepL] at h
    obtain ⟨v', r, e1, h1, h2⟩ := h
    subst e1
    cases d <;> simp only [strsD] at e <;> try (cases e)
    rename_i i
    cases q : strsD ds with
    | none => rw [q] at e; cases e
    | some is =>
      rw [q] at e; cases e
      simp only [Rep] at h1
      subst h1
      rw [RepL.ofStrs h2 q]; rfl
/-- the top may be anyone's, what is in it is nobody's -/
def RepF (K : KW) (Fz : Addr → Prop) (H : Hp) : D → V → Prop
  | .lst ds, v => ∃ a vs, v = .ref a ∧ H a = some (.lst vs) ∧ RepL K Fz H ds vs
  | .dk ks ds, v => ∃ a es, v = .ref a ∧ Rd H a (dO K.w a es) ∧ KysR K H ks (es.map (·.1)) ∧ RepL K Fz H ds (es.map (·.2))
  | d, v => Rep K Fz H d v
theorem Rep.f {d : D} {v : V} (h : Rep K Fz H d v) : RepF K Fz H d v := by
  cases d <;> simp only [RepF] <;> try exact h
  · simp only [Rep] at h
    obtain ⟨a, vs, e, _, q, r⟩ := h
    exact ⟨a, vs, e, q, r⟩
  · simp only [Rep] at h
    obtain ⟨a, vs, e, _, q, z, r⟩ := h
    exact ⟨a, vs, e, q, z, r⟩
/-! without lists and dicts it hangs on nothing -/
mutual
theorem Rep.pur {Fz2 : Addr → Prop} : ∀ (d : D) (v : V), D.pur d = true → Rep K Fz H d v → Rep K Fz2 H d v
  | .non, v, _, h => by simpa only [Rep] using h
  | .bl b, v, _, h => by simpa only [Rep] using h
  | .int i, v, _, h => by simpa only [Rep] using h
  | .str s, v, _, h => by simpa only [Rep] using h
  | .tup ds, v, p, h => by
    simp only [Rep] at h ⊢
    simp only [D.pur] at p
    obtain ⟨a, vs, e, q, r⟩ := h
    exact ⟨a, vs, e, q, RepL.pur ds vs p r⟩
  | .lst ds, v, p, h => by simp [D.pur] at p
  | .dk ks ds, v, p, h => by simp [D.pur] at p
  | .scr ns, v, p, h => by simp [D.pur] at p
  | .rp d, v, _, h => by simpa only [Rep] using h
theorem RepL.pur {Fz2 : Addr → Prop} : ∀ (ds : List D) (vs : List V), D.purL ds = true → RepL K Fz H ds vs → RepL K Fz2 H ds vs
  | [], vs, _, h => by simpa only [RepL] using h
  | d :: ds, vs, p, h => by
    simp only [RepL] at h ⊢
    simp only [D.purL, Bool.and_eq_true] at p
    obtain ⟨v, r, e, h1, h2⟩ := h
    exact ⟨v, r, e, Rep.pur d v p.1 h1, RepL.pur ds r p.2 h2⟩
end
end

/-! ### the frame's slots -/
structure Gc where
  K : KW
  He : Hp
  Fz0 : Addr → Prop
  mp : Nat → Option Addr
  np : Nat
/-- the objects that a slot may change -/
def Mu (sd : SD) (σ : St) (a : Addr) : Prop := ∃ i : Nat, mutAt sd i = true ∧ σ[i]? = some (some (.ref a))
structure SRel (g : Gc) (sd : SD) (σ : St) (H : Hp) (Fz : Addr → Prop) : Prop where
  len : sd.length = σ.length
  vals : ∀ (i : Nat) (d : D), sd[i]? = some (.v d) → ∃ v, σ[i]? = some (some v) ∧ Rep g.K Fz H d v
  mls : ∀ (i : Nat) (xs : List D), sd[i]? = some (.ml xs) → ∃ a vs, σ[i]? = some (some (.ref a)) ∧ H a = some (.lst vs) ∧ RepL g.K Fz H xs vs
  mks : ∀ (i : Nat) (kvs : List (Ky × D)), sd[i]? = some (.mk kvs) → ∃ a es, σ[i]? = some (some (.ref a)) ∧ H a = some (dO g.K.w a es) ∧ KysR g.K H (kvs.map (·.1)) (es.map (·.1)) ∧ RepL g.K Fz H (kvs.map (·.2)) (es.map (·.2))
  mown : ∀ (i : Nat) (a : Addr), mutAt sd i = true → σ[i]? = some (some (.ref a)) → ¬ Fz a ∧ (g.mp i = some a ∨ g.He a = none)
  inj : ∀ (i j : Nat) (a : Addr), mutAt sd i = true → mutAt sd j = true → σ[i]? = some (some (.ref a)) → σ[j]? = some (some (.ref a)) → i = j
  par : ∀ (i : Nat) (a : Addr), g.mp i = some a → i < g.np ∧ mutAt sd i = true ∧ σ[i]? = some (some (.ref a))
  fzb : ∀ a, Fz a → g.Fz0 a ∨ g.He a = none
  fz0 : ∀ a, g.Fz0 a → Fz a
  frame : ∀ a o, g.He a = some o → (∀ i, g.mp i ≠ some a) → H a = some o
  fzH : ∀ a, Fz a → ∃ o, H a = some o
structure Ext (sd : SD) (σ : St) (H : Hp) (Fz : Addr → Prop) (sd' : SD) (H' : Hp) (Fz' : Addr → Prop) : Prop where
  keep : ∀ a o, H a = some o → ¬ Mu sd σ a → H' a = some o
  there : ∀ a, H a ≠ none → H' a ≠ none
  fz : ∀ a, Fz a → Fz' a
  fzn : ∀ a, Fz' a → Fz a ∨ H a = none ∨ Mu sd σ a
  mu : ∀ a, Mu sd' σ a → Mu sd σ a
section
variable {g : Gc} {sd sd' sd1 sd2 : SD} {σ : St} {H H' H1 H2 : Hp} {Fz Fz' Fz1 Fz2 : Addr → Prop}
theorem mutAt_ml {i : Nat} {xs : List D} (h : sd[i]? = some (.ml xs)) : mutAt sd i = true := by simp [mutAt, h, isMut]
theorem mutAt_mk {i : Nat} {kvs : List (Ky × D)} (h : sd[i]? = some (.mk kvs)) : mutAt sd i = true := by simp [mutAt, h, isMut]
theorem mutAt_cases {i : Nat} (h : mutAt sd i = true) : (∃ xs, sd[i]? = some (.ml xs)) ∨ ∃ kvs, sd[i]? = some (.mk kvs) := by
  unfold mutAt at h
  cases e : sd[i]? with
  | none => rw [e] at h; cases h
  | some s =>
    rw [e] at h
    cases s with
    | none => cases h
    | v d => cases h
    | ml xs => exact .inl ⟨xs, rfl⟩
    | mk kvs => exact .inr ⟨kvs, rfl⟩
theorem SRel.mu_obj (S : SRel g sd σ H Fz) {a : Addr} (m : Mu sd σ a) : (∃ vs, H a = some (.lst vs)) ∨ ∃ es, H a = some (dO g.K.w a es) := by
  obtain ⟨i, m, e⟩ := m
  rcases mutAt_cases m with ⟨xs, q⟩ | ⟨kvs, q⟩
  · obtain ⟨b, vs, e1, e2, _⟩ := S.mls i xs q
    rw [e] at e1; cases e1
    exact .inl ⟨vs, e2⟩
  · obtain ⟨b, es, e1, e2, _⟩ := S.mks i kvs q
    rw [e] at e1; cases e1
    exact .inr ⟨es, e2⟩
theorem SRel.mu_nfz (S : SRel g sd σ H Fz) {a : Addr} (m : Mu sd σ a) : ¬ Fz a := by
  obtain ⟨i, m, e⟩ := m
  exact (S.mown i a m e).1
theorem Ext.refl : Ext sd σ H Fz sd H Fz := ⟨fun _ _ h _ => h, fun _ h => h, fun _ h => h, fun _ h => .inl h, fun _ h => h⟩
theorem Ext.trans (e1 : Ext sd σ H Fz sd1 H1 Fz1) (e2 : Ext sd1 σ H1 Fz1 sd2 H2 Fz2) : Ext sd σ H Fz sd2 H2 Fz2 := by
  refine ⟨fun a o h m => e2.keep a o (e1.keep a o h m) fun z => m (e1.mu a z), fun a h => e2.there a (e1.there a h), fun a h => e2.fz a (e1.fz a h), fun a h => ?_, fun a h => e1.mu a (e2.mu a h)⟩
  rcases e2.fzn a h with h | h | h
  · exact e1.fzn a h
  · cases q : H a with
    | none => exact .inr (.inl rfl)
    | some o => exact absurd h (e1.there a (by rw [q]; exact Option.some_ne_none o))
  · exact .inr (.inr (e1.mu a h))
theorem Ext.keeps (S : SRel g sd σ H Fz) (x : Ext sd σ H Fz sd' H' Fz') : Keep Fz H H' := by
  refine ⟨fun a o f h => x.keep a o h fun m => S.mu_nfz m f, fun a xs h => x.keep a _ h fun m => ?_, fun a o u h => x.keep a _ h fun m => ?_⟩
  · rcases S.mu_obj m with ⟨vs, q⟩ | ⟨es, q⟩
    · rw [h] at q; cases q
    · rw [h] at q; exact dO_ne_tup (Option.some.inj q).symm
  · rcases S.mu_obj m with ⟨vs, q⟩ | ⟨es, q⟩
    · rw [h] at q; cases q
    · rw [h] at q; exact dO_ne_frz (Option.some.inj q).symm
theorem SRel.newHe (S : SRel g sd σ H Fz) {a : Addr} (h : H a = none) : g.He a = none := by
  cases q : g.He a with
  | none => rfl
  | some o =>
    by_cases p : ∀ i, g.mp i ≠ some a
    · have := S.frame a o q p
      rw [h] at this; cases this
    · obtain ⟨i, p⟩ := Classical.not_forall.mp p
      have p : g.mp i = some a := Classical.not_not.mp p
      obtain ⟨_, m, e⟩ := S.par i a p
      rcases S.mu_obj ⟨i, m, e⟩ with ⟨vs, z⟩ | ⟨es, z⟩ <;> (rw [h] at z; cases z)
/-- the heap grows alone: nothing that stood is changed -/
def Grow (H H' : Hp) : Prop := ∀ a o, H a = some o → H' a = some o
theorem Grow.refl {H : Hp} : Grow H H := fun _ _ h => h
theorem Grow.trans {H H1 H2 : Hp} (a : Grow H H1) (b : Grow H1 H2) : Grow H H2 := fun x o h => b x o (a x o h)
theorem Grow.upd {H : Hp} {p : Addr} {o : HO} (h : H p = none) : Grow H (upd H p o) := fun a u e => by rw [upd_ne (ne_of_none e h)]; exact e
theorem Grow.keep {H H' : Hp} (gr : Grow H H') : Keep Fz H H' := ⟨fun a o _ h => gr a o h, fun a _ h => gr a _ h, fun a _ _ h => gr a _ h⟩
theorem Grow.ext (gr : Grow H H') : Ext sd σ H Fz sd H' Fz := ⟨fun a o h _ => gr a o h, fun a h => by
  cases q : H a with
  | none => exact absurd q h
  | some o => rw [gr a o q]; exact Option.some_ne_none o, fun _ h => h, fun _ h => .inl h, fun _ h => h⟩
theorem SRel.grow (S : SRel g sd σ H Fz) (gr : Grow H H') : SRel g sd σ H' Fz := by
  have k : Keep Fz H H' := gr.keep
  refine ⟨S.len, fun i d h => ?_, fun i xs h => ?_, fun i kvs h => ?_, S.mown, S.inj, S.par, S.fzb, S.fz0, fun a o h p => gr a o (S.frame a o h p), fun a f => ?_⟩
  · obtain ⟨v, e, r⟩ := S.vals i d h
    exact ⟨v, e, Rep.keep k (fun _ z => z) d v r⟩
  · obtain ⟨a, vs, e, q, r⟩ := S.mls i xs h
    exact ⟨a, vs, e, gr a _ q, RepL.keep k (fun _ z => z) xs vs r⟩
  · obtain ⟨a, es, e, q, z, r⟩ := S.mks i kvs h
    exact ⟨a, es, e, gr a _ q, z.keep k, RepL.keep k (fun _ z => z) _ _ r⟩
  · obtain ⟨o, q⟩ := S.fzH a f
    exact ⟨o, gr a o q⟩
/-- a list or dict that no slot has is given up -/
theorem SRel.freeze (S : SRel g sd σ H Fz) {a : Addr} (hn : g.He a = none) (hm : ¬ Mu sd σ a) (ho : ∃ o, H a = some o) : SRel g sd σ H (fun b => Fz b ∨ b = a) := by
  have k : Keep Fz H H := Keep.refl
  have m : ∀ b, Fz b → Fz b ∨ b = a := fun b h => .inl h
  refine ⟨S.len, fun i d h => ?_, fun i xs h => ?_, fun i kvs h => ?_, fun i b hb e => ?_, S.inj, S.par, fun b h => ?_, fun b h => .inl (S.fz0 b h), S.frame, fun b h => ?_⟩
  · obtain ⟨v, e, r⟩ := S.vals i d h
    exact ⟨v, e, Rep.keep k m d v r⟩
  · obtain ⟨b, vs, e, q, r⟩ := S.mls i xs h
    exact ⟨b, vs, e, q, RepL.keep k m xs vs r⟩
  · obtain ⟨b, es, e, q, z, r⟩ := S.mks i kvs h
    exact ⟨b, es, e, q, z.keep k, RepL.keep k m _ _ r⟩
  · obtain ⟨h1, h2⟩ := S.mown i b hb e
    exact ⟨fun z => z.elim h1 fun z => hm ⟨i, hb, by rw [← z]; exact e⟩, h2⟩
  · rcases h with h | h
    · exact S.fzb b h
    · subst h; exact .inr hn
  · rcases h with h | h
    · exact S.fzH b h
    · subst h; exact ho
end
end Ev

set_option linter.all false
set_option autoImplicit false
set_option Elab.async false
set_option maxRecDepth 100000
set_option maxHeartbeats 4000000
/-! EvB1: dicts whose keys are tuples. -/
namespace Ev
open PySem PySem.Spec L2 PyProof.Rows
section
variable {K : KW} {Fz : Addr → Prop} {H : Hp}
mutual
theorem rep_Y : ∀ (k : Ky) (v : V), Rep K Fz H (kyD k) v ↔ RepY K H k v
  | .i n, v => by simp only [kyD, Rep, RepY]
  | .s n, v => by simp only [kyD, Rep, RepY]
  | .t xs, v => by
    simp only [kyD, Rep, RepY, rep_YL xs]
theorem rep_YL : ∀ (ks : List Ky) (vs : List V), RepL K Fz H (kyDL ks) vs ↔ RepYL K H ks vs
  | [], vs => by simp only [kyDL, RepL, RepYL]
  | k :: ks, vs => by simp only [kyDL, RepL, RepYL, rep_Y k, rep_YL ks]
end
theorem KysR.len : ∀ {ks : List Ky} {xs : List KX}, KysR K H ks xs → xs.length = ks.length
  | [], xs, h => by simp only [KysR] at h; rw [h]; rfl
  | k :: ks, xs, h => by
    simp only [KysR] at h
    obtain ⟨x, r, rfl, _, h2⟩ := h
    simp [h2.len]
/-- the key of a dict as a datum -/
theorem KyR.rep {k : Ky} {x : KX} (h : KyR K H k x) : Rep K Fz H (kyD k) (kxV x) := by
  cases k with
  | i n => rw [show x = _ from h]; simp only [kyD, Rep]; rfl
  | s n => rw [show x = _ from h]; simp only [kyD, Rep]; rfl
  | t xs =>
    obtain ⟨b, rfl, r, _⟩ := h
    exact (rep_Y _ _).mpr r
theorem KysR.reps : ∀ {ks : List Ky} {xs : List KX}, KysR K H ks xs → RepL K Fz H (ks.map kyD) (xs.map kxV)
  | [], xs, h => by simp only [KysR] at h; rw [h]; exact repL_nil.mpr rfl
  | k :: ks, xs, h => by
    simp only [KysR] at h
    obtain ⟨x, r, rfl, h1, h2⟩ := h
    exact repL_cons.mpr ⟨h1.rep, h2.reps⟩
/-- simple keys -/
theorem KysR.smp : ∀ {ks : List Ky} {es : List (KX × V)}, KysR K H ks (es.map (·.1)) → smpL ks = true → ∃ l, plainX es = some l ∧ l.map (·.1) = ks.map kyK ∧ l.map (·.2) = es.map (·.2)
  | [], es, h, _ => by
    simp only [KysR, List.map_eq_nil_iff] at h
    subst h
    exact ⟨[], rfl, rfl, rfl⟩
  | k :: ks, es, h, hs => by
    simp only [smpL, List.all_cons, Bool.and_eq_true] at hs
    simp only [KysR] at h
    obtain ⟨x, r, e, h1, h2⟩ := h
    cases es with
    | nil => cases e
    | cons p es =>
      simp only [List.map_cons, List.cons.injEq] at e
      obtain ⟨e1, rfl⟩ := e
      obtain ⟨l, l1, l2, l3⟩ := KysR.smp h2 hs.2
      obtain ⟨p1, p2⟩ := p
      simp only at e1
      subst e1
      cases k with
      | t xs => simp [Ky.isT] at hs
      | i n =>
        rw [show p1 = KX.k (.inl n) from h1]
        exact ⟨(.inl n, p2) :: l, by simp only [plainX, l1, Option.map_some], by simp only [List.map_cons, l2, kyK], by simp only [List.map_cons, l3]⟩
      | s n =>
        rw [show p1 = KX.k (.inr (chS n)) from h1]
        exact ⟨(.inr (chS n), p2) :: l, by simp only [plainX, l1, Option.map_some], by simp only [List.map_cons, l2, kyK], by simp only [List.map_cons, l3]⟩
theorem KysR.ofK : ∀ {ks : List Ky} {l : List (L2.Key × V)}, l.map (·.1) = ks.map kyK → smpL ks = true → KysR K H ks ((l.map fun p => (KX.k p.1, p.2)).map (·.1))
  | [], l, h, _ => by
    simp only [List.map_nil, List.map_eq_nil_iff] at h
    subst h
    simp [KysR]
  | k :: ks, l, h, hs => by
    simp only [smpL, List.all_cons, Bool.and_eq_true] at hs
    cases l with
    | nil => cases h
    | cons p l =>
      simp only [List.map_cons, List.cons.injEq] at h
      obtain ⟨p1, p2⟩ := p
      simp only [List.map_cons, KysR]
      refine ⟨_, _, rfl, ?_, KysR.ofK h.2 hs.2⟩
      have e : p1 = kyK k := h.1
      subst e
      cases k with
      | t xs => simp [Ky.isT] at hs
      | i n => rfl
      | s n => rfl
theorem dO_k {w : World} {a : Addr} (l : List (L2.Key × V)) : dO w a (l.map fun p => (KX.k p.1, p.2)) = .dK l := by
  unfold dO
  rw [plainX_of]
theorem dO_smp {w : World} {a : Addr} {ks : List Ky} {es : List (KX × V)} (h : KysR K H ks (es.map (·.1))) (hs : smpL ks = true) : ∃ l, dO w a es = .dK l ∧ l.map (·.1) = ks.map kyK ∧ l.map (·.2) = es.map (·.2) ∧ es = l.map fun p => (KX.k p.1, p.2) := by
  obtain ⟨l, l1, l2, l3⟩ := h.smp hs
  exact ⟨l, by unfold dO; rw [l1], l2, l3, plainX_map l1⟩
theorem dO_t {w : World} {a : Addr} {k : Ky} {ks : List Ky} {es : List (KX × V)} (h : KysR K H (k :: ks) (es.map (·.1))) (ht : k.isT = true) : dO w a es = tO w a es := by
  simp only [KysR] at h
  obtain ⟨x, r, e, h1, h2⟩ := h
  cases es with
  | nil => cases e
  | cons p es =>
    simp only [List.map_cons, List.cons.injEq] at e
    obtain ⟨p1, p2⟩ := p
    cases k with
    | i n => cases ht
    | s n => cases ht
    | t xs =>
      obtain ⟨b, rfl, _⟩ := h1
      rw [show p1 = _ from e.1]
      simp only [dO, plainX]
end
/-! the keys in the heap -/
section
variable {X : Cx} {Fz : Addr → Prop} {pins : List (Addr × Obj)} {s : Shared} {σ : L2.St} {H : Hp}
mutual
theorem nk_isY (I : L2.Inv X pins σ H s) : ∀ (k : Ky) (x : V) (v : Value), RepY (kwX X) H k x → RelV x v → NestedIs s.heap (nkD (kyD k)) v
  | .i i, x, v, r, e => by simp only [RepY] at r; subst r; obtain ⟨t, rfl⟩ := e; exact .int i t
  | .s i, x, v, r, e => by simp only [RepY] at r; subst r; obtain ⟨t, rfl⟩ := e; exact .text _ t
  | .t ks, x, v, r, e => by
    simp only [RepY] at r
    obtain ⟨a, vs, rfl, q, r⟩ := r
    cases e
    obtain ⟨its, rv, ⟨o, ho, hc, n, hd⟩, _⟩ := I.tuple q.t
    simp only [kyD, nkD]
    exact .tup ho hc hd (by simpa using nk_isYL I ks vs its r rv)
theorem nk_isYL (I : L2.Inv X pins σ H s) : ∀ (ks : List Ky) (xs : List V) (vs : List Value), RepYL (kwX X) H ks xs → Vals xs vs → NestedAll s.heap (nkL (kyDL ks)) vs
  | [], xs, vs, r, e => by simp only [RepYL] at r; subst r; cases e; exact .nil
  | k :: ks, xs, vs, r, e => by
    simp only [RepYL] at r
    obtain ⟨x, xs', rfl, r1, r2⟩ := r
    cases e with
    | cons e1 e2 => exact .cons (nk_isY I k x _ r1 e1) (nk_isYL I ks xs' _ r2 e2)
end
mutual
theorem nk_dep0 : ∀ (d : D) (n : Nat), D.shp d n = true → (nkD d).depth ≤ n
  | .int i, n, _ => Nat.zero_le _
  | .str s, n, _ => Nat.zero_le _
  | .tup xs, n, h => by
    cases n with
    | zero => simp [D.shp] at h
    | succ n =>
      simp only [nkD, NestedKey.depth]
      exact Nat.succ_le_succ (nk_depL0 xs n (by simpa only [D.shp] using h))
  | .non, _, _ => Nat.zero_le _
  | .bl b, _, _ => Nat.zero_le _
  | .lst b, _, _ => Nat.zero_le _
  | .dk _ _, _, _ => Nat.zero_le _
  | .scr b, _, _ => Nat.zero_le _
  | .rp b, _, _ => Nat.zero_le _
theorem nk_depL0 : ∀ (ds : List D) (n : Nat), D.shpL ds n = true → NestedKey.depthAll (nkL ds) ≤ n
  | [], _, _ => Nat.zero_le _
  | d :: ds, n, h => by
    simp only [D.shpL, Bool.and_eq_true] at h
    simp only [nkL, NestedKey.depthAll]
    exact Nat.max_le.mpr ⟨nk_dep0 d n h.1, nk_depL0 ds n h.2⟩
end
/-- a key that is a tuple -/
structure TK (K : KW) (H : Hp) (k : Ky) (b : Addr) : Prop where
  t : k.isT = true
  r : RepY K H k (.ref b)
  d : D.shp (kyD k) 8 = true
theorem TK.is (I : L2.Inv X pins σ H s) {k : Ky} {b : Addr} (h : TK (kwX X) H k b) : (nestedKind X.prog X.w).is s.heap (nkD (kyD k)) b :=
  ⟨nk_isY I k _ _ h.r rfl, nk_dep0 _ 8 h.d⟩
theorem TK.of {K : KW} {k : Ky} {x : V} {d : D} (hk : kyOf d = some k) (ht : k.isT = true) (r : RepF K Fz H d x) : ∃ b, x = .ref b ∧ TK K H k b := by
  have e := kyOf_D d k hk
  cases k with
  | i n => cases ht
  | s n => cases ht
  | t xs =>
    subst e
    have r : Rep K Fz H (kyD (.t xs)) x := by simpa only [kyD, RepF] using r
    have r2 := (rep_Y (.t xs) x).mp r
    simp only [RepY] at r2
    obtain ⟨a, vs, rfl, q, r3⟩ := r2
    refine ⟨a, rfl, rfl, (rep_Y _ _).mp r, ?_⟩
    simp only [kyD, kyOf] at hk ⊢
    split at hk
    · assumption
    · cases hk
theorem KyR.tk {K : KW} {k : Ky} {x : KX} (h : KyR K H k x) (ht : k.isT = true) : ∃ b, x = .t (nkD (kyD k)) b ∧ TK K H k b := by
  cases k with
  | i n => cases ht
  | s n => cases ht
  | t xs =>
    obtain ⟨b, e, r, z⟩ := h
    exact ⟨b, e, rfl, r, z⟩
theorem TK.ky {K : KW} {k : Ky} {b : Addr} (h : TK K H k b) : KyR K H k (.t (nkD (kyD k)) b) := by
  have := h.t
  cases k with
  | i n => cases this
  | s n => cases this
  | t xs => exact ⟨b, rfl, h.r, h.d⟩
theorem ents_is (I : L2.Inv X pins σ H s) : ∀ {ks : List Ky} {es : List (KX × V)} {xs : List (NestedKey × Addr × Value)}, KysR (kwX X) H ks (es.map (·.1)) → EntR es xs → ∀ x ∈ xs, (nestedKind X.prog X.w).is s.heap x.1 x.2.1
  | ks, [], xs, _, r, x, hx => by cases r; cases hx
  | ks, p :: es, xs, k, r, x, hx => by
    cases r with
    | @cons _ q _ qs h t =>
      cases ks with
      | nil => simp [KysR] at k
      | cons y ks =>
        simp only [KysR, List.map_cons, List.cons.injEq] at k
        obtain ⟨z, r', ⟨e1, e2⟩, k1, k2⟩ := k
        subst e1 e2
        rcases List.mem_cons.mp hx with rfl | hx
        · cases y with
          | i n =>
            have e3 : p.1 = KX.k (.inl n) := k1
            rw [h.1] at e3; cases e3
          | s n =>
            have e3 : p.1 = KX.k (.inr (chS n)) := k1
            rw [h.1] at e3; cases e3
          | t ys =>
            obtain ⟨b, e3, r2, z2⟩ := k1
            rw [h.1] at e3
            injection e3 with e4 e5
            rw [e4, e5]
            exact TK.is I ⟨rfl, r2, z2⟩
        · exact ents_is I k2 t x hx
/-- a dict of tuples, maybe empty, in the heap -/
theorem tD_of (I : L2.Inv X pins σ H s) {a : Addr} {ks : List Ky} {es : List (KX × V)} (hr : Rd H a (dO X.w a es)) (kr : KysR (kwX X) H ks (es.map (·.1))) (ht : allT ks = true) :
    es.length ≤ sizeLine ∧ (a == sysModules) = false ∧ ∃ xs, EntR es xs ∧ s.heap.DictOfH (nestedKind X.prog X.w) a xs := by
  cases ks with
  | nil =>
    simp only [KysR, List.map_eq_nil_iff] at kr
    subst kr
    obtain ⟨z, y, vs, rel, o, es', ep, h1, h2, h3, h4, h5, h6⟩ := dk_rd I.hok (kvs := []) hr
    cases rel
    cases h5' : es'.toList with
    | nil => exact ⟨z, y, [], .nil, o, es', ep, h1, h2, h3, by rw [h5']; rfl, (fun x hx => nomatch hx), List.nodup_nil⟩
    | cons e r => rw [h5'] at h5; cases h5
  | cons k ks =>
    simp only [allT, List.all_cons, Bool.and_eq_true] at ht
    rw [dO_t kr ht.1] at hr
    obtain ⟨⟨z, y, xs, r, o, es', ep, h1, h2, h3, h4, h5⟩, _, _⟩ := (show ObjOk X.prog X.w H s.heap a (tO X.w a es) from hr.ok I.hok)
    exact ⟨z, y, xs, r, o, es', ep, h1, h2, h3, h4, ents_is I kr r, h5⟩
/-- a dict's object -/
theorem dO_obj (I : L2.Inv X pins σ H s) {a : Addr} {es : List (KX × V)} (hr : Rd H a (dO X.w a es)) : ∃ o es' ep, s.heap.get? a = some o ∧ o.ExactDict ∧ o.data = .dict es' ep := by
  unfold dO at hr
  split at hr
  · obtain ⟨_, _, vs, _, o, es', ep, h1, h2, h3, _⟩ := dk_rd I.hok hr
    exact ⟨o, es', ep, h1, h2, h3⟩
  · obtain ⟨⟨z, y, xs, r, o, es', ep, h1, h2, h3, h4, h5⟩, _, _⟩ := (show ObjOk X.prog X.w H s.heap a (tO X.w a es) from hr.ok I.hok)
    exact ⟨o, es', ep, h1, h2, h3⟩
/-- what stands at a key -/
theorem look_T {K : KW} {k : Ky} (hk : k.isT = true) : ∀ {ks : List Ky} {ds : List D} {es : List (KX × V)} {xs : List (NestedKey × Addr × Value)}, KysR K H ks (es.map (·.1)) → RepL K Fz H ds (es.map (·.2)) → EntR es xs → allT ks = true →
    (match lookK k ks ds with
      | none => atKey xs (nkD (kyD k)) = none
      | some d => ∃ p v, atKey xs (nkD (kyD k)) = some p ∧ RelV v p.2 ∧ Rep K Fz H d v) ∧ decide (k ∈ ks) = (atKey xs (nkD (kyD k))).isSome
  | [], ds, es, xs, kr, _, r, _ => by
    simp only [KysR, List.map_eq_nil_iff] at kr
    subst kr
    cases r
    exact ⟨rfl, by simp [atKey]⟩
  | y :: ks, ds, es, xs, kr, rd, r, ht => by
    simp only [allT, List.all_cons, Bool.and_eq_true] at ht
    simp only [KysR] at kr
    obtain ⟨z, r', e, k1, k2⟩ := kr
    cases es with
    | nil => cases e
    | cons p es =>
      simp only [List.map_cons, List.cons.injEq] at e
      obtain ⟨rfl, rfl⟩ := e
      cases r with
      | @cons _ q _ qs h t =>
        cases ds with
        | nil => simp [RepL] at rd
        | cons d ds =>
          simp only [List.map_cons] at rd
          obtain ⟨d1, d2⟩ := repL_cons.mp rd
          obtain ⟨b, e1, _⟩ := k1.tk ht.1
          rw [h.1] at e1
          injection e1 with e2 e3
          have ih := look_T hk k2 d2 t ht.2
          by_cases yk : y = k
          · subst yk
            have a1 : atKey (q :: qs) (nkD (kyD y)) = some q.2 := by simp [atKey, List.find?_cons, e2]
            refine ⟨?_, ?_⟩
            · simp only [lookK, if_true]
              exact ⟨q.2, p.2, a1, h.2, d1⟩
            · rw [a1]; simp
          · have ne : ¬ q.1 = nkD (kyD k) := fun z => yk (nkY_inj y k (e2.symm.trans z))
            have a1 : atKey (q :: qs) (nkD (kyD k)) = atKey qs (nkD (kyD k)) := by simp [atKey, List.find?_cons, ne]
            rw [a1]
            refine ⟨?_, ?_⟩
            · simp only [lookK, if_neg yk]
              exact ih.1
            · rw [← ih.2]
              exact decide_eq_decide.mpr (by simp [Ne.symm yk, fun z : k = y => yk z.symm])
/-- the entries behind a store, in place -/
theorem put_old {K : KW} {k : Ky} {d : D} {v : V} {u : Value} (rd : Rep K Fz H d v) (rv : RelV v u) : ∀ {kvs : List (Ky × D)} {es : List (KX × V)} {xs : List (NestedKey × Addr × Value)}, KysR K H (kvs.map (·.1)) (es.map (·.1)) → RepL K Fz H (kvs.map (·.2)) (es.map (·.2)) → EntR es xs → allT (kvs.map (·.1)) = true →
    ∃ es', KysR K H ((kvs.map fun kv => if kv.1 = k then (kv.1, d) else kv).map (·.1)) (es'.map (·.1)) ∧ RepL K Fz H ((kvs.map fun kv => if kv.1 = k then (kv.1, d) else kv).map (·.2)) (es'.map (·.2)) ∧ EntR es' (xs.map (putAt (nkD (kyD k)) u))
  | [], es, xs, kr, _, r, _ => by
    simp only [KysR, List.map_nil, List.map_eq_nil_iff] at kr
    subst kr
    cases r
    exact ⟨[], by simp [KysR], by simp [RepL], .nil⟩
  | kv :: kvs, es, xs, kr, rd', r, ht => by
    simp only [allT, List.map_cons, List.all_cons, Bool.and_eq_true] at ht
    simp only [KysR, List.map_cons] at kr
    obtain ⟨z, r', e, k1, k2⟩ := kr
    cases es with
    | nil => cases e
    | cons p es =>
      simp only [List.map_cons, List.cons.injEq] at e
      obtain ⟨rfl, rfl⟩ := e
      cases r with
      | @cons _ q _ qs h t =>
        simp only [List.map_cons] at rd'
        obtain ⟨d1, d2⟩ := repL_cons.mp rd'
        obtain ⟨b, e1, _⟩ := k1.tk ht.1
        rw [h.1] at e1
        injection e1 with e2 e3
        obtain ⟨es', g1, g2, g3⟩ := put_old rd rv k2 d2 t ht.2
        by_cases yk : kv.1 = k
        · have ek : q.1 = nkD (kyD k) := by rw [e2, yk]
          refine ⟨(p.1, v) :: es', ?_, ?_, ?_⟩
          · simp only [List.map_cons, if_pos yk, KysR]
            exact ⟨_, _, rfl, k1, g1⟩
          · simp only [List.map_cons, if_pos yk]
            exact repL_cons.mpr ⟨rd, g2⟩
          · simp only [List.map_cons, putAt, if_pos ek]
            exact .cons ⟨h.1, rv⟩ g3
        · have ne : ¬ q.1 = nkD (kyD k) := fun z => yk (nkY_inj _ k (e2.symm.trans z))
          refine ⟨p :: es', ?_, ?_, ?_⟩
          · simp only [List.map_cons, if_neg yk, KysR]
            exact ⟨_, _, rfl, k1, g1⟩
          · simp only [List.map_cons, if_neg yk]
            exact repL_cons.mpr ⟨d1, g2⟩
          · simp only [List.map_cons, putAt, if_neg ne]
            exact .cons h g3
theorem KysR.snoc {K : KW} {k : Ky} {x : KX} (h : KyR K H k x) : ∀ {ks : List Ky} {xs : List KX}, KysR K H ks xs → KysR K H (ks ++ [k]) (xs ++ [x])
  | [], xs, r => by
    simp only [KysR] at r
    subst r
    simp only [List.nil_append, KysR]
    exact ⟨x, [], rfl, h, rfl⟩
  | y :: ks, xs, r => by
    simp only [KysR] at r
    obtain ⟨z, r', rfl, h1, h2⟩ := r
    simp only [List.cons_append, KysR]
    exact ⟨z, _, rfl, h1, h2.snoc h⟩
theorem any_dec {kvs : List (Ky × D)} {k : Ky} : (kvs.any fun kv => decide (kv.1 = k)) = decide (k ∈ kvs.map (·.1)) := by
  rw [Bool.eq_iff_iff, List.any_eq_true, decide_eq_true_eq, List.mem_map]
  constructor
  · rintro ⟨x, h1, h2⟩
    exact ⟨x, h1, of_decide_eq_true h2⟩
  · rintro ⟨x, h1, h2⟩
    exact ⟨x, h1, decide_eq_true h2⟩
/-- the entries behind a store -/
theorem put_T {K : KW} {k : Ky} {b : Addr} {d : D} {v : V} {u : Value} (tk : TK K H k b) (rd : Rep K Fz H d v) (rv : RelV v u) {kvs : List (Ky × D)} {es : List (KX × V)} {xs : List (NestedKey × Addr × Value)} (kr : KysR K H (kvs.map (·.1)) (es.map (·.1))) (r : RepL K Fz H (kvs.map (·.2)) (es.map (·.2))) (er : EntR es xs) (ht : allT (kvs.map (·.1)) = true) :
    ∃ es', KysR K H ((putY kvs k d).map (·.1)) (es'.map (·.1)) ∧ RepL K Fz H ((putY kvs k d).map (·.2)) (es'.map (·.2)) ∧ EntR es' (storedH xs (nkD (kyD k)) b u) ∧ es'.length ≤ es.length + 1 ∧ es' ≠ [] := by
  have hm := (look_T tk.t kr r er ht).2
  by_cases hin : k ∈ kvs.map (·.1)
  · rw [decide_eq_true hin] at hm
    obtain ⟨es', g1, g2, g3⟩ := put_old (k := k) rd rv kr r er ht
    have e1 : putY kvs k d = kvs.map fun kv => if kv.1 = k then (kv.1, d) else kv := by
      unfold putY
      rw [any_dec, decide_eq_true hin, if_pos rfl]
    have e2 : storedH xs (nkD (kyD k)) b u = xs.map (putAt (nkD (kyD k)) u) := by
      unfold storedH
      rw [if_pos hm.symm]
    have l1 := g1.len
    have l2 := kr.len
    simp only [List.length_map] at l1 l2
    refine ⟨es', by rw [e1]; exact g1, by rw [e1]; exact g2, by rw [e2]; exact g3, by omega, fun z => ?_⟩
    rw [z] at l1
    have : kvs = [] := List.length_eq_zero_iff.mp l1.symm
    rw [this] at hin
    cases hin
  · rw [decide_eq_false hin] at hm
    have e1 : putY kvs k d = kvs ++ [(k, d)] := by
      unfold putY
      rw [any_dec, decide_eq_false hin, if_neg Bool.false_ne_true]
    have e2 : storedH xs (nkD (kyD k)) b u = xs ++ [(nkD (kyD k), b, u)] := by
      unfold storedH
      rw [← hm, if_neg Bool.false_ne_true]
    refine ⟨es ++ [(.t (nkD (kyD k)) b, v)], ?_, ?_, ?_, by simp, by simp⟩
    · rw [e1, List.map_append, List.map_append]
      exact kr.snoc tk.ky
    · rw [e1, List.map_append, List.map_append]
      exact r.append (RepL.one rd)
    · rw [e2]
      exact Paired.snoc er ⟨rfl, rv⟩
theorem allT_put {kvs : List (Ky × D)} {k : Ky} {d : D} (ht : allT (kvs.map (·.1)) = true) (hk : k.isT = true) : allT ((putY kvs k d).map (·.1)) = true := by
  unfold putY
  split
  · have : (kvs.map fun kv => if kv.1 = k then (kv.1, d) else kv).map (·.1) = kvs.map (·.1) := by
      rw [List.map_map]
      refine List.map_congr_left fun kv _ => ?_
      simp only [Function.comp]
      split <;> rfl
    rw [this]; exact ht
  · rw [List.map_append]
    unfold allT at ht ⊢
    rw [List.all_append, ht]
    simp [hk]
end
/-! what may be done with them -/
section
variable {X : Cx} {Fz : Addr → Prop} {pins : List (Addr × Obj)} {s : Shared} {σ : L2.St} {H : Hp} {A : Around} {E : Value → Shared → Prop}
/-- a dict of tuples that may be read -/
structure TD (K : KW) (Fz : Addr → Prop) (H : Hp) (a : Addr) (ks : List Ky) (ds : List D) : Prop where
  ex : ∃ es, Rd H a (dO K.w a es) ∧ KysR K H ks (es.map (·.1)) ∧ RepL K Fz H ds (es.map (·.2))
  t : allT ks = true
theorem room8 {A : Around} (hu : A.units + 64 < cLine) {prog : Program} {w : World} : (nestedKind prog w).room A.in1 := by
  show A.in1.units + 8 < cLine
  simp only [Around.in1_units]
  omega
theorem t_in {a b : Addr} {k : Ky} {ks : List Ky} {ds : List D} {u : Value} {Q : Value → Shared → Prop} (hu : A.units + 64 < cLine) (I : L2.Inv X pins σ H s) (T : TD (kwX X) Fz H a ks ds) (tk : TK (kwX X) H k b) (ry : RelV (.ref b) u) (h : ∀ s', L2.Inv X pins σ H s' → Q (.bool (decide (k ∈ ks))) s') :
    wpAny (model X.prog X.w) A (compareOp .In u (.ref a)) Q E s := by
  cases ry
  obtain ⟨⟨es, e1, e2, e3⟩, ht⟩ := T
  obtain ⟨z, hd, xs, er, dd⟩ := tD_of I e1 e2 ht
  refine wpAny_in_heap (room8 hu) (tk.is I) hd dd ?_
  rw [← (look_T tk.t e2 e3 er ht).2]
  exact h _ (I.tok _)
theorem t_notIn {a b : Addr} {k : Ky} {ks : List Ky} {ds : List D} {u : Value} {Q : Value → Shared → Prop} (hu : A.units + 64 < cLine) (I : L2.Inv X pins σ H s) (T : TD (kwX X) Fz H a ks ds) (tk : TK (kwX X) H k b) (ry : RelV (.ref b) u) (h : ∀ s', L2.Inv X pins σ H s' → Q (.bool (!decide (k ∈ ks))) s') :
    wpAny (model X.prog X.w) A (compareOp .NotIn u (.ref a)) Q E s := by
  cases ry
  obtain ⟨⟨es, e1, e2, e3⟩, ht⟩ := T
  obtain ⟨z, hd, xs, er, dd⟩ := tD_of I e1 e2 ht
  refine wpAny_notIn_heap (room8 hu) (tk.is I) hd dd ?_
  rw [← (look_T tk.t e2 e3 er ht).2]
  exact h _ (I.tok _)
theorem t_getItem {a b : Addr} {k : Ky} {ks : List Ky} {ds : List D} {d : D} {u : Value} {Q : Value → Shared → Prop} (hu : A.units + 64 < cLine) (I : L2.Inv X pins σ H s) (T : TD (kwX X) Fz H a ks ds) (tk : TK (kwX X) H k b) (hl : lookK k ks ds = some d) (ry : RelV (.ref b) u) (h : ∀ v w' s', L2.Inv X pins σ H s' → RelV v w' → Rep (kwX X) Fz H d v → Q w' s') :
    wpAny (model X.prog X.w) A (getItem (.ref a) u) Q E s := by
  cases ry
  obtain ⟨⟨es, e1, e2, e3⟩, ht⟩ := T
  obtain ⟨z, hd, xs, er, dd⟩ := tD_of I e1 e2 ht
  have l := (look_T tk.t e2 e3 er ht).1
  rw [hl] at l
  obtain ⟨p, v, l1, l2, l3⟩ := l
  exact wpAny_getItem_heap (room8 hu) (tk.is I) dd l1 (h v _ _ (I.tok _) l2 l3)
theorem t_get2 {a b : Addr} {k : Ky} {ks : List Ky} {ds : List D} {f : D} {y : V} {u r : Value} {Q : Value → Shared → Prop} (hu : A.units + 64 < cLine) (I : L2.Inv X pins σ H s) (T : TD (kwX X) Fz H a ks ds) (tk : TK (kwX X) H k b) (ry : RelV (.ref b) u) (rf : Rep (kwX X) Fz H f y) (rr : RelV y r) (h : ∀ v w' s', L2.Inv X pins σ H s' → RelV v w' → Rep (kwX X) Fz H ((lookK k ks ds).getD f) v → Q w' s') :
    wpAny (model X.prog X.w) A (call (.builtin "dict.get") [.ref a, u, r]) Q E s := by
  cases ry
  obtain ⟨⟨es, e1, e2, e3⟩, ht⟩ := T
  obtain ⟨z, hd, xs, er, dd⟩ := tD_of I e1 e2 ht
  have l := (look_T tk.t e2 e3 er ht).1
  cases hl : lookK k ks ds with
  | none =>
    rw [hl] at l h
    refine getOr_keyed (room8 hu) (tk.is I) hd ⟨xs, dd, rfl⟩ ?_
    rw [valueAt_pairsH, l]
    exact h y _ _ (I.tok _) rr rf
  | some d =>
    rw [hl] at l h
    obtain ⟨p, v, l1, l2, l3⟩ := l
    refine getOr_keyed (room8 hu) (tk.is I) hd ⟨xs, dd, rfl⟩ ?_
    rw [valueAt_pairsH, l1]
    exact h v _ _ (I.tok _) l2 l3
theorem t_setItem {a b : Addr} {k : Ky} {kvs : List (Ky × D)} {es : List (KX × V)} {d : D} {y : V} {u r : Value} {Q : Unit → Shared → Prop} (hu : A.units + 64 < cLine) (I : L2.Inv X pins σ H s) (ha : H a = some (dO X.w a es)) (kr : KysR (kwX X) H (kvs.map (·.1)) (es.map (·.1))) (rl : RepL (kwX X) Fz H (kvs.map (·.2)) (es.map (·.2))) (ht : allT (kvs.map (·.1)) = true) (hz : kvs.length < sizeLine)
    (tk : TK (kwX X) H k b) (ry : RelV (.ref b) u) (rd : Rep (kwX X) Fz H d y) (rr : RelV y r)
    (h : ∀ es' s', KysR (kwX X) H ((putY kvs k d).map (·.1)) (es'.map (·.1)) → RepL (kwX X) Fz H ((putY kvs k d).map (·.2)) (es'.map (·.2)) → L2.Inv X pins σ (upd H a (dO X.w a es')) s' → Q () s') :
    wpAny (model X.prog X.w) A (setItem (.ref a) u r) Q E s := by
  cases ry
  obtain ⟨z, hd, xs, er, dd⟩ := tD_of I (.inl ha) kr ht
  obtain ⟨es', g1, g2, g3, g4, g5⟩ := put_T tk rd rr kr rl er ht
  have lk := kr.len
  simp only [List.length_map] at lk
  refine wpAny_setItem_heap (hsz := by rw [← Paired.length er]; exact z) (room8 hu) (tk.is I) dd fun h' dd' hs => h es' _ g1 g2 ?_
  obtain ⟨q, es2, ep, hq, h2, h3, h4, _, h5⟩ := dd'
  have e : dO X.w a es' = tO X.w a es' := by
    cases hk : (putY kvs k d).map (·.1) with
    | nil =>
      rw [hk] at g1
      have := g1.len
      simp only [List.length_map, List.length_nil] at this
      exact absurd (List.length_eq_zero_iff.mp this) g5
    | cons y ys =>
      rw [hk] at g1
      have := allT_put (d := d) ht tk.t
      rw [hk] at this
      simp only [allT, List.all_cons, Bool.and_eq_true] at this
      exact dO_t g1 this.1
  rw [e]
  exact d_write I (by rw [ha]; exact dO_mut) hs ⟨q, hq⟩ (tO_ok (by omega) hd g3 hq h2 h3 h4 h5)
theorem plainX_len : ∀ {es : List (KX × V)} {l : List (L2.Key × V)}, plainX es = some l → l.length = es.length := fun {es l} h => by
  rw [plainX_map h, List.length_map]
theorem dO_len {a : Addr} {ks : List Ky} {es : List (KX × V)} {Q : Value → Shared → Prop} (I : L2.Inv X pins σ H s) (hr : Rd H a (dO X.w a es)) (kr : KysR (kwX X) H ks (es.map (·.1))) (h : ∀ t s', L2.Inv X pins σ H s' → Q (.int ks.length t) s') :
    wpAny (model X.prog X.w) A (call (.builtin "len") [.ref a]) Q E s := by
  have kl := kr.len
  simp only [List.length_map] at kl
  unfold dO at hr
  split at hr
  · rename_i l hl
    have := plainX_len hl
    rw [← kl, ← this] at h
    exact d_len I hr h
  · obtain ⟨⟨z, y, xs, r, o, es', ep, h1, h2, h3, h4, h5⟩, _, _⟩ := (show ObjOk X.prog X.w H s.heap a (tO X.w a es) from hr.ok I.hok)
    have hl : es.length = xs.length := Paired.length r
    rw [← kl, hl] at h
    have e62 := sizeLine_eq
    exact call_len_dictH (knd := nestedKind X.prog X.w) y ⟨o, es', ep, h1, h2, h3, h4, ents_is I kr r, h5⟩ (by omega) (h _ _ ((I.tok _).tok _))
end
end Ev

set_option linter.all false
set_option autoImplicit false
set_option Elab.async false
set_option maxRecDepth 100000
set_option maxHeartbeats 4000000
/-! EvB2: tuples made, each known to its object; the methods of tuples. -/
namespace Ev
open PySem PySem.Spec L2
/-- a new tuple -/
def NewT (H : Hp) (xs : List V) (Q : VK) : Prop := ∀ p o, H p = none → o.dict = none → Q (.ref p) (upd H p (.frz o (.tup xs)))
section
variable {X : Cx} {pins : List (Addr × Obj)} {σ : L2.St} {H : Hp} {s : Shared} {Q : VK}
theorem newT_ok {xs : List V} {its : List Value} {tk : Nat} (I : L2.Inv X pins σ H s) (r : Vals xs its) (hz : xs.length ≤ sizeLine) (q : NewT H xs Q) :
    EP X pins σ Q (.ref s.heap.objs.size) { s with heap := s.heap.push { cls := .type "tuple", data := .seq its.toArray }, toks := tk } := by
  have hf : H s.heap.objs.size = none := I.hok.fresh (Nat.le_refl _)
  refine ⟨.ref s.heap.objs.size, upd H s.heap.objs.size (.frz { cls := .type "tuple", data := .seq its.toArray } (.tup xs)), I.laid (t' := tk) (fun b u e => Heap.get?_push_of_some _ e) (Nat.le_refl _) ?_, rfl, q _ _ hf rfl⟩
  exact ⟨Heap.get?_push_size _ rfl, hz, its, r, ⟨_, Heap.get?_push_size _ rfl, rfl, _, rfl⟩⟩
def tTupF (t : TA) : TE := fun σ H Q => t σ H fun xs H1 => xs.length ≤ sizeLine ∧ NewT H1 xs Q
theorem pe_tupF {es : List Expr} {t : TA} {x1 : Nat} {pos : Pos} (h : PA X es t) : PE X (.Tuple es x1 pos) (tTupF t) := by
  refine ⟨fun pins s σ H Q I hq => ?_⟩
  refine wpAny_Tuple_spliced (thn (h.run pos pins s σ H _ I hq) fun us s1 ⟨xs, H1, I1, r, z, q⟩ => ⟨by rw [← r.length]; exact z, ?_⟩)
  exact newT_ok (tk := s1.toks) I1 r z q
def rCatF (K : KW) : R2 := fun x y H Q => ∃ a b xs ys, x = .ref a ∧ y = .ref b ∧ SqP K H a xs ∧ SqP K H b ys ∧ xs.length + ys.length ≤ sizeLine ∧
  (xs = [] → Q (.ref b) H) ∧ (xs ≠ [] → ys = [] → Q (.ref a) H) ∧ (xs ≠ [] → ys ≠ [] → NewT H (xs ++ ys) Q)
theorem op_catF : OpR X (binaryOp .Add) (rCatF (kwX X)) := by
  intro pins s σ H x y v u Q I rx ry h
  obtain ⟨a, b, xs, ys, rfl, rfl, ha, hb, hz, q0, q1, q2⟩ := h
  cases rx
  cases ry
  obtain ⟨its, r1, p1, _⟩ := I.tuple ha.t
  obtain ⟨its2, r2, p2, _⟩ := I.tuple hb.t
  by_cases hx : xs = []
  · subst hx
    cases r1
    exact cat_tup0 p1 p2 ⟨.ref b, H, I, rfl, q0 rfl⟩
  · refine HT.cat_tup p1 p2 (fun z => hx (r1.nil_iff.mp z)) (fun z => ⟨.ref a, H, I, rfl, q1 hx (r2.nil_iff.mp z)⟩) (fun z => ?_) (by rw [← r1.length, ← r2.length]; exact hz)
    exact newT_ok (tk := s.toks) I (r1.append r2) (by rw [List.length_append]; exact hz) (q2 hx fun w => z (r2.nil_iff.mpr w))
def rSlF (K : KW) : V → Option Int → Option Int → Hp → VK → Prop := fun x lo hi H Q => ∃ a xs, x = .ref a ∧ SqP K H a xs ∧
  (HT.sIx xs.length 0 lo = 0 ∧ HT.sIx xs.length xs.length hi = xs.length → Q (.ref a) H) ∧ NewT H (cutV xs lo hi) Q
theorem sl_tupF : SlR X (rSlF (kwX X)) := by
  intro pins s σ H x v vl vu lo hi sl Q I rx hs pl pu h
  obtain ⟨a, xs, rfl, hx, q1, q2⟩ := h
  cases rx
  obtain ⟨its, r, ht, hz⟩ := I.tuple hx.t
  have hlen : its.toArray.size = xs.length := by rw [List.size_toArray]; exact r.length.symm
  refine ⟨"tuple", _, PyProof.Rows.slot_tuple_getitem.lookup, ht.typeIs, ?_⟩
  by_cases hw : HT.sIx xs.length 0 lo = 0 ∧ HT.sIx xs.length xs.length hi = xs.length
  · exact L2.getItem_tuple_whole ht hs pl pu (by rw [hlen]; exact hw) ⟨.ref a, H, I, rfl, q1 hw⟩
  · refine HT.getItem_tuple_cut ht hs pl pu (by rw [hlen]; exact hw) ?_ (by rw [hlen]; exact hz)
    rw [hlen]
    exact newT_ok (tk := s.toks) I ((r.drop (HT.sIx xs.length 0 lo)).take (HT.sIx xs.length xs.length hi - HT.sIx xs.length 0 lo)) (Nat.le_trans (cutV_length xs lo hi) hz) q2
theorem call_tupF : CallR X (.type "tuple") (fun xs H Q => ∃ p ys, xs = [.ref p] ∧ ((SqL X.K H p ys ∧ NewT H ys Q) ∨ (SqP (kwX X) H p ys ∧ Q (.ref p) H))) := by
  intro pins s σ H xs us Q I r h
  obtain ⟨p, ys, rfl, h⟩ := h
  obtain ⟨u, rfl, rx⟩ := vals1 r
  cases rx
  rcases h with ⟨hq, q⟩ | ⟨hq, q⟩
  · obtain ⟨its, r', pl, hz⟩ := I.list hq
    have hlen := r'.length
    refine call_tuple_list pl.isList (fun h' kp => ?_) (by simp only [List.size_toArray] <;> omega)
    have I1 : L2.Inv X pins σ H { s with heap := h' } := I.kept (t' := s.toks) kp
    exact newT_ok (tk := s.toks) I1 r' hz q
  · obtain ⟨its, r', pl, hz⟩ := I.tuple hq.t
    exact call_tuple_same pl ⟨.ref p, H, I, rfl, q⟩
open PyProof.Rows in
theorem tuple_mul1 (l : Addr) (items : Array Value) (n : Nat) (dd : Option Addr) (sl : Array (Option Value)) (x : Int) (u : Tok) (c0 : (decide (x < -(2 ^ 63)) || decide (x ≥ 2 ^ 63)) = false) (c1 : (items.isEmpty || x == 1) = true) :
    Meets (Builtin.«tuple.__mul__» ⟨[.ref l, .int x u], []⟩) (fun _ R s => s.heap.get? l = some { cls := .type "tuple", dict := dd, data := .seq items n, slots := sl } ∧
      R (.ok (.ret (Value.ref l))) s) :=
  .of_wp fun prog w A R s h => by
    obtain ⟨hp, g, d, tk, os⟩ := s
    obtain ⟨hl, h⟩ := h
    have f1 := AutoSeq1.idx_int
    wp_walk using wpAny_loadPart' hl
    repeat (first
      | (refine wpAny_ite_false (decide_eq_false (by rw [c0]; exact Bool.false_ne_true)) ?_; wp_walk using wpAny_loadPart' hl)
      | (refine wpAny_ite_true (decide_eq_true (by rw [c1])) ?_; wp_walk using wpAny_loadPart' hl))
    exact ⟨_, rfl, h⟩
open PyProof.Rows in
theorem tuple_mul0 (l : Addr) (items : Array Value) (n : Nat) (dd : Option Addr) (sl : Array (Option Value)) (x : Int) (u : Tok) (c0 : (decide (x < -(2 ^ 63)) || decide (x ≥ 2 ^ 63)) = false) (c1 : (items.isEmpty || x == 1) = false) (c2 : (decide (x ≤ 0) || items.isEmpty) = true) :
    Meets (Builtin.«tuple.__mul__» ⟨[.ref l, .int x u], []⟩) (fun _ R s => s.heap.get? l = some { cls := .type "tuple", dict := dd, data := .seq items n, slots := sl } ∧
      R (.ok (.ret (Value.ref s.heap.objs.size))) { s with heap := s.heap.push { cls := Value.type "tuple", data := Data.seq #[] }, toks := s.toks }) :=
  .of_wp fun prog w A R s h => by
    obtain ⟨hp, g, d, tk, os⟩ := s
    obtain ⟨hl, h⟩ := h
    have f1 := AutoSeq1.idx_int
    wp_walk using wpAny_loadPart' hl
    repeat (first
      | (refine wpAny_ite_false (decide_eq_false (by rw [c0]; exact Bool.false_ne_true)) ?_; wp_walk using wpAny_loadPart' hl)
      | (refine wpAny_ite_false (decide_eq_false (by rw [c1]; exact Bool.false_ne_true)) ?_; wp_walk using wpAny_loadPart' hl)
      | (refine wpAny_ite_true (decide_eq_true (by rw [c2])) ?_; wp_walk using wpAny_loadPart' hl))
    exact ⟨_, rfl, h⟩
open PyProof.Rows in
def rRepF (K : KW) : R2 := fun x y H Q => ∃ l k xs, x = .ref l ∧ y = .int k ∧ SqP K H l xs ∧ xs ≠ [] ∧ -1000 ≤ k ∧ k ≤ 1000 ∧ xs.length ≤ 1000 ∧ (k = 1 → Q (.ref l) H) ∧ NewT H (List.replicate k.toNat xs).flatten Q
open PyProof.Rows in
theorem op_repF : OpR X (binaryOp .Mult) (rRepF (kwX X)) := by
  intro pins s σ H x y v u Q I rx ry h
  obtain ⟨l, k, xs, rfl, rfl, hT, hne, h1, h2, hz, q1, q⟩ := h
  cases rx
  obtain ⟨t, rfl⟩ := ry
  obtain ⟨its, r, ⟨⟨cls, dd, data, sl⟩, ho, hc, n, hd⟩, hs⟩ := I.tuple hT.t
  simp only at hc hd
  subst hc hd
  have hle : its.length = xs.length := r.length.symm
  have hn : its ≠ [] := fun e => hne (by
    rw [e] at hle
    exact List.eq_nil_of_length_eq_zero hle.symm)
  have hi : its.toArray.isEmpty = false := by
    cases its with
    | nil => exact absurd rfl hn
    | cons a b => rfl
  have hsz0 : its.toArray.size = xs.length := by rw [List.size_toArray, hle]
  have c0 : (decide (k < -(2 ^ 63)) || decide (k ≥ 2 ^ 63)) = false := by
    rw [decide_eq_false (by omega), decide_eq_false (by omega)] <;> rfl
  by_cases k1 : k = 1
  · have c1 : (its.toArray.isEmpty || k == 1) = true := by
      rw [k1, hi]
      rfl
    refine wpAny_binaryOp_repeat_ref (T := "tuple") (U := "int") (by decide) ⟨_, ho, rfl⟩ (fun s' => typeIs_int s' k t) noFill_tuple_mul F.fills_int_mul F.slot_int_rmul repeat_tuple F.slot_int_index.lookup
      (call_meets F.slot_int_rmul (typeIs_int s k t) F.entry_int_rmul (F.args_int_rmul_2 _ _) (int_rmul_tuple k t l its.toArray n dd sl)
        ⟨ho, rfl, ⟨_, ho, rfl⟩, call_meets F.slot_tuple_mul ⟨_, ho, rfl⟩ F.entry_tuple_mul (F.args_tuple_mul_2 _ _) (tuple_mul1 l its.toArray n dd sl k t c0 c1) ⟨ho, ?_⟩⟩)
    exact ⟨.ref l, H, I, rfl, q1 k1⟩
  have c1 : (its.toArray.isEmpty || k == 1) = false := by
    rw [hi, Bool.false_or]
    exact beq_eq_false_iff_ne.mpr k1
  by_cases k0 : k ≤ 0
  · have c2 : (decide (k ≤ 0) || its.toArray.isEmpty) = true := by
      rw [decide_eq_true k0]
      rfl
    refine wpAny_binaryOp_repeat_ref (T := "tuple") (U := "int") (by decide) ⟨_, ho, rfl⟩ (fun s' => typeIs_int s' k t) noFill_tuple_mul F.fills_int_mul F.slot_int_rmul repeat_tuple F.slot_int_index.lookup
      (call_meets F.slot_int_rmul (typeIs_int s k t) F.entry_int_rmul (F.args_int_rmul_2 _ _) (int_rmul_tuple k t l its.toArray n dd sl)
        ⟨ho, rfl, ⟨_, ho, rfl⟩, call_meets F.slot_tuple_mul ⟨_, ho, rfl⟩ F.entry_tuple_mul (F.args_tuple_mul_2 _ _) (tuple_mul0 l its.toArray n dd sl k t c0 c1 c2) ⟨ho, ?_⟩⟩)
    have e0 : k.toNat = 0 := by omega
    rw [e0] at q
    exact newT_ok (tk := s.toks) (its := []) I .nil (by simp) q
  have hm : ((its.toArray.size : Nat) : Int) * k ≤ 1000000 := by
    rw [hsz0]
    have a1 : ((xs.length : Nat) : Int) * k ≤ 1000 * k := Int.mul_le_mul_of_nonneg_right (by omega) (by omega)
    omega
  have flen : (List.replicate k.toNat its).flatten.length ≤ sizeLine := by
    rw [PyProof.Rows.lm_len_rep_flat, hle, sizeLine_eq]
    have a1 : k.toNat * xs.length ≤ 1000 * 1000 := Nat.mul_le_mul (by omega) hz
    omega
  have c2 : (decide (k ≤ 0) || its.toArray.isEmpty) = false := by
    rw [hi, Bool.or_false]
    exact decide_eq_false (by omega)
  have c4 : Builtin.Tuple.tupleTooMany (((its.toArray.size : Nat) : Int) * k) = false := by
    unfold Builtin.Tuple.tupleTooMany
    rw [sizeLine_eq]
    exact decide_eq_false (by omega)
  refine wpAny_binaryOp_repeat_ref (T := "tuple") (U := "int") (by decide) ⟨_, ho, rfl⟩ (fun s' => typeIs_int s' k t) noFill_tuple_mul F.fills_int_mul F.slot_int_rmul repeat_tuple F.slot_int_index.lookup
    (call_meets F.slot_int_rmul (typeIs_int s k t) F.entry_int_rmul (F.args_int_rmul_2 _ _) (int_rmul_tuple k t l its.toArray n dd sl)
      ⟨ho, rfl, ⟨_, ho, rfl⟩, call_meets F.slot_tuple_mul ⟨_, ho, rfl⟩ F.entry_tuple_mul (F.args_tuple_mul_2 _ _) (tuple_mulW l its.toArray n dd sl k t c0 c1 c2 (by omega) c4 (by rw [size_rep, List.size_toArray]; exact flen)) ⟨ho, ?_⟩⟩)
  rw [size_rep]
  exact newT_ok (tk := s.toks) I (r.rep k.toNat) (by rw [PyProof.Rows.lm_len_rep_flat, sizeLine_eq]; have a1 : k.toNat * xs.length ≤ 1000 * 1000 := Nat.mul_le_mul (by omega) hz; omega) q
/-! ### methods, the receiver's type by the heap -/
def tyW (K : KW) (T : String) (x : V) (H : Hp) : Prop := tyV K.f T x H ∨ (T = "tuple" ∧ ∃ a xs, x = .ref a ∧ SqP K H a xs) ∨ (T = "dict" ∧ ∃ a es, x = .ref a ∧ Rd H a (dO K.w a es))
theorem tyW_is {T : String} {x : V} {v : Value} (I : L2.Inv X pins σ H s) (r : RelV x v) (ty : tyW (kwX X) T x H) :
    s.TypeIs v T ∧ ∀ a, v = .ref a → ∃ ob, s.heap.get? a = some ob ∧ ob.dict = none := by
  rcases ty with ty | ⟨rfl, a, xs, rfl, h⟩ | ⟨rfl, a, es, rfl, h⟩
  · exact tyV_is I r ty
  · cases r
    rcases h with ⟨o, h, d⟩ | ⟨o, its, n, h1, h2, h3, h4, h5, h6⟩
    · obtain ⟨e, _, its, rv, ob, e2, c, _⟩ := I.hok a _ h
      refine ⟨⟨ob, e2, c⟩, fun b q => ?_⟩
      cases q
      exact ⟨o, e, d⟩
    · refine ⟨⟨o, I.kIn a o h1, h2⟩, fun b q => ?_⟩
      cases q
      exact ⟨o, I.kIn _ o h1, h3⟩
  · cases r
    obtain ⟨o, _, _, e, c, _⟩ := dO_obj I h
    refine ⟨⟨o, e, c.1⟩, fun b q => ?_⟩
    cases q
    exact ⟨o, e, c.2.1⟩
def tBMw (K : KW) (T : String) (r : V → List V → Hp → VK → Prop) (to : TE) (t : TA) : TE := fun σ H Q => to σ H fun x H1 => tyW K T x H1 ∧ t σ H1 fun xs H2 => r x xs H2 Q
theorem pe_bmW {o e : PySem.Expr} {es : List PySem.Expr} {to : TE} {t : TA} {name : Str} {apos cpos : Pos} {T id : String} {r : V → List V → Hp → VK → Prop} (pa : PlainAttrs T) (slot : Slot T name id) (hty : typeOf (.builtin id) = pure (.type "method_descriptor")) (hm : MtR X id r) (ho : PE X o to) (ha : PA X (e :: es) t)
    (hbase : attributeBase o name X.env (eval o X.env) = eval o X.env)
    (hfew : ((backTo cpos (starEach (e :: es) X.env)).all (fun x => !x.1) && (backToKw cpos (keywordEach [] X.env)).all (fun x => x.1.isSome)
      && decide ((e :: es).length + ([] : List Keyword).length + (if ([] : List Keyword).isEmpty then 0 else 1) < 30)) = true)
    (hline : (apos.endLine == cpos.line) = true) (hs : starEach (e :: es) X.env = (false, eval e X.env) :: starEach es X.env) (hplain : (backTo cpos (starEach es X.env)).any (·.1) = false) :
    PE X (.Call (.Attribute o name apos) (e :: es) [] cpos) (tBMw (kwX X) T r to t) := by
  refine ⟨fun pins s σ H Q I h => ?_⟩
  refine wpAny_Call_method_late hbase hfew hline rfl (thn (ho.run pins s σ H _ I h) fun v s1 ⟨x, H1, I1, r1, ty, q1⟩ => ?_)
  obtain ⟨h1, h2⟩ := tyW_is I1 r1 ty
  refine ⟨T, id, pa, slot, hty, h1, h2, ?_⟩
  have hA := ha.run cpos pins s1 σ H1 _ I1 q1
  rw [hs] at hA ⊢
  refine Calls.callWith_builtin (by show (false || (backTo cpos (starEach es X.env)).any (·.1)) = false; rw [hplain] <;> rfl) (Calls.evalArgs_plain ?_)
  exact thn hA fun us s2 ⟨vs, H2, I2, r2, q2⟩ => hm pins s2 σ H2 x vs v us Q I2 r1 r2 q2
end
end Ev

set_option linter.all false
set_option autoImplicit false
set_option Elab.async false
set_option maxRecDepth 100000
set_option maxHeartbeats 4000000
/-! EvC: data as the model's data; the operators. -/
namespace Ev
open PySem PySem.Spec L2

theorem natCh_inj : ∀ {x y : List Char}, x.map Char.toNat = y.map Char.toNat → x = y
  | [], [], _ => rfl
  | [], _ :: _, h => by simp at h
  | _ :: _, [], h => by simp at h
  | a :: x, b :: y, h => by
    simp only [List.map_cons, List.cons.injEq] at h
    have e : a = b := by
      have := h.1
      apply Char.ext
      apply UInt32.toNat_inj.mp
      exact this
    rw [e, natCh_inj h.2]
theorem chS_inj {x y : List Char} (h : chS x = chS y) : x = y := by
  unfold chS at h
  injection h with h
  exact natCh_inj (by simpa using congrArg Array.toList h)
theorem chS_beq (x y : List Char) : (chS x == chS y) = (x == y) := by
  by_cases e : x = y
  · subst e; simp
  · have h : ¬ chS x = chS y := fun q => e (chS_inj q)
    rw [beq_eq_false_iff_ne.mpr h, beq_eq_false_iff_ne.mpr e]
theorem chS_dec (x y : List Char) : decide (chS x = chS y) = (x == y) := by
  by_cases e : x = y
  · subst e; simp
  · rw [decide_eq_false fun q => e (chS_inj q), beq_eq_false_iff_ne.mpr e]
theorem chS_len (x : List Char) : (chS x).length = x.length := by simp [chS, Str.length]
theorem chS_app (x y : List Char) : chS x ++ chS y = chS (x ++ y) := by
  show Str.append _ _ = _
  simp [chS, Str.append]
theorem chS_ok (x : List Char) : PyData.strOk (chS x) = true := by
  unfold PyData.strOk
  simp only [chS, List.all_toArray, List.all_map, List.all_eq_true]
  intro c _
  have h := c.valid
  simp only [UInt32.isValidChar, Nat.isValidChar] at h
  have e : c.toNat = c.val.toNat := rfl
  simp only [Function.comp, decide_eq_true_eq]
  omega
section
variable {K : KW} {Fz : Addr → Prop} {H : Hp}
mutual
theorem dp_of : ∀ (d : D) (v : V) (n : Nat), D.shp d n = true → Rep K Fz H d v → Dp K.f H v (pyD d)
  | .non, v, _, _, h => by simp only [Rep] at h; subst h; exact .non
  | .bl b, v, _, _, h => by simp only [Rep] at h; subst h; exact .bl b
  | .int i, v, _, _, h => by simp only [Rep] at h; subst h; exact .int i
  | .str s, v, _, _, h => by simp only [Rep] at h; subst h; exact .str _
  | .tup ds, v, n, p, h => by
    simp only [Rep] at h
    obtain ⟨a, vs, e, q, r⟩ := h
    subst e
    cases n with
    | zero => simp [D.shp] at p
    | succ n => exact .tup q.t (dpL_of ds vs n (by simpa only [D.shp] using p) r)
  | .lst ds, v, n, p, h => by
    simp only [Rep] at h
    obtain ⟨a, vs, e, _, q, r⟩ := h
    subst e
    cases n with
    | zero => simp [D.shp] at p
    | succ n => exact .lst (SqL.of q) (dpL_of ds vs n (by simpa only [D.shp] using p) r)
  | .dk _ _, v, n, p, _ => by simp [D.shp] at p
  | .scr _, v, n, p, _ => by simp [D.shp] at p
  | .rp _, v, n, p, _ => by simp [D.shp] at p
theorem dpL_of : ∀ (ds : List D) (vs : List V) (n : Nat), D.shpL ds n = true → RepL K Fz H ds vs → DpAll K.f H vs (pyL ds)
  | [], vs, _, _, h => by rw [repL_nil.mp h]; exact .nil
  | d :: ds, vs, n, p, h => by
    simp only [RepL] at h
    simp only [D.shpL, Bool.and_eq_true] at p
    obtain ⟨v, r, e, h1, h2⟩ := h
    subst e
    exact .cons (dp_of d v n p.1 h1) (dpL_of ds r n p.2 h2)
end
theorem dpF_of {d : D} {v : V} {n : Nat} (p : D.shp d n = true) (h : RepF K Fz H d v) : Dp K.f H v (pyD d) := by
  cases d <;> simp only [RepF] at h <;> try exact dp_of _ v n p h
  · rename_i ds
    obtain ⟨a, vs, e, q, r⟩ := h
    subst e
    cases n with
    | zero => simp [D.shp] at p
    | succ n => exact .lst (SqL.of q) (dpL_of ds vs n (by simpa only [D.shp] using p) r)
  · simp [D.shp] at p
mutual
theorem py_lay : ∀ (d : D) (n : Nat), D.shp d n = true → (pyD d).canLay0 = true ∧ (pyD d).depth ≤ n
  | .non, _, _ => by simp [pyD, PyData.canLay0, PyData.depth]
  | .bl b, _, _ => by simp [pyD, PyData.canLay0, PyData.depth]
  | .int i, _, _ => by simp [pyD, PyData.canLay0, PyData.depth]
  | .str s, _, _ => by simp [pyD, PyData.canLay0, PyData.depth, chS_ok]
  | .tup ds, n, p => by
    cases n with
    | zero => simp [D.shp] at p
    | succ n =>
      obtain ⟨h1, h2⟩ := pyL_lay ds n (by simpa only [D.shp] using p)
      simp only [pyD, PyData.canLay0, PyData.depth]
      exact ⟨h1, by omega⟩
  | .lst ds, n, p => by
    cases n with
    | zero => simp [D.shp] at p
    | succ n =>
      obtain ⟨h1, h2⟩ := pyL_lay ds n (by simpa only [D.shp] using p)
      simp only [pyD, PyData.canLay0, PyData.depth]
      exact ⟨h1, by omega⟩
  | .dk _ _, n, p => by simp [D.shp] at p
  | .scr _, n, p => by simp [D.shp] at p
  | .rp _, n, p => by simp [D.shp] at p
theorem pyL_lay : ∀ (ds : List D) (n : Nat), D.shpL ds n = true → PyData.canLayAll0 (pyL ds) = true ∧ PyData.depthAll (pyL ds) ≤ n
  | [], _, _ => by simp [pyL, PyData.canLayAll0, PyData.depthAll]
  | d :: ds, n, p => by
    simp only [D.shpL, Bool.and_eq_true] at p
    obtain ⟨h1, h2⟩ := py_lay d n p.1
    obtain ⟨h3, h4⟩ := pyL_lay ds n p.2
    simp only [pyL, PyData.canLayAll0, PyData.depthAll, h1, h3, Bool.and_self, true_and]
    omega
end
theorem py_shaped {d : D} (p : D.shp d 64 = true) : SeqAt.shaped (pyD d) = true := by
  obtain ⟨h1, h2⟩ := py_lay d 64 p
  show ((pyD d).canLay0 && decide ((pyD d).depth ≤ 64)) = true
  rw [h1, decide_eq_true h2]; rfl
mutual
theorem py_eqv : ∀ (d e : D) (n m : Nat), D.shp d n = true → D.shp e m = true → PyData.eqv (pyD d) (pyD e) = D.eqv d e
  | d, e, n, m, p, q => by
    cases d <;> cases e <;> first
      | (simp [D.shp] at p; done)
      | (simp [D.shp] at q; done)
      | (simp only [pyD, PyData.eqv, D.eqv]; done)
      | (simp only [pyD, PyData.eqv, D.eqv, chS_beq]; done)
      | skip
    · rename_i xs ys
      cases n with
      | zero => simp [D.shp] at p
      | succ n =>
        cases m with
        | zero => simp [D.shp] at q
        | succ m =>
          simp only [pyD, PyData.eqv, D.eqv]
          exact pyL_eqv xs ys n m (by simpa only [D.shp] using p) (by simpa only [D.shp] using q)
    · rename_i xs ys
      cases n with
      | zero => simp [D.shp] at p
      | succ n =>
        cases m with
        | zero => simp [D.shp] at q
        | succ m =>
          simp only [pyD, PyData.eqv, D.eqv]
          exact pyL_eqv xs ys n m (by simpa only [D.shp] using p) (by simpa only [D.shp] using q)
theorem pyL_eqv : ∀ (ds es : List D) (n m : Nat), D.shpL ds n = true → D.shpL es m = true → PyData.eqvAll (pyL ds) (pyL es) = D.eqvL ds es
  | [], [], _, _, _, _ => by simp only [pyL, PyData.eqvAll, D.eqvL]
  | [], _ :: _, _, _, _, _ => by simp only [pyL, PyData.eqvAll, D.eqvL]
  | _ :: _, [], _, _, _, _ => by simp only [pyL, PyData.eqvAll, D.eqvL]
  | d :: ds, e :: es, n, m, p, q => by
    simp only [D.shpL, Bool.and_eq_true] at p q
    simp only [pyL, PyData.eqvAll, D.eqvL]
    rw [py_eqv d e n m p.1 q.1, pyL_eqv ds es n m p.2 q.2]
end
end
mutual
theorem D.beq_eq : ∀ (x y : D), D.beq x y = true → x = y
  | .non, y, h => by cases y <;> simp [D.beq] at h; rfl
  | .bl a, y, h => by cases y <;> simp [D.beq] at h; rw [h]
  | .int a, y, h => by cases y <;> simp [D.beq] at h; rw [h]
  | .str a, y, h => by cases y <;> simp [D.beq] at h; rw [h]
  | .tup xs, y, h => by
    cases y <;> simp only [D.beq] at h <;> try (cases h; done)
    rw [D.beqL_eq _ _ h]
  | .lst xs, y, h => by
    cases y <;> simp only [D.beq] at h <;> try (cases h; done)
    rw [D.beqL_eq _ _ h]
  | .dk ks vs, y, h => by
    cases y <;> simp only [D.beq] at h <;> try (cases h; done)
    obtain ⟨h1, h2⟩ := Bool.and_eq_true_iff.mp h
    rw [D.beqL_eq _ _ h2, eq_of_beq h1]
  | .scr a, y, h => by cases y <;> simp [D.beq] at h; rw [h]
  | .rp a, y, h => by
    cases y <;> simp only [D.beq] at h <;> try (cases h; done)
    rw [D.beq_eq _ _ h]
theorem D.beqL_eq : ∀ (xs ys : List D), D.beqL xs ys = true → xs = ys
  | [], ys, h => by cases ys <;> simp [D.beqL] at h; rfl
  | x :: xs, ys, h => by
    cases ys <;> simp only [D.beqL] at h <;> try (cases h; done)
    obtain ⟨h1, h2⟩ := Bool.and_eq_true_iff.mp h
    rw [D.beq_eq _ _ h1, D.beqL_eq _ _ h2]
end
end Ev

set_option linter.all false
set_option autoImplicit false
set_option Elab.async false
set_option maxRecDepth 100000
set_option maxHeartbeats 4000000
/-! EvC1: the order of things of one shape, nested. -/
namespace Ev
section
open PySem PySem.Spec L2 PyProof.Rows PySem.W
theorem chLt_eq : ∀ x y : List Char, decide ((x.map Char.toNat) < (y.map Char.toNat)) = chLt x y
  | x, [] => by cases x <;> simp [chLt]
  | [], b :: y => by simp [chLt]
  | a :: x, b :: y => by
    have ih := chLt_eq x y
    simp only [List.map_cons, chLt]
    by_cases e : a.toNat = b.toNat
    · rw [if_pos e, ← ih]
      simp [List.cons_lt_cons_iff, e]
    · rw [if_neg e]
      simp [List.cons_lt_cons_iff, e]
mutual
theorem alk_py : ∀ (x y : D), D.alk x y = true → PySem.W.alike (pyD x) (pyD y) = true
  | .int _, y, h => by cases y <;> simp [D.alk] at h; simp [pyD, PySem.W.alike]
  | .str _, y, h => by cases y <;> simp [D.alk] at h; simp [pyD, PySem.W.alike]
  | .tup xs, y, h => by
    cases y <;> simp [D.alk] at h
    simp only [pyD, PySem.W.alike]
    exact alkL_py xs _ h
  | .non, y, h => by cases y <;> simp [D.alk] at h
  | .bl _, y, h => by cases y <;> simp [D.alk] at h
  | .lst _, y, h => by cases y <;> simp [D.alk] at h
  | .dk _ _, y, h => by cases y <;> simp [D.alk] at h
  | .scr _, y, h => by cases y <;> simp [D.alk] at h
  | .rp _, y, h => by cases y <;> simp [D.alk] at h
theorem alkL_py : ∀ (xs ys : List D), D.alkL xs ys = true → PySem.W.alikeAll (pyL xs) (pyL ys) = true
  | [], ys, _ => by simp [pyL, PySem.W.alikeAll]
  | _ :: _, [], _ => by simp [pyL, PySem.W.alikeAll]
  | x :: xs, y :: ys, h => by
    simp only [D.alkL, Bool.and_eq_true] at h
    simp only [pyL, PySem.W.alikeAll, alk_py x y h.1, alkL_py xs ys h.2, Bool.and_self]
end
mutual
/-- alike and equal as Python tells: the same -/
theorem alk_eq : ∀ (x y : D), D.alk x y = true → PyData.eqv (pyD x) (pyD y) = true → x = y
  | .int _, y, h, e => by cases y <;> simp [D.alk] at h; simpa [pyD, PyData.eqv] using e
  | .str _, y, h, e => by
    cases y <;> simp [D.alk] at h
    simp only [pyD, PyData.eqv, chS_beq, beq_iff_eq] at e
    rw [e]
  | .tup xs, y, h, e => by
    cases y <;> simp [D.alk] at h
    simp only [pyD, PyData.eqv] at e
    rw [alkL_eq xs _ h e]
  | .non, y, h, _ => by cases y <;> simp [D.alk] at h
  | .bl _, y, h, _ => by cases y <;> simp [D.alk] at h
  | .lst _, y, h, _ => by cases y <;> simp [D.alk] at h
  | .dk _ _, y, h, _ => by cases y <;> simp [D.alk] at h
  | .scr _, y, h, _ => by cases y <;> simp [D.alk] at h
  | .rp _, y, h, _ => by cases y <;> simp [D.alk] at h
theorem alkL_eq : ∀ (xs ys : List D), D.alkL xs ys = true → PyData.eqvAll (pyL xs) (pyL ys) = true → xs = ys
  | [], [], _, _ => rfl
  | [], _ :: _, _, e => by simp [pyL, PyData.eqvAll] at e
  | _ :: _, [], _, e => by simp [pyL, PyData.eqvAll] at e
  | x :: xs, y :: ys, h, e => by
    simp only [D.alkL, Bool.and_eq_true] at h
    simp only [pyL, PyData.eqvAll, Bool.and_eq_true] at e
    rw [alk_eq x y h.1 e.1, alkL_eq xs ys h.2 e.2]
end
mutual
theorem alk_comm : ∀ (x y : D), D.alk x y = D.alk y x
  | .int _, y => by cases y <;> simp [D.alk]
  | .str _, y => by cases y <;> simp [D.alk]
  | .tup xs, y => by
    cases y <;> simp only [D.alk]
    exact alkL_comm xs _
  | .non, y => by cases y <;> simp [D.alk]
  | .bl _, y => by cases y <;> simp [D.alk]
  | .lst _, y => by cases y <;> simp [D.alk]
  | .dk _ _, y => by cases y <;> simp [D.alk]
  | .scr _, y => by cases y <;> simp [D.alk]
  | .rp _, y => by cases y <;> simp [D.alk]
theorem alkL_comm : ∀ (xs ys : List D), D.alkL xs ys = D.alkL ys xs
  | [], [] => rfl
  | [], _ :: _ => by simp [D.alkL]
  | _ :: _, [] => by simp [D.alkL]
  | x :: xs, y :: ys => by simp only [D.alkL, alk_comm x y, alkL_comm xs ys]
end
abbrev KoZ : KeyOrd := listOrd itemOrd
theorem dl_irr (x : PyData) : dataLt x x = false := lex_irrefl _
theorem dl_asym {x y : PyData} (h : dataLt x y = true) : dataLt y x = false := KeyOrd.klt_asymm (O := KoZ) h
/-- one of two alike things that are not equal is less -/
theorem dl_total {x y : PyData} (h : alike x y = true) (e : PyData.eqv x y = false) (n : dataLt x y = false) : dataLt y x = true := by
  cases q : dataLt y x with
  | true => rfl
  | false =>
    exfalso
    have t : keyToks x = keyToks y := lex_total _ _ n q
    have k := (toks_eqv x y h).2 e [.inl 0] [.inl 1]
    rw [t] at k
    have k2 : PyProof.Rows.lexLt itemOrd (keyToks y) (keyToks y) = false := lex_irrefl _
    rw [k2, lex_pre, lex_one] at k
    revert k
    decide
theorem dl_eqv {x y : PyData} (h : alike x y = true) (e : PyData.eqv x y = true) : dataLt x y = false := by
  have t := (toks_eqv x y h).1 e
  unfold dataLt
  rw [t]
  exact lex_irrefl _
mutual
theorem alk_eqv : ∀ (x y : D), D.alk x y = true → PyData.eqv (pyD x) (pyD y) = D.eqv x y
  | .int i, y, h => by cases y <;> simp [D.alk] at h; simp only [pyD, PyData.eqv, D.eqv]
  | .str a, y, h => by cases y <;> simp [D.alk] at h; simp only [pyD, PyData.eqv, D.eqv, chS_beq]
  | .tup xs, y, h => by
    cases y <;> simp [D.alk] at h
    simp only [pyD, PyData.eqv, D.eqv]
    exact alkL_eqv xs _ h
  | .non, y, h => by cases y <;> simp [D.alk] at h
  | .bl _, y, h => by cases y <;> simp [D.alk] at h
  | .lst _, y, h => by cases y <;> simp [D.alk] at h
  | .dk _ _, y, h => by cases y <;> simp [D.alk] at h
  | .scr _, y, h => by cases y <;> simp [D.alk] at h
  | .rp _, y, h => by cases y <;> simp [D.alk] at h
theorem alkL_eqv : ∀ (xs ys : List D), D.alkL xs ys = true → PyData.eqvAll (pyL xs) (pyL ys) = D.eqvL xs ys
  | [], [], _ => by simp only [pyL, PyData.eqvAll, D.eqvL]
  | [], _ :: _, _ => by simp only [pyL, PyData.eqvAll, D.eqvL]
  | _ :: _, [], _ => by simp only [pyL, PyData.eqvAll, D.eqvL]
  | x :: xs, y :: ys, h => by
    simp only [D.alkL, Bool.and_eq_true] at h
    simp only [pyL, PyData.eqvAll, D.eqvL, alk_eqv x y h.1, alkL_eqv xs ys h.2]
end
mutual
theorem gLt_py : ∀ (x y : D), D.alk x y = true → gLt x y = dataLt (pyD x) (pyD y)
  | .int i, y, h => by
    cases y <;> simp [D.alk] at h
    simp only [gLt, pyD, dataLt_int]
  | .str a, y, h => by
    cases y <;> simp [D.alk] at h
    rename_i b
    simp only [gLt, pyD, dataLt_str]
    have e := chLt_eq a b
    rw [← e, Bool.eq_iff_iff, decide_eq_true_eq, decide_eq_true_eq]
    exact Iff.rfl
  | .tup xs, y, h => by
    cases y <;> simp [D.alk] at h
    rename_i ys
    simp only [gLt, pyD, dataLt_tuple]
    exact gsLt_py xs ys h
  | .non, y, h => by cases y <;> simp [D.alk] at h
  | .bl _, y, h => by cases y <;> simp [D.alk] at h
  | .lst _, y, h => by cases y <;> simp [D.alk] at h
  | .dk _ _, y, h => by cases y <;> simp [D.alk] at h
  | .scr _, y, h => by cases y <;> simp [D.alk] at h
  | .rp _, y, h => by cases y <;> simp [D.alk] at h
theorem gsLt_py : ∀ (xs ys : List D), D.alkL xs ys = true → gsLt xs ys = PyProof.Rows.lexLt itemOrd (keyToksAll (pyL xs)) (keyToksAll (pyL ys))
  | [], [], _ => by
    simp only [gsLt, pyL]
    exact (lex_irrefl _).symm
  | [], y :: ys, _ => by
    simp only [gsLt, pyL, keyToksAll]
    rfl
  | x :: xs, [], _ => by
    simp only [gsLt, pyL, keyToksAll]
    rfl
  | x :: xs, y :: ys, h => by
    simp only [D.alkL, Bool.and_eq_true] at h
    simp only [gsLt, pyL, dataLt_cons (alk_py x y h.1), alk_eqv x y h.1, gLt_py x y h.1, gsLt_py xs ys h.2]
end
end
end Ev

set_option linter.all false
set_option autoImplicit false
set_option Elab.async false
set_option maxRecDepth 100000
set_option maxHeartbeats 4000000
/-! EvDq: a dict is no text. -/
namespace Ev
open PySem SeqAt
theorem dq_dict (l : Addr) (es : Array DictEntry) (n : Nat) (dd : Option Addr) (sl : Array (Option Value)) (b : Str) (t : Tok) :
    Meets (Builtin.«dict.__eq__» ⟨[.ref l, .str b t], []⟩) (fun _ R s => s.heap.get? l = some { cls := .type "dict", dict := dd, data := .dict es n, slots := sl } ∧ R (.ok (.ret .notImplemented)) s) :=
  .of_wp fun prog w A R s h => by
    obtain ⟨hp, g, d, tk, os⟩ := s
    obtain ⟨hl, h⟩ := h
    have f1 := F.sub_str_dict
    wp_walk using wpAny_loadPart' hl
    exact ⟨_, rfl, h⟩
theorem dq_str (b : Str) (t : Tok) (l : Addr) (c : Value) (es : Array DictEntry) (n : Nat) (dd : Option Addr) (sl : Array (Option Value)) :
    Meets (Builtin.«str.__eq__» ⟨[.str b t, .ref l], []⟩) (fun _ R s => s.heap.get? l = some { cls := c, dict := dd, data := .dict es n, slots := sl } ∧ R (.ok (.ret .notImplemented)) s) :=
  .of_wp fun prog w A R s h => by
    obtain ⟨hp, g, d, tk, os⟩ := s
    obtain ⟨hl, h⟩ := h
    wp_walk using wpAny_loadPart' hl, wpAny_load hl
    exact ⟨_, rfl, h⟩
theorem rc_dict_str {A : Around} {s : Shared} {l : Addr} {es : Array DictEntry} {n : Nat} {dd : Option Addr} {sl : Array (Option Value)} (b : Str) (t : Tok) (ho : s.heap.get? l = some { cls := .type "dict", dict := dd, data := .dict es n, slots := sl }) (hu : A.units < cLine)
    {prog : Program} {w : World} {E Q : Value → Shared → Prop} (q : Q (.bool false) s) : wpAny (model prog w) A (richCompare .Eq (.ref l) (.str b t)) Q E s :=
  rc_eq_decline_or (k := false) ⟨_, ho, rfl⟩ (typeIs_str s b t) (by decide) F.sub_str_dict F.slot_dict_eq F.slot_str_eq_refl
    (fun _ z => call_meets F.slot_dict_eq ⟨_, ho, rfl⟩ F.entry_dict_eq (F.args_dict_eq_2 _ _) (dq_dict l es n dd sl b t) ⟨ho, z⟩)
    (fun _ z => call_meets F.slot_str_eq_refl (typeIs_str s b t) F.entry_str_eq (F.args_str_eq_2 _ _) (dq_str b t l (.type "dict") es n dd sl) ⟨ho, z⟩)
    (fun _ z => wpAny_of_eq (rfl : isSame (.ref l) (.str b t) = pure false) z) (.inr hu) q
theorem dn_dict (l : Addr) (es : Array DictEntry) (n : Nat) (dd : Option Addr) (sl : Array (Option Value)) (b : Str) (t : Tok) :
    Meets (Builtin.«dict.__ne__» ⟨[.ref l, .str b t], []⟩) (fun _ R s => s.heap.get? l = some { cls := .type "dict", dict := dd, data := .dict es n, slots := sl } ∧ R (.ok (.ret .notImplemented)) s) :=
  .of_wp fun prog w A R s h => by
    obtain ⟨hp, g, d, tk, os⟩ := s
    obtain ⟨hl, h⟩ := h
    have f1 := F.sub_str_dict
    wp_walk using wpAny_loadPart' hl
    exact ⟨_, rfl, h⟩
theorem dn_str (b : Str) (t : Tok) (l : Addr) (c : Value) (es : Array DictEntry) (n : Nat) (dd : Option Addr) (sl : Array (Option Value)) :
    Meets (Builtin.«str.__ne__» ⟨[.str b t, .ref l], []⟩) (fun _ R s => s.heap.get? l = some { cls := c, dict := dd, data := .dict es n, slots := sl } ∧ R (.ok (.ret .notImplemented)) s) :=
  .of_wp fun prog w A R s h => by
    obtain ⟨hp, g, d, tk, os⟩ := s
    obtain ⟨hl, h⟩ := h
    wp_walk using wpAny_loadPart' hl, wpAny_load hl
    exact ⟨_, rfl, h⟩
theorem rn_dict_str {A : Around} {s : Shared} {l : Addr} {es : Array DictEntry} {n : Nat} {dd : Option Addr} {sl : Array (Option Value)} (b : Str) (t : Tok) (ho : s.heap.get? l = some { cls := .type "dict", dict := dd, data := .dict es n, slots := sl }) (hu : A.units < cLine)
    {prog : Program} {w : World} {E Q : Value → Shared → Prop} (q : Q (.bool true) s) : wpAny (model prog w) A (richCompare .NotEq (.ref l) (.str b t)) Q E s :=
  rc_ne_decline_or (k := false) ⟨_, ho, rfl⟩ (typeIs_str s b t) (by decide) F.sub_str_dict F.slot_dict_ne F.slot_str_ne_refl
    (fun _ z => call_meets F.slot_dict_ne ⟨_, ho, rfl⟩ F.entry_dict_ne (F.args_dict_ne_2 _ _) (dn_dict l es n dd sl b t) ⟨ho, z⟩)
    (fun _ z => call_meets F.slot_str_ne_refl (typeIs_str s b t) F.entry_str_ne (F.args_str_ne_2 _ _) (dn_str b t l (.type "dict") es n dd sl) ⟨ho, z⟩)
    (fun _ z => wpAny_of_eq (rfl : isSame (.ref l) (.str b t) = pure false) z) (.inr hu) q
end Ev

set_option linter.all false
set_option autoImplicit false
set_option Elab.async false
set_option maxRecDepth 100000
set_option maxHeartbeats 4000000
/-! EvDr: texts beside dicts, tuples of texts beside tuples of any things (for k10; not in the chain yet). -/
namespace Ev
open PySem SeqAt
section
variable {A : Around} {s : Shared} {l : Addr} {es : Array DictEntry} {n : Nat} {dd : Option Addr} {sl : Array (Option Value)}
theorem rcAt_str_dict (b : Str) (t : Tok) (ho : s.heap.get? l = some { cls := .type "dict", dict := dd, data := .dict es n, slots := sl }) (hu : A.units < cLine) : RcAt A s (.str b t) (.ref l) false := fun prog w E Q h =>
  rc_eq_decline_or (k := false) (typeIs_str s b t) ⟨_, ho, rfl⟩ (by decide) F.sub_dict_str F.slot_str_eq F.slot_dict_eq_refl
    (fun _ z => call_meets F.slot_str_eq (typeIs_str s b t) F.entry_str_eq (F.args_str_eq_2 _ _) (dq_str b t l (.type "dict") es n dd sl) ⟨ho, z⟩)
    (fun _ z => call_meets F.slot_dict_eq_refl ⟨_, ho, rfl⟩ F.entry_dict_eq (F.args_dict_eq_2 _ _) (dq_dict l es n dd sl b t) ⟨ho, z⟩)
    (fun _ z => wpAny_of_eq (rfl : isSame (.str b t) (.ref l) = pure false) z) (.inr hu) h
theorem eqAt_str_dict (b : Str) (t : Tok) (ho : s.heap.get? l = some { cls := .type "dict", dict := dd, data := .dict es n, slots := sl }) (hu : A.units < cLine) : EqAt A s (.str b t) (.ref l) false := fun prog w E Q h => by
  unfold eqBool
  refine wpAny_holding ?_
  refine wpAny_ite_split (fun hab => absurd (eq_of_beq hab) nofun) (fun _ => ?_)
  exact wpAny_bind (rcAt_str_dict b t ho hu prog w E _ (wpAny_truthy_bool h))
end
end Ev

set_option linter.all false
set_option autoImplicit false
set_option Elab.async false
set_option maxRecDepth 100000
set_option maxHeartbeats 4000000
/-! EvDs: a text beside any thing (for k10; not in the chain yet). -/
namespace Ev
open PySem PySem.Spec L2 PyProof.Rows
section
variable {K : KW} {Fz : Addr → Prop} {H : Hp}
theorem RepF.tup {ds : List D} {v : V} (h : RepF K Fz H (.tup ds) v) : ∃ a vs, v = .ref a ∧ SqP K H a vs ∧ RepL K Fz H ds vs := by simpa only [RepF, Rep] using h
theorem RepF.lst {ds : List D} {v : V} (h : RepF K Fz H (.lst ds) v) : ∃ a vs, v = .ref a ∧ H a = some (.lst vs) ∧ RepL K Fz H ds vs := by simpa only [RepF] using h
theorem RepF.int {i : Int} {v : V} (h : RepF K Fz H (.int i) v) : v = .int i := by simpa only [RepF, Rep] using h
theorem RepF.bl {i : Bool} {v : V} (h : RepF K Fz H (.bl i) v) : v = .bl i := by simpa only [RepF, Rep] using h
theorem RepF.str {i : List Char} {v : V} (h : RepF K Fz H (.str i) v) : v = .str (chS i) := by simpa only [RepF, Rep] using h
theorem RepF.non {v : V} (h : RepF K Fz H .non v) : v = .non := by simpa only [RepF, Rep] using h
theorem RepF.dk {ks : List Ky} {ds : List D} {v : V} (h : RepF K Fz H (.dk ks ds) v) : ∃ a es, v = .ref a ∧ Rd H a (dO K.w a es) ∧ KysR K H ks (es.map (·.1)) ∧ RepL K Fz H ds (es.map (·.2)) := by simpa only [RepF] using h
end
theorem eqvL_range : ∀ (ys xs : List D), D.eqvL ys xs = ((List.range (min ys.length xs.length)).all (fun j => D.eqv (ys.getD j .non) (xs.getD j .non)) && ys.length == xs.length)
  | [], [] => by simp [D.eqvL]
  | [], x :: xs => by simp [D.eqvL]
  | y :: ys, [] => by simp [D.eqvL]
  | y :: ys, x :: xs => by
    have ih := eqvL_range ys xs
    simp only [D.eqvL, ih, List.length_cons, Nat.add_min_add_right, List.range_succ_eq_map, List.all_cons, List.all_map, List.getD_cons_zero]
    have e : (ys.length + 1 == xs.length + 1) = (ys.length == xs.length) := by rw [Bool.eq_iff_iff]; simp
    rw [e, Bool.and_assoc]
    rfl
theorem eqvL_self_str : ∀ ys : List D, ys.all isStrD = true → D.eqvL ys ys = true
  | [], _ => rfl
  | y :: ys, h => by
    simp only [List.all_cons, Bool.and_eq_true] at h
    simp only [D.eqvL, eqvL_self_str ys h.2, Bool.and_true]
    cases y <;> simp [isStrD] at h
    simp [D.eqv]
theorem str_same {K : KW} {Fz : Addr → Prop} {H : Hp} : ∀ {ys xs : List D} {vs : List V}, ys.all isStrD = true → xs.all txD = true → RepL K Fz H ys vs → RepL K Fz H xs vs → ys = xs
  | [], [], _, _, _, _, _ => rfl
  | [], x :: xs, vs, _, _, r1, r2 => by
    simp only [RepL] at r1 r2
    subst r1
    obtain ⟨v, r, e, _⟩ := r2
    cases e
  | y :: ys, [], vs, _, _, r1, r2 => by
    simp only [RepL] at r1 r2
    subst r2
    obtain ⟨v, r, e, _⟩ := r1
    cases e
  | y :: ys, x :: xs, vs, h1, h2, r1, r2 => by
    simp only [List.all_cons, Bool.and_eq_true] at h1 h2
    simp only [RepL] at r1 r2
    obtain ⟨v, r, rfl, a1, a2⟩ := r1
    obtain ⟨v', r', e, b1, b2⟩ := r2
    cases e
    rw [str_same h1.2 h2.2 a2 b2]
    congr 1
    cases y <;> simp [isStrD] at h1
    simp only [Rep] at a1
    subst a1
    cases x <;> simp only [Rep] at b1 <;> try (cases b1; done)
    · rw [chS_inj (V.str.inj b1)]
    · obtain ⟨_, _, e, _⟩ := b1; cases e
    · obtain ⟨_, _, e, _⟩ := b1; cases e
    · obtain ⟨_, _, e, _⟩ := b1; cases e
    · obtain ⟨_, e, _⟩ := b1; cases e
    · simp [txD] at h2
section
variable {X : Cx} {Fz : Addr → Prop} {pins : List (Addr × Obj)} {σ : L2.St} {H : Hp} {s : Shared}
theorem eqAt_txt {A : Around} (I : L2.Inv X pins σ H s) {d : D} {x : V} {v : Value} (ht : txD d = true) (r : RepF (kwX X) Fz H d x) (rx : L2.RelV x v) (hu : A.units < cLine) (b : List Char) (t : Tok) : SeqAt.EqAt A s (.str (chS b) t) v (D.eqv (.str b) d) := by
  cases d <;> simp only [txD] at ht <;> try (cases ht; done)
  all_goals simp only [D.eqv]
  · simp only [RepF, Rep] at r
    subst r
    cases rx
    exact SeqAt.EqAt.str_none _ _
  · simp only [RepF, Rep] at r
    subst r
    cases rx
    exact SeqAt.EqAt.str_bool _ _ _
  · have := r.int
    subst this
    obtain ⟨k, rfl⟩ := rx
    exact SeqAt.EqAt.str_int _ _ _ _
  · rename_i c
    have := r.str
    subst this
    obtain ⟨k, rfl⟩ := rx
    have e : (b == c) = (chS b == chS c) := by
      rw [Bool.eq_iff_iff, beq_iff_eq, beq_iff_eq]
      exact ⟨fun h => by rw [h], chS_inj⟩
    rw [e]
    exact SeqAt.EqAt.str_str _ _ _ _
  · obtain ⟨a, vs, rfl, ha, _⟩ := r.tup
    cases rx
    obtain ⟨its, rv, pt, hz⟩ := I.tuple ha.t
    exact SeqAt.EqAt.str_tuple _ _ (show s.heap.IsTuple a its.toArray from pt) hu
  · obtain ⟨a, vs, rfl, ha, _⟩ := r.lst
    cases rx
    obtain ⟨its, rv, pl, hz⟩ := I.list (SqL.of ha)
    exact SeqAt.EqAt.str_list _ _ pl.isList hu
  · obtain ⟨a, es, rfl, ha, _⟩ := r.dk
    cases rx
    obtain ⟨⟨cls, dd, data, sl⟩, es2, ep, ho, hX, hdt⟩ := dO_obj I ha
    obtain ⟨hc, _⟩ := hX
    simp only at hc hdt
    subst hc hdt
    exact eqAt_str_dict (chS b) t ho hu
theorem eqAt_tup {A : Around} (I : L2.Inv X pins σ H s) {ys xs : List D} {x y : V} {u v : Value} (hy : ys.all isStrD = true) (hx : xs.all txD = true) (ry : RepF (kwX X) Fz H (.tup ys) y) (rx : RepF (kwX X) Fz H (.tup xs) x) (ey : L2.RelV y u) (ex : L2.RelV x v) (hu : A.units + 8 < cLine) : SeqAt.EqAt A s u v (D.eqvL ys xs) := by
  obtain ⟨a, vs, rfl, ha, ra⟩ := ry.tup
  obtain ⟨b, ws, rfl, hb, rb⟩ := rx.tup
  cases ey
  cases ex
  by_cases ab : a = b
  · subst ab
    have e := I.tuple_inj ha.t hb.t
    subst e
    have e2 := str_same hy hx ra rb
    subst e2
    rw [eqvL_self_str ys hy]
    exact SeqAt.EqAt.same _
  obtain ⟨its, rv, pt, hz⟩ := I.tuple ha.t
  obtain ⟨its2, rv2, pt2, hz2⟩ := I.tuple hb.t
  refine SeqAt.EqAt.of_refs ab ?_
  have l1 : its.length = ys.length := by rw [← rv.length, ra.len]
  have l2 : its2.length = xs.length := by rw [← rv2.length, rb.len]
  have := SeqAt.RcAt.tuples (A := A) (s := s) (l := a) (b := b) (items := its.toArray) (items2 := its2.toArray) (e := fun j => D.eqv (ys.getD j .non) (xs.getD j .non)) (show s.heap.IsTuple a its.toArray from pt) (show s.heap.IsTuple b its2.toArray from pt2) (by omega) fun j h1 h2 => ?_
  · rw [eqvL_range]
    simpa [l1, l2] using this
  · have j1 : j < ys.length := by simpa [l1] using h1
    have j2 : j < xs.length := by simpa [l2] using h2
    obtain ⟨p, p1, p2⟩ := ra.get (i := j) (d := ys[j]) (List.getElem?_eq_getElem j1)
    obtain ⟨q, q1, q2⟩ := rb.get (i := j) (d := xs[j]) (List.getElem?_eq_getElem j2)
    obtain ⟨u1, u2, u3⟩ := rv.get p1
    obtain ⟨w1, w2, w3⟩ := rv2.get q1
    have e1 : its.toArray[j] = u1 := by
      have : its[j]? = some u1 := u2
      simpa using (List.getElem?_eq_some_iff.mp this).2
    have e2 : its2.toArray[j] = w1 := by
      have : its2[j]? = some w1 := w2
      simpa using (List.getElem?_eq_some_iff.mp this).2
    rw [e1, e2]
    have g1 : ys.getD j .non = ys[j] := by rw [List.getD_eq_getElem?_getD, List.getElem?_eq_getElem j1]; rfl
    have g2 : xs.getD j .non = xs[j] := by rw [List.getD_eq_getElem?_getD, List.getElem?_eq_getElem j2]; rfl
    have ty : isStrD ys[j] = true := List.all_eq_true.mp hy _ (List.getElem_mem j1)
    have tx : txD xs[j] = true := List.all_eq_true.mp hx _ (List.getElem_mem j2)
    show SeqAt.EqAt A.in1 s u1 w1 (D.eqv (ys.getD j .non) (xs.getD j .non))
    rw [g1, g2]
    generalize ys[j] = dy at *
    cases dy <;> simp [isStrD] at ty
    simp only [Rep] at p2
    subst p2
    obtain ⟨k, rfl⟩ := u3
    exact eqAt_txt I tx q2.f w3 (by simp only [Around.in1_units]; omega) _ _
theorem isStr_tx {ys : List D} (h : ys.all isStrD = true) : ys.all txD = true := List.all_eq_true.mpr fun y hy => by
  have := List.all_eq_true.mp h y hy
  cases y <;> simp [isStrD] at this
  rfl
theorem eqAt_any {A : Around} (I : L2.Inv X pins σ H s) {z d : D} {x y : V} {u v : Value} (hz : okY d z = true) (ry : Rep (kwX X) Fz H z y) (rx : RepF (kwX X) Fz H d x) (ey : L2.RelV y u) (ex : L2.RelV x v) (hu : A.units + 8 < cLine) : SeqAt.EqAt A s u v (D.eqv z d) := by
  cases z <;> simp only [okY] at hz <;> try (cases hz; done)
  · simp only [Rep] at ry
    subst ry
    obtain ⟨k, rfl⟩ := ey
    exact eqAt_txt I hz rx ex (by omega) _ _
  · rw [Bool.and_eq_true] at hz
    obtain ⟨h1, h2⟩ := hz
    cases d <;> simp only at h2 <;> try (cases h2; done)
    simp only [D.eqv]
    exact eqAt_tup I h1 h2 ry.f rx ey ex hu
theorem okY_uniq (I : L2.Inv X pins σ H s) {z z' d : D} {y y' : V} {u : Value} (h : okY d z = true) (h' : okY d z' = true) (r : Rep (kwX X) Fz H z y) (r' : Rep (kwX X) Fz H z' y') (e : L2.RelV y u) (e' : L2.RelV y' u) : z = z' := by
  cases z <;> simp only [okY] at h <;> try (cases h; done)
  · simp only [Rep] at r
    subst r
    obtain ⟨k, rfl⟩ := e
    cases z' <;> simp only [okY] at h' <;> try (cases h'; done)
    · simp only [Rep] at r'
      subst r'
      obtain ⟨k', e2⟩ := e'
      injection e2 with e3 e4
      rw [chS_inj e3]
    · simp only [Rep] at r'
      obtain ⟨a, vs, rfl, _⟩ := r'
      cases e'
  · rw [Bool.and_eq_true] at h
    have r0 := r.f.tup
    obtain ⟨a, vs, rfl, ha, ra⟩ := r0
    cases e
    cases z' <;> simp only [okY] at h' <;> try (cases h'; done)
    · simp only [Rep] at r'
      subst r'
      obtain ⟨k', e2⟩ := e'
      cases e2
    · rw [Bool.and_eq_true] at h'
      obtain ⟨a', vs', rfl, hb, rb⟩ := r'.f.tup
      cases e'
      have e3 := I.tuple_inj ha.t hb.t
      subst e3
      rw [str_same h.1 (isStr_tx h'.1) ra rb]
open Classical in
theorem items_any {A : Around} (I : L2.Inv X pins σ H s) {zs : List D} {d : D} {x : V} {v : Value} {vs : List V} {its : List Value} (hz : zs.all (okY d) = true) (ra : RepL (kwX X) Fz H zs vs) (rv : Vals vs its) (rx : RepF (kwX X) Fz H d x) (ex : L2.RelV x v) (hu : A.units + 8 < cLine) :
    ∃ e : Value → Bool, (∀ w, w ∈ its.toArray → SeqAt.EqAt A s w v (e w)) ∧ its.toArray.any e = zs.any fun z => D.eqv z d := by
  have den : ∀ (i : Nat) (w : Value), its[i]? = some w → ∃ z y, zs[i]? = some z ∧ Rep (kwX X) Fz H z y ∧ L2.RelV y w ∧ okY d z = true := fun i w h => by
    have il : i < zs.length := by
      have := (List.getElem?_eq_some_iff.mp h).1
      rw [← rv.length, ra.len] at this
      exact this
    obtain ⟨y, y1, y2⟩ := ra.get (i := i) (d := zs[i]) (List.getElem?_eq_getElem il)
    obtain ⟨w', w1, w2⟩ := rv.get y1
    rw [h] at w1
    cases w1
    exact ⟨zs[i], y, List.getElem?_eq_getElem il, y2, w2, List.all_eq_true.mp hz _ (List.getElem_mem il)⟩
  have val : ∀ {z : D} {y : V} {w : Value}, z ∈ zs → Rep (kwX X) Fz H z y → L2.RelV y w → okY d z = true → decide (∃ z', z' ∈ zs ∧ okY d z' = true ∧ (∃ y', Rep (kwX X) Fz H z' y' ∧ L2.RelV y' w) ∧ D.eqv z' d = true) = D.eqv z d := fun {z y w} hm h1 h2 h3 => by
    rw [Bool.eq_iff_iff, decide_eq_true_eq]
    constructor
    · rintro ⟨z', _, k1, ⟨y', k2, k3⟩, k4⟩
      rw [okY_uniq I h3 k1 h1 k2 h2 k3]
      exact k4
    · exact fun k => ⟨z, hm, h3, ⟨y, h1, h2⟩, k⟩
  refine ⟨fun w => decide (∃ z', z' ∈ zs ∧ okY d z' = true ∧ (∃ y', Rep (kwX X) Fz H z' y' ∧ L2.RelV y' w) ∧ D.eqv z' d = true), fun w hw => ?_, ?_⟩
  · have hw : w ∈ its := by simpa using hw
    obtain ⟨i, hi⟩ := List.mem_iff_getElem?.mp hw
    obtain ⟨z, y, z1, z2, z3, z4⟩ := den i w hi
    show SeqAt.EqAt A s w v (decide _)
    rw [val (List.mem_of_getElem? z1) z2 z3 z4]
    exact eqAt_any I z4 z2 rx z3 ex hu
  · rw [Bool.eq_iff_iff, List.any_toArray, List.any_eq_true, List.any_eq_true]
    constructor
    · rintro ⟨w, hw, h⟩
      obtain ⟨z', k0, _, _, k4⟩ := of_decide_eq_true h
      exact ⟨z', k0, k4⟩
    · rintro ⟨z, hz1, h⟩
      obtain ⟨i, hi⟩ := List.mem_iff_getElem?.mp hz1
      have il : i < its.length := by
        have := (List.getElem?_eq_some_iff.mp hi).1
        rw [← rv.length, ra.len]
        exact this
      obtain ⟨z', y, z1, z2, z3, z4⟩ := den i _ (List.getElem?_eq_getElem il)
      rw [hi] at z1
      cases z1
      exact ⟨its[i], List.getElem_mem il, by rw [val hz1 z2 z3 z4]; exact h⟩
theorem in_any {A : Around} {E Q : Value → Shared → Prop} {prog : Program} {w : World} (I : L2.Inv X pins σ H s) {zs : List D} {d : D} {x y : V} {u v : Value} (hz : zs.all (okY d) = true) (ry : RepF (kwX X) Fz H (.tup zs) y) (rx : RepF (kwX X) Fz H d x) (ey : L2.RelV y u) (ex : L2.RelV x v) (hu : A.units + 16 < cLine) :
    (Q (.bool (zs.any fun z => D.eqv z d)) s → wpAny (model prog w) A (compareOp .In v u) Q E s) ∧ (Q (.bool (!zs.any fun z => D.eqv z d)) s → wpAny (model prog w) A (compareOp .NotIn v u) Q E s) := by
  obtain ⟨a, vs, rfl, ha, ra⟩ := ry.tup
  cases ey
  obtain ⟨its, rv, pt, hz2⟩ := I.tuple ha.t
  obtain ⟨e, e1, e2⟩ := items_any (A := A.in1) I hz ra rv rx ex (by simp only [Around.in1_units]; omega)
  rw [← e2]
  exact ⟨fun q => SeqAt.in_tupleAt e (show s.heap.IsTuple a its.toArray from pt) e1 q, fun q => SeqAt.notIn_tupleAt e (show s.heap.IsTuple a its.toArray from pt) e1 q⟩
theorem in_anyL {A : Around} {E Q : Value → Shared → Prop} {prog : Program} {w : World} (I : L2.Inv X pins σ H s) {zs : List D} {d : D} {x y : V} {u v : Value} (hz : zs.all (okY d) = true) (ry : RepF (kwX X) Fz H (.lst zs) y) (rx : RepF (kwX X) Fz H d x) (ey : L2.RelV y u) (ex : L2.RelV x v) (hu : A.units + 16 < cLine) :
    (Q (.bool (zs.any fun z => D.eqv z d)) s → wpAny (model prog w) A (compareOp .In v u) Q E s) ∧ (Q (.bool (!zs.any fun z => D.eqv z d)) s → wpAny (model prog w) A (compareOp .NotIn v u) Q E s) := by
  obtain ⟨a, vs, rfl, ha, ra⟩ := ry.lst
  cases ey
  obtain ⟨its, rv, pt, hz2⟩ := I.list (SqL.of ha)
  obtain ⟨e, e1, e2⟩ := items_any (A := A.in1) I hz ra rv rx ex (by simp only [Around.in1_units]; omega)
  rw [← e2]
  exact ⟨fun q => SeqAt.in_listAt e pt.isList e1 q, fun q => SeqAt.notIn_listAt e pt.isList e1 q⟩
end
end Ev

set_option linter.all false
set_option autoImplicit false
set_option Elab.async false
set_option maxRecDepth 100000
set_option maxHeartbeats 4000000
set_option exponentiation.threshold 6000
/-! EvD: each operation of data is what the model does. -/
namespace Ev
open PySem PySem.Spec L2

theorem lim_eq : lim = sizeLine := by rw [sizeLine_eq]; rfl
section
variable (K : KW) (Fz : Addr → Prop)
/-- what an operation may give; nothing that stood is changed -/
def ResO (H H' : Hp) : Opd → V → Prop
  | .val d, v => Rep K Fz H' d v
  | .slot _, _ => False
  | .new xs, v => ∃ a vs, v = .ref a ∧ H a = none ∧ H' a = some (.lst vs) ∧ RepL K Fz H' xs vs
  | .newd kvs, v => ∃ a es, v = .ref a ∧ H a = none ∧ H' a = some (dO K.w a es) ∧ KysR K H' (kvs.map (·.1)) (es.map (·.1)) ∧ RepL K Fz H' (kvs.map (·.2)) (es.map (·.2))
def Res (H : Hp) (o : Opd) (Q : VK) : Prop := ∀ v H', Grow H H' → ResO K Fz H H' o v → Q v H'
def rOp (m : D → D → Option Opd) : R2 := fun x y H Q => ∃ d e o, RepF K Fz H d x ∧ RepF K Fz H e y ∧ m d e = some o ∧ Res K Fz H o Q
def rCm (m : D → D → Option Bool) : R2 := fun x y H Q => ∃ d e b, RepF K Fz H d x ∧ RepF K Fz H e y ∧ m d e = some b ∧ Q (.bl b) H
end
section
variable {K : KW} {Fz : Addr → Prop} {H H' : Hp} {Q : VK}
theorem Res.same {d : D} {v : V} (h : Res K Fz H (.val d) Q) (r : Rep K Fz H d v) : Q v H := h v H Grow.refl r
theorem Res.int {i : Int} (h : Res K Fz H (.val (.int i)) Q) : Q (.int i) H := h.same (by simp only [Rep])
theorem Res.bl {i : Bool} (h : Res K Fz H (.val (.bl i)) Q) : Q (.bl i) H := h.same (by simp only [Rep])
theorem Res.str {s : List Char} (h : Res K Fz H (.val (.str s)) Q) : Q (.str (chS s)) H := h.same (by simp only [Rep])
theorem Res.tup {ds : List D} {vs : List V} (h : Res K Fz H (.val (.tup ds)) Q) (r : RepL K Fz H ds vs) : NewT H vs Q := by
  intro p o n hd
  refine h _ _ (Grow.upd n) ?_
  simp only [ResO, Rep]
  exact ⟨p, vs, rfl, .inl ⟨o, upd_same, hd⟩, RepL.keep (Grow.upd n).keep (fun _ z => z) ds vs r⟩
theorem Res.lst {ds : List D} {vs : List V} {p : Addr} (h : Res K Fz H (.new ds) Q) (r : RepL K Fz H ds vs) (n : H p = none) : Q (.ref p) (upd H p (.lst vs)) := by
  refine h _ _ (Grow.upd n) ?_
  simp only [ResO]
  exact ⟨p, vs, rfl, n, upd_same, RepL.keep (Grow.upd n).keep (fun _ z => z) ds vs r⟩
theorem RepF.scr {ns : List Int} {v : V} (h : RepF K Fz H (.scr ns) v) : ∃ a, v = .ref a ∧ True ∧ SqL K.f H a (ns.map V.int) := by
  simp only [RepF, Rep] at h
  obtain ⟨a, e, q⟩ := h
  exact ⟨a, e, trivial, q.l⟩
end

section
variable {X : Cx} {Fz : Addr → Prop}
theorem opt_if {α : Type} {c : Prop} [Decidable c] {a o : α} (h : (if c then some a else none) = some o) : c ∧ a = o := by
  split at h
  · exact ⟨by assumption, Option.some.inj h⟩
  · cases h
theorem or_add : OpR X (binaryOp .Add) (rOp (kwX X) Fz (binD .add)) := by
  intro pins s σ H x y v u Q I rx ry ⟨d, e, o, hd, he, hm, q⟩
  cases d <;> cases e <;> simp only [binD] at hm <;> try (cases hm; done)
  · cases hm
    exact op_add pins s σ H x y v u Q I rx ry ⟨_, _, hd.int, he.int, q.int⟩
  · obtain ⟨hl, rfl⟩ := opt_if hm
    refine op_add_str pins s σ H x y v u Q I rx ry ⟨_, _, hd.str, he.str, ?_, ?_⟩
    · rw [chS_len, chS_len, ← lim_eq]; exact hl
    · rw [chS_app]; exact q.str
  · obtain ⟨hl, rfl⟩ := opt_if hm
    obtain ⟨a, vs, rfl, ha, ra⟩ := hd.tup
    obtain ⟨b, ws, rfl, hb, rb⟩ := he.tup
    refine op_catF pins s σ H _ _ v u Q I rx ry ⟨a, b, vs, ws, rfl, rfl, ha, hb, ?_, fun e => ?_, fun e1 e2 => ?_, fun _ _ => q.tup (ra.append rb)⟩
    · rw [ra.len, rb.len, ← lim_eq]; exact hl
    · refine q.same ?_
      simp only [Rep]
      exact ⟨b, ws, rfl, hb, by simpa [e] using ra.append rb⟩
    · refine q.same ?_
      simp only [Rep]
      exact ⟨a, vs, rfl, ha, by simpa [e2] using ra.append rb⟩
  · obtain ⟨hl, rfl⟩ := opt_if hm
    obtain ⟨a, vs, rfl, ha, ra⟩ := hd.lst
    obtain ⟨b, ws, rfl, hb, rb⟩ := he.lst
    refine op_cat pins s σ H _ _ v u Q I rx ry ⟨a, b, vs, ws, rfl, rfl, ha, hb, ?_, fun p n => q.lst (ra.append rb) n⟩
    rw [ra.len, rb.len, ← lim_eq]; exact hl
theorem or_sub : OpR X (binaryOp .Sub) (rOp (kwX X) Fz (binD .sub)) := by
  intro pins s σ H x y v u Q I rx ry ⟨d, e, o, hd, he, hm, q⟩
  cases d <;> cases e <;> simp only [binD] at hm <;> try (cases hm; done)
  cases hm
  exact op_sub pins s σ H x y v u Q I rx ry ⟨_, _, hd.int, he.int, q.int⟩
theorem bits_of {i : Int} {n : Nat} (h : i.natAbs < 2 ^ n) (hn : 0 < n) : Builtin.Int.intBits i ≤ n := by
  unfold Builtin.Int.intBits
  split
  · omega
  · rename_i z
    have z0 : i.natAbs ≠ 0 := by simpa using z
    have := (Nat.log2_lt z0).mpr h
    omega
theorem mulOk_c {i j : Int} (h : mulOk i j = true) : IntMulOk i j := by
  unfold mulOk at h
  rw [Bool.or_eq_true] at h
  rcases h with h | h
  · simp only [Bool.or_eq_true, Bool.and_eq_true, decide_eq_true_eq] at h
    exact CMul.ok h
  · simp only [Bool.and_eq_true, decide_eq_true_eq] at h
    have h1 := bits_of (n := 5000) h.1 (by omega)
    have h2 := bits_of (n := 5000) h.2 (by omega)
    refine CMulX.ok ?_
    show (Builtin.Int.intBits i : Int) + (Builtin.Int.intBits j : Int) ≤ 134217728
    omega
theorem op_mulA {X : Cx} : OpR X (binaryOp .Mult) (rI (fun i j => IntMulOk i j) fun i j => .int (i * j)) := opI fun _ _ _ _ _ _ _ hc q => PyProof.Rows.mul_int q hc
theorem powOk_c {i j : Int} (h : powOk i j = true) : 0 ≤ j ∧ (Builtin.Int.intBits i : Int) * j ≤ 2 ^ 27 := by
  unfold powOk at h
  simp only [Bool.or_eq_true, Bool.and_eq_true, decide_eq_true_eq] at h
  obtain ⟨h0, h⟩ := h
  refine ⟨h0, ?_⟩
  rcases h with ⟨h1, h2⟩ | ⟨h1, h2⟩
  · have b := bits_of (n := 64) h2 (by omega)
    have : (Builtin.Int.intBits i : Int) * j ≤ 64 * 1000000 := Int.mul_le_mul (by omega) h1 h0 (by omega)
    omega
  · have b := bits_of (n := 256) h2 (by omega)
    have : (Builtin.Int.intBits i : Int) * j ≤ 256 * 64 := Int.mul_le_mul (by omega) h1 h0 (by omega)
    omega
theorem op_powA {X : Cx} : OpR X (binaryOp .Pow) (rI (fun i j => 0 ≤ j ∧ (Builtin.Int.intBits i : Int) * j ≤ 2 ^ 27) fun i j => .int (i ^ j.toNat)) := opI fun _ _ _ _ _ _ _ hc q => PyProof.Rows.pow_int hc.1 hc.2 q
theorem rep_chS (x : List Char) : ∀ n : Nat, (List.replicate n (chS x).cps).foldl (· ++ ·) #[] = (chS (List.replicate n x).flatten).cps := by
  have key : ∀ (n : Nat) (acc : Array Nat), (List.replicate n (chS x).cps).foldl (· ++ ·) acc = acc ++ (chS (List.replicate n x).flatten).cps := by
    intro n
    induction n with
    | zero => intro acc; simp [chS]
    | succ n ih =>
      intro acc
      rw [List.replicate_succ, List.foldl_cons, ih, List.replicate_succ, List.flatten_cons]
      simp [chS, Array.append_assoc]
  intro n
  rw [key]; simp
theorem or_mul : OpR X (binaryOp .Mult) (rOp (kwX X) Fz (binD .mul)) := by
  intro pins s σ H x y v u Q I rx ry ⟨d, e, o, hd, he, hm, q⟩
  cases d <;> cases e <;> simp only [binD] at hm <;> try (cases hm; done)
  · obtain ⟨hl, rfl⟩ := opt_if hm
    exact op_mulA pins s σ H x y v u Q I rx ry ⟨_, _, hd.int, he.int, mulOk_c hl, q.int⟩
  · rename_i x' j
    obtain ⟨⟨h1, h0, h2⟩, rfl⟩ := opt_if hm
    cases hd.str; cases he.int
    obtain ⟨t, rfl⟩ := rx
    obtain ⟨t', rfl⟩ := ry
    have e1 : (decide (j < -(2 ^ 63 : Int)) || decide (j ≥ 2 ^ 63)) = false := by
      rw [decide_eq_false (by omega), decide_eq_false (by omega)]; rfl
    have hb : ∀ (_ : ¬ j < 1), ¬ (((chS x').length : Int) > (2 ^ 63 - 1) / j) := fun hj => by
      rw [chS_len]
      have : (1000 : Int) ≤ (2 ^ 63 - 1) / j := by
        rw [Int.le_ediv_iff_mul_le (by omega)]
        omega
      omega
    have ht : ¬ j < 1 → Builtin.Str.tooLong ((chS x').length * j.toNat) = false := fun hj => by
      rw [chS_len]
      unfold Builtin.Str.tooLong
      have : x'.length * j.toNat ≤ 1000 * 1000 := Nat.mul_le_mul h2 (by omega)
      first
        | (simp only [decide_eq_false_iff_not]; rw [sizeLine_eq]; omega)
        | (simp; rw [sizeLine_eq]; omega)
    refine PySem.P.mul_str e1 (fun hj _ => hb hj) (fun hj _ => ht hj) ?_
    have q' := q.str
    by_cases hj : j < 1
    · rw [if_pos hj]
      have z : j.toNat = 0 := by omega
      rw [z] at q'
      exact ⟨by decide, ⟨.str Str.empty, H, I.tok _, ⟨_, rfl⟩, q'⟩⟩
    · rw [if_neg hj]
      by_cases hk : (j == 1 || (chS x').length == 0) = true
      · rw [if_pos hk]
        refine ⟨.str (chS x'), H, I, ⟨t, rfl⟩, ?_⟩
        have : (List.replicate j.toNat x').flatten = x' := by
          simp only [Bool.or_eq_true, beq_iff_eq] at hk
          rcases hk with hk | hk
          · subst hk; simp
          · rw [chS_len] at hk
            have : x' = [] := List.eq_nil_of_length_eq_zero hk
            subst this; simp
        rw [this] at q'
        exact q'
      · rw [if_neg hk]
        have es : (⟨(List.replicate j.toNat (chS x').cps).foldl (· ++ ·) #[]⟩ : Str) = chS (List.replicate j.toNat x').flatten := congrArg Str.mk (rep_chS x' j.toNat)
        rw [es]
        refine ⟨?_, ⟨.str (chS (List.replicate j.toNat x').flatten), H, I.tok _, ⟨_, rfl⟩, q'⟩⟩
        have := ht hj
        simp only [Builtin.Str.tooLong, decide_eq_false_iff_not, chS_len] at this
        rw [chS_len]
        have e : (List.replicate j.toNat x').flatten.length = x'.length * j.toNat := by simp [List.length_flatten, Nat.mul_comm]
        rw [e]
        omega
  · rename_i xs j
    obtain ⟨⟨h1, h2, h3, h4⟩, rfl⟩ := opt_if hm
    obtain ⟨a, vs, rfl, ha, ra⟩ := hd.tup
    refine op_repF pins s σ H _ _ v u Q I rx ry ⟨a, j, vs, rfl, he.int, ha, fun e => ?_, h1, h2, ?_, fun k1 => ?_, q.tup (ra.rep _)⟩
    · rw [e] at ra
      have := ra.len
      simp at this; omega
    · rw [ra.len]; exact h3
    · refine q.same ?_
      simp only [Rep]
      exact ⟨a, vs, rfl, ha, by simpa [k1] using ra⟩
  · rename_i xs j
    obtain ⟨⟨h1, h2, h3⟩, rfl⟩ := opt_if hm
    obtain ⟨a, vs, rfl, ha, ra⟩ := hd.lst
    refine op_rep pins s σ H _ _ v u Q I rx ry ⟨a, j, vs, rfl, he.int, ha, by omega, by omega, ?_, fun p n => q.lst (ra.rep _) n⟩
    rw [ra.len, sizeLine_eq]
    have : xs.length * j.toNat ≤ 1000 * 1000 := Nat.mul_le_mul h3 (by omega)
    omega
theorem or_fdiv : OpR X (binaryOp .FloorDiv) (rOp (kwX X) Fz (binD .fdiv)) := by
  intro pins s σ H x y v u Q I rx ry ⟨d, e, o, hd, he, hm, q⟩
  cases d <;> cases e <;> simp only [binD] at hm <;> try (cases hm; done)
  obtain ⟨hl, rfl⟩ := opt_if hm
  exact op_fdiv pins s σ H x y v u Q I rx ry ⟨_, _, hd.int, he.int, hl, q.int⟩
theorem or_mod : OpR X (binaryOp .Mod) (rOp (kwX X) Fz (binD .mod)) := by
  intro pins s σ H x y v u Q I rx ry ⟨d, e, o, hd, he, hm, q⟩
  cases d <;> cases e <;> simp only [binD] at hm <;> try (cases hm; done)
  obtain ⟨hl, rfl⟩ := opt_if hm
  exact op_mod pins s σ H x y v u Q I rx ry ⟨_, _, hd.int, he.int, hl, q.int⟩
theorem or_pow : OpR X (binaryOp .Pow) (rOp (kwX X) Fz (binD .pow)) := by
  intro pins s σ H x y v u Q I rx ry ⟨d, e, o, hd, he, hm, q⟩
  cases d <;> cases e <;> simp only [binD] at hm <;> try (cases hm; done)
  obtain ⟨hl, rfl⟩ := opt_if hm
  exact op_powA pins s σ H x y v u Q I rx ry ⟨_, _, hd.int, he.int, powOk_c hl, q.int⟩
theorem or_shl : OpR X (binaryOp .LShift) (rOp (kwX X) Fz (binD .shl)) := by
  intro pins s σ H x y v u Q I rx ry ⟨d, e, o, hd, he, hm, q⟩
  cases d <;> cases e <;> simp only [binD] at hm <;> try (cases hm; done)
  obtain ⟨hl, rfl⟩ := opt_if hm
  exact op_shl pins s σ H x y v u Q I rx ry ⟨_, _, hd.int, he.int, hl, q.int⟩
def opP : Op → Operator
  | .add => .Add
  | .sub => .Sub
  | .mul => .Mult
  | .fdiv => .FloorDiv
  | .mod => .Mod
  | .pow => .Pow
  | .shl => .LShift
theorem or_bin (o : Op) : OpR X (binaryOp (opP o)) (rOp (kwX X) Fz (binD o)) := by
  cases o
  · exact or_add
  · exact or_sub
  · exact or_mul
  · exact or_fdiv
  · exact or_mod
  · exact or_pow
  · exact or_shl
end

/-! ### comparisons -/
section
variable {X : Cx} {Fz : Addr → Prop}
theorem eqD_or {d e : D} {b : Bool} (h : eqD d e = some b) : (D.shp d 64 = true ∧ D.shp e 64 = true ∧ D.eqv d e = b) ∨ (∃ a, d = .rp a ∧ e = .rp a ∧ b = true) ∨ ∃ ks vs t, d = .dk ks vs ∧ e = .str t ∧ b = false := by
  have gen : ∀ {x y : D} {b : Bool}, (if D.shp x 64 && D.shp y 64 then some (D.eqv x y) else none) = some b → D.shp x 64 = true ∧ D.shp y 64 = true ∧ D.eqv x y = b := fun {x y b} h => by
    obtain ⟨h1, h2⟩ := opt_if h
    rw [Bool.and_eq_true] at h1
    exact ⟨h1.1, h1.2, h2⟩
  cases d with
  | rp a =>
    cases e with
    | rp c =>
      simp only [eqD] at h
      obtain ⟨h1, rfl⟩ := opt_if h
      have := D.beq_eq _ _ h1
      subst this
      exact .inr (.inl ⟨_, rfl, rfl, rfl⟩)
    | _ => simp [eqD] at h
  | dk ks vs =>
    cases e with
    | str t =>
      simp only [eqD] at h
      cases h
      exact .inr (.inr ⟨_, _, _, rfl, rfl, rfl⟩)
    | _ => simp [eqD] at h
  | _ => exact .inl (gen h)
theorem oc_eq (hu : X.A.units + 64 < cLine) : OpR X (compareOp .Eq) (rCm (kwX X) Fz (cmpD .eq)) := by
  intro pins s σ H x y v u Q I rx ry ⟨d, e, b, hd, he, hm, q⟩
  simp only [cmpD] at hm
  rcases eqD_or hm with ⟨h1, h2, rfl⟩ | ⟨a, rfl, rfl, rfl⟩ | ⟨ks, vs, t, rfl, rfl, rfl⟩
  · refine op_eqD hu pins s σ H x y v u Q I rx ry ⟨_, _, dpF_of h1 hd, dpF_of h2 he, py_shaped h1, py_shaped h2, ?_⟩
    rw [py_eqv d e 64 64 h1 h2]
    exact q
  · simp only [RepF, Rep] at hd he
    subst hd he
    exact op_eq pins s σ H _ _ v u Q I rx ry ⟨rfl, by simpa using q⟩
  · simp only [RepF] at hd
    obtain ⟨a, es, rfl, ha, _⟩ := hd
    have et := he.str
    subst et
    cases rx
    obtain ⟨k, rfl⟩ := ry
    obtain ⟨⟨cls, dd, data, sl⟩, es2, ep, ho, hX, hdt⟩ := dO_obj I ha
    obtain ⟨hc, _⟩ := hX
    simp only at hc hdt
    subst hc hdt
    exact rc_dict_str (chS t) k ho (by omega) ⟨.bl false, H, I, rfl, q⟩
theorem oc_ne (hu : X.A.units + 64 < cLine) : OpR X (compareOp .NotEq) (rCm (kwX X) Fz (cmpD .ne)) := by
  intro pins s σ H x y v u Q I rx ry ⟨d, e, b, hd, he, hm, q⟩
  simp only [cmpD] at hm
  obtain ⟨b0, hm2, rfl⟩ := Option.map_eq_some_iff.mp hm
  rcases eqD_or hm2 with ⟨h1, h2, rfl⟩ | ⟨a, rfl, rfl, rfl⟩ | ⟨ks, vs, t, rfl, rfl, rfl⟩
  · refine op_neD hu pins s σ H x y v u Q I rx ry ⟨_, _, dpF_of h1 hd, dpF_of h2 he, py_shaped h1, py_shaped h2, ?_⟩
    rw [py_eqv d e 64 64 h1 h2]
    exact q
  · simp only [RepF, Rep] at hd he
    subst hd he
    exact op_ne pins s σ H _ _ v u Q I rx ry ⟨rfl, by simpa using q⟩
  · simp only [RepF] at hd
    obtain ⟨a, es, rfl, ha, _⟩ := hd
    have et := he.str
    subst et
    cases rx
    obtain ⟨k, rfl⟩ := ry
    obtain ⟨⟨cls, dd, data, sl⟩, es2, ep, ho, hX, hdt⟩ := dO_obj I ha
    obtain ⟨hc, _⟩ := hX
    simp only at hc hdt
    subst hc hdt
    exact rn_dict_str (chS t) k ho (by omega) ⟨.bl true, H, I, rfl, q⟩
theorem oc_lt (hu : X.A.units + 64 < cLine) : OpR X (compareOp .Lt) (rCm (kwX X) Fz (cmpD .lt)) := by
  intro pins s σ H x y v u Q I rx ry ⟨d, e, b, hd, he, hm, q⟩
  cases d <;> cases e <;> simp only [cmpD] at hm <;> try (cases hm; done)
  · cases hm
    exact op_lt pins s σ H x y v u Q I rx ry ⟨_, _, hd.int, he.int, q⟩
  · cases hm
    refine op_lt_str pins s σ H x y v u Q I rx ry ⟨_, _, hd.str, he.str, ?_⟩
    rename_i a b
    rw [show decide ((chS a).cps.toList < (chS b).cps.toList) = chLt a b from by rw [← chLt_eq a b]; exact decide_eq_decide.mpr (by simp [chS])]
    exact q
  · obtain ⟨hc, rfl⟩ := opt_if hm
    rw [Bool.and_eq_true, Bool.and_eq_true] at hc
    obtain ⟨⟨h1, h2⟩, h3⟩ := hc
    rename_i xs ys
    have g := gLt_py (.tup xs) (.tup ys) (by simp only [D.alk]; exact h1)
    have s1 : D.shp (.tup xs) 61 = true := by simp only [D.shp]; exact h2
    have s2 : D.shp (.tup ys) 61 = true := by simp only [D.shp]; exact h3
    obtain ⟨as, r1⟩ := Dp.reads I _ x v (dpF_of s1 hd) rx
    obtain ⟨bs, r2⟩ := Dp.reads I _ y u (dpF_of s2 he) ry
    have l1 := (py_lay _ 61 s1).2
    refine PySem.W.lt_data r1 r2 (alk_py (.tup xs) (.tup ys) (by simp only [D.alk]; exact h1)) (by simp [pyD]) (by omega) ?_
    rw [← g]
    exact ⟨.bl _, H, I, rfl, q⟩
theorem oc_le : OpR X (compareOp .LtE) (rCm (kwX X) Fz (cmpD .le)) := by
  intro pins s σ H x y v u Q I rx ry ⟨d, e, b, hd, he, hm, q⟩
  cases d <;> cases e <;> simp only [cmpD] at hm <;> try (cases hm; done)
  cases hm
  exact op_le pins s σ H x y v u Q I rx ry ⟨_, _, hd.int, he.int, q⟩
theorem oc_gt : OpR X (compareOp .Gt) (rCm (kwX X) Fz (cmpD .gt)) := by
  intro pins s σ H x y v u Q I rx ry ⟨d, e, b, hd, he, hm, q⟩
  cases d <;> cases e <;> simp only [cmpD] at hm <;> try (cases hm; done)
  cases hm
  exact op_gt pins s σ H x y v u Q I rx ry ⟨_, _, hd.int, he.int, q⟩
theorem oc_ge : OpR X (compareOp .GtE) (rCm (kwX X) Fz (cmpD .ge)) := by
  intro pins s σ H x y v u Q I rx ry ⟨d, e, b, hd, he, hm, q⟩
  cases d <;> cases e <;> simp only [cmpD] at hm <;> try (cases hm; done)
  cases hm
  exact op_ge pins s σ H x y v u Q I rx ry ⟨_, _, hd.int, he.int, q⟩
theorem non_iff {K : KW} {H : Hp} {d : D} {v : V} (h : RepF K Fz H d v) : decide (v = .non) = (match d with
    | .non => true
    | _ => false) := by
  cases d <;> simp only [RepF, Rep] at h
  · subst h; simp
  · subst h; simp
  · subst h; simp
  · subst h; simp
  · obtain ⟨a, vs, rfl, _⟩ := h; simp
  · obtain ⟨a, vs, rfl, _⟩ := h; simp
  · obtain ⟨a, vs, rfl, _⟩ := h; simp
  · obtain ⟨a, rfl, _⟩ := h; simp
  · subst h; simp
theorem oc_is : OpR X (compareOp .Is) (rCm (kwX X) Fz (cmpD .is_)) := by
  intro pins s σ H x y v u Q I rx ry ⟨d, e, b, hd, he, hm, q⟩
  cases e with
  | non =>
    simp only [cmpD] at hm
    refine op_isN pins s σ H x y v u Q I rx ry ⟨he.non, ?_⟩
    rw [non_iff hd]
    cases d <;> (cases hm; exact q)
  | bl b2 =>
    cases d <;> simp only [cmpD] at hm <;> try (cases hm; done)
    cases hm
    exact op_isBl pins s σ H x y v u Q I rx ry ⟨_, _, hd.bl, he.bl, by rw [← Bool.beq_eq_decide_eq]; exact q⟩
  | _ => cases d <;> (simp only [cmpD] at hm; cases hm)
theorem oc_isnot : OpR X (compareOp .IsNot) (rCm (kwX X) Fz (cmpD .isnot)) := by
  intro pins s σ H x y v u Q I rx ry ⟨d, e, b, hd, he, hm, q⟩
  cases e with
  | non =>
    simp only [cmpD] at hm
    refine op_notN pins s σ H x y v u Q I rx ry ⟨he.non, ?_⟩
    rw [non_iff hd]
    cases d <;> (cases hm; exact q)
  | bl b2 =>
    cases d <;> simp only [cmpD] at hm <;> try (cases hm; done)
    cases hm
    exact op_notBl pins s σ H x y v u Q I rx ry ⟨_, _, hd.bl, he.bl, by rw [← Bool.beq_eq_decide_eq]; exact q⟩
  | _ => cases d <;> (simp only [cmpD] at hm; cases hm)
theorem flat_rep {K : KW} {H : Hp} {d : D} {v : V} (f : flat d = true) (h : Rep K Fz H d v) : flatV v = true := by
  cases d <;> simp [flat] at f <;> simp only [Rep] at h <;> subst h <;> rfl
theorem flat_repF {K : KW} {H : Hp} {d : D} {v : V} (f : flat d = true) (h : RepF K Fz H d v) : Rep K Fz H d v := by
  cases d <;> simp [flat] at f <;> simpa only [RepF] using h
theorem eqV_rep {K : KW} {H : Hp} {d e : D} {v w : V} (f : flat d = true) (f' : flat e = true) (h : Rep K Fz H d v) (h' : Rep K Fz H e w) : eqV v w = D.eqv d e := by
  cases d <;> cases e <;> simp [flat] at f f' <;> simp only [Rep] at h h' <;> subst h h' <;> simp [eqV, D.eqv]
  rename_i a b
  exact chS_beq a b
theorem flat_all {K : KW} {H : Hp} : ∀ {ds : List D} {vs : List V}, ds.all flat = true → RepL K Fz H ds vs → vs.all flatV = true
  | [], vs, _, h => by rw [repL_nil.mp h]; rfl
  | d :: ds, vs, f, h => by
    simp only [RepL] at h
    obtain ⟨v, r, rfl, h1, h2⟩ := h
    rw [List.all_cons, Bool.and_eq_true] at f ⊢
    exact ⟨flat_rep f.1 h1, flat_all f.2 h2⟩
theorem inV_rep {K : KW} {H : Hp} {d : D} {v : V} (fd : flat d = true) (hd : Rep K Fz H d v) : ∀ {ds : List D} {vs : List V}, ds.all flat = true → RepL K Fz H ds vs → inV v vs = ds.any fun z => D.eqv z d
  | [], vs, _, h => by rw [repL_nil.mp h]; rfl
  | e :: ds, vs, f, h => by
    simp only [RepL] at h
    obtain ⟨w, r, rfl, h1, h2⟩ := h
    rw [List.all_cons, Bool.and_eq_true] at f
    unfold inV
    rw [List.any_cons, List.any_cons, eqV_rep f.1 fd h1 hd]
    congr 1
    exact inV_rep fd hd f.2 h2
theorem mem_chS (c : Char) (t : List Char) : decide (c.toNat ∈ (chS t).cps.toList) = decide (c ∈ t) := by
  have : (c.toNat ∈ (chS t).cps.toList) ↔ c ∈ t := by
    simp only [chS, List.mem_map]
    constructor
    · rintro ⟨a, h1, h2⟩
      have := natCh_inj (x := [a]) (y := [c]) (by simp [h2])
      simp at this
      rw [← this]; exact h1
    · intro h
      exact ⟨c, h, rfl⟩
  by_cases e : c ∈ t
  · rw [decide_eq_true e, decide_eq_true (this.mpr e)]
  · rw [decide_eq_false e, decide_eq_false fun z => e (this.mp z)]
end

theorem kyK_inj {a b : Ky} (ha : a.isT = false) (hb : b.isT = false) (h : kyK a = kyK b) : a = b := by
  cases a <;> cases b <;> simp only [kyK, Ky.isT] at h ha hb <;> try (cases ha; done)
  all_goals try (cases hb; done)
  · cases h; rfl
  · cases h
  · cases h
  · rw [chS_inj (Sum.inr.inj h)]
theorem kV_ky {k : Ky} (hk : k.isT = false) : kV (kyK k) = (match k with
    | .i n => V.int n
    | .s cs => V.str (chS cs)
    | .t _ => V.non) := by
  cases k with
  | i n => rfl
  | s n => rfl
  | t xs => cases hk
/-- a key that may be looked up -/
theorem kyIn_or {ks : List Ky} {d : D} {k : Ky} (h : kyIn ks d = some k) : kyOf d = some k ∧ ((k.isT = false ∧ smpL ks = true) ∨ (k.isT = true ∧ allT ks = true)) := by
  unfold kyIn at h
  obtain ⟨k', h1, h⟩ := Option.bind_eq_some_iff.mp h
  obtain ⟨h2, e⟩ := opt_if h
  cases e
  refine ⟨h1, ?_⟩
  cases hk : k.isT with
  | false => exact .inl ⟨rfl, by rw [← okK_smp hk]; exact h2⟩
  | true => exact .inr ⟨rfl, by rw [← okK_t hk]; exact h2⟩
section
variable {X : Cx} {Fz : Addr → Prop} {K : KW} {H : Hp}
theorem ky_rep {d : D} {k : Ky} {v : V} (h : kyOf d = some k) (hk : k.isT = false) (r : RepF K Fz H d v) : v = kV (kyK k) := by
  cases d <;> simp only [kyOf] at h <;> try (cases h; done)
  rotate_right
  · split at h
    · obtain ⟨ks, _, rfl⟩ := Option.map_eq_some_iff.mp h
      cases hk
    · cases h
  · cases h; exact r.int
  · cases h; exact r.str
theorem valV_cons {κ : Type} [DecidableEq κ] (a : κ) (x : V) (es : List (κ × V)) (k : κ) : valV ((a, x) :: es) k = if a = k then some x else valV es k := by
  unfold valV
  rw [List.find?_cons]
  by_cases e : a = k
  · simp [e]
  · simp [e]
theorem look_some : ∀ {ks : List Ky} {ds : List D} {es : List (L2.Key × V)} {k : Ky} {d : D}, es.map (·.1) = ks.map kyK → smpL ks = true → k.isT = false → RepL K Fz H ds (es.map (·.2)) → lookK k ks ds = some d → ∃ v, valV es (kyK k) = some v ∧ Rep K Fz H d v
  | [], _, _, _, _, _, _, _, _, h => by simp [lookK] at h
  | a :: ks, ds, [], _, _, h1, _, _, _, _ => by simp at h1
  | a :: ks, [], (b, x) :: es, _, _, _, _, _, h2, _ => by simp [RepL] at h2
  | a :: ks, d' :: ds, (b, x) :: es, k, d, h1, hs, hk, h2, h => by
    simp only [smpL, List.all_cons, Bool.and_eq_true, beq_iff_eq] at hs
    simp only [List.map_cons, List.cons.injEq] at h1
    simp only [List.map_cons] at h2
    obtain ⟨r1, r2⟩ := repL_cons.mp h2
    simp only [lookK] at h
    rw [valV_cons]
    by_cases e : a = k
    · rw [if_pos e] at h
      cases h
      rw [if_pos (by rw [h1.1, e])]
      exact ⟨x, rfl, r1⟩
    · rw [if_neg e] at h
      rw [if_neg (fun z => e (kyK_inj hs.1 hk (h1.1.symm.trans z)))]
      exact look_some h1.2 hs.2 hk r2 h
theorem look_isSome : ∀ {ks : List Ky} {es : List (L2.Key × V)} (k : Ky), es.map (·.1) = ks.map kyK → smpL ks = true → k.isT = false → (valV es (kyK k)).isSome = decide (k ∈ ks)
  | [], [], _, _, _, _ => by simp [valV]
  | [], _ :: _, _, h1, _, _ => by simp at h1
  | a :: ks, [], _, h1, _, _ => by simp at h1
  | a :: ks, (b, x) :: es, k, h1, hs, hk => by
    simp only [smpL, List.all_cons, Bool.and_eq_true, beq_iff_eq] at hs
    simp only [List.map_cons, List.cons.injEq] at h1
    rw [valV_cons]
    by_cases e : a = k
    · rw [if_pos (by rw [h1.1, e])]
      simp [e]
    · rw [if_neg (fun z => e (kyK_inj hs.1 hk (h1.1.symm.trans z))), look_isSome k h1.2 hs.2 hk]
      have : ¬ k = a := fun z => e z.symm
      simp [this]
end
section
variable {X : Cx} {Fz : Addr → Prop}
theorem in_seq {K : KW} {H : Hp} {d e : D} {x y : V} {b : Bool} (hd : RepF K Fz H d x) (he : RepF K Fz H e y) (hm : inD d e = some b) :
    (∃ p xs, y = .ref p ∧ (SqL K.f H p xs ∨ SqT K.f H p xs) ∧ flatV x = true ∧ xs.all flatV = true ∧ b = inV x xs) ∨
    (∃ c t, d = .str [c] ∧ e = .str t ∧ b = decide (c ∈ t)) ∨
    (∃ a o, y = .ref a ∧ DGet H a x o ∧ b = o.isSome) ∨
    (∃ ys, (e = .lst ys ∨ e = .tup ys) ∧ D.shp d 60 = true ∧ D.shpL ys 60 = true ∧ b = ys.any fun z => D.eqv z d) ∨
    (∃ ys, (e = .lst ys ∨ e = .tup ys) ∧ ys.all (okY d) = true ∧ b = ys.any fun z => D.eqv z d) ∨
    (∃ a p k ks ds, y = .ref a ∧ x = .ref p ∧ TD K Fz H a ks ds ∧ TK K H k p ∧ b = decide (k ∈ ks)) := by
  cases e <;> simp only [inD] at hm <;> try (cases hm; done)
  · rename_i t
    split at hm
    · rename_i c
      cases hm
      exact .inr (.inl ⟨c, t, rfl, rfl, rfl⟩)
    · cases hm
  · rename_i ys
    by_cases hl : (flat d && ys.all flat) = true
    case neg =>
      rw [if_neg hl] at hm
      by_cases h2 : (D.shp d 60 && D.shpL ys 60) = true
      · rw [if_pos h2] at hm
        cases hm
        rw [Bool.and_eq_true] at h2
        exact .inr (.inr (.inr (.inl ⟨ys, .inr rfl, h2.1, h2.2, rfl⟩)))
      · rw [if_neg h2] at hm
        obtain ⟨h3, rfl⟩ := opt_if hm
        exact .inr (.inr (.inr (.inr (.inl ⟨ys, .inr rfl, h3, rfl⟩))))
    rw [if_pos hl] at hm
    cases hm
    rw [Bool.and_eq_true] at hl
    obtain ⟨a, vs, rfl, ha, ra⟩ := he.tup
    have rd := flat_repF hl.1 hd
    exact .inl ⟨a, vs, rfl, .inr ha.t, flat_rep hl.1 rd, flat_all hl.2 ra, (inV_rep hl.1 rd hl.2 ra).symm⟩
  · rename_i ys
    by_cases hl : (flat d && ys.all flat) = true
    case neg =>
      rw [if_neg hl] at hm
      by_cases h2 : (D.shp d 60 && D.shpL ys 60) = true
      · rw [if_pos h2] at hm
        cases hm
        rw [Bool.and_eq_true] at h2
        exact .inr (.inr (.inr (.inl ⟨ys, .inl rfl, h2.1, h2.2, rfl⟩)))
      · rw [if_neg h2] at hm
        obtain ⟨h3, rfl⟩ := opt_if hm
        exact .inr (.inr (.inr (.inr (.inl ⟨ys, .inl rfl, h3, rfl⟩))))
    rw [if_pos hl] at hm
    cases hm
    rw [Bool.and_eq_true] at hl
    obtain ⟨a, vs, rfl, ha, ra⟩ := he.lst
    have rd := flat_repF hl.1 hd
    exact .inl ⟨a, vs, rfl, .inl (SqL.of ha), flat_rep hl.1 rd, flat_all hl.2 ra, (inV_rep hl.1 rd hl.2 ra).symm⟩
  · rename_i ks vs
    split at hm
    · rename_i k hk
      cases hm
      obtain ⟨a, es, rfl, ha, hks, hds⟩ := he.dk
      obtain ⟨hk, ⟨h1, h2⟩ | ⟨h1, h2⟩⟩ := kyIn_or hk
      · obtain ⟨l, l1, l2, l3, _⟩ := dO_smp (w := K.w) (a := a) hks h2
        rw [l1] at ha
        refine .inr (.inr (.inl ⟨a, _, rfl, ?_, (look_isSome k l2 h2 h1).symm⟩))
        rw [ky_rep hk h1 hd]
        exact .inl ⟨_, _, ha, rfl, rfl⟩
      · obtain ⟨p, rfl, tk⟩ := TK.of hk h1 hd
        exact .inr (.inr (.inr (.inr (.inr ⟨a, p, k, ks, vs, rfl, rfl, ⟨⟨es, ha, hks, hds⟩, h2⟩, tk, rfl⟩))))
    · cases hm
theorem any_py : ∀ (xs : List D) (e : D) (n : Nat), D.shpL xs n = true → D.shp e n = true → (pyL xs).any (fun y => PyData.eqv y (pyD e)) = xs.any fun y => D.eqv y e
  | [], e, n, _, _ => by simp [pyL]
  | x :: xs, e, n, p, q => by
    simp only [D.shpL, Bool.and_eq_true] at p
    simp only [pyL, List.any_cons, any_py xs e n p.2 q, py_eqv x e n n p.1 q]
theorem in_room {xs : List D} {e : D} {n : Nat} (hu : n + 64 < cLine) (q : D.shp e 60 = true) : n + 1 + min (PyData.depthAll (pyL xs)) (pyD e).depth < cLine := by
  have := (py_lay e 60 q).2
  omega
theorem plainL_of {xs : List D} (p : D.shpL xs 60 = true) : PyData.plainAll (pyL xs) = true := by
  have := PyData.plain_of_canLay0 _ (py_lay (.lst xs) 61 (by simpa only [D.shp] using p)).1
  simpa only [pyD, PyData.plain] using this
theorem oc_in (hu : X.A.units + 64 < cLine) : OpR X (compareOp .In) (rCm (kwX X) Fz (cmpD .in_)) := by
  intro pins s σ H x y v u Q I rx ry ⟨d, e, b, hd, he, hm, q⟩
  simp only [cmpD] at hm
  rcases in_seq hd he hm with ⟨p, xs, rfl, h1, h2, h3, rfl⟩ | ⟨c, t, rfl, rfl, rfl⟩ | ⟨a, o, rfl, g, rfl⟩ | ⟨ys, hy, h2, h3, rfl⟩ | ⟨ys, hy, h2, rfl⟩ | ⟨a, p, k, ks, ds, rfl, rfl, T, tk, rfl⟩
  rotate_right
  · cases ry
    exact t_in hu I T tk rx fun s' I' => ⟨.bl _, H, I', rfl, q⟩
  rotate_right
  · rcases hy with rfl | rfl
    · exact (in_anyL I h2 he hd ry rx (by omega)).1 ⟨.bl _, H, I, rfl, q⟩
    · exact (in_any I h2 he hd ry rx (by omega)).1 ⟨.bl _, H, I, rfl, q⟩
  rotate_right
  · have s3 : D.shp (.lst ys) 61 = true := by simp only [D.shp]; exact h3
    have s4 : D.shp (.tup ys) 61 = true := by simp only [D.shp]; exact h3
    obtain ⟨as, r1⟩ := Dp.reads I _ x v (dpF_of h2 hd) rx
    rw [← any_py ys d 60 h3 h2] at q
    rcases hy with rfl | rfl
    · obtain ⟨bs, r2⟩ := Dp.reads I _ y u (dpF_of s3 he) ry
      exact SeqAt.in_list_data r2 r1 (plainL_of h3) (PyData.plain_of_canLay0 _ (py_lay d 60 h2).1) (in_room hu h2) ⟨.bl _, H, I, rfl, q⟩
    · obtain ⟨bs, r2⟩ := Dp.reads I _ y u (dpF_of s4 he) ry
      exact SeqAt.in_tuple_data r2 r1 (plainL_of h3) (PyData.plain_of_canLay0 _ (py_lay d 60 h2).1) (in_room hu h2) ⟨.bl _, H, I, rfl, q⟩
  · exact op_in_seq pins s σ H x _ v u Q I rx ry ⟨p, xs, rfl, h1, h2, h3, q⟩
  · refine op_in_sign pins s σ H x y v u Q I rx ry ⟨c.toNat, chS t, hd.str, he.str, ?_⟩
    rw [mem_chS]; exact q
  · cases ry
    exact d_in (by omega) I g rx fun s' I' => ⟨.bl _, H, I', rfl, q⟩
theorem oc_notin (hu : X.A.units + 64 < cLine) : OpR X (compareOp .NotIn) (rCm (kwX X) Fz (cmpD .notin)) := by
  intro pins s σ H x y v u Q I rx ry ⟨d, e, b, hd, he, hm, q⟩
  simp only [cmpD] at hm
  obtain ⟨b', hn, rfl⟩ := Option.map_eq_some_iff.mp hm
  rcases in_seq hd he hn with ⟨p, xs, rfl, h1, h2, h3, rfl⟩ | ⟨c, t, rfl, rfl, rfl⟩ | ⟨a, o, rfl, g, rfl⟩ | ⟨ys, hy, h2, h3, rfl⟩ | ⟨ys, hy, h2, rfl⟩ | ⟨a, p, k, ks, ds, rfl, rfl, T, tk, rfl⟩
  rotate_right
  · cases ry
    exact t_notIn hu I T tk rx fun s' I' => ⟨.bl _, H, I', rfl, q⟩
  rotate_right
  · rcases hy with rfl | rfl
    · exact (in_anyL I h2 he hd ry rx (by omega)).2 ⟨.bl _, H, I, rfl, q⟩
    · exact (in_any I h2 he hd ry rx (by omega)).2 ⟨.bl _, H, I, rfl, q⟩
  rotate_right
  · have s3 : D.shp (.lst ys) 61 = true := by simp only [D.shp]; exact h3
    have s4 : D.shp (.tup ys) 61 = true := by simp only [D.shp]; exact h3
    obtain ⟨as, r1⟩ := Dp.reads I _ x v (dpF_of h2 hd) rx
    rw [← any_py ys d 60 h3 h2] at q
    rcases hy with rfl | rfl
    · obtain ⟨bs, r2⟩ := Dp.reads I _ y u (dpF_of s3 he) ry
      exact SeqAt.notIn_list_data r2 r1 (plainL_of h3) (PyData.plain_of_canLay0 _ (py_lay d 60 h2).1) (in_room hu h2) ⟨.bl _, H, I, rfl, q⟩
    · obtain ⟨bs, r2⟩ := Dp.reads I _ y u (dpF_of s4 he) ry
      exact SeqAt.notIn_tuple_data r2 r1 (plainL_of h3) (PyData.plain_of_canLay0 _ (py_lay d 60 h2).1) (in_room hu h2) ⟨.bl _, H, I, rfl, q⟩
  · exact op_notIn_seq pins s σ H x _ v u Q I rx ry ⟨p, xs, rfl, h1, h2, h3, q⟩
  · refine op_notIn_sign pins s σ H x y v u Q I rx ry ⟨c.toNat, chS t, hd.str, he.str, ?_⟩
    rw [mem_chS]; exact q
  · cases ry
    exact d_notIn (by omega) I g rx fun s' I' => ⟨.bl _, H, I', rfl, q⟩
def cmP : Cm → CmpOp
  | .eq => .Eq
  | .ne => .NotEq
  | .lt => .Lt
  | .le => .LtE
  | .gt => .Gt
  | .ge => .GtE
  | .is_ => .Is
  | .isnot => .IsNot
  | .in_ => .In
  | .notin => .NotIn
theorem oc_cmp (hu : X.A.units + 64 < cLine) (o : Cm) : OpR X (compareOp (cmP o)) (rCm (kwX X) Fz (cmpD o)) := by
  cases o
  · exact oc_eq hu
  · exact oc_ne hu
  · exact oc_lt hu
  · exact oc_le
  · exact oc_gt
  · exact oc_ge
  · exact oc_is
  · exact oc_isnot
  · exact oc_in hu
  · exact oc_notin hu
/-! ### places -/
theorem ixN_eq (n : Nat) (i : Int) : Ev.ixN n i = L2.ixN n i := rfl
theorem at_rep {K : KW} {H : Hp} {ds : List D} {vs : List V} {i : Int} {d : D} (r : RepL K Fz H ds vs) (h : Ev.atI ds i = some d) : ∃ v, L2.atI vs i = some v ∧ Rep K Fz H d v := by
  unfold Ev.atI at h
  unfold L2.atI
  rw [r.len, ← ixN_eq]
  cases e : Ev.ixN ds.length i with
  | none => rw [e] at h; cases h
  | some j =>
    rw [e] at h
    obtain ⟨v, h1, h2⟩ := r.get (i := j) h
    exact ⟨v, h1, h2⟩
theorem at_map {α β : Type} {f : α → β} {xs : List α} {i : Int} {y : α} (h : Ev.atI xs i = some y) : L2.atI (xs.map f) i = some (f y) := by
  unfold Ev.atI at h
  unfold L2.atI
  rw [List.length_map, ← ixN_eq]
  cases e : Ev.ixN xs.length i with
  | none => rw [e] at h; cases h
  | some j =>
    rw [e] at h
    have h : xs[j]? = some y := h
    simp [h]
theorem ix_D (hu : X.A.units + 64 < cLine) : IxR X (rOp (kwX X) Fz fun d e => (ixD d e).map .val) := by
  intro value slice pins s σ H x y v u Q I rx ry ⟨d, e, o, hd, he, hm, q⟩ hs
  obtain ⟨r, hn, rfl⟩ := Option.map_eq_some_iff.mp hm
  clear hm
  have hm := hn
  clear hn
  cases d <;> simp only [ixD] at hm <;> try (cases hm; done)
  · rename_i cs
    cases e <;> simp only at hm <;> try (cases hm; done)
    rename_i i
    obtain ⟨hl, hm⟩ := (show cs.length ≤ lim ∧ (Ev.atI cs i).map (fun c => D.str [c]) = some r by
      split at hm
      · exact ⟨by assumption, hm⟩
      · cases hm)
    obtain ⟨c, hc, rfl⟩ := Option.map_eq_some_iff.mp hm
    refine ix_str value slice pins s σ H x y v u Q I rx ry ⟨chS cs, i, c.toNat, hd.str, he.int, ?_, ?_, ?_⟩ hs
    · rw [chS_len, ← lim_eq]; exact hl
    · have := at_map (f := Char.toNat) hc
      simpa [chS] using this
    · have := q.str
      simpa [chS] using this
  · rename_i xs
    cases e <;> simp only at hm <;> try (cases hm; done)
    rename_i i
    obtain ⟨a, vs, rfl, ha, ra⟩ := hd.tup
    obtain ⟨w, h1, h2⟩ := at_rep ra hm
    exact ix_tup value slice pins s σ H _ y v u Q I rx ry ⟨a, vs, i, w, rfl, he.int, ha.t, h1, q.same h2⟩ hs
  · rename_i xs
    cases e <;> simp only at hm <;> try (cases hm; done)
    rename_i i
    obtain ⟨a, vs, rfl, ha, ra⟩ := hd.lst
    obtain ⟨w, h1, h2⟩ := at_rep ra hm
    exact ix_list value slice pins s σ H _ y v u Q I rx ry ⟨a, vs, i, w, rfl, he.int, SqL.of ha, h1, q.same h2⟩ hs
  · rename_i ks vs
    obtain ⟨k, hk, hm⟩ := Option.bind_eq_some_iff.mp hm
    obtain ⟨a, es, rfl, ha, hks, ra⟩ := hd.dk
    cases rx
    obtain ⟨hk, ⟨k1, k2⟩ | ⟨k1, k2⟩⟩ := kyIn_or hk
    rotate_right
    · obtain ⟨p, rfl, tk⟩ := TK.of hk k1 he
      obtain ⟨o, _, _, ho, hc, _⟩ := dO_obj I ha
      exact PyProof.Rows.tail_any ⟨o, ho, hc.1⟩ PySem.F.slot_dict_getitem.lookup (t_getItem hu I ⟨⟨es, ha, hks, ra⟩, k2⟩ tk hm ry fun v w' s' I' r' q' => ⟨v, H, I', r', q.same q'⟩) hs
    obtain ⟨l, l1, l2, l3, _⟩ := dO_smp (w := X.w) (a := a) hks k2
    rw [show (kwX X).w = X.w from rfl, l1] at ha
    rw [← l3] at ra
    obtain ⟨w, h1, h2⟩ := look_some l2 k2 k1 ra hm
    have g : DGet H a y (some w) := by
      rw [ky_rep hk k1 he, ← h1]
      exact .inl ⟨_, _, ha, rfl, rfl⟩
    exact PyProof.Rows.tail_any (dict_typeIs I g) PySem.F.slot_dict_getitem.lookup (d_getItem (by omega) I g ry fun w' s' I' r' => ⟨w, H, I', r', q.same h2⟩) hs
  · rename_i ns
    cases e <;> simp only at hm <;> try (cases hm; done)
    rename_i i
    obtain ⟨n, hc, rfl⟩ := Option.map_eq_some_iff.mp hm
    obtain ⟨a, rfl, _, ha⟩ := hd.scr
    exact ix_list value slice pins s σ H _ y v u Q I rx ry ⟨a, _, i, .int n, rfl, he.int, ha, at_map hc, q.int⟩ hs
theorem cut_eq {ds : List D} {vs : List V} {K : KW} {H : Hp} (r : RepL K Fz H ds vs) (lo hi : Option Int) : RepL K Fz H (Ev.cut ds lo hi) (cutV vs lo hi) := by
  unfold Ev.cut cutV
  have e : ∀ n d o, Ev.sIx n d o = HT.sIx n d o := fun n d o => by cases o <;> rfl
  rw [r.len, ← e, ← e]
  exact (r.drop _).take _
theorem cut_all {α : Type} {xs : List α} {lo hi : Option Int} (h : HT.sIx xs.length 0 lo = 0 ∧ HT.sIx xs.length xs.length hi = xs.length) : Ev.cut xs lo hi = xs := by
  unfold Ev.cut
  have e : ∀ n d o, Ev.sIx n d o = HT.sIx n d o := fun n d o => by cases o <;> rfl
  rw [e, e, h.1, h.2]
  simp
def rSlD (K : KW) (Fz : Addr → Prop) : V → Option Int → Option Int → Hp → VK → Prop := fun x lo hi H Q => ∃ d o, RepF K Fz H d x ∧ slD d lo hi = some o ∧ Res K Fz H o Q
theorem sl_D : SlR X (rSlD (kwX X) Fz) := by
  intro pins s σ H x v vl vu lo hi sl Q I rx hs pl pu ⟨d, o, hd, hm, q⟩
  cases d <;> simp only [slD] at hm <;> try (cases hm; done)
  · rename_i cs
    obtain ⟨hl, rfl⟩ := opt_if hm
    refine sl_str pins s σ H x v vl vu lo hi sl Q I rx hs pl pu ⟨chS cs, hd.str, ?_, ?_⟩
    · rw [chS_len, ← lim_eq]; exact hl
    · have : cutS (chS cs) lo hi = chS (Ev.cut cs lo hi) := by
        have e : ∀ n d o, Ev.sIx n d o = HT.sIx n d o := fun n d o => by cases o <;> rfl
        unfold cutS Ev.cut
        simp only [chS, e]
        simp [List.map_take, List.map_drop, Str.length]
      rw [this]
      exact q.str
  · rename_i xs
    cases hm
    obtain ⟨a, vs, rfl, ha, ra⟩ := hd.tup
    refine sl_tupF pins s σ H _ v vl vu lo hi sl Q I rx hs pl pu ⟨a, vs, rfl, ha, fun h => ?_, q.tup (cut_eq ra lo hi)⟩
    refine q.same ?_
    simp only [Rep]
    rw [ra.len] at h
    rw [cut_all h]
    exact ⟨a, vs, rfl, ha, ra⟩
  · rename_i xs
    cases hm
    obtain ⟨a, vs, rfl, ha, ra⟩ := hd.lst
    exact sl_list pins s σ H _ v vl vu lo hi sl Q I rx hs pl pu ⟨a, vs, rfl, SqL.of ha, fun p n => q.lst (cut_eq ra lo hi) n⟩
  · rename_i ns
    cases hm
    obtain ⟨a, rfl, _, ha⟩ := hd.scr
    refine sl_list pins s σ H _ v vl vu lo hi sl Q I rx hs pl pu ⟨a, _, rfl, ha, fun p n => q.lst ?_ n⟩
    have := cut_eq (RepL.ofMap (K := (kwX X)) (Fz := Fz) (H := H) ns) lo hi
    have e : Ev.cut (ns.map D.int) lo hi = (Ev.cut ns lo hi).map D.int := by
      unfold Ev.cut; simp [List.map_take, List.map_drop]
    rw [e] at this
    exact this
end

/-! ### built-ins by name, methods -/
def RepFs (K : KW) (Fz : Addr → Prop) (H : Hp) : List D → List V → Prop
  | [], vs => vs = []
  | d :: ds, vs => ∃ v r, vs = v :: r ∧ RepF K Fz H d v ∧ RepFs K Fz H ds r
def rBi (K : KW) (Fz : Addr → Prop) (m : List D → Option Opd) : List V → Hp → VK → Prop := fun xs H Q => ∃ ds o, RepFs K Fz H ds xs ∧ m ds = some o ∧ Res K Fz H o Q
section
variable {X : Cx} {Fz : Addr → Prop} {K : KW} {H : Hp}
theorem RepFs.one {d : D} {xs : List V} (h : RepFs K Fz H [d] xs) : ∃ v, xs = [v] ∧ RepF K Fz H d v := by
  simp only [RepFs] at h
  obtain ⟨v, r, rfl, h1, rfl⟩ := h
  exact ⟨v, rfl, h1⟩
theorem RepFs.two {d e : D} {xs : List V} (h : RepFs K Fz H [d, e] xs) : ∃ v w, xs = [v, w] ∧ RepF K Fz H d v ∧ RepF K Fz H e w := by
  simp only [RepFs] at h
  obtain ⟨v, r, rfl, h1, w, r', rfl, h2, rfl⟩ := h
  exact ⟨v, w, rfl, h1, h2⟩
/-- one argument -/
theorem bi_one {f : Value} {m : D → Option Opd} {b : Bi} (e : ∀ ds o, biD b ds = some o → ∃ d, ds = [d] ∧ m d = some o)
    (h : ∀ (pins : List (Addr × Obj)) (s : Shared) (σ : L2.St) (H : Hp) (x : V) (us : List Value) (Q : VK) (d : D) (o : Opd), L2.Inv X pins σ H s → Vals [x] us → RepF (kwX X) Fz H d x → m d = some o → Res (kwX X) Fz H o Q → wpAny (model X.prog X.w) X.A (call f us) (EP X pins σ Q) X.xe s) :
    CallR X f (rBi (kwX X) Fz (biD b)) := by
  intro pins s σ H xs us Q I r ⟨ds, o, hd, hm, q⟩
  obtain ⟨d, rfl, hn⟩ := e ds o hm
  obtain ⟨v, rfl, hv⟩ := hd.one
  exact h pins s σ H v us Q d o I r hv hn q
theorem biOne {b : Bi} {m : D → Option Opd} (h1 : ∀ d, biD b [d] = m d) (h0 : biD b [] = none) (h2 : ∀ d e r, biD b (d :: e :: r) = none) : ∀ ds o, biD b ds = some o → ∃ d, ds = [d] ∧ m d = some o := by
  intro ds o h
  match ds, h with
  | [], h => rw [h0] at h; cases h
  | [d], h => exact ⟨d, rfl, by rw [← h1]; exact h⟩
  | d :: e :: r, h => rw [h2] at h; cases h
theorem bi_len : CallR X (.builtin "len") (rBi (kwX X) Fz (biD .len)) := by
  refine bi_one (m := lenD) (biOne (fun _ => rfl) rfl fun _ _ _ => rfl) fun pins s σ H x us Q d o I r hd hm q => ?_
  cases d <;> simp only [lenD] at hm <;> try (cases hm; done)
  · obtain ⟨hl, rfl⟩ := opt_if hm
    refine call_len_str pins s σ H [x] us Q I r ⟨_, by rw [hd.str], by rw [chS_len, ← lim_eq]; exact hl, ?_⟩
    rw [chS_len]; exact q.int
  · cases hm
    obtain ⟨a, vs, rfl, ha, ra⟩ := hd.tup
    refine call_len_seq pins s σ H _ us Q I r ⟨a, vs, rfl, .inr ha.t, ?_⟩
    rw [ra.len]; exact q.int
  · cases hm
    obtain ⟨a, vs, rfl, ha, ra⟩ := hd.lst
    refine call_len_seq pins s σ H _ us Q I r ⟨a, vs, rfl, .inl (SqL.of ha), ?_⟩
    rw [ra.len]; exact q.int
  · cases hm
    obtain ⟨a, es, rfl, ha, hk, ra⟩ := hd.dk
    obtain ⟨u, rfl, ru⟩ := vals1 r
    cases ru
    exact dO_len I ha hk fun t s' I' => ⟨.int _, H, I', ⟨t, rfl⟩, q.int⟩
  · cases hm
    obtain ⟨a, rfl, _, ha⟩ := hd.scr
    refine call_len_seq pins s σ H _ us Q I r ⟨a, _, rfl, .inl ha, ?_⟩
    rw [List.length_map]; exact q.int
theorem bi_tuple : CallR X (.type "tuple") (rBi (kwX X) Fz (biD .tuple)) := by
  refine bi_one (m := tupleD) (biOne (fun _ => rfl) rfl fun _ _ _ => rfl) fun pins s σ H x us Q d o I r hd hm q => ?_
  cases d <;> simp only [tupleD] at hm <;> try (cases hm; done)
  · cases hm
    obtain ⟨a, vs, rfl, ha, ra⟩ := hd.tup
    refine call_tupF pins s σ H _ us Q I r ⟨a, vs, rfl, .inr ⟨ha, q.same ?_⟩⟩
    simp only [Rep]
    exact ⟨a, vs, rfl, ha, ra⟩
  · cases hm
    obtain ⟨a, vs, rfl, ha, ra⟩ := hd.lst
    exact call_tupF pins s σ H _ us Q I r ⟨a, vs, rfl, .inl ⟨SqL.of ha, q.tup ra⟩⟩
theorem bi_list : CallR X (.type "list") (rBi (kwX X) Fz (biD .list)) := by
  refine bi_one (m := listD) (biOne (fun _ => rfl) rfl fun _ _ _ => rfl) fun pins s σ H x us Q d o I r hd hm q => ?_
  cases d <;> simp only [listD] at hm <;> try (cases hm; done)
  · cases hm
    obtain ⟨a, vs, rfl, ha, ra⟩ := hd.tup
    exact call_list_of pins s σ H _ us Q I r ⟨a, vs, rfl, .inr ha.t, fun p n => q.lst ra n⟩
  · cases hm
    obtain ⟨a, vs, rfl, ha, ra⟩ := hd.lst
    exact call_list_of pins s σ H _ us Q I r ⟨a, vs, rfl, .inl (SqL.of ha), fun p n => q.lst ra n⟩
  · cases hm
    obtain ⟨a, rfl, _, ha⟩ := hd.scr
    exact call_list_of pins s σ H _ us Q I r ⟨a, _, rfl, .inl ha, fun p n => q.lst (RepL.ofMap _) n⟩
theorem bi_abs : CallR X (.builtin "abs") (rBi (kwX X) Fz (biD .abs)) := by
  refine bi_one (m := absD) (biOne (fun _ => rfl) rfl fun _ _ _ => rfl) fun pins s σ H x us Q d o I r hd hm q => ?_
  cases d <;> simp only [absD] at hm <;> try (cases hm; done)
  cases hm
  exact call_abs pins s σ H _ us Q I r ⟨_, by rw [hd.int], q.int⟩
theorem bi_int : CallR X (.type "int") (rBi (kwX X) Fz (biD .int)) := by
  refine bi_one (m := intD) (biOne (fun _ => rfl) rfl fun _ _ _ => rfl) fun pins s σ H x us Q d o I r hd hm q => ?_
  cases d <;> simp only [intD] at hm <;> try (cases hm; done)
  · cases hm
    exact call_int1 pins s σ H _ us Q I r (.inr ⟨_, by rw [hd.bl], q.int⟩)
  · cases hm
    exact call_int1 pins s σ H _ us Q I r (.inl ⟨_, by rw [hd.int], q.int⟩)
theorem bi_all (hc : X.calm = true) : CallR X (.builtin "all") (rBi (kwX X) Fz (biD .all)) := by
  refine bi_one (m := allD) (biOne (fun _ => rfl) rfl fun _ _ _ => rfl) fun pins s σ H x us Q d o I r hd hm q => ?_
  cases d <;> simp only [allD] at hm <;> try (cases hm; done)
  obtain ⟨bs, hb, rfl⟩ := Option.map_eq_some_iff.mp hm
  obtain ⟨a, vs, rfl, ha, ra⟩ := hd.lst
  have e := ra.ofBools hb
  subst e
  exact cr_all hc pins s σ H _ us Q I r ⟨a, bs, rfl, SqL.of ha, q.bl⟩
theorem bi_any (hc : X.calm = true) : CallR X (.builtin "any") (rBi (kwX X) Fz (biD .any)) := by
  refine bi_one (m := anyD) (biOne (fun _ => rfl) rfl fun _ _ _ => rfl) fun pins s σ H x us Q d o I r hd hm q => ?_
  cases d <;> simp only [anyD] at hm <;> try (cases hm; done)
  obtain ⟨bs, hb, rfl⟩ := Option.map_eq_some_iff.mp hm
  obtain ⟨a, vs, rfl, ha, ra⟩ := hd.lst
  have e := ra.ofBools hb
  subst e
  exact cr_any hc pins s σ H _ us Q I r ⟨a, bs, rfl, SqL.of ha, q.bl⟩
theorem bi_min (hc : X.calm = true) : CallR X (.builtin "min") (rBi (kwX X) Fz (biD .min)) := by
  intro pins s σ H xs us Q I r ⟨ds, o, hd, hm, q⟩
  match ds, hd, hm with
  | [], _, hm => cases hm
  | [_], _, hm => cases hm
  | _ :: _ :: _ :: _, _, hm => cases hm
  | [d, e], hd, hm =>
    obtain ⟨v, w, rfl, h1, h2⟩ := hd.two
    simp only [biD] at hm
    cases d <;> cases e <;> simp only [minD] at hm <;> try (cases hm; done)
    cases hm
    exact call_min2 hc pins s σ H _ us Q I r ⟨_, _, by rw [h1.int, h2.int], q.int⟩
theorem bi_max (hc : X.calm = true) : CallR X (.builtin "max") (rBi (kwX X) Fz (biD .max)) := by
  intro pins s σ H xs us Q I r ⟨ds, o, hd, hm, q⟩
  match ds, hd, hm with
  | [], _, hm => cases hm
  | [_], _, hm => cases hm
  | _ :: _ :: _ :: _, _, hm => cases hm
  | [d, e], hd, hm =>
    obtain ⟨v, w, rfl, h1, h2⟩ := hd.two
    simp only [biD] at hm
    cases d <;> cases e <;> simp only [maxD] at hm <;> try (cases hm; done)
    cases hm
    exact call_max2 hc pins s σ H _ us Q I r ⟨_, _, by rw [h1.int, h2.int], q.int⟩
/-! isinstance -/
def tyS : Ty → String
  | .int => "int"
  | .bool => "bool"
  | .str => "str"
  | .tuple => "tuple"
  | .list => "list"
  | .dict => "dict"
def tyN : D → String
  | .non => "NoneType"
  | .bl _ => "bool"
  | .int _ => "int"
  | .str _ => "str"
  | .tup _ => "tuple"
  | .lst _ => "list"
  | .dk _ _ => "dict"
  | .scr _ => "list"
  | .rp _ => "str"
theorem kit_D (d : D) (t : Ty) : kitB (tyN d) (tyS t) = some (isiD d t) := by
  cases d <;> cases t <;> (simp only [tyN, tyS, isiD]; decide +kernel)
theorem tyX_D0 {d : D} {x : V} (h : RepF K Fz H d x) (nd : ∀ ks ds, d ≠ .dk ks ds) : TyX K.f H x (.type (tyN d)) := by
  cases d
  · rw [h.non]; exact .base .non
  · rw [h.bl]; exact .base (.bl _)
  · rw [h.int]; exact .base (.int _)
  · rw [h.str]; exact .base (.str _)
  · obtain ⟨a, vs, rfl, ha, _⟩ := h.tup
    rcases ha with ⟨o, ha, _⟩ | ⟨o, its, n, hk, hc, _⟩
    · exact .fTuple ha
    · exact .kTuple hk hc
  · obtain ⟨a, vs, rfl, ha, _⟩ := h.lst
    exact .base (.lst ha)
  · exact absurd rfl (nd _ _)
  · obtain ⟨a, rfl, _, ha⟩ := h.scr
    rcases ha with (ha | ⟨o, ha⟩) | ⟨o, its, n, hk, hc, _⟩
    · exact .base (.lst ha)
    · exact .base (.frz ha)
    · exact .kList hk hc
  · simp only [RepF, Rep] at h
    rw [h]; exact .base (.str _)
/-- what a value is, dicts of tuples too -/
def TyY (K : KW) (H : Hp) (x : V) (t : Value) : Prop := TyX K.f H x t ∨ ∃ a es, x = .ref a ∧ Rd H a (dO K.w a es) ∧ t = .type "dict"
theorem kitY_of {X : Cx} {pins : List (Addr × Obj)} {σ : L2.St} {H : Hp} {s : Shared} {x : V} {u t : Value} (I : L2.Inv X pins σ H s) (rx : RelV x u) (ty : TyY (kwX X) H x t) : ∃ P : Heap → Prop, PySem.W.KitX X.K u t P ∧ P s.heap ∧ u ≠ .builtin "__main__.__loader__#opaque" := by
  rcases ty with ty | ⟨a, es, rfl, ha, rfl⟩
  · exact kit_of I rx ty
  · cases rx
    obtain ⟨o, _, _, ho, hc, _⟩ := dO_obj I ha
    exact ⟨_, PySem.W.kitx_dict, ⟨o, ho, hc.1⟩, fun z => nomatch z⟩
def rIsiY (K : KW) : List V → Hp → VK → Prop := fun xs H Q => ∃ (x c : V) (t u : Value) (b : Bool), xs = [x, c] ∧ ClsV c u ∧ TyY K H x t ∧ PySem.W.kitOne K.f t u = some b ∧ Q (.bl b) H
def rIsiTY (K : KW) : List V → Hp → VK → Prop := fun xs H Q => ∃ (x : V) (tp : Addr) (cs : List V) (t : Value) (us : List Value) (b : Bool), xs = [x, .ref tp] ∧ H tp = some (.tup cs) ∧ Paired ClsV cs us ∧ TyY K H x t ∧ PySem.W.kitAny K.f t us = some b ∧ Q (.bl b) H
theorem call_isiY {X : Cx} : CallR X (.builtin "isinstance") (rIsiY (kwX X)) := by
  intro pins s σ H xs us Q I r h
  obtain ⟨x, c, t, u, b, rfl, k, ty, e, q⟩ := h
  obtain ⟨u1, u2, rfl, r1, r2⟩ := vals2 r
  have e2 := k.eq r2
  subst e2
  obtain ⟨P, Z, p, hx⟩ := kitY_of I r1 ty
  exact PySem.W.kia_one Z I.kIn p e hx fun tk => ⟨.bl b, H, I.tok tk, rfl, q⟩
theorem call_isiTY {X : Cx} : CallR X (.builtin "isinstance") (rIsiTY (kwX X)) := by
  intro pins s σ H xs us Q I r h
  obtain ⟨x, tp, cs, t, ws, b, rfl, hT, k, ty, e, q⟩ := h
  obtain ⟨u1, u2, rfl, r1, r2⟩ := vals2 r
  cases (show u2 = Value.ref tp from r2)
  obtain ⟨P, Z, p, hx⟩ := kitY_of I r1 ty
  obtain ⟨_, its, rv, o, h1, h2, n, h3⟩ := (show ObjOk X.prog X.w H s.heap tp (.tup cs) from I.hok tp _ hT)
  have e3 := ClsV.all k rv
  subst e3
  obtain ⟨oc, od, dt, sl⟩ := o
  simp only at h2 h3
  subst h2 h3
  exact PySem.W.kia_tup Z I.kIn p h1 e hx fun tk => ⟨.bl b, H, I.tok tk, rfl, q⟩
theorem tyY_D {d : D} {x : V} (h : RepF K Fz H d x) : TyY K H x (.type (tyN d)) := by
  cases d with
  | dk ks ds =>
    obtain ⟨a, es, rfl, ha, _⟩ := h.dk
    exact .inr ⟨a, es, rfl, ha, rfl⟩
  | _ => exact .inl (tyX_D0 h (by intro ks ds z; cases z))
end

section
variable {X : Cx} {Fz : Addr → Prop} {K : KW} {H : Hp}
theorem join_chS' (sep : List Char) : ∀ ss : List (List Char), Str.join (chS sep) (ss.map chS) = chS (joinC sep ss)
  | [] => rfl
  | [x] => rfl
  | x :: y :: r => by
    have ih := join_chS' sep (y :: r)
    simp only [List.map_cons] at ih
    simp only [List.map_cons, joinC, Str.join]
    rw [ih, chS_app, chS_app]
theorem join_chS (sep : List Char) (ss : List (List Char)) : Txt.join (chS sep) (ss.map chS) = chS (joinC sep ss) := by
  rw [show Txt.join (chS sep) (ss.map chS) = Str.join (chS sep) (ss.map chS) from PySem.StrLaws.glued_eq_join _ _, join_chS']
theorem mt_joinD : MtR X "str.join" (fun x xs H Q => ∃ d e y o, xs = [y] ∧ RepF (kwX X) Fz H d x ∧ RepF (kwX X) Fz H e y ∧ joinD d e = some o ∧ Res (kwX X) Fz H o Q) := by
  rintro pins s σ H x xs v us Q I rx rs ⟨d, e, y, o, rfl, hd, he, hm, q⟩
  cases d <;> cases e <;> simp only [joinD] at hm <;> try (cases hm; done)
  · obtain ⟨ss, hs, hm⟩ := Option.bind_eq_some_iff.mp hm
    obtain ⟨hl, rfl⟩ := opt_if hm
    obtain ⟨a, vs, rfl, ha, ra⟩ := he.tup
    have e := ra.ofStrs hs
    subst e
    refine mt_join pins s σ H x _ v us Q I rx rs ⟨_, a, ss.map chS, hd.str, rfl, .inr ?_, ?_, ?_⟩
    · rw [List.map_map]; exact ha.t
    · have e1 : (ss.map chS).map (·.length) = ss.map List.length := by simp [List.map_map, Function.comp, chS_len]
      rw [e1, List.length_map, chS_len]
      exact hl
    · rw [join_chS]; exact q.str
  · obtain ⟨ss, hs, hm⟩ := Option.bind_eq_some_iff.mp hm
    obtain ⟨hl, rfl⟩ := opt_if hm
    obtain ⟨a, vs, rfl, ha, ra⟩ := he.lst
    have e := ra.ofStrs hs
    subst e
    refine mt_join pins s σ H x _ v us Q I rx rs ⟨_, a, ss.map chS, hd.str, rfl, .inl ?_, ?_, ?_⟩
    · rw [List.map_map]; exact SqL.of ha
    · have e1 : (ss.map chS).map (·.length) = ss.map List.length := by simp [List.map_map, Function.comp, chS_len]
      rw [e1, List.length_map, chS_len]
      exact hl
    · rw [join_chS]; exact q.str
theorem map_inj {x y : List Char} : x.map Char.toNat = y.map Char.toNat ↔ x = y := ⟨natCh_inj, fun e => by rw [e]⟩
theorem spl_chS (t : List Char) : ∀ (k : Nat) (acc x : List Char), TL.spl (t.map Char.toNat) k (acc.map Char.toNat) (x.map Char.toNat) = (splC t k acc x).map (fun p => p.map Char.toNat)
  | k, acc, [] => by cases k <;> simp [TL.spl, splC]
  | 0, acc, c :: r => by
    have hp : TL.pre (t.map Char.toNat) ((c :: r).map Char.toNat) = decide ((c :: r).take t.length = t) := by
      simp only [TL.pre, List.length_map, ← List.map_take]
      rw [Bool.eq_iff_iff, beq_iff_eq, decide_eq_true_eq]
      exact map_inj
    simp only [List.map_cons] at hp ⊢
    by_cases z : (c :: r).take t.length = t
    · rw [decide_eq_true z] at hp
      rw [TL.spl_hit hp]
      have ih := spl_chS t (t.length - 1) [] r
      simp only [List.map_nil] at ih
      simp only [splC, if_pos z, List.length_map, List.map_cons, ih]
    · rw [decide_eq_false z] at hp
      rw [TL.spl_miss hp]
      have ih := spl_chS t 0 (acc ++ [c]) r
      simp only [List.map_append, List.map_cons, List.map_nil] at ih
      simp only [splC, if_neg z, ih]
  | k + 1, acc, c :: r => by
    have ih := spl_chS t k acc r
    simp only [List.map_cons, TL.spl, splC, ih]
theorem mt_splitD : MtR X "str.split" (fun x xs H Q => ∃ d e y o, xs = [y] ∧ RepF (kwX X) Fz H d x ∧ RepF (kwX X) Fz H e y ∧ splitD d e = some o ∧ Res (kwX X) Fz H o Q) := by
  rintro pins s σ H x xs v us Q I rx rs ⟨d, e, y, o, rfl, hd, he, hm, q⟩
  cases d <;> cases e <;> simp only [splitD] at hm <;> try (cases hm; done)
  rename_i cx ct
  obtain ⟨⟨h1, h2, h3⟩, rfl⟩ := opt_if hm
  have tl_ch : ∀ c : List Char, (chS c).cps.toList = c.map Char.toNat := fun c => by simp [chS]
  have k1 : ¬ Builtin.Str.strKind (chS cx) < Builtin.Str.strKind (chS ct) := by
    have : Builtin.Str.strKind (chS ct) = 1 := by
      unfold Builtin.Str.strKind
      rw [if_pos]
      simp only [chS, List.all_toArray, List.all_map, List.all_eq_true, Function.comp, decide_eq_true_eq]
      intro c hc
      have := List.all_eq_true.mp h3 c hc
      simpa using this
    rw [this]
    unfold Builtin.Str.strKind
    split
    · omega
    · split <;> omega
  have hne : (chS ct).cps.toList ≠ [] := by rw [tl_ch]; simpa using h2
  have e1 : Txt.split (chS cx) (chS ct) = (splC ct 0 [] cx).map chS := by
    have := TL.split_spl (chS cx) (chS ct) hne k1
    have f : ∀ l : List Str, l.map (fun z => z.cps.toList) = (splC ct 0 [] cx).map (fun p => p.map Char.toNat) → l = (splC ct 0 [] cx).map chS := by
      intro l
      generalize splC ct 0 [] cx = m
      induction l generalizing m with
      | nil => intro h; cases m with
        | nil => rfl
        | cons _ _ => simp at h
      | cons z l ih =>
        intro h
        cases m with
        | nil => simp at h
        | cons p m =>
          simp only [List.map_cons, List.cons.injEq] at h ⊢
          refine ⟨?_, ih m h.2⟩
          have : z.cps = (chS p).cps := Array.toList_inj.mp (by rw [h.1, tl_ch])
          cases z
          simp only at this
          rw [this]
    refine f _ ?_
    have h4 := spl_chS ct 0 [] cx
    rw [List.map_nil] at h4
    rw [← h4, ← tl_ch, ← tl_ch]
    exact this
  refine mt_split pins s σ H x _ v us Q I rx rs ⟨_, _, hd.str, by rw [he.str], ?_, ?_, fun p hp => ?_⟩
  · rw [chS_len]
    cases ct with
    | nil => exact absurd rfl h2
    | cons _ _ => rfl
  · rw [chS_len]; exact h1
  · rw [e1, List.map_map]
    refine q.lst (vs := (splC ct 0 [] cx).map fun c => V.str (chS c)) ?_ hp
    generalize splC ct 0 [] cx = m
    induction m with
    | nil => exact repL_nil.mpr rfl
    | cons c m ih => exact repL_cons.mpr ⟨by simp only [Rep], ih⟩
theorem tw_map (g : Nat → Bool) : ∀ (cs : List Char), ((cs.map Char.toNat).takeWhile g).length = (cs.takeWhile fun c => g c.toNat).length
  | [] => rfl
  | c :: cs => by
    simp only [List.map_cons, List.takeWhile_cons]
    split
    · simp [tw_map g cs]
    · rfl
theorem has_chS (bs : List Char) (c : Char) : (chS bs).cps.contains c.toNat = bs.contains c := by
  rw [Bool.eq_iff_iff]
  simp only [chS, Array.contains_iff, List.contains_iff]
  simp only [List.mem_toArray, List.mem_map]
  constructor
  · rintro ⟨d, hd, e⟩
    have : d = c := Char.toNat_inj.mp e
    rw [← this]; exact hd
  · intro h; exact ⟨c, h, rfl⟩
theorem strip_chS (bs cs : List Char) : Txt.stripChars (chS cs) (chS bs) = chS (stripC bs cs) := by
  unfold Txt.stripChars
  rw [PyProof.Rows.stripBy_eq]
  have e0 : (fun c : Char => (chS bs).cps.contains c.toNat) = fun c => bs.contains c := funext fun c => has_chS bs c
  have e1 : stripLo (chS bs).cps.contains true (chS cs) = (cs.takeWhile fun c => bs.contains c).length := by
    simp only [stripLo, if_true]
    show (((cs.map Char.toNat).toArray).toList.takeWhile _).length = _
    rw [List.toList_toArray, tw_map, e0]
  have e2 : stripHi (chS bs).cps.contains true (chS cs) (cs.takeWhile fun c => bs.contains c).length = cs.length - ((cs.drop (cs.takeWhile fun c => bs.contains c).length).reverse.takeWhile fun c => bs.contains c).length := by
    simp only [stripHi, if_true]
    rw [chS_len]
    show _ - ((((cs.map Char.toNat).toArray).toList.drop _).reverse.takeWhile _).length = _
    rw [List.toList_toArray, ← List.map_drop, ← List.map_reverse, tw_map, e0]
  rw [e1, e2]
  unfold stripC
  simp only []
  generalize (cs.takeWhile fun c => bs.contains c).length = lo
  generalize cs.length - ((cs.drop lo).reverse.takeWhile fun c => bs.contains c).length = hi
  show (⟨((cs.map Char.toNat).toArray).extract lo hi⟩ : Str) = chS _
  unfold chS
  simp [List.extract_toArray, List.extract_eq_drop_take, List.map_take, List.map_drop]
theorem mt_stripD : MtR X "str.strip" (fun x xs H Q => ∃ d e y o, xs = [y] ∧ RepF (kwX X) Fz H d x ∧ RepF (kwX X) Fz H e y ∧ stripD d e = some o ∧ Res (kwX X) Fz H o Q) := by
  rintro pins s σ H x xs v us Q I rx rs ⟨d, e, y, o, rfl, hd, he, hm, q⟩
  cases d <;> cases e <;> simp only [stripD] at hm <;> try (cases hm; done)
  obtain ⟨hl, rfl⟩ := opt_if hm
  refine mt_stripChars pins s σ H x _ v us Q I rx rs ⟨_, _, hd.str, by rw [he.str], ?_, ?_⟩
  · rw [chS_len]; exact hl
  · rw [strip_chS]; exact q.str
theorem mt_tupIx : MtR X "tuple.index" (fun x xs H Q => ∃ d e y o, xs = [y] ∧ RepF (kwX X) Fz H d x ∧ RepF (kwX X) Fz H e y ∧ tupIxD d e = some o ∧ Res (kwX X) Fz H o Q) := by
  rintro pins s σ H x xs v us Q I rx rs ⟨d, e, y, o, rfl, hd, he, hm, q⟩
  cases d <;> cases e <;> simp only [tupIxD] at hm <;> try (cases hm; done)
  rename_i ds cs
  obtain ⟨ss, hs, hm⟩ := Option.bind_eq_some_iff.mp hm
  obtain ⟨j, hj, rfl⟩ := Option.map_eq_some_iff.mp hm
  obtain ⟨a, vs, rfl, ha, ra⟩ := hd.tup
  have e := ra.ofStrs hs
  subst e
  rw [List.findIdx?_eq_some_iff_getElem] at hj
  obtain ⟨hlt, h1, h2⟩ := hj
  refine mt_tup_index pins s σ H _ _ v us Q I rx rs ⟨a, ss.map chS, chS cs, j, rfl, by rw [he.str], ?_, ?_, ?_, q.int⟩
  · rw [List.map_map]; exact ha.t
  · rw [List.getElem?_map, List.getElem?_eq_getElem hlt]
    have : ss[j] = cs := by simpa using h1
    rw [this]; rfl
  · intro m hm e
    rw [List.getElem?_map] at e
    have hlt' : m < ss.length := by omega
    rw [List.getElem?_eq_getElem hlt'] at e
    have e' := chS_inj (Option.some.inj e)
    have := h2 m hm
    rw [e'] at this
    simp at this
end
end Ev

set_option linter.all false
set_option autoImplicit false
set_option Elab.async false
set_option maxRecDepth 100000
set_option maxHeartbeats 4000000
/-! EvPt: stores into dicts, pairs. -/
namespace Ev
open PySem PySem.Spec L2
theorem put_len {kvs : List (Ky × D)} {es : List (L2.Key × V)} (h : es.map (·.1) = (kvs.map (·.1)).map kyK) : es.length = kvs.length := by
  have := congrArg List.length h
  simpa using this
theorem put_any {ky : Ky} (hy : ky.isT = false) : ∀ {kvs : List (Ky × D)} {es : List (L2.Key × V)}, smpL (kvs.map (·.1)) = true → es.map (·.1) = (kvs.map (·.1)).map kyK → (es.any fun kv => decide (kv.1 = kyK ky)) = kvs.any fun kv => decide (kv.1 = ky)
  | [], es, _, h => by
    have : es = [] := by simpa using h
    subst this; rfl
  | (k, d) :: kvs, es, hs, h => by
    simp only [smpL, List.map_cons, List.all_cons, Bool.and_eq_true, beq_iff_eq] at hs
    cases es with
    | nil => simp at h
    | cons e es =>
      simp only [List.map_cons, List.cons.injEq] at h
      simp only [List.any_cons]
      rw [put_any hy hs.2 h.2, h.1]
      congr 1
      by_cases z : k = ky
      · simp [z]
      · have : ¬ kyK k = kyK ky := fun q => z (kyK_inj hs.1 hy q)
        simp [z, this]
theorem put_map {K : KW} {Fz : Addr → Prop} {H : Hp} {ky : Ky} {d : D} {v : V} (rd : Rep K Fz H d v) (hy : ky.isT = false) : ∀ {kvs : List (Ky × D)} {es : List (L2.Key × V)}, smpL (kvs.map (·.1)) = true → es.map (·.1) = (kvs.map (·.1)).map kyK → RepL K Fz H (kvs.map (·.2)) (es.map (·.2)) →
    (es.map fun kv => if kv.1 = kyK ky then (kv.1, v) else kv).map (·.1) = ((kvs.map fun kv => if kv.1 = ky then (kv.1, d) else kv).map (·.1)).map kyK ∧ RepL K Fz H ((kvs.map fun kv => if kv.1 = ky then (kv.1, d) else kv).map (·.2)) ((es.map fun kv => if kv.1 = kyK ky then (kv.1, v) else kv).map (·.2))
  | [], es, _, h, r => by
    have : es = [] := by simpa using h
    subst this
    exact ⟨rfl, repL_nil.mpr rfl⟩
  | p :: kvs, es, hs, h, r => by
    simp only [smpL, List.map_cons, List.all_cons, Bool.and_eq_true, beq_iff_eq] at hs
    cases es with
    | nil => simp at h
    | cons e es =>
      simp only [List.map_cons, List.cons.injEq] at h
      simp only [List.map_cons] at r
      obtain ⟨r1, r2⟩ := repL_cons.mp r
      obtain ⟨i1, i2⟩ := put_map rd hy hs.2 h.2 r2
      by_cases z : p.1 = ky
      · have z2 : e.1 = kyK ky := by rw [h.1, z]
        simp only [List.map_cons, if_pos z, if_pos z2]
        refine ⟨?_, repL_cons.mpr ⟨rd, i2⟩⟩
        rw [i1, h.1]
      · have z2 : ¬ e.1 = kyK ky := fun q => z (kyK_inj hs.1 hy (by rw [← h.1]; exact q))
        simp only [List.map_cons, if_neg z, if_neg z2]
        refine ⟨?_, repL_cons.mpr ⟨r1, i2⟩⟩
        rw [i1, h.1]
theorem put_rel {K : KW} {Fz : Addr → Prop} {H : Hp} {ky : Ky} {d : D} {v : V} (rd : Rep K Fz H d v) (hy : ky.isT = false) {kvs : List (Ky × D)} {es : List (L2.Key × V)} (hs : smpL (kvs.map (·.1)) = true) (h : es.map (·.1) = (kvs.map (·.1)).map kyK) (r : RepL K Fz H (kvs.map (·.2)) (es.map (·.2))) :
    (putK es (kyK ky) v).map (·.1) = ((putY kvs ky d).map (·.1)).map kyK ∧ RepL K Fz H ((putY kvs ky d).map (·.2)) ((putK es (kyK ky) v).map (·.2)) := by
  unfold putK putY
  rw [put_any hy hs h]
  split
  · exact put_map rd hy hs h r
  · simp only [List.map_append, List.map_cons, List.map_nil]
    exact ⟨by rw [h], r.append (RepL.one rd)⟩
theorem smp_put {kvs : List (Ky × D)} {k : Ky} {d : D} (hs : smpL (kvs.map (·.1)) = true) (hk : k.isT = false) : smpL ((putY kvs k d).map (·.1)) = true := by
  unfold putY
  split
  · have : (kvs.map fun kv => if kv.1 = k then (kv.1, d) else kv).map (·.1) = kvs.map (·.1) := by
      rw [List.map_map]
      refine List.map_congr_left fun kv _ => ?_
      simp only [Function.comp]
      split <;> rfl
    rw [this]; exact hs
  · rw [List.map_append]
    unfold smpL at hs ⊢
    rw [List.all_append, hs]
    simp [hk]
theorem kyIn_smp {d : D} {ky : Ky} (h : kyIn [.i 0] d = some ky) : kyOf d = some ky ∧ ky.isT = false := by
  obtain ⟨h1, ⟨h2, _⟩ | ⟨h2, h3⟩⟩ := kyIn_or h
  · exact ⟨h1, h2⟩
  · simp [allT, Ky.isT] at h3
theorem kyOf_ok {K : KW} {Fz : Addr → Prop} {H : Hp} {d : D} {v : V} {ky : Ky} (h : kyOf d = some ky) (hy : ky.isT = false) (r : RepF K Fz H d v) : v = kV (kyK ky) := ky_rep h hy r
theorem pairsK_smp : ∀ {ds : List D} {kvs : List (Ky × D)}, pairsK ds = some kvs → smpL (kvs.map (·.1)) = true
  | [], kvs, h => by
    simp only [pairsK] at h
    cases h; rfl
  | [_], kvs, h => by simp [pairsK] at h
  | a :: b :: ds, kvs, h => by
    simp only [pairsK, Option.bind_eq_some_iff, Option.map_eq_some_iff] at h
    obtain ⟨ky, hk, kvs', h', rfl⟩ := h
    have := pairsK_smp h'
    simp only [smpL, List.map_cons, List.all_cons, Bool.and_eq_true, beq_iff_eq]
    exact ⟨(kyIn_smp hk).2, this⟩
theorem pairsT_smp : ∀ {ds : List D} {kvs : List (Ky × D)}, pairsT ds = some kvs → smpL (kvs.map (·.1)) = true
  | [], kvs, h => by
    simp only [pairsT] at h
    cases h; rfl
  | d :: ds, kvs, h => by
    unfold pairsT at h
    split at h
    · rename_i e
      cases e
    · rename_i k v r' e
      cases e
      simp only [Option.bind_eq_some_iff, Option.map_eq_some_iff] at h
      obtain ⟨ky, hk, kvs', h', rfl⟩ := h
      have := pairsT_smp h'
      simp only [smpL, List.map_cons, List.all_cons, Bool.and_eq_true, beq_iff_eq]
      exact ⟨(kyIn_smp hk).2, this⟩
    · cases h
theorem merge_smp : ∀ {kvs acc : List (Ky × D)}, smpL (kvs.map (·.1)) = true → smpL (acc.map (·.1)) = true → smpL ((kvs.foldl (fun a kv => putY a kv.1 kv.2) acc).map (·.1)) = true
  | [], acc, _, h => h
  | p :: kvs, acc, h1, h2 => by
    simp only [smpL, List.map_cons, List.all_cons, Bool.and_eq_true, beq_iff_eq] at h1
    exact merge_smp (kvs := kvs) h1.2 (smp_put h2 h1.1)
/-- the values pairwise -/
def prsV : List V → List (V × V)
  | x :: y :: r => (x, y) :: prsV r
  | _ => []
theorem prs_rel {K : KW} {Fz : Addr → Prop} {H : Hp} : ∀ {ds : List D} {vs : List V} {kvs : List (Ky × D)}, RepL K Fz H ds vs → pairsK ds = some kvs →
    ∃ l : List (L2.Key × V), prsV vs = l.map (fun kv => (kV kv.1, kv.2)) ∧ l.map (·.1) = (kvs.map (·.1)).map kyK ∧ RepL K Fz H (kvs.map (·.2)) (l.map (·.2))
  | [], vs, kvs, r, h => by
    simp only [pairsK] at h
    cases h
    rw [repL_nil.mp r]
    exact ⟨[], rfl, rfl, repL_nil.mpr rfl⟩
  | [_], vs, kvs, r, h => by simp [pairsK] at h
  | a :: b :: ds, vs, kvs, r, h => by
    simp only [pairsK, Option.bind_eq_some_iff, Option.map_eq_some_iff] at h
    obtain ⟨ky, hk, kvs', h', rfl⟩ := h
    simp only [RepL] at r
    obtain ⟨v, _, rfl, r1, w, vs', rfl, r2, r3⟩ := r
    obtain ⟨l, e1, e2, e3⟩ := prs_rel r3 h'
    refine ⟨(kyK ky, w) :: l, ?_, ?_, ?_⟩
    · simp only [prsV, List.map_cons, e1, kyOf_ok (kyIn_smp hk).1 (kyIn_smp hk).2 r1.f]
    · simp only [List.map_cons, e2]
    · simp only [List.map_cons]
      exact repL_cons.mpr ⟨r2, e3⟩
theorem merge_rel {K : KW} {Fz : Addr → Prop} {H : Hp} : ∀ {kvs : List (Ky × D)} {l : List (L2.Key × V)} {acc : List (Ky × D)} {ac : List (L2.Key × V)}, smpL (kvs.map (·.1)) = true → smpL (acc.map (·.1)) = true → l.map (·.1) = (kvs.map (·.1)).map kyK → RepL K Fz H (kvs.map (·.2)) (l.map (·.2)) →
    ac.map (·.1) = (acc.map (·.1)).map kyK → RepL K Fz H (acc.map (·.2)) (ac.map (·.2)) →
    (mergeK ac l).map (·.1) = ((kvs.foldl (fun a kv => putY a kv.1 kv.2) acc).map (·.1)).map kyK ∧ RepL K Fz H ((kvs.foldl (fun a kv => putY a kv.1 kv.2) acc).map (·.2)) ((mergeK ac l).map (·.2))
  | [], l, acc, ac, _, _, h, r, h2, r2 => by
    have : l = [] := by simpa using h
    subst this
    exact ⟨h2, r2⟩
  | (ky, d) :: kvs, l, acc, ac, s1, s2, h, r, h2, r2 => by
    simp only [smpL, List.map_cons, List.all_cons, Bool.and_eq_true, beq_iff_eq] at s1
    cases l with
    | nil => simp at h
    | cons p l =>
      obtain ⟨k, v⟩ := p
      simp only [List.map_cons, List.cons.injEq] at h
      simp only [List.map_cons] at r
      obtain ⟨q1, q2⟩ := repL_cons.mp r
      obtain ⟨hk, ht⟩ := h
      subst hk
      obtain ⟨p1, p2⟩ := put_rel (ky := ky) q1 s1.1 s2 h2 r2
      exact merge_rel (acc := putY acc ky d) (ac := putK ac (kyK ky) v) s1.2 (smp_put s2 s1.1) ht q2 p1 p2
theorem pairT_rel {K : KW} {Fz : Addr → Prop} {H : Hp} : ∀ {ds : List D} {vs : List V} {kvs : List (Ky × D)}, RepL K Fz H ds vs → pairsT ds = some kvs →
    ∃ (ps : List Addr) (l : List (L2.Key × V)), vs = ps.map V.ref ∧ Paired (fun p kv => SqT K.f H p [kV kv.1, kv.2]) ps l ∧ l.map (·.1) = (kvs.map (·.1)).map kyK ∧ RepL K Fz H (kvs.map (·.2)) (l.map (·.2))
  | [], vs, kvs, r, h => by
    simp only [pairsT] at h
    cases h
    rw [repL_nil.mp r]
    exact ⟨[], [], rfl, .nil, rfl, repL_nil.mpr rfl⟩
  | d :: ds, vs, kvs, r, h => by
    unfold pairsT at h
    split at h
    · rename_i e
      cases e
    · rename_i k v r' e
      cases e
      simp only [Option.bind_eq_some_iff, Option.map_eq_some_iff] at h
      obtain ⟨ky, hk, kvs', h', rfl⟩ := h
      simp only [RepL] at r
      obtain ⟨w, vs', rfl, r1, r2⟩ := r
      simp only [Rep] at r1
      obtain ⟨p, ws, rfl, hp, rw'⟩ := r1
      simp only [RepL] at rw'
      obtain ⟨w1, _, rfl, q1, w2, _, rfl, q2, rfl⟩ := rw'
      have e1 := kyOf_ok (kyIn_smp hk).1 (kyIn_smp hk).2 q1.f
      subst e1
      obtain ⟨ps, l, e1, e2, e3, e4⟩ := pairT_rel r2 h'
      refine ⟨p :: ps, (kyK ky, w2) :: l, by rw [List.map_cons, e1], .cons hp.t e2, ?_, ?_⟩
      · simp only [List.map_cons, e3]
      · simp only [List.map_cons]
        exact repL_cons.mpr ⟨q2, e4⟩
    · cases h
end Ev

set_option linter.all false
set_option autoImplicit false
set_option Elab.async false
set_option maxRecDepth 100000
set_option maxHeartbeats 4000000
/-! EvRp: repr(x), sum(xs), x.count(y). -/
namespace Ev
open PySem PySem.Spec L2 PyProof.Rows
theorem sl_app (a b : Str) : (a ++ b).length = a.length + b.length := strLen_append a b
theorem lt_len (ts : List Str) : (listText ts).length ≤ piled ts + 2 := by
  cases ts with
  | nil => rw [listText_nil]; decide
  | cons t r =>
    have h := textFrom_length_pos r 1 (("[" : Str) ++ (if (0 : Nat) > 0 then ", " else "" : String) ++ t) (Nat.succ_pos 0)
    have e : listText (t :: r) = textFrom 1 (("[" : Str) ++ (if (0 : Nat) > 0 then ", " else "" : String) ++ t) r ++ "]" := rfl
    have l1 : (("[" : Str) ++ (if (0 : Nat) > 0 then ", " else "" : String) ++ t).length = 1 + t.length := by
      rw [sl_app, sl_app]; rfl
    have l2 : (("]" : String) : Str).length = 1 := rfl
    rw [e, sl_app, h, l1, l2, piled_cons]
    omega
theorem tt_len (ts : List Str) : (tupleText ts).length ≤ piled ts + 3 := by
  unfold tupleText
  rw [sl_app, sl_app]
  have l1 : ((("(" : String) : Str)).length = 1 := rfl
  have l3 : (((if ts.length == 1 then ",)" else ")" : String) : Str)).length ≤ 2 := by split <;> decide
  rw [l1]
  cases ts with
  | nil =>
    have : (Str.join ", " []).length = 0 := rfl
    rw [this]; omega
  | cons t r =>
    have := join_length_add (t :: r) (by simp)
    omega
theorem dt_len (ts : List Str) : (dictText ts).length ≤ piled ts + 2 := by
  unfold dictText
  rw [sl_app, sl_app]
  have l1 : ((("{" : String) : Str)).length = 1 := rfl
  have l3 : ((("}" : String) : Str)).length = 1 := rfl
  rw [l1, l3]
  cases ts with
  | nil =>
    have : (Str.join ", " []).length = 0 := rfl
    rw [this]; omega
  | cons t r =>
    have := join_length_add (t :: r) (by simp)
    omega
theorem int_ok {i : Int} (h : i.natAbs.log2 < 1920) : (PyData.int i).shown.length ≤ 2000 ∧ (PyData.int i).showable = true := by
  simp only [PyData.shown, PyData.showable]
  refine ⟨?_, decide_eq_true h⟩
  have := int_text_length_le (k := 1920) (by decide) h
  rw [PySem.ofString_length]
  omega
theorem str_ok (s : List Char) : (PyData.str (chS s)).shown.length ≤ 10 * s.length + 4 ∧ (PyData.str (chS s)).showable = true := by
  simp only [PyData.shown, PyData.showable]
  refine ⟨?_, trivial⟩
  have := StrLaws.reprText_len (chS s) (fun c hc => by
    simp only [chS, List.mem_map] at hc
    obtain ⟨x, _, rfl⟩ := hc
    have v := x.valid
    simp only [UInt32.isValidChar, Nat.isValidChar] at v
    have e : x.toNat = x.val.toNat := rfl
    rw [e]
    omega)
  rw [chS_len] at this
  omega
theorem ky_ok (k : Ky) (h : kyZ k ≤ 10000000) : (kyP k).shown.length ≤ kyZ k ∧ (kyP k).showable = true ∧ (kyP k).depth = 0 := by
  cases k with
  | t xs => simp [kyZ] at h
  | i n =>
    simp only [kyZ] at h ⊢
    split at h
    · rename_i hi
      rw [if_pos hi]
      exact ⟨(int_ok hi).1, (int_ok hi).2, by simp only [kyP, PyData.depth]⟩
    · omega
  | s cs => exact ⟨(str_ok cs).1, (str_ok cs).2, by simp only [kyP, PyData.depth]⟩
mutual
theorem rp_ok : ∀ (d : D) (n : Nat), D.shr d n = true → D.rsz d ≤ 10000000 → (pyD d).shown.length ≤ D.rsz d ∧ (pyD d).showable = true ∧ (pyD d).depth ≤ n
  | .non, n, _, _ => ⟨by decide, by simp only [pyD, PyData.showable], by simp only [pyD, PyData.depth]; omega⟩
  | .bl b, n, _, _ => ⟨by cases b <;> decide, by simp only [pyD, PyData.showable], by simp only [pyD, PyData.depth]; omega⟩
  | .int i, n, _, h => by
    simp only [D.rsz] at h ⊢
    split at h
    · rename_i hi
      rw [if_pos hi]
      exact ⟨(int_ok hi).1, (int_ok hi).2, by simp only [pyD, PyData.depth]; omega⟩
    · omega
  | .str s, n, _, h => ⟨by simpa only [D.rsz, pyD] using (str_ok s).1, by simpa only [pyD] using (str_ok s).2, by simp only [pyD, PyData.depth]; omega⟩
  | .tup xs, n, p, h => by
    cases n with
    | zero => simp [D.shr] at p
    | succ n =>
      simp only [D.rsz] at h ⊢
      simp only [pyD, PyData.shown, PyData.showable, PyData.depth]
      obtain ⟨h1, h2, h3⟩ := rpL_ok xs n (by simpa only [D.shr] using p) (by omega)
      have := tt_len (PyData.shownAll (pyL xs))
      exact ⟨by omega, h2, by omega⟩
  | .lst xs, n, p, h => by
    cases n with
    | zero => simp [D.shr] at p
    | succ n =>
      simp only [D.rsz] at h ⊢
      simp only [pyD, PyData.shown, PyData.showable, PyData.depth]
      obtain ⟨h1, h2, h3⟩ := rpL_ok xs n (by simpa only [D.shr] using p) (by omega)
      have := lt_len (PyData.shownAll (pyL xs))
      exact ⟨by omega, h2, by omega⟩
  | .dk ks vs, n, p, h => by
    cases n with
    | zero => simp [D.shr] at p
    | succ n =>
      simp only [D.rsz] at h ⊢
      simp only [D.shr, Bool.and_eq_true, decide_eq_true_eq] at p
      simp only [pyD, PyData.shown, PyData.showable, PyData.depth]
      obtain ⟨h1, h2, h3⟩ := rpV_ok vs ks n p.2 p.1.1 (by omega)
      have := dt_len (PyData.shownKv (pyV vs ks))
      exact ⟨by omega, h2, by omega⟩
  | .scr _, n, p, _ => by simp [D.shr] at p
  | .rp _, n, p, _ => by simp [D.shr] at p
theorem rpL_ok : ∀ (ds : List D) (n : Nat), D.shrL ds n = true → D.rszL ds ≤ 10000000 → piled (PyData.shownAll (pyL ds)) ≤ D.rszL ds ∧ PyData.showableAll (pyL ds) = true ∧ PyData.depthAll (pyL ds) ≤ n
  | [], n, _, _ => ⟨by simp [pyL, PyData.shownAll, piled, D.rszL], by simp only [pyL, PyData.showableAll], by simp [pyL, PyData.depthAll]⟩
  | d :: ds, n, p, h => by
    simp only [D.shrL, Bool.and_eq_true] at p
    simp only [D.rszL] at h ⊢
    obtain ⟨h1, h2, h5⟩ := rp_ok d n p.1 (by omega)
    obtain ⟨h3, h4, h6⟩ := rpL_ok ds n p.2 (by omega)
    simp only [pyL, PyData.shownAll, PyData.showableAll, PyData.depthAll, piled_cons, h2, h4, Bool.and_self]
    exact ⟨by omega, trivial, by omega⟩
theorem rpV_ok : ∀ (ds : List D) (ks : List Ky) (n : Nat), D.shrL ds n = true → ks.length = ds.length → kszL ks + D.rszL ds ≤ 10000000 → piled (PyData.shownKv (pyV ds ks)) ≤ kszL ks + D.rszL ds ∧ PyData.showableKv (pyV ds ks) = true ∧ PyData.depthKv (pyV ds ks) ≤ n
  | [], ks, n, _, _, _ => ⟨by simp [pyV, PyData.shownKv, piled], by simp only [pyV, PyData.showableKv], by simp [pyV, PyData.depthKv]⟩
  | d :: ds, [], n, _, e, _ => by simp at e
  | d :: ds, k :: ks, n, p, e, h => by
    simp only [D.shrL, Bool.and_eq_true] at p
    simp only [D.rszL, kszL] at h ⊢
    obtain ⟨h1, h2, h5⟩ := rp_ok d n p.1 (by omega)
    obtain ⟨h3, h4, h6⟩ := rpV_ok ds ks n p.2 (by simpa using e) (by omega)
    obtain ⟨k1, k2, k3⟩ := ky_ok k (by omega)
    have l2 : ((": " : String) : Str).length = 2 := rfl
    simp only [pyV, PyData.shownKv, PyData.showableKv, PyData.depthKv, piled_cons, h2, h4, k2, k3, Bool.and_self, sl_app, l2]
    exact ⟨by omega, trivial, by omega⟩
end
/-! ### what is shown, told of a heap -/
structure Shn (P : Program) (w : World) (h : Heap) (d : PyData) (u : Value) : Prop where
  k : ∃ bs, ReadAtMost h d.depth bs ∧ ReprK P w bs h d.depth u d.shown
  r : ∃ as, Reads h u d as
structure ShnL (P : Program) (w : World) (h : Heap) (ds : List PyData) (us : List Value) : Prop where
  k : ∃ bs, ReadAtMost h (PyData.depthAll ds) bs ∧ ReprAllK P w bs h (PyData.depthAll ds) us (PyData.shownAll ds)
  r : ∃ as, ReadsAll h us ds as
def Top (P : Program) (w : World) (h : Heap) (a : Addr) (d : PyData) : Prop := ∃ T idr, ShowsBy P w h a d T idr
section
variable {P : Program} {w : World} {h : Heap}
theorem ShnL.nil : ShnL P w h [] [] := ⟨⟨[], (fun _ z => nomatch z), by simp only [PyData.shownAll]; exact .nil⟩, ⟨[], .nil⟩⟩
theorem ShnL.cons {d : PyData} {u : Value} {ds : List PyData} {us : List Value} (a : Shn P w h d u) (b : ShnL P w h ds us) : ShnL P w h (d :: ds) (u :: us) := by
  obtain ⟨⟨b1, r1, k1⟩, ⟨a1, q1⟩⟩ := a
  obtain ⟨⟨b2, r2, k2⟩, ⟨a2, q2⟩⟩ := b
  refine ⟨⟨b1 ++ b2, ?_, ?_⟩, ⟨a1 ++ a2, .cons q1 q2⟩⟩
  · simp only [PyData.depthAll]
    exact (r1.mono (Nat.le_max_left _ _)).append (r2.mono (Nat.le_max_right _ _))
  · simp only [PyData.depthAll, PyData.shownAll]
    refine .cons ((k1.more fun c z => ?_).level_le (Nat.le_max_left _ _)) (k2.more_le (fun c z => ?_) (Nat.le_max_right _ _))
    · exact List.mem_append_left b2 z
    · exact List.mem_append_right b1 z
theorem Shn.atom {d : PyData} {u : Value} (h0 : ReprIs P w u d.shown) (r : Reads h u d []) : Shn P w h d u := ⟨⟨[], (fun _ z => nomatch z), .of_is h0 _ _ _⟩, ⟨[], r⟩⟩
theorem shn_lst {a : Addr} {o : Obj} {vs : Array Value} {n : Nat} {xs : List PyData} (h1 : h.get? a = some o) (h2 : o.cls = .type "list") (h3 : o.data = .seq vs n) (L : ShnL P w h xs vs.toList) (hz : (listText (PyData.shownAll xs)).length ≤ sizeLine) : Shn P w h (.list xs) (.ref a) ∧ Top P w h a (.list xs) := by
  obtain ⟨⟨cs, c1, c2⟩, ⟨as, rr⟩⟩ := L
  have rd := Reads.list h1 h2 h3 rr
  have out : a ∉ cs := not_mem_of_deeper rd (by simp only [PyData.depth]; omega) c1
  have typ : ∀ s : Shared, (∀ b o, h.get? b = some o → s.heap.get? b = some o) → s.TypeIs (.ref a) "list" := fun s kk => ⟨o, kk _ _ h1, h2⟩
  obtain ⟨l⟩ := vs
  cases l with
  | nil =>
    cases (show ReadsAll h [] xs as from rr)
    refine ⟨⟨⟨[a], ReadAtMost.cons rd (Nat.zero_le _) (fun _ z => nomatch z), ?_⟩, ⟨_, rd⟩⟩, "list", "list.__repr__", F.slot_list_repr.toG, F.slot_list_str, F.slot_list_format, typ, fun A E s Q g u kk q => ?_⟩
    · simp only [PyData.shown, PyData.shownAll, listText_nil]
      exact ReprK.listEmpty h1 h2 h3
    · simp only [PyData.shown, PyData.shownAll, listText_nil] at q
      exact call_list_repr_empty (typ s kk) (kk _ _ h1) h3 (q s.heap _ _ fun _ _ e => e)
  | cons x l =>
    have len := c2.length_eq
    refine ⟨⟨⟨a :: cs, ReadAtMost.cons rd (by simp only [PyData.depth]; omega) c1, ?_⟩, ⟨_, rd⟩⟩, "list", "list.__repr__", F.slot_list_repr.toG, F.slot_list_str, F.slot_list_format, typ, fun A E s Q g u kk q => ?_⟩
    · simp only [PyData.depth, PyData.shown]
      exact ReprK.list h1 h2 h3 out (by simpa using len) fun i y e => c2.item i y (by simpa using e)
    · simp only [PyData.depth] at u
      simp only [PyData.shown] at q
      exact call_list_reprK h1 h2 h3 out (by simpa using len) (fun i y e => c2.item i y (by simpa using e)) g (fun b _ => Clear.nil b) u kk q hz
theorem shn_tup {a : Addr} {o : Obj} {vs : Array Value} {n : Nat} {xs : List PyData} (h1 : h.get? a = some o) (h2 : o.cls = .type "tuple") (h3 : o.data = .seq vs n) (L : ShnL P w h xs vs.toList) (hz : (tupleText (PyData.shownAll xs)).length ≤ sizeLine) : Shn P w h (.tuple xs) (.ref a) ∧ Top P w h a (.tuple xs) := by
  obtain ⟨⟨cs, c1, c2⟩, ⟨as, rr⟩⟩ := L
  have rd := Reads.tuple h1 h2 h3 rr
  have out : a ∉ cs := not_mem_of_deeper rd (by simp only [PyData.depth]; omega) c1
  refine ⟨⟨⟨a :: cs, ReadAtMost.cons rd (by simp only [PyData.depth]; omega) c1, ?_⟩, ⟨_, rd⟩⟩, "tuple", "tuple.__repr__", F.slot_tuple_repr, F.slot_tuple_str, F.slot_tuple_format, fun s kk => ⟨o, kk _ _ h1, h2⟩, fun A E s Q g u kk q => ?_⟩
  · simp only [PyData.depth, PyData.shown]
    exact ReprK.tuple h1 h2 h3 out c2
  · simp only [PyData.depth] at u
    simp only [PyData.shown] at q
    exact call_tuple_reprK h1 h2 h3 out c2 g (fun b _ => Clear.nil b) u kk q hz
theorem shn_dk {a : Addr} {o : Obj} {es : Array DictEntry} {n : Nat} {kvs : List (PyData × PyData)} (h1 : h.get? a = some o) (h2 : o.cls = .type "dict") (h3 : o.data = .dict es n) (hs : (a == sysModules) = false) (K : ShnL P w h (kvs.map (·.1)) (es.toList.map (·.key))) (L : ShnL P w h (kvs.map (·.2)) (es.toList.map (·.val)))
    (hz : (dictText (PyData.shownKv kvs)).length ≤ sizeLine) : Shn P w h (.dict kvs) (.ref a) ∧ Top P w h a (.dict kvs) := by
  obtain ⟨⟨ds, d1, d2⟩, ⟨bs, qq⟩⟩ := K
  obtain ⟨⟨cs, c1, c2⟩, ⟨as, rr⟩⟩ := L
  have rd := Reads.dict h1 h2 h3 qq rr
  have e1 := PyData.depthAll_keys_le kvs
  have e2 := PyData.depthAll_vals_le kvs
  have both : ReadAtMost h (PyData.depthKv kvs) (ds ++ cs) := (d1.mono e1).append (c1.mono e2)
  have out : a ∉ ds ++ cs := not_mem_of_deeper rd (by simp only [PyData.depth]; omega) both
  have ent := ReprEntriesK.of_two es.toList _ _ (d2.more_le (fun b z => List.mem_append_left cs z) e1) (c2.more_le (fun b z => List.mem_append_right ds z) e2)
  rw [← PyData.shownKv_eq] at ent
  refine ⟨⟨⟨a :: (ds ++ cs), ReadAtMost.cons rd (by simp only [PyData.depth]; omega) both, ?_⟩, ⟨_, rd⟩⟩, "dict", "dict.__repr__", F.slot_dict_repr, F.slot_dict_str, F.slot_dict_format, fun s kk => ⟨o, kk _ _ h1, h2⟩, fun A E s Q g u kk q => ?_⟩
  · simp only [PyData.depth, PyData.shown]
    exact ReprK.dict h1 h2 h3 hs out ent
  · simp only [PyData.depth] at u
    simp only [PyData.shown] at q
    exact call_dict_reprK h1 h2 h3 hs out ent g (fun b _ => Clear.nil b) u kk q hz
end
section
variable {X : Cx} {Fz : Addr → Prop}
theorem shp_mono : ∀ (d : D) (n m : Nat), n ≤ m → D.shp d n = true → D.shp d m = true := fun d n m h p => by
  have key : ∀ (k : Nat), (∀ (d : D) (n : Nat), sizeOf d ≤ k → D.shp d n = true → D.shp d (n + 1) = true) ∧ (∀ (ds : List D) (n : Nat), sizeOf ds ≤ k → D.shpL ds n = true → D.shpL ds (n + 1) = true) := by
    intro k
    induction k with
    | zero => exact ⟨fun d n h => by cases d <;> simp at h, fun ds n h => by cases ds <;> simp at h⟩
    | succ k ih =>
      refine ⟨fun d n h p => ?_, fun ds n h p => ?_⟩
      · cases d <;> first
          | (simp [D.shp]; done)
          | (simp [D.shp] at p; done)
          | skip
        all_goals
          cases n with
          | zero => simp [D.shp] at p
          | succ n =>
            simp only [D.shp] at p ⊢
            refine ih.2 _ _ ?_ p
            simp at h
            omega
      · cases ds with
        | nil => simp [D.shpL]
        | cons d ds =>
          simp only [D.shpL, Bool.and_eq_true] at p ⊢
          simp at h
          exact ⟨ih.1 _ _ (by omega) p.1, ih.2 _ _ (by omega) p.2⟩
  induction h with
  | refl => exact p
  | step h ih => exact (key _).1 d _ (Nat.le_refl _) ih
theorem pyV_fst : ∀ {ds : List D} {ks : List Ky}, ks.length = ds.length → (pyV ds ks).map (·.1) = ks.map kyP
  | [], [], _ => rfl
  | [], _ :: _, e => by simp at e
  | _ :: _, [], e => by simp at e
  | d :: ds, k :: ks, e => by
    simp only [pyV, List.map_cons]
    rw [pyV_fst (by simpa using e)]
theorem pyV_snd : ∀ {ds : List D} {ks : List Ky}, ks.length = ds.length → (pyV ds ks).map (·.2) = pyL ds
  | [], [], _ => rfl
  | [], _ :: _, e => by simp at e
  | _ :: _, [], e => by simp at e
  | d :: ds, k :: ks, e => by
    simp only [pyV, pyL, List.map_cons]
    rw [pyV_snd (by simpa using e)]
theorem keys_shn {P : Program} {w : World} {h : Heap} : ∀ {ens : List DictEntry} {vs : List (L2.Key × Value)} {ks : List Ky}, Pairs (mixKind P w) ens vs → vs.map (·.1) = ks.map kyK → kszL ks ≤ 10000000 → ShnL P w h (ks.map kyP) (ens.map (·.key))
  | [], [], [], _, _, _ => .nil
  | [], [], _ :: _, _, e, _ => by simp at e
  | _ :: _, _, ks, .cons (e := en) (kv := kv) (es := es) (kvs := kvs) hi _ hp, e, z => by
    cases ks with
    | nil => simp at e
    | cons k ks =>
      simp only [List.map_cons, List.cons.injEq] at e
      simp only [kszL] at z
      obtain ⟨_, sh, _⟩ := ky_ok k (by omega)
      refine .cons ?_ (keys_shn hp e.2 (by omega))
      have rv := relV_key (k := kv.1) (u := en.key) hi
      rw [e.1] at rv
      cases k with
      | t xs => exact absurd z (by simp only [kyZ]; omega)
      | i n =>
        obtain ⟨t, q⟩ := rv
        show Shn P w h _ en.key
        rw [q]
        refine .atom ?_ (Reads.int n t)
        simp only [kyP, PyData.shown]
        exact ReprIs.int t (by simpa [kyP, PyData.showable] using sh)
      | s cs =>
        obtain ⟨t, q⟩ := rv
        show Shn P w h _ en.key
        rw [q]
        refine .atom ?_ (Reads.str _ t)
        simp only [kyP, PyData.shown]
        refine ReprIs.str _ t ?_
        have := (str_ok cs).1
        simp only [PyData.shown] at this
        simp only [kyZ] at z
        rw [sizeLine_eq]
        omega
theorem vals_pairs {P : Program} {w : World} : ∀ {ens : List DictEntry} {vs : List (L2.Key × Value)}, Pairs (mixKind P w) ens vs → ens.map (·.val) = vs.map (·.2)
  | _, _, .nil => rfl
  | _, _, .cons _ hv hp => by rw [List.map_cons, List.map_cons, hv, vals_pairs hp]
theorem vals_kv : ∀ {es : List (L2.Key × V)} {vs : List (L2.Key × Value)}, L2.KV es vs → es.map (·.1) = vs.map (·.1) ∧ Vals (es.map (·.2)) (vs.map (·.2))
  | _, _, .nil => ⟨rfl, .nil⟩
  | _, _, .cons hv hp => by
    obtain ⟨a, b⟩ := vals_kv hp
    exact ⟨by rw [List.map_cons, List.map_cons, hv.1, a], .cons hv.2 b⟩
section
variable {pins : List (Addr × Obj)} {σ : L2.St} {H : Hp} {s : Shared}
theorem dk_shn (I : L2.Inv X pins σ H s) {a : Addr} {es : List (L2.Key × V)} {ks : List Ky} {ds : List D} {n : Nat} (ha : Rd H a (.dK es)) (hk : es.map (·.1) = ks.map kyK) (p : D.shr (.dk ks ds) n = true) (z : D.rsz (.dk ks ds) ≤ 10000000)
    (L : ∀ us, Vals (es.map (·.2)) us → ShnL X.prog X.w s.heap (pyL ds) us) : Shn X.prog X.w s.heap (pyD (.dk ks ds)) (.ref a) ∧ Top X.prog X.w s.heap a (pyD (.dk ks ds)) := by
  obtain ⟨h1, _, _⟩ := rp_ok _ n p z
  have hl : ks.length = ds.length := by
    cases n with
    | zero => simp [D.shr] at p
    | succ n =>
      simp only [D.shr, Bool.and_eq_true, decide_eq_true_eq] at p
      exact p.1.1
  obtain ⟨_, hsys, vs, kv, o, ens, ep, ho, hx, hdat, _, hp, _⟩ := L2.dk_rd I.hok ha
  obtain ⟨e1, e2⟩ := vals_kv kv
  have lv := L _ e2
  rw [← vals_pairs hp, ← pyV_snd hl] at lv
  have lk := keys_shn (h := s.heap) hp (e1.symm.trans hk) (by simp only [D.rsz] at z; omega)
  rw [← pyV_fst hl] at lk
  simp only [pyD] at h1 ⊢
  refine shn_dk ho hx.1 hdat hsys lk lv ?_
  simp only [PyData.shown] at h1
  rw [sizeLine_eq]
  omega
mutual
theorem shn_ok (I : L2.Inv X pins σ H s) : ∀ (d : D) (n : Nat) (v : V) (u : Value), D.shr d n = true → D.rsz d ≤ 10000000 → Rep (kwX X) Fz H d v → RelV v u → Shn X.prog X.w s.heap (pyD d) u
  | .non, n, v, u, p, z, r, q => by
    simp only [Rep] at r
    subst r
    cases q
    exact .atom (by simp only [pyD, PyData.shown]; exact ReprIs.none) (by simp only [pyD]; exact Reads.none)
  | .bl b, n, v, u, p, z, r, q => by
    simp only [Rep] at r
    subst r
    cases q
    exact .atom (by simp only [pyD, PyData.shown]; exact ReprIs.bool b) (by simp only [pyD]; exact Reads.bool b)
  | .int i, n, v, u, p, z, r, q => by
    obtain ⟨_, sh, _⟩ := rp_ok _ n p z
    simp only [Rep] at r
    subst r
    obtain ⟨t, rfl⟩ := q
    exact .atom (by simp only [pyD, PyData.shown]; exact ReprIs.int t (by simpa [pyD, PyData.showable] using sh)) (by simp only [pyD]; exact Reads.int i t)
  | .str cs, n, v, u, p, z, r, q => by
    obtain ⟨l, _, _⟩ := rp_ok _ n p z
    simp only [Rep] at r
    subst r
    obtain ⟨t, rfl⟩ := q
    refine .atom ?_ (by simp only [pyD]; exact Reads.str _ t)
    simp only [pyD, PyData.shown] at l ⊢
    exact ReprIs.str _ t (by rw [sizeLine_eq]; omega)
  | .tup xs, n, v, u, p, z, r, q => by
    obtain ⟨l, _, _⟩ := rp_ok _ n p z
    simp only [Rep] at r
    obtain ⟨a, vs, rfl, hq, rl⟩ := r
    cases q
    cases n with
    | zero => simp [D.shr] at p
    | succ n =>
      obtain ⟨its, rv, ⟨o, ho, hc, m, hd⟩, _⟩ := I.tuple hq.t
      simp only [pyD] at l ⊢
      simp only [PyData.shown] at l
      exact (shn_tup ho hc hd (shnL_ok I xs n vs its (by simpa only [D.shr] using p) (by simp only [D.rsz] at z; omega) rl rv) (by rw [sizeLine_eq]; omega)).1
  | .lst xs, n, v, u, p, z, r, q => by
    obtain ⟨l, _, _⟩ := rp_ok _ n p z
    simp only [Rep] at r
    obtain ⟨a, vs, rfl, _, hq, rl⟩ := r
    cases q
    cases n with
    | zero => simp [D.shr] at p
    | succ n =>
      obtain ⟨its, rv, ⟨o, m, ho, hc, _, hd⟩, _⟩ := I.list (SqL.of hq)
      simp only [pyD] at l ⊢
      simp only [PyData.shown] at l
      exact (shn_lst ho hc hd (shnL_ok I xs n vs its (by simpa only [D.shr] using p) (by simp only [D.rsz] at z; omega) rl rv) (by rw [sizeLine_eq]; omega)).1
  | .dk ks ds, n, v, u, p, z, r, q => by
    simp only [Rep] at r
    obtain ⟨a, es, rfl, _, ha, hk, rl⟩ := r
    cases q
    cases n with
    | zero => simp [D.shr] at p
    | succ n =>
      have p2 := p
      simp only [D.shr, Bool.and_eq_true] at p2
      obtain ⟨l, l1, l2, l3, _⟩ := dO_smp (w := X.w) (a := a) hk (by rw [← okK_smp (k := .i 0) rfl]; exact p2.1.2)
      rw [l1] at ha
      rw [← l3] at rl
      exact (dk_shn I ha l2 p z fun us rv => shnL_ok I ds n _ us p2.2 (by simp only [D.rsz] at z; omega) rl rv).1
  | .scr _, n, v, u, p, _, _, _ => by simp [D.shr] at p
  | .rp _, n, v, u, p, _, _, _ => by simp [D.shr] at p
theorem shnL_ok (I : L2.Inv X pins σ H s) : ∀ (ds : List D) (n : Nat) (vs : List V) (us : List Value), D.shrL ds n = true → D.rszL ds ≤ 10000000 → RepL (kwX X) Fz H ds vs → Vals vs us → ShnL X.prog X.w s.heap (pyL ds) us
  | [], n, vs, us, _, _, r, q => by
    rw [repL_nil.mp r] at q
    cases q
    simp only [pyL]
    exact .nil
  | d :: ds, n, vs, us, p, z, r, q => by
    simp only [RepL] at r
    obtain ⟨v, rest, rfl, r1, r2⟩ := r
    simp only [D.shrL, Bool.and_eq_true] at p
    simp only [D.rszL] at z
    cases q with
    | cons q1 q2 =>
      simp only [pyL]
      exact .cons (shn_ok I d n v _ p.1 (by omega) r1 q1) (shnL_ok I ds n rest _ p.2 (by omega) r2 q2)
end
/-- the top may be anyone's -/
theorem top_ok (I : L2.Inv X pins σ H s) {d : D} {n : Nat} {a : Addr} (p : D.shr d n = true) (z : D.rsz d ≤ 10000000) (r : RepF (kwX X) Fz H d (.ref a)) : Top X.prog X.w s.heap a (pyD d) := by
  obtain ⟨l, _, _⟩ := rp_ok _ n p z
  cases n with
  | zero => cases d <;> first | (simp [D.shr] at p; done) | (simp only [RepF, Rep] at r; cases r)
  | succ n =>
    cases d with
    | tup xs =>
      obtain ⟨b, vs, e, hq, rl⟩ := r.tup
      cases e
      obtain ⟨its, rv, ⟨o, ho, hc, m, hd⟩, _⟩ := I.tuple hq.t
      simp only [pyD] at l ⊢
      simp only [PyData.shown] at l
      exact (shn_tup ho hc hd (shnL_ok I xs n vs its (by simpa only [D.shr] using p) (by simp only [D.rsz] at z; omega) rl rv) (by rw [sizeLine_eq]; omega)).2
    | lst xs =>
      obtain ⟨b, vs, e, hq, rl⟩ := r.lst
      cases e
      obtain ⟨its, rv, ⟨o, m, ho, hc, _, hd⟩, _⟩ := I.list (SqL.of hq)
      simp only [pyD] at l ⊢
      simp only [PyData.shown] at l
      exact (shn_lst ho hc hd (shnL_ok I xs n vs its (by simpa only [D.shr] using p) (by simp only [D.rsz] at z; omega) rl rv) (by rw [sizeLine_eq]; omega)).2
    | dk ks ds =>
      obtain ⟨b, es, e, ha, hk, rl⟩ := r
      cases e
      have p2 := p
      simp only [D.shr, Bool.and_eq_true] at p2
      obtain ⟨l, l1, l2, l3, _⟩ := dO_smp (w := X.w) (a := a) hk (by rw [← okK_smp (k := .i 0) rfl]; exact p2.1.2)
      rw [show (kwX X).w = X.w from rfl, l1] at ha
      rw [← l3] at rl
      exact (dk_shn I ha l2 p z fun us rv => shnL_ok I ds n _ us p2.2 (by simp only [D.rsz] at z; omega) rl rv).2
    | scr ns => simp [D.shr] at p
    | rp d => simp [D.shr] at p
    | _ => simp only [RepF, Rep] at r; cases r
end
theorem bi_repr (g0 : X.A.guards = some []) (hu : X.A.units + 64 < cLine) : CallR X (.builtin "repr") (rBi (kwX X) Fz (biD .repr)) := by
  refine bi_one (m := reprD) (biOne (fun d => rfl) rfl (fun _ _ _ => rfl)) fun pins s σ H x us Q d o I r hd hm q => ?_
  unfold reprD at hm
  obtain ⟨hc, rfl⟩ := opt_if hm
  rw [Bool.and_eq_true, decide_eq_true_eq] at hc
  obtain ⟨hs, hz⟩ := hc
  obtain ⟨hl, hsh, hdp⟩ := rp_ok d 60 hs hz
  have done : ∀ (h' : Heap) (tk : Nat) (u : Tok), (∀ b o, s.heap.get? b = some o → h'.get? b = some o) → EP X pins σ Q (.str (pyD d).shown u) { s with heap := h', toks := tk } := fun h' tk u hk =>
    ⟨.str (pyD d).shown, H, I.kept hk, ⟨_, rfl⟩, Res.same q (by simp only [Rep])⟩
  have fit : (pyD d).shown.length ≤ sizeLine := by rw [sizeLine_eq]; omega
  have refs : ∀ a, x = .ref a → wpAny (model X.prog X.w) X.A (call (.builtin "repr") us) (EP X pins σ Q) X.xe s := by
    intro a e
    subst e
    rw [Vals.ref1 r]
    obtain ⟨T, idr, S⟩ := top_ok I hs hz hd
    exact call_repr_slot (by omega) (S.typeIs s fun _ _ e => e) S.slotRepr (S.call X.A.in1 X.xe s _ g0 (by show X.A.units + 1 + _ < cLine; omega) (fun _ _ e => e) fun h' u tk hk => ⟨_, _, rfl, done h' tk u hk⟩)
  have one : ∃ u, us = [u] ∧ RelV x u := by
    cases r with
    | cons h t => cases t; exact ⟨_, rfl, h⟩
  obtain ⟨u, rfl, ru⟩ := one
  cases d with
  | non =>
    have := hd.non; subst this
    cases ru
    exact PySem.P.repr_of_none (done s.heap (s.toks + 1) s.toks fun _ _ e => e)
  | bl b =>
    have := hd.bl; subst this
    cases ru
    exact PySem.P.repr_of_bool (done s.heap (s.toks + 1) s.toks fun _ _ e => e)
  | int i =>
    have := hd.int; subst this
    obtain ⟨t, rfl⟩ := ru
    refine PySem.P.repr_of_int ?_ (done s.heap (s.toks + 1) s.toks fun _ _ e => e)
    simpa only [pyD, PyData.showable, decide_eq_true_eq] using hsh
  | str c =>
    have := hd.str; subst this
    obtain ⟨t, rfl⟩ := ru
    exact PySem.P.repr_of_str (done s.heap (s.toks + 1) s.toks fun _ _ e => e) fit
  | tup xs => obtain ⟨a, vs, rfl, _⟩ := hd.tup; exact refs a rfl
  | lst xs => obtain ⟨a, vs, rfl, _⟩ := hd.lst; exact refs a rfl
  | dk ks ds => obtain ⟨a, vs, rfl, _⟩ := hd; exact refs a rfl
  | scr _ => simp [D.shr] at hs
  | rp _ => simp [D.shr] at hs
theorem bi_sum (hc : X.calm = true) : CallR X (.builtin "sum") (rBi (kwX X) Fz (biD .sum)) := by
  refine bi_one (m := sumD) (biOne (fun d => rfl) rfl (fun _ _ _ => rfl)) fun pins s σ H x us Q d o I r hd hm q => ?_
  cases d <;> simp only [sumD] at hm <;> try (cases hm; done)
  obtain ⟨ns, hn, rfl⟩ := Option.map_eq_some_iff.mp hm
  obtain ⟨a, vs, rfl, ha, rl⟩ := hd.lst
  have := rl.ofInts hn
  subst this
  exact cr_sum hc pins s σ H _ us Q I r ⟨a, ns, rfl, SqL.of ha, q.int⟩
theorem bi_dict (hc : X.calm = true) : CallR X (.type "dict") (rBi (kwX X) Fz (biD .dict)) := by
  refine bi_one (m := dictD) (biOne (fun d => rfl) rfl (fun _ _ _ => rfl)) fun pins s σ H x us Q d o I r hd hm q => ?_
  cases d <;> simp only [dictD] at hm <;> try (cases hm; done)
  obtain ⟨kvs, hk, rfl⟩ := Option.map_eq_some_iff.mp hm
  obtain ⟨a, vs, rfl, ha, rl⟩ := hd.lst
  obtain ⟨ps, l, rfl, e2, e3, e4⟩ := pairT_rel rl hk
  have s1 := pairsT_smp hk
  obtain ⟨f1, f2⟩ := merge_rel (acc := []) (ac := []) s1 rfl e3 e4 rfl (repL_nil.mpr rfl)
  have s2 := merge_smp (acc := []) s1 rfl
  refine call_dictP hc pins s σ H _ us Q I r ⟨a, ps, l, rfl, SqL.of ha, e2, fun p hp => ?_⟩
  have gr : Grow H (upd H p (.dK (mergeK [] l))) := Grow.upd hp
  refine q _ _ gr ?_
  simp only [ResO]
  exact ⟨p, (mergeK [] l).map fun q => (KX.k q.1, q.2), rfl, hp, by rw [dO_k]; exact upd_same, KysR.ofK f1 s2, by rw [List.map_map]; exact RepL.keep gr.keep (fun _ z => z) _ _ f2⟩
theorem countP_py : ∀ (xs : List D) (e : D) (n : Nat), D.shpL xs n = true → D.shp e n = true → (pyL xs).countP (fun y => PyData.eqv y (pyD e)) = xs.countP fun y => D.eqv y e
  | [], e, n, _, _ => by simp [pyL]
  | x :: xs, e, n, p, q => by
    simp only [D.shpL, Bool.and_eq_true] at p
    simp only [pyL, List.countP_cons, countP_py xs e n p.2 q, py_eqv x e n n p.1 q]
theorem plain_py : ∀ (d : D) (n : Nat), D.shp d n = true → (pyD d).plain = true := fun d n h => PyData.plain_of_canLay0 _ (py_lay d n h).1
theorem depth_py {xs : List D} {e : D} (p : D.shpL xs 60 = true) (q : D.shp e 60 = true) : min (PyData.depthAll (pyL xs)) (pyD e).depth ≤ 60 := by
  have := (py_lay e 60 q).2
  omega
theorem plainL_py {xs : List D} (p : D.shpL xs 60 = true) : PyData.plainAll (pyL xs) = true := by
  have := plain_py (.lst xs) 61 (by simpa only [D.shp] using p)
  simpa only [pyD, PyData.plain] using this
def cntIn (t : Bool) (d e : D) : Option Opd := match t, d with
  | false, .lst xs => cntD (.lst xs) e
  | true, .tup xs => cntD (.tup xs) e
  | _, _ => none
def rCnt (K : KW) (Fz : Addr → Prop) (t : Bool) : V → List V → Hp → VK → Prop := fun x xs H Q => ∃ d e y o, xs = [y] ∧ RepF K Fz H d x ∧ RepF K Fz H e y ∧ cntIn t d e = some o ∧ Res K Fz H o Q
theorem mt_lcnt (hu : X.A.units + 64 < cLine) : MtR X "list.count" (rCnt (kwX X) Fz false) := by
  intro pins s σ H x xs v us Q I rx rs ⟨d, e, y, o, e1, hd, he, hm, q⟩
  subst e1
  cases d <;> simp only [cntIn] at hm <;> try (cases hm; done)
  rename_i ds
  unfold cntD at hm
  obtain ⟨hc, rfl⟩ := opt_if hm
  obtain ⟨h1, h2⟩ := Bool.and_eq_true_iff.mp hc
  obtain ⟨a, ws, rfl, ha, rl⟩ := hd.lst
  cases rx
  obtain ⟨u, rfl, ru⟩ := rs.one
  obtain ⟨its, rv, hl, _⟩ := I.list (SqL.of ha)
  obtain ⟨as, rd⟩ := Dp.readsAll I (pyL ds) ws its (dpL_of ds ws 60 h2 rl) rv
  obtain ⟨bs, re⟩ := Dp.reads I (pyD e) y u (dpF_of h1 he) ru
  refine SeqAt.count_list_data hl.isList (show ReadsAll s.heap its.toArray.toList (pyL ds) as from rd) re (plainL_py h2) (plain_py e 60 h1) (by have := depth_py h2 h1; omega) ?_
  rw [countP_py ds e 60 h2 h1]
  exact ⟨.int _, H, I.tok _, ⟨_, rfl⟩, q.int⟩
theorem mt_tcnt (hu : X.A.units + 64 < cLine) : MtR X "tuple.count" (rCnt (kwX X) Fz true) := by
  intro pins s σ H x xs v us Q I rx rs ⟨d, e, y, o, e1, hd, he, hm, q⟩
  subst e1
  cases d <;> simp only [cntIn] at hm <;> try (cases hm; done)
  rename_i ds
  unfold cntD at hm
  obtain ⟨hc, rfl⟩ := opt_if hm
  obtain ⟨h1, h2⟩ := Bool.and_eq_true_iff.mp hc
  obtain ⟨a, ws, rfl, ha, rl⟩ := hd.tup
  cases rx
  obtain ⟨u, rfl, ru⟩ := rs.one
  obtain ⟨its, rv, hl, _⟩ := I.tuple ha.t
  obtain ⟨as, rd⟩ := Dp.readsAll I (pyL ds) ws its (dpL_of ds ws 60 h2 rl) rv
  obtain ⟨bs, re⟩ := Dp.reads I (pyD e) y u (dpF_of h1 he) ru
  refine SeqAt.count_tuple_data (show s.heap.IsTuple a its.toArray from hl) (show ReadsAll s.heap its.toArray.toList (pyL ds) as from rd) re (plainL_py h2) (plain_py e 60 h1) (by have := depth_py h2 h1; omega) ?_
  rw [countP_py ds e 60 h2 h1]
  exact ⟨.int _, H, I.tok _, ⟨_, rfl⟩, q.int⟩
theorem place_py : ∀ (xs : List D) (e : D) (n : Nat), D.shpL xs n = true → D.shp e n = true → (pyL xs).findIdx? (fun y => PyData.eqv y (pyD e)) = xs.findIdx? fun y => D.eqv y e
  | [], e, n, _, _ => by simp [pyL]
  | x :: xs, e, n, p, q => by
    simp only [D.shpL, Bool.and_eq_true] at p
    simp only [pyL, List.findIdx?_cons, place_py xs e n p.2 q, py_eqv x e n n p.1 q]
/-- xs.remove(y) -/
def rRemD (K : KW) (Fz : Addr → Prop) : V → List V → Hp → VK → Prop := fun x xs H Q => ∃ a y ws ds e j, x = .ref a ∧ xs = [y] ∧ H a = some (.lst ws) ∧ RepL K Fz H ds ws ∧ RepF K Fz H e y ∧ D.shp e 60 = true ∧ D.shpL ds 60 = true ∧ ds.length ≤ 16777216 ∧
  (ds.findIdx? fun y => D.eqv y e) = some j ∧ Q .non (upd H a (.lst (ws.eraseIdx j)))
theorem mt_remD (hu : X.A.units + 64 < cLine) : MtR X "list.remove" (rRemD (kwX X) Fz) := by
  intro pins s σ H x xs v us Q I rx rs ⟨a, y, ws, ds, e, j, e0, e1, hH, rl, he, h1, h2, hl, hj, q⟩
  subst e0 e1
  cases rx
  obtain ⟨u, rfl, ru⟩ := rs.one
  obtain ⟨z, its, n, rv, hlen, el⟩ := I.lstM hH
  obtain ⟨as, rd⟩ := Dp.readsAll I (pyL ds) ws its (dpL_of ds ws 60 h2 rl) rv
  obtain ⟨bs, re⟩ := Dp.reads I (pyD e) y u (dpF_of h1 he) ru
  refine SeqAt.remove_list_data (j := j) ⟨_, el, rfl, n, rfl⟩ (show ReadsAll s.heap its.toArray.toList (pyL ds) as from rd) re (plainL_py h2) (plain_py e 60 h1) (by have := depth_py h2 h1; omega) ?_ (by rw [List.size_toArray, ← hlen]; exact z) ?_
  · show (pyL ds).findIdx? _ = some j
    rw [place_py ds e 60 h2 h1]; exact hj
  · have hjl : j < its.length := by
      have := List.findIdx?_eq_some_iff_getElem.mp hj
      obtain ⟨q1, _⟩ := this
      have := rl.len
      omega
    refine ⟨.non, _, I.lset (its' := its.eraseIdx j) hH el ?_ ?_ ?_, rfl, q⟩
    · simp [Array.eraseIdxIfInBounds, hjl]
    · exact rv.eraseIdx j
    · have := List.length_eraseIdx_le ws j
      omega
end
end Ev

set_option linter.all false
set_option autoImplicit false
set_option Elab.async false
set_option maxRecDepth 100000
set_option maxHeartbeats 4000000
/-! EvZ0: sorted of tuples of texts, of tuples of ints. -/
namespace Ev
open PySem PySem.Spec L2 PyProof.Rows PyProof.Rows.G
/-- what a part counts by -/
def keyP : V → Int ⊕ List Nat
  | .int i => .inl i
  | .str s => .inr s.cps.toList
  | _ => .inl 0
def keyV (vs : List V) : List (Int ⊕ List Nat) := vs.map keyP
/-- all texts, or all ints -/
def allSh (sh : Bool) (vs : List V) : Prop := ∀ v ∈ vs, (sh = true → ∃ s, v = V.str s) ∧ (sh = false → ∃ i, v = V.int i)
theorem items_key {sh : Bool} : ∀ {vs : List V} {us : List Value} (i : Nat), Vals vs us → allSh sh vs → tupItems (fun _ => sh) i us = some (keyV vs)
  | [], _, i, .nil, _ => by simp [tupItems, keyV]
  | v :: vs, _, i, .cons (b := u) r t, h => by
    have ih := items_key (i + 1) t fun w hw => h w (List.mem_cons_of_mem _ hw)
    have hv := h v List.mem_cons_self
    cases sh with
    | true =>
      obtain ⟨s, rfl⟩ := hv.1 rfl
      obtain ⟨tk, rfl⟩ := r
      simp [tupItems, ih, keyV, keyP]
    | false =>
      obtain ⟨n, rfl⟩ := hv.2 rfl
      obtain ⟨tk, rfl⟩ := r
      simp [tupItems, ih, keyV, keyP]
theorem refs_vals {α : Type} {f : α → Addr} : ∀ {ks : List α} {us : List Value}, Vals (ks.map fun p => V.ref (f p)) us → us = ks.map fun p => Value.ref (f p)
  | [], _, .nil => rfl
  | p :: ks, _, .cons r t => by
    cases r
    rw [refs_vals t]
    rfl
theorem vals_refs {α : Type} {f : α → Addr} : ∀ (ks : List α), Vals (ks.map fun p => V.ref (f p)) (ks.map fun p => Value.ref (f p))
  | [] => .nil
  | p :: ks => .cons rfl (vals_refs ks)
theorem perm_pre {α β : Type} {f : α → β} {l m : List β} (p : l.Perm m) : ∀ ks : List α, m = ks.map f → ∃ L : List α, L.Perm ks ∧ l = L.map f := by
  induction p with
  | nil => intro ks h; exact ⟨[], by rw [List.map_eq_nil_iff.mp h.symm], rfl⟩
  | cons x q ih =>
    intro ks h
    cases ks with
    | nil => cases h
    | cons k ks =>
      simp only [List.map_cons, List.cons.injEq] at h
      obtain ⟨L, h1, h2⟩ := ih ks h.2
      exact ⟨k :: L, h1.cons k, by rw [List.map_cons, h2, h.1]⟩
  | swap x y l =>
    intro ks h
    match ks, h with
    | a :: b :: ks, h =>
      simp only [List.map_cons, List.cons.injEq] at h
      exact ⟨b :: a :: ks, List.Perm.swap a b ks, by simp [h.1, h.2.1, h.2.2]⟩
    | [a], h => simp at h
    | [], h => simp at h
  | trans q r ih1 ih2 =>
    intro ks h
    obtain ⟨L, h1, h2⟩ := ih2 ks h
    obtain ⟨L2, h3, h4⟩ := ih1 L h2
    exact ⟨L2, h3.trans h1, h4⟩
theorem pairs_self : ∀ vs : List Value, (pairsOf vs).toList = vs.map fun v => ((v, v) : Keyed) := fun vs => by
  simp only [pairsOf, Array.toList_zip]
  induction vs with
  | nil => rfl
  | cons v vs ih => simpa using ih
theorem tupKey_at {h : Heap} {shape : Nat → Bool} {a : Addr} {o : Obj} {xs : Array Value} {n : Nat} {l : List (Int ⊕ List Nat)} (ho : h.get? a = some o) (hc : o.cls = .type "tuple") (hd : o.data = .seq xs n) (hi : tupItems shape 0 xs.toList = some l) : tupKeyC h shape (.ref a) = some l := by
  have e : isTupObj h (.ref a) = true := by simp [isTupObj, ho, hc]
  unfold tupKeyC
  rw [if_pos e]
  simp [tupKey, ho, hd, hi]
section
variable {X : Cx}
def rSortTx (K : KW) (sh : Bool) : List V → Hp → VK → Prop := fun xs H Q => ∃ (a : Addr) (kss : List (Addr × List V)), xs = [.ref a] ∧ SqL K.f H a (kss.map fun p => V.ref p.1) ∧ (∀ p ∈ kss, SqT K.f H p.1 p.2 ∧ p.2 ≠ [] ∧ allSh sh p.2) ∧
  ∀ (L : List (Addr × List V)) (p : Addr), L.Perm kss → L.Pairwise (fun x y => lexLt itemOrd (keyV y.2) (keyV x.2) = false) → H p = none → Q (.ref p) (upd H p (.lst (L.map fun p => V.ref p.1)))
theorem cr_sortedTx {sh : Bool} : CallR X (.builtin "sorted") (rSortTx (kwX X) sh) := by
  intro pins s σ H vs us Q I r h
  obtain ⟨a, kss, rfl, hs, hk, q⟩ := h
  obtain ⟨its, rv, hl, hz⟩ := I.list hs
  rw [Vals.ref1 r]
  have hits := refs_vals rv
  subst hits
  have one : ∀ p ∈ kss, ∃ o xs n f, s.heap.get? p.1 = some o ∧ o.cls = .type "tuple" ∧ o.data = .seq xs n ∧ xs[0]? = some f ∧ ((sh = false → ∃ k t, f = .int k t) ∧ (sh = true → ∃ x t, f = .str x t)) ∧ tupItems (fun _ => sh) 0 xs.toList = some (keyV p.2) := fun p hp => by
    obtain ⟨g1, g2, g3⟩ := hk p hp
    obtain ⟨ws, rw', ⟨o, ho, hc, n, hd⟩, _⟩ := I.tuple g1
    have hkey := items_key (sh := sh) 0 rw' g3
    cases hp2 : p.2 with
    | nil => exact absurd hp2 g2
    | cons v vs' =>
      rw [hp2] at rw' g3
      cases rw' with
      | cons r1 t1 =>
        rename_i u us'
        have hv := g3 v List.mem_cons_self
        refine ⟨o, _, n, u, ho, hc, hd, by simp, ⟨fun z => ?_, fun z => ?_⟩, by rw [← hp2]; exact hkey⟩
        · obtain ⟨i, rfl⟩ := hv.2 z
          obtain ⟨t, rfl⟩ := r1
          exact ⟨i, t, rfl⟩
        · obtain ⟨i, rfl⟩ := hv.1 z
          obtain ⟨t, rfl⟩ := r1
          exact ⟨i, t, rfl⟩
  have keyc : ∀ p ∈ kss, tupKeyC s.heap (fun _ => sh) (.ref p.1) = some (keyV p.2) := fun p hp => by
    obtain ⟨o, xs, n, f, g1, g2, g3, g4, g5, g6⟩ := one p hp
    exact tupKey_at g1 g2 g3 g6
  have tof : ∃ fs, TupsOf s.heap (fun _ => sh) (kss.map fun p => Value.ref p.1) fs := by
    clear hs hl hz q rv keyc
    clear hk
    induction kss with
    | nil => exact ⟨[], .nil⟩
    | cons p kss ih =>
      obtain ⟨fs, hf⟩ := ih fun p' hp' => one p' (List.mem_cons_of_mem _ hp')
      obtain ⟨o, xs, n, f, g1, g2, g3, g4, g5, g6⟩ := one p List.mem_cons_self
      exact ⟨f :: fs, .cons ⟨p.1, o, xs, n, rfl, g1, g2, g3, g4, g5.1, g5.2⟩ hf⟩
  obtain ⟨fs, hfs⟩ := tof
  refine sorted_tups hl.isList hfs (fun v hv => ?_) (by rw [← rv.length]; exact hz) fun st hp hsort _ => ?_
  · obtain ⟨p, hp, rfl⟩ := List.mem_map.mp hv
    exact ⟨_, keyc p hp⟩
  · have hpl : (arrOf st).toList.Perm (kss.map fun p => ((Value.ref p.1, Value.ref p.1) : Keyed)) := by
      have := Array.perm_iff_toList_perm.mp hp
      refine this.trans ?_
      rw [pairs_self, List.map_map]
      exact List.Perm.refl _
    obtain ⟨L, hL, eL⟩ := perm_pre hpl kss rfl
    have hout : ((arrOf st).map (·.2)).toList = L.map fun p => Value.ref p.1 := by
      rw [Array.toList_map, eL, List.map_map]
      rfl
    have hsz : (arrOf st).size = L.length := by rw [← Array.length_toList, eL, List.length_map]
    have hsz2 : (pairsOf (kss.map fun p => Value.ref p.1)).size = L.length := by
      rw [← hsz]
      have := hp.size_eq
      exact this.symm
    have hpw : L.Pairwise (fun x y => lexLt itemOrd (keyV y.2) (keyV x.2) = false) := by
      refine List.pairwise_iff_getElem.mpr fun i j hi hj hij => ?_
      have := hsort i j (by omega) (by rw [hsz2]; exact hj)
      have kk : ∀ (i : Nat) (hi : i < L.length), KK (tupKindC s.heap (fun _ => sh)) (arrOf st) i = keyV L[i].2 := fun i hi => by
        unfold KK
        have e : (arrOf st)[i]? = some ((Value.ref L[i].1, Value.ref L[i].1) : Keyed) := by
          rw [← Array.getElem?_toList, eL, List.getElem?_map, List.getElem?_eq_getElem hi]
          rfl
        rw [e]
        show (tupKeyC s.heap (fun _ => sh) (.ref L[i].1)).getD [] = _
        rw [keyc _ (hL.mem_iff.mp (List.getElem_mem hi))]
        rfl
      rw [kk i hi, kk j hj] at this
      exact this
    obtain ⟨ep, he⟩ := PyProof.Rows.sortedAll_at s.heap (kss.map fun p => Value.ref p.1) ((arrOf st).map (·.2))
    have hlen : (L.map fun p => V.ref p.1).length ≤ sizeLine := by
      rw [List.length_map, hL.length_eq]
      rw [List.length_map] at hz
      exact hz
    refine ⟨.ref _, upd H (s.heap.objs.size + 1) (.lst (L.map fun p => V.ref p.1)), I.laid (t' := s.toks) (fun _ _ => PyProof.Rows.sortedAll_old) (Nat.le_succ _) ⟨hlen, L.map fun p => Value.ref p.1, ep, vals_refs L, ?_⟩, rfl, q _ _ hL hpw (I.hok.fresh (Nat.le_succ _))⟩
    rw [← hout, Array.toArray_toList]
    exact he
end
end Ev

set_option linter.all false
set_option autoImplicit false
set_option Elab.async false
set_option maxRecDepth 100000
set_option maxHeartbeats 4000000
/-! EvZ1: sorted of things of one shape, nested. -/
namespace Ev
open PySem PySem.Spec L2 PyProof.Rows PySem.W
/-- two sorted arrangements of the same things are one, where no two unlike ones rank alike -/
theorem uniq_srt {α : Type} {le : α → α → Bool} : ∀ {l m : List α}, (∀ x ∈ l, ∀ y ∈ l, le x y = true → le y x = true → x = y) → l.Perm m → l.Pairwise (fun x y => le x y = true) → m.Pairwise (fun x y => le x y = true) → l = m
  | [], m, _, q, _, _ => by rw [List.Perm.nil_eq q]
  | x :: l, [], _, q, _, _ => by have := q.length_eq; simp at this
  | x :: l, y :: m, ha, q, h1, h2 => by
    have e : x = y := by
      rcases List.mem_cons.mp (q.mem_iff.mp (List.mem_cons_self (a := x) (l := l))) with e | e1
      · exact e
      · rcases List.mem_cons.mp (q.mem_iff.mpr (List.mem_cons_self (a := y) (l := m))) with e | e2
        · exact e.symm
        · exact ha x List.mem_cons_self y (List.mem_cons_of_mem _ e2) ((List.pairwise_cons.mp h1).1 y e2) ((List.pairwise_cons.mp h2).1 x e1)
    subst e
    rw [uniq_srt (fun a ha' b hb => ha a (List.mem_cons_of_mem _ ha') b (List.mem_cons_of_mem _ hb)) q.cons_inv (List.pairwise_cons.mp h1).2 (List.pairwise_cons.mp h2).2]
theorem insZ_mem {α : Type} {lt : α → α → Bool} {x z : α} : ∀ {l : List α}, z ∈ insB lt x l ↔ z = x ∨ z ∈ l
  | [] => by simp [insB]
  | y :: ys => by
    simp only [insB]
    split
    · rw [List.mem_cons, insZ_mem, List.mem_cons]
      exact ⟨fun h => h.elim (fun h => .inr (.inl h)) fun h => h.imp id .inr, fun h => h.elim (fun h => .inr (.inl h)) fun h => h.imp id .inr⟩
    · simp
theorem insZ_perm {α : Type} {lt : α → α → Bool} {x : α} : ∀ {l : List α}, (insB lt x l).Perm (x :: l)
  | [] => List.Perm.refl _
  | y :: ys => by
    simp only [insB]
    split
    · exact (insZ_perm.cons y).trans (List.Perm.swap x y ys)
    · exact List.Perm.refl _
theorem isortZ_perm {α : Type} {lt : α → α → Bool} : ∀ {l : List α}, (isortB lt l).Perm l
  | [] => List.Perm.refl _
  | x :: xs => insZ_perm.trans (isortZ_perm.cons x)
abbrev leZ (x y : D) : Bool := dataLe false pyD x y
theorem leZ_eq (x y : D) : leZ x y = !dataLt (pyD y) (pyD x) := rfl
theorem leZ_trans {x y z : D} (h1 : leZ x y = true) (h2 : leZ y z = true) : leZ x z = true := by
  rw [leZ_eq, Bool.not_eq_true'] at *
  exact KeyOrd.kle_trans (O := KoZ) h1 h2
theorem leZ_total (x y : D) : leZ x y = true ∨ leZ y x = true := by
  rw [leZ_eq, leZ_eq]
  cases q : dataLt (pyD y) (pyD x) with
  | false => exact .inl rfl
  | true => exact .inr (by rw [dl_asym q]; rfl)
theorem leZ_tot2 (x y : D) : (leZ x y || leZ y x) = true := by
  rcases leZ_total x y with z | z
  · rw [z]; rfl
  · rw [z, Bool.or_true]
theorem insZ_srt {x : D} : ∀ {l : List D}, (∀ y ∈ l, D.alk y x = true) → l.Pairwise (fun x y => leZ x y = true) → (insB gLt x l).Pairwise fun x y => leZ x y = true
  | [], _, _ => List.pairwise_singleton _ _
  | y :: ys, ha, h => by
    obtain ⟨h1, h2⟩ := List.pairwise_cons.mp h
    have g := gLt_py y x (ha y List.mem_cons_self)
    simp only [insB]
    split
    · rename_i hlt
      rw [g] at hlt
      refine List.pairwise_cons.mpr ⟨fun z hz => ?_, insZ_srt (fun z hz => ha z (List.mem_cons_of_mem _ hz)) h2⟩
      rcases insZ_mem.mp hz with rfl | hz
      · rw [leZ_eq, dl_asym hlt]; rfl
      · exact h1 z hz
    · rename_i hlt
      rw [g, Bool.not_eq_true] at hlt
      have l1 : leZ x y = true := by rw [leZ_eq, hlt]; rfl
      refine List.pairwise_cons.mpr ⟨fun z hz => ?_, h⟩
      rcases List.mem_cons.mp hz with rfl | hz
      · exact l1
      · exact leZ_trans l1 (h1 z hz)
theorem isortZ_srt : ∀ {l : List D}, (∀ x ∈ l, ∀ y ∈ l, D.alk x y = true) → (isortB gLt l).Pairwise fun x y => leZ x y = true
  | [], _ => List.Pairwise.nil
  | x :: xs, h => insZ_srt (fun y hy => h y (List.mem_cons_of_mem _ (isortZ_perm.mem_iff.mp hy)) x List.mem_cons_self) (isortZ_srt fun a ha b hb => h a (List.mem_cons_of_mem _ ha) b (List.mem_cons_of_mem _ hb))
theorem sort_eq {l : List D} (h : ∀ x ∈ l, ∀ y ∈ l, D.alk x y = true) : isortB gLt l = l.mergeSort (dataLe false pyD) := by
  refine uniq_srt (le := leZ) (fun x hx y hy e1 e2 => ?_) (isortZ_perm.trans (List.mergeSort_perm l _).symm) (isortZ_srt h) (List.pairwise_mergeSort (le := leZ) (fun a b c => leZ_trans) (fun a b => leZ_tot2 a b) l)
  have hx' := isortZ_perm.mem_iff.mp hx
  have hy' := isortZ_perm.mem_iff.mp hy
  have a := h x hx' y hy'
  rw [leZ_eq, Bool.not_eq_true'] at e1 e2
  cases q : PyData.eqv (pyD x) (pyD y) with
  | true => exact alk_eq x y a q
  | false =>
    have := dl_total (alk_py x y a) q e2
    rw [e1] at this
    cases this
section
variable {X : Cx} {Fz : Addr → Prop}
/-- a value stands for a datum -/
def StF (K : KW) (Fz : Addr → Prop) (H : Hp) (v : Value) (d : D) : Prop := ∃ x, RelV x v ∧ Rep K Fz H d x
theorem each_st {K : KW} {H : Hp} : ∀ {xs : List D} {vs : List V} {us : List Value}, RepL K Fz H xs vs → Vals vs us → EachIs (StF K Fz H) us xs
  | [], vs, us, r, v => by
    rw [repL_nil.mp r] at v
    cases v
    exact .nil
  | x :: xs, vs, us, r, v => by
    simp only [RepL] at r
    obtain ⟨w, vs', rfl, r1, r2⟩ := r
    cases v with
    | cons h t => exact .cons ⟨w, h, r1⟩ (each_st r2 t)
theorem each_back {K : KW} {H : Hp} : ∀ {xs : List D} {us : List Value}, EachIs (StF K Fz H) us xs → ∃ vs : List V, RepL K Fz H xs vs ∧ Vals vs us
  | [], _, .nil => ⟨[], repL_nil.mpr rfl, .nil⟩
  | x :: xs, _, .cons ⟨w, h, r1⟩ t => by
    obtain ⟨vs, a, b⟩ := each_back t
    exact ⟨w :: vs, repL_cons.mpr ⟨r1, a⟩, .cons h b⟩
theorem each_in {α β : Type} {R R' : α → β → Prop} : ∀ {as : List α} {bs : List β}, EachIs R as bs → (∀ a b, b ∈ bs → R a b → R' a b) → EachIs R' as bs
  | _, _, .nil, _ => .nil
  | _, _, .cons h t, f => .cons (f _ _ List.mem_cons_self h) (each_in t fun a b hb r => f a b (List.mem_cons_of_mem _ hb) r)
theorem sorted_gen {pins : List (Addr × Obj)} {s : Shared} {σ : L2.St} {H : Hp} {Q : VK} {xs : List D} {vs : List V} {a : Addr} {us : List Value} (hu : X.A.units + 64 < cLine) (I : L2.Inv X pins σ H s)
    (r : Vals [V.ref a] us) (hl : sortable2 xs = true) (ha : H a = some (.lst vs)) (ra : RepL (kwX X) Fz H xs vs) (q : Res (kwX X) Fz H (.new (isortB gLt xs)) Q) :
    wpAny (model X.prog X.w) X.A (call (.builtin "sorted") us) (EP X pins σ Q) X.xe s := by
  unfold sortable2 at hl
  simp only [Bool.and_eq_true, List.all_eq_true] at hl
  obtain ⟨⟨h1, h2⟩, h3⟩ := hl
  obtain ⟨its, rv, hil, hz⟩ := I.list (SqL.of (K := X.K) ha)
  rw [Vals.ref1 r]
  have est := each_st ra rv
  have hlen : xs.length = its.length := by rw [← est.length]
  have sh : ∀ x ∈ xs, D.shp x 60 = true := fun x hx => h3 x hx
  refine sorted_data (R := StF (kwX X) Fz H) (enc := pyD) (bs := xs) hil.isList est (each_in est fun v d hd hst => ?_) ?_ ?_ (by rw [hlen, ← rv.length]; exact hz) (fun d hd => ?_) fun out ho eo => ?_
  · obtain ⟨w, hw, hr⟩ := hst
    exact Dp.reads I (pyD d) w v (dp_of d w 60 (sh d hd) hr) hw
  · intro d hd d' hd'
    obtain ⟨x, hx, rfl⟩ := List.mem_map.mp hd
    obtain ⟨y, hy, rfl⟩ := List.mem_map.mp hd'
    exact alk_py x y (h1 x hx y hy)
  · refine .inl fun d hd => ?_
    obtain ⟨x, hx, rfl⟩ := List.mem_map.mp hd
    have := h2 x hx
    cases x <;> simp [neTup] at this
    rename_i l
    cases l with
    | nil => simp [neTup] at this
    | cons y l => exact ⟨pyD y, pyL l, by simp only [pyD, pyL]⟩
  · have := (py_lay d 60 (sh d hd)).2
    omega
  · rw [← sort_eq h1] at eo
    obtain ⟨ws, b1, b2⟩ := each_back eo
    obtain ⟨ep, he⟩ := PyProof.Rows.sortedAll_at s.heap its (List.toArray out)
    have hwl : ws.length ≤ sizeLine := by
      rw [b1.len, isortZ_perm.length_eq, hlen, ← rv.length]
      exact hz
    have hn : H (s.heap.objs.size + 1) = none := I.hok.fresh (Nat.le_succ _)
    refine ⟨.ref _, upd H (s.heap.objs.size + 1) (.lst ws), I.laid (t' := s.toks) (fun _ _ => PyProof.Rows.sortedAll_old) (Nat.le_succ _) ⟨hwl, out, ep, b2, he⟩, rfl, q.lst (vs := ws) b1 hn⟩
end
end Ev

set_option linter.all false
set_option autoImplicit false
set_option Elab.async false
set_option maxRecDepth 100000
set_option maxHeartbeats 4000000
/-! EvZ2: the entries of a dict, its keys sorted. -/
namespace Ev
open PySem PySem.Spec PyProof.Rows L2 PySem.W
theorem kdl_raw {prog : Program} {w : World} {d : Addr} {es : Array DictEntry} {ep : Nat} (lo : (d == sysModules) = false) : KdlSrc prog w "dict" d d es.size (fun i v => ∃ hi : i < es.size, v = es[i].key) (fun h => h.DictRaw d es ep) where
  type := fun _ hm => hm.typeIs
  there := fun _ hm => by
    obtain ⟨o, ho, _⟩ := hm
    exact ⟨Heap.lt_size ho, Heap.lt_size ho⟩
  keep := fun _ _ hm hk => hm.at fun o e => hk d (.inl rfl) o e
  notList := by decide
  notTuple := by decide
  hint := fun _ _ _ _ hm hq => kdl_hint_dict hm.typeIs hq
  iter := fun _ _ hh hm => by
    have lt : d < _ := (by obtain ⟨o, ho, _⟩ := hm; exact Heap.lt_size ho)
    exact ⟨_, _, (fun _ _ hq => wpAny_pyIter_dict_raw lo hm hq), Walks.rawKeys hh _ d (Nat.ne_of_lt lt) es ep, ⟨⟨_, Heap.get?_push_size _ rfl, rfl, rfl⟩, hm.at fun o e => Heap.get?_push_of_some _ e⟩⟩
section
variable {X : Cx} {Fz : Addr → Prop} {pins : List (Addr × Obj)} {s : Shared} {σ : L2.St} {H : Hp}
theorem ent_keys : ∀ {es : List (KX × V)} {xs : List (NestedKey × Addr × Value)} {w : World}, EntR es xs → Vals (es.map fun p => kxV p.1) ((xs.map fun x => (⟨x.1.hash w, .ref x.2.1, x.2.2⟩ : DictEntry)).map (·.key)) ∧ Vals (es.map (·.2)) ((xs.map fun x => (⟨x.1.hash w, .ref x.2.1, x.2.2⟩ : DictEntry)).map (·.val))
  | _, _, _, .nil => ⟨.nil, .nil⟩
  | _, _, _, .cons h t => by
    obtain ⟨a, b⟩ := ent_keys t
    simp only [List.map_cons]
    refine ⟨.cons ?_ a, .cons h.2 b⟩
    rw [h.1]
    rfl
theorem dk_keys {P : Program} {w : World} : ∀ {ens : List DictEntry} {vs : List (L2.Key × Value)} {l : List (L2.Key × V)}, Pairs (mixKind P w) ens vs → L2.KV l vs → Vals (l.map fun p => kV p.1) (ens.map (·.key)) ∧ Vals (l.map (·.2)) (ens.map (·.val))
  | _, _, _, .nil, .nil => ⟨.nil, .nil⟩
  | _, _, _, .cons hi hv hp, .cons h t => by
    obtain ⟨a, b⟩ := dk_keys hp t
    simp only [List.map_cons]
    refine ⟨.cons ?_ a, .cons ?_ b⟩
    · rw [h.1]
      exact relV_key hi
    · rw [hv]; exact h.2
/-- the entries of a dict -/
theorem dO_raw (I : L2.Inv X pins σ H s) {a : Addr} {es : List (KX × V)} (hr : Rd H a (dO X.w a es)) : es.length ≤ sizeLine ∧ (a == sysModules) = false ∧ ∃ es' ep, s.heap.DictRaw a es' ep ∧ Vals (es.map fun p => kxV p.1) (es'.toList.map (·.key)) ∧ Vals (es.map (·.2)) (es'.toList.map (·.val)) := by
  unfold dO at hr
  split at hr
  · rename_i l hl
    obtain ⟨z, y, vs, kv, o, es', ep, h1, h2, h3, _, h5, _⟩ := dk_rd I.hok hr
    have e := plainX_map hl
    obtain ⟨k1, k2⟩ := dk_keys h5 kv
    refine ⟨by rw [e, List.length_map]; exact z, y, es', ep, ⟨o, h1, h2, h3⟩, ?_, ?_⟩
    · rw [e, List.map_map]; exact k1
    · rw [e, List.map_map]; exact k2
  · obtain ⟨⟨z, y, xs, r, o, es', ep, h1, h2, h3, h4, h5⟩, _, _⟩ := (show ObjOk X.prog X.w H s.heap a (tO X.w a es) from hr.ok I.hok)
    obtain ⟨k1, k2⟩ := ent_keys (w := X.w) r
    exact ⟨z, y, es', ep, ⟨o, h1, h2, h3⟩, by rw [h4]; exact k1, by rw [h4]; exact k2⟩
mutual
theorem reads_none0 {h : Heap} : ∀ (d : D) (v : Value) (as : List Addr), D.kok d = true → Reads h v (pyD d) as → as = []
  | .int i, _, _, _, r => by simp only [pyD] at r; cases r; rfl
  | .str s, _, _, _, r => by simp only [pyD] at r; cases r; rfl
  | .non, _, _, _, r => by simp only [pyD] at r; cases r; rfl
  | .tup xs, _, _, k, r => by
    simp only [pyD] at r
    cases r with
    | tuple _ _ _ ra => exact reads_noneL0 xs _ _ (by simpa only [D.kok] using k) ra
  | .bl b, _, _, k, _ => by simp [D.kok] at k
  | .lst b, _, _, k, _ => by simp [D.kok] at k
  | .dk _ _, _, _, k, _ => by simp [D.kok] at k
  | .scr b, _, _, k, _ => by simp [D.kok] at k
  | .rp b, _, _, k, _ => by simp [D.kok] at k
theorem reads_noneL0 {h : Heap} : ∀ (ds : List D) (vs : List Value) (as : List Addr), D.kokL ds = true → ReadsAll h vs (pyL ds) as → as = []
  | [], _, _, _, r => by simp only [pyL] at r; cases r; rfl
  | d :: ds, _, _, k, r => by
    simp only [pyL] at r
    simp only [D.kokL, Bool.and_eq_true] at k
    cases r with
    | cons r1 r2 => rw [reads_none0 d _ _ k.1 r1, reads_noneL0 ds _ _ k.2 r2]; rfl
end
/-- sorted of a dict whose keys are alike tuples -/
theorem sorted_dT {Q : VK} {ks : List Ky} {a : Addr} {es : List (KX × V)} {us : List Value} (hc : X.calm = true) (hu : X.A.units + 64 < cLine) (I : L2.Inv X pins σ H s) (r : Vals [V.ref a] us) (hl : sortable2 (ks.map kyD) = true)
    (ha : Rd H a (dO X.w a es)) (kr : KysR (kwX X) H ks (es.map (·.1))) (q : Res (kwX X) Fz H (.new (isortB gLt (ks.map kyD))) Q) :
    wpAny (model X.prog X.w) X.A (call (.builtin "sorted") us) (EP X pins σ Q) X.xe s := by
  unfold sortable2 at hl
  simp only [Bool.and_eq_true, List.all_eq_true] at hl
  obtain ⟨⟨al, nt⟩, sh60⟩ := hl
  rw [Vals.ref1 r]
  obtain ⟨z, lo, es', ep, raw, vk, _⟩ := dO_raw I ha
  have kl := kr.len
  simp only [List.length_map] at kl
  have zl : es'.size = es.length := by
    have := vk.length
    simpa using this.symm
  have rk : RepL (kwX X) Fz H (ks.map kyD) (es.map fun p => kxV p.1) := by
    have := kr.reps (Fz := Fz)
    rwa [List.map_map] at this
  refine Calls.call_function_entry PyProof.Rows.kind_sorted PyProof.Rows.plain_sorted PyProof.Rows.entry_sorted (PyProof.Rows.args_sorted1 _) ?_
  unfold Builtin.«sorted»
  refine wpAny_bind (m := checkCount "sorted" 1 1 _) (wpAny_pure ?_)
  refine wpAny_bind (PySem.W.kdu_collect (A := X.A.in1) (kdl_raw (prog := X.prog) (w := X.w) lo) (I.ok.hd hc) raw (by rw [zl]; exact z) fun h' tk acc hk hacc => ?_)
  have ea : acc.toList = es'.toList.map (·.key) := by
    refine List.ext_getElem? fun i => ?_
    by_cases hi : i < es'.size
    · have hi2 : i < acc.size := by rw [hacc.1]; exact hi
      obtain ⟨_, e2⟩ := hacc.2 i acc[i] (by simp [hi2])
      rw [List.getElem?_map, Array.getElem?_toList, Array.getElem?_toList, Array.getElem?_eq_getElem hi2, Array.getElem?_eq_getElem hi, e2]
      rfl
    · rw [List.getElem?_eq_none (by rw [Array.length_toList, hacc.1]; omega), List.getElem?_eq_none (by rw [List.length_map, Array.length_toList]; omega)]
  have n2 : EachIs (StF (kwX X) Fz H) acc.toList (ks.map kyD) := each_st rk (by rw [ea]; exact vk)
  have lN : acc.toList.length = ks.length := by have := n2.length; simpa using this
  have I1 : L2.Inv X pins σ H { s with heap := h', toks := tk } := I.kept hk
  have zk : ks.length ≤ sizeLine := by omega
  refine wpAny_bind (wpAny_newList ?_ (by rw [lN]; exact zk))
  have hoL : (h'.push (seqObj "list" acc.toList.toArray 0)).get? h'.objs.size = some (seqObj "list" acc.toList.toArray 0) := Heap.get?_push_size _ rfl
  show wpAny _ _ _ _ _ { s with heap := h'.push (seqObj "list" acc.toList.toArray 0), toks := tk }
  have k2 : ∀ b o, s.heap.get? b = some o → (h'.push (seqObj "list" acc.toList.toArray 0)).get? b = some o := fun b o e => Heap.get?_push_of_some _ (hk b o e)
  refine wpAny_bind (wpAny_holding (list_sort_data (s := { s with heap := h'.push (seqObj "list" acc.toList.toArray 0), toks := tk }) (R := StF (kwX X) Fz H) (enc := pyD) (bs := ks.map kyD) hoL n2 (each_in n2 fun v d hd hst => ?_) ?_ ?_ (by rw [List.length_map]; exact zk) (fun d hd => ?_) fun out lo2 eo => ?_))
  · obtain ⟨x, hx, hr⟩ := hst
    obtain ⟨as, ra⟩ := Dp.reads I (pyD d) x v (dp_of d x 60 (sh60 d hd) hr) hx
    obtain ⟨k, _, rfl⟩ := List.mem_map.mp hd
    have : as = [] := reads_none0 (kyD k) v as (ky_kok k) ra
    subst this
    exact ⟨[], PyProof.Rows.Reads.keeps k2 ra, by simp⟩
  · intro d hd d' hd'
    obtain ⟨x, hx, rfl⟩ := List.mem_map.mp hd
    obtain ⟨y, hy, rfl⟩ := List.mem_map.mp hd'
    exact alk_py x y (al x hx y hy)
  · refine .inl fun d hd => ?_
    obtain ⟨x, hx, rfl⟩ := List.mem_map.mp hd
    have := nt x hx
    cases x <;> simp [neTup] at this
    rename_i l
    cases l with
    | nil => simp [neTup] at this
    | cons y l => exact ⟨pyD y, pyL l, by simp only [pyD, pyL]⟩
  · have := (py_lay d 60 (sh60 d hd)).2
    simp only [Around.in1_units]
    omega
  · rw [← sort_eq al] at eo
    obtain ⟨ws, b1, b2⟩ := each_back eo
    obtain ⟨c, hc2⟩ := sortedHeap_at (vs := acc.toList) (out := List.toArray out) hoL
    have hwl : ws.length ≤ sizeLine := by
      rw [b1.len, ← eo.length, lo2, List.length_map]
      exact zk
    refine wpAny_pure ⟨_, rfl, .ref h'.objs.size, upd H h'.objs.size (.lst ws), I1.laid (t' := tk) (fun b u e => ?_) (Nat.le_refl _) ⟨hwl, out, c, b2, hc2⟩, rfl, q.lst (vs := ws) b1 (I1.hok.fresh (Nat.le_refl _))⟩
    have hb : b < h'.objs.size := Heap.lt_size e
    rw [sortedHeap_old (Nat.ne_of_lt hb) (by rw [size_push']; exact Nat.lt_succ_of_lt hb)]
    exact Heap.get?_push_of_some _ e
end
end Ev

set_option linter.all false
set_option autoImplicit false
set_option Elab.async false
set_option maxRecDepth 100000
set_option maxHeartbeats 4000000
/-! EvZ: sorted. -/
namespace Ev
open PySem PySem.Spec L2 PyProof.Rows
abbrev Ko : KeyOrd := listOrd itemOrd
/-- what a part counts by, what a thing counts by -/
def keyD : D → Int ⊕ List Nat
  | .int i => .inl i
  | .str c => .inr (c.map Char.toNat)
  | _ => .inl 0
def kD : D → List (Int ⊕ List Nat)
  | .tup ds => ds.map keyD
  | d => [keyD d]
theorem fLt_key {x y : D} (h : (isIntD x = true ∧ isIntD y = true) ∨ (isStrD x = true ∧ isStrD y = true)) : fLt x y = itemOrd.blt (keyD x) (keyD y) := by
  rcases h with ⟨h1, h2⟩ | ⟨h1, h2⟩
  · cases x <;> simp [isIntD] at h1
    cases y <;> simp [isIntD] at h2
    rfl
  · cases x <;> simp [isStrD] at h1
    cases y <;> simp [isStrD] at h2
    rename_i a b
    show chLt a b = decide (a.map Char.toNat < b.map Char.toNat)
    rw [chLt_eq]
theorem fsLt_key {p : D → Bool} (hp : p = isIntD ∨ p = isStrD) : ∀ {xs ys : List D}, xs.all p = true → ys.all p = true → fsLt xs ys = PyProof.Rows.lexLt itemOrd (xs.map keyD) (ys.map keyD)
  | [], [], _, _ => rfl
  | [], _ :: _, _, _ => rfl
  | _ :: _, [], _, _ => rfl
  | x :: xs, y :: ys, h1, h2 => by
    simp only [List.all_cons, Bool.and_eq_true] at h1 h2
    have c : (isIntD x = true ∧ isIntD y = true) ∨ (isStrD x = true ∧ isStrD y = true) := by
      rcases hp with rfl | rfl
      · exact .inl ⟨h1.1, h2.1⟩
      · exact .inr ⟨h1.1, h2.1⟩
    have c' : (isIntD y = true ∧ isIntD x = true) ∨ (isStrD y = true ∧ isStrD x = true) := c.imp And.symm And.symm
    simp only [fsLt, List.map_cons, PyProof.Rows.lexLt, fLt_key c, fLt_key c', fsLt_key hp h1.2 h2.2]
/-- the things of one sort -/
def Cls (p : D → Bool) : Prop := p = isIntD ∨ p = tupOfB isIntD ∨ p = tupOfB isStrD ∨ p = isStrD
theorem tupOfB_ok {p : D → Bool} {x : D} (h : tupOfB p x = true) : ∃ d ds, x = .tup (d :: ds) ∧ (d :: ds).all p = true := by
  cases x with
  | tup ds =>
    cases ds with
    | nil => simp [tupOfB] at h
    | cons d ds => exact ⟨d, ds, rfl, h⟩
  | _ => simp [tupOfB] at h
theorem dLt_key {p : D → Bool} (hp : Cls p) {x y : D} (hx : p x = true) (hy : p y = true) : dLt x y = PyProof.Rows.lexLt itemOrd (kD x) (kD y) := by
  rcases hp with rfl | rfl | rfl | rfl
  · cases x <;> simp [isIntD] at hx
    cases y <;> simp [isIntD] at hy
    rename_i i j
    show decide (i < j) = _
    simp only [kD, keyD, PyProof.Rows.lexLt]
    simp [itemLt]
  · obtain ⟨d, ds, rfl, h1⟩ := tupOfB_ok hx
    obtain ⟨e, es, rfl, h2⟩ := tupOfB_ok hy
    exact fsLt_key (.inl rfl) h1 h2
  · obtain ⟨d, ds, rfl, h1⟩ := tupOfB_ok hx
    obtain ⟨e, es, rfl, h2⟩ := tupOfB_ok hy
    exact fsLt_key (.inr rfl) h1 h2
  · have e := fLt_key (.inr ⟨hx, hy⟩)
    cases x <;> simp [isStrD] at hx
    cases y <;> simp [isStrD] at hy
    rename_i a b
    show fLt (.str a) (.str b) = _
    rw [e]
    simp only [kD, PyProof.Rows.lexLt, Bool.and_false, Bool.or_false]
theorem keyD_inj {x y : D} (h : (isIntD x = true ∧ isIntD y = true) ∨ (isStrD x = true ∧ isStrD y = true)) (e : keyD x = keyD y) : x = y := by
  rcases h with ⟨h1, h2⟩ | ⟨h1, h2⟩
  · cases x <;> simp [isIntD] at h1
    cases y <;> simp [isIntD] at h2
    simp only [keyD, Sum.inl.injEq] at e
    rw [e]
  · cases x <;> simp [isStrD] at h1
    cases y <;> simp [isStrD] at h2
    simp only [keyD, Sum.inr.injEq] at e
    rw [natCh_inj e]
theorem keysD_inj {p : D → Bool} (hp : p = isIntD ∨ p = isStrD) : ∀ {xs ys : List D}, xs.all p = true → ys.all p = true → xs.map keyD = ys.map keyD → xs = ys
  | [], [], _, _, _ => rfl
  | [], _ :: _, _, _, e => by simp at e
  | _ :: _, [], _, _, e => by simp at e
  | x :: xs, y :: ys, h1, h2, e => by
    simp only [List.all_cons, Bool.and_eq_true] at h1 h2
    simp only [List.map_cons, List.cons.injEq] at e
    have c : (isIntD x = true ∧ isIntD y = true) ∨ (isStrD x = true ∧ isStrD y = true) := by
      rcases hp with rfl | rfl
      · exact .inl ⟨h1.1, h2.1⟩
      · exact .inr ⟨h1.1, h2.1⟩
    rw [keyD_inj c e.1, keysD_inj hp h1.2 h2.2 e.2]
theorem kD_inj {p : D → Bool} (hp : Cls p) {x y : D} (hx : p x = true) (hy : p y = true) (e : kD x = kD y) : x = y := by
  rcases hp with rfl | rfl | rfl | rfl
  · cases x <;> simp [isIntD] at hx
    cases y <;> simp [isIntD] at hy
    simp [kD, keyD] at e
    rw [e]
  · obtain ⟨d, ds, rfl, h1⟩ := tupOfB_ok hx
    obtain ⟨e', es, rfl, h2⟩ := tupOfB_ok hy
    rw [keysD_inj (.inl rfl) h1 h2 e]
  · obtain ⟨d, ds, rfl, h1⟩ := tupOfB_ok hx
    obtain ⟨e', es, rfl, h2⟩ := tupOfB_ok hy
    rw [keysD_inj (.inr rfl) h1 h2 e]
  · have h := keyD_inj (.inr ⟨hx, hy⟩)
    cases x <;> simp [isStrD] at hx
    cases y <;> simp [isStrD] at hy
    exact h (by simpa only [kD, List.cons.injEq, and_true] using e)
/-- sorted by what they count by -/
def Sd (xs : List D) : Prop := xs.Pairwise fun x y => PyProof.Rows.lexLt itemOrd (kD y) (kD x) = false
theorem insB_mem {α : Type} {lt : α → α → Bool} {x z : α} : ∀ {l : List α}, z ∈ insB lt x l ↔ z = x ∨ z ∈ l
  | [] => by simp [insB]
  | y :: ys => by
    simp only [insB]
    split
    · rw [List.mem_cons, insB_mem, List.mem_cons]
      exact ⟨fun h => h.elim (fun h => .inr (.inl h)) fun h => h.imp id .inr, fun h => h.elim (fun h => .inr (.inl h)) fun h => h.imp id .inr⟩
    · simp
theorem insB_perm {α : Type} {lt : α → α → Bool} {x : α} : ∀ {l : List α}, (insB lt x l).Perm (x :: l)
  | [] => List.Perm.refl _
  | y :: ys => by
    simp only [insB]
    split
    · exact (insB_perm.cons y).trans (List.Perm.swap x y ys)
    · exact List.Perm.refl _
theorem isortB_perm {α : Type} {lt : α → α → Bool} : ∀ {l : List α}, (isortB lt l).Perm l
  | [] => List.Perm.refl _
  | x :: xs => insB_perm.trans (isortB_perm.cons x)
theorem ins_sd {p : D → Bool} (hp : Cls p) {x : D} (hx : p x = true) : ∀ {l : List D}, l.all p = true → Sd l → Sd (insB dLt x l)
  | [], _, _ => List.pairwise_singleton _ _
  | y :: ys, ha, h => by
    simp only [List.all_cons, Bool.and_eq_true] at ha
    obtain ⟨h1, h2⟩ := List.pairwise_cons.mp h
    simp only [insB]
    split
    · rename_i hlt
      rw [dLt_key hp ha.1 hx] at hlt
      refine List.pairwise_cons.mpr ⟨fun z hz => ?_, ins_sd hp hx ha.2 h2⟩
      rcases insB_mem.mp hz with rfl | hz
      · exact KeyOrd.klt_asymm (O := Ko) hlt
      · exact h1 z hz
    · rename_i hlt
      rw [dLt_key hp ha.1 hx, Bool.not_eq_true] at hlt
      refine List.pairwise_cons.mpr ⟨fun z hz => ?_, h⟩
      rcases List.mem_cons.mp hz with rfl | hz
      · exact hlt
      · exact KeyOrd.kle_trans (O := Ko) (a := kD x) (b := kD y) (c := kD z) hlt (h1 z hz)
theorem isort_sd {p : D → Bool} (hp : Cls p) : ∀ {l : List D}, l.all p = true → Sd (isortB dLt l)
  | [], _ => List.Pairwise.nil
  | x :: xs, h => by
    simp only [List.all_cons, Bool.and_eq_true] at h
    refine ins_sd hp h.1 ?_ (isort_sd hp h.2)
    rw [List.all_eq_true] at h ⊢
    exact fun z hz => h.2 z (isortB_perm.mem_iff.mp hz)
theorem sd_uniq {p : D → Bool} (hp : Cls p) : ∀ {l m : List D}, l.all p = true → l.Perm m → Sd l → Sd m → l = m
  | [], m, _, q, _, _ => by rw [List.Perm.nil_eq q]
  | x :: l, [], _, q, _, _ => by have := q.length_eq; simp at this
  | x :: l, y :: m, ha, q, h1, h2 => by
    have ham : (y :: m).all p = true := by
      rw [List.all_eq_true] at ha ⊢
      exact fun z hz => ha z (q.mem_iff.mpr hz)
    have hx := List.all_eq_true.mp ha x List.mem_cons_self
    have hy := List.all_eq_true.mp ham y List.mem_cons_self
    have le1 : x = y ∨ PyProof.Rows.lexLt itemOrd (kD x) (kD y) = false := by
      rcases List.mem_cons.mp (q.mem_iff.mp (List.mem_cons_self (a := x) (l := l))) with e | e
      · exact .inl e
      · exact .inr ((List.pairwise_cons.mp h2).1 x e)
    have le2 : x = y ∨ PyProof.Rows.lexLt itemOrd (kD y) (kD x) = false := by
      rcases List.mem_cons.mp (q.mem_iff.mpr (List.mem_cons_self (a := y) (l := m))) with e | e
      · exact .inl e.symm
      · exact .inr ((List.pairwise_cons.mp h1).1 y e)
    have e : x = y := by
      rcases le1 with e | e1
      · exact e
      · rcases le2 with e | e2
        · exact e
        · exact kD_inj hp hx hy (lex_total _ _ e1 e2)
    subst e
    simp only [List.all_cons, Bool.and_eq_true] at ha
    rw [sd_uniq hp ha.2 q.cons_inv (List.pairwise_cons.mp h1).2 (List.pairwise_cons.mp h2).2]
/-- the places of the tuples of a list -/
theorem tups_of {K : KW} {Fz : Addr → Prop} {H : Hp} {p : D → Bool} : ∀ {xs : List D} {vs : List V}, xs.all (tupOfB p) = true → RepL K Fz H xs vs → ∃ qs : List (D × Addr × List V), xs = qs.map (·.1) ∧ vs = qs.map (fun q => V.ref q.2.1) ∧ ∀ q ∈ qs, ∃ ds, q.1 = .tup ds ∧ ds ≠ [] ∧ ds.all p = true ∧ SqP K H q.2.1 q.2.2 ∧ RepL K Fz H ds q.2.2
  | [], vs, _, r => ⟨[], rfl, by rw [repL_nil.mp r]; rfl, fun q hq => by simp at hq⟩
  | x :: xs, vs, h, r => by
    simp only [List.all_cons, Bool.and_eq_true] at h
    simp only [RepL] at r
    obtain ⟨v, vs', rfl, r1, r2⟩ := r
    obtain ⟨qs, e1, e2, g⟩ := tups_of h.2 r2
    obtain ⟨d, ds, rfl, hd⟩ := tupOfB_ok h.1
    simp only [Rep] at r1
    obtain ⟨a, ws, rfl, hs, rl⟩ := r1
    refine ⟨(.tup (d :: ds), a, ws) :: qs, by rw [List.map_cons, ← e1], by rw [List.map_cons, ← e2], fun q hq => ?_⟩
    rcases List.mem_cons.mp hq with rfl | hq
    · exact ⟨d :: ds, rfl, by simp, hd, hs, rl⟩
    · exact g q hq
theorem keyV_rep {K : KW} {Fz : Addr → Prop} {H : Hp} {p : D → Bool} (hp : p = isIntD ∨ p = isStrD) : ∀ {ds : List D} {vs : List V}, ds.all p = true → RepL K Fz H ds vs → keyV vs = ds.map keyD
  | [], vs, _, r => by rw [repL_nil.mp r]; rfl
  | d :: ds, vs, h, r => by
    simp only [List.all_cons, Bool.and_eq_true] at h
    simp only [RepL] at r
    obtain ⟨v, vs', rfl, r1, r2⟩ := r
    have ih := keyV_rep hp h.2 r2
    simp only [keyV, List.map_cons] at ih ⊢
    rw [ih]
    congr 1
    rcases hp with rfl | rfl
    · cases d <;> simp [isIntD] at h
      simp only [Rep] at r1
      subst r1; rfl
    · cases d <;> simp [isStrD] at h
      simp only [Rep] at r1
      subst r1
      simp [keyP, keyD, chS]
theorem allSh_rep {K : KW} {Fz : Addr → Prop} {H : Hp} {p : D → Bool} {sh : Bool} (hp : (p = isIntD ∧ sh = false) ∨ (p = isStrD ∧ sh = true)) : ∀ {ds : List D} {vs : List V}, ds.all p = true → RepL K Fz H ds vs → allSh sh vs
  | [], vs, _, r => by rw [repL_nil.mp r]; intro v hv; simp at hv
  | d :: ds, vs, h, r => by
    simp only [List.all_cons, Bool.and_eq_true] at h
    simp only [RepL] at r
    obtain ⟨v, vs', rfl, r1, r2⟩ := r
    intro w hw
    rcases List.mem_cons.mp hw with rfl | hw
    · rcases hp with ⟨rfl, rfl⟩ | ⟨rfl, rfl⟩
      · cases d <;> simp [isIntD] at h
        simp only [Rep] at r1
        exact ⟨fun z => (by cases z), fun _ => ⟨_, r1⟩⟩
      · cases d <;> simp [isStrD] at h
        simp only [Rep] at r1
        exact ⟨fun _ => ⟨_, r1⟩, fun z => (by cases z)⟩
    · exact allSh_rep hp h.2 r2 w hw
theorem repL_qs {K : KW} {Fz : Addr → Prop} {H : Hp} : ∀ {qs : List (D × Addr × List V)}, (∀ q ∈ qs, ∃ ds, q.1 = .tup ds ∧ SqP K H q.2.1 q.2.2 ∧ RepL K Fz H ds q.2.2) → RepL K Fz H (qs.map (·.1)) (qs.map fun q => V.ref q.2.1)
  | [], _ => repL_nil.mpr rfl
  | q :: qs, h => by
    obtain ⟨ds, e, g1, g2⟩ := h q List.mem_cons_self
    refine repL_cons.mpr ⟨?_, repL_qs fun q' hq' => h q' (List.mem_cons_of_mem _ hq')⟩
    show Rep K Fz H q.1 (V.ref q.2.1)
    rw [e]
    simp only [Rep]
    exact ⟨_, _, rfl, g1, g2⟩
section
variable {X : Cx} {Fz : Addr → Prop}
theorem sorted_tup {p : D → Bool} {sh : Bool} (hp : (p = isIntD ∧ sh = false) ∨ (p = isStrD ∧ sh = true)) (hc : Cls (tupOfB p)) {pins : List (Addr × Obj)} {s : Shared} {σ : L2.St} {H : Hp} {Q : VK} {xs : List D} {vs : List V} {a : Addr} {us : List Value} (I : L2.Inv X pins σ H s)
    (r : Vals [V.ref a] us) (hl : xs.all (tupOfB p) = true) (ha : H a = some (.lst vs)) (ra : RepL (kwX X) Fz H xs vs) (q : Res (kwX X) Fz H (.new (isortB dLt xs)) Q) :
    wpAny (model X.prog X.w) X.A (call (.builtin "sorted") us) (EP X pins σ Q) X.xe s := by
  obtain ⟨qs, e1, e2, g⟩ := tups_of hl ra
  refine cr_sortedTx (sh := sh) pins s σ H _ us Q I r ⟨a, qs.map (·.2), rfl, ?_, ?_, ?_⟩
  · rw [List.map_map]
    have := SqL.of (K := X.K) ha
    rw [e2] at this
    exact this
  · intro kp hk
    obtain ⟨q', hq', rfl⟩ := List.mem_map.mp hk
    obtain ⟨ds, f1, f2, f3, f4, f5⟩ := g q' hq'
    refine ⟨f4.t, fun z => ?_, allSh_rep hp f3 f5⟩
    rw [z] at f5
    cases ds with
    | nil => exact f2 rfl
    | cons d ds => simp [RepL] at f5
  · intro L b hL hs hb
    obtain ⟨Qs, h1, h2⟩ := perm_pre hL qs rfl
    have hQ : ∀ q ∈ Qs, ∃ ds, q.1 = .tup ds ∧ ds ≠ [] ∧ ds.all p = true ∧ SqP (kwX X) H q.2.1 q.2.2 ∧ RepL (kwX X) Fz H ds q.2.2 := fun q' hq' => g q' (h1.mem_iff.mp hq')
    have hys : (Qs.map (·.1)).Perm xs := by rw [e1]; exact h1.map _
    have hall : (Qs.map (·.1)).all (tupOfB p) = true := by
      rw [List.all_eq_true] at hl ⊢
      exact fun z hz => hl z (hys.mem_iff.mp hz)
    have hp' : p = isIntD ∨ p = isStrD := hp.imp And.left And.left
    have hsd : Sd (Qs.map (·.1)) := by
      rw [h2] at hs
      refine List.pairwise_map.mpr ((List.pairwise_map.mp hs).imp_of_mem fun {x y} hx hy hxy => ?_)
      obtain ⟨ds, f1, f2, f3, f4, f5⟩ := hQ x hx
      obtain ⟨es, k1, k2, k3, k4, k5⟩ := hQ y hy
      rw [keyV_rep hp' f3 f5, keyV_rep hp' k3 k5] at hxy
      rw [f1, k1]
      exact hxy
    have e := sd_uniq hc hall (hys.trans isortB_perm.symm) hsd (isort_sd hc hl)
    have e3 : (L.map fun p => V.ref p.1) = Qs.map fun q => V.ref q.2.1 := by rw [h2, List.map_map]; rfl
    rw [e3]
    refine q.lst (vs := Qs.map fun q => V.ref q.2.1) ?_ hb
    rw [← e]
    exact repL_qs fun q' hq' => by
      obtain ⟨ds, f1, _, _, f4, f5⟩ := hQ q' hq'
      exact ⟨ds, f1, f4, f5⟩
theorem ints_of : ∀ {xs : List D}, xs.all isIntD = true → ∃ ns : List Int, xs = ns.map D.int ∧ intsD xs = some ns
  | [], _ => ⟨[], rfl, rfl⟩
  | x :: xs, h => by
    simp only [List.all_cons, Bool.and_eq_true] at h
    obtain ⟨ns, e1, e2⟩ := ints_of h.2
    cases x <;> simp [isIntD] at h
    rename_i i
    exact ⟨i :: ns, by rw [List.map_cons, ← e1], by simp only [intsD, e2, Option.map_some]⟩
theorem RepL.ofStrM {K : KW} {Fz : Addr → Prop} {H : Hp} : ∀ (zs : List (List Char)), RepL K Fz H (zs.map D.str) (zs.map (V.str ∘ chS))
  | [] => repL_nil.mpr rfl
  | z :: zs => repL_cons.mpr ⟨by simp only [Rep, Function.comp], RepL.ofStrM zs⟩
theorem ltCps_lt : ∀ (x y : List Nat), ltCps x y = decide (x < y)
  | [], [] => by simp [ltCps]
  | [], _ :: _ => by simp [ltCps]
  | _ :: _, [] => by simp [ltCps]
  | a :: x, b :: y => by
    simp only [ltCps, ltCps_lt x y, List.cons_lt_cons_iff]
    by_cases h1 : a < b
    · simp [h1]
    · by_cases h2 : a = b <;> simp [h1, h2]
theorem rising_sd : ∀ (ss : List (List Char)) (p : List Char), risingS (chS p) (ss.map chS) = true → Sd (D.str p :: ss.map D.str)
  | [], p, _ => List.pairwise_singleton _ _
  | x :: r, p, h => by
    simp only [List.map_cons, risingS, Bool.and_eq_true, Bool.not_eq_true'] at h
    have ih := rising_sd r x h.2
    have le : PyProof.Rows.lexLt itemOrd (kD (.str x)) (kD (.str p)) = false := by
      simp only [kD, keyD, PyProof.Rows.lexLt, Bool.and_false, Bool.or_false]
      have e := ltCps_lt (chS x).cps.toList (chS p).cps.toList
      rw [h.1] at e
      exact e.symm
    refine List.pairwise_cons.mpr ⟨fun z hz => ?_, ih⟩
    rcases List.mem_cons.mp hz with rfl | hz
    · exact le
    · exact KeyOrd.kle_trans (O := Ko) (a := kD (.str p)) (b := kD (.str x)) (c := kD z) le ((List.pairwise_cons.mp ih).1 z hz)
theorem sortedS_sd : ∀ (ss : List (List Char)), sortedS (ss.map chS) = true → Sd (ss.map D.str)
  | [], _ => List.Pairwise.nil
  | x :: r, h => rising_sd r x h
theorem strs_of : ∀ {xs : List D}, xs.all isStrD = true → ∃ ss : List (List Char), xs = ss.map D.str ∧ strsD xs = some ss
  | [], _ => ⟨[], rfl, rfl⟩
  | x :: xs, h => by
    simp only [List.all_cons, Bool.and_eq_true] at h
    obtain ⟨ss, e1, e2⟩ := strs_of h.2
    cases x <;> simp [isStrD] at h
    rename_i c
    exact ⟨c :: ss, by rw [List.map_cons, ← e1], by simp only [strsD, e2, Option.map_some]⟩
theorem pre_chS {ys : List Str} {ss : List (List Char)} (h : ys.Perm (ss.map chS)) : ∃ zs : List (List Char), zs.Perm ss ∧ ys = zs.map chS := perm_pre h ss rfl
theorem kys_ints : ∀ {ks : List Ky}, (ks.map kyD).all isIntD = true → ∃ ns : List Int, ks.map kyD = ns.map D.int ∧ ks.map kyK = ns.map Sum.inl
  | [], _ => ⟨[], rfl, rfl⟩
  | .i n :: ks, h => by
    simp only [List.map_cons, List.all_cons, Bool.and_eq_true] at h
    obtain ⟨ns, e1, e2⟩ := kys_ints h.2
    exact ⟨n :: ns, by rw [List.map_cons, e1]; rfl, by rw [List.map_cons, e2]; rfl⟩
  | .s x :: ks, h => by simp [isIntD, kyD] at h
  | .t x :: ks, h => by simp [isIntD, kyD] at h
theorem kys_strs : ∀ {ks : List Ky}, (ks.map kyD).all isStrD = true → ∃ ss : List (List Char), ks.map kyD = ss.map D.str ∧ ks.map kyK = ss.map fun x => Sum.inr (chS x)
  | [], _ => ⟨[], rfl, rfl⟩
  | .s x :: ks, h => by
    simp only [List.map_cons, List.all_cons, Bool.and_eq_true] at h
    obtain ⟨ns, e1, e2⟩ := kys_strs h.2
    exact ⟨x :: ns, by rw [List.map_cons, e1]; rfl, by rw [List.map_cons, e2]; rfl⟩
  | .i n :: ks, h => by simp [isStrD, kyD] at h
  | .t n :: ks, h => by simp [isStrD, kyD] at h
theorem smp_pl {p : D → Bool} (hp : ∀ xs, p (.tup xs) = false) {ks : List Ky} (h : (ks.map kyD).all p = true) : smpL ks = true := by
  unfold smpL
  rw [List.all_eq_true] at h ⊢
  intro k hk
  have := h _ (List.mem_map.mpr ⟨k, hk, rfl⟩)
  cases k with
  | i n => rfl
  | s n => rfl
  | t xs => rw [kyD, hp] at this; cases this
theorem bi_sorted (hc : X.calm = true) (hu : X.A.units + 64 < cLine) : CallR X (.builtin "sorted") (rBi (kwX X) Fz (biD .sorted)) := by
  refine bi_one (m := sortedD) (biOne (fun _ => rfl) rfl fun _ _ _ => rfl) fun pins s σ H x us Q d o I r hd hm q => ?_
  by_cases hdk : ∃ ks ds, d = .dk ks ds
  · obtain ⟨ks, ds, rfl⟩ := hdk
    simp only [sortedD] at hm
    obtain ⟨a, es, rfl, ha, hks, _⟩ := hd
    split at hm
    rotate_right
    · obtain ⟨hl, rfl⟩ := opt_if hm
      exact sorted_dT hc hu I r hl ha hks q
    rename_i hk
    cases hm
    rw [Bool.and_eq_true, Bool.or_eq_true, decide_eq_true_eq] at hk
    have hsm : smpL ks = true := by
      rcases hk with ⟨hk | hk, _⟩
      · exact smp_pl (fun _ => rfl) hk
      · exact smp_pl (fun _ => rfl) hk
    obtain ⟨l, l1, l2, l3, _⟩ := dO_smp (w := X.w) (a := a) hks hsm
    rw [show (kwX X).w = X.w from rfl, l1] at ha
    have hks := l2
    rcases hk with ⟨hk | hk, h64⟩
    · obtain ⟨ns, e1, e2⟩ := kys_ints hk
      refine call_sortedDI hc pins s σ H _ us Q I r ⟨a, l, ns, rfl, ha, hks.trans e2, by rw [show ns.length = ks.length from by have := congrArg List.length e1; simpa using this.symm]; exact h64, fun ys p hp hw hn => ?_⟩
      have e : ys.map D.int = isortB dLt (ks.map kyD) := by
        refine sd_uniq (p := isIntD) (.inl rfl) ?_ ?_ ?_ (isort_sd (.inl rfl) hk)
        · simp [List.all_eq_true, isIntD]
        · refine List.Perm.trans ?_ isortB_perm.symm
          rw [e1]
          exact hp.map _
        · refine List.pairwise_map.mpr (hw.imp fun {x y} h => ?_)
          simp only [kD, keyD, PyProof.Rows.lexLt, Bool.and_false, Bool.or_false]
          show decide (y < x) = false
          exact decide_eq_false (by omega)
      refine q.lst (vs := ys.map V.int) ?_ hn
      rw [← e]
      exact RepL.ofMap ys
    · obtain ⟨ss, e1, e2⟩ := kys_strs hk
      have c4 : Cls isStrD := .inr (.inr (.inr rfl))
      refine call_sortedD hc pins s σ H _ us Q I r ⟨a, l, ss.map chS, rfl, ha, by rw [hks, e2, List.map_map]; rfl, by rw [List.length_map, show ss.length = ks.length from by have := congrArg List.length e1; simpa using this.symm]; exact h64, fun ys p hp hw hn => ?_⟩
      obtain ⟨zs, hz, rfl⟩ := pre_chS hp
      have e : zs.map D.str = isortB dLt (ks.map kyD) := by
        refine sd_uniq c4 ?_ ?_ (sortedS_sd zs hw) (isort_sd c4 hk)
        · simp [List.all_eq_true, isStrD]
        · refine List.Perm.trans ?_ isortB_perm.symm
          rw [e1]
          exact hz.map _
      refine q.lst (vs := (zs.map chS).map V.str) ?_ hn
      rw [← e, List.map_map]
      exact RepL.ofStrM zs
  cases d with
  | lst xs => ?_
  | dk ks ds => exact absurd ⟨ks, ds, rfl⟩ hdk
  | _ => simp only [sortedD] at hm; cases hm
  simp only [sortedD] at hm
  obtain ⟨a, vs, rfl, ha, ra⟩ := hd.lst
  by_cases hs : sortable xs = true
  case neg =>
    rw [if_neg hs] at hm
    obtain ⟨hs, rfl⟩ := opt_if hm
    exact sorted_gen hu I r hs ha ra q
  rw [if_pos hs] at hm
  cases hm
  unfold sortable at hs
  rw [Bool.or_eq_true, Bool.or_eq_true, Bool.or_eq_true] at hs
  rcases hs with ((hs | hs) | hs) | hs
  · obtain ⟨ns, e1, e2⟩ := ints_of hs
    have e := ra.ofInts e2
    subst e
    refine cr_sortedI pins s σ H _ us Q I r ⟨a, ns, rfl, SqL.of ha, fun ns' p hp hw hn => ?_⟩
    have e : ns'.map D.int = isortB dLt xs := by
      refine sd_uniq (p := isIntD) (.inl rfl) ?_ ?_ ?_ (isort_sd (.inl rfl) hs)
      · simp [List.all_eq_true, isIntD]
      · refine List.Perm.trans ?_ isortB_perm.symm
        rw [e1]
        exact hp.map _
      · refine List.pairwise_map.mpr (hw.imp fun {x y} h => ?_)
        simp only [kD, keyD, PyProof.Rows.lexLt, Bool.and_false, Bool.or_false]
        show decide (y < x) = false
        exact decide_eq_false (by omega)
    refine q.lst (vs := ns'.map V.int) ?_ hn
    rw [← e]
    exact RepL.ofMap ns'
  · exact sorted_tup (sh := false) (.inl ⟨rfl, rfl⟩) (.inr (.inl rfl)) I r hs ha ra q
  · exact sorted_tup (sh := true) (.inr ⟨rfl, rfl⟩) (.inr (.inr (.inl rfl))) I r hs ha ra q
  · rw [Bool.and_eq_true, decide_eq_true_eq] at hs
    obtain ⟨ss, e1, e2⟩ := strs_of hs.1
    have e := ra.ofStrs e2
    subst e
    have c4 : Cls isStrD := .inr (.inr (.inr rfl))
    refine cr_sortedS pins s σ H _ us Q I r ⟨a, ss.map chS, rfl, ?_, ?_, fun ys p hp hw hn => ?_⟩
    · rw [List.map_map]; exact SqL.of ha
    · rw [List.length_map]; rw [e1, List.length_map] at hs; exact hs.2
    · obtain ⟨zs, hz, rfl⟩ := pre_chS hp
      have e : zs.map D.str = isortB dLt xs := by
        refine sd_uniq c4 ?_ ?_ (sortedS_sd zs hw) (isort_sd c4 hs.1)
        · simp [List.all_eq_true, isStrD]
        · refine List.Perm.trans ?_ isortB_perm.symm
          rw [e1]
          exact hz.map _
      refine q.lst (vs := (zs.map chS).map V.str) ?_ hn
      rw [← e, List.map_map]
      exact RepL.ofStrM zs
end
end Ev

set_option linter.all false
set_option autoImplicit false
set_option Elab.async false
set_option maxRecDepth 100000
set_option maxHeartbeats 4000000
/-! EvU0: enumerate of a tuple. -/
namespace Ev
open PySem PySem.Spec L2 PyProof.Rows
theorem meets_enuT (l : Addr) (items : Array Value) (n : Nat) (dct : Option Addr) (sl : Array (Option Value)) :
    Meets (Builtin.«enumerate.__new__» ⟨[.type "enumerate", .ref l], []⟩) (fun _ R s => s.heap.get? l = some { cls := .type "tuple", dict := dct, data := .seq items n, slots := sl } ∧
      R (.ok (.ret (.ref (s.heap.push { cls := .type "tuple_iterator", data := .fields #[.ref l, .int 0 0] }).objs.size)))
        { s with heap := (s.heap.push { cls := .type "tuple_iterator", data := .fields #[.ref l, .int 0 0] }).push { cls := .type "enumerate", data := .fields #[.none, .bool false, .ref s.heap.objs.size, rawInt 0, .none, .none] } }) :=
  .of_wp fun prog w A R s hh0 => by
    obtain ⟨hp, g, d, tk, os⟩ := s
    obtain ⟨hget, rr⟩ := hh0
    have hsb := sub_enumerate
    have hTu : Heap.IsTuple (Shared.heap ⟨hp, g, d, tk, os⟩) l items := ⟨_, hget, rfl, n, rfl⟩
    wp_walk using AutoSeq1.wpAny_loadPart' hget
    refine wpAny_stack_any fun st0 => wpAny_pure ?_
    split
    · rename_i c0 _ _ _ _ _
      cases (c0 == Value.type "enumerate")
      · wp_walk using AutoSeq1.wpAny_loadPart' hget, wpAny_pyIter_tuple hTu
        exact ⟨_, rfl, rr⟩
      · wp_walk using AutoSeq1.wpAny_loadPart' hget, wpAny_pyIter_tuple hTu
        exact ⟨_, rfl, rr⟩
    · wp_walk using AutoSeq1.wpAny_loadPart' hget, wpAny_pyIter_tuple hTu
      exact ⟨_, rfl, rr⟩
section
variable {prog : Program} {w : World} {A : Around} {E : Value → Shared → Prop} {s : Shared}
theorem call_enuT {l : Addr} {items : Array Value} {Q : Value → Shared → Prop} (hT : s.heap.IsTuple l items)
    (h : ∀ h', IsEnum h' (s.heap.objs.size + 1) s.heap.objs.size 0 .none → h'.IsTupleIter s.heap.objs.size l 0 → h'.objs.size = s.heap.objs.size + 2 →
      (∀ b o, s.heap.get? b = some o → h'.get? b = some o) → Q (.ref (s.heap.objs.size + 1)) { s with heap := h' }) : wpAny (model prog w) A (call (.type "enumerate") [.ref l]) Q E s := by
  obtain ⟨⟨cl, dt1, dt, slo⟩, hl, hc, nn, hd⟩ := hT
  have hc : cl = .type "tuple" := hc
  have hd : dt = .seq items nn := hd
  subst hc hd
  refine callType_new F.called_enumerate (by decide) (F.typeCall_enumerate_1 _) (F.newCall_enumerate_1 _) (fun ob => F.args_object_init_2 ob _) F.entry_enumerate_new (meets_enuT l items nn dt1 slo) ⟨hl, ?_⟩
  have hz : (s.heap.push { cls := .type "tuple_iterator", data := .fields #[.ref l, .int 0 0] }).objs.size = s.heap.objs.size + 1 := Heap.size_push ..
  show _ ∧ _
  rw [hz]
  have hen : IsEnum ((s.heap.push { cls := .type "tuple_iterator", data := .fields #[.ref l, .int 0 0] }).push { cls := .type "enumerate", data := .fields #[.none, .bool false, .ref s.heap.objs.size, rawInt 0, .none, .none] }) (s.heap.objs.size + 1) s.heap.objs.size 0 .none := by
    have q0 := Heap.get?_push_size (s.heap.push { cls := .type "tuple_iterator", data := .fields #[.ref l, .int 0 0] }) (o := { cls := .type "enumerate", data := .fields #[.none, .bool false, .ref s.heap.objs.size, rawInt 0, .none, .none] }) rfl
    rw [hz] at q0
    exact q0
  exact ⟨⟨_, hen, rfl⟩, h _ hen ⟨_, Heap.get?_push_of_some _ (Heap.get?_push_size _ rfl), rfl, rfl⟩ (by rw [Heap.size_push, hz]) fun b ob x => Heap.get?_push_of_some _ (Heap.get?_push_of_some _ x)⟩
end
/-- behind the end -/
theorem drw_end {prog : Program} {w : World} {A : Around} (hh : A.handled = none) (it t : Addr) (hne : t ≠ it) (items : Array Value) (n : Nat) (hn : items[n]? = none) :
    Draws prog w A it [it, t] n (fun i v => items[i]? = some v) (fun i h => i = n ∧ h.IsTupleIter it t i ∧ h.IsTuple t items) where
  live := fun _ _ st => by
    obtain ⟨_, ⟨ob, hob, _⟩, _⟩ := st
    exact ⟨ob, hob⟩
  frame := fun _ _ _ st hk => ⟨st.1, st.2.1.at fun ob e => hk it (by simp) ob e, st.2.2.at fun ob e => hk t (by simp) ob e⟩
  item := fun i s Q E hi st hQ => absurd st.1 (Nat.ne_of_lt hi)
  done := fun s Q E st hE => PySem.wpAny_nextOf_tuple_end hh st.2.1 st.2.2 hn hE
/-- the tuple at a at each turn, each item in a new pair -/
def IteT (K : PySem.W.Frag) (a : Addr) : L2.It :=
  ⟨fun i H => ∃ (xs : List V) (x : V), SqT K H a xs ∧ xs[i]? = some x, fun i H v H' => ∃ T x, v = .ref T ∧ H T = none ∧ H' = upd H T (.tup [.int (i : Nat), x]) ∧ ∀ xs, SqT K H a xs → xs[i]? = some x, fun i H => ∃ xs : List V, SqT K H a xs ∧ xs.length ≤ i⟩
theorem turn_enuT {P : Program} {w : World} {K : PySem.W.Frag} {elts : List Expr} {kk : Nat} {tpos : Pos} (a e it : Addr) (hat : a ≠ it) (hea : e ≠ a) :
    Turn P w K (.Tuple elts kk tpos) (IteT K a) [e, it] e (fun i h => (∃ old, IsEnum h e it ((i : Nat) : Int) old) ∧ h.IsTupleIter it a i ∧ e ≠ it) where
  mem := List.mem_cons_self
  obj := fun i h st b hb => by
    obtain ⟨⟨ol, he⟩, ⟨ob, hob, hcl, hda⟩, _⟩ := st
    rcases (show b = e ∨ b = it by simpa using hb) with z | z
    · subst z; exact ⟨_, he, fun v q => nomatch q⟩
    · subst z; exact ⟨ob, hob, fun v q => by rw [hda] at q; cases q⟩
  keep := fun i h h' st k => by
    obtain ⟨⟨ol, he⟩, hi, hne⟩ := st
    exact ⟨⟨ol, k e (by simp) _ he⟩, hi.at fun ob q => k it (by simp) ob q, hne⟩
  item := by
    intro X hP hw hK hc i pins s σ H E I hf st hg
    subst hP hw hK
    obtain ⟨⟨ol, he⟩, hit, hne⟩ := st
    obtain ⟨vs, x, hq, hx⟩ := hg
    obtain ⟨its, rv, p, _⟩ := I.tuple hq
    obtain ⟨u, hu, ru⟩ := rv.get hx
    have sizeE : e < s.heap.objs.size := Heap.lt_size he
    have sizeI : it < s.heap.objs.size := by obtain ⟨_, q, _⟩ := hit; exact Heap.lt_size q
    have il : i < its.toArray.size := by
      have : its[i]? = some u := hu
      have := List.getElem?_eq_some_iff.mp this
      simpa using this.1
    refine wpAny_pyNext_enum_itemD (Draws.tuple (A := X.A.in1) (show X.A.in1.handled = none from I.ok.hd hc) it a hat its.toArray) he ⟨hit, p⟩ il hne (by simp [hea, hne]) fun x' h' tk hP ho hst' hT hsz hk => ?_
    have xe : x' = u := by
      have q0 : its.toArray[i]? = some x' := hP
      have q1 : its.toArray[i]? = some u := by simpa using hu
      rw [q1] at q0
      exact (Option.some.inj q0).symm
    subst xe
    refine ⟨_, rfl, wpAny_letOwnedTupleGo_enum (s := { s with heap := h', toks := tk + 1 }) ho fun h2 he' sb => ?_⟩
    have hT2 : h2.get? s.heap.objs.size = some { cls := .type "tuple", data := .seq #[.int i tk, x'] } := (sb.2 _ (Nat.ne_of_gt sizeE)).trans hT
    have nw : ObjOk X.prog X.w (upd H s.heap.objs.size (.tup [.int (i : Nat), x])) h2 s.heap.objs.size (.tup [.int (i : Nat), x]) :=
      ⟨by show 2 ≤ sizeLine; decide, [.int i tk, x'], .cons ⟨_, rfl⟩ (.cons ru .nil), ⟨_, hT2, rfl, _, rfl⟩⟩
    have I2 : Inv X pins σ (upd H s.heap.objs.size (.tup [.int (i : Nat), x])) { s with heap := h2, toks := tk + 1 } :=
      I.turnedNew (ch := [e, it]) (fun b ob hb q => (sb.2 b (fun z => hb (by simp [z]))).trans (hk b ob (fun z => hb (by simp [z])) (fun z => hb (by simp [z])) q)) hf (Nat.le_refl _) nw
    refine ⟨.ref s.heap.objs.size, _, I2, rfl, ⟨_, x, rfl, I.hok.fresh (Nat.le_refl _), rfl, fun ys hy => by rw [I.tuple_inj hy hq]; exact hx⟩, ⟨⟨x', ?_⟩, hst'.1.at fun ob q => (sb.2 it (Ne.symm hne)).trans q, hne⟩, fun b hb => ?_⟩
    · rw [show ((i + 1 : Nat) : Int) = (i : Int) + 1 by omega]
      exact he'
    · have hb' : b < s.heap.objs.size := by
        rcases (show b = e ∨ b = it by simpa using hb) with z | z
        · subst z; exact sizeE
        · subst z; exact sizeI
      rw [upd_ne (Nat.ne_of_lt hb')]
      exact (hf b hb).1
  done := by
    intro X hP hw hK hc i pins s σ H E I hf st hg
    subst hP hw hK
    obtain ⟨⟨ol, he⟩, hit, hne⟩ := st
    obtain ⟨vs, hq, hx⟩ := hg
    obtain ⟨its, rv, p, _⟩ := I.tuple hq
    obtain ⟨g0, g1, g2, g3, g4, g5⟩ := hf it (by simp)
    have hl := rv.length
    exact wpAny_pyNext_enum_endD (drw_end (A := X.A.in1) (show X.A.in1.handled = none from I.ok.hd hc) it a hat its.toArray i (by simp; omega)) he ⟨rfl, hit, p⟩ fun h' eb => ⟨rfl, I.turned (t' := s.toks) (fun b ob hb q => eb b ob hb q) g0 g1 g3 g4 g5⟩
  self := fun A i s Q E st h => let ⟨⟨_, he⟩, _⟩ := st; wpAny_pyIter_enum he h
def iEnuT (K : PySem.W.Frag) (ta : TA) : TI := fun σ H R => ta σ H fun vs H1 => ∃ a ws, vs = [V.ref a] ∧ SqT K H1 a ws ∧ R (IteT K a) H1
theorem pi_enuT {X : Cx} {e : Expr} {ta : TA} {p pos tpos : Pos} {elts : List Expr} {kk : Nat} (hg : Gl X "enumerate") (hm : X.mg "enumerate" = none) (ha : PA X [e] ta) (hs : starEach [e] X.env = [(false, eval e X.env)]) :
    PI X (.Tuple elts kk tpos) (.Call (.Name "enumerate" p) [e] [] pos) (iEnuT X.K ta) := by
  refine ⟨fun pins s σ H R I h => Call_ (ld_blt I hg hm boot_enumerate (PyProof.Rows.callWith_type1 (thn (ha.run pos pins s σ H _ I h) fun us s1 ⟨vs, H1, I1, r1, q1⟩ => ?_) hs rfl))⟩
  obtain ⟨a, ws, rfl, hq, q⟩ := q1
  cases r1 with
  | cons r rest =>
    cases rest
    cases r
    obtain ⟨its, rv, p', _⟩ := I1.tuple hq
    have ha : a < s1.heap.objs.size := by
      obtain ⟨ob, hob, _⟩ := id p'
      exact Heap.lt_size hob
    refine call_enuT (show s1.heap.IsTuple a its.toArray from p') fun h' he hit hsz hk => wpAny_pyIter_enum he ?_
    have I2 : Inv X pins σ H1 { s1 with heap := h' } := I1.kept (t' := s1.toks) hk
    refine ⟨s1.heap.objs.size + 1, [s1.heap.objs.size + 1, s1.heap.objs.size], _, _, H1, rfl, I2, turn_enuT a (s1.heap.objs.size + 1) s1.heap.objs.size (Nat.ne_of_lt ha) (fun z => Nat.lt_irrefl a (Nat.lt_of_lt_of_le ha (z ▸ Nat.le_succ _))), ⟨⟨.none, he⟩, hit, Nat.succ_ne_self _⟩, fun b hb => ?_, q⟩
    have hle : s1.heap.objs.size ≤ b := by
      rcases (show b = s1.heap.objs.size + 1 ∨ b = s1.heap.objs.size by simpa using hb) with z | z
      · rw [z]; exact Nat.le_succ _
      · rw [z]; exact Nat.le_refl _
    exact I1.fpOk hle (I1.hok.fresh hle)
end Ev

set_option linter.all false
set_option autoImplicit false
set_option Elab.async false
set_option maxRecDepth 100000
set_option maxHeartbeats 4000000
/-! EvU1: x[::-1] of lists and tuples. -/
namespace Ev
open PySem PySem.Spec L2 PyProof.Rows
theorem fm_eq {α β : Type} {f g : α → Option β} : ∀ {l : List α}, (∀ a, a ∈ l → f a = g a) → l.filterMap f = l.filterMap g
  | [], _ => rfl
  | a :: l, h => by
    rw [List.filterMap_cons, List.filterMap_cons, h a (by simp), fm_eq fun b hb => h b (by simp [hb])]
theorem adj_rev (n : Nat) : Builtin.Slice.sliceAdjust none none (-1) (n : Int) = ((n : Int) - 1, -1) := rfl
theorem pl_rev (n : Nat) : Builtin.Slice.slicePlaces ((n : Int) - 1) (-1) (-1) = n := by
  unfold Builtin.Slice.slicePlaces
  rw [if_neg (by decide), show (- (-1) : Int) = 1 by decide, Int.ediv_one]
  by_cases h : (n : Int) - 1 > -1
  · rw [if_pos h]; omega
  · rw [if_neg h]; omega
theorem pick_rev (xs : Array Value) : ((List.range xs.size).filterMap fun (m : Nat) => xs[((xs.size : Int) - 1 + (m : Int) * (-1)).toNat]?).toArray = xs.toList.reverse.toArray := by
  have e : (List.range xs.size).filterMap (fun (m : Nat) => xs[((xs.size : Int) - 1 + (m : Int) * (-1)).toNat]?) = ((List.range xs.size).map fun k => xs.size - 1 - k).filterMap (xs[·]?) := by
    rw [List.filterMap_map]
    refine fm_eq fun m hm => ?_
    have := List.mem_range.mp hm
    have : ((xs.size : Int) - 1 + (m : Int) * (-1)).toNat = xs.size - 1 - m := by omega
    rw [this]; rfl
  rw [e, PySem.W.krv_range, List.filterMap_reverse, PySem.W.krv_all]
section
variable {prog : Program} {w : World} {A : Around} {E : Value → Shared → Prop} {s : Shared}
theorem slA_rev {sl : Addr} {vs : Value} {n : Nat} {Q : Int × Int × Nat → Shared → Prop} (hs : s.heap.IsSliceOf sl .none .none vs) (ps : IsPart vs (some (-1)))
    (h : Q ((n : Int) - 1, -1, n) s) : wpAny (model prog w) A (Builtin.Slice.sliceApplied (.ref sl) (pure (n : Int))) Q E s := by
  obtain ⟨ob, hob, _, hd⟩ := id hs
  unfold Builtin.Slice.sliceApplied Builtin.Slice.sliceFields
  refine wpAny_bind (wpAny_bind (wpAny_field hob hd (x := .none) rfl (wpAny_bind (wpAny_field hob hd (x := .none) rfl (wpAny_bind (wpAny_field hob hd (x := vs) rfl (wpAny_pure ?_)))))))
  refine wpAny_bind (HT.slicePart_ ps ?_)
  show wpAny _ _ (if ((-1 : Int) == 0) = true then _ else _) _ _ s
  rw [if_neg (by decide)]
  refine wpAny_bind (slicePart_none (wpAny_bind (slicePart_none (wpAny_bind (wpAny_pure ?_)))))
  show wpAny _ _ (match Builtin.Slice.sliceAdjust none none (-1) (n : Int) with | (lo, hi) => pure (lo, (-1 : Int), Builtin.Slice.slicePlaces lo hi (-1))) _ _ s
  rw [adj_rev]
  show wpAny _ _ (pure ((n : Int) - 1, (-1 : Int), Builtin.Slice.slicePlaces ((n : Int) - 1) (-1) (-1))) _ _ s
  rw [pl_rev]
  exact wpAny_pure h
theorem getItem_tupRev {t sl : Addr} {items : Array Value} {vs : Value} {Q : Value → Shared → Prop} (ht : IsTup s.heap t items) (hs : s.heap.IsSliceOf sl .none .none vs) (ps : IsPart vs (some (-1)))
    (h : Q (.ref s.heap.objs.size) { s with heap := s.heap.push { cls := .type "tuple", data := .seq items.toList.reverse.toArray } }) (hz : items.size ≤ sizeLine) : wpAny (model prog w) A (getItem (.ref t) (.ref sl)) Q E s := by
  have hok : sizeOk (.seq items.toList.reverse.toArray) := by
    show items.toList.reverse.toArray.size ≤ sizeLine
    rw [List.size_toArray, List.length_reverse, Array.length_toList]
    exact hz
  obtain ⟨ob, hob, hcs, _⟩ := id hs
  have hTs : s.TypeIs (.ref sl) "slice" := ⟨ob, hob, hcs⟩
  unfold getItem
  try with_reducible refine wpAny_holding ?_
  first | refine wpAny_bind (wpAny_pure ?_) | skip
  refine wpAny_bind (wpAny_sequenceKey ht.typeIs (by decide) ?_)
  refine wpAny_bind (wpAny_callSpecial?_slot (name := Str.ofString "__getitem__") ht.typeIs PyProof.Rows.slot_tuple_getitem (wpAny_call_entry PyProof.Rows.slot_tuple_getitem ht.typeIs entry_tuple_getitem ?_ (args_tuple_getitem _ _)))
  show wpAny _ _ (Builtin.Tuple.tupleItemsOf (.ref t) >>= _) _ _ s
  refine wpAny_bind (tupleItemsOf_ ht (wpAny_bind (wpAny_typeOf hTs ?_)))
  rw [if_pos (by decide)]
  refine wpAny_bind (slA_rev hs ps ?_)
  have hno : ¬ (((items.size : Int) - 1 == 0 && (-1 : Int) == 1 && items.size == items.size) = true) := by simp
  show wpAny _ _ (if ((items.size : Int) - 1 == 0 && (-1 : Int) == 1 && items.size == items.size) = true then _ else _) _ _ s
  rw [if_neg hno, pick_rev]
  first
    | exact wpAny_bind (m := Builtin.Tuple.tupleExact _) (wpAny_newObj_type (wpAny_pure ⟨_, rfl, wpAny_pure h⟩) hok)
    | exact wpAny_bind (m := Builtin.Tuple.tupleExact _) (wpAny_newObj_type (wpAny_bind (wpAny_pure (wpAny_pure ⟨_, rfl, wpAny_pure h⟩))) hok)
    | exact wpAny_bind (wpAny_bind (m := Builtin.Tuple.tupleExact _) (wpAny_newObj_type (wpAny_pure (wpAny_pure ⟨_, rfl, wpAny_pure h⟩)) hok))
    | exact wpAny_bind (wpAny_bind (m := Builtin.Tuple.tupleExact _) (wpAny_newObj_type (wpAny_pure ⟨_, rfl, wpAny_pure h⟩) hok))
end
/-- x[::-1], x a list or a tuple -/
def tRevD (K : KW) (te : TE) : TE := fun σ H Q => te σ H fun x H1 => ∃ a xs, x = V.ref a ∧ ((SqL K.f H1 a xs ∧ ∀ p, H1 p = none → Q (.ref p) (upd H1 p (.lst xs.reverse))) ∨ (SqP K H1 a xs ∧ NewT H1 xs.reverse Q))
theorem pe_revD {X : Cx} {e : Expr} {te : TE} {k : Nat} {p1 p2 p3 pos : Pos} (he : PE X e te) : PE X (.Subscript e (.Slice none none (some (.UnaryOp .USub (.Constant (.int 1) k p1) p2)) p3) pos) (tRevD (kwX X) te) := by
  refine ⟨fun pins s σ H Q I h => Subscript_ (thn (he.run pins s σ H _ I h) fun v s1 ⟨x, H1, I1, r1, q1⟩ => ?_)⟩
  obtain ⟨a, xs, rfl, q⟩ := q1
  cases r1
  have hst : PO X (some (.UnaryOp .USub (.Constant (.int 1) k p1) p2)) (tPart (tUn (rU fun i => .int (-i)) (tC (.int 1)))) := po_some (pe_un un_neg pe_int)
  refine wpAny_Slice (thn (po_none.run pins s1 σ H1 (fun o H2 => o = none ∧ H2 = H1) I1 ⟨rfl, rfl⟩) fun vl s2 ⟨l, H2, I2, pl, el, e2⟩ => ?_)
  subst el e2
  refine thn (po_none.run pins s2 σ H2 (fun o H3 => o = none ∧ H3 = H2) I2 ⟨rfl, rfl⟩) fun vu s3 ⟨u, H3, I3, pu, eu, e3⟩ => ?_
  subst eu e3
  refine thn (hst.run pins s3 σ H3 (fun o H4 => o = some (-1) ∧ H4 = H3) I3 ⟨1, rfl, -1, rfl, rfl, rfl⟩) fun vs s4 ⟨o, H4, I4, ps, eo, e4⟩ => ?_
  subst eo e4
  have I5 : L2.Inv X pins σ H4 { s4 with heap := s4.heap.push { cls := .type "slice", data := .fields #[vl, vu, vs] } } := I4.kept (t' := s4.toks) fun b ob z => Heap.get?_push_of_some _ z
  show wpAny (model X.prog X.w) X.A (subscriptTail e (.Slice none none (some (.UnaryOp .USub (.Constant (.int 1) k p1) p2)) p3) (.ref a) (.ref s4.heap.objs.size)) (EP X pins σ Q) X.xe { s4 with heap := s4.heap.push { cls := .type "slice", data := .fields #[vl, vu, vs] } }
  rcases q with ⟨hx, q⟩ | ⟨hx, q⟩
  · obtain ⟨its, r, ht, hz⟩ := I5.list hx
    have hlen := r.length
    refine tail_any (ops := [.ref a, .ref s4.heap.objs.size]) ht.isList.typeIs (PySem.slot_list_getitem.lookup) ?_ (by with_unfolding_all rfl)
    refine wpAny_getItem_list_slice ht.isList (Heap.IsSliceOf.new _ vl vu vs) pl pu ps (by decide) ?_ (by rw [List.size_toArray]; omega)
    rw [PySem.W.krv_pick]
    exact ⟨.ref _, _, I5.laid (t' := s4.toks) (o := .lst xs.reverse) (fun b ob z => Heap.get?_push_of_some _ z) (Nat.le_refl _) ⟨by rw [List.length_reverse]; exact hz, _, 0, r.reverse, Heap.get?_push_size _ rfl⟩, rfl, q _ (I5.hok.fresh (Nat.le_refl _))⟩
  · obtain ⟨its, r, ht, hz⟩ := I5.tuple hx.t
    have hlen := r.length
    cases pl
    cases pu
    refine tail_any (ops := [.ref a, .ref s4.heap.objs.size]) ht.typeIs (PyProof.Rows.slot_tuple_getitem.lookup) ?_ (by with_unfolding_all rfl)
    refine getItem_tupRev ht (Heap.IsSliceOf.new _ _ _ vs) ps ?_ (by rw [List.size_toArray]; omega)
    exact newT_ok (tk := s4.toks) I5 r.reverse (by rw [List.length_reverse]; exact hz) q
/-! ### d.get -/
theorem look_no {K : KW} {Fz : Addr → Prop} {H : Hp} : ∀ {ks : List Ky} {ds : List D} {es : List (L2.Key × V)} {k : Ky}, es.map (·.1) = ks.map kyK → smpL ks = true → k.isT = false → RepL K Fz H ds (es.map (·.2)) → lookK k ks ds = none → valV es (kyK k) = none
  | [], _, [], _, _, _, _, _, _ => by simp [valV]
  | [], _, _ :: _, _, h1, _, _, _, _ => by simp at h1
  | a :: ks, ds, [], _, h1, _, _, _, _ => by simp at h1
  | a :: ks, [], (b, x) :: es, _, _, _, _, h2, _ => by simp [RepL] at h2
  | a :: ks, d' :: ds, (b, x) :: es, k, h1, hs, hk, h2, h => by
    simp only [smpL, List.all_cons, Bool.and_eq_true, beq_iff_eq] at hs
    simp only [List.map_cons, List.cons.injEq] at h1
    simp only [List.map_cons] at h2
    obtain ⟨r1, r2⟩ := repL_cons.mp h2
    simp only [lookK] at h
    rw [valV_cons]
    by_cases e : a = k
    · rw [if_pos e] at h; cases h
    · rw [if_neg e] at h
      rw [if_neg (fun z => e (kyK_inj hs.1 hk (h1.1.symm.trans z)))]
      exact look_no h1.2 hs.2 hk r2 h
theorem RepF.pure {K : KW} {Fz : Addr → Prop} {H : Hp} {d : D} {v : V} (p : D.pur d = true) (h : RepF K Fz H d v) : Rep K Fz H d v := by
  cases d <;> first
    | exact h
    | (simp [D.pur] at p; done)
theorem mt_getD {X : Cx} {Fz : Addr → Prop} (hu : X.A.units + 64 < cLine) : MtR X "dict.get" (fun x xs H Q => ∃ d ds o, RepF (kwX X) Fz H d x ∧ RepFs (kwX X) Fz H ds xs ∧ mtD .get d ds = some o ∧ Res (kwX X) Fz H o Q) := by
  rintro pins s σ H x xs v us Q I rx rs ⟨d, ds, o, hd, hds, hm, q⟩
  match ds, hm, hds with
  | [], hm, _ => simp [mtD] at hm
  | [_], hm, _ => simp [mtD] at hm
  | _ :: _ :: _ :: _, hm, _ => simp [mtD] at hm
  | [e, f], hm, hds =>
    have hm : getD2 d e f = some o := hm
    cases d <;> simp only [getD2] at hm <;> try (cases hm; done)
    rename_i ks ws _ _
    by_cases hp : D.pur f = true
    · rw [if_pos hp] at hm
      obtain ⟨k, hk, rfl⟩ := Option.map_eq_some_iff.mp hm
      obtain ⟨y, z, rfl, he, hf⟩ := hds.two
      obtain ⟨a, es, rfl, ha, hks, ra⟩ := hd.dk
      cases rx
      cases rs with
      | cons ry rs =>
        cases rs with
        | cons rz rs =>
          cases rs
          obtain ⟨hk, ⟨k1, k2⟩ | ⟨k1, k2⟩⟩ := kyIn_or hk
          rotate_right
          · obtain ⟨p, rfl, tk⟩ := TK.of hk k1 he
            exact t_get2 hu I ⟨⟨es, ha, hks, ra⟩, k2⟩ tk ry (hf.pure hp) rz fun v w' s' I' r' q' => ⟨v, H, I', r', q.same q'⟩
          obtain ⟨l, l1, l2, l3, _⟩ := dO_smp (w := X.w) (a := a) hks k2
          rw [show (kwX X).w = X.w from rfl, l1] at ha
          rw [← l3] at ra
          have g : DGet H a y (valV l (kyK k)) := by
            rw [ky_rep hk k1 he]
            exact .inl ⟨_, _, ha, rfl, rfl⟩
          refine d_get2 (by omega) I g ry rz fun w' s' I' r' => ⟨_, H, I', r', q.same ?_⟩
          cases hl : lookK k ks ws with
          | none =>
            rw [look_no l2 k2 k1 ra hl]
            exact hf.pure hp
          | some d =>
            obtain ⟨w, h1, h2⟩ := look_some l2 k2 k1 ra hl
            rw [h1]
            exact h2
    · rw [if_neg hp] at hm; cases hm
end Ev

set_option linter.all false
set_option autoImplicit false
set_option Elab.async false
set_option maxRecDepth 100000
set_option maxHeartbeats 4000000
/-! EvE: the readings of the evaluator. -/
namespace Ev
open PySem PySem.Spec L2
/-- what an operand is in the heap: H0 is the heap ahead of it -/
def RepO (g : Gc) (sd : SD) (σ : L2.St) (H0 H : Hp) (Fz : Addr → Prop) : Opd → V → Prop
  | .val d, v => Rep g.K Fz H d v
  | .slot i, v => σ[i]? = some (some v)
  | .new xs, v => ∃ a vs, v = .ref a ∧ H a = some (.lst vs) ∧ RepL g.K Fz H xs vs ∧ ¬ Fz a ∧ ¬ Mu sd σ a ∧ H0 a = none ∧ g.He a = none
  | .newd kvs, v => ∃ a es, v = .ref a ∧ H a = some (dO g.K.w a es) ∧ KysR g.K H (kvs.map (·.1)) (es.map (·.1)) ∧ RepL g.K Fz H (kvs.map (·.2)) (es.map (·.2)) ∧ ¬ Fz a ∧ ¬ Mu sd σ a ∧ H0 a = none ∧ g.He a = none
def newA : Opd → V → List Addr
  | .new _, .ref a => [a]
  | .newd _, .ref a => [a]
  | _, _ => []
def newAs : List Opd → List V → List Addr
  | o :: os, v :: vs => newA o v ++ newAs os vs
  | _, _ => []
def ROs (g : Gc) (sd : SD) (σ : L2.St) (H0 H : Hp) (Fz : Addr → Prop) : List Opd → List V → Prop
  | [], vs => vs = []
  | o :: os, vs => ∃ v r, vs = v :: r ∧ RepO g sd σ H0 H Fz o v ∧ ROs g sd σ H0 H Fz os r ∧ ∀ a, a ∈ newA o v → a ∉ newAs os r
section
variable {g : Gc} {sd sd' sd1 sd2 sd0 : SD} {σ : L2.St} {H H' H0 H1 H2 : Hp} {Fz Fz' Fz1 Fz2 : Addr → Prop}
theorem RepO.ext (S : SRel g sd σ H Fz) (x : Ext sd σ H Fz sd' H' Fz') {o : Opd} {v : V} (r : RepO g sd σ H0 H Fz o v) : RepO g sd' σ H0 H' Fz' o v := by
  have k := x.keeps S
  cases o with
  | val d => exact Rep.keep k x.fz d v r
  | slot i => exact r
  | new xs =>
    obtain ⟨a, vs, e, q, r, nf, nm, h0, he⟩ := r
    refine ⟨a, vs, e, x.keep a _ q nm, RepL.keep k x.fz _ _ r, fun f => ?_, fun m => nm (x.mu a m), h0, he⟩
    rcases x.fzn a f with z | z | z
    · exact nf z
    · rw [q] at z; cases z
    · exact nm z
  | newd kvs =>
    obtain ⟨a, vs, e, q, ks, r, nf, nm, h0, he⟩ := r
    refine ⟨a, vs, e, x.keep a _ q nm, ks.keep k, RepL.keep k x.fz _ _ r, fun f => ?_, fun m => nm (x.mu a m), h0, he⟩
    rcases x.fzn a f with z | z | z
    · exact nf z
    · rw [q] at z; cases z
    · exact nm z
theorem RepO.start {o : Opd} {v : V} (h : ∀ a, H1 a = none → H0 a = none) (r : RepO g sd σ H1 H Fz o v) : RepO g sd σ H0 H Fz o v := by
  cases o with
  | val d => exact r
  | slot i => exact r
  | new xs =>
    obtain ⟨a, vs, e, q, r, nf, nm, h0, he⟩ := r
    exact ⟨a, vs, e, q, r, nf, nm, h a h0, he⟩
  | newd kvs =>
    obtain ⟨a, vs, e, q, ks, r, nf, nm, h0, he⟩ := r
    exact ⟨a, vs, e, q, ks, r, nf, nm, h a h0, he⟩
theorem newA_none {o : Opd} {v : V} {a : Addr} (r : RepO g sd σ H0 H Fz o v) (h : a ∈ newA o v) : H0 a = none ∧ H a ≠ none := by
  cases o with
  | val d => simp [newA] at h
  | slot i => simp [newA] at h
  | new xs =>
    obtain ⟨b, vs, rfl, q, r, nf, nm, h0, he⟩ := r
    simp only [newA, List.mem_singleton] at h
    subst h
    exact ⟨h0, by rw [q]; exact Option.some_ne_none _⟩
  | newd kvs =>
    obtain ⟨b, vs, rfl, q, ks, r, nf, nm, h0, he⟩ := r
    simp only [newA, List.mem_singleton] at h
    subst h
    exact ⟨h0, by rw [q]; exact Option.some_ne_none _⟩
theorem newAs_none : ∀ {os : List Opd} {vs : List V} {a : Addr}, ROs g sd σ H0 H Fz os vs → a ∈ newAs os vs → H0 a = none
  | [], vs, a, h, m => by simp [newAs] at m
  | o :: os, vs, a, h, m => by
    obtain ⟨v, r, rfl, h1, h2, _⟩ := h
    simp only [newAs, List.mem_append] at m
    rcases m with m | m
    · exact (newA_none h1 m).1
    · exact newAs_none h2 m
theorem ROs.start : ∀ {os : List Opd} {vs : List V}, (∀ a, H1 a = none → H0 a = none) → ROs g sd σ H1 H Fz os vs → ROs g sd σ H0 H Fz os vs
  | [], vs, _, h => h
  | o :: os, vs, k, h => by
    obtain ⟨v, r, e, h1, h2, h3⟩ := h
    exact ⟨v, r, e, h1.start k, ROs.start k h2, h3⟩
theorem ROs.ext (S : SRel g sd σ H Fz) (x : Ext sd σ H Fz sd' H' Fz') : ∀ {os : List Opd} {vs : List V}, ROs g sd σ H0 H Fz os vs → ROs g sd' σ H0 H' Fz' os vs
  | [], vs, h => h
  | o :: os, vs, h => by
    obtain ⟨v, r, e, h1, h2, h3⟩ := h
    exact ⟨v, r, e, h1.ext S x, ROs.ext S x h2, h3⟩
theorem force_rep (S : SRel g sd σ H Fz) {o : Opd} {v : V} {d : D} (r : RepO g sd0 σ H0 H Fz o v) (e : force sd o = some d) : RepF g.K Fz H d v := by
  cases o with
  | val d' => simp only [force] at e; cases e; exact Rep.f r
  | slot i =>
    have r : σ[i]? = some (some v) := r
    simp only [force] at e
    split at e
    · rename_i xs h
      cases e
      obtain ⟨a, vs, e1, e2, e3⟩ := S.mls i xs h
      rw [r] at e1
      exact ⟨a, vs, Option.some.inj (Option.some.inj e1), e2, e3⟩
    · rename_i kvs h
      cases e
      obtain ⟨a, es, e1, e2, e3, e4⟩ := S.mks i kvs h
      rw [r] at e1
      exact ⟨a, es, Option.some.inj (Option.some.inj e1), .inl e2, e3, e4⟩
    · rename_i h
      cases e
      obtain ⟨w, e1, e2⟩ := S.vals i _ h
      rw [r] at e1
      cases Option.some.inj e1
      exact e2.f
    · cases e
  | new xs =>
    simp only [force] at e; cases e
    obtain ⟨a, vs, e, q, r, _⟩ := r
    exact ⟨a, vs, e, q, r⟩
  | newd kvs =>
    simp only [force] at e; cases e
    obtain ⟨a, vs, e, q, ks, r, _⟩ := r
    exact ⟨a, vs, e, .inl q, ks, r⟩
theorem forceL_rep (S : SRel g sd σ H Fz) : ∀ {os : List Opd} {vs : List V} {ds : List D}, ROs g sd0 σ H0 H Fz os vs → forceL sd os = some ds → RepFs g.K Fz H ds vs
  | [], vs, ds, h, e => by simp only [forceL] at e; cases e; exact h
  | o :: os, vs, ds, h, e => by
    obtain ⟨v, r, rfl, h1, h2, _⟩ := h
    simp only [forceL] at e
    obtain ⟨d, e1, e⟩ := Option.bind_eq_some_iff.mp e
    obtain ⟨ds', e2, rfl⟩ := Option.map_eq_some_iff.mp e
    exact ⟨v, r, rfl, force_rep S h1 e1, forceL_rep S h2 e2⟩
/-- a new list is given up as a datum -/
theorem strict_rep (S : SRel g sd σ H Fz) {o : Opd} {v : V} {d : D} (r : RepO g sd σ H0 H Fz o v) (e : strict o = some d) :
    ∃ Fz', SRel g sd σ H Fz' ∧ (∀ a, Fz a → Fz' a) ∧ (∀ a, Fz' a → Fz a ∨ a ∈ newA o v) ∧ Rep g.K Fz' H d v := by
  cases o with
  | val d' => simp only [strict] at e; cases e; exact ⟨Fz, S, fun _ z => z, fun _ z => .inl z, r⟩
  | slot i => simp [strict] at e
  | new xs =>
    simp only [strict] at e; cases e
    obtain ⟨a, vs, rfl, q, r, nf, nm, h0, he⟩ := r
    refine ⟨fun b => Fz b ∨ b = a, S.freeze he nm ⟨_, q⟩, fun _ z => .inl z, fun b z => z.imp id fun z => by simp [newA, z], ?_⟩
    simp only [Rep]
    exact ⟨a, vs, rfl, .inr rfl, q, RepL.keep Keep.refl (fun _ z => .inl z) _ _ r⟩
  | newd kvs =>
    simp only [strict] at e; cases e
    obtain ⟨a, vs, rfl, q, ks, r, nf, nm, h0, he⟩ := r
    refine ⟨fun b => Fz b ∨ b = a, S.freeze he nm ⟨_, q⟩, fun _ z => .inl z, fun b z => z.imp id fun z => by simp [newA, z], ?_⟩
    simp only [Rep]
    exact ⟨a, vs, rfl, .inr rfl, .inl q, ks, RepL.keep Keep.refl (fun _ z => .inl z) _ _ r⟩
theorem RepO.more {o : Opd} {v : V} (m : ∀ a, Fz a → Fz' a) (n : ∀ a, a ∈ newA o v → ¬ Fz' a) (r : RepO g sd σ H0 H Fz o v) : RepO g sd σ H0 H Fz' o v := by
  cases o with
  | val d => exact Rep.keep Keep.refl m d v r
  | slot i => exact r
  | new xs =>
    obtain ⟨a, vs, rfl, q, r, nf, nm, h0, he⟩ := r
    exact ⟨a, vs, rfl, q, RepL.keep Keep.refl m _ _ r, n a (by simp [newA]), nm, h0, he⟩
  | newd kvs =>
    obtain ⟨a, vs, rfl, q, ks, r, nf, nm, h0, he⟩ := r
    exact ⟨a, vs, rfl, q, ks, RepL.keep Keep.refl m _ _ r, n a (by simp [newA]), nm, h0, he⟩
theorem newA_nf {o : Opd} {v : V} {a : Addr} (r : RepO g sd σ H0 H Fz o v) (h : a ∈ newA o v) : ¬ Fz a := by
  cases o with
  | val d => simp [newA] at h
  | slot i => simp [newA] at h
  | new xs =>
    obtain ⟨b, vs, rfl, q, r, nf, nm, h0, he⟩ := r
    simp only [newA, List.mem_singleton] at h
    subst h; exact nf
  | newd kvs =>
    obtain ⟨b, vs, rfl, q, ks, r, nf, nm, h0, he⟩ := r
    simp only [newA, List.mem_singleton] at h
    subst h; exact nf
theorem ROs.more : ∀ {os : List Opd} {vs : List V}, (∀ a, Fz a → Fz' a) → (∀ a, a ∈ newAs os vs → ¬ Fz' a) → ROs g sd σ H0 H Fz os vs → ROs g sd σ H0 H Fz' os vs
  | [], vs, _, _, h => h
  | o :: os, vs, m, n, h => by
    obtain ⟨v, r, rfl, h1, h2, h3⟩ := h
    exact ⟨v, r, rfl, h1.more m fun a z => n a (by simp [newAs, z]), ROs.more m (fun a z => n a (by simp [newAs, z])) h2, h3⟩
theorem newAs_nf : ∀ {os : List Opd} {vs : List V} {a : Addr}, ROs g sd σ H0 H Fz os vs → a ∈ newAs os vs → ¬ Fz a
  | [], vs, a, h, m => by simp [newAs] at m
  | o :: os, vs, a, h, m => by
    obtain ⟨v, r, rfl, h1, h2, _⟩ := h
    simp only [newAs, List.mem_append] at m
    rcases m with m | m
    · exact newA_nf h1 m
    · exact newAs_nf h2 m
theorem strictL_rep : ∀ {os : List Opd} {vs : List V} {ds : List D} {Fz : Addr → Prop}, SRel g sd σ H Fz → ROs g sd σ H0 H Fz os vs → strictL os = some ds →
    ∃ Fz', SRel g sd σ H Fz' ∧ (∀ a, Fz a → Fz' a) ∧ (∀ a, Fz' a → Fz a ∨ a ∈ newAs os vs) ∧ RepL g.K Fz' H ds vs
  | [], vs, ds, Fz, S, h, e => by
    simp only [strictL] at e; cases e
    exact ⟨Fz, S, fun _ z => z, fun _ z => .inl z, repL_nil.mpr h⟩
  | o :: os, vs, ds, Fz, S, h, e => by
    obtain ⟨v, r, rfl, h1, h2, h3⟩ := h
    simp only [strictL] at e
    obtain ⟨d, e1, e⟩ := Option.bind_eq_some_iff.mp e
    obtain ⟨ds', e2, rfl⟩ := Option.map_eq_some_iff.mp e
    obtain ⟨Fz1, S1, m1, n1, r1⟩ := strict_rep S h1 e1
    have h2' : ROs g sd σ H0 H Fz1 os r := ROs.more m1 (fun a z f => (n1 a f).elim (newAs_nf h2 z) fun y => h3 a y z) h2
    obtain ⟨Fz2, S2, m2, n2, r2⟩ := strictL_rep S1 h2' e2
    refine ⟨Fz2, S2, fun a z => m2 a (m1 a z), fun a z => ?_, repL_cons.mpr ⟨Rep.keep Keep.refl m2 _ _ r1, r2⟩⟩
    rcases n2 a z with z | z
    · rcases n1 a z with z | z
      · exact .inl z
      · exact .inr (by simp [newAs, z])
    · exact .inr (by simp [newAs, z])
/-- more is given up -/
theorem Ext.more (x : Ext sd σ H Fz sd' H' Fz1) (m : ∀ a, Fz1 a → Fz2 a) (n : ∀ a, Fz2 a → Fz1 a ∨ H a = none) : Ext sd σ H Fz sd' H' Fz2 :=
  ⟨x.keep, x.there, fun a z => m a (x.fz a z), fun a z => (n a z).elim (x.fzn a) fun z => .inr (.inl z), x.mu⟩
/-- what an operation gave -/
theorem ResO.rep (S : SRel g sd σ H Fz) {o : Opd} {v : V} (gr : Grow H H') (r : ResO g.K Fz H H' o v) : RepO g sd σ H H' Fz o v := by
  have nf : ∀ a, H a = none → ¬ Fz a := fun a n f => by
    obtain ⟨o, q⟩ := S.fzH a f
    rw [n] at q; cases q
  have nm : ∀ a, H a = none → ¬ Mu sd σ a := fun a n m => by
    rcases S.mu_obj m with ⟨vs, z⟩ | ⟨es, z⟩ <;> (rw [n] at z; cases z)
  cases o with
  | val d => exact r
  | slot i => exact False.elim r
  | new xs =>
    obtain ⟨a, vs, e, n, q, r⟩ := r
    exact ⟨a, vs, e, q, r, nf a n, nm a n, n, S.newHe n⟩
  | newd kvs =>
    obtain ⟨a, vs, e, n, q, ks, r⟩ := r
    exact ⟨a, vs, e, q, ks, r, nf a n, nm a n, n, S.newHe n⟩
end

/-! ### the readings -/
def tR (g : Gc) (m : SD → Option (Opd × SD)) : TE := fun σ H Q => ∃ sd Fz o sd', SRel g sd σ H Fz ∧ m sd = some (o, sd') ∧
  ∀ v H' Fz', SRel g sd' σ H' Fz' → Ext sd σ H Fz sd' H' Fz' → RepO g sd' σ H H' Fz' o v → Q v H'
def tRs (g : Gc) (m : SD → Option (List Opd × SD)) : TA := fun σ H Q => ∃ sd Fz os sd', SRel g sd σ H Fz ∧ m sd = some (os, sd') ∧
  ∀ vs H' Fz', SRel g sd' σ H' Fz' → Ext sd σ H Fz sd' H' Fz' → ROs g sd' σ H H' Fz' os vs → Q vs H'
def tRT (g : Gc) (m : SD → Option (Bool × SD)) : TT := fun σ H Q => ∃ sd Fz b sd', SRel g sd σ H Fz ∧ m sd = some (b, sd') ∧
  ∀ H' Fz', SRel g sd' σ H' Fz' → Ext sd σ H Fz sd' H' Fz' → Q b H'
def tRO (g : Gc) (m : SD → Option (Option Int × SD)) : TO := fun σ H Q => ∃ sd Fz b sd', SRel g sd σ H Fz ∧ m sd = some (b, sd') ∧
  ∀ H' Fz', SRel g sd' σ H' Fz' → Ext sd σ H Fz sd' H' Fz' → Q b H'
/-- what is wanted behind a statement -/
def EndsOk (g : Gc) (D : Ends) : Fl → SD → L2.St → Hp → (Addr → Prop) → Prop
  | .next, _, σ, H, _ => D.nx σ H
  | .brk, _, σ, H, _ => D.bk σ H
  | .cont, _, σ, H, _ => D.ct σ H
  | .ret o, sd, σ, H, Fz => ∀ v H0, RepO g sd σ H0 H Fz o v → D.rt v H
/-- what is given up stays -/
structure Mono (H : Hp) (Fz : Addr → Prop) (H' : Hp) (Fz' : Addr → Prop) : Prop where
  keep : Keep Fz H H'
  fz : ∀ a, Fz a → Fz' a
def tRS (g : Gc) (m : SD → Option (Fl × SD)) : TS := fun D σ H => ∃ sd Fz f sd', SRel g sd σ H Fz ∧ m sd = some (f, sd') ∧
  ∀ σ' H' Fz', SRel g sd' σ' H' Fz' → Mono H Fz H' Fz' → EndsOk g D f sd' σ' H' Fz'
/-- a row that a loop takes -/
def RowR (g : Gc) (Fz : Addr → Prop) (H H' : Hp) : List D → V → Prop
  | [d], x => H' = H ∧ Rep g.K Fz H d x
  | [d, e], x => ∃ T v w, x = .ref T ∧ H T = none ∧ H' = upd H T (.tup [v, w]) ∧ Rep g.K Fz H d v ∧ Rep g.K Fz H e w
  | _, _ => False
def Iv (H1 : Hp) (Fz1 : Addr → Prop) (σ1 : L2.St) (ops : List (Opd × List D)) (sd : SD) (σ : L2.St) (H : Hp) (Fz : Addr → Prop) : Prop :=
  Mono H1 Fz1 H Fz ∧ chkAll ops sd = true ∧ ∀ i xs, (Opd.slot i, xs) ∈ ops → σ[i]? = σ1[i]?
structure WalkD (g : Gc) (J : L2.It) (rows : List (List D)) (inv : SD → L2.St → Hp → (Addr → Prop) → Prop) : Prop where
  goes : ∀ i sd σ H Fz, i < rows.length → SRel g sd σ H Fz → inv sd σ H Fz → J.go i H
  stops : ∀ sd σ H Fz, SRel g sd σ H Fz → inv sd σ H Fz → J.stop rows.length H
  yields : ∀ i sd σ H Fz x H' row, rows[i]? = some row → SRel g sd σ H Fz → inv sd σ H Fz → J.yld i H x H' → RowR g Fz H H' row x
def tRI (g : Gc) (m : SD → Option (List (List D) × List (Opd × List D) × SD)) : TI := fun σ H R => ∃ sd Fz rows ops sd', SRel g sd σ H Fz ∧ m sd = some (rows, ops, sd') ∧
  ∀ J H1 Fz1, SRel g sd' σ H1 Fz1 → Ext sd σ H Fz sd' H1 Fz1 → WalkD g J rows (Iv H1 Fz1 σ ops) → R J H1
theorem Mono.refl {H : Hp} {Fz : Addr → Prop} : Mono H Fz H Fz := ⟨Keep.refl, fun _ z => z⟩
theorem Mono.trans {H H1 H2 : Hp} {Fz Fz1 Fz2 : Addr → Prop} (a : Mono H Fz H1 Fz1) (b : Mono H1 Fz1 H2 Fz2) : Mono H Fz H2 Fz2 :=
  ⟨⟨fun x o f h => b.keep.fz x o (a.fz x f) (a.keep.fz x o f h), fun x xs h => b.keep.tup x xs (a.keep.tup x xs h), fun x o u h => b.keep.frz x o u (a.keep.frz x o u h)⟩, fun x f => b.fz x (a.fz x f)⟩
theorem Ext.mono {g : Gc} {sd sd' : SD} {σ : L2.St} {H H' : Hp} {Fz Fz' : Addr → Prop} (S : SRel g sd σ H Fz) (x : Ext sd σ H Fz sd' H' Fz') : Mono H Fz H' Fz' := ⟨x.keeps S, x.fz⟩
theorem Mono.rep {K : KW} {H H' : Hp} {Fz Fz' : Addr → Prop} (m : Mono H Fz H' Fz') {d : D} {v : V} (r : Rep K Fz H d v) : Rep K Fz' H' d v := Rep.keep m.keep m.fz d v r
theorem Mono.repL {K : KW} {H H' : Hp} {Fz Fz' : Addr → Prop} (m : Mono H Fz H' Fz') {d : List D} {v : List V} (r : RepL K Fz H d v) : RepL K Fz' H' d v := RepL.keep m.keep m.fz d v r
theorem PE.to {X : Cx} {e : PySem.Expr} {t t' : TE} (h : PE X e t) (i : ∀ σ H Q, t' σ H Q → t σ H Q) : PE X e t' := ⟨fun pins s σ H Q I q => h.run pins s σ H Q I (i σ H Q q)⟩
theorem PT.to {X : Cx} {e : PySem.Expr} {t t' : TT} (h : PT X e t) (i : ∀ σ H Q, t' σ H Q → t σ H Q) : PT X e t' := ⟨fun pins s σ H Q I q => h.run pins s σ H Q I (i σ H Q q)⟩
theorem PW.to {X : Cx} {e : PySem.Expr} {t t' : TT} (h : PW X e t) (i : ∀ σ H Q, t' σ H Q → t σ H Q) : PW X e t' := ⟨fun wh pins s σ H Q I q => h.run wh pins s σ H Q I (i σ H Q q)⟩
theorem PA.to {X : Cx} {e : List PySem.Expr} {t t' : TA} (h : PA X e t) (i : ∀ σ H Q, t' σ H Q → t σ H Q) : PA X e t' := ⟨fun p pins s σ H Q I q => h.run p pins s σ H Q I (i σ H Q q)⟩
theorem PO.to {X : Cx} {e : Option PySem.Expr} {t t' : TO} (h : PO X e t) (i : ∀ σ H Q, t' σ H Q → t σ H Q) : PO X e t' := ⟨fun pins s σ H Q I q => h.run pins s σ H Q I (i σ H Q q)⟩
theorem PS.to {X : Cx} {e : PySem.Stmt} {t t' : TS} (h : PS X e t) (i : ∀ D σ H, t' D σ H → t D σ H) : PS X e t' := ⟨fun pins s σ H D I q => h.run pins s σ H D I (i D σ H q)⟩
theorem PSs.to {X : Cx} {e : List PySem.Stmt} {t t' : TS} (h : PSs X e t) (i : ∀ D σ H, t' D σ H → t D σ H) : PSs X e t' := ⟨fun pins s σ H D I q => h.run pins s σ H D I (i D σ H q)⟩
end Ev

set_option linter.all false
set_option autoImplicit false
set_option Elab.async false
set_option maxRecDepth 100000
set_option maxHeartbeats 4000000
/-! EvF: the check that a term of the small language is a piece of the text. -/
namespace Ev
open PySem PySem.Spec L2
/-! ### what stands in the text -/
def nst : PySem.Expr → Bool
  | .Starred _ _ => false
  | _ => true
def nsl : PySem.Expr → Bool
  | .Slice _ _ _ _ => false
  | _ => true
def nset : PySem.Expr → Bool
  | .Set _ _ _ => false
  | _ => true
def nlc : PySem.Expr → Bool
  | .ListComp _ _ _ _ => false
  | .SetComp _ _ _ _ => false
  | .DictComp _ _ _ _ _ => false
  | _ => true
theorem nsl_plain {p : PySem.Expr} (h : nsl p = true) : PlainIx p := by
  intro o i
  cases p <;> first
    | rfl
    | (simp [nsl] at h)
theorem nst_star {p : PySem.Expr} (h : nst p = true) (es : List PySem.Expr) (env : Env) : starEach (p :: es) env = (false, eval p env) :: starEach es env := by
  cases p <;> first
    | rfl
    | (simp [nst] at h)
theorem nset_marks {p : PySem.Expr} (h : nset p = true) (op : CmpOp) : behindInMarks op p = false := by
  cases p <;> first
    | rfl
    | (simp [nset] at h)
theorem nset_fold {p : PySem.Expr} (h : nset p = true) (env : Env) (x : Value) : foldedSetIterable p env x = pure x := by
  cases p <;> first
    | rfl
    | (simp [nset] at h)
def plainL (es : List PySem.Expr) : Bool := es.all nst
theorem plainL_any {pos : Pos} {env : Env} : ∀ {es : List PySem.Expr}, plainL es = true → (starEach es env).any (·.1) = false
  | [], _ => rfl
  | e :: es, h => by
    simp only [plainL, List.all_cons, Bool.and_eq_true] at h
    rw [nst_star h.1]
    simp only [List.any_cons, Bool.false_or]
    exact plainL_any (pos := pos) h.2
theorem backTo_any {pos : Pos} {es : List (Bool × Sem Value)} : (backTo pos es).any (·.1) = es.any (·.1) := by
  unfold backTo
  rw [List.any_map]
  rfl
def dbg (x : Str) : Bool := (x == ("__debug__" : Str)) || (x == ("__classdict__" : Str)) || (x == ("__name__" : Str))
def visB (sc : Scope) (x : Str) : Bool := match sc.names.lookup x with
  | some .local => true
  | some .cell => true
  | some .free => true
  | _ => false
def glB (sc : Scope) (x : Str) : Bool := match sc.names.lookup x with
  | some .globalImplicit => true
  | _ => false
theorem visB_ok {sc : Scope} {x : Str} (h : visB sc x = true) : Vis sc x := by
  unfold visB at h
  unfold Vis
  split at h <;> first
    | (rename_i e; simp [e]; done)
    | cases h
def asName : PySem.Expr → Option Str
  | .Name x _ => some x
  | _ => none
theorem asName_ok {p : PySem.Expr} {x : Str} (h : asName p = some x) : ∃ pos, p = .Name x pos := by
  cases p <;> simp only [asName] at h <;> cases h
  exact ⟨_, rfl⟩
def asConst : PySem.Expr → Option PySem.Const
  | .Constant c _ _ => some c
  | _ => none
theorem asConst_ok {p : PySem.Expr} {x : PySem.Const} (h : asConst p = some x) : ∃ k pos, p = .Constant x k pos := by
  cases p <;> simp only [asConst] at h <;> cases h
  exact ⟨_, _, rfl⟩
def asBin : PySem.Expr → Option (PySem.Expr × Operator × PySem.Expr)
  | .BinOp l o r _ => some (l, o, r)
  | _ => none
theorem asBin_ok {p : PySem.Expr} {x : PySem.Expr × Operator × PySem.Expr} (h : asBin p = some x) : ∃ pos, p = .BinOp x.1 x.2.1 x.2.2 pos := by
  cases p <;> simp only [asBin] at h <;> cases h
  exact ⟨_, rfl⟩
def asNeg : PySem.Expr → Option PySem.Expr
  | .UnaryOp .USub x _ => some x
  | _ => none
theorem asNeg_ok {p x : PySem.Expr} (h : asNeg p = some x) : ∃ pos, p = .UnaryOp .USub x pos := by
  unfold asNeg at h
  split at h <;> cases h
  exact ⟨_, rfl⟩
def asNot : PySem.Expr → Option PySem.Expr
  | .UnaryOp .Not x _ => some x
  | _ => none
theorem asNot_ok {p x : PySem.Expr} (h : asNot p = some x) : ∃ pos, p = .UnaryOp .Not x pos := by
  unfold asNot at h
  split at h <;> cases h
  exact ⟨_, rfl⟩
def asCmp1 : PySem.Expr → Option (PySem.Expr × CmpOp × PySem.Expr)
  | .Compare l [o] [r] _ => some (l, o, r)
  | _ => none
theorem asCmp1_ok {p : PySem.Expr} {x : PySem.Expr × CmpOp × PySem.Expr} (h : asCmp1 p = some x) : ∃ pos, p = .Compare x.1 [x.2.1] [x.2.2] pos := by
  unfold asCmp1 at h
  split at h <;> cases h
  exact ⟨_, rfl⟩
def asCmp2 : PySem.Expr → Option (PySem.Expr × CmpOp × PySem.Expr × CmpOp × PySem.Expr)
  | .Compare l [o, o'] [r, r'] _ => some (l, o, r, o', r')
  | _ => none
theorem asCmp2_ok {p : PySem.Expr} {x : PySem.Expr × CmpOp × PySem.Expr × CmpOp × PySem.Expr} (h : asCmp2 p = some x) : ∃ pos, p = .Compare x.1 [x.2.1, x.2.2.2.1] [x.2.2.1, x.2.2.2.2] pos := by
  unfold asCmp2 at h
  split at h <;> cases h
  exact ⟨_, rfl⟩
def asBoolOp : PySem.Expr → Option (PySem.BoolOp × PySem.Expr × PySem.Expr × List PySem.Expr × Pos)
  | .BoolOp o (x :: y :: r) pos => some (o, x, y, r, pos)
  | _ => none
theorem asBoolOp_ok {p : PySem.Expr} {x : PySem.BoolOp × PySem.Expr × PySem.Expr × List PySem.Expr × Pos} (h : asBoolOp p = some x) : p = .BoolOp x.1 (x.2.1 :: x.2.2.1 :: x.2.2.2.1) x.2.2.2.2 := by
  unfold asBoolOp at h
  split at h <;> cases h
  rfl
/-- what is behind the first of an and, an or -/
def restB (o : PySem.BoolOp) (y : PySem.Expr) (r : List PySem.Expr) (pos : Pos) : PySem.Expr := match r with
  | [] => y
  | _ :: _ => .BoolOp o (y :: r) pos
def asIf : PySem.Expr → Option (PySem.Expr × PySem.Expr × PySem.Expr)
  | .IfExp c a b _ => some (c, a, b)
  | _ => none
theorem asIf_ok {p : PySem.Expr} {x : PySem.Expr × PySem.Expr × PySem.Expr} (h : asIf p = some x) : ∃ pos, p = .IfExp x.1 x.2.1 x.2.2 pos := by
  cases p <;> simp only [asIf] at h <;> cases h
  exact ⟨_, rfl⟩
def asTup : PySem.Expr → Option (List PySem.Expr)
  | .Tuple es _ _ => some es
  | _ => none
theorem asTup_ok {p : PySem.Expr} {x : List PySem.Expr} (h : asTup p = some x) : ∃ k pos, p = .Tuple x k pos := by
  cases p <;> simp only [asTup] at h <;> cases h
  exact ⟨_, _, rfl⟩
def asLst : PySem.Expr → Option (List PySem.Expr)
  | .List es _ => some es
  | _ => none
theorem asLst_ok {p : PySem.Expr} {x : List PySem.Expr} (h : asLst p = some x) : ∃ pos, p = .List x pos := by
  cases p <;> simp only [asLst] at h <;> cases h
  exact ⟨_, rfl⟩
def asRv : PySem.Expr → Option PySem.Expr
  | .Subscript e (.Slice none none (some (.UnaryOp .USub (.Constant (.int 1) _ _) _)) _) _ => some e
  | _ => none
theorem asRv_ok {p e : PySem.Expr} (h : asRv p = some e) : ∃ k p1 p2 p3 pos, p = .Subscript e (.Slice none none (some (.UnaryOp .USub (.Constant (.int 1) k p1) p2)) p3) pos := by
  unfold asRv at h
  split at h <;> cases h
  exact ⟨_, _, _, _, _, rfl⟩
def asSub : PySem.Expr → Option (PySem.Expr × PySem.Expr)
  | .Subscript o i _ => some (o, i)
  | _ => none
theorem asSub_ok {p : PySem.Expr} {x : PySem.Expr × PySem.Expr} (h : asSub p = some x) : ∃ pos, p = .Subscript x.1 x.2 pos := by
  cases p <;> simp only [asSub] at h <;> cases h
  exact ⟨_, rfl⟩
def asSlc : PySem.Expr → Option (PySem.Expr × Option PySem.Expr × Option PySem.Expr)
  | .Subscript o (.Slice lo hi none _) _ => some (o, lo, hi)
  | _ => none
theorem asSlc_ok {p : PySem.Expr} {x : PySem.Expr × Option PySem.Expr × Option PySem.Expr} (h : asSlc p = some x) : ∃ p2 pos, p = .Subscript x.1 (.Slice x.2.1 x.2.2 none p2) pos := by
  unfold asSlc at h
  split at h <;> cases h
  exact ⟨_, _, rfl⟩
/-- f(e, ..), plain arguments -/
def asCall : PySem.Expr → Option (Str × List PySem.Expr)
  | .Call (.Name x _) es [] _ => some (x, es)
  | _ => none
theorem asCall_ok {p : PySem.Expr} {x : Str × List PySem.Expr} (h : asCall p = some x) : ∃ p2 pos, p = .Call (.Name x.1 p2) x.2 [] pos := by
  unfold asCall at h
  split at h <;> cases h
  exact ⟨_, _, rfl⟩
def asMth : PySem.Expr → Option (PySem.Expr × Str × List PySem.Expr)
  | .Call (.Attribute o x apos) es [] pos => if apos.endLine == pos.line then some (o, x, es) else none
  | _ => none
theorem asMth_ok {p : PySem.Expr} {x : PySem.Expr × Str × List PySem.Expr} (h : asMth p = some x) : ∃ apos pos, (apos.endLine == pos.line) = true ∧ p = .Call (.Attribute x.1 x.2.1 apos) x.2.2 [] pos := by
  unfold asMth at h
  split at h
  · obtain ⟨h1, rfl⟩ := opt_if h
    exact ⟨_, _, h1, rfl⟩
  · cases h
def asComp : PySem.Expr → Option (PySem.Expr × PySem.Expr × PySem.Expr × List PySem.Expr × Scope)
  | .ListComp e [⟨tg, it, cs, 0⟩] sc _ => some (e, tg, it, cs, sc)
  | _ => none
theorem asComp_ok {p : PySem.Expr} {x : PySem.Expr × PySem.Expr × PySem.Expr × List PySem.Expr × Scope} (h : asComp p = some x) : ∃ pos, p = .ListComp x.1 [⟨x.2.1, x.2.2.1, x.2.2.2.1, 0⟩] x.2.2.2.2 pos := by
  unfold asComp at h
  split at h <;> cases h
  exact ⟨_, rfl⟩
def isDct0 : PySem.Expr → Bool
  | .Dict [] [] _ => true
  | _ => false
def asDct : PySem.Expr → Option (List (Option PySem.Expr) × List PySem.Expr)
  | .Dict ks vs _ => some (ks, vs)
  | _ => none
theorem asDct_ok {p : PySem.Expr} {x : List (Option PySem.Expr) × List PySem.Expr} (h : asDct p = some x) : ∃ pos, p = .Dict x.1 x.2 pos := by
  cases p <;> simp only [asDct] at h <;> cases h
  exact ⟨_, rfl⟩
/-- keys and values of a display as they come -/
def kvL : List (Option PySem.Expr) → List PySem.Expr → Option (List PySem.Expr)
  | [], [] => some []
  | some k :: ks, v :: vs => (kvL ks vs).map fun l => k :: v :: l
  | _, _ => none
theorem kvL_ok : ∀ {ks : List (Option PySem.Expr)} {vs l : List PySem.Expr}, kvL ks vs = some l → ks.all (·.isSome) = true ∧ ks.length = vs.length
  | [], [], l, h => ⟨rfl, rfl⟩
  | [], _ :: _, l, h => by simp [kvL] at h
  | none :: _, _, l, h => by simp [kvL] at h
  | some _ :: _, [], l, h => by simp [kvL] at h
  | some k :: ks, v :: vs, l, h => by
    simp only [kvL] at h
    obtain ⟨l', h1, _⟩ := Option.map_eq_some_iff.mp h
    obtain ⟨q1, q2⟩ := kvL_ok h1
    exact ⟨by simp only [List.all_cons, Option.isSome_some, q1, Bool.and_self], by simp [q2]⟩
/-- o, as it stands in o.m(..), is no super() -/
def notSup : PySem.Expr → Bool
  | .Call (.Name _ _) [] [] _ => false
  | _ => true
theorem notSup_ok {o : PySem.Expr} (h : notSup o = true) (x : Str) (env : Env) (w : Sem Value) : attributeBase o x env w = w := by
  unfold attributeBase
  split
  · simp [notSup] at h
  · rfl
/-! ### constants -/
def cstB : D → PySem.Const → Bool
  | .non, .none => true
  | .bl b, .bool c => b == c
  | .int i, .int j => i == j
  | .str s, .str z => decide (chS s = z)
  | _, _ => false
def biS : Bi → Str
  | .len => "len"
  | .tuple => "tuple"
  | .list => "list"
  | .abs => "abs"
  | .min => "min"
  | .max => "max"
  | .int => "int"
  | .all => "all"
  | .any => "any"
  | .sorted => "sorted"
  | .sum => "sum"
  | .str => "str"
  | .repr => "repr"
  | .lenset => "len"
  | .sortedset => "sorted"
  | .dict => "dict"
/-- those that are served -/
def biOk : Bi → Bool
  | .len => true
  | .tuple => true
  | .list => true
  | .abs => true
  | .min => true
  | .max => true
  | .int => true
  | .all => true
  | .any => true
  | .sorted => true
  | .repr => true
  | .dict => true
  | .sum => true
  | _ => false
def tySt : Ty → Str
  | .int => "int"
  | .bool => "bool"
  | .str => "str"
  | .tuple => "tuple"
  | .list => "list"
  | .dict => "dict"
/-- the program's facts -/
structure Pr where
  P : Nat → Option Fn
  gl : Nat → D
  fn : Nat → Str
  gn : Nat → Str
  ps : Nat → List Str
  bl : List Str
  gs : List Nat
structure Se where
  sc : Scope
  raw : Scope
/-- a name that is stored -/
def stB (se : Se) (x : Str) : Bool := match se.raw.names.lookup x with
  | some .local => true
  | some .cell => true
  | _ => false
def nmB (N : List Str) (se : Se) (i : Nat) (x : Str) : Bool := decide (N[i]? = some x) && visB se.sc x && !dbg x
def bltB (pr : Pr) (se : Se) (x : Str) : Bool := pr.bl.contains x && glB se.sc x && !dbg x
def mtS : Mt → Str
  | .index => "index"
  | .count => "count"
  | .join => "join"
  | .get => "get"
  | .strip => "strip"
  | .upper => "upper"
  | .split => "split"
  | .find => "find"
  | .endswith => "endswith"
  | .startswith => "startswith"
def mtOk : Mt → Bool
  | .index => true
  | .count => true
  | .join => true
  | .get => true
  | .strip => true
  | .split => true
  | _ => false
def meS : Me → Str
  | .append => "append"
  | .extend => "extend"
  | .pop => "pop"
  | .insert => "insert"
  | .remove => "remove"
  | .reverse => "reverse"
  | .sort => "sort"
  | .setdefault => "setdefault"
  | .update => "update"
/-- a target -/
def mT (N : List Str) (se : Se) : Tg → PySem.Expr → Bool
  | .n i, p => (match asName p with
    | some x => decide (N[i]? = some x) && stB se x
    | none => false)
  | .t2 a b, p => (match asTup p with
    | some [x, y] => mT N se a x && mT N se b y && nst x && nst y
    | _ => false)
  | .t3 a b c, p => (match asTup p with
    | some [x, y, z] => mT N se a x && mT N se b y && mT N se c z && nst x && nst y && nst z
    | _ => false)
  | .t4 a b c d, p => (match asTup p with
    | some [x, y, z, u] => mT N se a x && mT N se b y && mT N se c z && mT N se d u && nst x && nst y && nst z && nst u
    | _ => false)
  | .t5 a b c d e, p => (match asTup p with
    | some [x, y, z, u, w] => mT N se a x && mT N se b y && mT N se c z && mT N se d u && mT N se e w && nst x && nst y && nst z && nst u && nst w
    | _ => false)
def relSe (sc : Scope) (se : Se) : Se := ⟨relS sc se.sc, sc⟩
def ownN (N : List Str) : List Nat → Option (List (Str × Nat))
  | [] => some []
  | i :: r => (N[i]?).bind fun x => (ownN N r).map fun l => (x, i) :: l
/-- the slots of a target -/
def tgSl : Tg → List Nat
  | .n i => [i]
  | .t2 a b => tgSl a ++ tgSl b
  | .t3 a b c => tgSl a ++ tgSl b ++ tgSl c
  | .t4 a b c d => tgSl a ++ tgSl b ++ tgSl c ++ tgSl d
  | .t5 a b c d e => tgSl a ++ tgSl b ++ tgSl c ++ tgSl d ++ tgSl e
def isT2 : Tg → Bool
  | .t2 _ _ => true
  | _ => false
mutual
def mE (pr : Pr) (N : List Str) : Se → E → PySem.Expr → Bool
  | se, .nm i, p => (match asName p with
    | some x => nmB N se i x
    | none => false)
  | se, .mn i, p => (match asName p with
    | some x => nmB N se i x
    | none => false)
  | se, .fz i, p => (match asName p with
    | some x => nmB N se i x
    | none => false)
  | _, .cst d, p => (match asConst p with
    | some c => cstB d c
    | none => false)
  | se, .glo g, p => (match asName p with
    | some x => decide (x = pr.gn g) && pr.gs.contains g && glB se.sc x && !dbg x
    | none => false)
  | se, .bin o a b, p => (match asBin p with
    | some x => decide (x.2.1 = opP o) && mE pr N se a x.1 && mE pr N se b x.2.2
    | none => false)
  | se, .neg a, p => (match asNeg p with
    | some x => mE pr N se a x
    | none => false)
  | se, .cmp o a b, p => (match asCmp1 p with
    | some x => decide (x.2.1 = cmP o) && mE pr N se a x.1 && mE pr N se b x.2.2 && nset x.2.2
    | none => false)
  | se, .chn o o' a b c, p => (match asCmp2 p with
    | some x => decide (x.2.1 = cmP o) && decide (x.2.2.2.1 = cmP o') && mE pr N se a x.1 && mE pr N se b x.2.2.1 && mE pr N se c x.2.2.2.2 && nset x.2.2.2.2
    | none => false)
  | se, .and a b, p => (match asBoolOp p with
    | some x => decide (x.1 = .And) && mE pr N se a x.2.1 && mE pr N se b (restB .And x.2.2.1 x.2.2.2.1 x.2.2.2.2)
    | none => false)
  | se, .or a b, p => (match asBoolOp p with
    | some x => decide (x.1 = .Or) && mE pr N se a x.2.1 && mE pr N se b (restB .Or x.2.2.1 x.2.2.2.1 x.2.2.2.2)
    | none => false)
  | se, .not a, p => (match asNot p with
    | some x => mE pr N se a x
    | none => false)
  | se, .ite c a b, p => (match asIf p with
    | some x => mE pr N se c x.1 && mE pr N se a x.2.1 && mE pr N se b x.2.2
    | none => false)
  | se, .tup es, p => (match asTup p with
    | some x => mEs pr N se es x && decide (x.length ≤ 1000)
    | none => false)
  | se, .lst es, p => (match asLst p with
    | some x => mEs pr N se es x && decide (x.length ≤ 1000)
    | none => false)
  | _, .dct0, p => isDct0 p
  | se, .dct es, p => (match asDct p with
    | some (ks, vs) => (match kvL ks vs with
      | some l => mEs pr N se es l && decide (ks ≠ []) && decide (ks.length ≤ 15)
      | none => false)
    | none => false)
  | _, .any, _ => true
  | se, .lset a, p => (match asCall p with
    | some (f, [x]) => (match asCall x with
      | some (f', [y]) => decide (f = "len") && decide (f' = "set") && bltB pr se "len" && bltB pr se "set" && mE pr N se a y && nst y
      | _ => false)
    | _ => false)
  | se, .sset a, p => (match asCall p with
    | some (f, [x]) => (match asCall x with
      | some (f', [y]) => decide (f = "sorted") && decide (f' = "set") && bltB pr se "sorted" && bltB pr se "set" && mE pr N se a y && nst y
      | _ => false)
    | _ => false)
  | _, .rpne _ _, _ => false
  | se, .ix a i, p => (match asSub p with
    | some x => mE pr N se a x.1 && mE pr N se i x.2 && nsl x.2
    | none => false)
  | se, .sl a lo hi, p => (match asSlc p with
    | some x => mE pr N se a x.1 && mEo pr N se lo x.2.1 && mEo pr N se hi x.2.2
    | none => false)
  | se, .rv a, p => (match asRv p with
    | some x => mE pr N se a x
    | none => false)
  | se, .isi a t, p => (match asCall p with
    | some (f, [x, y]) => decide (f = "isinstance") && bltB pr se "isinstance" && mE pr N se a x && decide (asName y = some (tySt t)) && bltB pr se (tySt t) && nst x
    | _ => false)
  | se, .isi2 a t u, p => (match asCall p with
    | some (f, [x, y]) => (match asTup y with
      | some [y1, y2] => decide (f = "isinstance") && bltB pr se "isinstance" && mE pr N se a x && decide (asName y1 = some (tySt t)) && bltB pr se (tySt t) && decide (asName y2 = some (tySt u)) && bltB pr se (tySt u) && nst x
      | _ => false)
    | _ => false)
  | se, .bi f es, p => (match asCall p with
    | some x => decide (x.1 = biS f) && biOk f && bltB pr se (biS f) && mEs pr N se es x.2 && decide (x.2 ≠ [])
    | none => false)
  | se, .lrng es, p => (match asCall p with
    | some (f, [x]) => (match asCall x with
      | some (f', ps) => decide (f = "list") && bltB pr se "list" && decide (f' = "range") && bltB pr se "range" && mEs pr N se es ps && decide (ps ≠ []) && nst x
      | none => false)
    | _ => false)
  | se, .call f es, p => (match asCall p with
    | some x => decide (x.1 = pr.fn f) && glB se.sc (pr.fn f) && !dbg (pr.fn f) && mEs pr N se es x.2 && decide (x.2.length = (pr.ps f).length) && decide (x.2 ≠ []) && (pr.P f).isSome
    | none => false)
  | se, .callN f e, p => (match asCall p with
    | some (f', [q]) => decide (f' = pr.fn f) && glB se.sc (pr.fn f) && !dbg (pr.fn f) && mE pr N se e q && nst q && decide ((pr.ps f).length = 1) && (pr.P f).isSome
    | _ => false)
  | se, .mth m o es, p => (match asMth p with
    | some x => decide (x.2.1 = mtS m) && mtOk m && notSup x.1 && mE pr N se o x.1 && mEs pr N se es x.2.2 && decide (x.2.2 ≠ []) && decide (x.2.2.length < 25)
    | none => false)
  | se, .eff m i es, p => (match asMth p with
    | some x => decide (x.2.1 = meS m) && (match asName x.1 with
      | some y => nmB N se i y
      | none => false) && mEs pr N se es x.2.2 && decide (x.2.2.length < 25)
    | none => false)
  | se, .comp elt tg it cs own, p => (match asComp p with
    | some x => (match ownN N own with
      | some on => blkC N se.sc x.2.2.2.2 on && mE pr N (relSe x.2.2.2.2 se) elt x.1 && mT N (relSe x.2.2.2.2 se) tg x.2.1 && mIt pr N se tg it x.2.2.1 && mCs pr N (relSe x.2.2.2.2 se) cs x.2.2.2.1 && (tgSl tg).all own.contains && decide (x.2.2.2.1.length ≤ 1) && nset x.2.2.1
      | none => false)
    | none => false)
  | se, .compk elt tg i cs own, p => (match asComp p with
    | some x => (match ownN N own with
      | some on => blkC N se.sc x.2.2.2.2 on && mE pr N (relSe x.2.2.2.2 se) elt x.1 && mT N (relSe x.2.2.2.2 se) tg x.2.1 && (match asName x.2.2.1 with
        | some y => nmB N se i y
        | none => false) && mCs pr N (relSe x.2.2.2.2 se) cs x.2.2.2.1 && (tgSl tg).all own.contains && decide (x.2.2.2.1.length ≤ 1) && nset x.2.2.1
      | none => false)
    | none => false)
def mEs (pr : Pr) (N : List Str) : Se → Es → List PySem.Expr → Bool
  | _, .nil, ps => (match ps with
    | [] => true
    | _ => false)
  | se, .cons e es, ps => (match ps with
    | p :: r => mE pr N se e p && nst p && mEs pr N se es r
    | [] => false)
def mCs (pr : Pr) (N : List Str) : Se → Es → List PySem.Expr → Bool
  | _, .nil, ps => (match ps with
    | [] => true
    | _ => false)
  | se, .cons e es, ps => (match ps with
    | p :: r => mE pr N se e p && mCs pr N se es r
    | [] => false)
def mEo (pr : Pr) (N : List Str) : Se → Eo → Option PySem.Expr → Bool
  | _, .none, p => (match p with
    | none => true
    | some _ => false)
  | se, .some e, p => (match p with
    | some p => mE pr N se e p
    | none => false)
def mIt (pr : Pr) (N : List Str) : Se → Tg → It → PySem.Expr → Bool
  | se, _, .seq e, p => mE pr N se e p && nset p
  | se, _, .rng es, p => (match asCall p with
    | some x => decide (x.1 = "range") && bltB pr se "range" && mEs pr N se es x.2 && decide (x.2 ≠ [])
    | none => false)
  | se, tg, .zip a b, p => (match asCall p with
    | some (f, [x, y]) => decide (f = "zip") && bltB pr se "zip" && mE pr N se a x && mE pr N se b y && nst x && nst y && isT2 tg
    | _ => false)
  | se, _, .rev e, p => (match asCall p with
    | some (f, [x]) => decide (f = "reversed") && bltB pr se "reversed" && mE pr N se e x && nst x
    | _ => false)
  | se, _, .rrng es, p => (match asCall p with
    | some (f, [x]) => (match asCall x with
      | some (f', ps) => decide (f = "reversed") && bltB pr se "reversed" && decide (f' = "range") && bltB pr se "range" && mEs pr N se es ps && decide (ps ≠ []) && nst x
      | none => false)
    | _ => false)
  | se, tg, .enu e, p => (match asCall p with
    | some (f, [x]) => decide (f = "enumerate") && bltB pr se "enumerate" && mE pr N se e x && nst x && isT2 tg
    | _ => false)
  | _, _, _, _ => false
end
/-- statements of one form -/
def asAsg : PySem.Stmt → Option (PySem.Expr × PySem.Expr × Nat)
  | .Assign [t] e pos => some (t, e, pos.line)
  | _ => none
theorem asAsg_ok {p : PySem.Stmt} {x : PySem.Expr × PySem.Expr × Nat} (h : asAsg p = some x) : ∃ pos, p = .Assign [x.1] x.2.1 pos ∧ x.2.2 = pos.line := by
  unfold asAsg at h
  split at h <;> cases h
  exact ⟨_, rfl, rfl⟩
def asExpr : PySem.Stmt → Option PySem.Expr
  | .Expr e _ => some e
  | _ => none
theorem asExpr_ok {p : PySem.Stmt} {x : PySem.Expr} (h : asExpr p = some x) : ∃ pos, p = .Expr x pos := by
  cases p <;> simp only [asExpr] at h <;> cases h
  exact ⟨_, rfl⟩
def asRet : PySem.Stmt → Option (Option PySem.Expr)
  | .Return e _ => some e
  | _ => none
theorem asRet_ok {p : PySem.Stmt} {x : Option PySem.Expr} (h : asRet p = some x) : ∃ pos, p = .Return x pos := by
  cases p <;> simp only [asRet] at h <;> cases h
  exact ⟨_, rfl⟩
def asIfS : PySem.Stmt → Option (PySem.Expr × List PySem.Stmt × List PySem.Stmt)
  | .If c a b _ => some (c, a, b)
  | _ => none
theorem asIfS_ok {p : PySem.Stmt} {x : PySem.Expr × List PySem.Stmt × List PySem.Stmt} (h : asIfS p = some x) : ∃ pos, p = .If x.1 x.2.1 x.2.2 pos := by
  cases p <;> simp only [asIfS] at h <;> cases h
  exact ⟨_, rfl⟩
def asFor : PySem.Stmt → Option (PySem.Expr × PySem.Expr × List PySem.Stmt)
  | .For t i b [] _ => some (t, i, b)
  | _ => none
theorem asFor_ok {p : PySem.Stmt} {x : PySem.Expr × PySem.Expr × List PySem.Stmt} (h : asFor p = some x) : ∃ pos, p = .For x.1 x.2.1 x.2.2 [] pos := by
  unfold asFor at h
  split at h <;> cases h
  exact ⟨_, rfl⟩
def asWhl : PySem.Stmt → Option (PySem.Expr × List PySem.Stmt)
  | .While c b [] _ => some (c, b)
  | _ => none
theorem asWhl_ok {p : PySem.Stmt} {x : PySem.Expr × List PySem.Stmt} (h : asWhl p = some x) : ∃ pos, p = .While x.1 x.2 [] pos := by
  unfold asWhl at h
  split at h <;> cases h
  exact ⟨_, rfl⟩
def asAug : PySem.Stmt → Option (PySem.Expr × Operator × PySem.Expr)
  | .AugAssign t o e _ => some (t, o, e)
  | _ => none
theorem asAug_ok {p : PySem.Stmt} {x : PySem.Expr × Operator × PySem.Expr} (h : asAug p = some x) : ∃ pos, p = .AugAssign x.1 x.2.1 x.2.2 pos := by
  cases p <;> simp only [asAug] at h <;> cases h
  exact ⟨_, rfl⟩
end Ev

set_option linter.all false
set_option autoImplicit false
set_option Elab.async false
set_option maxRecDepth 100000
set_option maxHeartbeats 4000000
/-! EvG0: a def's promise where no guard is under way (so that repr can be told). -/
namespace Ev
open PySem PySem.Spec L2 PyProof.Rows
structure FnG (P : Program) (w : World) (K : PySem.W.Frag) (mg : Str → Option Value) (base : Heap) (lv : Nat) (f : Addr) (fd : FuncData) (ps : List Str) (sp : Sp) : Prop where
  size : ∀ vs H Q E, sp vs H Q E → vs.length = ps.length
  go : ∀ (A : Around) (fr : List Env) (s : Shared) (H : Hp) (ar : Args) (us : List Value) (vs : List V) (Q : VK) (E : XK), A.guards = some [] → Room lv A → Env0 P w K mg base A fr s H → BindsTo s fd ar (ps.zip us) → Vals vs us → sp vs H Q E →
    codeAny (model P w) A (.call (.ref f) ar) (CR CX0 fr P w H s Q E) s
section
variable {X : Cx} {lv : Nat} {f : Addr} {fd : FuncData} {ps : List Str} {sp : Sp} {E : XK} {x : Str} {p pos : Pos} {e : PySem.Expr} {es : List PySem.Expr} {t : TA}
theorem fnG_runs {pins : List (Addr × Obj)} {σ : L2.St} {H : Hp} {s : Shared} {Q : VK} {us : List Value} {vs : List V} (F : FnG X.prog X.w X.K X.mg X.base lv f fd ps sp) (g0 : X.A.guards = some []) (room : Room lv X.A) (bd : Binds X.K fd ps [])
    (I : Inv X pins σ H s) (rv : Vals vs us) (q : sp vs H Q E) : wpAny (model X.prog X.w) X.A (call (.ref f) us) (EP X pins σ Q) X.xe s := by
  have n : (us ++ ([] : List Value)).length = ps.length := by rw [List.append_nil, ← rv.length]; exact F.size _ _ _ _ q
  have b := bd s us I.kIn n
  rw [List.append_nil] at b
  refine wpAny_call (codeAny_mono (F.go X.A X.stack s H ⟨us, []⟩ us vs Q E g0 room I.env0 b rv q) fun r s' z => ?_)
  match r, z with
  | .error _, z => exact z.elim
  | .ok (.ret _), z => exact I.after z
  | .ok .next, z => exact z.elim
  | .ok .brk, z => exact z.elim
  | .ok .cont, z => exact z.elim
theorem pe_callG (F : FnG X.prog X.w X.K X.mg X.base lv f fd ps sp) (g0 : X.A.guards = some []) (room : Room lv X.A) (gl : Gl X x) (at_ : X.mg x = some (.ref f)) (kp : PySem.W.keepIn X.K (.ref f) = true) (bd : Binds X.K fd ps [])
    (ha : PA X (e :: es) t) (nd : (x == ("__debug__" : Str)) = false) (h1 : starEach (e :: es) X.env = (false, eval e X.env) :: starEach es X.env) (h2 : (backTo pos (starEach es X.env)).any (·.1) = false) :
    PE X (.Call (.Name x p) (e :: es) [] pos) (fun σ H Q => t σ H fun vs H1 => sp vs H1 Q E) :=
  ⟨fun pins s σ H Q I q => wpAny_Call_Name_kw (ld_glob I gl at_ (PySem.W.callWith_K (h₀ := X.base) I.ok.mod.kin kp (thn (ha.run pos pins s σ H _ I q) fun us s1 ⟨vs, H1, I1, rv, q1⟩ => ⟨I1.kIn, fnG_runs F g0 room bd I1 rv q1⟩) h1 h2) nd)⟩
end
section
variable {P : Program} {w : World} {K : PySem.W.Frag} {mg : Str → Option Value} {base : Heap} {x qual : Str} {params : Arguments} {body : List PySem.Stmt} {scope : Scope} {f : Addr} {fd : FuncData}
theorem fnG_of {N ps : List Str} {lv : Nat} {sp : Sp} (F : FunD K x qual params body scope [] [] f fd) (S : FnScope N ps scope) (size : ∀ vs H Q E, sp vs H Q E → vs.length = ps.length)
    (hb : ∀ (cdv : Value) (A : Around) (fr : List Env) (s : Shared) (H : Hp) (vs : List V) (Q : VK) (E : XK), A.guards = some [] → Room lv (A.deeper (envOfC qual scope s.heap.objs.size f cdv)) → sp vs H Q E →
      ∃ t, PSs (cxOf CX0 P w K mg base N qual scope f cdv A fr s H E) body t ∧ t { nx := fun _ H' => Q .non H', rt := Q } (L2.start N vs) H) : FnG P w K mg base (lv + 1) f fd ps sp := by
  obtain ⟨oc, od, dV, kV, doc, pm, an, cdv, ct, osl, rfl, lk, code, _, _⟩ := F.ex
  refine ⟨size, fun A fr s H ar us vs Q E g0 room e0 bd rv q => ?_⟩
  have old : ∀ b o, base.get? b = some o → s.heap.get? b = some o := fun b o e => (e0.bs b o e).1
  have KX : K.In s.heap := e0.mod.kin.keeps old
  have bound : ∀ y ∈ ps.zip us, scope.names.lookup y.1 = some .local ∨ (scope.names.lookup y.1 = some .cell ∧ ((cellsFrom (s.heap.objs.size + 1) scope.names []).lookup y.1).isSome = true) := by
    rintro ⟨n, v⟩ hy
    exact (S.par n (List.of_mem_zip hy).1).imp id fun z => ⟨z, PySem.W.cellsFrom_some _ _ _ (.inl z)⟩
  refine codeAny_call_function room.depth (KX _ _ lk) rfl S.co S.gen rfl (PySem.W.codeRec_of KX code) (bd _ _ _ _ (wpAny_newFunctionEnv_cells S.kind bound fun env he s1 made => ?_))
  subst he
  refine ⟨(e0.mod.nolimit.keeps old).keeps made.toInCall.keep, codeAny_func ?_⟩
  obtain ⟨t, ht, qt⟩ := hb cdv A fr s H vs Q E g0 (room.deeper _) q
  have I : Inv (cxOf CX0 P w K mg base N qual scope f cdv A fr s H E) [] (L2.start N vs) H s1 := inv_start S room.hd e0 (size _ _ _ _ q) rv made
  refine wpAny_mono (ht.run [] s1 (L2.start N vs) H _ I qt) (fun fl s' z => ?_) fun e s' z => z
  match fl, z with
  | .ret u, ⟨v, σ', H', J, r, z⟩ => exact ⟨v, H', J.os, J.bare, J.base, J.hok, r, z⟩
  | .next, ⟨σ', H', J, z⟩ => exact ⟨.non, H', J.os, J.bare, J.base, J.hok, rfl, z⟩
  | .brk, ⟨_, _, _, z⟩ => exact z.elim
  | .cont, ⟨_, _, _, z⟩ => exact z.elim
end
/-! the law's end -/
theorem lawG_at {P : Program} {w : World} {K : PySem.W.Frag} {mg mb : Str → Option Value} {lv : Nat} {fa a : Addr} {fd : FuncData} {x : Str} {sp : Sp} {s : Shared} {ob : Obj} {H : Hp}
    (KX : K.In s.heap) (gl : s.heap.Ns mainGlobals mg) (bn : s.heap.Ns builtinsNs mb) (bb : ∀ x : Str, x ≠ "__name__" → mb x = bootBuiltins x) (lim : s.heap.NoLimit) (gs : s.gens = #[])
    (ha : s.heap.get? a = some ob) (nd : ∀ es ep, ob.data ≠ .dict es ep) (room : Room lv callerA) (F : ∀ base : Heap, K.In base → base.Ns mainGlobals mg → FnG P w K mg base lv fa fd [x] sp) (bd : BindsTo s fd ⟨[.ref a], []⟩ [(x, .ref a)])
    (O : Only H) (hok : HOk P w H s.heap) (hA : ∀ b, H b ≠ none → b = a) (hK : H a ≠ none → K.lookup a = none) (q : sp [.ref a] H (fun v _ => v = .bl true) fun _ _ _ => False) :
    codeAny (model P w) callerA (.call (.ref fa) ⟨[.ref a], []⟩) (fun r s' => r = .ok (.ret (.bool true)) ∧ OldK s.heap s'.heap ∧ s'.os = s.os ∧ AllBare s'.gens) s := by
  have no : ∀ {b : Addr} {o : Obj} {es : Array DictEntry} {ep : Nat}, s.heap.get? b = some o → o.data = .dict es ep → H b = none := by
    intro b o es ep e d
    refine Classical.byContradiction fun z => ?_
    have e' := hA b z
    subst e'
    rw [ha] at e
    cases e
    exact nd es ep d
  have kK : K.In (hidT s.heap H) := fun b o e => hidT_get (KX b o e) (Classical.byContradiction fun z => by
    have e' := hA b z
    subst e'
    rw [hK z] at e
    cases e)
  have ns : ∀ {b : Addr} {m : Str → Option Value}, s.heap.Ns b m → (hidT s.heap H).Ns b m := fun ⟨o, es, ep, e, d, r⟩ => ⟨o, es, ep, hidT_get e (no e d), d, r⟩
  have M : Mod K mg (hidT s.heap H) := ⟨kK, ns gl, ⟨mb, ns bn, bb⟩, lim.imp fun mc z => ⟨ns z.1, z.2⟩⟩
  have none' : ∀ b, b ∉ frs ([] : List Env) := fun b z => by simp [frs] at z
  have e0 : Env0 P w K mg (hidT s.heap H) callerA [] s H := ⟨rfl, M, fun b o e => of_hidT e, Nat.le_of_eq (hidT_size _ _), trivial, fun b z => absurd z (none' b), hok, .of_eq gs⟩
  refine codeAny_mono ((F _ kK (ns gl)).go callerA [] s H _ [.ref a] [.ref a] _ _ rfl room e0 bd (.cons rfl .nil) q) fun r s' z => ?_
  match r, z with
  | .error _, z => exact z.elim
  | .ok .next, z => exact z.elim
  | .ok .brk, z => exact z.elim
  | .ok .cont, z => exact z.elim
  | .ok (.ret u), ⟨v, H', os, bare, un, hok', rv, ev⟩ =>
    subst ev
    obtain rfl : u = Value.bool true := rv
    refine ⟨rfl, OldK.of_keep fun b o e => ?_, os, bare⟩
    rcases O b with z | ⟨o2, xs, z⟩
    · exact un.keep b o e z (none' b) (by simp)
    · have i1 := (hok b _ z).1
      have i2 := (hok' b _ (un.frzs b o2 _ z)).1
      rw [e] at i1
      cases i1
      exact i2
theorem walkG {l : PySem.W.OpenLaw} {n lv : Nat} {q : Program} {loose : List Str} {XP : (Str → Option Value) → Heap → Prop} {YP : World → Heap → Prop} {d : DefRec} {x : Str}
    (most : l.most = some n) (n2 : n ≤ sizeLine) (dfl : d.params.defaults = []) (room : Room lv callerA)
    (F : ∀ (w : World) (mg : Str → Option Value) (fa : Addr) (h : Heap), YP w h → h.Ns mainGlobals mg → mg d.name = some (.ref fa) →
      ∃ (K : PySem.W.Frag) (fd : FuncData) (sp : Sp), K.In h ∧ (∀ (s : Shared) (u : Value), BindsTo s fd ⟨[u], []⟩ [(x, u)]) ∧
        (∀ (H : Hp) (a : Addr) (ns : List Int), ns.length ≤ n → Only H → SqL K H a (ns.map V.int) → sp [.ref a] H (fun v _ => v = .bl true) fun _ _ _ => False) ∧
        ∀ base : Heap, K.In base → base.Ns mainGlobals mg → FnG l.prog w K mg base lv fa fd [x] sp) :
    PySem.W.WalkO q loose XP YP l.row.toRowW d [] (fun f vs => PySem.call f vs) := by
  refine Att.attach_call most dfl fun w s₀ s mg mb fa o pm cd doc a vs ns G Y ho hd hcd hmg obj nts len gs => ?_
  obtain ⟨K, fd, sp, KX, bd, hsp, hF⟩ := F w mg fa _ Y G.T.g hmg
  have rv : Vals (ns.map V.int) vs := vals_ints nts
  have lv' := nts.length
  have hl : (ns.map V.int).length ≤ sizeLine := by rw [List.length_map]; exact Nat.le_trans len n2
  have nd : ∀ es ep, ({ cls := .type "list", data := .seq vs.toArray } : Obj).data ≠ .dict es ep := fun es ep z => by cases z
  have at_ : ∀ H : Hp, Only H → SqL K H a (ns.map V.int) → HOk l.prog w H s.heap → (∀ b, H b ≠ none → b = a) → (H a ≠ none → K.lookup a = none) → _ := fun H O S hok hA hK =>
    lawG_at (ob := { cls := .type "list", data := .seq vs.toArray }) KX G.T.g G.T.b G.T.builtins G.T.nolimit gs obj nd room hF (bd s _) O hok hA hK (hsp H a ns len O S)
  by_cases hk : K.lookup a = none
  · let ob : Obj := { cls := .type "list", data := .seq vs.toArray }
    have i1 : (upd (fun _ => none) a (.frz ob (.lst (ns.map V.int))) : Hp) a = some (.frz ob (.lst (ns.map V.int))) := upd_same
    have i2 : ∀ b, b ≠ a → (upd (fun _ => none) a (.frz ob (.lst (ns.map V.int))) : Hp) b = none := fun b z => upd_ne z
    refine at_ (upd (fun _ => none) a (.frz ob (.lst (ns.map V.int)))) (fun b => ?_) (.inl (.inr ⟨ob, i1⟩)) (fun b u z => ?_) (fun b z => Classical.byContradiction fun y => z (i2 b y)) fun _ => hk
    · by_cases z : b = a
      · subst z; exact .inr ⟨_, _, i1⟩
      · exact .inl (i2 b z)
    · by_cases y : b = a
      · subst y
        rw [i1] at z
        cases z
        exact ⟨obj, hl, vs, _, rv, obj⟩
      · rw [i2 b y] at z
        cases z
  · obtain ⟨o', hk'⟩ := Option.ne_none_iff_exists'.mp hk
    have e := KX a o' hk'
    rw [obj] at e
    cases e
    refine at_ (fun _ => none) (fun _ => .inl rfl) (.inr ⟨_, vs.toArray, _, hk', rfl, rfl, rfl, ?_, by simpa using rv⟩) (fun b u z => nomatch z) (fun b z => absurd rfl z) fun z => absurd rfl z
    rw [List.size_toArray, ← rv.length]
    exact hl
end Ev

set_option linter.all false
set_option autoImplicit false
set_option Elab.async false
set_option maxRecDepth 100000
set_option maxHeartbeats 4000000
/-! EvG: expressions. -/
namespace Ev
open PySem PySem.Spec L2
def psL (pr : Pr) (f : Nat) : List Str := pr.ps f
/-- the arguments of a call -/
def AR (K : KW) (Fz : Addr → Prop) (H : Hp) : List Sl → List V → Prop
  | [], vs => vs = []
  | s :: ss, vs => ∃ v r, vs = v :: r ∧ (match s with
      | .none => False
      | .v d => Rep K Fz H d v
      | .ml xs => ∃ a ws, v = .ref a ∧ H a = some (.lst ws) ∧ RepL K Fz H xs ws ∧ ¬ Fz a
      | .mk kvs => ∃ a es, v = .ref a ∧ H a = some (dO K.w a es) ∧ KysR K H (kvs.map (·.1)) (es.map (·.1)) ∧ RepL K Fz H (kvs.map (·.2)) (es.map (·.2)) ∧ ¬ Fz a) ∧ AR K Fz H ss r
/-- the objects that a call may change -/
def muA : List Sl → List V → List Addr
  | s :: ss, v :: vs => (match isMut s, v with
    | true, .ref a => [a]
    | _, _ => []) ++ muA ss vs
  | _, _ => []
def OutR (K : KW) (Fz : Addr → Prop) (H : Hp) : List Sl → List Addr → Prop
  | [], as => as = []
  | s :: ss, as => ∃ a r, as = a :: r ∧ (match s with
      | .ml xs => ∃ ws, H a = some (.lst ws) ∧ RepL K Fz H xs ws
      | .mk kvs => ∃ es, H a = some (dO K.w a es) ∧ KysR K H (kvs.map (·.1)) (es.map (·.1)) ∧ RepL K Fz H (kvs.map (·.2)) (es.map (·.2))
      | _ => False) ∧ OutR K Fz H ss r
def RetO (K : KW) (Fz : Addr → Prop) (H0 H : Hp) : Opd → V → Prop
  | .val d, v => Rep K Fz H d v
  | .slot _, _ => False
  | .new xs, v => ∃ a vs, v = .ref a ∧ H0 a = none ∧ H a = some (.lst vs) ∧ RepL K Fz H xs vs ∧ ¬ Fz a
  | .newd kvs, v => ∃ a es, v = .ref a ∧ H0 a = none ∧ H a = some (dO K.w a es) ∧ KysR K H (kvs.map (·.1)) (es.map (·.1)) ∧ RepL K Fz H (kvs.map (·.2)) (es.map (·.2)) ∧ ¬ Fz a
/-- what a def promises: what the evaluator gives -/
def spF (K : KW) (pr : Pr) (k : Nat) (f : Nat) : Sp := fun vs H Q _ => vs.length = (pr.ps f).length ∧ ∃ (as : List Sl) (Fz : Addr → Prop) (r : Opd) (os : List Sl),
  evF pr.P pr.gl k f as = some (r, os) ∧ AR K Fz H as vs ∧ (muA as vs).Nodup ∧ (∀ a, Fz a → ∃ o, H a = some o) ∧
  ∀ v H' Fz', (∀ a o, H a = some o → a ∉ muA as vs → H' a = some o) → (∀ a, H a ≠ none → H' a ≠ none) → (∀ a, Fz a → Fz' a) → (∀ a, Fz' a → Fz a ∨ H a = none) → (∀ a, Fz' a → ∃ o, H' a = some o) →
    RetO K Fz' H H' r v → OutR K Fz' H' os (muA as vs) → Q v H'
structure Good (pr : Pr) (lv : Nat) (N : List Str) (se : Se) (X : Cx) : Prop where
  calm : X.calm = true
  nd : N.Nodup
  eN : X.N = N
  esc : X.env.scope = se.sc
  raw : ∀ x k, k ≠ NameKind.free → se.raw.names.lookup x = some k → se.sc.names.lookup x = some k
  fnc : ∀ x, se.raw.names.lookup x = some .cell → X.fn x = true
  room : Room lv X.A
  guard : X.A.guards = some []
  xe : X.xe = fun _ _ => False
  calls : ∀ f fn, pr.P f = some fn → ∃ a fd, X.mg (pr.fn f) = some (.ref a) ∧ PySem.W.keepIn X.K (.ref a) = true ∧ Binds X.K fd (pr.ps f) [] ∧ FnG X.prog X.w X.K X.mg X.base lv a fd (pr.ps f) (spF (kwX X) pr lv f)
  globs : ∀ g, g ∈ pr.gs → ∃ u v, X.mg (pr.gn g) = some u ∧ RelV v u ∧ ∀ Fz H, Rep (kwX X) Fz H (pr.gl g) v
  blt : ∀ x, x ∈ pr.bl → X.mg x = none
def cfg (pr : Pr) (lv np fu : Nat) : Cfg := ⟨evF pr.P pr.gl lv, mpsOf pr.P, pr.gl, np, fu⟩
section
variable {pr : Pr} {lv np fu : Nat} {N : List Str} {se : Se} {X : Cx} {g : Gc}
theorem Good.gl (G : Good pr lv N se X) {x : Str} (h : glB se.sc x = true) : Gl X x := by
  unfold glB at h
  show X.env.scope.names.lookup x = some .globalImplicit
  rw [G.esc]
  split at h
  · assumption
  · cases h
theorem dbg_no {x : Str} (h : (!dbg x) = true) : (x == ("__debug__" : Str)) = false ∧ (x == ("__classdict__" : Str)) = false ∧ x ≠ "__name__" := by
  unfold dbg at h
  simp only [Bool.not_eq_true', Bool.or_eq_false_iff] at h
  exact ⟨h.1.1, h.1.2, by have := h.2; exact beq_eq_false_iff_ne.mp this⟩
theorem Good.var (G : Good pr lv N se X) {i : Nat} {x : Str} (h : nmB N se i x = true) (pos : Pos) : PE X (.Name x pos) (tVar i) := by
  unfold nmB at h
  simp only [Bool.and_eq_true, decide_eq_true_eq] at h
  obtain ⟨⟨h1, h2⟩, h3⟩ := h
  obtain ⟨d1, d2, d3⟩ := dbg_no h3
  exact pe_var (by rw [G.eN]; exact h1) (by rw [G.esc]; exact visB_ok h2) d1 d2
theorem Good.blk (G : Good pr lv N se X) (s : Shared) (H : Hp) (scope : Scope) (C : Addr) (cl : List (Str × Addr)) (fp : List Addr) : Good pr lv N (relSe scope se) (X.blk s H scope (compEnvC scope cl C X.env) fp) where
  calm := G.calm
  nd := G.nd
  eN := G.eN
  esc := by
    show relabel scope X.env = relS scope se.sc
    rw [← G.esc]; rfl
  raw := fun x k hk h => lookup_relS_keep hk h
  fnc := fun x h => by
    show (scope.names.lookup x == some .cell) = true
    have h' : scope.names.lookup x = some .cell := h
    rw [h']; rfl
  room := G.room
  guard := G.guard
  xe := rfl
  calls := G.calls
  globs := G.globs
  blt := G.blt
/-! ### leaves -/
variable (K : (kwX X) = g.K) (G : Good pr lv N se X)
theorem tB_of {m : SD → Option (Opd × SD)} {σ : L2.St} {H : Hp} {Q : Bool → Hp → Prop} (h : tRT g (fun sd => (m sd).bind fun x => (boolO x.1).map fun b => (b, x.2)) σ H Q) : tB (tR g m) σ H Q := by
  obtain ⟨sd, Fz, b, sd', S, e, k⟩ := h
  obtain ⟨x, e1, e⟩ := Option.bind_eq_some_iff.mp e
  obtain ⟨c, e2, e3⟩ := Option.map_eq_some_iff.mp e
  cases e3
  refine ⟨sd, Fz, x.1, x.2, S, e1, fun v H' Fz' S' E r => ?_⟩
  cases hx : x.1 with
  | val d =>
    rw [hx] at e2 r
    cases d <;> simp only [boolO] at e2 <;> try (cases e2; done)
    cases e2
    have r : Rep g.K Fz' H' (.bl _) v := r
    simp only [Rep] at r
    exact ⟨_, r, k H' Fz' S' E⟩
  | slot i => rw [hx] at e2; cases e2
  | new xs => rw [hx] at e2; cases e2
  | newd xs => rw [hx] at e2; cases e2
/-- an expression and then another one -/
theorem tR_bind {ta : TE} {m : SD → Option (Opd × SD)} {σ : L2.St} {H : Hp} {R : VK} (hta : ta = tR g m) {sd : SD} {Fz : Addr → Prop} {o : Opd} {sd' : SD} (S : SRel g sd σ H Fz) (e : m sd = some (o, sd'))
    (k : ∀ v H' Fz', SRel g sd' σ H' Fz' → Ext sd σ H Fz sd' H' Fz' → RepO g sd' σ H H' Fz' o v → R v H') : ta σ H R := by
  subst hta
  exact ⟨sd, Fz, o, sd', S, e, k⟩
end
end Ev

set_option linter.all false
set_option autoImplicit false
set_option Elab.async false
set_option maxRecDepth 100000
set_option maxHeartbeats 4000000
/-! EvH: one rule of the evaluator for each form of expression. -/
namespace Ev
open PySem PySem.Spec L2
theorem OpR.ex {X : Cx} {f : Value → Value → Sem Value} {α : Type} {r : α → R2} (h : ∀ a, OpR X f (r a)) : OpR X f (fun x y H Q => ∃ a, r a x y H Q) :=
  fun pins s σ H x y v u Q I rx ry ⟨a, q⟩ => h a pins s σ H x y v u Q I rx ry q
theorem IxR.ex {X : Cx} {α : Type} {r : α → R2} (h : ∀ a, IxR X (r a)) : IxR X (fun x y H Q => ∃ a, r a x y H Q) :=
  fun value slice pins s σ H x y v u Q I rx ry ⟨a, q⟩ => h a value slice pins s σ H x y v u Q I rx ry q
theorem SlR.ex {X : Cx} {α : Type} {r : α → V → Option Int → Option Int → Hp → VK → Prop} (h : ∀ a, SlR X (r a)) : SlR X (fun x lo hi H Q => ∃ a, r a x lo hi H Q) :=
  fun pins s σ H x v vl vu lo hi sl Q I rx hs pl pu ⟨a, q⟩ => h a pins s σ H x v vl vu lo hi sl Q I rx hs pl pu q
theorem CallR.ex {X : Cx} {f : Value} {α : Type} {r : α → List V → Hp → VK → Prop} (h : ∀ a, CallR X f (r a)) : CallR X f (fun xs H Q => ∃ a, r a xs H Q) :=
  fun pins s σ H xs us Q I r ⟨a, q⟩ => h a pins s σ H xs us Q I r q
section
variable {g : Gc} {sd sd' sd1 sd2 sd0 : SD} {σ : L2.St} {H H' H0 H1 H2 : Hp} {Fz Fz' Fz1 Fz2 : Addr → Prop}
theorem Ext.back (x : Ext sd σ H Fz sd' H' Fz') : ∀ a, H' a = none → H a = none := fun a h => by
  cases q : H a with
  | none => rfl
  | some o => exact absurd h (x.there a (by rw [q]; exact Option.some_ne_none o))
/-- behind an operation -/
theorem Res.fin (S : SRel g sd1 σ H1 Fz1) (E : Ext sd σ H Fz sd1 H1 Fz1) {o : Opd} {Q : VK} (k : ∀ v H' Fz', SRel g sd1 σ H' Fz' → Ext sd σ H Fz sd1 H' Fz' → RepO g sd1 σ H H' Fz' o v → Q v H') : Res g.K Fz1 H1 o Q :=
  fun v H' gr ro => k v H' Fz1 (S.grow gr) (E.trans gr.ext) ((ResO.rep S gr ro).start E.back)
end
section
variable {X : Cx} {g : Gc} {C : Cfg} {pr : Pr} {lv : Nat} {N : List Str} {se : Se}
theorem s_bin {a b : E} {l r : PySem.Expr} {pos : Pos} (o : Op) (hK : g.K = (kwX X)) (ha : PE X l (tR g (evE C a))) (hb : PE X r (tR g (evE C b))) : PE X (.BinOp l (opP o) r pos) (tR g (evE C (.bin o a b))) := by
  obtain ⟨gK, gHe, gFz0, gmp, gnp⟩ := g
  obtain rfl : gK = (kwX X) := hK
  refine PE.to (pe_op (OpR.ex fun Fz => or_bin (Fz := Fz) o) ha hb) fun σ H Q ⟨sd, Fz, o', sd', S, e, k⟩ => ?_
  simp only [evE, Option.bind_eq_some_iff, Option.map_eq_some_iff] at e
  obtain ⟨x, ex, y, ey, d, ed, d', ed', r, er, e⟩ := e
  cases e
  refine ⟨sd, Fz, x.1, x.2, S, ex, fun v H1 Fz1 S1 E1 r1 => ⟨x.2, Fz1, y.1, y.2, S1, ey, fun w H2 Fz2 S2 E2 r2 => ?_⟩⟩
  exact ⟨Fz2, d, d', _, force_rep S2 (r1.ext S1 E2) ed, force_rep S2 r2 ed', er, Res.fin S2 (E1.trans E2) k⟩
theorem s_cmp {a b : E} {l r : PySem.Expr} {pos : Pos} (o : Cm) (hK : g.K = (kwX X)) (hu : X.A.units + 64 < cLine) (hs : nset r = true) (ha : PE X l (tR g (evE C a))) (hb : PE X r (tR g (evE C b))) : PE X (.Compare l [cmP o] [r] pos) (tR g (evE C (.cmp o a b))) := by
  obtain ⟨gK, gHe, gFz0, gmp, gnp⟩ := g
  obtain rfl : gK = (kwX X) := hK
  refine PE.to (pe_cmpR (OpR.ex fun Fz => oc_cmp (Fz := Fz) hu o) ha hb (nset_marks hs _)) fun σ H Q ⟨sd, Fz, o', sd', S, e, k⟩ => ?_
  simp only [evE, Option.bind_eq_some_iff, Option.map_eq_some_iff] at e
  obtain ⟨x, ex, y, ey, d, ed, d', ed', r, er, e⟩ := e
  cases e
  refine ⟨sd, Fz, x.1, x.2, S, ex, fun v H1 Fz1 S1 E1 r1 => ⟨x.2, Fz1, y.1, y.2, S1, ey, fun w H2 Fz2 S2 E2 r2 => ?_⟩⟩
  refine ⟨Fz2, d, d', _, force_rep S2 (r1.ext S1 E2) ed, force_rep S2 r2 ed', er, k _ _ _ S2 (E1.trans E2) ?_⟩
  simp only [RepO, Rep]
theorem st_cmp {a b : E} {l r : PySem.Expr} {pos : Pos} (o : Cm) (hK : g.K = (kwX X)) (hu : X.A.units + 64 < cLine) (hs : nset r = true) (ha : PE X l (tR g (evE C a))) (hb : PE X r (tR g (evE C b))) : PT X (.Compare l [cmP o] [r] pos) (tRT g (evT C (.cmp o a b))) := by
  obtain ⟨gK, gHe, gFz0, gmp, gnp⟩ := g
  obtain rfl : gK = (kwX X) := hK
  refine PT.to (pt_cmpR (OpR.ex fun Fz => oc_cmp (Fz := Fz) hu o) ha hb (nset_marks hs _)) fun σ H Q ⟨sd, Fz, o', sd', S, e, k⟩ => ?_
  simp only [evT, evE, Option.bind_eq_some_iff, Option.map_eq_some_iff] at e
  obtain ⟨z, ⟨x, ex, y, ey, d, ed, d', ed', r, er, e⟩, c, ec, e'⟩ := e
  cases e
  cases ec
  cases e'
  refine ⟨sd, Fz, x.1, x.2, S, ex, fun v H1 Fz1 S1 E1 r1 => ⟨x.2, Fz1, y.1, y.2, S1, ey, fun w H2 Fz2 S2 E2 r2 => ?_⟩⟩
  exact ⟨Fz2, d, d', _, force_rep S2 (r1.ext S1 E2) ed, force_rep S2 r2 ed', er, _, rfl, k _ _ S2 (E1.trans E2)⟩
theorem s_neg {a : E} {l : PySem.Expr} {pos : Pos} (ha : PE X l (tR g (evE C a))) : PE X (.UnaryOp .USub l pos) (tR g (evE C (.neg a))) := by
  refine PE.to (pe_un un_neg ha) fun σ H Q ⟨sd, Fz, o', sd', S, e, k⟩ => ?_
  simp only [evE, Option.bind_eq_some_iff] at e
  obtain ⟨x, ex, e⟩ := e
  split at e
  · rename_i i hx
    cases e
    refine ⟨sd, Fz, x.1, x.2, S, ex, fun v H1 Fz1 S1 E1 r1 => ?_⟩
    rw [hx] at r1
    simp only [RepO, Rep] at r1
    refine ⟨i, r1, k _ _ _ S1 E1 ?_⟩
    simp only [RepO, Rep]
  · cases e
theorem ml2 {op op' : CmpOp} {b c : PySem.Expr} (h : nset c = true) : lastMarks [op, op'] [b, c] = false := by
  show behindInMarks op' c = false
  exact nset_marks h _
theorem s_chn {a b c : E} {l r q : PySem.Expr} {pos : Pos} (o o' : Cm) (hK : g.K = (kwX X)) (hu : X.A.units + 64 < cLine) (hs : nset q = true) (ha : PE X l (tR g (evE C a))) (hb : PE X r (tR g (evE C b))) (hc : PE X q (tR g (evE C c))) :
    PE X (.Compare l [cmP o, cmP o'] [r, q] pos) (tR g (evE C (.chn o o' a b c))) := by
  obtain ⟨gK, gHe, gFz0, gmp, gnp⟩ := g
  obtain rfl : gK = (kwX X) := hK
  refine PE.to (pe_chain (OpR.ex fun Fz => oc_cmp (Fz := Fz) hu o) (OpR.ex fun Fz => oc_cmp (Fz := Fz) hu o') ha hb hc (ml2 hs)) fun σ H Q ⟨sd, Fz, o1, sd', S, e, k⟩ => ?_
  simp only [evE, Option.bind_eq_some_iff] at e
  obtain ⟨x, ex, y, ey, d, ed, d', ed', r, er, e⟩ := e
  refine ⟨sd, Fz, x.1, x.2, S, ex, fun v H1 Fz1 S1 E1 r1 => ⟨x.2, Fz1, y.1, y.2, S1, ey, fun w H2 Fz2 S2 E2 r2 => ?_⟩⟩
  refine ⟨Fz2, d, d', _, force_rep S2 (r1.ext S1 E2) ed, force_rep S2 r2 ed', er, _, rfl, ?_⟩
  cases r with
  | true =>
    simp only [if_true, Option.bind_eq_some_iff, Option.map_eq_some_iff] at e ⊢
    obtain ⟨z, ez, d2, ed2, d3, ed3, r', er', e⟩ := e
    cases e
    refine ⟨y.2, Fz2, z.1, z.2, S2, ez, fun u H3 Fz3 S3 E3 r3 => ?_⟩
    refine ⟨Fz3, d2, d3, _, force_rep S3 (r2.ext S2 E3) ed2, force_rep S3 r3 ed3, er', k _ _ _ S3 ((E1.trans E2).trans E3) ?_⟩
    simp only [RepO, Rep]
  | false =>
    simp only [Bool.false_eq_true, if_false] at e ⊢
    cases e
    refine k _ _ _ S2 (E1.trans E2) ?_
    simp only [RepO, Rep]
theorem st_chn {a b c : E} {l r q : PySem.Expr} {pos : Pos} (o o' : Cm) (hK : g.K = (kwX X)) (hu : X.A.units + 64 < cLine) (hs : nset q = true) (ha : PE X l (tR g (evE C a))) (hb : PE X r (tR g (evE C b))) (hc : PE X q (tR g (evE C c))) :
    PT X (.Compare l [cmP o, cmP o'] [r, q] pos) (tRT g (evT C (.chn o o' a b c))) := by
  obtain ⟨gK, gHe, gFz0, gmp, gnp⟩ := g
  obtain rfl : gK = (kwX X) := hK
  refine PT.to (pt_chain (OpR.ex fun Fz => oc_cmp (Fz := Fz) hu o) (OpR.ex fun Fz => oc_cmp (Fz := Fz) hu o') ha hb hc (ml2 hs)) fun σ H Q ⟨sd, Fz, o1, sd', S, e, k⟩ => ?_
  simp only [evT, evE, Option.bind_eq_some_iff] at e
  obtain ⟨z0, ⟨x, ex, y, ey, d, ed, d', ed', r, er, e⟩, e0⟩ := e
  refine ⟨sd, Fz, x.1, x.2, S, ex, fun v H1 Fz1 S1 E1 r1 => ⟨x.2, Fz1, y.1, y.2, S1, ey, fun w H2 Fz2 S2 E2 r2 => ?_⟩⟩
  refine ⟨Fz2, d, d', _, force_rep S2 (r1.ext S1 E2) ed, force_rep S2 r2 ed', er, _, rfl, ?_⟩
  cases r with
  | true =>
    simp only [if_true, Option.bind_eq_some_iff, Option.map_eq_some_iff] at e ⊢
    obtain ⟨z, ez, d2, ed2, d3, ed3, r', er', e⟩ := e
    cases e
    cases e0
    refine ⟨y.2, Fz2, z.1, z.2, S2, ez, fun u H3 Fz3 S3 E3 r3 => ?_⟩
    exact ⟨Fz3, d2, d3, _, force_rep S3 (r2.ext S2 E3) ed2, force_rep S3 r3 ed3, er', _, rfl, k _ _ S3 ((E1.trans E2).trans E3)⟩
  | false =>
    simp only [Bool.false_eq_true, if_false] at e ⊢
    cases e
    cases e0
    exact ⟨_, rfl, k _ _ S2 (E1.trans E2)⟩
end
end Ev

set_option linter.all false
set_option autoImplicit false
set_option Elab.async false
set_option maxRecDepth 100000
set_option maxHeartbeats 4000000
/-! EvH2: more forms of expressions. -/
namespace Ev
open PySem PySem.Spec L2
section
variable {X : Cx} {g : Gc} {C : Cfg} {pr : Pr} {lv : Nat} {N : List Str} {se : Se}
/-! ### leaves -/
theorem s_nm {i : Nat} {p : PySem.Expr} (h : PE X p (tVar i)) : PE X p (tR g (evE C (.nm i))) := by
  refine PE.to h fun σ H Q ⟨sd, Fz, o', sd', S, e, k⟩ => ?_
  simp only [evE] at e
  split at e
  · rename_i d hd
    cases e
    obtain ⟨v, h1, h2⟩ := S.vals i d hd
    exact ⟨v, h1, k v H Fz S Ext.refl h2⟩
  · cases e
theorem s_mn {i : Nat} {p : PySem.Expr} (h : PE X p (tVar i)) : PE X p (tR g (evE C (.mn i))) := by
  refine PE.to h fun σ H Q ⟨sd, Fz, o', sd', S, e, k⟩ => ?_
  simp only [evE] at e
  obtain ⟨hm, e⟩ := opt_if e
  cases e
  rcases mutAt_cases hm with ⟨xs, q⟩ | ⟨kvs, q⟩
  · obtain ⟨a, vs, h1, _⟩ := S.mls i xs q
    exact ⟨_, h1, k _ H Fz S Ext.refl h1⟩
  · obtain ⟨a, vs, h1, _⟩ := S.mks i kvs q
    exact ⟨_, h1, k _ H Fz S Ext.refl h1⟩
theorem mutAt_set {sd : SD} {i j : Nat} {s : Sl} (h : mutAt (sd.set i s) j = true) : (j ≠ i ∧ mutAt sd j = true) ∨ (j = i ∧ isMut s = true) := by
  unfold mutAt at h
  by_cases e : j = i
  · subst e
    refine .inr ⟨rfl, ?_⟩
    by_cases hl : j < sd.length
    · rw [List.getElem?_set_self hl] at h; exact h
    · rw [List.getElem?_eq_none (by simpa using hl)] at h; cases h
  · rw [List.getElem?_set_ne (Ne.symm e)] at h
    exact .inl ⟨e, h⟩
theorem mutAt_set_ne {sd : SD} {i j : Nat} {s : Sl} (e : j ≠ i) : mutAt (sd.set i s) j = mutAt sd j := by
  unfold mutAt
  rw [List.getElem?_set_ne (Ne.symm e)]
theorem get_set {α : Type} {l : List α} {i j : Nat} {x y : α} (h : (l.set i x)[j]? = some y) : (j ≠ i ∧ l[j]? = some y) ∨ (j = i ∧ x = y) := by
  by_cases e : j = i
  · subst e
    refine .inr ⟨rfl, ?_⟩
    by_cases hl : j < l.length
    · rw [List.getElem?_set_self hl] at h; exact Option.some.inj h
    · rw [List.getElem?_eq_none (by simpa using hl)] at h; cases h
  · rw [List.getElem?_set_ne (Ne.symm e)] at h
    exact .inl ⟨e, h⟩
/-- a slot's own list or dict is given up: the slot holds a datum from then on -/
theorem SRel.giveUp {sd : SD} {σ : L2.St} {H : Hp} {Fz : Addr → Prop} (S : SRel g sd σ H Fz) {i : Nat} {a : Addr} {d : D} (hm : mutAt sd i = true) (ha : σ[i]? = some (some (.ref a))) (hp : ∀ b, g.mp i ≠ some b) (ho : ∃ o, H a = some o)
    (hd : Rep g.K (fun b => Fz b ∨ b = a) H d (.ref a)) : SRel g (sd.set i (.v d)) σ H (fun b => Fz b ∨ b = a) := by
  have k : Keep Fz H H := Keep.refl
  have m : ∀ b, Fz b → Fz b ∨ b = a := fun b h => .inl h
  obtain ⟨nf, ow⟩ := S.mown i a hm ha
  have he : g.He a = none := ow.elim (fun z => absurd z (hp a)) id
  refine ⟨by rw [List.length_set]; exact S.len, fun j d' h => ?_, fun j xs h => ?_, fun j kvs h => ?_, fun j b hb e => ?_, fun j l b h1 h2 e1 e2 => ?_, fun j b h => ?_, fun b h => ?_, fun b h => .inl (S.fz0 b h), S.frame, fun b h => ?_⟩
  · rcases get_set h with ⟨hj, h'⟩ | ⟨hj, h'⟩
    · obtain ⟨v, e, r⟩ := S.vals j d' h'
      exact ⟨v, e, Rep.keep k m _ v r⟩
    · cases h'
      rw [hj]
      exact ⟨_, ha, hd⟩
  · rcases get_set h with ⟨hj, h'⟩ | ⟨hj, h'⟩
    · obtain ⟨b, vs, e, q, r⟩ := S.mls j xs h'
      exact ⟨b, vs, e, q, RepL.keep k m xs vs r⟩
    · cases h'
  · rcases get_set h with ⟨hj, h'⟩ | ⟨hj, h'⟩
    · obtain ⟨b, es, e, q, z, r⟩ := S.mks j kvs h'
      exact ⟨b, es, e, q, z, RepL.keep k m _ _ r⟩
    · cases h'
  · rcases mutAt_set hb with ⟨hj, hb⟩ | ⟨_, hb⟩
    · obtain ⟨h1, h2⟩ := S.mown j b hb e
      refine ⟨fun z => z.elim h1 fun z => ?_, h2⟩
      subst z
      exact hj (S.inj j i b hb hm e ha)
    · cases hb
  · rcases mutAt_set h1 with ⟨hj, h1⟩ | ⟨_, h1⟩
    · rcases mutAt_set h2 with ⟨hl, h2⟩ | ⟨_, h2⟩
      · exact S.inj j l b h1 h2 e1 e2
      · cases h2
    · cases h1
  · have hj : j ≠ i := fun z => by subst z; exact hp b h
    obtain ⟨h1, h2, h3⟩ := S.par j b h
    exact ⟨h1, by rw [mutAt_set_ne hj]; exact h2, h3⟩
  · rcases h with h | h
    · exact S.fzb b h
    · subst h; exact .inr he
  · rcases h with h | h
    · exact S.fzH b h
    · subst h; exact ho
theorem s_fz {i : Nat} {p : PySem.Expr} (hn : g.np = C.np) (h : PE X p (tVar i)) : PE X p (tR g (evE C (.fz i))) := by
  refine PE.to h fun σ H Q ⟨sd, Fz, o', sd', S, e, k⟩ => ?_
  simp only [evE] at e
  split at e
  · rename_i xs hd
    obtain ⟨hi, e⟩ := opt_if e
    cases e
    obtain ⟨a, vs, h1, h2, h3⟩ := S.mls i xs hd
    have hm := mutAt_ml hd
    have hp : ∀ b, g.mp i ≠ some b := fun b z => by
      have := (S.par i b z).1
      omega
    have rep : Rep g.K (fun b => Fz b ∨ b = a) H (.lst xs) (.ref a) := by
      simp only [Rep]
      exact ⟨a, vs, rfl, .inr rfl, h2, RepL.keep Keep.refl (fun _ z => .inl z) _ _ h3⟩
    refine ⟨_, h1, k _ H _ (S.giveUp hm h1 hp ⟨_, h2⟩ rep) ⟨fun _ _ h _ => h, fun _ h => h, fun _ h => .inl h, fun b h => ?_, fun b ⟨j, hj, e⟩ => ?_⟩ rep⟩
    · rcases h with h | h
      · exact .inl h
      · subst h; exact .inr (.inr ⟨i, hm, h1⟩)
    · rcases mutAt_set hj with ⟨_, hj⟩ | ⟨_, hj⟩
      · exact ⟨j, hj, e⟩
      · cases hj
  · rename_i kvs hd
    obtain ⟨hi, e⟩ := opt_if e
    cases e
    obtain ⟨a, es, h1, h2, h3, h4⟩ := S.mks i kvs hd
    have hm := mutAt_mk hd
    have hp : ∀ b, g.mp i ≠ some b := fun b z => by
      have := (S.par i b z).1
      omega
    have rep : Rep g.K (fun b => Fz b ∨ b = a) H (.dk (kvs.map (·.1)) (kvs.map (·.2))) (.ref a) := by
      simp only [Rep]
      exact ⟨a, es, rfl, .inr rfl, .inl h2, h3, RepL.keep Keep.refl (fun _ z => .inl z) _ _ h4⟩
    refine ⟨_, h1, k _ H _ (S.giveUp hm h1 hp ⟨_, h2⟩ rep) ⟨fun _ _ h _ => h, fun _ h => h, fun _ h => .inl h, fun b h => ?_, fun b ⟨j, hj, e⟩ => ?_⟩ rep⟩
    · rcases h with h | h
      · exact .inl h
      · subst h; exact .inr (.inr ⟨i, hm, h1⟩)
    · rcases mutAt_set hj with ⟨_, hj⟩ | ⟨_, hj⟩
      · exact ⟨j, hj, e⟩
      · cases hj
  · rename_i d hd
    cases e
    obtain ⟨v, h1, h2⟩ := S.vals i d hd
    exact ⟨v, h1, k v H Fz S Ext.refl h2⟩
  · cases e
theorem s_cst {d : D} {c : PySem.Const} {j : Nat} {pos : Pos} (h : cstB d c = true) : PE X (.Constant c j pos) (tR g (evE C (.cst d))) := by
  have fin : ∀ v, (∀ Fz H, Rep g.K Fz H d v) → ∀ σ H Q, tR g (evE C (.cst d)) σ H Q → tC v σ H Q := fun v r σ H Q ⟨sd, Fz, o', sd', S, e, k⟩ => by
    simp only [evE] at e
    cases e
    exact k v H Fz S Ext.refl (r Fz H)
  cases d <;> cases c <;> simp only [cstB] at h <;> try (cases h; done)
  · exact PE.to pe_non (fin _ fun _ _ => by simp only [Rep])
  · have e := eq_of_beq h
    subst e
    exact PE.to pe_bl (fin _ fun _ _ => by simp only [Rep])
  · have e := eq_of_beq h
    subst e
    exact PE.to pe_int (fin _ fun _ _ => by simp only [Rep])
  · have e := of_decide_eq_true h
    subst e
    exact PE.to pe_str (fin _ fun _ _ => by simp only [Rep])
theorem s_glo {i : Nat} {x : Str} {pos : Pos} (hK : g.K = (kwX X)) (hgl : C.gl = pr.gl) (G : Good pr lv N se X) (h1 : glB se.sc (pr.gn i) = true) (h2 : (!dbg (pr.gn i)) = true) (h3 : i ∈ pr.gs) : PE X (.Name (pr.gn i) pos) (tR g (evE C (.glo i))) := by
  obtain ⟨u, v, e, r, rep⟩ := G.globs i h3
  refine PE.to (pe_glob (G.gl h1) e r (dbg_no h2).1) fun σ H Q ⟨sd, Fz, o', sd', S, e, k⟩ => ?_
  simp only [evE] at e
  cases e
  refine k v H Fz S Ext.refl ?_
  show Rep g.K Fz H (C.gl i) v
  rw [hK, hgl]
  exact rep Fz H
/-! ### and, or, not, if -/
theorem bool_of {o : Opd} {t : Bool} (h : boolO o = some t) : o = .val (.bl t) := by
  cases o with
  | val d => cases d <;> simp only [boolO] at h <;> cases h <;> rfl
  | _ => cases h
theorem repO_bl {t : Bool} {sd : SD} {σ : L2.St} {H0 H : Hp} {Fz : Addr → Prop} {v : V} (r : RepO g sd σ H0 H Fz (.val (.bl t)) v) : v = .bl t := by
  simpa only [RepO, Rep] using r
theorem s_and {a b : E} {x y : PySem.Expr} {r : List PySem.Expr} {pos : Pos} (ha : PE X x (tR g (evE C a))) (hb : PE X (.BoolOp .And (y :: r) pos) (tR g (evE C b))) : PE X (.BoolOp .And (x :: y :: r) pos) (tR g (evE C (.and a b))) := by
  refine PE.to (pe_and ha hb) fun σ H Q ⟨sd, Fz, o', sd', S, e, k⟩ => ?_
  simp only [evE, Option.bind_eq_some_iff] at e
  obtain ⟨x, ex, t, et, e⟩ := e
  refine ⟨sd, Fz, x.1, x.2, S, ex, fun v H1 Fz1 S1 E1 r1 => ?_⟩
  rw [bool_of et] at r1
  refine ⟨t, repO_bl r1, ?_⟩
  cases t with
  | true =>
    simp only [if_true] at e ⊢
    exact ⟨x.2, Fz1, o', sd', S1, e, fun w H2 Fz2 S2 E2 r2 => k w H2 Fz2 S2 (E1.trans E2) (r2.start E1.back)⟩
  | false =>
    simp only [Bool.false_eq_true, if_false] at e ⊢
    cases e
    exact k _ H1 Fz1 S1 E1 (by simp only [RepO, Rep])
theorem s_or {a b : E} {x y : PySem.Expr} {r : List PySem.Expr} {pos : Pos} (ha : PE X x (tR g (evE C a))) (hb : PE X (.BoolOp .Or (y :: r) pos) (tR g (evE C b))) : PE X (.BoolOp .Or (x :: y :: r) pos) (tR g (evE C (.or a b))) := by
  refine PE.to (pe_or ha hb) fun σ H Q ⟨sd, Fz, o', sd', S, e, k⟩ => ?_
  simp only [evE, Option.bind_eq_some_iff] at e
  obtain ⟨x, ex, t, et, e⟩ := e
  refine ⟨sd, Fz, x.1, x.2, S, ex, fun v H1 Fz1 S1 E1 r1 => ?_⟩
  rw [bool_of et] at r1
  refine ⟨t, repO_bl r1, ?_⟩
  cases t with
  | false =>
    simp only [Bool.false_eq_true, if_false] at e ⊢
    exact ⟨x.2, Fz1, o', sd', S1, e, fun w H2 Fz2 S2 E2 r2 => k w H2 Fz2 S2 (E1.trans E2) (r2.start E1.back)⟩
  | true =>
    simp only [if_true] at e ⊢
    cases e
    exact k _ H1 Fz1 S1 E1 (by simp only [RepO, Rep])
theorem s_not {a : E} {x : PySem.Expr} {pos : Pos} (ha : PE X x (tR g (evE C a))) : PE X (.UnaryOp .Not x pos) (tR g (evE C (.not a))) := by
  refine PE.to (pe_not ha) fun σ H Q ⟨sd, Fz, o', sd', S, e, k⟩ => ?_
  simp only [evE, Option.bind_eq_some_iff, Option.map_eq_some_iff] at e
  obtain ⟨x, ex, t, et, e⟩ := e
  cases e
  refine ⟨sd, Fz, x.1, x.2, S, ex, fun v H1 Fz1 S1 E1 r1 => ?_⟩
  rw [bool_of et] at r1
  exact ⟨t, repO_bl r1, k _ H1 Fz1 S1 E1 (by simp only [RepO, Rep])⟩
theorem s_ite {c a b : E} {p x y : PySem.Expr} {pos : Pos} (hc : PT X p (tRT g (evT C c))) (ha : PE X x (tR g (evE C a))) (hb : PE X y (tR g (evE C b))) : PE X (.IfExp p x y pos) (tR g (evE C (.ite c a b))) := by
  refine PE.to (pe_ifExp hc ha hb) fun σ H Q ⟨sd, Fz, o', sd', S, e, k⟩ => ?_
  simp only [evE, Option.bind_eq_some_iff] at e
  obtain ⟨x, ex, t, et, e⟩ := e
  refine ⟨sd, Fz, t, x.2, S, ?_, fun H1 Fz1 S1 E1 => ?_⟩
  · simp only [evT, ex, Option.bind_some, et, Option.map_some]
  · cases t with
    | true =>
      simp only [if_true] at e ⊢
      exact ⟨x.2, Fz1, o', sd', S1, e, fun w H2 Fz2 S2 E2 r2 => k w H2 Fz2 S2 (E1.trans E2) (r2.start E1.back)⟩
    | false =>
      simp only [Bool.false_eq_true, if_false] at e ⊢
      exact ⟨x.2, Fz1, o', sd', S1, e, fun w H2 Fz2 S2 E2 r2 => k w H2 Fz2 S2 (E1.trans E2) (r2.start E1.back)⟩
/-! .. as tests -/
theorem evT_and {a b : E} {sd sd' : SD} {t : Bool} (e : evT C (.and a b) sd = some (t, sd')) : ∃ c s1, evT C a sd = some (c, s1) ∧ (if c = true then evT C b s1 = some (t, sd') else t = false ∧ sd' = s1) := by
  simp only [evT, evE, Option.bind_eq_some_iff] at e
  obtain ⟨z, ⟨x, ex, c, ec, e⟩, e0⟩ := e
  refine ⟨c, x.2, by simp only [evT, ex, Option.bind_some, ec, Option.map_some], ?_⟩
  cases c with
  | true =>
    simp only [if_true] at e ⊢
    simp only [evT, e, Option.bind_some]
    exact e0
  | false =>
    simp only [Bool.false_eq_true, if_false] at e ⊢
    cases e
    simp only [boolO, Option.map_some] at e0
    cases e0
    exact ⟨rfl, rfl⟩
theorem evT_or {a b : E} {sd sd' : SD} {t : Bool} (e : evT C (.or a b) sd = some (t, sd')) : ∃ c s1, evT C a sd = some (c, s1) ∧ (if c = true then t = true ∧ sd' = s1 else evT C b s1 = some (t, sd')) := by
  simp only [evT, evE, Option.bind_eq_some_iff] at e
  obtain ⟨z, ⟨x, ex, c, ec, e⟩, e0⟩ := e
  refine ⟨c, x.2, by simp only [evT, ex, Option.bind_some, ec, Option.map_some], ?_⟩
  cases c with
  | false =>
    simp only [Bool.false_eq_true, if_false] at e ⊢
    simp only [evT, e, Option.bind_some]
    exact e0
  | true =>
    simp only [if_true] at e ⊢
    cases e
    simp only [boolO, Option.map_some] at e0
    cases e0
    exact ⟨rfl, rfl⟩
theorem st_and {a b : E} {x y : PySem.Expr} {r : List PySem.Expr} {pos : Pos} (ha : PT X x (tRT g (evT C a))) (hb : PW X (.BoolOp .And (y :: r) pos) (tRT g (evT C b))) : PW X (.BoolOp .And (x :: y :: r) pos) (tRT g (evT C (.and a b))) := by
  refine PW.to (pw_and ha hb) fun σ H Q ⟨sd, Fz, t, sd', S, e, k⟩ => ?_
  obtain ⟨c, s1, e1, e2⟩ := evT_and e
  refine ⟨sd, Fz, c, s1, S, e1, fun H1 Fz1 S1 E1 => ?_⟩
  cases c with
  | true =>
    simp only [if_true] at e2 ⊢
    exact ⟨s1, Fz1, t, sd', S1, e2, fun H2 Fz2 S2 E2 => k H2 Fz2 S2 (E1.trans E2)⟩
  | false =>
    simp only [Bool.false_eq_true, if_false] at e2 ⊢
    obtain ⟨rfl, rfl⟩ := e2
    exact k H1 Fz1 S1 E1
theorem st_or {a b : E} {x y : PySem.Expr} {r : List PySem.Expr} {pos : Pos} (ha : PT X x (tRT g (evT C a))) (hb : PW X (.BoolOp .Or (y :: r) pos) (tRT g (evT C b))) : PW X (.BoolOp .Or (x :: y :: r) pos) (tRT g (evT C (.or a b))) := by
  refine PW.to (pw_or ha hb) fun σ H Q ⟨sd, Fz, t, sd', S, e, k⟩ => ?_
  obtain ⟨c, s1, e1, e2⟩ := evT_or e
  refine ⟨sd, Fz, c, s1, S, e1, fun H1 Fz1 S1 E1 => ?_⟩
  cases c with
  | false =>
    simp only [Bool.false_eq_true, if_false] at e2 ⊢
    exact ⟨s1, Fz1, t, sd', S1, e2, fun H2 Fz2 S2 E2 => k H2 Fz2 S2 (E1.trans E2)⟩
  | true =>
    simp only [if_true] at e2 ⊢
    obtain ⟨rfl, rfl⟩ := e2
    exact k H1 Fz1 S1 E1
theorem st_not {a : E} {x : PySem.Expr} {pos : Pos} (ha : PT X x (tRT g (evT C a))) : PT X (.UnaryOp .Not x pos) (tRT g (evT C (.not a))) := by
  refine PT.to (pt_not ha) fun σ H Q ⟨sd, Fz, t, sd', S, e, k⟩ => ?_
  simp only [evT, evE, Option.bind_eq_some_iff, Option.map_eq_some_iff] at e
  obtain ⟨z, ⟨x, ex, c, ec, e⟩, d, ed, e0⟩ := e
  cases e
  simp only [boolO] at ed
  cases ed
  cases e0
  exact ⟨sd, Fz, c, x.2, S, by simp only [evT, ex, Option.bind_some, ec, Option.map_some], fun H1 Fz1 S1 E1 => k H1 Fz1 S1 E1⟩
theorem st_ite {c a b : E} {p x y : PySem.Expr} {pos : Pos} (hc : PT X p (tRT g (evT C c))) (ha : PT X x (tRT g (evT C a))) (hb : PT X y (tRT g (evT C b))) : PT X (.IfExp p x y pos) (tRT g (evT C (.ite c a b))) := by
  refine ⟨fun pins s σ H Q I h => ?_⟩
  obtain ⟨sd, Fz, t, sd', S, e, k⟩ := h
  simp only [evT, evE, Option.bind_eq_some_iff] at e
  obtain ⟨z, ⟨x', ex, c', ec, e⟩, e0⟩ := e
  show wpAny _ _ (do if ← isTrue p X.env (eval p X.env) then isTrue x X.env (eval x X.env) else isTrue y X.env (eval y X.env)) _ _ _
  refine wpAny_bind (thn (hc.run pins s σ H (fun d H1 => if d = true then tRT g (evT C a) σ H1 Q else tRT g (evT C b) σ H1 Q) I ?_) fun d s1 ⟨H1, I1, q1⟩ => ?_)
  · refine ⟨sd, Fz, c', x'.2, S, by simp only [evT, ex, Option.bind_some, ec, Option.map_some], fun H1 Fz1 S1 E1 => ?_⟩
    cases c' with
    | true =>
      simp only [if_true] at e ⊢
      exact ⟨x'.2, Fz1, t, sd', S1, by simp only [evT, e, Option.bind_some]; exact e0, fun H2 Fz2 S2 E2 => k H2 Fz2 S2 (E1.trans E2)⟩
    | false =>
      simp only [Bool.false_eq_true, if_false] at e ⊢
      exact ⟨x'.2, Fz1, t, sd', S1, by simp only [evT, e, Option.bind_some]; exact e0, fun H2 Fz2 S2 E2 => k H2 Fz2 S2 (E1.trans E2)⟩
  · cases d with
    | true => exact ha.run pins s1 σ H1 Q I1 q1
    | false => exact hb.run pins s1 σ H1 Q I1 q1
end
end Ev

set_option linter.all false
set_option autoImplicit false
set_option Elab.async false
set_option maxRecDepth 100000
set_option maxHeartbeats 4000000
/-! EvH3: displays, places, built-ins, methods. -/
namespace Ev
open PySem PySem.Spec L2
section
variable {X : Cx} {g : Gc} {C : Cfg} {pr : Pr} {lv : Nat} {N : List Str} {se : Se}
/-! ### lists of expressions -/
theorem s_nil : PA X [] (tRs g (evEs C .nil)) := by
  refine PA.to pa_nil fun σ H Q ⟨sd, Fz, os, sd', S, e, k⟩ => ?_
  simp only [evEs] at e
  cases e
  exact k [] H Fz S Ext.refl rfl
theorem s_cons {e : E} {es : Es} {p : PySem.Expr} {ps : List PySem.Expr} (hp : nst p = true) (ha : PE X p (tR g (evE C e))) (hb : PA X ps (tRs g (evEs C es))) : PA X (p :: ps) (tRs g (evEs C (.cons e es))) := by
  refine PA.to (pa_cons ha hb (nst_star hp _ _)) fun σ H Q ⟨sd, Fz, os, sd', S, e, k⟩ => ?_
  simp only [evEs, Option.bind_eq_some_iff, Option.map_eq_some_iff] at e
  obtain ⟨x, ex, y, ey, e⟩ := e
  cases e
  refine ⟨sd, Fz, x.1, x.2, S, ex, fun v H1 Fz1 S1 E1 r1 => ⟨x.2, Fz1, y.1, y.2, S1, ey, fun vs H2 Fz2 S2 E2 r2 => ?_⟩⟩
  refine k _ H2 Fz2 S2 (E1.trans E2) ⟨v, vs, rfl, r1.ext S1 E2, r2.start E1.back, fun a h1 h2 => ?_⟩
  have n1 := (newA_none r1 h1).2
  have n2 := newAs_none r2 h2
  exact n1 n2
theorem ros_len {sd : SD} {σ : L2.St} {H0 H : Hp} {Fz : Addr → Prop} : ∀ {os : List Opd} {vs : List V}, ROs g sd σ H0 H Fz os vs → vs.length = os.length
  | [], vs, h => by rw [show vs = [] from h]; rfl
  | o :: os, vs, h => by
    obtain ⟨v, r, rfl, _, h2, _⟩ := h
    simp [ros_len h2]
theorem evEs_len : ∀ {es : Es} {sd : SD} {x : List Opd × SD} {ps : List PySem.Expr}, evEs C es sd = some x → mEs pr N se es ps = true → x.1.length = ps.length
  | .nil, sd, x, ps, e, m => by
    simp only [evEs] at e
    cases e
    cases ps with
    | nil => rfl
    | cons p r => simp [mEs] at m
  | .cons e es, sd, x, ps, h, m => by
    simp only [evEs, Option.bind_eq_some_iff, Option.map_eq_some_iff] at h
    obtain ⟨y, ey, z, ez, h⟩ := h
    cases h
    cases ps with
    | nil => simp [mEs] at m
    | cons p r =>
      simp only [mEs, Bool.and_eq_true] at m
      simp [evEs_len ez m.2]
theorem strictL_len : ∀ {os : List Opd} {ds : List D}, strictL os = some ds → ds.length = os.length
  | [], ds, e => by simp only [strictL] at e; cases e; rfl
  | o :: os, ds, e => by
    simp only [strictL, Option.bind_eq_some_iff, Option.map_eq_some_iff] at e
    obtain ⟨d, e1, ds', e2, rfl⟩ := e
    simp [strictL_len e2]
theorem s_tup {es : Es} {ps : List PySem.Expr} {j : Nat} {pos : Pos} (hK : g.K = (kwX X)) (hl : ps.length ≤ 1000) (hm : mEs pr N se es ps = true) (ha : PA X ps (tRs g (evEs C es))) : PE X (.Tuple ps j pos) (tR g (evE C (.tup es))) := by
  refine PE.to (pe_tupF ha) fun σ H Q ⟨sd, Fz, o, sd', S, e, k⟩ => ?_
  simp only [evE, Option.bind_eq_some_iff, Option.map_eq_some_iff] at e
  obtain ⟨x, ex, ds, ed, e⟩ := e
  cases e
  refine ⟨sd, Fz, x.1, x.2, S, ex, fun vs H1 Fz1 S1 E1 r1 => ⟨?_, fun p o n hd => ?_⟩⟩
  · rw [ros_len r1, evEs_len ex hm, sizeLine_eq]; omega
  · obtain ⟨Fz2, S2, m2, n2, r2⟩ := strictL_rep S1 r1 ed
    have gr : Grow H1 (upd H1 p (.frz o (.tup vs))) := Grow.upd n
    refine k _ _ Fz2 (S2.grow gr) ((E1.more m2 fun a z => (n2 a z).imp id fun z => newAs_none r1 z).trans gr.ext) ?_
    simp only [RepO, Rep]
    exact ⟨p, vs, rfl, .inl ⟨o, upd_same, hd⟩, RepL.keep gr.keep (fun _ z => z) _ _ r2⟩
theorem s_dct0 {pos : Pos} : PE X (.Dict [] [] pos) (tR g (evE C .dct0)) := by
  refine PE.to pe_dnewK fun σ H Q ⟨sd, Fz, o, sd', S, e, k⟩ => ?_
  simp only [evE] at e
  cases e
  intro p hp
  have gr : Grow H (upd H p (.dK [])) := Grow.upd hp
  refine k _ _ Fz (S.grow gr) gr.ext ?_
  refine ResO.rep S gr ?_
  simp only [ResO]
  exact ⟨p, [], rfl, hp, upd_same, by simp only [List.map_nil, KysR], repL_nil.mpr rfl⟩
theorem s_lst {es : Es} {ps : List PySem.Expr} {pos : Pos} (hl : ps.length ≤ 1000) (hm : mEs pr N se es ps = true) (ha : PA X ps (tRs g (evEs C es))) : PE X (.List ps pos) (tR g (evE C (.lst es))) := by
  refine PE.to (pe_lst ha) fun σ H Q ⟨sd, Fz, o, sd', S, e, k⟩ => ?_
  simp only [evE, Option.bind_eq_some_iff, Option.map_eq_some_iff] at e
  obtain ⟨x, ex, ds, ed, e⟩ := e
  cases e
  refine ⟨sd, Fz, x.1, x.2, S, ex, fun vs H1 Fz1 S1 E1 r1 => ⟨?_, fun p n => ?_⟩⟩
  · rw [ros_len r1, evEs_len ex hm, sizeLine_eq]; omega
  · obtain ⟨Fz2, S2, m2, n2, r2⟩ := strictL_rep S1 r1 ed
    have gr : Grow H1 (upd H1 p (.lst vs)) := Grow.upd n
    refine k _ _ Fz2 (S2.grow gr) ((E1.more m2 fun a z => (n2 a z).imp id fun z => newAs_none r1 z).trans gr.ext) ?_
    refine RepO.start (H1 := H1) E1.back (ResO.rep S2 gr ?_)
    simp only [ResO]
    exact ⟨p, vs, rfl, n, upd_same, RepL.keep gr.keep (fun _ z => z) _ _ r2⟩
/-! ### places -/
theorem s_ix {a i : E} {p q : PySem.Expr} {pos : Pos} (hK : g.K = (kwX X)) (hu : X.A.units + 64 < cLine) (hs : nsl q = true) (ha : PE X p (tR g (evE C a))) (hb : PE X q (tR g (evE C i))) : PE X (.Subscript p q pos) (tR g (evE C (.ix a i))) := by
  obtain ⟨gK, gHe, gFz0, gmp, gnp⟩ := g
  obtain rfl : gK = (kwX X) := hK
  refine PE.to (pe_ix (IxR.ex fun Fz => ix_D (Fz := Fz) hu) ha hb (nsl_plain hs)) fun σ H Q ⟨sd, Fz, o', sd', S, e, k⟩ => ?_
  simp only [evE, Option.bind_eq_some_iff, Option.map_eq_some_iff] at e
  obtain ⟨x, ex, y, ey, d, ed, d', ed', r, er, e⟩ := e
  cases e
  refine ⟨sd, Fz, x.1, x.2, S, ex, fun v H1 Fz1 S1 E1 r1 => ⟨x.2, Fz1, y.1, y.2, S1, ey, fun w H2 Fz2 S2 E2 r2 => ?_⟩⟩
  exact ⟨Fz2, d, d', _, force_rep S2 (r1.ext S1 E2) ed, force_rep S2 r2 ed', by show Option.map _ (ixD d d') = _; rw [er]; rfl, Res.fin S2 (E1.trans E2) k⟩
theorem s_part {e : E} {p : PySem.Expr} (ha : PE X p (tR g (evE C e))) : PO X (some p) (tRO g (evEo C (.some e))) := by
  refine PO.to (po_some ha) fun σ H Q ⟨sd, Fz, o', sd', S, e, k⟩ => ?_
  simp only [evEo, Option.bind_eq_some_iff, Option.map_eq_some_iff] at e
  obtain ⟨x, ex, i, ei, e⟩ := e
  cases e
  refine ⟨sd, Fz, x.1, x.2, S, ex, fun v H1 Fz1 S1 E1 r1 => ?_⟩
  unfold partO at ei
  split at ei
  · rename_i j hj
    cases ei
    exact ⟨i, (force_rep S1 r1 hj).int, k H1 Fz1 S1 E1⟩
  · cases ei
theorem s_nopart : PO X none (tRO g (evEo C .none)) := by
  refine PO.to po_none fun σ H Q ⟨sd, Fz, o', sd', S, e, k⟩ => ?_
  simp only [evEo] at e
  cases e
  exact k H Fz S Ext.refl
theorem s_sl {a : E} {lo hi : Eo} {p : PySem.Expr} {l h : Option PySem.Expr} {p2 pos : Pos} (hK : g.K = (kwX X)) (ha : PE X p (tR g (evE C a))) (hl : PO X l (tRO g (evEo C lo))) (hh : PO X h (tRO g (evEo C hi))) :
    PE X (.Subscript p (.Slice l h none p2) pos) (tR g (evE C (.sl a lo hi))) := by
  obtain ⟨gK, gHe, gFz0, gmp, gnp⟩ := g
  obtain rfl : gK = (kwX X) := hK
  refine PE.to (pe_slice (SlR.ex fun Fz => sl_D (Fz := Fz)) ha hl hh) fun σ H Q ⟨sd, Fz, o', sd', S, e, k⟩ => ?_
  simp only [evE, Option.bind_eq_some_iff, Option.map_eq_some_iff] at e
  obtain ⟨x, ex, y, ey, z, ez, d, ed, r, er, e⟩ := e
  cases e
  refine ⟨sd, Fz, x.1, x.2, S, ex, fun v H1 Fz1 S1 E1 r1 => ⟨x.2, Fz1, y.1, y.2, S1, ey, fun H2 Fz2 S2 E2 => ⟨y.2, Fz2, z.1, z.2, S2, ez, fun H3 Fz3 S3 E3 => ?_⟩⟩⟩
  exact ⟨Fz3, d, _, force_rep S3 ((r1.ext S1 E2).ext S2 E3) ed, er, Res.fin S3 ((E1.trans E2).trans E3) k⟩
theorem s_rv {a : E} {p : PySem.Expr} {kc : Nat} {p1 p2 p3 pos : Pos} (hK : g.K = (kwX X)) (ha : PE X p (tR g (evE C a))) :
    PE X (.Subscript p (.Slice none none (some (.UnaryOp .USub (.Constant (.int 1) kc p1) p2)) p3) pos) (tR g (evE C (.rv a))) := by
  obtain ⟨gK, gHe, gFz0, gmp, gnp⟩ := g
  obtain rfl : gK = (kwX X) := hK
  refine PE.to (pe_revD ha) fun σ H Q ⟨sd, Fz, o', sd', S, e, k⟩ => ?_
  simp only [evE, Option.bind_eq_some_iff, Option.map_eq_some_iff] at e
  obtain ⟨x, ex, d, ed, r, er, e⟩ := e
  cases e
  refine ⟨sd, Fz, x.1, x.2, S, ex, fun v H1 Fz1 S1 E1 r1 => ?_⟩
  have rd := force_rep S1 r1 ed
  cases d <;> simp only [rvD] at er <;> try (cases er; done)
  · cases er
    obtain ⟨b, vs, rfl, hb, rb⟩ := RepF.tup rd
    exact ⟨b, vs, rfl, .inr ⟨hb, (Res.fin S1 E1 k).tup rb.rev⟩⟩
  · cases er
    obtain ⟨b, vs, rfl, hb, rb⟩ := RepF.lst rd
    exact ⟨b, vs, rfl, .inl ⟨SqL.of hb, fun q n => (Res.fin S1 E1 k).lst rb.rev n⟩⟩
/-! ### built-ins -/
theorem bltB_ok (G : Good pr lv N se X) {x : Str} (h : bltB pr se x = true) : Gl X x ∧ X.mg x = none ∧ (x == ("__debug__" : Str)) = false ∧ x ≠ "__name__" := by
  unfold bltB at h
  simp only [Bool.and_eq_true] at h
  obtain ⟨⟨h1, h2⟩, h3⟩ := h
  obtain ⟨d1, _, d3⟩ := dbg_no h3
  exact ⟨G.gl h2, G.blt x (by simpa using h1), d1, d3⟩
theorem mEs_plain : ∀ {es : Es} {ps : List PySem.Expr}, mEs pr N se es ps = true → plainL ps = true
  | .nil, ps, m => by
    cases ps with
    | nil => rfl
    | cons p r => simp [mEs] at m
  | .cons e es, ps, m => by
    cases ps with
    | nil => simp [mEs] at m
    | cons p r =>
      simp only [mEs, Bool.and_eq_true] at m
      simp only [plainL, List.all_cons, Bool.and_eq_true]
      exact ⟨m.1.2, mEs_plain m.2⟩
theorem plainL_cons {p : PySem.Expr} {ps : List PySem.Expr} (h : plainL (p :: ps) = true) : nst p = true ∧ plainL ps = true := by
  simpa only [plainL, List.all_cons, Bool.and_eq_true] using h
theorem callB {id : String} {x : Str} {r : List V → Hp → VK → Prop} {t : TA} {ps : List PySem.Expr} {p pos : Pos} (G : Good pr lv N se X) (hb : bltB pr se x = true) (hr : CallR X (.builtin id) r) (hv : bootBuiltins x = some (.builtin id)) (hne : ps ≠ []) (hp : plainL ps = true) (ha : PA X ps t) :
    PE X (.Call (.Name x p) ps [] pos) (tCB r t) := by
  obtain ⟨h1, h2, h3, h4⟩ := bltB_ok G hb
  cases ps with
  | nil => exact absurd rfl hne
  | cons e es =>
    obtain ⟨q1, q2⟩ := plainL_cons hp
    exact pe_callB hr h1 h2 hv ha h4 h3 (nst_star q1 _ _) (by rw [backTo_any]; exact plainL_any (pos := pos) q2)
theorem callT {T : String} {x : Str} {r : List V → Hp → VK → Prop} {t : TA} {ps : List PySem.Expr} {p pos : Pos} (G : Good pr lv N se X) (hb : bltB pr se x = true) (hr : CallR X (.type T) r) (hv : bootBuiltins x = some (.type T)) (hne : ps ≠ []) (hp : plainL ps = true) (ha : PA X ps t) :
    PE X (.Call (.Name x p) ps [] pos) (tCB r t) := by
  obtain ⟨h1, h2, h3, h4⟩ := bltB_ok G hb
  cases ps with
  | nil => exact absurd rfl hne
  | cons e es =>
    obtain ⟨q1, q2⟩ := plainL_cons hp
    exact pe_callTy hr h1 h2 hv ha h4 h3 (nst_star q1 _ _) (by rw [backTo_any]; exact plainL_any (pos := pos) q2)
theorem bi_call (G : Good pr lv N se X) {f : Bi} {t : TA} {ps : List PySem.Expr} {p pos : Pos} (ho : biOk f = true) (hb : bltB pr se (biS f) = true) (hne : ps ≠ []) (hp : plainL ps = true) (ha : PA X ps t) :
    PE X (.Call (.Name (biS f) p) ps [] pos) (tCB (fun xs H Q => ∃ Fz, rBi (kwX X) Fz (biD f) xs H Q) t) := by
  have hc := G.calm
  cases f <;> simp only [biOk] at ho <;> try (cases ho; done)
  · exact callB G hb (CallR.ex fun Fz => bi_len) PySem.boot_len hne hp ha
  · exact callT G hb (CallR.ex fun Fz => bi_tuple) PyProof.Rows.boot_tuple hne hp ha
  · exact callT G hb (CallR.ex fun Fz => bi_list) PyProof.Rows.boot_list hne hp ha
  · exact callB G hb (CallR.ex fun Fz => bi_abs) PyProof.Rows.boot_abs hne hp ha
  · exact callB G hb (CallR.ex fun Fz => bi_min hc) PyProof.Rows.boot_min hne hp ha
  · exact callB G hb (CallR.ex fun Fz => bi_max hc) PyProof.Rows.boot_max hne hp ha
  · exact callT G hb (CallR.ex fun Fz => bi_int) PyProof.Rows.boot_int hne hp ha
  · exact callB G hb (CallR.ex fun Fz => bi_all hc) PyProof.Rows.boot_all hne hp ha
  · exact callB G hb (CallR.ex fun Fz => bi_any hc) PyProof.Rows.boot_any hne hp ha
  · exact callB G hb (CallR.ex fun Fz => bi_sorted G.calm G.room.units) PyProof.Rows.boot_sorted hne hp ha
  · exact callB G hb (CallR.ex fun Fz => bi_sum hc) PyProof.Rows.boot_sum hne hp ha
  · exact callB G hb (CallR.ex fun Fz => bi_repr G.guard G.room.units) PyProof.Rows.boot_repr hne hp ha
  · exact callT G hb (CallR.ex fun Fz => bi_dict hc) PyProof.Rows.boot_dict hne hp ha
theorem s_bi (G : Good pr lv N se X) {f : Bi} {es : Es} {ps : List PySem.Expr} {p pos : Pos} (hK : g.K = (kwX X)) (ho : biOk f = true) (hb : bltB pr se (biS f) = true) (hne : ps ≠ []) (hm : mEs pr N se es ps = true) (ha : PA X ps (tRs g (evEs C es))) :
    PE X (.Call (.Name (biS f) p) ps [] pos) (tR g (evE C (.bi f es))) := by
  obtain ⟨gK, gHe, gFz0, gmp, gnp⟩ := g
  obtain rfl : gK = (kwX X) := hK
  refine PE.to (bi_call G ho hb hne (mEs_plain hm) ha) fun σ H Q ⟨sd, Fz, o', sd', S, e, k⟩ => ?_
  simp only [evE, Option.bind_eq_some_iff, Option.map_eq_some_iff] at e
  obtain ⟨x, ex, ds, ed, r, er, e⟩ := e
  cases e
  refine ⟨sd, Fz, x.1, x.2, S, ex, fun vs H1 Fz1 S1 E1 r1 => ?_⟩
  exact ⟨Fz1, ds, _, forceL_rep S1 r1 ed, er, Res.fin S1 E1 k⟩
theorem boot_ty (t : Ty) : bootBuiltins (tySt t) = some (.type (tyS t)) := by
  cases t
  · exact PyProof.Rows.boot_int
  · exact PyProof.Rows.boot_bool
  · exact PyProof.Rows.boot_str
  · exact PyProof.Rows.boot_tuple
  · exact PyProof.Rows.boot_list
  · exact PyProof.Rows.boot_dict
theorem s_isi (G : Good pr lv N se X) {a : E} {t : Ty} {p : PySem.Expr} {pf py pos : Pos} (hK : g.K = (kwX X)) (hb : bltB pr se "isinstance" = true) (ht : bltB pr se (tySt t) = true) (hp : nst p = true) (ha : PE X p (tR g (evE C a))) :
    PE X (.Call (.Name "isinstance" pf) [p, .Name (tySt t) py] [] pos) (tR g (evE C (.isi a t))) := by
  obtain ⟨gK, gHe, gFz0, gmp, gnp⟩ := g
  obtain rfl : gK = (kwX X) := hK
  obtain ⟨t1, t2, t3, t4⟩ := bltB_ok G ht
  have pt : PE X (.Name (tySt t) py) (tC (.ty (tyS t))) := pe_bltn t1 t2 (boot_ty t) rfl t4 t3
  refine PE.to (callB G hb call_isiY PyProof.Rows.boot_isinstance (by simp) (by simp only [plainL, List.all_cons, List.all_nil, hp, Bool.and_true, Bool.true_and]; rfl) (pa_cons ha (pa_cons pt pa_nil) (nst_star hp _ _))) fun σ H Q ⟨sd, Fz, o', sd', S, e, k⟩ => ?_
  simp only [evE, Option.bind_eq_some_iff, Option.map_eq_some_iff] at e
  obtain ⟨x, ex, d, ed, e⟩ := e
  cases e
  refine ⟨sd, Fz, x.1, x.2, S, ex, fun v H1 Fz1 S1 E1 r1 => ?_⟩
  exact ⟨v, _, _, _, isiD d t, rfl, .ty _, tyY_D (force_rep S1 r1 ed), kit_ty (kit_D d t), k _ H1 Fz1 S1 E1 (by simp only [RepO, Rep])⟩
theorem RepF.grow {K : KW} {Fz : Addr → Prop} {H H' : Hp} (gr : Grow H H') {d : D} {v : V} (h : RepF K Fz H d v) : RepF K Fz H' d v := by
  cases d <;> simp only [RepF] at h ⊢ <;> try exact Rep.keep gr.keep (fun _ z => z) _ _ h
  · obtain ⟨a, vs, e, h1, h2⟩ := h
    exact ⟨a, vs, e, gr _ _ h1, RepL.keep gr.keep (fun _ z => z) _ _ h2⟩
  · obtain ⟨a, es, e, h1, h2, h3⟩ := h
    exact ⟨a, es, e, h1.imp (gr _ _) fun ⟨o, h⟩ => ⟨o, gr _ _ h⟩, KysR.keep (Fz := Fz) gr.keep h2, RepL.keep gr.keep (fun _ z => z) _ _ h3⟩
theorem s_isi2 (G : Good pr lv N se X) {a : E} {t u : Ty} {p : PySem.Expr} {pf py pz pos tpos : Pos} {j : Nat} (hK : g.K = (kwX X)) (hb : bltB pr se "isinstance" = true) (ht : bltB pr se (tySt t) = true) (hu : bltB pr se (tySt u) = true) (hp : nst p = true) (ha : PE X p (tR g (evE C a))) :
    PE X (.Call (.Name "isinstance" pf) [p, .Tuple [.Name (tySt t) py, .Name (tySt u) pz] j tpos] [] pos) (tR g (evE C (.isi2 a t u))) := by
  obtain ⟨gK, gHe, gFz0, gmp, gnp⟩ := g
  obtain rfl : gK = (kwX X) := hK
  obtain ⟨t1, t2, t3, t4⟩ := bltB_ok G ht
  obtain ⟨u1, u2, u3, u4⟩ := bltB_ok G hu
  have pt : PE X (.Name (tySt t) py) (tC (.ty (tyS t))) := pe_bltn t1 t2 (boot_ty t) rfl t4 t3
  have pu : PE X (.Name (tySt u) pz) (tC (.ty (tyS u))) := pe_bltn u1 u2 (boot_ty u) rfl u4 u3
  have pT : PE X (.Tuple [.Name (tySt t) py, .Name (tySt u) pz] j tpos) (tTup (tCons (tC (.ty (tyS t))) (tCons (tC (.ty (tyS u))) tNil))) := pe_tup (pa_cons pt (pa_cons pu pa_nil))
  refine PE.to (callB G hb call_isiTY PyProof.Rows.boot_isinstance (by simp) (by simp only [plainL, List.all_cons, List.all_nil, hp, Bool.and_true, Bool.true_and]; rfl) (pa_cons ha (pa_cons pT pa_nil) (nst_star hp _ _))) fun σ H Q ⟨sd, Fz, o', sd', S, e, k⟩ => ?_
  simp only [evE, Option.bind_eq_some_iff, Option.map_eq_some_iff] at e
  obtain ⟨x, ex, d, ed, e⟩ := e
  cases e
  refine ⟨sd, Fz, x.1, x.2, S, ex, fun v H1 Fz1 S1 E1 r1 => ⟨by simp [sizeLine_eq], fun tp hn => ?_⟩⟩
  have gr : Grow H1 (upd H1 tp (.tup [.ty (tyS t), .ty (tyS u)])) := Grow.upd hn
  have rd := RepF.grow gr (force_rep S1 r1 ed)
  refine ⟨v, tp, [.ty (tyS t), .ty (tyS u)], _, [.type (tyS t), .type (tyS u)], isiD d t || isiD d u, rfl, upd_same, .cons (.ty _) (.cons (.ty _) .nil), tyY_D rd, ?_, k _ _ Fz1 (S1.grow gr) (E1.trans gr.ext) (by simp only [RepO, Rep])⟩
  refine kitAny_cons (kit_ty (kit_D d t)) (fun h => ?_) (fun h => by rw [h]; rfl)
  rw [h, Bool.false_or]
  refine kitAny_cons (kit_ty (kit_D d u)) (fun h2 => by rw [h2]; rfl) (fun h2 => h2)
/-! ### methods that read -/
theorem few_ok {cpos : Pos} {env : Env} : ∀ {ps : List PySem.Expr}, plainL ps = true → ps.length < 25 →
    ((backTo cpos (starEach ps env)).all (fun x => !x.1) && (backToKw cpos (keywordEach [] env)).all (fun x => x.1.isSome) && decide (ps.length + ([] : List Keyword).length + (if ([] : List Keyword).isEmpty then 0 else 1) < 30)) = true := by
  intro ps h1 h2
  have e1 : (backTo cpos (starEach ps env)).all (fun x => !x.1) = true := by
    have := plainL_any (pos := cpos) (env := env) h1
    rw [← backTo_any (pos := cpos)] at this
    rw [List.any_eq_false] at this
    rw [List.all_eq_true]
    intro x hx
    simpa using this x hx
  rw [e1]
  have e2 : (backToKw cpos (keywordEach [] env)).all (fun x => x.1.isSome) = true := rfl
  rw [e2]
  simp
  omega
theorem pe_or {p : PySem.Expr} {t t' : TE} (h : PE X p t) (h' : PE X p t') : PE X p (fun σ H Q => t σ H Q ∨ t' σ H Q) :=
  ⟨fun pins s σ H Q I q => q.elim (h.run pins s σ H Q I) (h'.run pins s σ H Q I)⟩
theorem pe_ex {p : PySem.Expr} {α : Type} {t : α → TE} (h : ∀ a, PE X p (t a)) : PE X p (fun σ H Q => ∃ a, t a σ H Q) :=
  ⟨fun pins s σ H Q I ⟨a, q⟩ => (h a).run pins s σ H Q I q⟩
theorem MtR.ex {id : String} {α : Type} {r : α → V → List V → Hp → VK → Prop} (h : ∀ a, MtR X id (r a)) : MtR X id (fun x xs H Q => ∃ a, r a x xs H Q) :=
  fun pins s σ H x xs v us Q I rx rs ⟨a, q⟩ => h a pins s σ H x xs v us Q I rx rs q
theorem mth_call {T id : String} {name : Str} {r : V → List V → Hp → VK → Prop} {to : TE} {t : TA} {o : PySem.Expr} {ps : List PySem.Expr} {apos cpos : Pos} (pa : PlainAttrs T) (slot : Slot T name id) (hty : typeOf (.builtin id) = pure (.type "method_descriptor")) (hm : MtR X id r)
    (hs : notSup o = true) (hline : (apos.endLine == cpos.line) = true) (hne : ps ≠ []) (hp : plainL ps = true) (hl : ps.length < 25) (ho : PE X o to) (ha : PA X ps t) : PE X (.Call (.Attribute o name apos) ps [] cpos) (tBMw (kwX X) T r to t) := by
  cases ps with
  | nil => exact absurd rfl hne
  | cons e es =>
    obtain ⟨q1, q2⟩ := plainL_cons hp
    exact pe_bmW pa slot hty hm ho ha (notSup_ok hs _ _ _) (few_ok hp hl) hline (nst_star q1 _ _) (by rw [backTo_any]; exact plainL_any (pos := cpos) q2)
theorem tag_str {d : D} (h : tag d = 1) : ∃ s, d = .str s := by
  cases d <;> simp [tag] at h
  exact ⟨_, rfl⟩
theorem tag_tup {d : D} (h : tag d = 2) : ∃ s, d = .tup s := by
  cases d <;> simp [tag] at h
  exact ⟨_, rfl⟩
theorem tag_lst {d : D} (h : tag d = 3) : ∃ s, d = .lst s := by
  cases d <;> simp [tag] at h
  exact ⟨_, rfl⟩
theorem tag_dk {d : D} (h : tag d = 4) : ∃ ks vs, d = .dk ks vs := by
  cases d <;> simp [tag] at h
  exact ⟨_, _, rfl⟩
/-- the evaluator's way through a method -/
theorem evMth {m : Mt} {o : E} {es : Es} {sd sd' : SD} {r : Opd} (e : evE C (.mth m o es) sd = some (r, sd')) :
    ∃ x d0 y d ds, evE C o sd = some x ∧ force x.2 x.1 = some d0 ∧ evEs C es x.2 = some y ∧ force y.2 x.1 = some d ∧ tag d0 = tag d ∧ forceL y.2 y.1 = some ds ∧ mtD m d ds = some r ∧ sd' = y.2 := by
  simp only [evE, Option.bind_eq_some_iff] at e
  obtain ⟨x, ex, d0, e0, y, ey, d, ed, e⟩ := e
  split at e
  · rename_i ht
    simp only [Option.bind_eq_some_iff, Option.map_eq_some_iff] at e
    obtain ⟨ds, eds, r', er, e⟩ := e
    cases e
    exact ⟨x, d0, y, d, ds, ex, e0, ey, ed, ht, eds, er, rfl⟩
  · cases e
theorem s_mth {m : Mt} {o : E} {es : Es} {p : PySem.Expr} {ps : List PySem.Expr} {apos cpos : Pos} (hu : X.A.units + 64 < cLine) (hK : g.K = (kwX X)) (hk : mtOk m = true) (hs : notSup p = true) (hline : (apos.endLine == cpos.line) = true) (hne : ps ≠ []) (hl : ps.length < 25)
    (hm : mEs pr N se es ps = true) (ho : PE X p (tR g (evE C o))) (ha : PA X ps (tRs g (evEs C es))) : PE X (.Call (.Attribute p (mtS m) apos) ps [] cpos) (tR g (evE C (.mth m o es))) := by
  obtain ⟨gK, gHe, gFz0, gmp, gnp⟩ := g
  obtain rfl : gK = (kwX X) := hK
  cases m <;> simp only [mtOk] at hk <;> try (cases hk; done)
  · refine PE.to (mth_call PySem.F.plainAttrs_tuple PySem.F.slot_tuple_index PySem.F.type_tuple_index (MtR.ex fun Fz => mt_tupIx (Fz := Fz)) hs hline hne (mEs_plain hm) hl ho ha) fun σ H Q ⟨sd, Fz, o', sd', S, e, k⟩ => ?_
    obtain ⟨x, d0, y, d, ds, ex, e0, ey, ed, ht, eds, er, rfl⟩ := evMth e
    have hd : ∃ e', ds = [e'] ∧ tupIxD d e' = some o' := by
      match ds, er with
      | [], er => simp [mtD] at er
      | [e'], er => exact ⟨e', rfl, er⟩
      | _ :: _ :: _, er => simp [mtD] at er
    obtain ⟨e', rfl, hi⟩ := hd
    have ht' : tag d0 = 2 := by rw [ht]; cases d <;> simp only [tupIxD] at hi <;> first | rfl | cases hi
    obtain ⟨xs, rfl⟩ := tag_tup ht'
    refine ⟨sd, Fz, x.1, x.2, S, ex, fun v H1 Fz1 S1 E1 r1 => ⟨.inr (.inl ⟨rfl, ?_⟩), x.2, Fz1, y.1, y.2, S1, ey, fun vs H2 Fz2 S2 E2 r2 => ?_⟩⟩
    · obtain ⟨a, ws, rfl, ha, _⟩ := (force_rep S1 r1 e0).tup
      exact ⟨a, ws, rfl, ha⟩
    · obtain ⟨w, rfl, rw'⟩ := (forceL_rep S2 r2 eds).one
      exact ⟨Fz2, _, _, w, _, rfl, force_rep S2 (r1.ext S1 E2) ed, rw', hi, Res.fin S2 (E1.trans E2) k⟩
  · refine PE.to (pe_or (mth_call PySem.F.plainAttrs_list PySem.F.slot_list_count PySem.F.type_list_count (MtR.ex fun Fz => mt_lcnt (Fz := Fz) hu) hs hline hne (mEs_plain hm) hl ho ha)
      (mth_call PySem.F.plainAttrs_tuple PySem.F.slot_tuple_count PySem.F.type_tuple_count (MtR.ex fun Fz => mt_tcnt (Fz := Fz) hu) hs hline hne (mEs_plain hm) hl ho ha)) fun σ H Q ⟨sd, Fz, o', sd', S, e, k⟩ => ?_
    obtain ⟨x, d0, y, d, ds, ex, e0, ey, ed, ht, eds, er, rfl⟩ := evMth e
    have hd : ∃ e', ds = [e'] ∧ cntD d e' = some o' := by
      match ds, er with
      | [], er => simp [mtD] at er
      | [e'], er => exact ⟨e', rfl, er⟩
      | _ :: _ :: _, er => simp [mtD] at er
    obtain ⟨e', rfl, hi⟩ := hd
    cases d <;> simp only [cntD] at hi <;> try (cases hi; done)
    · obtain ⟨xs, rfl⟩ := tag_tup (show tag d0 = 2 by rw [ht]; rfl)
      refine .inr ⟨sd, Fz, x.1, x.2, S, ex, fun v H1 Fz1 S1 E1 r1 => ⟨.inr (.inl ⟨rfl, ?_⟩), x.2, Fz1, y.1, y.2, S1, ey, fun vs H2 Fz2 S2 E2 r2 => ?_⟩⟩
      · obtain ⟨a, ws, rfl, ha, _⟩ := (force_rep S1 r1 e0).tup
        exact ⟨a, ws, rfl, ha⟩
      · obtain ⟨w, rfl, rw'⟩ := (forceL_rep S2 r2 eds).one
        exact ⟨Fz2, _, _, w, _, rfl, force_rep S2 (r1.ext S1 E2) ed, rw', hi, Res.fin S2 (E1.trans E2) k⟩
    · obtain ⟨xs, rfl⟩ := tag_lst (show tag d0 = 3 by rw [ht]; rfl)
      refine .inl ⟨sd, Fz, x.1, x.2, S, ex, fun v H1 Fz1 S1 E1 r1 => ⟨.inl ?_, x.2, Fz1, y.1, y.2, S1, ey, fun vs H2 Fz2 S2 E2 r2 => ?_⟩⟩
      · obtain ⟨a, ws, rfl, ha, _⟩ := (force_rep S1 r1 e0).lst
        exact .inl ⟨rfl, ws, SqL.of ha⟩
      · obtain ⟨w, rfl, rw'⟩ := (forceL_rep S2 r2 eds).one
        exact ⟨Fz2, _, _, w, _, rfl, force_rep S2 (r1.ext S1 E2) ed, rw', hi, Res.fin S2 (E1.trans E2) k⟩
  · refine PE.to (mth_call PySem.F.plainAttrs_str PySem.F.slot_str_join PySem.F.type_str_join (MtR.ex fun Fz => mt_joinD (Fz := Fz)) hs hline hne (mEs_plain hm) hl ho ha) fun σ H Q ⟨sd, Fz, o', sd', S, e, k⟩ => ?_
    obtain ⟨x, d0, y, d, ds, ex, e0, ey, ed, ht, eds, er, rfl⟩ := evMth e
    have hd : ∃ e', ds = [e'] ∧ joinD d e' = some o' := by
      match ds, er with
      | [], er => simp [mtD] at er
      | [e'], er => exact ⟨e', rfl, er⟩
      | _ :: _ :: _, er => simp [mtD] at er
    obtain ⟨e', rfl, hi⟩ := hd
    have ht' : tag d0 = 1 := by rw [ht]; cases d <;> simp only [joinD] at hi <;> first | rfl | cases hi
    obtain ⟨xs, rfl⟩ := tag_str ht'
    refine ⟨sd, Fz, x.1, x.2, S, ex, fun v H1 Fz1 S1 E1 r1 => ⟨.inl ?_, x.2, Fz1, y.1, y.2, S1, ey, fun vs H2 Fz2 S2 E2 r2 => ?_⟩⟩
    · rw [(force_rep S1 r1 e0).str]
      exact rfl
    · obtain ⟨w, rfl, rw'⟩ := (forceL_rep S2 r2 eds).one
      exact ⟨Fz2, _, _, w, _, rfl, force_rep S2 (r1.ext S1 E2) ed, rw', hi, Res.fin S2 (E1.trans E2) k⟩
  · refine PE.to (mth_call PySem.F.plainAttrs_dict PySem.F.slot_dict_get PySem.F.type_dict_get (MtR.ex fun Fz => mt_getD (Fz := Fz) hu) hs hline hne (mEs_plain hm) hl ho ha) fun σ H Q ⟨sd, Fz, o', sd', S, e, k⟩ => ?_
    obtain ⟨x, d0, y, d, ds, ex, e0, ey, ed, ht, eds, er, rfl⟩ := evMth e
    have ht' : tag d0 = 4 := by
      rw [ht]
      match ds, er with
      | [], er => simp [mtD] at er
      | [_], er => simp [mtD] at er
      | [e', f'], er =>
        have er : getD2 d e' f' = some o' := er
        cases d <;> simp only [getD2] at er <;> first | rfl | cases er
      | _ :: _ :: _ :: _, er => simp [mtD] at er
    obtain ⟨ks, ws, rfl⟩ := tag_dk ht'
    refine ⟨sd, Fz, x.1, x.2, S, ex, fun v H1 Fz1 S1 E1 r1 => ⟨.inr (.inr ⟨rfl, ?_⟩), x.2, Fz1, y.1, y.2, S1, ey, fun vs H2 Fz2 S2 E2 r2 => ?_⟩⟩
    · obtain ⟨a, es, rfl, ha, _⟩ := RepF.dk (force_rep S1 r1 e0)
      exact ⟨a, es, rfl, ha⟩
    · exact ⟨Fz2, _, _, _, force_rep S2 (r1.ext S1 E2) ed, forceL_rep S2 r2 eds, er, Res.fin S2 (E1.trans E2) k⟩
  · refine PE.to (mth_call PySem.F.plainAttrs_str PySem.F.slot_str_strip PySem.F.type_str_strip (MtR.ex fun Fz => mt_stripD (Fz := Fz)) hs hline hne (mEs_plain hm) hl ho ha) fun σ H Q ⟨sd, Fz, o', sd', S, e, k⟩ => ?_
    obtain ⟨x, d0, y, d, ds, ex, e0, ey, ed, ht, eds, er, rfl⟩ := evMth e
    have hd : ∃ e', ds = [e'] ∧ stripD d e' = some o' := by
      match ds, er with
      | [], er => simp [mtD] at er
      | [e'], er => exact ⟨e', rfl, er⟩
      | _ :: _ :: _, er => simp [mtD] at er
    obtain ⟨e', rfl, hi⟩ := hd
    have ht' : tag d0 = 1 := by rw [ht]; cases d <;> simp only [stripD] at hi <;> first | rfl | cases hi
    obtain ⟨xs, rfl⟩ := tag_str ht'
    refine ⟨sd, Fz, x.1, x.2, S, ex, fun v H1 Fz1 S1 E1 r1 => ⟨.inl ?_, x.2, Fz1, y.1, y.2, S1, ey, fun vs H2 Fz2 S2 E2 r2 => ?_⟩⟩
    · rw [(force_rep S1 r1 e0).str]
      exact rfl
    · obtain ⟨w, rfl, rw'⟩ := (forceL_rep S2 r2 eds).one
      exact ⟨Fz2, _, _, w, _, rfl, force_rep S2 (r1.ext S1 E2) ed, rw', hi, Res.fin S2 (E1.trans E2) k⟩
  · refine PE.to (mth_call PySem.F.plainAttrs_str PySem.F.slot_str_split PySem.F.type_str_split (MtR.ex fun Fz => mt_splitD (Fz := Fz)) hs hline hne (mEs_plain hm) hl ho ha) fun σ H Q ⟨sd, Fz, o', sd', S, e, k⟩ => ?_
    obtain ⟨x, d0, y, d, ds, ex, e0, ey, ed, ht, eds, er, rfl⟩ := evMth e
    have hd : ∃ e', ds = [e'] ∧ splitD d e' = some o' := by
      match ds, er with
      | [], er => simp [mtD] at er
      | [e'], er => exact ⟨e', rfl, er⟩
      | _ :: _ :: _, er => simp [mtD] at er
    obtain ⟨e', rfl, hi⟩ := hd
    have ht' : tag d0 = 1 := by rw [ht]; cases d <;> simp only [splitD] at hi <;> first | rfl | cases hi
    obtain ⟨xs, rfl⟩ := tag_str ht'
    refine ⟨sd, Fz, x.1, x.2, S, ex, fun v H1 Fz1 S1 E1 r1 => ⟨.inl ?_, x.2, Fz1, y.1, y.2, S1, ey, fun vs H2 Fz2 S2 E2 r2 => ?_⟩⟩
    · rw [(force_rep S1 r1 e0).str]
      exact rfl
    · obtain ⟨w, rfl, rw'⟩ := (forceL_rep S2 r2 eds).one
      exact ⟨Fz2, _, _, w, _, rfl, force_rep S2 (r1.ext S1 E2) ed, rw', hi, Res.fin S2 (E1.trans E2) k⟩
end
end Ev

set_option linter.all false
set_option autoImplicit false
set_option Elab.async false
set_option maxRecDepth 100000
set_option maxHeartbeats 4000000
/-! EvH4: calls of defs. -/
namespace Ev
open PySem PySem.Spec L2
/-- the slots handed in to be changed, the others -/
def mutSl : List Bool → List Opd → List Nat
  | true :: ms, .slot i :: os => i :: mutSl ms os
  | _ :: ms, _ :: os => mutSl ms os
  | _, _ => []
def lentSl (sd : SD) : List Bool → List Opd → List Nat
  | false :: ms, .slot i :: os => if mutAt sd i then i :: lentSl sd ms os else lentSl sd ms os
  | _ :: ms, _ :: os => lentSl sd ms os
  | _, _ => []
def ArgV (g : Gc) (σ : L2.St) (H : Hp) (Fz : Addr → Prop) : List Bool → List Opd → List V → Prop
  | [], [], vs => vs = []
  | m :: ms, o :: os, vs => ∃ v r, vs = v :: r ∧ (match o with
      | .slot i => σ[i]? = some (some v)
      | o => m = false ∧ ∀ d, strict o = some d → Rep g.K Fz H d v) ∧ ArgV g σ H Fz ms os r
  | _, _, _ => False
theorem nodupN_cons {i : Nat} {l : List Nat} (h : nodupN (i :: l) = true) : i ∉ l ∧ nodupN l = true := by
  simp only [nodupN, Bool.and_eq_true, Bool.not_eq_true'] at h
  exact ⟨by simpa using h.1, h.2⟩
theorem mutSl_sub : ∀ {ms : List Bool} {os : List Opd} {i : Nat}, i ∈ mutSl ms os → i ∈ slotsOf os
  | [], os, i, h => by simp [mutSl] at h
  | m :: ms, [], i, h => by cases m <;> simp [mutSl] at h
  | m :: ms, o :: os, i, h => by
    cases o with
    | slot j =>
      cases m with
      | true =>
        simp only [mutSl, List.mem_cons] at h
        simp only [slotsOf, List.mem_cons]
        exact h.imp id fun h => mutSl_sub h
      | false =>
        simp only [mutSl] at h
        simp only [slotsOf, List.mem_cons]
        exact .inr (mutSl_sub h)
    | _ =>
      simp only [slotsOf]
      exact mutSl_sub (ms := ms) (by cases m <;> simpa only [mutSl] using h)
theorem lentSl_sub {sd : SD} : ∀ {ms : List Bool} {os : List Opd} {i : Nat}, i ∈ lentSl sd ms os → i ∈ slotsOf os
  | [], os, i, h => by simp [lentSl] at h
  | m :: ms, [], i, h => by cases m <;> simp [lentSl] at h
  | m :: ms, o :: os, i, h => by
    cases o with
    | slot j =>
      simp only [slotsOf, List.mem_cons]
      cases m with
      | true =>
        simp only [lentSl] at h
        exact .inr (lentSl_sub h)
      | false =>
        simp only [lentSl] at h
        split at h
        · simp only [List.mem_cons] at h
          exact h.imp id fun h => lentSl_sub h
        · exact .inr (lentSl_sub h)
    | _ =>
      simp only [slotsOf]
      exact lentSl_sub (ms := ms) (by cases m <;> simpa only [lentSl] using h)
theorem lentSl_mut {sd : SD} : ∀ {ms : List Bool} {os : List Opd} {i : Nat}, i ∈ lentSl sd ms os → mutAt sd i = true
  | [], os, i, h => by simp [lentSl] at h
  | m :: ms, [], i, h => by cases m <;> simp [lentSl] at h
  | m :: ms, o :: os, i, h => by
    cases o with
    | slot j =>
      cases m with
      | true =>
        simp only [lentSl] at h
        exact lentSl_mut h
      | false =>
        simp only [lentSl] at h
        split at h
        · rename_i hj
          simp only [List.mem_cons] at h
          rcases h with h | h
          · rw [h]; exact hj
          · exact lentSl_mut h
        · exact lentSl_mut h
    | _ => exact lentSl_mut (ms := ms) (by cases m <;> simpa only [lentSl] using h)
theorem sl_disj {sd : SD} : ∀ {ms : List Bool} {os : List Opd} {i : Nat}, nodupN (slotsOf os) = true → i ∈ mutSl ms os → i ∈ lentSl sd ms os → False
  | [], os, i, _, h, _ => by simp [mutSl] at h
  | m :: ms, [], i, _, h, _ => by cases m <;> simp [mutSl] at h
  | m :: ms, o :: os, i, n, h, q => by
    cases o with
    | slot j =>
      simp only [slotsOf] at n
      obtain ⟨n1, n2⟩ := nodupN_cons n
      cases m with
      | true =>
        simp only [mutSl, List.mem_cons] at h
        simp only [lentSl] at q
        rcases h with h | h
        · subst h; exact n1 (lentSl_sub q)
        · exact sl_disj n2 h q
      | false =>
        simp only [mutSl] at h
        simp only [lentSl] at q
        split at q
        · simp only [List.mem_cons] at q
          rcases q with q | q
          · subst q; exact n1 (mutSl_sub h)
          · exact sl_disj n2 h q
        · exact sl_disj n2 h q
    | _ =>
      exact sl_disj (ms := ms) (by simpa only [slotsOf] using n) (by cases m <;> simpa only [mutSl] using h) (by cases m <;> simpa only [lentSl] using q)
theorem lent_nil {sd : SD} : ∀ {ms : List Bool} {os : List Opd}, lent sd ms os = false → lentSl sd ms os = []
  | [], os, _ => by simp [lentSl]
  | m :: ms, [], _ => by cases m <;> simp [lentSl]
  | m :: ms, o :: os, h => by
    cases o with
    | slot j =>
      cases m with
      | true =>
        simp only [lent] at h
        simp only [lentSl]
        exact lent_nil h
      | false =>
        simp only [lent, Bool.or_eq_false_iff] at h
        simp only [lentSl, h.1, Bool.false_eq_true, if_false]
        exact lent_nil h.2
    | _ =>
      have h' : lent sd ms os = false := by cases m <;> simpa only [lent] using h
      have := lent_nil h'
      cases m <;> simpa only [lentSl] using this
section
variable {g : Gc} {sd : SD} {σ : L2.St} {H H0 H' : Hp}
/-- new arguments are given up -/
theorem argV_of : ∀ {ms : List Bool} {os : List Opd} {vs : List V} {as : List Sl} {Fz : Addr → Prop}, SRel g sd σ H Fz → ROs g sd σ H0 H Fz os vs → argsOf sd ms os = some as →
    ∃ Fz', SRel g sd σ H Fz' ∧ (∀ a, Fz a → Fz' a) ∧ (∀ a, Fz' a → Fz a ∨ a ∈ newAs os vs) ∧ ArgV g σ H Fz' ms os vs
  | [], [], vs, as, Fz, S, h, e => ⟨Fz, S, fun _ z => z, fun _ z => .inl z, h⟩
  | [], o :: os, vs, as, Fz, S, h, e => by simp [argsOf] at e
  | m :: ms, [], vs, as, Fz, S, h, e => by simp [argsOf] at e
  | m :: ms, o :: os, vs, as, Fz, S, h, e => by
    obtain ⟨v, r, rfl, h1, h2, h3⟩ := h
    have hrest : ∃ as', argsOf sd ms os = some as' := by
      simp only [argsOf] at e
      split at e
      · split at e
        · split at e
          · split at e
            · obtain ⟨r', hr, _⟩ := Option.map_eq_some_iff.mp e
              exact ⟨r', hr⟩
            · cases e
          · cases e
        · cases e
      · obtain ⟨d, _, e⟩ := Option.bind_eq_some_iff.mp e
        obtain ⟨r', hr, _⟩ := Option.map_eq_some_iff.mp e
        exact ⟨r', hr⟩
    obtain ⟨as', has⟩ := hrest
    have main : ∀ d, strict o = some d → m = false → ∃ Fz', SRel g sd σ H Fz' ∧ (∀ a, Fz a → Fz' a) ∧ (∀ a, Fz' a → Fz a ∨ a ∈ newAs (o :: os) (v :: r)) ∧ ArgV g σ H Fz' ms os r ∧ Rep g.K Fz' H d v := by
      intro d hd hm
      obtain ⟨Fz1, S1, m1, n1, r1⟩ := strict_rep S h1 hd
      have h2' : ROs g sd σ H0 H Fz1 os r := ROs.more m1 (fun a z f => (n1 a f).elim (newAs_nf h2 z) fun y => h3 a y z) h2
      obtain ⟨Fz2, S2, m2, n2, r2⟩ := argV_of S1 h2' has
      refine ⟨Fz2, S2, fun a z => m2 a (m1 a z), fun a z => ?_, r2, Rep.keep Keep.refl m2 _ _ r1⟩
      rcases n2 a z with z | z
      · rcases n1 a z with z | z
        · exact .inl z
        · exact .inr (by simp [newAs, z])
      · exact .inr (by simp [newAs, z])
    cases o with
    | slot i =>
      obtain ⟨Fz2, S2, m2, n2, r2⟩ := argV_of S h2 has
      exact ⟨Fz2, S2, m2, fun a z => (n2 a z).imp id fun z => by simp [newAs, z], v, r, rfl, h1, r2⟩
    | val d =>
      have hm : m = false := by
        cases m with
        | false => rfl
        | true => simp [argsOf] at e
      obtain ⟨Fz2, S2, m2, n2, r2, rd⟩ := main d rfl hm
      exact ⟨Fz2, S2, m2, n2, v, r, rfl, ⟨hm, fun d' hd => by cases hd; exact rd⟩, r2⟩
    | new xs =>
      have hm : m = false := by
        cases m with
        | false => rfl
        | true => simp [argsOf] at e
      obtain ⟨Fz2, S2, m2, n2, r2, rd⟩ := main _ rfl hm
      exact ⟨Fz2, S2, m2, n2, v, r, rfl, ⟨hm, fun d' hd => by cases hd; exact rd⟩, r2⟩
    | newd kvs =>
      have hm : m = false := by
        cases m with
        | false => rfl
        | true => simp [argsOf] at e
      obtain ⟨Fz2, S2, m2, n2, r2, rd⟩ := main _ rfl hm
      exact ⟨Fz2, S2, m2, n2, v, r, rfl, ⟨hm, fun d' hd => by cases hd; exact rd⟩, r2⟩
/-- the addresses lent -/
def LentA (sd : SD) (σ : L2.St) (ms : List Bool) (os : List Opd) (a : Addr) : Prop := ∃ i, i ∈ lentSl sd ms os ∧ σ[i]? = some (some (.ref a))
theorem AR_of {Fz Fc : Addr → Prop} (S : SRel g sd σ H Fz) (hF : ∀ a, Fz a → Fc a) : ∀ {ms : List Bool} {os : List Opd} {vs : List V} {as : List Sl}, ArgV g σ H Fz ms os vs → argsOf sd ms os = some as →
    (∀ i a, i ∈ lentSl sd ms os → σ[i]? = some (some (.ref a)) → Fc a) → (∀ i a, i ∈ mutSl ms os → σ[i]? = some (some (.ref a)) → ¬ Fc a) → AR g.K Fc H as vs
  | [], [], vs, as, h, e, _, _ => by
    simp only [argsOf] at e
    cases e
    exact h
  | [], o :: os, vs, as, h, e, _, _ => by simp [argsOf] at e
  | m :: ms, [], vs, as, h, e, _, _ => by simp [argsOf] at e
  | m :: ms, o :: os, vs, as, h, e, hl, hm => by
    obtain ⟨v, r, rfl, h1, h2⟩ := h
    simp only [argsOf] at e
    cases m with
    | true =>
      cases o with
      | slot i =>
        simp only at e h1
        split at e
        · rename_i s hs
          split at e
          · rename_i hmu
            obtain ⟨r', hr, rfl⟩ := Option.map_eq_some_iff.mp e
            have ih := AR_of S hF h2 hr (fun j a hj => hl j a (by simpa only [lentSl] using hj)) fun j a hj => hm j a (by simp only [mutSl, List.mem_cons]; exact .inr hj)
            refine ⟨v, r, rfl, ?_, ih⟩
            cases s with
            | none => simp [isMut] at hmu
            | v d => simp [isMut] at hmu
            | ml xs =>
              obtain ⟨a, ws, e1, e2, e3⟩ := S.mls i xs hs
              rw [h1] at e1
              cases e1
              exact ⟨a, ws, rfl, e2, RepL.keep Keep.refl hF _ _ e3, hm i a (by simp [mutSl]) h1⟩
            | mk kvs =>
              obtain ⟨a, ws, e1, e2, e3, e4⟩ := S.mks i kvs hs
              rw [h1] at e1
              cases e1
              exact ⟨a, ws, rfl, e2, e3, RepL.keep Keep.refl hF _ _ e4, hm i a (by simp [mutSl]) h1⟩
          · cases e
        · cases e
      | _ => cases h1.1
    | false =>
      simp only at e
      obtain ⟨d, ed, e⟩ := Option.bind_eq_some_iff.mp e
      obtain ⟨r', hr, rfl⟩ := Option.map_eq_some_iff.mp e
      have ih := AR_of S hF h2 hr (fun j a hj => hl j a (by
        cases o with
        | slot i =>
          simp only [lentSl]
          split
          · exact List.mem_cons_of_mem _ hj
          · exact hj
        | _ => simpa only [lentSl] using hj)) fun j a hj => hm j a (by cases o <;> simpa only [mutSl] using hj)
      refine ⟨v, r, rfl, ?_, ih⟩
      cases o with
      | slot i =>
        simp only at h1
        simp only [force] at ed
        split at ed
        · rename_i xs hs
          cases ed
          obtain ⟨a, ws, e1, e2, e3⟩ := S.mls i xs hs
          rw [h1] at e1
          cases e1
          have hmu := mutAt_ml hs
          simp only [Rep]
          exact ⟨a, ws, rfl, hl i a (by simp [lentSl, hmu]) h1, e2, RepL.keep Keep.refl hF _ _ e3⟩
        · rename_i kvs hs
          cases ed
          obtain ⟨a, ws, e1, e2, e3, e4⟩ := S.mks i kvs hs
          rw [h1] at e1
          cases e1
          have hmu := mutAt_mk hs
          simp only [Rep]
          exact ⟨a, ws, rfl, hl i a (by simp [lentSl, hmu]) h1, .inl e2, e3, RepL.keep Keep.refl hF _ _ e4⟩
        · rename_i hs
          cases ed
          obtain ⟨w, e1, e2⟩ := S.vals i _ hs
          rw [h1] at e1
          cases e1
          exact Rep.keep Keep.refl hF _ _ e2
        · cases ed
      | val d' => cases ed; exact Rep.keep Keep.refl hF _ _ (h1.2 _ rfl)
      | new xs => cases ed; exact Rep.keep Keep.refl hF _ _ (h1.2 _ rfl)
      | newd kvs => cases ed; exact Rep.keep Keep.refl hF _ _ (h1.2 _ rfl)
/-- what a call may change are the slots handed in -/
theorem muA_of {Fz : Addr → Prop} : ∀ {ms : List Bool} {os : List Opd} {vs : List V} {as : List Sl} {a : Addr}, ArgV g σ H Fz ms os vs → argsOf sd ms os = some as → a ∈ muA as vs → ∃ i, i ∈ mutSl ms os ∧ mutAt sd i = true ∧ σ[i]? = some (some (.ref a))
  | [], [], vs, as, a, h, e, m => by
    simp only [argsOf] at e
    cases e
    simp [muA] at m
  | [], o :: os, vs, as, a, h, e, _ => by simp [argsOf] at e
  | m :: ms, [], vs, as, a, h, e, _ => by simp [argsOf] at e
  | m :: ms, o :: os, vs, as, a, h, e, hm => by
    obtain ⟨v, r, rfl, h1, h2⟩ := h
    simp only [argsOf] at e
    cases m with
    | true =>
      cases o with
      | slot i =>
        simp only at e h1
        split at e
        · rename_i s hs
          split at e
          · rename_i hmu
            obtain ⟨r', hr, rfl⟩ := Option.map_eq_some_iff.mp e
            simp only [muA, hmu, List.mem_append] at hm
            rcases hm with hm | hm
            · have hv : v = .ref a := by
                cases v <;> simp at hm
                rw [hm]
              subst hv
              exact ⟨i, by simp [mutSl], by simp [mutAt, hs, hmu], h1⟩
            · obtain ⟨j, hj, q⟩ := muA_of h2 hr hm
              exact ⟨j, by simp only [mutSl, List.mem_cons]; exact .inr hj, q⟩
          · cases e
        · cases e
      | _ => cases h1.1
    | false =>
      simp only at e
      obtain ⟨d, ed, e⟩ := Option.bind_eq_some_iff.mp e
      obtain ⟨r', hr, rfl⟩ := Option.map_eq_some_iff.mp e
      simp only [muA, isMut, List.mem_append, List.not_mem_nil, false_or] at hm
      obtain ⟨j, hj, q⟩ := muA_of h2 hr hm
      exact ⟨j, by cases o <;> simpa only [mutSl] using hj, q⟩
theorem muA_nodup {Fz : Addr → Prop} (S : SRel g sd σ H Fz) : ∀ {ms : List Bool} {os : List Opd} {vs : List V} {as : List Sl}, nodupN (slotsOf os) = true → ArgV g σ H Fz ms os vs → argsOf sd ms os = some as → (muA as vs).Nodup
  | [], [], vs, as, n, h, e => by
    simp only [argsOf] at e
    cases e
    simp [muA]
  | [], o :: os, vs, as, n, h, e => by simp [argsOf] at e
  | m :: ms, [], vs, as, n, h, e => by simp [argsOf] at e
  | m :: ms, o :: os, vs, as, n, h, e => by
    obtain ⟨v, r, rfl, h1, h2⟩ := h
    simp only [argsOf] at e
    cases m with
    | true =>
      cases o with
      | slot i =>
        simp only at e h1
        simp only [slotsOf] at n
        obtain ⟨n1, n2⟩ := nodupN_cons n
        split at e
        · rename_i s hs
          split at e
          · rename_i hmu
            obtain ⟨r', hr, rfl⟩ := Option.map_eq_some_iff.mp e
            have ih := muA_nodup S n2 h2 hr
            simp only [muA, hmu]
            cases v <;> simp only [List.nil_append, List.cons_append, List.nodup_cons] <;> try exact ih
            refine ⟨fun z => ?_, ih⟩
            obtain ⟨j, hj, q1, q2⟩ := muA_of h2 hr z
            have := S.inj i j _ (by simp [mutAt, hs, hmu]) q1 h1 q2
            subst this
            exact n1 (mutSl_sub hj)
          · cases e
        · cases e
      | _ => cases h1.1
    | false =>
      simp only at e
      obtain ⟨d, ed, e⟩ := Option.bind_eq_some_iff.mp e
      obtain ⟨r', hr, rfl⟩ := Option.map_eq_some_iff.mp e
      simp only [muA, isMut, List.nil_append]
      refine muA_nodup S ?_ h2 hr
      cases o <;> simp only [slotsOf] at n <;> try exact n
      exact (nodupN_cons n).2
/-- where the changed arguments are written back -/
theorem wb_other : ∀ {ms : List Bool} {os : List Opd} {ss : List Sl} {sd : SD} {j : Nat}, j ∉ mutSl ms os → (wb ms os ss sd)[j]? = sd[j]?
  | [], os, ss, sd, j, _ => by simp [wb]
  | m :: ms, [], ss, sd, j, _ => by cases m <;> simp [wb]
  | m :: ms, o :: os, ss, sd, j, h => by
    cases m with
    | true =>
      cases o with
      | slot i =>
        simp only [mutSl, List.mem_cons, not_or] at h
        cases ss with
        | nil => simp [wb]
        | cons s ss =>
          simp only [wb]
          rw [wb_other h.2, List.getElem?_set_ne (Ne.symm h.1)]
      | _ => simp [wb]
    | false =>
      simp only [wb]
      exact wb_other (by cases o <;> simpa only [mutSl] using h)
theorem wb_len : ∀ {ms : List Bool} {os : List Opd} {ss : List Sl} {sd : SD}, (wb ms os ss sd).length = sd.length
  | [], os, ss, sd => by simp [wb]
  | m :: ms, [], ss, sd => by cases m <;> simp [wb]
  | m :: ms, o :: os, ss, sd => by
    cases m with
    | true =>
      cases o with
      | slot i =>
        cases ss with
        | nil => simp [wb]
        | cons s ss =>
          simp only [wb]
          rw [wb_len, List.length_set]
      | _ => simp [wb]
    | false =>
      simp only [wb]
      exact wb_len
/-- what stands in a slot handed in, behind the call -/
theorem wb_at {Fz Fz' : Addr → Prop} {sd0 : SD} (S : SRel g sd0 σ H Fz) : ∀ {ms : List Bool} {os : List Opd} {vs : List V} {as ss : List Sl} {sd : SD}, nodupN (slotsOf os) = true → ArgV g σ H Fz ms os vs → argsOf sd0 ms os = some as → sd.length = sd0.length → OutR g.K Fz' H' ss (muA as vs) →
    ∀ j, j ∈ mutSl ms os → ∃ s a, (wb ms os ss sd)[j]? = some s ∧ σ[j]? = some (some (.ref a)) ∧ s ∈ ss ∧ (match s with
      | .ml xs => ∃ ws, H' a = some (.lst ws) ∧ RepL g.K Fz' H' xs ws
      | .mk kvs => ∃ es, H' a = some (dO g.K.w a es) ∧ KysR g.K H' (kvs.map (·.1)) (es.map (·.1)) ∧ RepL g.K Fz' H' (kvs.map (·.2)) (es.map (·.2))
      | _ => False)
  | [], os, vs, as, ss, sd, _, _, _, _, _, j, hj => by simp [mutSl] at hj
  | m :: ms, [], vs, as, ss, sd, _, _, _, _, _, j, hj => by cases m <;> simp [mutSl] at hj
  | m :: ms, o :: os, vs, as, ss, sd, n, h, e, hlen, ho, j, hj => by
    obtain ⟨v, r, rfl, h1, h2⟩ := h
    simp only [argsOf] at e
    cases m with
    | true =>
      cases o with
      | slot i =>
        simp only at e h1
        simp only [slotsOf] at n
        obtain ⟨n1, n2⟩ := nodupN_cons n
        split at e
        · rename_i s0 hs
          split at e
          · rename_i hmu
            obtain ⟨r', hr, rfl⟩ := Option.map_eq_some_iff.mp e
            have hv : ∃ a, v = .ref a := by
              cases s0 with
              | none => simp [isMut] at hmu
              | v d => simp [isMut] at hmu
              | ml xs =>
                obtain ⟨a, ws, e1, _⟩ := S.mls i xs hs
                rw [h1] at e1
                cases e1
                exact ⟨a, rfl⟩
              | mk kvs =>
                obtain ⟨a, ws, e1, _⟩ := S.mks i kvs hs
                rw [h1] at e1
                cases e1
                exact ⟨a, rfl⟩
            obtain ⟨a, rfl⟩ := hv
            simp only [muA, hmu, List.cons_append, List.nil_append] at ho
            cases ss with
            | nil => simp [OutR] at ho
            | cons s ss =>
              simp only [OutR] at ho
              obtain ⟨a', as', ea, hc, ho⟩ := ho
              cases ea
              simp only [wb]
              simp only [mutSl, List.mem_cons] at hj
              by_cases hji : j = i
              · subst hji
                refine ⟨s, a, ?_, h1, List.mem_cons_self, hc⟩
                rw [wb_other fun z => n1 (mutSl_sub z), List.getElem?_set_self]
                rw [hlen]
                exact (List.getElem?_eq_some_iff.mp hs).1
              · have hj' : j ∈ mutSl ms os := hj.elim (fun z => absurd z hji) id
                obtain ⟨s', b, q1, q2, q3, q4⟩ := wb_at (sd := sd.set i s) S n2 h2 hr (by simpa using hlen) ho j hj'
                exact ⟨s', b, q1, q2, List.mem_cons_of_mem _ q3, q4⟩
          · cases e
        · cases e
      | _ => cases h1.1
    | false =>
      simp only at e
      obtain ⟨d, ed, e⟩ := Option.bind_eq_some_iff.mp e
      obtain ⟨r', hr, rfl⟩ := Option.map_eq_some_iff.mp e
      simp only [muA, isMut, List.nil_append] at ho
      simp only [wb]
      refine wb_at S (by
        cases o <;> simp only [slotsOf] at n <;> try exact n
        exact (nodupN_cons n).2) h2 hr hlen ho j (by cases o <;> simpa only [mutSl] using hj)
theorem purS_mem : ∀ {ss : List Sl} {s : Sl}, purS ss = true → s ∈ ss → (match s with
    | .ml xs => D.purL xs = true
    | .mk kvs => D.purL (kvs.map (·.2)) = true
    | _ => True)
  | [], s, _, h => by simp at h
  | x :: r, s, p, h => by
    rcases List.mem_cons.mp h with rfl | h
    · cases s with
      | none => trivial
      | v d => trivial
      | ml xs => simp only [purS, Bool.and_eq_true] at p; exact p.1
      | mk kvs => simp only [purS, Bool.and_eq_true] at p; exact p.1
    · refine purS_mem (ss := r) ?_ h
      cases x <;> simp only [purS, Bool.and_eq_true] at p <;> first
        | exact p
        | exact p.2
theorem mutSl_mut {sd : SD} {j : Nat} : ∀ {ms : List Bool} {os : List Opd} {as : List Sl}, argsOf sd ms os = some as → j ∈ mutSl ms os → mutAt sd j = true := by
  intro ms
  induction ms with
  | nil => intro os as e h; simp [mutSl] at h
  | cons m ms ih =>
    intro os as e h
    cases os with
    | nil => cases m <;> simp [mutSl] at h
    | cons o os =>
      simp only [argsOf] at e
      cases m with
      | true =>
        cases o with
        | slot i =>
          simp only at e
          split at e
          · rename_i s0 hs
            split at e
            · rename_i hmu
              obtain ⟨r', hr, _⟩ := Option.map_eq_some_iff.mp e
              simp only [mutSl, List.mem_cons] at h
              rcases h with rfl | h
              · simp [mutAt, hs, hmu]
              · exact ih hr h
            · cases e
          · cases e
        | _ => simp at e
      | false =>
        simp only at e
        obtain ⟨d, ed, e⟩ := Option.bind_eq_some_iff.mp e
        obtain ⟨r', hr, _⟩ := Option.map_eq_some_iff.mp e
        exact ih hr (by cases o <;> simpa only [mutSl] using h)
/-- THE CALL's end, seen from the caller -/
theorem call_back {Fz Fzc : Addr → Prop} {ms : List Bool} {os : List Opd} {vs : List V} {as outs : List Sl} {r : Opd} {v : V} (S : SRel g sd σ H Fz) (n : nodupN (slotsOf os) = true) (A : ArgV g σ H Fz ms os vs) (e : argsOf sd ms os = some as)
    (hl : (lent sd ms os && !(purO r && purS outs)) = false)
    (k1 : ∀ a o, H a = some o → a ∉ muA as vs → H' a = some o) (k2 : ∀ a, H a ≠ none → H' a ≠ none) (k3 : ∀ a, (Fz a ∨ LentA sd σ ms os a) → Fzc a) (k4 : ∀ a, Fzc a → (Fz a ∨ LentA sd σ ms os a) ∨ H a = none) (k5 : ∀ a, Fzc a → ∃ o, H' a = some o)
    (kr : RetO g.K Fzc H H' r v) (ko : OutR g.K Fzc H' outs (muA as vs)) :
    ∃ Fz', SRel g (wb ms os outs sd) σ H' Fz' ∧ Ext sd σ H Fz (wb ms os outs sd) H' Fz' ∧ RepO g (wb ms os outs sd) σ H H' Fz' r v := by
  have mu_sub : ∀ a, a ∈ muA as vs → Mu sd σ a := fun a h => by
    obtain ⟨i, _, h1, h2⟩ := muA_of A e h
    exact ⟨i, h1, h2⟩
  have lm : ∀ a, LentA sd σ ms os a → Mu sd σ a := fun a ⟨i, hi, e⟩ => ⟨i, lentSl_mut hi, e⟩
  have nf : ∀ a, Fz a → ¬ LentA sd σ ms os a := fun a f l => S.mu_nfz (lm a l) f
  -- what is given up, behind
  refine ⟨fun a => Fzc a ∧ ¬ LentA sd σ ms os a, ?_⟩
  have fsub : ∀ a, Fz a → Fzc a ∧ ¬ LentA sd σ ms os a := fun a f => ⟨k3 a (.inl f), nf a f⟩
  have fback : ∀ a, (Fzc a ∧ ¬ LentA sd σ ms os a) → Fz a ∨ H a = none := fun a ⟨f, l⟩ => by
    rcases k4 a f with (z | z) | z
    · exact .inl z
    · exact absurd z l
    · exact .inr z
  -- lent or pure
  have lp : (∀ a, Fzc a → Fzc a ∧ ¬ LentA sd σ ms os a) ∨ (purO r = true ∧ purS outs = true) := by
    cases q : lent sd ms os with
    | false =>
      refine .inl fun a f => ⟨f, fun ⟨i, hi, _⟩ => ?_⟩
      rw [lent_nil q] at hi
      cases hi
    | true =>
      rw [q] at hl
      simp only [Bool.true_and, Bool.not_eq_false', Bool.and_eq_true] at hl
      exact .inr hl
  have toR : ∀ {d : D} {v : V}, (purO r = true ∧ purS outs = true → D.pur d = true) → Rep g.K Fzc H' d v → Rep g.K (fun a => Fzc a ∧ ¬ LentA sd σ ms os a) H' d v := fun hp rp => by
    rcases lp with z | z
    · exact Rep.keep Keep.refl z _ _ rp
    · exact Rep.pur _ _ (hp z) rp
  have toRL : ∀ {d : List D} {v : List V}, (purO r = true ∧ purS outs = true → D.purL d = true) → RepL g.K Fzc H' d v → RepL g.K (fun a => Fzc a ∧ ¬ LentA sd σ ms os a) H' d v := fun hp rp => by
    rcases lp with z | z
    · exact RepL.keep Keep.refl z _ _ rp
    · exact RepL.pur _ _ (hp z) rp
  have mutKeep : ∀ j, mutAt (wb ms os outs sd) j = true → mutAt sd j = true := fun j h => by
    by_cases hj : j ∈ mutSl ms os
    · -- it was handed in to be changed
      obtain ⟨s, a, q1, q2, q3, q4⟩ := wb_at S n A e rfl ko j hj
      exact mutSl_mut e hj
    · unfold mutAt at h ⊢
      rw [wb_other hj] at h
      exact h
  have ext : Ext sd σ H Fz (wb ms os outs sd) H' (fun a => Fzc a ∧ ¬ LentA sd σ ms os a) := by
    refine ⟨fun a o h m => k1 a o h fun z => m (mu_sub a z), k2, fsub, fun a f => (fback a f).imp id .inl, fun a ⟨j, hj, ej⟩ => ⟨j, mutKeep j hj, ej⟩⟩
  have kp := ext.keeps S
  have other : ∀ {j : Nat} {a : Addr}, j ∉ mutSl ms os → mutAt sd j = true → σ[j]? = some (some (.ref a)) → a ∉ muA as vs := fun {j a} hj hm ej z => by
    obtain ⟨i, hi, h1, h2⟩ := muA_of A e z
    have := S.inj i j a h1 hm h2 ej
    subst this
    exact hj hi
  have srel : SRel g (wb ms os outs sd) σ H' (fun a => Fzc a ∧ ¬ LentA sd σ ms os a) := by
    refine ⟨by rw [wb_len]; exact S.len, fun j d h => ?_, fun j xs h => ?_, fun j kvs h => ?_, fun j a hm ej => ?_, fun i j a h1 h2 e1 e2 => S.inj i j a (mutKeep i h1) (mutKeep j h2) e1 e2, fun j a h => ?_, fun a f => ?_, fun a f => fsub a (S.fz0 a f), fun a o h p => ?_, fun a f => k5 a f.1⟩
    · by_cases hj : j ∈ mutSl ms os
      · obtain ⟨s, a, q1, q2, q3, q4⟩ := wb_at S n A e rfl ko j hj
        rw [h] at q1
        cases q1
        exact False.elim q4
      · rw [wb_other hj] at h
        obtain ⟨v, e1, r1⟩ := S.vals j d h
        exact ⟨v, e1, Rep.keep kp fsub _ _ r1⟩
    · by_cases hj : j ∈ mutSl ms os
      · obtain ⟨s, a, q1, q2, q3, q4⟩ := wb_at S n A e rfl ko j hj
        rw [h] at q1
        cases q1
        obtain ⟨ws, z1, z2⟩ := q4
        exact ⟨a, ws, q2, z1, toRL (fun p => purS_mem p.2 q3) z2⟩
      · rw [wb_other hj] at h
        obtain ⟨a, ws, e1, e2, r1⟩ := S.mls j xs h
        exact ⟨a, ws, e1, k1 a _ e2 (other hj (mutAt_ml h) e1), RepL.keep kp fsub _ _ r1⟩
    · by_cases hj : j ∈ mutSl ms os
      · obtain ⟨s, a, q1, q2, q3, q4⟩ := wb_at S n A e rfl ko j hj
        rw [h] at q1
        cases q1
        obtain ⟨ws, z1, z2, z3⟩ := q4
        exact ⟨a, ws, q2, z1, z2, toRL (fun p => purS_mem p.2 q3) z3⟩
      · rw [wb_other hj] at h
        obtain ⟨a, ws, e1, e2, e3, r1⟩ := S.mks j kvs h
        exact ⟨a, ws, e1, k1 a _ e2 (other hj (mutAt_mk h) e1), e3.keep kp, RepL.keep kp fsub _ _ r1⟩
    · have hm' := mutKeep j hm
      obtain ⟨h1, h2⟩ := S.mown j a hm' ej
      refine ⟨fun f => ?_, h2⟩
      rcases fback a f with z | z
      · exact h1 z
      · rcases S.mu_obj ⟨j, hm', ej⟩ with ⟨ws, q⟩ | ⟨ws, q⟩ <;> (rw [z] at q; cases q)
    · obtain ⟨h1, h2, h3⟩ := S.par j a h
      refine ⟨h1, ?_, h3⟩
      by_cases hj : j ∈ mutSl ms os
      · obtain ⟨s, b, q1, q2, q3, q4⟩ := wb_at S n A e rfl ko j hj
        unfold mutAt
        rw [q1]
        cases s with
        | none => exact False.elim q4
        | v d => exact False.elim q4
        | ml xs => rfl
        | mk kvs => rfl
      · unfold mutAt at h2 ⊢
        rw [wb_other hj]
        exact h2
    · rcases fback a f with z | z
      · exact S.fzb a z
      · exact .inr (S.newHe z)
    · have hH := S.frame a o h p
      refine k1 a o hH fun z => ?_
      obtain ⟨i, _, h1, h2⟩ := muA_of A e z
      rcases (S.mown i a h1 h2).2 with q | q
      · exact p i q
      · rw [h] at q; cases q
  refine ⟨srel, ext, ?_⟩
  have nmu : ∀ a, H a = none → ¬ Mu (wb ms os outs sd) σ a := fun a z m => by
    obtain ⟨j, hj, ej⟩ := ext.mu a m
    rcases S.mu_obj ⟨j, hj, ej⟩ with ⟨ws, q⟩ | ⟨ws, q⟩ <;> (rw [z] at q; cases q)
  cases r with
  | val d => exact toR (fun p => by have := p.1; simpa only [purO] using this) kr
  | slot i => exact False.elim kr
  | new xs =>
    obtain ⟨a, ws, rfl, h0, h1, h2, h3⟩ := kr
    refine ⟨a, ws, rfl, h1, toRL (fun p => by have := p.1; simp [purO] at this) h2, fun f => h3 f.1, nmu a h0, h0, S.newHe h0⟩
  | newd kvs =>
    obtain ⟨a, ws, rfl, h0, h1, hk, h2, h3⟩ := kr
    refine ⟨a, ws, rfl, h1, hk, toRL (fun p => by have := p.1; simp [purO] at this) h2, fun f => h3 f.1, nmu a h0, h0, S.newHe h0⟩
end
theorem opt_if2'' {α : Type} {c : Prop} [Decidable c] {a : Option α} {o : α} (h : (if c then a else none) = some o) : c ∧ a = some o := by
  by_cases hc : c
  · rw [if_pos hc] at h; exact ⟨hc, h⟩
  · rw [if_neg hc] at h; cases h
section
variable {X : Cx} {g : Gc} {pr : Pr} {lv np fu : Nat} {N : List Str} {se : Se}
theorem s_call (G : Good pr lv N se X) {f : Nat} {es : Es} {ps : List PySem.Expr} {p pos : Pos} (hK : g.K = (kwX X)) (h1 : glB se.sc (pr.fn f) = true) (h2 : (!dbg (pr.fn f)) = true) (hm : mEs pr N se es ps = true) (hl : ps.length = (pr.ps f).length) (hne : ps ≠ []) (hP : (pr.P f).isSome = true)
    (ha : PA X ps (tRs g (evEs (cfg pr lv np fu) es))) : PE X (.Call (.Name (pr.fn f) p) ps [] pos) (tR g (evE (cfg pr lv np fu) (.call f es))) := by
  obtain ⟨gK, gHe, gFz0, gmp, gnp⟩ := g
  obtain rfl : gK = (kwX X) := hK
  obtain ⟨fn, hfn⟩ := Option.isSome_iff_exists.mp hP
  obtain ⟨a, fd, c1, c2, c3, c4⟩ := G.calls f fn hfn
  cases ps with
  | nil => exact absurd rfl hne
  | cons q qs =>
    obtain ⟨q1, q2⟩ := plainL_cons (mEs_plain hm)
    refine PE.to (pe_callG (E := fun _ _ _ => False) c4 G.guard G.room (G.gl h1) c1 c2 c3 ha (dbg_no h2).1 (nst_star q1 _ _) (by rw [backTo_any]; exact plainL_any (pos := pos) q2)) fun σ H Q ⟨sd, Fz, o', sd', S, e, k⟩ => ?_
    simp only [evE, Option.bind_eq_some_iff] at e
    obtain ⟨x, ex, e⟩ := e
    refine ⟨sd, Fz, x.1, x.2, S, ex, fun vs H1 Fz1 S1 E1 r1 => ?_⟩
    unfold callE at e
    split at e
    · rename_i hn
      simp only [Option.bind_eq_some_iff] at e
      obtain ⟨as, eas, r, er, e⟩ := e
      split at e
      · cases e
      · rename_i hlent
        cases e
        obtain ⟨Fz2, S2, m2, n2, A⟩ := argV_of S1 r1 eas
        have hF : ∀ a, Fz2 a → (fun a => Fz2 a ∨ LentA x.2 σ (mpsOf pr.P f) x.1 a) a := fun a z => .inl z
        refine ⟨by rw [ros_len r1, evEs_len ex hm]; exact hl, as, fun a => Fz2 a ∨ LentA x.2 σ (mpsOf pr.P f) x.1 a, r.1, r.2, er, ?_, ?_, ?_, ?_⟩
        · refine AR_of S2 hF A eas (fun i a hi ei => .inr ⟨i, hi, ei⟩) fun i a hi ei z => ?_
          have hmi : mutAt x.2 i = true := mutSl_mut eas hi
          rcases z with z | ⟨j, hj, ej⟩
          · exact (S2.mown i a hmi ei).1 z
          · have := S2.inj i j a hmi (lentSl_mut hj) ei ej
            subst this
            exact sl_disj hn hi hj
        · exact muA_nodup S2 hn A eas
        · rintro a (z | ⟨i, hi, ei⟩)
          · exact S2.fzH a z
          · rcases S2.mu_obj ⟨i, lentSl_mut hi, ei⟩ with ⟨ws, q⟩ | ⟨ws, q⟩
            · exact ⟨_, q⟩
            · exact ⟨_, q⟩
        · intro v H' Fz' k1 k2 k3 k4 k5 kr ko
          obtain ⟨Fz3, S3, E3, r3⟩ := call_back S2 hn A eas (by simpa using hlent) k1 k2 k3 k4 k5 kr ko
          exact k v H' Fz3 S3 ((E1.more m2 fun a z => (n2 a z).imp id fun z => newAs_none r1 z).trans E3) (r3.start E1.back)
    · cases e
/-- behind a call that may change one new object alone -/
theorem call_new {g : Gc} {sd sd1 : SD} {σ : L2.St} {H H1 H' : Hp} {Fz Fz1 Fz' : Addr → Prop} {a : Addr} {o : HO} {r : Opd} {v : V} (S1 : SRel g sd1 σ H1 Fz1) (E1 : Ext sd σ H Fz sd1 H1 Fz1) (ha : H1 a = some o) (hn : ∀ xs, o ≠ .tup xs) (hn2 : ∀ u w, o ≠ .frz u w) (nf : ¬ Fz1 a) (nm : ¬ Mu sd1 σ a) (h0 : H a = none) (he : g.He a = none)
    (k1 : ∀ b o, H1 b = some o → b ≠ a → H' b = some o) (k2 : ∀ b, H1 b ≠ none → H' b ≠ none) (k3 : ∀ b, Fz1 b → Fz' b) (k4 : ∀ b, Fz' b → Fz1 b ∨ H1 b = none) (k5 : ∀ b, Fz' b → ∃ o, H' b = some o) (kr : RetO g.K Fz' H1 H' r v) :
    SRel g sd1 σ H' Fz' ∧ Ext sd σ H Fz sd1 H' Fz' ∧ RepO g sd1 σ H H' Fz' r v := by
  have ne : ∀ {j b}, mutAt sd1 j = true → σ[j]? = some (some (.ref b)) → b ≠ a := fun {j b} hj e z => nm ⟨j, hj, by rw [← z]; exact e⟩
  have kp : Keep Fz1 H1 H' := ⟨fun b u f q => k1 b u q fun z => nf (by rw [← z]; exact f), fun b xs q => k1 b _ q fun z => by subst z; rw [ha] at q; exact hn xs (Option.some.inj q), fun b u w q => k1 b _ q fun z => by subst z; rw [ha] at q; exact hn2 u w (Option.some.inj q)⟩
  have nmu : ∀ b, H1 b = none → ¬ Mu sd1 σ b := fun b z m => by
    rcases S1.mu_obj m with ⟨_, q⟩ | ⟨_, q⟩ <;> (rw [z] at q; cases q)
  have back : ∀ b, H1 b = none → H b = none := fun b z => by
    cases q : H b with
    | none => rfl
    | some u => exact absurd z (E1.there b (by rw [q]; exact Option.some_ne_none _))
  refine ⟨⟨S1.len, fun j d q => ?_, fun j xs q => ?_, fun j kvs q => ?_, fun j b hj e => ?_, S1.inj, S1.par, fun b f => (k4 b f).elim (S1.fzb b) fun z => .inr (S1.newHe z), fun b f => k3 b (S1.fz0 b f), fun b u q p => k1 b u (S1.frame b u q p) fun z => (by subst z; rw [he] at q; cases q), k5⟩, ?_, ?_⟩
  · obtain ⟨w, e, q2⟩ := S1.vals j d q
    exact ⟨w, e, Rep.keep kp k3 _ _ q2⟩
  · obtain ⟨b, us, e, e2, q2⟩ := S1.mls j xs q
    exact ⟨b, us, e, k1 b _ e2 (ne (mutAt_ml q) e), RepL.keep kp k3 _ _ q2⟩
  · obtain ⟨b, us, e, e2, e3, q2⟩ := S1.mks j kvs q
    exact ⟨b, us, e, k1 b _ e2 (ne (mutAt_mk q) e), e3.keep kp, RepL.keep kp k3 _ _ q2⟩
  · obtain ⟨q1, q2⟩ := S1.mown j b hj e
    refine ⟨fun f => ?_, q2⟩
    rcases k4 b f with z | z
    · exact q1 z
    · exact nmu b z ⟨j, hj, e⟩
  · refine ⟨fun b u q m => k1 b u (E1.keep b u q m) fun z => (by subst z; rw [h0] at q; cases q), fun b q => k2 b (E1.there b q), fun b f => k3 b (E1.fz b f), fun b f => ?_, E1.mu⟩
    rcases k4 b f with z | z
    · exact E1.fzn b z
    · exact .inr (.inl (back b z))
  · cases r with
    | val d => exact kr
    | slot i => exact kr.elim
    | new xs =>
      obtain ⟨b, us, rfl, z, q1, q2, q3⟩ := kr
      exact ⟨b, us, rfl, q1, q2, q3, nmu b z, back b z, S1.newHe z⟩
    | newd kvs =>
      obtain ⟨b, us, rfl, z, q1, q0, q2, q3⟩ := kr
      exact ⟨b, us, rfl, q1, q0, q2, q3, nmu b z, back b z, S1.newHe z⟩
theorem s_callN (G : Good pr lv N se X) {f : Nat} {e : E} {q : PySem.Expr} {p pos : Pos} (hK : g.K = (kwX X)) (h1 : glB se.sc (pr.fn f) = true) (h2 : (!dbg (pr.fn f)) = true) (hq : nst q = true) (hl : (pr.ps f).length = 1) (hP : (pr.P f).isSome = true)
    (ha : PE X q (tR g (evE (cfg pr lv np fu) e))) : PE X (.Call (.Name (pr.fn f) p) [q] [] pos) (tR g (evE (cfg pr lv np fu) (.callN f e))) := by
  obtain ⟨gK, gHe, gFz0, gmp, gnp⟩ := g
  obtain rfl : gK = (kwX X) := hK
  obtain ⟨fn, hfn⟩ := Option.isSome_iff_exists.mp hP
  obtain ⟨a, fd, c1, c2, c3, c4⟩ := G.calls f fn hfn
  refine PE.to (pe_callG (E := fun _ _ _ => False) c4 G.guard G.room (G.gl h1) c1 c2 c3 (pa_cons ha pa_nil (nst_star hq _ _)) (dbg_no h2).1 (nst_star hq _ _) rfl) fun σ H Q ⟨sd, Fz, o', sd', S, e, k⟩ => ?_
  simp only [evE, Option.bind_eq_some_iff] at e
  obtain ⟨x, ex, e⟩ := e
  obtain ⟨hm, e⟩ := opt_if2'' e
  refine ⟨sd, Fz, x.1, x.2, S, ex, fun v H1 Fz1 S1 E1 r1 => ?_⟩
  show spF (kwX X) pr lv f [v] H1 Q (fun _ _ _ => False)
  split at e
  · rename_i xs hx
    obtain ⟨r, er, e⟩ := Option.map_eq_some_iff.mp e
    cases e
    rw [hx] at r1
    obtain ⟨b, ws, rfl, hb, rl, nf, nm, h0, he⟩ := r1
    refine ⟨hl.symm, [.ml xs], Fz1, r.1, r.2, er, ⟨_, [], rfl, ⟨b, ws, rfl, hb, rl, nf⟩, rfl⟩, by simp [muA, isMut], S1.fzH, fun v' H' Fz' k1 k2 k3 k4 k5 kr ko => ?_⟩
    have mu : muA [.ml xs] [V.ref b] = [b] := rfl
    obtain ⟨S2, E2, r2⟩ := call_new S1 E1 hb (fun _ z => by cases z) (fun _ _ z => by cases z) nf nm h0 he (fun c o q z => k1 c o q (by rw [mu]; simpa using z)) k2 k3 k4 k5 kr
    exact k v' H' Fz' S2 E2 r2
  · rename_i kvs hx
    obtain ⟨r, er, e⟩ := Option.map_eq_some_iff.mp e
    cases e
    rw [hx] at r1
    obtain ⟨b, ws, rfl, hb, rk, rl, nf, nm, h0, he⟩ := r1
    refine ⟨hl.symm, [.mk kvs], Fz1, r.1, r.2, er, ⟨_, [], rfl, ⟨b, ws, rfl, hb, rk, rl, nf⟩, rfl⟩, by simp [muA, isMut], S1.fzH, fun v' H' Fz' k1 k2 k3 k4 k5 kr ko => ?_⟩
    have mu : muA [.mk kvs] [V.ref b] = [b] := rfl
    obtain ⟨S2, E2, r2⟩ := call_new S1 E1 hb (fun _ z => dO_ne_tup z) (fun _ _ z => dO_ne_frz z) nf nm h0 he (fun c o q z => k1 c o q (by rw [mu]; simpa using z)) k2 k3 k4 k5 kr
    exact k v' H' Fz' S2 E2 r2
  · cases e
end
end Ev

set_option linter.all false
set_option autoImplicit false
set_option Elab.async false
set_option maxRecDepth 100000
set_option maxHeartbeats 4000000
/-! EvH5: methods that change the list in a slot. -/
namespace Ev
open PySem PySem.Spec L2
open PySem.AutoSeq1 in
set_option maxRecDepth 8000 in
theorem ext_tup (l : Addr) (items : Array Value) (n : Nat) (b : Addr) (items2 : Array Value) (n2 : Nat) (d2 : Option Addr) (sl2 : Array (Option Value)) (hs0 : ¬(!items.isEmpty && Builtin.List.listTooLong (items.size + items2.size)) = true) (hs1 : items.size ≤ sizeLine) (hs2 : items.size + items2.size ≤ sizeLine + 1) :
    Meets (Builtin.«list.extend» ⟨[.ref l, .ref b], []⟩) (fun _ R s => s.heap.get? l = some { cls := .type "list", dict := none, data := .seq items n, slots := #[] } ∧ s.heap.get? b = some { cls := .type "tuple", dict := d2, data := .seq items2 n2, slots := sl2 } ∧ R (.ok (.ret Value.none)) { s with heap := s.heap.update l (Obj.mapSeq fun x => x ++ items2), toks := s.toks }) :=
  .of_wp fun prog w A R s h => by
    obtain ⟨hp, g, d, tk, os⟩ := s; obtain ⟨hl, hb, h⟩ := h; have f1 := idx_int; have f2 := sub_tuple_tuple; have f3 := sub_list_list; have f4 := sub_tuple_list; have f5 := sub_list_tuple;
    have hz' : (items ++ items2).size ≤ sizeLine + 1 := by rw [Array.size_append]; exact hs2
    wp_walk using (wpAny_updateSeq hl rfl (hz := hs1) (_hz' := hz')), wpAny_loadPart' hl, wpAny_loadPart' hb; exact ⟨_, rfl, h⟩
section
variable {X : Cx}
def rExtendT (K : KW) : V → List V → Hp → VK → Prop := fun x vs H Q => ∃ l b xs zs, x = .ref l ∧ vs = [.ref b] ∧ H l = some (.lst xs) ∧ SqT K.f H b zs ∧ xs.length + zs.length ≤ sizeLine ∧ Q .non (upd H l (.lst (xs ++ zs)))
theorem mt_extendT : MtM X "list.extend" (rExtendT (kwX X)) := by
  intro pins s σ H x vs v us Q I rx rv h
  obtain ⟨l, b, xs, zs, rfl, rfl, hH, hB, hz, q⟩ := h
  cases rx
  obtain ⟨u, rfl, ru⟩ := rv.one
  cases ru
  obtain ⟨z, its, n, r, hl, e⟩ := I.lstM hH
  obtain ⟨its2, r2, ⟨o, e2, oc, n2, od⟩, _⟩ := I.tuple hB
  have hl2 := r2.length
  have hsz : its.toArray.size + its2.toArray.size ≤ sizeLine := by rw [List.size_toArray, List.size_toArray]; omega
  have hlong : ¬ (!its.toArray.isEmpty && Builtin.List.listTooLong (its.toArray.size + its2.toArray.size)) = true := by
    rw [notLongL hsz, Bool.and_false]
    exact Bool.false_ne_true
  obtain ⟨c, d, dt, sl⟩ := o
  simp only at oc od
  subst oc od
  refine call_meets F.slot_list_extend ⟨_, e, rfl⟩ F.entry_list_extend (F.args_list_extend_2 _ _)
    (ext_tup l its.toArray n b its2.toArray n2 d sl hlong (by rw [List.size_toArray]; omega) (by omega)) ⟨e, e2, ?_⟩
  refine ⟨.non, _, I.lset (its' := its ++ its2) hH e (by simp) (r.append r2) ?_, rfl, q⟩
  rw [List.length_append]
  omega
end
section
variable {g : Gc} {sd sd' : SD} {σ : L2.St} {H H' : Hp} {Fz Fz' : Addr → Prop}
theorem mlAt_ok {i : Nat} (h : mlAt sd i = true) : ∃ xs, sd[i]? = some (.ml xs) := by
  unfold mlAt at h
  split at h
  · exact ⟨_, by assumption⟩
  · cases h
/-- what a write at a changes of what is known -/
theorem keep_upd {a : Addr} {vs : List V} {o : HO} (h : H a = some (.lst vs)) (nf : ¬ Fz a) : Keep Fz H (upd H a o) := by
  refine ⟨fun b u f q => ?_, fun b xs q => ?_, fun b u w q => ?_⟩
  · rw [upd_ne (fun z => nf (by rw [← z]; exact f))]; exact q
  · rw [upd_ne (fun z => by rw [z, h] at q; cases q)]; exact q
  · rw [upd_ne (fun z => by rw [z, h] at q; cases q)]; exact q
theorem keep_updK {a : Addr} {w : World} {es : List (KX × V)} {o : HO} (h : H a = some (dO w a es)) (nf : ¬ Fz a) : Keep Fz H (upd H a o) := by
  refine ⟨fun b u f q => ?_, fun b xs q => ?_, fun b u w q => ?_⟩
  · rw [upd_ne (fun z => nf (by rw [← z]; exact f))]; exact q
  · rw [upd_ne (fun z => by rw [z, h] at q; exact dO_ne_tup (Option.some.inj q))]; exact q
  · rw [upd_ne (fun z => by rw [z, h] at q; exact dO_ne_frz (Option.some.inj q))]; exact q
/-- the list in a slot is written -/
theorem SRel.setMl (S : SRel g sd σ H Fz) {i : Nat} {xs ys : List D} {a : Addr} {vs ws : List V} (hi : sd[i]? = some (.ml xs)) (ha : σ[i]? = some (some (.ref a))) (hH : H a = some (.lst vs)) (r : RepL g.K Fz H ys ws) :
    SRel g (sd.set i (.ml ys)) σ (upd H a (.lst ws)) Fz ∧ Ext sd σ H Fz (sd.set i (.ml ys)) (upd H a (.lst ws)) Fz := by
  have hm := mutAt_ml hi
  obtain ⟨nf, ow⟩ := S.mown i a hm ha
  have k : Keep Fz H (upd H a (.lst ws)) := keep_upd hH nf
  have hil : i < sd.length := (List.getElem?_eq_some_iff.mp hi).1
  have back : ∀ j, mutAt (sd.set i (.ml ys)) j = true → mutAt sd j = true := fun j h => by
    rcases mutAt_set h with ⟨_, h⟩ | ⟨e, _⟩
    · exact h
    · rw [e]; exact hm
  have far : ∀ {j b}, j ≠ i → mutAt sd j = true → σ[j]? = some (some (.ref b)) → b ≠ a := fun {j b} hj hmj e z => by
    subst z
    exact hj (S.inj j i _ hmj hm e ha)
  refine ⟨⟨by rw [List.length_set]; exact S.len, fun j d h => ?_, fun j zs h => ?_, fun j kvs h => ?_, fun j b hj e => S.mown j b (back j hj) e, fun j l b h1 h2 e1 e2 => S.inj j l b (back j h1) (back l h2) e1 e2, fun j b h => ?_, S.fzb, S.fz0, fun b o h p => ?_, fun b f => ?_⟩,
    fun b o h m => ?_, fun b h => ?_, fun _ f => f, fun _ f => .inl f, fun b ⟨j, hj, e⟩ => ⟨j, back j hj, e⟩⟩
  · rcases get_set h with ⟨hj, h'⟩ | ⟨_, h'⟩
    · obtain ⟨v, e, r⟩ := S.vals j d h'
      exact ⟨v, e, Rep.keep k (fun _ z => z) _ _ r⟩
    · cases h'
  · rcases get_set h with ⟨hj, h'⟩ | ⟨hj, h'⟩
    · obtain ⟨b, us, e, q, r⟩ := S.mls j zs h'
      exact ⟨b, us, e, by rw [upd_ne (far hj (mutAt_ml h') e)]; exact q, RepL.keep k (fun _ z => z) _ _ r⟩
    · cases h'
      subst hj
      exact ⟨a, ws, ha, upd_same, RepL.keep k (fun _ z => z) _ _ r⟩
  · rcases get_set h with ⟨hj, h'⟩ | ⟨_, h'⟩
    · obtain ⟨b, es, e, q, z, r⟩ := S.mks j kvs h'
      exact ⟨b, es, e, by rw [upd_ne (far hj (mutAt_mk h') e)]; exact q, z.keep k, RepL.keep k (fun _ z => z) _ _ r⟩
    · cases h'
  · obtain ⟨h1, h2, h3⟩ := S.par j b h
    refine ⟨h1, ?_, h3⟩
    by_cases hj : j = i
    · subst hj
      unfold mutAt
      rw [List.getElem?_set_self hil]
      rfl
    · rw [mutAt_set_ne hj]; exact h2
  · have := S.frame b o h p
    rw [upd_ne (fun z => ?_)]
    · exact this
    · subst z
      rcases ow with q | q
      · exact p i q
      · rw [h] at q; cases q
  · by_cases hb : b = a
    · subst hb; exact absurd f nf
    · rw [upd_ne hb]; exact S.fzH b f
  · rw [upd_ne (fun z => m (by rw [z]; exact ⟨i, hm, ha⟩))]; exact h
  · by_cases hb : b = a
    · rw [hb, upd_same]; exact Option.some_ne_none _
    · rw [upd_ne hb]; exact h
theorem SRel.setMk (S : SRel g sd σ H Fz) {i : Nat} {xs ys : List (Ky × D)} {a : Addr} {vs ws : List (KX × V)} (hi : sd[i]? = some (.mk xs)) (ha : σ[i]? = some (some (.ref a))) (hH : H a = some (dO g.K.w a vs)) (rk : KysR g.K H (ys.map (·.1)) (ws.map (·.1))) (r : RepL g.K Fz H (ys.map (·.2)) (ws.map (·.2))) :
    SRel g (sd.set i (.mk ys)) σ (upd H a (dO g.K.w a ws)) Fz ∧ Ext sd σ H Fz (sd.set i (.mk ys)) (upd H a (dO g.K.w a ws)) Fz := by
  have hm := mutAt_mk hi
  obtain ⟨nf, ow⟩ := S.mown i a hm ha
  have k : Keep Fz H (upd H a (dO g.K.w a ws)) := keep_updK hH nf
  have hil : i < sd.length := (List.getElem?_eq_some_iff.mp hi).1
  have back : ∀ j, mutAt (sd.set i (.mk ys)) j = true → mutAt sd j = true := fun j h => by
    rcases mutAt_set h with ⟨_, h⟩ | ⟨e, _⟩
    · exact h
    · rw [e]; exact hm
  have far : ∀ {j b}, j ≠ i → mutAt sd j = true → σ[j]? = some (some (.ref b)) → b ≠ a := fun {j b} hj hmj e z => by
    subst z
    exact hj (S.inj j i _ hmj hm e ha)
  refine ⟨⟨by rw [List.length_set]; exact S.len, fun j d h => ?_, fun j zs h => ?_, fun j kvs h => ?_, fun j b hj e => S.mown j b (back j hj) e, fun j l b h1 h2 e1 e2 => S.inj j l b (back j h1) (back l h2) e1 e2, fun j b h => ?_, S.fzb, S.fz0, fun b o h p => ?_, fun b f => ?_⟩,
    fun b o h m => ?_, fun b h => ?_, fun _ f => f, fun _ f => .inl f, fun b ⟨j, hj, e⟩ => ⟨j, back j hj, e⟩⟩
  · rcases get_set h with ⟨hj, h'⟩ | ⟨_, h'⟩
    · obtain ⟨v, e, r⟩ := S.vals j d h'
      exact ⟨v, e, Rep.keep k (fun _ z => z) _ _ r⟩
    · cases h'
  · rcases get_set h with ⟨hj, h'⟩ | ⟨hj, h'⟩
    · obtain ⟨b, us, e, q, r⟩ := S.mls j zs h'
      exact ⟨b, us, e, by rw [upd_ne (far hj (mutAt_ml h') e)]; exact q, RepL.keep k (fun _ z => z) _ _ r⟩
    · cases h'
  · rcases get_set h with ⟨hj, h'⟩ | ⟨hj, h'⟩
    · obtain ⟨b, es, e, q, z, r⟩ := S.mks j kvs h'
      exact ⟨b, es, e, by rw [upd_ne (far hj (mutAt_mk h') e)]; exact q, z.keep k, RepL.keep k (fun _ z => z) _ _ r⟩
    · cases h'
      subst hj
      exact ⟨a, ws, ha, upd_same, rk.keep k, RepL.keep k (fun _ z => z) _ _ r⟩
  · obtain ⟨h1, h2, h3⟩ := S.par j b h
    refine ⟨h1, ?_, h3⟩
    by_cases hj : j = i
    · subst hj
      unfold mutAt
      rw [List.getElem?_set_self hil]
      rfl
    · rw [mutAt_set_ne hj]; exact h2
  · have := S.frame b o h p
    rw [upd_ne (fun z => ?_)]
    · exact this
    · subst z
      rcases ow with q | q
      · exact p i q
      · rw [h] at q; cases q
  · by_cases hb : b = a
    · subst hb; exact absurd f nf
    · rw [upd_ne hb]; exact S.fzH b f
  · rw [upd_ne (fun z => m (by rw [z]; exact ⟨i, hm, ha⟩))]; exact h
  · by_cases hb : b = a
    · rw [hb, upd_same]; exact Option.some_ne_none _
    · rw [upd_ne hb]; exact h
end
section
variable {X : Cx} {g : Gc} {C : Cfg} {pr : Pr} {lv : Nat} {N : List Str} {se : Se}
theorem pe_never {p : PySem.Expr} : PE X p (fun _ _ _ => False) := ⟨fun _ _ _ _ _ _ h => h.elim⟩
theorem mth_call0 {T id : String} {name : Str} {r : V → List V → Hp → VK → Prop} {to : TE} {o : PySem.Expr} {apos cpos : Pos} (pa : PlainAttrs T) (slot : Slot T name id) (hty : typeOf (.builtin id) = pure (.type "method_descriptor")) (hm : MtR X id r)
    (hs : notSup o = true) (hline : (apos.endLine == cpos.line) = true) (ho : PE X o to) : PE X (.Call (.Attribute o name apos) [] [] cpos) (tBM0 X.K T r to) :=
  pe_bm0 pa slot hty hm ho (notSup_ok hs _ _ _) hline
theorem evEff {m : Me} {i : Nat} {es : Es} {sd sd' : SD} {r : Opd} (e : evE C (.eff m i es) sd = some (r, sd')) : ∃ xs x, sd[i]? = some (.ml xs) ∧ evEs C es sd = some x ∧ effE C.np m i x.1 x.2 = some (r, sd') := by
  simp only [evE] at e
  split at e
  · rename_i h
    obtain ⟨xs, hx⟩ := mlAt_ok h
    obtain ⟨x, ex, e⟩ := Option.bind_eq_some_iff.mp e
    exact ⟨xs, x, hx, ex, e⟩
  · cases e
theorem ros1 {sd : SD} {σ : L2.St} {H0 H : Hp} {Fz : Addr → Prop} {o : Opd} {vs : List V} (h : ROs g sd σ H0 H Fz [o] vs) : ∃ v, vs = [v] ∧ RepO g sd σ H0 H Fz o v := by
  obtain ⟨v, r, rfl, h1, h2, _⟩ := h
  have : r = [] := h2
  subst this
  exact ⟨v, rfl, h1⟩
theorem ros0 {sd : SD} {σ : L2.St} {H0 H : Hp} {Fz : Addr → Prop} {vs : List V} (h : ROs g sd σ H0 H Fz [] vs) : vs = [] := h
theorem opt_if2' {α : Type} {c : Prop} [Decidable c] {a : Option α} {o : α} (h : (if c then a else none) = some o) : c ∧ a = some o := by
  by_cases hc : c
  · rw [if_pos hc] at h; exact ⟨hc, h⟩
  · rw [if_neg hc] at h; cases h
/-- what effE does to the list -/
def effL (m : Me) (os : List Opd) (xs : List D) : Option (D × List D) := match m, os with
  | .append, [o] => (strict o).bind fun d => if xs.length < lim then some (.non, xs ++ [d]) else none
  | .extend, [o] => (match o with
    | .slot _ => none
    | o => (strict o).bind fun d => (listOf d).bind fun ys => if xs.length + ys.length ≤ lim then some (.non, xs ++ ys) else none)
  | .pop, [] => (xs[xs.length - 1]?).map fun d => (d, xs.dropLast)
  | .pop, [.val (.int k)] => if xs.length ≤ lim then (ixN xs.length k).bind fun j => (xs[j]?).map fun d => (d, xs.eraseIdx j) else none
  | .reverse, [] => some (.non, xs.reverse)
  | .insert, [.val (.int k), o] => (strict o).bind fun d => if 0 ≤ k ∧ k < 2 ^ 62 ∧ xs.length < lim then some (.non, xs.take k.toNat ++ [d] ++ xs.drop k.toNat) else none
  | .remove, [.val d] => if D.shp d 60 && D.shpL xs 60 && decide (xs.length ≤ lim) then (xs.findIdx? fun y => D.eqv y d).map fun j => (.non, xs.eraseIdx j) else none
  | _, _ => none
theorem effE_eq {np : Nat} {m : Me} {i : Nat} {os : List Opd} {sd sd' : SD} {r : Opd} (e : effE np m i os sd = some (r, sd')) : ∃ xs d ys, sd[i]? = some (.ml xs) ∧ effL m os xs = some (d, ys) ∧ r = .val d ∧ sd' = sd.set i (.ml ys) := by
  unfold effE at e
  split at e
  · rename_i xs hx
    refine ⟨xs, ?_⟩
    simp only [hx, Option.some.injEq, Sl.ml.injEq, exists_and_left, true_and]
    unfold effL
    split at e
    · simp only [Option.bind_eq_some_iff, Option.map_eq_some_iff] at e ⊢
      obtain ⟨d, ed, e⟩ := e
      split at e
      · rename_i hl
        cases e
        exact ⟨_, _, ⟨d, ed, by rw [if_pos hl]⟩, rfl, rfl⟩
      · cases e
    · split at e
      · cases e
      · rename_i o ho
        simp only [Option.bind_eq_some_iff, Option.map_eq_some_iff] at e ⊢
        obtain ⟨d, ed, ys, ey, e⟩ := e
        split at e
        · rename_i hl
          cases e
          refine ⟨_, _, ?_, rfl, rfl⟩
          exact ⟨d, ed, ys, ey, by rw [if_pos hl]⟩
        · cases e
    · simp only [Option.map_eq_some_iff] at e ⊢
      obtain ⟨d, ed, e⟩ := e
      cases e
      exact ⟨_, _, ⟨d, ed, rfl⟩, rfl, rfl⟩
    · split at e
      · rename_i hl
        simp only [Option.bind_eq_some_iff, Option.map_eq_some_iff] at e ⊢
        obtain ⟨j, ej, d, ed, e⟩ := e
        cases e
        refine ⟨_, _, ?_, rfl, rfl⟩
        rw [if_pos hl]
        simp only [Option.bind_eq_some_iff, Option.map_eq_some_iff]
        exact ⟨j, ej, d, ed, rfl⟩
      · cases e
    · cases e
      exact ⟨_, _, rfl, rfl, rfl⟩
    · simp only [Option.bind_eq_some_iff] at e ⊢
      obtain ⟨d, ed, e⟩ := e
      split at e
      · rename_i hl
        cases e
        exact ⟨_, _, ⟨d, ed, by rw [if_pos hl]⟩, rfl, rfl⟩
      · cases e
    · split at e
      · rename_i hl
        simp only [Option.map_eq_some_iff] at e ⊢
        obtain ⟨j, ej, e⟩ := e
        cases e
        refine ⟨_, _, ?_, rfl, rfl⟩
        rw [if_pos hl, ej]
        rfl
      · cases e
    · cases e
  · cases e
/-- what is left to show: the method by values does what effL says -/
def EffOk (K : KW) (m : Me) (r : V → List V → Hp → VK → Prop) : Prop := ∀ (g : Gc) (sd : SD) (σ : L2.St) (H0 H : Hp) (Fz : Addr → Prop) (os : List Opd) (vs : List V) (xs ys : List D) (d : D) (a : Addr) (ws : List V) (Q : VK), g.K = K → SRel g sd σ H Fz → ROs g sd σ H0 H Fz os vs → effL m os xs = some (d, ys) → H a = some (.lst ws) → RepL K Fz H xs ws →
  (∀ Fz' v us, SRel g sd σ H Fz' → (∀ a, Fz a → Fz' a) → (∀ a, Fz' a → Fz a ∨ a ∈ newAs os vs) → Rep K Fz' H d v → RepL K Fz' H ys us → Q v (upd H a (.lst us))) → r (.ref a) vs H Q
theorem eff_append {K : KW} : EffOk K .append rAppend := by
  intro g sd σ H0 H Fz os vs xs ys d a ws Q hK S r e hH rep k
  subst hK
  match os, e with
  | [], e => simp [effL] at e
  | _ :: _ :: _, e => simp [effL] at e
  | [o], e =>
    simp only [effL, Option.bind_eq_some_iff] at e
    obtain ⟨d', ed, e⟩ := e
    obtain ⟨hl, e⟩ := opt_if e
    cases e
    obtain ⟨v, rfl, r1⟩ := ros1 r
    obtain ⟨Fz1, S1, m1, n1, rd⟩ := strict_rep S r1 ed
    refine ⟨a, ws, v, rfl, rfl, hH, by rw [rep.len, ← lim_eq]; exact hl, k Fz1 .non _ S1 m1 (fun b z => (n1 b z).imp id fun z => by simp [newAs, z]) (by simp only [Rep]) (RepL.append (RepL.keep Keep.refl m1 _ _ rep) (RepL.one rd))⟩
theorem eff_extend {K : KW} : EffOk K .extend (fun x xs H Q => rExtend x xs H Q ∨ rExtendT K x xs H Q) := by
  intro g sd σ H0 H Fz os vs xs ys d a ws Q hK S r e hH rep k
  subst hK
  match os, e with
  | [], e => simp [effL] at e
  | _ :: _ :: _, e => simp [effL] at e
  | [.slot _], e => simp [effL] at e
  | [.newd kvs], e => simp [effL, strict, listOf] at e
  | [.val o], e =>
    simp only [effL, strict, Option.bind_some, Option.bind_eq_some_iff] at e
    obtain ⟨zs, ez, e⟩ := e
    obtain ⟨hl, e⟩ := opt_if e
    cases e
    obtain ⟨v, rfl, r1⟩ := ros1 r
    have hd : o = .lst zs ∨ o = .tup zs := by
      cases o <;> simp only [listOf] at ez <;> cases ez
      · exact .inr rfl
      · exact .inl rfl
    rcases hd with rfl | rfl
    · have r1 : Rep g.K Fz H (.lst zs) v := r1
      simp only [Rep] at r1
      obtain ⟨b, us, rfl, fb, hb, rb⟩ := r1
      exact .inl ⟨a, b, ws, us, rfl, rfl, hH, hb, by rw [rep.len, rb.len, ← lim_eq]; exact hl, k Fz .non _ S (fun _ z => z) (fun _ z => .inl z) (by simp only [Rep]) (RepL.append rep rb)⟩
    · have r1 : Rep g.K Fz H (.tup zs) v := r1
      simp only [Rep] at r1
      obtain ⟨b, us, rfl, hb, rb⟩ := r1
      exact .inr ⟨a, b, ws, us, rfl, rfl, hH, hb.t, by rw [rep.len, rb.len, ← lim_eq]; exact hl, k Fz .non _ S (fun _ z => z) (fun _ z => .inl z) (by simp only [Rep]) (RepL.append rep rb)⟩
  | [.new zs], e =>
    simp only [effL, strict, Option.bind_some, listOf] at e
    obtain ⟨hl, e⟩ := opt_if e
    cases e
    obtain ⟨v, rfl, r1⟩ := ros1 r
    obtain ⟨b, us, rfl, hb, rb, _⟩ := r1
    exact .inl ⟨a, b, ws, us, rfl, rfl, hH, hb, by rw [rep.len, rb.len, ← lim_eq]; exact hl, k Fz .non _ S (fun _ z => z) (fun _ z => .inl z) (by simp only [Rep]) (RepL.append rep rb)⟩
theorem eff_pop {K : KW} : EffOk K .pop (fun x xs H Q => rPop x xs H Q ∨ rPopAt x xs H Q) := by
  intro g sd σ H0 H Fz os vs xs ys d a ws Q hK S r e hH rep k
  subst hK
  match os, e with
  | _ :: _ :: _, e => simp [effL] at e
  | [], e =>
    simp only [effL, Option.map_eq_some_iff] at e
    obtain ⟨d', ed, e⟩ := e
    cases e
    obtain ⟨v, hv, rv⟩ := rep.get ed
    rw [ros0 r]
    refine .inl ⟨a, ws, v, rfl, rfl, hH, by rw [rep.len]; exact hv, k Fz v _ S (fun _ z => z) (fun _ z => .inl z) rv rep.dropLast⟩
  | [.slot _], e => simp [effL] at e
  | [.new _], e => simp [effL] at e
  | [.newd _], e => simp [effL] at e
  | [.val (.non)], e => simp [effL] at e
  | [.val (.bl _)], e => simp [effL] at e
  | [.val (.str _)], e => simp [effL] at e
  | [.val (.tup _)], e => simp [effL] at e
  | [.val (.lst _)], e => simp [effL] at e
  | [.val (.dk _ _)], e => simp [effL] at e
  | [.val (.scr _)], e => simp [effL] at e
  | [.val (.int i)], e =>
    simp only [effL] at e
    split at e
    · rename_i hl
      simp only [Option.bind_eq_some_iff, Option.map_eq_some_iff] at e
      obtain ⟨j, ej, d', ed, e⟩ := e
      cases e
      obtain ⟨v, hv, rv⟩ := rep.get ed
      obtain ⟨w, rfl, r1⟩ := ros1 r
      have r1 : Rep g.K Fz H (.int i) w := r1
      simp only [Rep] at r1
      subst r1
      rw [ixN_eq] at ej
      obtain ⟨h1, h2, h3, h4⟩ := ixN_seq ej
      have hz : xs.length ≤ 16777216 := hl
      refine .inr ⟨a, ws, i, j, v, rfl, rfl, hH, by omega, by omega, by rw [rep.len]; exact h1, hv, k Fz v _ S (fun _ z => z) (fun _ z => .inl z) rv (rep.eraseIdx j)⟩
    · cases e
theorem eff_reverse {K : KW} : EffOk K .reverse rReverse := by
  intro g sd σ H0 H Fz os vs xs ys d a ws Q hK S r e hH rep k
  subst hK
  match os, e with
  | _ :: _, e => simp [effL] at e
  | [], e =>
    simp only [effL] at e
    cases e
    rw [ros0 r]
    exact ⟨a, ws, rfl, rfl, hH, k Fz .non _ S (fun _ z => z) (fun _ z => .inl z) (by simp only [Rep]) rep.rev⟩
theorem eff_insert {K : KW} : EffOk K .insert (fun x vs H Q => ∃ (l : Addr) (xs : List V) (i : Int) (y : V), x = .ref l ∧ vs = [.int i, y] ∧ H l = some (.lst xs) ∧ xs.length < sizeLine ∧ 0 ≤ i ∧ i < 2 ^ 63 ∧ Q .non (upd H l (.lst (xs.take i.toNat ++ [y] ++ xs.drop i.toNat)))) := by
  intro g sd σ H0 H Fz os vs xs ys d a ws Q hK S r e hH rep k
  subst hK
  unfold effL at e
  split at e <;> try (cases e; done)
  all_goals (try (rename_i hh; cases hh; done))
  rename_i i o hh
  obtain ⟨d', ed, e⟩ := Option.bind_eq_some_iff.mp e
  obtain ⟨⟨h1, h2, h3⟩, e⟩ := opt_if e
  cases e
  obtain ⟨v, r', rfl, r1, r2, r3⟩ := r
  obtain ⟨w, rfl, q2⟩ := ros1 r2
  have r1 : Rep g.K Fz H (.int i) v := r1
  simp only [Rep] at r1
  subst r1
  obtain ⟨Fz1, S1, m1, n1, rd⟩ := strict_rep S q2 ed
  have rep1 := RepL.keep Keep.refl m1 _ _ rep
  refine ⟨a, ws, i, w, rfl, rfl, hH, by rw [rep.len, ← lim_eq]; exact h3, h1, by omega, k Fz1 .non _ S1 m1 (fun b z => (n1 b z).imp id fun z => ?_) (by simp only [Rep]) (RepL.append (RepL.append (rep1.take _) (RepL.one rd)) (rep1.drop _))⟩
  simp [newAs, newA] at z ⊢
  exact z
theorem eff_remove {K : KW} {Fz0 : Addr → Prop} : EffOk K .remove (fun x xs H Q => ∃ Fz, rRemD K Fz x xs H Q) := by
  intro g sd σ H0 H Fz os vs xs ys d a ws Q hK S r e hH rep k
  subst hK
  unfold effL at e
  split at e <;> try (cases e; done)
  all_goals (try (rename_i hh; cases hh; done))
  rename_i y hh
  obtain ⟨hc, e⟩ := opt_if2' e
  obtain ⟨hc, hl⟩ := Bool.and_eq_true_iff.mp hc
  obtain ⟨h1, h2⟩ := Bool.and_eq_true_iff.mp hc
  obtain ⟨j, ej, e⟩ := Option.map_eq_some_iff.mp e
  cases e
  obtain ⟨v, rfl, r1⟩ := ros1 r
  have r1 : Rep g.K Fz H y v := r1
  exact ⟨Fz, a, v, ws, xs, y, j, rfl, rfl, hH, rep, r1.f, h1, h2, of_decide_eq_true hl, ej, k Fz .non _ S (fun _ z => z) (fun _ z => .inl z) (by simp only [Rep]) (rep.eraseIdx j)⟩
theorem eff_no {m : Me} (h : m ≠ .append ∧ m ≠ .extend ∧ m ≠ .pop ∧ m ≠ .reverse ∧ m ≠ .insert ∧ m ≠ .remove) {os : List Opd} {xs : List D} : effL m os xs = none := by
  cases m <;> simp at h <;> rfl
/-- with arguments -/
theorem eff_with {id : String} {r : V → List V → Hp → VK → Prop} {m : Me} {i : Nat} {es : Es} {y : Str} {ps : List PySem.Expr} {py apos cpos : Pos} (hK : g.K = (kwX X)) (slot : Slot "list" (meS m) id) (hty : typeOf (.builtin id) = pure (.type "method_descriptor")) (hm : MtR X id r) (ok : EffOk (kwX X) m r)
    (hv : PE X (.Name y py) (tVar i)) (hline : (apos.endLine == cpos.line) = true) (hmE : mEs pr N se es ps = true) (hl : ps.length < 25) (ha : PA X ps (tRs g (evEs C es))) : PE X (.Call (.Attribute (.Name y py) (meS m) apos) ps [] cpos) (tR g (evE C (.eff m i es))) := by
  have fin : ∀ (sd : SD) (σ : L2.St) (H : Hp) (Fz : Addr → Prop) (o' : Opd) (sd' : SD) (Q : VK) (xs : List D) (x : List Opd × SD) (a : Addr), SRel g sd σ H Fz → (∀ v H' Fz', SRel g sd' σ H' Fz' → Ext sd σ H Fz sd' H' Fz' → RepO g sd' σ H H' Fz' o' v → Q v H') → sd[i]? = some (.ml xs) → σ[i]? = some (some (.ref a)) → evEs C es sd = some x → effE C.np m i x.1 x.2 = some (o', sd') →
      ∀ vs H1 Fz1, SRel g x.2 σ H1 Fz1 → Ext sd σ H Fz x.2 H1 Fz1 → ROs g x.2 σ H H1 Fz1 x.1 vs → r (.ref a) vs H1 Q := by
    intro sd σ H Fz o' sd' Q xs x a S k hx ha' ex e vs H1 Fz1 S1 E1 r1
    obtain ⟨zs, d, us, hz, el, rfl, rfl⟩ := effE_eq e
    obtain ⟨b, ws, e1, e2, e3⟩ := S1.mls i zs hz
    rw [ha'] at e1
    cases e1
    refine ok g x.2 σ H H1 Fz1 x.1 vs zs us d a ws Q hK S1 r1 el e2 (hK ▸ e3) fun Fz' v ts S2 m2 n2 rd rl => ?_
    obtain ⟨S3, E3⟩ := S2.setMl hz ha' e2 (hK ▸ rl)
    refine k v _ Fz' S3 ((E1.more m2 fun b z => (n2 b z).imp (fun z => z) fun z => newAs_none r1 z).trans E3) ?_
    have nf : ¬ Fz' a := (S2.mown i a (mutAt_ml hz) ha').1
    exact Rep.keep (keep_upd e2 nf) (fun _ z => z) _ _ (hK ▸ rd)
  cases ps with
  | nil =>
    refine PE.to (mth_call0 PySem.F.plainAttrs_list slot hty hm rfl hline hv) fun σ H Q ⟨sd, Fz, o', sd', S, e, k⟩ => ?_
    obtain ⟨xs, x, hx, ex, e⟩ := evEff e
    obtain ⟨a, ws, e1, e2, e3⟩ := S.mls i xs hx
    have hes : es = .nil := by
      cases es with
      | nil => rfl
      | cons e es => simp [mEs] at hmE
    subst hes
    simp only [evEs] at ex
    cases ex
    exact ⟨_, e1, .inl ⟨rfl, ws, .inl (.inl e2)⟩, fin sd σ H Fz o' sd' Q xs _ a S k hx e1 rfl e [] H Fz S Ext.refl rfl⟩
  | cons p ps =>
    refine PE.to (mth_call PySem.F.plainAttrs_list slot hty hm rfl hline (by simp) (mEs_plain hmE) hl hv ha) fun σ H Q ⟨sd, Fz, o', sd', S, e, k⟩ => ?_
    obtain ⟨xs, x, hx, ex, e⟩ := evEff e
    obtain ⟨a, ws, e1, e2, e3⟩ := S.mls i xs hx
    exact ⟨_, e1, .inl (.inl ⟨rfl, ws, .inl (.inl e2)⟩), sd, Fz, x.1, x.2, S, ex, fin sd σ H Fz o' sd' Q xs x a S k hx e1 ex e⟩
theorem mt_or {id : String} {r r' : V → List V → Hp → VK → Prop} (h : MtR X id r) (h' : MtR X id r') : MtR X id (fun x xs H Q => r x xs H Q ∨ r' x xs H Q) :=
  fun pins s σ H x xs v us Q I rx rs q => q.elim (h pins s σ H x xs v us Q I rx rs) (h' pins s σ H x xs v us Q I rx rs)
theorem s_eff {m : Me} {i : Nat} {es : Es} {y : Str} {ps : List PySem.Expr} {py apos cpos : Pos} (hu : X.A.units + 64 < cLine) (hK : g.K = (kwX X)) (hv : PE X (.Name y py) (tVar i)) (hline : (apos.endLine == cpos.line) = true) (hmE : mEs pr N se es ps = true) (hl : ps.length < 25) (ha : PA X ps (tRs g (evEs C es))) :
    PE X (.Call (.Attribute (.Name y py) (meS m) apos) ps [] cpos) (tR g (evE C (.eff m i es))) := by
  by_cases hm : m ≠ .append ∧ m ≠ .extend ∧ m ≠ .pop ∧ m ≠ .reverse ∧ m ≠ .insert ∧ m ≠ .remove
  · refine PE.to pe_never fun σ H Q ⟨sd, Fz, o', sd', S, e, k⟩ => ?_
    obtain ⟨xs, x, hx, ex, e⟩ := evEff e
    obtain ⟨zs, d, us, hz, el, _⟩ := effE_eq e
    rw [eff_no hm] at el
    cases el
  · cases m <;> first
      | exact eff_with hK PySem.F.slot_list_append PySem.F.type_list_append mt_append eff_append hv hline hmE hl ha
      | exact eff_with hK PySem.F.slot_list_extend PySem.F.type_list_extend (mt_or mt_extend mt_extendT) eff_extend hv hline hmE hl ha
      | exact eff_with hK PySem.F.slot_list_pop PySem.F.type_list_pop (mt_or mt_pop mt_popAt) eff_pop hv hline hmE hl ha
      | exact eff_with hK PySem.F.slot_list_reverse PySem.F.type_list_reverse mt_reverse eff_reverse hv hline hmE hl ha
      | exact eff_with hK PySem.F.slot_list_insert PySem.F.type_list_insert mt_insert eff_insert hv hline hmE hl ha
      | exact eff_with hK PySem.F.slot_list_remove PySem.F.type_list_remove (MtR.ex fun Fz => mt_remD (Fz := Fz) hu) (eff_remove (Fz0 := fun _ => False)) hv hline hmE hl ha
      | exact absurd (by decide) hm
end
end Ev

set_option linter.all false
set_option autoImplicit false
set_option Elab.async false
set_option maxRecDepth 100000
set_option maxHeartbeats 4000000
/-! EvH6: targets; what is walked. -/
namespace Ev
open PySem PySem.Spec L2
section
variable {g : Gc} {sd sd' : SD} {σ : L2.St} {H H' : Hp} {Fz Fz' : Addr → Prop}
/-- what may come into a slot -/
def SlV (g : Gc) (sd : SD) (σ : L2.St) (H : Hp) (Fz : Addr → Prop) : Sl → Option V → Prop
  | .none, _ => True
  | .v d, v => ∃ w, v = some w ∧ Rep g.K Fz H d w
  | .ml xs, v => ∃ a ws, v = some (.ref a) ∧ H a = some (.lst ws) ∧ RepL g.K Fz H xs ws ∧ ¬ Fz a ∧ ¬ Mu sd σ a ∧ g.He a = none
  | .mk kvs, v => ∃ a es, v = some (.ref a) ∧ H a = some (dO g.K.w a es) ∧ KysR g.K H (kvs.map (·.1)) (es.map (·.1)) ∧ RepL g.K Fz H (kvs.map (·.2)) (es.map (·.2)) ∧ ¬ Fz a ∧ ¬ Mu sd σ a ∧ g.He a = none
theorem set_get {α : Type} {l : List α} {i : Nat} {x : α} (h : i < l.length) : (l.set i x)[i]? = some x := List.getElem?_set_self h
theorem SRel.setS (S : SRel g sd σ H Fz) {i : Nat} {s : Sl} {v : Option V} (h : SlV g sd σ H Fz s v) (hp : (decide (i < g.np) && mutAt sd i) = false) : SRel g (sd.set i s) (σ.set i v) H Fz := by
  have ne : ∀ {j : Nat} {x : Option V}, j ≠ i → (σ.set i v)[j]? = σ[j]? := fun {j x} hj => List.getElem?_set_ne (Ne.symm hj)
  have at' : ∀ {j : Nat} {t : Sl}, (sd.set i s)[j]? = some t → j = i → (σ.set i v)[i]? = some v := fun {j t} h e => by
    subst e
    have hl : j < (sd.set j s).length := (List.getElem?_eq_some_iff.mp h).1
    rw [List.length_set, S.len] at hl
    exact set_get hl
  have mut2 : ∀ {j a}, mutAt (sd.set i s) j = true → (σ.set i v)[j]? = some (some (.ref a)) → (j ≠ i ∧ mutAt sd j = true ∧ σ[j]? = some (some (.ref a))) ∨ (j = i ∧ isMut s = true ∧ v = some (.ref a)) := fun {j a} hj e => by
    rcases mutAt_set hj with ⟨h1, h2⟩ | ⟨h1, h2⟩
    · exact .inl ⟨h1, h2, by rw [List.getElem?_set_ne (Ne.symm h1)] at e; exact e⟩
    · refine .inr ⟨h1, h2, ?_⟩
      rcases get_set e with ⟨q, _⟩ | ⟨_, q⟩
      · exact absurd h1 q
      · exact q
  have new : ∀ a, isMut s = true → v = some (.ref a) → ¬ Fz a ∧ ¬ Mu sd σ a ∧ g.He a = none := fun a hm hv => by
    cases s with
    | none => cases hm
    | v d => cases hm
    | ml xs =>
      obtain ⟨b, ws, e1, _, _, e2⟩ := h
      rw [hv] at e1
      cases e1
      exact e2
    | mk kvs =>
      obtain ⟨b, ws, e1, _, _, _, e2⟩ := h
      rw [hv] at e1
      cases e1
      exact e2
  refine ⟨by rw [List.length_set, List.length_set]; exact S.len, fun j d q => ?_, fun j xs q => ?_, fun j kvs q => ?_, fun j a hj e => ?_, fun j l a h1 h2 e1 e2 => ?_, fun j a q => ?_, S.fzb, S.fz0, S.frame, S.fzH⟩
  · rcases get_set q with ⟨hj, q'⟩ | ⟨hj, q'⟩
    · obtain ⟨w, e, r⟩ := S.vals j d q'
      exact ⟨w, by rw [List.getElem?_set_ne (Ne.symm hj)]; exact e, r⟩
    · have := at' q hj
      subst q'
      obtain ⟨w, e, r⟩ := h
      rw [hj, this, e]
      exact ⟨w, rfl, r⟩
  · rcases get_set q with ⟨hj, q'⟩ | ⟨hj, q'⟩
    · obtain ⟨a, ws, e, r⟩ := S.mls j xs q'
      exact ⟨a, ws, by rw [List.getElem?_set_ne (Ne.symm hj)]; exact e, r⟩
    · have := at' q hj
      subst q'
      obtain ⟨a, ws, e, e2, r, _⟩ := h
      rw [hj, this, e]
      exact ⟨a, ws, rfl, e2, r⟩
  · rcases get_set q with ⟨hj, q'⟩ | ⟨hj, q'⟩
    · obtain ⟨a, ws, e, r⟩ := S.mks j kvs q'
      exact ⟨a, ws, by rw [List.getElem?_set_ne (Ne.symm hj)]; exact e, r⟩
    · have := at' q hj
      subst q'
      obtain ⟨a, ws, e, e2, e3, r, _⟩ := h
      rw [hj, this, e]
      exact ⟨a, ws, rfl, e2, e3, r⟩
  · rcases mut2 hj e with ⟨_, q1, q2⟩ | ⟨rfl, q1, q2⟩
    · exact S.mown j a q1 q2
    · obtain ⟨z1, z2, z3⟩ := new a q1 q2
      exact ⟨z1, .inr z3⟩
  · rcases mut2 h1 e1 with ⟨_, q1, q2⟩ | ⟨z1, q1, q2⟩ <;> rcases mut2 h2 e2 with ⟨_, p1, p2⟩ | ⟨z2, p1, p2⟩
    · exact S.inj j l a q1 p1 q2 p2
    · exact absurd ⟨j, q1, q2⟩ (new a p1 p2).2.1
    · exact absurd ⟨l, p1, p2⟩ (new a q1 q2).2.1
    · rw [z1, z2]
  · obtain ⟨h1, h2, h3⟩ := S.par j a q
    have hj : j ≠ i := fun z => by
      subst z
      rw [h2, Bool.and_true, decide_eq_false_iff_not] at hp
      exact hp h1
    exact ⟨h1, by rw [mutAt_set_ne hj]; exact h2, by rw [List.getElem?_set_ne (Ne.symm hj)]; exact h3⟩
/-- what stays when the target is set -/
structure TgSet (sl : List Nat) (sd : SD) (σ : L2.St) (sd' : SD) (σ' : L2.St) : Prop where
  far : ∀ j, j ∉ sl → σ'[j]? = σ[j]? ∧ sd'[j]? = sd[j]?
  mu : ∀ j, mutAt sd' j = true → mutAt sd j = true ∧ σ'[j]? = σ[j]?
  len : sd'.length = sd.length ∧ σ'.length = σ.length
theorem TgSet.refl : TgSet [] sd σ sd σ := ⟨fun _ _ => ⟨rfl, rfl⟩, fun _ h => ⟨h, rfl⟩, rfl, rfl⟩
theorem TgSet.trans {s1 s2 : List Nat} {sd1 sd2 : SD} {σ1 σ2 : L2.St} (a : TgSet s1 sd σ sd1 σ1) (b : TgSet s2 sd1 σ1 sd2 σ2) : TgSet (s1 ++ s2) sd σ sd2 σ2 := by
  refine ⟨fun j h => ?_, fun j h => ?_, b.len.1.trans a.len.1, b.len.2.trans a.len.2⟩
  · rw [List.mem_append, not_or] at h
    obtain ⟨x1, x2⟩ := a.far j h.1
    obtain ⟨y1, y2⟩ := b.far j h.2
    exact ⟨y1.trans x1, y2.trans x2⟩
  · obtain ⟨y1, y2⟩ := b.mu j h
    obtain ⟨x1, x2⟩ := a.mu j y1
    exact ⟨x1, y2.trans x2⟩
theorem TgSet.one {i : Nat} {d : D} {w : V} : TgSet [i] sd σ (sd.set i (.v d)) (σ.set i (some w)) := by
  refine ⟨fun j h => ?_, fun j h => ?_, by rw [List.length_set], by rw [List.length_set]⟩
  · have hj : j ≠ i := by simpa using h
    rw [List.getElem?_set_ne (Ne.symm hj), List.getElem?_set_ne (Ne.symm hj)]
    exact ⟨rfl, rfl⟩
  · rcases mutAt_set h with ⟨hj, h⟩ | ⟨_, h⟩
    · exact ⟨h, List.getElem?_set_ne (Ne.symm hj)⟩
    · cases h
end
/-- a target takes a datum -/
def tTg (g : Gc) (np : Nat) (tg : Tg) : TG := fun x σ H Q => ∃ sd Fz d sd', SRel g sd σ H Fz ∧ Rep g.K Fz H d x ∧ assignT np tg d sd = some sd' ∧
  ∀ σ', SRel g sd' σ' H Fz → TgSet (tgSl tg) sd σ sd' σ' → Q σ' H
/-- a target takes a row of a walk -/
def tRow (g : Gc) (np : Nat) (tg : Tg) : TG := fun x σ H' Q => ∃ H0 sd Fz row sd', SRel g sd σ H0 Fz ∧ RowR g Fz H0 H' row x ∧ asgR np tg row sd = some sd' ∧
  ∀ σ', SRel g sd' σ' H' Fz → TgSet (tgSl tg) sd σ sd' σ' → Q σ' H'
section
variable {X : Cx} {g : Gc} {C : Cfg} {pr : Pr} {lv : Nat} {N : List Str} {se : Se}
theorem PG.to {e : PySem.Expr} {t t' : TG} (h : PG X e t) (i : ∀ x σ H Q, t' x σ H Q → t x σ H Q) : PG X e t' := ⟨fun pins s σ H v u Q I r q => h.run pins s σ H v u Q I r (i v σ H Q q)⟩
theorem PG.or {e : PySem.Expr} {t t' : TG} (h : PG X e t) (h' : PG X e t') : PG X e (fun x σ H Q => t x σ H Q ∨ t' x σ H Q) := ⟨fun pins s σ H v u Q I r q => q.elim (h.run pins s σ H v u Q I r) (h'.run pins s σ H v u Q I r)⟩
theorem nst_assign {p : PySem.Expr} (h : nst p = true) (es : List PySem.Expr) (env : Env) : assignEach (p :: es) env = (false, assign p env) :: assignEach es env := by
  cases p <;> first
    | rfl
    | (simp [nst] at h)
theorem Good.loc (G : Good pr lv N se X) {x : Str} (h : stB se x = true) : L2.Loc X.env.scope x ∧ (X.fn x = true ∨ X.env.scope.names.lookup x = some .local) := by
  unfold stB at h
  rw [G.esc]
  unfold L2.Loc
  split at h
  · rename_i e
    have := G.raw x _ (by simp) e
    exact ⟨.inl this, .inr this⟩
  · rename_i e
    have := G.raw x _ (by simp) e
    exact ⟨.inr this, .inl (G.fnc x e)⟩
  · cases h
theorem and2 {a b : Bool} (h : (a && b) = true) : a = true ∧ b = true := by simpa using h
theorem asg2 {np : Nat} {a b : Tg} {d : D} {sd s : SD} (e : assignT np (.t2 a b) d sd = some s) : ∃ x y s1, (d = .tup [x, y] ∨ d = .lst [x, y]) ∧ assignT np a x sd = some s1 ∧ assignT np b y s1 = some s := by
  cases d with
  | tup xs =>
    match xs, e with
    | [x, y], e =>
      obtain ⟨s1, e1, e2⟩ := Option.bind_eq_some_iff.mp e
      exact ⟨x, y, s1, .inl rfl, e1, e2⟩
    | [], e => simp [assignT] at e
    | [_], e => simp [assignT] at e
    | _ :: _ :: _ :: _, e => simp [assignT] at e
  | lst xs =>
    match xs, e with
    | [x, y], e =>
      obtain ⟨s1, e1, e2⟩ := Option.bind_eq_some_iff.mp e
      exact ⟨x, y, s1, .inr rfl, e1, e2⟩
    | [], e => simp [assignT] at e
    | [_], e => simp [assignT] at e
    | _ :: _ :: _ :: _, e => simp [assignT] at e
  | _ => simp [assignT] at e
theorem asg3 {np : Nat} {a b c : Tg} {d : D} {sd s : SD} (e : assignT np (.t3 a b c) d sd = some s) : ∃ x y z s1 s2, d = .tup [x, y, z] ∧ assignT np a x sd = some s1 ∧ assignT np b y s1 = some s2 ∧ assignT np c z s2 = some s := by
  cases d with
  | tup xs =>
    match xs, e with
    | [x, y, z], e =>
      obtain ⟨s1, e1, e2⟩ := Option.bind_eq_some_iff.mp e
      obtain ⟨s2, e2, e3⟩ := Option.bind_eq_some_iff.mp e2
      exact ⟨x, y, z, s1, s2, rfl, e1, e2, e3⟩
    | [], e => simp [assignT] at e
    | [_], e => simp [assignT] at e
    | [_, _], e => simp [assignT] at e
    | _ :: _ :: _ :: _ :: _, e => simp [assignT] at e
  | _ => simp [assignT] at e
theorem asg4 {np : Nat} {a b c b' : Tg} {d : D} {sd s : SD} (e : assignT np (.t4 a b c b') d sd = some s) : ∃ x y z u s1 s2 s3, d = .tup [x, y, z, u] ∧ assignT np a x sd = some s1 ∧ assignT np b y s1 = some s2 ∧ assignT np c z s2 = some s3 ∧ assignT np b' u s3 = some s := by
  cases d with
  | tup xs =>
    match xs, e with
    | [x, y, z, u], e =>
      obtain ⟨s1, e1, e2⟩ := Option.bind_eq_some_iff.mp e
      obtain ⟨s2, e2, e3⟩ := Option.bind_eq_some_iff.mp e2
      obtain ⟨s3, e3, e4⟩ := Option.bind_eq_some_iff.mp e3
      exact ⟨x, y, z, u, s1, s2, s3, rfl, e1, e2, e3, e4⟩
    | [], e => simp [assignT] at e
    | [_], e => simp [assignT] at e
    | [_, _], e => simp [assignT] at e
    | [_, _, _], e => simp [assignT] at e
    | _ :: _ :: _ :: _ :: _ :: _, e => simp [assignT] at e
  | _ => simp [assignT] at e
theorem asg5 {np : Nat} {a b c b' c' : Tg} {d : D} {sd s : SD} (e : assignT np (.t5 a b c b' c') d sd = some s) : ∃ x y z u w s1 s2 s3 s4, d = .tup [x, y, z, u, w] ∧ assignT np a x sd = some s1 ∧ assignT np b y s1 = some s2 ∧ assignT np c z s2 = some s3 ∧ assignT np b' u s3 = some s4 ∧ assignT np c' w s4 = some s := by
  cases d with
  | tup xs =>
    match xs, e with
    | [x, y, z, u, w], e =>
      obtain ⟨s1, e1, e2⟩ := Option.bind_eq_some_iff.mp e
      obtain ⟨s2, e2, e3⟩ := Option.bind_eq_some_iff.mp e2
      obtain ⟨s3, e3, e4⟩ := Option.bind_eq_some_iff.mp e3
      obtain ⟨s4, e4, e5⟩ := Option.bind_eq_some_iff.mp e4
      exact ⟨x, y, z, u, w, s1, s2, s3, s4, rfl, e1, e2, e3, e4, e5⟩
    | [], e => simp [assignT] at e
    | [_], e => simp [assignT] at e
    | [_, _], e => simp [assignT] at e
    | [_, _, _], e => simp [assignT] at e
    | [_, _, _, _], e => simp [assignT] at e
    | _ :: _ :: _ :: _ :: _ :: _ :: _, e => simp [assignT] at e
  | _ => simp [assignT] at e
theorem asgRow {np : Nat} {tg : Tg} {row : List D} {sd s : SD} (e : asgR np tg row sd = some s) : (∃ d, row = [d] ∧ assignT np tg d sd = some s) ∨ ∃ a b x y s1, tg = .t2 a b ∧ row = [x, y] ∧ assignT np a x sd = some s1 ∧ assignT np b y s1 = some s := by
  match row, e with
  | [], e => cases tg <;> simp [asgR] at e
  | [d], e => exact .inl ⟨d, rfl, by simpa only [asgR] using e⟩
  | [x, y], e =>
    cases tg with
    | t2 a b =>
      obtain ⟨s1, e1, e2⟩ := Option.bind_eq_some_iff.mp (by simpa only [asgR] using e)
      exact .inr ⟨a, b, x, y, s1, rfl, rfl, e1, e2⟩
    | _ => simp [asgR] at e
  | _ :: _ :: _ :: _, e => cases tg <;> simp [asgR] at e
theorem pg_T (G : Good pr lv N se X) {np : Nat} (hK : g.K = (kwX X)) (hn : g.np = np) : ∀ (tg : Tg) (p : PySem.Expr), mT N se tg p = true → PG X p (tTg g np tg)
  | .n i, p, h => by
    simp only [mT] at h
    split at h
    · rename_i x hx
      obtain ⟨pos, rfl⟩ := asName_ok hx
      obtain ⟨h1, h2⟩ := and2 h
      have h1 := of_decide_eq_true h1
      obtain ⟨l1, l2⟩ := G.loc h2
      refine PG.to (pg_name (by rw [G.eN]; exact G.nd) (by rw [G.eN]; exact h1) l1 l2) fun x σ H Q ⟨sd, Fz, d, sd', S, r, e, k⟩ => ?_
      simp only [assignT, putV] at e
      split at e
      · cases e
      · rename_i hp
        cases e
        exact k _ (S.setS (s := .v d) ⟨x, rfl, r⟩ (by rw [hn]; simpa using hp)) TgSet.one
    · cases h
  | .t2 a b, p, h => by
    simp only [mT] at h
    split at h
    · rename_i x y hx
      obtain ⟨k0, pos, rfl⟩ := asTup_ok hx
      obtain ⟨h, n2⟩ := and2 h
      obtain ⟨h, n1⟩ := and2 h
      obtain ⟨h1, h2⟩ := and2 h
      have P1 := pg_tup (X := X) (pos := pos) (k := k0) (n := 2) G.calm (pgs_cons (pg_T G hK hn a x h1) (pgs_cons (pg_T G hK hn b y h2) pgs_nil (by rw [nst_assign n2]; rfl)) (by rw [nst_assign n1]; rfl)) (by rw [nst_assign n1, nst_assign n2]; rfl) (by rw [nst_assign n1, nst_assign n2]; rfl)
      have P2 := pg_unl (X := X) (pos := pos) (k := k0) (n := 2) G.calm (pgs_cons (pg_T G hK hn a x h1) (pgs_cons (pg_T G hK hn b y h2) pgs_nil (by rw [nst_assign n2]; rfl)) (by rw [nst_assign n1]; rfl)) (by rw [nst_assign n1, nst_assign n2]; rfl) (by rw [nst_assign n1, nst_assign n2]; rfl)
      refine PG.to (PG.or P1 P2) fun v σ H Q ⟨sd, Fz, d, sd', S, r, e, k⟩ => ?_
      obtain ⟨d1, d2, s1, hd, e1, e2⟩ := asg2 e
      rcases hd with rfl | rfl
      · simp only [Rep] at r
        obtain ⟨q, vs, rfl, hq, rl⟩ := r
        simp only [RepL] at rl
        obtain ⟨v1, _, rfl, r1, v2, _, rfl, r2, rfl⟩ := rl
        exact .inl ⟨q, _, rfl, (show X.K = (kwX X).f from rfl) ▸ hK ▸ hq.t, rfl, v1, _, rfl, sd, Fz, _, s1, S, r1, e1, fun σ1 S1 T1 => ⟨v2, _, rfl, s1, Fz, _, sd', S1, r2, e2, fun σ2 S2 T2 => ⟨rfl, k σ2 S2 (T1.trans T2)⟩⟩⟩
      · simp only [Rep] at r
        obtain ⟨q, vs, rfl, _, hq, rl⟩ := r
        simp only [RepL] at rl
        obtain ⟨v1, _, rfl, r1, v2, _, rfl, r2, rfl⟩ := rl
        exact .inr ⟨q, _, rfl, .inl (.inl hq), rfl, v1, _, rfl, sd, Fz, _, s1, S, r1, e1, fun σ1 S1 T1 => ⟨v2, _, rfl, s1, Fz, _, sd', S1, r2, e2, fun σ2 S2 T2 => ⟨rfl, k σ2 S2 (T1.trans T2)⟩⟩⟩
    · cases h
  | .t3 a b c, p, h => by
    simp only [mT] at h
    split at h
    · rename_i x y z hx
      obtain ⟨k0, pos, rfl⟩ := asTup_ok hx
      obtain ⟨h, n3⟩ := and2 h
      obtain ⟨h, n2⟩ := and2 h
      obtain ⟨h, n1⟩ := and2 h
      obtain ⟨h, h3⟩ := and2 h
      obtain ⟨h1, h2⟩ := and2 h
      refine PG.to (pg_tup (n := 3) G.calm (pgs_cons (pg_T G hK hn a x h1) (pgs_cons (pg_T G hK hn b y h2) (pgs_cons (pg_T G hK hn c z h3) pgs_nil (by rw [nst_assign n3]; rfl)) (by rw [nst_assign n2]; rfl)) (by rw [nst_assign n1]; rfl)) (by rw [nst_assign n1, nst_assign n2, nst_assign n3]; rfl) (by rw [nst_assign n1, nst_assign n2, nst_assign n3]; rfl)) fun v σ H Q ⟨sd, Fz, d, sd', S, r, e, k⟩ => ?_
      obtain ⟨d1, d2, d3, s1, s2, rfl, e1, e2, e⟩ := asg3 e
      simp only [Rep] at r
      obtain ⟨q, vs, rfl, hq, rl⟩ := r
      simp only [RepL] at rl
      obtain ⟨v1, _, rfl, r1, v2, _, rfl, r2, v3, _, rfl, r3, rfl⟩ := rl
      exact ⟨q, _, rfl, (show X.K = (kwX X).f from rfl) ▸ hK ▸ hq.t, rfl, v1, _, rfl, sd, Fz, _, s1, S, r1, e1, fun σ1 S1 T1 => ⟨v2, _, rfl, s1, Fz, _, s2, S1, r2, e2, fun σ2 S2 T2 => ⟨v3, _, rfl, s2, Fz, _, sd', S2, r3, e, fun σ3 S3 T3 => ⟨rfl, k σ3 S3 ((T1.trans T2).trans T3)⟩⟩⟩⟩
    · cases h
  | .t4 a b c d', p, h => by
    simp only [mT] at h
    split at h
    · rename_i x y z u hx
      obtain ⟨k0, pos, rfl⟩ := asTup_ok hx
      obtain ⟨h, n4⟩ := and2 h
      obtain ⟨h, n3⟩ := and2 h
      obtain ⟨h, n2⟩ := and2 h
      obtain ⟨h, n1⟩ := and2 h
      obtain ⟨h, h4⟩ := and2 h
      obtain ⟨h, h3⟩ := and2 h
      obtain ⟨h1, h2⟩ := and2 h
      refine PG.to (pg_tup (n := 4) G.calm (pgs_cons (pg_T G hK hn a x h1) (pgs_cons (pg_T G hK hn b y h2) (pgs_cons (pg_T G hK hn c z h3) (pgs_cons (pg_T G hK hn d' u h4) pgs_nil (by rw [nst_assign n4]; rfl)) (by rw [nst_assign n3]; rfl)) (by rw [nst_assign n2]; rfl)) (by rw [nst_assign n1]; rfl)) (by rw [nst_assign n1, nst_assign n2, nst_assign n3, nst_assign n4]; rfl) (by rw [nst_assign n1, nst_assign n2, nst_assign n3, nst_assign n4]; rfl)) fun v σ H Q ⟨sd, Fz, d, sd', S, r, e, k⟩ => ?_
      obtain ⟨d1, d2, d3, d4, s1, s2, s3, rfl, e1, e2, e3, e⟩ := asg4 e
      simp only [Rep] at r
      obtain ⟨q, vs, rfl, hq, rl⟩ := r
      simp only [RepL] at rl
      obtain ⟨v1, _, rfl, r1, v2, _, rfl, r2, v3, _, rfl, r3, v4, _, rfl, r4, rfl⟩ := rl
      exact ⟨q, _, rfl, (show X.K = (kwX X).f from rfl) ▸ hK ▸ hq.t, rfl, v1, _, rfl, sd, Fz, _, s1, S, r1, e1, fun σ1 S1 T1 => ⟨v2, _, rfl, s1, Fz, _, s2, S1, r2, e2, fun σ2 S2 T2 => ⟨v3, _, rfl, s2, Fz, _, s3, S2, r3, e3, fun σ3 S3 T3 => ⟨v4, _, rfl, s3, Fz, _, sd', S3, r4, e, fun σ4 S4 T4 => ⟨rfl, k σ4 S4 (((T1.trans T2).trans T3).trans T4)⟩⟩⟩⟩⟩
    · cases h
  | .t5 a b c d' e', p, h => by
    simp only [mT] at h
    split at h
    · rename_i x y z u w hx
      obtain ⟨k0, pos, rfl⟩ := asTup_ok hx
      obtain ⟨h, n5⟩ := and2 h
      obtain ⟨h, n4⟩ := and2 h
      obtain ⟨h, n3⟩ := and2 h
      obtain ⟨h, n2⟩ := and2 h
      obtain ⟨h, n1⟩ := and2 h
      obtain ⟨h, h5⟩ := and2 h
      obtain ⟨h, h4⟩ := and2 h
      obtain ⟨h, h3⟩ := and2 h
      obtain ⟨h1, h2⟩ := and2 h
      refine PG.to (pg_tup (n := 5) G.calm (pgs_cons (pg_T G hK hn a x h1) (pgs_cons (pg_T G hK hn b y h2) (pgs_cons (pg_T G hK hn c z h3) (pgs_cons (pg_T G hK hn d' u h4) (pgs_cons (pg_T G hK hn e' w h5) pgs_nil (by rw [nst_assign n5]; rfl)) (by rw [nst_assign n4]; rfl)) (by rw [nst_assign n3]; rfl)) (by rw [nst_assign n2]; rfl)) (by rw [nst_assign n1]; rfl)) (by rw [nst_assign n1, nst_assign n2, nst_assign n3, nst_assign n4, nst_assign n5]; rfl) (by rw [nst_assign n1, nst_assign n2, nst_assign n3, nst_assign n4, nst_assign n5]; rfl)) fun v σ H Q ⟨sd, Fz, d, sd', S, r, e, k⟩ => ?_
      obtain ⟨d1, d2, d3, d4, d5, s1, s2, s3, s4, rfl, e1, e2, e3, e4, e⟩ := asg5 e
      simp only [Rep] at r
      obtain ⟨q, vs, rfl, hq, rl⟩ := r
      simp only [RepL] at rl
      obtain ⟨v1, _, rfl, r1, v2, _, rfl, r2, v3, _, rfl, r3, v4, _, rfl, r4, v5, _, rfl, r5, rfl⟩ := rl
      exact ⟨q, _, rfl, (show X.K = (kwX X).f from rfl) ▸ hK ▸ hq.t, rfl, v1, _, rfl, sd, Fz, _, s1, S, r1, e1, fun σ1 S1 T1 => ⟨v2, _, rfl, s1, Fz, _, s2, S1, r2, e2, fun σ2 S2 T2 => ⟨v3, _, rfl, s2, Fz, _, s3, S2, r3, e3, fun σ3 S3 T3 => ⟨v4, _, rfl, s3, Fz, _, s4, S3, r4, e4, fun σ4 S4 T4 => ⟨v5, _, rfl, s4, Fz, _, sd', S4, r5, e, fun σ5 S5 T5 => ⟨rfl, k σ5 S5 ((((T1.trans T2).trans T3).trans T4).trans T5)⟩⟩⟩⟩⟩⟩
    · cases h
/-- the target of a loop -/
theorem pg_row (G : Good pr lv N se X) {np : Nat} (hK : g.K = (kwX X)) (hn : g.np = np) (tg : Tg) (p : PySem.Expr) (h : mT N se tg p = true) : PG X p (tRow g np tg) := by
  have one : ∀ {x σ H' Q H0 sd Fz d sd'}, SRel g sd σ H0 Fz → RowR g Fz H0 H' [d] x → assignT np tg d sd = some sd' → (∀ σ', SRel g sd' σ' H' Fz → TgSet (tgSl tg) sd σ sd' σ' → Q σ' H') → tTg g np tg x σ H' Q := by
    intro x σ H' Q H0 sd Fz d sd' S r e k
    obtain ⟨rfl, r⟩ := r
    exact ⟨sd, Fz, d, sd', S, r, e, k⟩
  cases tg with
  | t2 a b =>
    have h0 := h
    simp only [mT] at h
    split at h
    · rename_i x y hx
      obtain ⟨k0, pos, rfl⟩ := asTup_ok hx
      obtain ⟨h, n2⟩ := and2 h
      obtain ⟨h, n1⟩ := and2 h
      obtain ⟨h1, h2⟩ := and2 h
      have P2 := pg_tup (X := X) (pos := pos) (k := k0) (n := 2) G.calm (pgs_cons (pg_T G hK hn a x h1) (pgs_cons (pg_T G hK hn b y h2) pgs_nil (by rw [nst_assign n2]; rfl)) (by rw [nst_assign n1]; rfl)) (by rw [nst_assign n1, nst_assign n2]; rfl) (by rw [nst_assign n1, nst_assign n2]; rfl)
      refine PG.to (PG.or (pg_T G hK hn (.t2 a b) _ h0) P2) fun v σ H' Q ⟨H0, sd, Fz, row, sd', S, r, e, k⟩ => ?_
      rcases asgRow e with ⟨d, rfl, e⟩ | ⟨a', b', d1, d2, s1, hh, rfl, e1, e⟩
      · exact .inl (one S r e k)
      · cases hh
        obtain ⟨T, v1, v2, rfl, hT, rfl, r1, r2⟩ := r
        have gr : Grow H0 (upd H0 T (.tup [v1, v2])) := Grow.upd hT
        refine .inr ⟨T, _, rfl, .inl (.inl upd_same), rfl, v1, _, rfl, sd, Fz, _, s1, S.grow gr, Rep.keep gr.keep (fun _ z => z) _ _ r1, e1, fun σ1 S1 T1 => ⟨v2, _, rfl, s1, Fz, _, sd', S1, Rep.keep gr.keep (fun _ z => z) _ _ r2, e, fun σ2 S2 T2 => ⟨rfl, k σ2 S2 (T1.trans T2)⟩⟩⟩
    · cases h
  | n i =>
    refine PG.to (pg_T G hK hn _ p h) fun v σ H' Q ⟨H0, sd, Fz, row, sd', S, r, e, k⟩ => ?_
    rcases asgRow e with ⟨d, rfl, e⟩ | ⟨a', b', d1, d2, s1, hh, _⟩
    · exact one S r e k
    · cases hh
  | t3 a b c =>
    refine PG.to (pg_T G hK hn _ p h) fun v σ H' Q ⟨H0, sd, Fz, row, sd', S, r, e, k⟩ => ?_
    rcases asgRow e with ⟨d, rfl, e⟩ | ⟨a', b', d1, d2, s1, hh, _⟩
    · exact one S r e k
    · cases hh
  | t4 a b c d =>
    refine PG.to (pg_T G hK hn _ p h) fun v σ H' Q ⟨H0, sd, Fz, row, sd', S, r, e, k⟩ => ?_
    rcases asgRow e with ⟨d, rfl, e⟩ | ⟨a', b', d1, d2, s1, hh, _⟩
    · exact one S r e k
    · cases hh
  | t5 a b c d e0 =>
    refine PG.to (pg_T G hK hn _ p h) fun v σ H' Q ⟨H0, sd, Fz, row, sd', S, r, e, k⟩ => ?_
    rcases asgRow e with ⟨d, rfl, e⟩ | ⟨a', b', d1, d2, s1, hh, _⟩
    · exact one S r e k
    · cases hh
end
end Ev

set_option Elab.async false
set_option linter.all false
set_option autoImplicit false
set_option maxRecDepth 100000
set_option maxHeartbeats 1000000
/-! EvZp: zip of a tuple and a list. -/
namespace Ev
open PySem PySem.Spec PyProof.Rows L2
/-- the tuple at a and the list at b as they stand at each turn -/
def ItzM (K : PySem.W.Frag) (a b : Addr) : L2.It :=
  ⟨fun i H => ∃ (xs ys : List V) (x y : V), SqT K H a xs ∧ SqL K H b ys ∧ xs[i]? = some x ∧ ys[i]? = some y,
    fun i H v H' => ∃ T x y, v = .ref T ∧ H T = none ∧ H' = upd H T (.tup [x, y]) ∧ (∀ xs, SqT K H a xs → xs[i]? = some x) ∧ ∀ ys, SqL K H b ys → ys[i]? = some y,
    fun i H => ∃ xs ys : List V, SqT K H a xs ∧ SqL K H b ys ∧ i ≤ xs.length ∧ i ≤ ys.length ∧ (i = xs.length ∨ i = ys.length)⟩
theorem zipSep {z TI TO i1 i2 a b : Addr} (D : ZipApart z TI TO i1 i2 a b) : ZipSep2 z TI TO i1 i2 [i1, a] [i2, b] where
  TIz := D.TIz
  TOz := D.TOz
  TITO := D.TITO
  TIi1 := D.TIi1
  mem1 := by simp
  zf1 := by simp [D.i1z.symm, D.l1z.symm]
  Tf1 := by simp [D.TOi1, D.l1TO.symm]
  TIi2 := D.TIi2
  mem2 := by simp
  zf2 := by simp [D.i2z.symm, D.l2z.symm]
  Tf2 := by simp [D.TOi2, D.l2TO.symm]
  sep1_2 := by simp [D.i12, D.l2i1.symm]
  sep2_1 := by simp [D.i12.symm, D.l1i2.symm]
theorem turn_zipM {P : Program} {w : World} {K : PySem.W.Frag} {elts : List Expr} {kk : Nat} {tpos : Pos} {a b z TI TO i1 i2 : Addr} (D : ZipApart z TI TO i1 i2 a b) :
    Turn P w K (.Tuple elts kk tpos) (ItzM K a b) [z, TI, TO, i1, i2] z (fun i h => IsZip h z TI TO .none ∧ IsTupOf2 h TI (.ref i1) (.ref i2) ∧ (∃ x y, IsTupOf2 h TO x y) ∧ h.IsTupleIter i1 a i ∧ h.IsListIter i2 b i) where
  mem := by simp
  obj := fun i h st c hc => by
    obtain ⟨hz, hTI, ⟨x, y, hTO⟩, ⟨o1, e1, _, d1⟩, ⟨o2, e2, _, d2⟩⟩ := st
    have e' : c = z ∨ c = TI ∨ c = TO ∨ c = i1 ∨ c = i2 := by simpa using hc
    rcases e' with q | q | q | q | q
    · rw [q]; exact ⟨_, hz, fun v q => nomatch q⟩
    · rw [q]; exact ⟨_, hTI, fun v q => nomatch q⟩
    · rw [q]; exact ⟨_, hTO, fun v q => nomatch q⟩
    · rw [q]; exact ⟨o1, e1, fun v q => by rw [d1] at q; cases q⟩
    · rw [q]; exact ⟨o2, e2, fun v q => by rw [d2] at q; cases q⟩
  keep := fun i h h' st k => by
    obtain ⟨hz, hTI, ⟨x, y, hTO⟩, h1, h2⟩ := st
    exact ⟨k z (by simp) _ hz, k TI (by simp) _ hTI, ⟨x, y, k TO (by simp) _ hTO⟩, h1.at fun o q => k i1 (by simp) o q, h2.at fun o q => k i2 (by simp) o q⟩
  item := by
    intro X hP hw hK hc i pins s σ H E I hf st hg
    subst hP hw hK
    obtain ⟨hz, hTI, ⟨x0, y0, hTO⟩, h1, h2⟩ := st
    obtain ⟨xs, ys, x, y, hqx, hqy, hx, hy⟩ := hg
    obtain ⟨its, rv, p, _⟩ := I.tuple hqx
    obtain ⟨its2, rv2, p2, _⟩ := I.list hqy
    obtain ⟨u, hu, ru⟩ := rv.get hx
    obtain ⟨u2, hu2, ru2⟩ := rv2.get hy
    have hzl : z < s.heap.objs.size := Heap.lt_size hz
    have hd := I.ok.hd hc
    refine wpAny_pyNext_zipD2_item (zipSep D) (Draws.tuple (show X.A.in1.handled = none from hd) i1 a D.l1i1 its.toArray) (Draws.list (show X.A.in1.handled = none from hd) i2 b D.l2i2 its2.toArray) hz hTI hTO ⟨h1, p⟩ ⟨h2, p2.isList⟩ (by rw [List.size_toArray]; exact (List.getElem?_eq_some_iff.mp hu).1) (by rw [List.size_toArray]; exact (List.getElem?_eq_some_iff.mp hu2).1) fun x1 x2 h' tk e1 e2 z' TO' ⟨h1', _⟩ ⟨h2', _⟩ hT hsz hk => ?_
    have e1 : some u = some x1 := by rw [← hu]; simpa using e1
    have e2 : some u2 = some x2 := by rw [← hu2]; simpa using e2
    cases e1
    cases e2
    refine ⟨_, rfl, wpAny_letOwnedTupleGo_zip (s := { s with heap := h', toks := tk }) z' fun h'' z'' sb => ?_⟩
    have hT2 : h''.get? s.heap.objs.size = some { cls := .type "tuple", data := .seq #[u, u2] } := (sb.2 _ (Nat.ne_of_gt hzl)).trans hT
    have new : ObjOk X.prog X.w (upd H s.heap.objs.size (.tup [x, y])) h'' s.heap.objs.size (.tup [x, y]) :=
      ⟨by show 2 ≤ sizeLine; decide, [u, u2], .cons ru (.cons ru2 .nil), ⟨_, hT2, rfl, _, rfl⟩⟩
    have I1 : L2.Inv X pins σ (upd H s.heap.objs.size (.tup [x, y])) { s with heap := h'', toks := tk } :=
      I.turnedNew (t' := tk) (ch := [z, TI, TO, i1, i2]) (fun c o hb q => (sb.2 c (fun q' => hb (by simp [q']))).trans (hk c o (fun q' => hb (by simp [q'])) (fun q' => hb (by simp [q'])) (fun q' => hb (by simp [q'])) (fun q' => hb (by simp [q'])) q)) hf (Nat.le_refl _) new
    refine ⟨.ref s.heap.objs.size, _, I1, rfl, ⟨_, x, y, rfl, I.hok.fresh (Nat.le_refl _), rfl, fun l hl => by rw [I.tuple_inj hl hqx]; exact hx, fun l hl => by rw [I.list_inj hl hqy]; exact hy⟩, ⟨z'', ?_, ⟨u, u2, ?_⟩, ?_, ?_⟩, fun c hcm => ?_⟩
    · exact (sb.2 _ D.TIz).trans (hk _ _ D.TIz D.TITO D.TIi1 D.TIi2 hTI)
    · exact (sb.2 _ D.TOz).trans TO'
    · exact h1'.at fun o q => (sb.2 _ D.i1z).trans q
    · exact h2'.at fun o q => (sb.2 _ D.i2z).trans q
    · have hlt : c < s.heap.objs.size := by
        have e' : c = z ∨ c = TI ∨ c = TO ∨ c = i1 ∨ c = i2 := by simpa using hcm
        rcases e' with q | q | q | q | q
        · rw [q]; exact hzl
        · rw [q]; exact Heap.lt_size hTI
        · rw [q]; exact Heap.lt_size hTO
        · rw [q]; obtain ⟨_, e1, _⟩ := h1; exact Heap.lt_size e1
        · rw [q]; obtain ⟨_, e2, _⟩ := h2; exact Heap.lt_size e2
      rw [upd_ne (Nat.ne_of_lt hlt)]
      exact (hf c hcm).1
  done := by
    intro X hP hw hK hc i pins s σ H E I hf st hg
    subst hP hw hK
    obtain ⟨hz, hTI, ⟨x0, y0, hTO⟩, h1, h2⟩ := st
    obtain ⟨xs, ys, hqx, hqy, b1, b2, hend⟩ := hg
    obtain ⟨its, rv, p, _⟩ := I.tuple hqx
    obtain ⟨its2, rv2, p2, _⟩ := I.list hqy
    have l1 := rv.length
    have l2 := rv2.length
    have hd := I.ok.hd hc
    exact wpAny_pyNext_zipD2_end (zipSep D) (Draws.tuple (show X.A.in1.handled = none from hd) i1 a D.l1i1 its.toArray) (Draws.list (show X.A.in1.handled = none from hd) i2 b D.l2i2 its2.toArray) hz hTI hTO ⟨h1, p⟩ ⟨h2, p2.isList⟩ (by rw [List.size_toArray]; omega) (by rw [List.size_toArray]; omega) (by rw [List.size_toArray, List.size_toArray]; omega) fun h' tk hk => ⟨rfl, I.turnedL (t' := tk) (ch := [z, TI, TO, i1, i2]) (fun c o hb q =>
      hk c o (fun q' => hb (by simp [q'])) (fun q' => hb (by simp [q'])) (fun q' => hb (by simp [q'])) (fun q' => hb (by simp [q'])) q) hf⟩
  self := fun A i s Q E st h => wpAny_pyIter_zip st.1 h
theorem pi_zipM {X : Cx} {e e2 : Expr} {ta : TA} {p pos tpos : Pos} {elts : List Expr} {kk : Nat} (hg : Gl X "zip") (hm : X.mg "zip" = none) (ha : PA X [e, e2] ta)
    (hs : starEach [e, e2] X.env = (false, eval e X.env) :: starEach [e2] X.env := by rfl) (hpl : (backTo pos (starEach [e2] X.env)).any (·.1) = false := by rfl) :
    PI X (.Tuple elts kk tpos) (.Call (.Name "zip" p) [e, e2] [] pos) (fun σ H R => ta σ H fun vs H1 => ∃ a b xs ys, vs = [.ref a, .ref b] ∧ SqT X.K H1 a xs ∧ SqL X.K H1 b ys ∧ R (ItzM X.K a b) H1) := by
  refine ⟨fun pins s σ H R I h => ?_⟩
  refine Call_ (ld_blt I hg hm PyProof.Rows.boot_zip (PyProof.Rows.callWith_type1 (thn (ha.run pos pins s σ H _ I h) fun us s1 ⟨vs, H1, I1, r1, q1⟩ => ?_) hs hpl))
  obtain ⟨a, b, xs, ys, ex, hqx, hqy, q⟩ := q1
  subst ex
  cases r1 with
  | cons r rr =>
    cases rr with
    | cons r' rr =>
      cases rr
      cases r
      cases r'
      obtain ⟨its, rv, p1, _⟩ := I1.tuple hqx
      obtain ⟨its2, rv2, p2, _⟩ := I1.list hqy
      obtain ⟨o1, ho1, _⟩ := id p1
      refine zip_begins2 (begins_tuple a its.toArray) (begins_list b its2.toArray) p1 p2.isList fun h' hz hTI hTO h1 h2 hsz hk => wpAny_pyIter_zip hz ?_
      have I2 : L2.Inv X pins σ H1 { s1 with heap := h' } := I1.kept (t' := s1.toks) hk
      refine ⟨s1.heap.objs.size + 4, [s1.heap.objs.size + 4, s1.heap.objs.size + 2, s1.heap.objs.size + 3, s1.heap.objs.size, s1.heap.objs.size + 1], _, _, H1, rfl, I2, turn_zipM (PySem.W.ktu_apart s1.heap.objs.size a b (Heap.lt_size ho1) p2.lt), ⟨hz, hTI, ⟨_, _, hTO⟩, ⟨_, h1, rfl, rfl⟩, ⟨_, h2, rfl, rfl⟩⟩, fun c hcm => ?_, q⟩
      have e' : c = s1.heap.objs.size + 4 ∨ c = s1.heap.objs.size + 2 ∨ c = s1.heap.objs.size + 3 ∨ c = s1.heap.objs.size ∨ c = s1.heap.objs.size + 1 := by simpa using hcm
      have hle : s1.heap.objs.size ≤ c := by
        rcases e' with z | z | z | z | z
        · rw [z]; exact Nat.le_add_right _ _
        · rw [z]; exact Nat.le_add_right _ _
        · rw [z]; exact Nat.le_add_right _ _
        · rw [z]; exact Nat.le_refl _
        · rw [z]; exact Nat.le_add_right _ _
      exact I1.fpOk hle (I1.hok.fresh hle)
end Ev

set_option Elab.async false
set_option linter.all false
set_option autoImplicit false
set_option maxRecDepth 100000
set_option maxHeartbeats 1000000
/-! EvZq: zip of a list and a tuple. -/
namespace Ev
open PySem PySem.Spec PyProof.Rows L2
/-- the list at a and the tuple at b as they stand at each turn -/
def ItzN (K : PySem.W.Frag) (a b : Addr) : L2.It :=
  ⟨fun i H => ∃ (xs ys : List V) (x y : V), SqL K H a xs ∧ SqT K H b ys ∧ xs[i]? = some x ∧ ys[i]? = some y,
    fun i H v H' => ∃ T x y, v = .ref T ∧ H T = none ∧ H' = upd H T (.tup [x, y]) ∧ (∀ xs, SqL K H a xs → xs[i]? = some x) ∧ ∀ ys, SqT K H b ys → ys[i]? = some y,
    fun i H => ∃ xs ys : List V, SqL K H a xs ∧ SqT K H b ys ∧ i ≤ xs.length ∧ i ≤ ys.length ∧ (i = xs.length ∨ i = ys.length)⟩
theorem turn_zipN {P : Program} {w : World} {K : PySem.W.Frag} {elts : List Expr} {kk : Nat} {tpos : Pos} {a b z TI TO i1 i2 : Addr} (D : ZipApart z TI TO i1 i2 a b) :
    Turn P w K (.Tuple elts kk tpos) (ItzN K a b) [z, TI, TO, i1, i2] z (fun i h => IsZip h z TI TO .none ∧ IsTupOf2 h TI (.ref i1) (.ref i2) ∧ (∃ x y, IsTupOf2 h TO x y) ∧ h.IsListIter i1 a i ∧ h.IsTupleIter i2 b i) where
  mem := by simp
  obj := fun i h st c hc => by
    obtain ⟨hz, hTI, ⟨x, y, hTO⟩, ⟨o1, e1, _, d1⟩, ⟨o2, e2, _, d2⟩⟩ := st
    have e' : c = z ∨ c = TI ∨ c = TO ∨ c = i1 ∨ c = i2 := by simpa using hc
    rcases e' with q | q | q | q | q
    · rw [q]; exact ⟨_, hz, fun v q => nomatch q⟩
    · rw [q]; exact ⟨_, hTI, fun v q => nomatch q⟩
    · rw [q]; exact ⟨_, hTO, fun v q => nomatch q⟩
    · rw [q]; exact ⟨o1, e1, fun v q => by rw [d1] at q; cases q⟩
    · rw [q]; exact ⟨o2, e2, fun v q => by rw [d2] at q; cases q⟩
  keep := fun i h h' st k => by
    obtain ⟨hz, hTI, ⟨x, y, hTO⟩, h1, h2⟩ := st
    exact ⟨k z (by simp) _ hz, k TI (by simp) _ hTI, ⟨x, y, k TO (by simp) _ hTO⟩, h1.at fun o q => k i1 (by simp) o q, h2.at fun o q => k i2 (by simp) o q⟩
  item := by
    intro X hP hw hK hc i pins s σ H E I hf st hg
    subst hP hw hK
    obtain ⟨hz, hTI, ⟨x0, y0, hTO⟩, h1, h2⟩ := st
    obtain ⟨xs, ys, x, y, hqx, hqy, hx, hy⟩ := hg
    obtain ⟨its, rv, p, _⟩ := I.list hqx
    obtain ⟨its2, rv2, p2, _⟩ := I.tuple hqy
    obtain ⟨u, hu, ru⟩ := rv.get hx
    obtain ⟨u2, hu2, ru2⟩ := rv2.get hy
    have hzl : z < s.heap.objs.size := Heap.lt_size hz
    have hd := I.ok.hd hc
    refine wpAny_pyNext_zipD2_item (zipSep D) (Draws.list (show X.A.in1.handled = none from hd) i1 a D.l1i1 its.toArray) (Draws.tuple (show X.A.in1.handled = none from hd) i2 b D.l2i2 its2.toArray) hz hTI hTO ⟨h1, p.isList⟩ ⟨h2, p2⟩ (by rw [List.size_toArray]; exact (List.getElem?_eq_some_iff.mp hu).1) (by rw [List.size_toArray]; exact (List.getElem?_eq_some_iff.mp hu2).1) fun x1 x2 h' tk e1 e2 z' TO' ⟨h1', _⟩ ⟨h2', _⟩ hT hsz hk => ?_
    have e1 : some u = some x1 := by rw [← hu]; simpa using e1
    have e2 : some u2 = some x2 := by rw [← hu2]; simpa using e2
    cases e1
    cases e2
    refine ⟨_, rfl, wpAny_letOwnedTupleGo_zip (s := { s with heap := h', toks := tk }) z' fun h'' z'' sb => ?_⟩
    have hT2 : h''.get? s.heap.objs.size = some { cls := .type "tuple", data := .seq #[u, u2] } := (sb.2 _ (Nat.ne_of_gt hzl)).trans hT
    have new : ObjOk X.prog X.w (upd H s.heap.objs.size (.tup [x, y])) h'' s.heap.objs.size (.tup [x, y]) :=
      ⟨by show 2 ≤ sizeLine; decide, [u, u2], .cons ru (.cons ru2 .nil), ⟨_, hT2, rfl, _, rfl⟩⟩
    have I1 : L2.Inv X pins σ (upd H s.heap.objs.size (.tup [x, y])) { s with heap := h'', toks := tk } :=
      I.turnedNew (t' := tk) (ch := [z, TI, TO, i1, i2]) (fun c o hb q => (sb.2 c (fun q' => hb (by simp [q']))).trans (hk c o (fun q' => hb (by simp [q'])) (fun q' => hb (by simp [q'])) (fun q' => hb (by simp [q'])) (fun q' => hb (by simp [q'])) q)) hf (Nat.le_refl _) new
    refine ⟨.ref s.heap.objs.size, _, I1, rfl, ⟨_, x, y, rfl, I.hok.fresh (Nat.le_refl _), rfl, fun l hl => by rw [I.list_inj hl hqx]; exact hx, fun l hl => by rw [I.tuple_inj hl hqy]; exact hy⟩, ⟨z'', ?_, ⟨u, u2, ?_⟩, ?_, ?_⟩, fun c hcm => ?_⟩
    · exact (sb.2 _ D.TIz).trans (hk _ _ D.TIz D.TITO D.TIi1 D.TIi2 hTI)
    · exact (sb.2 _ D.TOz).trans TO'
    · exact h1'.at fun o q => (sb.2 _ D.i1z).trans q
    · exact h2'.at fun o q => (sb.2 _ D.i2z).trans q
    · have hlt : c < s.heap.objs.size := by
        have e' : c = z ∨ c = TI ∨ c = TO ∨ c = i1 ∨ c = i2 := by simpa using hcm
        rcases e' with q | q | q | q | q
        · rw [q]; exact hzl
        · rw [q]; exact Heap.lt_size hTI
        · rw [q]; exact Heap.lt_size hTO
        · rw [q]; obtain ⟨_, e1, _⟩ := h1; exact Heap.lt_size e1
        · rw [q]; obtain ⟨_, e2, _⟩ := h2; exact Heap.lt_size e2
      rw [upd_ne (Nat.ne_of_lt hlt)]
      exact (hf c hcm).1
  done := by
    intro X hP hw hK hc i pins s σ H E I hf st hg
    subst hP hw hK
    obtain ⟨hz, hTI, ⟨x0, y0, hTO⟩, h1, h2⟩ := st
    obtain ⟨xs, ys, hqx, hqy, b1, b2, hend⟩ := hg
    obtain ⟨its, rv, p, _⟩ := I.list hqx
    obtain ⟨its2, rv2, p2, _⟩ := I.tuple hqy
    have l1 := rv.length
    have l2 := rv2.length
    have hd := I.ok.hd hc
    exact wpAny_pyNext_zipD2_end (zipSep D) (Draws.list (show X.A.in1.handled = none from hd) i1 a D.l1i1 its.toArray) (Draws.tuple (show X.A.in1.handled = none from hd) i2 b D.l2i2 its2.toArray) hz hTI hTO ⟨h1, p.isList⟩ ⟨h2, p2⟩ (by rw [List.size_toArray]; omega) (by rw [List.size_toArray]; omega) (by rw [List.size_toArray, List.size_toArray]; omega) fun h' tk hk => ⟨rfl, I.turnedL (t' := tk) (ch := [z, TI, TO, i1, i2]) (fun c o hb q =>
      hk c o (fun q' => hb (by simp [q'])) (fun q' => hb (by simp [q'])) (fun q' => hb (by simp [q'])) (fun q' => hb (by simp [q'])) q) hf⟩
  self := fun A i s Q E st h => wpAny_pyIter_zip st.1 h
theorem pi_zipN {X : Cx} {e e2 : Expr} {ta : TA} {p pos tpos : Pos} {elts : List Expr} {kk : Nat} (hg : Gl X "zip") (hm : X.mg "zip" = none) (ha : PA X [e, e2] ta)
    (hs : starEach [e, e2] X.env = (false, eval e X.env) :: starEach [e2] X.env := by rfl) (hpl : (backTo pos (starEach [e2] X.env)).any (·.1) = false := by rfl) :
    PI X (.Tuple elts kk tpos) (.Call (.Name "zip" p) [e, e2] [] pos) (fun σ H R => ta σ H fun vs H1 => ∃ a b xs ys, vs = [.ref a, .ref b] ∧ SqL X.K H1 a xs ∧ SqT X.K H1 b ys ∧ R (ItzN X.K a b) H1) := by
  refine ⟨fun pins s σ H R I h => ?_⟩
  refine Call_ (ld_blt I hg hm PyProof.Rows.boot_zip (PyProof.Rows.callWith_type1 (thn (ha.run pos pins s σ H _ I h) fun us s1 ⟨vs, H1, I1, r1, q1⟩ => ?_) hs hpl))
  obtain ⟨a, b, xs, ys, ex, hqx, hqy, q⟩ := q1
  subst ex
  cases r1 with
  | cons r rr =>
    cases rr with
    | cons r' rr =>
      cases rr
      cases r
      cases r'
      obtain ⟨its, rv, p1, _⟩ := I1.list hqx
      obtain ⟨its2, rv2, p2, _⟩ := I1.tuple hqy
      obtain ⟨o1, ho1, _⟩ := id p2
      refine zip_begins2 (begins_list a its.toArray) (begins_tuple b its2.toArray) p1.isList p2 fun h' hz hTI hTO h1 h2 hsz hk => wpAny_pyIter_zip hz ?_
      have I2 : L2.Inv X pins σ H1 { s1 with heap := h' } := I1.kept (t' := s1.toks) hk
      refine ⟨s1.heap.objs.size + 4, [s1.heap.objs.size + 4, s1.heap.objs.size + 2, s1.heap.objs.size + 3, s1.heap.objs.size, s1.heap.objs.size + 1], _, _, H1, rfl, I2, turn_zipN (PySem.W.ktu_apart s1.heap.objs.size a b p1.lt (Heap.lt_size ho1)), ⟨hz, hTI, ⟨_, _, hTO⟩, ⟨_, h1, rfl, rfl⟩, ⟨_, h2, rfl, rfl⟩⟩, fun c hcm => ?_, q⟩
      have e' : c = s1.heap.objs.size + 4 ∨ c = s1.heap.objs.size + 2 ∨ c = s1.heap.objs.size + 3 ∨ c = s1.heap.objs.size ∨ c = s1.heap.objs.size + 1 := by simpa using hcm
      have hle : s1.heap.objs.size ≤ c := by
        rcases e' with z | z | z | z | z
        · rw [z]; exact Nat.le_add_right _ _
        · rw [z]; exact Nat.le_add_right _ _
        · rw [z]; exact Nat.le_add_right _ _
        · rw [z]; exact Nat.le_refl _
        · rw [z]; exact Nat.le_add_right _ _
      exact I1.fpOk hle (I1.hok.fresh hle)
end Ev

set_option linter.all false
set_option autoImplicit false
set_option Elab.async false
set_option maxRecDepth 100000
set_option maxHeartbeats 4000000
/-! EvH7: what a loop walks. -/
namespace Ev
open PySem PySem.Spec L2
theorem opt_if2 {α : Type} {c : Prop} [Decidable c] {a : Option α} {o : α} (h : (if c then a else none) = some o) : c ∧ a = some o := by
  by_cases hc : c
  · rw [if_pos hc] at h; exact ⟨hc, h⟩
  · rw [if_neg hc] at h; cases h
/-! ### the walks -/
section
variable {g : Gc} {inv : SD → L2.St → Hp → (Addr → Prop) → Prop}
theorem rows1_get {r : List D} {i : Nat} {row : List D} (h : (rows1 r)[i]? = some row) : ∃ d, row = [d] ∧ r[i]? = some d := by
  unfold rows1 at h
  rw [List.getElem?_map] at h
  obtain ⟨d, e, rfl⟩ := Option.map_eq_some_iff.mp h
  exact ⟨d, rfl, e⟩
theorem rows1_len {r : List D} : (rows1 r).length = r.length := by unfold rows1; rw [List.length_map]
theorem enumL_len : ∀ (k : Nat) (r : List D), (enumL k r).length = r.length
  | _, [] => rfl
  | k, x :: r => by simp [enumL, enumL_len]
theorem enumL_get : ∀ {k : Nat} {r : List D} {i : Nat} {row : List D}, (enumL k r)[i]? = some row → ∃ d, row = [.int ((k + i : Nat) : Int), d] ∧ r[i]? = some d
  | k, [], i, row, h => by simp [enumL] at h
  | k, x :: r, 0, row, h => by
    simp only [enumL, List.getElem?_cons_zero, Option.some.injEq] at h
    exact ⟨x, h.symm, rfl⟩
  | k, x :: r, i + 1, row, h => by
    simp only [enumL, List.getElem?_cons_succ] at h
    obtain ⟨d, e, q⟩ := enumL_get h
    exact ⟨d, by rw [e]; congr 3; omega, by simpa using q⟩
theorem RepL.getL {K : KW} {Fz : Addr → Prop} {H : Hp} {ds : List D} {vs : List V} (r : RepL K Fz H ds vs) {i : Nat} (h : i < ds.length) : ∃ v, vs[i]? = some v := by
  rw [← r.len] at h
  exact ⟨vs[i], List.getElem?_eq_getElem h⟩
theorem walk_list {a : Addr} {r : List D} (h : ∀ sd σ H Fz, SRel g sd σ H Fz → inv sd σ H Fz → ∃ vs, SqL g.K.f H a vs ∧ RepL g.K Fz H r vs) : WalkD g (Itl g.K.f a) (rows1 r) inv := by
  refine ⟨fun i sd σ H Fz hi S I => ?_, fun sd σ H Fz S I => ?_, fun i sd σ H Fz x H' row hr S I y => ?_⟩
  · obtain ⟨vs, q, rl⟩ := h sd σ H Fz S I
    rw [rows1_len] at hi
    obtain ⟨v, hv⟩ := rl.getL hi
    exact ⟨vs, v, q, hv⟩
  · obtain ⟨vs, q, rl⟩ := h sd σ H Fz S I
    exact ⟨vs, q, by rw [rows1_len, rl.len]; exact Nat.le_refl _⟩
  · obtain ⟨vs, q, rl⟩ := h sd σ H Fz S I
    obtain ⟨d, rfl, hd⟩ := rows1_get hr
    obtain ⟨v, hv, rv⟩ := rl.get hd
    obtain ⟨e, y⟩ := y
    have := y vs q
    rw [hv] at this
    cases this
    exact ⟨e, rv⟩
theorem walk_tup {a : Addr} {r : List D} (h : ∀ sd σ H Fz, SRel g sd σ H Fz → inv sd σ H Fz → ∃ vs, SqT g.K.f H a vs ∧ RepL g.K Fz H r vs) : WalkD g (Itt g.K.f a) (rows1 r) inv := by
  refine ⟨fun i sd σ H Fz hi S I => ?_, fun sd σ H Fz S I => ?_, fun i sd σ H Fz x H' row hr S I y => ?_⟩
  · obtain ⟨vs, q, rl⟩ := h sd σ H Fz S I
    rw [rows1_len] at hi
    obtain ⟨v, hv⟩ := rl.getL hi
    exact ⟨vs, v, q, hv⟩
  · obtain ⟨vs, q, rl⟩ := h sd σ H Fz S I
    exact ⟨vs, q, by rw [rows1_len, rl.len]; exact Nat.le_refl _⟩
  · obtain ⟨vs, q, rl⟩ := h sd σ H Fz S I
    obtain ⟨d, rfl, hd⟩ := rows1_get hr
    obtain ⟨v, hv, rv⟩ := rl.get hd
    obtain ⟨e, y⟩ := y
    have := y vs q
    rw [hv] at this
    cases this
    exact ⟨e, rv⟩
theorem chS_size (cs : List Char) : (chS cs).cps.size = cs.length := by simp [chS]
theorem chS_get (cs : List Char) (i : Nat) : (chS cs).cps[i]? = cs[i]?.map Char.toNat := by simp [chS]
theorem walk_str {cs : List Char} : WalkD g (Its (chS cs)) (rows1 (cs.map fun c => .str [c])) inv := by
  refine ⟨fun i sd σ H Fz hi S I => ?_, fun sd σ H Fz S I => ?_, fun i sd σ H Fz x H' row hr S I y => ?_⟩
  · rw [rows1_len, List.length_map] at hi
    show i < (chS cs).cps.size
    rw [chS_size]; exact hi
  · show (chS cs).cps.size ≤ _
    rw [rows1_len, List.length_map, chS_size]
    exact Nat.le_refl _
  · obtain ⟨d, rfl, hd⟩ := rows1_get hr
    obtain ⟨e, c, hc, rfl⟩ := y
    rw [List.getElem?_map] at hd
    rw [chS_get] at hc
    cases q : cs[i]? with
    | none => rw [q] at hd; cases hd
    | some c' =>
      rw [q] at hd hc
      cases hd
      cases hc
      exact ⟨e, by simp only [Rep]; rfl⟩
theorem walk_rng {lo : Int} {n : Nat} {r : List D} (hr : r = (List.range n).map fun k => D.int (lo + (k : Nat))) : WalkD g (Itr lo n) (rows1 r) inv := by
  subst hr
  refine ⟨fun i sd σ H Fz hi S I => ?_, fun sd σ H Fz S I => ?_, fun i sd σ H Fz x H' row hr S I y => ?_⟩
  · rw [rows1_len, List.length_map, List.length_range] at hi
    exact hi
  · show n ≤ _
    rw [rows1_len, List.length_map, List.length_range]
    exact Nat.le_refl _
  · obtain ⟨d, rfl, hd⟩ := rows1_get hr
    obtain ⟨e, rfl⟩ := y
    rw [List.getElem?_map] at hd
    obtain ⟨k, hk, rfl⟩ := Option.map_eq_some_iff.mp hd
    have : k = i := by
      by_cases hi : i < n
      · rw [List.getElem?_range hi] at hk; exact (Option.some.inj hk).symm
      · rw [List.getElem?_eq_none (by simpa using hi)] at hk; cases hk
    subst this
    exact ⟨e, by simp only [Rep]⟩
theorem walk_rngC {lo c : Int} {n : Nat} {r : List D} (hr : r = (List.range n).map fun k => D.int (lo + (k : Nat) * c)) : WalkD g (Itc lo c n) (rows1 r) inv := by
  subst hr
  refine ⟨fun i sd σ H Fz hi S I => ?_, fun sd σ H Fz S I => ?_, fun i sd σ H Fz x H' row hr S I y => ?_⟩
  · rw [rows1_len, List.length_map, List.length_range] at hi
    exact hi
  · show n ≤ _
    rw [rows1_len, List.length_map, List.length_range]
    exact Nat.le_refl _
  · obtain ⟨d, rfl, hd⟩ := rows1_get hr
    obtain ⟨e, rfl⟩ := y
    rw [List.getElem?_map] at hd
    obtain ⟨k, hk, rfl⟩ := Option.map_eq_some_iff.mp hd
    have : k = i := by
      by_cases hi : i < n
      · rw [List.getElem?_range hi] at hk; exact (Option.some.inj hk).symm
      · rw [List.getElem?_eq_none (by simpa using hi)] at hk; cases hk
    subst this
    exact ⟨e, by simp only [Rep]⟩
theorem walk_enum {a : Addr} {r : List D} (h : ∀ sd σ H Fz, SRel g sd σ H Fz → inv sd σ H Fz → ∃ vs, SqL g.K.f H a vs ∧ RepL g.K Fz H r vs) : WalkD g (Ite g.K.f a) (enumL 0 r) inv := by
  refine ⟨fun i sd σ H Fz hi S I => ?_, fun sd σ H Fz S I => ?_, fun i sd σ H Fz x H' row hr S I y => ?_⟩
  · obtain ⟨vs, q, rl⟩ := h sd σ H Fz S I
    rw [enumL_len] at hi
    obtain ⟨v, hv⟩ := rl.getL hi
    exact ⟨vs, v, q, hv⟩
  · obtain ⟨vs, q, rl⟩ := h sd σ H Fz S I
    exact ⟨vs, q, by rw [enumL_len, rl.len]; exact Nat.le_refl _⟩
  · obtain ⟨vs, q, rl⟩ := h sd σ H Fz S I
    obtain ⟨d, rfl, hd⟩ := enumL_get hr
    obtain ⟨v, hv, rv⟩ := rl.get hd
    obtain ⟨T, w, rfl, hT, e, y⟩ := y
    have := y vs q
    rw [hv] at this
    cases this
    exact ⟨T, _, _, rfl, hT, e, by simp only [Rep]; rw [Nat.zero_add], rv⟩
theorem walk_enuT {a : Addr} {r : List D} (h : ∀ sd σ H Fz, SRel g sd σ H Fz → inv sd σ H Fz → ∃ vs, SqT g.K.f H a vs ∧ RepL g.K Fz H r vs) : WalkD g (IteT g.K.f a) (enumL 0 r) inv := by
  refine ⟨fun i sd σ H Fz hi S I => ?_, fun sd σ H Fz S I => ?_, fun i sd σ H Fz x H' row hr S I y => ?_⟩
  · obtain ⟨vs, q, rl⟩ := h sd σ H Fz S I
    rw [enumL_len] at hi
    obtain ⟨v, hv⟩ := rl.getL hi
    exact ⟨vs, v, q, hv⟩
  · obtain ⟨vs, q, rl⟩ := h sd σ H Fz S I
    exact ⟨vs, q, by rw [enumL_len, rl.len]; exact Nat.le_refl _⟩
  · obtain ⟨vs, q, rl⟩ := h sd σ H Fz S I
    obtain ⟨d, rfl, hd⟩ := enumL_get hr
    obtain ⟨v, hv, rv⟩ := rl.get hd
    obtain ⟨T, w, rfl, hT, e, y⟩ := y
    have := y vs q
    rw [hv] at this
    cases this
    exact ⟨T, _, _, rfl, hT, e, by simp only [Rep]; rw [Nat.zero_add], rv⟩
theorem zipL_len : ∀ (r q : List D), (zipL r q).length ≤ r.length ∧ (zipL r q).length ≤ q.length ∧ (r.length ≤ (zipL r q).length ∨ q.length ≤ (zipL r q).length)
  | [], q => by simp [zipL]
  | x :: r, [] => by simp [zipL]
  | x :: r, y :: q => by
    have := zipL_len r q
    simp only [zipL, List.length_cons]
    omega
theorem zipL_get : ∀ {r q : List D} {i : Nat} {row : List D}, (zipL r q)[i]? = some row → ∃ d e, row = [d, e] ∧ r[i]? = some d ∧ q[i]? = some e
  | [], q, i, row, h => by simp [zipL] at h
  | x :: r, [], i, row, h => by simp [zipL] at h
  | x :: r, y :: q, 0, row, h => by
    simp only [zipL, List.getElem?_cons_zero, Option.some.injEq] at h
    exact ⟨x, y, h.symm, rfl, rfl⟩
  | x :: r, y :: q, i + 1, row, h => by
    simp only [zipL, List.getElem?_cons_succ] at h
    obtain ⟨d, e, h1, h2, h3⟩ := zipL_get h
    exact ⟨d, e, h1, by simpa using h2, by simpa using h3⟩
theorem walk_zip {a b : Addr} {r q : List D} (h : ∀ sd σ H Fz, SRel g sd σ H Fz → inv sd σ H Fz → (∃ vs, SqL g.K.f H a vs ∧ RepL g.K Fz H r vs) ∧ ∃ ws, SqL g.K.f H b ws ∧ RepL g.K Fz H q ws) : WalkD g (Itz g.K.f a b) (zipL r q) inv := by
  have len := zipL_len r q
  refine ⟨fun i sd σ H Fz hi S I => ?_, fun sd σ H Fz S I => ?_, fun i sd σ H Fz x H' row hr S I y => ?_⟩
  · obtain ⟨⟨vs, q1, r1⟩, ws, q2, r2⟩ := h sd σ H Fz S I
    obtain ⟨v, hv⟩ := r1.getL (i := i) (by omega)
    obtain ⟨w, hw⟩ := r2.getL (i := i) (by omega)
    exact ⟨vs, ws, v, w, q1, q2, hv, hw⟩
  · obtain ⟨⟨vs, q1, r1⟩, ws, q2, r2⟩ := h sd σ H Fz S I
    exact ⟨vs, ws, q1, q2, by rw [r1.len, r2.len]; omega⟩
  · obtain ⟨⟨vs, q1, r1⟩, ws, q2, r2⟩ := h sd σ H Fz S I
    obtain ⟨d, e, rfl, hd, he⟩ := zipL_get hr
    obtain ⟨v, hv, rv⟩ := r1.get hd
    obtain ⟨w, hw, rw'⟩ := r2.get he
    obtain ⟨T, v', w', rfl, hT, eH, y1, y2⟩ := y
    have z1 := y1 vs q1
    have z2 := y2 ws q2
    rw [hv] at z1
    rw [hw] at z2
    cases z1
    cases z2
    exact ⟨T, _, _, rfl, hT, eH, rv, rw'⟩
theorem walk_zipT {a b : Addr} {r q : List D} (h : ∀ sd σ H Fz, SRel g sd σ H Fz → inv sd σ H Fz → (∃ vs, SqT g.K.f H a vs ∧ RepL g.K Fz H r vs) ∧ ∃ ws, SqT g.K.f H b ws ∧ RepL g.K Fz H q ws) : WalkD g (RZ.ItzT g.K.f a b) (zipL r q) inv := by
  have len := zipL_len r q
  refine ⟨fun i sd σ H Fz hi S I => ?_, fun sd σ H Fz S I => ?_, fun i sd σ H Fz x H' row hr S I y => ?_⟩
  · obtain ⟨⟨vs, q1, r1⟩, ws, q2, r2⟩ := h sd σ H Fz S I
    obtain ⟨v, hv⟩ := r1.getL (i := i) (by omega)
    obtain ⟨w, hw⟩ := r2.getL (i := i) (by omega)
    exact ⟨vs, ws, v, w, q1, q2, hv, hw⟩
  · obtain ⟨⟨vs, q1, r1⟩, ws, q2, r2⟩ := h sd σ H Fz S I
    exact ⟨vs, ws, q1, q2, by rw [r1.len, r2.len]; omega⟩
  · obtain ⟨⟨vs, q1, r1⟩, ws, q2, r2⟩ := h sd σ H Fz S I
    obtain ⟨d, e, rfl, hd, he⟩ := zipL_get hr
    obtain ⟨v, hv, rv⟩ := r1.get hd
    obtain ⟨w, hw, rw'⟩ := r2.get he
    obtain ⟨T, v', w', rfl, hT, eH, y1, y2⟩ := y
    have z1 := y1 vs q1
    have z2 := y2 ws q2
    rw [hv] at z1
    rw [hw] at z2
    cases z1
    cases z2
    exact ⟨T, _, _, rfl, hT, eH, rv, rw'⟩
theorem walk_zipM {a b : Addr} {r q : List D} (h : ∀ sd σ H Fz, SRel g sd σ H Fz → inv sd σ H Fz → (∃ vs, SqT g.K.f H a vs ∧ RepL g.K Fz H r vs) ∧ ∃ ws, SqL g.K.f H b ws ∧ RepL g.K Fz H q ws) : WalkD g (ItzM g.K.f a b) (zipL r q) inv := by
  have len := zipL_len r q
  refine ⟨fun i sd σ H Fz hi S I => ?_, fun sd σ H Fz S I => ?_, fun i sd σ H Fz x H' row hr S I y => ?_⟩
  · obtain ⟨⟨vs, q1, r1⟩, ws, q2, r2⟩ := h sd σ H Fz S I
    obtain ⟨v, hv⟩ := r1.getL (i := i) (by omega)
    obtain ⟨w, hw⟩ := r2.getL (i := i) (by omega)
    exact ⟨vs, ws, v, w, q1, q2, hv, hw⟩
  · obtain ⟨⟨vs, q1, r1⟩, ws, q2, r2⟩ := h sd σ H Fz S I
    exact ⟨vs, ws, q1, q2, by rw [r1.len]; omega, by rw [r2.len]; omega, by rw [r1.len, r2.len]; omega⟩
  · obtain ⟨⟨vs, q1, r1⟩, ws, q2, r2⟩ := h sd σ H Fz S I
    obtain ⟨d, e, rfl, hd, he⟩ := zipL_get hr
    obtain ⟨v, hv, rv⟩ := r1.get hd
    obtain ⟨w, hw, rw'⟩ := r2.get he
    obtain ⟨T, v', w', rfl, hT, eH, y1, y2⟩ := y
    have z1 := y1 vs q1
    have z2 := y2 ws q2
    rw [hv] at z1
    rw [hw] at z2
    cases z1
    cases z2
    exact ⟨T, _, _, rfl, hT, eH, rv, rw'⟩
theorem walk_zipN {a b : Addr} {r q : List D} (h : ∀ sd σ H Fz, SRel g sd σ H Fz → inv sd σ H Fz → (∃ vs, SqL g.K.f H a vs ∧ RepL g.K Fz H r vs) ∧ ∃ ws, SqT g.K.f H b ws ∧ RepL g.K Fz H q ws) : WalkD g (ItzN g.K.f a b) (zipL r q) inv := by
  have len := zipL_len r q
  refine ⟨fun i sd σ H Fz hi S I => ?_, fun sd σ H Fz S I => ?_, fun i sd σ H Fz x H' row hr S I y => ?_⟩
  · obtain ⟨⟨vs, q1, r1⟩, ws, q2, r2⟩ := h sd σ H Fz S I
    obtain ⟨v, hv⟩ := r1.getL (i := i) (by omega)
    obtain ⟨w, hw⟩ := r2.getL (i := i) (by omega)
    exact ⟨vs, ws, v, w, q1, q2, hv, hw⟩
  · obtain ⟨⟨vs, q1, r1⟩, ws, q2, r2⟩ := h sd σ H Fz S I
    exact ⟨vs, ws, q1, q2, by rw [r1.len]; omega, by rw [r2.len]; omega, by rw [r1.len, r2.len]; omega⟩
  · obtain ⟨⟨vs, q1, r1⟩, ws, q2, r2⟩ := h sd σ H Fz S I
    obtain ⟨d, e, rfl, hd, he⟩ := zipL_get hr
    obtain ⟨v, hv, rv⟩ := r1.get hd
    obtain ⟨w, hw, rw'⟩ := r2.get he
    obtain ⟨T, v', w', rfl, hT, eH, y1, y2⟩ := y
    have z1 := y1 vs q1
    have z2 := y2 ws q2
    rw [hv] at z1
    rw [hw] at z2
    cases z1
    cases z2
    exact ⟨T, _, _, rfl, hT, eH, rv, rw'⟩
theorem walk_rev {a : Addr} {r : List D} (h : ∀ sd σ H Fz, SRel g sd σ H Fz → inv sd σ H Fz → ∃ vs, SqL g.K.f H a vs ∧ RepL g.K Fz H r vs) : WalkD g (Itv g.K.f a r.length) (rows1 r.reverse) inv := by
  refine ⟨fun i sd σ H Fz hi S I => ?_, fun sd σ H Fz S I => ?_, fun i sd σ H Fz x H' row hr S I y => ?_⟩
  · obtain ⟨vs, q, rl⟩ := h sd σ H Fz S I
    rw [rows1_len, List.length_reverse] at hi
    obtain ⟨v, hv⟩ := rl.getL (i := r.length - 1 - i) (by omega)
    exact ⟨hi, vs, v, q, hv⟩
  · show r.length ≤ _
    rw [rows1_len, List.length_reverse]
    exact Nat.le_refl _
  · obtain ⟨vs, q, rl⟩ := h sd σ H Fz S I
    obtain ⟨d, rfl, hd⟩ := rows1_get hr
    have hi : i < r.length := by
      obtain ⟨z, _⟩ := List.getElem?_eq_some_iff.mp hd
      simpa using z
    rw [List.getElem?_reverse hi] at hd
    obtain ⟨v, hv, rv⟩ := rl.get hd
    obtain ⟨e, y⟩ := y
    have z := y vs q
    rw [hv] at z
    cases z
    exact ⟨e, rv⟩
theorem walk_revT {a : Addr} {r : List D} (h : ∀ sd σ H Fz, SRel g sd σ H Fz → inv sd σ H Fz → ∃ vs, SqT g.K.f H a vs ∧ RepL g.K Fz H r vs) : WalkD g (RT.ItvT g.K.f a r.length) (rows1 r.reverse) inv := by
  refine ⟨fun i sd σ H Fz hi S I => ?_, fun sd σ H Fz S I => ?_, fun i sd σ H Fz x H' row hr S I y => ?_⟩
  · obtain ⟨vs, q, rl⟩ := h sd σ H Fz S I
    rw [rows1_len, List.length_reverse] at hi
    obtain ⟨v, hv⟩ := rl.getL (i := r.length - 1 - i) (by omega)
    exact ⟨hi, vs, v, q, hv⟩
  · show r.length ≤ _
    rw [rows1_len, List.length_reverse]
    exact Nat.le_refl _
  · obtain ⟨vs, q, rl⟩ := h sd σ H Fz S I
    obtain ⟨d, rfl, hd⟩ := rows1_get hr
    have hi : i < r.length := by
      obtain ⟨z, _⟩ := List.getElem?_eq_some_iff.mp hd
      simpa using z
    rw [List.getElem?_reverse hi] at hd
    obtain ⟨v, hv, rv⟩ := rl.get hd
    obtain ⟨e, y⟩ := y
    have z := y vs q
    rw [hv] at z
    cases z
    exact ⟨e, rv⟩
end
/-! ### where the list stands -/
section
variable {g : Gc} {sd : SD} {σ : L2.St} {H0 H1 : Hp} {Fz1 : Addr → Prop}
/-- the thing that is walked stands while the loop turns -/
def Stands (g : Gc) (o : Opd) (r : List D) (σ : L2.St) (H1 : Hp) (Fz2 : Addr → Prop) (P : Hp → (Addr → Prop) → Prop) : Prop := ∀ sd' σ' H Fz, SRel g sd' σ' H Fz → Mono H1 Fz2 H Fz → stays o r sd' = true → (∀ i, o = .slot i → σ'[i]? = σ[i]?) → P H Fz
theorem src_list (S : SRel g sd σ H1 Fz1) {o : Opd} {v : V} {d : D} {r : List D} (h : RepO g sd σ H0 H1 Fz1 o v) (ed : force sd o = some d) (hd : d = .lst r ∨ ∃ ns, d = .scr ns ∧ r = ns.map .int) :
    ∃ Fz2 a, SRel g sd σ H1 Fz2 ∧ (∀ a, Fz1 a → Fz2 a) ∧ (∀ a, Fz2 a → Fz1 a ∨ H0 a = none) ∧ v = .ref a ∧ (∃ vs, SqL g.K.f H1 a vs) ∧ Stands g o r σ H1 Fz2 fun H Fz => ∃ vs, SqL g.K.f H a vs ∧ RepL g.K Fz H r vs := by
  have now : ∃ a, v = .ref a ∧ ∃ vs, SqL g.K.f H1 a vs := by
    have := force_rep S h ed
    rcases hd with rfl | ⟨ns, rfl, _⟩
    · obtain ⟨a, vs, e, q, _⟩ := this
      exact ⟨a, e, vs, .inl (.inl q)⟩
    · have this : Rep g.K Fz1 H1 (.scr ns) v := this
      simp only [Rep] at this
      obtain ⟨a, e, q⟩ := this
      exact ⟨a, e, _, q.l⟩
  obtain ⟨a, rfl, vs0, q0⟩ := now
  have fin : ∀ Fz2, SRel g sd σ H1 Fz2 → Rep g.K Fz2 H1 d (.ref a) → Stands g o r σ H1 Fz2 fun H Fz => ∃ vs, SqL g.K.f H a vs ∧ RepL g.K Fz H r vs := fun Fz2 S2 rd sd' σ' H Fz S' M _ _ => by
    have := M.rep rd
    rcases hd with rfl | ⟨ns, rfl, rfl⟩
    · simp only [Rep] at this
      obtain ⟨b, vs, e, f, q, rl⟩ := this
      cases e
      exact ⟨vs, .inl (.inl q), rl⟩
    · simp only [Rep] at this
      obtain ⟨b, e, q⟩ := this
      cases e
      exact ⟨_, q.l, RepL.ofMap ns⟩
  have str : ∀ d', strict o = some d' → d' = d → ∃ Fz2 a', SRel g sd σ H1 Fz2 ∧ (∀ a, Fz1 a → Fz2 a) ∧ (∀ a, Fz2 a → Fz1 a ∨ H0 a = none) ∧ V.ref a = .ref a' ∧ (∃ vs, SqL g.K.f H1 a' vs) ∧ Stands g o r σ H1 Fz2 fun H Fz => ∃ vs, SqL g.K.f H a' vs ∧ RepL g.K Fz H r vs := fun d' e e2 => by
    subst e2
    obtain ⟨Fz2, S2, m2, n2, rd⟩ := strict_rep S h e
    exact ⟨Fz2, a, S2, m2, fun b z => (n2 b z).imp (fun z => z) fun z => (newA_none h z).1, rfl, ⟨vs0, q0⟩, fin Fz2 S2 rd⟩
  cases o with
  | val d' => simp only [force] at ed; cases ed; exact str _ rfl rfl
  | new xs => simp only [force] at ed; cases ed; exact str _ rfl rfl
  | newd xs => simp only [force] at ed; cases ed; exact str _ rfl rfl
  | slot i =>
    have hσ : σ[i]? = some (some (.ref a)) := h
    refine ⟨Fz1, a, S, fun _ z => z, fun _ z => .inl z, rfl, ⟨vs0, q0⟩, fun sd' σ' H Fz S' M st hi => ?_⟩
    unfold stays at st
    simp only at st
    split at st
    · rename_i ys hy
      have := D.beqL_eq _ _ st
      subst this
      obtain ⟨b, ws, e1, e2, e3⟩ := S'.mls i _ hy
      rw [hi i rfl, hσ] at e1
      cases e1
      exact ⟨ws, .inl (.inl e2), e3⟩
    · cases st
/-- a list that is not new -/
theorem src_fix (S : SRel g sd σ H1 Fz1) {o : Opd} {v : V} {d : D} {r : List D} (h : RepO g sd σ H0 H1 Fz1 o v) (ed : force sd o = some d) (hf : fixO o = true) (hd : lstD d = some r) :
    ∃ a, v = .ref a ∧ (∃ vs, SqL g.K.f H1 a vs ∧ vs.length = r.length) ∧ Stands g o r σ H1 Fz1 fun H Fz => ∃ vs, SqL g.K.f H a vs ∧ RepL g.K Fz H r vs := by
  have hd : d = .lst r ∨ ∃ ns, d = .scr ns ∧ r = ns.map .int := by
    cases d <;> simp only [lstD] at hd <;> try (cases hd; done)
    · cases hd; exact .inl rfl
    · cases hd; exact .inr ⟨_, rfl, rfl⟩
  have fin : ∀ a, Rep g.K Fz1 H1 d (.ref a) → ∀ H Fz, Mono H1 Fz1 H Fz → ∃ vs, SqL g.K.f H a vs ∧ RepL g.K Fz H r vs := fun a rd H Fz M => by
    have := M.rep rd
    rcases hd with rfl | ⟨ns, rfl, rfl⟩
    · simp only [Rep] at this
      obtain ⟨b, vs, e, f, q, rl⟩ := this
      cases e
      exact ⟨vs, .inl (.inl q), rl⟩
    · simp only [Rep] at this
      obtain ⟨b, e, q⟩ := this
      cases e
      exact ⟨_, q.l, RepL.ofMap ns⟩
  cases o with
  | val d' =>
    simp only [force] at ed
    cases ed
    have rd : Rep g.K Fz1 H1 d v := h
    have ra : ∃ a, v = .ref a := by
      rcases hd with rfl | ⟨ns, rfl, _⟩
      · simp only [Rep] at rd
        obtain ⟨a, vs, e, _⟩ := rd
        exact ⟨a, e⟩
      · simp only [Rep] at rd
        obtain ⟨a, e, _⟩ := rd
        exact ⟨a, e⟩
    obtain ⟨a, rfl⟩ := ra
    obtain ⟨vs, q, rl⟩ := fin a rd H1 Fz1 Mono.refl
    exact ⟨a, rfl, ⟨vs, q, rl.len⟩, fun sd' σ' H Fz S' M _ _ => fin a rd H Fz M⟩
  | new xs => cases hf
  | newd xs => cases hf
  | slot i =>
    have hσ : σ[i]? = some (some v) := h
    have := force_rep S h ed
    have ra : ∃ a, v = .ref a ∧ ∃ vs, SqL g.K.f H1 a vs ∧ vs.length = r.length := by
      rcases hd with rfl | ⟨ns, rfl, rfl⟩
      · obtain ⟨a, vs, e, q, rl⟩ := RepF.lst this
        exact ⟨a, e, vs, SqL.of q, rl.len⟩
      · have this : Rep g.K Fz1 H1 (.scr ns) v := this
        simp only [Rep] at this
        obtain ⟨a, e, q⟩ := this
        exact ⟨a, e, _, q.l, by simp⟩
    obtain ⟨a, rfl, now⟩ := ra
    refine ⟨a, rfl, now, fun sd' σ' H Fz S' M st hi => ?_⟩
    unfold stays at st
    simp only at st
    split at st
    · rename_i ys hy
      have := D.beqL_eq _ _ st
      subst this
      obtain ⟨b, ws, e1, e2, e3⟩ := S'.mls i _ hy
      rw [hi i rfl, hσ] at e1
      cases e1
      exact ⟨ws, .inl (.inl e2), e3⟩
    · cases st
theorem src_tup (S : SRel g sd σ H1 Fz1) {o : Opd} {v : V} {r : List D} (h : RepO g sd σ H0 H1 Fz1 o v) (ed : force sd o = some (.tup r)) :
    ∃ a, v = .ref a ∧ (∃ vs, SqT g.K.f H1 a vs) ∧ Stands g o r σ H1 Fz1 fun H Fz => ∃ vs, SqT g.K.f H a vs ∧ RepL g.K Fz H r vs := by
  have this : Rep g.K Fz1 H1 (.tup r) v := force_rep S h ed
  have rd := this
  simp only [Rep] at this
  obtain ⟨a, vs, rfl, q, rl⟩ := this
  refine ⟨a, rfl, ⟨vs, q.t⟩, fun sd' σ' H Fz S' M _ _ => ?_⟩
  have := M.rep rd
  simp only [Rep] at this
  obtain ⟨b, ws, e, q', rl'⟩ := this
  cases e
  exact ⟨ws, q'.t, rl'⟩
end
section
variable {X : Cx} {g : Gc} {C : Cfg} {pr : Pr} {lv : Nat} {N : List Str} {se : Se}
theorem PI.to {tg e : PySem.Expr} {t t' : TI} (h : PI X tg e t) (i : ∀ σ H R, t' σ H R → t σ H R) : PI X tg e t' := ⟨fun pins s σ H R I q => h.run pins s σ H R I (i σ H R q)⟩
theorem PI.or {tg e : PySem.Expr} {t t' : TI} (h : PI X tg e t) (h' : PI X tg e t') : PI X tg e (fun σ H R => t σ H R ∨ t' σ H R) := ⟨fun pins s σ H R I q => q.elim (h.run pins s σ H R I) (h'.run pins s σ H R I)⟩
theorem pi_never {tg e : PySem.Expr} : PI X tg e (fun _ _ _ => False) := ⟨fun _ _ _ _ _ _ h => h.elim⟩
theorem iv_one {o : Opd} {r : List D} {H1 : Hp} {Fz1 : Addr → Prop} {σ1 : L2.St} {sd : SD} {σ : L2.St} {H : Hp} {Fz : Addr → Prop} {P : Hp → (Addr → Prop) → Prop} (src : Stands g o r σ1 H1 Fz1 P) (S : SRel g sd σ H Fz) (I : Iv H1 Fz1 σ1 [(o, r)] sd σ H Fz) : P H Fz := by
  obtain ⟨m, c, q⟩ := I
  refine src sd σ H Fz S m ?_ fun i e => q i r (by rw [e]; simp)
  simpa [chkAll] using c
theorem s_seq {e : E} {p tg : PySem.Expr} (hK : g.K = (kwX X)) (ha : PE X p (tR g (evE C e))) : PI X tg p (tRI g (evIt C (.seq e))) := by
  refine PI.to (PI.or (pi_list ha) (PI.or (pi_tup ha) (pi_str ha))) fun σ H R ⟨sd, Fz, rows, ops, sd', S, e, k⟩ => ?_
  simp only [evIt, Option.bind_eq_some_iff, Option.map_eq_some_iff] at e
  obtain ⟨x, ex, d, ed, r, er, e⟩ := e
  cases e
  have lst : (d = .lst r ∨ ∃ ns, d = .scr ns ∧ r = ns.map .int) → iList X.K (tR g (evE C _)) σ H R := fun hd => ⟨sd, Fz, x.1, x.2, S, ex, fun v H1 Fz1 S1 E1 r1 => by
    obtain ⟨Fz2, a, S2, m2, n2, rfl, now, src⟩ := src_list S1 r1 ed hd
    rw [show X.K = (kwX X).f from rfl, ← hK]
    exact ⟨a, rfl, now, k _ H1 Fz2 S2 (E1.more m2 n2) (walk_list fun sd σ H Fz S I => iv_one src S I)⟩⟩
  cases d <;> simp only [itemsD] at er <;> try (cases er; done)
  · cases er
    refine .inr (.inr ⟨sd, Fz, x.1, x.2, S, ex, fun v H1 Fz1 S1 E1 r1 => ?_⟩)
    have := (force_rep S1 r1 ed).str
    exact ⟨_, this, k _ H1 Fz1 S1 E1 walk_str⟩
  · cases er
    refine .inr (.inl ⟨sd, Fz, x.1, x.2, S, ex, fun v H1 Fz1 S1 E1 r1 => ?_⟩)
    obtain ⟨a, rfl, now, src⟩ := src_tup S1 r1 ed
    rw [show X.K = (kwX X).f from rfl, ← hK]
    exact ⟨a, rfl, now, k _ H1 Fz1 S1 E1 (walk_tup fun sd σ H Fz S I => iv_one src S I)⟩
  · cases er
    exact .inl (lst (.inl rfl))
  · cases er
    exact .inl (lst (.inr ⟨_, rfl, rfl⟩))
theorem s_enu {e : E} {p : PySem.Expr} {elts : List PySem.Expr} {kk : Nat} {pf pos tpos : Pos} (G : Good pr lv N se X) (hb : bltB pr se "enumerate" = true) (hK : g.K = (kwX X)) (hp : nst p = true) (ha : PE X p (tR g (evE C e))) : PI X (.Tuple elts kk tpos) (.Call (.Name "enumerate" pf) [p] [] pos) (tRI g (evIt C (.enu e))) := by
  obtain ⟨h1, h2, h3, h4⟩ := bltB_ok G hb
  refine PI.to (PI.or (pi_enum h1 h2 (pa_cons ha pa_nil (nst_star hp _ _)) (nst_star hp _ _)) (pi_enuT h1 h2 (pa_cons ha pa_nil (nst_star hp _ _)) (nst_star hp _ _))) fun σ H R ⟨sd, Fz, rows, ops, sd', S, e, k⟩ => ?_
  simp only [evIt, Option.bind_eq_some_iff, Option.map_eq_some_iff] at e
  obtain ⟨x, ex, d, ed, r, er, e⟩ := e
  cases e
  have lst : (d = .lst r ∨ ∃ ns, d = .scr ns ∧ r = ns.map .int) → iEnum X.K (tCons (tR g (evE C _)) tNil) σ H R := fun hd => ⟨sd, Fz, x.1, x.2, S, ex, fun v H1 Fz1 S1 E1 r1 => by
    obtain ⟨Fz2, a, S2, m2, n2, rfl, ⟨vs, now⟩, src⟩ := src_list S1 r1 ed hd
    rw [show X.K = (kwX X).f from rfl, ← hK]
    exact ⟨a, vs, rfl, now, k _ H1 Fz2 S2 (E1.more m2 n2) (walk_enum fun sd σ H Fz S I => iv_one src S I)⟩⟩
  cases d <;> simp only [enumD] at er <;> try (cases er; done)
  · cases er
    refine .inr ⟨sd, Fz, x.1, x.2, S, ex, fun v H1 Fz1 S1 E1 r1 => ?_⟩
    obtain ⟨a, rfl, ⟨vs, now⟩, src⟩ := src_tup S1 r1 ed
    rw [show X.K = (kwX X).f from rfl, ← hK]
    exact ⟨a, vs, rfl, now, k _ H1 Fz1 S1 E1 (walk_enuT fun sd σ H Fz S I => iv_one src S I)⟩
  · cases er
    exact .inl (lst (.inl rfl))
  · cases er
    exact .inl (lst (.inr ⟨_, rfl, rfl⟩))
theorem iv_two {o o' : Opd} {r r' : List D} {H1 : Hp} {Fz1 : Addr → Prop} {σ1 : L2.St} {sd : SD} {σ : L2.St} {H : Hp} {Fz : Addr → Prop} {P P' : Hp → (Addr → Prop) → Prop} (src : Stands g o r σ1 H1 Fz1 P) (src' : Stands g o' r' σ1 H1 Fz1 P') (S : SRel g sd σ H Fz) (I : Iv H1 Fz1 σ1 [(o, r), (o', r')] sd σ H Fz) : P H Fz ∧ P' H Fz := by
  obtain ⟨m, c, q⟩ := I
  have c : stays o r sd = true ∧ stays o' r' sd = true := by simpa [chkAll] using c
  exact ⟨src sd σ H Fz S m c.1 fun i e => q i r (by rw [e]; simp), src' sd σ H Fz S m c.2 fun i e => q i r' (by rw [e]; simp)⟩
theorem s_rev {e : E} {p tg : PySem.Expr} {pf pos : Pos} (G : Good pr lv N se X) (hb : bltB pr se "reversed" = true) (hK : g.K = (kwX X)) (hp : nst p = true) (ha : PE X p (tR g (evE C e))) : PI X tg (.Call (.Name "reversed" pf) [p] [] pos) (tRI g (evIt C (.rev e))) := by
  obtain ⟨h1, h2, h3, h4⟩ := bltB_ok G hb
  refine PI.to (RT.pi_revA h1 h2 ha (nst_star hp _ _)) fun σ H R ⟨sd, Fz, rows, ops, sd', S, e, k⟩ => ?_
  simp only [evIt, Option.bind_eq_some_iff, Option.map_eq_some_iff] at e
  obtain ⟨x, ex, d, ed, r, er, e⟩ := e
  cases e
  refine ⟨sd, Fz, x.1, x.2, S, ex, fun v H1 Fz1 S1 E1 r1 => ?_⟩
  have lst : (d = .lst r ∨ ∃ ns, d = .scr ns ∧ r = ns.map .int) → ∃ (a : Addr) (xs : List V), v = .ref a ∧ ((SqL X.K H1 a xs ∧ R (Itv X.K a xs.length) H1) ∨ (SqT X.K H1 a xs ∧ R (RT.ItvT X.K a xs.length) H1)) := fun hd => by
    obtain ⟨Fz2, a, S2, m2, n2, rfl, ⟨vs, now⟩, src⟩ := src_list S1 r1 ed hd
    have len : ∃ ws, SqL g.K.f H1 a ws ∧ ws.length = r.length := by
      have rd := force_rep S1 r1 ed
      rcases hd with rfl | ⟨ns, rfl, rfl⟩
      · obtain ⟨b, ws, e, q, rl⟩ := RepF.lst rd
        cases e
        exact ⟨ws, SqL.of q, rl.len⟩
      · have rd : Rep g.K Fz1 H1 (.scr ns) (.ref a) := rd
        simp only [Rep] at rd
        obtain ⟨b, e, q⟩ := rd
        cases e
        exact ⟨_, q.l, by simp⟩
    obtain ⟨ws, q, len⟩ := len
    have z := k _ H1 Fz2 S2 (E1.more m2 n2) (walk_rev fun sd σ H Fz S I => iv_one src S I)
    rw [show X.K = (kwX X).f from rfl, ← hK]
    exact ⟨a, ws, rfl, .inl ⟨q, by rw [len]; exact z⟩⟩
  cases d <;> simp only [enumD] at er <;> try (cases er; done)
  · cases er
    obtain ⟨a, e1, ⟨vs, now⟩, src⟩ := src_tup S1 r1 ed
    subst e1
    have len : ∃ ws, SqT g.K.f H1 a ws ∧ ws.length = r.length := by
      obtain ⟨b, ws, e, q, rl⟩ := RepF.tup (force_rep S1 r1 ed)
      cases e
      exact ⟨ws, q.t, rl.len⟩
    obtain ⟨ws, q, len⟩ := len
    have z := k _ H1 Fz1 S1 E1 (walk_revT fun sd σ H Fz S I => iv_one src S I)
    rw [show X.K = (kwX X).f from rfl, ← hK]
    exact ⟨a, ws, rfl, .inr ⟨q, by rw [len]; exact z⟩⟩
  · cases er
    exact lst (.inl rfl)
  · cases er
    exact lst (.inr ⟨_, rfl, rfl⟩)
theorem s_zip {e e' : E} {p q : PySem.Expr} {elts : List PySem.Expr} {kk : Nat} {pf pos tpos : Pos} (G : Good pr lv N se X) (hb : bltB pr se "zip" = true) (hK : g.K = (kwX X)) (hp : nst p = true) (hq : nst q = true) (ha : PE X p (tR g (evE C e))) (ha' : PE X q (tR g (evE C e'))) :
    PI X (.Tuple elts kk tpos) (.Call (.Name "zip" pf) [p, q] [] pos) (tRI g (evIt C (.zip e e'))) := by
  obtain ⟨h1, h2, h3, h4⟩ := bltB_ok G hb
  have hpl : plainL [q] = true := by simp [plainL, hq]
  refine PI.to (PI.or (RZ.pi_zipA h1 h2 (pa_cons ha (pa_cons ha' pa_nil (nst_star hq _ _)) (nst_star hp _ _)) (nst_star hp _ _) (by rw [backTo_any]; exact plainL_any (pos := pos) hpl)) (PI.or (pi_zipM h1 h2 (pa_cons ha (pa_cons ha' pa_nil (nst_star hq _ _)) (nst_star hp _ _)) (nst_star hp _ _) (by rw [backTo_any]; exact plainL_any (pos := pos) hpl)) (pi_zipN h1 h2 (pa_cons ha (pa_cons ha' pa_nil (nst_star hq _ _)) (nst_star hp _ _)) (nst_star hp _ _) (by rw [backTo_any]; exact plainL_any (pos := pos) hpl)))) fun σ H R ⟨sd, Fz, rows, ops, sd', S, e, k⟩ => ?_
  simp only [evIt, Option.bind_eq_some_iff, Option.map_eq_some_iff] at e
  obtain ⟨x, ex, y, ey, d, ed, d', ed', r, er, e⟩ := e
  cases e
  unfold zipD at er
  split at er
  · left
    refine ⟨sd, Fz, x.1, x.2, S, ex, fun v H1 Fz1 S1 E1 r1 => ⟨x.2, Fz1, y.1, y.2, S1, ey, fun w H2 Fz2 S2 E2 r2 => ?_⟩⟩
    have r1 := r1.ext S1 E2
    rw [show X.K = (kwX X).f from rfl, ← hK]
    cases er
    obtain ⟨a, rfl, ⟨vs, q1⟩, src1⟩ := src_tup S2 r1 ed
    obtain ⟨b, rfl, ⟨ws, q2⟩, src2⟩ := src_tup S2 r2 ed'
    exact ⟨a, b, vs, ws, rfl, .inr ⟨q1, q2, k _ H2 Fz2 S2 (E1.trans E2) (walk_zipT fun sd σ H Fz S I => iv_two src1 src2 S I)⟩⟩
  · right
    left
    refine ⟨sd, Fz, x.1, x.2, S, ex, fun v H1 Fz1 S1 E1 r1 => ⟨x.2, Fz1, y.1, y.2, S1, ey, fun w H2 Fz2 S2 E2 r2 => ?_⟩⟩
    have r1 := r1.ext S1 E2
    rw [show X.K = (kwX X).f from rfl, ← hK]
    obtain ⟨hf, er⟩ := opt_if2 er
    cases er
    obtain ⟨a, rfl, ⟨vs, q1⟩, src1⟩ := src_tup S2 r1 ed
    obtain ⟨b, rfl, ⟨ws, q2, _⟩, src2⟩ := src_fix S2 r2 ed' hf rfl
    exact ⟨a, b, vs, ws, rfl, q1, q2, k _ H2 Fz2 S2 (E1.trans E2) (walk_zipM fun sd σ H Fz S I => iv_two src1 src2 S I)⟩
  · right
    right
    refine ⟨sd, Fz, x.1, x.2, S, ex, fun v H1 Fz1 S1 E1 r1 => ⟨x.2, Fz1, y.1, y.2, S1, ey, fun w H2 Fz2 S2 E2 r2 => ?_⟩⟩
    have r1 := r1.ext S1 E2
    rw [show X.K = (kwX X).f from rfl, ← hK]
    obtain ⟨hf, er⟩ := opt_if2 er
    cases er
    obtain ⟨a, rfl, ⟨vs, q1, _⟩, src1⟩ := src_fix S2 r1 ed hf rfl
    obtain ⟨b, rfl, ⟨ws, q2⟩, src2⟩ := src_tup S2 r2 ed'
    exact ⟨a, b, vs, ws, rfl, q1, q2, k _ H2 Fz2 S2 (E1.trans E2) (walk_zipN fun sd σ H Fz S I => iv_two src1 src2 S I)⟩
  · left
    refine ⟨sd, Fz, x.1, x.2, S, ex, fun v H1 Fz1 S1 E1 r1 => ⟨x.2, Fz1, y.1, y.2, S1, ey, fun w H2 Fz2 S2 E2 r2 => ?_⟩⟩
    have r1 := r1.ext S1 E2
    rw [show X.K = (kwX X).f from rfl, ← hK]
    obtain ⟨hf, er⟩ := opt_if2 er
    obtain ⟨f1, f2⟩ := and2 hf
    simp only [Option.bind_eq_some_iff, Option.map_eq_some_iff] at er
    obtain ⟨l1, e1, l2, e2, rfl⟩ := er
    obtain ⟨a, rfl, ⟨vs, q1, _⟩, src1⟩ := src_fix S2 r1 ed f1 e1
    obtain ⟨b, rfl, ⟨ws, q2, _⟩, src2⟩ := src_fix S2 r2 ed' f2 e2
    exact ⟨a, b, vs, ws, rfl, .inl ⟨q1, q2, k _ H2 Fz2 S2 (E1.trans E2) (walk_zip fun sd σ H Fz S I => iv_two src1 src2 S I)⟩⟩
end
end Ev

set_option linter.all false
set_option autoImplicit false
set_option Elab.async false
set_option maxRecDepth 100000
set_option maxHeartbeats 4000000
/-! EvH8: ranges; comprehensions. -/
namespace Ev
open PySem PySem.Spec L2
section
variable {X : Cx} {g : Gc} {C : Cfg} {pr : Pr} {lv : Nat} {N : List Str} {se : Se}
theorem rOk_ok {i : Int} (h : rOk i = true) : -(2 ^ 62) ≤ i ∧ i < 2 ^ 62 := by
  unfold rOk at h
  simpa using h
/-- what range is asked -/
theorem rng_cases {ds : List D} {r : List D} (h : rngD ds = some r) : (∃ b, ds = [.int b] ∧ rOk b = true ∧ r = rngL 0 b) ∨ (∃ a b, ds = [.int a, .int b] ∧ rOk a = true ∧ rOk b = true ∧ r = rngL a b) ∨ ∃ a b, ds = [.int a, .int b, .int (-1)] ∧ rOk a = true ∧ rOk b = true ∧ r = rngDn a b := by
  unfold rngD at h
  split at h
  · obtain ⟨h1, rfl⟩ := opt_if h
    exact .inl ⟨_, rfl, h1, rfl⟩
  · obtain ⟨h1, rfl⟩ := opt_if h
    obtain ⟨h1, h2⟩ := and2 h1
    exact .inr (.inl ⟨_, _, rfl, h1, h2, rfl⟩)
  · obtain ⟨⟨h0, h1⟩, rfl⟩ := opt_if h
    obtain ⟨h1, h2⟩ := and2 h1
    subst h0
    exact .inr (.inr ⟨_, _, rfl, h1, h2, rfl⟩)
  · cases h
theorem RepFs.intsD1 {K : KW} {Fz : Addr → Prop} {H : Hp} {a : Int} {vs : List V} (h : RepFs K Fz H [.int a] vs) : vs = [.int a] := by
  obtain ⟨v, rfl, h1⟩ := h.one
  rw [h1.int]
theorem RepFs.intsD2 {K : KW} {Fz : Addr → Prop} {H : Hp} {a b : Int} {vs : List V} (h : RepFs K Fz H [.int a, .int b] vs) : vs = [.int a, .int b] := by
  obtain ⟨v, w, rfl, h1, h2⟩ := h.two
  rw [h1.int, h2.int]
theorem RepFs.intsD3 {K : KW} {Fz : Addr → Prop} {H : Hp} {a b c : Int} {vs : List V} (h : RepFs K Fz H [.int a, .int b, .int c] vs) : vs = [.int a, .int b, .int c] := by
  obtain ⟨v, r, rfl, h1, h2⟩ := h
  rw [RepFs.intsD2 h2, h1.int]
theorem ev_len {es : Es} {ps : List PySem.Expr} {sd : SD} {x : List Opd × SD} {ds : List D} (ex : evEs C es sd = some x) (hm : mEs pr N se es ps = true) (ed : forceL x.2 x.1 = some ds) : ds.length = ps.length := by
  have h2 : ∀ {os : List Opd} {ds : List D} {sd : SD}, forceL sd os = some ds → ds.length = os.length := by
    intro os
    induction os with
    | nil => intro ds sd e; simp only [forceL] at e; cases e; rfl
    | cons o os ih =>
      intro ds sd e
      simp only [forceL, Option.bind_eq_some_iff, Option.map_eq_some_iff] at e
      obtain ⟨d, e1, ds', e2, rfl⟩ := e
      rw [List.length_cons, List.length_cons, ih e2]
  rw [h2 ed, evEs_len ex hm]
open PyProof.Rows in
theorem prgA {X : Cx} {ta : TA} {e : PySem.Expr} {es : List PySem.Expr} {p pos : Pos} (hg : Gl X "range") (hm : X.mg "range" = none) (ha : PA X (e :: es) ta) (hs : starEach (e :: es) X.env = (false, eval e X.env) :: starEach es X.env) (hpl : (backTo pos (starEach es X.env)).any (·.1) = false) :
    PRg X (.Call (.Name "range" p) (e :: es) [] pos) (fun σ H Q => ta σ H fun vs H1 => (∃ n, vs = [V.int n] ∧ Q 0 n H1) ∨ ∃ i j, vs = [V.int i, V.int j] ∧ Q i j H1) := by
  intro pins s σ H Q I h
  refine Call_ (ld_blt I hg hm PyProof.Rows.boot_range (PyProof.Rows.callWith_type1 (thn (ha.run pos pins s σ H _ I h) fun us s1 ⟨vs, H1, I1, r1, q1⟩ => ?_) hs hpl))
  rcases q1 with ⟨n, rfl, q⟩ | ⟨i, j, rfl, q⟩
  · cases r1 with
    | cons r rr =>
      cases rr
      obtain ⟨t, rfl⟩ := r
      exact call_range_1 ⟨_, 0, n, _, _, _, H1, rfl, IsRange.new _ _ _ _ _ _ _, I1.kept fun b u e => Heap.get?_push_of_some _ e, q⟩
  · cases r1 with
    | cons r rr =>
      cases rr with
      | cons r' rr =>
        cases rr
        obtain ⟨t, rfl⟩ := r
        obtain ⟨t', rfl⟩ := r'
        exact call_range_2 ⟨_, i, j, _, _, _, H1, rfl, IsRange.new _ _ _ _ _ _ _, I1.kept fun b u e => Heap.get?_push_of_some _ e, q⟩
theorem rr_cases {ds : List D} {r : List D} (h : rrD ds = some r) : (∃ b, ds = [.int b] ∧ rOk b = true ∧ r = rngL 0 b) ∨ (∃ a b, ds = [.int a, .int b] ∧ rOk a = true ∧ rOk b = true ∧ r = rngL a b) := by
  unfold rrD at h
  split at h
  · obtain ⟨h1, rfl⟩ := opt_if h
    exact .inl ⟨_, rfl, h1, rfl⟩
  · obtain ⟨h1, rfl⟩ := opt_if h
    obtain ⟨h1, h2⟩ := and2 h1
    exact .inr ⟨_, _, rfl, h1, h2, rfl⟩
  · cases h
theorem rngL_rev (a b : Int) : (rngL a b).reverse = (List.range (b - a).toNat).map fun k => D.int (a + (((b - a).toNat : Nat) : Int) - 1 + (k : Nat) * (-1)) := by
  unfold rngL
  rw [← List.map_reverse, ← PySem.W.krv_range, List.map_map]
  refine List.map_congr_left fun k hk => ?_
  have := List.mem_range.mp hk
  simp only [Function.comp]
  congr 1
  omega
theorem s_rrng {es : Es} {ps : List PySem.Expr} {tg : PySem.Expr} {pf pos pf2 pos2 : Pos} (G : Good pr lv N se X) (hb : bltB pr se "range" = true) (hb2 : bltB pr se "reversed" = true) (hm : mEs pr N se es ps = true) (hne : ps ≠ []) (hx : nst (.Call (.Name "range" pf) ps [] pos) = true) (ha : PA X ps (tRs g (evEs C es))) :
    PI X tg (.Call (.Name "reversed" pf2) [.Call (.Name "range" pf) ps [] pos] [] pos2) (tRI g (evIt C (.rrng es))) := by
  obtain ⟨h1, h2, _, _⟩ := bltB_ok G hb
  obtain ⟨k1, k2, _, _⟩ := bltB_ok G hb2
  have hp := mEs_plain hm
  cases ps with
  | nil => exact absurd rfl hne
  | cons q qs =>
    obtain ⟨p1, p2⟩ := plainL_cons hp
    refine PI.to (pi_revR k1 k2 (prgA h1 h2 ha (nst_star p1 _ _) (by rw [backTo_any]; exact plainL_any (pos := pos) p2)) (nst_star hx _ _)) fun σ H R ⟨sd, Fz, rows, ops, sd', S, e, k⟩ => ?_
    simp only [evIt, Option.bind_eq_some_iff, Option.map_eq_some_iff] at e
    obtain ⟨x, ex, ds, ed, r, er, e⟩ := e
    cases e
    refine ⟨sd, Fz, x.1, x.2, S, ex, fun vs H1 Fz1 S1 E1 r1 => ?_⟩
    rcases rr_cases er with ⟨b, rfl, hb, rfl⟩ | ⟨a, b, rfl, ha', hb, rfl⟩
    · obtain ⟨b1, b2⟩ := rOk_ok hb
      exact .inl ⟨b, RepFs.intsD1 (forceL_rep S1 r1 ed), by decide, by decide, b1, b2, k _ H1 Fz1 S1 E1 (walk_rngC (rngL_rev 0 b))⟩
    · obtain ⟨b1, b2⟩ := rOk_ok hb
      obtain ⟨a1, a2⟩ := rOk_ok ha'
      exact .inr ⟨a, b, RepFs.intsD2 (forceL_rep S1 r1 ed), a1, a2, b1, b2, k _ H1 Fz1 S1 E1 (walk_rngC (rngL_rev a b))⟩
theorem repL_rg {K : KW} {Fz : Addr → Prop} {H : Hp} (a b : Int) : RepL K Fz H (rngL a b) (rgV a b) := by
  have e1 : rngL a b = ((List.range (b - a).toNat).map fun k => a + ((k : Nat) : Int)).map D.int := by unfold rngL; rw [List.map_map]; rfl
  have e2 : rgV a b = ((List.range (b - a).toNat).map fun k => a + ((k : Nat) : Int)).map V.int := by unfold rgV; rw [List.map_map]; rfl
  rw [e1, e2]
  exact RepL.ofMap _
theorem rng_cases2 {ds : List D} {r : List D} (h : rngD ds = some r) : rrD ds = some r ∨ ∃ a b, ds = [.int a, .int b, .int (-1)] ∧ rOk a = true ∧ rOk b = true ∧ r = rngDn a b := by
  unfold rngD at h
  split at h
  · exact .inl h
  · exact .inl h
  · obtain ⟨⟨hc, h1⟩, rfl⟩ := opt_if h
    subst hc
    obtain ⟨h1, h2⟩ := and2 h1
    exact .inr ⟨_, _, rfl, h1, h2, rfl⟩
  · cases h
/-- the ints i, i - 1, .. down to j + 1 -/
def dnV (i j : Int) : List V := (List.range (i - j).toNat).map fun k => V.int (i + (k : Nat) * (-1))
theorem repL_dn {K : KW} {Fz : Addr → Prop} {H : Hp} (a b : Int) : RepL K Fz H (rngDn a b) (dnV a b) := by
  have e1 : rngDn a b = ((List.range (a - b).toNat).map fun k => a + ((k : Nat) : Int) * (-1)).map D.int := by unfold rngDn; rw [List.map_map]; rfl
  have e2 : dnV a b = ((List.range (a - b).toNat).map fun k => a + ((k : Nat) : Int) * (-1)).map V.int := by unfold dnV; rw [List.map_map]; rfl
  rw [e1, e2]
  exact RepL.ofMap _
open PyProof.Rows in
theorem pe_listRgD {X : Cx} {a b c : PySem.Expr} {ta : TA} {p p2 pos pos2 : Pos} (hc : X.calm = true) (g1 : Gl X "list") (m1 : X.mg "list" = none) (g2 : Gl X "range") (m2 : X.mg "range" = none) (ha : PA X [a, b, c] ta)
    (hs : starEach [a, b, c] X.env = (false, eval a X.env) :: starEach [b, c] X.env) (hpl : (backTo pos2 (starEach [b, c] X.env)).any (·.1) = false) (na : starEach [.Call (.Name "range" p2) [a, b, c] [] pos2] X.env = (false, eval (.Call (.Name "range" p2) [a, b, c] [] pos2) X.env) :: starEach [] X.env) :
    PE X (.Call (.Name "list" p) [.Call (.Name "range" p2) [a, b, c] [] pos2] [] pos) (fun σ H Q => ta σ H fun vs H1 => ∃ i j : Int, vs = [.int i, .int j, .int (-1)] ∧ (-(2 ^ 62) ≤ i ∧ i < 2 ^ 62 ∧ -(2 ^ 62) ≤ j ∧ j < 2 ^ 62) ∧ (i - j).toNat ≤ 2 ^ 24 ∧ ∀ q, H1 q = none → Q (.ref q) (upd H1 q (.lst (dnV i j)))) := by
  refine ⟨fun pins s σ H Q I h => ?_⟩
  have mk : wpAny (model X.prog X.w) X.A (eval (.Call (.Name "range" p2) [a, b, c] [] pos2) X.env) (fun x s' => ∃ r i j t u v H', x = .ref r ∧ IsRange s'.heap r i j (-1) t u v ∧ L2.Inv X pins σ H' s' ∧ (-(2 ^ 62) ≤ i ∧ i < 2 ^ 62 ∧ -(2 ^ 62) ≤ j ∧ j < 2 ^ 62) ∧ (i - j).toNat ≤ 2 ^ 24 ∧ ∀ q, H' q = none → Q (.ref q) (upd H' q (.lst (dnV i j)))) X.xe s := by
    refine Call_ (ld_blt I g2 m2 PyProof.Rows.boot_range (PyProof.Rows.callWith_type1 (thn (ha.run pos2 pins s σ H _ I h) fun us s1 ⟨vs, H1, I1, r1, q1⟩ => ?_) hs hpl))
    obtain ⟨i, j, e, bd, hl, q⟩ := q1
    subst e
    cases r1 with
    | cons r rr => cases rr with
      | cons r' rr => cases rr with
        | cons r'' rr =>
          cases rr
          obtain ⟨t, rfl⟩ := r
          obtain ⟨t', rfl⟩ := r'
          obtain ⟨t'', rfl⟩ := r''
          exact call_range_3 (by omega) ⟨_, i, j, _, _, _, H1, rfl, IsRange.new _ _ _ _ _ _ _, I1.kept fun b u e => Heap.get?_push_of_some _ e, bd, hl, q⟩ (.inl (PyProof.noPylong_small (by omega)))
  refine Call_ (ld_blt I g1 m1 PyProof.Rows.boot_list (PyProof.Rows.callWith_type1 (args_cons (thn mk fun x s1 ⟨r, i, j, t, u, v, H1, ex, hr, I1, ⟨b1, b2, b3, b4⟩, b5, q⟩ => args_nil ?_) na) na))
  subst ex
  refine call_list_range (n := (i - j).toNat) (I1.ok.hd hc) hr (PySem.W.small_down b1 b2 b3 b4) (PySem.W.rangeSize_downNat i j) b5 fun h' tk acc c' hk e' hi => ?_
  have rv : Vals (dnV i j) acc.toList := by
    have e : acc.toList.length = (i - j).toNat := by rw [Array.length_toList]; exact hi.1
    unfold dnV
    rw [← e]
    refine vals_of_get acc.toList _ fun k w hw => ?_
    obtain ⟨t, rfl⟩ := hi.2 k w (by rw [← hw, Array.getElem?_toList])
    exact ⟨t, rfl⟩
  refine ⟨.ref s1.heap.objs.size, upd H1 s1.heap.objs.size (.lst (dnV i j)), I1.laid hk (Nat.le_refl _) (show ObjOk X.prog X.w _ _ _ (.lst (dnV i j)) from ⟨?_, acc.toList, c', rv, ?_⟩), rfl, q _ (I1.hok.fresh (Nat.le_refl _))⟩
  · unfold dnV; rw [List.length_map, List.length_range, sizeLine_eq]; omega
  · rw [Array.toArray_toList]; exact e'
theorem s_lrng {es : Es} {ps : List PySem.Expr} {pf pos pf2 pos2 : Pos} (G : Good pr lv N se X) (hK : g.K = (kwX X)) (hb : bltB pr se "range" = true) (hb2 : bltB pr se "list" = true) (hm : mEs pr N se es ps = true) (hne : ps ≠ []) (hx : nst (.Call (.Name "range" pf) ps [] pos) = true) (ha : PA X ps (tRs g (evEs C es))) :
    PE X (.Call (.Name "list" pf2) [.Call (.Name "range" pf) ps [] pos] [] pos2) (tR g (evE C (.lrng es))) := by
  obtain ⟨gK, gHe, gFz0, gmp, gnp⟩ := g
  obtain rfl : gK = (kwX X) := hK
  obtain ⟨h1, h2, _, _⟩ := bltB_ok G hb
  obtain ⟨k1, k2, _, _⟩ := bltB_ok G hb2
  have hp := mEs_plain hm
  have red : ∀ (σ : L2.St) (H : Hp) (Q : VK), tR ⟨(kwX X), gHe, gFz0, gmp, gnp⟩ (evE C (.lrng es)) σ H Q → ∃ sd Fz x ds r, SRel ⟨(kwX X), gHe, gFz0, gmp, gnp⟩ sd σ H Fz ∧ evEs C es sd = some x ∧ forceL x.2 x.1 = some ds ∧ rngD ds = some r ∧ r.length ≤ 16777216 ∧ ds.length = ps.length ∧
      ∀ v H' Fz', SRel ⟨(kwX X), gHe, gFz0, gmp, gnp⟩ x.2 σ H' Fz' → Ext sd σ H Fz x.2 H' Fz' → RepO ⟨(kwX X), gHe, gFz0, gmp, gnp⟩ x.2 σ H H' Fz' (.new r) v → Q v H' := fun σ H Q ⟨sd, Fz, o', sd', S, e, k⟩ => by
    simp only [evE, Option.bind_eq_some_iff] at e
    obtain ⟨x, ex, ds, ed, r, er, e⟩ := e
    obtain ⟨hl, e⟩ := opt_if e
    cases e
    exact ⟨sd, Fz, x, ds, r, S, ex, ed, er, hl, ev_len ex hm ed, k⟩
  clear hm
  have two : ps.length ≤ 2 → PE X (.Call (.Name "list" pf2) [.Call (.Name "range" pf) ps [] pos] [] pos2) (tR ⟨(kwX X), gHe, gFz0, gmp, gnp⟩ (evE C (.lrng es))) := by
    intro hlen
    cases ps with
    | nil => exact absurd rfl hne
    | cons q qs =>
      obtain ⟨p1, p2⟩ := plainL_cons hp
      refine PE.to (pe_listRg G.calm k1 k2 (prgA h1 h2 ha (nst_star p1 _ _) (by rw [backTo_any]; exact plainL_any (pos := pos) p2)) (nst_star hx _ _)) fun σ H Q q => ?_
      obtain ⟨sd, Fz, x, ds, r, S, ex, ed, er, hl, hds, k⟩ := red σ H Q q
      refine ⟨sd, Fz, x.1, x.2, S, ex, fun vs H1 Fz1 S1 E1 r1 => ?_⟩
      have rl : ∀ a b : Int, (rngL a b).length = (b - a).toNat := fun a b => by unfold rngL; rw [List.length_map, List.length_range]
      rcases rng_cases2 er with er | ⟨a, b, rfl, _⟩
      · rcases rr_cases er with ⟨b, rfl, hb, rfl⟩ | ⟨a, b, rfl, ha', hb, rfl⟩
        · obtain ⟨b1, b2⟩ := rOk_ok hb
          rw [rl] at hl
          exact .inl ⟨b, RepFs.intsD1 (forceL_rep S1 r1 ed), ⟨by decide, by decide, b1, b2, hl⟩, fun p n => (Res.fin S1 E1 k).lst (repL_rg 0 b) n⟩
        · obtain ⟨b1, b2⟩ := rOk_ok hb
          obtain ⟨a1, a2⟩ := rOk_ok ha'
          rw [rl] at hl
          exact .inr ⟨a, b, RepFs.intsD2 (forceL_rep S1 r1 ed), ⟨a1, a2, b1, b2, hl⟩, fun p n => (Res.fin S1 E1 k).lst (repL_rg a b) n⟩
      · simp at hds; simp at hlen; omega
  match ps, hne, hp, ha, red, hx, two with
  | [_], _, _, _, _, _, two => exact two (by simp)
  | [_, _], _, _, _, _, _, two => exact two (by simp)
  | [a, b, c], _, hp, ha, red, hx, _ =>
    obtain ⟨p1, p2⟩ := plainL_cons hp
    refine PE.to (pe_listRgD G.calm k1 k2 h1 h2 ha (nst_star p1 _ _) (by rw [backTo_any]; exact plainL_any (pos := pos) p2) (nst_star hx _ _)) fun σ H Q q => ?_
    obtain ⟨sd, Fz, x, ds, r, S, ex, ed, er, hl, hds, k⟩ := red σ H Q q
    refine ⟨sd, Fz, x.1, x.2, S, ex, fun vs H1 Fz1 S1 E1 r1 => ?_⟩
    rcases rng_cases2 er with er | ⟨i, j, rfl, hi, hj, rfl⟩
    · rcases rr_cases er with ⟨b, rfl, _⟩ | ⟨a, b, rfl, _⟩ <;> simp at hds
    · obtain ⟨b1, b2⟩ := rOk_ok hj
      obtain ⟨a1, a2⟩ := rOk_ok hi
      refine ⟨i, j, RepFs.intsD3 (forceL_rep S1 r1 ed), ⟨a1, a2, b1, b2⟩, ?_, fun p n => (Res.fin S1 E1 k).lst (repL_dn i j) n⟩
      unfold rngDn at hl
      rw [List.length_map, List.length_range] at hl
      omega
  | _ :: _ :: _ :: _ :: _, _, hp, ha, red, hx, _ =>
    refine PE.to pe_never fun σ H Q q => ?_
    obtain ⟨sd, Fz, x, ds, r, S, ex, ed, er, hl, hds, k⟩ := red σ H Q q
    rcases rng_cases2 er with er | ⟨i, j, rfl, _⟩
    · rcases rr_cases er with ⟨b, rfl, _⟩ | ⟨a, b, rfl, _⟩ <;> simp at hds
    · simp at hds
theorem s_rng {es : Es} {ps : List PySem.Expr} {tg : PySem.Expr} {pf pos : Pos} (G : Good pr lv N se X) (hb : bltB pr se "range" = true) (hm : mEs pr N se es ps = true) (hne : ps ≠ []) (ha : PA X ps (tRs g (evEs C es))) : PI X tg (.Call (.Name "range" pf) ps [] pos) (tRI g (evIt C (.rng es))) := by
  obtain ⟨h1, h2, h3, h4⟩ := bltB_ok G hb
  have hp := mEs_plain hm
  have red : ∀ (σ : L2.St) (H : Hp) (R : L2.It → Hp → Prop), tRI g (evIt C (.rng es)) σ H R → ∃ sd Fz x ds r, SRel g sd σ H Fz ∧ evEs C es sd = some x ∧ forceL x.2 x.1 = some ds ∧ rngD ds = some r ∧ ds.length = ps.length ∧
      ∀ J H1 Fz1, SRel g x.2 σ H1 Fz1 → Ext sd σ H Fz x.2 H1 Fz1 → WalkD g J (rows1 r) (Iv H1 Fz1 σ []) → R J H1 := fun σ H R ⟨sd, Fz, rows, ops, sd', S, e, k⟩ => by
    simp only [evIt, Option.bind_eq_some_iff, Option.map_eq_some_iff] at e
    obtain ⟨x, ex, ds, ed, r, er, e⟩ := e
    cases e
    exact ⟨sd, Fz, x, ds, r, S, ex, ed, er, ev_len ex hm ed, k⟩
  clear hm
  match ps, hne, hp, ha, red with
  | [a], _, hp, ha, red =>
    obtain ⟨p1, _⟩ := plainL_cons hp
    refine PI.to (pi_range1 h1 h2 ha (nst_star p1 _ _)) fun σ H R q => ?_
    obtain ⟨sd, Fz, x, ds, r, S, ex, ed, er, hl, k⟩ := red _ _ _ q
    rcases rng_cases er with ⟨b, rfl, hb, rfl⟩ | ⟨a, b, rfl, _⟩ | ⟨a, b, rfl, _⟩ <;> try (simp at hl; done)
    refine ⟨sd, Fz, x.1, x.2, S, ex, fun vs H1 Fz1 S1 E1 r1 => ?_⟩
    obtain ⟨b1, b2⟩ := rOk_ok hb
    refine ⟨b, RepFs.intsD1 (forceL_rep S1 r1 ed), b1, b2, k _ H1 Fz1 S1 E1 (walk_rng ?_)⟩
    unfold rngL
    rw [Int.sub_zero]
  | [a, b], _, hp, ha, red =>
    obtain ⟨p1, hp2⟩ := plainL_cons hp
    obtain ⟨p2, _⟩ := plainL_cons hp2
    refine PI.to (pi_range2 h1 h2 ha (by rw [nst_star p1, nst_star p2]; rfl) (nst_star p2 _ _)) fun σ H R q => ?_
    obtain ⟨sd, Fz, x, ds, r, S, ex, ed, er, hl, k⟩ := red _ _ _ q
    rcases rng_cases er with ⟨b, rfl, hb, rfl⟩ | ⟨a, b, rfl, ha', hb, rfl⟩ | ⟨a, b, rfl, _⟩ <;> try (simp at hl; done)
    refine ⟨sd, Fz, x.1, x.2, S, ex, fun vs H1 Fz1 S1 E1 r1 => ?_⟩
    obtain ⟨b1, b2⟩ := rOk_ok hb
    obtain ⟨a1, a2⟩ := rOk_ok ha'
    exact ⟨a, b, RepFs.intsD2 (forceL_rep S1 r1 ed), ⟨a1, a2, b1, b2⟩, k _ H1 Fz1 S1 E1 (walk_rng rfl)⟩
  | [a, b, c], _, hp, ha, red =>
    obtain ⟨p1, hp2⟩ := plainL_cons hp
    refine PI.to (pi_range3 h1 h2 ha (nst_star p1 _ _) (by rw [backTo_any]; exact plainL_any (pos := pos) hp2)) fun σ H R q => ?_
    obtain ⟨sd, Fz, x, ds, r, S, ex, ed, er, hl, k⟩ := red _ _ _ q
    rcases rng_cases er with ⟨b, rfl, hb, rfl⟩ | ⟨a, b, rfl, ha', hb, rfl⟩ | ⟨a, b, rfl, ha', hb, rfl⟩ <;> try (simp at hl; done)
    refine ⟨sd, Fz, x.1, x.2, S, ex, fun vs H1 Fz1 S1 E1 r1 => ?_⟩
    obtain ⟨b1, b2⟩ := rOk_ok hb
    obtain ⟨a1, a2⟩ := rOk_ok ha'
    exact ⟨a, b, -1, (a - b).toNat, RepFs.intsD3 (forceL_rep S1 r1 ed), RgC.neg a1 a2 b1 b2, k _ H1 Fz1 S1 E1 (walk_rngC rfl)⟩
  | _ :: _ :: _ :: _ :: _, _, hp, ha, red =>
    refine PI.to pi_never fun σ H R q => ?_
    obtain ⟨sd, Fz, x, ds, r, S, ex, ed, er, hl, k⟩ := red _ _ _ q
    rcases rng_cases er with ⟨b, rfl, hb, rfl⟩ | ⟨a, b, rfl, ha', hb, rfl⟩ | ⟨a, b, rfl, ha', hb, rfl⟩ <;> (simp at hl; done)
end

/-! ### slots wiped and back -/
section
variable {g : Gc} {sd sd1 sd2 : SD} {σ : L2.St} {H H1 : Hp} {Fz Fz1 : Addr → Prop}
theorem wipeD_len : ∀ (own : List Nat), (wipeD sd own).length = sd.length
  | [] => rfl
  | v :: vs => by simp only [wipeD, List.length_set, wipeD_len vs]
theorem wipeD_far {j : Nat} : ∀ {own : List Nat}, j ∉ own → (wipeD sd own)[j]? = sd[j]?
  | [], _ => rfl
  | v :: vs, h => by
    simp only [List.mem_cons, not_or] at h
    simp only [wipeD]
    rw [List.getElem?_set_ne (Ne.symm h.1), wipeD_far h.2]
theorem wipeD_own {j : Nat} {s : Sl} : ∀ {own : List Nat}, j ∈ own → (wipeD sd own)[j]? = some s → s = .none
  | v :: vs, h, e => by
    simp only [wipeD] at e
    rcases get_set e with ⟨hj, e⟩ | ⟨hj, e⟩
    · exact wipeD_own ((List.mem_cons.mp h).resolve_left hj) e
    · exact e.symm
theorem wipe_far {j : Nat} : ∀ {own : List Nat}, j ∉ own → (wipe σ own)[j]? = σ[j]?
  | [], _ => rfl
  | v :: vs, h => by
    simp only [List.mem_cons, not_or] at h
    simp only [wipe]
    rw [List.getElem?_set_ne (Ne.symm h.1), wipe_far h.2]
theorem wipeD_mut {j : Nat} {own : List Nat} (h : mutAt (wipeD sd own) j = true) : j ∉ own ∧ mutAt sd j = true := by
  have hj : j ∉ own := fun hm => by
    unfold mutAt at h
    split at h
    · rename_i s e
      rw [wipeD_own hm e] at h
      cases h
    · cases h
  refine ⟨hj, ?_⟩
  unfold mutAt at h ⊢
  rw [wipeD_far hj] at h
  exact h
theorem SRel.wipe1 (S : SRel g sd σ H Fz) : ∀ (own : List Nat), (∀ v, v ∈ own → mutAt sd v = false) → SRel g (wipeD sd own) (wipe σ own) H Fz
  | [], _ => S
  | v :: vs, h => by
    have ih := S.wipe1 vs fun w hw => h w (List.mem_cons_of_mem _ hw)
    refine ih.setS (s := .none) (v := none) trivial ?_
    have : mutAt (wipeD sd vs) v = false := by
      cases q : mutAt (wipeD sd vs) v with
      | false => rfl
      | true =>
        have := (wipeD_mut q).2
        rw [h v List.mem_cons_self] at this
        cases this
    rw [this, Bool.and_false]
theorem ownOk_ok {own : List Nat} (h : ownOk own sd = true) : ∀ v, v ∈ own → mutAt sd v = false := by
  unfold ownOk at h
  rw [List.all_eq_true] at h
  intro v hv
  simpa using h v hv
theorem backD_len {sd0 : SD} : ∀ (own : List Nat), (backD sd0 sd own).length = sd.length
  | [] => rfl
  | v :: vs => by simp only [backD, List.length_set, backD_len vs]
theorem backD_far {sd0 : SD} {j : Nat} : ∀ {own : List Nat}, j ∉ own → (backD sd0 sd own)[j]? = sd[j]?
  | [], _ => rfl
  | v :: vs, h => by
    simp only [List.mem_cons, not_or] at h
    simp only [backD]
    rw [List.getElem?_set_ne (Ne.symm h.1), backD_far h.2]
theorem backD_own {sd0 : SD} {j : Nat} {s : Sl} : ∀ {own : List Nat}, j ∈ own → (backD sd0 sd own)[j]? = some s → s = .none ∨ ∃ d, s = .v d ∧ sd0[j]? = some (.v d)
  | v :: vs, h, e => by
    simp only [backD] at e
    rcases get_set e with ⟨hj, e⟩ | ⟨hj, e⟩
    · exact backD_own ((List.mem_cons.mp h).resolve_left hj) e
    · subst hj
      split at e
      · rename_i d hd
        exact .inr ⟨d, e.symm, hd⟩
      · exact .inl e.symm
theorem backD_mut {sd0 : SD} {j : Nat} {own : List Nat} (h : mutAt (backD sd0 sd own) j = true) : j ∉ own ∧ mutAt sd j = true := by
  have hj : j ∉ own := fun hm => by
    unfold mutAt at h
    split at h
    · rename_i s e
      rcases backD_own hm e with rfl | ⟨d, rfl, _⟩ <;> cases h
    · cases h
  refine ⟨hj, ?_⟩
  unfold mutAt at h ⊢
  rw [backD_far hj] at h
  exact h
/-- behind the block the own slots are as they were -/
theorem SRel.back (S1 : SRel g sd1 σ H1 Fz1) {own : List Nat} (S : SRel g (wipeD sd own) (wipe σ own) H Fz) (m : Mono H1 Fz1 H Fz) : SRel g (backD sd1 sd own) σ H Fz := by
  have mu : ∀ j, mutAt (backD sd1 sd own) j = true → mutAt (wipeD sd own) j = true ∧ j ∉ own := fun j h => by
    obtain ⟨h1, h2⟩ := backD_mut h
    refine ⟨?_, h1⟩
    unfold mutAt at h2 ⊢
    rw [wipeD_far h1]
    exact h2
  have far : ∀ {j : Nat} {x : V}, j ∉ own → (wipe σ own)[j]? = some (some x) → σ[j]? = some (some x) := fun {j x} h e => by rw [wipe_far h] at e; exact e
  have farb : ∀ {j : Nat} {x : Option V}, j ∉ own → σ[j]? = some x → (wipe σ own)[j]? = some x := fun {j x} h e => by rw [wipe_far h]; exact e
  refine ⟨?_, fun j d h => ?_, fun j xs h => ?_, fun j kvs h => ?_, fun j a h e => ?_, fun i j a h1 h2 e1 e2 => ?_, fun j a h => ?_, S.fzb, S.fz0, S.frame, S.fzH⟩
  · have := S.len
    rw [wipeD_len, wipe_length] at this
    rw [backD_len]; exact this
  · by_cases hj : j ∈ own
    · rcases backD_own hj h with q | ⟨d', q, e⟩
      · cases q
      · cases q
        obtain ⟨v, e1, r⟩ := S1.vals j d e
        exact ⟨v, e1, m.rep r⟩
    · rw [backD_far hj] at h
      obtain ⟨v, e1, r⟩ := S.vals j d (by rw [wipeD_far hj]; exact h)
      exact ⟨v, far hj e1, r⟩
  · have hm := mu j (mutAt_ml h)
    rw [backD_far hm.2] at h
    obtain ⟨a, vs, e1, r⟩ := S.mls j xs (by rw [wipeD_far hm.2]; exact h)
    exact ⟨a, vs, far hm.2 e1, r⟩
  · have hm := mu j (mutAt_mk h)
    rw [backD_far hm.2] at h
    obtain ⟨a, vs, e1, r⟩ := S.mks j kvs (by rw [wipeD_far hm.2]; exact h)
    exact ⟨a, vs, far hm.2 e1, r⟩
  · obtain ⟨q1, q2⟩ := mu j h
    exact S.mown j a q1 (farb q2 e)
  · obtain ⟨q1, q2⟩ := mu i h1
    obtain ⟨p1, p2⟩ := mu j h2
    exact S.inj i j a q1 p1 (farb q2 e1) (farb p2 e2)
  · obtain ⟨h1, h2, h3⟩ := S.par j a h
    obtain ⟨q1, q2⟩ := wipeD_mut h2
    refine ⟨h1, ?_, far q1 h3⟩
    unfold mutAt at q2 ⊢
    rw [backD_far q1]
    exact q2
/-- the new list grows -/
theorem SRel.updD (S : SRel g sd σ H Fz) {a : Addr} {vs ws : List V} (h : H a = some (.lst vs)) (nf : ¬ Fz a) (nm : ¬ Mu sd σ a) (he : g.He a = none) : SRel g sd σ (upd H a (.lst ws)) Fz := by
  have k : Keep Fz H (upd H a (.lst ws)) := keep_upd h nf
  have ne : ∀ {j b}, mutAt sd j = true → σ[j]? = some (some (.ref b)) → b ≠ a := fun {j b} hj e z => nm (by subst z; exact ⟨j, hj, e⟩)
  refine ⟨S.len, fun j d q => ?_, fun j xs q => ?_, fun j kvs q => ?_, S.mown, S.inj, S.par, S.fzb, S.fz0, fun b o q p => ?_, fun b f => ?_⟩
  · obtain ⟨v, e, r⟩ := S.vals j d q
    exact ⟨v, e, Rep.keep k (fun _ z => z) _ _ r⟩
  · obtain ⟨b, us, e, e2, r⟩ := S.mls j xs q
    exact ⟨b, us, e, by rw [upd_ne (ne (mutAt_ml q) e)]; exact e2, RepL.keep k (fun _ z => z) _ _ r⟩
  · obtain ⟨b, us, e, e2, e3, r⟩ := S.mks j kvs q
    exact ⟨b, us, e, by rw [upd_ne (ne (mutAt_mk q) e)]; exact e2, e3.keep k, RepL.keep k (fun _ z => z) _ _ r⟩
  · have := S.frame b o q p
    rw [upd_ne (fun z => by subst z; rw [he] at q; cases q)]
    exact this
  · rw [upd_ne (fun z => nf (by rw [← z]; exact f))]
    exact S.fzH b f
end
/-- how far the state has come, the slots' store changing too -/
structure ExtW (sd : SD) (σ : L2.St) (H : Hp) (Fz : Addr → Prop) (sd' : SD) (σ' : L2.St) (H' : Hp) (Fz' : Addr → Prop) : Prop where
  keep : ∀ a o, H a = some o → ¬ Mu sd σ a → H' a = some o
  there : ∀ a, H a ≠ none → H' a ≠ none
  fz : ∀ a, Fz a → Fz' a
  fzn : ∀ a, Fz' a → Fz a ∨ H a = none ∨ Mu sd σ a
  mu : ∀ a, Mu sd' σ' a → Mu sd σ a
section
variable {g : Gc} {sd sd1 sd2 : SD} {σ σ1 σ2 : L2.St} {H H1 H2 : Hp} {Fz Fz1 Fz2 : Addr → Prop}
theorem Ext.w (x : Ext sd σ H Fz sd1 H1 Fz1) : ExtW sd σ H Fz sd1 σ H1 Fz1 := ⟨x.keep, x.there, x.fz, x.fzn, x.mu⟩
theorem ExtW.e (x : ExtW sd σ H Fz sd1 σ H1 Fz1) : Ext sd σ H Fz sd1 H1 Fz1 := ⟨x.keep, x.there, x.fz, x.fzn, x.mu⟩
theorem ExtW.trans (e1 : ExtW sd σ H Fz sd1 σ1 H1 Fz1) (e2 : ExtW sd1 σ1 H1 Fz1 sd2 σ2 H2 Fz2) : ExtW sd σ H Fz sd2 σ2 H2 Fz2 := by
  refine ⟨fun a o h m => e2.keep a o (e1.keep a o h m) fun z => m (e1.mu a z), fun a h => e2.there a (e1.there a h), fun a h => e2.fz a (e1.fz a h), fun a h => ?_, fun a h => e1.mu a (e2.mu a h)⟩
  rcases e2.fzn a h with h | h | h
  · exact e1.fzn a h
  · cases q : H a with
    | none => exact .inr (.inl rfl)
    | some o => exact absurd h (e1.there a (by rw [q]; exact Option.some_ne_none o))
  · exact .inr (.inr (e1.mu a h))
theorem ExtW.slots (h : ∀ a, Mu sd1 σ1 a → Mu sd σ a) : ExtW sd σ H Fz sd1 σ1 H Fz := ⟨fun _ _ h _ => h, fun _ h => h, fun _ h => h, fun _ h => .inl h, h⟩
theorem ExtW.mono (S : SRel g sd σ H Fz) (x : ExtW sd σ H Fz sd1 σ1 H1 Fz1) : Mono H Fz H1 Fz1 := by
  refine ⟨⟨fun a o f h => x.keep a o h fun m => S.mu_nfz m f, fun a xs h => x.keep a _ h fun m => ?_, fun a o u h => x.keep a _ h fun m => ?_⟩, x.fz⟩
  · rcases S.mu_obj m with ⟨vs, q⟩ | ⟨es, q⟩
    · rw [h] at q; cases q
    · rw [h] at q; exact dO_ne_tup (Option.some.inj q).symm
  · rcases S.mu_obj m with ⟨vs, q⟩ | ⟨es, q⟩
    · rw [h] at q; cases q
    · rw [h] at q; exact dO_ne_frz (Option.some.inj q).symm
theorem mu_wipe {own : List Nat} {a : Addr} (h : Mu (wipeD sd own) (wipe σ own) a) : Mu sd σ a := by
  obtain ⟨j, hj, e⟩ := h
  obtain ⟨q1, q2⟩ := wipeD_mut hj
  rw [wipe_far q1] at e
  exact ⟨j, q2, e⟩
theorem mu_back {own : List Nat} {sd0 : SD} {a : Addr} (h : Mu (backD sd0 sd own) σ a) : Mu (wipeD sd own) (wipe σ own) a := by
  obtain ⟨j, hj, e⟩ := h
  obtain ⟨q1, q2⟩ := backD_mut hj
  refine ⟨j, ?_, by rw [wipe_far q1]; exact e⟩
  unfold mutAt at q2 ⊢
  rw [wipeD_far q1]
  exact q2
theorem TgSet.mus {sl : List Nat} (T : TgSet sl sd σ sd1 σ1) {a : Addr} (h : Mu sd1 σ1 a) : Mu sd σ a := by
  obtain ⟨j, hj, e⟩ := h
  obtain ⟨q1, q2⟩ := T.mu j hj
  exact ⟨j, q1, by rw [← q2]; exact e⟩
/-- the target's slots are the block's own -/
theorem TgSet.wipes {sl own : List Nat} {σ0 : L2.St} (T : TgSet sl sd (wipe σ0 own) sd1 σ1) (hs : ∀ v, v ∈ sl → v ∈ own) : wipe σ1 own = wipe σ0 own := by
  have hl : σ1.length = σ0.length := by rw [T.len.2, wipe_length]
  have far : ∀ j, j ∉ own → σ1[j]? = σ0[j]? := fun j hj => by rw [(T.far j fun z => hj (hs j z)).1, wipe_far hj]
  clear T hs
  -- both are none at own, alike elsewhere
  apply List.ext_getElem?
  intro j
  by_cases hj : j ∈ own
  · have at' : ∀ (τ : L2.St), ∀ own : List Nat, j ∈ own → (wipe τ own)[j]? = if j < τ.length then some none else none := by
      intro τ own
      induction own with
      | nil => intro h; cases h
      | cons v vs ih =>
        intro h
        simp only [wipe]
        by_cases e : j = v
        · subst e
          by_cases hl : j < τ.length
          · rw [List.getElem?_set_self (by rw [wipe_length]; exact hl), if_pos hl]
          · rw [List.getElem?_eq_none (by rw [List.length_set, wipe_length]; omega), if_neg hl]
        · rw [List.getElem?_set_ne (Ne.symm e)]
          exact ih ((List.mem_cons.mp h).resolve_left e)
    rw [at' σ1 own hj, at' σ0 own hj, hl]
  · rw [wipe_far hj, wipe_far hj, far j hj]
end
end Ev

set_option linter.all false
set_option autoImplicit false
set_option Elab.async false
set_option maxRecDepth 100000
set_option maxHeartbeats 4000000
/-! EvH9: comprehensions. -/
namespace Ev
open PySem PySem.Spec L2
theorem loopC_ok {chk : SD → Bool} {asg : List D → SD → Option SD} {cond : SD → Option (Bool × SD)} {elt : SD → Option (D × SD)} {own : List Nat} {ds : List (List D)} {sd : SD} {r : List D × SD} (h : loopC chk asg cond elt own ds sd = some r) : ownOk own sd = true ∧ chk (wipeD sd own) = true := by
  cases ds with
  | nil =>
    simp only [loopC] at h
    split at h
    · rename_i c; exact and2 c
    · cases h
  | cons d ds =>
    simp only [loopC] at h
    split at h
    · rename_i c; exact and2 c
    · cases h
theorem loopC_nil {chk : SD → Bool} {asg : List D → SD → Option SD} {cond : SD → Option (Bool × SD)} {elt : SD → Option (D × SD)} {own : List Nat} {sd : SD} {r : List D × SD} (h : loopC chk asg cond elt own [] sd = some r) : r = ([], sd) := by
  simp only [loopC] at h
  split at h
  · cases h; rfl
  · cases h
theorem loopC_cons {chk : SD → Bool} {asg : List D → SD → Option SD} {cond : SD → Option (Bool × SD)} {elt : SD → Option (D × SD)} {own : List Nat} {d : List D} {ds : List (List D)} {sd : SD} {r : List D × SD} (h : loopC chk asg cond elt own (d :: ds) sd = some r) :
    ∃ s1 b, asg d (wipeD sd own) = some s1 ∧ cond s1 = some b ∧ ((b.1 = true ∧ ∃ x r', elt b.2 = some x ∧ loopC chk asg cond elt own ds x.2 = some r' ∧ r = (x.1 :: r'.1, r'.2)) ∨ (b.1 = false ∧ loopC chk asg cond elt own ds b.2 = some r)) := by
  simp only [loopC] at h
  split at h
  · simp only [Option.bind_eq_some_iff] at h
    obtain ⟨s1, e1, b, e2, h⟩ := h
    refine ⟨s1, b, e1, e2, ?_⟩
    split at h
    · rename_i hb
      simp only [Option.bind_eq_some_iff, Option.map_eq_some_iff] at h
      obtain ⟨x, ex, r', er, e⟩ := h
      exact .inl ⟨hb, x, r', ex, er, e.symm⟩
    · rename_i hb
      exact .inr ⟨by simpa using hb, h⟩
  · cases h
theorem ownN_map {N : List Str} : ∀ {own : List Nat} {on : List (Str × Nat)}, ownN N own = some on → on.map (·.2) = own
  | [], on, h => by simp only [ownN] at h; cases h; rfl
  | i :: r, on, h => by
    simp only [ownN, Option.bind_eq_some_iff, Option.map_eq_some_iff] at h
    obtain ⟨x, _, l, hl, rfl⟩ := h
    rw [List.map_cons, ownN_map hl]
section
variable {X : Cx} {g : Gc} {C : Cfg} {pr : Pr} {lv : Nat} {N : List Str} {se : Se}
theorem RowR.grow {Fz : Addr → Prop} {H H' : Hp} {row : List D} {x : V} (h : RowR g Fz H H' row x) : Grow H H' := by
  match row, h with
  | [], h => exact h.elim
  | [d], h => rw [h.1]; exact Grow.refl
  | [d, e], h =>
    obtain ⟨T, v, w, _, hT, rfl, _⟩ := h
    exact Grow.upd hT
  | _ :: _ :: _ :: _, h => exact h.elim
theorem PTs.to {ifs : List PySem.Expr} {t t' : TT} (h : PTs X ifs t) (i : ∀ σ H Q, t' σ H Q → t σ H Q) : PTs X ifs t' := ⟨fun pins s σ H Q I q => h.run pins s σ H Q I (i σ H Q q)⟩
theorem pts_no : PTs X [] (tRT g (evCs C .nil)) := PTs.to pts_nil fun σ H Q ⟨sd, Fz, b, sd', S, e, k⟩ => by
  simp only [evCs] at e
  cases e
  exact k H Fz S Ext.refl
theorem pts_yes {e : E} {p : PySem.Expr} (h : PT X p (tRT g (evT C e))) : PTs X [p] (tRT g (evCs C (.cons e .nil))) := PTs.to (pts_one h) fun σ H Q ⟨sd, Fz, b, sd', S, e, k⟩ => by
  simp only [evCs, Option.bind_eq_some_iff] at e
  obtain ⟨x, ex, t, et, e⟩ := e
  refine ⟨sd, Fz, t, x.2, S, by simp only [evT, ex, Option.bind_some, et, Option.map_some], fun H' Fz' S' E' => ?_⟩
  cases t with
  | true => simp only [if_true] at e; cases e; exact k H' Fz' S' E'
  | false => simp only [Bool.false_eq_true, if_false] at e; cases e; exact k H' Fz' S' E'
/-- the reading of a comprehension -/
theorem comp_tLc {elt : E} {tg : Tg} {it : It} {cs : Es} {own : List Nat} (hs : ∀ v, v ∈ tgSl tg → v ∈ own) {σ : L2.St} {H : Hp} {Q : VK} (h : tR g (evE C (.comp elt tg it cs own)) σ H Q) :
    tLc (tRI g (evIt C it)) (tRow g C.np tg) (tRT g (evCs C cs)) (tR g (evE C elt)) own σ H Q := by
  obtain ⟨sd, Fz, o, sd', S, e, k⟩ := h
  simp only [evE, Option.bind_eq_some_iff] at e
  obtain ⟨w, ew, e⟩ := e
  split at e
  case isFalse => cases e
  rename_i hlim
  simp only [Option.map_eq_some_iff] at e
  obtain ⟨r, er, e⟩ := e
  cases e
  refine ⟨sd, Fz, w.1, w.2.1, w.2.2, S, ew, fun J H1 Fz1 S1 E1 WD L hD => ?_⟩
  generalize hrows : w.1 = rows at er WD hlim
  generalize hops : w.2.1 = ops at er WD
  generalize hsd1 : w.2.2 = sd1 at er S1 E1 k
  have nmu1 : ¬ Mu sd1 σ L := fun z => by
    rcases S1.mu_obj z with ⟨vs, q⟩ | ⟨vs, q⟩ <;> (rw [hD] at q; cases q)
  have nfz1 : ¬ Fz1 L := fun z => by
    obtain ⟨o, q⟩ := S1.fzH L z
    rw [hD] at q; cases q
  have heD : g.He L = none := S1.newHe hD
  let P : Nat → Hp → Prop := fun i H => i ≤ rows.length ∧ ∃ (sdc : SD) (Fzc : Addr → Prop) (acc rest : List D) (vs : List V) (sdE : SD), SRel g (wipeD sdc own) (wipe σ own) H Fzc ∧
    loopC (chkAll ops) (asgR C.np tg) (evCs C cs) (fun s => (evE C elt s).bind fun x => (strict x.1).map fun d => (d, x.2)) own (rows.drop i) sdc = some (rest, sdE) ∧ r = (acc ++ rest, sdE) ∧ H L = some (.lst vs) ∧ RepL g.K Fzc H acc vs ∧ ¬ Fzc L ∧ acc.length ≤ i ∧
    ExtW sd1 σ H1 Fz1 (wipeD sdc own) (wipe σ own) H Fzc
  have gr0 : Grow H1 (upd H1 L (.lst [])) := Grow.upd hD
  have p0 : P 0 (upd H1 L (.lst [])) := by
    refine ⟨Nat.zero_le _, sd1, Fz1, [], r.1, [], r.2, (S1.wipe1 own (ownOk_ok (loopC_ok er).1)).grow gr0, by rw [List.drop_zero, er], by rw [List.nil_append], upd_same, repL_nil.mpr rfl, nfz1, Nat.le_refl _, ?_⟩
    exact ExtW.trans (ExtW.slots fun a h => mu_wipe h) gr0.ext.w
  refine ⟨fun i m H => m = rows.length - i ∧ P i H, ⟨rows.length, by simp, p0⟩, ?_⟩
  rintro i m H2 ⟨rfl, hi, sdc, Fzc, acc, rest, vs, sdE, Sw, el, rfl, hHD, rl, nfD, hacc, x⟩
  obtain ⟨ok1, ok2⟩ := loopC_ok el
  have mono : Mono H1 Fz1 H2 Fzc := x.mono S1
  have nmu : ¬ Mu (wipeD sdc own) (wipe σ own) L := fun z => nmu1 (x.mu L z)
  have iv : Iv H1 Fz1 σ ops (wipeD sdc own) (wipe σ own) H2 Fzc := by
    refine ⟨mono, ok2, fun j xs hm => wipe_far fun hj => ?_⟩
    unfold chkAll at ok2
    rw [List.all_eq_true] at ok2
    have := ok2 _ hm
    simp only [stays] at this
    split at this
    · rename_i ys q
      cases wipeD_own hj q
    · cases this
  by_cases hlt : i < rows.length
  · refine .inr ⟨WD.goes i _ _ H2 Fzc hlt Sw iv, P (i + 1), fun H' p => ⟨rows.length - (i + 1), by omega, rfl, p⟩, fun xv H' y => ?_⟩
    have hrow : rows[i]? = some rows[i] := List.getElem?_eq_getElem hlt
    have rr := WD.yields i _ _ H2 Fzc xv H' _ hrow Sw iv y
    rw [List.drop_eq_getElem_cons hlt] at el
    obtain ⟨s1, b, e1, e2, e3⟩ := loopC_cons el
    have gr := rr.grow
    refine ⟨H2, wipeD sdc own, Fzc, _, s1, Sw, rr, e1, fun σ2 S2 T2 => ⟨T2.wipes hs, s1, Fzc, b.1, b.2, S2, e2, fun H3 Fz3 S3 E3 => ?_⟩⟩
    have x2 : ExtW (wipeD sdc own) (wipe σ own) H2 Fzc s1 σ2 H' Fzc := ExtW.trans (σ1 := wipe σ own) (sd1 := wipeD sdc own) gr.ext.w (ExtW.slots fun a h => T2.mus h)
    have x3 : ExtW (wipeD sdc own) (wipe σ own) H2 Fzc b.2 σ2 H3 Fz3 := x2.trans E3.w
    have hD3 : H3 L = some (.lst vs) := x3.keep L _ hHD nmu
    have nf3 : ¬ Fz3 L := fun z => by
      rcases x3.fzn L z with q | q | q
      · exact nfD q
      · rw [hHD] at q; cases q
      · exact nmu q
    rcases e3 with ⟨hb, z, r', ez, er', e3⟩ | ⟨hb, er'⟩
    · simp only []
      rw [if_pos hb]
      obtain ⟨x0, ex0, ez⟩ := Option.bind_eq_some_iff.mp ez
      obtain ⟨d, ed, ez⟩ := Option.map_eq_some_iff.mp ez
      subst ez
      refine ⟨b.2, Fz3, x0.1, x0.2, S3, ex0, fun v H4 Fz4 S4 E4 r4 => ?_⟩
      obtain ⟨Fz5, S5, m5, n5, rd⟩ := strict_rep S4 r4 ed
      have x4 : ExtW (wipeD sdc own) (wipe σ own) H2 Fzc x0.2 σ2 H4 Fz4 := x3.trans E4.w
      have x5 : ExtW (wipeD sdc own) (wipe σ own) H2 Fzc x0.2 σ2 H4 Fz5 := by
        refine ⟨x4.keep, x4.there, fun a z => m5 a (x4.fz a z), fun a h => (n5 a h).elim (x4.fzn a) fun q => .inr (.inl ?_), x4.mu⟩
        cases q2 : H2 a with
        | none => rfl
        | some o => exact absurd (newA_none r4 q).1 (x3.there a (by rw [q2]; exact Option.some_ne_none o))
      have hD4 : H4 L = some (.lst vs) := x5.keep L _ hHD nmu
      have nf5 : ¬ Fz5 L := fun z => by
        rcases x5.fzn L z with q | q | q
        · exact nfD q
        · rw [hHD] at q; cases q
        · exact nmu q
      have nmu5 : ¬ Mu x0.2 σ2 L := fun z => nmu (x5.mu L z)
      refine ⟨vs, hD4, ?_, ?_⟩
      · have := rl.len
        have h2 : rows.length ≤ sizeLine := by rw [← lim_eq]; exact hlim
        omega
      · have er'' : loopC (chkAll ops) (asgR C.np tg) (evCs C cs) (fun s => (evE C elt s).bind fun x => (strict x.1).map fun d => (d, x.2)) own (rows.drop (i + 1)) x0.2 = some r' := er'
        have e3' : (rest, sdE) = (d :: r'.1, r'.2) := e3
        cases e3'
        refine ⟨hlt, x0.2, Fz5, acc ++ [d], r'.1, vs ++ [v], r'.2, ?_, er'', by rw [List.append_assoc]; rfl, upd_same, ?_, nf5, by rw [List.length_append, List.length_singleton]; omega, ?_⟩
        · have := (S5.updD (ws := vs ++ [v]) hD4 nf5 nmu5 heD).wipe1 own (ownOk_ok (loopC_ok er'').1)
          rw [T2.wipes hs] at this
          exact this
        · have kd := keep_upd (o := .lst (vs ++ [v])) hD4 nf5
          exact RepL.append (RepL.keep kd (fun _ z => z) _ _ ((x5.mono Sw).repL rl)) (RepL.one (Rep.keep kd (fun _ z => z) _ _ rd))
        · have xx := x.trans x5
          refine ⟨fun a o h m => ?_, fun a h => ?_, xx.fz, xx.fzn, fun a h => xx.mu a (mu_wipe (σ := σ2) (by rw [T2.wipes hs]; exact h))⟩
          · rw [upd_ne (fun z => by rw [z, hD] at h; cases h)]
            exact xx.keep a o h m
          · by_cases hz : a = L
            · rw [hz, upd_same]; exact Option.some_ne_none _
            · rw [upd_ne hz]; exact xx.there a h
    · simp only []
      rw [if_neg (by rw [hb]; exact Bool.false_ne_true)]
      refine ⟨hlt, b.2, Fz3, acc, rest, vs, sdE, ?_, er', rfl, hD3, (x3.mono Sw).repL rl, nf3, by omega, ?_⟩
      · have := S3.wipe1 own (ownOk_ok (loopC_ok er').1)
        rw [T2.wipes hs] at this
        exact this
      · have xx := x.trans x3
        exact ⟨xx.keep, xx.there, xx.fz, xx.fzn, fun a h => xx.mu a (mu_wipe (σ := σ2) (by rw [T2.wipes hs]; exact h))⟩
  · have hi' : i = rows.length := by omega
    subst hi'
    rw [List.drop_length] at el
    have e0 := loopC_nil el
    cases e0
    refine .inl ⟨WD.stops _ _ H2 Fzc Sw iv, ?_⟩
    have xb : ExtW sd1 σ H1 Fz1 (backD sd1 sdc own) σ H2 Fzc := x.trans (ExtW.slots fun a h => mu_back h)
    refine k _ _ Fzc (S1.back Sw mono) (E1.trans xb.e) ?_
    rw [List.append_nil]
    exact ⟨L, vs, rfl, hHD, rl, nfD, fun z => nmu1 (xb.mu L z), E1.back L hD, heD⟩
theorem s_comp {elt : E} {tg : Tg} {it : It} {cs : Es} {own : List Nat} {on : List (Str × Nat)} {pe pt pi : PySem.Expr} {ifs : List PySem.Expr} {sc : Scope} {pos : Pos} (G : Good pr lv N se X) (hK : g.K = (kwX X)) (hn : g.np = C.np) (hon : ownN N own = some on) (hb : blkC N se.sc sc on = true)
    (hT : mT N (relSe sc se) tg pt = true) (hs : ∀ v, v ∈ tgSl tg → v ∈ own) (hset : nset pi = true) (hi : PI X pt pi (tRI g (evIt C it)))
    (ht : ∀ (s : Shared) (H : Hp) (C' : Addr) (cl : List (Str × Addr)) (fp : List Addr), PTs (X.blk s H sc (compEnvC sc cl C' X.env) fp) ifs (tRT g (evCs C cs)))
    (he : ∀ (s : Shared) (H : Hp) (C' : Addr) (cl : List (Str × Addr)) (fp : List Addr), PE (X.blk s H sc (compEnvC sc cl C' X.env) fp) pe (tR g (evE C elt))) :
    PE X (.ListComp pe [⟨pt, pi, ifs, 0⟩] sc pos) (tR g (evE C (.comp elt tg it cs own))) := by
  refine PE.to (pe_lc (own := on) G.calm (by rw [G.eN]; exact G.nd) hi (blkOk_by (by rw [G.eN, G.esc]; exact hb)) (fun s H C' cl fp => pg_row (G.blk s H sc C' cl fp) hK hn tg pt hT) ht he (nset_fold hset _)) fun σ H Q q => ?_
  rw [ownN_map hon]
  exact comp_tLc hs q
end
end Ev

set_option linter.all false
set_option autoImplicit false
set_option Elab.async false
set_option maxRecDepth 100000
set_option maxHeartbeats 4000000
/-! EvH10: displays of dicts. -/
namespace Ev
open PySem PySem.Spec L2
section
variable {g : Gc} {sd sd' : SD} {σ : L2.St} {H H' H0 : Hp} {Fz Fz' : Addr → Prop}
/-- a new dict, no slot's, is written -/
theorem SRel.updK (S : SRel g sd σ H Fz) {a : Addr} {vs : List (L2.Key × V)} {u : HO} (h : H a = some (.dK vs)) (nf : ¬ Fz a) (nm : ¬ Mu sd σ a) (he : g.He a = none) : SRel g sd σ (upd H a u) Fz := by
  have k : Keep Fz H (upd H a u) := keep_updK (w := g.K.w) (es := vs.map fun p => (KX.k p.1, p.2)) (by rw [dO_k]; exact h) nf
  have far : ∀ {j b}, mutAt sd j = true → σ[j]? = some (some (.ref b)) → b ≠ a := fun {j b} hj e z => nm ⟨j, hj, by rw [← z]; exact e⟩
  refine ⟨S.len, fun j d q => ?_, fun j xs q => ?_, fun j kvs q => ?_, S.mown, S.inj, S.par, S.fzb, S.fz0, fun b o q p => ?_, fun b f => ?_⟩
  · obtain ⟨v, e, r⟩ := S.vals j d q
    exact ⟨v, e, Rep.keep k (fun _ z => z) _ _ r⟩
  · obtain ⟨b, us, e, e2, r⟩ := S.mls j xs q
    exact ⟨b, us, e, (upd_ne (far (mutAt_ml q) e)).trans e2, RepL.keep k (fun _ z => z) _ _ r⟩
  · obtain ⟨b, us, e, e2, e3, r⟩ := S.mks j kvs q
    exact ⟨b, us, e, (upd_ne (far (mutAt_mk q) e)).trans e2, e3.keep k, RepL.keep k (fun _ z => z) _ _ r⟩
  · have w := S.frame b o q p
    have ne : b ≠ a := fun z => by subst z; rw [he] at q; cases q
    exact (upd_ne ne).trans w
  · have ne : b ≠ a := fun z => nf (by rw [← z]; exact f)
    obtain ⟨o, w⟩ := S.fzH b f
    exact ⟨o, (upd_ne ne).trans w⟩
theorem Ext.updK (x : Ext sd σ H Fz sd' H' Fz') {a : Addr} {u : HO} (h : H a = none) : Ext sd σ H Fz sd' (upd H' a u) Fz' := by
  refine ⟨fun b o q m => ?_, fun b q => ?_, x.fz, x.fzn, x.mu⟩
  · have ne : b ≠ a := fun z => by subst z; rw [h] at q; cases q
    exact (upd_ne ne).trans (x.keep b o q m)
  · by_cases z : b = a
    · subst z; rw [upd_same]; exact Option.some_ne_none _
    · rw [upd_ne z]; exact x.there b q
end
section
variable {X : Cx} {g : Gc} {C : Cfg} {pr : Pr} {lv : Nat} {N : List Str} {se : Se}
def trsE (g : Gc) (C : Cfg) : Es → List (TE × TE)
  | .cons a (.cons b r) => (tR g (evE C a), tR g (evE C b)) :: trsE g C r
  | _ => []
theorem pairs_read : ∀ (es : Es) {ks : List (Option PySem.Expr)} {vs l : List PySem.Expr}, kvL ks vs = some l → mEs pr N se es l = true → ∀ {σ : L2.St} {H : Hp} {Q : List (V × V) → Hp → Prop},
    (∃ sd Fz os sd', SRel g sd σ H Fz ∧ evEs C es sd = some (os, sd') ∧ ∀ ws H' Fz', SRel g sd' σ H' Fz' → Ext sd σ H Fz sd' H' Fz' → ROs g sd' σ H H' Fz' os ws → Q (prsV ws) H') → tPairs (trsE g C es) σ H Q
  | .nil, ks, vs, l, hl, hm, σ, H, Q, ⟨sd, Fz, os, sd', S, e, k⟩ => by
    simp only [evEs] at e
    cases e
    exact k [] H Fz S Ext.refl rfl
  | .cons a .nil, ks, vs, l, hl, hm, σ, H, Q, _ => by
    match ks, vs, hl with
    | [], [], hl => simp only [kvL] at hl; cases hl; simp [mEs] at hm
    | [], _ :: _, hl => simp [kvL] at hl
    | none :: _, _, hl => simp [kvL] at hl
    | some _ :: _, [], hl => simp [kvL] at hl
    | some k :: ks, v :: vs, hl =>
      simp only [kvL] at hl
      obtain ⟨l', _, rfl⟩ := Option.map_eq_some_iff.mp hl
      simp [mEs] at hm
  | .cons a (.cons b r), ks, vs, l, hl, hm, σ, H, Q, ⟨sd, Fz, os, sd', S, e, kk⟩ => by
    match ks, vs, hl with
    | [], [], hl => simp only [kvL] at hl; cases hl; simp [mEs] at hm
    | [], _ :: _, hl => simp [kvL] at hl
    | none :: _, _, hl => simp [kvL] at hl
    | some _ :: _, [], hl => simp [kvL] at hl
    | some k :: ks, v :: vs, hl =>
      simp only [kvL] at hl
      obtain ⟨l', hl', rfl⟩ := Option.map_eq_some_iff.mp hl
      simp only [mEs, Bool.and_eq_true] at hm
      simp only [evEs, Option.bind_eq_some_iff, Option.map_eq_some_iff] at e
      obtain ⟨x, ex, y0, ⟨y, ey, z, ez, e1⟩, e⟩ := e
      cases e1
      cases e
      refine ⟨sd, Fz, x.1, x.2, S, ex, fun v1 H1 Fz1 S1 E1 r1 => ⟨x.2, Fz1, y.1, y.2, S1, ey, fun v2 H2 Fz2 S2 E2 r2 => ?_⟩⟩
      refine pairs_read r hl' hm.2.2 ⟨y.2, Fz2, z.1, z.2, S2, ez, fun ws H3 Fz3 S3 E3 r3 => ?_⟩
      have E12 := E1.trans E2
      refine kk (v1 :: v2 :: ws) H3 Fz3 S3 (E12.trans E3) ⟨v1, v2 :: ws, rfl, r1.ext S1 (E2.trans E3), ⟨v2, ws, rfl, (r2.start E1.back).ext S2 E3, r3.start E12.back, fun c h1 h2 => ?_⟩, fun c h1 h2 => ?_⟩
      · exact (newA_none r2 h1).2 (newAs_none r3 h2)
      · have n1 := (newA_none r1 h1).2
        simp only [newAs, List.mem_append] at h2
        rcases h2 with h2 | h2
        · exact n1 (newA_none r2 h2).1
        · exact n1 (E2.back c (newAs_none r3 h2))
theorem s_dct {es : Es} {ks : List (Option PySem.Expr)} {vs l : List PySem.Expr} {pos : Pos} (hl : kvL ks vs = some l) (hm : mEs pr N se es l = true) (h0 : ks ≠ []) (h15 : ks.length ≤ 15) (hp : PPs X pos ks vs (trsE g C es)) : PE X (.Dict ks vs pos) (tR g (evE C (.dct es))) := by
  obtain ⟨q1, q2⟩ := kvL_ok hl
  refine PE.to (pe_disp hp q1 q2 h0 h15) fun σ H Q ⟨sd, Fz, o, sd', S, e, k⟩ => ?_
  simp only [evE, Option.bind_eq_some_iff] at e
  obtain ⟨x, ex, ds, ed, kvs, ek, e⟩ := e
  obtain ⟨hk, e⟩ := opt_if2 e
  cases e
  intro p hp
  have gr : Grow H (upd H p (.dK [])) := Grow.upd hp
  have nmu : ¬ Mu sd σ p := fun m => by
    rcases S.mu_obj m with ⟨_, z⟩ | ⟨_, z⟩ <;> (rw [hp] at z; cases z)
  have nfz : ¬ Fz p := fun f => by
    obtain ⟨_, z⟩ := S.fzH p f
    rw [hp] at z; cases z
  have he : g.He p = none := S.newHe hp
  have S1 := S.grow gr
  refine pairs_read es hl hm ⟨sd, Fz, x.1, x.2, S1, ex, fun ws H' Fz' S' E' r' => ?_⟩
  have at_p : H' p = some (.dK []) := E'.keep p _ upd_same nmu
  obtain ⟨Fz2, S2, m2, n2, r2⟩ := strictL_rep S' r' ed
  obtain ⟨l, e1, e2, e3⟩ := prs_rel r2 ek
  have s1 := pairsK_smp ek
  obtain ⟨f1, f2⟩ := merge_rel (acc := []) (ac := []) s1 rfl e2 e3 rfl (repL_nil.mpr rfl)
  have s2 := merge_smp (acc := []) s1 rfl
  have nf2 : ¬ Fz2 p := fun f => by
    rcases n2 p f with z | z
    · rcases E'.fzn p z with y | y | y
      · exact nfz y
      · rw [upd_same] at y; cases y
      · exact nmu y
    · have := newAs_none r' z
      rw [upd_same] at this; cases this
  have nm2 : ¬ Mu x.2 σ p := fun m => nmu (E'.mu p m)
  have S3 := S2.updK (u := .dK (mergeK [] l)) at_p nf2 nm2 he
  have E2 : Ext sd σ H Fz x.2 H' Fz2 := gr.ext.trans (E'.more m2 fun a z => (n2 a z).imp id fun z => newAs_none r' z)
  refine ⟨at_p, l, e1, ?_, k _ _ Fz2 S3 (E2.updK hp) ?_⟩
  · have : l.length = kvs.length := by
      have := congrArg List.length e2
      simpa using this
    omega
  · refine ⟨p, (mergeK [] l).map fun q => (KX.k q.1, q.2), rfl, by rw [dO_k]; exact upd_same, KysR.ofK f1 s2, ?_, nf2, nm2, hp, he⟩
    rw [List.map_map]
    exact RepL.keep (keep_updK (w := g.K.w) (es := []) at_p nf2) (fun _ z => z) _ _ f2
end
end Ev

set_option linter.all false
set_option autoImplicit false
set_option Elab.async false
set_option maxRecDepth 100000
set_option maxHeartbeats 4000000
/-! EvH11: comprehensions over the keys of a dict of the def's own. -/
namespace Ev
open PySem PySem.Spec L2
theorem kyD_rep {K : KW} {Fz : Addr → Prop} {H : Hp} {k : Ky} (hk : k.isT = false) : Rep K Fz H (kyD k) (kV (kyK k)) := by
  cases k <;> simp only [kyD, kyK, kV, Rep]
  cases hk
section
variable {X : Cx} {g : Gc} {C : Cfg} {pr : Pr} {lv : Nat} {N : List Str} {se : Se}
theorem walk_keys {a : Addr} {o : Obj} {es : List (L2.Key × V)} {ks : List Ky} {inv : SD → L2.St → Hp → (Addr → Prop) → Prop} (hk : es.map (·.1) = ks.map kyK) (hsm : smpL ks = true) (h : ∀ sd σ H Fz, SRel g sd σ H Fz → inv sd σ H Fz → H a = some (.frz o (.dK es))) : WalkD g (Itk a o es) (rows1 (ks.map kyD)) inv := by
  have hl : es.length = ks.length := by
    have := congrArg List.length hk
    rwa [List.length_map, List.length_map] at this
  refine ⟨fun i sd σ H Fz hi S I => ?_, fun sd σ H Fz S I => ?_, fun i sd σ H Fz x H' row hr S I y => ?_⟩
  · rw [rows1_len, List.length_map] at hi
    exact ⟨h sd σ H Fz S I, by omega⟩
  · refine ⟨h sd σ H Fz S I, ?_⟩
    rw [rows1_len, List.length_map]
    omega
  · obtain ⟨d, rfl, hd⟩ := rows1_get hr
    obtain ⟨e, k, v, hkv, rfl⟩ := y
    rw [List.getElem?_map] at hd
    obtain ⟨ky, hky, rfl⟩ := Option.map_eq_some_iff.mp hd
    have e2 : (es.map (·.1))[i]? = some k := by rw [List.getElem?_map, hkv]; rfl
    rw [hk, List.getElem?_map, hky] at e2
    cases e2
    exact ⟨e, kyD_rep (by simpa using List.all_eq_true.mp hsm ky (List.mem_of_getElem? hky))⟩
/-- the keys of the locked dict in a slot -/
def tRIk (g : Gc) (i : Nat) : TI := fun σ H R => ∃ (a : Addr) (o : Obj) (es : List (L2.Key × V)) (ks : List Ky), σ[i]? = some (some (V.ref a)) ∧ H a = some (.frz o (.dK es)) ∧ es.map (·.1) = ks.map kyK ∧ smpL ks = true ∧ tRI g (fun sd => some (rows1 (ks.map kyD), [], sd)) σ H R
theorem pi_kys {i : Nat} {p tg : PySem.Expr} (h : PE X p (tVar i)) : PI X tg p (tRIk g i) := by
  refine PI.to (pi_keys h) fun σ H R ⟨a, o, es, ks, h1, h2, h3, hsm, sd, Fz, rows, ops, sd', S, e, k⟩ => ?_
  cases e
  exact ⟨.ref a, h1, a, o, rfl, .inl ⟨es, h2, k _ H Fz S Ext.refl (walk_keys h3 hsm fun sd σ' H' Fz' S' I => I.1.keep.frz a o _ h2)⟩⟩
theorem set_none {sd : SD} {i j : Nat} {s : Sl} (h : (sd.set i .none)[j]? = some s) (hs : s ≠ .none) : j ≠ i ∧ sd[j]? = some s := by
  by_cases e : j = i
  · subst e
    rw [List.getElem?_set] at h
    simp only [if_true] at h
    split at h
    · exact absurd (Option.some.inj h).symm hs
    · cases h
  · rw [List.getElem?_set_ne (fun z => e z.symm)] at h
    exact ⟨e, h⟩
theorem mutAt_none {sd : SD} {i j : Nat} (h : mutAt (sd.set i .none) j = true) : j ≠ i ∧ mutAt sd j = true := by
  rcases mutAt_cases h with ⟨xs, q⟩ | ⟨kvs, q⟩
  · obtain ⟨a, b⟩ := set_none q (fun z => by cases z)
    exact ⟨a, mutAt_ml b⟩
  · obtain ⟨a, b⟩ := set_none q (fun z => by cases z)
    exact ⟨a, mutAt_mk b⟩
section
variable {sd sd' : SD} {σ : L2.St} {H H' : Hp} {Fz Fz' : Addr → Prop} {i : Nat} {a : Addr} {kvs : List (Ky × D)} {es : List (L2.Key × V)} {o : Obj}
theorem keep_lock (nf : ¬ Fz a) (ha : H a = some (.dK es)) : Keep Fz H (upd H a (.frz o (.dK es))) :=
  ⟨fun b u f h => by rw [upd_ne (fun z => nf (by rw [← z]; exact f))]; exact h, fun b xs h => by rw [upd_ne (fun z => by rw [z, ha] at h; cases h)]; exact h, fun b u w h => by rw [upd_ne (fun z => by rw [z, ha] at h; cases h)]; exact h⟩
theorem SRel.own (S : SRel g sd σ H Fz) (hi : sd[i]? = some (.mk kvs)) (hn : g.np ≤ i) (hσ : σ[i]? = some (some (.ref a))) : ¬ Fz a ∧ g.He a = none := by
  obtain ⟨h1, h2⟩ := S.mown i a (mutAt_mk hi) hσ
  refine ⟨h1, h2.elim (fun h => ?_) id⟩
  have := (S.par i a h).1
  omega
/-- the dict in a slot is locked, the slot empty meanwhile -/
theorem SRel.lockd (S : SRel g sd σ H Fz) (hi : sd[i]? = some (.mk kvs)) (hn : g.np ≤ i) (hσ : σ[i]? = some (some (.ref a))) (ha : H a = some (.dK es)) : SRel g (sd.set i .none) σ (upd H a (.frz o (.dK es))) Fz := by
  obtain ⟨nf, he⟩ := S.own hi hn hσ
  have kp := keep_lock (o := o) nf ha
  refine ⟨by rw [List.length_set]; exact S.len, fun j d h => ?_, fun j xs h => ?_, fun j kv h => ?_, fun j b h e => ?_, fun j l b h h' e e' => ?_, fun j b h => ?_, S.fzb, S.fz0, fun b u h p => ?_, fun b f => ?_⟩
  · obtain ⟨_, h⟩ := set_none h (fun z => by cases z)
    obtain ⟨v, e, r⟩ := S.vals j d h
    exact ⟨v, e, Rep.keep kp (fun _ z => z) d v r⟩
  · obtain ⟨_, h⟩ := set_none h (fun z => by cases z)
    obtain ⟨b, vs, e, q, r⟩ := S.mls j xs h
    exact ⟨b, vs, e, by rw [upd_ne (fun z => by rw [z, ha] at q; cases q)]; exact q, RepL.keep kp (fun _ z => z) xs vs r⟩
  · obtain ⟨ne, h⟩ := set_none h (fun z => by cases z)
    obtain ⟨b, fs, e, q, z, r⟩ := S.mks j kv h
    exact ⟨b, fs, e, by rw [upd_ne (fun z => ne (S.inj j i a (mutAt_mk h) (mutAt_mk hi) (by rw [← z]; exact e) hσ))]; exact q, z.keep kp, RepL.keep kp (fun _ z => z) _ _ r⟩
  · exact S.mown j b (mutAt_none h).2 e
  · exact S.inj j l b (mutAt_none h).2 (mutAt_none h').2 e e'
  · obtain ⟨h1, h2, h3⟩ := S.par j b h
    have ne : j ≠ i := by omega
    refine ⟨h1, ?_, h3⟩
    unfold mutAt at h2 ⊢
    rw [List.getElem?_set_ne (fun z => ne z.symm)]
    exact h2
  · rw [upd_ne (fun z => by rw [z, he] at h; cases h)]
    exact S.frame b u h p
  · obtain ⟨u, q⟩ := S.fzH b f
    exact ⟨u, by rw [upd_ne (fun z => nf (by rw [← z]; exact f))]; exact q⟩
/-! unlocked again: what is told hangs not on it -/
theorem SqP.unl {K : KW} {u : HO} (ha : H a = some (.frz o (.dK es))) {b : Addr} {vs : List V} (q : SqP K H b vs) : SqP K (upd H a u) b vs := by
  rcases q with ⟨ob, q, qd⟩ | q
  · exact .inl ⟨ob, by rw [upd_ne (fun z => by rw [z, ha] at q; cases q)]; exact q, qd⟩
  · exact .inr q
mutual
theorem RepY.unl {K : KW} {u : HO} (ha : H a = some (.frz o (.dK es))) : ∀ (y : Ky) (v : V), RepY K H y v → RepY K (upd H a u) y v
  | .i n, v, h => by simpa only [RepY] using h
  | .s n, v, h => by simpa only [RepY] using h
  | .t xs, v, h => by
    simp only [RepY] at h ⊢
    obtain ⟨b, vs, e, q, r⟩ := h
    exact ⟨b, vs, e, q.unl ha, RepYL.unl ha xs vs r⟩
theorem RepYL.unl {K : KW} {u : HO} (ha : H a = some (.frz o (.dK es))) : ∀ (ys : List Ky) (vs : List V), RepYL K H ys vs → RepYL K (upd H a u) ys vs
  | [], vs, h => by simpa only [RepYL] using h
  | y :: ys, vs, h => by
    simp only [RepYL] at h ⊢
    obtain ⟨v, r, e, h1, h2⟩ := h
    exact ⟨v, r, e, RepY.unl ha y v h1, RepYL.unl ha ys r h2⟩
end
theorem KysR.unl {K : KW} {u : HO} (ha : H a = some (.frz o (.dK es))) : ∀ {ys : List Ky} {xs : List KX}, KysR K H ys xs → KysR K (upd H a u) ys xs
  | [], xs, h => by simpa only [KysR] using h
  | y :: ys, xs, h => by
    simp only [KysR] at h ⊢
    obtain ⟨v, r, e, h1, h2⟩ := h
    refine ⟨v, r, e, ?_, h2.unl ha⟩
    cases y with
    | i n => exact h1
    | s n => exact h1
    | t xs =>
      obtain ⟨b, e, r, z⟩ := h1
      exact ⟨b, e, r.unl ha, z⟩
mutual
theorem Rep.unl {K : KW} {u : HO} (nf : ¬ Fz a) (ha : H a = some (.frz o (.dK es))) : ∀ (d : D) (v : V), Rep K Fz H d v → Rep K Fz (upd H a u) d v
  | .non, v, h => by simpa only [Rep] using h
  | .bl b, v, h => by simpa only [Rep] using h
  | .int n, v, h => by simpa only [Rep] using h
  | .str s, v, h => by simpa only [Rep] using h
  | .tup ds, v, h => by
    simp only [Rep] at h ⊢
    obtain ⟨b, vs, e, q, r⟩ := h
    refine ⟨b, vs, e, ?_, RepL.unl nf ha ds vs r⟩
    rcases q with ⟨ob, q, qd⟩ | q
    · exact .inl ⟨ob, by rw [upd_ne (fun z => by rw [z, ha] at q; cases q)]; exact q, qd⟩
    · exact .inr q
  | .lst ds, v, h => by
    simp only [Rep] at h ⊢
    obtain ⟨b, vs, e, f, q, r⟩ := h
    exact ⟨b, vs, e, f, by rw [upd_ne (fun z => nf (by rw [← z]; exact f))]; exact q, RepL.unl nf ha ds vs r⟩
  | .dk ks ds, v, h => by
    simp only [Rep] at h ⊢
    obtain ⟨b, fs, e, f, q, z, r⟩ := h
    refine ⟨b, fs, e, f, ?_, z.unl ha, RepL.unl nf ha ds _ r⟩
    unfold Rd
    rw [upd_ne (fun z => nf (by rw [← z]; exact f))]
    exact q
  | .scr ns, v, h => by
    simp only [Rep] at h ⊢
    obtain ⟨b, e, q⟩ := h
    refine ⟨b, e, ?_⟩
    rcases q with ⟨ob, q⟩ | q
    · exact .inl ⟨ob, by rw [upd_ne (fun z => by rw [z, ha] at q; cases q)]; exact q⟩
    · exact .inr q
  | .rp d, v, h => by simpa only [Rep] using h
theorem RepL.unl {K : KW} {u : HO} (nf : ¬ Fz a) (ha : H a = some (.frz o (.dK es))) : ∀ (ds : List D) (vs : List V), RepL K Fz H ds vs → RepL K Fz (upd H a u) ds vs
  | [], vs, h => by simpa only [RepL] using h
  | d :: ds, vs, h => by
    simp only [RepL] at h ⊢
    obtain ⟨v, r, e, h1, h2⟩ := h
    exact ⟨v, r, e, Rep.unl nf ha d v h1, RepL.unl nf ha ds r h2⟩
end
theorem mutAt_ne {i j : Nat} {s : Sl} (h : mutAt (sd.set i s) j = true) (ne : j ≠ i) : mutAt sd j = true := by
  unfold mutAt at h ⊢
  rw [List.getElem?_set_ne (fun z => ne z.symm)] at h
  exact h
theorem SRel.unlockd (S : SRel g sd σ H Fz) (ha : H a = some (.frz o (.dK es))) (nf : ¬ Fz a) (he : g.He a = none) (hn : g.np ≤ i) (hσ : σ[i]? = some (some (.ref a))) (hk : es.map (·.1) = (kvs.map (·.1)).map kyK) (hsm : smpL (kvs.map (·.1)) = true) (rk : RepL g.K Fz H (kvs.map (·.2)) (es.map (·.2))) :
    SRel g (sd.set i (.mk kvs)) σ (upd H a (.dK es)) Fz := by
  have nm : ∀ j b, mutAt sd j = true → σ[j]? = some (some (.ref b)) → b ≠ a := fun j b h e z => by
    subst z
    rcases S.mu_obj ⟨j, h, e⟩ with ⟨vs, q⟩ | ⟨fs, q⟩
    · rw [ha] at q; cases q
    · rw [ha] at q; exact dO_ne_frz (Option.some.inj q).symm
  have hl : i < sd.length := by
    rw [S.len]
    exact (List.getElem?_eq_some_iff.mp hσ).1
  refine ⟨by rw [List.length_set]; exact S.len, fun j d h => ?_, fun j xs h => ?_, fun j kv h => ?_, fun j b h e => ?_, fun j l b h h' e e' => ?_, fun j b h => ?_, S.fzb, S.fz0, fun b u h p => ?_, fun b f => ?_⟩
  · have ne : j ≠ i := fun z => by rw [z, List.getElem?_set_self hl] at h; cases h
    rw [List.getElem?_set_ne (fun z => ne z.symm)] at h
    obtain ⟨v, e, r⟩ := S.vals j d h
    exact ⟨v, e, Rep.unl nf ha d v r⟩
  · have ne : j ≠ i := fun z => by rw [z, List.getElem?_set_self hl] at h; cases h
    rw [List.getElem?_set_ne (fun z => ne z.symm)] at h
    obtain ⟨b, vs, e, q, r⟩ := S.mls j xs h
    exact ⟨b, vs, e, by rw [upd_ne (nm j b (mutAt_ml h) e)]; exact q, RepL.unl nf ha xs vs r⟩
  · by_cases ne : j = i
    · subst ne
      rw [List.getElem?_set_self hl] at h
      cases h
      exact ⟨a, es.map fun p => (KX.k p.1, p.2), hσ, by rw [dO_k]; exact upd_same, KysR.ofK hk hsm, by rw [List.map_map]; exact RepL.unl nf ha _ _ rk⟩
    · rw [List.getElem?_set_ne (fun z => ne z.symm)] at h
      obtain ⟨b, fs, e, q, z, r⟩ := S.mks j kv h
      exact ⟨b, fs, e, by rw [upd_ne (nm j b (mutAt_mk h) e)]; exact q, z.unl ha, RepL.unl nf ha _ _ r⟩
  · by_cases ne : j = i
    · subst ne
      rw [hσ] at e
      cases e
      exact ⟨nf, .inr he⟩
    · exact S.mown j b (mutAt_ne h ne) e
  · by_cases n1 : j = i
    · by_cases n2 : l = i
      · rw [n1, n2]
      · subst n1
        rw [hσ] at e
        cases e
        exact absurd rfl (nm l a (mutAt_ne h' n2) e')
    · by_cases n2 : l = i
      · subst n2
        rw [hσ] at e'
        cases e'
        exact absurd rfl (nm j a (mutAt_ne h n1) e)
      · exact S.inj j l b (mutAt_ne h n1) (mutAt_ne h' n2) e e'
  · obtain ⟨h1, h2, h3⟩ := S.par j b h
    have ne : j ≠ i := by omega
    refine ⟨h1, ?_, h3⟩
    unfold mutAt at h2 ⊢
    rw [List.getElem?_set_ne (fun z => ne z.symm)]
    exact h2
  · rw [upd_ne (fun z => by rw [z, he] at h; cases h)]
    exact S.frame b u h p
  · obtain ⟨u, q⟩ := S.fzH b f
    exact ⟨u, by rw [upd_ne (fun z => nf (by rw [← z]; exact f))]; exact q⟩
end
theorem s_compk {elt : E} {tg : Tg} {i : Nat} {cs : Es} {own : List Nat} {on : List (Str × Nat)} {pe pt pi : PySem.Expr} {ifs : List PySem.Expr} {sc : Scope} {pos : Pos} (G : Good pr lv N se X) (hK : g.K = (kwX X)) (hn : g.np = C.np) (hon : ownN N own = some on) (hb : blkC N se.sc sc on = true)
    (hT : mT N (relSe sc se) tg pt = true) (hs : ∀ v, v ∈ tgSl tg → v ∈ own) (hset : nset pi = true) (hi : PE X pi (tVar i))
    (ht : ∀ (s : Shared) (H : Hp) (C' : Addr) (cl : List (Str × Addr)) (fp : List Addr), PTs (X.blk s H sc (compEnvC sc cl C' X.env) fp) ifs (tRT g (evCs C cs)))
    (he : ∀ (s : Shared) (H : Hp) (C' : Addr) (cl : List (Str × Addr)) (fp : List Addr), PE (X.blk s H sc (compEnvC sc cl C' X.env) fp) pe (tR g (evE C elt))) :
    PE X (.ListComp pe [⟨pt, pi, ifs, 0⟩] sc pos) (tR g (evE C (.compk elt tg i cs own))) := by
  refine PE.to (pe_lock (pe_lc (own := on) G.calm (by rw [G.eN]; exact G.nd) (pi_kys (g := g) hi) (blkOk_by (by rw [G.eN, G.esc]; exact hb)) (fun s H C' cl fp => pg_row (G.blk s H sc C' cl fp) hK hn tg pt hT) ht he (nset_fold hset _))) fun σ H Q ⟨sd, Fz, o, sd', S, e, k⟩ => ?_
  rw [ownN_map hon]
  simp only [evE] at e
  split at e
  case h_2 => cases e
  rename_i kvs hkv
  split at e
  case isFalse => cases e
  rename_i hc
  obtain ⟨r, er, e⟩ := Option.map_eq_some_iff.mp e
  cases e
  obtain ⟨a, esX, hσ, haX, hkX, rkX⟩ := S.mks i kvs hkv
  have hsm : smpL (kvs.map (·.1)) = true := by rw [← okK_smp (k := .i 0) rfl]; exact hc.2.2
  obtain ⟨es, l1, hk, l3, _⟩ := dO_smp (w := g.K.w) (a := a) hkX hsm
  have ha : H a = some (.dK es) := by rw [haX, l1]
  have rk : RepL g.K Fz H (kvs.map (·.2)) (es.map (·.2)) := by rw [l3]; exact rkX
  have hni : g.np ≤ i := by rw [hn]; exact hc.1
  obtain ⟨nf, hHe⟩ := S.own hkv hni hσ
  refine ⟨a, .dK es, ha, trivial, fun od => ?_⟩
  have SL := S.lockd (o := od) hkv hni hσ ha
  have kp := keep_lock (o := od) nf ha
  have mua : Mu sd σ a := ⟨i, mutAt_mk hkv, hσ⟩
  have muL : ∀ b, Mu (sd.set i .none) σ b → Mu sd σ b ∧ b ≠ a := fun b ⟨j, h, e⟩ => by
    obtain ⟨ne, h⟩ := mutAt_none h
    exact ⟨⟨j, h, e⟩, fun z => ne (S.inj j i a h (mutAt_mk hkv) (by rw [← z]; exact e) hσ)⟩
  have key : tR g (evE C (.comp elt tg (.kys (kvs.map (·.1))) cs own)) σ (upd H a (.frz od (.dK es))) (fun v H' => H' a = some (.frz od (.dK es)) ∧ Q v (upd H' a (.dK es))) := by
    refine ⟨sd.set i .none, Fz, .new r.1, backD (sd.set i .none) r.2 own, SL, ?_, fun v H' Fz' S' E' r' => ?_⟩
    · simp only [evE, evIt, Option.bind_some]
      rw [if_pos hc.2.1, er]
      rfl
    · have h1 : H' a = some (.frz od (.dK es)) := E'.keep a _ upd_same fun m => (muL a m).2 rfl
      have nf' : ¬ Fz' a := fun z => by
        rcases E'.fzn a z with q | q | q
        · exact nf q
        · rw [upd_same] at q; cases q
        · exact (muL a q).2 rfl
      have rk' : RepL g.K Fz' H' (kvs.map (·.2)) (es.map (·.2)) := (E'.mono SL).repL (RepL.keep kp (fun _ z => z) _ _ rk)
      have S2 := S'.unlockd (kvs := kvs) h1 nf' hHe hni hσ hk hsm rk'
      refine ⟨h1, k v _ Fz' S2 ⟨fun b u h m => ?_, fun b h => ?_, E'.fz, fun b h => ?_, fun b ⟨j, h, e⟩ => ?_⟩ ?_⟩
      · have ne : b ≠ a := fun z => m (by rw [z]; exact mua)
        rw [upd_ne ne]
        exact E'.keep b u (by rw [upd_ne ne]; exact h) fun q => m (muL b q).1
      · by_cases ne : b = a
        · rw [ne, upd_same]; exact Option.some_ne_none _
        · rw [upd_ne ne]
          exact E'.there b (by rw [upd_ne ne]; exact h)
      · rcases E'.fzn b h with q | q | q
        · exact .inl q
        · by_cases ne : b = a
          · rw [ne, upd_same] at q; cases q
          · rw [upd_ne ne] at q
            exact .inr (.inl q)
        · exact .inr (.inr (muL b q).1)
      · by_cases ne : j = i
        · rw [ne, hσ] at e
          cases e
          exact mua
        · exact (muL b (E'.mu b ⟨j, mutAt_ne h ne, e⟩)).1
      · obtain ⟨p, vs, ev, hp, rp, np, nm, h0, hHp⟩ := r'
        have ne : p ≠ a := fun z => by rw [z, h1] at hp; cases hp
        refine ⟨p, vs, ev, by rw [upd_ne ne]; exact hp, RepL.unl nf' h1 _ _ rp, np, fun ⟨j, h, e⟩ => ?_, by rw [upd_ne ne] at h0; exact h0, hHp⟩
        by_cases nj : j = i
        · rw [nj, hσ] at e
          cases e
          exact ne rfl
        · exact nm ⟨j, mutAt_ne h nj, e⟩
  have w := comp_tLc hs key
  have ei : evIt C (.kys (kvs.map (·.1))) = fun sd => some (rows1 ((kvs.map (·.1)).map kyD), [], sd) := by
    funext sd
    simp only [evIt]
  rw [ei] at w
  exact ⟨a, od, es, kvs.map (fun x : Ky × D => x.1), hσ, upd_same, hk, hsm, w⟩
end
end Ev

set_option linter.all false
set_option autoImplicit false
set_option Elab.async false
set_option maxRecDepth 100000
set_option maxHeartbeats 8000000
/-! EvSg: set(x), in two steps: a new set; what x has is put in. -/
namespace Ev
open PySem PySem.Spec PyProof.Rows L2
section
variable {P : Program} {w : World} {B : Around} {E : Value → Shared → Prop} {u : Shared}
theorem none_past {h : Heap} {b : Addr} (le : h.objs.size ≤ b) : h.get? b = none := by
  cases e : h.get? b with
  | none => rfl
  | some o => exact absurd (Nat.lt_of_lt_of_le (Heap.lt_size e) le) (Nat.lt_irrefl _)
abbrev newSet0 (w : World) : Obj := { cls := .type "set", dict := none, data := .set #[] 0 (.fresh 0 0 (!w.params.followText "set-order")) }
theorem set_gen {x : Value} {Rr : Heap → Prop} {Q : Value → Shared → Prop}
    (up : wpAny (model P w) B.in1.in1 (Builtin.Frozenset.updateFrom "set.__init__" u.heap.objs.size x) (fun _ v => ∃ (g : Heap) (tk : Nat), v = { u with heap := g, toks := tk } ∧ Rr g) E { u with heap := u.heap.push (newSet0 w) })
    (q : ∀ (g : Heap) (tk : Nat), Rr g → Q (.ref u.heap.objs.size) { u with heap := g, toks := tk }) :
    wpAny (model P w) B (call (.type "set") [x]) Q E u := by
  obtain ⟨c, tl, hmro⟩ := F.called_set.mro
  have made := F.called_set.made
  have sub := F.called_set.sub
  have notT := F.called_set.notType
  have can := F.called_set.canCreate
  have tc := F.typeCall_set_1 x
  refine wpAny_call (codeAny_of_tree ?_)
  show wpAny _ _ (callAny (.type "set") _) _ _ _
  refine wpAny_pure ⟨Code.quiet_builtin _ (by decide +kernel), codeAny_builtin F.entry_type_call ?_⟩
  rw [Around.under_plain (weight_type_call_type "set" [x] []) rfl]
  repeat (any_goals (first | assumption | wp_step))
  refine codeAny_mono (code_set_led1 x (E := E) (Q₁ := fun x v => x = .ref u.heap.objs.size ∧ v = { u with heap := u.heap.push (newSet0 w) }) ⟨rfl, rfl⟩) fun r v hr => ?_
  cases r with
  | error e => exact hr
  | ok fl =>
    cases fl with
    | ret y =>
      obtain ⟨rfl, rfl⟩ := hr
      have atS : (u.heap.push (newSet0 w)).get? u.heap.objs.size = some (newSet0 w) := Heap.get?_push_size u.heap rfl
      have tyS : Shared.TypeIs { u with heap := u.heap.push (newSet0 w) } (.ref u.heap.objs.size) "set" := ⟨_, atS, rfl⟩
      have li := F.called_set.init.lookup
      have bi := F.called_set.init.bind (.ref u.heap.objs.size)
      repeat (any_goals (first | assumption | wp_step))
      refine codeAny_mono (codeAny_call_builtin (R := wants (fun r v => r = .none ∧ ∃ (g : Heap) (tk : Nat), v = { u with heap := g, toks := tk } ∧ Rr g) E) F.called_set.init.plain F.entry_set_init (check_set_init_1 tyS ?_)) fun r2 v2 hr2 => ?_
      · unfold Builtin.«set.__init__» noKeywords
        generalize hU : Builtin.Frozenset.updateFrom = U
        wp_walk
        subst hU
        refine wpAny_mono up ?_ ?_
        · rintro _ v ⟨g, tk, rfl, h⟩
          show wpAny _ _ (ret Value.none) _ _ _
          exact wpAny_pure ⟨rfl, g, tk, rfl, h⟩
        · exact fun e v h => h
      · cases r2 with
        | error e => exact hr2
        | ok fl2 =>
          cases fl2 with
          | ret r =>
            obtain ⟨rfl, g, tk, rfl, h1⟩ := hr2
            repeat (any_goals (first | assumption | wp_step))
            exact q g tk h1
          | _ => exact hr2.elim
    | _ => exact hr.elim
theorem no_set {l : Addr} {T : String} {Q : Bool → Shared → Prop} (ty : u.TypeIs (.ref l) T) (n1 : isSubtype (.type T) (.type "set") = pure false) (n2 : isSubtype (.type T) (.type "frozenset") = pure false) (q : Q false u) : wpAny (model P w) B (Builtin.Frozenset.isAnySet (.ref l)) Q E u := by
  unfold Builtin.Frozenset.isAnySet orM
  refine wpAny_bind (wpAny_isInstance ty n1 ?_)
  exact wpAny_isInstance ty n2 q
/-- what is put in: one by one, as it is walked -/
theorem upd_from {a l : Addr} {T : String} {Q : Unit → Shared → Prop} (ty : u.TypeIs (.ref l) T) (n1 : isSubtype (.type T) (.type "set") = pure false) (n2 : isSubtype (.type T) (.type "frozenset") = pure false) (n3 : (Value.type T == Value.type "dict") = false)
    (q : wpAny (model P w) B (pyIter (.ref l)) (fun it v => codeAny (model P w) B (.builtin "set.update.loop" ⟨[.ref a, it], []⟩) (wants (fun _ v => Q () v) E) v) E u) : wpAny (model P w) B (Builtin.Frozenset.updateFrom "set.__init__" a (.ref l)) Q E u := by
  unfold Builtin.Frozenset.updateFrom
  refine wpAny_bind (no_set ty n1 n2 ?_)
  refine wp_if_neg (by decide) ?_
  try refine wpAny_bind (wpAny_pure ?_)
  refine wpAny_bind (wpAny_typeOf ty ?_)
  refine wp_if_neg (by rw [n3]; decide) ?_
  try refine wpAny_bind (wpAny_pure ?_)
  refine wpAny_bind (wpAny_mono q ?_ ?_)
  · intro it v h
    refine wpAny_bind (wpAny_runValue (codeAny_mono h fun r v hr => ?_))
    cases r with
    | error e => exact hr
    | ok f =>
      cases f with
      | ret x => exact wpAny_pure hr
      | _ => exact hr.elim
  · exact fun e v h => h
end
end Ev

set_option linter.all false
set_option autoImplicit false
set_option Elab.async false
set_option maxRecDepth 100000
set_option maxHeartbeats 8000000
/-! EvW0: set(t) of a tuple of texts, and how many are in it. -/
namespace Ev
open PySem PySem.Spec PyProof.Rows
/-- the texts met so far, each once -/
def metS (val : Nat → Str) : Nat → List Str
  | 0 => []
  | i + 1 => if val i ∈ metS val i then metS val i else metS val i ++ [val i]
theorem metS_le (val : Nat → Str) : ∀ i, (metS val i).length ≤ i
  | 0 => Nat.le_refl 0
  | i + 1 => by
    have := metS_le val i
    unfold metS
    split
    · omega
    · simp; omega
/-- the set at a holds just the texts of l -/
def TxS (P : Program) (w : World) (h : Heap) (a : Addr) (l : List Str) : Prop := h.SetOf (PySem.strKind P w) a (fun k => decide (k ∈ l)) l.length
section
variable {prog : Program} {w : World} {A : Around} {E : Value → Shared → Prop} {s : Shared}
theorem TxS.keep {h h' : Heap} {a : Addr} {l : List Str} (t : TxS prog w h a l) (k : ∀ o, h.get? a = some o → h'.get? a = some o) : TxS prog w h' a l := by
  obtain ⟨ob, es, ep, tb, g1, g2⟩ := t
  exact ⟨ob, es, ep, tb, k ob g1, g2⟩
theorem set_loopS {R : Result → Shared → Prop} {I : Addr} {fp wr : List Addr} {G : Array GenState → Array GenState → Prop} {n : Nat} {P : Nat → Value → Prop} {St : Nat → Shared → Prop}
    (wk : WalksS prog w A.in1 I fp wr G n P St) (a : Addr) (ha : a ∉ fp) (val : Nat → Str) (hval : ∀ i v, P i v → ∃ t, v = .str (val i) t) (hb : n + 1 < scanBound) :
    ∀ (k i : Nat) (s : Shared), n - i = k → i ≤ n → St i s → TxS prog w s.heap a (metS val i) → (∀ s', Moved (a :: wr) G s s' → TxS prog w s'.heap a (metS val n) → R (.ok (.ret .none)) s') →
      codeAny (model prog w) A (.builtin "set.update.loop" ⟨[.ref a, .ref I], []⟩) R s := by
  have haw : a ∉ wr := fun z => ha (wk.sub _ z)
  have sub2 : ∀ c ∈ wr, c ∈ a :: wr := fun c z => List.mem_cons_of_mem _ z
  intro k
  induction k with
  | zero =>
    intro i s hk hi st hS hR
    obtain rfl : i = n := by omega
    refine codeAny_builtin PyProof.Rows.F.entry_set_update_loop ?_
    rw [Around.under_plainId PyProof.Rows.F.plain_set_update_loop _]
    show wpAny _ A.in1 (pyNext (.ref I) >>= _) _ _ s
    refine wpAny_bind (wk.done s _ _ st fun s1 mv => ?_)
    show wpAny _ A.in1 (ret Value.none) _ _ s1
    exact wpAny_pure (hR s1 (mv.mono sub2) (hS.keep fun ob e => mv.heap a ob haw e))
  | succ k ih =>
    intro i s hk hi st hS hR
    have lt : i < n := by omega
    refine codeAny_builtin PyProof.Rows.F.entry_set_update_loop ?_
    rw [Around.under_plainId PyProof.Rows.F.plain_set_update_loop _]
    show wpAny _ A.in1 (pyNext (.ref I) >>= _) _ _ s
    refine wpAny_bind (wk.item i s _ _ lt st fun v s1 hv st1 mv => ?_)
    obtain ⟨t, rfl⟩ := hval i v hv
    have hS1 : TxS prog w s1.heap a (metS val i) := hS.keep fun ob e => mv.heap a ob haw e
    show wpAny _ A.in1 (holding [Value.str (val i) t] (setAdd a (.str (val i) t)) >>= _) _ _ s1
    unfold setAdd
    refine wpAny_bind (wpAny_holding (wpAny_holding (wpAny_bind ((PySem.strKind prog w).pyHash (k := val i) (strKind_is prog w _ _) ?_))))
    have room : (metS val i).length + 1 < scanBound := by have := metS_le val i; omega
    refine wpAny_setAddHashed_of (knd := PySem.strKind prog w) (s := { s1 with toks := s1.toks + 1 }) (strKind_is prog w _ _) rfl hS1 room fun h2 same hS2 => ?_
    have hS3 : TxS prog w h2 a (metS val (i + 1)) := by
      have mem : ∀ k', k' ∈ metS val (i + 1) ↔ k' ∈ metS val i ∨ k' = val i := fun k' => by
        simp only [metS]
        by_cases z : val i ∈ metS val i
        · rw [if_pos z]
          exact ⟨.inl, fun y => y.elim id fun y => by rw [y]; exact z⟩
        · rw [if_neg z]
          simp
      have len : (if decide (val i ∈ metS val i) = true then (metS val i).length else (metS val i).length + 1) = (metS val (i + 1)).length := by
        simp only [metS]
        by_cases z : val i ∈ metS val i
        · simp [z]
        · simp [z]
      exact PyProof.Rows.SetOf_congr hS2 (fun k' => by rw [Bool.eq_iff_iff]; simp [mem k']) len
    refine wpAny_pure ⟨plainId_quiet PyProof.Rows.F.plain_set_update_loop _, ih (i + 1) _ (by omega) lt (wk.frame _ s1 _ _ st1 (Nat.le_succ _) fun c hc ob e => ?_) hS3 fun s2 mv2 hS4 => ?_⟩
    · rw [same.2 c fun z => ha (by rw [← z]; exact hc)]; exact e
    · refine hR s2 (Moved.trans wk.gtrans ((mv.mono sub2).then_heap (Nat.le_succ _) fun c ob hc e => ?_) mv2) hS4
      rw [same.2 c fun z => hc (by rw [z]; exact List.mem_cons_self)]; exact e
/-- set(t), t a tuple of texts -/
theorem set_of_tup {l : Addr} {items : Array Value} {val : Nat → Str} {Q : Value → Shared → Prop} (hh : A.handled = none) (hl : s.heap.IsTuple l items) (hv : ∀ (i : Nat) (v : Value), items[i]? = some v → ∃ t, v = Value.str (val i) t) (hb : items.size + 1 < scanBound)
    (q : ∀ (h2 : Heap) (tk : Nat), TxS prog w h2 s.heap.objs.size (metS val items.size) → (∀ b o, b < s.heap.objs.size → s.heap.get? b = some o → h2.get? b = some o) → Q (.ref s.heap.objs.size) { s with heap := h2, toks := tk }) :
    wpAny (model prog w) A (call (.type "set") [.ref l]) Q E s := by
  refine set_gen (Rr := fun g => TxS prog w g s.heap.objs.size (metS val items.size) ∧ ∀ b o, b < s.heap.objs.size → s.heap.get? b = some o → g.get? b = some o) ?_ fun g tk ⟨h1, h2⟩ => q g tk h1 h2
  have atS : (s.heap.push (newSet0 w)).get? s.heap.objs.size = some (newSet0 w) := Heap.get?_push_size s.heap rfl
  obtain ⟨ot, hot, hct, nt, hdt⟩ := hl
  obtain ⟨tcls, tdict, tdata, tslots⟩ := ot
  simp only at hct hdt
  subst hct hdt
  have atT : (s.heap.push (newSet0 w)).get? l = some { cls := .type "tuple", dict := tdict, data := .seq items nt, slots := tslots } := Heap.get?_push_of_some _ hot
  have isT : (s.heap.push (newSet0 w)).IsTuple l items := ⟨_, atT, rfl, nt, rfl⟩
  refine upd_from (T := "tuple") ⟨_, atT, rfl⟩ PySem.F.sub_tuple_set PySem.F.sub_tuple_frozenset (by decide) (wpAny_pyIter_tuple isT ?_)
  have ltT : l < s.heap.objs.size := Heap.lt_size hot
  have sz : (s.heap.push (newSet0 w)).objs.size = s.heap.objs.size + 1 := Heap.size_push _ _
  have ne1 : l ≠ (s.heap.push (newSet0 w)).objs.size := by rw [sz]; exact Nat.ne_of_lt (Nat.lt_succ_of_lt ltT)
  have nin : s.heap.objs.size ∉ [(s.heap.push (newSet0 w)).objs.size, l] := by
    rw [sz]
    simp only [List.mem_cons, List.not_mem_nil, or_false, not_or]
    exact ⟨Nat.ne_of_lt (Nat.lt_succ_self _), Nat.ne_of_gt ltT⟩
  refine set_loopS (prog := prog) (w := w) ((Walks.tuple (by simp [hh]) _ l ne1 items).toS) s.heap.objs.size nin val hv hb (items.size - 0) 0 _ (by omega) (Nat.zero_le _) ⟨⟨_, Heap.get?_push_size _ rfl, rfl, rfl⟩, isT.at fun ob e => Heap.get?_push_of_some _ e⟩ ?g0 ?g1
  case g0 =>
    have atS2 : ((s.heap.push (newSet0 w)).push { cls := .type "tuple_iterator", data := .fields #[.ref l, .int 0 0] }).get? s.heap.objs.size = some (newSet0 w) := Heap.get?_push_of_some _ atS
    exact PyProof.Rows.SetOf_congr ((PyProof.Rows.setObjOf_fresh (knd := PySem.strKind prog w) (!w.params.followText "set-order")).setOf atS2 (by unfold scanBound; omega)) (fun k => by simp [metS]) (by simp [metS])
  case g1 =>
    intro s2 mv hS2
    obtain ⟨h2, g2, d2, t2, o2⟩ := s2
    obtain rfl : g2 = s.gens := mv.gens
    obtain rfl : d2 = s.drawn := mv.drawn
    obtain rfl : o2 = s.os := mv.os
    refine ⟨h2, t2, rfl, hS2, fun b ob hb2 e => mv.heap b ob ?_ (Heap.get?_push_of_some _ (Heap.get?_push_of_some _ e))⟩
    rw [sz]
    simp only [List.mem_cons, List.not_mem_nil, or_false, not_or]
    exact ⟨Nat.ne_of_lt hb2, Nat.ne_of_lt (Nat.lt_succ_of_lt hb2)⟩
theorem set_of_lst {l : Addr} {items : Array Value} {val : Nat → Str} {Q : Value → Shared → Prop} (hh : A.handled = none) (hl : s.heap.IsList l items) (hv : ∀ (i : Nat) (v : Value), items[i]? = some v → ∃ t, v = Value.str (val i) t) (hb : items.size + 1 < scanBound)
    (q : ∀ (h2 : Heap) (tk : Nat), TxS prog w h2 s.heap.objs.size (metS val items.size) → (∀ b o, b < s.heap.objs.size → s.heap.get? b = some o → h2.get? b = some o) → Q (.ref s.heap.objs.size) { s with heap := h2, toks := tk }) :
    wpAny (model prog w) A (call (.type "set") [.ref l]) Q E s := by
  refine set_gen (Rr := fun g => TxS prog w g s.heap.objs.size (metS val items.size) ∧ ∀ b o, b < s.heap.objs.size → s.heap.get? b = some o → g.get? b = some o) ?_ fun g tk ⟨h1, h2⟩ => q g tk h1 h2
  have atS : (s.heap.push (newSet0 w)).get? s.heap.objs.size = some (newSet0 w) := Heap.get?_push_size s.heap rfl
  obtain ⟨ot, hot, hct, nt, hdt⟩ := hl
  obtain ⟨tcls, tdict, tdata, tslots⟩ := ot
  simp only at hct hdt
  subst hct hdt
  have atT : (s.heap.push (newSet0 w)).get? l = some { cls := .type "list", dict := tdict, data := .seq items nt, slots := tslots } := Heap.get?_push_of_some _ hot
  have isT : (s.heap.push (newSet0 w)).IsList l items := ⟨_, atT, rfl, nt, rfl⟩
  refine upd_from (T := "list") ⟨_, atT, rfl⟩ PySem.F.sub_list_set PySem.F.sub_list_frozenset (by decide) (wpAny_pyIter_list isT ?_)
  have ltT : l < s.heap.objs.size := Heap.lt_size hot
  have sz : (s.heap.push (newSet0 w)).objs.size = s.heap.objs.size + 1 := Heap.size_push _ _
  have ne1 : l ≠ (s.heap.push (newSet0 w)).objs.size := by rw [sz]; exact Nat.ne_of_lt (Nat.lt_succ_of_lt ltT)
  have nin : s.heap.objs.size ∉ [(s.heap.push (newSet0 w)).objs.size, l] := by
    rw [sz]
    simp only [List.mem_cons, List.not_mem_nil, or_false, not_or]
    exact ⟨Nat.ne_of_lt (Nat.lt_succ_self _), Nat.ne_of_gt ltT⟩
  refine set_loopS (prog := prog) (w := w) ((Walks.list (by simp [hh]) _ l ne1 items).toS) s.heap.objs.size nin val hv hb (items.size - 0) 0 _ (by omega) (Nat.zero_le _) ⟨⟨_, Heap.get?_push_size _ rfl, rfl, rfl⟩, isT.at fun ob e => Heap.get?_push_of_some _ e⟩ ?g0 ?g1
  case g0 =>
    have atS2 : ((s.heap.push (newSet0 w)).push { cls := .type "list_iterator", data := .fields #[.ref l, .int 0 0] }).get? s.heap.objs.size = some (newSet0 w) := Heap.get?_push_of_some _ atS
    exact PyProof.Rows.SetOf_congr ((PyProof.Rows.setObjOf_fresh (knd := PySem.strKind prog w) (!w.params.followText "set-order")).setOf atS2 (by unfold scanBound; omega)) (fun k => by simp [metS]) (by simp [metS])
  case g1 =>
    intro s2 mv hS2
    obtain ⟨h2, g2, d2, t2, o2⟩ := s2
    obtain rfl : g2 = s.gens := mv.gens
    obtain rfl : d2 = s.drawn := mv.drawn
    obtain rfl : o2 = s.os := mv.os
    refine ⟨h2, t2, rfl, hS2, fun b ob hb2 e => mv.heap b ob ?_ (Heap.get?_push_of_some _ (Heap.get?_push_of_some _ e))⟩
    rw [sz]
    simp only [List.mem_cons, List.not_mem_nil, or_false, not_or]
    exact ⟨Nat.ne_of_lt hb2, Nat.ne_of_lt (Nat.lt_succ_of_lt hb2)⟩
end
open L2
/-- as a thing of the abstract heap -/
def TxSO (P : Program) (w : World) (a : Addr) (l : List Str) : HO := .ext fun h => TxS P w h a l ∧ l.length < 4000
theorem txSO_new {P : Program} {w : World} {H : Hp} {h : Heap} {a : Addr} {l : List Str} (t : TxS P w h a l) (hl : l.length < 4000) : ObjOk P w H h a (TxSO P w a l) := by
  obtain ⟨ob, r⟩ := id t
  refine ⟨⟨t, hl⟩, ⟨ob, r.choose_spec.choose_spec.choose_spec.1 ▸ rfl⟩, fun h1 h2 p k => ?_⟩
  exact ⟨p.1.keep fun o e => k o e, p.2⟩
end Ev

set_option linter.all false
set_option autoImplicit false
set_option Elab.async false
set_option maxRecDepth 100000
set_option maxHeartbeats 4000000
/-! EvW: how many unlike texts a tuple has. -/
namespace Ev
open PySem PySem.Spec L2
theorem dedupC_mem {x : List Char} : ∀ {l : List (List Char)}, x ∈ dedupC l ↔ x ∈ l
  | [] => Iff.rfl
  | y :: r => by
    simp only [dedupC]
    split
    · rename_i h
      rw [dedupC_mem, List.mem_cons]
      exact ⟨.inr, fun z => z.elim (fun z => by rw [z]; exact h) id⟩
    · rw [List.mem_cons, List.mem_cons, dedupC_mem]
theorem dedupC_nodup : ∀ {l : List (List Char)}, (dedupC l).Nodup
  | [] => List.nodup_nil
  | y :: r => by
    simp only [dedupC]
    split
    · exact dedupC_nodup
    · rename_i h
      exact List.nodup_cons.mpr ⟨fun z => h (dedupC_mem.mp z), dedupC_nodup⟩
theorem metS_mem (val : Nat → Str) {x : Str} : ∀ {n : Nat}, x ∈ metS val n ↔ ∃ i, i < n ∧ val i = x
  | 0 => by simp [metS]
  | n + 1 => by
    have ih := metS_mem val (x := x) (n := n)
    have more : (∃ i, i < n + 1 ∧ val i = x) ↔ (∃ i, i < n ∧ val i = x) ∨ val n = x := by
      constructor
      · rintro ⟨i, h1, h2⟩
        rcases Nat.lt_or_ge i n with z | z
        · exact .inl ⟨i, z, h2⟩
        · obtain rfl : i = n := by omega
          exact .inr h2
      · rintro (⟨i, h1, h2⟩ | h)
        · exact ⟨i, by omega, h2⟩
        · exact ⟨n, by omega, h⟩
    rw [more, ← ih]
    simp only [metS]
    split
    · rename_i h
      exact ⟨.inl, fun z => z.elim id fun z => by rw [← z]; exact h⟩
    · simp [eq_comm]
theorem metS_nodup (val : Nat → Str) : ∀ n : Nat, (metS val n).Nodup
  | 0 => List.nodup_nil
  | n + 1 => by
    simp only [metS]
    split
    · exact metS_nodup val n
    · rename_i h
      rw [List.nodup_append]
      exact ⟨metS_nodup val n, by simp, fun a ha b hb => by simp at hb; subst hb; exact fun e => h (by rw [← e]; exact ha)⟩
/-- the i-th text -/
def valC (ss : List (List Char)) (i : Nat) : Str := chS (ss.getD i [])
theorem met_len (ss : List (List Char)) : (metS (valC ss) ss.length).length = (dedupC ss).length := by
  have inj : ∀ a b : List Char, chS a = chS b → a = b := fun a b h => chS_inj h
  have n2 : ((dedupC ss).map chS).Nodup := List.Pairwise.map _ (fun a b h e => h (inj a b e)) dedupC_nodup
  have p : (metS (valC ss) ss.length).Perm ((dedupC ss).map chS) := by
    refine (List.perm_ext_iff_of_nodup (metS_nodup _ _) n2).mpr fun x => ?_
    rw [metS_mem, List.mem_map]
    constructor
    · rintro ⟨i, h1, h2⟩
      refine ⟨ss[i], dedupC_mem.mpr (List.getElem_mem h1), ?_⟩
      rw [← h2]
      simp [valC, List.getD, List.getElem?_eq_getElem h1]
    · rintro ⟨c, h1, h2⟩
      obtain ⟨i, hi, e⟩ := List.mem_iff_getElem.mp (dedupC_mem.mp h1)
      exact ⟨i, hi, by rw [← h2, ← e]; simp [valC, List.getD, List.getElem?_eq_getElem hi]⟩
  rw [p.length_eq, List.length_map]
section
variable {X : Cx}
def rSetTx (K : KW) (P : Program) (w : World) : List V → Hp → VK → Prop := fun xs H Q => ∃ (a : Addr) (ss : List (List Char)), xs = [.ref a] ∧ (SqT K.f H a (ss.map fun c => V.str (chS c)) ∨ SqL K.f H a (ss.map fun c => V.str (chS c))) ∧ ss.length < 4000 ∧
  ∀ p l, H p = none → l.length = (dedupC ss).length → Q (.ref p) (upd H p (TxSO P w p l))
theorem cr_setTx (hc : X.calm = true) : CallR X (.type "set") (rSetTx (kwX X) X.prog X.w) := by
  intro pins s σ H xs us Q I r h
  obtain ⟨a, ss, rfl, ha, hl, q⟩ := h
  rw [Vals.ref1 r]
  rcases ha with ha | ha
  · obtain ⟨its, rv, pt, hz⟩ := I.tuple ha
    have hlen : its.length = ss.length := by have := rv.length; simp at this; exact this.symm
    have hn : H s.heap.objs.size = none := I.hok.fresh (Nat.le_refl _)
    refine set_of_tup (prog := X.prog) (w := X.w) (val := valC ss) (I.ok.hd hc) (show s.heap.IsTuple a its.toArray from pt) (fun i v hv => ?_) (by simp [hlen, scanBound]; omega) fun h2 tk t k => ?_
    · have hi : i < ss.length := by
        have := (Array.getElem?_eq_some_iff.mp hv).1
        simpa [hlen] using this
      obtain ⟨u, hu, ru⟩ := rv.get (i := i) (x := V.str (chS ss[i])) (by simp [hi])
      have e : u = v := by
        have : its.toArray[i]? = some u := by simpa using hu
        rw [this] at hv; exact Option.some.inj hv
      subst e
      obtain ⟨tk, rfl⟩ := ru
      exact ⟨tk, by simp [valC, List.getD, List.getElem?_eq_getElem hi]⟩
    · have e1 : its.toArray.size = ss.length := by simp [hlen]
      rw [e1] at t
      have ml := metS_le (valC ss) ss.length
      exact ⟨.ref s.heap.objs.size, upd H s.heap.objs.size (TxSO X.prog X.w s.heap.objs.size (metS (valC ss) ss.length)), I.laid (t' := tk) (fun b o e => k b o (Heap.lt_size e) e) (Nat.le_refl _) (txSO_new t (by omega)), rfl, q _ _ hn (met_len ss)⟩
  · obtain ⟨its, rv, pt, hz⟩ := I.list ha
    have hlen : its.length = ss.length := by have := rv.length; simp at this; exact this.symm
    have hn : H s.heap.objs.size = none := I.hok.fresh (Nat.le_refl _)
    refine set_of_lst (prog := X.prog) (w := X.w) (val := valC ss) (I.ok.hd hc) (show s.heap.IsList a its.toArray from pt.isList) (fun i v hv => ?_) (by simp [hlen, scanBound]; omega) fun h2 tk t k => ?_
    · have hi : i < ss.length := by
        have := (Array.getElem?_eq_some_iff.mp hv).1
        simpa [hlen] using this
      obtain ⟨u, hu, ru⟩ := rv.get (i := i) (x := V.str (chS ss[i])) (by simp [hi])
      have e : u = v := by
        have : its.toArray[i]? = some u := by simpa using hu
        rw [this] at hv; exact Option.some.inj hv
      subst e
      obtain ⟨tk, rfl⟩ := ru
      exact ⟨tk, by simp [valC, List.getD, List.getElem?_eq_getElem hi]⟩
    · have e1 : its.toArray.size = ss.length := by simp [hlen]
      rw [e1] at t
      have ml := metS_le (valC ss) ss.length
      exact ⟨.ref s.heap.objs.size, upd H s.heap.objs.size (TxSO X.prog X.w s.heap.objs.size (metS (valC ss) ss.length)), I.laid (t' := tk) (fun b o e => k b o (Heap.lt_size e) e) (Nat.le_refl _) (txSO_new t (by omega)), rfl, q _ _ hn (met_len ss)⟩
theorem cr_lenTx : CallR X (.builtin "len") (fun xs H Q => ∃ a l, xs = [.ref a] ∧ H a = some (TxSO X.prog X.w a l) ∧ Q (.int l.length) H) := by
  intro pins s σ H xs us Q I r h
  obtain ⟨a, l, rfl, ha, q⟩ := h
  rw [Vals.ref1 r]
  obtain ⟨⟨t, hl⟩, _⟩ := I.hok _ _ ha
  obtain ⟨o, es, ep, tb, g1, g2, g3, g4, g5, g6, g7, g8⟩ := t
  refine call_len_set g1 g2 g3 g7 (by rw [g8]; omega) ?_
  exact ⟨.int l.length, H, I.tok _, ⟨_, by rw [g8]⟩, q⟩
end
section
variable {X : Cx} {g : Gc} {C : Cfg} {pr : Pr} {lv : Nat} {N : List Str} {se : Se}
theorem s_lset (G : Good pr lv N se X) {a : E} {q : PySem.Expr} {pf p2 p3 pos : Pos} (hK : g.K = (kwX X)) (hb : bltB pr se "len" = true) (hs : bltB pr se "set" = true) (hq : nst q = true) (ha : PE X q (tR g (evE C a))) :
    PE X (.Call (.Name "len" pf) [.Call (.Name "set" p2) [q] [] p3] [] pos) (tR g (evE C (.lset a))) := by
  obtain ⟨gK, gHe, gFz0, gmp, gnp⟩ := g
  obtain rfl : gK = (kwX X) := hK
  have hc := G.calm
  refine PE.to (callB G hb cr_lenTx PySem.boot_len (by simp) (by rfl) (pa_cons (callT G hs (cr_setTx hc) PyProof.Rows.boot_set (by simp) (by simp only [plainL, List.all_cons, List.all_nil, hq, Bool.and_true]) (pa_cons ha pa_nil (nst_star hq _ _))) pa_nil (nst_star (by rfl) _ _))) fun σ H Q ⟨sd, Fz, o, sd', S, e, k⟩ => ?_
  simp only [evE, Option.bind_eq_some_iff, Option.map_eq_some_iff] at e
  obtain ⟨x, ex, d, ed, r, er, e⟩ := e
  cases e
  refine ⟨sd, Fz, x.1, x.2, S, ex, fun v H1 Fz1 S1 E1 r1 => ?_⟩
  cases d <;> simp only [lsetD] at er <;> try (cases er; done)
  · rename_i ds
    obtain ⟨ss, es, er⟩ := Option.bind_eq_some_iff.mp er
    obtain ⟨hl, rfl⟩ := opt_if er
    obtain ⟨b, vs, rfl, hb2, rl⟩ := (force_rep S1 r1 ed).tup
    have ev := rl.ofStrs es
    subst ev
    refine ⟨b, ss, rfl, .inl hb2.t, hl, fun p l hp e2 => ⟨p, l, rfl, upd_same, ?_⟩⟩
    have gr : Grow H1 (upd H1 p (TxSO X.prog X.w p l)) := Grow.upd hp
    refine k _ _ Fz1 (S1.grow gr) (E1.trans gr.ext) ?_
    simp only [RepO, Rep, e2]
  · rename_i ds
    obtain ⟨ss, es, er⟩ := Option.bind_eq_some_iff.mp er
    obtain ⟨hl, rfl⟩ := opt_if er
    obtain ⟨b, vs, rfl, hb2, rl⟩ := (force_rep S1 r1 ed).lst
    have ev := rl.ofStrs es
    subst ev
    refine ⟨b, ss, rfl, .inr (SqL.of hb2), hl, fun p l hp e2 => ⟨p, l, rfl, upd_same, ?_⟩⟩
    have gr : Grow H1 (upd H1 p (TxSO X.prog X.w p l)) := Grow.upd hp
    refine k _ _ Fz1 (S1.grow gr) (E1.trans gr.ext) ?_
    simp only [RepO, Rep, e2]
end
end Ev

set_option linter.all false
set_option autoImplicit false
set_option Elab.async false
set_option maxRecDepth 100000
set_option maxHeartbeats 4000000
/-! EvK0: sets of tuples, by any kind of key that lies in the heap. -/
namespace Ev
open PySem PySem.Spec PyProof.Rows L2
section
variable {P : Program} {w : World} {K : Type} [DecidableEq K]
/-- what a set asks of its keys beyond what a dict asks -/
structure Kn (knd : HeapKind P w K) : Prop where
  mv : ∀ {h g : Heap} {k : K} {b : Addr}, (∀ c o vs n, h.get? c = some o → o.data = .seq vs n → g.get? c = some o) → knd.is h k b → knd.is g k b
  ofA : ∀ {B : Around} {E : Value → Shared → Prop} {u : Shared} {k : K} {b : Addr} {Q : Bool → Shared → Prop}, knd.is u.heap k b → Q false u → wpAny (model P w) B (ofAClassStatement 8 (.ref b)) Q E u
  byV : ∀ {B : Around} {E : Value → Shared → Prop} {u : Shared} {k : K} {b : Addr} {Q : Bool → Shared → Prop}, knd.is u.heap k b → (∀ c, Q c u) → wpAny (model P w) B (hashByValue 8 (.ref b)) Q E u
variable {knd : HeapKind P w K} {B : Around} {E : Value → Shared → Prop} {u : Shared}
theorem Kn.but (kn : Kn knd) {h g : Heap} {k : K} {b a : Addr} {o : Obj} {es : Array (Int × Value)} {ep : Nat} {t : SetTable} (z : knd.is h k b) (oA : h.get? a = some o) (oD : o.data = .set es ep t) (sm : Heap.SameBut a h g) : knd.is g k b := by
  refine kn.mv (fun c q vs n e1 e2 => ?_) z
  have ne : c ≠ a := by
    rintro rfl
    rw [oA] at e1
    cases e1
    rw [oD] at e2
    cases e2
  rw [sm.2 c ne]; exact e1
theorem Kn.up (kn : Kn knd) {h g : Heap} {k : K} {b : Addr} (z : knd.is h k b) (kp : ∀ c o, h.get? c = some o → g.get? c = some o) : knd.is g k b := kn.mv (fun c o _ _ e _ => kp c o e) z
/-- a search among such keys shows nothing -/
theorem seenK (kn : Kn knd) {k : K} {b : Addr} {Q : Bool → Shared → Prop} (z : knd.is u.heap k b) {ys : List Value} (all : ∀ y ∈ ys, ∃ m c, y = Value.ref c ∧ knd.is u.heap m c) (q : Q false u) : wpAny (model P w) B (searchCouldBeSeen (.ref b) ys) Q E u := by
  unfold searchCouldBeSeen
  refine wpAny_bind ?_
  refine wpAny_forIn_list _ (fun rest r v => r.1 = none ∧ v = u ∧ ∀ y ∈ rest, ∃ m c, y = Value.ref c ∧ knd.is u.heap m c) _ ?_ ?_ _ _ ⟨rfl, rfl, all⟩
  · rintro y rest r v ⟨r0, rfl, al⟩
    obtain ⟨m, c, rfl, zc⟩ := al y List.mem_cons_self
    have al2 : ∀ y ∈ rest, ∃ m c, y = Value.ref c ∧ knd.is v.heap m c := fun y hy => al y (List.mem_cons_of_mem _ hy)
    dsimp only
    by_cases same : (b == c || (carriedByValue (.ref b) && carriedByValue (.ref c))) = true
    · exact wp_if_pos same (wpAny_pure ⟨rfl, rfl, al2⟩)
    · refine wp_if_neg same ?_
      refine wpAny_bind (knd.quiet z ?_)
      simp only [Bool.not_true, Bool.false_eq_true, if_false]
      refine wpAny_bind (knd.quiet zc ?_)
      simp only [Bool.not_true, Bool.false_eq_true, if_false]
      refine wpAny_bind (kn.ofA z ?_)
      simp only [Bool.false_eq_true, if_false]
      refine wpAny_bind (kn.ofA zc ?_)
      simp only [Bool.false_eq_true, if_false]
      exact wpAny_pure ⟨rfl, rfl, al2⟩
  · rintro ⟨r1, r2⟩ v ⟨r0, rfl, _⟩
    simp only at r0
    subst r0
    exact wpAny_pure q
/-- at a stands the set with just the keys of L, in the table's order -/
structure SoK (knd : HeapKind P w K) (h : Heap) (a : Addr) (L : List (Addr × K)) (es : Array (Int × Value)) (ep : Nat) (t : SetTable) : Prop where
  box : ∃ o, h.get? a = some o ∧ o.ExactSet ∧ o.data = .set es ep t
  row : es.toList = L.map fun p => (knd.hash p.2, Value.ref p.1)
  tab : TabOk t (L.map fun p => knd.hash p.2)
  one : (L.map (·.2)).Nodup
  is_ : ∀ p ∈ L, knd.is h p.2 p.1
  ld : w.params.followText "set-order" = true ∨ t.led = true
  rm : L.length * 5 < t.mask * 3
  fw : L.length < 64
variable {a : Addr} {L : List (Addr × K)} {es : Array (Int × Value)} {ep : Nat} {t : SetTable}
theorem row_size {es : Array (Int × Value)} {L : List (Addr × K)} (r : es.toList = L.map fun p => (knd.hash p.2, Value.ref p.1)) : es.size = L.length := by
  rw [← Array.length_toList, r, List.length_map]
theorem SoK.sz {h : Heap} (R : SoK knd h a L es ep t) : es.size = L.length := row_size R.row
theorem SoK.ft {h : Heap} (R : SoK knd h a L es ep t) : t.fits es.size = true := by
  have e1 := R.tab.sz
  have e2 := R.sz
  have e3 := R.rm
  rw [List.length_map] at e1
  unfold SetTable.fits SetTable.fill
  rw [R.tab.dm, Bool.and_eq_true, beq_iff_eq, decide_eq_true_eq]
  show t.place.size = es.size ∧ t.place.size + 0 ≤ t.mask
  omega
theorem SoK.ent {h : Heap} (R : SoK knd h a L es ep t) {i : Nat} {p : Addr × K} (e : L[i]? = some p) : es[i]? = some (knd.hash p.2, Value.ref p.1) := by
  rw [← Array.getElem?_toList, R.row, List.getElem?_map, e]; rfl
theorem SoK.stay {h : Heap} (R : SoK knd h a L es ep t) : ¬ t.gaveWay = true := by
  unfold SetTable.gaveWay
  rw [mask_odd R.tab.mok]
  decide
/-- the c-th step of the way of a hash -/
abbrev stK (t : SetTable) (n : Int) (c : Nat) : SetTable.Probe := nth t.mask (runAt t.mask (SetTable.bits n % (t.mask + 1)) (SetTable.bits n)) c
theorem stK_dm (t : SetTable) (n : Int) (c : Nat) : (stK t n c).dummy = none := by
  have key : ∀ (m : Nat) (p : SetTable.Probe), p.dummy = none → (nth t.mask p m).dummy = none := by
    intro m
    induction m with
    | zero => exact fun p e => e
    | succ m ih =>
      intro p e
      refine ih (adv t.mask p) ?_
      unfold adv
      split <;> exact e
  exact key c _ rfl
theorem stK_add (t : SetTable) (n : Int) (c q : Nat) : nth t.mask (stK t n c) q = stK t n (c + q) := (nth_add t.mask c _ q).symm
/-- the search, from the c-th step on -/
theorem findK (kn : Kn knd) (R : SoK knd u.heap a L es ep t) {x : Addr} {k : K} (z : knd.is u.heap k x) (rm : knd.room B) {N : Nat} (N1 : N < 10 * SetTable.turns t.mask) (N2 : way t.mask (knd.hash k) N ∉ t.place.toList) (N3 : ∀ c, c < N → way t.mask (knd.hash k) c ∈ t.place.toList)
    {Q : SetFound → Shared → Prop} (q1 : k ∈ L.map (·.2) → Q (.there none) u) (q2 : k ∉ L.map (·.2) → Q (.free (way t.mask (knd.hash k) N) false) u) :
    ∀ (f c : Nat) (st : Option SetTable.Probe), st.getD (t.probeStart (knd.hash k)) = stK t (knd.hash k) c → c ≤ N → N - c < f →
      (∀ (i : Nat) p, L[i]? = some p → p.2 = k → ∃ d, c ≤ d ∧ d < N ∧ t.place.toList[i]? = some (way t.mask (knd.hash k) d)) → wpAny (model P w) B (setSearchFrom a (.ref x) (knd.hash k) true f st) Q E u
  | 0, c, st, _, _, lt, _ => absurd lt (Nat.not_lt_zero _)
  | f + 1, c, st, e0, le, lt, ahead => by
    obtain ⟨o, oA, oX, oD⟩ := R.box
    rw [setSearchFrom_succ]
    refine wpAny_bind (wpAny_setState_of oA oD R.ft ?_)
    dsimp only
    refine wp_if_neg R.stay ?_
    try refine wpAny_bind (wpAny_pure ?_)
    have wy : ∀ m, (nth t.mask (stK t (knd.hash k) c) m).j = way t.mask (knd.hash k) (c + m) := fun m => congrArg SetTable.Probe.j (stK_add t (knd.hash k) c m)
    have back : c + (N - c) = N := by omega
    have spec := go_spec t R.tab.ris R.tab.dm (fun i => (es[i]?.map (·.1)).getD 0) (knd.hash k) (10 * SetTable.turns t.mask) (N - c) _ (stK_dm t (knd.hash k) c) (by omega)
      (fun m hm => by rw [wy]; exact N3 (c + m) (by omega)) (by rw [wy, back]; exact N2)
    have hsh : ∀ (i : Nat) p, L[i]? = some p → (fun i => (es[i]?.map (·.1)).getD 0) i = knd.hash p.2 := fun i p e => by
      show (es[i]?.map (·.1)).getD 0 = _
      rw [R.ent e]; rfl
    rcases spec with ⟨m, i, m1, m2, m3, m4, m5⟩ | ⟨m4, m5⟩
    · have pr : t.probe (fun i => (es[i]?.map (·.1)).getD 0) (knd.hash k) (st.getD (t.probeStart (knd.hash k))) = some (.candidate (way t.mask (knd.hash k) (c + m)) i (stK t (knd.hash k) (c + (m + 1)))) := by
        rw [e0, ← wy, ← stK_add]
        exact m5
      rw [pr]
      dsimp only
      rw [wy] at m2
      have il : i < L.length := by
        have e1 : i < t.place.toList.length := (List.getElem?_eq_some_iff.mp m2).1
        have e2 := R.tab.sz
        rw [List.length_map] at e2
        rw [Array.length_toList] at e1
        omega
      have ip : L[i]? = some L[i] := List.getElem?_eq_getElem il
      generalize L[i] = p at ip
      have pin : p ∈ L := List.mem_of_getElem? ip
      have zp := R.is_ p pin
      have rest : wpAny (model P w) B (searchRest a (.ref x) (knd.hash k) true f es t (way t.mask (knd.hash k) (c + m)) i (stK t (knd.hash k) (c + (m + 1)))) Q E u := by
        unfold searchRest
        rw [R.ent ip]
        dsimp only
        refine wpAny_bind (wpAny_holding (knd.eqBool rm zp z ?_))
        refine wpAny_bind (wpAny_setState_of oA oD R.ft ?_)
        dsimp only
        by_cases eq : p.2 = k
        · refine wp_if_pos (by simp [eq]) (wpAny_pure (q1 ?_))
          exact List.mem_map.mpr ⟨p, pin, eq⟩
        · refine wp_if_neg (by simp [eq]) ?_
          try refine wpAny_bind (wpAny_pure ?_)
          rw [sameMem]
          dsimp only
          have lv : t.slot (way t.mask (knd.hash k) (c + m)) = .live i := slot_live R.tab.ris m2
          simp only [if_true, lv, R.ent ip]
          refine wpAny_bind (wpAny_isSame_ref_self (wpAny_bind (wpAny_pure ?_)))
          simp only [if_true]
          refine wp_if_neg (by simp [eq]) ?_
          refine findK kn R z rm N1 N2 N3 q1 q2 f (c + (m + 1)) _ rfl (by omega) (by omega) fun i0 p0 g0 g1 => ?_
          obtain ⟨d, d1, d2, d3⟩ := ahead i0 p0 g0 g1
          refine ⟨d, ?_, d2, d3⟩
          rcases Nat.lt_trichotomy d (c + m) with lt1 | eq1 | gt1
          · exfalso
            refine m4 (d - c) i0 (by omega) (by rw [wy, show c + (d - c) = d by omega]; exact d3) ?_
            exact (hsh i0 p0 g0).trans (congrArg knd.hash g1)
          · exfalso
            rw [eq1] at d3
            have l0 := slot_live R.tab.ris d3
            rw [lv] at l0
            injection l0 with l0
            rw [← l0, ip] at g0
            exact eq ((congrArg Prod.snd (Option.some.inj g0)).trans g1)
          · omega
      by_cases lead : t.led = true
      · refine wp_if_neg (by simp [lead]) ?_
        try refine wpAny_bind (wpAny_pure ?_)
        exact rest
      · refine wp_if_pos (by simp [lead]) ?_
        refine wpAny_bind (seenK kn z (fun y yin => ?_) ?_)
        · obtain ⟨e, e1, e2⟩ := List.mem_map.mp yin
          have e3 : e ∈ es ∧ e.1 = knd.hash k := by simpa using e1
          have e4 : e ∈ es.toList := by simpa using e3.1
          rw [R.row] at e4
          obtain ⟨p2, g1, g2⟩ := List.mem_map.mp e4
          exact ⟨p2.2, p2.1, by rw [← e2, ← g2], R.is_ p2 g1⟩
        · refine wp_if_neg (by decide) ?_
          try refine wpAny_bind (wpAny_pure ?_)
          exact rest
    · have pr : t.probe (fun i => (es[i]?.map (·.1)).getD 0) (knd.hash k) (st.getD (t.probeStart (knd.hash k))) = some (.empty (way t.mask (knd.hash k) N) none) := by
        rw [wy, back] at m5
        rw [e0]
        exact m5
      rw [pr]
      dsimp only
      refine wpAny_pure (q2 fun kin => ?_)
      obtain ⟨p0, g0, g1⟩ := List.mem_map.mp kin
      obtain ⟨i0, i1, i2⟩ := List.getElem_of_mem g0
      have g2 : L[i0]? = some p0 := by rw [List.getElem?_eq_getElem i1, i2]
      obtain ⟨d, d1, d2, d3⟩ := ahead i0 p0 g2 g1
      refine m4 (d - c) i0 (by omega) (by rw [wy, show c + (d - c) = d by omega]; exact d3) ?_
      exact (hsh i0 p0 g2).trans (congrArg knd.hash g1)
theorem searchK (kn : Kn knd) (R : SoK knd u.heap a L es ep t) {x : Addr} {k : K} (z : knd.is u.heap k x) (rm : knd.room B) {Q : SetFound → Shared → Prop} (q1 : k ∈ L.map (·.2) → Q (.there none) u)
    (q2 : ∀ N, k ∉ L.map (·.2) → way t.mask (knd.hash k) N ∉ t.place.toList → (∀ c, c < N → way t.mask (knd.hash k) c ∈ t.place.toList) → Q (.free (way t.mask (knd.hash k) N) false) u) : wpAny (model P w) B (setSearch a (.ref x) (knd.hash k) true) Q E u := by
  have room := R.rm
  obtain ⟨N, N1, N2, N3⟩ := R.tab.first (by rw [List.length_map]; omega) (knd.hash k)
  have far : N < 100000 := by
    have : 10 * SetTable.turns t.mask ≤ 1420 := by
      unfold SetTable.turns
      rcases R.tab.mok with e | e | e <;> omega
    omega
  unfold setSearch
  refine findK kn R z rm N1 N2 N3 q1 (fun no => q2 N no N2 N3) 100000 0 none rfl (Nat.zero_le _) (by omega) fun i p ip pk => ?_
  have hi : (L.map fun p => knd.hash p.2)[i]? = some (knd.hash k) := by rw [List.getElem?_map, ip, ← pk]; rfl
  have il : i < t.place.toList.length := by
    have e1 : i < L.length := (List.getElem?_eq_some_iff.mp ip).1
    have e2 := R.tab.sz
    rw [List.length_map] at e2
    rw [Array.length_toList]
    omega
  obtain ⟨d, d1, d2⟩ := R.tab.before N2 hi (List.getElem?_eq_getElem il)
  exact ⟨d, Nat.zero_le _, d1, by rw [List.getElem?_eq_getElem il, d2]⟩
theorem filt_take {α : Type} (L : List α) : ∀ n, n ≤ L.length → (List.range n).filterMap (fun i => L[i]?) = L.take n := by
  intro n
  induction n with
  | zero => intro _; rfl
  | succ n ih =>
    intro le
    rw [List.range_succ, List.filterMap_append, ih (by omega), List.take_succ, List.getElem?_eq_getElem le, List.filterMap_cons_some (List.getElem?_eq_getElem le)]
    rfl
theorem reordK (L : List (Addr × K)) (es : Array (Int × Value)) (od : Array Nat) (r : es.toList = L.map fun p => (knd.hash p.2, Value.ref p.1)) (pm : od.toList.Perm (List.range L.length)) :
    ∃ M : List (Addr × K), (od.filterMap (es[·]?)).toList = M.map (fun p => (knd.hash p.2, Value.ref p.1)) ∧ M.Perm L ∧ (M.map fun p => knd.hash p.2) = od.toList.map fun i => (es.map (·.1)).getD i 0 := by
  have ent : ∀ i (il : i < L.length), es[i]? = some (knd.hash (L[i]).2, Value.ref (L[i]).1) := fun i il => by
    rw [← Array.getElem?_toList, r, List.getElem?_map, List.getElem?_eq_getElem il]; rfl
  have key : ∀ l : List Nat, (∀ i ∈ l, i < L.length) → l.filterMap (fun i => es[i]?) = (l.filterMap fun i => L[i]?).map (fun p => (knd.hash p.2, Value.ref p.1)) ∧ ((l.filterMap fun i => L[i]?).map fun p => knd.hash p.2) = l.map fun i => (es.map (·.1)).getD i 0 := by
    intro l
    induction l with
    | nil => exact fun _ => ⟨rfl, rfl⟩
    | cons i l ih =>
      intro al
      have il := al i List.mem_cons_self
      obtain ⟨e1, e2⟩ := ih fun j jl => al j (List.mem_cons_of_mem _ jl)
      have e4 : (es.map (·.1)).getD i 0 = knd.hash (L[i]).2 := by
        have e5 : (es.map (·.1))[i]? = some (knd.hash (L[i]).2) := by rw [Array.getElem?_map, ent i il]; rfl
        simp [Array.getD_eq_getD_getElem?, e5]
      refine ⟨?_, ?_⟩
      · rw [List.filterMap_cons_some (ent i il), List.filterMap_cons_some (List.getElem?_eq_getElem il), e1]; rfl
      · rw [List.filterMap_cons_some (List.getElem?_eq_getElem il), List.map_cons, List.map_cons, e2, e4]
  obtain ⟨e1, e2⟩ := key od.toList fun i il => List.mem_range.mp (pm.mem_iff.mp il)
  refine ⟨_, by first | (rw [Array.toList_filterMap]; exact e1) | simpa using e1, ?_, e2⟩
  have p1 : (od.toList.filterMap fun i => L[i]?).Perm ((List.range L.length).filterMap fun i => L[i]?) := pm.filterMap _
  rwa [filt_take L _ (Nat.le_refl _), List.take_length] at p1
/-- the table laid anew -/
theorem relayK (kn : Kn knd) {o : Obj} (oA : u.heap.get? a = some o) (oX : o.ExactSet) (oD : o.data = .set es ep t) (row : es.toList = L.map fun p => (knd.hash p.2, Value.ref p.1)) (ps : t.place.size = es.size) (dm : t.dummies = #[]) (le : es.size ≤ t.mask)
    (one : (L.map (·.2)).Nodup) (is_ : ∀ p ∈ L, knd.is u.heap p.2 p.1) (ld : w.params.followText "set-order" = true ∨ t.led = true) (fw : L.length < 64) {wanted M : Nat}
    (M1 : SetTable.sizeAbove wanted - 1 = M) (M2 : MaskOk M) (M3 : SetTable.sizeAbove wanted ≤ 128) (M4 : L.length * 5 < M * 3) {Q : Unit → Shared → Prop}
    (q : ∀ (g : Heap) (M : List (Addr × K)) (es2 : Array (Int × Value)) (ep2 : Nat) (t2 : SetTable), Heap.SameBut a u.heap g → SoK knd g a M es2 ep2 t2 → M.Perm L → Q () { u with heap := g }) : wpAny (model P w) B (setRelay a wanted) Q E u := by
  have zs : es.size = L.length := row_size row
  have ft : t.fits es.size = true := by
    unfold SetTable.fits SetTable.fill
    rw [dm, Bool.and_eq_true, beq_iff_eq, decide_eq_true_eq]
    show t.place.size = es.size ∧ t.place.size + 0 ≤ t.mask
    omega
  obtain ⟨t2, od, e1, pm, T, e2, e3, e4, e5⟩ := relaid_ok t (hs := es.map (·.1)) (wanted := wanted) M1 M2 (by rw [Array.size_map, zs]; omega)
  rw [Array.size_map, zs] at pm
  obtain ⟨N, r1, r2, r3⟩ := reordK L es od row pm
  rw [← r3] at T
  have z2 : (od.filterMap (es[·]?)).size = es.size := by
    rw [← Array.length_toList, r1, List.length_map, r2.length_eq, zs]
  rw [setRelay_eq]
  refine wpAny_bind (wpAny_setState_of oA oD ft ?_)
  dsimp only
  refine wp_if_neg (by rw [sizeLine_eq]; omega) ?_
  try refine wpAny_bind (wpAny_pure ?_)
  rw [e1]
  dsimp only
  refine wpAny_bind ?_
  refine wp_if_neg (by rw [z2]; simp) ?_
  try refine wpAny_bind (wpAny_pure ?_)
  refine wpAny_pure ?_
  dsimp only
  refine wpAny_storeSet_of oA oD ?_ (by rw [z2, zs, sizeLine_eq]; omega)
  have sm : Heap.SameBut a u.heap (u.heap.update a (Obj.putSet (od.filterMap (es[·]?)) t2)) := Heap.SameBut.update ..
  refine q _ N (od.filterMap (es[·]?)) (ep + 1) t2 sm ?_ r2
  refine ⟨⟨_, store_at oA oD, ⟨oX.1, oX.2.1, oX.2.2⟩, rfl⟩, r1, T, (r2.map (·.2)).nodup_iff.mpr one, fun p pin => kn.but (is_ p (r2.mem_iff.mp pin)) oA oD sm, by rw [e3]; exact ld, ?_, by rw [r2.length_eq]; exact fw⟩
  rw [r2.length_eq, e2]
  exact M4
/-- one key more -/
theorem addK (kn : Kn knd) (R : SoK knd u.heap a L es ep t) {x : Addr} {k : K} (z : knd.is u.heap k x) (rm : knd.room B) (few : L.length + 1 < 64) {Q : Bool → Shared → Prop}
    (q : ∀ (b : Bool) (g : Heap) (M : List (Addr × K)) (es2 : Array (Int × Value)) (ep2 : Nat) (t2 : SetTable), Heap.SameBut a u.heap g → SoK knd g a M es2 ep2 t2 → (k ∈ L.map (·.2) → M = L) → (k ∉ L.map (·.2) → M.Perm ((x, k) :: L)) → Q b { u with heap := g }) :
    wpAny (model P w) B (setAddHashed a (.ref x) (knd.hash k)) Q E u := by
  obtain ⟨o, oA, oX, oD⟩ := R.box
  have zs := R.sz
  have room := R.rm
  unfold setAddHashed
  refine wpAny_holding ?_
  rw [show (100000 : Nat) = 99999 + 1 from rfl, setAddHashedIn_succ]
  refine wpAny_bind (wpAny_setState_of oA oD R.ft ?_)
  dsimp only
  refine wp_if_neg (by simp [byScan, Value.scannable]) ?_
  try refine wpAny_bind (wpAny_pure ?_)
  refine wpAny_bind (searchK kn R z rm (fun kin => ?_) fun N kout n1 n2 => ?_)
  · dsimp only
    exact wpAny_pure (q false u.heap L es ep t (Heap.SameBut.refl a u.heap) R (fun _ => rfl) fun no => absurd kin no)
  · dsimp only
    refine wpAny_bind (wpAny_setState_of oA oD R.ft ?_)
    dsimp only
    obtain ⟨f1, f2, f3, f4, f5, f6, f7, f8, f9⟩ := R.tab.put n1 n2
    generalize t.put (way t.mask (knd.hash k) N) = tp at f1 f3 f4 f5 f6 f7 f8 f9 ⊢
    obtain ⟨t0, p⟩ := tp
    dsimp only at f1 f3 f4 f5 f6 f7 f8 f9 ⊢
    subst f1
    have tell : ∀ {S : Bool → Sem Bool} {QQ : Bool → Shared → Prop}, (∀ c, wpAny (model P w) B (S c) QQ E u) → wpAny (model P w) B (if t0.plain = true then hashByValue 8 (.ref x) >>= S else pure true >>= S) QQ E u := fun {S QQ} al => by
      by_cases pl : t0.plain = true
      · exact wp_if_pos pl (wpAny_bind (kn.byV z fun c => al c))
      · exact wp_if_neg pl (wpAny_bind (wpAny_pure (al true)))
    refine tell fun c => ?_
    have tc : ∃ t1, t1 = (if c = true then t0 else { t0 with plain := false }) := ⟨_, rfl⟩
    obtain ⟨t1, et1⟩ := tc
    rw [← et1]
    have same : t1.mask = t0.mask ∧ t1.place = t0.place ∧ t1.dummies = t0.dummies ∧ t1.led = t0.led := by
      rw [et1]; split <;> exact ⟨rfl, rfl, rfl, rfl⟩
    obtain ⟨s1, s2, s3, s4⟩ := same
    have f3' : TabOk t1 ((L.map fun p => knd.hash p.2).take (SetTable.below t.place (way t.mask (knd.hash k) N)) ++ knd.hash k :: (L.map fun p => knd.hash p.2).drop (SetTable.below t.place (way t.mask (knd.hash k) N))) := by
      rw [et1]; split
      · exact f3
      · exact ⟨f3.ris, f3.dm, f3.sz, f3.mok, f3.bd, f3.reach⟩
    have f9' : t1.fill = (L.map fun p => knd.hash p.2).length + 1 := by
      rw [← f9]; unfold SetTable.fill; rw [s2, s3]
    rw [← s1] at f4
    rw [← s4] at f5
    clear f3 f9 et1 s1 s2 s3 s4
    have f3 := f3'
    have f9 := f9'
    clear f3' f9'
    have r1 : (SetTable.insertAt es (SetTable.below t.place (way t.mask (knd.hash k) N)) (knd.hash k, Value.ref x)).toList = (L.take (SetTable.below t.place (way t.mask (knd.hash k) N)) ++ (x, k) :: L.drop (SetTable.below t.place (way t.mask (knd.hash k) N))).map fun p => (knd.hash p.2, Value.ref p.1) := by
      rw [SetTable.toList_insertAt, R.row, List.map_append, List.map_cons, List.map_take, List.map_drop]
    generalize SetTable.below t.place (way t.mask (knd.hash k) N) = p at f2 f3 r1 ⊢
    have pm := put_perm L p (x, k)
    have ln : (L.take p ++ (x, k) :: L.drop p).length = L.length + 1 := pm.length_eq
    have hm : (L.take p ++ (x, k) :: L.drop p).map (fun p => knd.hash p.2) = (L.map fun p => knd.hash p.2).take p ++ knd.hash k :: (L.map fun p => knd.hash p.2).drop p := by
      rw [List.map_append, List.map_cons, List.map_take, List.map_drop]
    rw [← hm] at f3
    have one1 : ((L.take p ++ (x, k) :: L.drop p).map (·.2)).Nodup := by
      refine (pm.map (·.2)).nodup_iff.mpr ?_
      rw [List.map_cons]
      exact List.nodup_cons.mpr ⟨kout, R.one⟩
    generalize SetTable.insertAt es p (knd.hash k, Value.ref x) = es1 at r1 ⊢
    generalize L.take p ++ (x, k) :: L.drop p = L1 at pm ln f3 one1 r1
    have z1 : es1.size = L.length + 1 := by rw [row_size r1, ln]
    refine wpAny_bind (wpAny_storeSet_of oA oD ?_ (by rw [z1, sizeLine_eq]; omega))
    have sm : Heap.SameBut a u.heap (u.heap.update a (Obj.putSet es1 t1)) := Heap.SameBut.update ..
    have oA1 := store_at (es' := es1) (t' := t1) oA oD
    generalize u.heap.update a (Obj.putSet es1 t1) = g1 at sm oA1 ⊢
    have is1 : ∀ p ∈ L1, knd.is g1 p.2 p.1 := fun p pin => by
      rcases List.mem_cons.mp (pm.mem_iff.mp pin) with e | pin
      · rw [e]; exact kn.but z oA oD sm
      · exact kn.but (R.is_ p pin) oA oD sm
    have ld1 : w.params.followText "set-order" = true ∨ t1.led = true := by rw [f5]; exact R.ld
    by_cases full : t1.tooFull = true
    · first
        | (refine wpAny_bind ?_; refine wp_if_pos (by simp [full]) ?_)
        | (refine wp_if_pos (by simp [full]) ?_; refine wpAny_bind ?_)
      have fl : (L.length + 1) * 5 ≥ t1.mask * 3 := by
        have e := full
        unfold SetTable.tooFull at e
        rw [decide_eq_true_eq, f9, List.length_map] at e
        exact e
      rw [zs]
      have ps1 : t1.place.size = es1.size := by
        have e := f3.sz
        rw [List.length_map, ln] at e
        rw [e, z1]
      have two : (t.mask = 7 ∧ L.length = 4) ∨ (t.mask = 31 ∧ L.length = 18) := by
        rcases R.tab.mok with e | e | e
        · left; rw [f4, e] at fl; rw [e] at room; exact ⟨e, by omega⟩
        · right; rw [f4, e] at fl; rw [e] at room; exact ⟨e, by omega⟩
        · exfalso; rw [f4, e] at fl; omega
      have go : ∀ M, SetTable.sizeAbove (SetTable.grown (L.length + 1)) - 1 = M → MaskOk M → SetTable.sizeAbove (SetTable.grown (L.length + 1)) ≤ 128 → (L.length + 1) * 5 < M * 3 →
          wpAny (model P w) B (setRelay a (SetTable.grown (L.length + 1))) (fun _ v => wpAny (model P w) B (pure true) Q E v) E { u with heap := g1 } := fun M m1 m2 m3 m4 => by
        refine relayK (u := { u with heap := g1 }) kn oA1 ⟨oX.1, oX.2.1, oX.2.2⟩ rfl r1 ps1 f3.dm (by rw [z1, f4]; rcases two with ⟨e, e2⟩ | ⟨e, e2⟩ <;> omega) one1 is1 ld1 (by rw [ln]; exact few) m1 m2 m3 (by rw [ln]; exact m4) ?_
        intro g2 L2 es2 ep2 t2 sm2 R2 pm2
        refine wpAny_pure (q true g2 L2 es2 ep2 t2 (sm.trans sm2) R2 (fun y => absurd y kout) fun _ => pm2.trans pm)
      rcases two with ⟨_, e2⟩ | ⟨_, e2⟩
      · refine go 31 (by rw [e2, size_20]) (.inr (.inl rfl)) (by rw [e2, size_20]; decide) (by omega)
      · refine go 127 (by rw [e2, size_76]) (.inr (.inr rfl)) (by rw [e2, size_76]; decide) (by omega)
    · first
        | refine wp_if_neg (by simp [full]) ?_
        | (refine wpAny_bind ?_; refine wp_if_neg (by simp [full]) ?_; refine wpAny_pure ?_)
      refine wpAny_pure (q true g1 L1 es1 (ep + 1) t1 sm ⟨⟨_, oA1, ⟨oX.1, oX.2.1, oX.2.2⟩, rfl⟩, r1, f3, one1, is1, ld1, ?_, by rw [ln]; exact few⟩ (fun y => absurd y kout) fun _ => pm)
      have e := full
      unfold SetTable.tooFull at e
      rw [decide_eq_true_eq, f9, List.length_map] at e
      rw [ln]
      omega
end
end Ev

set_option linter.all false
set_option autoImplicit false
set_option Elab.async false
set_option maxRecDepth 100000
set_option maxHeartbeats 4000000
/-! EvK1: nested tuples as keys of a set; set(..) of them; sorted(..) of it. -/
namespace Ev
open PySem PySem.Spec PyProof.Rows L2 PySem.W
section
variable {P : Program} {w : World}
/-! ### nested keys -/
def OfA (P : Program) (w : World) (n : Nat) (u : Shared) (v : Value) : Prop := ∀ (B : Around) (E : Value → Shared → Prop) (Q : Bool → Shared → Prop), Q false u → wpAny (model P w) B (ofAClassStatement n v) Q E u
def ByV (P : Program) (w : World) (n : Nat) (u : Shared) (v : Value) : Prop := ∀ (B : Around) (E : Value → Shared → Prop) (Q : Bool → Shared → Prop), (∀ c, Q c u) → wpAny (model P w) B (hashByValue n v) Q E u
theorem OfA.tup {n : Nat} {u : Shared} {a : Addr} {o : Obj} {vs : Array Value} {m : Nat} (ho : u.heap.get? a = some o) (hc : o.cls = .type "tuple") (hd : o.data = .seq vs m) (al : ∀ v ∈ vs.toList, OfA P w n u v) : OfA P w (n + 1) u (.ref a) := fun B E Q q => by
  have ty : u.TypeIs (.ref a) "tuple" := ⟨o, ho, hc⟩
  unfold ofAClassStatement
  refine wpAny_bind (wpAny_typeOf ty ?_)
  dsimp only
  have e : (("tuple" : String) == "tuple") = true := by decide
  simp only [e, if_true, Bool.not_true, Bool.false_eq_true, if_false]
  try refine wpAny_bind (wpAny_pure ?_)
  try simp only [Bool.not_true, Bool.false_eq_true, if_false]
  show wpAny _ _ (seqItems? (.ref a) >>= _) _ _ u
  refine wpAny_bind (wpAny_seqItems ho hd ?_)
  dsimp only
  refine wpAny_bind ?_
  show wpAny _ _ (forIn vs _ _) _ _ u
  rw [← Array.forIn_toList]
  refine wpAny_forIn_list _ (fun rest r v => r.1 = none ∧ v = u ∧ ∀ y ∈ rest, OfA P w n u y) _ ?_ ?_ _ _ ⟨rfl, rfl, al⟩
  · rintro y rest r v ⟨r0, rfl, al⟩
    refine wpAny_bind (al y List.mem_cons_self _ _ _ ?_)
    simp only [Bool.false_eq_true, if_false]
    exact wpAny_pure ⟨rfl, rfl, fun y hy => al y (List.mem_cons_of_mem _ hy)⟩
  · rintro ⟨r1, r2⟩ v ⟨r0, rfl, _⟩
    simp only at r0
    subst r0
    exact wpAny_pure q
theorem ByV.tup {n : Nat} {u : Shared} {a : Addr} {o : Obj} {vs : Array Value} {m : Nat} (ho : u.heap.get? a = some o) (hc : o.cls = .type "tuple") (hd : o.data = .seq vs m) (al : ∀ v ∈ vs.toList, ByV P w n u v) : ByV P w (n + 1) u (.ref a) := fun B E Q q => by
  have ty : u.TypeIs (.ref a) "tuple" := ⟨o, ho, hc⟩
  unfold hashByValue
  refine wpAny_bind (wpAny_specialOf ty F.slot_tuple_hash.lookup ?_)
  show wpAny _ _ (seqItems? (.ref a) >>= _) _ _ u
  refine wpAny_bind (wpAny_seqItems ho hd ?_)
  refine wpAny_bind ?_
  show wpAny _ _ (forIn vs _ _) _ _ u
  rw [← Array.forIn_toList]
  refine wpAny_forIn_list _ (fun rest r v => r.1 = none ∧ v = u ∧ ∀ y ∈ rest, ByV P w n u y) _ ?_ ?_ _ _ ⟨rfl, rfl, al⟩
  · rintro y rest r v ⟨r0, rfl, al⟩
    refine wpAny_bind (al y List.mem_cons_self _ _ _ fun c => ?_)
    cases c
    · simp only [Bool.not_false, if_true]
      exact wpAny_pure (wpAny_pure (q false))
    · simp only [Bool.not_true, Bool.false_eq_true, if_false]
      exact wpAny_pure ⟨rfl, rfl, fun y hy => al y (List.mem_cons_of_mem _ hy)⟩
  · rintro ⟨r1, r2⟩ v ⟨r0, rfl, _⟩
    simp only at r0
    subst r0
    exact wpAny_pure (q true)
theorem OfA.val {n : Nat} {u : Shared} {v : Value} (h : carriedByValue v = true) : OfA P w n u v := fun B E Q q => by
  have e : ofAClassStatement n v = pure false := by
    cases v <;> first | (simp [carriedByValue] at h; done) | (cases n <;> rfl)
  rw [e]; exact wpAny_pure q
mutual
theorem ofA_key : ∀ (k : NestedKey) (v : Value) (n : Nat) (u : Shared), NestedIs u.heap k v → k.depth ≤ n → OfA P w n u v
  | .none, _, n, u, x, _ => by cases x; exact .val rfl
  | .num i, _, n, u, x, _ => by cases x <;> exact .val rfl
  | .text y, _, n, u, x, _ => by cases x; exact .val rfl
  | .tup ks, _, n, u, x, le => by
    cases x with
    | tup h1 h2 h3 h4 =>
      simp only [NestedKey.depth] at le
      cases n with
      | zero => omega
      | succ n => exact .tup h1 h2 h3 (ofA_keys ks _ n u h4 (by omega))
theorem ofA_keys : ∀ (ks : List NestedKey) (vs : List Value) (n : Nat) (u : Shared), NestedAll u.heap ks vs → NestedKey.depthAll ks ≤ n → ∀ v ∈ vs, OfA P w n u v
  | [], _, n, u, x, _, v, hv => by cases x; cases hv
  | k :: ks, _, n, u, x, le, v, hv => by
    cases x with
    | cons x1 x2 =>
      simp only [NestedKey.depthAll] at le
      rcases List.mem_cons.mp hv with e | hv
      · rw [e]; exact ofA_key k _ n u x1 (by omega)
      · exact ofA_keys ks _ n u x2 (by omega) v hv
end
mutual
theorem byV_key : ∀ (k : NestedKey) (v : Value) (n : Nat) (u : Shared), NestedIs u.heap k v → ByV P w n u v
  | .none, _, n, u, x => by cases x; exact fun B E Q q => by (cases n <;> exact wpAny_pure (q true))
  | .num i, _, n, u, x => by cases x <;> exact fun B E Q q => by (cases n <;> exact wpAny_pure (q true))
  | .text y, _, n, u, x => by cases x; exact fun B E Q q => by (cases n <;> exact wpAny_pure (q false))
  | .tup ks, _, n, u, x => by
    cases x with
    | tup h1 h2 h3 h4 =>
      cases n with
      | zero => exact fun B E Q q => wpAny_pure (q false)
      | succ n => exact .tup h1 h2 h3 (byV_keys ks _ n u h4)
theorem byV_keys : ∀ (ks : List NestedKey) (vs : List Value) (n : Nat) (u : Shared), NestedAll u.heap ks vs → ∀ v ∈ vs, ByV P w n u v
  | [], _, n, u, x, v, hv => by cases x; cases hv
  | k :: ks, _, n, u, x, v, hv => by
    cases x with
    | cons x1 x2 =>
      rcases List.mem_cons.mp hv with e | hv
      · rw [e]; exact byV_key k _ n u x1
      · exact byV_keys ks _ n u x2 v hv
end
theorem kn_nested : Kn (nestedKind P w) where
  mv := fun al z => nestedKind_stays.stays al z
  ofA := fun z q => ofA_key _ _ 8 _ z.1 z.2 _ _ _ q
  byV := fun z q => byV_key _ _ 8 _ z.1 _ _ _ q
end
/-! ### set(..) -/
section
variable {P : Program} {w : World} {K : Type} [DecidableEq K] {knd : HeapKind P w K} {B : Around} {E : Value → Shared → Prop} {u : Shared}
/-- what the set has got of the first i things -/
structure Gt (ks : List (Addr × K)) (i : Nat) (L : List (Addr × K)) : Prop where
  sub : ∀ p ∈ L, p ∈ ks.take i
  all : ∀ p ∈ ks.take i, p.2 ∈ L.map (·.2)
  len : L.length ≤ i
theorem Gt.old {ks L : List (Addr × K)} {i : Nat} {x : Addr × K} (g : Gt ks i L) (e : ks[i]? = some x) (m : x.2 ∈ L.map (·.2)) : Gt ks (i + 1) L := by
  have tk : ks.take (i + 1) = ks.take i ++ [x] := by rw [List.take_succ, e]; rfl
  refine ⟨fun p pin => ?_, fun p pin => ?_, Nat.le_succ_of_le g.len⟩
  · rw [tk]; exact List.mem_append_left _ (g.sub p pin)
  · rw [tk] at pin
    rcases List.mem_append.mp pin with y | y
    · exact g.all p y
    · rw [List.mem_singleton.mp y]; exact m
theorem Gt.new {ks L M : List (Addr × K)} {i : Nat} {x : Addr × K} (g : Gt ks i L) (e : ks[i]? = some x) (pm : M.Perm (x :: L)) : Gt ks (i + 1) M := by
  have tk : ks.take (i + 1) = ks.take i ++ [x] := by rw [List.take_succ, e]; rfl
  refine ⟨fun p pin => ?_, fun p pin => ?_, by rw [pm.length_eq]; exact Nat.succ_le_succ g.len⟩
  · rw [tk]
    rcases List.mem_cons.mp (pm.mem_iff.mp pin) with y | y
    · rw [y]; simp
    · exact List.mem_append_left _ (g.sub p y)
  · rw [(pm.map (·.2)).mem_iff, List.map_cons]
    rw [tk] at pin
    rcases List.mem_append.mp pin with y | y
    · exact List.mem_cons_of_mem _ (g.all p y)
    · rw [List.mem_singleton.mp y]; exact List.mem_cons_self
/-- the set at a, its keys' own tuples not looked at -/
def SoB (knd : HeapKind P w K) (h : Heap) (a : Addr) (L : List (Addr × K)) : Prop := ∃ (es : Array (Int × Value)) (ep : Nat) (t : SetTable), (∃ o, h.get? a = some o ∧ o.ExactSet ∧ o.data = .set es ep t) ∧ es.toList = L.map (fun p => (knd.hash p.2, Value.ref p.1)) ∧ TabOk t (L.map fun p => knd.hash p.2) ∧ (L.map (·.2)).Nodup ∧
    (w.params.followText "set-order" = true ∨ t.led = true) ∧ L.length * 5 < t.mask * 3 ∧ L.length < 64
theorem SoK.b {h : Heap} {a : Addr} {L : List (Addr × K)} {es : Array (Int × Value)} {ep : Nat} {t : SetTable} (R : SoK knd h a L es ep t) : SoB knd h a L := ⟨es, ep, t, R.box, R.row, R.tab, R.one, R.ld, R.rm, R.fw⟩
theorem SoB.full {h : Heap} {a : Addr} {L : List (Addr × K)} (R : SoB knd h a L) (al : ∀ p ∈ L, knd.is h p.2 p.1) : ∃ es ep t, SoK knd h a L es ep t := by
  obtain ⟨es, ep, t, h1, h2, h3, h4, h6, h7, h8⟩ := R
  exact ⟨es, ep, t, h1, h2, h3, h4, al, h6, h7, h8⟩
theorem SoB.keep {h g : Heap} {a : Addr} {L : List (Addr × K)} (R : SoB knd h a L) (kp : ∀ o, h.get? a = some o → g.get? a = some o) : SoB knd g a L := by
  obtain ⟨es, ep, t, ⟨o, h1, h1'⟩, r⟩ := R
  exact ⟨es, ep, t, ⟨o, kp o h1, h1'⟩, r⟩
theorem fresh_so {h : Heap} {a : Addr} (ho : h.get? a = some { cls := .type "set", dict := none, data := .set #[] 0 (.fresh 0 0 (!w.params.followText "set-order")) }) : SoK knd h a [] #[] 0 (.fresh 0 0 (!w.params.followText "set-order")) where
  box := ⟨_, ho, ⟨rfl, rfl, rfl⟩, rfl⟩
  row := rfl
  tab := ⟨List.Pairwise.nil, rfl, rfl, .inl rfl, fun x hx => (by cases hx), fun i h j hi => (by simp at hi)⟩
  one := List.nodup_nil
  is_ := fun p hp => (by cases hp)
  ld := by
    show _ ∨ (!w.params.followText "set-order") = true
    cases w.params.followText "set-order"
    · exact .inr rfl
    · exact .inl rfl
  rm := by show 0 * 5 < 7 * 3; decide
  fw := by show 0 < 64; decide
/-- set.update's loop, over things that are such keys -/
theorem loopK (kn : Kn knd) {I : Addr} {fp wr : List Addr} {G : Array GenState → Array GenState → Prop} {n : Nat} {Pv : Nat → Value → Prop} {St : Nat → Shared → Prop} {R : Result → Shared → Prop}
    (wk : WalksS P w B.in1 I fp wr G n Pv St) (a : Addr) (na : a ∉ fp) (ks : List (Addr × K)) (nk : n = ks.length) (fw : ks.length < 64) (pv : ∀ i v, Pv i v → ∃ p, ks[i]? = some p ∧ v = .ref p.1)
    (h0 : Heap) (isk : ∀ p ∈ ks, knd.is h0 p.2 p.1) (a0 : h0.get? a = none) (wr0 : ∀ b ∈ wr, h0.get? b = none) (rm : knd.room B.in1) :
    ∀ (m i : Nat) (v : Shared), n - i = m → i ≤ n → St i v → (∀ b o, h0.get? b = some o → v.heap.get? b = some o) → (∃ L, SoB knd v.heap a L ∧ Gt ks i L) →
      (∀ v' L, Moved (a :: wr) G v v' → SoB knd v'.heap a L → Gt ks n L → (∀ b o, h0.get? b = some o → v'.heap.get? b = some o) → R (.ok (.ret .none)) v') →
      codeAny (model P w) B (.builtin "set.update.loop" ⟨[.ref a, .ref I], []⟩) R v := by
  have naw : a ∉ wr := fun z => na (wk.sub _ z)
  have up : ∀ b ∈ wr, b ∈ a :: wr := fun b z => List.mem_cons_of_mem _ z
  have stay : ∀ {v v' : Shared}, Moved wr G v v' → (∀ b o, h0.get? b = some o → v.heap.get? b = some o) → ∀ b o, h0.get? b = some o → v'.heap.get? b = some o := fun mv kp b o e => mv.heap b o (fun z => by rw [wr0 b z] at e; cases e) (kp b o e)
  intro m
  induction m with
  | zero =>
    intro i v em le st kp ⟨L, S, g⟩ q
    obtain rfl : i = n := by omega
    refine codeAny_builtin F.entry_set_update_loop ?_
    rw [Around.under_plainId F.plain_set_update_loop _]
    show wpAny _ B.in1 (pyNext (.ref I) >>= _) _ _ v
    refine wpAny_bind (wk.done v _ _ st fun v1 mv => ?_)
    show wpAny _ B.in1 (ret Value.none) _ _ v1
    exact wpAny_pure (q v1 L (mv.mono up) (S.keep fun o e => mv.heap a o naw e) g (stay mv kp))
  | succ m ih =>
    intro i v em le st kp ⟨L, S, g⟩ q
    have lt : i < n := by omega
    refine codeAny_builtin F.entry_set_update_loop ?_
    rw [Around.under_plainId F.plain_set_update_loop _]
    show wpAny _ B.in1 (pyNext (.ref I) >>= _) _ _ v
    refine wpAny_bind (wk.item i v _ _ lt st fun y v1 hy st1 mv => ?_)
    obtain ⟨p, ep, rfl⟩ := pv i y hy
    have kp1 := stay mv kp
    have isk1 : ∀ p ∈ ks, knd.is v1.heap p.2 p.1 := fun p pin => kn.up (isk p pin) kp1
    obtain ⟨es, e0, t, S1⟩ := (S.keep (g := v1.heap) fun o e => mv.heap a o naw e).full fun r rin => isk1 r (List.mem_of_mem_take (g.sub r rin))
    have z : knd.is v1.heap p.2 p.1 := isk1 p (List.mem_of_getElem? ep)
    show wpAny _ B.in1 (holding [Value.ref p.1] (setAdd a (.ref p.1)) >>= _) _ _ v1
    refine wpAny_bind (wpAny_holding ?_)
    unfold setAdd
    refine wpAny_holding ?_
    refine wpAny_bind (knd.pyHash rm z ?_)
    refine addK (u := { v1 with toks := v1.toks + knd.draws p.2 }) kn S1 z rm (by have := g.len; omega) fun b h2 L2 es2 ep2 t2 sm S2 c1 c2 => ?_
    have g2 : Gt ks (i + 1) L2 := by
      by_cases c : p.2 ∈ L.map (·.2)
      · rw [c1 c]; exact g.old ep c
      · exact g.new ep (c2 c)
    have kp2 : ∀ b o, h0.get? b = some o → h2.get? b = some o := fun b o e => (sm.2 b fun y => by rw [y, a0] at e; cases e).trans (kp1 b o e)
    refine wpAny_pure ⟨plainId_quiet F.plain_set_update_loop _, ih (i + 1) _ (by omega) lt (wk.frame _ v1 _ _ st1 (Nat.le_add_right _ _) fun b hb o e => ?_) kp2 ⟨L2, S2.b, g2⟩ fun v3 L3 mv3 S3 g3 kp3 => ?_⟩
    · rw [sm.2 b fun y => na (by rw [← y]; exact hb)]; exact e
    · refine q v3 L3 (Moved.trans wk.gtrans ((mv.mono up).then_heap (Nat.le_add_right _ _) fun b o hb e => ?_) mv3) S3 g3 kp3
      rw [sm.2 b fun y => hb (by rw [y]; exact List.mem_cons_self)]; exact e
end
end Ev

set_option linter.all false
set_option autoImplicit false
set_option Elab.async false
set_option maxRecDepth 100000
set_option maxHeartbeats 8000000
/-! EvK2: set(x), sorted of a set. -/
namespace Ev
open PySem PySem.Spec PyProof.Rows L2 PySem.W
section
variable {P : Program} {w : World} {K : Type} [DecidableEq K] {knd : HeapKind P w K} {B : Around} {E : Value → Shared → Prop} {u : Shared}
theorem refs_at {items : Array Value} {ks : List (Addr × K)} (e : items.toList = ks.map fun p => Value.ref p.1) (i : Nat) (v : Value) (hv : items[i]? = some v) : ∃ p, ks[i]? = some p ∧ v = .ref p.1 := by
  rw [← Array.getElem?_toList, e, List.getElem?_map] at hv
  cases q : ks[i]? with
  | none => rw [q] at hv; cases hv
  | some p => rw [q] at hv; exact ⟨p, rfl, (Option.some.inj hv).symm⟩
/-- set(x), x a list of keys -/
theorem setK_list (kn : Kn knd) {l : Addr} {items : Array Value} (ks : List (Addr × K)) {Q : Value → Shared → Prop} (nh : B.handled = none) (isl : u.heap.IsList l items) (eit : items.toList = ks.map fun p => Value.ref p.1) (isk : ∀ p ∈ ks, knd.is u.heap p.2 p.1) (few : ks.length < 64)
    (rm : knd.room B.in1.in1.in1) (q : ∀ (g : Heap) (tk : Nat) (L : List (Addr × K)), SoB knd g u.heap.objs.size L → Gt ks ks.length L → (∀ b o, u.heap.get? b = some o → g.get? b = some o) → Q (.ref u.heap.objs.size) { u with heap := g, toks := tk }) :
    wpAny (model P w) B (call (.type "set") [.ref l]) Q E u := by
  have zi : items.size = ks.length := by rw [← Array.length_toList, eit, List.length_map]
  refine set_gen (Rr := fun g => ∃ L : List (Addr × K), SoB knd g u.heap.objs.size L ∧ Gt ks ks.length L ∧ ∀ b o, u.heap.get? b = some o → g.get? b = some o) ?_ fun g tk ⟨L, h1, h2, h3⟩ => q g tk L h1 h2 h3
  have atS : (u.heap.push (newSet0 w)).get? u.heap.objs.size = some (newSet0 w) := Heap.get?_push_size u.heap rfl
  obtain ⟨ot, hot, hct, nt, hdt⟩ := isl
  obtain ⟨tcls, tdict, tdata, tslots⟩ := ot
  simp only at hct hdt
  subst hct hdt
  have atT : (u.heap.push (newSet0 w)).get? l = some { cls := .type "list", dict := tdict, data := .seq items nt, slots := tslots } := Heap.get?_push_of_some _ hot
  have isT : (u.heap.push (newSet0 w)).IsList l items := ⟨_, atT, rfl, nt, rfl⟩
  refine upd_from (T := "list") ⟨_, atT, rfl⟩ F.sub_list_set F.sub_list_frozenset (by decide) (wpAny_pyIter_list isT ?_)
  have ltT : l < u.heap.objs.size := Heap.lt_size hot
  have sz : (u.heap.push (newSet0 w)).objs.size = u.heap.objs.size + 1 := Heap.size_push _ _
  have ne1 : l ≠ (u.heap.push (newSet0 w)).objs.size := by rw [sz]; exact Nat.ne_of_lt (Nat.lt_succ_of_lt ltT)
  have nin : u.heap.objs.size ∉ [(u.heap.push (newSet0 w)).objs.size, l] := by
    rw [sz]
    simp only [List.mem_cons, List.not_mem_nil, or_false, not_or]
    exact ⟨Nat.ne_of_lt (Nat.lt_succ_self _), Nat.ne_of_gt ltT⟩
  refine loopK kn ((Walks.list (by simp [nh]) _ l ne1 items).toS) u.heap.objs.size nin ks zi few (refs_at eit) u.heap isk (none_past (Nat.le_refl _)) (fun b hb => none_past (by rw [List.mem_singleton.mp hb, sz]; exact Nat.le_succ _)) rm
    (items.size - 0) 0 _ (by omega) (Nat.zero_le _) ⟨⟨_, Heap.get?_push_size _ rfl, rfl, rfl⟩, isT.at fun ob e => Heap.get?_push_of_some _ e⟩ (fun b o e => Heap.get?_push_of_some _ (Heap.get?_push_of_some _ e)) ?g0 ?g1
  case g0 =>
    have at2 : ((u.heap.push (newSet0 w)).push { cls := .type "list_iterator", data := .fields #[.ref l, .int 0 0] }).get? u.heap.objs.size = some (newSet0 w) := Heap.get?_push_of_some _ atS
    exact ⟨[], (fresh_so at2).b, ⟨fun p hp => (by cases hp), fun p hp => (by simp at hp), Nat.le_refl _⟩⟩
  case g1 =>
    intro v2 L mv S2 g2 kp
    obtain ⟨h2, gs2, d2, t2, o2⟩ := v2
    obtain rfl : gs2 = u.gens := mv.gens
    obtain rfl : d2 = u.drawn := mv.drawn
    obtain rfl : o2 = u.os := mv.os
    exact ⟨h2, t2, rfl, L, S2, by rw [← zi]; exact g2, kp⟩
/-- set(x), x a tuple of keys -/
theorem setK_tuple (kn : Kn knd) {l : Addr} {items : Array Value} (ks : List (Addr × K)) {Q : Value → Shared → Prop} (nh : B.handled = none) (isl : u.heap.IsTuple l items) (eit : items.toList = ks.map fun p => Value.ref p.1) (isk : ∀ p ∈ ks, knd.is u.heap p.2 p.1) (few : ks.length < 64)
    (rm : knd.room B.in1.in1.in1) (q : ∀ (g : Heap) (tk : Nat) (L : List (Addr × K)), SoB knd g u.heap.objs.size L → Gt ks ks.length L → (∀ b o, u.heap.get? b = some o → g.get? b = some o) → Q (.ref u.heap.objs.size) { u with heap := g, toks := tk }) :
    wpAny (model P w) B (call (.type "set") [.ref l]) Q E u := by
  have zi : items.size = ks.length := by rw [← Array.length_toList, eit, List.length_map]
  refine set_gen (Rr := fun g => ∃ L : List (Addr × K), SoB knd g u.heap.objs.size L ∧ Gt ks ks.length L ∧ ∀ b o, u.heap.get? b = some o → g.get? b = some o) ?_ fun g tk ⟨L, h1, h2, h3⟩ => q g tk L h1 h2 h3
  have atS : (u.heap.push (newSet0 w)).get? u.heap.objs.size = some (newSet0 w) := Heap.get?_push_size u.heap rfl
  obtain ⟨ot, hot, hct, nt, hdt⟩ := isl
  obtain ⟨tcls, tdict, tdata, tslots⟩ := ot
  simp only at hct hdt
  subst hct hdt
  have atT : (u.heap.push (newSet0 w)).get? l = some { cls := .type "tuple", dict := tdict, data := .seq items nt, slots := tslots } := Heap.get?_push_of_some _ hot
  have isT : (u.heap.push (newSet0 w)).IsTuple l items := ⟨_, atT, rfl, nt, rfl⟩
  refine upd_from (T := "tuple") ⟨_, atT, rfl⟩ F.sub_tuple_set F.sub_tuple_frozenset (by decide) (wpAny_pyIter_tuple isT ?_)
  have ltT : l < u.heap.objs.size := Heap.lt_size hot
  have sz : (u.heap.push (newSet0 w)).objs.size = u.heap.objs.size + 1 := Heap.size_push _ _
  have ne1 : l ≠ (u.heap.push (newSet0 w)).objs.size := by rw [sz]; exact Nat.ne_of_lt (Nat.lt_succ_of_lt ltT)
  have nin : u.heap.objs.size ∉ [(u.heap.push (newSet0 w)).objs.size, l] := by
    rw [sz]
    simp only [List.mem_cons, List.not_mem_nil, or_false, not_or]
    exact ⟨Nat.ne_of_lt (Nat.lt_succ_self _), Nat.ne_of_gt ltT⟩
  refine loopK kn ((Walks.tuple (by simp [nh]) _ l ne1 items).toS) u.heap.objs.size nin ks zi few (refs_at eit) u.heap isk (none_past (Nat.le_refl _)) (fun b hb => none_past (by rw [List.mem_singleton.mp hb, sz]; exact Nat.le_succ _)) rm
    (items.size - 0) 0 _ (by omega) (Nat.zero_le _) ⟨⟨_, Heap.get?_push_size _ rfl, rfl, rfl⟩, isT.at fun ob e => Heap.get?_push_of_some _ e⟩ (fun b o e => Heap.get?_push_of_some _ (Heap.get?_push_of_some _ e)) ?g0 ?g1
  case g0 =>
    have at2 : ((u.heap.push (newSet0 w)).push { cls := .type "tuple_iterator", data := .fields #[.ref l, .int 0 0] }).get? u.heap.objs.size = some (newSet0 w) := Heap.get?_push_of_some _ atS
    exact ⟨[], (fresh_so at2).b, ⟨fun p hp => (by cases hp), fun p hp => (by simp at hp), Nat.le_refl _⟩⟩
  case g1 =>
    intro v2 L mv S2 g2 kp
    obtain ⟨h2, gs2, d2, t2, o2⟩ := v2
    obtain rfl : gs2 = u.gens := mv.gens
    obtain rfl : d2 = u.drawn := mv.drawn
    obtain rfl : o2 = u.os := mv.os
    exact ⟨h2, t2, rfl, L, S2, by rw [← zi]; exact g2, kp⟩
end
/-! ### data as keys -/
mutual
theorem nk_inj : ∀ d e : D, D.kok d = true → D.kok e = true → nkD d = nkD e → d = e
  | .int i, e, _, h2, h => by cases e <;> simp [nkD, D.kok] at h h2; rw [h]
  | .str s, e, _, h2, h => by cases e <;> simp [nkD, D.kok] at h h2; rw [chS_inj h]
  | .tup xs, e, h1, h2, h => by
    cases e <;> simp [nkD, D.kok] at h h1 h2
    rw [nk_injL _ _ h1 h2 h]
  | .non, e, _, h2, h => by cases e <;> simp [nkD, D.kok] at h h2; rfl
  | .bl b, _, h1, _, _ => by simp [D.kok] at h1
  | .lst b, _, h1, _, _ => by simp [D.kok] at h1
  | .dk _ _, _, h1, _, _ => by simp [D.kok] at h1
  | .scr b, _, h1, _, _ => by simp [D.kok] at h1
  | .rp b, _, h1, _, _ => by simp [D.kok] at h1
theorem nk_injL : ∀ ds es : List D, D.kokL ds = true → D.kokL es = true → nkL ds = nkL es → ds = es
  | [], es, _, _, h => by cases es <;> simp [nkL] at h; rfl
  | d :: ds, es, h1, h2, h => by
    cases es with
    | nil => simp [nkL] at h
    | cons e es =>
      simp only [nkL, List.cons.injEq] at h
      simp only [D.kokL, Bool.and_eq_true] at h1 h2
      rw [nk_inj d e h1.1 h2.1 h.1, nk_injL ds es h1.2 h2.2 h.2]
end
mutual
theorem nk_dep : ∀ (d : D) (n : Nat), D.shp d n = true → (nkD d).depth ≤ n
  | .int i, n, _ => Nat.zero_le _
  | .str s, n, _ => Nat.zero_le _
  | .tup xs, n, h => by
    cases n with
    | zero => simp [D.shp] at h
    | succ n =>
      simp only [nkD, NestedKey.depth]
      exact Nat.succ_le_succ (nk_depL xs n (by simpa only [D.shp] using h))
  | .non, _, _ => Nat.zero_le _
  | .bl b, _, _ => Nat.zero_le _
  | .lst b, _, _ => Nat.zero_le _
  | .dk _ _, _, _ => Nat.zero_le _
  | .scr b, _, _ => Nat.zero_le _
  | .rp b, _, _ => Nat.zero_le _
theorem nk_depL : ∀ (ds : List D) (n : Nat), D.shpL ds n = true → NestedKey.depthAll (nkL ds) ≤ n
  | [], _, _ => Nat.zero_le _
  | d :: ds, n, h => by
    simp only [D.shpL, Bool.and_eq_true] at h
    simp only [nkL, NestedKey.depthAll]
    exact Nat.max_le.mpr ⟨nk_dep d n h.1, nk_depL ds n h.2⟩
end
mutual
theorem reads_none {h : Heap} : ∀ (d : D) (v : Value) (as : List Addr), D.kok d = true → Reads h v (pyD d) as → as = []
  | .int i, _, _, _, r => by simp only [pyD] at r; cases r; rfl
  | .str s, _, _, _, r => by simp only [pyD] at r; cases r; rfl
  | .non, _, _, _, r => by simp only [pyD] at r; cases r; rfl
  | .tup xs, _, _, k, r => by
    simp only [pyD] at r
    cases r with
    | tuple _ _ _ ra => exact reads_noneL xs _ _ (by simpa only [D.kok] using k) ra
  | .bl b, _, _, k, _ => by simp [D.kok] at k
  | .lst b, _, _, k, _ => by simp [D.kok] at k
  | .dk _ _, _, _, k, _ => by simp [D.kok] at k
  | .scr b, _, _, k, _ => by simp [D.kok] at k
  | .rp b, _, _, k, _ => by simp [D.kok] at k
theorem reads_noneL {h : Heap} : ∀ (ds : List D) (vs : List Value) (as : List Addr), D.kokL ds = true → ReadsAll h vs (pyL ds) as → as = []
  | [], _, _, _, r => by simp only [pyL] at r; cases r; rfl
  | d :: ds, _, _, k, r => by
    simp only [pyL] at r
    simp only [D.kokL, Bool.and_eq_true] at k
    cases r with
    | cons r1 r2 => rw [reads_none d _ _ k.1 r1, reads_noneL ds _ _ k.2 r2]; rfl
end
section
variable {X : Cx} {Fz : Addr → Prop}
mutual
theorem nk_is {pins : List (Addr × Obj)} {s : Shared} {σ : L2.St} {H : Hp} (I : L2.Inv X pins σ H s) : ∀ (d : D) (x : V) (v : Value), D.kok d = true → Rep (kwX X) Fz H d x → RelV x v → NestedIs s.heap (nkD d) v
  | .non, x, v, _, r, e => by simp only [Rep] at r; subst r; cases e; exact .none
  | .int i, x, v, _, r, e => by simp only [Rep] at r; subst r; obtain ⟨t, rfl⟩ := e; exact .int i t
  | .str i, x, v, _, r, e => by simp only [Rep] at r; subst r; obtain ⟨t, rfl⟩ := e; exact .text _ t
  | .tup ds, x, v, k, r, e => by
    simp only [Rep] at r
    obtain ⟨a, vs, rfl, q, r⟩ := r
    cases e
    obtain ⟨its, rv, ⟨o, ho, hc, n, hd⟩, _⟩ := I.tuple q.t
    exact .tup ho hc hd (by simpa using nk_isL I ds vs its (by simpa only [D.kok] using k) r rv)
  | .bl b, _, _, k, _, _ => by simp [D.kok] at k
  | .lst b, _, _, k, _, _ => by simp [D.kok] at k
  | .dk _ _, _, _, k, _, _ => by simp [D.kok] at k
  | .scr b, _, _, k, _, _ => by simp [D.kok] at k
  | .rp b, _, _, k, _, _ => by simp [D.kok] at k
theorem nk_isL {pins : List (Addr × Obj)} {s : Shared} {σ : L2.St} {H : Hp} (I : L2.Inv X pins σ H s) : ∀ (ds : List D) (xs : List V) (vs : List Value), D.kokL ds = true → RepL (kwX X) Fz H ds xs → Vals xs vs → NestedAll s.heap (nkL ds) vs
  | [], xs, vs, _, r, e => by rw [repL_nil.mp r] at e; cases e; exact .nil
  | d :: ds, xs, vs, k, r, e => by
    simp only [RepL] at r
    obtain ⟨x, xs', rfl, r1, r2⟩ := r
    simp only [D.kokL, Bool.and_eq_true] at k
    cases e with
    | cons e1 e2 => exact .cons (nk_is I d x _ k.1 r1 e1) (nk_isL I ds xs' _ k.2 r2 e2)
end
end
end Ev

set_option linter.all false
set_option autoImplicit false
set_option Elab.async false
set_option maxRecDepth 100000
set_option maxHeartbeats 4000000
/-! EvK3: sorted(set(x)), x a tuple or list of tuples of one shape. -/
namespace Ev
open PySem PySem.Spec PyProof.Rows L2 PySem.W
theorem D.beq_self' : ∀ (x : D), D.beq x x = true := by
  have key : (∀ x : D, D.beq x x = true) := fun x => by
    induction x using D.rec (motive_2 := fun xs => D.beqL xs xs = true) with
    | _ => first | (simp_all [D.beq, D.beqL]; done) | skip
  exact key
theorem dedup_mem {x : D} : ∀ {l : List D}, x ∈ dedup l ↔ x ∈ l
  | [] => Iff.rfl
  | y :: r => by
    simp only [dedup]
    split
    · rename_i h
      obtain ⟨z, z1, z2⟩ := List.any_eq_true.mp h
      have e := D.beq_eq _ _ z2
      subst e
      rw [dedup_mem, List.mem_cons]
      exact ⟨.inr, fun q => q.elim (fun q => by rw [q]; exact dedup_mem.mp z1) id⟩
    · rw [List.mem_cons, List.mem_cons, dedup_mem]
theorem dedup_nodup : ∀ {l : List D}, (dedup l).Nodup
  | [] => List.nodup_nil
  | y :: r => by
    simp only [dedup]
    split
    · exact dedup_nodup
    · rename_i h
      refine List.nodup_cons.mpr ⟨fun z => h (List.any_eq_true.mpr ⟨y, z, D.beq_self' y⟩), dedup_nodup⟩
theorem mapK_erase {α β : Type} (f : α → β) : ∀ (l : List α) (i : Nat), (l.map f).eraseIdx i = (l.eraseIdx i).map f
  | [], _ => rfl
  | x :: l, 0 => rfl
  | x :: l, i + 1 => by simp [mapK_erase f l i]
theorem nkL_map : ∀ ds : List D, nkL ds = ds.map nkD
  | [] => rfl
  | d :: ds => by simp only [nkL, List.map_cons, nkL_map ds]
theorem kokL_all : ∀ {ds : List D}, D.kokL ds = true → ∀ d ∈ ds, D.kok d = true
  | [], _, _, h => nomatch h
  | d :: ds, k, x, h => by
    simp only [D.kokL, Bool.and_eq_true] at k
    rcases List.mem_cons.mp h with rfl | h
    · exact k.1
    · exact kokL_all k.2 x h
theorem kokL_of : ∀ {ds : List D}, (∀ d ∈ ds, D.kok d = true) → D.kokL ds = true
  | [], _ => rfl
  | d :: ds, h => by
    simp only [D.kokL, Bool.and_eq_true]
    exact ⟨h d List.mem_cons_self, kokL_of fun e q => h e (List.mem_cons_of_mem _ q)⟩
theorem shpK_all : ∀ {ds : List D} {n : Nat}, D.shpL ds n = true → ∀ d ∈ ds, D.shp d n = true
  | [], _, _, _, h => nomatch h
  | d :: ds, n, k, x, h => by
    simp only [D.shpL, Bool.and_eq_true] at k
    rcases List.mem_cons.mp h with rfl | h
    · exact k.1
    · exact shpK_all k.2 x h
section
variable {X : Cx} {Fz : Addr → Prop}
/-- a set as a thing of the abstract heap -/
def SoO (P : Program) (w : World) (a : Addr) (L : List (Addr × NestedKey)) : HO := .ext fun h => SoB (nestedKind P w) h a L
theorem soO_new {P : Program} {w : World} {H : Hp} {h : Heap} {a : Addr} {L : List (Addr × NestedKey)} (R : SoB (nestedKind P w) h a L) : ObjOk P w H h a (SoO P w a L) := by
  refine ⟨R, ?_, fun h1 h2 p k => SoB.keep p k⟩
  obtain ⟨es, ep, t, ⟨o, ho, _⟩, _⟩ := R
  exact ⟨o, ho⟩
/-- each thing's address and key -/
theorem keys_of {K : KW} {H : Hp} : ∀ {ds : List D} {vs : List V}, (∀ d ∈ ds, neTup d = true) → RepL K Fz H ds vs → ∃ ks : List (Addr × NestedKey), vs = ks.map (fun p => V.ref p.1) ∧ ks.map (·.2) = ds.map nkD ∧ ∀ p ∈ ks, ∃ d ∈ ds, Rep K Fz H d (.ref p.1) ∧ nkD d = p.2
  | [], vs, _, r => ⟨[], by rw [repL_nil.mp r]; rfl, rfl, fun _ h => nomatch h⟩
  | d :: ds, vs, t, r => by
    simp only [RepL] at r
    obtain ⟨v, vs', rfl, r1, r2⟩ := r
    obtain ⟨ks, e1, e2, e3⟩ := keys_of (fun x hx => t x (List.mem_cons_of_mem _ hx)) r2
    have td := t d List.mem_cons_self
    cases d <;> simp [neTup] at td
    rename_i l
    have r1' := r1
    simp only [Rep] at r1'
    obtain ⟨a, ws, rfl, _⟩ := r1'
    refine ⟨(a, nkD (.tup l)) :: ks, by rw [e1]; rfl, by rw [List.map_cons, List.map_cons, e2], fun p hp => ?_⟩
    rcases List.mem_cons.mp hp with rfl | hp
    · exact ⟨.tup l, List.mem_cons_self, r1, rfl⟩
    · obtain ⟨x, x1, x2⟩ := e3 p hp
      exact ⟨x, List.mem_cons_of_mem _ x1, x2⟩
theorem data_of {K : KW} {H : Hp} {ds : List D} : ∀ {L : List (Addr × NestedKey)}, (∀ p ∈ L, ∃ d ∈ ds, Rep K Fz H d (.ref p.1) ∧ nkD d = p.2) → ∃ M : List D, RepL K Fz H M (L.map fun p => V.ref p.1) ∧ M.map nkD = L.map (·.2) ∧ ∀ d ∈ M, d ∈ ds
  | [], _ => ⟨[], repL_nil.mpr rfl, rfl, fun _ h => nomatch h⟩
  | p :: L, h => by
    obtain ⟨d, d1, d2, d3⟩ := h p List.mem_cons_self
    obtain ⟨M, m1, m2, m3⟩ := data_of fun q hq => h q (List.mem_cons_of_mem _ hq)
    exact ⟨d :: M, repL_cons.mpr ⟨d2, m1⟩, by rw [List.map_cons, List.map_cons, d3, m2], fun x hx => (List.mem_cons.mp hx).elim (fun e => e ▸ d1) (m3 x)⟩
/-- set(x) -/
def rSetK (K : KW) (P : Program) (w : World) (Fz : Addr → Prop) : List V → Hp → VK → Prop := fun xs H Q => ∃ (l : Addr) (vs : List V) (ds : List D), xs = [.ref l] ∧ (SqT K.f H l vs ∨ SqL K.f H l vs) ∧ RepL K Fz H ds vs ∧ (∀ d ∈ ds, neTup d = true) ∧ D.kokL ds = true ∧ D.shpL ds 8 = true ∧ ds.length < 64 ∧
  ∀ a L M, H a = none → RepL K Fz H M (L.map fun p => V.ref p.1) → M.map nkD = L.map (·.2) → M.Perm (dedup ds) → Q (.ref a) (upd H a (SoO P w a L))
theorem cr_setK (hc : X.calm = true) (hu : X.A.units + 64 < cLine) : CallR X (.type "set") (rSetK (kwX X) X.prog X.w Fz) := by
  intro pins s σ H xs us Q I r h
  obtain ⟨l, vs, ds, rfl, hl, ra, nt, ko, sh, few, q⟩ := h
  rw [Vals.ref1 r]
  obtain ⟨ks, e1, e2, e3⟩ := keys_of nt ra
  have lk : ks.length = ds.length := by have := congrArg List.length e2; simpa using this
  have isk : ∀ p ∈ ks, (nestedKind X.prog X.w).is s.heap p.2 p.1 := fun p hp => by
    obtain ⟨d, d1, d2, d3⟩ := e3 p hp
    rw [← d3]
    exact ⟨nk_is I d _ _ (kokL_all ko d d1) d2 rfl, nk_dep d 8 (shpK_all sh d d1)⟩
  have hn : H s.heap.objs.size = none := I.hok.fresh (Nat.le_refl _)
  have rm : (nestedKind X.prog X.w).room X.A.in1.in1.in1 := by
    show X.A.in1.in1.in1.units + 8 < cLine
    simp only [Around.in1_units]
    omega
  have refs : ∀ {its : List Value}, Vals vs its → its = ks.map fun p => Value.ref p.1 := fun {its} rv => by
    rw [e1] at rv
    have key : ∀ (ks : List (Addr × NestedKey)) (its : List Value), Vals (ks.map fun p => V.ref p.1) its → its = ks.map fun p => Value.ref p.1 := by
      intro ks
      induction ks with
      | nil => intro its rv; cases rv; rfl
      | cons p ks ih =>
        intro its rv
        cases rv with
        | cons a b => cases a; rw [ih _ b]; rfl
    exact key ks its rv
  have fin : ∀ (g : Heap) (tk : Nat) (L : List (Addr × NestedKey)), SoB (nestedKind X.prog X.w) g s.heap.objs.size L → Gt ks ks.length L → (∀ b o, s.heap.get? b = some o → g.get? b = some o) → EP X pins σ Q (.ref s.heap.objs.size) { s with heap := g, toks := tk } := fun g tk L S G k => by
    have sub : ∀ p ∈ L, p ∈ ks := fun p hp => List.mem_of_mem_take (G.sub p hp)
    obtain ⟨M, m1, m2, m3⟩ := data_of (K := (kwX X)) (Fz := Fz) (H := H) (ds := ds) fun p hp => e3 p (sub p hp)
    refine ⟨.ref s.heap.objs.size, upd H s.heap.objs.size (SoO X.prog X.w s.heap.objs.size L), I.laid (t' := tk) k (Nat.le_refl _) (soO_new S), rfl, q _ L M hn m1 m2 ?_⟩
    have nd : (M.map nkD).Nodup := by
      obtain ⟨es, ep, t, _, _, _, one, _⟩ := S
      rw [m2]; exact one
    have nm : M.Nodup := List.Pairwise.of_map nkD (fun _ _ ne e => ne (congrArg nkD e)) nd
    refine (List.perm_ext_iff_of_nodup nm dedup_nodup).mpr fun d => ?_
    rw [dedup_mem]
    refine ⟨m3 d, fun hd => ?_⟩
    have : nkD d ∈ ks.map (·.2) := by rw [e2]; exact List.mem_map.mpr ⟨d, hd, rfl⟩
    obtain ⟨p, p1, p2⟩ := List.mem_map.mp this
    have z := G.all p (by rw [List.take_length]; exact p1)
    rw [← m2] at z
    obtain ⟨e, x1, x2⟩ := List.mem_map.mp z
    have : e = d := nk_inj e d (kokL_all ko e (m3 e x1)) (kokL_all ko d hd) (x2.trans p2)
    rw [← this]; exact x1
  rcases hl with hl | hl
  · obtain ⟨its, rv, pt, hz⟩ := I.tuple hl
    exact setK_tuple kn_nested ks (I.ok.hd hc) (show s.heap.IsTuple l its.toArray from pt) (by simpa using refs rv) isk (by omega) rm fin
  · obtain ⟨its, rv, pl, hz⟩ := I.list hl
    exact setK_list kn_nested ks (I.ok.hd hc) pl.isList (by simpa using refs rv) isk (by omega) rm fin
/-- sorted of a set -/
def rSrtK (K : KW) (P : Program) (w : World) (Fz : Addr → Prop) : List V → Hp → VK → Prop := fun xs H Q => ∃ (a : Addr) (L : List (Addr × NestedKey)) (M ds : List D), xs = [.ref a] ∧ H a = some (SoO P w a L) ∧ RepL K Fz H M (L.map fun p => V.ref p.1) ∧ M.map nkD = L.map (·.2) ∧ M.Perm (dedup ds) ∧ ssOk ds = true ∧ Res K Fz H (.new (isortB gLt (dedup ds))) Q
theorem uniqG {l m : List D} (h : ∀ x ∈ l, ∀ y ∈ l, D.alk x y = true) (p : l.Perm m) : isortB gLt l = isortB gLt m := by
  have hm : ∀ x ∈ m, ∀ y ∈ m, D.alk x y = true := fun x hx y hy => h x (p.mem_iff.mpr hx) y (p.mem_iff.mpr hy)
  refine uniq_srt (le := leZ) (fun x hx y hy e1 e2 => ?_) (isortZ_perm.trans (p.trans isortZ_perm.symm)) (isortZ_srt h) (isortZ_srt hm)
  have a := h x (isortZ_perm.mem_iff.mp hx) y (isortZ_perm.mem_iff.mp hy)
  rw [leZ_eq, Bool.not_eq_true'] at e1 e2
  cases q : PyData.eqv (pyD x) (pyD y) with
  | true => exact alk_eq x y a q
  | false =>
    have := dl_total (alk_py x y a) q e2
    rw [e1] at this
    cases this
theorem cr_srtK (hc : X.calm = true) (hu : X.A.units + 64 < cLine) : CallR X (.builtin "sorted") (rSrtK (kwX X) X.prog X.w Fz) := by
  intro pins s σ H xs us Q I r h
  obtain ⟨a, L, M, ds, rfl, ha, m1, m2, pm, ok, q⟩ := h
  rw [Vals.ref1 r]
  unfold ssOk sortable2 at ok
  simp only [Bool.and_eq_true, List.all_eq_true, decide_eq_true_eq] at ok
  obtain ⟨⟨⟨ko, ⟨al, nt⟩, sh60⟩, sh8⟩, few⟩ := ok
  have inM : ∀ d ∈ M, d ∈ ds := fun d hd => dedup_mem.mp (pm.mem_iff.mp hd)
  have S : SoB (nestedKind X.prog X.w) s.heap a L := (I.hok a _ ha).1
  obtain ⟨es, ep, t, ⟨o, ho, hx, hd⟩, row, tab, one, ld, rm, fw⟩ := S
  have lM : M.length = L.length := by have := congrArg List.length m2; simpa using this
  have zs : es.size = L.length := row_size row
  have ft : t.fits es.size = true := by
    have e1 := tab.sz
    rw [List.length_map] at e1
    unfold SetTable.fits SetTable.fill
    rw [tab.dm, Bool.and_eq_true, beq_iff_eq, decide_eq_true_eq]
    show t.place.size = es.size ∧ t.place.size + 0 ≤ t.mask
    omega
  refine Calls.call_function_entry kind_sorted plain_sorted entry_sorted (args_sorted1 _) ?_
  unfold Builtin.«sorted»
  refine wpAny_bind (m := checkCount "sorted" 1 1 _) (wpAny_pure ?_)
  refine wpAny_bind (collect_set (A := X.A.in1) (I.ok.hd hc) ⟨o, ho, hx.1, hd⟩ ft (by unfold scanBound; omega) tab.ris ld fun s1 vs k1 hz g1 o1 pv => ?_)
  have ev : es.toList.map (·.2) = L.map fun p => Value.ref p.1 := by rw [row, List.map_map]; rfl
  rw [ev] at pv
  -- the data behind the values, in their order
  have fnd : ∀ (vs : List Value) (L : List (Addr × NestedKey)) (M : List D), vs.Perm (L.map fun p => Value.ref p.1) → RepL (kwX X) Fz H M (L.map fun p => V.ref p.1) → ∃ N : List D, N.Perm M ∧ EachIs (StF (kwX X) Fz H) vs N := by
    intro vs
    induction vs with
    | nil =>
      intro L M p r
      have e : L = [] := by have := p.length_eq; cases L <;> simp at this; rfl
      subst e
      have : M = [] := by cases M with
        | nil => rfl
        | cons d M => simp [RepL] at r
      subst this
      exact ⟨[], List.Perm.refl _, .nil⟩
    | cons v vs ih =>
      intro L M p r
      have hv : v ∈ L.map fun p => Value.ref p.1 := p.mem_iff.mp List.mem_cons_self
      obtain ⟨i, hi, e⟩ := List.getElem_of_mem hv
      have il : i < L.length := by simpa using hi
      have lm : M.length = L.length := by have := r.len; simpa using this.symm
      have im : i < M.length := by omega
      have ev : v = Value.ref (L[i]).1 := by rw [← e]; simp
      have pl : vs.Perm ((L.eraseIdx i).map fun p => Value.ref p.1) := by
        refine List.Perm.cons_inv (a := v) (p.trans ?_)
        rw [← mapK_erase]
        have := erase_perm (L.map fun p => Value.ref p.1) i v (by rw [← e]; exact List.getElem?_eq_getElem hi)
        exact this.symm
      obtain ⟨x, x1, x2⟩ := r.get (i := i) (d := M[i]) (List.getElem?_eq_getElem im)
      have ex : x = V.ref (L[i]).1 := by
        rw [List.getElem?_map, List.getElem?_eq_getElem il] at x1
        exact (Option.some.inj x1).symm
      subst ex
      have r' : RepL (kwX X) Fz H (M.eraseIdx i) ((L.eraseIdx i).map fun p => V.ref p.1) := by
        rw [← mapK_erase]; exact r.eraseIdx i
      obtain ⟨N, n1, n2⟩ := ih (L.eraseIdx i) (M.eraseIdx i) pl r'
      refine ⟨M[i] :: N, (n1.cons _).trans (erase_perm M i _ (List.getElem?_eq_getElem im)), .cons ⟨_, by rw [ev]; rfl, x2⟩ n2⟩
  obtain ⟨N, n1, n2⟩ := fnd vs L M pv m1
  have inN : ∀ d ∈ N, d ∈ ds := fun d hd => inM d (n1.mem_iff.mp hd)
  have alN : ∀ x ∈ N, ∀ y ∈ N, D.alk x y = true := fun x hx y hy => al x (inN x hx) y (inN y hy)
  have lv : vs.length = L.length := by rw [pv.length_eq, List.length_map]
  have lN : N.length = vs.length := n2.length.symm
  refine wpAny_bind (wpAny_newList ?_ (by rw [sizeLine_eq]; omega))
  have atL : (s1.heap.push (seqObj "list" vs.toArray 0)).get? s1.heap.objs.size = some (seqObj "list" vs.toArray 0) := Heap.get?_push_size _ rfl
  have k2 : ∀ b o, s.heap.get? b = some o → (s1.heap.push (seqObj "list" vs.toArray 0)).get? b = some o := fun b o e => Heap.get?_push_of_some _ (k1 b o e)
  refine wpAny_bind (wpAny_holding (list_sort_data (s := { s1 with heap := s1.heap.push (seqObj "list" vs.toArray 0) }) (R := StF (kwX X) Fz H) (enc := pyD) (bs := N) atL n2 (each_in n2 fun v d hd hst => ?_) ?_ ?_ (by rw [sizeLine_eq]; omega) (fun d hd => ?_) fun out lo eo => ?_))
  · obtain ⟨x, hx, hr⟩ := hst
    obtain ⟨as, ra⟩ := Dp.reads I (pyD d) x v (dp_of d x 60 (sh60 d (inN d hd)) hr) hx
    have : as = [] := reads_none d v as (kokL_all ko d (inN d hd)) ra
    subst this
    exact ⟨[], PyProof.Rows.Reads.keeps k2 ra, by simp⟩
  · intro d hd d' hd'
    obtain ⟨x, hx, rfl⟩ := List.mem_map.mp hd
    obtain ⟨y, hy, rfl⟩ := List.mem_map.mp hd'
    exact alk_py x y (alN x hx y hy)
  · refine .inl fun d hd => ?_
    obtain ⟨x, hx, rfl⟩ := List.mem_map.mp hd
    have := nt x (inN x hx)
    cases x <;> simp [neTup] at this
    rename_i l
    cases l with
    | nil => simp [neTup] at this
    | cons y l => exact ⟨pyD y, pyL l, by simp only [pyD, pyL]⟩
  · have := (py_lay d 8 (shpK_all sh8 d (inN d hd))).2
    simp only [Around.in1_units]
    omega
  · rw [← sort_eq alN, uniqG alN (n1.trans pm)] at eo
    obtain ⟨ws, b1, b2⟩ := each_back eo
    obtain ⟨c, hc2⟩ := sortedHeap_at (vs := vs) (out := List.toArray out) atL
    have hwl : ws.length ≤ sizeLine := by
      rw [b1.len, ← eo.length, lo, lN, lv, sizeLine_eq]
      omega
    have hn : H s1.heap.objs.size = none := I.hok.fresh hz
    have kk : ∀ b o, s.heap.get? b = some o → (sortedHeap (s1.heap.push (seqObj "list" vs.toArray 0)) s1.heap.objs.size vs (List.toArray out)).get? b = some o := fun b o e => by
      have lt := Heap.lt_size (k1 b o e)
      rw [sortedHeap_old (Nat.ne_of_lt lt) (by rw [size_push']; exact Nat.lt_succ_of_lt lt)]
      exact k2 b o e
    have J : Inv X pins σ (upd H s1.heap.objs.size (.lst ws)) { s with heap := sortedHeap (s1.heap.push (seqObj "list" vs.toArray 0)) s1.heap.objs.size vs (List.toArray out), gens := s1.gens, drawn := s1.drawn, toks := s1.toks } :=
      I.call (ch := []) (Un.laid kk hz hn) (I.hok.laid kk hz ⟨hwl, out, c, b2, hc2⟩) (by rw [g1]; exact I.bare) (fun _ z => nomatch z)
    have es1 : ({ s1 with heap := sortedHeap (s1.heap.push (seqObj "list" vs.toArray 0)) s1.heap.objs.size vs (List.toArray out) } : Shared) = { s with heap := sortedHeap (s1.heap.push (seqObj "list" vs.toArray 0)) s1.heap.objs.size vs (List.toArray out), gens := s1.gens, drawn := s1.drawn, toks := s1.toks } := by
      cases s1
      cases s
      cases o1
      rfl
    refine wpAny_pure ⟨_, rfl, ?_⟩
    show EP X pins σ Q _ { s1 with heap := sortedHeap (s1.heap.push (seqObj "list" vs.toArray 0)) s1.heap.objs.size vs (List.toArray out) }
    rw [es1]
    exact ⟨.ref s1.heap.objs.size, _, J, rfl, q.lst (vs := ws) b1 hn⟩
end
section
variable {X : Cx} {g : Gc} {C : Cfg} {pr : Pr} {lv : Nat} {N : List Str} {se : Se}
theorem s_sset (G : Good pr lv N se X) {a : E} {q : PySem.Expr} {pf p2 p3 pos : Pos} (hK : g.K = (kwX X)) (hb : bltB pr se "sorted" = true) (hs : bltB pr se "set" = true) (hq : nst q = true) (ha : PE X q (tR g (evE C a))) :
    PE X (.Call (.Name "sorted" pf) [.Call (.Name "set" p2) [q] [] p3] [] pos) (tR g (evE C (.sset a))) := by
  obtain ⟨gK, gHe, gFz0, gmp, gnp⟩ := g
  obtain rfl : gK = (kwX X) := hK
  have hc := G.calm
  have hu := G.room.units
  refine PE.to (callB G hb (CallR.ex fun Fz => cr_srtK (Fz := Fz) hc hu) PyProof.Rows.boot_sorted (by simp) (by rfl) (pa_cons (callT G hs (CallR.ex fun Fz => cr_setK (Fz := Fz) hc hu) PyProof.Rows.boot_set (by simp) (by simp only [plainL, List.all_cons, List.all_nil, hq, Bool.and_true]) (pa_cons ha pa_nil (nst_star hq _ _))) pa_nil (nst_star (by rfl) _ _))) fun σ H Q ⟨sd, Fz, o, sd', S, e, k⟩ => ?_
  simp only [evE, Option.bind_eq_some_iff, Option.map_eq_some_iff] at e
  obtain ⟨x, ex, d, ed, r, er, e⟩ := e
  cases e
  refine ⟨sd, Fz, x.1, x.2, S, ex, fun v H1 Fz1 S1 E1 r1 => ?_⟩
  have both : ∃ ds : List D, ssOk ds = true ∧ o = Opd.new (isortB gLt (dedup ds)) ∧ ∃ (b : Addr) (vs : List V), v = .ref b ∧ (SqT X.K H1 b vs ∨ SqL X.K H1 b vs) ∧ RepL (kwX X) Fz1 H1 ds vs := by
    cases d <;> simp only [ssetD] at er <;> try (cases er; done)
    · obtain ⟨ok, rfl⟩ := opt_if er
      obtain ⟨b, vs, rfl, hb2, rl⟩ := (force_rep S1 r1 ed).tup
      exact ⟨_, ok, rfl, b, vs, rfl, .inl hb2.t, rl⟩
    · obtain ⟨ok, rfl⟩ := opt_if er
      obtain ⟨b, vs, rfl, hb2, rl⟩ := (force_rep S1 r1 ed).lst
      exact ⟨_, ok, rfl, b, vs, rfl, .inr (SqL.of hb2), rl⟩
  obtain ⟨ds, ok, rfl, b, vs, rfl, hb2, rl⟩ := both
  have ok' := ok
  unfold ssOk sortable2 at ok'
  simp only [Bool.and_eq_true, List.all_eq_true, decide_eq_true_eq] at ok'
  obtain ⟨⟨⟨ko, ⟨al, nt⟩, sh60⟩, sh8⟩, few⟩ := ok'
  refine ⟨Fz1, b, vs, ds, rfl, hb2, rl, nt, ko, sh8, few, fun p L M hp m1 m2 pm => ?_⟩
  have gr : Grow H1 (upd H1 p (SoO X.prog X.w p L)) := Grow.upd hp
  refine ⟨Fz1, p, L, M, ds, rfl, upd_same, RepL.keep gr.keep (fun _ z => z) _ _ m1, m2, pm, ok, Res.fin (S1.grow gr) (E1.trans gr.ext) k⟩
end
end Ev

set_option linter.all false
set_option autoImplicit false
set_option Elab.async false
set_option maxRecDepth 100000
set_option maxHeartbeats 4000000
/-! EvI: the evaluator tells of every expression what the model does. -/
namespace Ev
open PySem PySem.Spec L2
/-- no not, and, or, if, comparison -/
def nbo : PySem.Expr → Bool
  | .UnaryOp .Not _ _ => false
  | .BoolOp _ _ _ => false
  | .IfExp _ _ _ _ => false
  | .Compare _ _ _ _ => false
  | _ => true
theorem nbo_true {p : PySem.Expr} (h : nbo p = true) (env : Env) (whole : Sem Value) : isTrue p env whole = (do let v ← whole; standAt p.pos; holding [v] (truthy v)) := by
  cases p <;> first
    | rfl
    | (simp [nbo] at h; done)
    | (rename_i op _ _; cases op <;> first | rfl | (simp [nbo] at h))
theorem PT.boolOp {X : Cx} {op : PySem.BoolOp} {vs : List PySem.Expr} {pos : Pos} {t : TT} (h : PT X (.BoolOp op vs pos) t) : PW X (.BoolOp op vs pos) t := ⟨fun whole pins s σ H Q I q => h.run pins s σ H Q I q⟩
section
variable {g : Gc} {pr : Pr} {lv np fu : Nat} {N : List Str}
theorem st_val {X : Cx} {C : Cfg} {e : E} {p : PySem.Expr} (hp : nbo p = true) (h : PE X p (tR g (evE C e))) : PT X p (tRT g (evT C e)) :=
  PT.to (pt_val h fun w => nbo_true hp _ w) fun σ H Q q => tB_of q
theorem both {X : Cx} {C : Cfg} {e : E} {p : PySem.Expr} (hp : nbo p = true) (h : PE X p (tR g (evE C e))) : PE X p (tR g (evE C e)) ∧ PT X p (tRT g (evT C e)) := ⟨h, st_val hp h⟩
theorem and3 {a b c : Bool} (h : (a && b && c) = true) : a = true ∧ b = true ∧ c = true := by
  obtain ⟨h, h3⟩ := and2 h
  obtain ⟨h1, h2⟩ := and2 h
  exact ⟨h1, h2, h3⟩
theorem and4 {a b c d : Bool} (h : (a && b && c && d) = true) : a = true ∧ b = true ∧ c = true ∧ d = true := by
  obtain ⟨h, h4⟩ := and2 h
  obtain ⟨h1, h2, h3⟩ := and3 h
  exact ⟨h1, h2, h3, h4⟩
mutual
theorem sET (hn : g.np = np) : ∀ (e : E) {se : Se} {X : Cx} {p : PySem.Expr}, Good pr lv N se X → g.K = (kwX X) → mE pr N se e p = true → PE X p (tR g (evE (cfg pr lv np fu) e)) ∧ PT X p (tRT g (evT (cfg pr lv np fu) e))
  | .nm i, se, X, p, G, hK, h => by
    simp only [mE] at h
    split at h
    · rename_i x hx
      obtain ⟨pos, rfl⟩ := asName_ok hx
      exact both rfl (s_nm (G.var h pos))
    · cases h
  | .mn i, se, X, p, G, hK, h => by
    simp only [mE] at h
    split at h
    · rename_i x hx
      obtain ⟨pos, rfl⟩ := asName_ok hx
      exact both rfl (s_mn (G.var h pos))
    · cases h
  | .fz i, se, X, p, G, hK, h => by
    simp only [mE] at h
    split at h
    · rename_i x hx
      obtain ⟨pos, rfl⟩ := asName_ok hx
      exact both rfl (s_fz hn (G.var h pos))
    · cases h
  | .cst d, se, X, p, G, hK, h => by
    simp only [mE] at h
    split at h
    · rename_i x hx
      obtain ⟨k, pos, rfl⟩ := asConst_ok hx
      exact both rfl (s_cst h)
    · cases h
  | .glo i, se, X, p, G, hK, h => by
    simp only [mE] at h
    split at h
    · rename_i x hx
      obtain ⟨pos, rfl⟩ := asName_ok hx
      obtain ⟨h1, h2, h3, h4⟩ := and4 h
      have h1 := of_decide_eq_true h1
      subst h1
      exact both rfl (s_glo (x := pr.gn i) hK rfl G h3 h4 (by simpa using h2))
    · cases h
  | .bin o a b, se, X, p, G, hK, h => by
    simp only [mE] at h
    split at h
    · rename_i x hx
      obtain ⟨pos, rfl⟩ := asBin_ok hx
      obtain ⟨h1, h2, h3⟩ := and3 h
      rw [of_decide_eq_true h1]
      exact both rfl (s_bin o hK (sET hn a G hK h2).1 (sET hn b G hK h3).1)
    · cases h
  | .neg a, se, X, p, G, hK, h => by
    simp only [mE] at h
    split at h
    · rename_i x hx
      obtain ⟨pos, rfl⟩ := asNeg_ok hx
      exact both rfl (s_neg (sET hn a G hK h).1)
    · cases h
  | .cmp o a b, se, X, p, G, hK, h => by
    simp only [mE] at h
    split at h
    · rename_i x hx
      obtain ⟨pos, rfl⟩ := asCmp1_ok hx
      obtain ⟨h1, h2, h3, h4⟩ := and4 h
      rw [of_decide_eq_true h1]
      exact ⟨s_cmp o hK G.room.units h4 (sET hn a G hK h2).1 (sET hn b G hK h3).1, st_cmp o hK G.room.units h4 (sET hn a G hK h2).1 (sET hn b G hK h3).1⟩
    · cases h
  | .chn o o' a b c, se, X, p, G, hK, h => by
    simp only [mE] at h
    split at h
    · rename_i x hx
      obtain ⟨pos, rfl⟩ := asCmp2_ok hx
      obtain ⟨h, h6⟩ := and2 h
      obtain ⟨h, h5⟩ := and2 h
      obtain ⟨h1, h2, h3, h4⟩ := and4 h
      rw [of_decide_eq_true h1, of_decide_eq_true h2]
      exact ⟨s_chn o o' hK G.room.units h6 (sET hn a G hK h3).1 (sET hn b G hK h4).1 (sET hn c G hK h5).1, st_chn o o' hK G.room.units h6 (sET hn a G hK h3).1 (sET hn b G hK h4).1 (sET hn c G hK h5).1⟩
    · cases h
  | .and a b, se, X, p, G, hK, h => by
    simp only [mE] at h
    split at h
    · rename_i x hx
      have e := asBoolOp_ok hx
      obtain ⟨op, y, z, r, pos⟩ := x
      subst e
      obtain ⟨h1, h2, h3⟩ := and3 h
      have h1 := of_decide_eq_true h1
      subst h1
      have ih := sET hn b G hK h3
      refine ⟨s_and (sET hn a G hK h2).1 ?_, (st_and (sET hn a G hK h2).2 ?_).pt⟩
      · cases r with
        | nil => exact pe_one ih.1
        | cons q r => exact ih.1
      · cases r with
        | nil => exact pw_and1 ih.2
        | cons q r => exact PT.boolOp ih.2
    · cases h
  | .or a b, se, X, p, G, hK, h => by
    simp only [mE] at h
    split at h
    · rename_i x hx
      have e := asBoolOp_ok hx
      obtain ⟨op, y, z, r, pos⟩ := x
      subst e
      obtain ⟨h1, h2, h3⟩ := and3 h
      have h1 := of_decide_eq_true h1
      subst h1
      have ih := sET hn b G hK h3
      refine ⟨s_or (sET hn a G hK h2).1 ?_, (st_or (sET hn a G hK h2).2 ?_).pt⟩
      · cases r with
        | nil => exact pe_one ih.1
        | cons q r => exact ih.1
      · cases r with
        | nil => exact pw_or1 ih.2
        | cons q r => exact PT.boolOp ih.2
    · cases h
  | .not a, se, X, p, G, hK, h => by
    simp only [mE] at h
    split at h
    · rename_i x hx
      obtain ⟨pos, rfl⟩ := asNot_ok hx
      exact ⟨s_not (sET hn a G hK h).1, st_not (sET hn a G hK h).2⟩
    · cases h
  | .ite c a b, se, X, p, G, hK, h => by
    simp only [mE] at h
    split at h
    · rename_i x hx
      obtain ⟨pos, rfl⟩ := asIf_ok hx
      obtain ⟨h1, h2, h3⟩ := and3 h
      exact ⟨s_ite (sET hn c G hK h1).2 (sET hn a G hK h2).1 (sET hn b G hK h3).1, st_ite (sET hn c G hK h1).2 (sET hn a G hK h2).2 (sET hn b G hK h3).2⟩
    · cases h
  | .tup es, se, X, p, G, hK, h => by
    simp only [mE] at h
    split at h
    · rename_i x hx
      obtain ⟨k, pos, rfl⟩ := asTup_ok hx
      obtain ⟨h1, h2⟩ := and2 h
      exact both rfl (s_tup hK (of_decide_eq_true h2) h1 (sEs hn es G hK h1))
    · cases h
  | .lst es, se, X, p, G, hK, h => by
    simp only [mE] at h
    split at h
    · rename_i x hx
      obtain ⟨pos, rfl⟩ := asLst_ok hx
      obtain ⟨h1, h2⟩ := and2 h
      exact both rfl (s_lst (of_decide_eq_true h2) h1 (sEs hn es G hK h1))
    · cases h
  | .dct0, se, X, p, G, hK, h => by
    simp only [mE] at h
    unfold isDct0 at h
    split at h
    · exact both rfl s_dct0
    · cases h
  | .dct es, se, X, p, G, hK, h => by
    simp only [mE] at h
    split at h
    · rename_i ks vs hx
      obtain ⟨pos, e⟩ := asDct_ok hx
      simp only at e
      subst e
      split at h
      · rename_i l hl
        obtain ⟨h1, h2, h3⟩ := and3 h
        exact both rfl (s_dct hl h1 (of_decide_eq_true h2) (of_decide_eq_true h3) (sKv hn es G hK hl h1))
      · cases h
    · cases h
  | .rpne _ _, se, X, p, G, hK, h => by simp [mE] at h
  | .any, se, X, p, G, hK, h => by
    have no : ∀ m : SD → Option (Opd × SD), (∀ sd, m sd = none) → ∀ σ H Q, ¬ tR g m σ H Q := fun m hm σ H Q ⟨sd, Fz, o, sd', S, e, k⟩ => by rw [hm] at e; cases e
    have no2 : ∀ m : SD → Option (Bool × SD), (∀ sd, m sd = none) → ∀ σ H Q, ¬ tRT g m σ H Q := fun m hm σ H Q ⟨sd, Fz, o, sd', S, e, k⟩ => by rw [hm] at e; cases e
    exact ⟨⟨fun pins s σ H Q I q => (no _ (fun sd => by simp [evE]) σ H Q q).elim⟩, ⟨fun pins s σ H Q I q => (no2 _ (fun sd => by simp [evT, evE]) σ H Q q).elim⟩⟩
  | .lset a, se, X, p, G, hK, h => by
    simp only [mE] at h
    split at h
    · rename_i f x hx
      obtain ⟨p2, pos, rfl⟩ := asCall_ok hx
      split at h
      · rename_i f' y hy
        have e := asCall_ok hy
        obtain ⟨p3, pos3, e⟩ := e
        simp only at e
        subst e
        obtain ⟨h, h6⟩ := and2 h
        obtain ⟨h, h5⟩ := and2 h
        obtain ⟨h1, h2, h3, h4⟩ := and4 h
        have h1 := of_decide_eq_true h1
        have h2 := of_decide_eq_true h2
        subst h1 h2
        exact both rfl (s_lset G hK h3 h4 h6 (sET hn a G hK h5).1)
      · cases h
    · cases h
  | .sset a, se, X, p, G, hK, h => by
    simp only [mE] at h
    split at h
    · rename_i f x hx
      obtain ⟨p2, pos, rfl⟩ := asCall_ok hx
      split at h
      · rename_i f' y hy
        have e := asCall_ok hy
        obtain ⟨p3, pos3, e⟩ := e
        simp only at e
        subst e
        obtain ⟨h, h6⟩ := and2 h
        obtain ⟨h, h5⟩ := and2 h
        obtain ⟨h1, h2, h3, h4⟩ := and4 h
        have h1 := of_decide_eq_true h1
        have h2 := of_decide_eq_true h2
        subst h1 h2
        exact both rfl (s_sset G hK h3 h4 h6 (sET hn a G hK h5).1)
      · cases h
    · cases h
  | .ix a i, se, X, p, G, hK, h => by
    simp only [mE] at h
    split at h
    · rename_i x hx
      obtain ⟨pos, rfl⟩ := asSub_ok hx
      obtain ⟨h1, h2, h3⟩ := and3 h
      exact both rfl (s_ix hK G.room.units h3 (sET hn a G hK h1).1 (sET hn i G hK h2).1)
    · cases h
  | .sl a lo hi, se, X, p, G, hK, h => by
    simp only [mE] at h
    split at h
    · rename_i x hx
      obtain ⟨p2, pos, rfl⟩ := asSlc_ok hx
      obtain ⟨h1, h2, h3⟩ := and3 h
      exact both rfl (s_sl hK (sET hn a G hK h1).1 (sEo hn lo G hK h2) (sEo hn hi G hK h3))
    · cases h
  | .rv a, se, X, p, G, hK, h => by
    simp only [mE] at h
    split at h
    · rename_i x hx
      obtain ⟨k, p1, p2, p3, pos, rfl⟩ := asRv_ok hx
      exact both rfl (s_rv hK (sET hn a G hK h).1)
    · cases h
  | .isi a t, se, X, p, G, hK, h => by
    simp only [mE] at h
    split at h
    · rename_i f x y hx
      obtain ⟨p2, pos, rfl⟩ := asCall_ok hx
      obtain ⟨h, h6⟩ := and2 h
      obtain ⟨h, h5⟩ := and2 h
      obtain ⟨h1, h2, h3, h4⟩ := and4 h
      have h1 := of_decide_eq_true h1
      subst h1
      obtain ⟨py, hy⟩ := asName_ok (of_decide_eq_true h4)
      subst hy
      exact both rfl (s_isi G hK h2 h5 h6 (sET hn a G hK h3).1)
    · cases h
  | .isi2 a t u, se, X, p, G, hK, h => by
    simp only [mE] at h
    split at h
    · rename_i f x y hx
      split at h
      · rename_i y1 y2 hy
        obtain ⟨p2, pos, rfl⟩ := asCall_ok hx
        obtain ⟨j, tpos, rfl⟩ := asTup_ok hy
        obtain ⟨h, h8⟩ := and2 h
        obtain ⟨h, h7⟩ := and2 h
        obtain ⟨h, h6⟩ := and2 h
        obtain ⟨h, h5⟩ := and2 h
        obtain ⟨h1, h2, h3, h4⟩ := and4 h
        have h1 := of_decide_eq_true h1
        subst h1
        obtain ⟨py, hy1⟩ := asName_ok (of_decide_eq_true h4)
        obtain ⟨pz, hy2⟩ := asName_ok (of_decide_eq_true h6)
        subst hy1 hy2
        exact both rfl (s_isi2 G hK h2 h5 h7 h8 (sET hn a G hK h3).1)
      · cases h
    · cases h
  | .bi f es, se, X, p, G, hK, h => by
    simp only [mE] at h
    split at h
    · rename_i x hx
      have e := asCall_ok hx
      obtain ⟨f', ps⟩ := x
      obtain ⟨p2, pos, e⟩ := e
      subst e
      obtain ⟨h, h5⟩ := and2 h
      obtain ⟨h1, h2, h3, h4⟩ := and4 h
      have h1 := of_decide_eq_true h1
      subst h1
      exact both rfl (s_bi G hK h2 h3 (of_decide_eq_true h5) h4 (sEs hn es G hK h4))
    · cases h
  | .lrng es, se, X, p, G, hK, h => by
    simp only [mE] at h
    split at h
    · rename_i f x hx
      obtain ⟨p2, pos, rfl⟩ := asCall_ok hx
      split at h
      · rename_i f' ps hy
        have e := asCall_ok hy
        obtain ⟨p3, pos3, e⟩ := e
        simp only at e
        subst e
        obtain ⟨h, h7⟩ := and2 h
        obtain ⟨h, h6⟩ := and2 h
        obtain ⟨h, h5⟩ := and2 h
        obtain ⟨h1, h2, h3, h4⟩ := and4 h
        have h1 := of_decide_eq_true h1
        have h3 := of_decide_eq_true h3
        subst h1 h3
        exact both rfl (s_lrng G hK h4 h2 h5 (of_decide_eq_true h6) h7 (sEs hn es G hK h5))
      · cases h
    · cases h
  | .call f es, se, X, p, G, hK, h => by
    simp only [mE] at h
    split at h
    · rename_i x hx
      have e := asCall_ok hx
      obtain ⟨f', ps⟩ := x
      obtain ⟨p2, pos, e⟩ := e
      subst e
      obtain ⟨h, h7⟩ := and2 h
      obtain ⟨h, h6⟩ := and2 h
      obtain ⟨h, h5⟩ := and2 h
      obtain ⟨h1, h2, h3, h4⟩ := and4 h
      have h1 := of_decide_eq_true h1
      subst h1
      exact both rfl (s_call G hK h2 h3 h4 (of_decide_eq_true h5) (of_decide_eq_true h6) h7 (sEs hn es G hK h4))
    · cases h
  | .callN f e, se, X, p, G, hK, h => by
    simp only [mE] at h
    split at h
    · rename_i f' q hx
      obtain ⟨p2, pos, rfl⟩ := asCall_ok hx
      obtain ⟨h, h7⟩ := and2 h
      obtain ⟨h, h6⟩ := and2 h
      obtain ⟨h, h5⟩ := and2 h
      obtain ⟨h1, h2, h3, h4⟩ := and4 h
      have h1 := of_decide_eq_true h1
      subst h1
      exact both rfl (s_callN G hK h2 h3 h5 (of_decide_eq_true h6) h7 (sET hn e G hK h4).1)
    · cases h
  | .mth m o es, se, X, p, G, hK, h => by
    simp only [mE] at h
    split at h
    · rename_i x hx
      have e := asMth_ok hx
      obtain ⟨q, f', ps⟩ := x
      obtain ⟨apos, pos, hl, e⟩ := e
      subst e
      obtain ⟨h, h7⟩ := and2 h
      obtain ⟨h, h6⟩ := and2 h
      obtain ⟨h, h5⟩ := and2 h
      obtain ⟨h1, h2, h3, h4⟩ := and4 h
      have h1 := of_decide_eq_true h1
      subst h1
      exact both rfl (s_mth G.room.units hK h2 h3 hl (of_decide_eq_true h6) (of_decide_eq_true h7) h5 (sET hn o G hK h4).1 (sEs hn es G hK h5))
    · cases h
  | .eff m i es, se, X, p, G, hK, h => by
    simp only [mE] at h
    split at h
    · rename_i x hx
      have e := asMth_ok hx
      obtain ⟨q, f', ps⟩ := x
      obtain ⟨apos, pos, hl, e⟩ := e
      subst e
      obtain ⟨h1, h2, h3, h4⟩ := and4 h
      have h1 := of_decide_eq_true h1
      subst h1
      split at h2
      · rename_i y hy
        obtain ⟨py, hy⟩ := asName_ok hy
        subst hy
        exact both rfl (s_eff G.room.units hK (G.var h2 py) hl h3 (of_decide_eq_true h4) (sEs hn es G hK h3))
      · cases h2
    · cases h
  | .comp elt tg it cs own, se, X, p, G, hK, h => by
    simp only [mE] at h
    split at h
    · rename_i x hx
      have e := asComp_ok hx
      obtain ⟨pe, pt, pi, ifs, sc⟩ := x
      obtain ⟨pos, e⟩ := e
      subst e
      split at h
      · rename_i on hon
        obtain ⟨h, h8⟩ := and2 h
        obtain ⟨h, h7⟩ := and2 h
        obtain ⟨h, h6⟩ := and2 h
        obtain ⟨h, h5⟩ := and2 h
        obtain ⟨h1, h2, h3, h4⟩ := and4 h
        refine both rfl (s_comp G hK hn hon h1 h3 (fun v hv => ?_) h8 (sIt hn it G hK h4 h3) ?_ (fun s H C' cl fp => (sET hn elt (G.blk s H sc C' cl fp) hK h2).1))
        · rw [List.all_eq_true] at h6
          simpa using h6 v hv
        · intro s H C' cl fp
          have h7 : ifs.length ≤ 1 := of_decide_eq_true h7
          cases cs with
          | nil =>
            cases ifs with
            | nil => exact pts_no
            | cons q r => simp [mCs] at h5
          | cons e es =>
            cases ifs with
            | nil => simp [mCs] at h5
            | cons q r =>
              cases r with
              | cons _ _ => simp at h7
              | nil =>
                simp only [mCs] at h5
                obtain ⟨q1, q2⟩ := and2 h5
                cases es with
                | cons _ _ => simp [mCs] at q2
                | nil => exact pts_yes (sET hn e (G.blk s H sc C' cl fp) hK q1).2
      · cases h
    · cases h
  | .compk elt tg i cs own, se, X, p, G, hK, h => by
    simp only [mE] at h
    split at h
    · rename_i x hx
      have e := asComp_ok hx
      obtain ⟨pe, pt, pi, ifs, sc⟩ := x
      obtain ⟨pos, e⟩ := e
      subst e
      split at h
      · rename_i on hon
        obtain ⟨h, h8⟩ := and2 h
        obtain ⟨h, h7⟩ := and2 h
        obtain ⟨h, h6⟩ := and2 h
        obtain ⟨h, h5⟩ := and2 h
        obtain ⟨h1, h2, h3, h4⟩ := and4 h
        split at h4
        case h_2 => cases h4
        rename_i y hy
        obtain ⟨py, hy⟩ := asName_ok hy
        simp only at hy
        subst hy
        refine both rfl (s_compk G hK hn hon h1 h3 (fun v hv => ?_) h8 (G.var h4 py) ?_ (fun s H C' cl fp => (sET hn elt (G.blk s H sc C' cl fp) hK h2).1))
        · rw [List.all_eq_true] at h6
          simpa using h6 v hv
        · intro s H C' cl fp
          have h7 : ifs.length ≤ 1 := of_decide_eq_true h7
          cases cs with
          | nil =>
            cases ifs with
            | nil => exact pts_no
            | cons q r => simp [mCs] at h5
          | cons e es =>
            cases ifs with
            | nil => simp [mCs] at h5
            | cons q r =>
              cases r with
              | cons _ _ => simp at h7
              | nil =>
                simp only [mCs] at h5
                obtain ⟨q1, q2⟩ := and2 h5
                cases es with
                | cons _ _ => simp [mCs] at q2
                | nil => exact pts_yes (sET hn e (G.blk s H sc C' cl fp) hK q1).2
      · cases h
    · cases h
theorem sEs (hn : g.np = np) : ∀ (es : Es) {se : Se} {X : Cx} {ps : List PySem.Expr}, Good pr lv N se X → g.K = (kwX X) → mEs pr N se es ps = true → PA X ps (tRs g (evEs (cfg pr lv np fu) es))
  | .nil, se, X, ps, G, hK, h => by
    cases ps with
    | nil => exact s_nil
    | cons p r => simp [mEs] at h
  | .cons e es, se, X, ps, G, hK, h => by
    cases ps with
    | nil => simp [mEs] at h
    | cons p r =>
      simp only [mEs] at h
      obtain ⟨h1, h2, h3⟩ := and3 h
      exact s_cons h2 (sET hn e G hK h1).1 (sEs hn es G hK h3)
theorem sKv (hn : g.np = np) : ∀ (es : Es) {se : Se} {X : Cx} {pos : Pos} {ks : List (Option PySem.Expr)} {vs l : List PySem.Expr}, Good pr lv N se X → g.K = (kwX X) → kvL ks vs = some l → mEs pr N se es l = true → PPs X pos ks vs (trsE g (cfg pr lv np fu) es)
  | .nil, se, X, pos, ks, vs, l, G, hK, hl, h => by
    match ks, vs, hl with
    | [], [], hl => exact pps_nil
    | [], _ :: _, hl => simp [kvL] at hl
    | none :: _, _, hl => simp [kvL] at hl
    | some _ :: _, [], hl => simp [kvL] at hl
    | some k :: ks, v :: vs, hl =>
      simp only [kvL] at hl
      obtain ⟨l', _, rfl⟩ := Option.map_eq_some_iff.mp hl
      simp [mEs] at h
  | .cons a .nil, se, X, pos, ks, vs, l, G, hK, hl, h => by
    match ks, vs, hl with
    | [], [], hl => simp only [kvL] at hl; cases hl; simp [mEs] at h
    | [], _ :: _, hl => simp [kvL] at hl
    | none :: _, _, hl => simp [kvL] at hl
    | some _ :: _, [], hl => simp [kvL] at hl
    | some k :: ks, v :: vs, hl =>
      simp only [kvL] at hl
      obtain ⟨l', _, rfl⟩ := Option.map_eq_some_iff.mp hl
      simp [mEs] at h
  | .cons a (.cons b r), se, X, pos, ks, vs, l, G, hK, hl, h => by
    match ks, vs, hl with
    | [], [], hl => simp only [kvL] at hl; cases hl; simp [mEs] at h
    | [], _ :: _, hl => simp [kvL] at hl
    | none :: _, _, hl => simp [kvL] at hl
    | some _ :: _, [], hl => simp [kvL] at hl
    | some k :: ks, v :: vs, hl =>
      simp only [kvL] at hl
      obtain ⟨l', hl', rfl⟩ := Option.map_eq_some_iff.mp hl
      simp only [mEs, Bool.and_eq_true] at h
      exact pps_cons (sET hn a G hK h.1.1).1 (sET hn b G hK h.2.1.1).1 (sKv hn r G hK hl' h.2.2)
theorem sEo (hn : g.np = np) : ∀ (e : Eo) {se : Se} {X : Cx} {p : Option PySem.Expr}, Good pr lv N se X → g.K = (kwX X) → mEo pr N se e p = true → PO X p (tRO g (evEo (cfg pr lv np fu) e))
  | .none, se, X, p, G, hK, h => by
    cases p with
    | none => exact s_nopart
    | some p => simp [mEo] at h
  | .some e, se, X, p, G, hK, h => by
    cases p with
    | none => simp [mEo] at h
    | some p =>
      simp only [mEo] at h
      exact s_part (sET hn e G hK h).1
theorem sIt (hn : g.np = np) : ∀ (it : It) {se : Se} {X : Cx} {tg : Tg} {pt p : PySem.Expr} {se' : Se}, Good pr lv N se X → g.K = (kwX X) → mIt pr N se tg it p = true → mT N se' tg pt = true → PI X pt p (tRI g (evIt (cfg pr lv np fu) it))
  | .seq e, se, X, tg, pt, p, se', G, hK, h, hT => by
    simp only [mIt] at h
    obtain ⟨h1, h2⟩ := and2 h
    exact s_seq hK (sET hn e G hK h1).1
  | .rng es, se, X, tg, pt, p, se', G, hK, h, hT => by
    simp only [mIt] at h
    split at h
    · rename_i x hx
      have e := asCall_ok hx
      obtain ⟨f', ps⟩ := x
      obtain ⟨p2, pos, e⟩ := e
      subst e
      obtain ⟨h1, h2, h3, h4⟩ := and4 h
      have h1 := of_decide_eq_true h1
      subst h1
      exact s_rng G h2 h3 (of_decide_eq_true h4) (sEs hn es G hK h3)
    · cases h
  | .enu e, se, X, tg, pt, p, se', G, hK, h, hT => by
    simp only [mIt] at h
    split at h
    · rename_i f x hx
      obtain ⟨p2, pos, rfl⟩ := asCall_ok hx
      obtain ⟨h, h5⟩ := and2 h
      obtain ⟨h1, h2, h3, h4⟩ := and4 h
      have h1 := of_decide_eq_true h1
      subst h1
      cases tg <;> simp only [isT2] at h5 <;> try (cases h5; done)
      simp only [mT] at hT
      split at hT
      · rename_i y z hy
        obtain ⟨k0, tpos, rfl⟩ := asTup_ok hy
        exact s_enu G h2 hK h4 (sET hn e G hK h3).1
      · cases hT
    · cases h
  | .zip a b, se, X, tg, pt, p, se', G, hK, h, hT => by
    simp only [mIt] at h
    split at h
    · rename_i f x y hx
      obtain ⟨p2, pos, rfl⟩ := asCall_ok hx
      obtain ⟨h, h7⟩ := and2 h
      obtain ⟨h, h6⟩ := and2 h
      obtain ⟨h, h5⟩ := and2 h
      obtain ⟨h1, h2, h3, h4⟩ := and4 h
      have h1 := of_decide_eq_true h1
      subst h1
      cases tg <;> simp only [isT2] at h7 <;> try (cases h7; done)
      simp only [mT] at hT
      split at hT
      · rename_i y z hy
        obtain ⟨k0, tpos, rfl⟩ := asTup_ok hy
        exact s_zip G h2 hK h5 h6 (sET hn a G hK h3).1 (sET hn b G hK h4).1
      · cases hT
    · cases h
  | .rev e, se, X, tg, pt, p, se', G, hK, h, hT => by
    simp only [mIt] at h
    split at h
    · rename_i f x hx
      obtain ⟨p2, pos, rfl⟩ := asCall_ok hx
      obtain ⟨h1, h2, h3, h4⟩ := and4 h
      have h1 := of_decide_eq_true h1
      subst h1
      exact s_rev G h2 hK h4 (sET hn e G hK h3).1
    · cases h
  | .rrng es, se, X, tg, pt, p, se', G, hK, h, hT => by
    simp only [mIt] at h
    split at h
    · rename_i f x hx
      obtain ⟨p2, pos, rfl⟩ := asCall_ok hx
      split at h
      · rename_i f' ps hy
        have e := asCall_ok hy
        obtain ⟨p3, pos3, e⟩ := e
        simp only at e
        subst e
        obtain ⟨h, h7⟩ := and2 h
        obtain ⟨h, h6⟩ := and2 h
        obtain ⟨h, h5⟩ := and2 h
        obtain ⟨h1, h2, h3, h4⟩ := and4 h
        have h1 := of_decide_eq_true h1
        have h3 := of_decide_eq_true h3
        subst h1 h3
        exact s_rrng G h4 h2 h5 (of_decide_eq_true h6) h7 (sEs hn es G hK h5)
      · cases h
    · cases h
  | .items _, se, X, tg, pt, p, se', G, hK, h, hT => by simp [mIt] at h
  | .kys _, se, X, tg, pt, p, se', G, hK, h, hT => by simp [mIt] at h
end
end
end Ev

set_option linter.all false
set_option autoImplicit false
set_option Elab.async false
set_option maxRecDepth 100000
set_option maxHeartbeats 4000000
/-! EvJ0: which stores are swapped. -/
namespace Ev
open PySem PySem.Spec L2
section
variable {env : Env}
def scopeOfC : PySem.Expr → Option Scope
  | .ListComp _ _ s _ => some s
  | .SetComp _ _ s _ => some s
  | .DictComp _ _ _ s _ => some s
  | _ => none
/-- is the name's old value swapped out inside the comprehension -/
def swB (sc : Scope) (x : Str) (px : Pos) (p : PySem.Expr) : Bool := match scopeOfC p with
  | none => false
  | some s => (sc.names.lookup x == some .local) && (px.line == p.pos.line) && !(s.names.any fun (n, k) => n == x && (k == .local || k == .cell))
theorem bk_fun (hk : env.scope.kind = .function) : env.blockKind = .function := by unfold Env.blockKind; rw [hk]; rfl
theorem sw_name {x : Str} {px : Pos} {p : PySem.Expr} {l : Nat} (hk : env.scope.kind = .function) : swapsWith p (some (.Name x px)) l env = pure (swB env.scope x px p) := by
  have hb := bk_fun hk
  unfold swapsWith swB scopeOfC
  cases p <;> first
    | rfl
    | (simp only [hb, Env.kindOf]; rfl)
theorem sw_none {p : PySem.Expr} {l : Nat} (h : nlc p = true) : swapsWith p none l env = pure false := by
  unfold swapsWith
  cases p <;> first
    | rfl
    | (simp [nlc] at h)
def isNm : PySem.Expr → Bool
  | .Name _ _ => true
  | _ => false
theorem sw_sole {t p : PySem.Expr} {l : Nat} (h : isNm t = false) : swapsWithSole [t] p l env = pure false := by
  show swapsWith p (some t) l env = pure false
  unfold swapsWith
  cases p <;> first
    | rfl
    | (cases t <;> first
        | rfl
        | (simp [isNm] at h))
def ntup : PySem.Expr → Bool
  | .Tuple _ _ _ => false
  | _ => true
theorem sws_val {t p : PySem.Expr} (h : ntup p = true) : swappedStores [t] p env = pure none := by
  unfold swappedStores
  cases p <;> first
    | (cases t <;> rfl)
    | (simp [ntup] at h)
/-- a tuple of targets, of which one isn't a name -/
def tnn : PySem.Expr → Bool
  | .Tuple ts _ _ => ts.any fun x => !isNm x
  | _ => false
theorem fm_ne {α β : Type} {f : α → Option β} : ∀ {l : List α}, (∃ x ∈ l, f x = none) → ((l.filterMap f).length != l.length) = true
  | l, ⟨x, hx, e⟩ => by
    rw [bne_iff_ne]
    intro h
    have h2 := List.filterMap_length_eq_length.mp h x hx
    rw [e] at h2
    cases h2
theorem sws_nn {t p : PySem.Expr} (h : tnn t = true) : swappedStores [t] p env = pure none := by
  cases t with
  | Tuple ts a b =>
    cases p with
    | Tuple vs c d =>
      simp only [tnn, List.any_eq_true, Bool.not_eq_true'] at h
      obtain ⟨x, hx, hn⟩ := h
      unfold swappedStores
      simp only
      rw [fm_ne ⟨x, hx, by
        cases x with
        | Name => simp [isNm] at hn
        | _ => rfl⟩]
      simp
    | _ => rfl
  | _ => simp [tnn] at h
theorem sws_or {t p : PySem.Expr} (h : (ntup p || tnn t) = true) : swappedStores [t] p env = pure none := (Bool.or_eq_true _ _ ▸ h).elim sws_val sws_nn
def nlt : PySem.Expr → Bool
  | .Tuple _ _ _ => false
  | .List _ _ => false
  | _ => true
theorem sws_tg {t p : PySem.Expr} (h : nlt t = true) : swappedStores [t] p env = pure none := by
  unfold swappedStores
  cases t <;> first
    | rfl
    | (simp [nlt] at h)
theorem sw_par2 {x y : Str} {px py pt pt2 : Pos} {kt k2 : Nat} {a b : PySem.Expr} (hk : env.scope.kind = .function) (hx : env.scope.names.lookup x = some .local) (hy : env.scope.names.lookup y = some .local) (hl : py.line = px.line) (hne : x ≠ y) (na : nst a = true) (nb : nst b = true)
    (hf : (foldedForSure 8 a && foldedForSure 8 b) = false) (hc : (constantsAlone 8 a && constantsAlone 8 b) = false) :
    swappedStores [.Tuple [.Name x px, .Name y py] kt pt] (.Tuple [a, b] k2 pt2) env = pure (some [x, y]) := by
  have hb := bk_fun hk
  have kx : env.kindOf x = some .local := hx
  have ky : env.kindOf y = some .local := hy
  unfold swappedStores
  simp only [Bool.and_true, List.all_cons, List.all_nil, List.any_cons, List.any_nil, hf, hc, hb, kx, ky, hl, PySem.Expr.pos, List.length_cons, List.length_nil, List.head?_cons, Option.map_some, Option.getD_some, List.filterMap_cons, List.filterMap_nil, beq_self_eq_true, Bool.and_self, if_true, Bool.or_self, Bool.false_eq_true, if_false]
  have hxy : (x == y) = false := beq_eq_false_iff_ne.mpr hne
  have hyx : (y == x) = false := beq_eq_false_iff_ne.mpr (Ne.symm hne)
  have e1 : ([x, y] : List Str).eraseDups = [x, y] := by simp [List.eraseDups_cons, hxy, hyx, hne, Ne.symm hne]
  simp [e1]
  intro h
  rcases h with h | h
  · cases a <;> first | (simp [nst] at na; done) | (simp at h)
  · cases b <;> first | (simp [nst] at nb; done) | (simp at h)
theorem sw_par3 {x y z : Str} {px py pz pt pt2 : Pos} {kt k2 : Nat} {a b c : PySem.Expr} (hk : env.scope.kind = .function) (hx : env.scope.names.lookup x = some .local) (hy : env.scope.names.lookup y = some .local) (hz : env.scope.names.lookup z = some .local) (hl : py.line = px.line) (hl2 : pz.line = px.line) (hne : x ≠ y) (hne2 : x ≠ z) (hne3 : y ≠ z) (na : nst a = true) (nb : nst b = true) (nc : nst c = true)
    (hf : (foldedForSure 8 a && (foldedForSure 8 b && foldedForSure 8 c)) = false) (hc : (constantsAlone 8 a && (constantsAlone 8 b && constantsAlone 8 c)) = false) :
    swappedStores [.Tuple [.Name x px, .Name y py, .Name z pz] kt pt] (.Tuple [a, b, c] k2 pt2) env = pure (some [x, y, z]) := by
  have hb := bk_fun hk
  have kx : env.kindOf x = some .local := hx
  have ky : env.kindOf y = some .local := hy
  have kz : env.kindOf z = some .local := hz
  unfold swappedStores
  simp only [Bool.and_true, List.all_cons, List.all_nil, List.any_cons, List.any_nil, hf, hc, hb, kx, ky, kz, hl, hl2, PySem.Expr.pos, List.length_cons, List.length_nil, List.head?_cons, Option.map_some, Option.getD_some, List.filterMap_cons, List.filterMap_nil, beq_self_eq_true, Bool.and_self, if_true, Bool.or_self, Bool.false_eq_true, if_false]
  have hxy : (x == y) = false := beq_eq_false_iff_ne.mpr hne
  have hyx : (y == x) = false := beq_eq_false_iff_ne.mpr (Ne.symm hne)
  have hxz : (x == z) = false := beq_eq_false_iff_ne.mpr hne2
  have hzx : (z == x) = false := beq_eq_false_iff_ne.mpr (Ne.symm hne2)
  have hyz : (y == z) = false := beq_eq_false_iff_ne.mpr hne3
  have hzy : (z == y) = false := beq_eq_false_iff_ne.mpr (Ne.symm hne3)
  have e1 : ([x, y, z] : List Str).eraseDups = [x, y, z] := by simp [List.eraseDups_cons, hxy, hyx, hxz, hzx, hyz, hzy, hne, hne2, hne3, Ne.symm hne, Ne.symm hne2, Ne.symm hne3]
  simp [e1]
  intro h
  rcases h with h | h | h
  · cases a <;> first | (simp [nst] at na; done) | (simp at h)
  · cases b <;> first | (simp [nst] at nb; done) | (simp at h)
  · cases c <;> first | (simp [nst] at nc; done) | (simp at h)

theorem sw_no2 {x y : Str} {px py pt pt2 : Pos} {kt k2 : Nat} {a b : PySem.Expr} (na : nst a = true) (nb : nst b = true) (h : ¬ (env.scope.names.lookup x = some .local ∧ env.scope.names.lookup y = some .local) ∨ (foldedForSure 8 a && foldedForSure 8 b) = true) :
    swappedStores [.Tuple [.Name x px, .Name y py] kt pt] (.Tuple [a, b] k2 pt2) env = pure none := by
  unfold swappedStores
  simp only [Bool.and_true, List.all_cons, List.all_nil, Env.kindOf, PySem.Expr.pos, List.length_cons, List.length_nil, List.head?_cons, Option.map_some, Option.getD_some, List.filterMap_cons, List.filterMap_nil]
  rcases h with h | h
  · have h' : (List.lookup x env.scope.names == some NameKind.local) = false ∨ (List.lookup y env.scope.names == some NameKind.local) = false := by
      rw [beq_eq_false_iff_ne, beq_eq_false_iff_ne]
      exact Classical.or_iff_not_imp_left.mpr fun q z => h ⟨Classical.not_not.mp q, z⟩
    rcases h' with e | e <;> simp only [e, Bool.false_and, Bool.false_eq_true, if_false] <;> (repeat' split) <;> first
      | rfl
      | (simp at *; done)
      | (simp_all; done)
  · rw [h]
    repeat' split
    all_goals first
      | rfl
      | (simp at *; done)
theorem sw_no3 {x y z : Str} {px py pz pt pt2 : Pos} {kt k2 : Nat} {a b c : PySem.Expr} (na : nst a = true) (nb : nst b = true) (nc : nst c = true) (h : ¬ (env.scope.names.lookup x = some .local ∧ env.scope.names.lookup y = some .local ∧ env.scope.names.lookup z = some .local) ∨ (foldedForSure 8 a && (foldedForSure 8 b && foldedForSure 8 c)) = true) :
    swappedStores [.Tuple [.Name x px, .Name y py, .Name z pz] kt pt] (.Tuple [a, b, c] k2 pt2) env = pure none := by
  unfold swappedStores
  simp only [Bool.and_true, List.all_cons, List.all_nil, Env.kindOf, PySem.Expr.pos, List.length_cons, List.length_nil, List.head?_cons, Option.map_some, Option.getD_some, List.filterMap_cons, List.filterMap_nil]
  rcases h with h | h
  · have h' : (List.lookup x env.scope.names == some NameKind.local) = false ∨ (List.lookup y env.scope.names == some NameKind.local) = false ∨ (List.lookup z env.scope.names == some NameKind.local) = false := by
      rw [beq_eq_false_iff_ne, beq_eq_false_iff_ne, beq_eq_false_iff_ne]
      by_cases hx : List.lookup x env.scope.names = some NameKind.local
      · by_cases hy : List.lookup y env.scope.names = some NameKind.local
        · exact .inr (.inr fun z => h ⟨hx, hy, z⟩)
        · exact .inr (.inl hy)
      · exact .inl hx
    rcases h' with e | e | e <;> simp only [e, Bool.false_and, Bool.false_eq_true, if_false] <;> (repeat' split) <;> first
      | rfl
      | (simp at *; done)
      | (simp_all; done)
  · rw [h]
    repeat' split
    all_goals first
      | rfl
      | (simp at *; done)
theorem sw_no4 {tl vl : List PySem.Expr} {pt pt2 : Pos} {kt k2 : Nat} (h : 4 ≤ tl.length) : swappedStores [.Tuple tl kt pt] (.Tuple vl k2 pt2) env = pure none := by
  unfold swappedStores
  have e1 : (tl.length == 2 || tl.length == 3) = false := by
    rw [Bool.or_eq_false_iff]
    exact ⟨beq_eq_false_iff_ne.mpr (by omega), beq_eq_false_iff_ne.mpr (by omega)⟩
  simp [e1]
end
end Ev

set_option linter.all false
set_option autoImplicit false
set_option Elab.async false
set_option maxRecDepth 100000
set_option maxHeartbeats 4000000
/-! EvJ: statements. -/
namespace Ev
open PySem PySem.Spec L2
/-! ### the check -/
def isCompE : E → Bool
  | .comp _ _ _ _ _ => true
  | _ => false
def asNm : PySem.Expr → Option (Str × Pos)
  | .Name x p => some (x, p)
  | _ => none
theorem asNm_ok {p : PySem.Expr} {x : Str × Pos} (h : asNm p = some x) : p = .Name x.1 x.2 := by
  cases p <;> simp only [asNm] at h <;> cases h
  rfl
def asDoc : PySem.Stmt → Bool
  | .Pass _ => true
  | .Expr (.Constant (.str _) _ _) _ => true
  | _ => false
def asBrk : PySem.Stmt → Bool
  | .Break _ => true
  | _ => false
def asCnt : PySem.Stmt → Bool
  | .Continue _ => true
  | _ => false
def loc (se : Se) (x : Str) : Bool := decide (se.sc.names.lookup x = some .local)
def augP : Op → Option Operator
  | .add => some .Add
  | .sub => some .Sub
  | _ => none
/-- names, one behind another -/
def mNs (N : List Str) (se : Se) : List (Nat × Bool) → List PySem.Expr → Bool
  | [], ps => (match ps with
    | [] => true
    | _ => false)
  | (i, _) :: ts, ps => (match ps with
    | p :: r => (match asNm p with
      | some (x, _) => decide (N[i]? = some x) && stB se x
      | none => false) && mNs N se ts r
    | [] => false)
/-- the stores of these names are not swapped -/
def swNo (se : Se) (tl vl : List PySem.Expr) : Bool := match tl, vl with
  | [t1, t2], [a, b] => (match asNm t1, asNm t2 with
    | some (x, _), some (y, _) => nst a && nst b && (!(loc se x && loc se y) || (foldedForSure 8 a && foldedForSure 8 b))
    | _, _ => false)
  | [t1, t2, t3], [a, b, c] => (match asNm t1, asNm t2, asNm t3 with
    | some (x, _), some (y, _), some (z, _) => nst a && nst b && nst c && (!(loc se x && (loc se y && loc se z)) || (foldedForSure 8 a && (foldedForSure 8 b && foldedForSure 8 c)))
    | _, _, _ => false)
  | l, _ => decide (4 ≤ l.length)
mutual
def mS (pr : Pr) (N : List Str) (se : Se) : S → PySem.Stmt → Bool
  | .set tg e, p => (match asAsg p with
    | some (t, v, _) => mE pr N se e v && mT N se tg t && (match asNm t with
      | some (x, px) => isCompE e || !swB se.sc x px v
      | none => ntup v || tnn t)
    | none => false)
  | .setm i e, p => (match asAsg p with
    | some (t, v, _) => mE pr N se e v && (match asNm t with
      | some (x, px) => decide (N[i]? = some x) && stB se x && (isCompE e || !swB se.sc x px v)
      | none => false)
    | none => false)
  | .pset ts es, p => (match asAsg p with
    | some (t, v, _) => (match asTup t, asTup v with
      | some tl, some vl => mEs pr N se es vl && mNs N se ts tl && swNo se tl vl && decide (vl.length ≤ 1000)
      | _, _ => false) || (match asTup t, asTup v, ts with
      | some [t1, t2], some [a, b], [(i, _), (j, _)] => (match asNm t1, asNm t2 with
        | some (x, px), some (y, py) => mEs pr N se es [a, b] && decide (N[i]? = some x) && decide (N[j]? = some y) && loc se x && loc se y && decide (py.line = px.line) && decide (x ≠ y) && !(foldedForSure 8 a && foldedForSure 8 b) && !(constantsAlone 8 a && constantsAlone 8 b)
        | _, _ => false)
      | some [t1, t2, t3], some [a, b, c], [(i, _), (j, _), (l, _)] => (match asNm t1, asNm t2, asNm t3 with
        | some (x, px), some (y, py), some (z, pz) => mEs pr N se es [a, b, c] && decide (N[i]? = some x) && decide (N[j]? = some y) && decide (N[l]? = some z) && loc se x && loc se y && loc se z && decide (py.line = px.line) && decide (pz.line = px.line) && decide (x ≠ y) && decide (x ≠ z) && decide (y ≠ z) &&
          !(foldedForSure 8 a && (foldedForSure 8 b && foldedForSure 8 c)) && !(constantsAlone 8 a && (constantsAlone 8 b && constantsAlone 8 c))
        | _, _, _ => false)
      | _, _, _ => false)
    | none => false)
  | .sti i k e, p => (match asAsg p with
    | some (t, v, _) => (match asSub t with
      | some (o, q) => (match asName o with
        | some x => nmB N se i x && mE pr N se k q && mE pr N se e v && nsl q
        | none => false)
      | none => false)
    | none => false)
  | .sti2 i k j l a b, p => (match asAsg p with
    | some (t, v, _) => (match asTup t, asTup v with
      | some [t1, t2], some [x, y] => (match asSub t1, asSub t2 with
        | some (o1, q1), some (o2, q2) => (match asName o1, asName o2 with
          | some x1, some x2 => nmB N se i x1 && mE pr N se k q1 && nsl q1 && nmB N se j x2 && mE pr N se l q2 && nsl q2 && mE pr N se a x && mE pr N se b y && nst x && nst y
          | _, _ => false)
        | _, _ => false)
      | _, _ => false)
    | none => false)
  | .aug i o e, p => (match asAug p with
    | some (t, op, v) => (match asName t with
      | some x => decide (N[i]? = some x) && stB se x && mE pr N se e v && decide (augP o = some op)
      | none => false)
    | none => false)
  | .ex e, p => (match asExpr p with
    | some v => mE pr N se e v && nlc v
    | none => false)
  | .ret e, p => (match asRet p with
    | some (some v) => mE pr N se e v
    | _ => false)
  | .retn, p => (match asRet p with
    | some none => true
    | _ => false)
  | .ife c a b, p => (match asIfS p with
    | some (q, x, y) => mE pr N se c q && mSs pr N se a x && mSs pr N se b y
    | none => false)
  | .for_ tg it b, p => (match asFor p with
    | some (t, q, x) => mT N se tg t && mIt pr N se tg it q && mSs pr N se b x && nset q
    | none => false)
  | .whl c b, p => (match asWhl p with
    | some (q, x) => mE pr N se c q && mSs pr N se b x
    | none => false)
  | .brk, p => asBrk p
  | .cont, p => asCnt p
  | .pass, p => asDoc p
  | .any, _ => true
def mSs (pr : Pr) (N : List Str) (se : Se) : Ss → List PySem.Stmt → Bool
  | .nil, ps => (match ps with
    | [] => true
    | _ => false)
  | .cons s r, ps => (match ps with
    | p :: q => mS pr N se s p && mSs pr N se r q
    | [] => false)
end
/-! ### several stores -/
section
variable {g : Gc} {H H0 : Hp}
def RP (g : Gc) (H : Hp) (Fz : Addr → Prop) : Opd → V → Prop
  | .val d, v => Rep g.K Fz H d v
  | .slot _, _ => True
  | .new xs, v => ∃ a vs, v = .ref a ∧ H a = some (.lst vs) ∧ RepL g.K Fz H xs vs ∧ ¬ Fz a ∧ g.He a = none
  | .newd kvs, v => ∃ a es, v = .ref a ∧ H a = some (dO g.K.w a es) ∧ KysR g.K H (kvs.map (·.1)) (es.map (·.1)) ∧ RepL g.K Fz H (kvs.map (·.2)) (es.map (·.2)) ∧ ¬ Fz a ∧ g.He a = none
def RPs (g : Gc) (H : Hp) (Fz : Addr → Prop) : List Opd → List V → Prop
  | [], vs => vs = []
  | o :: os, vs => ∃ v r, vs = v :: r ∧ RP g H Fz o v ∧ RPs g H Fz os r ∧ ∀ a, a ∈ newA o v → a ∉ newAs os r
theorem RepO.rp {sd : SD} {σ : L2.St} {Fz : Addr → Prop} {o : Opd} {v : V} (h : RepO g sd σ H0 H Fz o v) : RP g H Fz o v ∧ ∀ a, a ∈ newA o v → ¬ Mu sd σ a := by
  cases o with
  | val d => exact ⟨h, fun a z => by simp [newA] at z⟩
  | slot i => exact ⟨trivial, fun a z => by simp [newA] at z⟩
  | new xs =>
    obtain ⟨a, vs, rfl, q, r, nf, nm, h0, he⟩ := h
    exact ⟨⟨a, vs, rfl, q, r, nf, he⟩, fun b z => by simp only [newA, List.mem_singleton] at z; subst z; exact nm⟩
  | newd kvs =>
    obtain ⟨a, vs, rfl, q, z, r, nf, nm, h0, he⟩ := h
    exact ⟨⟨a, vs, rfl, q, z, r, nf, he⟩, fun b z => by simp only [newA, List.mem_singleton] at z; subst z; exact nm⟩
theorem ROs.rps {sd : SD} {σ : L2.St} {Fz : Addr → Prop} : ∀ {os : List Opd} {vs : List V}, ROs g sd σ H0 H Fz os vs → RPs g H Fz os vs ∧ ∀ a, a ∈ newAs os vs → ¬ Mu sd σ a
  | [], vs, h => ⟨h, fun a z => by simp [newAs] at z⟩
  | o :: os, vs, h => by
    obtain ⟨v, r, rfl, h1, h2, h3⟩ := h
    obtain ⟨q1, q2⟩ := h1.rp
    obtain ⟨q3, q4⟩ := ROs.rps h2
    refine ⟨⟨v, r, rfl, q1, q3, h3⟩, fun a z => ?_⟩
    simp only [newAs, List.mem_append] at z
    exact z.elim (q2 a) (q4 a)
theorem RP.more {Fz Fz' : Addr → Prop} {o : Opd} {v : V} (m : ∀ a, Fz a → Fz' a) (n : ∀ a, a ∈ newA o v → ¬ Fz' a) (r : RP g H Fz o v) : RP g H Fz' o v := by
  cases o with
  | val d => exact Rep.keep Keep.refl m d v r
  | slot i => exact trivial
  | new xs =>
    obtain ⟨a, vs, rfl, q, r, nf, he⟩ := r
    exact ⟨a, vs, rfl, q, RepL.keep Keep.refl m _ _ r, n a (by simp [newA]), he⟩
  | newd kvs =>
    obtain ⟨a, vs, rfl, q, ks, r, nf, he⟩ := r
    exact ⟨a, vs, rfl, q, ks, RepL.keep Keep.refl m _ _ r, n a (by simp [newA]), he⟩
theorem RPs.more {Fz Fz' : Addr → Prop} : ∀ {os : List Opd} {vs : List V}, (∀ a, Fz a → Fz' a) → (∀ a, a ∈ newAs os vs → ¬ Fz' a) → RPs g H Fz os vs → RPs g H Fz' os vs
  | [], vs, _, _, h => h
  | o :: os, vs, m, n, h => by
    obtain ⟨v, r, rfl, h1, h2, h3⟩ := h
    exact ⟨v, r, rfl, h1.more m fun a z => n a (by simp [newAs, z]), RPs.more m (fun a z => n a (by simp [newAs, z])) h2, h3⟩
theorem RP.nf {Fz : Addr → Prop} {o : Opd} {v : V} {a : Addr} (r : RP g H Fz o v) (h : a ∈ newA o v) : ¬ Fz a := by
  cases o with
  | val d => simp [newA] at h
  | slot i => simp [newA] at h
  | new xs =>
    obtain ⟨b, vs, rfl, q, r, nf, he⟩ := r
    simp only [newA, List.mem_singleton] at h
    subst h; exact nf
  | newd kvs =>
    obtain ⟨b, vs, rfl, q, ks, r, nf, he⟩ := r
    simp only [newA, List.mem_singleton] at h
    subst h; exact nf
theorem RPs.nf {Fz : Addr → Prop} : ∀ {os : List Opd} {vs : List V} {a : Addr}, RPs g H Fz os vs → a ∈ newAs os vs → ¬ Fz a
  | [], vs, a, h, m => by simp [newAs] at m
  | o :: os, vs, a, h, m => by
    obtain ⟨v, r, rfl, h1, h2, _⟩ := h
    simp only [newAs, List.mem_append] at m
    exact m.elim h1.nf (RPs.nf h2)
def setAll (σ : L2.St) : List (Nat × Bool) → List V → L2.St
  | (i, _) :: ts, v :: vs => setAll (σ.set i (some v)) ts vs
  | _, _ => σ
theorem mu_set {sd : SD} {σ : L2.St} {i : Nat} {s : Sl} {v : V} {b : Addr} (h : Mu (sd.set i s) (σ.set i (some v)) b) : Mu sd σ b ∨ (isMut s = true ∧ v = .ref b) := by
  obtain ⟨j, hj, e⟩ := h
  rcases mutAt_set hj with ⟨h1, h2⟩ | ⟨h1, h2⟩
  · rw [List.getElem?_set_ne (Ne.symm h1)] at e
    exact .inl ⟨j, h2, e⟩
  · rcases get_set e with ⟨q, _⟩ | ⟨_, q⟩
    · exact absurd h1 q
    · exact .inr ⟨h2, Option.some.inj q⟩
theorem psetE_ok {np : Nat} (hn : g.np = np) : ∀ {ts : List (Nat × Bool)} {os : List Opd} {vs : List V} {sd sd' : SD} {σ : L2.St} {Fz : Addr → Prop}, SRel g sd σ H Fz → RPs g H Fz os vs → (∀ a, a ∈ newAs os vs → ¬ Mu sd σ a) → psetE np ts os sd = some sd' →
    ∃ Fz', SRel g sd' (setAll σ ts vs) H Fz' ∧ ∀ a, Fz a → Fz' a
  | [], os, vs, sd, sd', σ, Fz, S, r, nm, e => by
    cases os with
    | nil => simp only [psetE] at e; cases e; exact ⟨Fz, S, fun _ z => z⟩
    | cons o os => simp [psetE] at e
  | (i, m) :: ts, os, vs, sd, sd', σ, Fz, S, r, nm, e => by
    cases os with
    | nil => simp [psetE] at e
    | cons o os =>
      obtain ⟨v, vs, rfl, r1, r2, r3⟩ := r
      simp only [psetE] at e
      split at e
      · cases e
      rename_i hp
      have hp' : (decide (i < g.np) && mutAt sd i) = false := by rw [hn]; simpa using hp
      have put : ∀ d Fz1, SRel g sd σ H Fz1 → Rep g.K Fz1 H d v → (∀ a, Fz a → Fz1 a) → (∀ a, Fz1 a → Fz a ∨ a ∈ newA o v) → psetE np ts os (sd.set i (.v d)) = some sd' → ∃ Fz', SRel g sd' (setAll σ ((i, m) :: ts) (v :: vs)) H Fz' ∧ ∀ a, Fz a → Fz' a := by
        intro d Fz1 S1 rd m1 n1 e
        have S2 := S1.setS (i := i) (s := .v d) (v := some v) ⟨v, rfl, rd⟩ hp'
        have r2' : RPs g H Fz1 os vs := r2.more m1 fun a z f => (n1 a f).elim (RPs.nf r2 z) fun y => r3 a y z
        obtain ⟨Fz', S3, m3⟩ := psetE_ok hn S2 r2' (fun a z q => (mu_set q).elim (nm a (by simp [newAs, z])) fun y => by cases y.1) e
        exact ⟨Fz', S3, fun a z => m3 a (m1 a z)⟩
      cases m with
      | true =>
        cases o with
        | val d => simp at e
        | slot j => simp at e
        | newd kvs => simp at e
        | new xs =>
          simp only at e
          obtain ⟨a, ws, rfl, q, rl, nf, he⟩ := r1
          have S2 := S.setS (i := i) (s := .ml xs) (v := some (.ref a)) ⟨a, ws, rfl, q, rl, nf, nm a (by simp [newAs, newA]), he⟩ hp'
          obtain ⟨Fz', S3, m3⟩ := psetE_ok hn S2 r2 (fun b z q => (mu_set q).elim (nm b (by simp [newAs, z])) fun y => by
            have := y.2
            cases this
            exact r3 a (by simp [newA]) z) e
          exact ⟨Fz', S3, m3⟩
      | false =>
        simp only at e
        obtain ⟨d, ed, e⟩ := Option.bind_eq_some_iff.mp e
        cases o with
        | slot j => simp [strict] at ed
        | val d' => simp only [strict] at ed; cases ed; exact put _ Fz S r1 (fun _ z => z) (fun _ z => .inl z) e
        | new xs =>
          simp only [strict] at ed; cases ed
          obtain ⟨a, ws, rfl, q, rl, nf, he⟩ := r1
          refine put _ _ (S.freeze he (nm a (by simp [newAs, newA])) ⟨_, q⟩) ?_ (fun _ z => .inl z) (fun b z => z.imp (fun z => z) fun z => by simp [newA, z]) e
          simp only [Rep]
          exact ⟨a, ws, rfl, .inr rfl, q, RepL.keep Keep.refl (fun _ z => .inl z) _ _ rl⟩
        | newd kvs =>
          simp only [strict] at ed; cases ed
          obtain ⟨a, ws, rfl, q, ks, rl, nf, he⟩ := r1
          refine put _ _ (S.freeze he (nm a (by simp [newAs, newA])) ⟨_, q⟩) ?_ (fun _ z => .inl z) (fun b z => z.imp (fun z => z) fun z => by simp [newA, z]) e
          simp only [Rep]
          exact ⟨a, ws, rfl, .inr rfl, .inl q, ks, RepL.keep Keep.refl (fun _ z => .inl z) _ _ rl⟩
end
/-! ### the rules -/
section
variable {X : Cx} {g : Gc} {pr : Pr} {lv np fu : Nat} {N : List Str} {se : Se}
theorem PS.or {p : PySem.Stmt} {t t' : TS} (h : PS X p t) (h' : PS X p t') : PS X p (fun D σ H => t D σ H ∨ t' D σ H) := ⟨fun pins s σ H D I q => q.elim (h.run pins s σ H D I) (h'.run pins s σ H D I)⟩
theorem comp_parts (hn : g.np = np) (G : Good pr lv N se X) (hK : g.K = (kwX X)) {elt : E} {tg : Tg} {it : It} {cs : Es} {own : List Nat} {p : PySem.Expr} (h : mE pr N se (.comp elt tg it cs own) p = true) :
    ∃ pe pt pi ifs sc pos on, p = .ListComp pe [⟨pt, pi, ifs, 0⟩] sc pos ∧ ownN N own = some on ∧ (∀ v, v ∈ tgSl tg → v ∈ own) ∧ BlkOk X.N X.env.scope sc on ∧ PI X pt pi (tRI g (evIt (cfg pr lv np fu) it)) ∧
      (∀ (s : Shared) (H : Hp) (C' : Addr) (cl : List (Str × Addr)) (fp : List Addr), PG (X.blk s H sc (compEnvC sc cl C' X.env) fp) pt (tRow g np tg)) ∧
      (∀ (s : Shared) (H : Hp) (C' : Addr) (cl : List (Str × Addr)) (fp : List Addr), PTs (X.blk s H sc (compEnvC sc cl C' X.env) fp) ifs (tRT g (evCs (cfg pr lv np fu) cs))) ∧
      (∀ (s : Shared) (H : Hp) (C' : Addr) (cl : List (Str × Addr)) (fp : List Addr), PE (X.blk s H sc (compEnvC sc cl C' X.env) fp) pe (tR g (evE (cfg pr lv np fu) elt))) ∧ ∀ x, foldedSetIterable pi X.env x = pure x := by
  simp only [mE] at h
  split at h
  · rename_i x hx
    have e := asComp_ok hx
    obtain ⟨pe, pt, pi, ifs, sc⟩ := x
    obtain ⟨pos, e⟩ := e
    subst e
    split at h
    · rename_i on hon
      obtain ⟨h, h8⟩ := and2 h
      obtain ⟨h, h7⟩ := and2 h
      obtain ⟨h, h6⟩ := and2 h
      obtain ⟨h, h5⟩ := and2 h
      obtain ⟨h1, h2, h3, h4⟩ := and4 h
      refine ⟨pe, pt, pi, ifs, sc, pos, on, rfl, hon, fun v hv => ?_, blkOk_by (by rw [G.eN, G.esc]; exact h1), sIt hn it G hK h4 h3, fun s H C' cl fp => pg_row (G.blk s H sc C' cl fp) hK hn tg pt h3, ?_, fun s H C' cl fp => (sET hn elt (G.blk s H sc C' cl fp) hK h2).1, nset_fold h8 _⟩
      · rw [List.all_eq_true] at h6
        simpa using h6 v hv
      · intro s H C' cl fp
        have h7 : ifs.length ≤ 1 := of_decide_eq_true h7
        cases cs with
        | nil =>
          cases ifs with
          | nil => exact pts_no
          | cons q r => simp [mCs] at h5
        | cons e es =>
          cases ifs with
          | nil => simp [mCs] at h5
          | cons q r =>
            cases r with
            | cons _ _ => simp at h7
            | nil =>
              simp only [mCs] at h5
              obtain ⟨q1, q2⟩ := and2 h5
              cases es with
              | cons _ _ => simp [mCs] at q2
              | nil => exact pts_yes (sET hn e (G.blk s H sc C' cl fp) hK q1).2
    · cases h
  · cases h
/-- name = value -/
theorem ps_store (hn : g.np = np) (G : Good pr lv N se X) (hK : g.K = (kwX X)) (hk : X.env.scope.kind = .function) {i : Nat} {x : Str} {e : E} {p : PySem.Expr} {px pos : Pos} (hi : N[i]? = some x) (hs : stB se x = true) (hc : (isCompE e || !swB se.sc x px p) = true) (h : mE pr N se e p = true) :
    PS X (.Assign [.Name x px] p pos) (tAsg (tR g (evE (cfg pr lv np fu) e)) (gName i)) := by
  obtain ⟨l1, l2⟩ := G.loc hs
  cases q : swB se.sc x px p with
  | false => exact ps_set (by rw [G.eN]; exact G.nd) (by rw [G.eN]; exact hi) l1 (sET hn e G hK h).1 (by rw [sw_name hk, G.esc, q]) l2
  | true =>
    rw [q] at hc
    cases e <;> simp [isCompE] at hc
    rename_i elt tg it cs own
    obtain ⟨pe, pt, pi, ifs, sc, cpos, on, rfl, hon, hsl, ok, hi', hg, ht, he, hse⟩ := comp_parts (fu := fu) hn G hK h
    have hl : X.env.scope.names.lookup x = some .local := by
      rw [G.esc]
      have q := q
      simp only [swB, scopeOfC, Bool.and_eq_true] at q
      exact eq_of_beq q.1.1
    refine PS.to (ps_setLc G.calm (by rw [G.eN]; exact G.nd) (by rw [G.eN]; exact hi) hl (by rw [sw_name hk, G.esc, q]) hi' ok hg ht he hse) fun D σ H w => ?_
    have w : tR g (evE (cfg pr lv np fu) (.comp elt tg it cs own)) σ H (fun x H1 => gName i x σ H1 D.nx) := w
    show tLc _ _ _ _ _ σ H fun x H1 => gName i x σ H1 D.nx
    rw [ownN_map hon]
    exact comp_tLc hsl w
theorem mono_of {sd sd' : SD} {σ : L2.St} {H H' : Hp} {Fz Fz' Fz'' : Addr → Prop} (S : SRel g sd σ H Fz) (E : Ext sd σ H Fz sd' H' Fz') (m : ∀ a, Fz' a → Fz'' a) : Mono H Fz H' Fz'' := (E.mono S).trans ⟨Keep.refl, m⟩
end
end Ev

set_option linter.all false
set_option autoImplicit false
set_option Elab.async false
set_option maxRecDepth 100000
set_option maxHeartbeats 4000000
/-! EvK: the evaluator tells of every statement what the model does. -/
namespace Ev
open PySem PySem.Spec L2
theorem loopI_cons {asg : List D → SD → Option SD} {body : SD → Option (Fl × SD)} {d : List D} {ds : List (List D)} {sd : SD} {q : Fl × SD} (h : loopI asg body (d :: ds) sd = some q) :
    ∃ s1 r, asg d sd = some s1 ∧ body s1 = some r ∧ (((r.1 = .next ∨ r.1 = .cont) ∧ loopI asg body ds r.2 = some q) ∨ (r.1 = .brk ∧ q = (.next, r.2)) ∨ ∃ o, r.1 = .ret o ∧ q = (.ret o, r.2)) := by
  simp only [loopI, Option.bind_eq_some_iff] at h
  obtain ⟨s1, e1, r, e2, h⟩ := h
  refine ⟨s1, r, e1, e2, ?_⟩
  split at h
  · rename_i e; exact .inl ⟨.inl e, h⟩
  · rename_i e; exact .inl ⟨.inr e, h⟩
  · rename_i e; cases h; exact .inr (.inl ⟨e, rfl⟩)
  · rename_i o e; cases h; exact .inr (.inr ⟨o, e, rfl⟩)
theorem loopW_succ {c : SD → Option (Bool × SD)} {body : SD → Option (Fl × SD)} {n : Nat} {sd : SD} {q : Fl × SD} (h : loopW c body (n + 1) sd = some q) :
    ∃ t, c sd = some t ∧ ((t.1 = false ∧ q = (.next, t.2)) ∨ (t.1 = true ∧ ∃ r, body t.2 = some r ∧ (((r.1 = .next ∨ r.1 = .cont) ∧ loopW c body n r.2 = some q) ∨ (r.1 = .brk ∧ q = (.next, r.2)) ∨ ∃ o, r.1 = .ret o ∧ q = (.ret o, r.2)))) := by
  simp only [loopW, Option.bind_eq_some_iff] at h
  obtain ⟨t, et, h⟩ := h
  refine ⟨t, et, ?_⟩
  split at h
  · rename_i ht
    simp only [Option.bind_eq_some_iff] at h
    obtain ⟨r, er, h⟩ := h
    refine .inr ⟨ht, r, er, ?_⟩
    split at h
    · rename_i e; exact .inl ⟨.inl e, h⟩
    · rename_i e; exact .inl ⟨.inr e, h⟩
    · rename_i e; cases h; exact .inr (.inl ⟨e, rfl⟩)
    · rename_i o e; cases h; exact .inr (.inr ⟨o, e, rfl⟩)
  · rename_i ht
    cases h
    exact .inl ⟨by simpa using ht, rfl⟩
theorem noSlot_chk : ∀ {l : List (Opd × List D)} {sd : SD}, noSlot l = true → chkAll l sd = true ∧ ∀ i xs, (Opd.slot i, xs) ∉ l
  | [], sd, h => ⟨rfl, fun i xs m => by cases m⟩
  | (o, ds) :: r, sd, h => by
    cases o with
    | slot j => simp [noSlot] at h
    | _ =>
      simp only [noSlot] at h
      obtain ⟨h1, h2⟩ := noSlot_chk (sd := sd) h
      refine ⟨?_, fun i xs m => ?_⟩
      · simp only [chkAll, List.all_cons, stays, Bool.true_and] at h1 ⊢
        exact h1
      · rcases List.mem_cons.mp m with m | m
        · cases m
        · exact h2 i xs m
section
variable {X : Cx} {g : Gc} {pr : Pr} {lv np fu : Nat} {N : List Str} {se : Se}
theorem for_read {C : Cfg} {tg : Tg} {it : It} {b : Ss} {D : Ends} {σ : L2.St} {H : Hp} (h : tRS g (evS C (.for_ tg it b)) D σ H) : tFor (tRI g (evIt C it)) (tRow g C.np tg) (tRS g (evSs C b)) D σ H := by
  obtain ⟨sd, Fz, f, sd', S, e, hend⟩ := h
  simp only [evS, Option.bind_eq_some_iff] at e
  obtain ⟨w, ew, e⟩ := e
  split at e
  case isFalse => cases e
  rename_i hns
  refine ⟨sd, Fz, w.1, w.2.1, w.2.2, S, ew, fun J H1 Fz1 S1 E1 WD => ?_⟩
  generalize w.1 = rows at e WD
  generalize w.2.1 = ops at e WD hns
  generalize w.2.2 = sd1 at e S1 E1
  have M1 : Mono H Fz H1 Fz1 := E1.mono S
  let P : Nat → L2.St → Hp → Prop := fun i σ' H' => i ≤ rows.length ∧ ∃ (sdc : SD) (Fzc : Addr → Prop), SRel g sdc σ' H' Fzc ∧ loopI (asgR C.np tg) (evSs C b) (rows.drop i) sdc = some (f, sd') ∧ Mono H1 Fz1 H' Fzc
  refine ⟨fun i m σ' H' => m = rows.length - i ∧ P i σ' H', ⟨rows.length, by simp, Nat.zero_le _, sd1, Fz1, S1, by rw [List.drop_zero]; exact e, Mono.refl⟩, ?_⟩
  rintro i m σ2 H2 ⟨rfl, hi, sdc, Fzc, Sc, el, Mc⟩
  have iv : Iv H1 Fz1 σ ops sdc σ2 H2 Fzc := ⟨Mc, (noSlot_chk hns).1, fun j xs m => absurd m ((noSlot_chk (sd := sdc) hns).2 j xs)⟩
  by_cases hlt : i < rows.length
  · refine .inr ⟨WD.goes i _ _ H2 Fzc hlt Sc iv, P (i + 1), fun σ' H' p => ⟨rows.length - (i + 1), by omega, rfl, p⟩, fun x H' y => ?_⟩
    have rr := WD.yields i _ _ H2 Fzc x H' _ (List.getElem?_eq_getElem hlt) Sc iv y
    rw [List.drop_eq_getElem_cons hlt] at el
    obtain ⟨s1, r, e1, e2, e3⟩ := loopI_cons el
    refine ⟨H2, sdc, Fzc, _, s1, Sc, rr, e1, fun σ3 S3 T3 => ⟨s1, Fzc, r.1, r.2, S3, e2, fun σ4 H4 Fz4 S4 M4 => ?_⟩⟩
    have M : Mono H1 Fz1 H4 Fz4 := (Mc.trans ⟨rr.grow.keep, fun _ z => z⟩).trans M4
    rcases e3 with ⟨e3 | e3, e4⟩ | ⟨e3, e4⟩ | ⟨o, e3, e4⟩ <;> rw [e3]
    · exact ⟨hlt, r.2, Fz4, S4, e4, M⟩
    · exact ⟨hlt, r.2, Fz4, S4, e4, M⟩
    · cases e4
      exact hend σ4 H4 Fz4 S4 (M1.trans M)
    · cases e4
      exact hend σ4 H4 Fz4 S4 (M1.trans M)
  · have hi' : i = rows.length := by omega
    subst hi'
    rw [List.drop_length] at el
    simp only [loopI] at el
    cases el
    exact .inl ⟨WD.stops _ _ H2 Fzc Sc iv, hend σ2 H2 Fzc Sc (M1.trans Mc)⟩
theorem whl_read {C : Cfg} {c : E} {b : Ss} {D : Ends} {σ : L2.St} {H : Hp} (h : tRS g (evS C (.whl c b)) D σ H) : tWhile (tRT g (evT C c)) (tRS g (evSs C b)) D σ H := by
  obtain ⟨sd, Fz, f, sd', S, e, hend⟩ := h
  simp only [evS] at e
  have e : loopW (evT C c) (evSs C b) C.fu sd = some (f, sd') := e
  refine ⟨fun m σ' H' => ∃ (sdc : SD) (Fzc : Addr → Prop), SRel g sdc σ' H' Fzc ∧ loopW (evT C c) (evSs C b) m sdc = some (f, sd') ∧ Mono H Fz H' Fzc, ⟨C.fu, sd, Fz, S, e, Mono.refl⟩, ?_⟩
  rintro m σ2 H2 ⟨sdc, Fzc, Sc, el, Mc⟩
  cases m with
  | zero => simp [loopW] at el
  | succ m =>
    obtain ⟨t, et, h⟩ := loopW_succ el
    refine ⟨sdc, Fzc, t.1, t.2, Sc, et, fun H3 Fz3 S3 E3 => ?_⟩
    have M3 := Mc.trans (E3.mono Sc)
    rcases h with ⟨ht, e4⟩ | ⟨ht, r, er, e3⟩
    · simp only []
      rw [if_neg (by rw [ht]; exact Bool.false_ne_true)]
      cases e4
      exact hend σ2 H3 Fz3 S3 M3
    · simp only []
      rw [if_pos ht]
      refine ⟨fun σ' H' => ∃ (sdc : SD) (Fzc : Addr → Prop), SRel g sdc σ' H' Fzc ∧ loopW (evT C c) (evSs C b) m sdc = some (f, sd') ∧ Mono H Fz H' Fzc, fun σ' H' p => ⟨m, by omega, p⟩, t.2, Fz3, r.1, r.2, S3, er, fun σ4 H4 Fz4 S4 M4 => ?_⟩
      have M := M3.trans M4
      rcases e3 with ⟨e3 | e3, e4⟩ | ⟨e3, e4⟩ | ⟨o, e3, e4⟩ <;> rw [e3]
      · exact ⟨r.2, Fz4, S4, e4, M⟩
      · exact ⟨r.2, Fz4, S4, e4, M⟩
      · cases e4
        exact hend σ4 H4 Fz4 S4 M
      · cases e4
        exact hend σ4 H4 Fz4 S4 M

theorem orB {a b : Bool} (h : (a || b) = true) : a = true ∨ b = true := by simpa using h
theorem notb {b : Bool} (h : (!b) = true) : b = false := by
  cases b with
  | false => rfl
  | true => cases h
theorem opt2 {α β : Type} {o : Option α} {f : α → Option β} {y : β} (h : o.bind f = some y) : ∃ x, o = some x ∧ f x = some y := Option.bind_eq_some_iff.mp h
theorem stiE_ok {i : Nat} {k d : D} {sd s : SD} (h : stiE i k d sd = some s) : (∃ xs n j, sd[i]? = some (.ml xs) ∧ k = .int n ∧ ixN xs.length n = some j ∧ s = sd.set i (.ml (xs.set j d))) ∨
    ∃ kvs ky, sd[i]? = some (.mk kvs) ∧ kyIn (kvs.map (·.1)) k = some ky ∧ kvs.length < lim ∧ s = sd.set i (.mk (putY kvs ky d)) := by
  unfold stiE at h
  split at h
  · rename_i xs hx
    split at h
    · rename_i n
      obtain ⟨j, hj, rfl⟩ := Option.map_eq_some_iff.mp h
      exact .inl ⟨xs, n, j, hx, rfl, hj, rfl⟩
    · cases h
  · rename_i kvs hx
    split at h
    · rename_i ky hk
      split at h
      · rename_i hl
        cases h
        exact .inr ⟨kvs, ky, hx, hk, hl, rfl⟩
      · cases h
    · cases h
  · cases h
theorem PG.or2 {X : Cx} {e : PySem.Expr} {t t' : TG} (h : PG X e t) (h' : PG X e t') : PG X e (fun x σ H Q => t x σ H Q ∨ t' x σ H Q) := PG.or h h'
def gAll : List (Nat × Bool) → TGs
  | [] => gNil
  | (i, _) :: ts => gCons (gName i) (gAll ts)
theorem gAll_ok : ∀ {ts : List (Nat × Bool)} {vs : List V} {σ : L2.St} {H : Hp} {Q : L2.St → Hp → Prop}, vs.length = ts.length → Q (setAll σ ts vs) H → gAll ts vs σ H Q
  | [], vs, σ, H, Q, h, q => by
    have : vs = [] := by simpa using h
    subst this
    exact ⟨rfl, q⟩
  | (i, m) :: ts, [], σ, H, Q, h, q => by simp at h
  | (i, m) :: ts, v :: vs, σ, H, Q, h, q => ⟨v, vs, rfl, gAll_ok (by simpa using h) q⟩
theorem asgSub {X : Cx} {x : Str} {q : PySem.Expr} {p3 p2 : Pos} (h : nsl q = true) : ∀ v, assign (.Subscript (.Name x p3) q p2) X.env v = (do
      let ov ← holding [v] (eval (.Name x p3) X.env)
      let iv ← holding [v, ov] (eval q X.env)
      standAt p2
      holding [v, ov, iv] (setItem ov iv v)
      release [v, ov, iv] []) := by
  intro v
  cases q <;> first
    | rfl
    | (simp [nsl] at h)
theorem sw_subs {env : Env} {o1 q1 o2 q2 a b : PySem.Expr} {p1 p2 pt pt2 : Pos} {kt k2 : Nat} : swappedStores [.Tuple [.Subscript o1 q1 p1, .Subscript o2 q2 p2] kt pt] (.Tuple [a, b] k2 pt2) env = pure none := by
  unfold swappedStores
  simp only [List.length_cons, List.length_nil, List.filterMap_cons, List.filterMap_nil]
  repeat' split
  all_goals first
    | rfl
    | (simp at *; done)
theorem force_more {K : KW} {H : Hp} {Fz Fz' : Addr → Prop} (m : ∀ a, Fz a → Fz' a) {d : D} {v : V} (h : RepF K Fz H d v) : RepF K Fz' H d v := by
  cases d <;> simp only [RepF] at h ⊢ <;> try exact Rep.keep Keep.refl m _ _ h
  · obtain ⟨a, vs, e, h1, h2⟩ := h
    exact ⟨a, vs, e, h1, RepL.keep Keep.refl m _ _ h2⟩
  · obtain ⟨a, es, e, h1, h2, h3⟩ := h
    exact ⟨a, es, e, h1, h2, RepL.keep Keep.refl m _ _ h3⟩
/-- d[k] = v, d a dict of the def's own -/
def rSetDX (K : KW) : TSet := fun o i v H Q => ∃ (a : Addr) (es : List (KX × V)) (kvs : List (Ky × D)) (Fz : Addr → Prop) (d kd : D) (k : Ky), o = .ref a ∧ H a = some (dO K.w a es) ∧ KysR K H (kvs.map (·.1)) (es.map (·.1)) ∧ RepL K Fz H (kvs.map (·.2)) (es.map (·.2)) ∧ kvs.length < sizeLine ∧
  RepF K Fz H kd i ∧ kyIn (kvs.map (·.1)) kd = some k ∧ Rep K Fz H d v ∧ ∀ es', KysR K H ((putY kvs k d).map (·.1)) (es'.map (·.1)) → RepL K Fz H ((putY kvs k d).map (·.2)) (es'.map (·.2)) → Q (upd H a (dO K.w a es'))
theorem set_dictX {X : Cx} (hu : X.A.units + 64 < cLine) : PSet X (rSetDX (kwX X)) := by
  intro pins s σ H o i v ov iv u Q I ro ri rv ⟨a, es, kvs, Fz, d, kd, k, eo, ha, kr, rl, hl, hk, hky, rd, q⟩
  subst eo
  cases (show ov = Value.ref a from ro)
  obtain ⟨h1, ⟨h2, h3⟩ | ⟨h2, h3⟩⟩ := kyIn_or hky
  · obtain ⟨l, l1, l2, l3, _⟩ := dO_smp (w := X.w) (a := a) kr h3
    have ha : H a = some (.dK l) := by rw [← l1]; exact ha
    have rl : RepL (kwX X) Fz H (kvs.map (·.2)) (l.map (·.2)) := by rw [l3]; exact rl
    have hi := ky_rep h1 h2 hk
    subst hi
    obtain ⟨p1, p2⟩ := put_rel (ky := k) rd h2 h3 l2 rl
    have ll : l.length = kvs.length := put_len l2
    refine d_setItem (by omega) I (DPut.k (k := kyK k) (v := v) ha (by omega)) ri rv fun s' I' => ⟨_, I', ?_⟩
    have := q ((putK l (kyK k) v).map fun p => (KX.k p.1, p.2)) (KysR.ofK p1 (smp_put h3 h2)) (by rw [List.map_map]; exact p2)
    rw [dO_k] at this
    exact this
  · obtain ⟨b, rfl, tk⟩ := TK.of h1 h2 hk
    exact t_setItem hu I ha kr rl h3 hl tk ri rd rv fun es' s' g1 g2 I' => ⟨_, I', q es' g1 g2⟩
theorem set_dictG {X : Cx} {g : Gc} (hK : g.K = kwX X) (hu : X.A.units + 64 < cLine) : PSet X (rSetDX g.K) := by
  rw [hK]
  exact set_dictX hu
def gStX (g : Gc) (C : Cfg) (i : Nat) (k : E) : TG := fun v σ H Q => gSub (tVar i) (tR g (evE C k)) rSetL v σ H Q ∨ gSub (tVar i) (tR g (evE C k)) (rSetDX g.K) v σ H Q
theorem sti_go {g : Gc} {C : Cfg} {sd s : SD} {σ : L2.St} {H : Hp} {Fz : Addr → Prop} {i : Nat} {k : E} {d kk : D} {v : V} {y : Opd × SD} (S1 : SRel g sd σ H Fz) (rd : Rep g.K Fz H d v) (hml : mutAt sd i = true) (ey : evE C k sd = some y) (ek : force y.2 y.1 = some kk) (es : stiE i kk d y.2 = some s)
    {Q : L2.St → Hp → Prop} (q : ∀ H' Fz', SRel g s σ H' Fz' → Mono H Fz H' Fz' → Q σ H') : gStX g C i k v σ H Q := by
  have hx0 : ∃ a, σ[i]? = some (some (.ref a)) := by
    rcases mutAt_cases hml with ⟨xs0, q⟩ | ⟨kvs0, q⟩
    · obtain ⟨a, ws0, e1, _⟩ := S1.mls i xs0 q
      exact ⟨a, e1⟩
    · obtain ⟨a, ws0, e1, _⟩ := S1.mks i kvs0 q
      exact ⟨a, e1⟩
  obtain ⟨a, e1⟩ := hx0
  rcases stiE_ok es with ⟨xs, n, j, hxs, hn', hj, hs'⟩ | ⟨kvs, ky, hxs, hky, hl, hs'⟩
  · refine .inl ⟨_, e1, sd, Fz, y.1, y.2, S1, ey, fun w H2 Fz2 S2 E2 r2 => ?_⟩
    subst hs'
    obtain ⟨b, ws, f1, f2, f3⟩ := S2.mls i xs hxs
    rw [e1] at f1
    cases f1
    have hw := (force_rep S2 r2 (by rw [← hn']; exact ek)).int
    obtain ⟨S4, E4⟩ := S2.setMl hxs e1 f2 (RepL.set j f3 ((E2.mono S1).rep rd))
    exact ⟨a, ws, n, j, rfl, hw, f2, by rw [f3.len]; exact hj, q _ Fz2 S4 ((E2.mono S1).trans (E4.mono S2))⟩
  · refine .inr ⟨_, e1, sd, Fz, y.1, y.2, S1, ey, fun w H2 Fz2 S2 E2 r2 => ?_⟩
    subst hs'
    obtain ⟨b, ws, f1, f2, f3, f4⟩ := S2.mks i kvs hxs
    rw [e1] at f1
    cases f1
    refine ⟨a, ws, kvs, Fz2, d, kk, ky, rfl, f2, f3, f4, by rw [← lim_eq]; exact hl, force_rep S2 r2 ek, hky, (E2.mono S1).rep rd, fun es' p1 p2 => ?_⟩
    obtain ⟨S4, E4⟩ := S2.setMk hxs e1 f2 p1 p2
    exact q _ Fz2 S4 ((E2.mono S1).trans (E4.mono S2))
theorem mNs_ok (G : Good pr lv N se X) : ∀ {ts : List (Nat × Bool)} {tl : List PySem.Expr}, mNs N se ts tl = true → PGs X tl (gAll ts) ∧ (assignEach tl X.env).length = tl.length ∧ (assignEach tl X.env).findIdx? (·.1) = none ∧ ts.length = tl.length
  | [], tl, h => by
    cases tl with
    | nil => exact ⟨pgs_nil, rfl, rfl, rfl⟩
    | cons p r => simp [mNs] at h
  | (i, m) :: ts, tl, h => by
    cases tl with
    | nil => simp [mNs] at h
    | cons p r =>
      simp only [mNs] at h
      obtain ⟨h1, h2⟩ := and2 h
      split at h1
      case h_2 => cases h1
      rename_i x px hx
      have e := asNm_ok hx
      subst e
      obtain ⟨q1, q2⟩ := and2 h1
      obtain ⟨l1, l2⟩ := G.loc q2
      obtain ⟨p1, p2, p3, p4⟩ := mNs_ok G h2
      have hs : assignEach (.Name (x, px).1 (x, px).2 :: r) X.env = (false, assign (.Name (x, px).1 (x, px).2) X.env) :: assignEach r X.env := nst_assign rfl _ _
      refine ⟨pgs_cons (pg_name (by rw [G.eN]; exact G.nd) (by rw [G.eN]; exact of_decide_eq_true q1) l1 l2) p1 (by rw [hs]; rfl), ?_, ?_, ?_⟩
      · rw [hs, List.length_cons, p2, List.length_cons]
      · rw [hs, List.findIdx?_cons]
        simp [p3]
      · rw [List.length_cons, List.length_cons, p4]
theorem swNo_ok (G : Good pr lv N se X) {tl vl : List PySem.Expr} {kt k2 : Nat} {pt pt2 : Pos} (h : swNo se tl vl = true) : swappedStores [.Tuple tl kt pt] (.Tuple vl k2 pt2) X.env = pure none := by
  have lc : ∀ x, loc se x = decide (X.env.scope.names.lookup x = some .local) := fun x => by rw [G.esc]; rfl
  unfold swNo at h
  split at h
  · rename_i t1 t2 a b
    split at h
    case h_2 => cases h
    rename_i x px y py hx hy
    have e1 := asNm_ok hx
    have e2 := asNm_ok hy
    subst e1 e2
    obtain ⟨n1, n2, h⟩ := and3 h
    refine sw_no2 n1 n2 ?_
    rcases orB h with h | h
    · refine .inl fun ⟨z1, z2⟩ => ?_
      rw [lc, lc] at h
      simp [z1, z2] at h
    · exact .inr h
  · rename_i t1 t2 t3 a b c
    split at h
    case h_2 => cases h
    rename_i x px y py z pz hx hy hz
    have e1 := asNm_ok hx
    have e2 := asNm_ok hy
    have e3 := asNm_ok hz
    subst e1 e2 e3
    obtain ⟨n1, n2, n3, h⟩ := and4 h
    refine sw_no3 n1 n2 n3 ?_
    rcases orB h with h | h
    · refine .inl fun ⟨z1, z2, z3⟩ => ?_
      rw [lc, lc, lc] at h
      simp [z1, z2, z3] at h
    · exact .inr h
  · exact sw_no4 (of_decide_eq_true h)
theorem psetE_len {np : Nat} : ∀ {ts : List (Nat × Bool)} {os : List Opd} {sd s : SD}, psetE np ts os sd = some s → ts.length = os.length
  | [], [], sd, s, _ => rfl
  | [], _ :: _, sd, s, e => by simp [psetE] at e
  | _ :: _, [], sd, s, e => by simp [psetE] at e
  | (i, m) :: ts, o :: os, sd, s, e => by
    simp only [psetE] at e
    split at e
    · cases e
    · have : ∃ s1, psetE np ts os s1 = some s := by
        cases m with
        | true =>
          simp only at e
          split at e
          · exact ⟨_, e⟩
          · cases e
        | false =>
          simp only at e
          obtain ⟨d, _, e⟩ := Option.bind_eq_some_iff.mp e
          exact ⟨_, e⟩
      obtain ⟨s1, h1⟩ := this
      rw [List.length_cons, List.length_cons, psetE_len h1]
mutual
theorem sS (hn : g.np = np) : ∀ (s : S) {p : PySem.Stmt}, Good pr lv N se X → g.K = (kwX X) → X.env.scope.kind = .function → mS pr N se s p = true → PS X p (tRS g (evS (cfg pr lv np fu) s))
  | .set tg e, p, G, hK, hk, h => by
    simp only [mS] at h
    split at h
    case h_2 => cases h
    rename_i t v l hx
    obtain ⟨pos, e0, _⟩ := asAsg_ok hx
    subst e0
    obtain ⟨h1, h2, h3⟩ := and3 h
    have red : ∀ {D : Ends} {σ : L2.St} {H : Hp}, tRS g (evS (cfg pr lv np fu) (.set tg e)) D σ H → tR g (evE (cfg pr lv np fu) e) σ H (fun v H1 => tTg g np tg v σ H1 D.nx) := fun {D σ H} ⟨sd, Fz, f, sd', S, e, hend⟩ => by
      simp only [evS, Option.bind_eq_some_iff, Option.map_eq_some_iff] at e
      obtain ⟨x, ex, d, ed, s, es, e⟩ := e
      cases e
      refine ⟨sd, Fz, x.1, x.2, S, ex, fun v H1 Fz1 S1 E1 r1 => ?_⟩
      obtain ⟨Fz2, S2, m2, n2, rd⟩ := strict_rep S1 r1 ed
      exact ⟨x.2, Fz2, d, sd', S2, rd, es, fun σ' S' T' => hend σ' H1 Fz2 S' (mono_of S E1 m2)⟩
    split at h3
    · rename_i x px hy
      have e1 := asNm_ok hy
      subst e1
      cases tg with
      | n i =>
        simp only [mT, asName] at h2
        obtain ⟨q1, q2⟩ := and2 h2
        refine PS.to (ps_store (fu := fu) hn G hK hk (of_decide_eq_true q1) q2 h3 h1) fun D σ H w => ?_
        obtain ⟨sd, Fz, o, sd', S, e, k⟩ := red w
        refine ⟨sd, Fz, o, sd', S, e, fun v H1 Fz1 S1 E1 r1 => ?_⟩
        obtain ⟨sd2, Fz2, d, sd3, S2, rd, es, k2⟩ := k v H1 Fz1 S1 E1 r1
        simp only [assignT, putV] at es
        split at es
        · cases es
        · rename_i hp
          cases es
          exact k2 _ (S2.setS (s := .v d) ⟨v, rfl, rd⟩ (by rw [hn]; rw [Bool.not_eq_true] at hp; exact hp)) TgSet.one
      | t2 a b => simp [mT, asTup] at h2
      | t3 a b c => simp [mT, asTup] at h2
      | t4 a b c d => simp [mT, asTup] at h2
      | t5 a b c d e => simp [mT, asTup] at h2
    · rename_i hy
      have ht : isNm t = false := by
        cases t <;> first
          | rfl
          | (simp [asNm] at hy)
      refine PS.to (ps_asg (sET (fu := fu) hn e G hK h1).1 (pg_T G hK hn tg t h2) (sw_sole ht) (sws_or h3) ?_) fun D σ H w => red w
      have hst : nst t = true := by
        cases tg with
        | n i => cases t <;> simp [mT, asName] at h2; rfl
        | t2 a b => cases t <;> simp [mT, asTup] at h2; rfl
        | t3 a b c => cases t <;> simp [mT, asTup] at h2; rfl
        | t4 a b c d => cases t <;> simp [mT, asTup] at h2; rfl
        | t5 a b c d e => cases t <;> simp [mT, asTup] at h2; rfl
      rw [nst_assign hst]; rfl
  | .setm i e, p, G, hK, hk, h => by
    simp only [mS] at h
    split at h
    case h_2 => cases h
    rename_i t v l hx
    obtain ⟨pos, e0, _⟩ := asAsg_ok hx
    subst e0
    obtain ⟨h1, h3⟩ := and2 h
    split at h3
    case h_2 => cases h3
    rename_i x px hy
    have e1 := asNm_ok hy
    subst e1
    obtain ⟨q1, q2, q3⟩ := and3 h3
    refine PS.to (ps_store (fu := fu) hn G hK hk (of_decide_eq_true q1) q2 q3 h1) fun D σ H ⟨sd, Fz, f, sd', S, e, hend⟩ => ?_
    simp only [evS, Option.bind_eq_some_iff] at e
    obtain ⟨x, ex, e⟩ := e
    split at e
    case h_3 => cases e
    · rename_i xs hxs
      split at e
      · cases e
      rename_i hp
      cases e
      refine ⟨sd, Fz, x.1, x.2, S, ex, fun v H1 Fz1 S1 E1 r1 => ?_⟩
      rw [hxs] at r1
      obtain ⟨a, ws, rfl, q, rl, nf, nm, h0, he⟩ := r1
      have S2 := S1.setS (i := i) (s := .ml xs) (v := some (.ref a)) ⟨a, ws, rfl, q, rl, nf, nm, he⟩ (by rw [hn]; rw [Bool.not_eq_true] at hp; exact hp)
      exact hend _ H1 Fz1 S2 (E1.mono S)
    · rename_i xs hxs
      split at e
      · cases e
      rename_i hp
      cases e
      refine ⟨sd, Fz, x.1, x.2, S, ex, fun v H1 Fz1 S1 E1 r1 => ?_⟩
      rw [hxs] at r1
      obtain ⟨a, ws, rfl, q, rk, rl, nf, nm, h0, he⟩ := r1
      have S2 := S1.setS (i := i) (s := .mk xs) (v := some (.ref a)) ⟨a, ws, rfl, q, rk, rl, nf, nm, he⟩ (by rw [hn]; rw [Bool.not_eq_true] at hp; exact hp)
      exact hend _ H1 Fz1 S2 (E1.mono S)
  | .pset ts es, p, G, hK, hk, h => by
    simp only [mS] at h
    split at h
    case h_2 => cases h
    rename_i t v l hx
    obtain ⟨pos, e0, _⟩ := asAsg_ok hx
    subst e0
    rcases orB h with hA | hA
    · clear h
      split at hA
      case h_2 => cases hA
      rename_i tl vl ht hv
      obtain ⟨k1, p1, rfl⟩ := asTup_ok ht
      obtain ⟨k2, p2, rfl⟩ := asTup_ok hv
      obtain ⟨h1, h2, h3, h4⟩ := and4 hA
      obtain ⟨m1, m2, m3, m4⟩ := mNs_ok G h2
      refine PS.to (ps_asg (pe_tup (sEs (fu := fu) hn es G hK h1)) (pg_tup G.calm m1 m2 m3) (sw_sole rfl) (swNo_ok G h3) rfl) fun D σ H ⟨sd, Fz, f, sd', S, e, hend⟩ => ?_
      simp only [evS, Option.bind_eq_some_iff, Option.map_eq_some_iff] at e
      obtain ⟨x, ex, s, e1, e⟩ := e
      cases e
      refine ⟨sd, Fz, x.1, x.2, S, ex, fun vs H1 Fz1 S1 E1 r1 => ?_⟩
      have l1 := ros_len r1
      have l2 := evEs_len ex h1
      have l3 := psetE_len e1
      refine ⟨by rw [l1, l2, sizeLine_eq]; have := of_decide_eq_true h4; omega, fun q hq => ?_⟩
      obtain ⟨r2, nm⟩ := r1.rps
      obtain ⟨Fz2, S2, m5⟩ := psetE_ok hn S1 r2 nm e1
      have gr : Grow H1 (upd H1 q (.tup vs)) := Grow.upd hq
      refine ⟨q, vs, rfl, .inl (.inl upd_same), by rw [l1, ← l3, m4], gAll_ok (by rw [l1, l3]) (hend _ _ Fz2 (S2.grow gr) ((mono_of S E1 m5).trans ⟨gr.keep, fun _ z => z⟩))⟩
    clear h
    have h := hA
    clear hA
    have red : ∀ {D : Ends} {σ : L2.St} {H : Hp}, tRS g (evS (cfg pr lv np fu) (.pset ts es)) D σ H → tRs g (evEs (cfg pr lv np fu) es) σ H (fun vs H1 => D.nx (setAll σ ts vs) H1) := fun {D σ H} ⟨sd, Fz, f, sd', S, e, hend⟩ => by
      simp only [evS, Option.bind_eq_some_iff, Option.map_eq_some_iff] at e
      obtain ⟨x, ex, s, e1, e⟩ := e
      cases e
      refine ⟨sd, Fz, x.1, x.2, S, ex, fun vs H1 Fz1 S1 E1 r1 => ?_⟩
      obtain ⟨r2, nm⟩ := r1.rps
      obtain ⟨Fz2, S2, m2⟩ := psetE_ok hn S1 r2 nm e1
      exact hend _ H1 Fz2 S2 (mono_of S E1 m2)
    split at h
    · rename_i t1 t2 a b i _ j _ ht hv
      obtain ⟨k1, p1, rfl⟩ := asTup_ok ht
      obtain ⟨k2, p2, rfl⟩ := asTup_ok hv
      split at h
      case h_2 => cases h
      rename_i x px y py hx' hy'
      have e1 := asNm_ok hx'
      have e2 := asNm_ok hy'
      subst e1 e2
      obtain ⟨h, h9⟩ := and2 h
      obtain ⟨h, h8⟩ := and2 h
      obtain ⟨h, h7⟩ := and2 h
      obtain ⟨h, h6⟩ := and2 h
      obtain ⟨h, h5⟩ := and2 h
      obtain ⟨h1, h2, h3, h4⟩ := and4 h
      have lx : X.env.scope.names.lookup x = some .local := by rw [G.esc]; exact of_decide_eq_true h4
      have ly : X.env.scope.names.lookup y = some .local := by rw [G.esc]; exact of_decide_eq_true h5
      have hpl := mEs_plain h1
      obtain ⟨na, hpl2⟩ := plainL_cons hpl
      obtain ⟨nb, _⟩ := plainL_cons hpl2
      have nij : i ≠ j := fun z => by
        subst z
        have a1 := of_decide_eq_true h2
        have a2 := of_decide_eq_true h3
        rw [a1] at a2
        exact (of_decide_eq_true h7) (Option.some.inj a2)
      refine PS.to (ps_par G.calm (by rw [G.eN]; exact G.nd) (by rw [G.eN]; exact of_decide_eq_true h2) (by rw [G.eN]; exact of_decide_eq_true h3) nij lx ly (sEs (fu := fu) hn es G hK h1) (sw_par2 hk lx ly (of_decide_eq_true h6) (of_decide_eq_true h7) na nb (notb h8) (notb h9)) (sw_sole rfl)) fun D σ H w => ?_
      obtain ⟨sd, Fz, os, sd', S, e, k⟩ := red w
      refine ⟨sd, Fz, os, sd', S, e, fun vs H1 Fz1 S1 E1 r1 => ?_⟩
      have hl := ros_len r1
      have hl2 := evEs_len e h1
      have key := k vs H1 Fz1 S1 E1 r1
      match vs, hl, key with
      | [v1, v2], _, key => exact ⟨v1, v2, rfl, key⟩
      | [], hl, _ => simp [hl2] at hl
      | [_], hl, _ => simp [hl2] at hl
      | _ :: _ :: _ :: _, hl, _ => simp [hl2] at hl
    · rename_i t1 t2 t3 a b c i _ j _ l _ ht hv
      obtain ⟨k1, p1, rfl⟩ := asTup_ok ht
      obtain ⟨k2, p2, rfl⟩ := asTup_ok hv
      split at h
      case h_2 => cases h
      rename_i x px y py z pz hx' hy' hz'
      have e1 := asNm_ok hx'
      have e2 := asNm_ok hy'
      have e3 := asNm_ok hz'
      subst e1 e2 e3
      obtain ⟨h, h14⟩ := and2 h
      obtain ⟨h, h13⟩ := and2 h
      obtain ⟨h, h12⟩ := and2 h
      obtain ⟨h, h11⟩ := and2 h
      obtain ⟨h, h10⟩ := and2 h
      obtain ⟨h, h9⟩ := and2 h
      obtain ⟨h, h8⟩ := and2 h
      obtain ⟨h, h7⟩ := and2 h
      obtain ⟨h, h6⟩ := and2 h
      obtain ⟨h, h5⟩ := and2 h
      obtain ⟨h1, h2, h3, h4⟩ := and4 h
      have lx : X.env.scope.names.lookup x = some .local := by rw [G.esc]; exact of_decide_eq_true h5
      have ly : X.env.scope.names.lookup y = some .local := by rw [G.esc]; exact of_decide_eq_true h6
      have lz : X.env.scope.names.lookup z = some .local := by rw [G.esc]; exact of_decide_eq_true h7
      have hpl := mEs_plain h1
      obtain ⟨na, hpl2⟩ := plainL_cons hpl
      obtain ⟨nb, hpl3⟩ := plainL_cons hpl2
      obtain ⟨nc, _⟩ := plainL_cons hpl3
      have a1 := of_decide_eq_true h2
      have a2 := of_decide_eq_true h3
      have a3 := of_decide_eq_true h4
      have nij : i ≠ j := fun z => by
        subst z
        rw [a1] at a2
        exact (of_decide_eq_true h10) (Option.some.inj a2)
      have nil' : i ≠ l := fun z => by
        subst z
        rw [a1] at a3
        exact (of_decide_eq_true h11) (Option.some.inj a3)
      have njl : j ≠ l := fun z => by
        subst z
        rw [a2] at a3
        exact (of_decide_eq_true h12) (Option.some.inj a3)
      refine PS.to (ps_par3 G.calm (by rw [G.eN]; exact G.nd) (by rw [G.eN]; exact a1) (by rw [G.eN]; exact a2) (by rw [G.eN]; exact a3) nij nil' njl lx ly lz (sEs (fu := fu) hn es G hK h1) (sw_par3 hk lx ly lz (of_decide_eq_true h8) (of_decide_eq_true h9) (of_decide_eq_true h10) (of_decide_eq_true h11) (of_decide_eq_true h12) na nb nc (notb h13) (notb h14)) (sw_sole rfl)) fun D σ H w => ?_
      obtain ⟨sd, Fz, os, sd', S, e, k⟩ := red w
      refine ⟨sd, Fz, os, sd', S, e, fun vs H1 Fz1 S1 E1 r1 => ?_⟩
      have hl := ros_len r1
      have hl2 := evEs_len e h1
      have key := k vs H1 Fz1 S1 E1 r1
      match vs, hl, key with
      | [v1, v2, v3], _, key => exact ⟨v1, v2, v3, rfl, key⟩
      | [], hl, _ => simp [hl2] at hl
      | [_], hl, _ => simp [hl2] at hl
      | [_, _], hl, _ => simp [hl2] at hl
      | _ :: _ :: _ :: _ :: _, hl, _ => simp [hl2] at hl
    · cases h
  | .sti i k e, p, G, hK, hk, h => by
    simp only [mS] at h
    split at h
    case h_2 => cases h
    rename_i t v l hx
    obtain ⟨pos, e0, _⟩ := asAsg_ok hx
    subst e0
    split at h
    case h_2 => cases h
    rename_i o q hy
    obtain ⟨p2, rfl⟩ := asSub_ok hy
    split at h
    case h_2 => cases h
    rename_i x hz
    obtain ⟨p3, rfl⟩ := asName_ok hz
    obtain ⟨h1, h2, h3, h4⟩ := and4 h
    have ha : ∀ v, assign (.Subscript (.Name x p3) q p2) X.env v = (do
      let ov ← holding [v] (eval (.Name x p3) X.env)
      let iv ← holding [v, ov] (eval q X.env)
      standAt p2
      holding [v, ov, iv] (setItem ov iv v)
      release [v, ov, iv] []) := by
      intro v
      cases q <;> first
        | rfl
        | (simp [nsl] at h4)
    refine PS.to (ps_asg (sET (fu := fu) hn e G hK h3).1 (PG.or (pg_sub (G.var h1 p3) (sET (fu := fu) hn k G hK h2).1 set_list ha) (pg_sub (G.var h1 p3) (sET (fu := fu) hn k G hK h2).1 (set_dictG hK G.room.units) ha)) (sw_sole rfl) (sws_tg rfl) rfl) fun D σ H ⟨sd, Fz, f, sd', S, e, hend⟩ => ?_
    simp only [evS, Option.bind_eq_some_iff] at e
    obtain ⟨x', ex, e⟩ := e
    split at e
    case isFalse => cases e
    rename_i hml
    simp only [Option.bind_eq_some_iff, Option.map_eq_some_iff] at e
    obtain ⟨y, ey, d, ed, kk, ek, s, es, e⟩ := e
    cases e
    refine ⟨sd, Fz, x'.1, x'.2, S, ex, fun v H1 Fz1 S1 E1 r1 => ?_⟩
    rcases stiE_ok es with ⟨xs, n, j, hxs, hn', hj, hs'⟩ | ⟨kvs, ky, hxs, hky, hl, hs'⟩
    · have hx0 : ∃ a, σ[i]? = some (some (.ref a)) := by
        rcases mutAt_cases hml with ⟨xs0, q⟩ | ⟨kvs0, q⟩
        · obtain ⟨a, ws0, e1, _⟩ := S1.mls i xs0 q
          exact ⟨a, e1⟩
        · obtain ⟨a, ws0, e1, _⟩ := S1.mks i kvs0 q
          exact ⟨a, e1⟩
      obtain ⟨a, e1⟩ := hx0
      refine .inl ⟨_, e1, x'.2, Fz1, y.1, y.2, S1, ey, fun w H2 Fz2 S2 E2 r2 => ?_⟩
      subst hs'
      obtain ⟨b, ws, f1, f2, f3⟩ := S2.mls i xs hxs
      rw [e1] at f1
      cases f1
      have hw := (force_rep S2 r2 (by rw [← hn']; exact ek)).int
      obtain ⟨Fz3, S3, m3, n3, rd⟩ := strict_rep S2 (r1.ext S1 E2) ed
      obtain ⟨S4, E4⟩ := S3.setMl hxs e1 f2 (RepL.set j (RepL.keep Keep.refl m3 _ _ f3) rd)
      exact ⟨a, ws, n, j, rfl, hw, f2, by rw [f3.len]; exact hj, hend σ _ Fz3 S4 (((E1.mono S).trans (mono_of S1 E2 m3)).trans (E4.mono S3))⟩
    · have hx0 : ∃ a, σ[i]? = some (some (.ref a)) := by
        rcases mutAt_cases hml with ⟨xs0, q⟩ | ⟨kvs0, q⟩
        · obtain ⟨a, ws0, e1, _⟩ := S1.mls i xs0 q
          exact ⟨a, e1⟩
        · obtain ⟨a, ws0, e1, _⟩ := S1.mks i kvs0 q
          exact ⟨a, e1⟩
      obtain ⟨a, e1⟩ := hx0
      refine .inr ⟨_, e1, x'.2, Fz1, y.1, y.2, S1, ey, fun w H2 Fz2 S2 E2 r2 => ?_⟩
      subst hs'
      obtain ⟨b, ws, f1, f2, f3, f4⟩ := S2.mks i kvs hxs
      rw [e1] at f1
      cases f1
      obtain ⟨Fz3, S3, m3, n3, rd⟩ := strict_rep S2 (r1.ext S1 E2) ed
      refine ⟨a, ws, kvs, Fz3, d, kk, ky, rfl, f2, f3, RepL.keep Keep.refl m3 _ _ f4, by rw [← lim_eq]; exact hl, force_more m3 (force_rep S2 r2 ek), hky, rd, fun es' p1 p2 => ?_⟩
      obtain ⟨S4, E4⟩ := S3.setMk hxs e1 f2 p1 p2
      exact hend σ _ Fz3 S4 (((E1.mono S).trans (mono_of S1 E2 m3)).trans (E4.mono S3))
  | .sti2 i k j l a b, p, G, hK, hk, h => by
    simp only [mS] at h
    split at h
    case h_2 => cases h
    rename_i t v ln hx
    obtain ⟨pos, e0, _⟩ := asAsg_ok hx
    subst e0
    split at h
    case h_2 => cases h
    rename_i t1 t2 x y ht hv
    obtain ⟨kt, pt, rfl⟩ := asTup_ok ht
    obtain ⟨k2, pt2, rfl⟩ := asTup_ok hv
    split at h
    case h_2 => cases h
    rename_i o1 q1 o2 q2 hs1 hs2
    obtain ⟨p1, rfl⟩ := asSub_ok hs1
    obtain ⟨p2, rfl⟩ := asSub_ok hs2
    split at h
    case h_2 => cases h
    rename_i x1 x2 hz1 hz2
    obtain ⟨p3, rfl⟩ := asName_ok hz1
    obtain ⟨p4, rfl⟩ := asName_ok hz2
    obtain ⟨h, m10⟩ := and2 h
    obtain ⟨h, m9⟩ := and2 h
    obtain ⟨h, m8⟩ := and2 h
    obtain ⟨h, m7⟩ := and2 h
    obtain ⟨h, m6⟩ := and2 h
    obtain ⟨h, m5⟩ := and2 h
    obtain ⟨m1, m2, m3, m4⟩ := and4 h
    have hu2 : X.A.units + 1 < cLine := by have := G.room.units; omega
    have pg1 : PG X (.Subscript (.Name x1 p3) q1 p1) (gStX g (cfg pr lv np fu) i k) := PG.or (pg_sub (G.var m1 p3) (sET (fu := fu) hn k G hK m2).1 set_list (asgSub m3)) (pg_sub (G.var m1 p3) (sET (fu := fu) hn k G hK m2).1 (set_dictG hK G.room.units) (asgSub m3))
    have pg2 : PG X (.Subscript (.Name x2 p4) q2 p2) (gStX g (cfg pr lv np fu) j l) := PG.or (pg_sub (G.var m4 p4) (sET (fu := fu) hn l G hK m5).1 set_list (asgSub m6)) (pg_sub (G.var m4 p4) (sET (fu := fu) hn l G hK m5).1 (set_dictG hK G.room.units) (asgSub m6))
    have a1 : assignEach [.Subscript (.Name x1 p3) q1 p1, .Subscript (.Name x2 p4) q2 p2] X.env = (false, assign (.Subscript (.Name x1 p3) q1 p1) X.env) :: assignEach [.Subscript (.Name x2 p4) q2 p2] X.env := nst_assign rfl _ _
    have a2 : assignEach [.Subscript (.Name x2 p4) q2 p2] X.env = (false, assign (.Subscript (.Name x2 p4) q2 p2) X.env) :: assignEach [] X.env := nst_assign rfl _ _
    refine PS.to (ps_asg (pe_tup (pa_cons (sET (fu := fu) hn a G hK m7).1 (pa_cons (sET (fu := fu) hn b G hK m8).1 pa_nil (nst_star m10 _ _)) (nst_star m9 _ _))) (pg_tup (n := 2) G.calm (pgs_cons pg1 (pgs_cons pg2 pgs_nil (by rw [a2]; rfl)) (by rw [a1]; rfl)) (by rw [a1, a2]; rfl) (by rw [a1, a2]; rfl)) (sw_sole rfl) sw_subs rfl) fun D σ H ⟨sd, Fz, f, sd', S, e, hend⟩ => ?_
    simp only [evS, Option.bind_eq_some_iff] at e
    obtain ⟨x', ex, y', ey, d, ed, d', ed', e⟩ := e
    split at e
    case isFalse => cases e
    rename_i hm1
    simp only [Option.bind_eq_some_iff] at e
    obtain ⟨z, ez, kk, ek, s, es, e⟩ := e
    split at e
    case isFalse => cases e
    rename_i hm2
    simp only [Option.bind_eq_some_iff, Option.map_eq_some_iff] at e
    obtain ⟨w, ew, ll, el, s', es', e⟩ := e
    cases e
    refine ⟨sd, Fz, x'.1, x'.2, S, ex, fun v H1 Fz1 S1 E1 r1 => ⟨x'.2, Fz1, y'.1, y'.2, S1, ey, fun v' H2 Fz2 S2 E2 r2 => ⟨by rw [sizeLine_eq]; show 2 ≤ _; omega, fun q hq => ?_⟩⟩⟩
    have rd1 : Rep g.K Fz2 H2 d v := by
      have r1' := r1.ext S1 E2
      generalize x'.1 = o at ed r1'
      cases o <;> simp only [valO] at ed <;> try (cases ed; done)
      cases ed
      exact r1'
    have rd2 : Rep g.K Fz2 H2 d' v' := by
      generalize y'.1 = o at ed' r2
      cases o <;> simp only [valO] at ed' <;> try (cases ed'; done)
      cases ed'
      exact r2
    have gr : Grow H2 (upd H2 q (.tup [v, v'])) := Grow.upd hq
    have M0 : Mono H2 Fz2 (upd H2 q (.tup [v, v'])) Fz2 := ⟨gr.keep, fun _ z => z⟩
    exact ⟨q, [v, v'], rfl, .inl (.inl upd_same), rfl, v, [v'], rfl, sti_go (S2.grow gr) (M0.rep rd1) hm1 ez ek es fun H4 Fz4 S4 M4 => ⟨v', [], rfl, sti_go S4 (M4.rep (M0.rep rd2)) hm2 ew el es' fun H5 Fz5 S5 M5 => ⟨rfl, hend σ H5 Fz5 S5 ((((E1.mono S).trans (E2.mono S1)).trans M0).trans (M4.trans M5))⟩⟩⟩
  | .aug i o e, p, G, hK, hk, h => by
    simp only [mS] at h
    split at h
    case h_2 => cases h
    rename_i t op v hx
    obtain ⟨pos, e0⟩ := asAug_ok hx
    subst e0
    split at h
    case h_2 => cases h
    rename_i x hz
    obtain ⟨p3, rfl⟩ := asName_ok hz
    obtain ⟨h1, h2, h3, h4⟩ := and4 h
    have h4 := of_decide_eq_true h4
    obtain ⟨l1, l2⟩ := G.loc h2
    have fin : ∀ (op' : Op) (fn : Int → Int → Int), (op' = .add ∧ fn = (fun i j => i + j) ∨ op' = .sub ∧ fn = (fun i j => i - j)) → ∀ D σ H, tRS g (evS (cfg pr lv np fu) (.aug i op' e)) D σ H → tAug i (tR g (evE (cfg pr lv np fu) e)) (ipI fn) D σ H := by
      intro op' fn hop D σ H ⟨sd, Fz, f, sd', S, e, hend⟩
      simp only [evS] at e
      split at e
      case h_2 => cases e
      rename_i x hx'
      simp only [Option.bind_eq_some_iff] at e
      obtain ⟨y, ey, e⟩ := e
      split at e
      case h_2 => cases e
      rename_i a b hb
      obtain ⟨w, e1, rw1⟩ := S.vals i _ hx'
      simp only [Rep] at rw1
      subst rw1
      refine ⟨_, e1, sd, Fz, y.1, y.2, S, ey, fun v H1 Fz1 S1 E1 r1 => ?_⟩
      rw [hb] at r1
      have r1 : Rep g.K Fz1 H1 (.int b) v := r1
      simp only [Rep] at r1
      refine ⟨a, b, rfl, r1, ?_⟩
      have put : (putV (cfg pr lv np fu).np i (.int (fn a b)) y.2).map (fun s => (Fl.next, s)) = some (f, sd') := by
        rcases hop with ⟨rfl, rfl⟩ | ⟨rfl, rfl⟩ <;> exact e
      obtain ⟨s, es, e⟩ := Option.map_eq_some_iff.mp put
      cases e
      unfold putV at es
      split at es
      · cases es
      rename_i hp
      cases es
      have S2 := S1.setS (i := i) (s := .v (.int (fn a b))) (v := some (.int (fn a b))) ⟨_, rfl, by simp only [Rep]⟩ (by rw [hn]; rw [Bool.not_eq_true] at hp; exact hp)
      exact hend _ H1 Fz1 S2 (E1.mono S)
    cases o <;> simp only [augP] at h4 <;> try (cases h4; done)
    · cases h4
      exact PS.to (ps_aug (by rw [G.eN]; exact G.nd) (by rw [G.eN]; exact of_decide_eq_true h1) l1 (sET hn e G hK h3).1 ip_add l2) (fin .add _ (.inl ⟨rfl, rfl⟩))
    · cases h4
      exact PS.to (ps_aug (by rw [G.eN]; exact G.nd) (by rw [G.eN]; exact of_decide_eq_true h1) l1 (sET hn e G hK h3).1 ip_sub l2) (fin .sub _ (.inr ⟨rfl, rfl⟩))
  | .ex e, p, G, hK, hk, h => by
    simp only [mS] at h
    split at h
    case h_2 => cases h
    rename_i v hx
    obtain ⟨pos, e0⟩ := asExpr_ok hx
    subst e0
    obtain ⟨h1, h2⟩ := and2 h
    refine PS.to (ps_expr (sET (fu := fu) hn e G hK h1).1 (sw_none h2)) fun D σ H ⟨sd, Fz, f, sd', S, e, hend⟩ => ?_
    simp only [evS, Option.map_eq_some_iff] at e
    obtain ⟨x, ex, e⟩ := e
    cases e
    exact ⟨sd, Fz, x.1, x.2, S, ex, fun v H1 Fz1 S1 E1 r1 => hend σ H1 Fz1 S1 (E1.mono S)⟩
  | .ret e, p, G, hK, hk, h => by
    simp only [mS] at h
    split at h
    case h_2 => cases h
    rename_i v hx
    obtain ⟨pos, e0⟩ := asRet_ok hx
    subst e0
    refine PS.to (ps_ret (sET (fu := fu) hn e G hK h).1) fun D σ H ⟨sd, Fz, f, sd', S, e, hend⟩ => ?_
    simp only [evS, Option.bind_eq_some_iff] at e
    obtain ⟨x, ex, e⟩ := e
    split at e
    · cases e
    · cases e
      refine ⟨sd, Fz, x.1, x.2, S, ex, fun v H1 Fz1 S1 E1 r1 => ?_⟩
      exact hend σ H1 Fz1 S1 (E1.mono S) v H r1
  | .retn, p, G, hK, hk, h => by
    simp only [mS] at h
    split at h
    case h_2 => cases h
    rename_i hx
    obtain ⟨pos, e0⟩ := asRet_ok hx
    subst e0
    refine PS.to ps_retN fun D σ H ⟨sd, Fz, f, sd', S, e, hend⟩ => ?_
    simp only [evS] at e
    cases e
    exact hend σ H Fz S Mono.refl .non H (by simp only [RepO, Rep])
  | .ife c a b, p, G, hK, hk, h => by
    simp only [mS] at h
    split at h
    case h_2 => cases h
    rename_i q x y hx
    obtain ⟨pos, e0⟩ := asIfS_ok hx
    subst e0
    obtain ⟨h1, h2, h3⟩ := and3 h
    refine PS.to (ps_if (sET (fu := fu) hn c G hK h1).2 (sSs hn a G hK hk h2) (sSs hn b G hK hk h3)) fun D σ H ⟨sd, Fz, f, sd', S, e, hend⟩ => ?_
    simp only [evS, Option.bind_eq_some_iff] at e
    obtain ⟨x', ex, t, et, e⟩ := e
    refine ⟨sd, Fz, t, x'.2, S, by simp only [evT, ex, Option.bind_some, et, Option.map_some], fun H1 Fz1 S1 E1 => ?_⟩
    cases t with
    | true =>
      simp only [if_true] at e ⊢
      exact ⟨x'.2, Fz1, f, sd', S1, e, fun σ' H' Fz' S' M' => hend σ' H' Fz' S' ((E1.mono S).trans M')⟩
    | false =>
      simp only [Bool.false_eq_true, if_false] at e ⊢
      exact ⟨x'.2, Fz1, f, sd', S1, e, fun σ' H' Fz' S' M' => hend σ' H' Fz' S' ((E1.mono S).trans M')⟩
  | .for_ tg it b, p, G, hK, hk, h => by
    simp only [mS] at h
    split at h
    case h_2 => cases h
    rename_i t q x hx
    obtain ⟨pos, e0⟩ := asFor_ok hx
    subst e0
    obtain ⟨h1, h2, h3, h4⟩ := and4 h
    exact PS.to (ps_for (by rw [G.xe]; exact PassesOwn.never) G.calm (sIt hn it G hK h2 h1) (pg_row G hK hn tg t h1) (sSs hn b G hK hk h3) (nset_fold h4 _)) fun D σ H w => for_read w
  | .whl c b, p, G, hK, hk, h => by
    simp only [mS] at h
    split at h
    case h_2 => cases h
    rename_i q x hx
    obtain ⟨pos, e0⟩ := asWhl_ok hx
    subst e0
    obtain ⟨h1, h2⟩ := and2 h
    exact PS.to (ps_while (by rw [G.xe]; exact PassesOwn.never) (sET hn c G hK h1).2 (sSs hn b G hK hk h2)) fun D σ H w => whl_read w
  | .brk, p, G, hK, hk, h => by
    simp only [mS] at h
    cases p <;> simp only [asBrk] at h <;> try (cases h; done)
    refine PS.to ps_break fun D σ H ⟨sd, Fz, f, sd', S, e, hend⟩ => ?_
    simp only [evS] at e
    cases e
    exact hend σ H Fz S Mono.refl
  | .cont, p, G, hK, hk, h => by
    simp only [mS] at h
    cases p <;> simp only [asCnt] at h <;> try (cases h; done)
    refine PS.to ps_continue fun D σ H ⟨sd, Fz, f, sd', S, e, hend⟩ => ?_
    simp only [evS] at e
    cases e
    exact hend σ H Fz S Mono.refl
  | .any, p, G, hK, hk, h => by
    refine ⟨fun pins s σ H D I q => ?_⟩
    obtain ⟨sd, Fz, f, sd', S, e, _⟩ := q
    simp [evS] at e
  | .pass, p, G, hK, hk, h => by
    simp only [mS] at h
    have fin : ∀ {D : Ends} {σ : L2.St} {H : Hp}, tRS g (evS (cfg pr lv np fu) .pass) D σ H → tNext D σ H := fun {D σ H} ⟨sd, Fz, f, sd', S, e, hend⟩ => by
      simp only [evS] at e
      cases e
      exact hend σ H Fz S Mono.refl
    unfold asDoc at h
    split at h
    · exact PS.to ps_pass fun D σ H w => fin w
    · exact PS.to ps_doc fun D σ H w => fin w
    · cases h
theorem sSs (hn : g.np = np) : ∀ (ss : Ss) {ps : List PySem.Stmt}, Good pr lv N se X → g.K = (kwX X) → X.env.scope.kind = .function → mSs pr N se ss ps = true → PSs X ps (tRS g (evSs (cfg pr lv np fu) ss))
  | .nil, ps, G, hK, hk, h => by
    cases ps with
    | cons p q => simp [mSs] at h
    | nil =>
      refine PSs.to pss_nil fun D σ H ⟨sd, Fz, f, sd', S, e, hend⟩ => ?_
      simp only [evSs] at e
      cases e
      exact hend σ H Fz S Mono.refl
  | .cons s r, ps, G, hK, hk, h => by
    cases ps with
    | nil => simp [mSs] at h
    | cons p q =>
      simp only [mSs] at h
      obtain ⟨h1, h2⟩ := and2 h
      refine PSs.to (pss_cons (sS hn s G hK hk h1) (sSs hn r G hK hk h2)) fun D σ H ⟨sd, Fz, f, sd', S, e, hend⟩ => ?_
      simp only [evSs, Option.bind_eq_some_iff] at e
      obtain ⟨x, ex, e⟩ := e
      refine ⟨sd, Fz, x.1, x.2, S, ex, fun σ1 H1 Fz1 S1 M1 => ?_⟩
      split at e
      · rename_i hx
        rw [hx]
        exact ⟨x.2, Fz1, f, sd', S1, e, fun σ' H' Fz' S' M' => hend σ' H' Fz' S' (M1.trans M')⟩
      · rename_i hx
        cases e
        have q := hend σ1 H1 Fz1 S1 M1
        cases hf : x.1 with
        | next => exact absurd hf hx
        | brk => rw [hf] at q; exact q
        | cont => rw [hf] at q; exact q
        | ret o => rw [hf] at q; exact q
end
end
end Ev

set_option linter.all false
set_option autoImplicit false
set_option Elab.async false
set_option maxRecDepth 100000
set_option maxHeartbeats 4000000
/-! EvL: every def keeps the evaluator's promise. -/
namespace Ev
open PySem PySem.Spec L2
section
variable {K : KW} {Fz : Addr → Prop} {H : Hp}
theorem AR.len : ∀ {as : List Sl} {vs : List V}, AR K Fz H as vs → vs.length = as.length
  | [], vs, h => by rw [show vs = [] from h]; rfl
  | s :: ss, vs, h => by
    obtain ⟨v, r, rfl, _, h2⟩ := h
    simp [AR.len h2]
theorem AR.get : ∀ {as : List Sl} {vs : List V} {i : Nat} {s : Sl}, AR K Fz H as vs → as[i]? = some s → ∃ v, vs[i]? = some v ∧ (match s with
      | .none => False
      | .v d => Rep K Fz H d v
      | .ml xs => ∃ a ws, v = .ref a ∧ H a = some (.lst ws) ∧ RepL K Fz H xs ws ∧ ¬ Fz a
      | .mk kvs => ∃ a es, v = .ref a ∧ H a = some (dO K.w a es) ∧ KysR K H (kvs.map (·.1)) (es.map (·.1)) ∧ RepL K Fz H (kvs.map (·.2)) (es.map (·.2)) ∧ ¬ Fz a)
  | [], vs, i, s, h, e => by simp at e
  | x :: ss, vs, i, s, h, e => by
    obtain ⟨v, r, rfl, h1, h2⟩ := h
    cases i with
    | zero =>
      simp at e
      subst e
      exact ⟨v, rfl, h1⟩
    | succ i => simpa using AR.get h2 (by simpa using e)
def mpOf (as : List Sl) (vs : List V) (i : Nat) : Option Addr := match as[i]?, vs[i]? with
  | some s, some (.ref a) => if isMut s then some a else none
  | _, _ => none
theorem mpOf_ok {as : List Sl} {vs : List V} {i : Nat} {a : Addr} (h : mpOf as vs i = some a) : ∃ s, as[i]? = some s ∧ vs[i]? = some (.ref a) ∧ isMut s = true := by
  unfold mpOf at h
  split at h
  · rename_i s b h1 h2
    split at h
    · rename_i hm
      cases h
      exact ⟨s, h1, h2, hm⟩
    · cases h
  · cases h
theorem mpOf_mk {as : List Sl} {vs : List V} {i : Nat} {a : Addr} {s : Sl} (h1 : as[i]? = some s) (h2 : vs[i]? = some (.ref a)) (hm : isMut s = true) : mpOf as vs i = some a := by
  unfold mpOf
  rw [h1, h2]
  simp [hm]
theorem muA_get : ∀ {as : List Sl} {vs : List V} {i : Nat} {s : Sl} {a : Addr}, as[i]? = some s → vs[i]? = some (.ref a) → isMut s = true → a ∈ muA as vs
  | [], vs, i, s, a, h1, h2, hm => by simp at h1
  | x :: ss, [], i, s, a, h1, h2, hm => by simp at h2
  | x :: ss, v :: vs, 0, s, a, h1, h2, hm => by
    simp at h1 h2
    subst h1 h2
    simp [muA, hm]
  | x :: ss, v :: vs, i + 1, s, a, h1, h2, hm => by
    simp only [muA, List.mem_append]
    exact .inr (muA_get (by simpa using h1) (by simpa using h2) hm)
theorem muA_mem : ∀ {as : List Sl} {vs : List V} {a : Addr}, a ∈ muA as vs → ∃ (i : Nat) (s : Sl), as[i]? = some s ∧ vs[i]? = some (V.ref a) ∧ isMut s = true
  | [], vs, a, h => by simp [muA] at h
  | x :: ss, [], a, h => by simp [muA] at h
  | x :: ss, v :: vs, a, h => by
    simp only [muA, List.mem_append] at h
    rcases h with h | h
    · cases hm : isMut x with
      | false => rw [hm] at h; simp at h
      | true =>
        rw [hm] at h
        cases v <;> simp at h
        subst h
        exact ⟨0, x, rfl, rfl, hm⟩
    · obtain ⟨i, s, h1, h2, h3⟩ := muA_mem h
      exact ⟨i + 1, s, by simpa using h1, by simpa using h2, h3⟩
theorem muA_inj : ∀ {as : List Sl} {vs : List V} {i j : Nat} {s t : Sl} {a : Addr}, (muA as vs).Nodup → as[i]? = some s → vs[i]? = some (.ref a) → isMut s = true → as[j]? = some t → vs[j]? = some (.ref a) → isMut t = true → i = j
  | [], vs, i, j, s, t, a, n, h1, _, _, _, _, _ => by simp at h1
  | x :: ss, [], i, j, s, t, a, n, _, h2, _, _, _, _ => by simp at h2
  | x :: ss, v :: vs, i, j, s, t, a, n, h1, h2, h3, k1, k2, k3 => by
    simp only [muA] at n
    obtain ⟨n1, n2, n3⟩ := List.nodup_append.mp n
    cases i with
    | zero =>
      cases j with
      | zero => rfl
      | succ j =>
        simp at h1 h2
        subst h1 h2
        have := muA_get (as := ss) (vs := vs) (i := j) (by simpa using k1) (by simpa using k2) k3
        exact absurd rfl (n3 a (by simp [h3]) a this)
    | succ i =>
      cases j with
      | zero =>
        simp at k1 k2
        subst k1 k2
        have := muA_get (as := ss) (vs := vs) (i := i) (by simpa using h1) (by simpa using h2) h3
        exact absurd rfl (n3 a (by simp [k3]) a this)
      | succ j =>
        have := muA_inj (as := ss) (vs := vs) n2 (by simpa using h1) (by simpa using h2) h3 (by simpa using k1) (by simpa using k2) k3
        rw [this]
/-- a def's frame at its entry -/
def sd0 (as : List Sl) (n : Nat) : SD := as ++ List.replicate (n - as.length) .none
theorem sd0_get {as : List Sl} {n i : Nat} {s : Sl} (h : (sd0 as n)[i]? = some s) (hs : s ≠ .none) : as[i]? = some s := by
  unfold sd0 at h
  rw [List.getElem?_append] at h
  split at h
  · exact h
  · obtain ⟨_, e⟩ := List.getElem?_eq_some_iff.mp h
    rw [List.getElem_replicate] at e
    exact absurd e.symm hs
theorem sd0_mut {as : List Sl} {n i : Nat} (h : mutAt (sd0 as n) i = true) : ∃ s, as[i]? = some s ∧ isMut s = true := by
  unfold mutAt at h
  split at h
  · rename_i s e
    exact ⟨s, sd0_get e (fun z => by subst z; cases h), h⟩
  · cases h
theorem sd0_of {as : List Sl} {n i : Nat} {s : Sl} (h : as[i]? = some s) : (sd0 as n)[i]? = some s := by
  unfold sd0
  rw [List.getElem?_append_left (List.getElem?_eq_some_iff.mp h).1]
  exact h
theorem start_of {N : List Str} {vs : List V} {i : Nat} {v : V} (h : vs[i]? = some v) : (L2.start N vs)[i]? = some (some v) := by
  unfold L2.start
  rw [List.getElem?_append_left (by rw [List.length_map]; exact (List.getElem?_eq_some_iff.mp h).1), List.getElem?_map, h]
  rfl
theorem start_rel {as : List Sl} {vs : List V} {N : List Str} (A : AR K Fz H as vs) (nd : (muA as vs).Nodup) (fzH : ∀ a, Fz a → ∃ o, H a = some o) (hn : as.length ≤ N.length) :
    SRel ⟨K, H, Fz, mpOf as vs, as.length⟩ (sd0 as N.length) (L2.start N vs) H Fz := by
  have vl := A.len
  have at' : ∀ {i : Nat} {v : V} {x : V}, vs[i]? = some v → (L2.start N vs)[i]? = some (some x) → v = x := fun {i v x} h e => by
    rw [start_of h] at e
    exact Option.some.inj (Option.some.inj e)
  have mm : ∀ {i : Nat} {a : Addr}, mutAt (sd0 as N.length) i = true → (L2.start N vs)[i]? = some (some (.ref a)) → ∃ s, as[i]? = some s ∧ isMut s = true ∧ vs[i]? = some (.ref a) := fun {i a} h e => by
    obtain ⟨s, h1, h2⟩ := sd0_mut h
    obtain ⟨v, hv, _⟩ := A.get h1
    have := at' hv e
    subst this
    exact ⟨s, h1, h2, hv⟩
  refine ⟨?_, fun i d h => ?_, fun i xs h => ?_, fun i kvs h => ?_, fun i a h e => ?_, fun i j a h1 h2 e1 e2 => ?_, fun i a h => ?_, fun a h => .inl h, fun a h => h, fun a o h _ => h, fzH⟩
  · unfold sd0 L2.start
    rw [List.length_append, List.length_append, List.length_replicate, List.length_replicate, List.length_map, vl]
  · obtain ⟨v, hv, r⟩ := A.get (sd0_get h (by simp))
    exact ⟨v, start_of hv, r⟩
  · obtain ⟨v, hv, a, ws, rfl, e, r, _⟩ := A.get (sd0_get h (by simp))
    exact ⟨a, ws, start_of hv, e, r⟩
  · obtain ⟨v, hv, a, ws, rfl, e, z, r, _⟩ := A.get (sd0_get h (by simp))
    exact ⟨a, ws, start_of hv, e, z, r⟩
  · obtain ⟨s, h1, h2, hv⟩ := mm h e
    refine ⟨?_, .inl (mpOf_mk h1 hv h2)⟩
    obtain ⟨v, hv', r⟩ := A.get h1
    rw [hv] at hv'
    cases hv'
    cases s with
    | none => cases h2
    | v d => cases h2
    | ml xs =>
      obtain ⟨b, ws, e1, _, _, nf⟩ := r
      cases e1
      exact nf
    | mk kvs =>
      obtain ⟨b, ws, e1, _, _, _, nf⟩ := r
      cases e1
      exact nf
  · obtain ⟨s, a1, a2, a3⟩ := mm h1 e1
    obtain ⟨t, b1, b2, b3⟩ := mm h2 e2
    exact muA_inj nd a1 a3 a2 b1 b3 b2
  · obtain ⟨s, h1, h2, h3⟩ := mpOf_ok h
    refine ⟨(List.getElem?_eq_some_iff.mp h1).1, ?_, start_of h2⟩
    unfold mutAt
    rw [sd0_of h1]
    exact h3
/-- the changed parameters, behind -/
theorem out_ok {H' : Hp} {Fz' : Addr → Prop} : ∀ {ms : List Bool} {as : List Sl} {vs : List V} {sdt : SD}, argsFit ms as = true → vs.length = as.length →
    (∀ (i : Nat) (s : Sl) (a : Addr), as[i]? = some s → isMut s = true → vs[i]? = some (V.ref a) → ∃ t : Sl, sdt[i]? = some t ∧ (match t with
      | .ml xs => ∃ ws, H' a = some (.lst ws) ∧ RepL K Fz' H' xs ws
      | .mk kvs => ∃ es, H' a = some (dO K.w a es) ∧ KysR K H' (kvs.map (·.1)) (es.map (·.1)) ∧ RepL K Fz' H' (kvs.map (·.2)) (es.map (·.2))
      | _ => False)) → (∀ (i : Nat) (s : Sl), as[i]? = some s → isMut s = true → ∃ a : Addr, vs[i]? = some (V.ref a)) → OutR K Fz' H' (outs ms sdt) (muA as vs)
  | [], [], vs, sdt, f, hl, h, hr => by
    have : vs = [] := by simpa using hl
    subst this
    simp [outs, muA, OutR]
  | [], _ :: _, vs, sdt, f, hl, h, hr => by simp [argsFit] at f
  | _ :: _, [], vs, sdt, f, hl, h, hr => by simp [argsFit] at f
  | m :: ms, s :: as, [], sdt, f, hl, h, hr => by simp at hl
  | m :: ms, s :: as, v :: vs, [], f, hl, h, hr => by
    have e : muA (s :: as) (v :: vs) = [] := by
      refine List.eq_nil_iff_forall_not_mem.mpr fun a ha => ?_
      obtain ⟨i, s', h1, h2, h3⟩ := muA_mem ha
      obtain ⟨t, ht, _⟩ := h i s' a h1 h3 h2
      simp at ht
    rw [e]
    cases m <;> simp [outs, OutR]
  | m :: ms, s :: as, v :: vs, t :: sdt, f, hl, h, hr => by
    simp only [argsFit] at f
    obtain ⟨f1, f2⟩ := and2 f
    have ih := out_ok (ms := ms) (as := as) (vs := vs) (sdt := sdt) f2 (by simpa using hl) (fun i s' a h1 h2 h3 => by simpa using h (i + 1) s' a (by simpa using h1) h2 (by simpa using h3)) (fun i s' h1 h2 => by simpa using hr (i + 1) s' (by simpa using h1) h2)
    have hm : isMut s = m := by
      cases s <;> simp at f1 <;> exact f1
    cases m with
    | true =>
      obtain ⟨a, ha⟩ := hr 0 s rfl hm
      simp at ha
      subst ha
      obtain ⟨t', ht, q⟩ := h 0 s a rfl hm rfl
      simp at ht
      subst ht
      simp only [outs, muA, hm, List.cons_append, List.nil_append]
      exact ⟨a, _, rfl, q, ih⟩
    | false =>
      simp only [outs, muA, hm, List.nil_append]
      exact ih
end
/-! ### the check of a def -/
def fnScB (N ps : List Str) (sc : Scope) : Bool := (match sc.kind with
    | .function => true
    | _ => false) && !sc.isCoroutine && !sc.isGenerator && decide N.Nodup && decide (N.take ps.length = ps) && (ps.all fun x => match sc.names.lookup x with
      | some .local => true
      | some .cell => true
      | _ => false) && (sc.names.all fun y => match y.2 with
      | .free => false
      | _ => true)
theorem fnScB_ok {N ps : List Str} {sc : Scope} (h : fnScB N ps sc = true) : FnScope N ps sc := by
  unfold fnScB at h
  obtain ⟨h, h7⟩ := and2 h
  obtain ⟨h, h6⟩ := and2 h
  obtain ⟨h, h5⟩ := and2 h
  obtain ⟨h1, h2, h3, h4⟩ := and4 h
  refine ⟨?_, notb h2, notb h3, of_decide_eq_true h4, of_decide_eq_true h5, fun x hx => ?_, fun y hy e => ?_⟩
  · split at h1
    · assumption
    · cases h1
  · rw [List.all_eq_true] at h6
    have := h6 x hx
    split at this
    · exact .inl (by assumption)
    · exact .inr (by assumption)
    · cases this
  · rw [List.all_eq_true] at h7
    have := h7 y hy
    rw [e] at this
    cases this
/-- a def's text -/
structure Tx where
  N : List Str
  params : Arguments
  body : List PySem.Stmt
  scope : Scope
def defB (pr : Pr) (f : Nat) (fn : Fn) (t : Tx) : Bool := fnScB t.N (pr.ps f) t.scope && mSs pr t.N ⟨t.scope, t.scope⟩ fn.body t.body && decide (fn.n = t.N.length) && decide (fn.np = (pr.ps f).length)
/-- what is known of the written part -/
structure Facts (K : KW) (mg : Str → Option Value) (pr : Pr) (tx : Nat → Tx) : Prop where
  globs : ∀ g, g ∈ pr.gs → ∃ u v, mg (pr.gn g) = some u ∧ RelV v u ∧ ∀ Fz H, Rep K Fz H (pr.gl g) v
  blt : ∀ x, x ∈ pr.bl → mg x = none
  defs : ∀ f fn, pr.P f = some fn → defB pr f fn (tx f) = true ∧ ∃ a fd, mg (pr.fn f) = some (.ref a) ∧ FunD K.f (pr.fn f) (pr.fn f) (tx f).params (tx f).body (tx f).scope [] [] a fd ∧ Binds K.f fd (pr.ps f) []
theorem lv_ok {P : Program} {w : World} {K : PySem.W.Frag} {mg : Str → Option Value} {base : Heap} {pr : Pr} {tx : Nat → Tx} (F : Facts ⟨K, w⟩ mg pr tx) : ∀ (lv f : Nat) (fn : Fn) (a : Addr) (fd : FuncData), pr.P f = some fn → mg (pr.fn f) = some (.ref a) →
    FunD K (pr.fn f) (pr.fn f) (tx f).params (tx f).body (tx f).scope [] [] a fd → FnG P w K mg base lv a fd (pr.ps f) (spF ⟨K, w⟩ pr lv f)
  | 0, f, fn, a, fd, hf, hm, FD => by
    refine ⟨fun vs H Q E h => h.1, fun A outer s H args us vs Q E _ _ _ _ _ h => ?_⟩
    obtain ⟨_, as, Fz, r, os, e, _⟩ := h
    simp [evF] at e
  | lv + 1, f, fn, a, fd, hf, hm, FD => by
    obtain ⟨chk, _⟩ := F.defs f fn hf
    unfold defB at chk
    obtain ⟨c1, c2, c3, c4⟩ := and4 chk
    have SC := fnScB_ok c1
    have c3 := of_decide_eq_true c3
    have c4 := of_decide_eq_true c4
    refine fnG_of FD SC (fun vs H Q E h => h.1) fun cdv A outer s H vs Q E g0 hr h => ?_
    obtain ⟨hl, as, Fz, r, os, e, AR0, nd, fzH, k⟩ := h
    simp only [evF, hf] at e
    split at e
    case isFalse => cases e
    rename_i hfit
    obtain ⟨fit, hnp⟩ := and2 hfit
    have hnp := of_decide_eq_true hnp
    have al : as.length = fn.np := by rw [← AR0.len, hl, c4]
    have hNl : as.length ≤ (tx f).N.length := by
      have := congrArg List.length SC.pre
      rw [List.length_take] at this
      rw [al, c4]
      omega
    have esd : as ++ List.replicate (fn.n - fn.np) Sl.none = sd0 as (tx f).N.length := by unfold sd0; rw [c3, al]
    rw [esd] at e
    let g : Gc := ⟨⟨K, w⟩, H, Fz, mpOf as vs, as.length⟩
    have S0 : SRel g (sd0 as (tx f).N.length) (L2.start (tx f).N vs) H Fz := start_rel AR0 nd fzH hNl
    let X : Cx := (cxOf CX0 P w K mg base (tx f).N (pr.fn f) (tx f).scope a cdv A outer s H E).nox
    have G : Good pr lv (tx f).N ⟨(tx f).scope, (tx f).scope⟩ X := by
      refine ⟨rfl, SC.nd, rfl, rfl, fun x k _ h => h, fun x _ => rfl, hr, g0, rfl, fun f' fn' hf' => ?_, F.globs, F.blt⟩
      obtain ⟨_, a', fd', m', FD', B'⟩ := F.defs f' fn' hf'
      exact ⟨a', fd', m', FD'.kp, B', lv_ok F lv f' fn' a' fd' hf' m' FD'⟩
    refine ⟨_, PSs.nox (sSs (g := g) (fu := fn.fu) al fn.body G rfl SC.kind c2), ?_⟩
    -- the end
    have fin : ∀ (fl : Fl) (sd' : SD), evSs (cfg pr lv fn.np fn.fu) fn.body (sd0 as (tx f).N.length) = some (fl, sd') → (∀ σ' H' Fz', SRel g sd' σ' H' Fz' → EndsOk g { nx := fun _ H' => Q .non H', rt := Q } fl sd' σ' H' Fz') →
        tRS g (evSs (cfg pr lv fn.np fn.fu) fn.body) { nx := fun _ H' => Q .non H', rt := Q } (L2.start (tx f).N vs) H := fun fl sd' ev hh => ⟨_, Fz, fl, sd', S0, ev, fun σ' H' Fz' S' _ => hh σ' H' Fz' S'⟩
    have key : ∀ (o : Opd) (sd' : SD) (σ' : L2.St) (H' : Hp) (Fz' : Addr → Prop), SRel g sd' σ' H' Fz' → r = o → os = outs fn.mps sd' → (∀ i, o ≠ .slot i) → ∀ v H0, RepO g sd' σ' H0 H' Fz' o v → Q v H' := by
      intro o sd' σ' H' Fz' S' ho hos hno v H0 ro
      subst ho
      have mem : ∀ a, a ∈ muA as vs → ∃ i, mpOf as vs i = some a := fun b hb => by
        obtain ⟨i, s, h1, h2, h3⟩ := muA_mem hb
        exact ⟨i, mpOf_mk h1 h2 h3⟩
      have obj : ∀ i b, mpOf as vs i = some b → ∃ t, sd'[i]? = some t ∧ (match t with
          | .ml xs => ∃ ws, H' b = some (.lst ws) ∧ RepL ⟨K, w⟩ Fz' H' xs ws
          | .mk kvs => ∃ es, H' b = some (dO w b es) ∧ KysR (⟨K, w⟩) H' (kvs.map (·.1)) (es.map (·.1)) ∧ RepL ⟨K, w⟩ Fz' H' (kvs.map (·.2)) (es.map (·.2))
          | _ => False) := fun i b hi => by
        obtain ⟨_, q1, q2⟩ := S'.par i b hi
        rcases mutAt_cases q1 with ⟨xs, q⟩ | ⟨kvs, q⟩
        · obtain ⟨c, ws, e1, e2, e3⟩ := S'.mls i xs q
          rw [q2] at e1
          cases e1
          exact ⟨_, q, ws, e2, e3⟩
        · obtain ⟨c, ws, e1, e2, e3, e4⟩ := S'.mks i kvs q
          rw [q2] at e1
          cases e1
          exact ⟨_, q, ws, e2, e3, e4⟩
      refine k v H' Fz' (fun b o hb nb => S'.frame b o hb fun i hi => ?_) (fun b hb => ?_) S'.fz0 (fun b hb => S'.fzb b hb) S'.fzH ?_ ?_
      · obtain ⟨s, h1, h2, h3⟩ := mpOf_ok hi
        exact nb (muA_get h1 h2 h3)
      · by_cases hm : b ∈ muA as vs
        · obtain ⟨i, hi⟩ := mem b hm
          obtain ⟨t, _, q⟩ := obj i b hi
          cases t with
          | none => exact q.elim
          | v d => exact q.elim
          | ml xs => obtain ⟨ws, q, _⟩ := q; rw [q]; exact Option.some_ne_none _
          | mk kvs => obtain ⟨ws, q, _⟩ := q; rw [q]; exact Option.some_ne_none _
        · cases q : H b with
          | none => exact absurd q hb
          | some o =>
            rw [S'.frame b o q fun i hi => by
              obtain ⟨s, h1, h2, h3⟩ := mpOf_ok hi
              exact hm (muA_get h1 h2 h3)]
            exact Option.some_ne_none _
      · cases r with
        | val d => exact ro
        | slot i => exact absurd rfl (hno i)
        | new xs =>
          obtain ⟨b, ws, rfl, q, rl, nf, nm, _, he⟩ := ro
          exact ⟨b, ws, rfl, he, q, rl, nf⟩
        | newd kvs =>
          obtain ⟨b, ws, rfl, q, ks, rl, nf, nm, _, he⟩ := ro
          exact ⟨b, ws, rfl, he, q, ks, rl, nf⟩
      · subst hos
        refine out_ok fit AR0.len (fun i s b h1 h2 h3 => obj i b (mpOf_mk h1 h3 h2)) (fun i s h1 h2 => ?_)
        · obtain ⟨v', hv, q⟩ := AR0.get h1
          cases s with
          | none => cases h2
          | v d => cases h2
          | ml xs => obtain ⟨b, ws, rfl, _⟩ := q; exact ⟨b, hv⟩
          | mk kvs => obtain ⟨b, ws, rfl, _⟩ := q; exact ⟨b, hv⟩
    split at e
    · rename_i o sd' ev
      split at e
      · cases e
      · rename_i hno
        cases e
        exact fin _ _ ev fun σ' H' Fz' S' v H0 ro => key r sd' σ' H' Fz' S' rfl rfl (fun i z => hno i z) v H0 ro
    · rename_i sd' ev
      cases e
      exact fin _ _ ev fun σ' H' Fz' S' => key (.val .non) sd' σ' H' Fz' S' rfl rfl (fun i z => nomatch z) .non H (by simp only [RepO, Rep])
    · cases e
/-- THE LAW's end: the evaluator says True of the script -/
theorem law_true {K : KW} {pr : Pr} {H : Hp} {a : Addr} {ns : List Int} {lv f : Nat} (hps : (pr.ps f).length = 1) (hO : Only H) (hS : SqL K.f H a (ns.map V.int)) (he : evF pr.P pr.gl lv f [.v (.scr ns)] = some (.val (.bl true), [])) :
    spF K pr lv f [.ref a] H (fun v _ => v = .bl true) fun _ _ _ => False := by
  have hp : ScrP K H a (ns.map V.int) := by
    rcases hS with (h | h) | h
    · rcases hO a with q | ⟨o, xs, q⟩
      · rw [h] at q; cases q
      · rw [h] at q; cases q
    · exact .inl h
    · exact .inr h
  refine ⟨by rw [hps]; rfl, [.v (.scr ns)], fun _ => False, _, _, he, ⟨_, _, rfl, ?_, rfl⟩, by simp [muA, isMut], fun _ z => z.elim, fun v H' Fz' _ _ _ _ _ r _ => ?_⟩
  · simp only [Rep]
    exact ⟨a, rfl, hp⟩
  · have r : Rep K Fz' H' (.bl true) v := r
    simpa only [Rep] using r
end Ev

set_option linter.all false
set_option autoImplicit false
set_option Elab.async false
set_option maxRecDepth 100000
set_option maxHeartbeats 4000000
/-! EvM: from the head's facts to the evaluator. -/
namespace Ev
open PySem PySem.Spec L2
/-- a def of the text -/
structure En where
  id : Nat
  fn : Fn
  x : Str
  ps : List Str
  N : List Str
  st : PySem.Stmt
def En.df (e : En) : He.DefD := ⟨(e.x, none), e.x, e.x, defArgs e.st, defBody e.st, defScope e.st, [], []⟩
/-- a constant of the module -/
structure Gl where
  id : Nat
  x : Str
  d : D
def enF (es : List En) (f : Nat) : Option En := es.find? fun e => e.id == f
def glF (gs : List Gl) (f : Nat) : Option Gl := gs.find? fun e => e.id == f
def prOf (es : List En) (gs : List Gl) (bl : List Str) : Pr where
  P f := (enF es f).map (·.fn)
  gl f := match glF gs f with
    | some e => e.d
    | none => .non
  fn f := match enF es f with
    | some e => e.x
    | none => "?"
  gn f := match glF gs f with
    | some e => e.x
    | none => "?"
  ps f := match enF es f with
    | some e => e.ps
    | none => []
  bl := bl
  gs := gs.map (·.id)
def txOf (es : List En) (f : Nat) : Tx := match enF es f with
  | some e => ⟨e.N, defArgs e.st, defBody e.st, defScope e.st⟩
  | none => ⟨[], ⟨[], [], none, [], [], none, []⟩, [], ⟨.function, [], false, false, []⟩⟩
def allB (es : List En) (gs : List Gl) (bl : List Str) : Bool := es.all fun e => defB (prOf es gs bl) e.id e.fn (txOf es e.id)
/-- how its parameters are bound -/
def BindE (e : En) : Prop := ∀ (kV doc pm : Value) (an : Option Addr) (cdv ct : Value) (us : List Value), us.length = e.ps.length → bindArgs (PySem.W.fnOf e.x e.x (defArgs e.st) (defBody e.st) (defScope e.st) .none kV doc pm an cdv ct) ⟨us, []⟩ = pure (e.ps.zip us)
theorem facts_of {w : World} {K : PySem.W.Frag} {h : Heap} {mg : Str → Option Value} {es : List En} {gs : List Gl} {bl : List Str} {fa : List He.Fa} {fn : List He.DefD} (X : K.In h) (G : h.Ns mainGlobals mg) (c : He.SaysD fa fn K)
    (hfa : ∀ e ∈ es, He.Fa.glo e.x ∈ fa) (hbl : ∀ x ∈ bl, He.Fa.free x ∈ fa) (hfn : fn = es.map En.df) (hb : allB es gs bl = true) (hB : ∀ e ∈ es, BindE e)
    (hg : ∀ e ∈ gs, ∃ u v, mg e.x = some u ∧ RelV v u ∧ ∀ Fz H, Rep ⟨K, w⟩ Fz H e.d v) : Facts ⟨K, w⟩ mg (prOf es gs bl) (txOf es) := by
  refine ⟨fun i hi => ?_, fun x hx => ?_, fun f fn' hf => ?_⟩
  · have hi : i ∈ gs.map (·.id) := hi
    have : ∃ e, glF gs i = some e ∧ e ∈ gs := by
      cases q : glF gs i with
      | none =>
        obtain ⟨e, he, rfl⟩ := List.mem_map.mp hi
        have := List.find?_eq_none.mp q e he
        simp at this
      | some e => exact ⟨e, rfl, List.mem_of_find?_eq_some q⟩
    obtain ⟨e, he, hm⟩ := this
    have := hg e hm
    simpa only [prOf, he] using this
  · obtain ⟨i, hi⟩ := List.mem_iff_getElem?.mp (hbl x hx)
    exact He.free_ok X G (c.fact i hi)
  · simp only [prOf] at hf
    obtain ⟨e, he, rfl⟩ := Option.map_eq_some_iff.mp hf
    have hm : e ∈ es := List.mem_of_find?_eq_some he
    have hid : e.id = f := by
      have := List.find?_some he
      simpa using this
    subst hid
    have hd := List.all_eq_true.mp hb e hm
    refine ⟨hd, ?_⟩
    obtain ⟨i, hi⟩ := List.mem_iff_getElem?.mp hm
    obtain ⟨fd, F⟩ := c.def_ i (d := e.df) (by rw [hfn, List.getElem?_map, hi]; rfl)
    obtain ⟨j, hj⟩ := List.mem_iff_getElem?.mp (hfa e hm)
    have F' : FunD K e.x e.x (defArgs e.st) (defBody e.st) (defScope e.st) [] [] (He.ga K e.x) fd := F
    refine ⟨He.ga K e.x, fd, ?_, ?_, ?_⟩
    · simp only [prOf, he]
      exact He.glo_ok X G (c.fact j hj)
    · simp only [prOf, txOf, he]
      exact F'
    · simp only [prOf, he]
      exact F'.bindsN (hB e hm)
/-- the fact that tells of a constant -/
def glFa (e : Gl) : Option He.Fa := match e.d with
  | .int i => some (.int e.x i)
  | .str cs => some (.str e.x (chS cs))
  | _ => none
theorem gl_ok {w : World} {K : PySem.W.Frag} {h : Heap} {mg : Str → Option Value} {gs : List Gl} {fa : List He.Fa} {fn : List He.DefD} (X : K.In h) (G : h.Ns mainGlobals mg) (c : He.SaysD fa fn K) (hs : (gs.all fun e => (glFa e).isSome) = true) (hf : ∀ f ∈ gs.filterMap glFa, f ∈ fa) :
    ∀ e ∈ gs, ∃ u v, mg e.x = some u ∧ RelV v u ∧ ∀ Fz H, Rep ⟨K, w⟩ Fz H e.d v := by
  intro e he
  have h1 := List.all_eq_true.mp hs e he
  obtain ⟨f, h2⟩ := Option.isSome_iff_exists.mp h1
  obtain ⟨i, hi⟩ := List.mem_iff_getElem?.mp (hf f (List.mem_filterMap.mpr ⟨e, he, h2⟩))
  have h3 := c.fact i hi
  obtain ⟨id, x, d⟩ := e
  cases d <;> simp only [glFa] at h2 <;> try (cases h2; done)
  · cases h2
    obtain ⟨t, q⟩ := He.int_ok X G h3
    exact ⟨_, .int _, q, ⟨t, rfl⟩, fun _ _ => by simp only [Rep]⟩
  · cases h2
    obtain ⟨t, q⟩ := He.str_ok X G h3
    exact ⟨_, .str _, q, ⟨t, rfl⟩, fun _ _ => by simp only [Rep]⟩
/-- the law's end -/
theorem law_end {P : Program} {w : World} {K : PySem.W.Frag} {h : Heap} {mg : Str → Option Value} {es : List En} {gs : List Gl} {bl : List Str} {fa : List He.Fa} {fn : List He.DefD} {lv f : Nat} {e : En} {x : Str} {f0 : Addr} (X : K.In h) (G : h.Ns mainGlobals mg) (c : He.SaysD fa fn K)
    (F : Facts ⟨K, w⟩ mg (prOf es gs bl) (txOf es)) (he : enF es f = some e) (hps : e.ps = [x]) (hB : BindE e) (hmg : mg e.x = some (.ref f0))
    (hT : ∀ ns : List Int, ns.length ≤ 63 → evF (prOf es gs bl).P (prOf es gs bl).gl lv f [.v (.scr ns)] = some (.val (.bl true), [])) :
    ∃ (fd : FuncData) (sp : Sp), (∀ (s : Shared) (u : Value), BindsTo s fd ⟨[u], []⟩ [(x, u)]) ∧ (∀ (H : Hp) (a : Addr) (ns : List Int), ns.length ≤ 63 → Only H → SqL K H a (ns.map V.int) → sp [.ref a] H (fun v _ => v = .bl true) fun _ _ _ => False) ∧
      ∀ base : Heap, K.In base → base.Ns mainGlobals mg → FnG P w K mg base lv f0 fd [x] sp := by
  have hP : (prOf es gs bl).P f = some e.fn := by simp only [prOf, he, Option.map_some]
  obtain ⟨_, a, fd, m, FD, B⟩ := F.defs f e.fn hP
  have hfn : (prOf es gs bl).fn f = e.x := by simp only [prOf, he]
  have hps' : (prOf es gs bl).ps f = [x] := by simp only [prOf, he, hps]
  rw [hfn, hmg] at m
  cases m
  rw [hps'] at B
  refine ⟨fd, spF ⟨K, w⟩ (prOf es gs bl) lv f, ?_, fun H a ns hl hO hS => law_true (by rw [hps']; rfl) hO hS (hT ns hl), fun base _ _ => ?_⟩
  · intro s u
    have htx : (txOf es f) = ⟨e.N, defArgs e.st, defBody e.st, defScope e.st⟩ := by simp only [txOf, he]
    rw [hfn, htx] at FD
    have := FD.bindsA (ps := e.ps) hB s [u] (by rw [hps]; rfl)
    rw [hps] at this
    exact this
  · have := lv_ok (P := P) (w := w) (base := base) F lv f e.fn f0 fd hP (by rw [hfn]; exact hmg) FD
    rw [hps'] at this
    exact this
end Ev

set_option linter.all false
set_option autoImplicit false
set_option maxRecDepth 100000
/-! EvP0: the defs that more than one law has (printed by shared.py). -/
namespace My
open Ev
/-! races_of -/
def f0 : Fn := ⟨2, [false, false], 4, 10000,
  (.cons (.set (.t2 (.n 2) (.n 3)) (.nm 0))
  (.cons (.ret (.bin .fdiv (.bin .sub (.bin .add (.nm 1) (.nm 2)) (.cst (.int 1))) (.nm 2))) .nil))⟩
/-! span -/
def f1 : Fn := ⟨3, [false, false, false], 5, 10000,
  (.cons (.set (.t2 (.n 3) (.n 4)) (.nm 0))
  (.cons (.ret (.tup (.cons (.bin .mul (.nm 2) (.nm 3)) (.cons (.bi .min (.cons (.bin .add (.bin .mul (.nm 2) (.nm 3)) (.nm 3)) (.cons (.bin .sub (.nm 1) (.cst (.int 1))) .nil))) .nil)))) .nil))⟩
/-! touch_places -/
def f13 : Fn := ⟨2, [false, false], 8, 10000,
  (.cons (.setm 2 .dct0)
  (.cons (.for_ (.n 3) (.rng (.cons (.call 0 (.cons (.nm 0) (.cons (.nm 1) .nil))) .nil)) 
   (.cons (.set (.t2 (.n 5) (.n 6)) (.call 1 (.cons (.nm 0) (.cons (.nm 1) (.cons (.nm 3) .nil)))))
   (.cons (.for_ (.n 4) (.rng (.cons (.nm 5) (.cons (.nm 6) .nil))) 
    (.cons (.for_ (.n 7) (.rng (.cons (.bin .add (.nm 4) (.cst (.int 1))) (.cons (.bin .add (.bi .min (.cons (.nm 6) (.cons (.bin .add (.bin .add (.nm 4) (.cst (.int 1))) (.ix (.nm 0) (.cst (.int 1)))) .nil))) (.cst (.int 1))) .nil))) 
     (.cons (.sti 2 (.tup (.cons (.nm 4) (.cons (.nm 7) .nil))) (.cst (.bl true))) .nil)) .nil)) .nil)))
  (.cons (.ret (.bi .tuple (.cons (.bi .sorted (.cons (.mn 2) .nil)) .nil))) .nil)))⟩
/-! _law_begin -/
def f14 : Fn := ⟨2, [false, false], 5, 10000,
  (.cons (.set (.n 2) (.ite (.cmp .lt (.nm 1) (.bi .len (.cons (.nm 0) .nil))) (.ix (.nm 0) (.nm 1)) (.cst (.int 0))))
  (.cons (.set (.n 3) (.bin .add (.cst (.int 7919)) (.bin .mul (.cst (.int 104729)) (.nm 1))))
  (.cons (.for_ (.n 4) (.seq (.sl (.nm 0) .none (.some (.cst (.int 63))))) 
   (.cons (.set (.n 3) (.bin .mod (.bin .add (.bin .add (.bin .mul (.nm 3) (.cst (.int 39373))) (.bin .mod (.nm 4) (.cst (.int 2147483647)))) (.cst (.int 11))) (.cst (.int 2305843009213693951)))) .nil))
  (.cons (.ret (.lst (.cons (.bin .mul (.bin .mod (.bi .abs (.cons (.nm 2) .nil)) (.bin .mul (.bin .pow (.cst (.int 10)) (.cst (.int 60))) (.bin .pow (.cst (.int 10)) (.cst (.int 60))))) (.bi .int (.cons (.cmp .ge (.bi .abs (.cons (.nm 2) .nil)) (.bin .pow (.cst (.int 10)) (.cst (.int 18)))) .nil))) (.cons (.nm 3) (.cons (.cst (.int 0)) .nil))))) .nil))))⟩
/-! _law_take -/
def f15 : Fn := ⟨2, [true, false], 5, 10000,
  (.cons (.ife (.cmp .gt (.ix (.mn 0) (.cst (.int 0))) (.cst (.int 0))) 
   (.cons (.set (.n 4) (.bin .mod (.ix (.mn 0) (.cst (.int 0))) (.nm 1)))
   (.cons (.sti 0 (.cst (.int 0)) (.bin .fdiv (.ix (.mn 0) (.cst (.int 0))) (.nm 1)))
   (.cons (.ret (.nm 4)) .nil))) .nil)
  (.cons (.sti 0 (.cst (.int 2)) (.bin .add (.ix (.mn 0) (.cst (.int 2))) (.cst (.int 1))))
  (.cons (.set (.n 2) (.ix (.mn 0) (.cst (.int 2))))
  (.cons (.set (.n 3) (.bin .mod (.bin .mul (.bin .add (.bin .add (.ix (.mn 0) (.cst (.int 1))) (.bin .mul (.bin .mul (.cst (.int 65537)) (.nm 2)) (.nm 2))) (.bin .mul (.cst (.int 15485863)) (.nm 2))) (.cst (.int 48271))) (.cst (.int 2305843009213693921))))
  (.cons (.set (.n 3) (.bin .mod (.bin .mul (.nm 3) (.bin .add (.bin .add (.bin .mod (.nm 3) (.cst (.int 1000003))) (.bin .mul (.cst (.int 99991)) (.nm 2))) (.cst (.int 7)))) (.cst (.int 2305843009213693907))))
  (.cons (.ret (.bin .mod (.bin .add (.bin .fdiv (.nm 3) (.cst (.int 97))) (.bin .fdiv (.nm 3) (.cst (.int 1000033)))) (.nm 1))) .nil))))))⟩
end My

set_option linter.all false
set_option autoImplicit false
set_option maxRecDepth 100000
/-! EvP1: more defs that more than one law has (printed by shared1.py). -/
namespace My
open Ev
end My

set_option linter.all false
set_option autoImplicit false
set_option Elab.async false
set_option maxRecDepth 100000
set_option maxHeartbeats 1000000
/-! EvP: what the laws' helpers compute. -/
namespace Ev
theorem step {C : Cfg} {s : S} {r : Ss} {sd sd' : SD} (h : evS C s sd = some (.next, sd')) : evSs C (.cons s r) sd = evSs C r sd' := by
  simp only [evSs, h, Option.bind_some]
/-- the pot's three numbers, at most m draws done -/
def Pot (m : Nat) (xs : List D) : Prop := ∃ own mixed go : Int, xs = [.int own, .int mixed, .int go] ∧ 0 ≤ own ∧ 0 ≤ mixed ∧ mixed < 4611686018427387904 ∧ 0 ≤ go ∧ go ≤ m
section
variable {P : Nat → Option Fn} {gl : Nat → D}
end
end Ev

set_option linter.all false
set_option autoImplicit false
set_option Elab.async false
set_option maxRecDepth 100000
set_option maxHeartbeats 1000000
/-! EvQ: pots, draws, shuffles. -/
namespace Ev
section
variable {P : Nat → Option Fn} {gl : Nat → D}
theorem shpL_all : ∀ {xs : List D} {n : Nat}, D.shpL xs n = true ↔ ∀ x ∈ xs, D.shp x n = true
  | [], n => by simp [D.shpL]
  | x :: xs, n => by simp [D.shpL, shpL_all]
end
end Ev

set_option linter.all false
set_option autoImplicit false
set_option Elab.async false
set_option maxRecDepth 100000
set_option maxHeartbeats 1000000
/-! EvR: boats. -/
namespace Ev
section
variable {P : Nat → Option Fn} {gl : Nat → D}
theorem join_chars : ∀ (cs : List Char), strsD (cs.map fun c => .str [c]) = some (cs.map fun c => [c])
  | [] => rfl
  | c :: cs => by simp [strsD, join_chars cs]
theorem joinC_chars : ∀ (cs : List Char), joinC [] (cs.map fun c => [c]) = cs
  | [] => rfl
  | [c] => rfl
  | c :: d :: cs => by
    have := joinC_chars (d :: cs)
    simp only [List.map_cons] at this
    simp [joinC, this]
theorem sum_ones : ∀ (cs : List Char), ((cs.map fun c => [c]).map List.length).sum = cs.length
  | [] => rfl
  | c :: cs => by have := sum_ones cs; simp at this ⊢; omega
theorem join_some {cs : List Char} (h : cs.length ≤ 1000) : joinD (.str []) (.lst (cs.map fun c => .str [c])) = some (.val (.str cs)) := by
  have := sum_ones cs
  simp only [joinD, join_chars, Option.bind_some, joinC_chars, this]
  rw [if_pos (by simp [lim]; omega)]
abbrev ltE : E := .ix (.nm 4) (.call 3 (.cons (.mn 0) (.cons (.cst (.int 26)) .nil)))
theorem Pot.mono {m n : Nat} {xs : List D} (h : Pot m xs) (hn : m ≤ n) : Pot n xs := by
  obtain ⟨a, b, c, e, h1, h2, h3, h4, h5⟩ := h
  exact ⟨a, b, c, e, h1, h2, h3, h4, by omega⟩
def BoatAt (ls : List Char) (way first size spot : Nat) (fc : Char) (k : Nat) (cs : List Char) : Prop :=
  (way = 0 → ∃ c rest, ls[(first + 7 * k) % 26]? = some c ∧ cs = c :: rest ∧ rest.length ≤ 7 ∧ ∀ d ∈ rest, d ∈ ls) ∧
  (way = 1 → ∃ c, ls[(first + k / 8) % 26]? = some c ∧ cs = List.replicate (1 + k % 8) c) ∧
  (2 ≤ way → ∃ c, ls[(first + 7 * k) % 26]? = some c ∧ cs = List.replicate spot fc ++ c :: List.replicate (size - 1 - spot) fc)
abbrev bs1 : S := .set (.n 11) (.ix (.nm 4) (.bin .mod (.bin .add (.nm 7) (.bin .mul (.cst (.int 7)) (.nm 2))) (.cst (.int 26))))
abbrev bs2 : S := .ife (.cmp .eq (.nm 6) (.cst (.int 0))) (.cons (.set (.n 11) (.bin .add (.nm 11) (.mth .join (.cst (.str [])) (.cons (.comp ltE (.n 12) (.rng (.cons (.call 3 (.cons (.mn 0) (.cons (.cst (.int 8)) .nil))) .nil)) .nil [12]) .nil)))) .nil) .nil
abbrev bs3 : S := .ife (.cmp .eq (.nm 6) (.cst (.int 1))) (.cons (.set (.n 11) (.bin .mul (.ix (.nm 4) (.bin .mod (.bin .add (.nm 7) (.bin .fdiv (.nm 2) (.cst (.int 8)))) (.cst (.int 26)))) (.bin .add (.cst (.int 1)) (.bin .mod (.nm 2) (.cst (.int 8)))))) .nil) .nil
abbrev bs4 : S := .ife (.cmp .gt (.nm 6) (.cst (.int 1))) (.cons (.set (.n 11) (.bin .add (.bin .add (.bin .mul (.nm 10) (.nm 9)) (.nm 11)) (.bin .mul (.nm 10) (.bin .sub (.bin .sub (.nm 8) (.cst (.int 1))) (.nm 9))))) .nil) .nil
abbrev bs5 : S := .ex (.eff .append 5 (.cons (.nm 11) .nil))
abbrev bsB : Ss := .cons bs1 (.cons bs2 (.cons bs3 (.cons bs4 (.cons bs5 .nil))))
theorem evE_comp {C : Cfg} {elt : E} {tg : Tg} {it : Ev.It} {cs : Es} {own : List Nat} {sd s1 s2 : SD} {rows : List (List D)} {ops : List (Opd × List D)} {xs : List D} (h1 : evIt C it sd = some (rows, ops, s1)) (h2 : rows.length ≤ lim)
    (h3 : loopC (chkAll ops) (asgR C.np tg) (evCs C cs) (fun s => (evE C elt s).bind fun x => (strict x.1).map fun d => (d, x.2)) own rows s1 = some (xs, s2)) : evE C (.comp elt tg it cs own) sd = some (.new xs, backD s1 s2 own) := by
  simp [evE, h1, h2, h3]
section
variable {ls : List Char} {f size spot kk : Nat} {fc : Char} {found : List D} {a1 a3 a11 a12 : Sl} {xs : List D} {way : Int} {k : Nat}
end
end
end Ev

set_option linter.all false
set_option autoImplicit false
set_option Elab.async false
set_option maxRecDepth 100000
set_option maxHeartbeats 1000000
/-! EvS: boats drawn: unlike texts of one to eight small letters. -/
namespace Ev
def abc : List Char := ['a', 'b', 'c', 'd', 'e', 'f', 'g', 'h', 'i', 'j', 'k', 'l', 'm', 'n', 'o', 'p', 'q', 'r', 's', 't', 'u', 'v', 'w', 'x', 'y', 'z']
theorem abc_inj {i j : Nat} {c : Char} (h1 : abc[i]? = some c) (h2 : abc[j]? = some c) : i = j := by
  have hn : abc.Nodup := by decide
  obtain ⟨h3, e1⟩ := List.getElem?_eq_some_iff.mp h1
  obtain ⟨h4, e2⟩ := List.getElem?_eq_some_iff.mp h2
  have hp := List.pairwise_iff_getElem.mp hn
  rcases Nat.lt_trichotomy i j with z | z | z
  · exact absurd (e1.trans e2.symm) (hp i j h3 h4 z)
  · exact z
  · exact absurd (e2.trans e1.symm) (hp j i h4 h3 z)
/-- a boat's name: one to eight small letters -/
def Name (cs : List Char) : Prop := 1 ≤ cs.length ∧ cs.length ≤ 8 ∧ ∀ c ∈ cs, c ∈ abc
theorem BoatAt.name {way f size spot k : Nat} {fc : Char} {cs : List Char} (h : BoatAt abc way f size spot fc k cs) (hf : fc ∈ abc) (hz : size ≤ 8) (hs : spot < size) : Name cs := by
  obtain ⟨h0, h1, h2⟩ := h
  rcases (show way = 0 ∨ way = 1 ∨ 2 ≤ way by omega) with w | w | w
  · obtain ⟨c, rest, hc, rfl, hl, hr⟩ := h0 w
    refine ⟨by simp, by simpa using hl, fun d hd => ?_⟩
    rcases List.mem_cons.mp hd with rfl | hd
    · exact List.mem_of_getElem? hc
    · exact hr d hd
  · obtain ⟨c, hc, rfl⟩ := h1 w
    refine ⟨by simp, by simp; omega, fun d hd => ?_⟩
    rw [(List.mem_replicate.mp hd).2]
    exact List.mem_of_getElem? hc
  · obtain ⟨c, hc, rfl⟩ := h2 w
    refine ⟨by simp; omega, by simp; omega, fun d hd => ?_⟩
    rcases List.mem_append.mp hd with hd | hd
    · rw [(List.mem_replicate.mp hd).2]; exact hf
    · rcases List.mem_cons.mp hd with rfl | hd
      · exact List.mem_of_getElem? hc
      · rw [(List.mem_replicate.mp hd).2]; exact hf
theorem BoatAt.inj {way f size spot i j : Nat} {fc : Char} {cs : List Char} (h : BoatAt abc way f size spot fc i cs) (q : BoatAt abc way f size spot fc j cs) (hi : i < 26) (hj : j < 26) : i = j := by
  obtain ⟨h0, h1, h2⟩ := h
  obtain ⟨q0, q1, q2⟩ := q
  rcases (show way = 0 ∨ way = 1 ∨ 2 ≤ way by omega) with w | w | w
  · obtain ⟨c, rest, hc, e1, _⟩ := h0 w
    obtain ⟨d, rest', hd, e2, _⟩ := q0 w
    rw [e1] at e2
    have := (List.cons.inj e2).1
    subst this
    have := abc_inj hc hd
    omega
  · obtain ⟨c, hc, e1⟩ := h1 w
    obtain ⟨d, hd, e2⟩ := q1 w
    rw [e1] at e2
    have hl : 1 + i % 8 = 1 + j % 8 := by simpa using congrArg List.length e2
    have hcd : c = d := by
      have : c ∈ List.replicate (1 + j % 8) d := by rw [← e2]; exact List.mem_replicate.mpr ⟨by omega, rfl⟩
      exact (List.mem_replicate.mp this).2
    subst hcd
    have := abc_inj hc hd
    omega
  · obtain ⟨c, hc, e1⟩ := h2 w
    obtain ⟨d, hd, e2⟩ := q2 w
    rw [e1] at e2
    have := List.append_cancel_left e2
    have := (List.cons.inj this).1
    subst this
    have := abc_inj hc hd
    omega
theorem nodup_set {α : Type} : ∀ {l : List α} {j : Nat} {x : α}, l.Nodup → x ∉ l → (l.set j x).Nodup
  | [], j, x, _, _ => by simp
  | y :: l, 0, x, h, hx => by
    simp at h hx ⊢
    exact ⟨hx.2, h.2⟩
  | y :: l, j + 1, x, h, hx => by
    simp at h hx
    simp only [List.set_cons_succ, List.nodup_cons]
    refine ⟨fun z => ?_, nodup_set h.2 hx.2⟩
    rcases List.mem_or_eq_of_mem_set z with z | z
    · exact h.1 z
    · exact hx.1 z.symm

section
variable {P : Nat → Option Fn} {gl : Nat → D}
/-- a row of boats: unlike names -/
def Boats (xs : List D) : Prop := (∀ x ∈ xs, ∃ cs, x = .str cs ∧ Name cs) ∧ xs.Nodup
theorem Boats.shp {xs : List D} (h : Boats xs) (n : Nat) : D.shpL xs n = true := shpL_all.mpr fun x hx => by
  obtain ⟨cs, rfl, _⟩ := h.1 x hx
  simp [D.shp]
theorem Boats.perm {xs ys : List D} (h : Boats xs) (p : ys.Perm xs) : Boats ys := ⟨fun x hx => h.1 x (p.mem_iff.mp hx), (p.nodup_iff).mpr h.2⟩
theorem Boats.flat {xs : List D} (h : Boats xs) : xs.all Ev.flat = true := by
  rw [List.all_eq_true]
  intro x hx
  obtain ⟨cs, rfl, _⟩ := h.1 x hx
  rfl
theorem Boats.notin {xs : List D} (h : Boats xs) {cs : List Char} (hx : D.str cs ∉ xs) : cmpD .notin (.str cs) (.lst xs) = some true := by
  have : (xs.any fun z => D.eqv z (.str cs)) = false := by
    rw [List.any_eq_false]
    intro x hm e
    obtain ⟨ds, rfl, _⟩ := h.1 x hm
    simp [D.eqv] at e
    subst e
    exact hx hm
  simp only [cmpD, eqD, inD, h.flat, this]
  rfl
theorem Boats.isin {xs : List D} (h : Boats xs) {cs : List Char} (hx : D.str cs ∈ xs) : cmpD .notin (.str cs) (.lst xs) = some false := by
  have : (xs.any fun z => D.eqv z (.str cs)) = true := by
    rw [List.any_eq_true]
    exact ⟨_, hx, by simp [D.eqv]⟩
  simp only [cmpD, eqD, inD, h.flat, this]
  rfl
theorem Boats.set {xs : List D} (h : Boats xs) {j : Nat} {cs : List Char} (hn : Name cs) (hx : D.str cs ∉ xs) : Boats (xs.set j (.str cs)) :=
  ⟨fun x hm => (List.mem_or_eq_of_mem_set hm).elim (h.1 x) fun e => ⟨cs, e, hn⟩, nodup_set h.2 hx⟩
abbrev b0 : S := .pset [(4, false), (5, true)] (.cons (.cst (.str abc)) (.cons (.lst .nil) .nil))
abbrev b1 : S := .pset [(6, false), (7, false), (8, false)] (.cons (.call 3 (.cons (.mn 0) (.cons (.cst (.int 4)) .nil))) (.cons (.call 3 (.cons (.mn 0) (.cons (.cst (.int 26)) .nil))) (.cons (.bin .add (.cst (.int 1)) (.call 3 (.cons (.mn 0) (.cons (.cst (.int 8)) .nil)))) .nil)))
abbrev b2 : S := .pset [(9, false), (10, false)] (.cons (.call 3 (.cons (.mn 0) (.cons (.nm 8) .nil))) (.cons (.ix (.nm 4) (.call 3 (.cons (.mn 0) (.cons (.cst (.int 26)) .nil)))) .nil))
abbrev b3 : S := .for_ (.n 2) (.rng (.cons (.nm 1) .nil)) bsB
abbrev b4 : S := .set (.n 3) (.ix (.lst (.cons (.cst (.str ['d', 'r', 'o', 'p'])) (.cons (.cst (.str ['t', 'o', 'u', 'c', 'h'])) (.cons (.cst (.str ['n', 'o', 'n', 'e'])) (.cons (.cst (.str ['d'])) (.cons (.cst (.str ['u'])) (.cons (.cst (.str ['t'])) (.cons (.cst (.str ['o'])) .nil)))))))) (.call 3 (.cons (.mn 0) (.cons (.cst (.int 7)) .nil))))
section
variable {k : Nat} {xs found : List D} {m : Nat}
theorem Pot.pur {m : Nat} {xs : List D} (h : Pot m xs) : D.purL xs = true := by
  obtain ⟨a, b, c, rfl, _⟩ := h
  rfl
end
end
end Ev

set_option linter.all false
set_option autoImplicit false
set_option Elab.async false
set_option maxRecDepth 100000
set_option maxHeartbeats 1000000
/-! EvT: comprehensions that change nothing; what is a boat. -/
namespace Ev
section
variable {P : Nat → Option Fn} {gl : Nat → D}
theorem bools_map {α : Type} (f : α → Bool) : ∀ (xs : List α), boolsD (xs.map fun x => .bl (f x)) = some (xs.map f)
  | [] => rfl
  | x :: xs => by simp [boolsD, bools_map f xs]
theorem all_map {α : Type} (f : α → Bool) (xs : List α) : allD (.lst (xs.map fun x => .bl (f x))) = some (.val (.bl (xs.all f))) := by
  simp [allD, bools_map, List.all_map]
end
end Ev

set_option linter.all false
set_option autoImplicit false
set_option Elab.async false
set_option maxRecDepth 100000
set_option maxHeartbeats 1000000
/-! EvV: rules for walking a def forward: each rule takes one step at the head; what comes behind is a predicate. -/
namespace Ev
/-- one step at the head, found by its index -/
class VStp (P : Prop) (R : outParam Prop) : Prop where
  h : R → P
theorem vstep {P R : Prop} [i : VStp P R] (q : R) : P := i.h q
structure WE (C : Cfg) (e : E) (sd : SD) (Q : Opd → SD → Prop) : Prop where
  out : ∃ o s, evE C e sd = some (o, s) ∧ Q o s
structure WEs (C : Cfg) (es : Es) (sd : SD) (Q : List Opd → SD → Prop) : Prop where
  out : ∃ o s, evEs C es sd = some (o, s) ∧ Q o s
structure WEo (C : Cfg) (e : Eo) (sd : SD) (Q : Option Int → SD → Prop) : Prop where
  out : ∃ o s, evEo C e sd = some (o, s) ∧ Q o s
structure WCs (C : Cfg) (es : Es) (sd : SD) (Q : Bool → SD → Prop) : Prop where
  out : ∃ o s, evCs C es sd = some (o, s) ∧ Q o s
structure WIt (C : Cfg) (it : It) (sd : SD) (Q : List (List D) → List (Opd × List D) → SD → Prop) : Prop where
  out : ∃ a b s, evIt C it sd = some (a, b, s) ∧ Q a b s
structure WS (C : Cfg) (t : S) (sd : SD) (Q : Fl → SD → Prop) : Prop where
  out : ∃ o s, evS C t sd = some (o, s) ∧ Q o s
structure WSs (C : Cfg) (t : Ss) (sd : SD) (Q : Fl → SD → Prop) : Prop where
  out : ∃ o s, evSs C t sd = some (o, s) ∧ Q o s
structure WF (P : Nat → Option Fn) (gl : Nat → D) (k f : Nat) (as : List Sl) (Q : Opd → List Sl → Prop) : Prop where
  out : ∃ o s, evF P gl k f as = some (o, s) ∧ Q o s
/-- some value of an option -/
structure WO {α : Type} (x : Option α) (K : α → Prop) : Prop where
  out : ∃ a, x = some a ∧ K a
theorem WO_i {α : Type} {x : Option α} {a : α} {K : α → Prop} (h : x = some a) (q : K a) : WO x K := ⟨a, h, q⟩
section
variable {C : Cfg} {sd s : SD} {Q : Opd → SD → Prop} {e a b c : E} {es : Es}
theorem WF_eq {P : Nat → Option Fn} {gl : Nat → D} {k f : Nat} {as ss : List Sl} {o : Opd} (h : WF P gl k f as fun x y => x = o ∧ y = ss) : evF P gl k f as = some (o, ss) := by
  obtain ⟨o, s, h1, rfl, rfl⟩ := h; exact h1
/-! expressions -/
theorem WE_nm {i : Nat} {d : D} (h : sd[i]? = some (.v d)) (q : Q (.val d) sd) : WE C (.nm i) sd Q := ⟨_, _, by simp [evE, h], q⟩
theorem WE_mn {i : Nat} (h : mutAt sd i = true) (q : Q (.slot i) sd) : WE C (.mn i) sd Q := ⟨_, _, by simp [evE, h], q⟩
theorem WE_fz {i : Nat} {xs : List D} {s : SD} (h : sd[i]? = some (.ml xs)) (hn : decide (C.np ≤ i) = true) (hs : sd.set i (.v (.lst xs)) = s) (q : Q (.val (.lst xs)) s) : WE C (.fz i) sd Q := by
  have hn := of_decide_eq_true hn
  exact ⟨_, _, by simp [evE, h, hn, hs], q⟩
theorem WE_fzk {i : Nat} {kvs : List (Ky × D)} {s : SD} (h : sd[i]? = some (.mk kvs)) (hn : decide (C.np ≤ i) = true) (hs : sd.set i (.v (.dk (kvs.map (·.1)) (kvs.map (·.2)))) = s) (q : Q (.val (.dk (kvs.map (·.1)) (kvs.map (·.2)))) s) : WE C (.fz i) sd Q := by
  have hn := of_decide_eq_true hn
  exact ⟨_, _, by simp [evE, h, hn, hs], q⟩
theorem WE_fzv {i : Nat} {d : D} (h : sd[i]? = some (.v d)) (q : Q (.val d) sd) : WE C (.fz i) sd Q := ⟨_, _, by simp [evE, h], q⟩
theorem WE_cst {d : D} (q : Q (.val d) sd) : WE C (.cst d) sd Q := ⟨_, _, by simp [evE], q⟩
instance s_WE_cst {d : D} : VStp (WE C (.cst d) sd Q) (Q (.val d) sd) := ⟨WE_cst⟩
theorem WE_glo {g : Nat} {d : D} (h : C.gl g = d) (q : Q (.val d) sd) : WE C (.glo g) sd Q := ⟨_, _, by simp [evE, h], q⟩
/-- the thing that an operand stands for -/
structure WFo (s : SD) (o : Opd) (K : D → Prop) : Prop where
  out : WO (force s o) K
theorem WFo_v {d : D} {K : D → Prop} (q : K d) : WFo s (.val d) K := ⟨d, rfl, q⟩
instance s_WFo_v {d : D} {K : D → Prop} : VStp (WFo s (.val d) K) (K d) := ⟨WFo_v⟩
theorem WFo_new {xs : List D} {K : D → Prop} (q : K (.lst xs)) : WFo s (.new xs) K := ⟨_, rfl, q⟩
instance s_WFo_new {xs : List D} {K : D → Prop} : VStp (WFo s (.new xs) K) (K (.lst xs)) := ⟨WFo_new⟩
theorem WFo_newd {kvs : List (Ky × D)} {K : D → Prop} (q : K (.dk (kvs.map (·.1)) (kvs.map (·.2)))) : WFo s (.newd kvs) K := ⟨_, rfl, q⟩
instance s_WFo_newd {kvs : List (Ky × D)} {K : D → Prop} : VStp (WFo s (.newd kvs) K) (K (.dk (kvs.map (·.1)) (kvs.map (·.2)))) := ⟨WFo_newd⟩
theorem WFo_ml {i : Nat} {xs : List D} {K : D → Prop} (h : s[i]? = some (.ml xs)) (q : K (.lst xs)) : WFo s (.slot i) K := ⟨_, by simp [force, h], q⟩
theorem WFo_mk {i : Nat} {kvs : List (Ky × D)} {K : D → Prop} (h : s[i]? = some (.mk kvs)) (q : K (.dk (kvs.map (·.1)) (kvs.map (·.2)))) : WFo s (.slot i) K := ⟨_, by simp [force, h], q⟩
structure WSo (o : Opd) (K : D → Prop) : Prop where
  out : WO (strict o) K
theorem WSo_v {d : D} {K : D → Prop} (q : K d) : WSo (.val d) K := ⟨d, rfl, q⟩
instance s_WSo_v {d : D} {K : D → Prop} : VStp (WSo (.val d) K) (K d) := ⟨WSo_v⟩
theorem WSo_new {xs : List D} {K : D → Prop} (q : K (.lst xs)) : WSo (.new xs) K := ⟨_, rfl, q⟩
instance s_WSo_new {xs : List D} {K : D → Prop} : VStp (WSo (.new xs) K) (K (.lst xs)) := ⟨WSo_new⟩
theorem WSo_newd {kvs : List (Ky × D)} {K : D → Prop} (q : K (.dk (kvs.map (·.1)) (kvs.map (·.2)))) : WSo (.newd kvs) K := ⟨_, rfl, q⟩
instance s_WSo_newd {kvs : List (Ky × D)} {K : D → Prop} : VStp (WSo (.newd kvs) K) (K (.dk (kvs.map (·.1)) (kvs.map (·.2)))) := ⟨WSo_newd⟩
structure WB (o : Op) (d e : D) (K : Opd → Prop) : Prop where
  out : WO (binD o d e) K
theorem WE_bin {o : Op} (h : WE C a sd fun x s1 => WE C b s1 fun y s2 => WFo s2 x fun d => WFo s2 y fun e => WB o d e fun r => Q r s2) : WE C (.bin o a b) sd Q := by
  obtain ⟨x, s1, h1, y, s2, h2, d, h3, e, h4, r, h5, q⟩ := h
  exact ⟨_, _, by simp [evE, h1, h2, h3, h4, h5], q⟩
instance s_WE_bin {o : Op} : VStp (WE C (.bin o a b) sd Q) (WE C a sd fun x s1 => WE C b s1 fun y s2 => WFo s2 x fun d => WFo s2 y fun e => WB o d e fun r => Q r s2) := ⟨WE_bin⟩
/-- a number -/
structure WIo (x : Opd) (K : Int → Prop) : Prop where
  out : ∃ i : Int, x = .val (.int i) ∧ K i
theorem WIo_i {i : Int} {K : Int → Prop} (q : K i) : WIo (.val (.int i)) K := ⟨i, rfl, q⟩
instance s_WIo_i {i : Int} {K : Int → Prop} : VStp (WIo (.val (.int i)) K) (K i) := ⟨WIo_i⟩
structure WIn (x : D) (K : Int → Prop) : Prop where
  out : ∃ i : Int, x = .int i ∧ K i
theorem WIn_i {i : Int} {K : Int → Prop} (q : K i) : WIn (.int i) K := ⟨i, rfl, q⟩
instance s_WIn_i {i : Int} {K : Int → Prop} : VStp (WIn (.int i) K) (K i) := ⟨WIn_i⟩
theorem WE_neg (h : WE C a sd fun x s1 => WIo x fun i => Q (.val (.int (-i))) s1) : WE C (.neg a) sd Q := by
  obtain ⟨x, s1, h1, i, rfl, q⟩ := h
  exact ⟨_, _, by simp [evE, h1], q⟩
instance s_WE_neg  : VStp (WE C (.neg a) sd Q) (WE C a sd fun x s1 => WIo x fun i => Q (.val (.int (-i))) s1) := ⟨WE_neg⟩
structure WC (o : Cm) (d e : D) (K : Bool → Prop) : Prop where
  out : WO (cmpD o d e) K
theorem WE_cmp {o : Cm} (h : WE C a sd fun x s1 => WE C b s1 fun y s2 => WFo s2 x fun d => WFo s2 y fun e => WC o d e fun r => Q (.val (.bl r)) s2) : WE C (.cmp o a b) sd Q := by
  obtain ⟨x, s1, h1, y, s2, h2, d, h3, e, h4, r, h5, q⟩ := h
  exact ⟨_, _, by simp [evE, h1, h2, h3, h4, h5], q⟩
instance s_WE_cmp {o : Cm} : VStp (WE C (.cmp o a b) sd Q) (WE C a sd fun x s1 => WE C b s1 fun y s2 => WFo s2 x fun d => WFo s2 y fun e => WC o d e fun r => Q (.val (.bl r)) s2) := ⟨WE_cmp⟩
/-- a truth, by cases -/
structure WIf (o : Opd) (A B : Prop) : Prop where
  out : ∃ t, boolO o = some t ∧ (if t = true then A else B)
theorem WIf_t {A B : Prop} (q : A) : WIf (.val (.bl true)) A B := ⟨true, rfl, by simpa using q⟩
instance s_WIf_t {A B : Prop} : VStp (WIf (.val (.bl true)) A B) (A) := ⟨WIf_t⟩
theorem WIf_f {A B : Prop} (q : B) : WIf (.val (.bl false)) A B := ⟨false, rfl, by simpa using q⟩
instance s_WIf_f {A B : Prop} : VStp (WIf (.val (.bl false)) A B) (B) := ⟨WIf_f⟩
theorem WIf_d {p : Prop} [Decidable p] {A B : Prop} (h1 : p → A) (h2 : ¬p → B) : WIf (.val (.bl (decide p))) A B := ⟨_, rfl, by by_cases h : p <;> simp [h, h1, h2]⟩
theorem WIf_n {t : Bool} {A B : Prop} (h : WIf (.val (.bl t)) B A) : WIf (.val (.bl (!t))) A B := by
  obtain ⟨u, h1, h2⟩ := h
  simp [boolO] at h1; subst h1
  refine ⟨_, rfl, ?_⟩
  cases t <;> simp_all
instance s_WIf_n {t : Bool} {A B : Prop} : VStp (WIf (.val (.bl (!t))) A B) (WIf (.val (.bl t)) B A) := ⟨WIf_n⟩
theorem WE_chn {o p : Cm} (h : WE C a sd fun x s1 => WE C b s1 fun y s2 => WFo s2 x fun d => WFo s2 y fun e => WC o d e fun r => WIf (.val (.bl r)) (WE C c s2 fun z s3 => WFo s3 y fun e => WFo s3 z fun f => WC p e f fun r => Q (.val (.bl r)) s3) (Q (.val (.bl false)) s2)) : WE C (.chn o p a b c) sd Q := by
  obtain ⟨x, s1, h1, y, s2, h2, d, h3, e, h4, r, h5, t, ht, q⟩ := h
  simp [boolO] at ht; subst ht
  cases r with
  | false => exact ⟨_, _, by simp [evE, h1, h2, h3, h4, h5]; exact ⟨rfl, rfl⟩, by simpa using q⟩
  | true =>
    simp only [if_true] at q
    obtain ⟨z, s3, h6, e2, h7, f, h8, r, h9, q⟩ := q
    exact ⟨_, _, by simp [evE, h1, h2, h3, h4, h5, h6, h7, h8, h9], q⟩
instance s_WE_chn {o p : Cm} : VStp (WE C (.chn o p a b c) sd Q) (WE C a sd fun x s1 => WE C b s1 fun y s2 => WFo s2 x fun d => WFo s2 y fun e => WC o d e fun r => WIf (.val (.bl r)) (WE C c s2 fun z s3 => WFo s3 y fun e => WFo s3 z fun f => WC p e f fun r => Q (.val (.bl r)) s3) (Q (.val (.bl false)) s2)) := ⟨WE_chn⟩
theorem WE_and (h : WE C a sd fun x s1 => WIf x (WE C b s1 Q) (Q (.val (.bl false)) s1)) : WE C (.and a b) sd Q := by
  obtain ⟨x, s1, h1, t, h2, q⟩ := h
  cases t with
  | false => exact ⟨_, _, by simp [evE, h1, h2]; exact ⟨rfl, rfl⟩, by simpa using q⟩
  | true =>
    simp only [if_true] at q
    obtain ⟨o, s, h3, q⟩ := q
    exact ⟨_, _, by simp [evE, h1, h2, h3], q⟩
instance s_WE_and  : VStp (WE C (.and a b) sd Q) (WE C a sd fun x s1 => WIf x (WE C b s1 Q) (Q (.val (.bl false)) s1)) := ⟨WE_and⟩
theorem WE_or (h : WE C a sd fun x s1 => WIf x (Q (.val (.bl true)) s1) (WE C b s1 Q)) : WE C (.or a b) sd Q := by
  obtain ⟨x, s1, h1, t, h2, q⟩ := h
  cases t with
  | true => exact ⟨_, _, by simp [evE, h1, h2]; exact ⟨rfl, rfl⟩, by simpa using q⟩
  | false =>
    simp only [Bool.false_eq_true, if_false] at q
    obtain ⟨o, s, h3, q⟩ := q
    exact ⟨_, _, by simp [evE, h1, h2, h3], q⟩
instance s_WE_or  : VStp (WE C (.or a b) sd Q) (WE C a sd fun x s1 => WIf x (Q (.val (.bl true)) s1) (WE C b s1 Q)) := ⟨WE_or⟩
theorem WE_ite (h : WE C c sd fun x s1 => WIf x (WE C a s1 Q) (WE C b s1 Q)) : WE C (.ite c a b) sd Q := by
  obtain ⟨x, s1, h1, t, h2, q⟩ := h
  cases t with
  | true =>
    simp only [if_true] at q
    obtain ⟨o, s, h3, q⟩ := q
    exact ⟨_, _, by simp [evE, h1, h2, h3], q⟩
  | false =>
    simp only [Bool.false_eq_true, if_false] at q
    obtain ⟨o, s, h3, q⟩ := q
    exact ⟨_, _, by simp [evE, h1, h2, h3], q⟩
instance s_WE_ite  : VStp (WE C (.ite c a b) sd Q) (WE C c sd fun x s1 => WIf x (WE C a s1 Q) (WE C b s1 Q)) := ⟨WE_ite⟩
structure WBo (o : Opd) (K : Bool → Prop) : Prop where
  out : WO (boolO o) K
theorem WBo_v {t : Bool} {K : Bool → Prop} (q : K t) : WBo (.val (.bl t)) K := ⟨t, rfl, q⟩
instance s_WBo_v {t : Bool} {K : Bool → Prop} : VStp (WBo (.val (.bl t)) K) (K t) := ⟨WBo_v⟩
theorem WE_not (h : WE C a sd fun x s1 => WBo x fun t => Q (.val (.bl (!t))) s1) : WE C (.not a) sd Q := by
  obtain ⟨x, s1, h1, t, h2, q⟩ := h
  exact ⟨_, _, by simp [evE, h1, h2], q⟩
instance s_WE_not  : VStp (WE C (.not a) sd Q) (WE C a sd fun x s1 => WBo x fun t => Q (.val (.bl (!t))) s1) := ⟨WE_not⟩
/-! lists of operands -/
theorem WEs_nil {Q : List Opd → SD → Prop} (q : Q [] sd) : WEs C .nil sd Q := ⟨_, _, by simp [evEs], q⟩
instance s_WEs_nil {Q : List Opd → SD → Prop} : VStp (WEs C .nil sd Q) (Q [] sd) := ⟨WEs_nil⟩
theorem WEs_cons {Q : List Opd → SD → Prop} (h : WE C e sd fun x s1 => WEs C es s1 fun y s2 => Q (x :: y) s2) : WEs C (.cons e es) sd Q := by
  obtain ⟨x, s1, h1, y, s2, h2, q⟩ := h
  exact ⟨_, _, by simp [evEs, h1, h2], q⟩
instance s_WEs_cons {Q : List Opd → SD → Prop} : VStp (WEs C (.cons e es) sd Q) (WE C e sd fun x s1 => WEs C es s1 fun y s2 => Q (x :: y) s2) := ⟨WEs_cons⟩
structure WSL (os : List Opd) (K : List D → Prop) : Prop where
  out : WO (strictL os) K
theorem WSL_nil {K : List D → Prop} (q : K []) : WSL [] K := ⟨_, rfl, q⟩
instance s_WSL_nil {K : List D → Prop} : VStp (WSL [] K) (K []) := ⟨WSL_nil⟩
theorem WSL_cons {o : Opd} {os : List Opd} {K : List D → Prop} (h : WSo o fun d => WSL os fun ds => K (d :: ds)) : WSL (o :: os) K := by
  obtain ⟨d, h1, ds, h2, q⟩ := h
  exact ⟨_, by simp [strictL, h1, h2], q⟩
instance s_WSL_cons {o : Opd} {os : List Opd} {K : List D → Prop} : VStp (WSL (o :: os) K) (WSo o fun d => WSL os fun ds => K (d :: ds)) := ⟨WSL_cons⟩
structure WFL (s : SD) (os : List Opd) (K : List D → Prop) : Prop where
  out : WO (forceL s os) K
theorem WFL_nil {K : List D → Prop} (q : K []) : WFL s [] K := ⟨_, rfl, q⟩
instance s_WFL_nil {K : List D → Prop} : VStp (WFL s [] K) (K []) := ⟨WFL_nil⟩
theorem WFL_cons {o : Opd} {os : List Opd} {K : List D → Prop} (h : WFo s o fun d => WFL s os fun ds => K (d :: ds)) : WFL s (o :: os) K := by
  obtain ⟨d, h1, ds, h2, q⟩ := h
  exact ⟨_, by simp [forceL, h1, h2], q⟩
instance s_WFL_cons {o : Opd} {os : List Opd} {K : List D → Prop} : VStp (WFL s (o :: os) K) (WFo s o fun d => WFL s os fun ds => K (d :: ds)) := ⟨WFL_cons⟩
theorem WE_tup (h : WEs C es sd fun os s => WSL os fun ds => Q (.val (.tup ds)) s) : WE C (.tup es) sd Q := by
  obtain ⟨o, s, h1, ds, h2, q⟩ := h
  exact ⟨_, _, by simp [evE, h1, h2], q⟩
instance s_WE_tup  : VStp (WE C (.tup es) sd Q) (WEs C es sd fun os s => WSL os fun ds => Q (.val (.tup ds)) s) := ⟨WE_tup⟩
theorem WE_lst (h : WEs C es sd fun os s => WSL os fun ds => Q (.new ds) s) : WE C (.lst es) sd Q := by
  obtain ⟨o, s, h1, ds, h2, q⟩ := h
  exact ⟨_, _, by simp [evE, h1, h2], q⟩
instance s_WE_lst  : VStp (WE C (.lst es) sd Q) (WEs C es sd fun os s => WSL os fun ds => Q (.new ds) s) := ⟨WE_lst⟩
theorem kyIn_t {ks : List Ky} {d : D} {k : Ky} (hd : kyOf d = some k) (ht : k.isT = true) (h : allT ks = true) : kyIn ks d = some k := by
  simp only [kyIn, hd, Option.bind_some]
  rw [if_pos (by rw [okK_t ht]; exact h)]
structure WKy (d : D) (K : Ky → Prop) : Prop where
  out : WO (kyOf d) K
theorem WKy_i {i : Int} {K : Ky → Prop} (q : K (.i i)) : WKy (.int i) K := ⟨_, rfl, q⟩
instance s_WKy_i {i : Int} {K : Ky → Prop} : VStp (WKy (.int i) K) (K (.i i)) := ⟨WKy_i⟩
theorem WKy_s {cs : List Char} {K : Ky → Prop} (q : K (.s cs)) : WKy (.str cs) K := ⟨_, rfl, q⟩
instance s_WKy_s {cs : List Char} {K : Ky → Prop} : VStp (WKy (.str cs) K) (K (.s cs)) := ⟨WKy_s⟩
/-- a display's pairs -/
structure WPk (ds : List D) (K : List (Ky × D) → Prop) : Prop where
  out : ∃ kvs, pairsK ds = some kvs ∧ kvs.length ≤ 15 ∧ K (mergeY kvs)
def nodupK : List (Ky × D) → Bool
  | [] => true
  | p :: r => (r.all fun q => !decide (q.1 = p.1)) && nodupK r
theorem merge_nd : ∀ (kvs acc : List (Ky × D)), nodupK kvs = true → (∀ p ∈ kvs, ∀ q ∈ acc, q.1 ≠ p.1) → kvs.foldl (fun a kv => putY a kv.1 kv.2) acc = acc ++ kvs
  | [], acc, _, _ => by simp
  | p :: r, acc, h, q => by
    simp only [nodupK, Bool.and_eq_true, List.all_eq_true, Bool.not_eq_true', decide_eq_false_iff_not] at h
    have e : putY acc p.1 p.2 = acc ++ [p] := by
      unfold putY
      rw [if_neg]
      intro z
      obtain ⟨x, hx, e⟩ := List.any_eq_true.mp z
      exact q p List.mem_cons_self x hx (of_decide_eq_true e)
    rw [List.foldl_cons, e, merge_nd r _ h.2, List.append_assoc]
    · rfl
    · intro x hx y hy
      rcases List.mem_append.mp hy with hy | hy
      · exact q x (List.mem_cons_of_mem _ hx) y hy
      · rw [List.mem_singleton.mp hy]
        exact fun z => h.1 x hx z.symm
theorem WPk_i {ds : List D} {kvs : List (Ky × D)} {K : List (Ky × D) → Prop} (h : pairsK ds = some kvs) (hl : kvs.length ≤ 15) (nd : nodupK kvs = true) (q : K kvs) : WPk ds K :=
  ⟨kvs, h, hl, by rw [show mergeY kvs = kvs from by unfold mergeY; rw [merge_nd kvs [] nd (fun _ _ _ h => nomatch h)]; rfl]; exact q⟩
theorem WE_dct (h : WEs C es sd fun os s1 => WSL os fun ds => WPk ds fun kvs => Q (.newd kvs) s1) : WE C (.dct es) sd Q := by
  obtain ⟨os, s1, h1, ds, h2, kvs, h3, h4, q⟩ := h
  exact ⟨_, _, by simp only [evE, h1, h2, h3, Option.bind_some, if_pos h4], q⟩
instance s_WE_dct  : VStp (WE C (.dct es) sd Q) (WEs C es sd fun os s1 => WSL os fun ds => WPk ds fun kvs => Q (.newd kvs) s1) := ⟨WE_dct⟩
theorem WE_dct0 (q : Q (.newd []) sd) : WE C .dct0 sd Q := ⟨_, _, by simp [evE], q⟩
instance s_WE_dct0  : VStp (WE C .dct0 sd Q) (Q (.newd []) sd) := ⟨WE_dct0⟩
structure WIx (d e : D) (K : D → Prop) : Prop where
  out : WO (ixD d e) K
theorem WE_ix (h : WE C a sd fun x s1 => WE C b s1 fun y s2 => WFo s2 x fun d => WFo s2 y fun e => WIx d e fun r => Q (.val r) s2) : WE C (.ix a b) sd Q := by
  obtain ⟨x, s1, h1, y, s2, h2, d, h3, e, h4, r, h5, q⟩ := h
  exact ⟨_, _, by simp [evE, h1, h2, h3, h4, h5], q⟩
instance s_WE_ix  : VStp (WE C (.ix a b) sd Q) (WE C a sd fun x s1 => WE C b s1 fun y s2 => WFo s2 x fun d => WFo s2 y fun e => WIx d e fun r => Q (.val r) s2) := ⟨WE_ix⟩
theorem WEo_none {Q : Option Int → SD → Prop} (q : Q none sd) : WEo C .none sd Q := ⟨_, _, by simp [evEo], q⟩
instance s_WEo_none {Q : Option Int → SD → Prop} : VStp (WEo C .none sd Q) (Q none sd) := ⟨WEo_none⟩
theorem WEo_some {Q : Option Int → SD → Prop} (h : WE C e sd fun x s1 => WFo s1 x fun d => WIn d fun i => Q (some i) s1) : WEo C (.some e) sd Q := by
  obtain ⟨x, s1, h1, d, h2, i, rfl, q⟩ := h
  exact ⟨_, _, by simp [evEo, h1, partO, h2], q⟩
instance s_WEo_some {Q : Option Int → SD → Prop} : VStp (WEo C (.some e) sd Q) (WE C e sd fun x s1 => WFo s1 x fun d => WIn d fun i => Q (some i) s1) := ⟨WEo_some⟩
structure WSl (d : D) (lo hi : Option Int) (K : Opd → Prop) : Prop where
  out : WO (slD d lo hi) K
theorem WE_sl {lo hi : Eo} (h : WE C a sd fun x s1 => WEo C lo s1 fun l s2 => WEo C hi s2 fun h s3 => WFo s3 x fun d => WSl d l h fun r => Q r s3) : WE C (.sl a lo hi) sd Q := by
  obtain ⟨x, s1, h1, y, s2, h2, z, s3, h3, d, h4, r, h5, q⟩ := h
  exact ⟨_, _, by simp [evE, h1, h2, h3, h4, h5], q⟩
instance s_WE_sl {lo hi : Eo} : VStp (WE C (.sl a lo hi) sd Q) (WE C a sd fun x s1 => WEo C lo s1 fun l s2 => WEo C hi s2 fun h s3 => WFo s3 x fun d => WSl d l h fun r => Q r s3) := ⟨WE_sl⟩
theorem WE_lset (h : WE C a sd fun x s1 => WFo s1 x fun d => WO (lsetD d) fun r => Q r s1) : WE C (.lset a) sd Q := by
  obtain ⟨x, s1, h1, d, h4, r, h5, q⟩ := h
  exact ⟨_, _, by simp [evE, h1, h4, h5], q⟩
instance s_WE_lset  : VStp (WE C (.lset a) sd Q) (WE C a sd fun x s1 => WFo s1 x fun d => WO (lsetD d) fun r => Q r s1) := ⟨WE_lset⟩
theorem WE_sset (h : WE C a sd fun x s1 => WFo s1 x fun d => WO (ssetD d) fun r => Q r s1) : WE C (.sset a) sd Q := by
  obtain ⟨x, s1, h1, d, h4, r, h5, q⟩ := h
  exact ⟨_, _, by simp [evE, h1, h4, h5], q⟩
instance s_WE_sset  : VStp (WE C (.sset a) sd Q) (WE C a sd fun x s1 => WFo s1 x fun d => WO (ssetD d) fun r => Q r s1) := ⟨WE_sset⟩
theorem WE_rv (h : WE C a sd fun x s1 => WFo s1 x fun d => WO (rvD d) fun r => Q r s1) : WE C (.rv a) sd Q := by
  obtain ⟨x, s1, h1, d, h4, r, h5, q⟩ := h
  exact ⟨_, _, by simp [evE, h1, h4, h5], q⟩
instance s_WE_rv  : VStp (WE C (.rv a) sd Q) (WE C a sd fun x s1 => WFo s1 x fun d => WO (rvD d) fun r => Q r s1) := ⟨WE_rv⟩
structure WIs (d : D) (t : Ty) (K : Bool → Prop) : Prop where
  out : K (isiD d t)
theorem WIs_t {d : D} {t : Ty} {K : Bool → Prop} (h : isiD d t = true) (q : K true) : WIs d t K := ⟨by rw [h]; exact q⟩
theorem WIs_f {d : D} {t : Ty} {K : Bool → Prop} (h : isiD d t = false) (q : K false) : WIs d t K := ⟨by rw [h]; exact q⟩
theorem WE_isi2 {t u : Ty} (h : WE C a sd fun x s1 => WFo s1 x fun d => WIs d t fun r => WIs d u fun r2 => Q (.val (.bl (r || r2))) s1) : WE C (.isi2 a t u) sd Q := by
  obtain ⟨x, s1, h1, d, h4, q⟩ := h
  exact ⟨_, _, by simp [evE, h1, h4], q.out.out⟩
instance s_WE_isi2 {t u : Ty} : VStp (WE C (.isi2 a t u) sd Q) (WE C a sd fun x s1 => WFo s1 x fun d => WIs d t fun r => WIs d u fun r2 => Q (.val (.bl (r || r2))) s1) := ⟨WE_isi2⟩
theorem WE_isi {t : Ty} (h : WE C a sd fun x s1 => WFo s1 x fun d => WIs d t fun r => Q (.val (.bl r)) s1) : WE C (.isi a t) sd Q := by
  obtain ⟨x, s1, h1, d, h4, q⟩ := h
  exact ⟨_, _, by simp [evE, h1, h4], q.out⟩
instance s_WE_isi {t : Ty} : VStp (WE C (.isi a t) sd Q) (WE C a sd fun x s1 => WFo s1 x fun d => WIs d t fun r => Q (.val (.bl r)) s1) := ⟨WE_isi⟩
structure WBi (f : Bi) (ds : List D) (K : Opd → Prop) : Prop where
  out : WO (biD f ds) K
theorem WE_bi {f : Bi} (h : WEs C es sd fun os s => WFL s os fun ds => WBi f ds fun r => Q r s) : WE C (.bi f es) sd Q := by
  obtain ⟨o, s, h1, ds, h2, r, h3, q⟩ := h
  exact ⟨_, _, by simp [evE, h1, h2, h3], q⟩
instance s_WE_bi {f : Bi} : VStp (WE C (.bi f es) sd Q) (WEs C es sd fun os s => WFL s os fun ds => WBi f ds fun r => Q r s) := ⟨WE_bi⟩
structure WRg (ds : List D) (K : List D → Prop) : Prop where
  out : WO (rngD ds) K
structure WRr (ds : List D) (K : List D → Prop) : Prop where
  out : WO (rrD ds) K
structure WRl (ds : List D) (K : List D → Prop) : Prop where
  out : ∃ r, rngD ds = some r ∧ r.length ≤ lim ∧ K r
theorem WE_lrng (h : WEs C es sd fun os s => WFL s os fun ds => WRl ds fun r => Q (.new r) s) : WE C (.lrng es) sd Q := by
  obtain ⟨o, s, h1, ds, h2, r, h3, h4, q⟩ := h
  exact ⟨_, _, by simp only [evE, h1, h2, h3, Option.bind_some, if_pos h4], q⟩
instance s_WE_lrng  : VStp (WE C (.lrng es) sd Q) (WEs C es sd fun os s => WFL s os fun ds => WRl ds fun r => Q (.new r) s) := ⟨WE_lrng⟩
structure WM (m : Mt) (d : D) (ds : List D) (K : Opd → Prop) : Prop where
  out : WO (mtD m d ds) K
theorem WM_get {ks : List Ky} {vs : List D} {e f : D} {k : Ky} {K : Opd → Prop} (he : kyIn ks e = some k) (hp : D.pur f = true) (q : K (.val ((lookK k ks vs).getD f))) : WM .get (.dk ks vs) [e, f] K := ⟨_, by simp [mtD, getD2, he, hp], q⟩
structure WTg (d0 d : D) (A : Prop) : Prop where
  out : tag d0 = tag d ∧ A
theorem WTg_i {d0 d : D} {A : Prop} (h : tag d0 = tag d) (q : A) : WTg d0 d A := ⟨h, q⟩
theorem WE_mth {m : Mt} (h : WE C a sd fun x s1 => WFo s1 x fun d0 => WEs C es s1 fun os s2 => WFo s2 x fun d => WTg d0 d (WFL s2 os fun ds => WM m d ds fun r => Q r s2)) : WE C (.mth m a es) sd Q := by
  obtain ⟨x, s1, h1, d0, h2, os, s2, h3, d, h4, h5, ds, h6, r, h7, q⟩ := h
  exact ⟨_, _, by simp [evE, h1, h2, h3, h4, h5, h6, h7], q⟩
instance s_WE_mth {m : Mt} : VStp (WE C (.mth m a es) sd Q) (WE C a sd fun x s1 => WFo s1 x fun d0 => WEs C es s1 fun os s2 => WFo s2 x fun d => WTg d0 d (WFL s2 os fun ds => WM m d ds fun r => Q r s2)) := ⟨WE_mth⟩
/-! calls -/
/-- what a call is handed -/
structure WAr (s : SD) (ms : List Bool) (os : List Opd) (K : List Sl → Prop) : Prop where
  out : WO (argsOf s ms os) K
theorem WAr_nil {K : List Sl → Prop} (q : K []) : WAr s [] [] K := ⟨_, rfl, q⟩
instance s_WAr_nil {K : List Sl → Prop} : VStp (WAr s [] [] K) (K []) := ⟨WAr_nil⟩
theorem WAr_v {ms : List Bool} {os : List Opd} {o : Opd} {K : List Sl → Prop} (h : WFo s o fun d => WAr s ms os fun r => K (.v d :: r)) : WAr s (false :: ms) (o :: os) K := by
  obtain ⟨d, h1, r, h2, q⟩ := h
  exact ⟨_, by simp [argsOf, h1, h2], q⟩
instance s_WAr_v {ms : List Bool} {os : List Opd} {o : Opd} {K : List Sl → Prop} : VStp (WAr s (false :: ms) (o :: os) K) (WFo s o fun d => WAr s ms os fun r => K (.v d :: r)) := ⟨WAr_v⟩
theorem WAr_m {ms : List Bool} {os : List Opd} {i : Nat} {xs : List D} {K : List Sl → Prop} (hi : s[i]? = some (.ml xs)) (h : WAr s ms os fun r => K (.ml xs :: r)) : WAr s (true :: ms) (.slot i :: os) K := by
  obtain ⟨r, h2, q⟩ := h
  exact ⟨_, by simp [argsOf, hi, isMut, h2], q⟩
theorem WAr_k {ms : List Bool} {os : List Opd} {i : Nat} {xs : List (Ky × D)} {K : List Sl → Prop} (hi : s[i]? = some (.mk xs)) (h : WAr s ms os fun r => K (.mk xs :: r)) : WAr s (true :: ms) (.slot i :: os) K := by
  obtain ⟨r, h2, q⟩ := h
  exact ⟨_, by simp [argsOf, hi, isMut, h2], q⟩
/-- what stands behind a call -/
structure WWb (s : SD) (ms : List Bool) (os : List Opd) (o : Opd) (outs : List Sl) (Q : Opd → SD → Prop) : Prop where
  out : (lent s ms os && !(purO o && purS outs)) = false ∧ Q o (wb ms os outs s)
theorem WWb_i {ms : List Bool} {os : List Opd} {o : Opd} {ou : List Sl} {s2 : SD} (h : (lent s ms os && !(purO o && purS ou)) = false) (hs : wb ms os ou s = s2) (q : Q o s2) : WWb s ms os o ou Q := ⟨h, by rw [hs]; exact q⟩
structure WNd (os : List Opd) (A : Prop) : Prop where
  out : nodupN (slotsOf os) = true ∧ A
theorem WNd_i {os : List Opd} {A : Prop} (h : nodupN (slotsOf os) = true) (q : A) : WNd os A := ⟨h, q⟩
theorem WE_call {f : Nat} {ms : List Bool} (hm : C.mps f = ms) (h : WEs C es sd fun os s => WNd os <| WAr s ms os fun as => ∃ o ou, C.cl f as = some (o, ou) ∧ WWb s ms os o ou Q) : WE C (.call f es) sd Q := by
  subst hm
  obtain ⟨os, s, h1, h2, as, h3, o, ou, h4, h5, q⟩ := h
  exact ⟨_, _, by simp [evE, h1, callE, h2, h3, h4]; simpa using h5, q⟩
theorem WE_callP {P : Nat → Option Fn} {gl : Nat → D} {k np fu f np' n' fu' : Nat} {ms : List Bool} {bd : Ss} (hP : P f = some ⟨np', ms, n', fu', bd⟩) (h : WEs ⟨evF P gl k, mpsOf P, gl, np, fu⟩ es sd fun os s => WNd os <| WAr s ms os fun as => WF P gl k f as fun o ou => WWb s ms os o ou Q) : WE ⟨evF P gl k, mpsOf P, gl, np, fu⟩ (.call f es) sd Q := by
  refine WE_call (ms := ms) (by simp [mpsOf, hP]) ?_
  obtain ⟨os, s, h1, h2, as, h3, o, ou, h4, q⟩ := h
  exact ⟨os, s, h1, h2, as, h3, o, ou, h4, q⟩
/-- one new list (or dict) is the sole, changed argument -/
structure WNw (o : Opd) (K : Sl → Prop) : Prop where
  out : ∃ x, (match o with | .new xs => some (Sl.ml xs) | .newd kvs => some (Sl.mk kvs) | _ => none) = some x ∧ K x
theorem WNw_l {xs : List D} {K : Sl → Prop} (q : K (.ml xs)) : WNw (.new xs) K := ⟨_, rfl, q⟩
instance s_WNw_l {xs : List D} {K : Sl → Prop} : VStp (WNw (.new xs) K) (K (.ml xs)) := ⟨WNw_l⟩
theorem WNw_k {xs : List (Ky × D)} {K : Sl → Prop} (q : K (.mk xs)) : WNw (.newd xs) K := ⟨_, rfl, q⟩
instance s_WNw_k {xs : List (Ky × D)} {K : Sl → Prop} : VStp (WNw (.newd xs) K) (K (.mk xs)) := ⟨WNw_k⟩
theorem WE_callN {P : Nat → Option Fn} {gl : Nat → D} {k np fu f n' fu' : Nat} {np' : Nat} {bd : Ss} (hP : P f = some ⟨np', [true], n', fu', bd⟩) (h : WE ⟨evF P gl k, mpsOf P, gl, np, fu⟩ e sd fun o s => WNw o fun a => WF P gl k f [a] fun r _ => Q r s) : WE ⟨evF P gl k, mpsOf P, gl, np, fu⟩ (.callN f e) sd Q := by
  obtain ⟨o, s, h1, a, h2, r, ou, h4, q⟩ := h
  refine ⟨r, s, ?_, q⟩
  simp only [evE, h1, Option.bind_some, mpsOf, hP, Option.map_some, Option.getD_some, if_true]
  cases o <;> simp at h2 <;> subst h2 <;> simp [h4]
/-- behind a def's body -/
structure WFn (ms : List Bool) (Q : Opd → List Sl → Prop) (fl : Fl) (s : SD) : Prop where
  out : match fl with
      | .ret o => (match o with
        | .slot _ => False
        | o => Q o (outs ms s))
      | .next => Q (.val .non) (outs ms s)
      | _ => False
theorem WFn_n {ms : List Bool} {Q : Opd → List Sl → Prop} {ou : List Sl} (h : outs ms s = ou) (q : Q (.val .non) ou) : WFn ms Q .next s := by subst h; exact ⟨q⟩
theorem WFn_v {ms : List Bool} {Q : Opd → List Sl → Prop} {ou : List Sl} {d : D} (h : outs ms s = ou) (q : Q (.val d) ou) : WFn ms Q (.ret (.val d)) s := by subst h; exact ⟨q⟩
theorem WFn_l {ms : List Bool} {Q : Opd → List Sl → Prop} {ou : List Sl} {d : List D} (h : outs ms s = ou) (q : Q (.new d) ou) : WFn ms Q (.ret (.new d)) s := by subst h; exact ⟨q⟩
theorem WFn_d {ms : List Bool} {Q : Opd → List Sl → Prop} {ou : List Sl} {d : List (Ky × D)} (h : outs ms s = ou) (q : Q (.newd d) ou) : WFn ms Q (.ret (.newd d)) s := by subst h; exact ⟨q⟩
theorem WF_i {P : Nat → Option Fn} {gl : Nat → D} {k f np n fu : Nat} {ms : List Bool} {bd : Ss} {as : List Sl} {s0 : SD} {Q : Opd → List Sl → Prop} (hP : P f = some ⟨np, ms, n, fu, bd⟩) (hk : 0 < k) (hf : argsFit ms as = true) (hn : np = ms.length) (h0 : as ++ List.replicate (n - np) Sl.none = s0)
    (h : WSs ⟨evF P gl (k - 1), mpsOf P, gl, np, fu⟩ bd s0 fun fl s => WFn ms Q fl s) : WF P gl k f as Q := by
  obtain ⟨k, rfl⟩ : ∃ j, k = j + 1 := ⟨k - 1, by omega⟩
  obtain ⟨fl, s, h1, q⟩ := h
  simp only [Nat.add_sub_cancel] at h1
  subst h0
  cases fl with
  | next => exact ⟨_, _, by simp [evF, hP, hf, hn.symm, h1], q.out⟩
  | ret o =>
    cases o with
    | slot _ => exact q.out.elim
    | val d => exact ⟨_, _, by simp [evF, hP, hf, hn.symm, h1], q.out⟩
    | new d => exact ⟨_, _, by simp [evF, hP, hf, hn.symm, h1], q.out⟩
    | newd d => exact ⟨_, _, by simp [evF, hP, hf, hn.symm, h1], q.out⟩
  | brk => exact q.out.elim
  | cont => exact q.out.elim
/-! changing methods -/
structure WApp (i : Nat) (d : D) (s : SD) (K : SD → Prop) : Prop where
  out : ∃ xs, s[i]? = some (.ml xs) ∧ xs.length < 16777216 ∧ K (s.set i (.ml (xs ++ [d])))
theorem WApp_i {i : Nat} {d : D} {s2 : SD} {K : SD → Prop} {xs : List D} (h : s[i]? = some (.ml xs)) (hl : xs.length < 16777216) (hs : s.set i (.ml (xs ++ [d])) = s2) (q : K s2) : WApp i d s K := ⟨xs, h, hl, by rw [hs]; exact q⟩
theorem WE_app {i : Nat} (h0 : mlAt sd i = true) (h : WE C e sd fun o s => WSo o fun d => WApp i d s fun s => Q (.val .non) s) : WE C (.eff .append i (.cons e .nil)) sd Q := by
  obtain ⟨o, s, h1, d, h2, xs, h3, h4, q⟩ := h
  have h4 : xs.length < lim := h4
  exact ⟨_, _, by simp [evE, evEs, h0, h1, effE, h3, h2, h4], q⟩
structure WExt (i : Nat) (o : Opd) (s : SD) (K : SD → Prop) : Prop where
  out : ∃ xs ys, (o = .new ys ∨ o = .val (.lst ys) ∨ o = .val (.tup ys)) ∧ s[i]? = some (.ml xs) ∧ xs.length + ys.length ≤ 16777216 ∧ K (s.set i (.ml (xs ++ ys)))
theorem WExt_n {i : Nat} {s2 : SD} {K : SD → Prop} {xs ys : List D} (h : s[i]? = some (.ml xs)) (hl : xs.length + ys.length ≤ 16777216) (hs : s.set i (.ml (xs ++ ys)) = s2) (q : K s2) : WExt i (.new ys) s K := ⟨xs, ys, .inl rfl, h, hl, by rw [hs]; exact q⟩
theorem WExt_v {i : Nat} {s2 : SD} {K : SD → Prop} {xs ys : List D} (h : s[i]? = some (.ml xs)) (hl : xs.length + ys.length ≤ 16777216) (hs : s.set i (.ml (xs ++ ys)) = s2) (q : K s2) : WExt i (.val (.lst ys)) s K := ⟨xs, ys, .inr (.inl rfl), h, hl, by rw [hs]; exact q⟩
theorem WExt_t {i : Nat} {s2 : SD} {K : SD → Prop} {xs ys : List D} (h : s[i]? = some (.ml xs)) (hl : xs.length + ys.length ≤ 16777216) (hs : s.set i (.ml (xs ++ ys)) = s2) (q : K s2) : WExt i (.val (.tup ys)) s K := ⟨xs, ys, .inr (.inr rfl), h, hl, by rw [hs]; exact q⟩
theorem WE_ext {i : Nat} (h0 : mlAt sd i = true) (h : WE C e sd fun o s => WExt i o s fun s => Q (.val .non) s) : WE C (.eff .extend i (.cons e .nil)) sd Q := by
  obtain ⟨o, s, h1, xs, ys, h2, h3, h4, q⟩ := h
  have h4 : xs.length + ys.length ≤ lim := h4
  rcases h2 with rfl | rfl | rfl
  · exact ⟨_, _, by simp [evE, evEs, h0, h1, effE, h3, h4, strict, listOf], q⟩
  · exact ⟨_, _, by simp [evE, evEs, h0, h1, effE, h3, h4, strict, listOf], q⟩
  · exact ⟨_, _, by simp [evE, evEs, h0, h1, effE, h3, h4, strict, listOf], q⟩
structure WPop (i : Nat) (o : Opd) (s : SD) (K : D → SD → Prop) : Prop where
  out : ∃ (k : Int) (xs : List D) (j : Nat) (d : D), o = .val (.int k) ∧ s[i]? = some (.ml xs) ∧ xs.length ≤ 16777216 ∧ ixN xs.length k = some j ∧ xs[j]? = some d ∧ K d (s.set i (.ml (xs.eraseIdx j)))
theorem WE_popi {i : Nat} (h0 : mlAt sd i = true) (h : WE C e sd fun o s => WPop i o s fun d s => Q (.val d) s) : WE C (.eff .pop i (.cons e .nil)) sd Q := by
  obtain ⟨o, s, h1, k, xs, j, d, rfl, h3, h4, h5, h6, q⟩ := h
  have h4 : xs.length ≤ lim := h4
  exact ⟨_, _, by simp [evE, evEs, h0, h1, effE, h3, h4, h5, h6], q⟩
theorem WE_reverse {i : Nat} {xs : List D} {s2 : SD} (h : sd[i]? = some (.ml xs)) (hs : sd.set i (.ml xs.reverse) = s2) (q : Q (.val .non) s2) : WE C (.eff .reverse i .nil) sd Q :=
  ⟨_, _, by simp [evE, mlAt, h, evEs, effE, hs], q⟩
/-- x.insert(k, y) -/
structure WIns (i : Nat) (o1 o2 : Opd) (s : SD) (K : SD → Prop) : Prop where
  out : ∃ (k : Int) (xs : List D) (d : D), o1 = .val (.int k) ∧ strict o2 = some d ∧ s[i]? = some (.ml xs) ∧ 0 ≤ k ∧ k < 2 ^ 62 ∧ xs.length < 16777216 ∧ K (s.set i (.ml (xs.take k.toNat ++ [d] ++ xs.drop k.toNat)))
theorem WIns_0 {i : Nat} {xs : List D} {o2 : Opd} {d : D} {s2 : SD} {K : SD → Prop} (h : s[i]? = some (.ml xs)) (hd : strict o2 = some d) (hl : xs.length < 16777216) (hs : s.set i (.ml (d :: xs)) = s2) (q : K s2) : WIns i (.val (.int 0)) o2 s K :=
  ⟨0, xs, d, rfl, hd, h, by omega, by omega, hl, by simpa [hs] using q⟩
theorem WE_ins {i : Nat} {e2 : E} (h0 : mlAt sd i = true) (h : WE C e sd fun o s => WE C e2 s fun o2 s => WIns i o o2 s fun s => Q (.val .non) s) : WE C (.eff .insert i (.cons e (.cons e2 .nil))) sd Q := by
  obtain ⟨o, s, h1, o2, s2, h2, k, xs, d, rfl, h3, h4, h5, h6, h7, q⟩ := h
  have h8 : 0 ≤ k ∧ k < 2 ^ 62 ∧ xs.length < lim := ⟨h5, h6, h7⟩
  exact ⟨_, _, by simp only [evE, h0, if_true, evEs, h1, h2, Option.bind_some, Option.map_some, effE, h4, h3, if_pos h8], q⟩
/-- x.remove(y) -/
structure WRem (i : Nat) (o : Opd) (s : SD) (K : SD → Prop) : Prop where
  out : ∃ (xs : List D) (d : D) (j : Nat), o = .val d ∧ s[i]? = some (.ml xs) ∧ D.shp d 60 = true ∧ D.shpL xs 60 = true ∧ xs.length ≤ 16777216 ∧ (xs.findIdx? fun y => D.eqv y d) = some j ∧ K (s.set i (.ml (xs.eraseIdx j)))
theorem WE_rem {i : Nat} (h0 : mlAt sd i = true) (h : WE C e sd fun o s => WRem i o s fun s => Q (.val .non) s) : WE C (.eff .remove i (.cons e .nil)) sd Q := by
  obtain ⟨o, s, h1, xs, d, j, rfl, h3, h4, h5, h6, h7, q⟩ := h
  have h6 : xs.length ≤ lim := h6
  exact ⟨_, _, by simp only [evE, h0, if_true, evEs, h1, Option.bind_some, Option.map_some, effE, h3, h4, h5, decide_eq_true h6, Bool.and_self, h7], q⟩
/-! storing -/
structure WAs (np : Nat) (tg : Tg) (d : D) (s : SD) (K : SD → Prop) : Prop where
  out : WO (assignT np tg d s) K
theorem WAs_n {np i : Nat} {d : D} {s2 : SD} {K : SD → Prop} (h : (decide (i < np) && mutAt s i) = false) (hs : s.set i (.v d) = s2) (q : K s2) : WAs np (.n i) d s K := ⟨s2, by simp only [assignT, putV, h, hs]; rfl, q⟩
theorem WAs_2 {np : Nat} {a b : Tg} {x y : D} {K : SD → Prop} (h : WAs np a x s fun s => WAs np b y s K) : WAs np (.t2 a b) (.tup [x, y]) s K := by
  obtain ⟨s1, h1, s2, h2, q⟩ := h
  exact ⟨s2, by simp [assignT, h1, h2], q⟩
instance s_WAs_2 {np : Nat} {a b : Tg} {x y : D} {K : SD → Prop} : VStp (WAs np (.t2 a b) (.tup [x, y]) s K) (WAs np a x s fun s => WAs np b y s K) := ⟨WAs_2⟩
theorem WAs_2l {np : Nat} {a b : Tg} {x y : D} {K : SD → Prop} (h : WAs np a x s fun s => WAs np b y s K) : WAs np (.t2 a b) (.lst [x, y]) s K := by
  obtain ⟨s1, h1, s2, h2, q⟩ := h
  exact ⟨s2, by simp [assignT, h1, h2], q⟩
instance s_WAs_2l {np : Nat} {a b : Tg} {x y : D} {K : SD → Prop} : VStp (WAs np (.t2 a b) (.lst [x, y]) s K) (WAs np a x s fun s => WAs np b y s K) := ⟨WAs_2l⟩
theorem WAs_3 {np : Nat} {a b c : Tg} {x y z : D} {K : SD → Prop} (h : WAs np a x s fun s => WAs np b y s fun s => WAs np c z s K) : WAs np (.t3 a b c) (.tup [x, y, z]) s K := by
  obtain ⟨s1, h1, s2, h2, s3, h3, q⟩ := h
  exact ⟨s3, by simp [assignT, h1, h2, h3], q⟩
instance s_WAs_3 {np : Nat} {a b c : Tg} {x y z : D} {K : SD → Prop} : VStp (WAs np (.t3 a b c) (.tup [x, y, z]) s K) (WAs np a x s fun s => WAs np b y s fun s => WAs np c z s K) := ⟨WAs_3⟩
theorem WAs_4 {np : Nat} {a b c e : Tg} {x y z u : D} {K : SD → Prop} (h : WAs np a x s fun s => WAs np b y s fun s => WAs np c z s fun s => WAs np e u s K) : WAs np (.t4 a b c e) (.tup [x, y, z, u]) s K := by
  obtain ⟨s1, h1, s2, h2, s3, h3, s4, h4, q⟩ := h
  exact ⟨s4, by simp [assignT, h1, h2, h3, h4], q⟩
instance s_WAs_4 {np : Nat} {a b c e : Tg} {x y z u : D} {K : SD → Prop} : VStp (WAs np (.t4 a b c e) (.tup [x, y, z, u]) s K) (WAs np a x s fun s => WAs np b y s fun s => WAs np c z s fun s => WAs np e u s K) := ⟨WAs_4⟩
theorem WAs_5 {np : Nat} {a b c e f : Tg} {x y z u v : D} {K : SD → Prop} (h : WAs np a x s fun s => WAs np b y s fun s => WAs np c z s fun s => WAs np e u s fun s => WAs np f v s K) : WAs np (.t5 a b c e f) (.tup [x, y, z, u, v]) s K := by
  obtain ⟨s1, h1, s2, h2, s3, h3, s4, h4, s5, h5, q⟩ := h
  exact ⟨s5, by simp [assignT, h1, h2, h3, h4, h5], q⟩
instance s_WAs_5 {np : Nat} {a b c e f : Tg} {x y z u v : D} {K : SD → Prop} : VStp (WAs np (.t5 a b c e f) (.tup [x, y, z, u, v]) s K) (WAs np a x s fun s => WAs np b y s fun s => WAs np c z s fun s => WAs np e u s fun s => WAs np f v s K) := ⟨WAs_5⟩
structure WAr2 (np : Nat) (tg : Tg) (row : List D) (s : SD) (K : SD → Prop) : Prop where
  out : WO (asgR np tg row s) K
theorem WAr2_1 {np : Nat} {tg : Tg} {d : D} {K : SD → Prop} (h : WAs np tg d s K) : WAr2 np tg [d] s K := by
  obtain ⟨s1, h1, q⟩ := h
  exact ⟨s1, by cases tg <;> simpa [asgR] using h1, q⟩
instance s_WAr2_1 {np : Nat} {tg : Tg} {d : D} {K : SD → Prop} : VStp (WAr2 np tg [d] s K) (WAs np tg d s K) := ⟨WAr2_1⟩
theorem WAr2_2 {np : Nat} {a b : Tg} {x y : D} {K : SD → Prop} (h : WAs np a x s fun s => WAs np b y s K) : WAr2 np (.t2 a b) [x, y] s K := by
  obtain ⟨s1, h1, s2, h2, q⟩ := h
  exact ⟨s2, by simp [asgR, h1, h2], q⟩
instance s_WAr2_2 {np : Nat} {a b : Tg} {x y : D} {K : SD → Prop} : VStp (WAr2 np (.t2 a b) [x, y] s K) (WAs np a x s fun s => WAs np b y s K) := ⟨WAr2_2⟩
structure WPs (np : Nat) (ts : List (Nat × Bool)) (os : List Opd) (s : SD) (K : SD → Prop) : Prop where
  out : WO (psetE np ts os s) K
theorem WPs_nil {np : Nat} {K : SD → Prop} (q : K s) : WPs np [] [] s K := ⟨s, by simp [psetE], q⟩
instance s_WPs_nil {np : Nat} {K : SD → Prop} : VStp (WPs np [] [] s K) (K s) := ⟨WPs_nil⟩
theorem WPs_m {np i : Nat} {ts : List (Nat × Bool)} {os : List Opd} {xs : List D} {s2 : SD} {K : SD → Prop} (h : (decide (i < np) && mutAt s i) = false) (hs : s.set i (.ml xs) = s2) (q : WPs np ts os s2 K) : WPs np ((i, true) :: ts) (.new xs :: os) s K := by
  obtain ⟨s1, h1, q⟩ := q
  exact ⟨s1, by simp only [psetE, h, hs, h1]; rfl, q⟩
theorem WPs_v {np i : Nat} {ts : List (Nat × Bool)} {os : List Opd} {o : Opd} {K : SD → Prop} (h : (decide (i < np) && mutAt s i) = false) (q : WSo o fun d => ∃ s2, s.set i (.v d) = s2 ∧ WPs np ts os s2 K) : WPs np ((i, false) :: ts) (o :: os) s K := by
  obtain ⟨d, h2, s2, hs, s1, h1, q⟩ := q
  exact ⟨s1, by simp only [psetE, h, h2, Option.bind_some, hs, h1]; rfl, q⟩
/-! statements -/
end
section
variable {C : Cfg} {sd s : SD} {Q : Fl → SD → Prop} {e a b c : E} {es : Es} {t : S} {r : Ss}
theorem WSs_nil (q : Q .next sd) : WSs C .nil sd Q := ⟨_, _, by simp [evSs], q⟩
instance s_WSs_nil  : VStp (WSs C .nil sd Q) (Q .next sd) := ⟨WSs_nil⟩
/-- behind a statement -/
structure WK (C : Cfg) (r : Ss) (Q : Fl → SD → Prop) (f : Fl) (s : SD) : Prop where
  out : match f with
  | .next => WSs C r s Q
  | f => Q f s
theorem WK_next (h : WSs C r s Q) : WK C r Q .next s := ⟨h⟩
instance s_WK_next  : VStp (WK C r Q .next s) (WSs C r s Q) := ⟨WK_next⟩
theorem WK_ret {o : Opd} (h : Q (.ret o) s) : WK C r Q (.ret o) s := ⟨h⟩
instance s_WK_ret {o : Opd} : VStp (WK C r Q (.ret o) s) (Q (.ret o) s) := ⟨WK_ret⟩
theorem WK_brk (h : Q .brk s) : WK C r Q .brk s := ⟨h⟩
instance s_WK_brk  : VStp (WK C r Q .brk s) (Q .brk s) := ⟨WK_brk⟩
theorem WK_cont (h : Q .cont s) : WK C r Q .cont s := ⟨h⟩
instance s_WK_cont  : VStp (WK C r Q .cont s) (Q .cont s) := ⟨WK_cont⟩
theorem WSs_cons (h : WS C t sd fun f s => WK C r Q f s) : WSs C (.cons t r) sd Q := by
  obtain ⟨f, s, h1, q⟩ := h
  cases f with
  | next =>
    obtain ⟨f, s2, h2, q⟩ := q
    exact ⟨_, _, by simp [evSs, h1, h2], q⟩
  | brk => exact ⟨_, _, by simp [evSs, h1], q.out⟩
  | cont => exact ⟨_, _, by simp [evSs, h1], q.out⟩
  | ret o => exact ⟨_, _, by simp [evSs, h1], q.out⟩
instance s_WSs_cons  : VStp (WSs C (.cons t r) sd Q) (WS C t sd fun f s => WK C r Q f s) := ⟨WSs_cons⟩
theorem WS_set {tg : Tg} (h : WE C e sd fun x s => WSo x fun d => WAs C.np tg d s fun s => Q .next s) : WS C (.set tg e) sd Q := by
  obtain ⟨x, s, h1, d, h2, s2, h3, q⟩ := h
  exact ⟨_, _, by simp [evS, h1, h2, h3], q⟩
instance s_WS_set {tg : Tg} : VStp (WS C (.set tg e) sd Q) (WE C e sd fun x s => WSo x fun d => WAs C.np tg d s fun s => Q .next s) := ⟨WS_set⟩
structure WSm (np i : Nat) (x : Opd) (s : SD) (K : SD → Prop) : Prop where
  out : (decide (i < np) && mutAt s i) = false ∧ ((∃ xs, x = .new xs ∧ K (s.set i (.ml xs))) ∨ ∃ kvs, x = .newd kvs ∧ K (s.set i (.mk kvs)))
theorem WSm_i {np i : Nat} {xs : List D} {s2 : SD} {K : SD → Prop} (h : (decide (i < np) && mutAt s i) = false) (hs : s.set i (.ml xs) = s2) (q : K s2) : WSm np i (.new xs) s K := ⟨h, .inl ⟨xs, rfl, by rw [hs]; exact q⟩⟩
theorem WSm_d {np i : Nat} {kvs : List (Ky × D)} {s2 : SD} {K : SD → Prop} (h : (decide (i < np) && mutAt s i) = false) (hs : s.set i (.mk kvs) = s2) (q : K s2) : WSm np i (.newd kvs) s K := ⟨h, .inr ⟨kvs, rfl, by rw [hs]; exact q⟩⟩
theorem WS_setm {i : Nat} (h : WE C e sd fun x s => WSm C.np i x s fun s => Q .next s) : WS C (.setm i e) sd Q := by
  obtain ⟨x, s, h1, h2, h3⟩ := h
  rcases h3 with ⟨xs, rfl, q⟩ | ⟨kvs, rfl, q⟩
  · exact ⟨_, _, by simp only [evS, h1, h2, Option.bind_some]; rfl, q⟩
  · exact ⟨_, _, by simp only [evS, h1, h2, Option.bind_some]; rfl, q⟩
instance s_WS_setm {i : Nat} : VStp (WS C (.setm i e) sd Q) (WE C e sd fun x s => WSm C.np i x s fun s => Q .next s) := ⟨WS_setm⟩
theorem WS_pset {ts : List (Nat × Bool)} (h : WEs C es sd fun os s => WPs C.np ts os s fun s => Q .next s) : WS C (.pset ts es) sd Q := by
  obtain ⟨x, s, h1, s2, h2, q⟩ := h
  exact ⟨_, _, by simp [evS, h1, h2], q⟩
instance s_WS_pset {ts : List (Nat × Bool)} : VStp (WS C (.pset ts es) sd Q) (WEs C es sd fun os s => WPs C.np ts os s fun s => Q .next s) := ⟨WS_pset⟩
structure WSti (i : Nat) (k d : D) (s : SD) (K : SD → Prop) : Prop where
  out : WO (stiE i k d s) K
theorem WSti_i {i j : Nat} {kk : Int} {d : D} {xs : List D} {s2 : SD} {K : SD → Prop} (h : s[i]? = some (.ml xs)) (hk : kk = (j : Int)) (hj : j < xs.length) (hs : s.set i (.ml (xs.set j d)) = s2) (q : K s2) : WSti i (.int kk) d s K :=
  ⟨s2, by subst hk; subst hs; simp [stiE, h, ixN, hj], q⟩
theorem WSti_k {i : Nat} {k d : D} {ky : Ky} {kvs : List (Ky × D)} {s2 : SD} {K : SD → Prop} (h : s[i]? = some (.mk kvs)) (hk : kyIn (kvs.map (·.1)) k = some ky) (hl : kvs.length < 16777216) (hs : s.set i (.mk (putY kvs ky d)) = s2) (q : K s2) : WSti i k d s K := by
  have hl : kvs.length < lim := hl
  exact ⟨s2, by subst hs; simp [stiE, h, hk, hl], q⟩
structure WAt (s : SD) (i : Nat) (A : Prop) : Prop where
  out : mutAt s i = true ∧ A
theorem WAt_i {i : Nat} {A : Prop} (h : mutAt s i = true) (q : A) : WAt s i A := ⟨h, q⟩
theorem WS_sti {i : Nat} (h : WE C e sd fun x s1 => WAt s1 i <| WE C a s1 fun y s2 => WSo x fun d => WFo s2 y fun k => WSti i k d s2 fun s => Q .next s) : WS C (.sti i a e) sd Q := by
  obtain ⟨x, s1, h1, h2, y, s2, h3, d, h4, k, h5, s3, h6, q⟩ := h
  exact ⟨_, _, by simp [evS, h1, h2, h3, h4, h5, h6], q⟩
instance s_WS_sti {i : Nat} : VStp (WS C (.sti i a e) sd Q) (WE C e sd fun x s1 => WAt s1 i <| WE C a s1 fun y s2 => WSo x fun d => WFo s2 y fun k => WSti i k d s2 fun s => Q .next s) := ⟨WS_sti⟩
structure WVo (o : Opd) (K : D → Prop) : Prop where
  out : WO (valO o) K
theorem WVo_v {d : D} {K : D → Prop} (q : K d) : WVo (.val d) K := ⟨d, rfl, q⟩
instance s_WVo_v {d : D} {K : D → Prop} : VStp (WVo (.val d) K) (K d) := ⟨WVo_v⟩
theorem WS_sti2 {i j : Nat} {k0 l : E} (h : WE C a sd fun x s1 => WE C b s1 fun y s2 => WVo x fun d => WVo y fun e => WAt s2 i <| WE C k0 s2 fun z s3 => WFo s3 z fun kk => WSti i kk d s3 fun s => WAt s j <| WE C l s fun w s4 => WFo s4 w fun ll => WSti j ll e s4 fun s => Q .next s) : WS C (.sti2 i k0 j l a b) sd Q := by
  obtain ⟨x, s1, h1, y, s2, h2, d, h3, e, h4, h5, z, s3, h6, kk, h7, s, h8, h9, w, s4, h10, ll, h11, s5, h12, q⟩ := h
  exact ⟨_, _, by simp [evS, h1, h2, h3, h4, h5, h6, h7, h8, h9, h10, h11, h12], q⟩
instance s_WS_sti2 {i j : Nat} {k0 l : E} : VStp (WS C (.sti2 i k0 j l a b) sd Q) (WE C a sd fun x s1 => WE C b s1 fun y s2 => WVo x fun d => WVo y fun e => WAt s2 i <| WE C k0 s2 fun z s3 => WFo s3 z fun kk => WSti i kk d s3 fun s => WAt s j <| WE C l s fun w s4 => WFo s4 w fun ll => WSti j ll e s4 fun s => Q .next s) := ⟨WS_sti2⟩
theorem WS_aug {i : Nat} {n : Int} (h0 : sd[i]? = some (.v (.int n))) (h : WE C e sd fun y s => WIo y fun m => WAs C.np (.n i) (.int (n + m)) s fun s => Q .next s) : WS C (.aug i .add e) sd Q := by
  obtain ⟨_, s, h1, m, rfl, s2, h2, q⟩ := h
  simp only [assignT] at h2
  exact ⟨_, _, by simp [evS, h0, h1, h2], q⟩
theorem WS_augs {i : Nat} {n : Int} (h0 : sd[i]? = some (.v (.int n))) (h : WE C e sd fun y s => WIo y fun m => WAs C.np (.n i) (.int (n - m)) s fun s => Q .next s) : WS C (.aug i .sub e) sd Q := by
  obtain ⟨_, s, h1, m, rfl, s2, h2, q⟩ := h
  simp only [assignT] at h2
  exact ⟨_, _, by simp [evS, h0, h1, h2], q⟩
theorem WS_ex (h : WE C e sd fun _ s => Q .next s) : WS C (.ex e) sd Q := by
  obtain ⟨x, s, h1, q⟩ := h
  exact ⟨_, _, by simp [evS, h1], q⟩
instance s_WS_ex  : VStp (WS C (.ex e) sd Q) (WE C e sd fun _ s => Q .next s) := ⟨WS_ex⟩
structure WRt (x : Opd) (K : Opd → Prop) : Prop where
  out : match x with
  | .slot _ => False
  | o => K o
theorem WRt_v {d : D} {K : Opd → Prop} (q : K (.val d)) : WRt (.val d) K := ⟨q⟩
instance s_WRt_v {d : D} {K : Opd → Prop} : VStp (WRt (.val d) K) (K (.val d)) := ⟨WRt_v⟩
theorem WRt_n {d : List D} {K : Opd → Prop} (q : K (.new d)) : WRt (.new d) K := ⟨q⟩
instance s_WRt_n {d : List D} {K : Opd → Prop} : VStp (WRt (.new d) K) (K (.new d)) := ⟨WRt_n⟩
theorem WRt_d {d : List (Ky × D)} {K : Opd → Prop} (q : K (.newd d)) : WRt (.newd d) K := ⟨q⟩
instance s_WRt_d {d : List (Ky × D)} {K : Opd → Prop} : VStp (WRt (.newd d) K) (K (.newd d)) := ⟨WRt_d⟩
theorem WS_ret (h : WE C e sd fun x s => WRt x fun o => Q (.ret o) s) : WS C (.ret e) sd Q := by
  obtain ⟨x, s, h1, q⟩ := h
  cases x with
  | slot _ => exact q.out.elim
  | val d => exact ⟨_, _, by simp [evS, h1], q.out⟩
  | new d => exact ⟨_, _, by simp [evS, h1], q.out⟩
  | newd d => exact ⟨_, _, by simp [evS, h1], q.out⟩
instance s_WS_ret  : VStp (WS C (.ret e) sd Q) (WE C e sd fun x s => WRt x fun o => Q (.ret o) s) := ⟨WS_ret⟩
theorem WS_retn (q : Q (.ret (.val .non)) sd) : WS C .retn sd Q := ⟨_, _, by simp [evS], q⟩
instance s_WS_retn  : VStp (WS C .retn sd Q) (Q (.ret (.val .non)) sd) := ⟨WS_retn⟩
theorem WS_ife {x y : Ss} (h : WE C c sd fun o s => WIf o (WSs C x s Q) (WSs C y s Q)) : WS C (.ife c x y) sd Q := by
  obtain ⟨o, s, h1, t, h2, q⟩ := h
  cases t with
  | true =>
    simp only [if_true] at q
    obtain ⟨f, s2, h3, q⟩ := q
    exact ⟨_, _, by simp [evS, h1, h2, h3], q⟩
  | false =>
    simp only [Bool.false_eq_true, if_false] at q
    obtain ⟨f, s2, h3, q⟩ := q
    exact ⟨_, _, by simp [evS, h1, h2, h3], q⟩
instance s_WS_ife {x y : Ss} : VStp (WS C (.ife c x y) sd Q) (WE C c sd fun o s => WIf o (WSs C x s Q) (WSs C y s Q)) := ⟨WS_ife⟩
theorem WS_brk (q : Q .brk sd) : WS C .brk sd Q := ⟨_, _, by simp [evS], q⟩
instance s_WS_brk  : VStp (WS C .brk sd Q) (Q .brk sd) := ⟨WS_brk⟩
theorem WS_cont (q : Q .cont sd) : WS C .cont sd Q := ⟨_, _, by simp [evS], q⟩
instance s_WS_cont  : VStp (WS C .cont sd Q) (Q .cont sd) := ⟨WS_cont⟩
theorem WS_pass (q : Q .next sd) : WS C .pass sd Q := ⟨_, _, by simp [evS], q⟩
instance s_WS_pass  : VStp (WS C .pass sd Q) (Q .next sd) := ⟨WS_pass⟩
/-! loops -/
structure WLp (C : Cfg) (tg : Tg) (b : Ss) (rows : List (List D)) (s : SD) (Q : Fl → SD → Prop) : Prop where
  out : ∃ f s2, loopI (asgR C.np tg) (evSs C b) rows s = some (f, s2) ∧ Q f s2
structure WNs (ops : List (Opd × List D)) (A : Prop) : Prop where
  out : noSlot ops = true ∧ A
theorem WNs_i {ops : List (Opd × List D)} {A : Prop} (h : noSlot ops = true) (q : A) : WNs ops A := ⟨h, q⟩
theorem WS_for {tg : Tg} {it : It} {bd : Ss} (h : WIt C it sd fun rows ops s => WNs ops <| WLp C tg bd rows s Q) : WS C (.for_ tg it bd) sd Q := by
  obtain ⟨rows, ops, s, h1, h2, f, s2, h3, q⟩ := h
  exact ⟨_, _, by simp [evS, h1, h2, h3], q⟩
instance s_WS_for {tg : Tg} {it : It} {bd : Ss} : VStp (WS C (.for_ tg it bd) sd Q) (WIt C it sd fun rows ops s => WNs ops <| WLp C tg bd rows s Q) := ⟨WS_for⟩
/-- behind a tour of a loop -/
structure WLq (K : SD → Prop) (Q : Fl → SD → Prop) (f : Fl) (s : SD) : Prop where
  out : match f with
  | .next => K s
  | .cont => K s
  | .brk => Q .next s
  | .ret o => Q (.ret o) s
theorem WLq_next {K : SD → Prop} (h : K s) : WLq K Q .next s := ⟨h⟩
instance s_WLq_next {K : SD → Prop} : VStp (WLq K Q .next s) (K s) := ⟨WLq_next⟩
theorem WLq_cont {K : SD → Prop} (h : K s) : WLq K Q .cont s := ⟨h⟩
instance s_WLq_cont {K : SD → Prop} : VStp (WLq K Q .cont s) (K s) := ⟨WLq_cont⟩
theorem WLq_brk {K : SD → Prop} (h : Q .next s) : WLq K Q .brk s := ⟨h⟩
instance s_WLq_brk {K : SD → Prop} : VStp (WLq K Q .brk s) (Q .next s) := ⟨WLq_brk⟩
theorem WLq_ret {K : SD → Prop} {o : Opd} (h : Q (.ret o) s) : WLq K Q (.ret o) s := ⟨h⟩
instance s_WLq_ret {K : SD → Prop} {o : Opd} : VStp (WLq K Q (.ret o) s) (Q (.ret o) s) := ⟨WLq_ret⟩
theorem WLp_nil {tg : Tg} {bd : Ss} (q : Q .next s) : WLp C tg bd [] s Q := ⟨_, _, by simp [loopI], q⟩
theorem WLp_cons {tg : Tg} {bd : Ss} {row : List D} {rows : List (List D)} (h : WAr2 C.np tg row s fun s1 => WSs C bd s1 fun f s2 => WLq (fun s => WLp C tg bd rows s Q) Q f s2) : WLp C tg bd (row :: rows) s Q := by
  obtain ⟨s1, h1, f, s2, h2, q⟩ := h
  cases f with
  | next =>
    obtain ⟨f, s3, h3, q⟩ := q
    exact ⟨_, _, by simp [loopI, h1, h2, h3], q⟩
  | cont =>
    obtain ⟨f, s3, h3, q⟩ := q
    exact ⟨_, _, by simp [loopI, h1, h2, h3], q⟩
  | brk => exact ⟨_, _, by simp [loopI, h1, h2], q.out⟩
  | ret o => exact ⟨_, _, by simp [loopI, h1, h2], q.out⟩
/-- a walk with an invariant -/
theorem WLp_inv {tg : Tg} {bd : Ss} {rows : List (List D)} (I : Nat → SD → Prop) (h0 : I 0 s) (hs : ∀ j row s, rows[j]? = some row → j < rows.length → I j s → WAr2 C.np tg row s fun s1 => WSs C bd s1 fun f s2 => WLq (I (j + 1)) Q f s2) (he : ∀ s, I rows.length s → Q .next s) : WLp C tg bd rows s Q := by
  induction rows generalizing s I with
  | nil => exact WLp_nil (he _ h0)
  | cons row rows ih =>
    refine WLp_cons ?_
    obtain ⟨s1, h1, f, s2, h2, q⟩ := hs 0 row s rfl (by simp) h0
    refine ⟨s1, h1, f, s2, h2, ?_⟩
    have key : ∀ s, I 1 s → WLp C tg bd rows s Q := fun s hs0 =>
      ih (I := fun j s => I (j + 1) s) hs0 (fun j row s hr hl hI => hs (j + 1) row s (by simpa using hr) (by simpa using hl) hI) (fun s h => he s h)
    cases f with
    | next => exact ⟨key _ q.out⟩
    | cont => exact ⟨key _ q.out⟩
    | brk => exact ⟨q.out⟩
    | ret o => exact ⟨q.out⟩
/-! what is walked -/
end
section
variable {C : Cfg} {sd s : SD} {Q : List (List D) → List (Opd × List D) → SD → Prop} {e a b : E} {es : Es}
theorem WIt_seq (h : WE C e sd fun x s => WFo s x fun d => WO (itemsD d) fun r => Q (rows1 r) [(x, r)] s) : WIt C (.seq e) sd Q := by
  obtain ⟨x, s, h1, d, h2, r, h3, q⟩ := h
  exact ⟨_, _, _, by simp [evIt, h1, h2, h3], q⟩
instance s_WIt_seq  : VStp (WIt C (.seq e) sd Q) (WE C e sd fun x s => WFo s x fun d => WO (itemsD d) fun r => Q (rows1 r) [(x, r)] s) := ⟨WIt_seq⟩
theorem WIt_rng (h : WEs C es sd fun os s => WFL s os fun ds => WRg ds fun r => Q (rows1 r) [] s) : WIt C (.rng es) sd Q := by
  obtain ⟨x, s, h1, d, h2, r, h3, q⟩ := h
  exact ⟨_, _, _, by simp [evIt, h1, h2, h3], q⟩
instance s_WIt_rng  : VStp (WIt C (.rng es) sd Q) (WEs C es sd fun os s => WFL s os fun ds => WRg ds fun r => Q (rows1 r) [] s) := ⟨WIt_rng⟩
theorem WIt_rrng (h : WEs C es sd fun os s => WFL s os fun ds => WRr ds fun r => Q (rows1 r.reverse) [] s) : WIt C (.rrng es) sd Q := by
  obtain ⟨x, s, h1, d, h2, r, h3, q⟩ := h
  exact ⟨_, _, _, by simp [evIt, h1, h2, h3], q⟩
instance s_WIt_rrng  : VStp (WIt C (.rrng es) sd Q) (WEs C es sd fun os s => WFL s os fun ds => WRr ds fun r => Q (rows1 r.reverse) [] s) := ⟨WIt_rrng⟩
theorem WIt_enu (h : WE C e sd fun x s => WFo s x fun d => WO (enumD d) fun r => Q (enumL 0 r) [(x, r)] s) : WIt C (.enu e) sd Q := by
  obtain ⟨x, s, h1, d, h2, r, h3, q⟩ := h
  exact ⟨_, _, _, by simp [evIt, h1, h2, h3], q⟩
instance s_WIt_enu  : VStp (WIt C (.enu e) sd Q) (WE C e sd fun x s => WFo s x fun d => WO (enumD d) fun r => Q (enumL 0 r) [(x, r)] s) := ⟨WIt_enu⟩
theorem WIt_rev (h : WE C e sd fun x s => WFo s x fun d => WO (enumD d) fun r => Q (rows1 r.reverse) [(x, r)] s) : WIt C (.rev e) sd Q := by
  obtain ⟨x, s, h1, d, h2, r, h3, q⟩ := h
  exact ⟨_, _, _, by simp [evIt, h1, h2, h3], q⟩
instance s_WIt_rev  : VStp (WIt C (.rev e) sd Q) (WE C e sd fun x s => WFo s x fun d => WO (enumD d) fun r => Q (rows1 r.reverse) [(x, r)] s) := ⟨WIt_rev⟩
theorem WIt_zip (h : WE C a sd fun x s1 => WE C b s1 fun y s => WFo s x fun d => WFo s y fun e => WO (zipD x y d e) fun r => Q (zipL r.1 r.2) [(x, r.1), (y, r.2)] s) : WIt C (.zip a b) sd Q := by
  obtain ⟨x, s1, h1, y, s, h2, d, h3, e, h4, r, h5, q⟩ := h
  exact ⟨_, _, _, by simp [evIt, h1, h2, h3, h4, h5], q⟩
instance s_WIt_zip  : VStp (WIt C (.zip a b) sd Q) (WE C a sd fun x s1 => WE C b s1 fun y s => WFo s x fun d => WFo s y fun e => WO (zipD x y d e) fun r => Q (zipL r.1 r.2) [(x, r.1), (y, r.2)] s) := ⟨WIt_zip⟩
end
theorem rOk_i {b : Int} (h : -4611686018427387904 ≤ b ∧ b < 4611686018427387904) : rOk b = true := by
  have e : (2 : Int) ^ 62 = 4611686018427387904 := by decide
  unfold rOk
  rw [Bool.and_eq_true, decide_eq_true_eq, decide_eq_true_eq, e]
  exact h
theorem WRg_1 {b : Int} {K : List D → Prop} (h : rOk b = true) (q : K (rngL 0 b)) : WRg [.int b] K := ⟨_, by simp [rngD, h], q⟩
theorem WRg_2 {a b : Int} {K : List D → Prop} (h1 : rOk a = true) (h : rOk b = true) (q : K (rngL a b)) : WRg [.int a, .int b] K := ⟨_, by simp [rngD, h1, h], q⟩
theorem WRg_3 {a b : Int} {K : List D → Prop} (h1 : rOk a = true) (h : rOk b = true) (q : K (rngDn a b)) : WRg [.int a, .int b, .int (-1)] K := ⟨_, by simp [rngD, h1, h], q⟩
theorem WRr_1 {b : Int} {K : List D → Prop} (h : rOk b = true) (q : K (rngL 0 b)) : WRr [.int b] K := ⟨_, by simp [rrD, h], q⟩
theorem WRr_2 {a b : Int} {K : List D → Prop} (h1 : rOk a = true) (h : rOk b = true) (q : K (rngL a b)) : WRr [.int a, .int b] K := ⟨_, by simp [rrD, h1, h], q⟩
theorem rngL_len (a b : Int) : (rngL a b).length = (b - a).toNat := by unfold rngL; rw [List.length_map, List.length_range]
theorem rngDn_len (a b : Int) : (rngDn a b).length = (a - b).toNat := by unfold rngDn; rw [List.length_map, List.length_range]
theorem WRl_1 {b : Int} {K : List D → Prop} (h : rOk b = true) (hl : b ≤ 16777216) (q : K (rngL 0 b)) : WRl [.int b] K := ⟨_, by simp [rngD, h], by rw [rngL_len]; unfold lim; omega, q⟩
theorem WRl_2 {a b : Int} {K : List D → Prop} (h1 : rOk a = true) (h : rOk b = true) (hl : b - a ≤ 16777216) (q : K (rngL a b)) : WRl [.int a, .int b] K := ⟨_, by simp [rngD, h1, h], by rw [rngL_len]; unfold lim; omega, q⟩
theorem WRl_3 {a b : Int} {K : List D → Prop} (h1 : rOk a = true) (h : rOk b = true) (hl : a - b ≤ 16777216) (q : K (rngDn a b)) : WRl [.int a, .int b, .int (-1)] K := ⟨_, by simp [rngD, h1, h], by rw [rngDn_len]; unfold lim; omega, q⟩
/-! comprehensions -/
section
variable {C : Cfg} {sd s : SD} {elt : E} {tg : Tg} {it : It} {cs : Es} {own : List Nat}
/-- the pieces of a comprehension -/
structure WCp (C : Cfg) (elt : E) (tg : Tg) (cs : Es) (own : List Nat) (ops : List (Opd × List D)) (rows : List (List D)) (s : SD) (Q : List D → SD → Prop) : Prop where
  out : ∃ xs s2, loopC (chkAll ops) (asgR C.np tg) (evCs C cs) (fun s => (evE C elt s).bind fun x => (strict x.1).map fun d => (d, x.2)) own rows s = some (xs, s2) ∧ Q xs s2
theorem WE_comp {Q : Opd → SD → Prop} (h : WIt C it sd fun rows ops s => decide (rows.length ≤ lim) = true ∧ WCp C elt tg cs own ops rows s fun xs s2 => Q (.new xs) (backD s s2 own)) : WE C (.comp elt tg it cs own) sd Q := by
  obtain ⟨rows, ops, s, h1, h2, xs, s2, h3, q⟩ := h
  have h2 := of_decide_eq_true h2
  exact ⟨_, _, evE_comp h1 h2 h3, q⟩
theorem WCs_nil {Q : Bool → SD → Prop} (q : Q true sd) : WCs C .nil sd Q := ⟨_, _, by simp [evCs], q⟩
instance s_WCs_nil {Q : Bool → SD → Prop} : VStp (WCs C .nil sd Q) (Q true sd) := ⟨WCs_nil⟩
theorem WCs_cons {e : E} {es : Es} {Q : Bool → SD → Prop} (h : WE C e sd fun x s => WIf x (WCs C es s Q) (Q false s)) : WCs C (.cons e es) sd Q := by
  obtain ⟨x, s, h1, t, h2, q⟩ := h
  cases t with
  | false => exact ⟨_, _, by simp [evCs, h1, h2]; exact ⟨rfl, rfl⟩, by simpa using q⟩
  | true =>
    simp only [if_true] at q
    obtain ⟨o, s, h3, q⟩ := q
    exact ⟨_, _, by simp [evCs, h1, h2, h3], q⟩
instance s_WCs_cons {e : E} {es : Es} {Q : Bool → SD → Prop} : VStp (WCs C (.cons e es) sd Q) (WE C e sd fun x s => WIf x (WCs C es s Q) (Q false s)) := ⟨WCs_cons⟩
theorem WCp_nil {ops : List (Opd × List D)} {Q : List D → SD → Prop} (h : (ownOk own s && chkAll ops (wipeD s own)) = true) (q : Q [] s) : WCp C elt tg cs own ops [] s Q := ⟨_, _, by simp [loopC, h], q⟩
theorem WCp_cons {ops : List (Opd × List D)} {row : List D} {rows : List (List D)} {Q : List D → SD → Prop} (h0 : (ownOk own s && chkAll ops (wipeD s own)) = true)
    (h : WAr2 C.np tg row (wipeD s own) fun s1 => WCs C cs s1 fun b s2 => if b = true then WE C elt s2 fun o s3 => WSo o fun d => WCp C elt tg cs own ops rows s3 fun xs s => Q (d :: xs) s else WCp C elt tg cs own ops rows s2 Q) : WCp C elt tg cs own ops (row :: rows) s Q := by
  obtain ⟨s1, h1, b, s2, h2, q⟩ := h
  cases b with
  | true =>
    simp only [if_true] at q
    obtain ⟨o, s3, h3, d, h4, xs, s4, h5, q⟩ := q
    exact ⟨_, _, by simp [loopC, h0, h1, h2, h3, h4, h5], q⟩
  | false =>
    simp only [Bool.false_eq_true, if_false] at q
    obtain ⟨xs, s4, h5, q⟩ := q
    exact ⟨_, _, by simp [loopC, h0, h1, h2, h5], q⟩
theorem WCp_mono {ops : List (Opd × List D)} {rows : List (List D)} {Q Q' : List D → SD → Prop} (h : WCp C elt tg cs own ops rows s Q) (q : ∀ xs s, Q xs s → Q' xs s) : WCp C elt tg cs own ops rows s Q' := by
  obtain ⟨xs, s2, h1, h2⟩ := h; exact ⟨xs, s2, h1, q _ _ h2⟩
/-- with an invariant: how many rows are done, what is found -/
theorem WCp_inv {ops : List (Opd × List D)} {rows : List (List D)} {Q : List D → SD → Prop} (I : Nat → List D → SD → Prop) (h0 : I 0 [] s) (hi : ∀ j xs s, I j xs s → (ownOk own s && chkAll ops (wipeD s own)) = true)
    (hs : ∀ j row xs s, rows[j]? = some row → j < rows.length → I j xs s → WAr2 C.np tg row (wipeD s own) fun s1 => WCs C cs s1 fun b s2 => if b = true then WE C elt s2 fun o s3 => WSo o fun d => I (j + 1) (xs ++ [d]) s3 else I (j + 1) xs s2)
    (he : ∀ xs s, I rows.length xs s → Q xs s) : WCp C elt tg cs own ops rows s Q := by
  induction rows generalizing s I Q with
  | nil => exact WCp_nil (hi _ _ _ h0) (he _ _ h0)
  | cons row rows ih =>
    refine WCp_cons (hi _ _ _ h0) ?_
    obtain ⟨s1, h1, b, s2, h2, q⟩ := hs 0 row [] s rfl (by simp) h0
    refine ⟨s1, h1, b, s2, h2, ?_⟩
    cases b with
    | true =>
      simp only [if_true] at q ⊢
      obtain ⟨o, s3, h3, d, h4, q⟩ := q
      refine ⟨o, s3, h3, d, h4, ?_⟩
      exact ih (I := fun j xs s => I (j + 1) (d :: xs) s) (by simpa using q) (fun j xs s h => hi _ _ _ h) (fun j row xs s hr hl hI => by simpa using hs (j + 1) row (d :: xs) s (by simpa using hr) (by simpa using hl) hI) (fun xs s h => he _ _ h)
    | false =>
      simp only [Bool.false_eq_true, if_false] at q ⊢
      exact ih (I := fun j xs s => I (j + 1) xs s) q (fun j xs s h => hi _ _ _ h) (fun j row xs s hr hl hI => hs (j + 1) row xs s (by simpa using hr) (by simpa using hl) hI) (fun xs s h => he _ _ h)
end
/-! data -/
section
variable {K : Opd → Prop} {B : Bool → Prop} {V : D → Prop}
theorem WB_add {i j : Int} (q : K (.val (.int (i + j)))) : WB .add (.int i) (.int j) K := ⟨_, rfl, q⟩
instance s_WB_add {i j : Int} : VStp (WB .add (.int i) (.int j) K) (K (.val (.int (i + j)))) := ⟨WB_add⟩
theorem WB_sub {i j : Int} (q : K (.val (.int (i - j)))) : WB .sub (.int i) (.int j) K := ⟨_, rfl, q⟩
instance s_WB_sub {i j : Int} : VStp (WB .sub (.int i) (.int j) K) (K (.val (.int (i - j)))) := ⟨WB_sub⟩
theorem mulOk_l {i j : Int} (h : (decide (-18446744073709551616 < i) && decide (i < 18446744073709551616)) = true) : mulOk i j = true := by
  have e : (2 : Int) ^ 64 = 18446744073709551616 := by decide
  simp only [mulOk, e]
  rw [h]; rfl
theorem mulOk_li {i j : Int} (h : -18446744073709551616 < i ∧ i < 18446744073709551616) : mulOk i j = true := mulOk_l (by simp [h.1, h.2])
theorem mulOk_ri {i j : Int} (h : -18446744073709551616 < j ∧ j < 18446744073709551616) : mulOk i j = true := by
  have e : (2 : Int) ^ 64 = 18446744073709551616 := by decide
  simp only [mulOk, e]
  simp [h.1, h.2]
theorem WB_mul {i j : Int} (h : mulOk i j = true) (q : K (.val (.int (i * j)))) : WB .mul (.int i) (.int j) K := ⟨_, by simp [binD, h], q⟩
theorem WB_fdiv {i j : Int} (h : 0 < j ∧ j < 1073741824) (q : K (.val (.int (i / j)))) : WB .fdiv (.int i) (.int j) K := ⟨_, by simp [binD, h], q⟩
theorem WB_mod {i j : Int} (h : 0 < j) (q : K (.val (.int (i % j)))) : WB .mod (.int i) (.int j) K := ⟨_, by simp [binD, h], q⟩
theorem WB_pow {i j : Int} (h : powOk i j = true) (q : K (.val (.int (i ^ j.toNat)))) : WB .pow (.int i) (.int j) K := ⟨_, by simp only [binD, if_pos h], q⟩
theorem WB_adds {x y : List Char} (h : x.length + y.length ≤ 16777216) (q : K (.val (.str (x ++ y)))) : WB .add (.str x) (.str y) K := ⟨_, by have h' : x.length + y.length ≤ lim := h; simp only [binD, if_pos h'], q⟩
theorem WB_addt {x y : List D} (h : x.length + y.length ≤ 16777216) (q : K (.val (.tup (x ++ y)))) : WB .add (.tup x) (.tup y) K := ⟨_, by have h' : x.length + y.length ≤ lim := h; simp only [binD, if_pos h'], q⟩
theorem WB_addl {x y : List D} (h : x.length + y.length ≤ 16777216) (q : K (.new (x ++ y))) : WB .add (.lst x) (.lst y) K := ⟨_, by have h' : x.length + y.length ≤ lim := h; simp only [binD, if_pos h'], q⟩
theorem WB_muls {x : List Char} {j : Int} (h : j ≤ 1000 ∧ -1000 ≤ j ∧ x.length ≤ 1000) (q : K (.val (.str (List.replicate j.toNat x).flatten))) : WB .mul (.str x) (.int j) K := ⟨_, by simp only [binD, if_pos h], q⟩
theorem WB_mult {x : List D} {j : Int} (h : -1000 ≤ j ∧ j ≤ 1000 ∧ x.length ≤ 1000 ∧ x.length ≠ 0) (q : K (.val (.tup (List.replicate j.toNat x).flatten))) : WB .mul (.tup x) (.int j) K := ⟨_, by simp only [binD, if_pos h], q⟩
theorem WB_mull {x : List D} {j : Int} (h : j ≤ 1000 ∧ -1000 ≤ j ∧ x.length ≤ 1000) (q : K (.new (List.replicate j.toNat x).flatten)) : WB .mul (.lst x) (.int j) K := ⟨_, by simp only [binD, if_pos h], q⟩
theorem WC_eqi {i j : Int} (q : B (decide (i = j))) : WC .eq (.int i) (.int j) B := ⟨decide (i = j), by simp only [cmpD, eqD, D.shp, D.eqv, Bool.and_self, if_true]; congr 1, q⟩
instance s_WC_eqi {i j : Int} : VStp (WC .eq (.int i) (.int j) B) (B (decide (i = j))) := ⟨WC_eqi⟩
theorem WC_nei {i j : Int} (q : B (!decide (i = j))) : WC .ne (.int i) (.int j) B := ⟨!decide (i = j), by simp only [cmpD, eqD, D.shp, D.eqv, Bool.and_self, if_true, Option.map_some]; congr 2, q⟩
instance s_WC_nei {i j : Int} : VStp (WC .ne (.int i) (.int j) B) (B (!decide (i = j))) := ⟨WC_nei⟩
theorem WC_lt {i j : Int} (q : B (decide (i < j))) : WC .lt (.int i) (.int j) B := ⟨_, rfl, q⟩
instance s_WC_lt {i j : Int} : VStp (WC .lt (.int i) (.int j) B) (B (decide (i < j))) := ⟨WC_lt⟩
theorem WC_le {i j : Int} (q : B (decide (i ≤ j))) : WC .le (.int i) (.int j) B := ⟨_, rfl, q⟩
instance s_WC_le {i j : Int} : VStp (WC .le (.int i) (.int j) B) (B (decide (i ≤ j))) := ⟨WC_le⟩
theorem WC_gt {i j : Int} (q : B (decide (j < i))) : WC .gt (.int i) (.int j) B := ⟨_, rfl, q⟩
instance s_WC_gt {i j : Int} : VStp (WC .gt (.int i) (.int j) B) (B (decide (j < i))) := ⟨WC_gt⟩
theorem WC_ge {i j : Int} (q : B (decide (j ≤ i))) : WC .ge (.int i) (.int j) B := ⟨_, rfl, q⟩
instance s_WC_ge {i j : Int} : VStp (WC .ge (.int i) (.int j) B) (B (decide (j ≤ i))) := ⟨WC_ge⟩
theorem WC_eqs {i j : List Char} (q : B (decide (i = j))) : WC .eq (.str i) (.str j) B := ⟨decide (i = j), by simp only [cmpD, eqD, D.shp, D.eqv, Bool.and_self, if_true]; congr 1; rw [Bool.eq_iff_iff]; simp, q⟩
instance s_WC_eqs {i j : List Char} : VStp (WC .eq (.str i) (.str j) B) (B (decide (i = j))) := ⟨WC_eqs⟩
theorem WC_nes {i j : List Char} (q : B (!decide (i = j))) : WC .ne (.str i) (.str j) B := ⟨!decide (i = j), by simp only [cmpD, eqD, D.shp, D.eqv, Bool.and_self, if_true, Option.map_some]; congr 2; rw [Bool.eq_iff_iff]; simp, q⟩
instance s_WC_nes {i j : List Char} : VStp (WC .ne (.str i) (.str j) B) (B (!decide (i = j))) := ⟨WC_nes⟩
theorem WC_nebs {a : Bool} (q : B false) : WC .ne (.bl a) (.bl a) B := ⟨false, by cases a <;> rfl, q⟩
theorem WC_eqbs {a : Bool} (q : B true) : WC .eq (.bl a) (.bl a) B := ⟨true, by cases a <;> rfl, q⟩
theorem WC_neb {a b : Bool} (q : B (!(a == b))) : WC .ne (.bl a) (.bl b) B := ⟨_, by cases a <;> cases b <;> rfl, q⟩
theorem WC_eqb {a b : Bool} (q : B (a == b)) : WC .eq (.bl a) (.bl b) B := ⟨_, by cases a <;> cases b <;> rfl, q⟩
def isNon : D → Bool
  | .non => true
  | _ => false
theorem WC_is {d : D} (q : B (isNon d)) : WC .is_ d .non B := ⟨_, rfl, by cases d <;> exact q⟩
theorem WC_isn {d : D} (q : B (!isNon d)) : WC .isnot d .non B := ⟨_, rfl, by cases d <;> exact q⟩
theorem WC_isT {a : Bool} (q : B a) : WC .is_ (.bl a) (.bl true) B := ⟨_, rfl, by cases a <;> exact q⟩
instance s_WC_isT {a : Bool} : VStp (WC .is_ (.bl a) (.bl true) B) (B a) := ⟨WC_isT⟩
theorem WC_isF {a : Bool} (q : B (!a)) : WC .is_ (.bl a) (.bl false) B := ⟨_, rfl, by cases a <;> exact q⟩
instance s_WC_isF {a : Bool} : VStp (WC .is_ (.bl a) (.bl false) B) (B (!a)) := ⟨WC_isF⟩
theorem WC_isnT {a : Bool} (q : B (!a)) : WC .isnot (.bl a) (.bl true) B := ⟨_, rfl, by cases a <;> exact q⟩
instance s_WC_isnT {a : Bool} : VStp (WC .isnot (.bl a) (.bl true) B) (B (!a)) := ⟨WC_isnT⟩
theorem WC_isnF {a : Bool} (q : B a) : WC .isnot (.bl a) (.bl false) B := ⟨_, rfl, by cases a <;> exact q⟩
instance s_WC_isnF {a : Bool} : VStp (WC .isnot (.bl a) (.bl false) B) (B a) := ⟨WC_isnF⟩
theorem WC_is_t {d : D} (h : isNon d = true) (q : B true) : WC .is_ d .non B := WC_is (by rw [h]; exact q)
theorem WC_is_f {d : D} (h : isNon d = false) (q : B false) : WC .is_ d .non B := WC_is (by rw [h]; exact q)
theorem WC_isn_t {d : D} (h : isNon d = true) (q : B false) : WC .isnot d .non B := WC_isn (by rw [h]; exact q)
theorem WC_isn_f {d : D} (h : isNon d = false) (q : B true) : WC .isnot d .non B := WC_isn (by rw [h]; exact q)
mutual
theorem beq_self : ∀ d : D, D.beq d d = true
  | .non => rfl
  | .bl b => by simp [D.beq]
  | .int b => by simp [D.beq]
  | .str b => by simp [D.beq]
  | .tup xs => by simp only [D.beq]; exact beqL_self xs
  | .lst xs => by simp only [D.beq]; exact beqL_self xs
  | .dk ks xs => by simp only [D.beq, beq_self_eq_true, Bool.true_and]; exact beqL_self xs
  | .scr b => by simp [D.beq]
  | .rp d => by simp only [D.beq]; exact beq_self d
theorem beqL_self : ∀ xs : List D, D.beqL xs xs = true
  | [] => rfl
  | x :: xs => by simp only [D.beqL, beq_self x, beqL_self xs, Bool.and_self]
end
theorem WC_rpne {d : D} (q : B false) : WC .ne (.rp d) (.rp d) B := ⟨false, by simp only [cmpD, eqD, beq_self, if_true, Option.map_some, Bool.not_true], q⟩
instance s_WC_rpne {d : D} : VStp (WC .ne (.rp d) (.rp d) B) (B false) := ⟨WC_rpne⟩
theorem WC_rpeq {d : D} (q : B true) : WC .eq (.rp d) (.rp d) B := ⟨true, by simp only [cmpD, eqD, beq_self, if_true], q⟩
instance s_WC_rpeq {d : D} : VStp (WC .eq (.rp d) (.rp d) B) (B true) := ⟨WC_rpeq⟩
theorem WC_inch {x : Char} {t : List Char} (q : B (decide (x ∈ t))) : WC .in_ (.str [x]) (.str t) B := ⟨_, rfl, q⟩
instance s_WC_inch {x : Char} {t : List Char} : VStp (WC .in_ (.str [x]) (.str t) B) (B (decide (x ∈ t))) := ⟨WC_inch⟩
theorem WI_g {d e r : D} (h : ixD d e = some r) (q : V r) : WIx d e V := ⟨_, h, q⟩
/-- a part of a list at a place that is drawn -/
theorem WI_mem {xs : List D} {i : Int} (h : 0 ≤ i ∧ i < (xs.length : Int)) (q : ∀ d ∈ xs, V d) : WIx (.lst xs) (.int i) V := by
  have h2 : i.toNat < xs.length := by omega
  refine ⟨xs[i.toNat], ?_, q _ (List.getElem_mem h2)⟩
  simp only [ixD, atI, Ev.ixN]
  rw [if_pos h.1, if_pos h.2]
  exact List.getElem?_eq_getElem h2
theorem WI_scr {xs : List Int} {i : Nat} (h : i < xs.length) (q : V (.int xs[i])) : WIx (.scr xs) (.int (i : Int)) V := by
  refine ⟨.int xs[i], ?_, q⟩
  simp only [ixD, atI, Ev.ixN]
  rw [if_pos (by omega), if_pos (by omega)]
  simp [List.getElem?_eq_getElem h]
theorem Wl_lst {xs : List D} (q : K (.val (.int xs.length))) : WBi .len [.lst xs] K := ⟨_, rfl, q⟩
instance s_Wl_lst {xs : List D} : VStp (WBi .len [.lst xs] K) (K (.val (.int xs.length))) := ⟨Wl_lst⟩
theorem Wl_tup {xs : List D} (q : K (.val (.int xs.length))) : WBi .len [.tup xs] K := ⟨_, rfl, q⟩
instance s_Wl_tup {xs : List D} : VStp (WBi .len [.tup xs] K) (K (.val (.int xs.length))) := ⟨Wl_tup⟩
theorem Wl_scr {xs : List Int} (q : K (.val (.int xs.length))) : WBi .len [.scr xs] K := ⟨_, rfl, q⟩
instance s_Wl_scr {xs : List Int} : VStp (WBi .len [.scr xs] K) (K (.val (.int xs.length))) := ⟨Wl_scr⟩
theorem Wl_str {xs : List Char} (h : xs.length ≤ 16777216) (q : K (.val (.int xs.length))) : WBi .len [.str xs] K := ⟨_, by have h' : xs.length ≤ lim := h; simp only [biD, lenD, if_pos h'], q⟩
theorem Wt_lst {xs : List D} (q : K (.val (.tup xs))) : WBi .tuple [.lst xs] K := ⟨_, rfl, q⟩
instance s_Wt_lst {xs : List D} : VStp (WBi .tuple [.lst xs] K) (K (.val (.tup xs))) := ⟨Wt_lst⟩
theorem Wt_tup {xs : List D} (q : K (.val (.tup xs))) : WBi .tuple [.tup xs] K := ⟨_, rfl, q⟩
instance s_Wt_tup {xs : List D} : VStp (WBi .tuple [.tup xs] K) (K (.val (.tup xs))) := ⟨Wt_tup⟩
theorem Wi_lst {xs : List D} (q : K (.new xs)) : WBi .list [.lst xs] K := ⟨_, rfl, q⟩
instance s_Wi_lst {xs : List D} : VStp (WBi .list [.lst xs] K) (K (.new xs)) := ⟨Wi_lst⟩
theorem Wi_tup {xs : List D} (q : K (.new xs)) : WBi .list [.tup xs] K := ⟨_, rfl, q⟩
instance s_Wi_tup {xs : List D} : VStp (WBi .list [.tup xs] K) (K (.new xs)) := ⟨Wi_tup⟩
theorem Wb_abs {i : Int} (q : ∀ j : Int, 0 ≤ j → (j = i ∨ j = -i) → K (.val (.int j))) : WBi .abs [.int i] K := by
  refine ⟨_, rfl, q _ ?_ ?_⟩ <;> split <;> omega
theorem Wb_min {i j : Int} (q : K (.val (.int (if j < i then j else i)))) : WBi .min [.int i, .int j] K := ⟨_, rfl, q⟩
instance s_Wb_min {i j : Int} : VStp (WBi .min [.int i, .int j] K) (K (.val (.int (if j < i then j else i)))) := ⟨Wb_min⟩
theorem Wb_max {i j : Int} (q : K (.val (.int (if j > i then j else i)))) : WBi .max [.int i, .int j] K := ⟨_, rfl, q⟩
instance s_Wb_max {i j : Int} : VStp (WBi .max [.int i, .int j] K) (K (.val (.int (if j > i then j else i)))) := ⟨Wb_max⟩
mutual
theorem shp_shr : ∀ (d : D) (n : Nat), D.shp d n = true → D.shr d n = true
  | .non, _, _ => rfl
  | .bl _, _, _ => rfl
  | .int _, _, _ => rfl
  | .str _, _, _ => rfl
  | .tup xs, 0, h => by simp [D.shp] at h
  | .tup xs, n + 1, h => by
    rw [D.shp] at h
    rw [D.shr]
    exact shpL_shrL xs n h
  | .lst xs, 0, h => by simp [D.shp] at h
  | .lst xs, n + 1, h => by
    rw [D.shp] at h
    rw [D.shr]
    exact shpL_shrL xs n h
  | .dk _ _, _, h => by simp [D.shp] at h
  | .scr _, _, h => by simp [D.shp] at h
  | .rp _, _, h => by simp [D.shp] at h
theorem shpL_shrL : ∀ (xs : List D) (n : Nat), D.shpL xs n = true → D.shrL xs n = true
  | [], _, _ => rfl
  | x :: xs, n, h => by
    rw [D.shpL, Bool.and_eq_true] at h
    rw [D.shrL, shp_shr x n h.1, shpL_shrL xs n h.2]
    rfl
end
theorem Wb_repr2 {d : D} (h : D.shr d 60 = true) (hz : D.rsz d ≤ 10000000) (q : K (.val (.rp d))) : WBi .repr [d] K := ⟨_, by simp only [biD, reprD, h, decide_eq_true hz, Bool.and_self, if_true], q⟩
theorem Wb_repr {d : D} (h : D.shp d 60 = true) (hz : D.rsz d ≤ 10000000) (q : K (.val (.rp d))) : WBi .repr [d] K := Wb_repr2 (shp_shr d 60 h) hz q
theorem Wb_srtk {ks : List Ky} {vs : List D} (h : (((ks.map kyD).all isIntD || (ks.map kyD).all isStrD) && decide (ks.length < 64)) = true) (q : K (.new (isortB dLt (ks.map kyD)))) : WBi .sorted [.dk ks vs] K := ⟨_, by simp only [biD, sortedD]; rw [if_pos h], q⟩
theorem Wb_srtT {ks : List Ky} {vs : List D} {K : Opd → Prop} (h1 : (((ks.map kyD).all isIntD || (ks.map kyD).all isStrD) && decide (ks.length < 64)) = false) (h2 : sortable2 (ks.map kyD) = true) (q : K (.new (isortB gLt (ks.map kyD)))) : WBi .sorted [.dk ks vs] K := ⟨_, by simp only [biD, sortedD]; rw [if_neg (by rw [h1]; decide), if_pos h2], q⟩
theorem Wb_intb {t : Bool} (q : K (.val (.int (if t = true then 1 else 0)))) : WBi .int [.bl t] K := ⟨_, rfl, q⟩
instance s_Wb_intb {t : Bool} : VStp (WBi .int [.bl t] K) (K (.val (.int (if t = true then 1 else 0)))) := ⟨Wb_intb⟩
theorem Wb_all1 {f : D → Bool} {rows : List D} (q : K (.val (.bl (rows.all f)))) : WBi .all [.lst (rows.map fun d => .bl (f d))] K := ⟨_, all_map f rows, q⟩
theorem Ws_str {cs : List Char} {lo hi : Option Int} (h : cs.length ≤ 16777216) (q : K (.val (.str (cut cs lo hi)))) : WSl (.str cs) lo hi K := ⟨_, by have h' : cs.length ≤ lim := h; simp only [slD, if_pos h'], q⟩
theorem Ws_tup {xs : List D} {lo hi : Option Int} (q : K (.val (.tup (cut xs lo hi)))) : WSl (.tup xs) lo hi K := ⟨_, rfl, q⟩
instance s_Ws_tup {xs : List D} {lo hi : Option Int} : VStp (WSl (.tup xs) lo hi K) (K (.val (.tup (cut xs lo hi)))) := ⟨Ws_tup⟩
theorem Ws_lst {xs : List D} {lo hi : Option Int} (q : K (.new (cut xs lo hi))) : WSl (.lst xs) lo hi K := ⟨_, rfl, q⟩
instance s_Ws_lst {xs : List D} {lo hi : Option Int} : VStp (WSl (.lst xs) lo hi K) (K (.new (cut xs lo hi))) := ⟨Ws_lst⟩
theorem Ws_scr {xs : List Int} {lo hi : Option Int} (q : K (.new ((cut xs lo hi).map .int))) : WSl (.scr xs) lo hi K := ⟨_, rfl, q⟩
instance s_Ws_scr {xs : List Int} {lo hi : Option Int} : VStp (WSl (.scr xs) lo hi K) (K (.new ((cut xs lo hi).map .int))) := ⟨Ws_scr⟩
theorem WM_join {cs : List Char} (h : cs.length ≤ 1000) (q : K (.val (.str cs))) : WM .join (.str []) [.lst (cs.map fun c => .str [c])] K := ⟨_, by simp only [mtD, join_some h], q⟩
end
/-! heads -/
section
variable {C : Cfg} {sd s : SD}
end
/-! draws: def f draws a number from a pot that keeps Pt -/
def Drw (P : Nat → Option Fn) (gl : Nat → D) (f : Nat) (Pt : Nat → List D → Prop) : Prop := mpsOf P f = [true, false] ∧ ∀ (k m : Nat) (xs : List D) (n : Int), 0 < k → Pt m xs → m < 1000000000 → 0 < n → n < 1073741824 →
  ∃ (r : Int) (ys : List D), evF P gl k f [.ml xs, .v (.int n)] = some (.val (.int r), [.ml ys]) ∧ 0 ≤ r ∧ r < n ∧ Pt (m + 1) ys
section
variable {P : Nat → Option Fn} {gl : Nat → D}
theorem draw_w {f k m : Nat} {Pt : Nat → List D → Prop} {xs : List D} {n : Int} {Q : Opd → List Sl → Prop} (hP : Drw P gl f Pt) (hp : Pt m xs) (hk : 0 < k) (hm : m < 1000000000) (hn : 0 < n ∧ n < 1073741824)
    (q : ∀ (r : Int) (ys : List D), 0 ≤ r → r < n → Pt (m + 1) ys → Q (.val (.int r)) [.ml ys]) : WF P gl k f [.ml xs, .v (.int n)] Q := by
  obtain ⟨r, ys, h1, h2, h3, h4⟩ := hP.2 k m xs n hk hp hm hn.1 hn.2
  exact ⟨_, _, h1, q r ys h2 h3 h4⟩
structure WBk (s s2 : SD) (own : List Nat) (K : SD → Prop) : Prop where
  out : K (backD s s2 own)
theorem WBk_i {s s2 s3 : SD} {own : List Nat} {K : SD → Prop} (h : backD s s2 own = s3) (q : K s3) : WBk s s2 own K := ⟨by rw [h]; exact q⟩
theorem WE_compk {C : Cfg} {sd : SD} {elt : E} {tg : Tg} {it : It} {cs : Es} {own : List Nat} {Q : Opd → SD → Prop} (h : WIt C it sd fun rows ops s => rows.length ≤ 16777216 ∧ WCp C elt tg cs own ops rows s fun xs s2 => WBk s s2 own fun s3 => Q (.new xs) s3) : WE C (.comp elt tg it cs own) sd Q := by
  obtain ⟨rows, ops, s, h1, h2, h3⟩ := h
  exact WE_comp ⟨rows, ops, s, h1, decide_eq_true (show rows.length ≤ lim from h2), WCp_mono h3 fun _ _ h => h.out⟩
instance s_WE_compk {C : Cfg} {sd : SD} {elt : E} {tg : Tg} {it : It} {cs : Es} {own : List Nat} {Q : Opd → SD → Prop} : VStp (WE C (.comp elt tg it cs own) sd Q) (WIt C it sd fun rows ops s => rows.length ≤ 16777216 ∧ WCp C elt tg cs own ops rows s fun xs s2 => WBk s s2 own fun s3 => Q (.new xs) s3) := ⟨WE_compk⟩
/-! rows of a walk -/
theorem rowsV_len {rows : List D} : (rows1 rows).length = rows.length := by simp [rows1]
theorem rows_rng0 {b : Int} {j : Nat} {row : List D} (h : (rows1 (rngL 0 b))[j]? = some row) : row = [.int (j : Int)] ∧ (j : Int) < b := by
  have hl := (List.getElem?_eq_some_iff.mp h).1
  rw [rowsV_len, rngL_len] at hl
  have hj : j < (b - 0).toNat := hl
  simp only [rows1, rngL, List.getElem?_map, List.getElem?_range hj, Option.map_some, Option.some.injEq] at h
  exact ⟨by rw [← h]; simp, by omega⟩
end
end Ev

set_option linter.all false
set_option autoImplicit false
set_option Elab.async false
set_option maxRecDepth 100000
set_option maxHeartbeats 1000000
/-! EvVa: comprehensions over lists of anything; any, all, slices of them. -/
namespace Ev
section
variable {C : Cfg} {elt : E} {tg : Tg} {cs : Es} {own : List Nat} {s : SD} {ops : List (Opd × List D)} {K : List D → SD → Prop} {α : Type}
end
section
variable {K : Opd → Prop} {α : Type}
theorem rows1_map {f : α → D} {l : List α} : rows1 (l.map f) = l.map fun x => [f x] := by simp [rows1]
theorem rows1_at {f : α → D} {l : List α} {j : Nat} {row : List D} (h : (rows1 (l.map f))[j]? = some row) : ∃ x, l[j]? = some x ∧ row = [f x] ∧ j < l.length := by
  rw [rows1_map, List.getElem?_map] at h
  obtain ⟨x, hx, rfl⟩ := Option.map_eq_some_iff.mp h
  exact ⟨x, hx, rfl, (List.getElem?_eq_some_iff.mp hx).1⟩
end
section
/-! a thing of None, truths, numbers, texts, lists and tuples is equal to itself -/
end
end Ev

set_option linter.all false
set_option autoImplicit false
set_option Elab.async false
set_option maxRecDepth 100000
set_option maxHeartbeats 1000000
/-! EvX: the hands of the laws k13 to k33, k64 to k68; rows of boats by them. -/
namespace Ev
/-- a hand's three numbers, at most m draws done -/
def Hnd (m : Nat) (xs : List D) : Prop := ∃ a b c : Int, xs = [.int a, .int b, .int c] ∧ 0 ≤ a ∧ 0 ≤ b ∧ b < 4611686018427387904 ∧ 0 ≤ c ∧ c ≤ m
theorem Hnd.mono {m n : Nat} {xs : List D} (h : Hnd m xs) (hn : m ≤ n) : Hnd n xs := by
  obtain ⟨a, b, c, e, h1, h2, h3, h4, h5⟩ := h
  exact ⟨a, b, c, e, h1, h2, h3, h4, by omega⟩
section
variable {P : Nat → Option Fn} {gl : Nat → D}
set_option hygiene false
local macro_rules | `(tactic| walk_at "vc0") => `(tactic| repeat first | (refine vstep ?_) | (refine (?_ : WE _ (.nm _) _ _); refine WE_nm rfl ?_) | (refine (?_ : WAs _ _ _ _ _); first | refine WAs_n rfl (by dsimp only [List.set]) ?_ | refine WAs_2 ?_ | refine WAs_2l ?_ | refine WAs_3 ?_ | refine WAs_4 ?_ | refine WAs_5 ?_) | (refine (?_ : WE _ (.mn _) _ _); refine WE_mn rfl ?_) | (refine (?_ : WE _ (.fz _) _ _); first | refine WE_fz rfl rfl (by dsimp only [List.set]) ?_ | refine WE_fzk rfl rfl (by dsimp only [List.set]) ?_ | refine WE_fzv rfl ?_) | (refine (?_ : WTg _ _ _); refine WTg_i rfl ?_) | (refine (?_ : WIs _ _ _); first | refine WIs_t rfl ?_ | refine WIs_f rfl ?_) | (refine (?_ : WNs _ _); refine WNs_i rfl ?_) | (refine (?_ : WFo _ _ _); first | refine WFo_v ?_ | refine WFo_new ?_ | refine WFo_ml rfl ?_ | refine WFo_mk rfl ?_ | refine WFo_newd ?_) | (refine (?_ : WIf _ _ _); first | refine WIf_t ?_ | refine WIf_f ?_ | refine WIf_n ?_ | refine WIf_d (fun h => ?_) (fun h => absurd rfl h) | (refine WIf_d (fun h => ?_) (fun h => ?_); rotate_left; (exfalso; omega)) | (refine WIf_d (fun h => ?_) (fun h => ?_); (exfalso; omega))) | (refine (?_ : WC _ _ _ _); first | refine WC_eqi ?_ | refine WC_lt ?_ | refine WC_le ?_ | refine WC_gt ?_ | refine WC_ge ?_ | refine WC_nei ?_ | refine WC_eqs ?_ | refine WC_nes ?_ | refine WC_nebs ?_ | refine WC_eqbs ?_ | refine WC_neb ?_ | refine WC_eqb ?_ | refine WC_is_t rfl ?_ | refine WC_is_f rfl ?_ | refine WC_isn_t rfl ?_ | refine WC_isn_f rfl ?_ | refine WC_isT ?_ | refine WC_isF ?_ | refine WC_isnT ?_ | refine WC_isnF ?_ | refine WC_inch ?_ | refine WC_rpne ?_ | refine WC_rpeq ?_) | (refine (?_ : WIx _ _ _); refine WI_g rfl ?_) | (refine (?_ : WO _ _); refine WO_i rfl ?_) | (refine (?_ : WNd _ _); refine WNd_i rfl ?_) | (refine (?_ : WWb _ _ _ _ _ _); refine WWb_i rfl (by dsimp only [wb, List.set]) ?_) | (refine (?_ : WFn _ _ _ _); first | refine WFn_v (by dsimp only [outs]) ?_ | refine WFn_n (by dsimp only [outs]) ?_ | refine WFn_l (by dsimp only [outs]) ?_ | refine WFn_d (by dsimp only [outs]) ?_) | (refine (?_ : WAr _ _ _ _); first | refine WAr_nil ?_ | refine WAr_v ?_ | refine WAr_m rfl ?_ | refine WAr_k rfl ?_) | (refine (?_ : WB _ _ _ _); first | refine WB_add ?_ | refine WB_sub ?_ | (refine WB_mul ?_ ?_; (first | exact mulOk_li (by omega) | exact mulOk_ri (by omega))) | (refine WB_mod ?_ ?_; (first | omega | decide +kernel)) | (refine WB_pow ?_ ?_; (decide +kernel)) | (refine WB_fdiv ?_ ?_; (omega)) | (refine WB_adds ?_ ?_; (first | omega | (simp <;> omega) | (simp [cut] <;> omega))) | (refine WB_addt ?_ ?_; (first | omega | (simp <;> omega) | (simp [cut] <;> omega))) | (refine WB_addl ?_ ?_; (first | omega | (simp <;> omega) | (simp [cut] <;> omega))) | (refine WB_muls ?_ ?_; (first | omega | (simp <;> omega) | (simp [cut] <;> omega))) | (refine WB_mull ?_ ?_; (first | omega | (simp <;> omega) | (simp [cut] <;> omega))) | (refine WB_mult ?_ ?_; (first | omega | (simp <;> omega) | (simp [cut] <;> omega)))) | (refine (?_ : WSm _ _ _ _ _); first | refine WSm_i rfl (by dsimp only [List.set]) ?_ | refine WSm_d rfl (by dsimp only [List.set]) ?_) | (refine (?_ : WApp _ _ _ _); refine WApp_i rfl (by first | omega | (simp <;> omega) | fail) (by dsimp only [List.set]) ?_) | (refine (?_ : WE _ (.cst _) _ _); refine WE_cst ?_) | (refine (?_ : WEs _ _ _ _); first | refine WEs_cons ?_ | refine WEs_nil ?_) | (refine (?_ : WE _ (.call _ _) _ _); refine WE_callP (by assumption) ?_) | (refine (?_ : WE _ (.callN _ _) _ _); refine WE_callN (by assumption) ?_) | (refine (?_ : WNw _ _); first | refine WNw_l ?_ | refine WNw_k ?_) | (refine (?_ : WE _ _ _ _); first | refine WE_bin ?_ | refine WE_cmp ?_ | refine WE_ix ?_ | refine WE_tup ?_ | refine WE_lst ?_ | refine WE_bi ?_ | refine WE_and ?_ | refine WE_or ?_ | refine WE_not ?_ | refine WE_ite ?_ | refine WE_chn ?_ | refine WE_sl ?_ | refine WE_isi ?_ | refine WE_isi2 ?_ | refine WE_mth ?_ | refine WE_neg ?_ | refine WE_dct0 ?_ | refine WE_rv ?_ | refine WE_compk ?_ | refine WE_lset ?_ | refine WE_sset ?_ | refine WE_dct ?_ | refine WE_lrng ?_) | (refine (?_ : WE _ (.eff _ _ _) _ _); first | refine WE_app rfl ?_ | refine WE_ext rfl ?_ | refine WE_popi rfl ?_ | refine WE_reverse rfl (by dsimp only [List.set]) ?_ | refine WE_ins rfl ?_ | refine WE_rem rfl ?_) | (refine (?_ : WE _ (.glo _) _ _); refine WE_glo (by assumption) ?_) | (refine (?_ : WKy _ _); first | refine WKy_i ?_ | refine WKy_s ?_) | (refine (?_ : WSo _ _); first | refine WSo_v ?_ | refine WSo_new ?_ | refine WSo_newd ?_) | (refine (?_ : WK _ _ _ _ _); first | refine WK_next ?_ | refine WK_ret ?_ | refine WK_brk ?_ | refine WK_cont ?_) | (refine (?_ : WSs _ _ _ _); first | refine WSs_cons ?_ | refine WSs_nil ?_) | (refine (?_ : WS _ _ _ _); first | refine WS_set ?_ | refine WS_ex ?_ | refine WS_ret ?_ | refine WS_ife ?_ | refine WS_setm ?_ | refine WS_sti ?_ | refine WS_sti2 ?_ | refine WS_pset ?_ | refine WS_brk ?_ | refine WS_cont ?_ | refine WS_pass ?_ | refine WS_retn ?_ | refine WS_for ?_ | refine WS_aug rfl ?_ | refine WS_augs rfl ?_) | (refine (?_ : WBi _ _ _); first | refine Wl_lst ?_ | refine Wl_tup ?_ | refine Wl_scr ?_ | (refine Wl_str ?_ ?_; (first | omega | (simp <;> omega) | (simp [cut] <;> omega))) | refine Wt_lst ?_ | refine Wt_tup ?_ | refine Wi_lst ?_ | refine Wi_tup ?_ | refine Wb_all1 ?_ | refine Wb_min ?_ | refine Wb_max ?_ | refine Wb_intb ?_ | refine Wb_abs (fun _ _ _ => ?_)) | (refine (?_ : WSL _ _); first | refine WSL_nil ?_ | refine WSL_cons ?_) | (refine (?_ : WFL _ _ _); first | refine WFL_nil ?_ | refine WFL_cons ?_) | (refine (?_ : WAr2 _ _ _ _ _); first | refine WAr2_1 ?_ | refine WAr2_2 ?_) | (refine (?_ : WVo _ _); refine WVo_v ?_) | (refine (?_ : WBo _ _); refine WBo_v ?_) | (refine (?_ : WIo _ _); refine WIo_i ?_) | (refine (?_ : WIn _ _); refine WIn_i ?_) | (refine (?_ : WExt _ _ _ _); first | refine WExt_n rfl (by first | omega | (simp <;> omega) | fail) (by dsimp only [List.set]) ?_ | refine WExt_v rfl (by first | omega | (simp <;> omega) | fail) (by dsimp only [List.set]) ?_ | refine WExt_t rfl (by first | omega | (simp <;> omega) | fail) (by dsimp only [List.set]) ?_) | (refine (?_ : WAt _ _ _); refine WAt_i rfl ?_) | (refine (?_ : WSti _ _ _ _ _); first | refine WSti_i (j := 0) rfl rfl (by first | omega | (simp <;> omega) | fail) (by dsimp only [List.set]) ?_ | refine WSti_i (j := 1) rfl rfl (by first | omega | (simp <;> omega) | fail) (by dsimp only [List.set]) ?_ | refine WSti_i (j := 2) rfl rfl (by first | omega | (simp <;> omega) | fail) (by dsimp only [List.set]) ?_ | refine WSti_k rfl (by first | rfl | assumption | fail) (by first | omega | (simp <;> omega) | fail) (by dsimp only [List.set]) ?_) | (refine (?_ : WIns _ _ _ _ _); refine WIns_0 rfl rfl (by first | omega | (simp <;> omega) | fail) (by dsimp only [List.set]) ?_) | (refine (?_ : WPk _ _); refine WPk_i rfl (by simp) rfl ?_) | (refine (?_ : WPs _ _ _ _ _); first | refine WPs_nil ?_ | refine WPs_m rfl (by dsimp only [List.set]) ?_ | (refine WPs_v rfl ?_; (first | refine WSo_v ?_ | refine WSo_new ?_ | skip); refine ⟨_, by dsimp only [List.set], ?_⟩)) | (refine (?_ : WRt _ _); first | refine WRt_v ?_ | refine WRt_n ?_ | refine WRt_d ?_) | (refine (?_ : WLq _ _ _ _); first | refine WLq_next ?_ | refine WLq_ret ?_ | refine WLq_brk ?_ | refine WLq_cont ?_) | (refine (?_ : WEo _ _ _ _); first | refine WEo_none ?_ | refine WEo_some ?_) | (refine (?_ : WSl _ _ _ _); first | refine Ws_tup ?_ | refine Ws_lst ?_ | refine Ws_scr ?_ | (refine Ws_str ?_ ?_; (first | omega | (simp <;> omega) | (simp [cut] <;> omega)))) | (refine (?_ : WIt _ _ _ _); first | refine WIt_rng ?_ | refine WIt_seq ?_ | refine WIt_enu ?_ | refine WIt_zip ?_ | refine WIt_rrng ?_ | refine WIt_rev ?_) | (refine (?_ : WRg _ _); first | (refine WRg_1 ?_ ?_; (exact rOk_i (by first | omega | (simp [cut] <;> omega) | fail))) | (refine WRg_2 ?_ ?_ ?_; (exact rOk_i (by first | omega | (simp [cut] <;> omega) | fail)); (exact rOk_i (by first | omega | (simp [cut] <;> omega) | fail))) | (refine WRg_3 ?_ ?_ ?_; (exact rOk_i (by first | omega | (simp [cut] <;> omega) | fail)); (exact rOk_i (by first | omega | (simp [cut] <;> omega) | fail)))) | (refine (?_ : WRr _ _); first | (refine WRr_1 ?_ ?_; (exact rOk_i (by first | omega | (simp [cut] <;> omega) | fail))) | (refine WRr_2 ?_ ?_ ?_; (exact rOk_i (by first | omega | (simp [cut] <;> omega) | fail)); (exact rOk_i (by first | omega | (simp [cut] <;> omega) | fail)))) | (refine (?_ : WRl _ _); first | (refine WRl_1 ?_ ?_ ?_; (exact rOk_i (by first | omega | (simp [cut] <;> omega) | fail)); (omega)) | (refine WRl_2 ?_ ?_ ?_ ?_; (exact rOk_i (by first | omega | (simp [cut] <;> omega) | fail)); (exact rOk_i (by first | omega | (simp [cut] <;> omega) | fail)); (omega)) | (refine WRl_3 ?_ ?_ ?_ ?_; (exact rOk_i (by first | omega | (simp [cut] <;> omega) | fail)); (exact rOk_i (by first | omega | (simp [cut] <;> omega) | fail)); (omega))) | (refine (?_ : WCs _ _ _ _); first | refine WCs_nil ?_ | refine WCs_cons ?_) | (refine (?_ : WBk _ _ _ _); refine WBk_i (by dsimp only [backD, List.set, List.getElem?_cons_succ, List.getElem?_cons_zero]) ?_) | (refine (?_ : WM _ _ _ _); first | (refine WM_join ?_ ?_; (omega)) | refine WM_get (by first | rfl | assumption | fail) rfl ?_))
local macro_rules | `(tactic| walk_at "vc1") => `(tactic| walk_at "vc0")
/-- the boats made so far: each a name with its own letter in it, unlike -/
def BtsOk (f t : Nat) (found : List D) : Prop := (∀ i x, found[i]? = some x → ∃ cs, x = .str cs ∧ Name cs ∧ ∃ c, abc[(f + i * t) % 26]? = some c ∧ c ∈ cs) ∧ found.Nodup
theorem BtsOk.strs {f t : Nat} {found : List D} (h : BtsOk f t found) : ∀ x ∈ found, ∃ cs, x = D.str cs := fun x hx => by
  obtain ⟨i, hi, e⟩ := List.mem_iff_getElem.mp hx
  obtain ⟨cs, e2, _⟩ := h.1 i x (by rw [List.getElem?_eq_getElem hi, e])
  exact ⟨cs, e2⟩
theorem BtsOk.boats {f t : Nat} {found : List D} (h : BtsOk f t found) : Boats found := ⟨fun x hx => by
  obtain ⟨i, hi, e⟩ := List.mem_iff_getElem.mp hx
  obtain ⟨cs, e2, hn, _⟩ := h.1 i x (by rw [List.getElem?_eq_getElem hi, e])
  exact ⟨cs, e2, hn⟩, h.2⟩
theorem BtsOk.add {f t : Nat} {found : List D} {cs : List Char} {c : Char} (h : BtsOk f t found) (hn : Name cs) (hc : abc[(f + found.length * t) % 26]? = some c) (hm : c ∈ cs) (no : D.str cs ∉ found) : BtsOk f t (found ++ [.str cs]) := by
  refine ⟨fun i x e => ?_, ?_⟩
  · rcases Nat.lt_or_ge i found.length with hi | hi
    · rw [List.getElem?_append_left hi] at e
      exact h.1 i x e
    · rw [List.getElem?_append_right hi] at e
      have : i - found.length = 0 := by
        have := (List.getElem?_eq_some_iff.mp e).1
        simp at this; omega
      rw [this] at e
      simp at e
      obtain rfl : i = found.length := by omega
      exact ⟨cs, e.symm, hn, c, hc, hm⟩
  · rw [List.nodup_append]
    exact ⟨h.2, by simp, fun a ha b hb => by simp at hb; subst hb; exact fun z => no (by rw [← z]; exact ha)⟩
theorem BtsOk.own8 {f t : Nat} {found : List D} {c : Char} (h : BtsOk f t found) (hl : found.length < 24) (ht : ∀ i j, i < 24 → j < 24 → (f + i * t) % 26 = (f + j * t) % 26 → i = j) (hc : abc[(f + found.length * t) % 26]? = some c) : D.str (List.replicate 8 c) ∉ found := by
  intro hx
  obtain ⟨i, hi, e⟩ := List.mem_iff_getElem.mp hx
  obtain ⟨cs, e2, hn, d, hd, hm⟩ := h.1 i _ (by rw [List.getElem?_eq_getElem hi, e])
  cases e2
  rw [List.eq_of_mem_replicate hm] at hd
  have := ht i found.length (by omega) hl (abc_inj hd hc)
  omega
local macro_rules | `(tactic| walk_at "vc1") => `(tactic| (walk_at "vc0"; repeat ((first | (refine (?_ : WF _ _ _ _ _ _); first | refine draw_w (by assumption) (by assumption) (by omega) (by omega) (by first | omega | (simp <;> omega) | fail) (fun _ _ _ _ _ => ?_))); walk_at "vc0")))
end
end Ev

set_option linter.all false
set_option autoImplicit false
set_option Elab.async false
set_option maxRecDepth 100000
set_option maxHeartbeats 1000000
/-! EvGa: places and heads (k43 to k54): the pot, the places behind a day. -/
namespace Ev
section
variable {P : Nat → Option Fn} {gl : Nat → D}
set_option hygiene false
local macro_rules | `(tactic| walk_at "vc0") => `(tactic| repeat first | (refine vstep ?_) | (refine (?_ : WE _ (.nm _) _ _); refine WE_nm rfl ?_) | (refine (?_ : WAs _ _ _ _ _); first | refine WAs_n rfl (by dsimp only [List.set]) ?_ | refine WAs_2 ?_ | refine WAs_2l ?_ | refine WAs_3 ?_ | refine WAs_4 ?_ | refine WAs_5 ?_) | (refine (?_ : WE _ (.mn _) _ _); refine WE_mn rfl ?_) | (refine (?_ : WE _ (.fz _) _ _); first | refine WE_fz rfl rfl (by dsimp only [List.set]) ?_ | refine WE_fzk rfl rfl (by dsimp only [List.set]) ?_ | refine WE_fzv rfl ?_) | (refine (?_ : WTg _ _ _); refine WTg_i rfl ?_) | (refine (?_ : WIs _ _ _); first | refine WIs_t rfl ?_ | refine WIs_f rfl ?_) | (refine (?_ : WNs _ _); refine WNs_i rfl ?_) | (refine (?_ : WFo _ _ _); first | refine WFo_v ?_ | refine WFo_new ?_ | refine WFo_ml rfl ?_ | refine WFo_mk rfl ?_ | refine WFo_newd ?_) | (refine (?_ : WIf _ _ _); first | refine WIf_t ?_ | refine WIf_f ?_ | refine WIf_n ?_ | refine WIf_d (fun h => ?_) (fun h => absurd rfl h) | (refine WIf_d (fun h => ?_) (fun h => ?_); rotate_left; (exfalso; omega)) | (refine WIf_d (fun h => ?_) (fun h => ?_); (exfalso; omega))) | (refine (?_ : WC _ _ _ _); first | refine WC_eqi ?_ | refine WC_lt ?_ | refine WC_le ?_ | refine WC_gt ?_ | refine WC_ge ?_ | refine WC_nei ?_ | refine WC_eqs ?_ | refine WC_nes ?_ | refine WC_nebs ?_ | refine WC_eqbs ?_ | refine WC_neb ?_ | refine WC_eqb ?_ | refine WC_is_t rfl ?_ | refine WC_is_f rfl ?_ | refine WC_isn_t rfl ?_ | refine WC_isn_f rfl ?_ | refine WC_isT ?_ | refine WC_isF ?_ | refine WC_isnT ?_ | refine WC_isnF ?_ | refine WC_inch ?_ | refine WC_rpne ?_ | refine WC_rpeq ?_) | (refine (?_ : WIx _ _ _); refine WI_g rfl ?_) | (refine (?_ : WO _ _); refine WO_i rfl ?_) | (refine (?_ : WNd _ _); refine WNd_i rfl ?_) | (refine (?_ : WWb _ _ _ _ _ _); refine WWb_i rfl (by dsimp only [wb, List.set]) ?_) | (refine (?_ : WFn _ _ _ _); first | refine WFn_v (by dsimp only [outs]) ?_ | refine WFn_n (by dsimp only [outs]) ?_ | refine WFn_l (by dsimp only [outs]) ?_ | refine WFn_d (by dsimp only [outs]) ?_) | (refine (?_ : WAr _ _ _ _); first | refine WAr_nil ?_ | refine WAr_v ?_ | refine WAr_m rfl ?_ | refine WAr_k rfl ?_) | (refine (?_ : WB _ _ _ _); first | refine WB_add ?_ | refine WB_sub ?_ | (refine WB_mul ?_ ?_; (first | exact mulOk_li (by omega) | exact mulOk_ri (by omega))) | (refine WB_mod ?_ ?_; (first | omega | decide +kernel)) | (refine WB_pow ?_ ?_; (decide +kernel)) | (refine WB_fdiv ?_ ?_; (omega)) | (refine WB_adds ?_ ?_; (first | omega | (simp <;> omega) | (simp [cut] <;> omega))) | (refine WB_addt ?_ ?_; (first | omega | (simp <;> omega) | (simp [cut] <;> omega))) | (refine WB_addl ?_ ?_; (first | omega | (simp <;> omega) | (simp [cut] <;> omega))) | (refine WB_muls ?_ ?_; (first | omega | (simp <;> omega) | (simp [cut] <;> omega))) | (refine WB_mull ?_ ?_; (first | omega | (simp <;> omega) | (simp [cut] <;> omega))) | (refine WB_mult ?_ ?_; (first | omega | (simp <;> omega) | (simp [cut] <;> omega)))) | (refine (?_ : WSm _ _ _ _ _); first | refine WSm_i rfl (by dsimp only [List.set]) ?_ | refine WSm_d rfl (by dsimp only [List.set]) ?_) | (refine (?_ : WApp _ _ _ _); refine WApp_i rfl (by first | omega | (simp <;> omega) | fail) (by dsimp only [List.set]) ?_) | (refine (?_ : WE _ (.cst _) _ _); refine WE_cst ?_) | (refine (?_ : WEs _ _ _ _); first | refine WEs_cons ?_ | refine WEs_nil ?_) | (refine (?_ : WE _ (.call _ _) _ _); refine WE_callP (by assumption) ?_) | (refine (?_ : WE _ (.callN _ _) _ _); refine WE_callN (by assumption) ?_) | (refine (?_ : WNw _ _); first | refine WNw_l ?_ | refine WNw_k ?_) | (refine (?_ : WE _ _ _ _); first | refine WE_bin ?_ | refine WE_cmp ?_ | refine WE_ix ?_ | refine WE_tup ?_ | refine WE_lst ?_ | refine WE_bi ?_ | refine WE_and ?_ | refine WE_or ?_ | refine WE_not ?_ | refine WE_ite ?_ | refine WE_chn ?_ | refine WE_sl ?_ | refine WE_isi ?_ | refine WE_isi2 ?_ | refine WE_mth ?_ | refine WE_neg ?_ | refine WE_dct0 ?_ | refine WE_rv ?_ | refine WE_compk ?_ | refine WE_lset ?_ | refine WE_sset ?_ | refine WE_dct ?_ | refine WE_lrng ?_) | (refine (?_ : WE _ (.eff _ _ _) _ _); first | refine WE_app rfl ?_ | refine WE_ext rfl ?_ | refine WE_popi rfl ?_ | refine WE_reverse rfl (by dsimp only [List.set]) ?_ | refine WE_ins rfl ?_ | refine WE_rem rfl ?_) | (refine (?_ : WE _ (.glo _) _ _); refine WE_glo (by assumption) ?_) | (refine (?_ : WKy _ _); first | refine WKy_i ?_ | refine WKy_s ?_) | (refine (?_ : WSo _ _); first | refine WSo_v ?_ | refine WSo_new ?_ | refine WSo_newd ?_) | (refine (?_ : WK _ _ _ _ _); first | refine WK_next ?_ | refine WK_ret ?_ | refine WK_brk ?_ | refine WK_cont ?_) | (refine (?_ : WSs _ _ _ _); first | refine WSs_cons ?_ | refine WSs_nil ?_) | (refine (?_ : WS _ _ _ _); first | refine WS_set ?_ | refine WS_ex ?_ | refine WS_ret ?_ | refine WS_ife ?_ | refine WS_setm ?_ | refine WS_sti ?_ | refine WS_sti2 ?_ | refine WS_pset ?_ | refine WS_brk ?_ | refine WS_cont ?_ | refine WS_pass ?_ | refine WS_retn ?_ | refine WS_for ?_ | refine WS_aug rfl ?_ | refine WS_augs rfl ?_) | (refine (?_ : WBi _ _ _); first | refine Wl_lst ?_ | refine Wl_tup ?_ | refine Wl_scr ?_ | (refine Wl_str ?_ ?_; (first | omega | (simp <;> omega) | (simp [cut] <;> omega))) | refine Wt_lst ?_ | refine Wt_tup ?_ | refine Wi_lst ?_ | refine Wi_tup ?_ | refine Wb_all1 ?_ | refine Wb_min ?_ | refine Wb_max ?_ | refine Wb_intb ?_ | refine Wb_abs (fun _ _ _ => ?_)) | (refine (?_ : WSL _ _); first | refine WSL_nil ?_ | refine WSL_cons ?_) | (refine (?_ : WFL _ _ _); first | refine WFL_nil ?_ | refine WFL_cons ?_) | (refine (?_ : WAr2 _ _ _ _ _); first | refine WAr2_1 ?_ | refine WAr2_2 ?_) | (refine (?_ : WVo _ _); refine WVo_v ?_) | (refine (?_ : WBo _ _); refine WBo_v ?_) | (refine (?_ : WIo _ _); refine WIo_i ?_) | (refine (?_ : WIn _ _); refine WIn_i ?_) | (refine (?_ : WExt _ _ _ _); first | refine WExt_n rfl (by first | omega | (simp <;> omega) | fail) (by dsimp only [List.set]) ?_ | refine WExt_v rfl (by first | omega | (simp <;> omega) | fail) (by dsimp only [List.set]) ?_ | refine WExt_t rfl (by first | omega | (simp <;> omega) | fail) (by dsimp only [List.set]) ?_) | (refine (?_ : WAt _ _ _); refine WAt_i rfl ?_) | (refine (?_ : WSti _ _ _ _ _); first | refine WSti_i (j := 0) rfl rfl (by first | omega | (simp <;> omega) | fail) (by dsimp only [List.set]) ?_ | refine WSti_i (j := 1) rfl rfl (by first | omega | (simp <;> omega) | fail) (by dsimp only [List.set]) ?_ | refine WSti_i (j := 2) rfl rfl (by first | omega | (simp <;> omega) | fail) (by dsimp only [List.set]) ?_ | refine WSti_k rfl (by first | rfl | assumption | fail) (by first | omega | (simp <;> omega) | fail) (by dsimp only [List.set]) ?_) | (refine (?_ : WIns _ _ _ _ _); refine WIns_0 rfl rfl (by first | omega | (simp <;> omega) | fail) (by dsimp only [List.set]) ?_) | (refine (?_ : WPk _ _); refine WPk_i rfl (by simp) rfl ?_) | (refine (?_ : WPs _ _ _ _ _); first | refine WPs_nil ?_ | refine WPs_m rfl (by dsimp only [List.set]) ?_ | (refine WPs_v rfl ?_; (first | refine WSo_v ?_ | refine WSo_new ?_ | skip); refine ⟨_, by dsimp only [List.set], ?_⟩)) | (refine (?_ : WRt _ _); first | refine WRt_v ?_ | refine WRt_n ?_ | refine WRt_d ?_) | (refine (?_ : WLq _ _ _ _); first | refine WLq_next ?_ | refine WLq_ret ?_ | refine WLq_brk ?_ | refine WLq_cont ?_) | (refine (?_ : WEo _ _ _ _); first | refine WEo_none ?_ | refine WEo_some ?_) | (refine (?_ : WSl _ _ _ _); first | refine Ws_tup ?_ | refine Ws_lst ?_ | refine Ws_scr ?_ | (refine Ws_str ?_ ?_; (first | omega | (simp <;> omega) | (simp [cut] <;> omega)))) | (refine (?_ : WIt _ _ _ _); first | refine WIt_rng ?_ | refine WIt_seq ?_ | refine WIt_enu ?_ | refine WIt_zip ?_ | refine WIt_rrng ?_ | refine WIt_rev ?_) | (refine (?_ : WRg _ _); first | (refine WRg_1 ?_ ?_; (exact rOk_i (by first | omega | (simp [cut] <;> omega) | fail))) | (refine WRg_2 ?_ ?_ ?_; (exact rOk_i (by first | omega | (simp [cut] <;> omega) | fail)); (exact rOk_i (by first | omega | (simp [cut] <;> omega) | fail))) | (refine WRg_3 ?_ ?_ ?_; (exact rOk_i (by first | omega | (simp [cut] <;> omega) | fail)); (exact rOk_i (by first | omega | (simp [cut] <;> omega) | fail)))) | (refine (?_ : WRr _ _); first | (refine WRr_1 ?_ ?_; (exact rOk_i (by first | omega | (simp [cut] <;> omega) | fail))) | (refine WRr_2 ?_ ?_ ?_; (exact rOk_i (by first | omega | (simp [cut] <;> omega) | fail)); (exact rOk_i (by first | omega | (simp [cut] <;> omega) | fail)))) | (refine (?_ : WRl _ _); first | (refine WRl_1 ?_ ?_ ?_; (exact rOk_i (by first | omega | (simp [cut] <;> omega) | fail)); (omega)) | (refine WRl_2 ?_ ?_ ?_ ?_; (exact rOk_i (by first | omega | (simp [cut] <;> omega) | fail)); (exact rOk_i (by first | omega | (simp [cut] <;> omega) | fail)); (omega)) | (refine WRl_3 ?_ ?_ ?_ ?_; (exact rOk_i (by first | omega | (simp [cut] <;> omega) | fail)); (exact rOk_i (by first | omega | (simp [cut] <;> omega) | fail)); (omega))) | (refine (?_ : WCs _ _ _ _); first | refine WCs_nil ?_ | refine WCs_cons ?_) | (refine (?_ : WBk _ _ _ _); refine WBk_i (by dsimp only [backD, List.set, List.getElem?_cons_succ, List.getElem?_cons_zero]) ?_) | (refine (?_ : WM _ _ _ _); first | (refine WM_join ?_ ?_; (omega)) | refine WM_get (by first | rfl | assumption | fail) rfl ?_))
local macro_rules | `(tactic| walk_at "vc1") => `(tactic| walk_at "vc0")
theorem drw15 (hP : P 15 = some My.f15) : Drw P gl 15 Hnd := by
  refine ⟨by simp [mpsOf, hP, My.f15], fun k m xs n hk hp hm h1 h2 => ?_⟩
  obtain ⟨a, b, c, rfl, g1, g2, g3, g4, g5⟩ := hp
  have key : WF P gl k 15 [.ml [.int a, .int b, .int c], .v (.int n)] fun o ou => ∃ (r : Int) (ys : List D), o = .val (.int r) ∧ ou = [.ml ys] ∧ 0 ≤ r ∧ r < n ∧ Hnd (m + 1) ys := by
    refine WF_i hP (by omega) rfl rfl (by simp only [List.cons_append, List.nil_append, List.replicate]; rfl) ?_
    (walk_at "vc1")
    refine WIf_d (fun h => ?_) (fun h => ?_)
    · (walk_at "vc1")
      exact ⟨_, _, rfl, rfl, Int.emod_nonneg _ (by omega), Int.emod_lt_of_pos _ h1, _, _, _, rfl, Int.ediv_nonneg g1 (by omega), g2, g3, g4, by omega⟩
    · (walk_at "vc1")
      exact ⟨_, _, rfl, rfl, Int.emod_nonneg _ (by omega), Int.emod_lt_of_pos _ h1, _, _, _, rfl, g1, g2, g3, by omega, by omega⟩
  obtain ⟨o, ou, e, r, ys, rfl, rfl, g⟩ := key
  exact ⟨r, ys, e, g⟩
theorem begin14_w (hP : P 14 = some My.f14) {k j : Nat} {ns : List Int} (hk : 0 < k) (hj : j < 1000) {Q : Opd → List Sl → Prop} (q : ∀ ys : List D, Hnd 0 ys → Q (.new ys) []) : WF P gl k 14 [.v (.scr ns), .v (.int (j : Int))] Q := by
  have hc : (cut ns none (some 63)).length ≤ 63 := by simp only [cut, sIx, List.length_take, List.length_drop]; simp; omega
  refine WF_i hP (by omega) rfl rfl (by simp only [List.cons_append, List.nil_append, List.replicate]; rfl) ?_
  (walk_at "vc1")
  refine WIf_d (fun h => ?_) (fun h => ?_)
  · (walk_at "vc1")
    refine WI_scr (by omega) ?_
    (walk_at "vc1")
    refine WLp_inv (fun p s => ∃ sd one, s = [.v (.scr ns), .v (.int (j : Int)), .v (.int ns[j]), .v (.int sd), one] ∧ isMut one = false ∧ 0 ≤ sd ∧ sd < 4611686018427387904) ⟨_, .none, rfl, rfl, by omega, by omega⟩ ?_ ?_
    · rintro p row s hr hp ⟨sd, one, rfl, ho, s0, s1⟩
      obtain ⟨x, hx, rfl, _⟩ := rows1_at (f := D.int) hr
      (walk_at "vc1")
      exact ⟨_, _, rfl, rfl, Int.emod_nonneg _ (by decide), Int.lt_trans (Int.emod_lt_of_pos _ (by decide)) (by decide)⟩
    · rintro s ⟨sd, one, rfl, ho, s0, s1⟩
      (walk_at "vc1")
      rename_i y hy _
      refine WB_mul (by decide +kernel) ?_
      (walk_at "vc1")
      rename_i z hz _
      exact q _ ⟨_, _, _, rfl, Int.mul_nonneg (Int.emod_nonneg _ (by decide +kernel)) (by split <;> decide), s0, s1, by decide, by decide⟩
  · (walk_at "vc1")
    refine WLp_inv (fun p s => ∃ sd one, s = [.v (.scr ns), .v (.int (j : Int)), .v (.int 0), .v (.int sd), one] ∧ isMut one = false ∧ 0 ≤ sd ∧ sd < 4611686018427387904) ⟨_, .none, rfl, rfl, by omega, by omega⟩ ?_ ?_
    · rintro p row s hr hp ⟨sd, one, rfl, ho, s0, s1⟩
      obtain ⟨x, hx, rfl, _⟩ := rows1_at (f := D.int) hr
      (walk_at "vc1")
      exact ⟨_, _, rfl, rfl, Int.emod_nonneg _ (by decide), Int.lt_trans (Int.emod_lt_of_pos _ (by decide)) (by decide)⟩
    · rintro s ⟨sd, one, rfl, ho, s0, s1⟩
      (walk_at "vc1")
      rename_i y hy _
      refine WB_mul (by decide +kernel) ?_
      (walk_at "vc1")
      rename_i z hz _
      exact q _ ⟨_, _, _, rfl, Int.mul_nonneg (Int.emod_nonneg _ (by decide +kernel)) (by split <;> decide), s0, s1, by decide, by decide⟩
/-! ### the places that a boat comes to -/
/-- the first and the last place of race k -/
def fsI (sz k : Int) : Int := k * sz
def lsI (sz n k : Int) : Int := if n - 1 < k * sz + sz then n - 1 else k * sz + sz
def mny (sz n : Int) : Int := (n + sz - 1) / sz
/-- one race more -/
def Rst (sz r n : Int) (pl : List Int) (k : Int) (S : Int → Prop) (x : Int) : Prop :=
  S x ∨ (fsI sz k ≤ x ∧ x ≤ lsI sz n k ∧ x ∉ pl ∧ ∃ q, S q ∧ fsI sz k ≤ q ∧ q ≤ lsI sz n k ∧ q - r - 1 ≤ x ∧ x ≤ q + r + 1)
/-! dicts with numbers as keys -/
theorem races0_w {ib : Nat} (h0 : P ib = some My.f0) {k : Nat} {sz n : Int} {r : D} (hk : 0 < k) (hs : 1 ≤ sz ∧ sz ≤ 8) {Q : Opd → List Sl → Prop} (q : Q (.val (.int (mny sz n))) []) : WF P gl k ib [.v (.tup [.int sz, r]), .v (.int n)] Q := by
  refine WF_i h0 (by omega) rfl rfl (by simp only [List.cons_append, List.nil_append, List.replicate]; rfl) ?_
  (walk_at "vc1")
  exact q
theorem span0_w {ib : Nat} (h1 : P ib = some My.f1) {k : Nat} {sz n i : Int} {r : D} (hk : 0 < k) (hs : 1 ≤ sz ∧ sz ≤ 8) {Q : Opd → List Sl → Prop} (q : Q (.val (.tup [.int (fsI sz i), .int (lsI sz n i)])) []) : WF P gl k ib [.v (.tup [.int sz, r]), .v (.int n), .v (.int i)] Q := by
  refine WF_i h1 (by omega) rfl rfl (by simp only [List.cons_append, List.nil_append, List.replicate]; rfl) ?_
  (walk_at "vc1")
  exact q
theorem mny_le {sz n : Int} (hs : 1 ≤ sz ∧ sz ≤ 8) (hn : 1 ≤ n ∧ n ≤ 24) : 0 ≤ mny sz n ∧ mny sz n ≤ 24 := by
  unfold mny
  constructor
  · exact Int.ediv_nonneg (by omega) (by omega)
  · have := Int.ediv_le_self (a := n + sz - 1) sz (by omega)
    have h2 : (n + sz - 1) / sz < 25 := by
      refine Int.ediv_lt_of_lt_mul (by omega) ?_
      have : 25 * sz ≥ 25 + 24 * (sz - 1) := by omega
      omega
    omega
theorem rows_rngI {a b : Int} {j : Nat} {row : List D} (h : (rows1 (rngL a b))[j]? = some row) : row = [.int (a + j)] ∧ a + (j : Int) < b := by
  have hl := (List.getElem?_eq_some_iff.mp h).1
  rw [rowsV_len, rngL_len] at hl
  simp only [rows1, rngL, List.getElem?_map, List.getElem?_range hl, Option.map_some, Option.some.injEq] at h
  exact ⟨h.symm, by omega⟩
/-- within a race: L0 ahead of it, hs the places there that are walked, t of them gone -/
structure Inn (sz r n : Int) (pl : List Int) (K : Int) (L0 : List (Int × D)) (hs : List Int) (j t : Nat) (L : List (Int × D)) : Prop where
  nd : (L.map (·.1)).Nodup
  sub : ∀ x ∈ L0.map (·.1), x ∈ L.map (·.1)
  ok : ∀ x ∈ L.map (·.1), Rst sz r n pl K (fun y => y ∈ L0.map (·.1)) x
  all : ∀ q ∈ hs.take t, ∀ x, fsI sz K ≤ x → x ≤ lsI sz n K → x ∉ pl → q - r - 1 ≤ x → x ≤ q + r + 1 → x ∈ L.map (·.1)
  vs : ∀ e ∈ L, ∃ ms : List D, e.2 = .tup ms ∧ ms.length ≤ j + 1 ∧ (e.1 ∈ L0.map (·.1) → ms.length ≤ j)
theorem Inn.put {sz r n : Int} {pl : List Int} {K : Int} {L0 : List (Int × D)} {hs : List Int} {j t : Nat} {L : List (Int × D)} (h : Inn sz r n pl K L0 hs j t L) {x : Int} {ms : List D} (hx : x ∉ L.map (·.1)) (ho : Rst sz r n pl K (fun y => y ∈ L0.map (·.1)) x) (hl : ms.length ≤ j + 1) : Inn sz r n pl K L0 hs j t (L ++ [(x, .tup ms)]) := by
  have e : (L ++ [(x, D.tup ms)]).map (·.1) = L.map (·.1) ++ [x] := by rw [List.map_append]; rfl
  refine ⟨?_, fun y hy => ?_, fun y hy => ?_, fun q hq y a b c d f => ?_, fun y hy => ?_⟩
  · rw [e, List.nodup_append]
    exact ⟨h.nd, by simp, fun a ha b hb z => hx (by rw [List.mem_singleton.mp hb] at z; rw [← z]; exact ha)⟩
  · rw [e]
    exact List.mem_append_left _ (h.sub y hy)
  · rw [e, List.mem_append, List.mem_singleton] at hy
    rcases hy with hy | rfl
    · exact h.ok y hy
    · exact ho
  · rw [e]
    exact List.mem_append_left _ (h.all q hq y a b c d f)
  · rcases List.mem_append.mp hy with hy | hy
    · exact h.vs y hy
    · rw [List.mem_singleton.mp hy]
      exact ⟨ms, rfl, hl, fun z => absurd (h.sub x z) hx⟩
local macro_rules | `(tactic| walk_at "vc1") => `(tactic| (walk_at "vc0"; repeat ((first | refine WC_iniT ?_ | refine WC_niniT ?_ | refine WC_indk ?_ | refine WC_nindk ?_ | (refine (?_ : WF _ _ _ _ _ _); first | refine races0_w (by assumption) (by omega) hs ?_ | refine span0_w (by assumption) (by omega) hs ?_)); walk_at "vc0")))
local macro_rules | `(tactic| walk_at "vc1") => `(tactic| walk_at "vc0")
local macro_rules | `(tactic| walk_at "vc1") => `(tactic| (walk_at "vc0"; repeat ((first | refine WC_iniT ?_ | refine WC_niniT ?_ | refine WC_niniL ?_ | refine WC_nenili ?_ | (refine (?_ : WF _ _ _ _ _ _); first | refine lraces_w (by assumption) (by omega) hs ?_ | refine lspan_w (by assumption) (by omega) hs ?_)); walk_at "vc0")))
end
end Ev

set_option linter.all false
set_option autoImplicit false
set_option Elab.async false
set_option maxRecDepth 100000
set_option maxHeartbeats 1000000
/-! EvGb: pairs of places as keys; the places of one touch. -/
namespace Ev
def prI (p : Int × Int) : D := .tup [.int p.1, .int p.2]
def kyI (p : Int × Int) : Ky := .t [.i p.1, .i p.2]
theorem kyI_of {p : Int × Int} : kyOf (prI p) = some (kyI p) := rfl
theorem kyI_inj {p q : Int × Int} (h : kyI p = kyI q) : p = q := by
  simp only [kyI, Ky.t.injEq, List.cons.injEq, Ky.i.injEq, and_true] at h
  exact Prod.ext h.1 h.2
def mkI (L : List (Int × Int)) : List (Ky × D) := L.map fun p => (kyI p, .bl true)
theorem mkI_ks {L : List (Int × Int)} : (mkI L).map (·.1) = L.map kyI := by simp [mkI, Function.comp]
theorem mkI_t {L : List (Int × Int)} : allT ((mkI L).map (·.1)) = true := by
  rw [mkI_ks]
  unfold allT
  rw [List.all_map, List.all_eq_true]
  exact fun _ _ => rfl
theorem mkI_in {L : List (Int × Int)} {p : Int × Int} : kyIn ((mkI L).map (·.1)) (prI p) = some (kyI p) := kyIn_t kyI_of rfl mkI_t
theorem mkI_put {L : List (Int × Int)} {p : Int × Int} : putY (mkI L) (kyI p) (.bl true) = if p ∈ L then mkI L else mkI (L ++ [p]) := by
  have a : ((mkI L).any fun kv => decide (kv.1 = kyI p)) = decide (p ∈ L) := by
    rw [Bool.eq_iff_iff, List.any_eq_true, decide_eq_true_eq]
    constructor
    · rintro ⟨x, hx, h⟩
      obtain ⟨q, hq, rfl⟩ := List.mem_map.mp hx
      rw [← kyI_inj (of_decide_eq_true h)]; exact hq
    · exact fun h => ⟨_, List.mem_map.mpr ⟨p, h, rfl⟩, decide_eq_true rfl⟩
  unfold putY
  rw [a]
  by_cases h : p ∈ L
  · rw [decide_eq_true h, if_pos rfl, if_pos h]
    unfold mkI
    rw [List.map_map]
    refine List.map_congr_left fun q hq => ?_
    simp only [Function.comp]
    split <;> rfl
  · rw [decide_eq_false h, if_neg Bool.false_ne_true, if_neg h]
    simp [mkI]
/-- the order of pairs -/
def lxI (p q : Int × Int) : Prop := p.1 < q.1 ∨ p.1 = q.1 ∧ p.2 < q.2
instance {p q : Int × Int} : Decidable (lxI p q) := by unfold lxI; infer_instance
def lxB (p q : Int × Int) : Bool := decide (lxI p q)
theorem gLt_prI {p q : Int × Int} : gLt (prI p) (prI q) = lxB p q := by
  simp only [prI, gLt, gsLt, D.eqv]
  by_cases h : p.1 = q.1
  · by_cases h2 : p.2 = q.2
    · simp [h, h2, lxB, lxI]
    · simp [h, h2, lxB, lxI]
  · simp [h, lxB, lxI]
theorem ins_map {α β : Type} {f : α → β} {lt : α → α → Bool} {lt' : β → β → Bool} (h : ∀ a b, lt' (f a) (f b) = lt a b) (x : α) : ∀ l : List α, insB lt' (f x) (l.map f) = (insB lt x l).map f
  | [] => rfl
  | y :: l => by
    simp only [List.map_cons, insB, h]
    split
    · rw [List.map_cons, ins_map h x l]
    · rfl
theorem isort_map {α β : Type} {f : α → β} {lt : α → α → Bool} {lt' : β → β → Bool} (h : ∀ a b, lt' (f a) (f b) = lt a b) : ∀ l : List α, isortB lt' (l.map f) = (isortB lt l).map f
  | [] => rfl
  | x :: l => by
    simp only [List.map_cons, isortB, isort_map h l, ins_map h]
theorem ins_pw {x : Int × Int} : ∀ {l : List (Int × Int)}, l.Pairwise lxI → x ∉ l → (insB lxB x l).Pairwise lxI
  | [], _, _ => List.pairwise_singleton _ _
  | y :: l, h, hx => by
    have hy := List.pairwise_cons.mp h
    simp only [insB]
    have perm : ∀ {l : List (Int × Int)} {z}, z ∈ insB lxB x l → z = x ∨ z ∈ l := by
      intro l z
      induction l with
      | nil => intro h; simpa [insB] using h
      | cons w l ih =>
        intro h
        simp only [insB] at h
        split at h
        · rcases List.mem_cons.mp h with h | h
          · exact .inr (by simp [h])
          · exact (ih h).imp id fun h => List.mem_cons_of_mem _ h
        · simpa using h
    by_cases hlt : lxI y x
    · rw [if_pos (by simpa [lxB] using hlt)]
      refine List.pairwise_cons.mpr ⟨fun z hz => ?_, ins_pw hy.2 fun q => hx (List.mem_cons_of_mem _ q)⟩
      rcases perm hz with rfl | hz
      · exact hlt
      · exact hy.1 z hz
    · rw [if_neg (by simpa [lxB] using hlt)]
      have hne : x ≠ y := fun e => hx (by simp [e])
      have hxy : lxI x y := by
        unfold lxI at hlt ⊢
        rcases Int.lt_trichotomy x.1 y.1 with a | a | a
        · exact .inl a
        · refine .inr ⟨a, ?_⟩
          rcases Int.lt_trichotomy x.2 y.2 with b | b | b
          · exact b
          · exact absurd (Prod.ext a b) hne
          · exact absurd (.inr ⟨a.symm, b⟩) hlt
        · exact absurd (.inl a) hlt
      refine List.pairwise_cons.mpr ⟨fun z hz => ?_, h⟩
      rcases List.mem_cons.mp hz with rfl | hz
      · exact hxy
      · have := hy.1 z hz
        unfold lxI at hxy this ⊢
        omega
theorem isort_pw : ∀ {l : List (Int × Int)}, l.Nodup → (isortB lxB l).Pairwise lxI
  | [], _ => List.Pairwise.nil
  | x :: l, h => by
    have h2 := List.nodup_cons.mp h
    exact ins_pw (isort_pw h2.2) fun z => h2.1 (isortB_perm.mem_iff.mp z)
theorem lx_uniq {l m : List (Int × Int)} (hl : l.Pairwise lxI) (hm : m.Pairwise lxI) (h : ∀ p, p ∈ l ↔ p ∈ m) : l = m := by
  have nd : ∀ {l : List (Int × Int)}, l.Pairwise lxI → l.Nodup := fun h => h.imp fun {a b} z e => by
    subst e
    unfold lxI at z
    omega
  refine uniq_srt (le := fun p q => decide (lxI p q)) (fun x _ y _ a b => ?_) ((List.perm_ext_iff_of_nodup (nd hl) (nd hm)).mpr h) (hl.imp fun z => decide_eq_true z) (hm.imp fun z => decide_eq_true z)
  have a := of_decide_eq_true a
  have b := of_decide_eq_true b
  unfold lxI at a b
  omega
def sq24 : List (Int × Int) := (List.range 24).flatMap fun a => (List.range 24).map fun b => (Int.ofNat a, Int.ofNat b)
theorem sq24_len : sq24.length = 576 := by decide +kernel
theorem pairs_few {L : List (Int × Int)} (h : L.Nodup) (hb : ∀ p ∈ L, 0 ≤ p.1 ∧ p.1 < 24 ∧ 0 ≤ p.2 ∧ p.2 < 24) : L.length ≤ 576 := by
  have := h.length_le_of_subset (l₂ := sq24) fun p hp => by
    obtain ⟨h1, h2, h3, h4⟩ := hb p hp
    refine List.mem_flatMap.mpr ⟨p.1.toNat, List.mem_range.mpr (by omega), List.mem_map.mpr ⟨p.2.toNat, List.mem_range.mpr (by omega), ?_⟩⟩
    exact Prod.ext (Int.toNat_of_nonneg h1) (Int.toNat_of_nonneg h3)
  rw [sq24_len] at this
  exact this
/-- may be touched in race k -/
def T3 (sz r n k : Int) (p : Int × Int) : Prop := fsI sz k ≤ p.1 ∧ p.1 < lsI sz n k ∧ p.1 < p.2 ∧ p.2 ≤ lsI sz n k ∧ p.2 ≤ p.1 + 1 + r
def Tch (sz r n : Int) (p : Int × Int) : Prop := ∃ k, 0 ≤ k ∧ k < mny sz n ∧ T3 sz r n k p
structure Fp (sz r n : Int) (C : Int × Int → Prop) (L : List (Int × Int)) : Prop where
  nd : L.Nodup
  g : ∀ p ∈ L, Tch sz r n p
  c : ∀ p, C p → p ∈ L
theorem Fp.more {sz r n : Int} {C C' : Int × Int → Prop} {L : List (Int × Int)} (h : Fp sz r n C L) (hc : ∀ p, C' p → C p) : Fp sz r n C' L := ⟨h.nd, h.g, fun p hp => h.c p (hc p hp)⟩
theorem T3.b {sz r n k : Int} {p : Int × Int} (hs : 1 ≤ sz) (hn : 1 ≤ n ∧ n ≤ 24) (hk : 0 ≤ k) (h : T3 sz r n k p) : 0 ≤ p.1 ∧ p.1 < 24 ∧ 0 ≤ p.2 ∧ p.2 < 24 := by
  obtain ⟨h1, h2, h3, h4, h5⟩ := h
  have : 0 ≤ k * sz := Int.mul_nonneg hk (by omega)
  unfold fsI at h1
  unfold lsI at h2 h4
  split at h4 <;> split at h2 <;> omega
theorem Fp.few {sz r n : Int} {C : Int × Int → Prop} {L : List (Int × Int)} (hs : 1 ≤ sz) (hn : 1 ≤ n ∧ n ≤ 24) (h : Fp sz r n C L) : L.length ≤ 576 := pairs_few h.nd fun p hp => by
  obtain ⟨k, k1, k2, k3⟩ := h.g p hp
  exact k3.b hs hn k1
theorem Fp.put {sz r n : Int} {C C' : Int × Int → Prop} {L : List (Int × Int)} (h : Fp sz r n C L) {p : Int × Int} (hp : Tch sz r n p) (hc : ∀ q, C' q → C q ∨ q = p) : ∃ L', putY (mkI L) (kyI p) (.bl true) = mkI L' ∧ Fp sz r n C' L' := by
  rw [mkI_put]
  by_cases hm : p ∈ L
  · rw [if_pos hm]
    refine ⟨L, rfl, h.nd, h.g, fun q hq => ?_⟩
    rcases hc q hq with z | rfl
    · exact h.c q z
    · exact hm
  · rw [if_neg hm]
    refine ⟨L ++ [p], rfl, ?_, fun q hq => ?_, fun q hq => ?_⟩
    · refine List.nodup_append.mpr ⟨h.nd, by simp, fun a ha b hb e => ?_⟩
      rw [List.mem_singleton] at hb
      rw [e, hb] at ha
      exact hm ha
    · rcases List.mem_append.mp hq with z | z
      · exact h.g q z
      · rw [List.mem_singleton.mp z]; exact hp
    · rcases hc q hq with z | rfl
      · exact List.mem_append_left _ (h.c q z)
      · exact List.mem_append_right _ (by simp)
theorem srt_keys {L : List (Int × Int)} : (((((mkI L).map (·.1)).map kyD).all isIntD || (((mkI L).map (·.1)).map kyD).all isStrD) && decide (((mkI L).map (·.1)).length < 64)) = true → L = [] := by
  intro h
  cases L with
  | nil => rfl
  | cons p L => simp [mkI, kyI, kyD, isIntD, isStrD] at h
theorem Wb_touch {L : List (Int × Int)} {vs : List D} (hn : L.Nodup) {K : Opd → Prop} (q : ∀ M : List (Int × Int), M.Pairwise lxI → M.Perm L → K (.new (M.map prI))) : WBi .sorted [.dk ((mkI L).map (·.1)) vs] K := by
  have q := q (isortB lxB L) (isort_pw hn) isortB_perm
  have e : ((mkI L).map (·.1)).map kyD = L.map prI := by
    rw [mkI_ks, List.map_map]
    rfl
  rw [← isort_map (f := prI) (lt' := gLt) fun a b => gLt_prI] at q
  by_cases hc : (((((mkI L).map (·.1)).map kyD).all isIntD || (((mkI L).map (·.1)).map kyD).all isStrD) && decide (((mkI L).map (·.1)).length < 64)) = true
  · have := srt_keys hc
    subst this
    exact Wb_srtk hc q
  · refine Wb_srtT (by simpa using hc) ?_ (by rw [e]; exact q)
    rw [e]
    unfold sortable2
    simp only [Bool.and_eq_true, List.all_eq_true]
    refine ⟨⟨fun x hx y hy => ?_, fun x hx => ?_⟩, fun x hx => ?_⟩
    · obtain ⟨a, _, rfl⟩ := List.mem_map.mp hx
      obtain ⟨b, _, rfl⟩ := List.mem_map.mp hy
      rfl
    · obtain ⟨a, _, rfl⟩ := List.mem_map.mp hx
      rfl
    · obtain ⟨a, _, rfl⟩ := List.mem_map.mp hx
      rfl
section
variable {P : Nat → Option Fn} {gl : Nat → D}
set_option hygiene false
local macro_rules | `(tactic| walk_at "vc0") => `(tactic| repeat first | (refine vstep ?_) | (refine (?_ : WE _ (.nm _) _ _); refine WE_nm rfl ?_) | (refine (?_ : WAs _ _ _ _ _); first | refine WAs_n rfl (by dsimp only [List.set]) ?_ | refine WAs_2 ?_ | refine WAs_2l ?_ | refine WAs_3 ?_ | refine WAs_4 ?_ | refine WAs_5 ?_) | (refine (?_ : WE _ (.mn _) _ _); refine WE_mn rfl ?_) | (refine (?_ : WE _ (.fz _) _ _); first | refine WE_fz rfl rfl (by dsimp only [List.set]) ?_ | refine WE_fzk rfl rfl (by dsimp only [List.set]) ?_ | refine WE_fzv rfl ?_) | (refine (?_ : WTg _ _ _); refine WTg_i rfl ?_) | (refine (?_ : WIs _ _ _); first | refine WIs_t rfl ?_ | refine WIs_f rfl ?_) | (refine (?_ : WNs _ _); refine WNs_i rfl ?_) | (refine (?_ : WFo _ _ _); first | refine WFo_v ?_ | refine WFo_new ?_ | refine WFo_ml rfl ?_ | refine WFo_mk rfl ?_ | refine WFo_newd ?_) | (refine (?_ : WIf _ _ _); first | refine WIf_t ?_ | refine WIf_f ?_ | refine WIf_n ?_ | refine WIf_d (fun h => ?_) (fun h => absurd rfl h) | (refine WIf_d (fun h => ?_) (fun h => ?_); rotate_left; (exfalso; omega)) | (refine WIf_d (fun h => ?_) (fun h => ?_); (exfalso; omega))) | (refine (?_ : WC _ _ _ _); first | refine WC_eqi ?_ | refine WC_lt ?_ | refine WC_le ?_ | refine WC_gt ?_ | refine WC_ge ?_ | refine WC_nei ?_ | refine WC_eqs ?_ | refine WC_nes ?_ | refine WC_nebs ?_ | refine WC_eqbs ?_ | refine WC_neb ?_ | refine WC_eqb ?_ | refine WC_is_t rfl ?_ | refine WC_is_f rfl ?_ | refine WC_isn_t rfl ?_ | refine WC_isn_f rfl ?_ | refine WC_isT ?_ | refine WC_isF ?_ | refine WC_isnT ?_ | refine WC_isnF ?_ | refine WC_inch ?_ | refine WC_rpne ?_ | refine WC_rpeq ?_) | (refine (?_ : WIx _ _ _); refine WI_g rfl ?_) | (refine (?_ : WO _ _); refine WO_i rfl ?_) | (refine (?_ : WNd _ _); refine WNd_i rfl ?_) | (refine (?_ : WWb _ _ _ _ _ _); refine WWb_i rfl (by dsimp only [wb, List.set]) ?_) | (refine (?_ : WFn _ _ _ _); first | refine WFn_v (by dsimp only [outs]) ?_ | refine WFn_n (by dsimp only [outs]) ?_ | refine WFn_l (by dsimp only [outs]) ?_ | refine WFn_d (by dsimp only [outs]) ?_) | (refine (?_ : WAr _ _ _ _); first | refine WAr_nil ?_ | refine WAr_v ?_ | refine WAr_m rfl ?_ | refine WAr_k rfl ?_) | (refine (?_ : WB _ _ _ _); first | refine WB_add ?_ | refine WB_sub ?_ | (refine WB_mul ?_ ?_; (first | exact mulOk_li (by omega) | exact mulOk_ri (by omega))) | (refine WB_mod ?_ ?_; (first | omega | decide +kernel)) | (refine WB_pow ?_ ?_; (decide +kernel)) | (refine WB_fdiv ?_ ?_; (omega)) | (refine WB_adds ?_ ?_; (first | omega | (simp <;> omega) | (simp [cut] <;> omega))) | (refine WB_addt ?_ ?_; (first | omega | (simp <;> omega) | (simp [cut] <;> omega))) | (refine WB_addl ?_ ?_; (first | omega | (simp <;> omega) | (simp [cut] <;> omega))) | (refine WB_muls ?_ ?_; (first | omega | (simp <;> omega) | (simp [cut] <;> omega))) | (refine WB_mull ?_ ?_; (first | omega | (simp <;> omega) | (simp [cut] <;> omega))) | (refine WB_mult ?_ ?_; (first | omega | (simp <;> omega) | (simp [cut] <;> omega)))) | (refine (?_ : WSm _ _ _ _ _); first | refine WSm_i rfl (by dsimp only [List.set]) ?_ | refine WSm_d rfl (by dsimp only [List.set]) ?_) | (refine (?_ : WApp _ _ _ _); refine WApp_i rfl (by first | omega | (simp <;> omega) | fail) (by dsimp only [List.set]) ?_) | (refine (?_ : WE _ (.cst _) _ _); refine WE_cst ?_) | (refine (?_ : WEs _ _ _ _); first | refine WEs_cons ?_ | refine WEs_nil ?_) | (refine (?_ : WE _ (.call _ _) _ _); refine WE_callP (by assumption) ?_) | (refine (?_ : WE _ (.callN _ _) _ _); refine WE_callN (by assumption) ?_) | (refine (?_ : WNw _ _); first | refine WNw_l ?_ | refine WNw_k ?_) | (refine (?_ : WE _ _ _ _); first | refine WE_bin ?_ | refine WE_cmp ?_ | refine WE_ix ?_ | refine WE_tup ?_ | refine WE_lst ?_ | refine WE_bi ?_ | refine WE_and ?_ | refine WE_or ?_ | refine WE_not ?_ | refine WE_ite ?_ | refine WE_chn ?_ | refine WE_sl ?_ | refine WE_isi ?_ | refine WE_isi2 ?_ | refine WE_mth ?_ | refine WE_neg ?_ | refine WE_dct0 ?_ | refine WE_rv ?_ | refine WE_compk ?_ | refine WE_lset ?_ | refine WE_sset ?_ | refine WE_dct ?_ | refine WE_lrng ?_) | (refine (?_ : WE _ (.eff _ _ _) _ _); first | refine WE_app rfl ?_ | refine WE_ext rfl ?_ | refine WE_popi rfl ?_ | refine WE_reverse rfl (by dsimp only [List.set]) ?_ | refine WE_ins rfl ?_ | refine WE_rem rfl ?_) | (refine (?_ : WE _ (.glo _) _ _); refine WE_glo (by assumption) ?_) | (refine (?_ : WKy _ _); first | refine WKy_i ?_ | refine WKy_s ?_) | (refine (?_ : WSo _ _); first | refine WSo_v ?_ | refine WSo_new ?_ | refine WSo_newd ?_) | (refine (?_ : WK _ _ _ _ _); first | refine WK_next ?_ | refine WK_ret ?_ | refine WK_brk ?_ | refine WK_cont ?_) | (refine (?_ : WSs _ _ _ _); first | refine WSs_cons ?_ | refine WSs_nil ?_) | (refine (?_ : WS _ _ _ _); first | refine WS_set ?_ | refine WS_ex ?_ | refine WS_ret ?_ | refine WS_ife ?_ | refine WS_setm ?_ | refine WS_sti ?_ | refine WS_sti2 ?_ | refine WS_pset ?_ | refine WS_brk ?_ | refine WS_cont ?_ | refine WS_pass ?_ | refine WS_retn ?_ | refine WS_for ?_ | refine WS_aug rfl ?_ | refine WS_augs rfl ?_) | (refine (?_ : WBi _ _ _); first | refine Wl_lst ?_ | refine Wl_tup ?_ | refine Wl_scr ?_ | (refine Wl_str ?_ ?_; (first | omega | (simp <;> omega) | (simp [cut] <;> omega))) | refine Wt_lst ?_ | refine Wt_tup ?_ | refine Wi_lst ?_ | refine Wi_tup ?_ | refine Wb_all1 ?_ | refine Wb_min ?_ | refine Wb_max ?_ | refine Wb_intb ?_ | refine Wb_abs (fun _ _ _ => ?_)) | (refine (?_ : WSL _ _); first | refine WSL_nil ?_ | refine WSL_cons ?_) | (refine (?_ : WFL _ _ _); first | refine WFL_nil ?_ | refine WFL_cons ?_) | (refine (?_ : WAr2 _ _ _ _ _); first | refine WAr2_1 ?_ | refine WAr2_2 ?_) | (refine (?_ : WVo _ _); refine WVo_v ?_) | (refine (?_ : WBo _ _); refine WBo_v ?_) | (refine (?_ : WIo _ _); refine WIo_i ?_) | (refine (?_ : WIn _ _); refine WIn_i ?_) | (refine (?_ : WExt _ _ _ _); first | refine WExt_n rfl (by first | omega | (simp <;> omega) | fail) (by dsimp only [List.set]) ?_ | refine WExt_v rfl (by first | omega | (simp <;> omega) | fail) (by dsimp only [List.set]) ?_ | refine WExt_t rfl (by first | omega | (simp <;> omega) | fail) (by dsimp only [List.set]) ?_) | (refine (?_ : WAt _ _ _); refine WAt_i rfl ?_) | (refine (?_ : WSti _ _ _ _ _); first | refine WSti_i (j := 0) rfl rfl (by first | omega | (simp <;> omega) | fail) (by dsimp only [List.set]) ?_ | refine WSti_i (j := 1) rfl rfl (by first | omega | (simp <;> omega) | fail) (by dsimp only [List.set]) ?_ | refine WSti_i (j := 2) rfl rfl (by first | omega | (simp <;> omega) | fail) (by dsimp only [List.set]) ?_ | refine WSti_k rfl (by first | rfl | assumption | fail) (by first | omega | (simp <;> omega) | fail) (by dsimp only [List.set]) ?_) | (refine (?_ : WIns _ _ _ _ _); refine WIns_0 rfl rfl (by first | omega | (simp <;> omega) | fail) (by dsimp only [List.set]) ?_) | (refine (?_ : WPk _ _); refine WPk_i rfl (by simp) rfl ?_) | (refine (?_ : WPs _ _ _ _ _); first | refine WPs_nil ?_ | refine WPs_m rfl (by dsimp only [List.set]) ?_ | (refine WPs_v rfl ?_; (first | refine WSo_v ?_ | refine WSo_new ?_ | skip); refine ⟨_, by dsimp only [List.set], ?_⟩)) | (refine (?_ : WRt _ _); first | refine WRt_v ?_ | refine WRt_n ?_ | refine WRt_d ?_) | (refine (?_ : WLq _ _ _ _); first | refine WLq_next ?_ | refine WLq_ret ?_ | refine WLq_brk ?_ | refine WLq_cont ?_) | (refine (?_ : WEo _ _ _ _); first | refine WEo_none ?_ | refine WEo_some ?_) | (refine (?_ : WSl _ _ _ _); first | refine Ws_tup ?_ | refine Ws_lst ?_ | refine Ws_scr ?_ | (refine Ws_str ?_ ?_; (first | omega | (simp <;> omega) | (simp [cut] <;> omega)))) | (refine (?_ : WIt _ _ _ _); first | refine WIt_rng ?_ | refine WIt_seq ?_ | refine WIt_enu ?_ | refine WIt_zip ?_ | refine WIt_rrng ?_ | refine WIt_rev ?_) | (refine (?_ : WRg _ _); first | (refine WRg_1 ?_ ?_; (exact rOk_i (by first | omega | (simp [cut] <;> omega) | fail))) | (refine WRg_2 ?_ ?_ ?_; (exact rOk_i (by first | omega | (simp [cut] <;> omega) | fail)); (exact rOk_i (by first | omega | (simp [cut] <;> omega) | fail))) | (refine WRg_3 ?_ ?_ ?_; (exact rOk_i (by first | omega | (simp [cut] <;> omega) | fail)); (exact rOk_i (by first | omega | (simp [cut] <;> omega) | fail)))) | (refine (?_ : WRr _ _); first | (refine WRr_1 ?_ ?_; (exact rOk_i (by first | omega | (simp [cut] <;> omega) | fail))) | (refine WRr_2 ?_ ?_ ?_; (exact rOk_i (by first | omega | (simp [cut] <;> omega) | fail)); (exact rOk_i (by first | omega | (simp [cut] <;> omega) | fail)))) | (refine (?_ : WRl _ _); first | (refine WRl_1 ?_ ?_ ?_; (exact rOk_i (by first | omega | (simp [cut] <;> omega) | fail)); (omega)) | (refine WRl_2 ?_ ?_ ?_ ?_; (exact rOk_i (by first | omega | (simp [cut] <;> omega) | fail)); (exact rOk_i (by first | omega | (simp [cut] <;> omega) | fail)); (omega)) | (refine WRl_3 ?_ ?_ ?_ ?_; (exact rOk_i (by first | omega | (simp [cut] <;> omega) | fail)); (exact rOk_i (by first | omega | (simp [cut] <;> omega) | fail)); (omega))) | (refine (?_ : WCs _ _ _ _); first | refine WCs_nil ?_ | refine WCs_cons ?_) | (refine (?_ : WBk _ _ _ _); refine WBk_i (by dsimp only [backD, List.set, List.getElem?_cons_succ, List.getElem?_cons_zero]) ?_) | (refine (?_ : WM _ _ _ _); first | (refine WM_join ?_ ?_; (omega)) | refine WM_get (by first | rfl | assumption | fail) rfl ?_))
local macro_rules | `(tactic| walk_at "vc1") => `(tactic| walk_at "vc0")
theorem touch_w (h0 : P 0 = some My.f0) (h1 : P 1 = some My.f1) {ib : Nat} (h13 : P ib = some My.f13) {k : Nat} {sz r n : Int} (hk : 2 ≤ k) (hs : 1 ≤ sz ∧ sz ≤ 8) (hn : 1 ≤ n ∧ n ≤ 24) (hr : 0 ≤ r ∧ r ≤ 7) {Q : Opd → List Sl → Prop}
    (q : ∀ M : List (Int × Int), M.Pairwise lxI → (∀ p, p ∈ M ↔ Tch sz r n p) → Q (.val (.tup (M.map prI))) []) :
    WF P gl k ib [.v (.tup [.int sz, .int r]), .v (.int n)] Q := by
  have hmn := mny_le hs hn
  refine WF_i h13 (by omega) rfl rfl (by simp only [List.cons_append, List.nil_append, List.replicate]; rfl) ?_
  (walk_at "vc1")
  refine races0_w h0 (by omega) hs ?_
  (walk_at "vc1")
  refine WLp_inv (fun j s => ∃ L s3 s4 s5 s6 s7, s = [.v (.tup [.int sz, .int r]), .v (.int n), .mk (mkI L), s3, s4, s5, s6, s7] ∧ Fp sz r n (fun p => ∃ K : Int, 0 ≤ K ∧ K < j ∧ T3 sz r n K p) L) ⟨[], _, _, _, _, _, rfl, List.nodup_nil, by simp, fun p ⟨K, k1, k2, _⟩ => by omega⟩ ?_ ?_
  · rintro j row s hrow hj ⟨L, s3, s4, s5, s6, s7, rfl, F⟩
    obtain ⟨rfl, hj⟩ := rows_rng0 hrow
    have fj : 0 ≤ fsI sz j := Int.mul_nonneg (by omega) (by omega)
    have fu : fsI sz j ≤ 23 * 8 := Int.mul_le_mul (by omega) (by omega) (by omega) (by omega)
    have lj : lsI sz n j < 24 := by unfold lsI; split <;> omega
    have l0 : 0 ≤ lsI sz n j := by
      unfold fsI at fj
      unfold lsI
      split <;> omega
    (walk_at "vc1")
    refine span0_w h1 (by omega) hs ?_
    (walk_at "vc1")
    refine WLp_inv (fun t s => ∃ L s4 s7, s = [.v (.tup [.int sz, .int r]), .v (.int n), .mk (mkI L), .v (.int j), s4, .v (.int (fsI sz j)), .v (.int (lsI sz n j)), s7] ∧ Fp sz r n (fun p => (∃ K : Int, 0 ≤ K ∧ K < j ∧ T3 sz r n K p) ∨ (p.1 < fsI sz j + t ∧ T3 sz r n j p)) L) ⟨L, _, _, rfl, F.more fun p hp => ?_⟩ ?_ ?_
    · rcases hp with hp | ⟨h1, h2⟩
      · exact hp
      · have := h2.1; omega
    · rintro t row s hrow2 ht ⟨L, s4, s7, rfl, F⟩
      obtain ⟨rfl, ht⟩ := rows_rngI hrow2
      (walk_at "vc1")
      obtain ⟨hi, hhi⟩ : ∃ hi, (if fsI sz j + t + 1 + r < lsI sz n j then fsI sz j + t + 1 + r else lsI sz n j) = hi := ⟨_, rfl⟩
      rw [hhi]
      have hi1 : hi ≤ fsI sz j + t + 1 + r ∧ hi ≤ lsI sz n j ∧ (∀ x, x ≤ fsI sz j + t + 1 + r → x ≤ lsI sz n j → x ≤ hi) := by rw [← hhi]; split <;> exact ⟨by omega, by omega, fun x a b => by omega⟩
      refine WLp_inv (fun u s => ∃ L s7, s = [.v (.tup [.int sz, .int r]), .v (.int n), .mk (mkI L), .v (.int j), .v (.int (fsI sz j + t)), .v (.int (fsI sz j)), .v (.int (lsI sz n j)), s7] ∧ Fp sz r n (fun p => ((∃ K : Int, 0 ≤ K ∧ K < j ∧ T3 sz r n K p) ∨ (p.1 < fsI sz j + t ∧ T3 sz r n j p)) ∨ (p.1 = fsI sz j + t ∧ p.2 < fsI sz j + t + 1 + u ∧ T3 sz r n j p)) L) ⟨L, _, rfl, F.more fun p hp => ?_⟩ ?_ ?_
      · rcases hp with hp | ⟨h1, h2, h3⟩
        · exact hp
        · have := h3.2.2.1; omega
      · rintro u row s hrow3 hu ⟨L, s7, rfl, F⟩
        obtain ⟨rfl, hu⟩ := rows_rngI hrow3
        have few := F.few hs.1 hn
        have hl : (mkI L).length = L.length := by simp [mkI]
        (walk_at "vc1")
        refine WSti_k rfl (mkI_in (p := (fsI sz j + t, fsI sz j + t + 1 + u))) (by omega) (by dsimp only [List.set]) ?_
        have good : T3 sz r n j (fsI sz j + t, fsI sz j + t + 1 + u) := ⟨by show fsI sz j ≤ fsI sz j + t; omega, by show fsI sz j + t < lsI sz n j; omega, by show fsI sz j + t < fsI sz j + t + 1 + u; omega, by show fsI sz j + t + 1 + u ≤ lsI sz n j; omega, by show fsI sz j + t + 1 + u ≤ fsI sz j + t + 1 + r; omega⟩
        obtain ⟨L', e, F'⟩ := F.put (p := (fsI sz j + t, fsI sz j + t + 1 + u)) (C' := fun p => ((∃ K : Int, 0 ≤ K ∧ K < j ∧ T3 sz r n K p) ∨ (p.1 < fsI sz j + t ∧ T3 sz r n j p)) ∨ (p.1 = fsI sz j + t ∧ p.2 < fsI sz j + t + 1 + ((u + 1 : Nat) : Int) ∧ T3 sz r n j p)) ⟨j, by omega, hj, good⟩ fun p hp => by
          rcases hp with hp | ⟨h1, h2, h3⟩
          · exact .inl (.inl hp)
          · by_cases e : p.2 = fsI sz j + t + 1 + u
            · exact .inr (Prod.ext h1 e)
            · exact .inl (.inr ⟨h1, by omega, h3⟩)
        rw [e]
        (walk_at "vc1")
        exact ⟨L', _, rfl, F'⟩
      · rintro s ⟨L, s7, rfl, F⟩
        rw [rowsV_len, rngL_len] at F
        (walk_at "vc1")
        refine ⟨L, _, _, rfl, F.more fun p hp => ?_⟩
        rcases hp with hp | ⟨h1, h2⟩
        · exact .inl (.inl hp)
        · by_cases e : p.1 = fsI sz j + t
          · have z := hi1.2.2 p.2 (by have := h2.2.2.2.2; omega) h2.2.2.2.1
            exact .inr ⟨e, by omega, h2⟩
          · exact .inl (.inr ⟨by omega, h2⟩)
    · rintro s ⟨L, s4, s7, rfl, F⟩
      rw [rowsV_len, rngL_len] at F
      (walk_at "vc1")
      refine ⟨L, _, _, _, _, _, rfl, F.more fun p ⟨K, k1, k2, k3⟩ => ?_⟩
      by_cases e : K = j
      · subst e
        exact .inr ⟨by have := k3.2.1; omega, k3⟩
      · exact .inl ⟨K, k1, by omega, k3⟩
  · rintro s ⟨L, s3, s4, s5, s6, s7, rfl, F⟩
    rw [rowsV_len, rngL_len] at F
    (walk_at "vc1")
    refine Wb_touch F.nd fun M hM pM => ?_
    (walk_at "vc1")
    refine q M hM fun p => ?_
    rw [pM.mem_iff]
    refine ⟨F.g p, fun ⟨K, k1, k2, k3⟩ => F.c p ⟨K, k1, by omega, k3⟩⟩
end
end Ev

set_option Elab.async false
set_option linter.all false
set_option maxRecDepth 100000
set_option maxHeartbeats 0
namespace My
open PySem PySem.Spec Ev
def top (i : Nat) : PySem.Stmt := PySem.Challenge.pw_touchboats_k43_places_of_one_touch.main.body.getD i (.Pass ⟨0, 0, 0, 0⟩)
/-! _law_drawn -/
def f16 : Fn := ⟨1, [true], 5, 10000,
  (.cons (.set (.n 1) (.call 15 (.cons (.mn 0) (.cons (.cst (.int 2)) .nil))))
  (.cons (.pset [(2, false), (3, false), (4, false)] (.cons (.bin .add (.cst (.int 1)) (.call 15 (.cons (.mn 0) (.cons (.cst (.int 8)) .nil)))) (.cons (.call 15 (.cons (.mn 0) (.cons (.cst (.int 8)) .nil))) (.cons (.bin .add (.cst (.int 1)) (.call 15 (.cons (.mn 0) (.cons (.cst (.int 24)) .nil)))) .nil))))
  (.cons (.ife (.cmp .eq (.nm 1) (.cst (.int 1))) 
   (.cons (.set (.n 4) (.bi .min (.cons (.cst (.int 24)) (.cons (.bin .add (.nm 2) (.ix (.lst (.cons (.cst (.int 0)) (.cons (.cst (.int 1)) (.cons (.cst (.int 2)) .nil)))) (.call 15 (.cons (.mn 0) (.cons (.cst (.int 3)) .nil))))) .nil))))
   (.cons (.set (.n 3) (.bi .max (.cons (.cst (.int 0)) (.cons (.bi .min (.cons (.cst (.int 7)) (.cons (.bin .add (.bin .sub (.nm 4) (.cst (.int 4))) (.call 15 (.cons (.mn 0) (.cons (.cst (.int 4)) .nil)))) .nil))) .nil)))) .nil)) .nil)
  (.cons (.ret (.tup (.cons (.tup (.cons (.nm 2) (.cons (.nm 3) .nil))) (.cons (.nm 4) .nil)))) .nil))))⟩
/-! _law_due -/
def f17 : Fn := ⟨2, [false, false], 8, 10000,
  (.cons (.set (.t2 (.n 4) (.n 5)) (.nm 0))
  (.cons (.setm 2 (.lst .nil))
  (.cons (.for_ (.n 3) (.rng (.cons (.nm 1) .nil)) 
   (.cons (.for_ (.n 6) (.rng (.cons (.bin .add (.nm 3) (.cst (.int 1))) (.cons (.nm 1) .nil))) 
    (.cons (.for_ (.n 7) (.rng (.cons (.nm 1) .nil)) 
     (.cons (.ife (.and (.chn .le .lt (.bin .mul (.nm 7) (.nm 4)) (.nm 3) (.bin .add (.bin .mul (.nm 7) (.nm 4)) (.nm 4))) (.and (.cmp .le (.nm 6) (.bin .add (.bin .mul (.nm 7) (.nm 4)) (.nm 4))) (.cmp .le (.bin .sub (.nm 6) (.nm 3)) (.bin .add (.nm 5) (.cst (.int 1)))))) 
      (.cons (.ex (.eff .append 2 (.cons (.tup (.cons (.nm 3) (.cons (.nm 6) .nil))) .nil))) .nil) .nil) .nil)) .nil)) .nil))
  (.cons (.ret (.bi .tuple (.cons (.mn 2) .nil))) .nil))))⟩
/-! law -/
def f18 : Fn := ⟨1, [false], 5, 10000,
  (.cons (.set (.n 1) (.comp (.callN 16 (.call 14 (.cons (.nm 0) (.cons (.nm 4) .nil)))) (.n 4) (.rng (.cons (.bi .max (.cons (.cst (.int 3)) (.cons (.bi .min (.cons (.cst (.int 12)) (.cons (.bi .len (.cons (.nm 0) .nil)) .nil))) .nil))) .nil)) .nil [4]))
  (.cons (.for_ (.t2 (.n 2) (.n 3)) (.seq (.nm 1)) 
   (.cons (.ife (.cmp .ne (.bi .repr (.cons (.call 13 (.cons (.nm 2) (.cons (.nm 3) .nil))) .nil)) (.bi .repr (.cons (.call 17 (.cons (.nm 2) (.cons (.nm 3) .nil))) .nil))) 
    (.cons (.ret (.cst (.bl false))) .nil) .nil) .nil))
  (.cons (.ret (.cst (.bl true))) .nil)))⟩
def e0 : En := ⟨0, f0, "races_of", (["meeting", "n"] : List Str), (["meeting", "n", "size", "reach"] : List Str), top 1⟩
def e1 : En := ⟨1, f1, "span", (["meeting", "n", "k"] : List Str), (["meeting", "n", "k", "size", "reach"] : List Str), top 2⟩
def e13 : En := ⟨13, f13, "touch_places", (["meeting", "n"] : List Str), (["meeting", "n", "found", "k", "p", "first", "last", "q"] : List Str), top 4⟩
def e14 : En := ⟨14, f14, "_law_begin", (["_law_script", "_law_k"] : List Str), (["_law_script", "_law_k", "_law_cell", "_law_seed", "_law_one"] : List Str), top 6⟩
def e15 : En := ⟨15, f15, "_law_take", (["_law_pot", "_law_many"] : List Str), (["_law_pot", "_law_many", "_law_turn", "_law_mixed", "_law_digit"] : List Str), top 7⟩
def e16 : En := ⟨16, f16, "_law_drawn", (["_law_pot"] : List Str), (["_law_pot", "_law_near", "_law_size", "_law_reach", "_law_n"] : List Str), top 8⟩
def e17 : En := ⟨17, f17, "_law_due", (["_law_meeting", "_law_n"] : List Str), (["_law_meeting", "_law_n", "_law_found", "_law_p", "_law_size", "_law_reach", "_law_q", "_law_k"] : List Str), top 9⟩
def e18 : En := ⟨18, f18, "law", (["_law_script"] : List Str), (["_law_script", "_law_lots", "_law_meeting", "_law_n", "_law_k"] : List Str), top 10⟩
def es : List En := [e0, e1, e13, e14, e15, e16, e17, e18]
def gs : List Gl := []
def bl : List Str := (["abs", "int", "len", "max", "min", "range", "repr", "sorted", "tuple"] : List Str)
def fn : List He.DefD := es.map En.df
def fa : List He.Fa := es.map (fun e => .glo e.x) ++ (bl.map .free ++ gs.filterMap glFa)
abbrev R : PySem.W.OpenRow := PySem.W.OpenLaw.row PySem.Challenge.rw_touchboats_k43_places_of_one_touch
abbrev hk : PySem.W.Hook := He.hookD 5 fa fn
def ob (s : PySem.W.SharedT) : He.AlD := He.obsDG 5 fa fn (HandSHeadRun.getT s)
theorem ob_eq (s : PySem.W.SharedT) : ob s = hk.obs s.abs := He.obsDG_eq (HandSHeadRun.getT_eq s)
def names : List Str := (["__name__", "races_of", "span", "touch_places", "_law_begin", "_law_take", "_law_drawn", "_law_due"] : List Str)
theorem run (w : World) : HandSHeadRun.RunEq R (PySem.W.view R.prog [10]) hk ob 4000 names w := by
  intro os
  kernel_rfl
theorem all_ok : allB es gs bl = true := by decide +kernel
theorem b0 : BindE e0 := fun _ _ _ _ _ _ us hl => match us, hl with | [_, _], _ => rfl
theorem b1 : BindE e1 := fun _ _ _ _ _ _ us hl => match us, hl with | [_, _, _], _ => rfl
theorem b13 : BindE e13 := fun _ _ _ _ _ _ us hl => match us, hl with | [_, _], _ => rfl
theorem b14 : BindE e14 := fun _ _ _ _ _ _ us hl => match us, hl with | [_, _], _ => rfl
theorem b15 : BindE e15 := fun _ _ _ _ _ _ us hl => match us, hl with | [_, _], _ => rfl
theorem b16 : BindE e16 := fun _ _ _ _ _ _ us hl => match us, hl with | [_], _ => rfl
theorem b17 : BindE e17 := fun _ _ _ _ _ _ us hl => match us, hl with | [_, _], _ => rfl
theorem b18 : BindE e18 := fun _ _ _ _ _ _ us hl => match us, hl with | [_], _ => rfl
theorem bAll : ∀ e ∈ es, BindE e := by
  simp only [es, List.forall_mem_cons]
  exact ⟨b0, b1, b13, b14, b15, b16, b17, b18, fun _ h => nomatch h⟩
section
variable {P : Nat → Option Fn} {gl : Nat → D}
/-- a pair that the law finds in division k -/
def D3 (sz r n k : Int) (p : Int × Int) : Prop := k * sz ≤ p.1 ∧ p.1 < k * sz + sz ∧ p.2 ≤ k * sz + sz ∧ p.2 - p.1 ≤ r + 1 ∧ 0 ≤ p.1 ∧ p.1 < p.2 ∧ p.2 < n
def Due (sz r n : Int) (p : Int × Int) : Prop := ∃ k, 0 ≤ k ∧ k < n ∧ D3 sz r n k p
theorem k_uniq {sz a k l : Int} (hs : 1 ≤ sz) (h1 : k * sz ≤ a) (h2 : a < k * sz + sz) (h3 : l * sz ≤ a) (h4 : a < l * sz + sz) : k = l := by
  have e1 : a / sz = k := by
    rw [Int.ediv_eq_iff_of_pos (by omega)]
    exact ⟨h1, h2⟩
  have e2 : a / sz = l := by
    rw [Int.ediv_eq_iff_of_pos (by omega)]
    exact ⟨h3, h4⟩
  omega
theorem k_le {sz k : Int} (hs : 1 ≤ sz) (hk : 0 ≤ k) : k ≤ k * sz := by
  have := Int.mul_le_mul_of_nonneg_left hs hk
  omega
theorem due_tch {sz r n : Int} (hs : 1 ≤ sz) {p : Int × Int} : Due sz r n p ↔ Tch sz r n p := by
  constructor
  · rintro ⟨k, k1, k2, h1, h2, h3, h4, h5, h6, h7⟩
    refine ⟨k, k1, ?_, h1, ?_, h6, ?_, by omega⟩
    · unfold mny
      have : k + 1 ≤ (n + sz - 1) / sz := (Int.le_ediv_iff_mul_le (by omega)).mpr (by rw [Int.add_mul]; omega)
      omega
    · unfold lsI; split <;> omega
    · unfold lsI; split <;> omega
  · rintro ⟨k, k1, k2, h1, h2, h3, h4, h5⟩
    have kk := k_le hs k1
    unfold fsI at h1
    unfold lsI at h2 h4
    refine ⟨k, k1, ?_, h1, ?_, ?_, by omega, by omega, h3, ?_⟩ <;> (split at h2 <;> split at h4 <;> omega)
theorem lx_snoc {M : List (Int × Int)} {x : Int × Int} (h : M.Pairwise lxI) (hx : ∀ p ∈ M, lxI p x) : (M ++ [x]).Pairwise lxI :=
  List.pairwise_append.mpr ⟨h, List.pairwise_singleton _ _, fun a ha b hb => by rw [List.mem_singleton.mp hb]; exact hx a ha⟩
set_option hygiene false
local macro_rules | `(tactic| walk_at "vc0") => `(tactic| repeat first | (refine vstep ?_) | (refine (?_ : WE _ (.nm _) _ _); refine WE_nm rfl ?_) | (refine (?_ : WAs _ _ _ _ _); first | refine WAs_n rfl (by dsimp only [List.set]) ?_ | refine WAs_2 ?_ | refine WAs_2l ?_ | refine WAs_3 ?_ | refine WAs_4 ?_ | refine WAs_5 ?_) | (refine (?_ : WE _ (.mn _) _ _); refine WE_mn rfl ?_) | (refine (?_ : WE _ (.fz _) _ _); first | refine WE_fz rfl rfl (by dsimp only [List.set]) ?_ | refine WE_fzk rfl rfl (by dsimp only [List.set]) ?_ | refine WE_fzv rfl ?_) | (refine (?_ : WTg _ _ _); refine WTg_i rfl ?_) | (refine (?_ : WIs _ _ _); first | refine WIs_t rfl ?_ | refine WIs_f rfl ?_) | (refine (?_ : WNs _ _); refine WNs_i rfl ?_) | (refine (?_ : WFo _ _ _); first | refine WFo_v ?_ | refine WFo_new ?_ | refine WFo_ml rfl ?_ | refine WFo_mk rfl ?_ | refine WFo_newd ?_) | (refine (?_ : WIf _ _ _); first | refine WIf_t ?_ | refine WIf_f ?_ | refine WIf_n ?_ | refine WIf_d (fun h => ?_) (fun h => absurd rfl h) | (refine WIf_d (fun h => ?_) (fun h => ?_); rotate_left; (exfalso; omega)) | (refine WIf_d (fun h => ?_) (fun h => ?_); (exfalso; omega))) | (refine (?_ : WC _ _ _ _); first | refine WC_eqi ?_ | refine WC_lt ?_ | refine WC_le ?_ | refine WC_gt ?_ | refine WC_ge ?_ | refine WC_nei ?_ | refine WC_eqs ?_ | refine WC_nes ?_ | refine WC_nebs ?_ | refine WC_eqbs ?_ | refine WC_neb ?_ | refine WC_eqb ?_ | refine WC_is_t rfl ?_ | refine WC_is_f rfl ?_ | refine WC_isn_t rfl ?_ | refine WC_isn_f rfl ?_ | refine WC_isT ?_ | refine WC_isF ?_ | refine WC_isnT ?_ | refine WC_isnF ?_ | refine WC_inch ?_ | refine WC_rpne ?_ | refine WC_rpeq ?_) | (refine (?_ : WIx _ _ _); refine WI_g rfl ?_) | (refine (?_ : WO _ _); refine WO_i rfl ?_) | (refine (?_ : WNd _ _); refine WNd_i rfl ?_) | (refine (?_ : WWb _ _ _ _ _ _); refine WWb_i rfl (by dsimp only [wb, List.set]) ?_) | (refine (?_ : WFn _ _ _ _); first | refine WFn_v (by dsimp only [outs]) ?_ | refine WFn_n (by dsimp only [outs]) ?_ | refine WFn_l (by dsimp only [outs]) ?_ | refine WFn_d (by dsimp only [outs]) ?_) | (refine (?_ : WAr _ _ _ _); first | refine WAr_nil ?_ | refine WAr_v ?_ | refine WAr_m rfl ?_ | refine WAr_k rfl ?_) | (refine (?_ : WB _ _ _ _); first | refine WB_add ?_ | refine WB_sub ?_ | (refine WB_mul ?_ ?_; (first | exact mulOk_li (by omega) | exact mulOk_ri (by omega))) | (refine WB_mod ?_ ?_; (first | omega | decide +kernel)) | (refine WB_pow ?_ ?_; (decide +kernel)) | (refine WB_fdiv ?_ ?_; (omega)) | (refine WB_adds ?_ ?_; (first | omega | (simp <;> omega) | (simp [cut] <;> omega))) | (refine WB_addt ?_ ?_; (first | omega | (simp <;> omega) | (simp [cut] <;> omega))) | (refine WB_addl ?_ ?_; (first | omega | (simp <;> omega) | (simp [cut] <;> omega))) | (refine WB_muls ?_ ?_; (first | omega | (simp <;> omega) | (simp [cut] <;> omega))) | (refine WB_mull ?_ ?_; (first | omega | (simp <;> omega) | (simp [cut] <;> omega))) | (refine WB_mult ?_ ?_; (first | omega | (simp <;> omega) | (simp [cut] <;> omega)))) | (refine (?_ : WSm _ _ _ _ _); first | refine WSm_i rfl (by dsimp only [List.set]) ?_ | refine WSm_d rfl (by dsimp only [List.set]) ?_) | (refine (?_ : WApp _ _ _ _); refine WApp_i rfl (by first | omega | (simp <;> omega) | fail) (by dsimp only [List.set]) ?_) | (refine (?_ : WE _ (.cst _) _ _); refine WE_cst ?_) | (refine (?_ : WEs _ _ _ _); first | refine WEs_cons ?_ | refine WEs_nil ?_) | (refine (?_ : WE _ (.call _ _) _ _); refine WE_callP (by assumption) ?_) | (refine (?_ : WE _ (.callN _ _) _ _); refine WE_callN (by assumption) ?_) | (refine (?_ : WNw _ _); first | refine WNw_l ?_ | refine WNw_k ?_) | (refine (?_ : WE _ _ _ _); first | refine WE_bin ?_ | refine WE_cmp ?_ | refine WE_ix ?_ | refine WE_tup ?_ | refine WE_lst ?_ | refine WE_bi ?_ | refine WE_and ?_ | refine WE_or ?_ | refine WE_not ?_ | refine WE_ite ?_ | refine WE_chn ?_ | refine WE_sl ?_ | refine WE_isi ?_ | refine WE_isi2 ?_ | refine WE_mth ?_ | refine WE_neg ?_ | refine WE_dct0 ?_ | refine WE_rv ?_ | refine WE_compk ?_ | refine WE_lset ?_ | refine WE_sset ?_ | refine WE_dct ?_ | refine WE_lrng ?_) | (refine (?_ : WE _ (.eff _ _ _) _ _); first | refine WE_app rfl ?_ | refine WE_ext rfl ?_ | refine WE_popi rfl ?_ | refine WE_reverse rfl (by dsimp only [List.set]) ?_ | refine WE_ins rfl ?_ | refine WE_rem rfl ?_) | (refine (?_ : WE _ (.glo _) _ _); refine WE_glo (by assumption) ?_) | (refine (?_ : WKy _ _); first | refine WKy_i ?_ | refine WKy_s ?_) | (refine (?_ : WSo _ _); first | refine WSo_v ?_ | refine WSo_new ?_ | refine WSo_newd ?_) | (refine (?_ : WK _ _ _ _ _); first | refine WK_next ?_ | refine WK_ret ?_ | refine WK_brk ?_ | refine WK_cont ?_) | (refine (?_ : WSs _ _ _ _); first | refine WSs_cons ?_ | refine WSs_nil ?_) | (refine (?_ : WS _ _ _ _); first | refine WS_set ?_ | refine WS_ex ?_ | refine WS_ret ?_ | refine WS_ife ?_ | refine WS_setm ?_ | refine WS_sti ?_ | refine WS_sti2 ?_ | refine WS_pset ?_ | refine WS_brk ?_ | refine WS_cont ?_ | refine WS_pass ?_ | refine WS_retn ?_ | refine WS_for ?_ | refine WS_aug rfl ?_ | refine WS_augs rfl ?_) | (refine (?_ : WBi _ _ _); first | refine Wl_lst ?_ | refine Wl_tup ?_ | refine Wl_scr ?_ | (refine Wl_str ?_ ?_; (first | omega | (simp <;> omega) | (simp [cut] <;> omega))) | refine Wt_lst ?_ | refine Wt_tup ?_ | refine Wi_lst ?_ | refine Wi_tup ?_ | refine Wb_all1 ?_ | refine Wb_min ?_ | refine Wb_max ?_ | refine Wb_intb ?_ | refine Wb_abs (fun _ _ _ => ?_)) | (refine (?_ : WSL _ _); first | refine WSL_nil ?_ | refine WSL_cons ?_) | (refine (?_ : WFL _ _ _); first | refine WFL_nil ?_ | refine WFL_cons ?_) | (refine (?_ : WAr2 _ _ _ _ _); first | refine WAr2_1 ?_ | refine WAr2_2 ?_) | (refine (?_ : WVo _ _); refine WVo_v ?_) | (refine (?_ : WBo _ _); refine WBo_v ?_) | (refine (?_ : WIo _ _); refine WIo_i ?_) | (refine (?_ : WIn _ _); refine WIn_i ?_) | (refine (?_ : WExt _ _ _ _); first | refine WExt_n rfl (by first | omega | (simp <;> omega) | fail) (by dsimp only [List.set]) ?_ | refine WExt_v rfl (by first | omega | (simp <;> omega) | fail) (by dsimp only [List.set]) ?_ | refine WExt_t rfl (by first | omega | (simp <;> omega) | fail) (by dsimp only [List.set]) ?_) | (refine (?_ : WAt _ _ _); refine WAt_i rfl ?_) | (refine (?_ : WSti _ _ _ _ _); first | refine WSti_i (j := 0) rfl rfl (by first | omega | (simp <;> omega) | fail) (by dsimp only [List.set]) ?_ | refine WSti_i (j := 1) rfl rfl (by first | omega | (simp <;> omega) | fail) (by dsimp only [List.set]) ?_ | refine WSti_i (j := 2) rfl rfl (by first | omega | (simp <;> omega) | fail) (by dsimp only [List.set]) ?_ | refine WSti_k rfl (by first | rfl | assumption | fail) (by first | omega | (simp <;> omega) | fail) (by dsimp only [List.set]) ?_) | (refine (?_ : WIns _ _ _ _ _); refine WIns_0 rfl rfl (by first | omega | (simp <;> omega) | fail) (by dsimp only [List.set]) ?_) | (refine (?_ : WPk _ _); refine WPk_i rfl (by simp) rfl ?_) | (refine (?_ : WPs _ _ _ _ _); first | refine WPs_nil ?_ | refine WPs_m rfl (by dsimp only [List.set]) ?_ | (refine WPs_v rfl ?_; (first | refine WSo_v ?_ | refine WSo_new ?_ | skip); refine ⟨_, by dsimp only [List.set], ?_⟩)) | (refine (?_ : WRt _ _); first | refine WRt_v ?_ | refine WRt_n ?_ | refine WRt_d ?_) | (refine (?_ : WLq _ _ _ _); first | refine WLq_next ?_ | refine WLq_ret ?_ | refine WLq_brk ?_ | refine WLq_cont ?_) | (refine (?_ : WEo _ _ _ _); first | refine WEo_none ?_ | refine WEo_some ?_) | (refine (?_ : WSl _ _ _ _); first | refine Ws_tup ?_ | refine Ws_lst ?_ | refine Ws_scr ?_ | (refine Ws_str ?_ ?_; (first | omega | (simp <;> omega) | (simp [cut] <;> omega)))) | (refine (?_ : WIt _ _ _ _); first | refine WIt_rng ?_ | refine WIt_seq ?_ | refine WIt_enu ?_ | refine WIt_zip ?_ | refine WIt_rrng ?_ | refine WIt_rev ?_) | (refine (?_ : WRg _ _); first | (refine WRg_1 ?_ ?_; (exact rOk_i (by first | omega | (simp [cut] <;> omega) | fail))) | (refine WRg_2 ?_ ?_ ?_; (exact rOk_i (by first | omega | (simp [cut] <;> omega) | fail)); (exact rOk_i (by first | omega | (simp [cut] <;> omega) | fail))) | (refine WRg_3 ?_ ?_ ?_; (exact rOk_i (by first | omega | (simp [cut] <;> omega) | fail)); (exact rOk_i (by first | omega | (simp [cut] <;> omega) | fail)))) | (refine (?_ : WRr _ _); first | (refine WRr_1 ?_ ?_; (exact rOk_i (by first | omega | (simp [cut] <;> omega) | fail))) | (refine WRr_2 ?_ ?_ ?_; (exact rOk_i (by first | omega | (simp [cut] <;> omega) | fail)); (exact rOk_i (by first | omega | (simp [cut] <;> omega) | fail)))) | (refine (?_ : WRl _ _); first | (refine WRl_1 ?_ ?_ ?_; (exact rOk_i (by first | omega | (simp [cut] <;> omega) | fail)); (omega)) | (refine WRl_2 ?_ ?_ ?_ ?_; (exact rOk_i (by first | omega | (simp [cut] <;> omega) | fail)); (exact rOk_i (by first | omega | (simp [cut] <;> omega) | fail)); (omega)) | (refine WRl_3 ?_ ?_ ?_ ?_; (exact rOk_i (by first | omega | (simp [cut] <;> omega) | fail)); (exact rOk_i (by first | omega | (simp [cut] <;> omega) | fail)); (omega))) | (refine (?_ : WCs _ _ _ _); first | refine WCs_nil ?_ | refine WCs_cons ?_) | (refine (?_ : WBk _ _ _ _); refine WBk_i (by dsimp only [backD, List.set, List.getElem?_cons_succ, List.getElem?_cons_zero]) ?_) | (refine (?_ : WM _ _ _ _); first | (refine WM_join ?_ ?_; (omega)) | refine WM_get (by first | rfl | assumption | fail) rfl ?_))
local macro_rules | `(tactic| walk_at "vc1") => `(tactic| walk_at "vc0")
theorem due_w {ib : Nat} (h17 : P ib = some f17) {k : Nat} {sz r n : Int} (hk : 0 < k) (hs : 1 ≤ sz ∧ sz ≤ 8) (hn : 1 ≤ n ∧ n ≤ 24) (hr : 0 ≤ r ∧ r ≤ 7) {Q : Opd → List Sl → Prop}
    (q : ∀ M : List (Int × Int), M.Pairwise lxI → (∀ p, p ∈ M ↔ Due sz r n p) → Q (.val (.tup (M.map prI))) []) : WF P gl k ib [.v (.tup [.int sz, .int r]), .v (.int n)] Q := by
  have few : ∀ {M : List (Int × Int)}, M.Pairwise lxI → (∀ p ∈ M, Due sz r n p) → M.length ≤ 576 := fun {M} hM hp => pairs_few (hM.imp fun {a b} z e => by subst e; unfold lxI at z; omega) fun p h => by
    obtain ⟨k, _, _, _, _, _, _, h5, h6, h7⟩ := hp p h
    omega
  refine WF_i h17 (by omega) rfl rfl (by simp only [List.cons_append, List.nil_append, List.replicate]; rfl) ?_
  (walk_at "vc1")
  refine WLp_inv (fun j s => ∃ M s3 s6 s7, s = [.v (.tup [.int sz, .int r]), .v (.int n), .ml (M.map prI), s3, .v (.int sz), .v (.int r), s6, s7] ∧ M.Pairwise lxI ∧ ∀ p, p ∈ M ↔ Due sz r n p ∧ p.1 < j) ⟨[], _, _, _, rfl, List.Pairwise.nil, fun p => ⟨(fun z => nomatch z), fun ⟨⟨_, _, _, _, _, _, _, z, _⟩, z2⟩ => by omega⟩⟩ ?_ ?_
  · rintro j row s hrow hj ⟨M, s3, s6, s7, rfl, hM, eM⟩
    obtain ⟨rfl, hj⟩ := rows_rng0 hrow
    (walk_at "vc1")
    refine WLp_inv (fun t s => ∃ M s6 s7, s = [.v (.tup [.int sz, .int r]), .v (.int n), .ml (M.map prI), .v (.int j), .v (.int sz), .v (.int r), s6, s7] ∧ M.Pairwise lxI ∧ ∀ p, p ∈ M ↔ Due sz r n p ∧ (p.1 < j ∨ (p.1 = j ∧ p.2 < j + 1 + t))) ⟨M, _, _, rfl, hM, fun p => ?_⟩ ?_ ?_
    · rw [eM]
      refine and_congr_right fun ⟨_, _, _, _, _, _, _, _, z, _⟩ => ⟨.inl, fun h => ?_⟩
      omega
    · rintro t row s hrow2 ht ⟨M, s6, s7, rfl, hM, eM⟩
      obtain ⟨rfl, ht⟩ := rows_rngI hrow2
      (walk_at "vc1")
      refine WLp_inv (fun u s => ∃ M s7, s = [.v (.tup [.int sz, .int r]), .v (.int n), .ml (M.map prI), .v (.int j), .v (.int sz), .v (.int r), .v (.int (j + 1 + t)), s7] ∧ M.Pairwise lxI ∧ ∀ p, p ∈ M ↔ (Due sz r n p ∧ (p.1 < j ∨ (p.1 = j ∧ p.2 < j + 1 + t))) ∨ (p = ((j : Int), (j : Int) + 1 + t) ∧ ∃ K : Int, 0 ≤ K ∧ K < u ∧ D3 sz r n K p)) ⟨M, _, rfl, hM, fun p => ?_⟩ ?_ ?_
      · rw [eM]
        exact ⟨.inl, fun h => h.resolve_right fun ⟨_, K, k1, k2, _⟩ => by omega⟩
      · rintro u row s hrow3 hu ⟨M, s7, rfl, hM, eM⟩
        obtain ⟨rfl, hu⟩ := rows_rng0 hrow3
        have fw := few hM fun p hp => by
          rcases (eM p).mp hp with h | ⟨_, K, k1, k2, h⟩
          · exact h.1
          · exact ⟨K, k1, by omega, h⟩
        have ml : (M.map prI).length = M.length := List.length_map _
        have usz : 0 ≤ (u : Int) * sz ∧ (u : Int) * sz ≤ 24 * 8 := ⟨Int.mul_nonneg (by omega) (by omega), Int.mul_le_mul (by omega) (by omega) (by omega) (by omega)⟩
        have no : ¬ ((u : Int) * sz ≤ j ∧ (j : Int) < u * sz + sz ∧ (j : Int) + 1 + t ≤ u * sz + sz ∧ (j : Int) + 1 + t - j ≤ r + 1) → ∀ p : Int × Int, p ∈ M ↔ (Due sz r n p ∧ (p.1 < j ∨ (p.1 = j ∧ p.2 < j + 1 + t))) ∨ (p = ((j : Int), (j : Int) + 1 + t) ∧ ∃ K : Int, 0 ≤ K ∧ K < ((u + 1 : Nat) : Int) ∧ D3 sz r n K p) := fun nd p => by
          rw [eM]
          refine or_congr_right (and_congr_right fun e => ⟨fun ⟨K, k1, k2, h⟩ => ⟨K, k1, by omega, h⟩, fun ⟨K, k1, k2, h⟩ => ⟨K, k1, ?_, h⟩⟩)
          by_cases z : K = u
          · rw [z, e] at h
            exact absurd ⟨h.1, h.2.1, h.2.2.1, h.2.2.2.1⟩ nd
          · omega
        (walk_at "vc1")
        refine WIf_d (fun c1 => ?_) (fun c1 => ?_)
        · (walk_at "vc1")
          refine WIf_d (fun c2 => ?_) (fun c2 => ?_)
          · (walk_at "vc1")
            refine WIf_d (fun c3 => ?_) (fun c3 => ?_)
            · (walk_at "vc1")
              refine WIf_d (fun c4 => ?_) (fun c4 => ?_)
              · (walk_at "vc1")
                have d3 : D3 sz r n u ((j : Int), (j : Int) + 1 + t) := ⟨c1, c2, c3, c4, by show (0 : Int) ≤ j; omega, by show (j : Int) < j + 1 + t; omega, by show (j : Int) + 1 + t < n; omega⟩
                refine ⟨M ++ [((j : Int), (j : Int) + 1 + t)], _, by rw [List.map_append]; rfl, lx_snoc hM fun p hp => ?_, fun p => ?_⟩
                · rcases (eM p).mp hp with ⟨_, h⟩ | ⟨e, K, k1, k2, h⟩
                  · unfold lxI
                    rcases h with h | h
                    · exact .inl h
                    · exact .inr h
                  · rw [e] at h
                    have := k_uniq hs.1 h.1 h.2.1 c1 c2
                    omega
                · rw [List.mem_append, List.mem_singleton, eM]
                  constructor
                  · rintro ((h | ⟨e, K, k1, k2, h⟩) | e)
                    · exact .inl h
                    · exact .inr ⟨e, K, k1, by omega, h⟩
                    · exact .inr ⟨e, u, by omega, by omega, by rw [e]; exact d3⟩
                  · rintro (h | ⟨e, _⟩)
                    · exact .inl (.inl h)
                    · exact .inr e
              · (walk_at "vc1")
                exact ⟨M, _, rfl, hM, no fun z => c4 z.2.2.2⟩
            · (walk_at "vc1")
              exact ⟨M, _, rfl, hM, no fun z => c3 z.2.2.1⟩
          · (walk_at "vc1")
            exact ⟨M, _, rfl, hM, no fun z => c2 z.2.1⟩
        · (walk_at "vc1")
          exact ⟨M, _, rfl, hM, no fun z => c1 z.1⟩
      · rintro s ⟨M, s7, rfl, hM, eM⟩
        rw [rowsV_len, rngL_len] at eM
        (walk_at "vc1")
        refine ⟨M, _, _, rfl, hM, fun p => ?_⟩
        rw [eM]
        constructor
        · rintro (⟨h, z⟩ | ⟨e, K, k1, k2, h⟩)
          · exact ⟨h, by omega⟩
          · subst e
            exact ⟨⟨K, k1, by omega, h⟩, .inr ⟨rfl, by show (j : Int) + 1 + t < _; omega⟩⟩
        · rintro ⟨h, z⟩
          by_cases e : p.1 = j ∧ p.2 = j + 1 + t
          · have e : p = ((j : Int), (j : Int) + 1 + t) := Prod.ext e.1 e.2
            obtain ⟨K, k1, k2, h⟩ := h
            exact .inr ⟨e, K, k1, by omega, h⟩
          · exact .inl ⟨h, by omega⟩
    · rintro s ⟨M, s6, s7, rfl, hM, eM⟩
      rw [rowsV_len, rngL_len] at eM
      (walk_at "vc1")
      refine ⟨M, _, _, _, rfl, hM, fun p => ?_⟩
      rw [eM]
      refine and_congr_right fun ⟨_, _, _, _, _, _, _, _, z, z2⟩ => ?_
      omega
  · rintro s ⟨M, s3, s6, s7, rfl, hM, eM⟩
    rw [rowsV_len, rngL_len] at eM
    (walk_at "vc1")
    refine q M hM fun p => ?_
    rw [eM]
    exact ⟨fun h => h.1, fun h => ⟨h, by obtain ⟨_, _, _, _, _, _, _, _, z, z2⟩ := h; omega⟩⟩
local macro_rules | `(tactic| walk_at "vc1") => `(tactic| (walk_at "vc0"; repeat ((first | (refine (?_ : WF _ _ _ _ _ _); first | refine draw_w (by assumption) (by assumption) (by omega) (by omega) (by first | omega | (simp <;> omega) | fail) (fun _ _ _ _ _ => ?_))); walk_at "vc0")))
theorem lot_w (h15 : P 15 = some f15) (h16 : P 16 = some f16) {k : Nat} {xs : List D} (hk : 2 ≤ k) (hp : Hnd 0 xs) {Q : Opd → List Sl → Prop} (q : ∀ sz r n ys, (1 ≤ sz ∧ sz ≤ 8) → (0 ≤ r ∧ r ≤ 7) → (1 ≤ n ∧ n ≤ 24) → Q (.val (.tup [.tup [.int sz, .int r], .int n])) [.ml ys]) : WF P gl k 16 [.ml xs] Q := by
  have hD := drw15 (gl := gl) h15
  refine WF_i h16 (by omega) rfl rfl (by simp only [List.cons_append, List.nil_append, List.replicate]; rfl) ?_
  (walk_at "vc1")
  refine WIf_d (fun h1 => ?_) (fun h1 => ?_)
  · (walk_at "vc1")
    refine WI_mem (by simp; omega) fun d hd => ?_
    obtain ⟨x, rfl, hx⟩ : ∃ x : Int, d = .int x ∧ 0 ≤ x ∧ x ≤ 2 := by
      simp only [List.mem_cons, List.not_mem_nil, or_false] at hd
      rcases hd with rfl | rfl | rfl <;> exact ⟨_, rfl, by omega, by omega⟩
    (walk_at "vc1")
    refine q _ _ _ _ ?_ ?_ ?_
    all_goals (repeat' split) <;> omega
  · (walk_at "vc1")
    exact q _ _ _ _ (by omega) (by omega) (by omega)
theorem rsz_pr {sz r n : Int} {M : List (Int × Int)} (hs : 1 ≤ sz) (hn : 1 ≤ n ∧ n ≤ 24) (hM : M.Pairwise lxI) (h : ∀ p, p ∈ M ↔ Tch sz r n p) : D.shp (.tup (M.map prI)) 60 = true ∧ D.rsz (.tup (M.map prI)) ≤ 10000000 := by
  have few : M.length ≤ 576 := pairs_few (hM.imp fun {a b} z e => by subst e; unfold lxI at z; omega) fun p hp => by
    obtain ⟨k, k1, k2, k3⟩ := (h p).mp hp
    exact k3.b hs hn k1
  constructor
  · rw [D.shp, shpL_all]
    intro d hd
    obtain ⟨p, _, rfl⟩ := List.mem_map.mp hd
    rfl
  · have key : ∀ (xs : List D), (∀ d ∈ xs, D.rsz d ≤ 4008) → D.rszL xs ≤ xs.length * 4010 := fun xs => by
      induction xs with
      | nil => intro _; simp [D.rszL]
      | cons d xs ih =>
        intro h
        have h1 := h d List.mem_cons_self
        have h2 := ih fun e he => h e (List.mem_cons_of_mem _ he)
        simp only [D.rszL, List.length_cons]
        omega
    have sm : ∀ x : Int, 0 ≤ x ∧ x < 24 → D.rsz (.int x) ≤ 2000 := fun x hx => by
      have e : x.natAbs.log2 < 1920 := by
        have h1 : x.natAbs < 2 ^ 5 := by omega
        rcases Nat.eq_zero_or_pos x.natAbs with z | z
        · rw [z]; decide
        · have := (Nat.log2_lt (by omega)).mpr h1
          omega
      simp only [D.rsz, if_pos e]
      exact Nat.le_refl _
    have := key (M.map prI) fun d hd => by
      obtain ⟨p, hp, rfl⟩ := List.mem_map.mp hd
      obtain ⟨k, k1, k2, k3⟩ := (h p).mp hp
      obtain ⟨b1, b2, b3, b4⟩ := k3.b hs hn k1
      have e1 := sm p.1 ⟨b1, b2⟩
      have e2 := sm p.2 ⟨b3, b4⟩
      show D.rsz (.tup [.int p.1, .int p.2]) ≤ 4008
      rw [D.rsz, D.rszL, D.rszL, D.rszL]
      omega
    rw [List.length_map] at this
    rw [D.rsz]
    omega
structure Lot where
  sz : Int
  r : Int
  n : Int
def lotD (l : Lot) : D := .tup [.tup [.int l.sz, .int l.r], .int l.n]
structure Lok (l : Lot) : Prop where
  s : 1 ≤ l.sz ∧ l.sz ≤ 8
  r : 0 ≤ l.r ∧ l.r ≤ 7
  n : 1 ≤ l.n ∧ l.n ≤ 24
local macro_rules | `(tactic| walk_at "vc1") => `(tactic| walk_at "vc0")
theorem law_ok (h0 : P 0 = some f0) (h1 : P 1 = some f1) (h13 : P 13 = some f13) (h14 : P 14 = some f14) (h15 : P 15 = some f15) (h16 : P 16 = some f16) (h17 : P 17 = some f17) (h18 : P 18 = some f18) {ns : List Int} (hns : ns.length ≤ 63) :
    WF P gl 12 18 [.v (.scr ns)] fun o ou => o = .val (.bl true) ∧ ou = [] := by
  refine WF_i h18 (by omega) rfl rfl (by simp only [List.cons_append, List.nil_append, List.replicate]; rfl) ?_
  (walk_at "vc1")
  refine ⟨by rw [rowsV_len, rngL_len]; omega, ?_⟩
  refine WCp_inv (fun j zs s => ∃ (ls : List Lot) (s4 : Sl), zs = ls.map lotD ∧ s = [.v (.scr ns), .none, .none, .none, s4] ∧ (∀ l ∈ ls, Lok l) ∧ isMut s4 = false) ⟨[], .none, rfl, rfl, by simp, rfl⟩ ?_ ?_ ?_
  · rintro j zs s ⟨ls, s4, rfl, rfl, hok, h4⟩
    simp [ownOk, mutAt, h4, chkAll]
  · rintro j row zs s hr hj ⟨ls, s4, rfl, rfl, hok, h4⟩
    obtain ⟨rfl, hj⟩ := rows_rng0 hr
    have hj : j < 1000 := by
      split at hj <;> first | omega | (split at hj <;> omega)
    (walk_at "vc1")
    refine begin14_w h14 (by omega) hj fun ys hys => ?_
    (walk_at "vc1")
    refine lot_w h15 h16 (by omega) hys fun sz r n y2 a b c => ?_
    (walk_at "vc1")
    exact ⟨ls ++ [⟨sz, r, n⟩], _, by rw [List.map_append]; rfl, rfl, fun x hx => by
      rcases List.mem_append.mp hx with z | z
      · exact hok x z
      · rw [List.mem_singleton.mp z]; exact ⟨a, b, c⟩, rfl⟩
  · rintro zs s ⟨ls, s4, rfl, rfl, hok, h4⟩
    (walk_at "vc1")
    refine WLp_inv (fun j s => ∃ s2 s3, s = [.v (.scr ns), .v (.lst (ls.map lotD)), s2, s3, .none]) ⟨.none, .none, rfl⟩ ?_ ?_
    · rintro j row s hr hj ⟨s2, s3, rfl⟩
      obtain ⟨l, hll, rfl, _⟩ := rows1_at (f := lotD) hr
      have hk := hok l (List.mem_of_getElem? hll)
      unfold lotD
      (walk_at "vc1")
      refine touch_w h0 h1 h13 (by omega) hk.s hk.n hk.r fun M1 p1 e1 => ?_
      (walk_at "vc1")
      have c := rsz_pr hk.s.1 hk.n p1 e1
      refine Wb_repr c.1 c.2 ?_
      (walk_at "vc1")
      refine due_w h17 (by omega) hk.s hk.n hk.r fun M2 p2 e2 => ?_
      have e : M2 = M1 := lx_uniq p2 p1 fun p => by rw [e1, e2, due_tch hk.s.1]
      rw [e]
      (walk_at "vc1")
      refine Wb_repr c.1 c.2 ?_
      (walk_at "vc1")
      exact ⟨_, _, rfl⟩
    · rintro s ⟨s2, s3, rfl⟩
      (walk_at "vc1")
      exact ⟨rfl, rfl⟩
end
theorem law_T (ns : List Int) (h : ns.length ≤ 63) : evF (prOf es gs bl).P (prOf es gs bl).gl 12 18 [.v (.scr ns)] = some (.val (.bl true), []) :=
  WF_eq (law_ok rfl rfl rfl rfl rfl rfl rfl rfl h)

end My
open PySem PySem.W PySem.Calls PyProof.Rows
theorem PySem.Challenge.cw_touchboats_k43_places_of_one_touch_holds : PySem.Challenge.rw_touchboats_k43_places_of_one_touch.Holds := by
  w_on; o_law
  refine HandSHeadRun.head_any (r := OpenLaw.row PySem.Challenge.rw_touchboats_k43_places_of_one_touch) (q := view (OpenLaw.row PySem.Challenge.rw_touchboats_k43_places_of_one_touch).prog [10]) (H := My.hk) (ob := My.ob) (M := 4000) (loose := My.names) (d := HandSHeadRun.topDef (OpenLaw.row PySem.Challenge.rw_touchboats_k43_places_of_one_touch).prog 10) (kwd := []) My.ob_eq
    (by kernel_rfl) (fun s => by kernel_rfl) My.run (by kernel_rfl) (by kernel_rfl) (by kernel_rfl) (by rfl) (by first | assumption | decide +kernel) (by decide +kernel) ⟨rfl, rfl, rfl, rfl, rfl, by decide +kernel⟩ ?hw ?hc
  case hw => w_witness2
  case hc =>
    refine Ev.walkG (l := PySem.Challenge.rw_touchboats_k43_places_of_one_touch) (n := 63) (lv := 12) (x := "_law_script") rfl (by decide) (by kernel_rfl) ⟨rfl, by decide, by decide⟩ ?F
    intro w mg fa h Y G hmg0
    obtain ⟨K, KX, c⟩ := Y
    have hmg : mg ("law" : PySem.Str) = some (.ref fa) := by
      have e : (HandSHeadRun.topDef (OpenLaw.row PySem.Challenge.rw_touchboats_k43_places_of_one_touch).prog 10).name = ("law" : PySem.Str) := by kernel_rfl
      rw [← e]
      exact hmg0
    have F := Ev.facts_of (w := w) KX G c (fun e he => List.mem_append_left _ (List.mem_map.mpr ⟨e, he, rfl⟩)) (fun x hx => List.mem_append_right _ (List.mem_append_left _ (List.mem_map.mpr ⟨x, hx, rfl⟩))) rfl My.all_ok My.bAll (Ev.gl_ok KX G c (by decide) (fun f hf => List.mem_append_right _ (List.mem_append_right _ hf)))
    obtain ⟨fd, sp, h1, h2, h3⟩ := Ev.law_end (P := (PySem.Challenge.rw_touchboats_k43_places_of_one_touch).prog) (w := w) (lv := 12) (f := 18) (e := My.e18) (x := "_law_script") KX G c F (by rfl) rfl My.b18 hmg My.law_T
    exact ⟨K, fd, sp, KX, h1, h2, h3⟩

