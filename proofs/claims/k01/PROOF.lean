import PyProof.Rows.All
import Wide.All
import OpenK.AllK
import Wide.FinOn
import HandS.ForMost
import KE.SortData
import PyProof.ReprRoads
import HandS.ForExc
import HandS.Strs
import HandS.SetKeys
import HandS.TupSets
import HandS.HeadHook1
import HandS.Flow
import HandS.IsInst
import HandS.TupAny
import HandS.TupLe
import HandS.Deep
import HandS.TupMul
import KE.DataMinMax
import PyProof.ReprLen
import HandS.HeadEnd
import HandS.Defaults
import HandS.HotCalls
import HandS.ExcIs
import HandS.Small
import HandS.ExcValue
import KE.KExcStr
import KE.DataFind
import HandS.Style
import HandS.SortKw
import KE.DatumOrd
import HandS.Head0
import HandS.Head1
import HandS.Head2
import HandS.HeadHook2
import PyProof.ExcBaseAll.ValueError
import PySem.Challenge.RW_playparts_k01_what_is_a_protocol
set_option Elab.async false
set_option linter.all false
set_option maxRecDepth 100000
/-! PM: a small machine over pure data. Its AST, its evaluator. -/
namespace PM
open PySem

inductive Res (α : Type) where
  | ok (a : α)
  | exc (c : Str)
  | stuck
namespace Res
def bind {α β : Type} (x : Res α) (f : α → Res β) : Res β := match x with
  | .ok a => f a
  | .exc c => .exc c
  | .stuck => .stuck
def map {α β : Type} (f : α → β) (x : Res α) : Res β := match x with
  | .ok a => .ok (f a)
  | .exc c => .exc c
  | .stuck => .stuck
@[simp] theorem bind_ok {α β : Type} (a : α) (f : α → Res β) : (Res.ok a).bind f = f a := rfl
@[simp] theorem bind_exc {α β : Type} (c : Str) (f : α → Res β) : (Res.exc c).bind f = .exc c := rfl
@[simp] theorem bind_stuck {α β : Type} (f : α → Res β) : (Res.stuck : Res α).bind f = .stuck := rfl
@[simp] theorem map_ok {α β : Type} (a : α) (f : α → β) : (Res.ok a).map f = .ok (f a) := rfl
@[simp] theorem map_exc {α β : Type} (c : Str) (f : α → β) : (Res.exc c : Res α).map f = .exc c := rfl
@[simp] theorem map_stuck {α β : Type} (f : α → β) : (Res.stuck : Res α).map f = .stuck := rfl
def of {α : Type} : Option α → Res α
  | some a => .ok a
  | none => .stuck
@[simp] theorem of_some {α : Type} (a : α) : Res.of (some a) = .ok a := rfl
@[simp] theorem of_none {α : Type} : Res.of (none : Option α) = .stuck := rfl
end Res

/-- what may change: a list, a dict, a set, an instance of a class of the program -/
inductive MO where
  | lst (ds : List PyData)
  | dic (kvs : List (PyData × PyData))
  | set (ks : List PyData)
  | ins (c : Str) (fs : List (Str × PyData))
/-- a name's place: nothing, a datum, an instance that stays, an object of its own, one that is lent -/
inductive Slot where
  | no
  | val (d : PyData)
  | ins (c : Str) (fs : List (Str × PyData))
  | own (o : MO)
  | brw (o : MO)
abbrev Fr := List Slot
abbrev FName := Str × Option Str

inductive Bop where | add | sub | mul | fdiv | mod | pow
  deriving DecidableEq
inductive Cop where | eq | ne | lt | le | gt | ge | isN | notN | inn | notIn
  deriving DecidableEq

/-- built-in functions -/
inductive Bf where | len | tuple | list | sorted | set | dict | sum | max | min | maxd | abs | int | repr | range | range2 | enumerate | zip
  deriving DecidableEq
/-- methods of built-in types -/
inductive Mf where | index | count | get | append | extend | pop | insert | add | sdapp
  deriving DecidableEq
/-- built-in classes that are asked for -/
inductive Ty where | int | bool | str | tuple | list
  deriving DecidableEq
inductive T where
  | name (i : Nat)
  | tup (ts : List T)

inductive E where
  | var (i : Nat)
  | cst (d : PyData)
  | glo (x : Str)
  | bin (op : Bop) (a b : E)
  | neg (a : E)
  | not (a : E)
  | and (a b : E)
  | or (a b : E)
  | ite (c a b : E)
  | cmp (op : Cop) (a b : E)
  | chn (o1 o2 : Cop) (a b c : E)
  | tup (es : List E)
  | lst (es : List E)
  | dct (ks vs : List E)
  | sub (a i : E)
  | slc (a : E) (hl : Bool) (lo : E) (hh : Bool) (hi : E)
  | rev (a : E)
  | isi (a : E) (t : Ty)
  | call (f : Str) (io : Bool) (es : List E)
  | meth (cs : List Str) (m : Str) (io : Bool) (o : E) (es : List E)
  | new (c : Str) (es : List E)
  | blt (b : Bf) (es : List E)
  | bme (m : Mf) (o : E) (es : List E)
  | fld (o : E) (f : Str)
  | lc (elt : E) (tg : T) (it cond : E) (own : List Nat)
  | lc2 (elt : E) (tg : T) (it : E) (tg1 : T) (it1 cond : E) (own own1 : List Nat)
  | sc (elt : E) (tg : T) (it : E) (own : List Nat)
  | dc (k v : E) (tg : T) (it : E) (own : List Nat)

inductive S where
  | pass
  | brk
  | cnt
  | expr (e : E)
  | asg (t : T) (e : E)
  | asgS (o i e : E)
  | asgF (o : E) (f : Str) (e : E)
  | augN (i : Nat) (e : E)
  | augF (o : E) (f : Str) (e : E)
  | ret (e : E)
  | ite (c : E) (a b : List S)
  | whl (c : E) (b : List S)
  | for_ (t : T) (it : E) (b : List S)
  | forO (t : T) (i : Nat) (b : List S)
  | junk (i : Nat)
  | raise (c : Str)
  | tryR (i : Nat) (b : List S) (w : Option Str)

inductive Flow where
  | next | brk | cnt
  | ret (s : Slot)

structure FnDef where
  nslots : Nat
  npar : Nat
  io : Bool
  body : List S

structure Ctx where
  fn : FName → List Slot → Res (Slot × Option MO)
  glo : Str → Option PyData
  fuel : Nat
  cls : Str → Bool

/-! ### values -/
inductive Opd where
  | slot (i : Nat)
  | tmp (s : Slot)

def Slot.mo : Slot → Option MO
  | .own o => some o
  | .brw o => some o
  | _ => none
def MO.dat : MO → Option PyData
  | .lst ds => some (.list ds)
  | _ => none
/-- what is read at a place: a datum, or an object -/
inductive Vw where
  | dat (d : PyData)
  | dic (kvs : List (PyData × PyData))
  | set (ks : List PyData)
  | ins (c : Str) (fs : List (Str × PyData))
def MO.vw : MO → Vw
  | .lst ds => .dat (.list ds)
  | .dic kvs => .dic kvs
  | .set ks => .set ks
  | .ins c fs => .ins c fs
def Slot.vw : Slot → Option Vw
  | .no => none
  | .val d => some (.dat d)
  | .ins c fs => some (.ins c fs)
  | .own o => some o.vw
  | .brw o => some o.vw
def Opd.vw (ρ : Fr) : Opd → Option Vw
  | .slot i => (ρ[i]?).bind Slot.vw
  | .tmp s => s.vw
def Vw.dat? : Option Vw → Option PyData
  | some (.dat d) => some d
  | _ => none
def Opd.dat (ρ : Fr) (p : Opd) : Option PyData := Vw.dat? (p.vw ρ)
/-- a place written -/
def Slot.put (o : MO) : Slot → Slot
  | .own _ => .own o
  | .brw _ => .brw o
  | s => s
def Fr.put (ρ : Fr) (i : Nat) (o : MO) : Fr := ρ.modify i (Slot.put o)
/-- frozen: a datum, or an instance that stays -/
def Slot.fz : Slot → Option Slot
  | .val d => some (.val d)
  | .ins c fs => some (.ins c fs)
  | .own (.lst ds) => some (.val (.list ds))
  | .own (.ins c fs) => some (.ins c fs)
  | _ => none
def Slot.toD : Slot → Option PyData
  | .val d => some d
  | .own (.lst ds) => some (.list ds)
  | _ => none

abbrev fits (n : Nat) : Bool := decide (n ≤ 16777216)

/-! ### operators -/
def binI (op : Bop) (i j : Int) : Option Int := match op with
  | .add => some (i + j)
  | .sub => some (i - j)
  | .mul => if (-(2 ^ 64) < i ∧ i < 2 ^ 64) ∨ (-(2 ^ 64) < j ∧ j < 2 ^ 64) then some (i * j) else none
  | .fdiv => if j ≠ 0 ∧ j.natAbs < 1073741824 then some (i.fdiv j) else none
  | .mod => if j ≠ 0 then some (i.fmod j) else none
  | .pow => if 0 ≤ j ∧ j ≤ 1000000 ∧ i.natAbs < 2 ^ 64 then some (i ^ j.toNat) else none
def binD (op : Bop) (a b : PyData) : Option Slot := match a, b with
  | .int i, .int j => (binI op i j).map fun k => .val (.int k)
  | .list xs, .list ys => if op = .add ∧ fits (xs.length + ys.length) = true then some (.own (.lst (xs ++ ys))) else none
  | .tuple xs, .tuple ys => if op = .add ∧ fits (xs.length + ys.length) = true then some (.val (.tuple (xs ++ ys))) else none
  | .tuple xs, .int k => if op = .mul ∧ xs ≠ [] ∧ 1 ≤ k ∧ k ≤ 1000 ∧ xs.length ≤ 1000 then some (.val (.tuple (List.replicate k.toNat xs).flatten)) else none
  | _, _ => none
def eqD (a b : PyData) : Option Bool := if SeqAt.shaped a && SeqAt.shaped b then some (PyData.eqv a b) else none
/-- the four orders -/
inductive Oop where | lt | le | gt | ge
def Oop.i : Oop → Int → Int → Bool
  | .lt, i, j => decide (i < j)
  | .le, i, j => decide (i ≤ j)
  | .gt, i, j => decide (j < i)
  | .ge, i, j => decide (j ≤ i)
def Oop.n : Oop → Nat → Nat → Bool
  | .lt, i, j => decide (i < j)
  | .le, i, j => decide (i ≤ j)
  | .gt, i, j => decide (i > j)
  | .ge, i, j => decide (i ≥ j)
mutual
/-- numbers, and tuples of such, place by place -/
def ordOk : PyData → PyData → Bool
  | .int _, .int _ => true
  | .tuple xs, .tuple ys => ordOkA xs ys
  | _, _ => false
def ordOkA : List PyData → List PyData → Bool
  | x :: xs, y :: ys => ordOk x y && ordOkA xs ys
  | _, _ => true
end
mutual
/-- a < b (<=, >, >=), for such data -/
def ordB (o : Oop) : PyData → PyData → Bool
  | .int i, .int j => o.i i j
  | .tuple xs, .tuple ys => ordBA o xs ys
  | _, _ => false
def ordBA (o : Oop) : List PyData → List PyData → Bool
  | x :: xs, y :: ys => if PyData.eqv x y then ordBA o xs ys else ordB o x y
  | [], [] => o.n 0 0
  | [], _ :: _ => o.n 0 1
  | _ :: _, [] => o.n 1 0
end
def ordD (o : Oop) (a b : PyData) : Option Bool := if ordOk a b && (SeqAt.shaped a && SeqAt.shaped b) then some (ordB o a b) else none
def keyOk : PyData → Bool
  | .none => true
  | .bool _ => true
  | .int _ => true
  | .str _ => true
  | _ => false
def inD (x c : PyData) : Option Bool := match c with
  | .list zs => if SeqAt.shaped x && SeqAt.shaped (.list zs) then some (zs.any fun z => PyData.eqv z x) else none
  | .tuple zs => if SeqAt.shaped x && SeqAt.shaped (.tuple zs) then some (zs.any fun z => PyData.eqv z x) else none
  | _ => none
mutual
/-- what may be a key: numbers, texts, None, and tuples of such -/
def hashable : PyData → Bool
  | .none => true
  | .bool _ => true
  | .int _ => true
  | .str x => strOkB x
  | .tuple xs => hashableAll xs
  | .list _ => false
  | .dict _ => false
def hashableAll : List PyData → Bool
  | [] => true
  | x :: xs => hashable x && hashableAll xs
def strOkB (x : Str) : Bool := x.cps.all (· < 0x110000)
end
/-- int keys, or tuple keys: never both in one dict -/
def isIntKey : PyData → Bool
  | .int _ => true
  | _ => false
def isTupKey : PyData → Bool
  | .tuple xs => hashableAll xs && decide ((PyData.tuple xs).depth ≤ 8)
  | _ => false
def okKeys (kvs : List (PyData × PyData)) (k : PyData) : Bool := (isIntKey k && kvs.all fun p => isIntKey p.1) || (isTupKey k && kvs.all fun p => isTupKey p.1)
def lookK (kvs : List (PyData × PyData)) (k : PyData) : Option PyData := (kvs.find? fun p => PyData.eqv p.1 k).map (·.2)
def putK (kvs : List (PyData × PyData)) (k v : PyData) : List (PyData × PyData) :=
  if (lookK kvs k).isSome then kvs.map fun p => if PyData.eqv p.1 k then (p.1, v) else p else kvs ++ [(k, v)]
def addK (ks : List PyData) (k : PyData) : List PyData := if ks.any fun z => PyData.eqv z k then ks else ks ++ [k]
/-- a flat tuple of whole numbers -/
def isFlat : PyData → Bool
  | .tuple xs => xs.all isIntKey
  | _ => false
def okSet (ks : List PyData) (k : PyData) : Bool := (isIntKey k && (ks.all isIntKey && decide (ks.length < 1000))) || (isFlat k && (ks.all isFlat && decide (ks.length < 62)))
/-- a flat tuple of d whole numbers from 0 on, below 1000 -/
def isRow (d : Nat) : PyData → Bool
  | .tuple xs => decide (xs.length = d) && xs.all fun x => match x with
    | .int i => decide (0 ≤ i) && decide (i < 1000)
    | _ => false
  | _ => false
/-- a set that may be sorted: whole numbers, or acts -/
def srtSet (ks : List PyData) : Bool := decide (ks.length < 62) && (ks.all isIntKey || ks.all (isRow 3))

def cmpV (op : Cop) (x y : Option Vw) : Option Bool := match op with
  | .eq => (Vw.dat? x).bind fun a => (Vw.dat? y).bind fun b => eqD a b
  | .ne => (Vw.dat? x).bind fun a => (Vw.dat? y).bind fun b => (eqD a b).map (!·)
  | .lt => (Vw.dat? x).bind fun a => (Vw.dat? y).bind fun b => ordD .lt a b
  | .gt => (Vw.dat? x).bind fun a => (Vw.dat? y).bind fun b => ordD .gt a b
  | .le => (Vw.dat? x).bind fun a => (Vw.dat? y).bind fun b => ordD .le a b
  | .ge => (Vw.dat? x).bind fun a => (Vw.dat? y).bind fun b => ordD .ge a b
  | .isN => match y, x with
    | some (.dat .none), some (.dat .none) => some true
    | some (.dat .none), some _ => some false
    | _, _ => none
  | .notN => match y, x with
    | some (.dat .none), some (.dat .none) => some false
    | some (.dat .none), some _ => some true
    | _, _ => none
  | .inn => (Vw.dat? x).bind fun a => match y with
    | some (.dat c) => inD a c
    | some (.dic kvs) => if okKeys kvs a then some (lookK kvs a).isSome else none
    | _ => none
  | .notIn => (Vw.dat? x).bind fun a => match y with
    | some (.dat c) => (inD a c).map (!·)
    | some (.dic kvs) => if okKeys kvs a then some (!(lookK kvs a).isSome) else none
    | _ => none
def truV : Option Vw → Option Bool
  | some (.dat .none) => some false
  | some (.dat (.bool b)) => some b
  | some (.dat (.int i)) => some (i != 0)
  | some (.dat (.list xs)) => some (!xs.isEmpty)
  | some (.dat (.tuple xs)) => some (!xs.isEmpty)
  | _ => none
def isiD (d : PyData) (t : Ty) : Bool := match t, d with
  | .int, .int _ => true
  | .int, .bool _ => true
  | .bool, .bool _ => true
  | .str, .str _ => true
  | .tuple, .tuple _ => true
  | .list, .list _ => true
  | _, _ => false
def subV (x : Option Vw) (i : PyData) : Option PyData := match x, i with
  | some (.dat (.list xs)), .int j => L2.atI xs j
  | some (.dat (.tuple xs)), .int j => L2.atI xs j
  | some (.dic kvs), k => if okKeys kvs k then lookK kvs k else none
  | _, _ => none
def cut (xs : List PyData) (lo hi : Option Int) : List PyData := (xs.drop (HT.sIx xs.length 0 lo)).take (HT.sIx xs.length xs.length hi - HT.sIx xs.length 0 lo)
def slcV (x : Option Vw) (l h : Option Int) : Option Slot := match x with
  | some (.dat (.list xs)) => some (.own (.lst (cut xs l h)))
  | some (.dat (.tuple xs)) => some (.val (.tuple (cut xs l h)))
  | _ => none
def revV (x : Option Vw) : Option Slot := match x with
  | some (.dat (.tuple xs)) => some (.val (.tuple xs.reverse))
  | _ => none
def intsOf : List PyData → Option (List Int)
  | [] => some []
  | .int i :: r => (intsOf r).map (i :: ·)
  | _ :: _ => none
def seqOf (x : Option Vw) : Option (List PyData) := match x with
  | some (.dat (.list xs)) => some xs
  | some (.dat (.tuple xs)) => some xs
  | some (.dic kvs) => some (kvs.map (·.1))
  | _ => none
def lstOf (x : Option Vw) : Option (List PyData) := match x with
  | some (.dat (.list xs)) => some xs
  | _ => none
def setOf (x : Option Vw) : Option (List PyData) := match x with
  | some (.set ks) => some ks
  | some (.dat (.list xs)) => some xs
  | some (.dic kvs) => some (kvs.map (·.1))
  | _ => none
def nonEmptyTup : PyData → Bool
  | .tuple (_ :: _) => true
  | _ => false
def noTup : PyData → Bool
  | .tuple _ => false
  | .none => false
  | _ => true
def sortable (xs : List PyData) : Bool := (xs.all fun a => xs.all fun b => PySem.W.alike a b) && (xs.all fun a => decide (a.depth ≤ 64)) && (xs.all nonEmptyTup || xs.all noTup)
def sortD (xs : List PyData) : List PyData := xs.mergeSort (PySem.W.dataLe false id)
def pairsOf : List PyData → Option (List (PyData × PyData))
  | [] => some []
  | .tuple [k, v] :: r => (pairsOf r).map ((k, v) :: ·)
  | _ :: _ => none
def putAll : List (PyData × PyData) → List (PyData × PyData) → List (PyData × PyData)
  | acc, [] => acc
  | acc, (k, v) :: r => putAll (putK acc k v) r
def addAll : List PyData → List PyData → List PyData
  | acc, [] => acc
  | acc, k :: r => addAll (addK acc k) r
def maxI (x : Int) : List Int → Int
  | [] => x
  | y :: r => maxI (if y > x then y else x) r
def minI (x : Int) : List Int → Int
  | [] => x
  | y :: r => minI (if y < x then y else x) r
mutual
/-- what repr may show: numbers of some length, texts of some length -/
def shows : PyData → Bool
  | .none => true
  | .bool _ => true
  | .int i => decide (i.natAbs < 2 ^ 64)
  | .str x => strOkB x
  | .list xs => showsAll xs
  | .tuple xs => showsAll xs
  | .dict _ => false
def showsAll : List PyData → Bool
  | [] => true
  | x :: xs => shows x && showsAll xs
end
def lenV (x : Option Vw) : Option Nat := match x with
  | some (.set _) => none
  | x => (seqOf x).map List.length
def intV (x : Option Vw) : Option Int := match x with
  | some (.dat (.int i)) => some i
  | _ => none
def toI (x : Option Vw) : Option Int := match x with
  | some (.dat (.int i)) => some i
  | some (.dat (.bool k)) => some (if k then 1 else 0)
  | _ => none
def maxL : List Int → Option Int
  | [] => none
  | n :: r => some (maxI n r)
def minL : List Int → Option Int
  | [] => none
  | n :: r => some (minI n r)
def isSetV : Option Vw → Bool
  | some (.set _) => true
  | _ => false
def blt1 (b : Bf) (x : Option Vw) : Option Slot := match b with
  | .len => (lenV x).map fun (n : Nat) => .val (.int n)
  | .tuple => (seqOf x).map fun xs => .val (.tuple xs)
  | .list => (seqOf x).map fun xs => .own (.lst xs)
  | .sorted => (setOf x).bind fun xs => if (sortable xs && fits xs.length) && (!isSetV x || srtSet xs) then some (.own (.lst (sortD xs))) else none
  | .set => (seqOf x).bind fun xs => if (xs.all isIntKey || xs.all isTupKey) then some (.own (.set (addAll [] xs))) else none
  | .dict => (seqOf x).bind fun xs => (pairsOf xs).bind fun ps => if ps.all (fun p => isTupKey p.1) then some (.own (.dic (putAll [] ps))) else none
  | .sum => (lstOf x).bind fun xs => (intsOf xs).map fun ns => .val (.int ns.sum)
  | .max => (lstOf x).bind fun xs => (intsOf xs).bind fun ns => (maxL ns).map fun n => .val (.int n)
  | .min => (lstOf x).bind fun xs => (intsOf xs).bind fun ns => (minL ns).map fun n => .val (.int n)
  | .abs => (intV x).map fun i => .val (.int (if i < 0 then -i else i))
  | .int => (toI x).map fun i => .val (.int i)
  | .repr => (Vw.dat? x).bind fun d => if shows d && (decide (d.weight ≤ 100000) && decide (d.depth ≤ 64)) then some (.val (.str (PyData.shown d))) else none
  | _ => none
def blt2 (b : Bf) (x y : Option Vw) : Option Slot := match b with
  | .max => (intV x).bind fun i => (intV y).map fun j => .val (.int (if j > i then j else i))
  | .min => (intV x).bind fun i => (intV y).map fun j => .val (.int (if j < i then j else i))
  | .maxd => (lstOf x).bind fun xs => (intsOf xs).bind fun ns => (intV y).map fun j => .val (.int ((maxL ns).getD j))
  | _ => none
def bltV (b : Bf) (vs : List (Option Vw)) : Option Slot := match vs with
  | [] => if b = .set then some (.own (.set [])) else none
  | [x] => blt1 b x
  | [x, y] => blt2 b x y
  | _ => none
/-- methods that only read -/
def idxD (xs : List PyData) (x : PyData) : Option Nat := xs.findIdx? fun z => PyData.eqv z x
def cntD (xs : List PyData) (x : PyData) : Nat := (xs.filter fun z => PyData.eqv z x).length
def readM (m : Mf) (o : Option Vw) (as : List PyData) : Option PyData := match m, o, as with
  | .index, some (.dat (.list xs)), [x] => if SeqAt.shaped (.list xs) && SeqAt.shaped x then (idxD xs x).map fun (n : Nat) => .int n else none
  | .count, some (.dat (.list xs)), [x] => if SeqAt.shaped (.list xs) && SeqAt.shaped x then some (.int (cntD xs x)) else none
  | .get, some (.dic kvs), [k, d] => if okKeys kvs k then some ((lookK kvs k).getD d) else none
  | _, _, _ => none
/-- methods that write: the answer, and the object behind it -/
def writeM (m : Mf) (o : MO) (as : List PyData) : Option (PyData × MO) := match m, o, as with
  | .append, .lst xs, [x] => if decide (xs.length < 16777216) then some (.none, .lst (xs ++ [x])) else none
  | .extend, .lst xs, [.list ys] => if fits (xs.length + ys.length) then some (.none, .lst (xs ++ ys)) else none
  | .pop, .lst xs, [] => (xs.getLast?).map fun z => (z, .lst xs.dropLast)
  | .insert, .lst xs, [.int i, x] => if 0 ≤ i ∧ i ≤ xs.length ∧ xs.length < 16777216 then some (.none, .lst (xs.insertIdx i.toNat x)) else none
  | .add, .set ks, [x] => if okSet ks x then some (.none, .set (addK ks x)) else none
  | .sdapp, .dic kvs, [k, x] => if okKeys kvs k && decide (kvs.length < 16777216) then (match lookK kvs k with
      | some (.list zs) => if decide (zs.length < 16777216) then some (.none, .dic (putK kvs k (.list (zs ++ [x])))) else none
      | none => some (.none, .dic (putK kvs k (.list [x])))
      | _ => none) else none
  | _, _, _ => none
def setI (o : MO) (i v : PyData) : Option MO := match o with
  | .lst xs => (match i with
    | .int j => (L2.ixN xs.length j).map fun n => .lst (xs.set n v)
    | _ => none)
  | .dic kvs => if okKeys kvs i && decide (kvs.length < 16777216) then some (.dic (putK kvs i v)) else none
  | _ => none
def putFd (f : Str) (v : PyData) : List (Str × PyData) → List (Str × PyData)
  | [] => [(f, v)]
  | (g, x) :: r => if g = f then (g, v) :: r else (g, x) :: putFd f v r

/-! ### targets -/
mutual
def asgT : T → PyData → Fr → Option Fr
  | .name i, d, ρ => match ρ[i]? with
    | some (.brw _) => none
    | some _ => some (ρ.set i (.val d))
    | none => none
  | .tup ts, d, ρ => match d with
    | .tuple ds => asgTs ts ds ρ
    | _ => none
def asgTs : List T → List PyData → Fr → Option Fr
  | [], [], ρ => some ρ
  | t :: ts, d :: ds, ρ => (asgT t d ρ).bind fun ρ' => asgTs ts ds ρ'
  | _, _, _ => none
end
def plainS : Slot → Bool
  | .no => true
  | .val _ => true
  | .ins _ _ => true
  | _ => false
/-- the places of own hold no object that may change -/
def ownPl (ρ : Fr) : List Nat → Bool
  | [] => true
  | i :: r => (match ρ[i]? with | some s => plainS s | none => false) && ownPl ρ r
def wipeF (ρ : Fr) : List Nat → Option Fr
  | [] => some ρ
  | i :: r => (wipeF ρ r).bind fun ρ1 => match ρ1[i]? with
    | some s => if plainS s then some (ρ1.set i .no) else none
    | none => none
/-- behind a comprehension: its own names are as before -/
def backF (ρ0 ρ : Fr) : List Nat → Fr
  | [] => ρ
  | i :: r => match ρ0[i]? with
    | some s => (backF ρ0 ρ r).set i s
    | none => backF ρ0 ρ r
mutual
def T.names : T → List Nat
  | .name i => [i]
  | .tup ts => T.namesA ts
def T.namesA : List T → List Nat
  | [] => []
  | t :: ts => t.names ++ T.namesA ts
end

/-! ### loops -/
def forL (f : PyData → Fr → Res (Flow × Fr)) : List PyData → Fr → Res (Flow × Fr)
  | [], ρ => .ok (.next, ρ)
  | d :: ds, ρ => (f d ρ).bind fun r => match r.1 with
    | .next => forL f ds r.2
    | .cnt => forL f ds r.2
    | .brk => .ok (.next, r.2)
    | .ret s => .ok (.ret s, r.2)
def whlL (c : Fr → Res (Bool × Fr)) (f : Fr → Res (Flow × Fr)) : Nat → Fr → Res (Flow × Fr)
  | 0, _ => .stuck
  | n + 1, ρ => (c ρ).bind fun q => if q.1 then (f q.2).bind fun r => (match r.1 with
      | .next => whlL c f n r.2
      | .cnt => whlL c f n r.2
      | .brk => .ok (.next, r.2)
      | .ret s => .ok (.ret s, r.2))
    else .ok (.next, q.2)
/-- a comprehension's turns: what is made so far, the frame -/
def cmpL (f : PyData → Fr → Res (List PyData × Fr)) : List PyData → Fr → Res (List PyData × Fr)
  | [], ρ => .ok ([], ρ)
  | d :: ds, ρ => (f d ρ).bind fun r => (cmpL f ds r.2).bind fun q => .ok (r.1 ++ q.1, q.2)
def noExc {α : Type} : Res α → Res α
  | .exc _ => .stuck
  | r => r
/-- a list of the frame's own is lent while it is walked -/
def lendS : Slot → Slot
  | .own o => .brw o
  | s => s
def takeS : Slot → Slot
  | .brw o => .own o
  | s => s
def Fr.lend (ρ : Fr) (i : Nat) : Fr := ρ.modify i lendS
def Fr.take (ρ : Fr) (i : Nat) : Fr := ρ.modify i takeS
def brwL : Option Slot → Option (List PyData)
  | some (.brw (.lst ys)) => some ys
  | _ => none
def ownL : Option Slot → Bool
  | some (.own (.lst _)) => true
  | _ => false
/-- the list at the place i is walked as it stands at each turn -/
def walkO (i : Nat) (f : PyData → Fr → Res (Flow × Fr)) : Nat → Nat → Fr → Res (Flow × Fr)
  | 0, _, _ => .stuck
  | n + 1, j, ρ => (Res.of (brwL ρ[i]?)).bind fun ys => match ys[j]? with
    | some d => (f d ρ).bind fun r => (match r.1 with
      | .next => walkO i f n (j + 1) r.2
      | .cnt => walkO i f n (j + 1) r.2
      | .brk => .ok (.next, r.2)
      | .ret s => .ok (.ret s, r.2))
    | none => .ok (.next, ρ)
/-- the place i holds what is not followed -/
def junkF (i : Nat) (ρ : Fr) : Option Fr := match ρ[i]? with
  | some (.brw _) => none
  | some _ => some (ρ.set i .no)
  | none => none
def rng (lo hi : Int) : List PyData := (List.range (hi - lo).toNat).map fun (n : Nat) => .int (lo + (n : Int))
def rngOk (i : Int) : Bool := decide (-(2 ^ 62) ≤ i) && decide (i < 2 ^ 62)
def enumD (n : Nat) : List PyData → List PyData
  | [] => []
  | x :: r => .tuple [.int n, x] :: enumD (n + 1) r
def zipD : List PyData → List PyData → List PyData
  | x :: r, y :: q => .tuple [x, y] :: zipD r q
  | _, _ => []

/-! ### the evaluator -/
/-- what an expression does: as a value, as a test, as what a loop walks -/
structure Dn where
  vr : Option Nat
  v : Fr → Res (Slot × Fr)
  t : Fr → Res (Bool × Fr)
  it : Fr → Res (List PyData × Fr)
namespace Dn
/-- a place: a name's, or a value made -/
def p (d : Dn) (ρ : Fr) : Res (Opd × Fr) := match d.vr with
  | some i => (match ρ[i]? with
    | some (.val x) => .ok (.tmp (.val x), ρ)
    | some .no => .stuck
    | none => .stuck
    | some _ => .ok (.slot i, ρ))
  | none => (d.v ρ).bind fun x => .ok (.tmp x.1, x.2)
def d (d : Dn) (ρ : Fr) : Res (PyData × Fr) := (d.v ρ).bind fun x => (Res.of x.1.toD).bind fun y => .ok (y, x.2)
end Dn
def itemsOf : Option PyData → Option (List PyData)
  | some (.list xs) => some xs
  | some (.tuple xs) => some xs
  | _ => none
def mkDn (vr : Option Nat) (v : Fr → Res (Slot × Fr)) : Dn where
  vr := vr
  v := v
  t := fun ρ => ((Dn.mk vr v (fun _ => .stuck) (fun _ => .stuck)).p ρ).bind fun x => (Res.of (truV (x.1.vw x.2))).bind fun k => .ok (k, x.2)
  it := fun ρ => (v ρ).bind fun x => (Res.of (itemsOf x.1.toD)).bind fun xs => .ok (xs, x.2)
def dVs : List Dn → Fr → Res (List PyData × Fr)
  | [], ρ => .ok ([], ρ)
  | e :: es, ρ => (e.d ρ).bind fun x => (dVs es x.2).bind fun y => .ok (x.1 :: y.1, y.2)
def dPs : List Dn → Fr → Res (List Opd × Fr)
  | [], ρ => .ok ([], ρ)
  | e :: es, ρ => (e.p ρ).bind fun x => (dPs es x.2).bind fun y => .ok (x.1 :: y.1, y.2)
def dAs : List Dn → Fr → Res (List Slot × Fr)
  | [], ρ => .ok ([], ρ)
  | e :: es, ρ => (e.v ρ).bind fun x => (Res.of x.1.fz).bind fun s => (dAs es x.2).bind fun y => .ok (s :: y.1, y.2)
/-- range, enumerate, zip: what is walked -/
def walkB (b : Bf) (xs : List PyData) : Option (List PyData) := match b, xs with
  | .range, [.int n] => if rngOk n then some (rng 0 n) else none
  | .range2, [.int a, .int n] => if rngOk a && rngOk n then some (rng a n) else none
  | .enumerate, [x] => (itemsOf (some x)).map (enumD 0)
  | .zip, [x, y] => (itemsOf (some x)).bind fun p => (itemsOf (some y)).map fun q => zipD p q
  | _, _ => none
def intOf : PyData → Option Int
  | .int i => some i
  | _ => none
/-- a slice's bound, where there is one -/
def bndR (h : Bool) (e : Dn) (ρ : Fr) : Res (Option Int × Fr) := if h then (e.d ρ).bind fun y => (Res.of (intOf y.1)).bind fun i => .ok (some i, y.2) else .ok (none, ρ)
def isWalkB : Bf → Bool
  | .range => true
  | .range2 => true
  | .enumerate => true
  | .zip => true
  | _ => false
def callIo (Γ : Ctx) (f : FName) (i : Nat) (as : List Slot) (ρ : Fr) : Res (Slot × Fr) := match (ρ[i]?).bind Slot.mo with
  | some o => (Γ.fn f (.brw o :: as)).bind fun y => (match y.2 with
    | some o' => .ok (y.1, Fr.put ρ i o')
    | none => .stuck)
  | none => .stuck
def lentB (ρ : Fr) (i : Nat) : Bool := ((ρ[i]?).bind Slot.mo).isSome
def clsV (Γ : Ctx) (cs : List Str) (m : Str) : Option Vw → Option Str
  | some (.ins c fs) => if Γ.cls c = true ∧ c ∈ cs ∧ (fs.lookup m).isNone = true then some c else none
  | _ => none
def methV (Γ : Ctx) (c m : Str) (io : Bool) (w : Opd) (as : List Slot) (ρ : Fr) : Res (Slot × Fr) := match io, w with
  | true, .slot i => (match (ρ[i]?).bind Slot.mo with
    | some (.ins c' _) => if c' = c then callIo Γ (c, some m) i as ρ else .stuck
    | _ => .stuck)
  | true, .tmp (.own (.ins c' fs)) => if c' = c then (Γ.fn (c, some m) (.brw (.ins c' fs) :: as)).bind fun y => .ok (y.1, ρ) else .stuck
  | false, .slot i => (match ρ[i]? with
    | some (.ins c' fs) => if c' = c then (Γ.fn (c, some m) (.ins c' fs :: as)).bind fun y => .ok (y.1, ρ) else .stuck
    | _ => .stuck)
  | _, _ => .stuck
/-- of which kind the object of a method is -/
def kindOk : Mf → Option Vw → Bool
  | .get, some (.dic _) => true
  | .sdapp, some (.dic _) => true
  | .add, some (.set _) => true
  | .get, _ => false
  | .sdapp, _ => false
  | .add, _ => false
  | _, some (.dat (.list _)) => true
  | _, _ => false
def wrV (m : Mf) (w : Opd) (as : List PyData) (ρ : Fr) : Res (Slot × Fr) := match w with
  | .slot i => (match (ρ[i]?).bind Slot.mo with
    | some o => (Res.of (writeM m o as)).bind fun y => .ok (.val y.1, Fr.put ρ i y.2)
    | none => .stuck)
  | .tmp _ => .stuck
def bmeV (m : Mf) (w : Opd) (as : List PyData) (ρ : Fr) : Res (Slot × Fr) := match readM m (w.vw ρ) as with
  | some d => .ok (.val d, ρ)
  | none => wrV m w as ρ
def fldV (Γ : Ctx) (f : Str) : Option Vw → Option PyData
  | some (.ins c fs) => if Γ.cls c then fs.lookup f else none
  | _ => none
def dctV (ks vs : List PyData) : Option MO := match ks, vs with
  | [], [] => some (.dic [])
  | [k], [v] => if isIntKey k || isTupKey k then some (.dic [(k, v)]) else none
  | _, _ => none
/-- the turn of a comprehension: the target, the test, what is made -/
def turnL (tg : T) (cond elt : Dn) (own : List Nat) (d : PyData) (r : Fr) : Res (List PyData × Fr) :=
  (Res.of ((wipeF r own).bind (asgT tg d))).bind fun r1 => (cond.t r1).bind fun q => if q.1 then (elt.d q.2).bind fun y => .ok ([y.1], y.2) else .ok ([], q.2)
mutual
def dn (Γ : Ctx) : E → Dn
  | .var i => mkDn (some i) fun ρ => match ρ[i]? with
    | some (.val d) => .ok (.val d, ρ)
    | some (.ins c fs) => .ok (.ins c fs, ρ)
    | some (.own o) => (Res.of (Slot.own o).fz).bind fun s => .ok (s, ρ.set i s)
    | _ => .stuck
  | .cst d => mkDn none fun ρ => .ok (.val d, ρ)
  | .glo x => mkDn none fun ρ => (Res.of (Γ.glo x)).bind fun d => .ok (.val d, ρ)
  | .bin op a b => mkDn none fun ρ => ((dn Γ a).p ρ).bind fun x => ((dn Γ b).p x.2).bind fun y =>
      (Res.of ((x.1.dat y.2).bind fun p => (y.1.dat y.2).bind fun q => binD op p q)).bind fun s => .ok (s, y.2)
  | .neg a => mkDn none fun ρ => ((dn Γ a).p ρ).bind fun x => match x.1.dat x.2 with
    | some (.int i) => .ok (.val (.int (-i)), x.2)
    | _ => .stuck
  | .not a => { mkDn none fun ρ => ((dn Γ a).p ρ).bind fun x => (Res.of (truV (x.1.vw x.2))).bind fun k => .ok (.val (.bool (!k)), x.2) with
      t := fun ρ => ((dn Γ a).t ρ).bind fun x => .ok (!x.1, x.2) }
  | .and a b => { mkDn none fun ρ => ((dn Γ a).p ρ).bind fun x => match x.1.dat x.2 with
      | some (.bool true) => (dn Γ b).v x.2
      | some (.bool false) => .ok (.val (.bool false), x.2)
      | _ => .stuck with
      t := fun ρ => ((dn Γ a).t ρ).bind fun x => if x.1 then (dn Γ b).t x.2 else .ok (false, x.2) }
  | .or a b => { mkDn none fun ρ => ((dn Γ a).p ρ).bind fun x => match x.1.dat x.2 with
      | some (.bool false) => (dn Γ b).v x.2
      | some (.bool true) => .ok (.val (.bool true), x.2)
      | _ => .stuck with
      t := fun ρ => ((dn Γ a).t ρ).bind fun x => if x.1 then .ok (true, x.2) else (dn Γ b).t x.2 }
  | .ite c a b => { mkDn none fun ρ => ((dn Γ c).t ρ).bind fun x => if x.1 then (dn Γ a).v x.2 else (dn Γ b).v x.2 with
      t := fun ρ => ((dn Γ c).t ρ).bind fun x => if x.1 then (dn Γ a).t x.2 else (dn Γ b).t x.2 }
  | .cmp op a b => mkDn none fun ρ => ((dn Γ a).p ρ).bind fun x => ((dn Γ b).p x.2).bind fun y => (Res.of (cmpV op (x.1.vw y.2) (y.1.vw y.2))).bind fun k => .ok (.val (.bool k), y.2)
  | .chn o1 o2 a b c => mkDn none fun ρ => ((dn Γ a).p ρ).bind fun x => ((dn Γ b).p x.2).bind fun y => (Res.of (cmpV o1 (x.1.vw y.2) (y.1.vw y.2))).bind fun k =>
      if k then ((dn Γ c).p y.2).bind fun z => (Res.of (cmpV o2 (y.1.vw z.2) (z.1.vw z.2))).bind fun k => .ok (.val (.bool k), z.2) else .ok (.val (.bool false), y.2)
  | .tup es => mkDn none fun ρ => (dVs (dns Γ es) ρ).bind fun x => if fits x.1.length then .ok (.val (.tuple x.1), x.2) else .stuck
  | .lst es => mkDn none fun ρ => (dVs (dns Γ es) ρ).bind fun x => if fits x.1.length then .ok (.own (.lst x.1), x.2) else .stuck
  | .dct ks vs => mkDn none fun ρ => (dVs (dns Γ ks) ρ).bind fun x => (dVs (dns Γ vs) x.2).bind fun y => (Res.of (dctV x.1 y.1)).bind fun o => .ok (.own o, y.2)
  | .sub a i => mkDn none fun ρ => ((dn Γ a).p ρ).bind fun x => ((dn Γ i).d x.2).bind fun y => (Res.of (subV (x.1.vw y.2) y.1)).bind fun d => .ok (.val d, y.2)
  | .slc a hl lo hh hi => mkDn none fun ρ => ((dn Γ a).p ρ).bind fun x => (bndR hl (dn Γ lo) x.2).bind fun y => (bndR hh (dn Γ hi) y.2).bind fun z => (Res.of (slcV (x.1.vw z.2) y.1 z.1)).bind fun s => .ok (s, z.2)
  | .rev a => mkDn none fun ρ => ((dn Γ a).p ρ).bind fun x => (Res.of (revV (x.1.vw x.2))).bind fun s => .ok (s, x.2)
  | .isi a t => mkDn none fun ρ => ((dn Γ a).p ρ).bind fun x => (Res.of ((x.1.dat x.2).map fun d => isiD d t)).bind fun k => .ok (.val (.bool k), x.2)
  | .call f io es => mkDn none fun ρ => if io then (match dns Γ es with
      | e :: r => (match e.vr with
        | some i => if lentB ρ i then (dAs r ρ).bind fun x => callIo Γ (f, none) i x.1 x.2 else .stuck
        | none => .stuck)
      | [] => .stuck)
    else (dAs (dns Γ es) ρ).bind fun x => (Γ.fn (f, none) x.1).bind fun y => .ok (y.1, x.2)
  | .meth cs m io o es => mkDn none fun ρ => ((dn Γ o).p ρ).bind fun w => (Res.of (clsV Γ cs m (w.1.vw w.2))).bind fun c => (dAs (dns Γ es) w.2).bind fun x => methV Γ c m io w.1 x.1 x.2
  | .new c es => mkDn none fun ρ => (dAs (dns Γ es) ρ).bind fun x => if Γ.cls c then (Γ.fn (c, some "__init__") (.brw (.ins c []) :: x.1)).bind fun y => (match y with
    | (.val .none, some (.ins c' fs)) => if c' = c then .ok (.own (.ins c fs), x.2) else .stuck
    | _ => .stuck) else .stuck
  | .blt b es => { mkDn none fun ρ => (dPs (dns Γ es) ρ).bind fun x => (Res.of (bltV b (x.1.map fun p => p.vw x.2))).bind fun s => .ok (s, x.2) with
      it := fun ρ => if isWalkB b then (dVs (dns Γ es) ρ).bind fun x => (Res.of (walkB b x.1)).bind fun xs => .ok (xs, x.2)
        else ((dPs (dns Γ es) ρ).bind fun x => (Res.of (bltV b (x.1.map fun p => p.vw x.2))).bind fun s => Res.ok (s, x.2)).bind fun x => (Res.of (itemsOf x.1.toD)).bind fun xs => .ok (xs, x.2) }
  | .bme m o es => mkDn none fun ρ => ((dn Γ o).p ρ).bind fun w => if kindOk m (w.1.vw w.2) then (dVs (dns Γ es) w.2).bind fun x => bmeV m w.1 x.1 x.2 else .stuck
  | .fld o f => mkDn none fun ρ => ((dn Γ o).p ρ).bind fun w => (Res.of (fldV Γ f (w.1.vw w.2))).bind fun d => .ok (.val d, w.2)
  | .lc elt tg it cond own => mkDn none fun ρ => ((dn Γ it).it ρ).bind fun x => if ownPl x.2 own then (noExc (cmpL (turnL tg (dn Γ cond) (dn Γ elt) own) x.1 x.2)).bind fun y =>
        (if fits y.1.length then .ok (.own (.lst y.1), backF x.2 y.2 own) else .stuck) else .stuck
  | .lc2 elt tg it tg1 it1 cond own own1 => mkDn none fun ρ => ((dn Γ it).it ρ).bind fun x =>
      (noExc (cmpL (fun d r => (Res.of ((wipeF r own).bind (asgT tg d))).bind fun r1 => ((dn Γ it1).it r1).bind fun x1 => cmpL (turnL tg1 (dn Γ cond) (dn Γ elt) own1) x1.1 x1.2) x.1 x.2)).bind fun y =>
        if fits y.1.length then .ok (.own (.lst y.1), backF x.2 y.2 own) else .stuck
  | .sc elt tg it own => mkDn none fun ρ => ((dn Γ it).it ρ).bind fun x =>
      (noExc (cmpL (fun d r => (Res.of ((wipeF r own).bind (asgT tg d))).bind fun r1 => ((dn Γ elt).d r1).bind fun y => .ok ([y.1], y.2)) x.1 x.2)).bind fun y =>
        if y.1.all isIntKey || y.1.all isTupKey then .ok (.own (.set (addAll [] y.1)), backF x.2 y.2 own) else .stuck
  | .dc k v tg it own => mkDn none fun ρ => ((dn Γ it).it ρ).bind fun x =>
      (noExc (cmpL (fun d r => (Res.of ((wipeF r own).bind (asgT tg d))).bind fun r1 => ((dn Γ k).d r1).bind fun y => ((dn Γ v).d y.2).bind fun z => .ok ([.tuple [y.1, z.1]], z.2)) x.1 x.2)).bind fun y =>
        (Res.of (pairsOf y.1)).bind fun ps => if ps.all (fun p => isIntKey p.1) then .ok (.own (.dic (putAll [] ps)), backF x.2 y.2 own) else .stuck
def dns (Γ : Ctx) : List E → List Dn
  | [] => []
  | e :: es => dn Γ e :: dns Γ es
end

/-! ### statements -/
/-- a returned name's own object moves out -/
def retV (e : Dn) (ρ : Fr) : Res (Slot × Fr) := match e.vr with
  | some i => (match ρ[i]? with
    | some (.own o) => .ok (.own o, ρ.set i .no)
    | _ => e.v ρ)
  | none => e.v ρ
def asgN (t : T) (s : Slot) (ρ : Fr) : Option Fr := match t with
  | .name i => (match ρ[i]? with
    | some (.brw _) => none
    | some _ => some (ρ.set i s)
    | none => none)
  | t => s.toD.bind fun d => asgT t d ρ
def seqR (x : Res (Flow × Fr)) (f : Fr → Res (Flow × Fr)) : Res (Flow × Fr) := x.bind fun r => match r.1 with
  | .next => f r.2
  | _ => .ok r
def kindS : Nat → Str
  | 0 => "protocol"
  | 1 => "formula"
  | 2 => "word"
  | _ => "much"
def kindOf (c : Str) : Option Nat := if c = "BadProtocol" then some 0 else if c = "BadFormula" then some 1 else if c = "BadWord" then some 2 else if c = "TooMuch" then some 3 else none
/-- what the law tells of a refusal -/
def resD (w : Option Str) (n : Nat) : PyData := match w with
  | none => .str (kindS n)
  | some r => .tuple [.str r, .str (kindS n)]
def noBrw (ρ : Fr) : Bool := ρ.all fun s => match s with | .brw _ => false | _ => true
mutual
def ex (Γ : Ctx) : S → Fr → Res (Flow × Fr)
  | .pass => fun ρ => .ok (.next, ρ)
  | .brk => fun ρ => .ok (.brk, ρ)
  | .cnt => fun ρ => .ok (.cnt, ρ)
  | .expr e => fun ρ => ((dn Γ e).v ρ).bind fun x => .ok (.next, x.2)
  | .asg t e => fun ρ => ((dn Γ e).v ρ).bind fun x => (Res.of (asgN t x.1 x.2)).bind fun r => .ok (.next, r)
  | .asgS o i e => fun ρ => ((dn Γ e).d ρ).bind fun v => ((dn Γ o).p v.2).bind fun w => ((dn Γ i).d w.2).bind fun j => match w.1 with
    | .slot k => (match (j.2[k]?).bind Slot.mo with
      | some o => (Res.of (setI o j.1 v.1)).bind fun o' => .ok (.next, Fr.put j.2 k o')
      | none => .stuck)
    | .tmp _ => .stuck
  | .asgF o f e => fun ρ => ((dn Γ e).d ρ).bind fun v => ((dn Γ o).p v.2).bind fun w => match w.1 with
    | .slot k => (match (w.2[k]?).bind Slot.mo with
      | some (.ins c fs) => if Γ.cls c = true ∧ fs.length < 100 then .ok (.next, Fr.put w.2 k (.ins c (putFd f v.1 fs))) else .stuck
      | _ => .stuck)
    | .tmp _ => .stuck
  | .augN i e => fun ρ => match ρ[i]? with
    | some (.val (.int a)) => ((dn Γ e).d ρ).bind fun v => (match v.1 with
      | .int b => .ok (.next, v.2.set i (.val (.int (a + b))))
      | _ => .stuck)
    | _ => .stuck
  | .augF o f e => fun ρ => ((dn Γ o).p ρ).bind fun w => match w.1 with
    | .slot k => (match (w.2[k]?).bind Slot.mo with
      | some (.ins c fs) => (match (if Γ.cls c then fs.lookup f else none) with
        | some (.int a) => ((dn Γ e).d w.2).bind fun v => (match v.1, (v.2[k]?).bind Slot.mo with
          | .int b, some (.ins c' fs') => if c' = c ∧ fs'.length < 100 then .ok (.next, Fr.put v.2 k (.ins c' (putFd f (.int (a + b)) fs'))) else .stuck
          | _, _ => .stuck)
        | _ => .stuck)
      | _ => .stuck)
    | .tmp _ => .stuck
  | .ret e => fun ρ => (retV (dn Γ e) ρ).bind fun x => .ok (.ret x.1, x.2)
  | .ite c a b => fun ρ => ((dn Γ c).t ρ).bind fun x => if x.1 then exB Γ a x.2 else exB Γ b x.2
  | .whl c b => fun ρ => whlL (dn Γ c).t (exB Γ b) Γ.fuel ρ
  | .for_ t it b => fun ρ => ((dn Γ it).it ρ).bind fun x => forL (fun d r => (Res.of (asgT t d r)).bind fun r1 => exB Γ b r1) x.1 x.2
  | .forO t i b => fun ρ => if ownL ρ[i]? then (walkO i (fun d r => (Res.of (asgT t d r)).bind fun r1 => exB Γ b r1) Γ.fuel 0 (ρ.lend i)).bind fun r => .ok (r.1, r.2.take i) else .stuck
  | .junk i => fun ρ => (Res.of (junkF i ρ)).bind fun r => .ok (.next, r)
  | .raise c => fun _ => .exc c
  | .tryR i b w => fun ρ => match exB Γ b ρ with
    | .exc c => if noBrw ρ = true ∧ i < ρ.length then (Res.of (kindOf c)).bind fun n => .ok (.ret (.val (resD w n)), ρ.map fun _ => Slot.no) else .stuck
    | r => r
def exB (Γ : Ctx) : List S → Fr → Res (Flow × Fr)
  | [] => fun ρ => .ok (.next, ρ)
  | s :: ss => fun ρ => seqR (ex Γ s ρ) (exB Γ ss)
end

/-! ### programs -/
def retOf : Flow → Option Slot
  | .ret s => some s
  | .next => some (.val .none)
  | _ => none
def ioOk : Bool → List Slot → Bool
  | true, .brw _ :: r => r.all fun s => match s with | .val _ => true | .ins _ _ => true | _ => false
  | false, r => r.all fun s => match s with | .val _ => true | .ins _ _ => true | _ => false
  | _, _ => false
def runFn (Γ : Ctx) (d : FnDef) (as : List Slot) : Res (Slot × Option MO) :=
  if as.length = d.npar ∧ ioOk d.io as = true then (exB Γ d.body (as ++ List.replicate (d.nslots - d.npar) .no)).bind fun r =>
    (Res.of (retOf r.1)).bind fun s => .ok (s, if d.io then (r.2[0]?).bind Slot.mo else none)
  else .stuck
structure Prog where
  fn : FName → Option FnDef
  glo : Str → Option PyData
  fuel : Nat
  cls : Str → Bool
def den (P : Prog) : Nat → FName → List Slot → Res (Slot × Option MO)
  | 0, _, _ => .stuck
  | k + 1, f, as => match P.fn f with
    | some d => runFn ⟨den P k, P.glo, P.fuel, P.cls⟩ d as
    | none => .stuck
def ctx (P : Prog) (k : Nat) : Ctx := ⟨den P k, P.glo, P.fuel, P.cls⟩
theorem den_succ (P : Prog) (k : Nat) (f : FName) (as : List Slot) {d : FnDef} (h : P.fn f = some d) : den P (k + 1) f as = runFn (ctx P k) d as := by
  show (match P.fn f with | some d => runFn ⟨den P k, P.glo, P.fuel, P.cls⟩ d as | none => .stuck) = _
  rw [h]
  rfl
end PM
set_option Elab.async false
set_option linter.all false
set_option maxRecDepth 100000
set_option maxHeartbeats 1000000
/-! PM: sets of whole numbers and of flat tuples of such, from the empty one on. -/
namespace PM
open PySem PySem.Spec PyProof.Rows L2
abbrev freshSet (w : World) : Obj := { cls := .type "set", dict := none, data := .set #[] 0 (.fresh 0 0 (!w.params.followText "set-order")) }
/-- the empty set at a: of whole numbers as of tuples -/
def SetE (w : World) (a : Addr) : HO := .ext fun h => h.get? a = some (freshSet w)
theorem setE_new {P : Program} {w : World} {H : Hp} {h : Heap} {a : Addr} (e : h.get? a = some (freshSet w)) : ObjOk P w H h a (SetE w a) := ⟨e, ⟨_, e⟩, fun h1 h2 p k => k _ p⟩
theorem setE_R {w : World} {h : Heap} {a : Addr} (e : h.get? a = some (freshSet w)) : SetR w h a (fun _ => false) 0 := by
  have := setR_new_at (ns := []) e
  have h2 : (fun j : Int => decide (j ∈ ([] : List Int).take 0)) = fun _ => false := by funext j; simp
  rw [h2] at this
  exact this
def IsS (P : Program) (w : World) (H : Hp) (a : Addr) : Prop := H a = some (SetE w a) ∨ (∃ S n, H a = some (SetO w a S n)) ∨ (∃ L, H a = some (SetTO P w a L))
section
variable {X : Cx}
theorem isS_at {pins : List (Addr × Obj)} {σ : L2.St} {H : Hp} {s : Shared} {a : Addr} (I : Inv X pins σ H s) (h : IsS X.prog X.w H a) : ∃ o, s.heap.get? a = some o ∧ o.ExactSet := by
  rcases h with h | ⟨S, n, h⟩ | ⟨L, h⟩
  · have e : s.heap.get? a = some (freshSet X.w) := (I.hok a _ h).1
    exact ⟨_, e, rfl, rfl, rfl⟩
  · have R : SetR X.w s.heap a S n := (I.hok a _ h).1
    obtain ⟨o, es, ep, t, ho, hex, _⟩ := R
    exact ⟨o, ho, hex⟩
  · have R : SetT0 X.prog X.w s.heap a L := (I.hok a _ h).1
    obtain ⟨es, ep, t, ⟨o, ho, hex, _⟩, _⟩ := R.ex
    exact ⟨o, ho, hex⟩
theorem isS_mut {H : Hp} {a : Addr} {P : Program} {w : World} (h : IsS P w H a) : Mut (H a) := by
  rcases h with h | ⟨S, n, h⟩ | ⟨L, h⟩ <;> (rw [h]; trivial)
/-- set() -/
def rSetE (w : World) : List V → Hp → VK → Prop := fun xs H Q => xs = [] ∧ ∀ p, H p = none → Q (.ref p) (upd H p (SetE w p))
theorem cr_setE : CallR X (.type "set") (rSetE X.w) := by
  intro pins s σ H xs us Q I r h
  obtain ⟨rfl, q⟩ := h
  cases r
  refine setR_new fun _ => ?_
  exact ⟨.ref _, upd H s.heap.objs.size (SetE X.w s.heap.objs.size), I.laid (t' := s.toks) (fun b u e => Heap.get?_push_of_some _ e) (Nat.le_refl _) (setE_new (Heap.get?_push_size _ rfl)), rfl, q _ (I.hok.fresh (Nat.le_refl _))⟩
/-- found.add(k), k a whole number -/
def rSAddI (w : World) : V → List V → Hp → VK → Prop := fun x xs H Q => ∃ (a : Addr) (k : Int) (S : Int → Bool) (n : Nat), x = V.ref a ∧ xs = [V.int k] ∧ (H a = some (SetO w a S n) ∨ (H a = some (SetE w a) ∧ S = (fun _ => false) ∧ n = 0)) ∧ n + 1 < scanBound ∧
  Q .non (upd H a (SetO w a (fun j => S j || decide (j = k)) (if S k = true then n else n + 1)))
theorem mt_saddI : MtR X "set.add" (rSAddI X.w) := by
  intro pins s σ H x xs v us Q I rx rxs h
  obtain ⟨a, k, S, n, rfl, rfl, ha, room, q⟩ := h
  cases rx
  cases rxs with
  | cons ry rt =>
    cases rt
    obtain ⟨tk, rfl⟩ := ry
    have R : SetR X.w s.heap a S n := by
      rcases ha with ha | ⟨ha, rfl, rfl⟩
      · exact setO_get I ha
      · exact setE_R (I.hok a _ ha).1
    have mu : Mut (H a) := by rcases ha with ha | ⟨ha, -, -⟩ <;> (rw [ha]; trivial)
    refine setR_add R room fun h' sb new => ?_
    have he : ∃ u, h'.get? a = some u := by
      have ⟨o, _, _, _, ho, _⟩ := new
      exact ⟨o, ho⟩
    exact ⟨.non, upd H a (SetO X.w a (fun j => S j || decide (j = k)) (if S k = true then n else n + 1)), I.write (e := a) (t' := s.toks + 1) mu (.inl rfl) (fun b u hb hu => (sb.2 b hb).trans hu) he (setO_new new), rfl, q⟩
theorem call_set_add_tup {P : Program} {w : World} {A : Around} {E : Value → Shared → Prop} {s : Shared} {a x : Addr} {L : List (Addr × List Int)} {es : Array (Int × Value)} {ep : Nat} {t : SetTable} {k : List Int} {Q : Value → Shared → Prop}
    (R : SetTR P w s.heap a L es ep t) (hx : IsT P w s.heap k x) (hu : A.units + 3 < cLine) (hfew : L.length + 1 < 64)
    (h : ∀ h' L' es' ep' t', Heap.SameBut a s.heap h' → SetTR P w h' a L' es' ep' t' → (k ∈ L.map (·.2) → L' = L) → (k ∉ L.map (·.2) → L'.Perm ((x, k) :: L)) → Q .none { s with heap := h', toks := s.toks + (k.length + 1) }) :
    wpAny (model P w) A (call (.builtin "set.add") [.ref a, .ref x]) Q E s := by
  obtain ⟨o, ho, hex, hd⟩ := R.ob
  have hT : s.TypeIs (.ref a) "set" := ⟨o, ho, hex.1⟩
  refine wpAny_call_entry F.slot_set_add hT F.entry_set_add ?_ (F.args_set_add_2 _ _)
  unfold Builtin.«set.add» Builtin.Frozenset.oneOther
  simp only [List.isEmpty_nil, bind_assoc]
  unfold Builtin.Frozenset.addrOf setAdd
  refine wpAny_bind (wpAny_pure ?_)
  try dsimp only
  refine wpAny_bind (wpAny_pure ?_)
  try dsimp only
  refine wpAny_bind ?_
  refine wpAny_holding ?_
  refine wpAny_bind (wpAny_pyHash_tuple (by simp only [Around.under, Around.in1] <;> omega) hx ?_)
  refine add_at (s := { s with toks := s.toks + (k.length + 1) }) R hx (by simp only [Around.under, Around.in1] <;> omega) hfew fun b h' L' es' ep' t' hsb R' c1 c2 => ?_
  show wpAny _ _ (ret Value.none) _ _ _
  exact wpAny_pure ⟨_, rfl, h h' L' es' ep' t' hsb R' c1 c2⟩
/-- found.add(t), t a flat tuple of whole numbers -/
def rSAddT (K : PySem.W.Frag) (P : Program) (w : World) : V → List V → Hp → VK → Prop := fun x xs H Q => ∃ (a b : Addr) (k : List Int) (L : List (Addr × List Int)), x = V.ref a ∧ xs = [V.ref b] ∧ SqT K H b (k.map V.int) ∧ (H a = some (SetTO P w a L) ∨ (H a = some (SetE w a) ∧ L = [])) ∧ (∀ p ∈ L, SqT K H p.1 (p.2.map V.int)) ∧ L.length + 1 < 64 ∧
  ∀ L', (k ∈ L.map (·.2) → L' = L) → (k ∉ L.map (·.2) → L'.Perm ((b, k) :: L)) → Q .non (upd H a (SetTO P w a L'))
theorem mt_saddT (hu : X.A.units + 3 < cLine) : MtR X "set.add" (rSAddT X.K X.prog X.w) := by
  intro pins s σ H x xs v us Q I rx rxs h
  obtain ⟨a, b, k, L, rfl, rfl, hb, ha, hL, room, q⟩ := h
  cases rx
  cases rxs with
  | cons ry rt =>
    cases rt
    cases ry
    have R : ∃ es ep t, SetTR X.prog X.w s.heap a L es ep t := by
      rcases ha with ha | ⟨ha, rfl⟩
      · have R0 : SetT0 X.prog X.w s.heap a L := (I.hok a _ ha).1
        exact R0.full fun p hp => I.isT (hL p hp)
      · exact ⟨_, _, _, setTR_fresh (I.hok a _ ha).1⟩
    obtain ⟨es, ep, t, R⟩ := R
    have mu : Mut (H a) := by rcases ha with ha | ⟨ha, -⟩ <;> (rw [ha]; trivial)
    refine call_set_add_tup R (I.isT hb) hu room fun h' L' es' ep' t' sb R' c1 c2 => ?_
    have he : ∃ u, h'.get? a = some u := by
      have ⟨o, ho, _⟩ := R'.ob
      exact ⟨o, ho⟩
    exact ⟨.non, upd H a (SetTO X.prog X.w a L'), I.write (e := a) (t' := s.toks + (k.length + 1)) mu (.inl rfl) (fun b u hb hu => (sb.2 b hb).trans hu) he (setTO_new R'.t0), rfl, q L' c1 c2⟩
def tBMS (P : Program) (w : World) (r : V → List V → Hp → VK → Prop) (to : TE) (t : TA) : TE := fun σ H Q => to σ H fun x H1 => (∃ a, x = V.ref a ∧ IsS P w H1 a) ∧ t σ H1 fun xs H2 => r x xs H2 Q
theorem pe_sadd' {o e : Expr} {es : List Expr} {to : TE} {t : TA} {apos cpos : Pos} {r : V → List V → Hp → VK → Prop} (hm : MtR X "set.add" r) (ho : PE X o to) (ha : PA X (e :: es) t)
    (hbase : attributeBase o "add" X.env (eval o X.env) = eval o X.env)
    (hfew : ((backTo cpos (starEach (e :: es) X.env)).all (fun x => !x.1) && (backToKw cpos (keywordEach [] X.env)).all (fun x => x.1.isSome)
      && decide ((e :: es).length + ([] : List Keyword).length + (if ([] : List Keyword).isEmpty then 0 else 1) < 30)) = true)
    (hline : (apos.endLine == cpos.line) = true) (hs : starEach (e :: es) X.env = (false, eval e X.env) :: starEach es X.env) (hplain : (backTo cpos (starEach es X.env)).any (·.1) = false) :
    PE X (.Call (.Attribute o "add" apos) (e :: es) [] cpos) (tBMS X.prog X.w r to t) := by
  refine ⟨fun pins s σ H Q I h => ?_⟩
  refine wpAny_Call_method_late hbase hfew hline rfl (thn (ho.run pins s σ H _ I h) fun v s1 ⟨x, H1, I1, r1, ty, q1⟩ => ?_)
  obtain ⟨a, rfl, hka⟩ := ty
  obtain ⟨ob, hob, hex⟩ := isS_at I1 hka
  cases r1
  refine ⟨"set", "set.add", F.plainAttrs_set, F.slot_set_add, F.type_set_add, ⟨ob, hob, hex.1⟩, fun b e => by injection e with e; subst e; exact ⟨ob, hob, hex.2.1⟩, ?_⟩
  have hA := ha.run cpos pins s1 σ H1 _ I1 q1
  rw [hs] at hA ⊢
  refine Calls.callWith_builtin (by show (false || (backTo cpos (starEach es X.env)).any (·.1)) = false; rw [hplain] <;> rfl) (Calls.evalArgs_plain ?_)
  exact thn hA fun us s2 ⟨vs, H2, I2, r2, q2⟩ => hm pins s2 σ H2 (.ref a) vs (.ref a) us Q I2 rfl r2 q2
/-- sorted(found), of whole numbers, fewer than 64 -/
def rSortedS (w : World) : List V → Hp → VK → Prop := fun vs H Q => ∃ (a : Addr) (S : Int → Bool) (n : Nat), vs = [V.ref a] ∧ (H a = some (SetO w a S n) ∨ (H a = some (SetE w a) ∧ S = (fun _ => false) ∧ n = 0)) ∧ n < 64 ∧
  ∀ (ns : List Int) (p : Addr), ns.Pairwise (· < ·) → (∀ k : Int, k ∈ ns ↔ S k = true) → ns.length = n → H p = none → Q (.ref p) (upd H p (.lst (ns.map V.int)))
theorem cr_sortedS (hc : X.calm = true) : CallR X (.builtin "sorted") (rSortedS X.w) := by
  intro pins s σ H vs us Q I r h
  obtain ⟨a, S, n, rfl, ha, h64, q⟩ := h
  have R : SetR X.w s.heap a S n := by
    rcases ha with ha | ⟨ha, rfl, rfl⟩
    · exact setO_get I ha
    · exact setE_R (I.hok a _ ha).1
  rw [Vals.ref1 r]
  refine sorted_set R (I.ok.hd hc) h64 fun s' p out c ns k g o hp hg hi hs hm hl => ?_
  have hlen : (ns.map V.int).length ≤ sizeLine := by rw [List.length_map, hl, sizeLine_eq]; omega
  have hn : H p = none := I.hok.fresh hp
  have J : Inv X pins σ (upd H p (.lst (ns.map V.int))) { s with heap := s'.heap, gens := s'.gens, drawn := s'.drawn, toks := s'.toks } :=
    I.call (ch := []) (Un.laid k hp hn) (I.hok.laid k hp ⟨hlen, out.toList, c, vals_of_ints hi, hg⟩) (by rw [g]; exact I.bare) (fun _ z => nomatch z)
  have e : s' = { s with heap := s'.heap, gens := s'.gens, drawn := s'.drawn, toks := s'.toks } := by
    cases s'
    cases s
    cases o
    rfl
  rw [e]
  exact ⟨.ref p, _, J, rfl, q ns p hs hm hl hn⟩
end
end PM
set_option Elab.async false
set_option linter.all false
set_option maxRecDepth 100000
/-! PM: what stands in the abstract heap for a machine's frame. -/
namespace PM
open PySem PySem.Spec PyProof.Rows L2

abbrev Ad := Addr → Prop
/-- a sequence that stays: frozen by F, or of the written part -/
def FzT (K : PySem.W.Frag) (F : Ad) (H : Hp) (a : Addr) (xs : List V) : Prop := (F a ∧ Rd H a (.tup xs)) ∨ ∀ H', SqT K H' a xs
def FzL (K : PySem.W.Frag) (F : Ad) (H : Hp) (a : Addr) (xs : List V) : Prop := (F a ∧ Rd H a (.lst xs)) ∨ ∀ H', SqL K H' a xs
mutual
inductive Rp (K : PySem.W.Frag) (F : Ad) (H : Hp) : V → PyData → Prop
  | non : Rp K F H .non .none
  | bl (b : Bool) : Rp K F H (.bl b) (.bool b)
  | int (i : Int) : Rp K F H (.int i) (.int i)
  | str (x : Str) : Rp K F H (.str x) (.str x)
  | lst {a : Addr} {xs : List V} {ds : List PyData} : FzL K F H a xs → RpA K F H xs ds → Rp K F H (.ref a) (.list ds)
  | tup {a : Addr} {xs : List V} {ds : List PyData} : FzT K F H a xs → RpA K F H xs ds → Rp K F H (.ref a) (.tuple ds)
inductive RpA (K : PySem.W.Frag) (F : Ad) (H : Hp) : List V → List PyData → Prop
  | nil : RpA K F H [] []
  | cons {v : V} {vs : List V} {d : PyData} {ds : List PyData} : Rp K F H v d → RpA K F H vs ds → RpA K F H (v :: vs) (d :: ds)
end
/-- fields of an instance -/
inductive FdA (K : PySem.W.Frag) (F : Ad) (H : Hp) : List (Str × V) → List (Str × PyData) → Prop
  | nil : FdA K F H [] []
  | cons {f : Str} {v : V} {vs : List (Str × V)} {d : PyData} {ds : List (Str × PyData)} : Rp K F H v d → FdA K F H vs ds → FdA K F H ((f, v) :: vs) ((f, d) :: ds)

/-- F grows, and what F holds stays -/
structure Grow (F F' : Ad) (H H' : Hp) : Prop where
  sub : ∀ a, F a → F' a
  kept : ∀ a o, F a → H a = some o → H' a = some o
section
variable {K : PySem.W.Frag} {F F' F'' : Ad} {H H' H'' : Hp}
theorem Grow.refl : Grow F F H H := ⟨fun _ h => h, fun _ _ _ h => h⟩
theorem Grow.trans (g : Grow F F' H H') (g' : Grow F' F'' H' H'') : Grow F F'' H H'' := ⟨fun a h => g'.sub a (g.sub a h), fun a o h e => g'.kept a o (g.sub a h) (g.kept a o h e)⟩
theorem Grow.rd (g : Grow F F' H H') {a : Addr} {u : HO} (hf : F a) (h : Rd H a u) : Rd H' a u := by
  rcases h with h | ⟨o, h⟩
  · exact .inl (g.kept a _ hf h)
  · exact .inr ⟨o, g.kept a _ hf h⟩
theorem FzT.mono (g : Grow F F' H H') {a : Addr} {xs : List V} (h : FzT K F H a xs) : FzT K F' H' a xs := by
  rcases h with ⟨h1, h2⟩ | h
  · exact .inl ⟨g.sub a h1, g.rd h1 h2⟩
  · exact .inr h
theorem FzL.mono (g : Grow F F' H H') {a : Addr} {xs : List V} (h : FzL K F H a xs) : FzL K F' H' a xs := by
  rcases h with ⟨h1, h2⟩ | h
  · exact .inl ⟨g.sub a h1, g.rd h1 h2⟩
  · exact .inr h
mutual
theorem Rp.mono (g : Grow F F' H H') : ∀ {v : V} {d : PyData}, Rp K F H v d → Rp K F' H' v d
  | _, _, .non => .non
  | _, _, .bl b => .bl b
  | _, _, .int i => .int i
  | _, _, .str x => .str x
  | _, _, .lst h r => .lst (h.mono g) (RpA.mono g r)
  | _, _, .tup h r => .tup (h.mono g) (RpA.mono g r)
theorem RpA.mono (g : Grow F F' H H') : ∀ {vs : List V} {ds : List PyData}, RpA K F H vs ds → RpA K F' H' vs ds
  | _, _, .nil => .nil
  | _, _, .cons h r => .cons (Rp.mono g h) (RpA.mono g r)
end
theorem FdA.mono (g : Grow F F' H H') : ∀ {vs : List (Str × V)} {ds : List (Str × PyData)}, FdA K F H vs ds → FdA K F' H' vs ds
  | _, _, .nil => .nil
  | _, _, .cons h r => .cons (h.mono g) (FdA.mono g r)
theorem FzT.sq {a : Addr} {xs : List V} (h : FzT K F H a xs) : SqT K H a xs := by
  rcases h with ⟨_, h⟩ | h
  · exact .inl h
  · exact h H
theorem FzL.sq {a : Addr} {xs : List V} (h : FzL K F H a xs) : SqL K H a xs := by
  rcases h with ⟨_, h⟩ | h
  · exact .inl h
  · exact h H
mutual
theorem Rp.dp : ∀ {v : V} {d : PyData}, Rp K F H v d → Dp K H v d
  | _, _, .non => .non
  | _, _, .bl b => .bl b
  | _, _, .int i => .int i
  | _, _, .str x => .str x
  | _, _, .lst h r => .lst h.sq (RpA.dp r)
  | _, _, .tup h r => .tup h.sq (RpA.dp r)
theorem RpA.dp : ∀ {vs : List V} {ds : List PyData}, RpA K F H vs ds → DpAll K H vs ds
  | _, _, .nil => .nil
  | _, _, .cons h r => .cons (Rp.dp h) (RpA.dp r)
end
theorem RpA.len : ∀ {vs : List V} {ds : List PyData}, RpA K F H vs ds → vs.length = ds.length
  | _, _, .nil => rfl
  | _, _, .cons _ r => by rw [List.length_cons, List.length_cons, RpA.len r]
theorem RpA.app : ∀ {vs ws : List V} {ds es : List PyData}, RpA K F H vs ds → RpA K F H ws es → RpA K F H (vs ++ ws) (ds ++ es)
  | _, _, _, _, .nil, q => q
  | _, _, _, _, .cons h r, q => .cons h (RpA.app r q)
theorem RpA.get : ∀ {vs : List V} {ds : List PyData} {i : Nat} {d : PyData}, RpA K F H vs ds → ds[i]? = some d → ∃ v, vs[i]? = some v ∧ Rp K F H v d
  | _, _, _, _, .nil, e => by simp at e
  | _, _, 0, _, .cons h _, e => by
    have e : _ = _ := Option.some.inj e
    subst e
    exact ⟨_, rfl, h⟩
  | _, _, i + 1, d, .cons _ r, e => RpA.get (i := i) (d := d) r (by simpa using e)
theorem RpA.get' : ∀ {vs : List V} {ds : List PyData} {i : Nat} {v : V}, RpA K F H vs ds → vs[i]? = some v → ∃ d, ds[i]? = some d ∧ Rp K F H v d
  | _, _, _, _, .nil, e => by simp at e
  | _, _, 0, _, .cons h _, e => by
    have e : _ = _ := Option.some.inj e
    subst e
    exact ⟨_, rfl, h⟩
  | _, _, i + 1, d, .cons _ r, e => RpA.get' (i := i) (v := d) r (by simpa using e)
theorem RpA.set (i : Nat) {v : V} {d : PyData} (hv : Rp K F H v d) : ∀ {vs : List V} {ds : List PyData}, RpA K F H vs ds → RpA K F H (vs.set i v) (ds.set i d)
  | _, _, .nil => .nil
  | _, _, .cons h r => by
    cases i with
    | zero => exact .cons hv r
    | succ i => exact .cons h (RpA.set i hv r)
theorem RpA.take (n : Nat) : ∀ {vs : List V} {ds : List PyData}, RpA K F H vs ds → RpA K F H (vs.take n) (ds.take n)
  | _, _, .nil => by simpa using RpA.nil
  | _, _, .cons h r => by
    cases n with
    | zero => exact .nil
    | succ n => exact .cons h (RpA.take n r)
theorem RpA.drop (n : Nat) : ∀ {vs : List V} {ds : List PyData}, RpA K F H vs ds → RpA K F H (vs.drop n) (ds.drop n)
  | _, _, .nil => by simpa using RpA.nil
  | _, _, .cons h r => by
    cases n with
    | zero => exact .cons h r
    | succ n => exact RpA.drop n r
end

/-! ### objects -/
/-- the program and the world at hand -/
class Cur where
  P : Program
  w : World
variable [Cur]
def tupI (ns : List Int) : PyData := .tuple (ns.map .int)
/-- a set as it stands: empty, of whole numbers, of flat tuples of such -/
def SetOk (K : PySem.W.Frag) (F : Ad) (H : Hp) (a : Addr) (ks : List PyData) : Prop :=
  (ks = [] ∧ H a = some (SetE Cur.w a)) ∨ (∃ is : List Int, is ≠ [] ∧ ks = is.map PyData.int ∧ is.Nodup ∧ H a = some (SetO Cur.w a (fun j => decide (j ∈ is)) is.length)) ∨
    (∃ L : List (Addr × List Int), L ≠ [] ∧ (L.map fun p => tupI p.2).Perm ks ∧ (L.map (·.2)).Nodup ∧ (∀ p ∈ L, FzT K F H p.1 (p.2.map V.int)) ∧ H a = some (SetTO Cur.P Cur.w a L))
theorem SetOk.isS {K : PySem.W.Frag} {F : Ad} {H : Hp} {a : Addr} {ks : List PyData} (h : SetOk K F H a ks) : IsS Cur.P Cur.w H a := by
  rcases h with ⟨-, h⟩ | ⟨is, -, -, -, h⟩ | ⟨L, -, -, -, -, h⟩
  · exact .inl h
  · exact .inr (.inl ⟨_, _, h⟩)
  · exact .inr (.inr ⟨_, h⟩)
theorem SetOk.mono {K : PySem.W.Frag} {F F' : Ad} {H H' : Hp} (g : Grow F F' H H') {a : Addr} (e : ∀ o, H a = some o → H' a = some o) {ks : List PyData} (h : SetOk K F H a ks) : SetOk K F' H' a ks := by
  rcases h with ⟨h1, h⟩ | ⟨is, h0, h1, h2, h⟩ | ⟨L, h0, h1, h2, h3, h⟩
  · exact .inl ⟨h1, e _ h⟩
  · exact .inr (.inl ⟨is, h0, h1, h2, e _ h⟩)
  · exact .inr (.inr ⟨L, h0, h1, h2, fun p hp => (h3 p hp).mono g, e _ h⟩)
def MoOk (K : PySem.W.Frag) (F : Ad) (H : Hp) (a : Addr) : MO → Prop
  | .lst ds => ∃ xs, H a = some (.lst xs) ∧ RpA K F H xs ds
  | .ins c fs => ∃ dx vs, H a = some (.ins (He.ga K c) dx vs) ∧ FdA K F H vs fs
  | .dic _ => False
  | .set ks => SetOk K F H a ks
/-- the object at a is as it was, F grows -/
theorem MoOk.mono {K : PySem.W.Frag} {F F' : Ad} {H H' : Hp} (g : Grow F F' H H') {a : Addr} (e : ∀ o, H a = some o → H' a = some o) : ∀ {o : MO}, MoOk K F H a o → MoOk K F' H' a o
  | .lst _, ⟨xs, h, r⟩ => ⟨xs, e _ h, r.mono g⟩
  | .ins _ _, ⟨dx, vs, h, r⟩ => ⟨dx, vs, e _ h, r.mono g⟩
  | .dic _, h => h
  | .set _, h => SetOk.mono g e h
theorem MoOk.there {K : PySem.W.Frag} {F : Ad} {H : Hp} {a : Addr} : ∀ {o : MO}, MoOk K F H a o → H a ≠ none
  | .lst _, ⟨xs, h, _⟩ => by rw [h]; simp
  | .ins _ _, ⟨dx, vs, h, _⟩ => by rw [h]; simp
  | .dic _, h => h.elim
  | .set _, h => by rcases SetOk.isS h with h | ⟨S, n, h⟩ | ⟨L, h⟩ <;> (rw [h]; simp)
def FzI (K : PySem.W.Frag) (F : Ad) (H : Hp) (a : Addr) (c : Str) (fs : List (Str × PyData)) : Prop := F a ∧ MoOk K F H a (.ins c fs)
def SlotOk (K : PySem.W.Frag) (F : Ad) (H : Hp) (x : Option V) : Slot → Prop
  | .no => True
  | .val d => ∃ v, x = some v ∧ Rp K F H v d
  | .ins c fs => ∃ a, x = some (.ref a) ∧ FzI K F H a c fs
  | .own o => ∃ a, x = some (.ref a) ∧ ¬ F a ∧ MoOk K F H a o
  | .brw o => ∃ a, x = some (.ref a) ∧ ¬ F a ∧ MoOk K F H a o
/-- the changing object of the place i stands at a -/
def MAt (ρ : Fr) (σ : L2.St) (i : Nat) (a : Addr) : Prop := (∃ s o, ρ[i]? = some s ∧ s.mo = some o) ∧ σ[i]? = some (some (.ref a))
def Mu (ρ : Fr) (σ : L2.St) (a : Addr) : Prop := ∃ i, MAt ρ σ i a
structure Sim (K : PySem.W.Frag) (F : Ad) (H : Hp) (ρ : Fr) (σ : L2.St) : Prop where
  len : ρ.length = σ.length
  ok : ∀ (i : Nat) (s : Slot), ρ[i]? = some s → SlotOk K F H (σ[i]?).join s
  apart : ∀ i j a, MAt ρ σ i a → MAt ρ σ j a → i = j
  fok : ∀ a, F a → H a ≠ none
theorem SlotOk.mono {K : PySem.W.Frag} {F F' : Ad} {H H' : Hp} {x : Option V} (g : Grow F F' H H') : ∀ {s : Slot}, (∀ a o, s.mo = some o → x = some (.ref a) → ¬ F' a ∧ ∀ u, H a = some u → H' a = some u) → SlotOk K F H x s → SlotOk K F' H' x s
  | .no, _, _ => trivial
  | .val _, _, ⟨v, e, r⟩ => ⟨v, e, r.mono g⟩
  | .ins _ _, _, ⟨a, e, h1, h2⟩ => ⟨a, e, g.sub a h1, h2.mono g fun o h => g.kept a o h1 h⟩
  | .own o, m, ⟨a, e, _, h2⟩ => ⟨a, e, (m a o rfl e).1, h2.mono g (m a o rfl e).2⟩
  | .brw o, m, ⟨a, e, _, h2⟩ => ⟨a, e, (m a o rfl e).1, h2.mono g (m a o rfl e).2⟩

/-- what a step of an expression leaves: what F held stays, what no place changes stays, new in F is only what is new or was a place's own -/
structure Stp (ρ : Fr) (σ : L2.St) (F : Ad) (H : Hp) (ρ' : Fr) (σ' : L2.St) (F' : Ad) (H' : Hp) : Prop where
  sub : ∀ a, F a → F' a
  new : ∀ a, F' a → F a ∨ H a = none ∨ Mu ρ σ a
  kept : ∀ a o, H a = some o → ¬ Mu ρ σ a → H' a = some o
  mu : ∀ a, Mu ρ' σ' a → H a = none ∨ Mu ρ σ a
  brw : ∀ (i : Nat) (o : MO), ρ[i]? = some (Slot.brw o) → (∃ o', ρ'[i]? = some (Slot.brw o')) ∧ σ'[i]? = σ[i]?
  len : ρ'.length = ρ.length
section
variable {K : PySem.W.Frag} {F F1 F2 : Ad} {H H1 H2 : Hp} {ρ ρ1 ρ2 : Fr} {σ σ1 σ2 : L2.St}
theorem Sim.nf (s : Sim K F H ρ σ) {a : Addr} (h : Mu ρ σ a) : ¬ F a := by
  obtain ⟨i, ⟨s', o, e, m⟩, e2⟩ := h
  have q := s.ok i s' e
  rw [e2] at q
  cases s' with
  | own o' => obtain ⟨b, eb, h, _⟩ := q; cases eb; exact h
  | brw o' => obtain ⟨b, eb, h, _⟩ := q; cases eb; exact h
  | no => cases m
  | val d => cases m
  | ins c fs => cases m
theorem Sim.there (s : Sim K F H ρ σ) {a : Addr} (h : Mu ρ σ a) : H a ≠ none := by
  obtain ⟨i, ⟨s', o, e, m⟩, e2⟩ := h
  have q := s.ok i s' e
  rw [e2] at q
  cases s' with
  | own o' => obtain ⟨b, eb, _, h⟩ := q; cases eb; exact h.there
  | brw o' => obtain ⟨b, eb, _, h⟩ := q; cases eb; exact h.there
  | no => cases m
  | val d => cases m
  | ins c fs => cases m
theorem Stp.refl : Stp ρ σ F H ρ σ F H := ⟨fun _ h => h, fun _ h => .inl h, fun _ _ h _ => h, fun _ h => .inr h, fun _ o h => ⟨⟨o, h⟩, rfl⟩, rfl⟩
theorem Stp.back (a : Stp ρ σ F H ρ1 σ1 F1 H1) {b : Addr} (h : H1 b = none) : H b = none ∨ Mu ρ σ b := by
  by_cases hm : Mu ρ σ b
  · exact .inr hm
  · cases e : H b with
    | none => exact .inl rfl
    | some o =>
      rw [a.kept b o e hm] at h
      cases h
theorem Stp.trans (a : Stp ρ σ F H ρ1 σ1 F1 H1) (b : Stp ρ1 σ1 F1 H1 ρ2 σ2 F2 H2) : Stp ρ σ F H ρ2 σ2 F2 H2 where
  sub := fun x h => b.sub x (a.sub x h)
  new := fun x h => by
    rcases b.new x h with h | h | h
    · exact a.new x h
    · exact .inr (a.back h)
    · exact .inr (a.mu x h)
  kept := fun x o h hn => by
    have h1 := a.kept x o h hn
    refine b.kept x o h1 fun hm => ?_
    rcases a.mu x hm with e | e
    · rw [h] at e; cases e
    · exact hn e
  mu := fun x h => by
    rcases b.mu x h with h | h
    · exact a.back h
    · exact a.mu x h
  len := b.len.trans a.len
  brw := fun i o h => by
    obtain ⟨⟨o1, h1⟩, e1⟩ := a.brw i o h
    obtain ⟨h2, e2⟩ := b.brw i o1 h1
    exact ⟨h2, e2.trans e1⟩
theorem Stp.grow (s : Sim K F H ρ σ) (a : Stp ρ σ F H ρ1 σ1 F1 H1) : Grow F F1 H H1 := ⟨a.sub, fun x o hf h => a.kept x o h fun hm => s.nf hm hf⟩
end
end PM
set_option Elab.async false
set_option linter.all false
set_option maxRecDepth 100000
set_option maxHeartbeats 1000000
/-! PM: the readings of the machine's steps, and the expressions' rules. -/
namespace PM
open PySem PySem.Spec PyProof.Rows L2
variable [Cur]

def VOk (K : PySem.W.Frag) (F : Ad) (H : Hp) (v : V) : Slot → Prop
  | .val d => Rp K F H v d
  | .ins c fs => ∃ a, v = .ref a ∧ FzI K F H a c fs
  | .own o => ∃ a, v = .ref a ∧ ¬ F a ∧ MoOk K F H a o
  | _ => False
/-- what is wanted of an exception of the program's class c -/
def excW (K : PySem.W.Frag) (W : WX) (c : Str) (ρ : Fr) (σ : L2.St) (H : Hp) : Prop :=
  ∀ (σ' : L2.St) (H' : Hp), σ'.length = ρ.length → (∀ a o, H a = some o → ¬ Mu ρ σ a → H' a = some o) → W (.ref (He.ga K c)) none σ' H'
abbrev RR (α τ : Type) := Fr → L2.St → Hp → Fr → Ad → Hp → α → τ → Prop
def rdAt {α τ : Type} (K : PySem.W.Frag) (W : WX) (x : Res (α × Fr)) (R : RR α τ) (ρ : Fr) (F : Ad) (σ : L2.St) (H : Hp) (Q : τ → Hp → Prop) : Prop := match x with
  | .ok r => ∀ (v : τ) (F' : Ad) (H' : Hp), Sim K F' H' r.2 σ → Stp ρ σ F H r.2 σ F' H' → R ρ σ H r.2 F' H' r.1 v → Q v H'
  | .exc c => excW K W c ρ σ H
  | .stuck => False
def rdG {α τ : Type} (K : PySem.W.Frag) (W : WX) (m : Fr → Res (α × Fr)) (R : RR α τ) : L2.St → Hp → (τ → Hp → Prop) → Prop := fun σ H Q => ∃ F ρ, Sim K F H ρ σ ∧ rdAt K W (m ρ) R ρ F σ H Q
/-- a value's -/
def VR (K : PySem.W.Frag) : RR Slot V := fun ρ σ H ρ' F' H' r v => VOk K F' H' v r ∧ ∀ o a, r = .own o → v = .ref a → ¬ Mu ρ' σ a ∧ (H a = none ∨ Mu ρ σ a)
/-- a place's -/
def PR (K : PySem.W.Frag) : RR Opd V := fun ρ σ H ρ' F' H' r v => match r with
  | .slot i => σ[i]? = some (some v)
  | .tmp s => VOk K F' H' v s ∧ ∀ o a, s = .own o → v = .ref a → ¬ Mu ρ' σ a ∧ (H a = none ∨ Mu ρ σ a)
/-- a datum's -/
def DR (K : PySem.W.Frag) : RR PyData V := fun _ _ _ _ F' H' r v => Rp K F' H' v r
/-- the relation goes back over a step -/
def Bk {α τ : Type} (R : RR α τ) : Prop := ∀ (ρ ρ1 ρ' : Fr) (σ : L2.St) (F F1 F' : Ad) (H H1 H' : Hp) (r : α) (v : τ), Stp ρ σ F H ρ1 σ F1 H1 → R ρ1 σ H1 ρ' F' H' r v → R ρ σ H ρ' F' H' r v
section
variable {K : PySem.W.Frag} {W : WX} {F F1 F2 : Ad} {H H1 H2 : Hp} {ρ ρ1 ρ2 : Fr} {σ : L2.St} {Q Q' : VK}
theorem bkV : Bk (VR K) := fun _ _ _ _ _ _ _ _ _ _ _ _ st h => ⟨h.1, fun o a e1 e2 => ⟨(h.2 o a e1 e2).1, by
  rcases (h.2 o a e1 e2).2 with z | z
  · exact st.back z
  · exact st.mu a z⟩⟩
theorem bkP : Bk (PR K) := fun _ _ _ _ _ _ _ _ _ _ r _ st h => by
  cases r with
  | slot i => exact h
  | tmp s => exact ⟨h.1, fun o a e1 e2 => ⟨(h.2 o a e1 e2).1, by
      rcases (h.2 o a e1 e2).2 with z | z
      · exact st.back z
      · exact st.mu a z⟩⟩
theorem bkD : Bk (DR K) := fun _ _ _ _ _ _ _ _ _ _ _ _ _ h => h
theorem excW.back {c : Str} (st : Stp ρ σ F H ρ1 σ F1 H1) (hl : ρ1.length = ρ.length) (h : excW K W c ρ σ H) : excW K W c ρ1 σ H1 := fun σ' H' e k => h σ' H' (e.trans hl) fun a o ha hn => by
  refine k a o (st.kept a o ha hn) fun hm => ?_
  rcases st.mu a hm with z | z
  · rw [ha] at z; cases z
  · exact hn z
theorem rdAt.mono {α τ : Type} {x : Res (α × Fr)} {R : RR α τ} {Q Q' : τ → Hp → Prop} (h : rdAt K W x R ρ F σ H Q) (q : ∀ v H', Q v H' → Q' v H') : rdAt K W x R ρ F σ H Q' := by
  cases x with
  | ok r => exact fun v F' H' a b c => q v H' (h v F' H' a b c)
  | exc c => exact h
  | stuck => exact h
/-- what stands behind a step, and what is still to be done -/
def Beh {α β τ τ' : Type} (K : PySem.W.Frag) (W : WX) (R1 : RR α τ) (f : α × Fr → Res (β × Fr)) (R : RR β τ') (ρ : Fr) (F : Ad) (σ : L2.St) (H : Hp) (Q : τ' → Hp → Prop) : τ → Hp → Prop := fun v H1 =>
  ∃ (F1 : Ad) (ρ1 : Fr) (r : α), Sim K F1 H1 ρ1 σ ∧ Stp ρ σ F H ρ1 σ F1 H1 ∧ R1 ρ σ H ρ1 F1 H1 r v ∧ rdAt K W (f (r, ρ1)) R ρ1 F1 σ H1 Q
theorem rdAt.bind {α β τ τ' : Type} {x : Res (α × Fr)} {f : α × Fr → Res (β × Fr)} {R1 : RR α τ} {R : RR β τ'} {Q : τ' → Hp → Prop} (bk : Bk R) (sim : Sim K F H ρ σ) (h : rdAt K W (x.bind f) R ρ F σ H Q) : rdAt K W x R1 ρ F σ H (Beh K W R1 f R ρ F σ H Q) := by
  cases x with
  | ok r =>
    refine fun v F1 H1 s1 st r1 => ⟨F1, r.2, r.1, s1, st, r1, ?_⟩
    have h' : rdAt K W (f r) R ρ F σ H Q := h
    show rdAt K W (f r) R r.2 F1 σ H1 Q
    revert h'
    cases f r with
    | ok q => exact fun h' v F' H' a b c => h' v F' H' a (st.trans b) (bk _ _ _ _ _ _ _ _ _ _ _ _ st c)
    | exc c => exact fun h' => h'.back st (s1.len.trans sim.len.symm)
    | stuck => exact fun h' => h'
  | exc c => exact h
  | stuck => exact h
theorem rdAt.of {α β τ : Type} {x : Option α} {f : α → Res (β × Fr)} {R : RR β τ} {Q : τ → Hp → Prop} (h : rdAt K W ((Res.of x).bind f) R ρ F σ H Q) : ∃ a, x = some a ∧ rdAt K W (f a) R ρ F σ H Q := by
  cases x with
  | none => exact h.elim
  | some a => exact ⟨a, rfl, h⟩
theorem rdAt.done {α τ : Type} {r : α} {R : RR α τ} {Q : τ → Hp → Prop} (h : rdAt K W (.ok (r, ρ)) R ρ F σ H Q) (sim : Sim K F H ρ σ) {v : τ} (hr : R ρ σ H ρ F H r v) : Q v H := h v F H sim .refl hr

/-! ### a new object, F as it was or with it -/
theorem Sim.new (s : Sim K F H ρ σ) {p : Addr} {o : HO} (hp : H p = none) (F' : Ad) (hF : ∀ a, F' a ↔ F a ∨ (F' p ∧ a = p)) : Sim K F' (upd H p o) ρ σ := by
  have g : Grow F F' H (upd H p o) := ⟨fun a h => (hF a).mpr (.inl h), fun a u _ e => by rw [upd_ne (ne_of_none e hp)]; exact e⟩
  refine ⟨s.len, fun i sl e => (s.ok i sl e).mono g fun a mo hm hx => ?_, s.apart, fun a h => ?_⟩
  · have hmu : Mu ρ σ a := by
      refine ⟨i, ⟨sl, mo, e, hm⟩, ?_⟩
      cases hs : σ[i]? with
      | none => rw [hs] at hx; cases hx
      | some y =>
        rw [hs] at hx
        have hx' : y = some (.ref a) := hx
        rw [hx']
    have hne : a ≠ p := fun z => s.there hmu (z ▸ hp)
    refine ⟨fun h => ?_, fun u e => by rw [upd_ne hne]; exact e⟩
    rcases (hF a).mp h with z | z
    · exact s.nf hmu z
    · exact hne z.2
  · by_cases e : a = p
    · rw [e, upd_same]; simp
    · rw [upd_ne e]
      rcases (hF a).mp h with z | z
      · exact s.fok a z
      · exact absurd z.2 e
theorem Stp.alloc {p : Addr} {o : HO} (hp : H p = none) (F' : Ad) (hF : ∀ a, F' a ↔ F a ∨ (F' p ∧ a = p)) : Stp ρ σ F H ρ σ F' (upd H p o) where
  sub := fun a h => (hF a).mpr (.inl h)
  new := fun a h => by
    rcases (hF a).mp h with z | z
    · exact .inl z
    · exact .inr (.inl (z.2 ▸ hp))
  kept := fun a u e _ => by rw [upd_ne (ne_of_none e hp)]; exact e
  mu := fun a h => .inr h
  brw := fun _ o h => ⟨⟨o, h⟩, rfl⟩
  len := rfl
def addF (F : Ad) (p : Addr) : Ad := fun a => F a ∨ a = p
theorem addF_iff (p a : Addr) : addF F p a ↔ F a ∨ (addF F p p ∧ a = p) := ⟨fun h => h.elim .inl fun e => .inr ⟨.inr rfl, e⟩, fun h => h.elim .inl fun e => .inr e.2⟩
theorem sameF_iff {p : Addr} (hn : ¬ F p) (a : Addr) : F a ↔ F a ∨ (F p ∧ a = p) := ⟨.inl, fun h => h.elim id fun e => absurd e.1 hn⟩
theorem Sim.nfn (s : Sim K F H ρ σ) {p : Addr} (hp : H p = none) : ¬ F p := fun h => s.fok p h hp
theorem Sim.nmu (s : Sim K F H ρ σ) {p : Addr} (hp : H p = none) : ¬ Mu ρ σ p := fun h => s.there h hp
/-- the answer is a new tuple -/
theorem rdAt.newTup {xs : List V} {ds : List PyData} {p : Addr} (h : rdAt K W (.ok (.val (.tuple ds), ρ)) (VR K) ρ F σ H Q) (sim : Sim K F H ρ σ) (hp : H p = none) (r : RpA K F H xs ds) : Q (.ref p) (upd H p (.tup xs)) := by
  refine h (.ref p) (addF F p) (upd H p (.tup xs)) (sim.new hp _ (addF_iff p)) (Stp.alloc hp _ (addF_iff p)) ⟨?_, fun o a e => by cases e⟩
  exact .tup (.inl ⟨.inr rfl, .inl upd_same⟩) (r.mono ⟨fun a h => .inl h, fun a u _ e => by rw [upd_ne (ne_of_none e hp)]; exact e⟩)
/-- .. a new list of its own -/
theorem rdAt.newLst {xs : List V} {ds : List PyData} {p : Addr} (h : rdAt K W (.ok (.own (.lst ds), ρ)) (VR K) ρ F σ H Q) (sim : Sim K F H ρ σ) (hp : H p = none) (r : RpA K F H xs ds) : Q (.ref p) (upd H p (.lst xs)) := by
  have hn := sim.nfn hp
  refine h (.ref p) F (upd H p (.lst xs)) (sim.new hp _ (sameF_iff hn)) (Stp.alloc hp _ (sameF_iff hn)) ⟨⟨p, rfl, hn, xs, upd_same, ?_⟩, fun o a _ e => ?_⟩
  · exact r.mono ⟨fun a h => h, fun a u _ e => by rw [upd_ne (ne_of_none e hp)]; exact e⟩
  · cases e
    exact ⟨sim.nmu hp, .inl hp⟩
/-! ### freezing -/
theorem VOk.mono {v : V} (g : Grow F F1 H H1) : ∀ {s : Slot}, (∀ o a, s = .own o → v = .ref a → ¬ F1 a ∧ ∀ u, H a = some u → H1 a = some u) → VOk K F H v s → VOk K F1 H1 v s
  | .no, _, h => h
  | .brw _, _, h => h
  | .val _, _, h => Rp.mono g h
  | .ins _ _, _, ⟨a, e, h1, h2⟩ => ⟨a, e, g.sub a h1, h2.mono g fun o h => g.kept a o h1 h⟩
  | .own o, m, ⟨a, e, _, h2⟩ => ⟨a, e, (m o a rfl e).1, h2.mono g (m o a rfl e).2⟩
theorem Sim.freeze (s : Sim K F H ρ σ) {p : Addr} (hn : ¬ Mu ρ σ p) (hp : H p ≠ none) : Sim K (addF F p) H ρ σ := by
  have g : Grow F (addF F p) H H := ⟨fun a h => .inl h, fun _ _ _ e => e⟩
  refine ⟨s.len, fun i sl e => (s.ok i sl e).mono g fun a mo hm hx => ?_, s.apart, fun a h => ?_⟩
  · have hmu : Mu ρ σ a := by
      refine ⟨i, ⟨sl, mo, e, hm⟩, ?_⟩
      cases hs : σ[i]? with
      | none => rw [hs] at hx; cases hx
      | some y =>
        rw [hs] at hx
        have hx' : y = some (.ref a) := hx
        rw [hx']
    refine ⟨fun h => ?_, fun u e => e⟩
    rcases h with z | z
    · exact s.nf hmu z
    · exact hn (z ▸ hmu)
  · rcases h with z | z
    · exact s.fok a z
    · exact z ▸ hp
theorem Stp.freeze {p : Addr} (h : H p = none ∨ Mu ρ σ p) (st : Stp ρ σ F H ρ1 σ F1 H1) : Stp ρ σ F H ρ1 σ (addF F1 p) H1 :=
  ⟨fun a x => .inl (st.sub a x), fun a x => x.elim (st.new a) fun e => .inr (e ▸ h), st.kept, st.mu, st.brw, st.len⟩
theorem MoOk.frz {a : Addr} {ds : List PyData} (h : MoOk K F H a (.lst ds)) : Rp K (addF F a) H (.ref a) (.list ds) := by
  obtain ⟨xs, e, r⟩ := h
  exact .lst (.inl ⟨.inr rfl, .inl e⟩) (r.mono ⟨fun _ h => .inl h, fun _ _ _ e => e⟩)
/-- a value as a datum: frozen -/
theorem rd_toD {m : Fr → Res (Slot × Fr)} {R : RR PyData V} (hR : ∀ ρ σ H ρ' F' H' d v, Rp K F' H' v d → R ρ σ H ρ' F' H' d v)
    (h : rdAt K W ((m ρ).bind fun x => (Res.of x.1.toD).bind fun y => .ok (y, x.2)) R ρ F σ H Q) : rdAt K W (m ρ) (VR K) ρ F σ H Q := by
  revert h
  cases m ρ with
  | ok q =>
    intro h v F' H' s st r
    obtain ⟨d, ed, h⟩ := h.of (x := q.1.toD)
    obtain ⟨sl, ρ'⟩ := q
    cases sl with
    | val d' =>
      cases ed
      exact h v F' H' s st (hR _ _ _ _ _ _ _ _ r.1)
    | own o =>
      cases o with
      | lst ds =>
        cases ed
        obtain ⟨⟨a, rfl, hn, hm⟩, ha⟩ := r
        obtain ⟨h1, h2⟩ := ha _ a rfl rfl
        exact h (.ref a) _ H' (s.freeze h1 hm.there) (st.freeze h2) (hR _ _ _ _ _ _ _ _ hm.frz)
      | dic _ => cases ed
      | set _ => cases ed
      | ins _ _ => cases ed
    | no => cases ed
    | ins _ _ => cases ed
    | brw _ => cases ed
  | exc c => exact fun h => h
  | stuck => exact fun h => h
end

/-! ### what is known where an expression stands -/
theorem PE.imp {X : Cx} {e : Expr} {t t' : TE} (h : PE X e t) (k : ∀ σ H Q, t' σ H Q → t σ H Q) : PE X e t' := ⟨fun pins s σ H Q I q => h.run pins s σ H Q I (k σ H Q q)⟩
theorem PT.imp {X : Cx} {e : Expr} {t t' : TT} (h : PT X e t) (k : ∀ σ H Q, t' σ H Q → t σ H Q) : PT X e t' := ⟨fun pins s σ H Q I q => h.run pins s σ H Q I (k σ H Q q)⟩
abbrev PEV (X : Cx) (W : WX) (e : Expr) (d : Dn) : Prop := PE X e (rdG X.K W d.v (VR X.K))
abbrev PEP (X : Cx) (W : WX) (e : Expr) (d : Dn) : Prop := PE X e (rdG X.K W d.p (PR X.K))
abbrev PED (X : Cx) (W : WX) (e : Expr) (d : Dn) : Prop := PE X e (rdG X.K W d.d (DR X.K))
/-- a test's -/
def BR : RR Bool Bool := fun _ _ _ _ _ _ b v => v = b
theorem bkB : Bk BR := fun _ _ _ _ _ _ _ _ _ _ _ _ _ h => h
abbrev rdT (K : PySem.W.Frag) (W : WX) (m : Fr → Res (Bool × Fr)) : TT := rdG K W m BR
abbrev PETs (X : Cx) (W : WX) (e : Expr) (d : Dn) : Prop := PT X e (rdT X.K W d.t)
theorem ped_of {X : Cx} {W : WX} {e : Expr} {d : Dn} (h : PEV X W e d) : PED X W e d := PE.imp h fun _ _ _ ⟨F, ρ, s, q⟩ => ⟨F, ρ, s, rd_toD (fun _ _ _ _ _ _ _ _ r => r) q⟩
theorem pep_none {X : Cx} {W : WX} {e : Expr} {d : Dn} (hd : d.vr = none) (h : PEV X W e d) : PEP X W e d := PE.imp h fun σ H Q ⟨F, ρ, s, q⟩ => ⟨F, ρ, s, by
  have e1 : d.p ρ = (d.v ρ).bind fun x => .ok (.tmp x.1, x.2) := by
    unfold Dn.p
    rw [hd]
  rw [e1] at q
  revert q
  cases d.v ρ with
  | ok r => exact fun q v F' H' a b c => q v F' H' a b c
  | exc c => exact fun q => q
  | stuck => exact fun q => q⟩
end PM
set_option Elab.async false
set_option linter.all false
set_option maxRecDepth 100000
set_option maxHeartbeats 1000000
/-! PM: names, constants, what is read at a place, truth. -/
namespace PM
open PySem PySem.Spec PyProof.Rows L2
variable [Cur]
section
variable {K : PySem.W.Frag} {W : WX} {F F1 F2 : Ad} {H H1 H2 : Hp} {ρ ρ1 ρ2 : Fr} {σ : L2.St} {Q Q' : VK}

/-! ### a place through a step -/
def OpdOk (K : PySem.W.Frag) (ρ : Fr) (σ : L2.St) (F : Ad) (H : Hp) (v : V) : Opd → Prop
  | .slot i => σ[i]? = some (some v)
  | .tmp s => VOk K F H v s ∧ ∀ o a, s = .own o → v = .ref a → ¬ Mu ρ σ a
theorem PR.opd {ρ' : Fr} {p : Opd} {v : V} (h : PR K ρ σ H ρ' F1 H1 p v) : OpdOk K ρ' σ F1 H1 v p := by
  cases p with
  | slot i => exact h
  | tmp s => exact ⟨h.1, fun o a e1 e2 => (h.2 o a e1 e2).1⟩
theorem OpdOk.step {v : V} {p : Opd} (sim : Sim K F H ρ σ) (st : Stp ρ σ F H ρ1 σ F1 H1) (h : OpdOk K ρ σ F H v p) : OpdOk K ρ1 σ F1 H1 v p := by
  cases p with
  | slot i => exact h
  | tmp s =>
    obtain ⟨h1, h2⟩ := h
    have key : ∀ o a, s = .own o → v = .ref a → ¬ F a ∧ H a ≠ none := fun o a e1 e2 => by
      subst e1
      obtain ⟨b, e, hn, hm⟩ := h1
      rw [e2] at e
      cases e
      exact ⟨hn, hm.there⟩
    refine ⟨h1.mono (st.grow sim) fun o a e1 e2 => ⟨fun hf => ?_, fun u e => st.kept a u e (h2 o a e1 e2)⟩, fun o a e1 e2 hm => ?_⟩
    · rcases st.new a hf with z | z | z
      · exact (key o a e1 e2).1 z
      · exact (key o a e1 e2).2 z
      · exact h2 o a e1 e2 z
    · rcases st.mu a hm with z | z
      · exact (key o a e1 e2).2 z
      · exact h2 o a e1 e2 z

/-! ### what is read -/
def Rq (K : PySem.W.Frag) (F : Ad) (H : Hp) (v : V) : PyData → Prop
  | .list ds => ∃ a xs, v = .ref a ∧ SqL K H a xs ∧ RpA K F H xs ds
  | d => Rp K F H v d
def VwOk (K : PySem.W.Frag) (F : Ad) (H : Hp) (v : V) : Vw → Prop
  | .dat d => Rq K F H v d
  | .ins c fs => ∃ a, v = .ref a ∧ MoOk K F H a (.ins c fs)
  | .dic kvs => ∃ a, v = .ref a ∧ MoOk K F H a (.dic kvs)
  | .set ks => ∃ a, v = .ref a ∧ MoOk K F H a (.set ks)
theorem Rp.rq {v : V} {d : PyData} (h : Rp K F H v d) : Rq K F H v d := by
  cases h with
  | non => exact .non
  | bl b => exact .bl b
  | int i => exact .int i
  | str x => exact .str x
  | lst h r => exact ⟨_, _, rfl, h.sq, r⟩
  | tup h r => exact .tup h r
theorem Rq.dp {v : V} {d : PyData} (h : Rq K F H v d) : Dp K H v d := by
  cases d with
  | list ds =>
    obtain ⟨a, xs, rfl, h1, h2⟩ := h
    exact .lst h1 h2.dp
  | none => exact Rp.dp h
  | bool _ => exact Rp.dp h
  | int _ => exact Rp.dp h
  | str _ => exact Rp.dp h
  | tuple _ => exact Rp.dp h
  | dict _ => exact Rp.dp h
theorem MoOk.vw {a : Addr} {o : MO} (h : MoOk K F H a o) : VwOk K F H (.ref a) o.vw := by
  cases o with
  | lst ds =>
    obtain ⟨xs, e, r⟩ := h
    exact ⟨a, xs, rfl, .inl (.inl e), r⟩
  | dic kvs => exact ⟨a, rfl, h⟩
  | set ks => exact ⟨a, rfl, h⟩
  | ins c fs => exact ⟨a, rfl, h⟩
theorem SlotOk.vw {s : Slot} {v : V} {w : Vw} (h : SlotOk K F H (some v) s) (e : s.vw = some w) : VwOk K F H v w := by
  cases s with
  | no => cases e
  | val d =>
    cases e
    obtain ⟨v', e, r⟩ := h
    cases e
    exact r.rq
  | ins c fs =>
    cases e
    obtain ⟨a, e, r⟩ := h
    cases e
    exact ⟨a, rfl, r.2⟩
  | own o =>
    cases e
    obtain ⟨a, e, _, r⟩ := h
    cases e
    exact r.vw
  | brw o =>
    cases e
    obtain ⟨a, e, _, r⟩ := h
    cases e
    exact r.vw
theorem VOk.slot {s : Slot} {v : V} (h : VOk K F H v s) : SlotOk K F H (some v) s := by
  cases s with
  | no => exact trivial
  | val d => exact ⟨v, rfl, h⟩
  | ins c fs =>
    obtain ⟨a, e, r⟩ := h
    exact ⟨a, by rw [e], r⟩
  | own o =>
    obtain ⟨a, e, r⟩ := h
    exact ⟨a, by rw [e], r⟩
  | brw o => exact h.elim
theorem Opd.vwOk {p : Opd} {v : V} {w : Vw} (sim : Sim K F H ρ σ) (h : OpdOk K ρ σ F H v p) (e : p.vw ρ = some w) : VwOk K F H v w := by
  cases p with
  | slot i =>
    obtain ⟨s, e1, e2⟩ := Option.bind_eq_some_iff.mp e
    have q := sim.ok i s e1
    have h' : σ[i]? = some (some v) := h
    rw [h'] at q
    exact q.vw e2
  | tmp s => exact h.1.slot.vw e
theorem Vw.dat_some {x : Option Vw} {d : PyData} (e : Vw.dat? x = some d) : x = some (.dat d) := by
  cases x with
  | none => cases e
  | some w => cases w with
    | dat d' => cases e; rfl
    | dic _ => cases e
    | set _ => cases e
    | ins _ _ => cases e
theorem Opd.datOk {p : Opd} {v : V} {d : PyData} (sim : Sim K F H ρ σ) (h : OpdOk K ρ σ F H v p) (e : p.dat ρ = some d) : Rq K F H v d :=
  p.vwOk sim h (Vw.dat_some e)

/-! ### truth -/
theorem RpA.empty {xs : List V} {ds : List PyData} (r : RpA K F H xs ds) : (!ds.isEmpty) = !xs.isEmpty := by
  cases r <;> rfl
theorem tru_of {v : V} {w : Vw} {k : Bool} (h : VwOk K F H v w) (e : truV (some w) = some k) : TruV K v H k := by
  cases w with
  | dat d =>
    cases d with
    | none => cases h; cases e; rfl
    | bool b => cases h; cases e; rfl
    | int i => cases h; cases e; rfl
    | str x => cases e
    | list ds =>
      obtain ⟨a, xs, rfl, h1, h2⟩ := h
      cases e
      exact .inl ⟨xs, h1, h2.empty⟩
    | tuple ds =>
      cases h with
      | tup h1 h2 =>
        cases e
        exact .inr (.inl ⟨_, h1.sq, h2.empty⟩)
    | dict _ => cases e
  | dic _ => cases e
  | set _ => cases e
  | ins _ _ => cases e

/-! ### a place frozen -/
theorem MAt.set {i j : Nat} {s : Slot} {a : Addr} (hs : s.mo = none) (h : MAt (ρ.set i s) σ j a) : MAt ρ σ j a ∧ j ≠ i := by
  obtain ⟨⟨s', o, e, m⟩, e2⟩ := h
  by_cases hj : j = i
  · subst hj
    by_cases hl : j < ρ.length
    · rw [List.getElem?_set_self hl] at e
      cases e
      rw [hs] at m
      cases m
    · rw [List.getElem?_eq_none (by rw [List.length_set]; omega)] at e
      cases e
  · rw [List.getElem?_set_ne (Ne.symm hj)] at e
    exact ⟨⟨⟨s', o, e, m⟩, e2⟩, hj⟩
theorem fz_ok {a : Addr} {o : MO} {s : Slot} (h : MoOk K F H a o) (e : (Slot.own o).fz = some s) : VOk K (addF F a) H (.ref a) s ∧ s.mo = none := by
  cases o with
  | lst ds =>
    cases e
    exact ⟨h.frz, rfl⟩
  | ins c fs =>
    cases e
    exact ⟨⟨a, rfl, .inr rfl, h.mono ⟨fun _ h => .inl h, fun _ _ _ e => e⟩ fun _ e => e⟩, rfl⟩
  | dic _ => cases e
  | set _ => cases e
theorem Sim.frzSlot (sim : Sim K F H ρ σ) {i : Nat} {o : MO} {s : Slot} {a : Addr} (e : ρ[i]? = some (.own o)) (ez : (Slot.own o).fz = some s) (ea : σ[i]? = some (some (.ref a))) :
    Sim K (addF F a) H (ρ.set i s) σ ∧ Stp ρ σ F H (ρ.set i s) σ (addF F a) H ∧ VOk K (addF F a) H (.ref a) s := by
  have hmu : Mu ρ σ a := ⟨i, ⟨_, o, e, rfl⟩, ea⟩
  have q := sim.ok i _ e
  rw [ea] at q
  obtain ⟨a', e', hn, hm⟩ := q
  cases e'
  obtain ⟨hv, hs⟩ := fz_ok hm ez
  have g : Grow F (addF F a) H H := ⟨fun a h => .inl h, fun _ _ _ e => e⟩
  have hl : i < ρ.length := (List.getElem?_eq_some_iff.mp e).1
  refine ⟨⟨by rw [List.length_set]; exact sim.len, fun j sl ej => ?_, fun x y b h1 h2 => sim.apart x y b (MAt.set hs h1).1 (MAt.set hs h2).1, fun b h => ?_⟩, ⟨fun _ h => .inl h, fun b h => h.elim .inl fun z => .inr (.inr (z ▸ hmu)), fun _ _ h _ => h, fun b h => ?_, fun j o' ej => ?_, List.length_set⟩, hv⟩
  · by_cases hj : j = i
    · subst hj
      rw [List.getElem?_set_self hl] at ej
      cases ej
      rw [ea]
      exact hv.slot
    · rw [List.getElem?_set_ne (Ne.symm hj)] at ej
      refine (sim.ok j sl ej).mono g fun b mo hm' hx => ⟨fun h => ?_, fun _ e => e⟩
      have hb : MAt ρ σ j b := by
        refine ⟨⟨sl, mo, ej, hm'⟩, ?_⟩
        cases hs : σ[j]? with
        | none => rw [hs] at hx; cases hx
        | some y =>
          rw [hs] at hx
          have hx' : y = some (.ref b) := hx
          rw [hx']
      rcases h with z | z
      · exact sim.nf ⟨j, hb⟩ z
      · subst z
        exact hj (sim.apart j i b hb ⟨⟨_, o, e, rfl⟩, ea⟩)
  · rcases h with z | z
    · exact sim.fok b z
    · exact z ▸ hm.there
  · obtain ⟨j, hj⟩ := h
    exact .inr ⟨j, (MAt.set hs hj).1⟩
  · refine ⟨⟨o', ?_⟩, rfl⟩
    rw [List.getElem?_set_ne (fun z => by subst z; rw [e] at ej; cases ej)]
    exact ej
theorem Sim.get (sim : Sim K F H ρ σ) {i : Nat} {s : Slot} (e : ρ[i]? = some s) (hs : s ≠ .no) : ∃ v, σ[i]? = some (some v) ∧ SlotOk K F H (some v) s := by
  have q := sim.ok i s e
  cases h : σ[i]? with
  | none =>
    rw [h] at q
    cases s with
    | no => exact absurd rfl hs
    | val d => obtain ⟨_, e, _⟩ := q; cases e
    | ins c fs => obtain ⟨_, e, _⟩ := q; cases e
    | own o => obtain ⟨_, e, _⟩ := q; cases e
    | brw o => obtain ⟨_, e, _⟩ := q; cases e
  | some y =>
    rw [h] at q
    cases y with
    | none =>
      cases s with
      | no => exact absurd rfl hs
      | val d => obtain ⟨_, e, _⟩ := q; cases e
      | ins c fs => obtain ⟨_, e, _⟩ := q; cases e
      | own o => obtain ⟨_, e, _⟩ := q; cases e
      | brw o => obtain ⟨_, e, _⟩ := q; cases e
    | some v => exact ⟨v, rfl, q⟩
end

/-! ### the three sides of an expression -/
structure Ok (X : Cx) (Γ : Ctx) (W : WX) (e : Expr) (e' : E) : Prop where
  v : PEV X W e (dn Γ e')
  p : PEP X W e (dn Γ e')
  t : PETs X W e (dn Γ e')
/-- the usual test: the value's truth -/
def TestBy (X : Cx) (e : Expr) : Prop := ∀ whole, isTrue e X.env whole = (do let v ← whole; standAt e.pos; holding [v] (truthy v))
section
variable {X : Cx} {Γ : Ctx} {W : WX} {e : Expr} {e' : E}
theorem pet_of {d : Dn} (hp : PEP X W e d) (ht : TestBy X e) (hd : d.t = fun ρ => (d.p ρ).bind fun x => (Res.of (truV (x.1.vw x.2))).bind fun k => .ok (k, x.2)) : PETs X W e d :=
  PT.imp (pt_truth hp ht) fun σ H Q ⟨F, ρ, s, q⟩ => ⟨F, ρ, s, by
    rw [hd] at q
    refine (rdAt.bind (R1 := PR X.K) bkB s q).mono fun v H1 ⟨F1, ρ1, r, s1, st, r1, q1⟩ => ?_
    obtain ⟨k, ek, q1⟩ := q1.of
    obtain ⟨w, ew⟩ : ∃ w, r.vw ρ1 = some w := by
      cases h : r.vw ρ1 with
      | none => rw [h] at ek; cases ek
      | some w => exact ⟨w, rfl⟩
    rw [ew] at ek
    exact ⟨k, tru_of (r.vwOk s1 r1.opd ew) ek, q1.done s1 (v := k) rfl⟩⟩
theorem Ok.of {m : Fr → Res (Slot × Fr)} (hd : dn Γ e' = mkDn none m) (h : PEV X W e (dn Γ e')) (ht : TestBy X e) : Ok X Γ W e e' :=
  have hp : PEP X W e (dn Γ e') := pep_none (by rw [hd]; rfl) h
  ⟨h, hp, pet_of hp ht (by rw [hd]; rfl)⟩

/-! ### names -/
theorem ok_var {i : Nat} {x : Str} {pos : Pos} (hN : X.N[i]? = some x) (hv : Vis X.env.scope x) (hd : (x == ("__debug__" : Str)) = false) (hcd : (x == ("__classdict__" : Str)) = false) : Ok X Γ W (.Name x pos) (.var i) := by
  have h0 : PE X (.Name x pos) (tVar i) := pe_var hN hv hd hcd
  have hV : PEV X W (.Name x pos) (dn Γ (.var i)) := PE.imp h0 fun σ H Q ⟨F, ρ, s, q⟩ => by
    have q : rdAt X.K W (match ρ[i]? with
      | some (.val d) => Res.ok (Slot.val d, ρ)
      | some (.ins c fs) => .ok (.ins c fs, ρ)
      | some (.own o) => (Res.of (Slot.own o).fz).bind fun s => .ok (s, ρ.set i s)
      | _ => .stuck) (VR X.K) ρ F σ H Q := q
    cases e : ρ[i]? with
    | none => rw [e] at q; exact q.elim
    | some sl =>
      rw [e] at q
      cases sl with
      | no => exact q.elim
      | brw o => exact q.elim
      | val d =>
        obtain ⟨v, ev, hs⟩ := s.get e (by intro z; cases z)
        obtain ⟨v', e1, r⟩ := hs
        cases e1
        exact ⟨v, ev, q.done s ⟨r, fun o a e => by cases e⟩⟩
      | ins c fs =>
        obtain ⟨v, ev, hs⟩ := s.get e (by intro z; cases z)
        obtain ⟨a, e1, r⟩ := hs
        cases e1
        exact ⟨_, ev, q.done s ⟨⟨a, rfl, r⟩, fun o a e => by cases e⟩⟩
      | own o =>
        obtain ⟨v, ev, hs⟩ := s.get e (by intro z; cases z)
        obtain ⟨a, e1, hn, r⟩ := hs
        cases e1
        obtain ⟨s', ez, q⟩ := q.of
        obtain ⟨s1, st, hv⟩ := s.frzSlot e ez ev
        refine ⟨_, ev, q (.ref a) _ H s1 st ⟨hv, fun o' b e1 _ => ?_⟩⟩
        have h3 := (fz_ok r ez).2
        have e1 : s' = Slot.own o' := e1
        rw [e1] at h3
        cases h3
  have hP : PEP X W (.Name x pos) (dn Γ (.var i)) := PE.imp h0 fun σ H Q ⟨F, ρ, s, q⟩ => by
    have q : rdAt X.K W (match ρ[i]? with
      | some (.val x) => Res.ok (Opd.tmp (.val x), ρ)
      | some .no => .stuck
      | none => .stuck
      | some _ => .ok (.slot i, ρ)) (PR X.K) ρ F σ H Q := q
    cases e : ρ[i]? with
    | none => rw [e] at q; exact q.elim
    | some sl =>
      rw [e] at q
      cases sl with
      | no => exact q.elim
      | brw o =>
        obtain ⟨v, ev, hs⟩ := s.get e (by intro z; cases z)
        exact ⟨v, ev, q.done s ev⟩
      | val d =>
        obtain ⟨v, ev, hs⟩ := s.get e (by intro z; cases z)
        obtain ⟨v', e1, r⟩ := hs
        cases e1
        exact ⟨v, ev, q.done s ⟨r, fun o a e => by cases e⟩⟩
      | ins c fs =>
        obtain ⟨v, ev, hs⟩ := s.get e (by intro z; cases z)
        exact ⟨v, ev, q.done s ev⟩
      | own o =>
        obtain ⟨v, ev, hs⟩ := s.get e (by intro z; cases z)
        exact ⟨v, ev, q.done s ev⟩
  exact ⟨hV, hP, pet_of hP (fun _ => rfl) rfl⟩
/-! ### constants -/
theorem ok_cst {d : PyData} {v : V} (h : PE X e (tC v)) (hr : ∀ F H, Rp X.K F H v d) (ht : TestBy X e) : Ok X Γ W e (.cst d) :=
  .of rfl (PE.imp h fun σ H Q ⟨F, ρ, s, q⟩ => (show rdAt X.K W (.ok (.val d, ρ)) (VR X.K) ρ F σ H Q from q).done s ⟨hr F H, fun o a e => by cases e⟩) ht
theorem ok_glo {x : Str} {v : V} (h : PE X e (tC v)) (hr : ∀ d, Γ.glo x = some d → ∀ F H, Rp X.K F H v d) (ht : TestBy X e) : Ok X Γ W e (.glo x) :=
  .of rfl (PE.imp h fun σ H Q ⟨F, ρ, s, q⟩ => by
    obtain ⟨d, ed, q⟩ := (show rdAt X.K W ((Res.of (Γ.glo x)).bind fun d => .ok (.val d, ρ)) (VR X.K) ρ F σ H Q from q).of
    exact q.done s ⟨hr d ed F H, fun o a e => by cases e⟩) ht
end
end PM
set_option Elab.async false
set_option linter.all false
set_option maxRecDepth 100000
set_option maxHeartbeats 1000000
/-! PM: operators on data, by values. -/
namespace PM
open PySem PySem.Spec PyProof.Rows L2
def Oop.op : Oop → CmpOp
  | .lt => .Lt
  | .le => .LtE
  | .gt => .Gt
  | .ge => .GtE
theorem lexAt_succ' (e r : Nat → Bool) (z : Bool) : ∀ (k i : Nat), Ob.lexAt e r z (i + 1) k = Ob.lexAt (fun j => e (j + 1)) (fun j => r (j + 1)) z i k
  | 0, _ => rfl
  | k + 1, i => by rw [Ob.lexAt_succ, Ob.lexAt_succ, lexAt_succ' e r z k (i + 1)]
theorem n_succ (o : Oop) (a b : Nat) : o.n (a + 1) (b + 1) = o.n a b := by
  cases o <;> simp [Oop.n]
/-- the lists' order, read place by place -/
theorem lex_ordBA (o : Oop) : ∀ xs ys : List PyData, Ob.lexAt (fun j => PyData.eqv (xs.getD j .none) (ys.getD j .none)) (fun j => ordB o (xs.getD j .none) (ys.getD j .none)) (o.n xs.length ys.length) 0 (min xs.length ys.length) = ordBA o xs ys
  | [], [] => rfl
  | [], _ :: ys => by
    show o.n 0 (ys.length + 1) = o.n 0 1
    cases o <;> simp [Oop.n]
  | _ :: xs, [] => by
    show o.n (xs.length + 1) 0 = o.n 1 0
    cases o <;> simp [Oop.n]
  | x :: xs, y :: ys => by
    have ih := lex_ordBA o xs ys
    rw [List.length_cons, List.length_cons, Nat.succ_min_succ, n_succ, Ob.lexAt_succ, lexAt_succ', ordBA]
    simp only [List.getD_cons_zero, List.getD_cons_succ]
    rw [ih]
def rcAny (o : Oop) {A : Around} {s : Shared} {l b : Addr} {items items2 : Array Value} {e r : Nat → Bool} (hl : s.heap.IsTuple l items) (hb : s.heap.IsTuple b items2) (hu : A.units < cLine)
    (he : ∀ j (h1 : j < items.size) (h2 : j < items2.size), SeqAt.EqAt A.in1 s items[j] items2[j] (e j))
    (hr : ∀ j (h1 : j < items.size) (h2 : j < items2.size), e j = false → Ob.RcOp o.op A.in1 s items[j] items2[j] (r j)) :
    Ob.RcOp o.op A s (.ref l) (.ref b) (Ob.lexAt e r (o.n items.size items2.size) 0 (min items.size items2.size)) := by
  cases o with
  | lt => exact Ob.RcOp.tuples_lt hl hb hu he hr
  | le => exact Ob.RcOp.tuples_le hl hb hu he hr
  | gt => exact Ob.RcOp.tuples_gt hl hb hu he hr
  | ge => exact Ob.RcOp.tuples_ge hl hb hu he hr
theorem rcInt (o : Oop) {A : Around} {s : Shared} (i j : Int) (t u : Tok) : Ob.RcOp o.op A s (.int i t) (.int j u) (o.i i j) := by
  cases o with
  | lt => exact Ob.RcOp.lt_int i j t u
  | le => exact Ob.RcOp.le_int i j t u
  | gt => exact Ob.RcOp.gt_int i j t u
  | ge => exact Ob.RcOp.ge_int i j t u
theorem ordOk_at : ∀ (xs ys : List PyData), ordOkA xs ys = true → ∀ j, j < xs.length → j < ys.length → ordOk (xs.getD j .none) (ys.getD j .none) = true
  | [], _, _, j, h, _ => absurd h (Nat.not_lt_zero j)
  | _ :: _, [], _, j, _, h => absurd h (Nat.not_lt_zero j)
  | x :: xs, y :: ys, h, j, h1, h2 => by
    rw [ordOkA, Bool.and_eq_true] at h
    cases j with
    | zero => exact h.1
    | succ j => exact ordOk_at xs ys h.2 j (by simpa using h1) (by simpa using h2)
theorem depth_at : ∀ (xs : List PyData) (j : Nat), j < xs.length → (xs.getD j .none).depth ≤ PyData.depthAll xs
  | [], j, h => absurd h (Nat.not_lt_zero j)
  | x :: xs, 0, _ => by
    rw [PyData.depthAll]
    exact Nat.le_max_left _ _
  | x :: xs, j + 1, h => by
    rw [PyData.depthAll]
    exact Nat.le_trans (depth_at xs j (by simpa using h)) (Nat.le_max_right _ _)
theorem lay_at : ∀ (xs : List PyData) (j : Nat), PyData.canLayAll0 xs = true → j < xs.length → (xs.getD j .none).canLay0 = true
  | [], j, _, h => absurd h (Nat.not_lt_zero j)
  | x :: xs, 0, h, _ => by
    rw [PyData.canLayAll0, Bool.and_eq_true] at h
    exact h.1
  | x :: xs, j + 1, h, hj => by
    rw [PyData.canLayAll0, Bool.and_eq_true] at h
    exact lay_at xs j h.2 (by simpa using hj)
/-- the order of data that stand in the heap -/
theorem rcOrd (o : Oop) : ∀ (n : Nat) (d e : PyData) (A : Around) (s : Shared) (a b : Value) (as bs : List Addr), d.depth ≤ n → Reads s.heap a d as → Reads s.heap b e bs → d.canLay0 = true → e.canLay0 = true → A.units + d.depth < cLine →
    ordOk d e = true → Ob.RcOp o.op A s a b (ordB o d e)
  | n, .int i, e, A, s, a, b, as, bs, _, ra, rb, _, _, _, h => by
    cases e with
    | int j =>
      cases ra
      cases rb
      exact rcInt o i j _ _
    | _ => exact absurd h (by simp [ordOk])
  | n, .tuple xs, e, A, s, a, b, as, bs, hn, ra, rb, la, lb, hu, h => by
    cases e with
    | tuple ys =>
      cases ra with
      | tuple a1 a2 a3 a4 =>
        cases rb with
        | tuple b1 b2 b3 b4 =>
          have l1 := SeqAt.ReadsAll.length _ _ _ a4
          have l2 := SeqAt.ReadsAll.length _ _ _ b4
          rw [PyData.depth] at hn hu
          obtain ⟨m, rfl⟩ : ∃ m, n = m + 1 := ⟨n - 1, by omega⟩
          have R := rcAny o (A := A) (s := s) (e := fun j => PyData.eqv (xs.getD j .none) (ys.getD j .none)) (r := fun j => ordB o (xs.getD j .none) (ys.getD j .none)) ⟨_, a1, a2, _, a3⟩ ⟨_, b1, b2, _, b3⟩ (by omega)
            (fun j h1 h2 => by
              obtain ⟨q1, r1, z1⟩ := PySem.W.readsAll_atA a4 j _ (Array.getElem?_eq_getElem h1)
              obtain ⟨q2, r2, z2⟩ := PySem.W.readsAll_atA b4 j _ (Array.getElem?_eq_getElem h2)
              have := depth_at xs j z1.1
              exact SeqAt.eqAt_reads _ _ A.in1 s _ _ _ _ r1 r2 (lay_at xs j la z1.1) (lay_at ys j lb z2.1) (by show A.units + 1 + _ < _; omega))
            (fun j h1 h2 _ => by
              obtain ⟨q1, r1, z1⟩ := PySem.W.readsAll_atA a4 j _ (Array.getElem?_eq_getElem h1)
              obtain ⟨q2, r2, z2⟩ := PySem.W.readsAll_atA b4 j _ (Array.getElem?_eq_getElem h2)
              have := depth_at xs j z1.1
              exact rcOrd o m _ _ A.in1 s _ _ _ _ (by omega) r1 r2 (lay_at xs j la z1.1) (lay_at ys j lb z2.1) (by show A.units + 1 + _ < _; omega) (ordOk_at xs ys (by simpa [ordOk] using h) j z1.1 z2.1))
          rw [Array.length_toList] at l1 l2
          rw [l1, l2, lex_ordBA] at R
          rw [ordB]
          exact R
    | _ => exact absurd h (by simp [ordOk])
  | _, .none, e, _, _, _, _, _, _, _, _, _, _, _, _, h => absurd h (by cases e <;> simp [ordOk])
  | _, .bool _, e, _, _, _, _, _, _, _, _, _, _, _, _, h => absurd h (by cases e <;> simp [ordOk])
  | _, .str _, e, _, _, _, _, _, _, _, _, _, _, _, _, h => absurd h (by cases e <;> simp [ordOk])
  | _, .list _, e, _, _, _, _, _, _, _, _, _, _, _, _, h => absurd h (by cases e <;> simp [ordOk])
  | _, .dict _, e, _, _, _, _, _, _, _, _, _, _, _, _, h => absurd h (by cases e <;> simp [ordOk])
section
variable {X : Cx}
def rOrd (K : PySem.W.Frag) (o : Oop) : R2 := fun x y H Q => ∃ d e k, Dp K H x d ∧ Dp K H y e ∧ ordD o d e = some k ∧ Q (.bl k) H
theorem op_ord (o : Oop) (hu : X.A.units + 65 < cLine) : OpR X (compareOp o.op) (rOrd X.K o) := by
  intro pins s σ H x y v u Q I rx ry h
  obtain ⟨d, e, k, hd, he, hk, q⟩ := h
  unfold ordD at hk
  by_cases c : (ordOk d e && (SeqAt.shaped d && SeqAt.shaped e)) = true
  · rw [if_pos c] at hk
    cases hk
    rw [Bool.and_eq_true, Bool.and_eq_true] at c
    obtain ⟨c1, c2, c3⟩ := c
    obtain ⟨as, r1⟩ := Dp.reads I d x v hd rx
    obtain ⟨bs, r2⟩ := Dp.reads I e y u he ry
    have hdep := SeqAt.depth_of_shaped c2
    have R := rcOrd o d.depth d e X.A s v u as bs (Nat.le_refl _) r1 r2 (SeqAt.canLay_of_shaped c2) (SeqAt.canLay_of_shaped c3) (by omega) c1
    cases o with
    | lt => exact R _ _ _ _ ⟨.bl _, H, I, rfl, q⟩
    | le => exact R _ _ _ _ ⟨.bl _, H, I, rfl, q⟩
    | gt => exact R _ _ _ _ ⟨.bl _, H, I, rfl, q⟩
    | ge => exact R _ _ _ _ ⟨.bl _, H, I, rfl, q⟩
  · rw [if_neg c] at hk
    cases hk
/-! ### in, not in: lists and tuples of data -/
def rInA (K : PySem.W.Frag) (neg : Bool) : R2 := fun x y H Q => ∃ d c k, Dp K H x d ∧ Dp K H y c ∧ inD d c = some k ∧ Q (.bl (if neg then !k else k)) H
theorem op_inA (hu : X.A.units + 65 < cLine) : OpR X (compareOp .In) (rInA X.K false) := by
  intro pins s σ H x y v u Q I rx ry h
  obtain ⟨d, c, k, hd, hc, hk, q⟩ := h
  obtain ⟨as, r1⟩ := Dp.reads I d x v hd rx
  obtain ⟨bs, r2⟩ := Dp.reads I c y u hc ry
  cases c with
  | list zs =>
    dsimp only [inD] at hk
    by_cases e : (SeqAt.shaped d && SeqAt.shaped (.list zs)) = true
    · rw [if_pos e] at hk
      cases hk
      rw [Bool.and_eq_true] at e
      exact SeqAt.in_list_reads r2 r1 (SeqAt.canLay_of_shaped e.2) (SeqAt.canLay_of_shaped e.1) (room_in_shaped e.1 hu) ⟨.bl _, H, I, rfl, q⟩
    · rw [if_neg e] at hk
      cases hk
  | tuple zs =>
    dsimp only [inD] at hk
    by_cases e : (SeqAt.shaped d && SeqAt.shaped (.tuple zs)) = true
    · rw [if_pos e] at hk
      cases hk
      rw [Bool.and_eq_true] at e
      exact SeqAt.in_tuple_reads r2 r1 (SeqAt.canLay_of_shaped e.2) (SeqAt.canLay_of_shaped e.1) (room_in_shaped e.1 hu) ⟨.bl _, H, I, rfl, q⟩
    · rw [if_neg e] at hk
      cases hk
  | none => cases hk
  | bool _ => cases hk
  | int _ => cases hk
  | str _ => cases hk
  | dict _ => cases hk
theorem op_notInA (hu : X.A.units + 65 < cLine) : OpR X (compareOp .NotIn) (rInA X.K true) := by
  intro pins s σ H x y v u Q I rx ry h
  obtain ⟨d, c, k, hd, hc, hk, q⟩ := h
  obtain ⟨as, r1⟩ := Dp.reads I d x v hd rx
  obtain ⟨bs, r2⟩ := Dp.reads I c y u hc ry
  cases c with
  | list zs =>
    dsimp only [inD] at hk
    by_cases e : (SeqAt.shaped d && SeqAt.shaped (.list zs)) = true
    · rw [if_pos e] at hk
      cases hk
      rw [Bool.and_eq_true] at e
      exact SeqAt.notIn_list_reads r2 r1 (SeqAt.canLay_of_shaped e.2) (SeqAt.canLay_of_shaped e.1) (room_in_shaped e.1 hu) ⟨.bl _, H, I, rfl, q⟩
    · rw [if_neg e] at hk
      cases hk
  | tuple zs =>
    dsimp only [inD] at hk
    by_cases e : (SeqAt.shaped d && SeqAt.shaped (.tuple zs)) = true
    · rw [if_pos e] at hk
      cases hk
      rw [Bool.and_eq_true] at e
      exact SeqAt.notIn_tuple_reads r2 r1 (SeqAt.canLay_of_shaped e.2) (SeqAt.canLay_of_shaped e.1) (room_in_shaped e.1 hu) ⟨.bl _, H, I, rfl, q⟩
    · rw [if_neg e] at hk
      cases hk
  | none => cases hk
  | bool _ => cases hk
  | int _ => cases hk
  | str _ => cases hk
  | dict _ => cases hk
/-! ### list + list, whatever may be read -/
def rCatL (K : PySem.W.Frag) : R2 := fun x y H Q => ∃ l b xs zs, x = .ref l ∧ y = .ref b ∧ SqL K H l xs ∧ SqL K H b zs ∧ xs.length + zs.length ≤ sizeLine ∧ ∀ p, H p = none → Q (.ref p) (upd H p (.lst (xs ++ zs)))
theorem op_catL : OpR X (binaryOp .Add) (rCatL X.K) := by
  intro pins s σ H x y v u Q I rx ry h
  obtain ⟨l, b, xs, zs, rfl, rfl, hl, hb, hz, q⟩ := h
  cases rx
  cases ry
  obtain ⟨its, r1, ⟨⟨c1, d1, t1, sl1⟩, n1, ho1, hc1, hn1, hd1⟩, z1⟩ := I.list hl
  obtain ⟨its2, r2, ⟨⟨c2, d2, t2, sl2⟩, n2, ho2, hc2, hn2, hd2⟩, z2⟩ := I.list hb
  simp only at hc1 hn1 hd1 hc2 hn2 hd2
  subst hc1 hn1 hd1 hc2 hn2 hd2
  have e1 := r1.length
  have e2 := r2.length
  have ea : its.toArray ++ its2.toArray = (its ++ its2).toArray := by simp
  have sz : its.toArray.size + its2.toArray.size ≤ sizeLine := by
    rw [List.size_toArray, List.size_toArray]
    omega
  refine concat_meets ⟨_, ho1, rfl⟩ ⟨_, ho2, rfl⟩ noFill_list_add seq_list_add PySem.F.slot_list_add PySem.F.entry_list_add (PySem.F.args_list_add_2 _ _)
    (PyProof.Rows.list_addW l b its.toArray its2.toArray n1 n2 none none sl1 sl2 sz) ⟨ho1, ho2, ?_⟩
  rw [ea]
  exact ⟨.ref _, _, I.lnew (t' := s.toks) (r1.append r2) (by rw [List.length_append]; omega), rfl, q _ I.fresh⟩
end
/-! ### sorted -/
theorem each_of : ∀ {ys : List V} {us : List Value} {ds : List PyData} {as : List Addr} {h : Heap}, Vals ys us → ReadsAll h us ds as → ys.length = ds.length →
    PySem.W.EachIs (fun (u : Value) (p : V × PyData) => RelV p.1 u) us (ys.zip ds) ∧ PySem.W.EachIs (fun (u : Value) (p : V × PyData) => ∃ as, Reads h u p.2 as) us (ys.zip ds)
  | _, _, _, _, _, .nil, r, _ => by
    cases r
    exact ⟨.nil, .nil⟩
  | _, _, _, _, _, .cons r t, q, e => by
    cases q with
    | cons q1 q2 =>
      obtain ⟨h1, h2⟩ := each_of t q2 (by simpa using e)
      exact ⟨.cons r h1, .cons ⟨_, q1⟩ h2⟩
theorem vals_each : ∀ {us : List Value} {ps : List (V × PyData)}, PySem.W.EachIs (fun (u : Value) (p : V × PyData) => RelV p.1 u) us ps → Vals (ps.map (·.1)) us
  | _, _, .nil => .nil
  | _, _, .cons h t => .cons h (vals_each t)
theorem zip_snd : ∀ (ys : List V) (ds : List PyData), ys.length = ds.length → (ys.zip ds).map (·.2) = ds
  | [], [], _ => rfl
  | [], _ :: _, h => nomatch h
  | _ :: _, [], h => nomatch h
  | y :: ys, d :: ds, h => by
    show d :: (ys.zip ds).map (·.2) = d :: ds
    rw [zip_snd ys ds (by simpa using h)]
theorem DpAll.len {K : PySem.W.Frag} {H : Hp} : ∀ {vs : List V} {ds : List PyData}, DpAll K H vs ds → vs.length = ds.length
  | _, _, .nil => rfl
  | _, _, .cons _ r => by rw [List.length_cons, List.length_cons, DpAll.len r]
theorem sortable_ok {ds : List PyData} (h : sortable ds = true) : PySem.W.AllAlike ds ∧ PySem.W.Sortable ds ∧ ∀ d ∈ ds, d.depth ≤ 64 := by
  unfold sortable at h
  simp only [Bool.and_eq_true, Bool.or_eq_true, List.all_eq_true, decide_eq_true_eq] at h
  obtain ⟨⟨h1, h2⟩, h3⟩ := h
  refine ⟨fun d hd d' hd' => h1 d hd d' hd', ?_, h2⟩
  rcases h3 with h3 | h3
  · refine .inl fun d hd => ?_
    have := h3 d hd
    cases d with
    | tuple xs => cases xs with
      | nil => cases this
      | cons x r => exact ⟨x, r, rfl⟩
    | _ => cases this
  · refine .inr fun d hd => ?_
    have := h3 d hd
    cases d with
    | tuple xs => cases this
    | none => cases this
    | _ => exact ⟨(fun e => by cases e), (fun xs e => by cases e)⟩
section
variable {X : Cx}
/-- sorted(xs): the items with their data, in order -/
def rSortD (K : PySem.W.Frag) : List V → Hp → VK → Prop := fun vs H Q => ∃ (a : Addr) (ys : List V) (ds : List PyData), vs = [V.ref a] ∧ SqL K H a ys ∧ DpAll K H ys ds ∧ sortable ds = true ∧
  ∀ (ps : List (V × PyData)) (p : Addr), (∀ q ∈ ps, q ∈ ys.zip ds) → ps.map (·.2) = sortD ds → H p = none → Q (.ref p) (upd H p (.lst (ps.map (·.1))))
theorem cr_sortD (hu : X.A.units + 70 < cLine) : CallR X (.builtin "sorted") (rSortD X.K) := by
  intro pins s σ H vs us Q I r h
  obtain ⟨a, ys, ds, rfl, hs, hd, hk, q⟩ := h
  obtain ⟨its, rv, hl, hz⟩ := I.list hs
  rw [Vals.ref1 r]
  obtain ⟨as, ra⟩ := Dp.readsAll I ds ys its hd rv
  have hlen := DpAll.len hd
  obtain ⟨e1, e2⟩ := each_of rv ra hlen
  obtain ⟨k1, k2, k3⟩ := sortable_ok hk
  have em : (ys.zip ds).map (·.2) = ds := zip_snd ys ds hlen
  have hL : (ys.zip ds).length ≤ sizeLine := by rw [List.length_zip]; omega
  refine PySem.W.sorted_data (enc := fun p : V × PyData => p.2) hl.isList e1 e2 (by rw [em]; exact k1) (by rw [em]; exact k2) hL (fun b hb => ?_) fun out ho eo => ?_
  · have : b.2 ∈ ds := by rw [← em]; exact List.mem_map.mpr ⟨b, hb, rfl⟩
    have := k3 _ this
    omega
  · let ps := (ys.zip ds).mergeSort (PySem.W.dataLe false fun p : V × PyData => p.2)
    have hm : ∀ q ∈ ps, q ∈ ys.zip ds := fun q hq => (List.mergeSort_perm (ys.zip ds) _).mem_iff.mp hq
    have hp : ps.map (·.2) = sortD ds := by
      have e := List.map_mergeSort (f := fun p : V × PyData => p.2) (r := PySem.W.dataLe false fun p : V × PyData => p.2) (s := PySem.W.dataLe false id) (l := ys.zip ds) (fun a _ b _ => rfl)
      rw [em] at e
      exact e
    obtain ⟨ep, he'⟩ := PyProof.Rows.sortedAll_at s.heap its out.toArray
    have hlen2 : (ps.map (·.1)).length ≤ sizeLine := by rw [List.length_map, List.length_mergeSort]; exact hL
    exact ⟨.ref _, upd H (s.heap.objs.size + 1) (.lst (ps.map (·.1))), I.laid (t' := s.toks) (fun _ _ => PyProof.Rows.sortedAll_old) (Nat.le_succ _) ⟨hlen2, out, ep, vals_each eo, by simpa using he'⟩, rfl,
      q ps _ hm hp (I.hok.fresh (Nat.le_succ _))⟩
end
/-! ### repr -/
mutual
theorem shows_ok : ∀ d : PyData, shows d = true → d.showable = true ∧ d.leavesShort 30 = true ∧ d.hasDict = false
  | .none, _ => ⟨rfl, rfl, rfl⟩
  | .bool _, _ => ⟨rfl, rfl, rfl⟩
  | .int i, h => by
    have h1 : i.natAbs < 2 ^ 64 := by simpa [shows] using h
    have h2 : i.natAbs.log2 < 64 := by
      by_cases e : i.natAbs = 0
      · rw [e]; decide
      · exact (Nat.log2_lt e).mpr h1
    refine ⟨by simp only [PyData.showable, decide_eq_true_eq]; omega, ?_, rfl⟩
    have h3 : i.natAbs < 10 ^ 20 := by
      have : (2 : Nat) ^ 64 < 10 ^ 20 := by decide
      omega
    have h4 := int_text_length_le10 (k := 20) (by decide) h3
    simp only [PyData.leavesShort, decide_eq_true_eq]
    show (Str.ofString (toString i)).length ≤ 30
    rw [PySem.ofString_length]
    omega
  | .str x, h => by
    have h1 : x.cps.all (· < 0x110000) = true := by simpa [shows, strOkB] using h
    refine ⟨rfl, ?_, rfl⟩
    simp only [PyData.leavesShort, List.all_eq_true, decide_eq_true_eq]
    intro c hc
    rw [Array.all_eq_true'] at h1
    have := h1 c (by simpa using hc)
    have h2 : c < 0x110000 := by simpa using this
    omega
  | .list xs, h => by
    have := showsAll_ok xs (by simpa [shows] using h)
    exact ⟨by simpa [PyData.showable] using this.1, by simpa [PyData.leavesShort] using this.2.1, by simpa [PyData.hasDict] using this.2.2⟩
  | .tuple xs, h => by
    have := showsAll_ok xs (by simpa [shows] using h)
    exact ⟨by simpa [PyData.showable] using this.1, by simpa [PyData.leavesShort] using this.2.1, by simpa [PyData.hasDict] using this.2.2⟩
  | .dict _, h => absurd h (by simp [shows])
theorem showsAll_ok : ∀ xs : List PyData, showsAll xs = true → PyData.showableAll xs = true ∧ PyData.leavesShortAll 30 xs = true ∧ PyData.hasDictAll xs = false
  | [], _ => ⟨rfl, rfl, rfl⟩
  | x :: xs, h => by
    rw [showsAll, Bool.and_eq_true] at h
    obtain ⟨a1, a2, a3⟩ := shows_ok x h.1
    obtain ⟨b1, b2, b3⟩ := showsAll_ok xs h.2
    exact ⟨by simp [PyData.showableAll, a1, b1], by simp [PyData.leavesShortAll, a2, b2], by simp [PyData.hasDictAll, a3, b3]⟩
end

section
variable {X : Cx}
theorem cLine_big : 70 < cLine := by decide
/-- repr(x) -/
def rRepr (K : PySem.W.Frag) : List V → Hp → VK → Prop := fun vs H Q => ∃ x d, vs = [x] ∧ Dp K H x d ∧ shows d = true ∧ d.weight ≤ 100000 ∧ d.depth ≤ 64 ∧ Q (.str d.shown) H
theorem cr_repr (hg : X.A.guards = some []) (hu : X.A.units + 70 < cLine) : CallR X (.builtin "repr") (rRepr X.K) := by
  intro pins s σ H vs us Q I r h
  obtain ⟨x, d, rfl, hd, hs, hw, hdep, q⟩ := h
  obtain ⟨u, rfl, rx⟩ := vals1 r
  obtain ⟨h1, h2, h3⟩ := shows_ok d hs
  have hsz : d.shown.length ≤ sizeLine := by
    have e := PyData.shown_le 30 (by decide) d h2
    rw [sizeLine_eq]
    omega
  obtain ⟨as, rd⟩ := Dp.reads I d x u hd rx
  have gen : ∀ a, u = .ref a → wpAny (model X.prog X.w) X.A (call (.builtin "repr") [u]) (EP X pins σ Q) X.xe s := fun a e => by
    subst e
    exact repr_of_reads' rd h1 (fun z => by rw [h3] at z; cases z) hg (by omega) (fun _ _ e => e)
      (fun h' u tk hk => ⟨.str d.shown, H, I.kept (t' := tk) hk, ⟨u, rfl⟩, q⟩) hsz
  cases hd with
  | non =>
    cases rx
    exact PySem.P.repr_of_none ⟨.str _, H, I.tok _, ⟨_, rfl⟩, q⟩
  | bl b =>
    cases rx
    exact PySem.P.repr_of_bool ⟨.str _, H, I.tok _, ⟨_, rfl⟩, q⟩
  | int i =>
    obtain ⟨t, rfl⟩ := rx
    exact PySem.P.repr_of_int (by simpa [PyData.showable] using h1) ⟨.str _, H, I.tok _, ⟨_, rfl⟩, q⟩
  | str y =>
    obtain ⟨t, rfl⟩ := rx
    exact PySem.P.repr_of_str ⟨.str _, H, I.tok _, ⟨_, rfl⟩, q⟩ hsz
  | lst a b => exact gen _ rx
  | tup a b => exact gen _ rx
end
end PM
set_option Elab.async false
set_option linter.all false
set_option maxRecDepth 100000
set_option maxHeartbeats 4000000
/-! a tuple times 1: the tuple itself. -/
namespace PM
open PySem PySem.Spec PyProof.Rows L2
theorem tup_once (l : Addr) (items : Array Value) (n : Nat) (dd : Option Addr) (sl : Array (Option Value)) (u : Tok) :
    Meets (Builtin.«tuple.__mul__» ⟨[.ref l, .int 1 u], []⟩) (fun _ R s => s.heap.get? l = some { cls := .type "tuple", dict := dd, data := .seq items n, slots := sl } ∧ R (.ok (.ret (Value.ref l))) s) :=
  .of_wp fun prog w A R s h => by
    obtain ⟨hp, g, d, tk, os⟩ := s
    obtain ⟨hl, h⟩ := h
    have one : (items.isEmpty || (1 : Int) == 1) = true := by simp
    have f1 := AutoSeq1.idx_int
    wp_walk using wpAny_loadPart' hl
    exact ⟨_, rfl, h⟩
def rOnce (K : PySem.W.Frag) : R2 := fun x y H Q => ∃ l xs, x = .ref l ∧ y = .int 1 ∧ SqT K H l xs ∧ Q (.ref l) H
theorem op_once {X : Cx} : OpR X (binaryOp .Mult) (rOnce X.K) := by
  intro pins s σ H x y v u Q I rx ry ⟨l, xs, e1, e2, hT, q⟩
  subst e1 e2
  cases rx
  obtain ⟨t, rfl⟩ := ry
  obtain ⟨its, r, ⟨⟨cls, dd, data, sl⟩, ho, hc, n, hd⟩, hs⟩ := I.tuple hT
  simp only at hc hd
  subst hc hd
  exact wpAny_binaryOp_repeat_ref (T := "tuple") (U := "int") (by decide) ⟨_, ho, rfl⟩ (fun s' => typeIs_int s' 1 t) noFill_tuple_mul F.fills_int_mul F.slot_int_rmul repeat_tuple F.slot_int_index.lookup
    (call_meets F.slot_int_rmul (typeIs_int s 1 t) F.entry_int_rmul (F.args_int_rmul_2 _ _) (int_rmul_tuple 1 t l its.toArray n dd sl)
      ⟨ho, rfl, ⟨_, ho, rfl⟩, call_meets F.slot_tuple_mul ⟨_, ho, rfl⟩ F.entry_tuple_mul (F.args_tuple_mul_2 _ _) (tup_once l its.toArray n dd sl t) ⟨ho, .ref l, H, I, rfl, q⟩⟩)
end PM
set_option Elab.async false
set_option linter.all false
set_option maxRecDepth 100000
/-! Exceptions made without arguments: what L2.XE tells, and that the arguments are () and the context None. -/
namespace PM
open PySem PySem.Spec PyProof.Rows L2
def ArgT (t : Addr) (o : Obj) : Prop := ∀ fs : Array Value, o.data = .fields fs → fs[0]? = some (.ref t) ∧ fs[2]? = some .none
def Zd (cls : Value) (d : Option Addr) (t : Addr) (o : Obj) : Prop := Zc cls d o ∧ ArgT t o
theorem argT_steady (t : Addr) : PXN.Steady1 (ArgT t) := by
  intro o v ha gs hg
  obtain ⟨c, dd, dt, sl⟩ := o
  cases dt with
  | fields fs =>
    have hg : Data.fields (fs.setIfInBounds 1 v) = Data.fields gs := hg
    cases hg
    obtain ⟨h0, h2⟩ := ha fs rfl
    exact ⟨by rw [Array.getElem?_setIfInBounds_ne (by decide)]; exact h0, by rw [Array.getElem?_setIfInBounds_ne (by decide)]; exact h2⟩
  | _ => cases hg
theorem zd_steady (cls : Value) (d : Option Addr) (t : Addr) : PXN.Steady1 (Zd cls d t) := fun o v h => ⟨⟨PXN.steady_cls o v h.1.1, PXN.steady_dict o v h.1.2⟩, argT_steady t o v h.2⟩
section
variable {B h : Heap} {l : List Env} {a L : Addr} {Z Z' : Obj → Prop} {fl : Value}
theorem traced_up (x : HandSPX.TracedZ h B a Z fl) (k : ∀ o, h.get? a = some o → Z o → Z' o) : HandSPX.TracedZ h B a Z' fl := by
  obtain ⟨oe, vs, T, oT, ts, e1, e2, r⟩ := x
  exact ⟨oe, vs, T, oT, ts, e1, k oe e1 e2, r⟩
theorem fly_up (x : HandSPX.FlyingZ B l a Z h) (k : ∀ o, h.get? a = some o → Z o → Z' o) : HandSPX.FlyingZ B l a Z' h := ⟨x.1, x.2.1, x.2.2.1, traced_up x.2.2.2 k⟩
theorem sky_up (x : Sky B l a Z L h) (k : ∀ o, h.get? a = some o → Z o → Z' o) : Sky B l a Z' L h := by
  rcases x with ⟨h1, h2, h3, oe, vs, e1, e2, r⟩ | x | x
  · exact .inl ⟨h1, h2, h3, oe, vs, e1, k oe e1 e2, r⟩
  · exact .inr (.inl (fly_up x k))
  · exact .inr (.inr ⟨x.1, x.2.1, x.2.2.1, traced_up x.2.2.2 k⟩)
end
/-- the wish, and that t is () -/
abbrev wT (W : WX) (t : Addr) : WX := fun cls d σ H => W cls d σ H ∧ H t = some (.tup [])
def XA (X : Cx) (W : WX) (u : Value) (s' : Shared) : Prop := ∃ (a : Addr) (oe : Obj) (t : Addr), u = .ref a ∧ s'.heap.get? a = some oe ∧ ArgT t oe ∧ XE X (wT W t) u s'
def TakesA (X : Cx) (W : WX) : Prop := ∀ u s', XA X W u s' → X.xe u s'
def CXA (P : Program) (w : World) (outer : List Env) (H : Hp) (s : Shared) (E : XK) (u : Value) (s' : Shared) : Prop :=
  ∃ (a : Addr) (oe : Obj) (t : Addr), u = .ref a ∧ s'.heap.get? a = some oe ∧ ArgT t oe ∧ L2.CX P w outer H s (fun cls d H' => E cls d H' ∧ H' t = some (.tup [])) u s'
section
variable {X : Cx} {pins : List (Addr × Obj)} {σ : L2.St} {H : Hp} {sI s s' : Shared} {W : WX} {E : XK}
theorem xa_call (I : Inv X pins σ H s) {u : Value} (c : CXA X.prog X.w X.stack H s (WE W σ) u s') : XA X W u s' := by
  obtain ⟨a, oe, t, e1, e2, e3, x⟩ := c
  exact ⟨a, oe, t, e1, e2, e3, XE.of_call I (fun cls d H' h => h) x⟩
/-- out of a def -/
theorem xa_leave (hst : X.stack = X.env :: X.outer) (hfr : X.env.frame = some X.env.locals) (hne : X.ex = []) {E1 : Value → Shared → Prop} {u : Value} (x : XA X (fun cls d _ H' => E cls d H') u s') :
    wpAny (model X.prog X.w) X.A (leaving X.env u) (fun _ s2 => CXA X.prog X.w X.outer X.H_0 X.s_0 E u s2) E1 s' := by
  obtain ⟨a, oe, t, e1, e2, e3, a', B, sI, pins, σ, H, cls, d, e4, I, hB, up, sky, hna, hos, hba, hw⟩ := x
  subst e1
  cases e4
  have fr : X.A.frames = some (X.env :: X.outer) := I.ok.frames.trans (congrArg some hst)
  have notStack : ∀ b o, X.s_0.heap.get? b = some o → b ∉ X.fs → b ∉ frs X.stack := by
    intro b o eb nb hm
    rcases List.mem_cons.mp (I.stkSub b hm) with z | z
    · exact absurd (Nat.lt_of_lt_of_le (z ▸ Heap.lt_size eb) I.ok.above) (Nat.lt_irrefl _)
    · exact nb z
  have noEx : ∀ b, b ∉ X.ex := by
    intro b
    rw [hne]
    exact List.not_mem_nil
  have ground := I.inGround hB
  have stop : ∀ h', HandSPX.FlyingZ B X.outer a (Zd cls d t) h' → s'.heap.UpToSlots h' → CXA X.prog X.w X.outer X.H_0 X.s_0 E (.ref a) { s' with heap := h' } := by
    intro h' fly up2
    obtain ⟨o2, _, g2, z2, _⟩ := fly.there
    have ub : UB (frs X.outer) X.H_0 H X.s_0.heap B h' := {
      keep := fun b o eb nb hb => hB b o (I.base.keep b o eb nb hb (noEx b)) (notStack b o eb hb)
      slot := fun b o eb hb => by
        obtain ⟨_, o3, e5, nf⟩ := I.ok.funs.mem hb
        rw [eb] at e5
        cases e5
        obtain ⟨s3, e6⟩ := I.base.slot b o eb (I.ok.frf b hb) hb (noEx b)
        obtain ⟨s4, e7⟩ := up b _ e6 nf
        obtain ⟨s5, e8⟩ := up2 b _ e7 nf
        exact ⟨s5, e8⟩
      free := fun b o eb nb => I.base.free b o eb nb (noEx b)
      there := fun b o eb hb => by
        obtain ⟨o3, e5⟩ := I.base.there b o eb (noEx b)
        exact ⟨o3, hB b o3 e5 (notStack b o eb hb)⟩
      tups := I.base.tups
      frzs := I.base.frzs
      tbls := I.base.tbls }
    exact ⟨a, o2, t, rfl, g2, z2.2, a, B, H, cls, d, rfl, fly_up fly fun _ _ z => z.1, ground, ub, hna, hos.trans I.os, hba, hw⟩
  have sky2 : Sky B (X.env :: X.outer) a (Zd cls d t) X.env.locals s'.heap := sky_up (hst ▸ sky) fun o eo z => by
    rw [e2] at eo
    cases eo
    exact ⟨z, e3⟩
  rcases sky2 with ⟨k1, k2, k3, o2, v2, g2, z2, d2, f2⟩ | fly | hold
  · exact PXN.leaving_firstZ (zd_steady cls d t) fr k3 hfr g2 k1 k2 d2 f2 z2 stop
  · exact PXN.leaves_onZ (zd_steady cls d t) fr hfr fly stop
  · exact HandSPX.leaves_heldZ hfr hold stop
theorem takesA_of (hst : X.stack = X.env :: X.outer) (hfr : X.env.frame = some X.env.locals) (hne : X.ex = []) {E1 : Value → Shared → Prop}
    (hx : X.xe = fun e s1 => wpAny (model X.prog X.w) X.A (leaving X.env e) (fun _ s2 => CXA X.prog X.w X.outer X.H_0 X.s_0 E e s2) E1 s1) : TakesA X (fun cls d _ H' => E cls d H') := by
  intro u s1 x
  rw [hx]
  exact xa_leave hst hfr hne x
theorem passA {X : Cx} {W : WX} (tk : TakesA X W) (σ : L2.St) : PassesAt (CXA X.prog X.w) X σ (WE W σ) := fun _ _ _ u s1 I c => tk u s1 (xa_call I c)
/-- raise C(), C an own class without __init__ -/
theorem ps_raiseA {C : Addr} {bmB : List Value} {Bn newId initId : String} {x : Str} {p cpos pos : Pos} (hc : X.calm = true) (tk : TakesA X W) (F : ExcBaseFacts Bn newId initId bmB) (q : PySem.W.excIn X.K C bmB newId = true) (gC : X.mg x = some (.ref C))
    (kC : PySem.W.keepIn X.K (.ref C) = true) (r : Raises X (.ref C)) (gl : Gl X x) (hdb : (x == ("__debug__" : Str)) = false) :
    PS X (.Raise (some (.Call (.Name x p) [] [] cpos)) none pos) (fun _ σ H => ∀ t, H t = none → W (.ref C) none σ (upd H t (.tup []))) := by
  refine ⟨fun pins s σ H D I hw => ?_⟩
  show wpAny _ _ (do standAt pos; raiseStmt X.env (some (do let v ← eval (.Call (.Name x p) [] [] cpos) X.env; standAt pos; pure v)) none) _ _ _
  refine wpAny_bind (wpAny_standAt (raise_made (I.ok.hd hc) (wpAny_bind ?_)))
  refine wpAny_Call_Name_kw (ld_glob I gl gC (PySem.W.callWith_K0 (first := []) I.kIn kC ?_) hdb)
  show wpAny _ _ (call (.ref C) []) _ _ _
  obtain ⟨bm, N, nm, qn, bs, hdct, sn, sub, ab, col, dd, k0, k1, k2, k3, k5, mN, hC, hN, hni, T⟩ := exc_obj I.kIn q
  refine wpAny_call_exc_subT F T hC hN hni (fun h' e hm => wpAny_bind (wpAny_standAt (wpAny_pure ?_))) (Nat.zero_le _)
  obtain ⟨t, g1, g2, g3⟩ := hm.there
  have ht : H t = none := I.hok.gone g2
  have hea : H e = none := I.hok.gone hm.new
  have hte : t ≠ e := fun z => by
    subst z
    rw [g1] at g3
    cases g3
  obtain ⟨r1, r2⟩ := r (model X.prog X.w) h' (I.kIn.keeps hm.keeps)
  refine ⟨e, _, _, .ref C, rfl, g1, rfl, rfl, rfl, r1, r2, tk _ _ ⟨e, _, t, rfl, g1, fun fs hf => ?_, ?_⟩⟩
  · cases hf
    exact ⟨rfl, rfl⟩
  · have keepG : ∀ b o, s.heap.get? b = some o → (PySem.W.hideAll h' [e]).get? b = some o := fun b o eb => PySem.W.hideAll_get _ (hm.keeps b o eb) fun hb => by
      have z : b = e := List.mem_singleton.mp hb
      rw [z, hm.new] at eb
      cases eb
    have tG : (PySem.W.hideAll h' [e]).get? t = some { cls := .type "tuple", data := .seq ([] : List Value).toArray } := PySem.W.hideAll_get _ g3 fun hb => hte (List.mem_singleton.mp hb)
    have J : Inv X pins σ (upd H t (.tup [])) { s with heap := PySem.W.hideAll h' [e] } :=
      I.call' (ch := []) rfl (Un.laidN keepG g2 ht) (I.hok.laidN keepG ht ⟨Nat.zero_le _, [], .nil, _, tG, rfl, _, rfl⟩) I.bare fun b hb => nomatch hb
    refine XE.new (d := none) J (fun b o eb => PySem.W.of_hideAll _ eb) (PySem.W.hideAll_none _ (List.mem_singleton.mpr rfl)) g1 ⟨rfl, rfl⟩ rfl rfl ?_ rfl I.bare ⟨hw t ht, upd_same⟩
    rw [upd_ne (Ne.symm hte)]
    exact hea
end
end PM
set_option Elab.async false
set_option linter.all false
set_option maxRecDepth 100000
set_option maxHeartbeats 1000000
/-! try: .. except C as n: .., where every exception that comes is one of C, made without arguments. -/
namespace PM
open PySem PySem.Spec PyProof.Rows L2
/-- what the clause wants of the body's exceptions -/
def wC (K : PySem.W.Frag) (c : Value) (i : Nat) (ts : Addr → Addr → Value → Option Addr → TS) (D : Ends) : WX := fun cls d σ H =>
  PySem.W.exmOne K cls c = some true ∧ ∀ a t, H a = none → H t = some (.tup []) →
    ts a t cls d { nx := fun σ2 H2 => D.nx (σ2.set i none) H2, rt := D.rt, bk := fun σ2 H2 => D.bk (σ2.set i none) H2, ct := fun σ2 H2 => D.ct (σ2.set i none) H2 } (σ.set i (some (.ref a))) H
section
variable {X : Cx} {x n : Str} {c : Value} {i : Nat} {body suite : List Stmt} {st0 : Stmt} {hp pos hpos : Pos} {tb : WX → TS} {ts : Addr → Addr → Value → Option Addr → TS}
theorem ps_tryA (hst : X.stack = X.env :: X.outer) (hfr : X.env.frame = some X.env.locals) (hN : X.N.Nodup) (hi : X.N[i]? = some n) (hln : X.env.kindOf n = some .local) (nm : Names X x c)
    (hb : ∀ (W : WX) (pn : List (Addr × Obj)) (xe : Value → Shared → Prop), TakesA (X.tr pn xe) W → PassesOwn (model X.prog X.w) X.A X.env xe → PSs (X.tr pn xe) body (tb W))
    (hsu : ∀ (a : Addr) (oe : Obj) (t : Addr) (cls : Value) (d : Option Addr) (pn : List (Addr × Obj)), Zd cls d t oe → (∃ fs, oe.data = .fields fs) → PSs (X.suite a ((a, oe) :: pn)) (st0 :: suite) (ts a t cls d)) :
    PS X (.Try body [.ExceptHandler (some (.Name x hp)) (some n) (st0 :: suite) hpos] [] [] pos) (fun D σ H => tb (wC X.K c i ts D) D σ H) := by
  refine ⟨fun pins s σ H D I h => ?_⟩
  have okX := I.ok
  have frs0 : X.A.frames = some (X.env :: X.outer) := okX.frames.trans (congrArg some hst)
  let xe0 : Value → Shared → Prop := fun u s1 => wpAny (model X.prog X.w) X.A (noteFrame u X.env) (fun _ s2 => wpAny (model X.prog X.w) X.A (setFlight u none) (fun _ s3 =>
    wpAny (model X.prog X.w) X.A (handleBy u X.env [.ExceptHandler (some (.Name x hp)) (some n) (st0 :: suite) hpos]) (SP X pins D) X.xe s3) X.xe s2) X.xe s1
  have caught : TakesA (X.tr (X.pn ++ pins) xe0) (wC X.K c i ts D) := by
    rintro u s1 ⟨a, oe, t, e1, e2, e3, a', B, sI, ps, σ1, H1, cls, d, e4, J0, hB, up, sky, hna, hos, hba, ⟨hm, hts⟩, htt⟩
    subst e1
    cases e4
    have J : Inv X pins σ1 H1 sI := J0.ofTry okX
    have sky1 : Sky B (X.env :: X.outer) a (Zd cls d t) X.env.locals s1.heap := sky_up (hst ▸ sky) fun o eo z => by
      rw [e2] at eo
      cases eo
      exact ⟨z, e3⟩
    refine L2N.Sky.land (zd_steady cls d t) frs0 hfr sky1 fun h3 fly3 up3 => ?_
    have J3 : Inv X pins σ1 H1 { s1 with heap := h3 } := J.landed hB fly3.1 (up.trans up3) hos hba
    obtain ⟨o3, v3, g3, z3, d3⟩ := fly3.there
    have away : a ∉ frs (X.env :: X.outer) := fun hm2 => by
      obtain ⟨_, o4, g4, nf⟩ := fly3.2.2.1.mem hm2
      rw [g3] at g4
      cases g4
      exact nf _ d3
    have nLoc : a ≠ X.env.locals := fun z => away (List.mem_filterMap.mpr ⟨X.env, List.mem_cons_self, hfr.trans (congrArg some z.symm)⟩)
    have nFs : a ∉ X.fs := fun hm2 => by
      obtain ⟨ev, he, hf⟩ := List.mem_filterMap.mp hm2
      exact away (List.mem_filterMap.mpr ⟨ev, List.mem_cons_of_mem _ he, hf⟩)
    have S3 := J3.suite g3 d3 hna nLoc nFs
    refine wpAny_handleBy_cons (codeAny_handlers_test ?_) fun z => nomatch z
    have lt : PySem.W.Looks (model X.prog X.w) h3 (typeOf (.ref a)) cls := fun A Q E s k q => wpAny_typeOf_ref (k _ _ g3) (z3.1.1.symm ▸ q)
    have lm := PySem.W.exm_one (M := model X.prog X.w) J3.kIn lt hm
    have asked : ∀ {Q : Value → Shared → Prop} {E : Value → Shared → Prop}, Q c { s1 with heap := h3 } → wpAny (model X.prog X.w) (X.A.mark (some (.ref a))) (eval (.Name x hp) X.env) Q E { s1 with heap := h3 } := by
      intro Q E q
      obtain ⟨gl, hdb, hg | ⟨hg, hbt, hnn⟩⟩ := nm
      · exact ld_glob (X := X.suite a ((a, o3) :: (X.pn ++ pins))) S3 gl hg q hdb
      · exact ld_blt (X := X.suite a ((a, o3) :: (X.pn ++ pins))) S3 gl hg hbt q hnn hdb
    refine asked (lm.here (codeAny_handlers_suite_as (HandSPX.lands_againZ fly3 fun h4 fly4 up4 => ?_)))
    have J4 : Inv X pins σ1 H1 { s1 with heap := h4 } := J.landed hB fly4.1 ((up.trans up3).trans up4) hos hba
    obtain ⟨o4, v4, g4, z4, d4⟩ := fly4.there
    refine store_ok (X := X.suite a ((a, o4) :: (X.pn ++ pins))) (v := .ref a) (J4.suite g4 d4 hna nLoc nFs) hN hi (.inl hln) rfl (fun s5 S5 => ?_) (.inr hln)
    refine wpAny_mono ((hsu a o4 t cls d (X.pn ++ pins) z4 ⟨_, d4⟩).run [] s5 _ H1 _ S5 (hts a t hna htt)) (fun fl s6 hs6 => ?_) fun _ _ z => False.elim z
    have off : ∀ {σ6 : L2.St} {H6 : Hp} {Q : Shared → Prop}, Inv (X.suite a ((a, o4) :: (X.pn ++ pins))) [] σ6 H6 s6 → (∀ s7, Inv X pins (σ6.set i none) H6 s7 → Q s7) →
        wpAny (model X.prog X.w) X.A (do bindName X.env n .none; unbindBehindTheSuite X.env n hpos) (fun _ s7 => Q s7) X.xe s6 := fun {σ6 H6 Q} S6 hq => gone_ok (S6.unsuite okX) hN hi hln hq
    cases fl with
    | ret u =>
      obtain ⟨v6, σ6, H6, S6, r6, q6⟩ := hs6
      exact off S6 fun s7 J7 => ⟨_, _, _, J7, r6, q6⟩
    | next =>
      obtain ⟨σ6, H6, S6, q6⟩ := hs6
      exact off S6 fun s7 J7 => ⟨_, _, J7, q6⟩
    | brk =>
      obtain ⟨σ6, H6, S6, q6⟩ := hs6
      exact off S6 fun s7 J7 => ⟨_, _, J7, q6⟩
    | cont =>
      obtain ⟨σ6, H6, S6, q6⟩ := hs6
      exact off S6 fun s7 J7 => ⟨_, _, J7, q6⟩
  refine wpAny_Try_except (wpAny_mono ((hb (wC X.K c i ts D) (X.pn ++ pins) xe0 caught PassesOwn.looking).run [] s σ H D (I.toTry _) h) (fun fl s1 hs1 => ?_) fun u s1 hu => hu)
  cases fl with
  | ret u =>
    obtain ⟨v, σ2, H2, J, r, q⟩ := hs1
    exact ⟨v, σ2, H2, J.ofTry okX, r, q⟩
  | next =>
    obtain ⟨σ2, H2, J, q⟩ := hs1
    exact wpAny_execs_nil ⟨σ2, H2, J.ofTry okX, q⟩
  | brk =>
    obtain ⟨σ2, H2, J, q⟩ := hs1
    exact ⟨σ2, H2, J.ofTry okX, q⟩
  | cont =>
    obtain ⟨σ2, H2, J, q⟩ := hs1
    exact ⟨σ2, H2, J.ofTry okX, q⟩
end
end PM
set_option Elab.async false
set_option linter.all false
set_option maxRecDepth 100000
/-! A def's promise where no repr is under way around the call (A.guards is empty): as FnOk, with that premise. -/
namespace PM
open PySem PySem.Spec PyProof.Rows L2
/-- the def at f keeps the promise sp, called where no repr is under way -/
structure FnG (P : Program) (w : World) (K : PySem.W.Frag) (mg : Str → Option Value) (base : Heap) (k : Nat) (f : Addr) (fd : FuncData) (ps : List Str) (sp : Sp) : Prop where
  len : ∀ vs H Q E, sp vs H Q E → vs.length = ps.length
  run : ∀ (A : Around) (outer : List Env) (s : Shared) (H : Hp) (args : Args) (us : List Value) (vs : List V) (Q : VK) (E : XK),
    A.guards = some [] → Room k A → Env0 P w K mg base A outer s H → BindsTo s fd args (ps.zip us) → Vals vs us → sp vs H Q E →
      codeAny (model P w) A (.call (.ref f) args) (CR (CXA P w) outer P w H s Q E) s
section
variable {X : Cx} {k : Nat} {f C : Addr} {fd : FuncData} {ps : List Str} {sp : Sp} {x m : Str} {p pos apos : Pos} {e o : Expr} {es : List Expr} {ta : TE} {t : TA} {W : WX}
theorem FnG.mono {P : Program} {w : World} {K : PySem.W.Frag} {mg : Str → Option Value} {base : Heap} {j : Nat} (h : j ≤ k) (F : FnG P w K mg base j f fd ps sp) : FnG P w K mg base k f fd ps sp :=
  ⟨F.len, fun A o s H a us vs Q E g r => F.run A o s H a us vs Q E g (r.mono h)⟩
/-- what a call's end gives the caller -/
theorem g_back {pins : List (Addr × Obj)} {σ : L2.St} {H : Hp} {s s' : Shared} {Q : VK} {E : XK} {r : Result} (hx : PassesAt (CXA X.prog X.w) X σ E) (I : Inv X pins σ H s)
    (h : CR (CXA X.prog X.w) X.stack X.prog X.w H s Q E r s') :
    (match r with | .ok (.ret u) => EP X pins σ Q u s' | .ok _ => False | .error e => X.xe e s') := by
  cases r with
  | error e => exact hx pins H s e s' I h
  | ok fl => cases fl with
    | ret u => exact I.after h
    | next => exact h
    | brk => exact h
    | cont => exact h
theorem g_run {pins : List (Addr × Obj)} {σ : L2.St} {H : Hp} {s : Shared} {Q : VK} {us : List Value} {vs : List V} (F : FnG X.prog X.w X.K X.mg X.base k f fd ps sp) (hg : X.A.guards = some []) (hr : Room k X.A)
    (hb : Binds X.K fd ps []) (tk : TakesA X W) (I : Inv X pins σ H s) (r : Vals vs us) (h : sp vs H Q (WE W σ)) :
    wpAny (model X.prog X.w) X.A (call (.ref f) us) (EP X pins σ Q) X.xe s := by
  have b0 := hb s us I.kIn (by
    rw [List.append_nil, ← r.length]
    exact F.len _ _ _ _ h)
  simp only [List.append_nil] at b0
  have run := F.run X.A X.stack s H ⟨us, []⟩ us vs Q (WE W σ) hg hr I.env0 b0 r h
  refine wpAny_call (codeAny_mono run fun res s' q => ?_)
  have back := g_back (passA tk σ) I q
  cases res with
  | error e => exact back
  | ok fl => cases fl <;> first | exact back | exact back.elim
theorem g_call (F : FnG X.prog X.w X.K X.mg X.base k f fd ps sp) (hg : X.A.guards = some []) (hr : Room k X.A) (gl : Gl X x) (hm : X.mg x = some (.ref f)) (hk : PySem.W.keepIn X.K (.ref f) = true)
    (hb : Binds X.K fd ps []) (tk : TakesA X W) (ha : PA X (e :: es) t) (hdb : (x == ("__debug__" : Str)) = false) (he : starEach (e :: es) X.env = (false, eval e X.env) :: starEach es X.env)
    (hpl : (backTo pos (starEach es X.env)).any (·.1) = false) : PE X (.Call (.Name x p) (e :: es) [] pos) (tCallS sp (WE W) t) := ⟨fun pins s σ H Q I h =>
  wpAny_Call_Name_kw (ld_glob I gl hm (PySem.W.callWith_K (h₀ := X.base) I.ok.mod.kin hk
    (thn (ha.run pos pins s σ H _ I h) fun _ _ ⟨_, _, I1, r, q⟩ => ⟨I1.kIn, g_run F hg hr hb tk I1 r q⟩) he hpl) hdb)⟩
def tMethS (C : Addr) (m : Str) (sp : Sp) (E : L2.St → XK) (ta : TE) (t : TA) : TE := fun σ H Q =>
  ta σ H fun x H1 => ∃ a dx fs, x = .ref a ∧ H1 a = some (.ins C dx fs) ∧ fs.lookup m = none ∧ t σ H1 fun vs H2 => sp (x :: vs) H2 Q (E σ)
/-- o.m(..), whichever of some classes o is of -/
theorem g_meth {pl : Sem Bool} {Cs : Addr → Prop} {sps : Addr → Sp} (he : PE X o ta) (cl : ∀ C, Cs C → Cls X.K C) (hC : ∀ C, Cs C → ∃ f fd ps, Meth X.K C m f ∧ FnG X.prog X.w X.K X.mg X.base k f fd ps (sps C) ∧ Binds X.K fd ps [])
    (hg : X.A.guards = some []) (hr : Room k X.A) (tk : TakesA X W) (ha : PA X es t) (hst : ∀ (first : List Value) (f : Addr) (s : Shared) (Q : Value → Shared → Prop), PySem.W.keepIn X.K (.ref f) = true →
      wpAny (model X.prog X.w) X.A (spliced (backTo pos (starEach es X.env))) (fun us s1 => X.K.In s1.heap ∧ wpAny (model X.prog X.w) X.A (call (.ref f) (first ++ us)) Q X.xe s1) X.xe s →
        wpAny (model X.prog X.w) X.A (callWith pos (.ref f) first (backTo pos (starEach es X.env)) (backToKw pos (keywordEach [] X.env))) Q X.xe s)
    (ht : eval (.Call (.Attribute o m apos) es [] pos) X.env = (do
      let ov ← eval o X.env
      standAt apos.atName
      let (f, first) ← holding [ov] (getMethod ov m pl)
      callWith pos f first (backTo pos (starEach es X.env)) (backToKw pos (keywordEach [] X.env)))) :
    PE X (.Call (.Attribute o m apos) es [] pos) (fun σ H Q => ta σ H fun x H1 => ∃ a C dx fs, x = .ref a ∧ H1 a = some (.ins C dx fs) ∧ Cs C ∧ fs.lookup m = none ∧ t σ H1 fun vs H2 => sps C (x :: vs) H2 Q (WE W σ)) := by
  refine ⟨fun pins s σ H Q I h => PySem.W.methodCall_KW (pl := pl) (thn (he.run pins s σ H _ I h) fun u s1 ⟨x, H1, I1, rx, a, C, dx, fs, ex, ea, hc, l, q⟩ => ?_) ht⟩
  subst ex
  have eu : u = Value.ref a := rx
  subst eu
  obtain ⟨g, fd, ps, mt, F, hb⟩ := hC C hc
  refine getmeth_ok I1 ea (cl C hc) mt l (hst [.ref a] g s1 _ mt.kp ?_)
  exact thn (ha.run pos pins s1 σ H1 _ I1 q) fun us s2 ⟨vs, H2, I2, r, q2⟩ => ⟨I2.kIn, g_run (us := .ref a :: us) (vs := .ref a :: vs) F hg hr hb tk I2 (.cons rfl r) q2⟩
def tMakeS (C : Addr) (sp : Sp) (E : L2.St → XK) (t : TA) : TE := fun σ H Q => t σ H fun vs H1 =>
  ∀ x dx, H1 x = none → H1 dx = none → dx ≠ x → sp (.ref x :: vs) (upd (upd H1 dx (.own x)) x (.ins C dx [])) (fun v H2 => v = .non ∧ Q (.ref x) H2) (E σ)
theorem g_make (M : Mk X.K C f) (F : FnG X.prog X.w X.K X.mg X.base k f fd ps sp) (hg : X.A.guards = some []) (hr : Room (k + 1) X.A) (gl : Gl X x) (hm : X.mg x = some (.ref C))
    (hb : Binds X.K fd ps []) (tk : TakesA X W) (ha : PA X (e :: es) t) (hdb : (x == ("__debug__" : Str)) = false) (he : starEach (e :: es) X.env = (false, eval e X.env) :: starEach es X.env)
    (hpl : (backTo pos (starEach es X.env)).any (·.1) = false) : PE X (.Call (.Name x p) (e :: es) [] pos) (tMakeS C sp (WE W) t) := by
  refine ⟨fun pins s σ H Q I h => wpAny_Call_Name_kw (ld_glob I gl hm (PySem.W.callWith_K (h₀ := X.base) I.ok.mod.kin M.kp
    (thn (ha.run pos pins s σ H _ I h) fun us s1 ⟨vs, H1, I1, r, q⟩ => ⟨I1.kIn, ?_⟩) he hpl) hdb)⟩
  let n := s1.heap.objs.size
  have q2 := q (n + 1) n (I1.hok.fresh (Nat.le_succ _)) (I1.hok.fresh (Nat.le_refl _)) (Nat.ne_of_lt (Nat.lt_succ_self _))
  have J := Inv.made (C := C) I1
  have r2 : Vals (V.ref (n + 1) :: vs) (Value.ref (n + 1) :: us) := .cons rfl r
  have b0 := hb _ (Value.ref (n + 1) :: us) J.kIn (by
    rw [List.append_nil, ← r2.length]
    exact F.len _ _ _ _ q2)
  rw [List.append_nil] at b0
  have run := F.run (X.A.under (.builtin "type.__call__" ⟨.ref C :: us, []⟩)) X.stack _ _ ⟨Value.ref (n + 1) :: us, []⟩ _ _ _ (WE W σ) hg (hr.make C us []) (J.env0.make C us []) b0 r2 q2
  refine wpAny_call (make_map (f := f) I1.kIn M.makes M.init (beq_iff_eq.mp M.fn) (codeAny_mono run fun res s' z => ?_))
  have back := g_back (passA tk σ) J z
  cases res with
  | error e => exact back
  | ok fl => cases fl with
    | ret u =>
      obtain ⟨v, H', I3, rv, ev, q3⟩ := back
      subst ev
      exact ⟨rv, V.ref (n + 1), H', I3, rfl, q3⟩
    | next => exact back.elim
    | brk => exact back.elim
    | cont => exact back.elim
end
/-- a def's promise by its body -/
theorem g_of {P : Program} {w : World} {K : PySem.W.Frag} {mg : Str → Option Value} {base : Heap} {k : Nat} {x qual : Str} {params : Arguments} {body : List Stmt} {scope : Scope} {dvs : List V} {kws : List (Str × V)} {f : Addr} {fd : FuncData}
    {N ps : List Str} {sp : Sp} (F : FunD K x qual params body scope dvs kws f fd) (S : FnScope N ps scope) (len : ∀ vs H Q E, sp vs H Q E → vs.length = ps.length)
    (hbody : ∀ (cdv : Value) (A : Around) (outer : List Env) (s : Shared) (H : Hp) (vs : List V) (Q : VK) (E : XK), (A.deeper (envOfC qual scope s.heap.objs.size f cdv)).guards = some [] →
      Room k (A.deeper (envOfC qual scope s.heap.objs.size f cdv)) → sp vs H Q E →
        ∃ t, PSs (cxOf (CXA P w) P w K mg base N qual scope f cdv A outer s H E) body t ∧ t { nx := fun _ H' => Q .non H', rt := Q } (start N vs) H) :
    FnG P w K mg base (k + 1) f fd ps sp := by
  obtain ⟨oc, od, dV, kV, doc, pm, an, cdv, ct, osl, efd, lk, hcd, _, _⟩ := F.ex
  subst efd
  refine ⟨len, fun A outer s H args us vs Q E hg hr e0 hb r hsp => ?_⟩
  have nolim : s.heap.NoLimit := e0.mod.nolimit.keeps fun b o e => (e0.bs b o e).1
  have kin : K.In s.heap := e0.mod.kin.keeps fun b o e => (e0.bs b o e).1
  have hk : ∀ y ∈ ps.zip us, scope.names.lookup y.1 = some .local ∨ (scope.names.lookup y.1 = some .cell ∧ ((cellsFrom (s.heap.objs.size + 1) scope.names []).lookup y.1).isSome = true) := by
    intro y hy
    obtain ⟨n, v⟩ := y
    rcases S.par n (List.of_mem_zip hy).1 with q | q
    · exact .inl q
    · exact .inr ⟨q, PySem.W.cellsFrom_some _ _ _ (.inl q)⟩
  refine codeAny_call_function hr.depth (kin _ _ lk) rfl S.co S.gen rfl (PySem.W.codeRec_of kin hcd) (hb _ _ _ _ (wpAny_newFunctionEnv_cells S.kind hk fun env he s1 x => ?_))
  subst he
  obtain ⟨t, ht, hq⟩ := hbody cdv A outer s H vs Q E hg (hr.deeper _) hsp
  have J : Inv (cxOf (CXA P w) P w K mg base N qual scope f cdv A outer s H E) [] (start N vs) H s1 := inv_start S hr.hd e0 (len _ _ _ _ hsp) r x
  refine ⟨nolim.keeps x.toInCall.keep, codeAny_func (wpAny_mono (ht.run [] s1 (start N vs) H _ J hq) (fun fl s' hs => ?_) fun e s' hs => hs)⟩
  cases fl with
  | ret u =>
    obtain ⟨v, σ', H', J', rv, q⟩ := hs
    exact ⟨v, H', J'.os, J'.bare, J'.base, J'.hok, rv, q⟩
  | next =>
    obtain ⟨σ', H', J', q⟩ := hs
    exact ⟨V.non, H', J'.os, J'.bare, J'.base, J'.hok, rfl, q⟩
  | brk =>
    obtain ⟨_, _, _, q⟩ := hs
    exact q.elim
  | cont =>
    obtain ⟨_, _, _, q⟩ := hs
    exact q.elim

/-! ### the law's own call -/
section
variable {P : Program} {w : World} {K : PySem.W.Frag} {mg mb : Str → Option Value} {k : Nat} {fa a : Addr} {fd : FuncData} {x : Str} {sp : Sp} {s : Shared} {vs : List Value} {ns : List Int}
/-- where the law's call ends -/
abbrev LawEnd (s : Shared) (r : Result) (s' : Shared) : Prop := r = .ok (.ret (.bool true)) ∧ OldK s.heap s'.heap ∧ s'.os = s.os ∧ AllBare s'.gens
theorem law_end {H : Hp} {r : Result} {s' : Shared} (ok : HOk P w H s.heap) (only : Only H) (h : CR (CXA P w) [] P w H s (fun v _ => v = .bl true) (fun _ _ _ => False) r s') : LawEnd s r s' := by
  cases r with
  | error e =>
    obtain ⟨a1, a2, a3, a4, a5, a6, b1, b2, b3, b4, b5, c1, c2, c3, c4, c5, c6, c7, c8⟩ := h
    exact c8.1.elim
  | ok fl => cases fl with
    | next => exact h.elim
    | brk => exact h.elim
    | cont => exact h.elim
    | ret u =>
      obtain ⟨v, H', eos, eb, un, ok', rv, ev⟩ := h
      subst ev
      have eu : u = Value.bool true := rv
      subst eu
      refine ⟨rfl, OldK.of_keep fun b o e => ?_, eos, eb⟩
      rcases only b with z | ⟨ob, xs, z⟩
      · exact un.keep b o e z (by simp [frs]) (by simp)
      · have g1 := (ok b _ z).1
        have g2 := (ok' b _ (un.frzs b ob _ z)).1
        rw [e] at g1
        cases g1
        exact g2
/-- from an abstract heap that tracks the script or nothing -/
theorem law_from {H : Hp} (only : Only H) (KX : K.In s.heap) (hns : s.heap.Ns mainGlobals mg) (hb : s.heap.Ns builtinsNs mb) (hbb : ∀ x : Str, x ≠ "__name__" → mb x = bootBuiltins x) (lim : s.heap.NoLimit) (hg : s.gens = #[])
    (hs : H a ≠ none → ∃ o, s.heap.get? a = some o ∧ (∀ es ep, o.data ≠ .dict es ep) ∧ K.lookup a = none) (ok : HOk P w H s.heap) (one : ∀ b, b ≠ a → H b = none) (hr : Room k callerA)
    (F : ∀ base : Heap, K.In base → base.Ns mainGlobals mg → FnG P w K mg base k fa fd [x] sp) (bind : ∀ (s : Shared) (u : Value), BindsTo s fd ⟨[u], []⟩ [(x, u)])
    (hsp : sp [.ref a] H (fun v _ => v = .bl true) fun _ _ _ => False) : codeAny (model P w) callerA (.call (.ref fa) ⟨[.ref a], []⟩) (LawEnd s) s := by
  have free : ∀ b, (b = a → H a = none) → H b = none := fun b h => by
    by_cases e : b = a
    · rw [e]; exact h e
    · exact one b e
  have nodict : ∀ {b : Addr} {o : Obj} {es : Array DictEntry} {ep : Nat}, s.heap.get? b = some o → o.data = .dict es ep → H b = none := fun {b o es ep} e d => free b fun eb => by
    cases q : H a with
    | none => rfl
    | some u =>
      obtain ⟨o', e', nd, _⟩ := hs (by rw [q]; simp)
      rw [← eb, e] at e'
      cases e'
      exact absurd d (nd es ep)
  have ns : ∀ {b : Addr} {m : Str → Option Value}, s.heap.Ns b m → (hidT s.heap H).Ns b m := fun ⟨o, es, ep, e, d, r⟩ => ⟨o, es, ep, hidT_get e (nodict e d), d, r⟩
  have kin : K.In (hidT s.heap H) := fun b o e => hidT_get (KX b o e) (free b fun eb => by
    cases q : H a with
    | none => rfl
    | some u =>
      obtain ⟨_, _, _, z⟩ := hs (by rw [q]; simp)
      rw [← eb, e] at z
      cases z)
  obtain ⟨mc, l1, l2⟩ := lim
  have md : Mod K mg (hidT s.heap H) := ⟨kin, ns hns, ⟨mb, ns hb, hbb⟩, ⟨mc, ns l1, l2⟩⟩
  have e0 : Env0 P w K mg (hidT s.heap H) callerA [] s H := ⟨rfl, md, fun _ _ e => of_hidT e, Nat.le_of_eq (hidT_size _ _), trivial, (fun _ q => nomatch q), ok, .of_eq hg⟩
  exact codeAny_mono ((F _ kin (ns hns)).run callerA [] s H ⟨[.ref a], []⟩ [.ref a] [.ref a] _ _ rfl hr e0 (bind s _) (.cons rfl .nil) hsp) fun r s' h => law_end ok only h
theorem law_go (KX : K.In s.heap) (hns : s.heap.Ns mainGlobals mg) (hb : s.heap.Ns builtinsNs mb) (hbb : ∀ x : Str, x ≠ "__name__" → mb x = bootBuiltins x) (lim : s.heap.NoLimit) (hg : s.gens = #[])
    (ha : s.heap.get? a = some { cls := .type "list", data := .seq vs.toArray }) (hi : IntsAre vs ns) (hl : ns.length ≤ sizeLine) (hr : Room k callerA)
    (F : ∀ base : Heap, K.In base → base.Ns mainGlobals mg → FnG P w K mg base k fa fd [x] sp) (bind : ∀ (s : Shared) (u : Value), BindsTo s fd ⟨[u], []⟩ [(x, u)])
    (hsp : ∀ H : Hp, Only H → SqL K H a (ns.map V.int) → sp [.ref a] H (fun v _ => v = .bl true) fun _ _ _ => False) : codeAny (model P w) callerA (.call (.ref fa) ⟨[.ref a], []⟩) (LawEnd s) s := by
  have rv := vals_ints hi
  cases hk : K.lookup a with
  | some o =>
    have e := KX a o hk
    rw [ha] at e
    cases e
    have only : Only fun _ => none := fun _ => .inl rfl
    have sq : SqL K (fun _ => none) a (ns.map V.int) := .inr ⟨_, vs.toArray, 0, hk, rfl, rfl, rfl, by
      rw [List.size_toArray, hi.length]
      exact hl, by simpa using rv⟩
    exact law_from (H := fun _ => none) only KX hns hb hbb lim hg (fun z => absurd rfl z) (fun b u z => nomatch z) (fun _ _ => rfl) hr F bind (hsp _ only sq)
  | none =>
    let o : Obj := { cls := .type "list", data := .seq vs.toArray }
    let H : Hp := fun b => if b = a then some (.frz o (.lst (ns.map V.int))) else none
    have at_ : H a = some (.frz o (.lst (ns.map V.int))) := if_pos rfl
    have off : ∀ b, b ≠ a → H b = none := fun b e => if_neg e
    have only : Only H := fun b => by
      by_cases e : b = a
      · exact .inr ⟨_, _, e ▸ at_⟩
      · exact .inl (off b e)
    have ok : HOk P w H s.heap := fun b u z => by
      by_cases e : b = a
      · subst e
        rw [at_] at z
        cases z
        exact ⟨ha, by
          rw [List.length_map]
          exact hl, vs, _, rv, ha⟩
      · rw [off b e] at z
        cases z
    exact law_from only KX hns hb hbb lim hg (fun _ => ⟨o, ha, (fun _ _ q => nomatch q), hk⟩) ok off hr F bind (hsp H only (.inl (.inr ⟨o, at_⟩)))
end
/-- the goal that the head leaves, from the law's promise -/
theorem walk_g {l : PySem.W.OpenLaw} {n k : Nat} {q : Program} {loose : List Str} {XP : (Str → Option Value) → Heap → Prop} {YP : World → Heap → Prop} {d : DefRec} {x : Str} (hn : l.most = some n) (hn2 : n ≤ sizeLine) (hdf : d.params.defaults = [])
    (hr : Room k callerA) (F : ∀ (w : World) (mg : Str → Option Value) (fa : Addr) (h : Heap), YP w h → h.Ns mainGlobals mg → mg d.name = some (.ref fa) →
      ∃ (K : PySem.W.Frag) (fd : FuncData) (sp : Sp), K.In h ∧ (∀ (s : Shared) (u : Value), BindsTo s fd ⟨[u], []⟩ [(x, u)]) ∧
        (∀ (H : Hp) (a : Addr) (ns : List Int), ns.length ≤ n → Only H → SqL K H a (ns.map V.int) → sp [.ref a] H (fun v _ => v = .bl true) fun _ _ _ => False) ∧
          ∀ base : Heap, K.In base → base.Ns mainGlobals mg → FnG l.prog w K mg base k fa fd [x] sp) :
    PySem.W.WalkO q loose XP YP l.row.toRowW d [] (fun f vs => PySem.call f vs) :=
  Att.attach_call hn hdf fun w s₀ s₁ mg mb fa o pm cd doc a vs ns G Y ho hd hcd hmg hobj hints hlen hg => by
    obtain ⟨K, fd, sp, KX, bd, hsp, hF⟩ := F w mg fa _ Y G.T.g hmg
    exact law_go KX G.T.g G.T.b G.T.builtins G.T.nolimit hg hobj hints (Nat.le_trans hlen hn2) hr hF bd fun H only sq => hsp H a ns hlen only sq
end PM
set_option Elab.async false
set_option linter.all false
set_option maxRecDepth 100000
set_option maxHeartbeats 1000000
/-! What is asked of a caught exception: isinstance, str; a def that is called with it while it is handled. -/
namespace PM
open PySem PySem.Spec PyProof.Rows L2
variable [Cur]
/-- a class whose instances are asked for their class and their text -/
structure XcF (K : PySem.W.Frag) (C : Addr) : Prop where
  ex : L2.ExcC K C
  tx : PySem.W.findIn K (.ref C) "__str__" = some (some (.builtin "BaseException.__str__"))
section
variable {X : Cx} {a t C : Addr} {oe : Obj}
theorem callr_is (hp : (a, oe) ∈ X.pn) (xc : L2.ExcC X.K C) (hz : Zd (.ref C) none t oe) (hf : ∃ fs, oe.data = .fields fs) : CallR X (.builtin "isinstance") (rIsE X.K C a) := by
  intro pins s σ H xs us Q I r ⟨c, cv, b, exs, hcv, ek, q⟩
  subst exs
  obtain ⟨u1, u2, rfl, r1, r2⟩ := r.two
  cases r1
  cases hcv _ r2
  obtain ⟨fs, hd⟩ := hf
  have here : PySem.W.InstAt s.heap a oe C none := by
    have g := (I.pin (a, oe) (List.mem_append_left _ hp)).1
    obtain ⟨oc, od, oda, osl⟩ := oe
    obtain ⟨⟨z1, z2⟩, _⟩ := hz
    dsimp only at z1 z2 hd
    subst z1 z2 hd
    exact ⟨g, rfl, rfl, trivial⟩
  exact PySem.W.kia_one (PySem.W.handS_kitx_exc xc.hg xc.hk xc.hs xc.hd xc.ha xc.hn xc.ht xc.hm) I.kIn here ek (fun z => nomatch z) fun tk => ⟨.bl b, H, I.kept (t' := tk) fun _ _ z => z, rfl, q⟩
theorem callr_str (hu : X.A.units + 2 < cLine) (hp : (a, oe) ∈ X.pn) (xf : XcF X.K C) (hz : Zd (.ref C) none t oe) (hf : ∃ fs, oe.data = .fields fs) :
    CallR X (.type "str") (fun xs H Q => xs = [.ref a] ∧ H t = some (.tup []) ∧ Q (.str Str.empty) H) := by
  intro pins s σ H xs us Q I r ⟨exs, ht, q⟩
  subst exs
  obtain ⟨u, rfl, r1⟩ := r.one
  cases r1
  obtain ⟨fs, hd⟩ := hf
  have g := (I.pin (a, oe) (List.mem_append_left _ hp)).1
  obtain ⟨_, its, rv, o, g2, c2, n, d2⟩ := (show ObjOk X.prog X.w H s.heap t (.tup []) from I.hok t _ ht)
  cases rv
  exact PySem.P.str_of_C_none hu ⟨I.kIn, oe, fs, g, hz.1.1, hd, (hz.2 fs hd).1⟩ ⟨o, n, g2, c2, d2⟩ xf.tx xf.ex.hs ⟨.str Str.empty, H, I.tok _, ⟨_, rfl⟩, q⟩
def rCnt (K : PySem.W.Frag) : V → List V → Hp → VK → Prop := fun x xs H Q => ∃ (l : Addr) (y : V) (d : PyData) (ds : List PyData), x = .ref l ∧ xs = [y] ∧ Dp K H (.ref l) (.list ds) ∧ Dp K H y d ∧ PyData.plainAll ds = true ∧ d.plain = true ∧ d.depth ≤ 60 ∧
  Q (.int ((ds.countP fun z => PyData.eqv z d : Nat) : Int)) H
theorem mt_cnt (hu : X.A.units + 70 < cLine) : MtR X "list.count" (rCnt X.K) := by
  intro pins s σ H x xs v us Q I rx rxs ⟨l, y, d, ds, ex, exs, hl, hy, p1, p2, hd, q⟩
  subst ex exs
  cases rx
  obtain ⟨u, rfl, ru⟩ := rxs.one
  obtain ⟨bs, hb⟩ := Dp.reads I d y u hy ru
  cases hl with
  | lst hs ha =>
    obtain ⟨its, rv, il, _⟩ := I.list hs
    obtain ⟨as, hr⟩ := Dp.readsAll I ds _ its ha rv
    exact PySem.SeqAt.count_list_data (vs := its.toArray) il.isList hr hb p1 p2 (by omega) ⟨.int _, H, I.tok _, ⟨_, rfl⟩, q⟩
end
/-- a def that is called with the exception that is handled; sp: the exception, the heap, the wanted end -/
abbrev SpX := Addr × Obj → Hp → VK → Prop
structure FnX (P : Program) (w : World) (K : PySem.W.Frag) (mg : Str → Option Value) (base : Heap) (k : Nat) (f : Addr) (fd : FuncData) (y : Str) (sp : SpX) : Prop where
  run : ∀ (A : Around) (outer : List Env) (s : Shared) (H : Hp) (args : Args) (p : Addr × Obj) (Q : VK), L2H.RoomH k A → L2H.Hot1 A p → L2H.PinOk outer H s p → Env0 P w K mg base A outer s H → BindsTo s fd args [(y, .ref p.1)] → sp p H Q →
    codeAny (model P w) A (.call (.ref f) args) (CR (CXA P w) outer P w H s Q (fun _ _ _ => False)) s
theorem fnx_of {P : Program} {w : World} {K : PySem.W.Frag} {mg : Str → Option Value} {base : Heap} {k : Nat} {x y qual : Str} {params : Arguments} {body : List Stmt} {scope : Scope} {dvs : List V} {kws : List (Str × V)} {f : Addr} {fd : FuncData}
    {N : List Str} {sp : SpX} (F : FunD K x qual params body scope dvs kws f fd) (S : FnScope N [y] scope)
    (hbody : ∀ (cdv : Value) (A : Around) (outer : List Env) (s : Shared) (H : Hp) (Q : VK) (p : Addr × Obj), L2H.Hot1 A p → L2H.RoomH k (A.deeper (envOfC qual scope s.heap.objs.size f cdv)) → sp p H Q →
      ∃ t, PSs (L2H.cxH (CXA P w) P w K mg base N qual scope f cdv A outer s H (fun _ _ _ => False) p) body t ∧ t { nx := fun _ H' => Q .non H', rt := Q } (start N [.ref p.1]) H) :
    FnX P w K mg base (k + 1) f fd y sp := by
  obtain ⟨oc, od, dV, kV, doc, pm, an, cdv, ct, osl, efd, lk, hcd, _, _⟩ := F.ex
  subst efd
  refine ⟨fun A outer s H args p Q hr hot hpin e0 hb hsp => ?_⟩
  have inK : K.In s.heap := e0.mod.kin.keeps fun b o e => (e0.bs b o e).1
  have calls : s.heap.NoLimit := e0.mod.nolimit.keeps fun b o e => (e0.bs b o e).1
  have hk : ∀ z ∈ [(y, Value.ref p.1)], scope.names.lookup z.1 = some .local ∨ (scope.names.lookup z.1 = some .cell ∧ ((cellsFrom (s.heap.objs.size + 1) scope.names []).lookup z.1).isSome = true) := by
    intro z hz
    cases List.mem_singleton.mp hz
    rcases S.par y List.mem_cons_self with q | q
    · exact .inl q
    · exact .inr ⟨q, PySem.W.cellsFrom_some _ _ _ (.inl q)⟩
  refine codeAny_call_function hr.depth (inK _ _ lk) rfl S.co S.gen rfl (PySem.W.codeRec_of inK hcd) (hb _ _ _ _ (wpAny_newFunctionEnv_cells S.kind hk fun env he s1 x => ?_))
  subst he
  obtain ⟨t, ht, hq⟩ := hbody cdv A outer s H Q p hot (hr.deeper _) hsp
  have J : Inv (L2H.cxH (CXA P w) P w K mg base N qual scope f cdv A outer s H (fun _ _ _ => False) p) [] (start N [.ref p.1]) H s1 := L2H.inv_startH S hpin e0 rfl (.cons rfl .nil) x
  refine ⟨calls.keeps x.toInCall.keep, codeAny_func (wpAny_mono (ht.run [] s1 _ H _ J hq) (fun fl s' hs => ?_) fun e s' hs => hs)⟩
  cases fl with
  | ret u =>
    obtain ⟨v, σ2, H2, J2, rv, q⟩ := hs
    exact ⟨v, H2, J2.os, J2.bare, J2.base, J2.hok, rv, q⟩
  | next =>
    obtain ⟨σ2, H2, J2, q⟩ := hs
    exact ⟨V.non, H2, J2.os, J2.bare, J2.base, J2.hok, rfl, q⟩
  | brk =>
    obtain ⟨_, _, _, q⟩ := hs
    exact q.elim
  | cont =>
    obtain ⟨_, _, _, q⟩ := hs
    exact q.elim
section
variable {X : Cx} {a : Addr} {oe : Obj} {k i : Nat} {f : Addr} {fd : FuncData} {x y z : Str} {p pz pos : Pos} {sp : SpX}
/-- f(e) in the suite -/
theorem pe_callX (F : FnX X.prog X.w X.K X.mg X.base k f fd z sp) (hr : L2H.RoomH k X.A) (hh : X.A.handled = some (.ref a)) (hp : (a, oe) ∈ X.pn) (hc : ∃ fs : Array Value, oe.data = .fields fs ∧ fs[2]? = some .none)
    (gl : Gl X x) (hm : X.mg x = some (.ref f)) (hk : PySem.W.keepIn X.K (.ref f) = true) (hb : Binds X.K fd [z] []) (hN : X.N[i]? = some y) (hv : Vis X.env.scope y) (hdy : (y == ("__debug__" : Str)) = false) (hcd : (y == ("__classdict__" : Str)) = false)
    (hdb : (x == ("__debug__" : Str)) = false) (he : starEach [.Name y pz] X.env = (false, eval (.Name y pz) X.env) :: starEach [] X.env) (hpl : (backTo pos (starEach [] X.env)).any (·.1) = false) :
    PE X (.Call (.Name x p) [.Name y pz] [] pos) (fun σ H Q => σ[i]? = some (some (.ref a)) ∧ sp (a, oe) H Q) := by
  refine ⟨fun pins s σ H Q I ⟨ha, hs⟩ => ?_⟩
  have arg : PA X [.Name y pz] (tCons (tVar i) tNil) := pa_cons (pe_var hN hv hdy hcd) pa_nil he
  refine wpAny_Call_Name_kw (ld_glob I gl hm (PySem.W.callWith_K (h₀ := X.base) I.ok.mod.kin hk (thn (arg.run pos pins s σ H (fun vs H1 => vs = [V.ref a] ∧ H1 = H) I ⟨_, ha, rfl, rfl⟩) fun us s1 ⟨vs, H1, I1, r, e1, e2⟩ => ⟨I1.kIn, ?_⟩) he hpl) hdb)
  subst e1 e2
  obtain ⟨u, rfl, ru⟩ := r.one
  cases ru
  have b0 := hb s1 [.ref a] I1.kIn rfl
  have pin := I1.pin (a, oe) (List.mem_append_left _ hp)
  obtain ⟨fs, d1, d2⟩ := hc
  refine wpAny_call (codeAny_mono (F.run X.A X.stack s1 H1 ⟨[.ref a], []⟩ (a, oe) Q hr ⟨hh, fs, d1, d2⟩ ⟨pin.1, pin.2.1, ?_, pin.2.2.2.2⟩ I1.env0 (by simpa using b0) hs) fun r s2 q => ?_)
  · exact fun hm2 => (List.mem_cons.mp (I1.stkSub a hm2)).elim pin.2.2.1 pin.2.2.2.1
  · cases r with
    | error e =>
      obtain ⟨a1, a2, a3, a4, a5, a6, b1, b2, b3, b4, b5, c1, c2, c3, c4, c5, c6, c7, c8⟩ := q
      exact c8.1.elim
    | ok fl => cases fl with
      | ret u => exact I1.after q
      | next => exact q.elim
      | brk => exact q.elim
      | cont => exact q.elim
end

/-! ### the law's own def that names the class of a caught error -/
/-- its body but for the two ends -/
def clsBody (c1 c2 c3 c4 : Str) (several : Stmt) (last : Stmt) (ps : Nat → Pos) : List Stmt := [
  .Assign [.Name "_law_kinds" (ps 0)] (.List [.Call (.Name "isinstance" (ps 1)) [.Name "_law_e" (ps 2), .Name c1 (ps 3)] [] (ps 4), .Call (.Name "isinstance" (ps 5)) [.Name "_law_e" (ps 6), .Name c2 (ps 7)] [] (ps 8),
    .Call (.Name "isinstance" (ps 9)) [.Name "_law_e" (ps 10), .Name c3 (ps 11)] [] (ps 12), .Call (.Name "isinstance" (ps 13)) [.Name "_law_e" (ps 14), .Name c4 (ps 15)] [] (ps 16)] (ps 17)) (ps 18),
  .If (.BoolOp .Or [.Compare (.Call (.Attribute (.Name "_law_kinds" (ps 19)) "count" (ps 20)) [.Constant (.bool true) 0 (ps 21)] [] (ps 22)) [.NotEq] [.Constant (.int 1) 0 (ps 23)] (ps 24),
    .UnaryOp .Not (.Call (.Name "isinstance" (ps 25)) [.Name "_law_e" (ps 26), .Name "ValueError" (ps 27)] [] (ps 28)) (ps 29),
    .Compare (.Call (.Name "str" (ps 30)) [.Name "_law_e" (ps 31)] [] (ps 32)) [.NotEq] [.Constant (.str "") 0 (ps 33)] (ps 34)] (ps 35)) [several] [] (ps 36), last]
def clsIx (ps : Nat → Pos) : Expr := .Subscript (.List [.Constant (.str "protocol") 0 (ps 37), .Constant (.str "formula") 0 (ps 38), .Constant (.str "word") 0 (ps 39), .Constant (.str "much") 0 (ps 40)] (ps 41))
  (.Call (.Attribute (.Name "_law_kinds" (ps 42)) "index" (ps 43)) [.Constant (.bool true) 0 (ps 44)] [] (ps 45)) (ps 46)
section
variable {X : Cx} {a t C : Addr} {oe : Obj} {ps : Nat → Pos}
/-- what the context must say -/
structure ClsX (X : Cx) (c1 c2 c3 c4 : Str) (C1 C2 C3 C4 : Addr) : Prop where
  nN : X.N = [("_law_e" : Str), ("_law_kinds" : Str)]
  v0 : Vis X.env.scope "_law_e"
  v1 : Vis X.env.scope "_law_kinds"
  l1 : X.env.scope.names.lookup ("_law_kinds" : Str) = some .local
  g0 : Gl X "isinstance" ∧ X.mg "isinstance" = none
  g1 : Gl X c1 ∧ X.mg c1 = some (.ref C1)
  g2 : Gl X c2 ∧ X.mg c2 = some (.ref C2)
  g3 : Gl X c3 ∧ X.mg c3 = some (.ref C3)
  g4 : Gl X c4 ∧ X.mg c4 = some (.ref C4)
  g5 : Gl X "ValueError" ∧ X.mg "ValueError" = none
  g6 : Gl X "str" ∧ X.mg "str" = none
  un : X.A.units + 100 < cLine
  d1 : (c1 == ("__debug__" : Str)) = false
  d2 : (c2 == ("__debug__" : Str)) = false
  d3 : (c3 == ("__debug__" : Str)) = false
  d4 : (c4 == ("__debug__" : Str)) = false
theorem pe_isC {c : Str} {Cc : Addr} {p1 p2 p3 p4 : Pos} (hN : X.N = [("_law_e" : Str), ("_law_kinds" : Str)]) (hv : Vis X.env.scope "_law_e") (g0 : Gl X "isinstance" ∧ X.mg "isinstance" = none) (g1 : Gl X c ∧ X.mg c = some (.ref Cc)) (hd : (c == ("__debug__" : Str)) = false) (hp : (a, oe) ∈ X.pn) (xc : L2.ExcC X.K C)
    (hz : Zd (.ref C) none t oe) (hf : ∃ fs, oe.data = .fields fs) : PE X (.Call (.Name "isinstance" p1) [.Name "_law_e" p2, .Name c p3] [] p4) (fun σ H Q => σ[0]? = some (some (.ref a)) ∧ ∃ b, PySem.W.kitOne X.K (.ref C) (.ref Cc) = some b ∧ Q (.bl b) H) :=
  PE.imp (pe_callB (callr_is hp xc hz hf) g0.1 g0.2 (by decide +kernel) (pa_cons (pe_var (i := 0) (by rw [hN]; rfl) hv) (pa_cons (pe_glob (v := .ref Cc) g1.1 g1.2 rfl hd) pa_nil))) fun σ H Q ⟨h0, b, hb, q⟩ => ⟨_, h0, .ref Cc, _, b, rfl, fun u r => r, hb, q⟩
theorem pe_isV {p1 p2 p3 p4 : Pos} (hN : X.N = [("_law_e" : Str), ("_law_kinds" : Str)]) (hv : Vis X.env.scope "_law_e") (g0 : Gl X "isinstance" ∧ X.mg "isinstance" = none) (g1 : Gl X "ValueError" ∧ X.mg "ValueError" = none) (hp : (a, oe) ∈ X.pn) (xc : L2.ExcC X.K C)
    (hz : Zd (.ref C) none t oe) (hf : ∃ fs, oe.data = .fields fs) : PE X (.Call (.Name "isinstance" p1) [.Name "_law_e" p2, .Name "ValueError" p3] [] p4) (fun σ H Q => σ[0]? = some (some (.ref a)) ∧ ∃ b, PySem.W.kitOne X.K (.ref C) (.type "ValueError") = some b ∧ Q (.bl b) H) :=
  PE.imp (pe_callB (callr_is hp xc hz hf) g0.1 g0.2 (by decide +kernel) (pa_cons (pe_var (i := 0) (by rw [hN]; rfl) hv) (pa_cons (pe_bltn (v := .ty "ValueError") g1.1 g1.2 (by decide +kernel) rfl) pa_nil))) fun σ H Q ⟨h0, b, hb, q⟩ => ⟨_, h0, .ty "ValueError", _, b, rfl, fun u r => r, hb, q⟩
theorem pe_strE {p1 p2 p4 : Pos} (hN : X.N = [("_law_e" : Str), ("_law_kinds" : Str)]) (hv : Vis X.env.scope "_law_e") (g0 : Gl X "str" ∧ X.mg "str" = none) (hu : X.A.units + 2 < cLine) (hp : (a, oe) ∈ X.pn) (xf : XcF X.K C)
    (hz : Zd (.ref C) none t oe) (hf : ∃ fs, oe.data = .fields fs) : PE X (.Call (.Name "str" p1) [.Name "_law_e" p2] [] p4) (fun σ H Q => σ[0]? = some (some (.ref a)) ∧ H t = some (.tup []) ∧ Q (.str Str.empty) H) :=
  PE.imp (pe_callTy (callr_str hu hp xf hz hf) g0.1 g0.2 (by decide +kernel) (pa_cons (pe_var (i := 0) (by rw [hN]; rfl) hv) pa_nil)) fun σ H Q ⟨h0, h1, q⟩ => ⟨_, h0, rfl, h1, q⟩

def ixOf (b1 b2 b3 b4 : Bool) : Option Nat := [b1, b2, b3, b4].findIdx? id
/-- what the four questions say, and that the class is one of the four -/
structure Kinds (K : PySem.W.Frag) (C C1 C2 C3 C4 : Addr) (n : Nat) : Prop where
  ex : ∃ b1 b2 b3 b4, PySem.W.kitOne K (.ref C) (.ref C1) = some b1 ∧ PySem.W.kitOne K (.ref C) (.ref C2) = some b2 ∧ PySem.W.kitOne K (.ref C) (.ref C3) = some b3 ∧ PySem.W.kitOne K (.ref C) (.ref C4) = some b4 ∧
    [b1, b2, b3, b4] = (List.range 4).map fun j => decide (j = n)
  lt : n < 4
  ve : PySem.W.kitOne K (.ref C) (.type "ValueError") = some true
theorem cls_walk {X : Cx} {a t C C1 C2 C3 C4 : Addr} {oe : Obj} {ps : Nat → Pos} {c1 c2 c3 c4 : Str} {n : Nat} {several last : Stmt} {tl : TS} (cx : ClsX X c1 c2 c3 c4 C1 C2 C3 C4) (hp : (a, oe) ∈ X.pn) (xf : XcF X.K C) (hz : Zd (.ref C) none t oe)
    (hf : ∃ fs, oe.data = .fields fs) (kd : Kinds X.K C C1 C2 C3 C4 n) (hl : PS X last tl) (hln : ((ps 20).endLine == (ps 22).line) = true) :
    PSs X (clsBody c1 c2 c3 c4 several last ps) (fun D σ H => σ.length = 2 ∧ σ[0]? = some (some (.ref a)) ∧ H t = some (.tup []) ∧
      ∀ l, H l = none → tl D (σ.set 1 (some (.ref l))) (upd H l (.lst [.bl (decide (0 = n)), .bl (decide (1 = n)), .bl (decide (2 = n)), .bl (decide (3 = n))]))) := by
  obtain ⟨b1, b2, b3, b4, k1, k2, k3, k4, kb⟩ := kd.ex
  have kb' : [b1, b2, b3, b4] = [decide (0 = n), decide (1 = n), decide (2 = n), decide (3 = n)] := kb
  injection kb' with e1 kb'
  injection kb' with e2 kb'
  injection kb' with e3 kb'
  injection kb' with e4 kb'
  subst e1 e2 e3 e4
  have hNd : X.N.Nodup := by rw [cx.nN]; decide +kernel
  have hN1 : X.N[1]? = some ("_law_kinds" : Str) := by rw [cx.nN]; rfl
  have s1 := ps_set (pos := ps 18) (pos' := ps 0) hNd hN1 (.inl cx.l1)
    (pe_lst (pos := ps 17) (pa_cons (pe_isC (p1 := ps 1) (p2 := ps 2) (p3 := ps 3) (p4 := ps 4) cx.nN cx.v0 cx.g0 cx.g1 cx.d1 hp xf.ex hz hf) (pa_cons (pe_isC (p1 := ps 5) (p2 := ps 6) (p3 := ps 7) (p4 := ps 8) cx.nN cx.v0 cx.g0 cx.g2 cx.d2 hp xf.ex hz hf)
      (pa_cons (pe_isC (p1 := ps 9) (p2 := ps 10) (p3 := ps 11) (p4 := ps 12) cx.nN cx.v0 cx.g0 cx.g3 cx.d3 hp xf.ex hz hf) (pa_cons (pe_isC (p1 := ps 13) (p2 := ps 14) (p3 := ps 15) (p4 := ps 16) cx.nN cx.v0 cx.g0 cx.g4 cx.d4 hp xf.ex hz hf) pa_nil)))))
    rfl (.inr cx.l1)
  have hun := cx.un
  have cnt := pe_bm (o := .Name "_law_kinds" (ps 19)) (name := "count") (apos := ps 20) (cpos := ps 22) F.plainAttrs_list F.slot_list_count F.type_list_count (mt_cnt (X := X) (by omega)) (pe_var (pos := ps 19) hN1 cx.v1) (pa_cons (pe_bl (X := X) (b := true) (j := 0) (pos := ps 21)) pa_nil) rfl rfl hln rfl rfl
  have test := (pw_or (pos := ps 35) (pt_cmpR (pos := ps 24) op_ne cnt (pe_int (i := 1) (j := 0) (pos := ps 23)) (nobehind _ (by decide) (by decide)))
    (pw_or (pos := ps 35) (pt_not (pos := ps 29) (pt_truth (pe_isV (p1 := ps 25) (p2 := ps 26) (p3 := ps 27) (p4 := ps 28) cx.nN cx.v0 cx.g0 cx.g5 hp xf.ex hz hf) fun _ => rfl))
      (pw_or1 (pos := ps 35) (pt_cmpR (pos := ps 34) op_ne (pe_strE (p1 := ps 30) (p2 := ps 31) (p4 := ps 32) cx.nN cx.v0 cx.g6 (by omega) hp xf hz hf) (pe_str (x := "") (j := 0) (pos := ps 33)) (nobehind _ (by decide) (by decide)))))).pt
  have all := pss_cons s1 (pss_cons (ps_if (pos := ps 36) test (pss_one (ps_never (st := several))) pss_nil) (pss_one hl))
  refine ⟨fun pins s σ H D I ⟨hlen, h0, ht, hq⟩ => all.run pins s σ H D I ?_⟩
  refine ⟨h0, _, k1, h0, _, k2, h0, _, k3, h0, _, k4, ?_⟩
  refine ⟨by show 4 ≤ sizeLine; rw [sizeLine_eq]; decide, fun l hl => ?_⟩
  have hs1 : (σ.set 1 (some (.ref l)))[1]? = some (some (.ref l)) := List.getElem?_set_self (by omega)
  have hs0 : (σ.set 1 (some (.ref l)))[0]? = some (some (.ref a)) := by rw [List.getElem?_set_ne (by decide)]; exact h0
  have ht2 : (upd H l (.lst [.bl (decide (0 = n)), .bl (decide (1 = n)), .bl (decide (2 = n)), .bl (decide (3 = n))])) t = some (.tup []) := by rw [upd_ne (ne_of_none ht hl)]; exact ht
  have hll : SqL X.K (upd H l (.lst [.bl (decide (0 = n)), .bl (decide (1 = n)), .bl (decide (2 = n)), .bl (decide (3 = n))])) l [.bl (decide (0 = n)), .bl (decide (1 = n)), .bl (decide (2 = n)), .bl (decide (3 = n))] := .inl (.inl upd_same)
  refine ⟨_, hs1, .inl ⟨rfl, _, hll⟩, l, _, .bool true, [.bool (decide (0 = n)), .bool (decide (1 = n)), .bool (decide (2 = n)), .bool (decide (3 = n))], rfl, rfl, .lst hll (.cons (.bl _) (.cons (.bl _) (.cons (.bl _) (.cons (.bl _) .nil)))), .bl true, rfl, rfl, by decide, ?_⟩
  have hc : ([PyData.bool (decide (0 = n)), .bool (decide (1 = n)), .bool (decide (2 = n)), .bool (decide (3 = n))].countP fun z => PyData.eqv z (.bool true)) = 1 := by
    have h4 := kd.lt
    have : n = 0 ∨ n = 1 ∨ n = 2 ∨ n = 3 := by omega
    rcases this with rfl | rfl | rfl | rfl <;> decide +kernel
  rw [hc]
  refine ⟨rfl, false, rfl, ?_⟩
  refine ⟨hs0, true, kd.ve, true, rfl, ?_⟩
  refine ⟨hs0, ht2, rfl, false, by decide +kernel, ?_⟩
  exact hq l hl
/-- ["protocol", ..][_law_kinds.index(True)] -/
theorem clsIx_walk {X : Cx} {C1 C2 C3 C4 : Addr} {ps : Nat → Pos} {c1 c2 c3 c4 : Str} {n : Nat} (cx : ClsX X c1 c2 c3 c4 C1 C2 C3 C4) (hn : n < 4) (hln : ((ps 43).endLine == (ps 45).line) = true) :
    PE X (clsIx ps) (fun σ H Q => ∃ l, σ[1]? = some (some (.ref l)) ∧ H l = some (.lst [.bl (decide (0 = n)), .bl (decide (1 = n)), .bl (decide (2 = n)), .bl (decide (3 = n))]) ∧ ∀ p, H p = none → Q (.str (kindS n)) (upd H p (.lst [.str "protocol", .str "formula", .str "word", .str "much"]))) := by
  have hN1 : X.N[1]? = some ("_law_kinds" : Str) := by rw [cx.nN]; rfl
  have ix := pe_bm (o := .Name "_law_kinds" (ps 42)) (name := "index") (apos := ps 43) (cpos := ps 45) F.plainAttrs_list F.slot_list_index F.type_list_index (mt_index (X := X)) (pe_var (pos := ps 42) hN1 cx.v1) (pa_cons (pe_bl (X := X) (b := true) (j := 0) (pos := ps 44)) pa_nil) rfl rfl hln rfl rfl
  have all := pe_ix (pos := ps 46) ix_list (pe_lst (pos := ps 41) (pa_cons (pe_str (X := X) (x := "protocol") (j := 0) (pos := ps 37)) (pa_cons (pe_str (X := X) (x := "formula") (j := 0) (pos := ps 38)) (pa_cons (pe_str (X := X) (x := "word") (j := 0) (pos := ps 39)) (pa_cons (pe_str (X := X) (x := "much") (j := 0) (pos := ps 40)) pa_nil))))) ix (by intro _ _; rfl)
  refine ⟨fun pins s σ H Q I ⟨l, h1, hl, q⟩ => all.run pins s σ H Q I ?_⟩
  refine ⟨by show 4 ≤ sizeLine; rw [sizeLine_eq]; decide, fun p hp => ?_⟩
  have hl2 : SqL X.K (upd H p (.lst [.str "protocol", .str "formula", .str "word", .str "much"])) l [.bl (decide (0 = n)), .bl (decide (1 = n)), .bl (decide (2 = n)), .bl (decide (3 = n))] := .inl (.inl (by rw [upd_ne (ne_of_none hl hp)]; exact hl))
  refine ⟨_, h1, .inl ⟨rfl, _, hl2⟩, l, _, _, n, .bl true, rfl, rfl, hl2, rfl, rfl, ?_, rfl, ?_, p, _, n, .str (kindS n), rfl, rfl, .inl (.inl upd_same), ?_, q p hp⟩
  all_goals (have h4 : n = 0 ∨ n = 1 ∨ n = 2 ∨ n = 3 := by omega)
  · rcases h4 with rfl | rfl | rfl | rfl <;> rfl
  · intro m z hm hz
    rcases h4 with rfl | rfl | rfl | rfl
    · omega
    · have : m = 0 := by omega
      subst this
      cases hz
      rfl
    · have : m = 0 ∨ m = 1 := by omega
      rcases this with rfl | rfl <;> (cases hz; rfl)
    · have : m = 0 ∨ m = 1 ∨ m = 2 := by omega
      rcases this with rfl | rfl | rfl <;> (cases hz; rfl)
  · rcases h4 with rfl | rfl | rfl | rfl <;> rfl
end
end PM
set_option Elab.async false
set_option linter.all false
set_option maxRecDepth 100000
set_option maxHeartbeats 1000000
/-! PM: the expressions' rules: operators, comparisons, places of sequences, displays. -/
namespace PM
open PySem PySem.Spec PyProof.Rows L2
variable [Cur]
structure Wor (X : Cx) (W : WX) : Prop where
  calm : X.calm = true
  nd : X.N.Nodup
  hu : X.A.units + 70 < cLine
  gd : X.A.guards = some []
  tk : TakesA X W
  cp : X.prog = Cur.P
  cw : X.w = Cur.w
theorem IxR.imp {X : Cx} {r r' : R2} (h : IxR X r) (k : ∀ x y H Q, r' x y H Q → r x y H Q) : IxR X r' := fun a b p s σ H x y v u Q I r1 r2 q e => h a b p s σ H x y v u Q I r1 r2 (k x y H Q q) e
section
variable {X : Cx} {Γ : Ctx} {W : WX} {a b c e : Expr} {a' b' c' e' : E} {pos : Pos}

/-! ### two operands -/
/-- both places, and what is to be done behind them -/
def Two (K : PySem.W.Frag) (W : WX) (f : (Opd × Opd) × Fr → Res (Slot × Fr)) (x y : V) (σ : L2.St) (H : Hp) (Q : VK) : Prop := ∃ (F : Ad) (ρ : Fr) (p q : Opd), Sim K F H ρ σ ∧ OpdOk K ρ σ F H x p ∧ OpdOk K ρ σ F H y q ∧ rdAt K W (f ((p, q), ρ)) (VR K) ρ F σ H Q
theorem two_of {da db : Dn} {f : (Opd × Opd) × Fr → Res (Slot × Fr)} {σ : L2.St} {H : Hp} {Q : VK}
    (h : rdG X.K W (fun ρ => (da.p ρ).bind fun x => (db.p x.2).bind fun y => f ((x.1, y.1), y.2)) (VR X.K) σ H Q) :
    rdG X.K W da.p (PR X.K) σ H fun x H1 => rdG X.K W db.p (PR X.K) σ H1 fun y H2 => Two X.K W f x y σ H2 Q := by
  obtain ⟨F, ρ, s, q⟩ := h
  refine ⟨F, ρ, s, (rdAt.bind (R1 := PR X.K) bkV s q).mono fun v1 H1 ⟨F1, ρ1, x, s1, st1, r1, q1⟩ => ?_⟩
  refine ⟨F1, ρ1, s1, (rdAt.bind (R1 := PR X.K) bkV s1 q1).mono fun v2 H2 ⟨F2, ρ2, y, s2, st2, r2, q2⟩ => ?_⟩
  exact ⟨F2, ρ2, x, y, s2, r1.opd.step s1 st2, r2.opd, q2⟩
theorem one_of {da : Dn} {f : Opd × Fr → Res (Slot × Fr)} {σ : L2.St} {H : Hp} {Q : VK} (h : rdG X.K W (fun ρ => (da.p ρ).bind f) (VR X.K) σ H Q) :
    rdG X.K W da.p (PR X.K) σ H fun x H1 => ∃ (F : Ad) (ρ : Fr) (p : Opd), Sim X.K F H1 ρ σ ∧ OpdOk X.K ρ σ F H1 x p ∧ rdAt X.K W (f (p, ρ)) (VR X.K) ρ F σ H1 Q := by
  obtain ⟨F, ρ, s, q⟩ := h
  exact ⟨F, ρ, s, (rdAt.bind (R1 := PR X.K) bkV s q).mono fun v1 H1 ⟨F1, ρ1, x, s1, st1, r1, q1⟩ => ⟨F1, ρ1, x, s1, r1.opd, q1⟩⟩

/-! ### arithmetic -/
def rBin (K : PySem.W.Frag) (W : WX) (bop : Bop) : R2 := fun x y H Q => ∃ (F : Ad) (ρ : Fr) (σ : L2.St) (d e : PyData) (s : Slot), Sim K F H ρ σ ∧ Rq K F H x d ∧ Rq K F H y e ∧ binD bop d e = some s ∧ rdAt K W (.ok (s, ρ)) (VR K) ρ F σ H Q
def opOf : Operator → Option Bop
  | .Add => some .add
  | .Sub => some .sub
  | .Mult => some .mul
  | .FloorDiv => some .fdiv
  | .Mod => some .mod
  | .Pow => some .pow
  | _ => none
theorem bin_ints {op : Operator} {bop : Bop} (ho : opOf op = some bop) {i j k : Int} (h : binI bop i j = some k) {pins : List (Addr × Obj)} {s : Shared} {σ : L2.St} {H : Hp} {v u : Value} {Q : VK} (I : Inv X pins σ H s) (rx : RelV (.int i) v) (ry : RelV (.int j) u)
    (q : Q (.int k) H) : wpAny (model X.prog X.w) X.A (binaryOp op v u) (EP X pins σ Q) X.xe s := by
  cases op <;> cases ho
  case Add =>
    cases h
    exact op_add pins s σ H _ _ v u Q I rx ry ⟨i, j, rfl, rfl, q⟩
  case Sub =>
    cases h
    exact op_sub pins s σ H _ _ v u Q I rx ry ⟨i, j, rfl, rfl, q⟩
  case Mult =>
    dsimp only [binI] at h
    split at h
    · rename_i c
      cases h
      exact op_mul pins s σ H _ _ v u Q I rx ry ⟨i, j, rfl, rfl, c, q⟩
    · cases h
  case Mod =>
    dsimp only [binI] at h
    split at h
    · rename_i c
      cases h
      exact op_modN pins s σ H _ _ v u Q I rx ry ⟨i, j, rfl, rfl, c, q⟩
    · cases h
  case Pow =>
    dsimp only [binI] at h
    split at h
    · rename_i c
      cases h
      exact op_pow pins s σ H _ _ v u Q I rx ry ⟨i, j, rfl, rfl, c, q⟩
    · cases h
  case FloorDiv =>
    dsimp only [binI] at h
    split at h
    · rename_i c
      cases h
      exact op_fdivN pins s σ H _ _ v u Q I rx ry ⟨i, j, rfl, rfl, c, q⟩
    · cases h
theorem fits_line {n : Nat} (h : fits n = true) : n ≤ sizeLine := by
  rw [sizeLine_eq]
  exact of_decide_eq_true h
theorem bin_op {op : Operator} {bop : Bop} (ho : opOf op = some bop) : OpR X (binaryOp op) (rBin X.K W bop) := by
  intro pins s σ H x y v u Q I rx ry ⟨F, ρ, σ', d, e, sl, sim, hd, he, hb, hq⟩
  have nov : ∀ {z : Slot} {v : V} {d : PyData}, z = .val d → Rp X.K F H v d → VR X.K ρ σ' H ρ F H z v := fun {z v d} e r => by
    subst e
    exact ⟨r, fun o a e => by cases e⟩
  cases d with
  | int i =>
    cases hd
    cases e with
    | int j =>
      cases he
      obtain ⟨k, hk, rfl⟩ := Option.map_eq_some_iff.mp hb
      exact bin_ints ho hk I rx ry (hq.done sim (nov rfl (.int k)))
    | none => cases hb
    | bool _ => cases hb
    | str _ => cases hb
    | list _ => cases hb
    | tuple _ => cases hb
    | dict _ => cases hb
  | list xs =>
    cases e with
    | list ys =>
      dsimp only [binD] at hb
      split at hb
      · rename_i c
        cases hb
        obtain ⟨rfl, c2⟩ := c
        obtain ⟨l, us, rfl, h1, h2⟩ := hd
        obtain ⟨l2, ws, rfl, h3, h4⟩ := he
        cases op <;> cases ho
        exact op_catL pins s σ H _ _ v u Q I rx ry ⟨l, l2, us, ws, rfl, rfl, h1, h3, by rw [h2.len, h4.len]; exact fits_line c2, fun p hp => hq.newLst sim hp (h2.app h4)⟩
      · cases hb
    | int _ => cases hb
    | none => cases hb
    | bool _ => cases hb
    | str _ => cases hb
    | tuple _ => cases hb
    | dict _ => cases hb
  | tuple xs =>
    cases e with
    | tuple ys =>
      dsimp only [binD] at hb
      split at hb
      · rename_i c
        cases hb
        obtain ⟨rfl, c2⟩ := c
        cases op <;> cases ho
        cases hd with
        | @tup l us _ h1 h2 =>
          have he' : Rp X.K F H y (.tuple ys) := he
          cases he' with
          | @tup l2 ws _ h3 h4 =>
            refine op_catA pins s σ H _ _ v u Q I rx ry ⟨l, l2, us, ws, rfl, rfl, h1.sq, h3.sq, by rw [h2.len, h4.len]; exact fits_line c2, fun e => ?_, fun _ e => ?_, fun _ _ p hp => hq.newTup sim hp (h2.app h4)⟩
            · subst e
              cases h2
              exact hq.done sim (nov rfl (.tup h3 h4))
            · subst e
              cases h4
              rw [List.append_nil] at hq
              exact hq.done sim (nov rfl (.tup h1 h2))
      · cases hb
    | int k =>
      dsimp only [binD] at hb
      split at hb
      · rename_i c
        cases hb
        obtain ⟨rfl, c1, c2, c3, c4⟩ := c
        cases op <;> cases ho
        cases he
        cases hd with
        | @tup l us _ h1 h2 =>
          have e1 := h2.len
          have rep : ∀ n : Nat, RpA X.K F H (List.replicate n us).flatten (List.replicate n xs).flatten := fun n => by
            induction n with
            | zero => exact .nil
            | succ n ih =>
              rw [List.replicate_succ, List.replicate_succ, List.flatten_cons, List.flatten_cons]
              exact h2.app ih
          by_cases ck : k = 1
          · subst ck
            refine op_once pins s σ H _ _ v u Q I rx ry ⟨l, us, rfl, rfl, h1.sq, hq.done sim (nov rfl (.tup h1 ?_))⟩
            have e2 : (List.replicate (1 : Int).toNat xs).flatten = xs := by
              show (List.replicate 1 xs).flatten = xs
              simp
            rw [e2]
            exact h2
          refine op_repT pins s σ H _ _ v u Q I rx ry ⟨l, k, us, rfl, rfl, h1.sq, fun z => ?_, by omega, c3, by omega, fun p hp => hq.newTup sim hp (rep _)⟩
          subst z
          cases h2
          exact c1 rfl
      · cases hb
    | none => cases hb
    | bool _ => cases hb
    | str _ => cases hb
    | list _ => cases hb
    | dict _ => cases hb
  | none => cases hb
  | bool _ => cases hb
  | str _ => cases hb
  | dict _ => cases hb
theorem ok_bin {op : Operator} {bop : Bop} (ho : opOf op = some bop) (ha : Ok X Γ W a a') (hb : Ok X Γ W b b') : Ok X Γ W (.BinOp a op b pos) (.bin bop a' b') := by
  refine .of rfl (PE.imp (pe_op (bin_op (W := W) ho) ha.p hb.p) fun σ H Q h => ?_) fun _ => rfl
  obtain ⟨F, ρ, s, q⟩ := two_of (f := fun x => (Res.of ((x.1.1.dat x.2).bind fun p => (x.1.2.dat x.2).bind fun q => binD bop p q)).bind fun s => .ok (s, x.2)) h
  refine ⟨F, ρ, s, q.mono fun v1 H1 ⟨F1, ρ1, s1, q1⟩ => ⟨F1, ρ1, s1, q1.mono fun v2 H2 ⟨F2, ρ2, x, y, s2, ox, oy, q2⟩ => ?_⟩⟩
  obtain ⟨sl, es, q3⟩ := q2.of
  obtain ⟨d, hd, es⟩ := Option.bind_eq_some_iff.mp es
  obtain ⟨d2, hd2, es⟩ := Option.bind_eq_some_iff.mp es
  exact ⟨F2, ρ2, σ, d, d2, sl, s2, x.datOk s2 ox hd, y.datOk s2 oy hd2, es, q3⟩
theorem ok_neg (ha : Ok X Γ W a a') : Ok X Γ W (.UnaryOp .USub a pos) (.neg a') := by
  refine .of rfl (PE.imp (pe_un un_neg ha.p) fun σ H Q h => ?_) fun _ => rfl
  obtain ⟨F, ρ, s, q⟩ := one_of (f := fun x => match x.1.dat x.2 with | some (.int i) => .ok (.val (.int (-i)), x.2) | _ => .stuck) h
  refine ⟨F, ρ, s, q.mono fun v1 H1 ⟨F1, ρ1, x, s1, ox, q1⟩ => ?_⟩
  cases e : x.dat ρ1 with
  | none => simp only [e] at q1; exact q1.elim
  | some d =>
    simp only [e] at q1
    cases d with
    | int i =>
      have r := x.datOk s1 ox e
      cases r
      exact ⟨i, rfl, q1.done s1 ⟨.int _, fun o a e => by cases e⟩⟩
    | none => exact q1.elim
    | bool _ => exact q1.elim
    | str _ => exact q1.elim
    | list _ => exact q1.elim
    | tuple _ => exact q1.elim
    | dict _ => exact q1.elim

/-! ### comparisons -/
def copOf : CmpOp → Cop
  | .Eq => .eq
  | .NotEq => .ne
  | .Lt => .lt
  | .LtE => .le
  | .Gt => .gt
  | .GtE => .ge
  | .Is => .isN
  | .IsNot => .notN
  | .In => .inn
  | .NotIn => .notIn
def rCmp (K : PySem.W.Frag) (op : Cop) : R2 := fun x y H Q => ∃ (F : Ad) (wx wy : Option Vw) (k : Bool), (∀ w, wx = some w → VwOk K F H x w) ∧ (∀ w, wy = some w → VwOk K F H y w) ∧ cmpV op wx wy = some k ∧ Q (.bl k) H
theorem eqD_some {d e : PyData} {k : Bool} (h : eqD d e = some k) : SeqAt.shaped d = true ∧ SeqAt.shaped e = true ∧ PyData.eqv d e = k := by
  unfold eqD at h
  split at h
  · rename_i c
    rw [Bool.and_eq_true] at c
    exact ⟨c.1, c.2, Option.some.inj h⟩
  · cases h
theorem two_dat {α : Type} {wx wy : Option Vw} {f : PyData → PyData → Option α} {k : α} (h : ((Vw.dat? wx).bind fun a => (Vw.dat? wy).bind fun b => f a b) = some k) : ∃ a b, wx = some (.dat a) ∧ wy = some (.dat b) ∧ f a b = some k := by
  obtain ⟨a, ha, h⟩ := Option.bind_eq_some_iff.mp h
  obtain ⟨b, hb, h⟩ := Option.bind_eq_some_iff.mp h
  exact ⟨a, b, Vw.dat_some ha, Vw.dat_some hb, h⟩
def Vw.isNon : Vw → Bool
  | .dat .none => true
  | _ => false
theorem isN_vw {F : Ad} {H : Hp} {x : V} {w : Vw} (h : VwOk X.K F H x w) : w.isNon = decide (x = .non) := by
  cases w with
  | dat d =>
    cases d with
    | none => cases h; rfl
    | bool _ => cases h; rfl
    | int _ => cases h; rfl
    | str _ => cases h; rfl
    | list _ => obtain ⟨_, _, rfl, _⟩ := h; rfl
    | tuple _ => cases h; rfl
    | dict _ => cases h
  | dic _ => obtain ⟨_, rfl, _⟩ := h; rfl
  | set _ => obtain ⟨_, rfl, _⟩ := h; rfl
  | ins _ _ => obtain ⟨_, rfl, _⟩ := h; rfl
theorem cmp_op (wr : Wor X W) (op : CmpOp) : OpR X (compareOp op) (rCmp X.K (copOf op)) := by
  have h64 : X.A.units + 64 < cLine := by have := wr.hu; omega
  have h65 : X.A.units + 65 < cLine := by have := wr.hu; omega
  intro pins s σ H x y v u Q I rx ry ⟨F, wx, wy, k, hx, hy, hk, q⟩
  cases op with
  | Eq =>
    obtain ⟨a, b, rfl, rfl, hk⟩ := two_dat hk
    obtain ⟨s1, s2, rfl⟩ := eqD_some hk
    exact op_eqD h64 pins s σ H _ _ v u Q I rx ry ⟨a, b, Rq.dp (hx _ rfl), Rq.dp (hy _ rfl), s1, s2, q⟩
  | NotEq =>
    obtain ⟨a, b, rfl, rfl, hk⟩ := two_dat hk
    obtain ⟨k', hk', rfl⟩ := Option.map_eq_some_iff.mp hk
    obtain ⟨s1, s2, rfl⟩ := eqD_some hk'
    exact op_neD h64 pins s σ H _ _ v u Q I rx ry ⟨a, b, Rq.dp (hx _ rfl), Rq.dp (hy _ rfl), s1, s2, q⟩
  | Lt =>
    obtain ⟨a, b, rfl, rfl, hk⟩ := two_dat hk
    exact op_ord .lt h65 pins s σ H _ _ v u Q I rx ry ⟨a, b, k, Rq.dp (hx _ rfl), Rq.dp (hy _ rfl), hk, q⟩
  | LtE =>
    obtain ⟨a, b, rfl, rfl, hk⟩ := two_dat hk
    exact op_ord .le h65 pins s σ H _ _ v u Q I rx ry ⟨a, b, k, Rq.dp (hx _ rfl), Rq.dp (hy _ rfl), hk, q⟩
  | Gt =>
    obtain ⟨a, b, rfl, rfl, hk⟩ := two_dat hk
    exact op_ord .gt h65 pins s σ H _ _ v u Q I rx ry ⟨a, b, k, Rq.dp (hx _ rfl), Rq.dp (hy _ rfl), hk, q⟩
  | GtE =>
    obtain ⟨a, b, rfl, rfl, hk⟩ := two_dat hk
    exact op_ord .ge h65 pins s σ H _ _ v u Q I rx ry ⟨a, b, k, Rq.dp (hx _ rfl), Rq.dp (hy _ rfl), hk, q⟩
  | Is =>
    have key : ∃ w, wx = some w ∧ wy = some (.dat .none) ∧ k = w.isNon := by
      cases wy with
      | none => cases wx <;> cases hk
      | some wy =>
        cases wy with
        | dat d =>
          cases d with
          | none =>
            cases wx with
            | none => cases hk
            | some w =>
              refine ⟨w, rfl, rfl, ?_⟩
              cases w with
              | dat d => cases d <;> (cases hk; rfl)
              | dic _ => cases hk; rfl
              | set _ => cases hk; rfl
              | ins _ _ => cases hk; rfl
          | bool _ => cases hk
          | int _ => cases hk
          | str _ => cases hk
          | list _ => cases hk
          | tuple _ => cases hk
          | dict _ => cases hk
        | dic _ => cases hk
        | set _ => cases hk
        | ins _ _ => cases hk
    obtain ⟨w, e1, e2, e3⟩ := key
    have hn := hy _ e2
    cases hn
    have hw := hx w e1
    rw [isN_vw hw] at e3
    exact op_isN pins s σ H _ _ v u Q I rx ry ⟨rfl, by rw [← e3]; exact q⟩
  | IsNot =>
    have key : ∃ w, wx = some w ∧ wy = some (.dat .none) ∧ k = !w.isNon := by
      cases wy with
      | none => cases wx <;> cases hk
      | some wy =>
        cases wy with
        | dat d =>
          cases d with
          | none =>
            cases wx with
            | none => cases hk
            | some w =>
              refine ⟨w, rfl, rfl, ?_⟩
              cases w with
              | dat d => cases d <;> (cases hk; rfl)
              | dic _ => cases hk; rfl
              | set _ => cases hk; rfl
              | ins _ _ => cases hk; rfl
          | bool _ => cases hk
          | int _ => cases hk
          | str _ => cases hk
          | list _ => cases hk
          | tuple _ => cases hk
          | dict _ => cases hk
        | dic _ => cases hk
        | set _ => cases hk
        | ins _ _ => cases hk
    obtain ⟨w, e1, e2, e3⟩ := key
    have hn := hy _ e2
    cases hn
    have hw := hx w e1
    rw [isN_vw hw] at e3
    exact op_notN pins s σ H _ _ v u Q I rx ry ⟨rfl, by rw [← e3]; exact q⟩
  | In =>
    obtain ⟨a, ha, hk⟩ := Option.bind_eq_some_iff.mp hk
    have hxa := hx _ (Vw.dat_some ha)
    cases wy with
    | none => cases hk
    | some wy =>
      have hyw := hy _ rfl
      cases wy with
      | dat c => exact op_inA h65 pins s σ H _ _ v u Q I rx ry ⟨a, c, k, Rq.dp hxa, Rq.dp hyw, hk, q⟩
      | dic _ => obtain ⟨_, _, z⟩ := hyw; exact z.elim
      | set _ => cases hk
      | ins _ _ => cases hk
  | NotIn =>
    obtain ⟨a, ha, hk⟩ := Option.bind_eq_some_iff.mp hk
    have hxa := hx _ (Vw.dat_some ha)
    cases wy with
    | none => cases hk
    | some wy =>
      have hyw := hy _ rfl
      cases wy with
      | dat c =>
        obtain ⟨k', hk', rfl⟩ := Option.map_eq_some_iff.mp hk
        exact op_notInA h65 pins s σ H _ _ v u Q I rx ry ⟨a, c, k', Rq.dp hxa, Rq.dp hyw, hk', q⟩
      | dic _ => obtain ⟨_, _, z⟩ := hyw; exact z.elim
      | set _ => cases hk
      | ins _ _ => cases hk
theorem cmp_rd {op : CmpOp} {σ : L2.St} {H : Hp} {Q : VK} (h : rdG X.K W (dn Γ (.cmp (copOf op) a' b')).v (VR X.K) σ H Q) :
    tOp (rCmp X.K (copOf op)) (rdG X.K W (dn Γ a').p (PR X.K)) (rdG X.K W (dn Γ b').p (PR X.K)) σ H Q := by
  obtain ⟨F, ρ, s, q⟩ := two_of (f := fun x => (Res.of (cmpV (copOf op) (x.1.1.vw x.2) (x.1.2.vw x.2))).bind fun k => .ok (.val (.bool k), x.2)) h
  refine ⟨F, ρ, s, q.mono fun v1 H1 ⟨F1, ρ1, s1, q1⟩ => ⟨F1, ρ1, s1, q1.mono fun v2 H2 ⟨F2, ρ2, x, y, s2, ox, oy, q2⟩ => ?_⟩⟩
  obtain ⟨k, ek, q3⟩ := q2.of
  exact ⟨F2, _, _, k, fun w e => x.vwOk s2 ox e, fun w e => y.vwOk s2 oy e, ek, q3.done s2 ⟨.bl k, fun o a e => by cases e⟩⟩
/-- a test whose value is True or False -/
theorem tst_of {d : Dn} {m : Fr → Res (Slot × Fr)} (hd : d = mkDn none m) {σ : L2.St} {H : Hp} {Q : Bool → Hp → Prop} (hb : ∀ ρ s ρ', m ρ = .ok (s, ρ') → ∃ b, s = .val (.bool b)) (h : rdT X.K W d.t σ H Q) :
    rdG X.K W d.v (VR X.K) σ H fun x H' => ∃ k, x = .bl k ∧ Q k H' := by
  obtain ⟨F, ρ, s, q⟩ := h
  subst hd
  refine ⟨F, ρ, s, ?_⟩
  have q : rdAt X.K W (((m ρ).bind fun x => (.ok (Opd.tmp x.1, x.2) : Res (Opd × Fr))).bind fun x => (Res.of (truV (x.1.vw x.2))).bind fun k => .ok (k, x.2)) BR ρ F σ H Q := q
  show rdAt X.K W (m ρ) (VR X.K) ρ F σ H _
  revert q
  cases e : m ρ with
  | ok r =>
    obtain ⟨sl, ρ'⟩ := r
    obtain ⟨b, rfl⟩ := hb ρ sl ρ' e
    intro q v F' H' s' st r
    have r1 := r.1
    cases r1
    exact ⟨b, rfl, q b F' H' s' st rfl⟩
  | exc c => exact fun q => q
  | stuck => exact fun q => q
theorem ok_cmp (wr : Wor X W) {op : CmpOp} (hm : behindInMarks op b = false) (ha : Ok X Γ W a a') (hb : Ok X Γ W b b') : Ok X Γ W (.Compare a [op] [b] pos) (.cmp (copOf op) a' b') := by
  have hv : PEV X W (.Compare a [op] [b] pos) (dn Γ (.cmp (copOf op) a' b')) := PE.imp (pe_cmpR (cmp_op wr op) ha.p hb.p hm) fun σ H Q h => cmp_rd h
  refine ⟨hv, pep_none rfl hv, PT.imp (pt_cmpR (cmp_op wr op) ha.p hb.p hm) fun σ H Q h => ?_⟩
  have h1 := tst_of (d := dn Γ (.cmp (copOf op) a' b')) rfl (fun ρ s ρ' e => ?_) h
  · exact cmp_rd h1
  · cases h1 : (dn Γ a').p ρ with
    | ok x =>
      rw [h1] at e
      cases h2 : (dn Γ b').p x.2 with
      | ok y =>
        simp only [Res.bind_ok, h2] at e
        cases h3 : cmpV (copOf op) (x.1.vw y.2) (y.1.vw y.2) with
        | none => rw [h3] at e; cases e
        | some k => rw [h3] at e; cases e; exact ⟨k, rfl⟩
      | exc c => simp only [Res.bind_ok, h2] at e; cases e
      | stuck => simp only [Res.bind_ok, h2] at e; cases e
    | exc c => rw [h1] at e; cases e
    | stuck => rw [h1] at e; cases e
end
end PM
set_option Elab.async false
set_option linter.all false
set_option maxRecDepth 100000
set_option maxHeartbeats 1000000
/-! PM: the evaluator's equations at frames that are written out. -/
namespace PM
open PySem
section
variable {Γ : Ctx} {s : Slot} {r : Fr} {a b c : E} {es : List E} {d : PyData} {i : Nat}
theorem e_var_v0 {d : PyData} : (dn Γ (.var 0)).v (.val d :: r) = .ok (.val d, .val d :: r) := rfl
theorem e_cst_v : (dn Γ (.cst d)).v (s :: r) = .ok (.val d, s :: r) := rfl
/-- a name's place -/
def plc (i : Nat) : Option Slot → Fr → Res (Opd × Fr)
  | some (.val x), ρ => .ok (.tmp (.val x), ρ)
  | some .no, _ => .stuck
  | none, _ => .stuck
  | some _, ρ => .ok (.slot i, ρ)
theorem e_var_p : (dn Γ (.var i)).p (s :: r) = plc i (s :: r)[i]? (s :: r) := by
  show (match (s :: r)[i]? with
    | some (.val x) => Res.ok (Opd.tmp (.val x), s :: r)
    | some .no => .stuck
    | none => .stuck
    | some _ => .ok (.slot i, s :: r)) = _
  cases (s :: r)[i]? with
  | none => rfl
  | some x => cases x <;> rfl
def lod (i : Nat) : Option Slot → Fr → Res (Slot × Fr)
  | some (.val d), ρ => .ok (.val d, ρ)
  | some (.ins c fs), ρ => .ok (.ins c fs, ρ)
  | some (.own o), ρ => (Res.of (Slot.own o).fz).bind fun s => .ok (s, ρ.set i s)
  | _, _ => .stuck
theorem e_var_v : (dn Γ (.var i)).v (s :: r) = lod i (s :: r)[i]? (s :: r) := by
  show (match (s :: r)[i]? with
    | some (.val d) => Res.ok (Slot.val d, s :: r)
    | some (.ins c fs) => .ok (.ins c fs, s :: r)
    | some (.own o) => (Res.of (Slot.own o).fz).bind fun s' => .ok (s', (s :: r).set i s')
    | _ => .stuck) = _
  cases (s :: r)[i]? with
  | none => rfl
  | some x => cases x <;> rfl
theorem e_d {x : E} : (dn Γ x).d (s :: r) = ((dn Γ x).v (s :: r)).bind fun z => (Res.of z.1.toD).bind fun y => .ok (y, z.2) := rfl
/-- a place of what is no name -/
def tmp (x : Res (Slot × Fr)) : Res (Opd × Fr) := x.bind fun x => .ok (.tmp x.1, x.2)
theorem e_cmp {op : Cop} : (dn Γ (.cmp op a b)).v (s :: r) = ((dn Γ a).p (s :: r)).bind fun x => ((dn Γ b).p x.2).bind fun y => (Res.of (cmpV op (x.1.vw y.2) (y.1.vw y.2))).bind fun k => .ok (.val (.bool k), y.2) := rfl
theorem e_bin {op : Bop} : (dn Γ (.bin op a b)).v (s :: r) = ((dn Γ a).p (s :: r)).bind fun x => ((dn Γ b).p x.2).bind fun y => (Res.of ((x.1.dat y.2).bind fun p => (y.1.dat y.2).bind fun q => binD op p q)).bind fun s => .ok (s, y.2) := rfl
theorem e_sub : (dn Γ (.sub a b)).v (s :: r) = ((dn Γ a).p (s :: r)).bind fun x => ((dn Γ b).d x.2).bind fun y => (Res.of (subV (x.1.vw y.2) y.1)).bind fun d => .ok (.val d, y.2) := rfl
theorem e_isi {t : Ty} : (dn Γ (.isi a t)).v (s :: r) = ((dn Γ a).p (s :: r)).bind fun x => (Res.of ((x.1.dat x.2).map fun d => isiD d t)).bind fun k => .ok (.val (.bool k), x.2) := rfl
theorem e_cmp_t {op : Cop} : (dn Γ (.cmp op a b)).t (s :: r) = ((dn Γ (.cmp op a b)).p (s :: r)).bind fun x => (Res.of (truV (x.1.vw x.2))).bind fun k => .ok (k, x.2) := rfl
theorem e_isi_t {t : Ty} : (dn Γ (.isi a t)).t (s :: r) = ((dn Γ (.isi a t)).p (s :: r)).bind fun x => (Res.of (truV (x.1.vw x.2))).bind fun k => .ok (k, x.2) := rfl
theorem e_not_t : (dn Γ (.not a)).t (s :: r) = ((dn Γ a).t (s :: r)).bind fun x => .ok (!x.1, x.2) := rfl
theorem e_and_t : (dn Γ (.and a b)).t (s :: r) = ((dn Γ a).t (s :: r)).bind fun x => if x.1 then (dn Γ b).t x.2 else .ok (false, x.2) := rfl
theorem e_or_t : (dn Γ (.or a b)).t (s :: r) = ((dn Γ a).t (s :: r)).bind fun x => if x.1 then .ok (true, x.2) else (dn Γ b).t x.2 := rfl
theorem e_exB {st : S} {ss : List S} : exB Γ (st :: ss) (s :: r) = seqR (ex Γ st (s :: r)) (exB Γ ss) := rfl
theorem e_nil : exB Γ [] (s :: r) = .ok (.next, s :: r) := rfl
theorem e_ite {ta tb : List S} : ex Γ (.ite c ta tb) (s :: r) = ((dn Γ c).t (s :: r)).bind fun x => if x.1 then exB Γ ta x.2 else exB Γ tb x.2 := rfl
theorem e_ret {e : E} : ex Γ (.ret e) (s :: r) = (retV (dn Γ e) (s :: r)).bind fun x => .ok (.ret x.1, x.2) := rfl
theorem e_asg {t : T} {e : E} : ex Γ (.asg t e) (s :: r) = ((dn Γ e).v (s :: r)).bind fun x => (Res.of (asgN t x.1 x.2)).bind fun q => .ok (.next, q) := rfl
theorem seqR_next {ρ : Fr} {f : Fr → Res (Flow × Fr)} : seqR (.ok (.next, ρ)) f = f ρ := rfl
theorem seqR_ret {x : Slot} {ρ : Fr} {f : Fr → Res (Flow × Fr)} : seqR (.ok (.ret x, ρ)) f = .ok (.ret x, ρ) := rfl
theorem tmp_ok {x : Slot} {ρ : Fr} : tmp (.ok (x, ρ)) = .ok (.tmp x, ρ) := rfl
theorem vr_cst {d : PyData} : (dn Γ (.cst d)).vr = none := rfl
theorem vr_glo {x : Str} : (dn Γ (.glo x)).vr = none := rfl
theorem vr_bin {op : Bop} : (dn Γ (.bin op a b)).vr = none := rfl
theorem vr_neg  : (dn Γ (.neg a)).vr = none := rfl
theorem vr_not  : (dn Γ (.not a)).vr = none := rfl
theorem vr_and  : (dn Γ (.and a b)).vr = none := rfl
theorem vr_or  : (dn Γ (.or a b)).vr = none := rfl
theorem vr_ite  : (dn Γ (.ite c a b)).vr = none := rfl
theorem vr_cmp {op : Cop} : (dn Γ (.cmp op a b)).vr = none := rfl
theorem vr_chn {o1 o2 : Cop} : (dn Γ (.chn o1 o2 a b c)).vr = none := rfl
theorem vr_tup  : (dn Γ (.tup es)).vr = none := rfl
theorem vr_lst  : (dn Γ (.lst es)).vr = none := rfl
theorem vr_sub  : (dn Γ (.sub a b)).vr = none := rfl
theorem vr_slc {hl hh : Bool} : (dn Γ (.slc a hl b hh c)).vr = none := rfl
theorem vr_isi {ty : Ty} : (dn Γ (.isi a ty)).vr = none := rfl
theorem vr_call {f : Str} {io : Bool} : (dn Γ (.call f io es)).vr = none := rfl
theorem vr_meth {cs : List Str} {m : Str} {io : Bool} : (dn Γ (.meth cs m io a es)).vr = none := rfl
theorem vr_new {f : Str} : (dn Γ (.new f es)).vr = none := rfl
theorem vr_blt {bf : Bf} : (dn Γ (.blt bf es)).vr = none := rfl
theorem vr_bme {mf : Mf} : (dn Γ (.bme mf a es)).vr = none := rfl
theorem vr_fld {f : Str} : (dn Γ (.fld a f)).vr = none := rfl
theorem vr_lc {tg : T} {own : List Nat} : (dn Γ (.lc a tg b c own)).vr = none := rfl
theorem e_cst_t {d : PyData} : (dn Γ (.cst d)).t (s :: r) = ((dn Γ (.cst d)).p (s :: r)).bind fun x => (Res.of (truV (x.1.vw x.2))).bind fun k => .ok (k, x.2) := rfl
theorem e_glo_t {x : Str} : (dn Γ (.glo x)).t (s :: r) = ((dn Γ (.glo x)).p (s :: r)).bind fun x => (Res.of (truV (x.1.vw x.2))).bind fun k => .ok (k, x.2) := rfl
theorem e_bin_t {op : Bop} : (dn Γ (.bin op a b)).t (s :: r) = ((dn Γ (.bin op a b)).p (s :: r)).bind fun x => (Res.of (truV (x.1.vw x.2))).bind fun k => .ok (k, x.2) := rfl
theorem e_neg_t  : (dn Γ (.neg a)).t (s :: r) = ((dn Γ (.neg a)).p (s :: r)).bind fun x => (Res.of (truV (x.1.vw x.2))).bind fun k => .ok (k, x.2) := rfl
theorem e_chn_t {o1 o2 : Cop} : (dn Γ (.chn o1 o2 a b c)).t (s :: r) = ((dn Γ (.chn o1 o2 a b c)).p (s :: r)).bind fun x => (Res.of (truV (x.1.vw x.2))).bind fun k => .ok (k, x.2) := rfl
theorem e_tup_t  : (dn Γ (.tup es)).t (s :: r) = ((dn Γ (.tup es)).p (s :: r)).bind fun x => (Res.of (truV (x.1.vw x.2))).bind fun k => .ok (k, x.2) := rfl
theorem e_lst_t  : (dn Γ (.lst es)).t (s :: r) = ((dn Γ (.lst es)).p (s :: r)).bind fun x => (Res.of (truV (x.1.vw x.2))).bind fun k => .ok (k, x.2) := rfl
theorem e_sub_t  : (dn Γ (.sub a b)).t (s :: r) = ((dn Γ (.sub a b)).p (s :: r)).bind fun x => (Res.of (truV (x.1.vw x.2))).bind fun k => .ok (k, x.2) := rfl
theorem e_slc_t {hl hh : Bool} : (dn Γ (.slc a hl b hh c)).t (s :: r) = ((dn Γ (.slc a hl b hh c)).p (s :: r)).bind fun x => (Res.of (truV (x.1.vw x.2))).bind fun k => .ok (k, x.2) := rfl
theorem e_call_t {f : Str} {io : Bool} : (dn Γ (.call f io es)).t (s :: r) = ((dn Γ (.call f io es)).p (s :: r)).bind fun x => (Res.of (truV (x.1.vw x.2))).bind fun k => .ok (k, x.2) := rfl
theorem e_meth_t {cs : List Str} {m : Str} {io : Bool} : (dn Γ (.meth cs m io a es)).t (s :: r) = ((dn Γ (.meth cs m io a es)).p (s :: r)).bind fun x => (Res.of (truV (x.1.vw x.2))).bind fun k => .ok (k, x.2) := rfl
theorem e_new_t {f : Str} : (dn Γ (.new f es)).t (s :: r) = ((dn Γ (.new f es)).p (s :: r)).bind fun x => (Res.of (truV (x.1.vw x.2))).bind fun k => .ok (k, x.2) := rfl
theorem e_blt_t {bf : Bf} : (dn Γ (.blt bf es)).t (s :: r) = ((dn Γ (.blt bf es)).p (s :: r)).bind fun x => (Res.of (truV (x.1.vw x.2))).bind fun k => .ok (k, x.2) := rfl
theorem e_bme_t {mf : Mf} : (dn Γ (.bme mf a es)).t (s :: r) = ((dn Γ (.bme mf a es)).p (s :: r)).bind fun x => (Res.of (truV (x.1.vw x.2))).bind fun k => .ok (k, x.2) := rfl
theorem e_fld_t {f : Str} : (dn Γ (.fld a f)).t (s :: r) = ((dn Γ (.fld a f)).p (s :: r)).bind fun x => (Res.of (truV (x.1.vw x.2))).bind fun k => .ok (k, x.2) := rfl
theorem e_lc_t {tg : T} {own : List Nat} : (dn Γ (.lc a tg b c own)).t (s :: r) = ((dn Γ (.lc a tg b c own)).p (s :: r)).bind fun x => (Res.of (truV (x.1.vw x.2))).bind fun k => .ok (k, x.2) := rfl
theorem e_var_t : (dn Γ (.var i)).t (s :: r) = ((dn Γ (.var i)).p (s :: r)).bind fun x => (Res.of (truV (x.1.vw x.2))).bind fun k => .ok (k, x.2) := rfl
theorem p_none {e : E} (h : (dn Γ e).vr = none) : (dn Γ e).p (s :: r) = tmp ((dn Γ e).v (s :: r)) := by
  unfold Dn.p
  rw [h]
  rfl
theorem retV_none {e : E} (h : (dn Γ e).vr = none) : retV (dn Γ e) (s :: r) = (dn Γ e).v (s :: r) := by
  unfold retV
  rw [h]
def retA (i : Nat) : Option Slot → Fr → Res (Slot × Fr) → Res (Slot × Fr)
  | some (.own o), ρ, _ => .ok (.own o, ρ.set i .no)
  | _, _, x => x
theorem retV_var : retV (dn Γ (.var i)) (s :: r) = retA i (s :: r)[i]? (s :: r) ((dn Γ (.var i)).v (s :: r)) := by
  show (match (s :: r)[i]? with
    | some (.own o) => Res.ok (Slot.own o, (s :: r).set i .no)
    | _ => (dn Γ (.var i)).v (s :: r)) = _
  cases (s :: r)[i]? with
  | none => rfl
  | some x => cases x <;> rfl
theorem e_glo {x : Str} : (dn Γ (.glo x)).v (s :: r) = (Res.of (Γ.glo x)).bind fun d => .ok (.val d, s :: r) := rfl
def negV : Option PyData → Option PyData
  | some (.int i) => some (.int (-i))
  | _ => none
theorem e_neg : (dn Γ (.neg a)).v (s :: r) = ((dn Γ a).p (s :: r)).bind fun x => (Res.of (negV (x.1.dat x.2))).bind fun d => .ok (.val d, x.2) := by
  show ((dn Γ a).p (s :: r)).bind _ = _
  congr 1
  funext x
  cases h : x.1.dat x.2 with
  | none => rfl
  | some d => cases d <;> rfl
theorem e_not : (dn Γ (.not a)).v (s :: r) = ((dn Γ a).p (s :: r)).bind fun x => (Res.of (truV (x.1.vw x.2))).bind fun k => .ok (.val (.bool (!k)), x.2) := rfl
theorem e_ite_v : (dn Γ (.ite c a b)).v (s :: r) = ((dn Γ c).t (s :: r)).bind fun x => if x.1 then (dn Γ a).v x.2 else (dn Γ b).v x.2 := rfl
theorem e_ite_t : (dn Γ (.ite c a b)).t (s :: r) = ((dn Γ c).t (s :: r)).bind fun x => if x.1 then (dn Γ a).t x.2 else (dn Γ b).t x.2 := rfl
theorem e_chn {o1 o2 : Cop} : (dn Γ (.chn o1 o2 a b c)).v (s :: r) = ((dn Γ a).p (s :: r)).bind fun x => ((dn Γ b).p x.2).bind fun y => (Res.of (cmpV o1 (x.1.vw y.2) (y.1.vw y.2))).bind fun k =>
      if k then ((dn Γ c).p y.2).bind fun z => (Res.of (cmpV o2 (y.1.vw z.2) (z.1.vw z.2))).bind fun k => .ok (.val (.bool k), z.2) else .ok (.val (.bool false), y.2) := rfl
theorem e_dns {e : E} : dns Γ (e :: es) = dn Γ e :: dns Γ es := rfl
theorem e_dns0 : dns Γ [] = [] := rfl
theorem e_dVs {x : Dn} {xs : List Dn} : dVs (x :: xs) (s :: r) = (x.d (s :: r)).bind fun z => (dVs xs z.2).bind fun y => .ok (z.1 :: y.1, y.2) := rfl
theorem e_dVs0 : dVs [] (s :: r) = .ok ([], s :: r) := rfl
theorem e_dPs {x : Dn} {xs : List Dn} : dPs (x :: xs) (s :: r) = (x.p (s :: r)).bind fun z => (dPs xs z.2).bind fun y => .ok (z.1 :: y.1, y.2) := rfl
theorem e_dPs0 : dPs [] (s :: r) = .ok ([], s :: r) := rfl
theorem e_dAs {x : Dn} {xs : List Dn} : dAs (x :: xs) (s :: r) = (x.v (s :: r)).bind fun z => (Res.of z.1.fz).bind fun q => (dAs xs z.2).bind fun y => .ok (q :: y.1, y.2) := rfl
theorem e_dAs0 : dAs [] (s :: r) = .ok ([], s :: r) := rfl
theorem e_tup : (dn Γ (.tup es)).v (s :: r) = (dVs (dns Γ es) (s :: r)).bind fun x => if fits x.1.length then .ok (.val (.tuple x.1), x.2) else .stuck := rfl
theorem e_lst : (dn Γ (.lst es)).v (s :: r) = (dVs (dns Γ es) (s :: r)).bind fun x => if fits x.1.length then .ok (.own (.lst x.1), x.2) else .stuck := rfl
theorem e_call {f : Str} : (dn Γ (.call f false es)).v (s :: r) = (dAs (dns Γ es) (s :: r)).bind fun x => (Γ.fn (f, none) x.1).bind fun y => .ok (y.1, x.2) := rfl
theorem e_callio {f : Str} : (dn Γ (.call f true (.var i :: es))).v (s :: r) = if lentB (s :: r) i then (dAs (dns Γ es) (s :: r)).bind fun x => callIo Γ (f, none) i x.1 x.2 else .stuck := rfl
theorem e_blt {bf : Bf} : (dn Γ (.blt bf es)).v (s :: r) = (dPs (dns Γ es) (s :: r)).bind fun x => (Res.of (bltV bf (x.1.map fun p => p.vw x.2))).bind fun s => .ok (s, x.2) := rfl
theorem e_asgS {e : E} : ex Γ (.asgS a b e) (s :: r) = ((dn Γ e).d (s :: r)).bind fun v => ((dn Γ a).p v.2).bind fun w => ((dn Γ b).d w.2).bind fun j => match w.1 with
    | .slot k => (match (j.2[k]?).bind Slot.mo with
      | some o => (Res.of (setI o j.1 v.1)).bind fun o' => .ok (.next, Fr.put j.2 k o')
      | none => .stuck)
    | .tmp _ => .stuck := rfl
theorem p_cst {d : PyData} : (dn Γ (.cst d)).p (s :: r) = tmp ((dn Γ (.cst d)).v (s :: r)) := rfl
theorem rv_cst {d : PyData} : retV (dn Γ (.cst d)) (s :: r) = (dn Γ (.cst d)).v (s :: r) := rfl
theorem p_glo {x : Str} : (dn Γ (.glo x)).p (s :: r) = tmp ((dn Γ (.glo x)).v (s :: r)) := rfl
theorem rv_glo {x : Str} : retV (dn Γ (.glo x)) (s :: r) = (dn Γ (.glo x)).v (s :: r) := rfl
theorem p_bin {op : Bop} : (dn Γ (.bin op a b)).p (s :: r) = tmp ((dn Γ (.bin op a b)).v (s :: r)) := rfl
theorem rv_bin {op : Bop} : retV (dn Γ (.bin op a b)) (s :: r) = (dn Γ (.bin op a b)).v (s :: r) := rfl
theorem p_neg  : (dn Γ (.neg a)).p (s :: r) = tmp ((dn Γ (.neg a)).v (s :: r)) := rfl
theorem rv_neg  : retV (dn Γ (.neg a)) (s :: r) = (dn Γ (.neg a)).v (s :: r) := rfl
theorem p_not  : (dn Γ (.not a)).p (s :: r) = tmp ((dn Γ (.not a)).v (s :: r)) := rfl
theorem rv_not  : retV (dn Γ (.not a)) (s :: r) = (dn Γ (.not a)).v (s :: r) := rfl
theorem p_and  : (dn Γ (.and a b)).p (s :: r) = tmp ((dn Γ (.and a b)).v (s :: r)) := rfl
theorem rv_and  : retV (dn Γ (.and a b)) (s :: r) = (dn Γ (.and a b)).v (s :: r) := rfl
theorem p_or  : (dn Γ (.or a b)).p (s :: r) = tmp ((dn Γ (.or a b)).v (s :: r)) := rfl
theorem rv_or  : retV (dn Γ (.or a b)) (s :: r) = (dn Γ (.or a b)).v (s :: r) := rfl
theorem p_ite  : (dn Γ (.ite c a b)).p (s :: r) = tmp ((dn Γ (.ite c a b)).v (s :: r)) := rfl
theorem rv_ite  : retV (dn Γ (.ite c a b)) (s :: r) = (dn Γ (.ite c a b)).v (s :: r) := rfl
theorem p_cmp {op : Cop} : (dn Γ (.cmp op a b)).p (s :: r) = tmp ((dn Γ (.cmp op a b)).v (s :: r)) := rfl
theorem rv_cmp {op : Cop} : retV (dn Γ (.cmp op a b)) (s :: r) = (dn Γ (.cmp op a b)).v (s :: r) := rfl
theorem p_chn {o1 o2 : Cop} : (dn Γ (.chn o1 o2 a b c)).p (s :: r) = tmp ((dn Γ (.chn o1 o2 a b c)).v (s :: r)) := rfl
theorem rv_chn {o1 o2 : Cop} : retV (dn Γ (.chn o1 o2 a b c)) (s :: r) = (dn Γ (.chn o1 o2 a b c)).v (s :: r) := rfl
theorem p_tup  : (dn Γ (.tup es)).p (s :: r) = tmp ((dn Γ (.tup es)).v (s :: r)) := rfl
theorem rv_tup  : retV (dn Γ (.tup es)) (s :: r) = (dn Γ (.tup es)).v (s :: r) := rfl
theorem p_lst  : (dn Γ (.lst es)).p (s :: r) = tmp ((dn Γ (.lst es)).v (s :: r)) := rfl
theorem rv_lst  : retV (dn Γ (.lst es)) (s :: r) = (dn Γ (.lst es)).v (s :: r) := rfl
theorem p_sub  : (dn Γ (.sub a b)).p (s :: r) = tmp ((dn Γ (.sub a b)).v (s :: r)) := rfl
theorem rv_sub  : retV (dn Γ (.sub a b)) (s :: r) = (dn Γ (.sub a b)).v (s :: r) := rfl
theorem p_slc {hl hh : Bool} : (dn Γ (.slc a hl b hh c)).p (s :: r) = tmp ((dn Γ (.slc a hl b hh c)).v (s :: r)) := rfl
theorem rv_slc {hl hh : Bool} : retV (dn Γ (.slc a hl b hh c)) (s :: r) = (dn Γ (.slc a hl b hh c)).v (s :: r) := rfl
theorem p_isi {ty : Ty} : (dn Γ (.isi a ty)).p (s :: r) = tmp ((dn Γ (.isi a ty)).v (s :: r)) := rfl
theorem rv_isi {ty : Ty} : retV (dn Γ (.isi a ty)) (s :: r) = (dn Γ (.isi a ty)).v (s :: r) := rfl
theorem p_call {f : Str} {io : Bool} : (dn Γ (.call f io es)).p (s :: r) = tmp ((dn Γ (.call f io es)).v (s :: r)) := rfl
theorem rv_call {f : Str} {io : Bool} : retV (dn Γ (.call f io es)) (s :: r) = (dn Γ (.call f io es)).v (s :: r) := rfl
theorem p_meth {cs : List Str} {m : Str} {io : Bool} : (dn Γ (.meth cs m io a es)).p (s :: r) = tmp ((dn Γ (.meth cs m io a es)).v (s :: r)) := rfl
theorem rv_meth {cs : List Str} {m : Str} {io : Bool} : retV (dn Γ (.meth cs m io a es)) (s :: r) = (dn Γ (.meth cs m io a es)).v (s :: r) := rfl
theorem p_new {f : Str} : (dn Γ (.new f es)).p (s :: r) = tmp ((dn Γ (.new f es)).v (s :: r)) := rfl
theorem rv_new {f : Str} : retV (dn Γ (.new f es)) (s :: r) = (dn Γ (.new f es)).v (s :: r) := rfl
theorem p_blt {bf : Bf} : (dn Γ (.blt bf es)).p (s :: r) = tmp ((dn Γ (.blt bf es)).v (s :: r)) := rfl
theorem rv_blt {bf : Bf} : retV (dn Γ (.blt bf es)) (s :: r) = (dn Γ (.blt bf es)).v (s :: r) := rfl
theorem p_bme {mf : Mf} : (dn Γ (.bme mf a es)).p (s :: r) = tmp ((dn Γ (.bme mf a es)).v (s :: r)) := rfl
theorem rv_bme {mf : Mf} : retV (dn Γ (.bme mf a es)) (s :: r) = (dn Γ (.bme mf a es)).v (s :: r) := rfl
theorem p_fld {f : Str} : (dn Γ (.fld a f)).p (s :: r) = tmp ((dn Γ (.fld a f)).v (s :: r)) := rfl
theorem rv_fld {f : Str} : retV (dn Γ (.fld a f)) (s :: r) = (dn Γ (.fld a f)).v (s :: r) := rfl
theorem p_lc {tg : T} {own : List Nat} : (dn Γ (.lc a tg b c own)).p (s :: r) = tmp ((dn Γ (.lc a tg b c own)).v (s :: r)) := rfl
theorem rv_lc {tg : T} {own : List Nat} : retV (dn Γ (.lc a tg b c own)) (s :: r) = (dn Γ (.lc a tg b c own)).v (s :: r) := rfl
theorem vw_tmp {x : Slot} {ρ : Fr} : Opd.vw ρ (.tmp x) = x.vw := rfl
theorem vw_slot {i : Nat} {ρ : Fr} : Opd.vw ρ (.slot i) = (ρ[i]?).bind Slot.vw := rfl
theorem sv_val {d : PyData} : Slot.vw (.val d) = some (.dat d) := rfl
theorem sv_own {ds : List PyData} : Slot.vw (.own (.lst ds)) = some (.dat (.list ds)) := rfl
theorem sv_brw {ds : List PyData} : Slot.vw (.brw (.lst ds)) = some (.dat (.list ds)) := rfl
theorem sv_ownI {c : Str} {fs : List (Str × PyData)} : Slot.vw (.own (.ins c fs)) = some (.ins c fs) := rfl
theorem sv_brwI {c : Str} {fs : List (Str × PyData)} : Slot.vw (.brw (.ins c fs)) = some (.ins c fs) := rfl
theorem dat_of {p : Opd} {ρ : Fr} {d : PyData} (h : p.vw ρ = some (.dat d)) : p.dat ρ = some d := by unfold Opd.dat; rw [h]; rfl
theorem dat_tmp {d : PyData} {ρ : Fr} : Opd.dat ρ (.tmp (.val d)) = some d := rfl
theorem toD_val {d : PyData} : Slot.toD (.val d) = some d := rfl
theorem toD_own {ds : List PyData} : Slot.toD (.own (.lst ds)) = some (.list ds) := rfl
end
/-! ### what numbers do -/
theorem c_eq {i j : Int} : cmpV .eq (some (.dat (.int i))) (some (.dat (.int j))) = some (decide (i = j)) := by
  show (if (SeqAt.shaped (.int i) && SeqAt.shaped (.int j)) = true then some (PyData.eqv (.int i) (.int j)) else none) = _
  have h1 : SeqAt.shaped (.int i) = true := rfl
  have h2 : SeqAt.shaped (.int j) = true := rfl
  rw [h1, h2]
  simp [PyData.eqv]
  rw [Bool.eq_iff_iff, beq_iff_eq, decide_eq_true_eq]
theorem c_lt {i j : Int} : cmpV .lt (some (.dat (.int i))) (some (.dat (.int j))) = some (decide (i < j)) := rfl
theorem c_le {i j : Int} : cmpV .le (some (.dat (.int i))) (some (.dat (.int j))) = some (decide (i ≤ j)) := rfl
theorem c_gt {i j : Int} : cmpV .gt (some (.dat (.int i))) (some (.dat (.int j))) = some (decide (j < i)) := rfl
theorem c_ge {i j : Int} : cmpV .ge (some (.dat (.int i))) (some (.dat (.int j))) = some (decide (j ≤ i)) := rfl
theorem t_bool {k : Bool} : truV (some (.dat (.bool k))) = some k := rfl
theorem s_at {xs : List PyData} {j : Int} : subV (some (.dat (.list xs))) (.int j) = L2.atI xs j := rfl
theorem s_att {xs : List PyData} {j : Int} : subV (some (.dat (.tuple xs))) (.int j) = L2.atI xs j := rfl
theorem at_0 {x : PyData} {xs : List PyData} : L2.atI (x :: xs) 0 = some x := by
  unfold L2.atI L2.ixN
  rw [if_pos (Int.le_refl 0), if_pos (by rw [List.length_cons]; omega)]
  rfl
theorem at_n {x : PyData} {xs : List PyData} {n : Nat} : L2.atI xs (n : Int) = xs[n]? := by
  unfold L2.atI L2.ixN
  rw [if_pos (Int.natCast_nonneg n)]
  by_cases h : (n : Int) < xs.length
  · rw [if_pos h]
    rfl
  · rw [if_neg h]
    exact (List.getElem?_eq_none (by omega)).symm
theorem b_1 {b : Bf} {x : Option Vw} : bltV b [x] = blt1 b x := rfl
theorem b_2 {b : Bf} {x y : Option Vw} : bltV b [x, y] = blt2 b x y := rfl
theorem b_int {i : Int} : blt1 .int (some (.dat (.int i))) = some (.val (.int i)) := rfl
theorem b_intB {k : Bool} : blt1 .int (some (.dat (.bool k))) = some (.val (.int (if k then 1 else 0))) := rfl
theorem b_lenL {xs : List PyData} : blt1 .len (some (.dat (.list xs))) = some (.val (.int xs.length)) := rfl
theorem b_lenT {xs : List PyData} : blt1 .len (some (.dat (.tuple xs))) = some (.val (.int xs.length)) := rfl
theorem b_tupL {xs : List PyData} : blt1 .tuple (some (.dat (.list xs))) = some (.val (.tuple xs)) := rfl
theorem b_lstT {xs : List PyData} : blt1 .list (some (.dat (.tuple xs))) = some (.own (.lst xs)) := rfl
theorem o_int {op : Bop} {i j : Int} : binD op (.int i) (.int j) = (binI op i j).map fun k => .val (.int k) := rfl
theorem o_add {i j : Int} : binI .add i j = some (i + j) := rfl
theorem o_sub {i j : Int} : binI .sub i j = some (i - j) := rfl
theorem o_mod {i j : Int} (h : j ≠ 0) : binI .mod i j = some (i.fmod j) := if_pos h
theorem o_div {i j : Int} (h : j ≠ 0) (h2 : j.natAbs < 1073741824) : binI .fdiv i j = some (i.fdiv j) := if_pos ⟨h, h2⟩
def asgA (i : Nat) (x : Slot) : Option Slot → Fr → Option Fr
  | some (.brw _), _ => none
  | some _, ρ => some (ρ.set i x)
  | none, _ => none
theorem asg_n {i : Nat} {x s : Slot} {r : Fr} : asgN (.name i) x (s :: r) = asgA i x (s :: r)[i]? (s :: r) := by
  show (match (s :: r)[i]? with
    | some (.brw _) => none
    | some _ => some ((s :: r).set i x)
    | none => none) = _
  cases (s :: r)[i]? with
  | none => rfl
  | some y => cases y <;> rfl
theorem set_l {xs : List PyData} {j : Int} {v : PyData} : setI (.lst xs) (.int j) v = (L2.ixN xs.length j).map fun n => .lst (xs.set n v) := rfl
theorem put_b {o o' : MO} {r : Fr} : Fr.put (.brw o :: r) 0 o' = .brw o' :: r := rfl
theorem put_o {o o' : MO} {r : Fr} : Fr.put (.own o :: r) 0 o' = .own o' :: r := rfl
theorem put_s {s : Slot} {o' : MO} {r : Fr} {i : Nat} : Fr.put (s :: r) (i + 1) o' = s :: Fr.put r i o' := rfl
theorem mo_b {o : MO} : Slot.mo (.brw o) = some o := rfl
theorem mo_o {o : MO} : Slot.mo (.own o) = some o := rfl
theorem set4_0 {a b c d v : PyData} : setI (.lst [a, b, c, d]) (.int 0) v = some (.lst [v, b, c, d]) := rfl
theorem set4_1 {a b c d v : PyData} : setI (.lst [a, b, c, d]) (.int 1) v = some (.lst [a, v, c, d]) := rfl
theorem set4_2 {a b c d v : PyData} : setI (.lst [a, b, c, d]) (.int 2) v = some (.lst [a, b, v, d]) := rfl
theorem at4_1 {a b c d : PyData} : L2.atI [a, b, c, d] 1 = some b := rfl
theorem at4_2 {a b c d : PyData} : L2.atI [a, b, c, d] 2 = some c := rfl
theorem at4_3 {a b c d : PyData} : L2.atI [a, b, c, d] 3 = some d := rfl
theorem ret_of {s : Slot} : retOf (.ret s) = some s := rfl
theorem o_mulR {i : Int} : binI .mul i 48271 = some (i * 48271) := by
  unfold binI
  exact if_pos (.inr (by decide))
theorem o_mulL {i : Int} : binI .mul 69621 i = some (69621 * i) := by
  unfold binI
  exact if_pos (.inl (by decide))
theorem o_pow18 : binI .pow 10 18 = some 1000000000000000000 := rfl
theorem o_mod1 {i : Int} : binI .mod i 2147483647 = some (i.fmod 2147483647) := o_mod (by decide)
theorem o_mod2 {i : Int} : binI .mod i 1000003 = some (i.fmod 1000003) := o_mod (by decide)
theorem o_div7 {i : Int} : binI .fdiv i 7 = some (i.fdiv 7) := o_div (by decide) (by decide)
theorem n_neg {i : Int} : negV (some (.int i)) = some (.int (-i)) := rfl
end PM
set_option Elab.async false
set_option linter.all false
set_option maxRecDepth 100000
/-! PM: loops by invariants. -/
namespace PM
open PySem
theorem forL_inv {f : PyData → Fr → Res (Flow × Fr)} {I : Fr → Prop} : ∀ {ds : List PyData}, (∀ d ∈ ds, ∀ ρ, I ρ → ∃ ρ', (f d ρ = .ok (.next, ρ') ∨ f d ρ = .ok (.cnt, ρ')) ∧ I ρ') → ∀ ρ, I ρ → ∃ ρ', forL f ds ρ = .ok (.next, ρ') ∧ I ρ'
  | [], _, ρ, h => ⟨ρ, rfl, h⟩
  | d :: ds, hs, ρ, h => by
    obtain ⟨ρ1, e, h1⟩ := hs d List.mem_cons_self ρ h
    obtain ⟨ρ2, e2, h2⟩ := forL_inv (fun d' hd' => hs d' (List.mem_cons_of_mem _ hd')) ρ1 h1
    refine ⟨ρ2, ?_, h2⟩
    show (f d ρ).bind _ = _
    rcases e with e | e <;> (rw [e]; exact e2)
/-- a comprehension of draws -/
theorem cmpL_inv {f : PyData → Fr → Res (List PyData × Fr)} {I : Fr → Prop} {P : PyData → Prop} : ∀ {ds : List PyData}, (∀ d ∈ ds, ∀ ρ, I ρ → ∃ xs ρ', f d ρ = .ok (xs, ρ') ∧ I ρ' ∧ (∀ x ∈ xs, P x) ∧ xs.length ≤ 1) → ∀ ρ, I ρ →
    ∃ xs ρ', cmpL f ds ρ = .ok (xs, ρ') ∧ I ρ' ∧ (∀ x ∈ xs, P x) ∧ xs.length ≤ ds.length
  | [], _, ρ, h => ⟨[], ρ, rfl, h, fun _ h => (List.not_mem_nil h).elim, Nat.le_refl 0⟩
  | d :: ds, hs, ρ, h => by
    obtain ⟨xs, ρ1, e, h1, p1, l1⟩ := hs d List.mem_cons_self ρ h
    obtain ⟨ys, ρ2, e2, h2, p2, l2⟩ := cmpL_inv (fun d' hd' => hs d' (List.mem_cons_of_mem _ hd')) ρ1 h1
    refine ⟨xs ++ ys, ρ2, ?_, h2, fun x hx => (List.mem_append.mp hx).elim (p1 x) (p2 x), by rw [List.length_append, List.length_cons]; omega⟩
    show (f d ρ).bind _ = _
    rw [e]
    show (cmpL f ds ρ1).bind _ = _
    rw [e2]
    rfl
end PM
set_option Elab.async false
set_option linter.all false
set_option maxRecDepth 100000
set_option maxHeartbeats 1000000
/-! PM: what a run promises; more of the evaluator's equations at written frames; loops. -/
namespace PM
open PySem
/-- an answer of which Q holds, or a refusal of which E holds -/
def Res.wp {α : Type} (x : Res α) (Q : α → Prop) (E : Str → Prop) : Prop := match x with
  | .ok a => Q a
  | .exc c => E c
  | .stuck => False
abbrev noE : Str → Prop := fun _ => False
section
variable {α β : Type} {Q : α → Prop} {E : Str → Prop}
theorem wp_ok {a : α} : (Res.ok a).wp Q E = Q a := rfl
theorem wp_exc {c : Str} : (Res.exc c : Res α).wp Q E = E c := rfl
theorem wp_eq {x : Res α} {a : α} (h : x.wp (fun b => b = a) noE) : x = .ok a := by
  cases x with
  | ok b => exact congrArg _ h
  | exc c => exact h.elim
  | stuck => exact h.elim
theorem wp_of_ok {x : Res α} {a : α} (h : x = .ok a) (q : Q a) : x.wp Q E := by rw [h]; exact q
theorem wp_mono {x : Res α} {R : α → Prop} {F : Str → Prop} (h : x.wp R F) (h1 : ∀ a, R a → Q a) (h2 : ∀ c, F c → E c) : x.wp Q E := by
  cases x with
  | ok b => exact h1 _ h
  | exc c => exact h2 _ h
  | stuck => exact h
/-- a step whose promise is known -/
theorem wp_bind {x : Res α} {f : α → Res β} {Q : β → Prop} {R : α → Prop} (h : x.wp R noE) (h1 : ∀ a, R a → (f a).wp Q E) : (x.bind f).wp Q E := by
  cases x with
  | ok b => exact h1 _ h
  | exc c => exact h.elim
  | stuck => exact h.elim
theorem wp_bindE {x : Res α} {f : α → Res β} {Q : β → Prop} {R : α → Prop} {F : Str → Prop} (h : x.wp R F) (h1 : ∀ a, R a → (f a).wp Q E) (h2 : ∀ c, F c → E c) : (x.bind f).wp Q E := by
  cases x with
  | ok b => exact h1 _ h
  | exc c => exact h2 _ h
  | stuck => exact h.elim
theorem wp_ex {x : Res α} (h : x.wp Q noE) : ∃ a, x = .ok a ∧ Q a := by
  cases x with
  | ok b => exact ⟨b, rfl, h⟩
  | exc c => exact h.elim
  | stuck => exact h.elim
theorem bind_if {c : Prop} [Decidable c] {x y : Res α} {f : α → Res β} : (if c then x else y).bind f = if c then x.bind f else y.bind f := by
  by_cases h : c
  · rw [if_pos h, if_pos h]
  · rw [if_neg h, if_neg h]
theorem wp_if {c : Prop} [Decidable c] {x y : Res α} : (if c then x else y).wp Q E = ((c → x.wp Q E) ∧ (¬ c → y.wp Q E)) := by
  by_cases h : c
  · rw [if_pos h]; exact propext ⟨fun q => ⟨fun _ => q, fun k => (k h).elim⟩, fun q => q.1 h⟩
  · rw [if_neg h]; exact propext ⟨fun q => ⟨fun k => (h k).elim, fun _ => q⟩, fun q => q.2 h⟩
theorem bind_bind {γ : Type} {x : Res α} {f : α → Res β} {g : β → Res γ} : (x.bind f).bind g = x.bind fun a => (f a).bind g := by
  cases x <;> rfl
end
/-! ### what is at a place that a loop fills -/
def G : Option PyData → Slot
  | none => .no
  | some d => .val d
theorem G_val {d : PyData} : Slot.val d = G (some d) := rfl
theorem G_no : Slot.no = G none := rfl
theorem asg_G {i : Nat} {x : Slot} {o : Option PyData} {ρ : Fr} : asgA i x (some (G o)) ρ = some (ρ.set i x) := by cases o <;> rfl
theorem asg_v {i : Nat} {x : Slot} {d : PyData} {ρ : Fr} : asgA i x (some (.val d)) ρ = some (ρ.set i x) := rfl
theorem asg_0 {i : Nat} {x : Slot} {ρ : Fr} : asgA i x (some .no) ρ = some (ρ.set i x) := rfl
theorem asg_o {i : Nat} {x : Slot} {o : MO} {ρ : Fr} : asgA i x (some (.own o)) ρ = some (ρ.set i x) := rfl
theorem asg_i {i : Nat} {x : Slot} {c : Str} {fs : List (Str × PyData)} {ρ : Fr} : asgA i x (some (.ins c fs)) ρ = some (ρ.set i x) := rfl
theorem plain_G {o : Option PyData} : plainS (G o) = true := by cases o <;> rfl
section
variable {Γ : Ctx} {s : Slot} {r : Fr} {a b c : E} {es : List E} {d : PyData} {i : Nat}
/-! ### targets -/
theorem t_name {d : PyData} : asgT (.name i) d (s :: r) = asgA i (.val d) (s :: r)[i]? (s :: r) := by
  show (match (s :: r)[i]? with
    | some (.brw _) => none
    | some _ => some ((s :: r).set i (.val d))
    | none => none) = _
  cases (s :: r)[i]? with
  | none => rfl
  | some y => cases y <;> rfl
theorem t_tup {ts : List T} {ds : List PyData} : asgT (.tup ts) (.tuple ds) (s :: r) = asgTs ts ds (s :: r) := rfl
theorem t_nil : asgTs [] [] (s :: r) = some (s :: r) := rfl
theorem t_cons {t : T} {ts : List T} {ds : List PyData} : asgTs (t :: ts) (d :: ds) (s :: r) = (asgT t d (s :: r)).bind fun q => asgTs ts ds q := rfl
theorem asg_t {ts : List T} {x : Slot} : asgN (.tup ts) x (s :: r) = x.toD.bind fun d => asgT (.tup ts) d (s :: r) := rfl
/-! ### expressions -/
def boolR : Option PyData → Res Bool
  | some (.bool k) => .ok k
  | _ => .stuck
theorem boolR_b {k : Bool} : boolR (some (.bool k)) = .ok k := rfl
theorem e_and {b' : E} : (dn Γ (.and a b')).v (s :: r) = ((dn Γ a).p (s :: r)).bind fun x => (boolR (x.1.dat x.2)).bind fun k => if k then (dn Γ b').v x.2 else .ok (.val (.bool false), x.2) := by
  show ((dn Γ a).p (s :: r)).bind _ = _
  congr 1
  funext x
  cases h : x.1.dat x.2 with
  | none => rfl
  | some d => cases d with
    | bool k => cases k <;> rfl
    | _ => rfl
theorem e_or {b' : E} : (dn Γ (.or a b')).v (s :: r) = ((dn Γ a).p (s :: r)).bind fun x => (boolR (x.1.dat x.2)).bind fun k => if k then .ok (.val (.bool true), x.2) else (dn Γ b').v x.2 := by
  show ((dn Γ a).p (s :: r)).bind _ = _
  congr 1
  funext x
  cases h : x.1.dat x.2 with
  | none => rfl
  | some d => cases d with
    | bool k => cases k <;> rfl
    | _ => rfl
theorem bndF {x : Dn} {ρ : Fr} : bndR false x ρ = .ok (none, ρ) := rfl
theorem bndT {x : Dn} : bndR true x (s :: r) = (x.d (s :: r)).bind fun y => (Res.of (intOf y.1)).bind fun i => .ok (some i, y.2) := rfl
theorem int_of {i : Int} : intOf (.int i) = some i := rfl
theorem e_slc {hl hh : Bool} : (dn Γ (.slc a hl b hh c)).v (s :: r) = ((dn Γ a).p (s :: r)).bind fun x => (bndR hl (dn Γ b) x.2).bind fun y => (bndR hh (dn Γ c) y.2).bind fun z => (Res.of (slcV (x.1.vw z.2) y.1 z.1)).bind fun s => .ok (s, z.2) := rfl
theorem e_rev : (dn Γ (.rev a)).v (s :: r) = ((dn Γ a).p (s :: r)).bind fun x => (Res.of (revV (x.1.vw x.2))).bind fun s => .ok (s, x.2) := rfl
theorem e_dct {ks vs : List E} : (dn Γ (.dct ks vs)).v (s :: r) = (dVs (dns Γ ks) (s :: r)).bind fun x => (dVs (dns Γ vs) x.2).bind fun y => (Res.of (dctV x.1 y.1)).bind fun o => .ok (.own o, y.2) := rfl
theorem e_fld {f : Str} : (dn Γ (.fld a f)).v (s :: r) = ((dn Γ a).p (s :: r)).bind fun w => (Res.of (fldV Γ f (w.1.vw w.2))).bind fun d => .ok (.val d, w.2) := rfl
theorem e_bme {m : Mf} : (dn Γ (.bme m a es)).v (s :: r) = ((dn Γ a).p (s :: r)).bind fun w => if kindOk m (w.1.vw w.2) then (dVs (dns Γ es) w.2).bind fun x => bmeV m w.1 x.1 x.2 else .stuck := rfl
theorem e_meth {cs : List Str} {m : Str} {io : Bool} : (dn Γ (.meth cs m io a es)).v (s :: r) = ((dn Γ a).p (s :: r)).bind fun w => (Res.of (clsV Γ cs m (w.1.vw w.2))).bind fun c => (dAs (dns Γ es) w.2).bind fun x => methV Γ c m io w.1 x.1 x.2 := rfl
def newB (c : Str) : Slot × Option MO → Fr → Res (Slot × Fr)
  | (.val .none, some (.ins c' fs)), ρ => if c' = c then .ok (.own (.ins c fs), ρ) else .stuck
  | _, _ => .stuck
theorem newB_ok {c c' : Str} {fs : List (Str × PyData)} {ρ : Fr} (h : c' = c) : newB c (.val .none, some (.ins c' fs)) ρ = .ok (.own (.ins c fs), ρ) := if_pos h
theorem e_new {c : Str} : (dn Γ (.new c es)).v (s :: r) = (dAs (dns Γ es) (s :: r)).bind fun x => if Γ.cls c then (Γ.fn (c, some "__init__") (.brw (.ins c []) :: x.1)).bind fun y => newB c y x.2 else .stuck := by
  show (dAs (dns Γ es) (s :: r)).bind _ = _
  congr 1
  funext x
  by_cases h : Γ.cls c = true
  · rw [if_pos h, if_pos h]
    congr 1
    funext y
    obtain ⟨y1, y2⟩ := y
    cases y1 with
    | val d => cases d with
      | none => cases y2 with
        | none => rfl
        | some o => cases o <;> rfl
      | _ => rfl
    | _ => rfl
  · rw [if_neg h, if_neg h]
theorem e_lc {tg : T} {own : List Nat} : (dn Γ (.lc a tg b c own)).v (s :: r) = ((dn Γ b).it (s :: r)).bind fun x => if ownPl x.2 own then (noExc (cmpL (turnL tg (dn Γ c) (dn Γ a) own) x.1 x.2)).bind fun y =>
        (if fits y.1.length then .ok (.own (.lst y.1), backF x.2 y.2 own) else .stuck) else .stuck := rfl
theorem e_lc2 {tg tg1 : T} {own own1 : List Nat} {it1 : E} : (dn Γ (.lc2 a tg b tg1 it1 c own own1)).v (s :: r) = ((dn Γ b).it (s :: r)).bind fun x =>
      (noExc (cmpL (fun d r => (Res.of ((wipeF r own).bind (asgT tg d))).bind fun r1 => ((dn Γ it1).it r1).bind fun x1 => cmpL (turnL tg1 (dn Γ c) (dn Γ a) own1) x1.1 x1.2) x.1 x.2)).bind fun y =>
        if fits y.1.length then .ok (.own (.lst y.1), backF x.2 y.2 own) else .stuck := rfl
theorem e_sc {tg : T} {own : List Nat} : (dn Γ (.sc a tg b own)).v (s :: r) = ((dn Γ b).it (s :: r)).bind fun x =>
      (noExc (cmpL (fun d r => (Res.of ((wipeF r own).bind (asgT tg d))).bind fun r1 => ((dn Γ a).d r1).bind fun y => .ok ([y.1], y.2)) x.1 x.2)).bind fun y =>
        if y.1.all isIntKey || y.1.all isTupKey then .ok (.own (.set (addAll [] y.1)), backF x.2 y.2 own) else .stuck := rfl
theorem e_dc {tg : T} {own : List Nat} : (dn Γ (.dc a b tg c own)).v (s :: r) = ((dn Γ c).it (s :: r)).bind fun x =>
      (noExc (cmpL (fun d r => (Res.of ((wipeF r own).bind (asgT tg d))).bind fun r1 => ((dn Γ a).d r1).bind fun y => ((dn Γ b).d y.2).bind fun z => .ok ([.tuple [y.1, z.1]], z.2)) x.1 x.2)).bind fun y =>
        (Res.of (pairsOf y.1)).bind fun ps => if ps.all (fun p => isIntKey p.1) then .ok (.own (.dic (putAll [] ps)), backF x.2 y.2 own) else .stuck := rfl
/-! ### what is walked -/
def itR (x : Res (Slot × Fr)) : Res (List PyData × Fr) := x.bind fun x => (Res.of (itemsOf x.1.toD)).bind fun xs => .ok (xs, x.2)
theorem itR_ok {x : Slot} {ρ : Fr} : itR (.ok (x, ρ)) = (Res.of (itemsOf x.toD)).bind fun xs => .ok (xs, ρ) := rfl
theorem it_var : (dn Γ (.var i)).it (s :: r) = itR ((dn Γ (.var i)).v (s :: r)) := rfl
theorem it_cst : (dn Γ (.cst d)).it (s :: r) = itR ((dn Γ (.cst d)).v (s :: r)) := rfl
theorem it_sub : (dn Γ (.sub a b)).it (s :: r) = itR ((dn Γ (.sub a b)).v (s :: r)) := rfl
theorem it_slc {hl hh : Bool} : (dn Γ (.slc a hl b hh c)).it (s :: r) = itR ((dn Γ (.slc a hl b hh c)).v (s :: r)) := rfl
theorem it_rev : (dn Γ (.rev a)).it (s :: r) = itR ((dn Γ (.rev a)).v (s :: r)) := rfl
theorem it_bin {op : Bop} : (dn Γ (.bin op a b)).it (s :: r) = itR ((dn Γ (.bin op a b)).v (s :: r)) := rfl
theorem it_tup : (dn Γ (.tup es)).it (s :: r) = itR ((dn Γ (.tup es)).v (s :: r)) := rfl
theorem it_lst : (dn Γ (.lst es)).it (s :: r) = itR ((dn Γ (.lst es)).v (s :: r)) := rfl
theorem it_call {f : Str} {io : Bool} : (dn Γ (.call f io es)).it (s :: r) = itR ((dn Γ (.call f io es)).v (s :: r)) := rfl
theorem it_meth {cs : List Str} {m : Str} {io : Bool} : (dn Γ (.meth cs m io a es)).it (s :: r) = itR ((dn Γ (.meth cs m io a es)).v (s :: r)) := rfl
theorem it_bme {m : Mf} : (dn Γ (.bme m a es)).it (s :: r) = itR ((dn Γ (.bme m a es)).v (s :: r)) := rfl
theorem it_fld {f : Str} : (dn Γ (.fld a f)).it (s :: r) = itR ((dn Γ (.fld a f)).v (s :: r)) := rfl
theorem it_lc {tg : T} {own : List Nat} : (dn Γ (.lc a tg b c own)).it (s :: r) = itR ((dn Γ (.lc a tg b c own)).v (s :: r)) := rfl
theorem it_ite : (dn Γ (.ite c a b)).it (s :: r) = itR ((dn Γ (.ite c a b)).v (s :: r)) := rfl
theorem it_blt {bf : Bf} : (dn Γ (.blt bf es)).it (s :: r) = if isWalkB bf then (dVs (dns Γ es) (s :: r)).bind fun x => (Res.of (walkB bf x.1)).bind fun xs => .ok (xs, x.2)
        else itR ((dn Γ (.blt bf es)).v (s :: r)) := rfl
theorem p_rev : (dn Γ (.rev a)).p (s :: r) = tmp ((dn Γ (.rev a)).v (s :: r)) := rfl
theorem rv_rev : retV (dn Γ (.rev a)) (s :: r) = (dn Γ (.rev a)).v (s :: r) := rfl
theorem p_dct {es2 : List E} : (dn Γ (.dct es es2)).p (s :: r) = tmp ((dn Γ (.dct es es2)).v (s :: r)) := rfl
theorem rv_dct {es2 : List E} : retV (dn Γ (.dct es es2)) (s :: r) = (dn Γ (.dct es es2)).v (s :: r) := rfl
theorem p_lc2 {tg tg1 : T} {own own1 : List Nat} {it1 : E} : (dn Γ (.lc2 a tg b tg1 it1 c own own1)).p (s :: r) = tmp ((dn Γ (.lc2 a tg b tg1 it1 c own own1)).v (s :: r)) := rfl
theorem rv_lc2 {tg tg1 : T} {own own1 : List Nat} {it1 : E} : retV (dn Γ (.lc2 a tg b tg1 it1 c own own1)) (s :: r) = (dn Γ (.lc2 a tg b tg1 it1 c own own1)).v (s :: r) := rfl
theorem p_sc {tg : T} {own : List Nat} : (dn Γ (.sc a tg b own)).p (s :: r) = tmp ((dn Γ (.sc a tg b own)).v (s :: r)) := rfl
theorem rv_sc {tg : T} {own : List Nat} : retV (dn Γ (.sc a tg b own)) (s :: r) = (dn Γ (.sc a tg b own)).v (s :: r) := rfl
theorem p_dc {tg : T} {own : List Nat} : (dn Γ (.dc a b tg c own)).p (s :: r) = tmp ((dn Γ (.dc a b tg c own)).v (s :: r)) := rfl
theorem rv_dc {tg : T} {own : List Nat} : retV (dn Γ (.dc a b tg c own)) (s :: r) = (dn Γ (.dc a b tg c own)).v (s :: r) := rfl
/-! ### statements -/
theorem x_pass : ex Γ .pass (s :: r) = .ok (.next, s :: r) := rfl
theorem x_brk : ex Γ .brk (s :: r) = .ok (.brk, s :: r) := rfl
theorem x_cnt : ex Γ .cnt (s :: r) = .ok (.cnt, s :: r) := rfl
theorem x_expr : ex Γ (.expr a) (s :: r) = ((dn Γ a).v (s :: r)).bind fun x => .ok (.next, x.2) := rfl
theorem x_raise {c : Str} : ex Γ (.raise c) (s :: r) = .exc c := rfl
theorem x_for {t : T} {bd : List S} : ex Γ (.for_ t a bd) (s :: r) = ((dn Γ a).it (s :: r)).bind fun x => forL (fun d r => (Res.of (asgT t d r)).bind fun r1 => exB Γ bd r1) x.1 x.2 := rfl
theorem x_whl {bd : List S} : ex Γ (.whl a bd) (s :: r) = whlL (dn Γ a).t (exB Γ bd) Γ.fuel (s :: r) := rfl
def addI : Option PyData → PyData → Option PyData
  | some (.int a), .int b => some (.int (a + b))
  | _, _ => none
theorem addI_ok {a b : Int} : addI (some (.int a)) (.int b) = some (.int (a + b)) := rfl
def augS (Γ : Ctx) (e : E) (i : Nat) : Option Slot → Fr → Res (Flow × Fr)
  | some (.val (.int a)), ρ => ((dn Γ e).d ρ).bind fun v => (Res.of (addI (some (.int a)) v.1)).bind fun d => .ok (.next, v.2.set i (.val d))
  | _, _ => .stuck
theorem augS_ok {a : Int} {e : E} {ρ : Fr} : augS Γ e i (some (.val (.int a))) ρ = ((dn Γ e).d ρ).bind fun v => (Res.of (addI (some (.int a)) v.1)).bind fun d => .ok (.next, v.2.set i (.val d)) := rfl
theorem x_augN : ex Γ (.augN i a) (s :: r) = augS Γ a i (s :: r)[i]? (s :: r) := by
  show (match (s :: r)[i]? with
    | some (.val (.int z)) => ((dn Γ a).d (s :: r)).bind fun v => (match v.1 with
      | .int b => Res.ok (Flow.next, v.2.set i (.val (.int (z + b))))
      | _ => .stuck)
    | _ => .stuck) = _
  cases (s :: r)[i]? with
  | none => rfl
  | some x => cases x with
    | val d => cases d with
      | int z =>
        show ((dn Γ a).d (s :: r)).bind _ = ((dn Γ a).d (s :: r)).bind _
        congr 1
        funext v
        obtain ⟨v1, v2⟩ := v
        cases v1 <;> rfl
      | _ => rfl
    | _ => rfl
theorem rng_0 {n : Int} : walkB .range [.int n] = if rngOk n then some (rng 0 n) else none := rfl
theorem rng_2 {i n : Int} : walkB .range2 [.int i, .int n] = if rngOk i && rngOk n then some (rng i n) else none := rfl
theorem wk_enum {x : PyData} : walkB .enumerate [x] = (itemsOf (some x)).map (enumD 0) := rfl
theorem wk_zip {x y : PyData} : walkB .zip [x, y] = (itemsOf (some x)).bind fun p => (itemsOf (some y)).map fun q => zipD p q := rfl
theorem ite_l {xs : List PyData} : itemsOf (some (.list xs)) = some xs := rfl
theorem ite_t {xs : List PyData} : itemsOf (some (.tuple xs)) = some xs := rfl
theorem isW_1 : isWalkB .range = true := rfl
theorem isW_2 : isWalkB .range2 = true := rfl
theorem isW_3 : isWalkB .enumerate = true := rfl
theorem isW_4 : isWalkB .zip = true := rfl
theorem isW_5 : isWalkB .list = false := rfl
theorem isW_6 : isWalkB .sorted = false := rfl
theorem isW_7 : isWalkB .tuple = false := rfl
/-! ### turns of a comprehension -/
theorem turn_eq {tg : T} {own : List Nat} {d : PyData} : turnL tg (dn Γ c) (dn Γ a) own d (s :: r) = (Res.of ((wipeF (s :: r) own).bind (asgT tg d))).bind fun r1 => ((dn Γ c).t r1).bind fun q => if q.1 then ((dn Γ a).d q.2).bind fun y => .ok ([y.1], y.2) else .ok ([], q.2) := rfl
theorem wipe_0 {ρ : Fr} : wipeF ρ [] = some ρ := rfl
def wipA (ρ1 : Fr) (i : Nat) : Option Slot → Option Fr
  | some s => if plainS s then some (ρ1.set i .no) else none
  | none => none
theorem wipA_s {ρ1 : Fr} {s : Slot} : wipA ρ1 i (some s) = if plainS s then some (ρ1.set i .no) else none := rfl
theorem wipe_c {l : List Nat} {ρ : Fr} : wipeF ρ (i :: l) = (wipeF ρ l).bind fun ρ1 => wipA ρ1 i ρ1[i]? := rfl
theorem back_0 {ρ0 ρ : Fr} : backF ρ0 ρ [] = ρ := rfl
def bacA (q : Fr) (i : Nat) : Option Slot → Fr
  | some s => q.set i s
  | none => q
theorem back_c {l : List Nat} {ρ0 ρ : Fr} : backF ρ0 ρ (i :: l) = bacA (backF ρ0 ρ l) i ρ0[i]? := by
  show (match ρ0[i]? with
    | some s => (backF ρ0 ρ l).set i s
    | none => backF ρ0 ρ l) = _
  cases ρ0[i]? <;> rfl
theorem ownPl_0 {ρ : Fr} : ownPl ρ [] = true := rfl
def ownA : Option Slot → Bool
  | some s => plainS s
  | none => false
theorem ownA_s {s : Slot} : ownA (some s) = plainS s := rfl
theorem ownPl_c {l : List Nat} {ρ : Fr} : ownPl ρ (i :: l) = (ownA ρ[i]? && ownPl ρ l) := by
  show ((match ρ[i]? with | some s => plainS s | none => false) && ownPl ρ l) = _
  cases ρ[i]? <;> rfl
theorem plain_v {d : PyData} : plainS (.val d) = true := rfl
theorem plain_n : plainS .no = true := rfl
theorem noExc_ok {α : Type} {x : α} : noExc (.ok x) = .ok x := rfl
/-! ### objects -/
def cIo (Γ : Ctx) (f : FName) (i : Nat) (as : List Slot) (ρ : Fr) : Option MO → Res (Slot × Fr)
  | some o => (Γ.fn f (.brw o :: as)).bind fun y => (Res.of y.2).bind fun o' => .ok (y.1, Fr.put ρ i o')
  | none => .stuck
theorem cIo_some {f : FName} {as : List Slot} {o : MO} {ρ : Fr} : cIo Γ f i as ρ (some o) = (Γ.fn f (.brw o :: as)).bind fun y => (Res.of y.2).bind fun o' => .ok (y.1, Fr.put ρ i o') := rfl
theorem callIo_eq {f : FName} {as : List Slot} : callIo Γ f i as (s :: r) = cIo Γ f i as (s :: r) (((s :: r)[i]?).bind Slot.mo) := by
  unfold callIo
  cases (((s :: r)[i]?).bind Slot.mo) with
  | none => rfl
  | some o =>
    show (Γ.fn f (.brw o :: as)).bind _ = (Γ.fn f (.brw o :: as)).bind _
    congr 1
    funext y
    obtain ⟨y1, y2⟩ := y
    cases y2 <;> rfl
theorem lent_eq : lentB (s :: r) i = (((s :: r)[i]?).bind Slot.mo).isSome := rfl
def mIo (Γ : Ctx) (c m : Str) (i : Nat) (as : List Slot) (ρ : Fr) : Option MO → Res (Slot × Fr)
  | some (.ins c' _) => if c' = c then callIo Γ (c, some m) i as ρ else .stuck
  | _ => .stuck
theorem mIo_ok {c c' m : Str} {as : List Slot} {ρ : Fr} {fs : List (Str × PyData)} (h : c' = c) : mIo Γ c m i as ρ (some (.ins c' fs)) = callIo Γ (c, some m) i as ρ := if_pos h
theorem meth_io {c m : Str} {as : List Slot} : methV Γ c m true (.slot i) as (s :: r) = mIo Γ c m i as (s :: r) (((s :: r)[i]?).bind Slot.mo) := by
  show (match (((s :: r)[i]?).bind Slot.mo) with
    | some (.ins c' _) => if c' = c then callIo Γ (c, some m) i as (s :: r) else .stuck
    | _ => .stuck) = _
  cases (((s :: r)[i]?).bind Slot.mo) with
  | none => rfl
  | some o => cases o <;> rfl
theorem meth_tmp {c c' m : Str} {as : List Slot} {fs : List (Str × PyData)} (h : c' = c) : methV Γ c m true (.tmp (.own (.ins c' fs))) as (s :: r) = (Γ.fn (c, some m) (.brw (.ins c' fs) :: as)).bind fun y => .ok (y.1, s :: r) := if_pos h
def mRd (Γ : Ctx) (c m : Str) (as : List Slot) (ρ : Fr) : Option Slot → Res (Slot × Fr)
  | some (.ins c' fs) => if c' = c then (Γ.fn (c, some m) (.ins c' fs :: as)).bind fun y => .ok (y.1, ρ) else .stuck
  | _ => .stuck
theorem mRd_ok {c c' m : Str} {as : List Slot} {ρ : Fr} {fs : List (Str × PyData)} (h : c' = c) : mRd Γ c m as ρ (some (.ins c' fs)) = (Γ.fn (c, some m) (.ins c' fs :: as)).bind fun y => .ok (y.1, ρ) := if_pos h
theorem meth_rd {c m : Str} {as : List Slot} : methV Γ c m false (.slot i) as (s :: r) = mRd Γ c m as (s :: r) (s :: r)[i]? := by
  show (match (s :: r)[i]? with
    | some (.ins c' fs) => if c' = c then (Γ.fn (c, some m) (.ins c' fs :: as)).bind fun y => .ok (y.1, s :: r) else .stuck
    | _ => .stuck) = _
  cases (s :: r)[i]? with
  | none => rfl
  | some o => cases o <;> rfl
theorem cls_of {cs : List Str} {m c : Str} {fs : List (Str × PyData)} (h1 : Γ.cls c = true) (h2 : c ∈ cs) (h3 : (fs.lookup m).isNone = true) : clsV Γ cs m (some (.ins c fs)) = some c := if_pos ⟨h1, h2, h3⟩
theorem fld_of {f c : Str} {fs : List (Str × PyData)} (h1 : Γ.cls c = true) : fldV Γ f (some (.ins c fs)) = fs.lookup f := if_pos h1
theorem kd_app {xs : List PyData} : kindOk .append (some (.dat (.list xs))) = true := rfl
theorem kd_pop {xs : List PyData} : kindOk .pop (some (.dat (.list xs))) = true := rfl
theorem kd_ext {xs : List PyData} : kindOk .extend (some (.dat (.list xs))) = true := rfl
theorem kd_ins {xs : List PyData} : kindOk .insert (some (.dat (.list xs))) = true := rfl
theorem kd_idx {xs : List PyData} : kindOk .index (some (.dat (.list xs))) = true := rfl
theorem kd_add {xs : List PyData} : kindOk .add (some (.set xs)) = true := rfl
theorem kd_get {xs : List (PyData × PyData)} : kindOk .get (some (.dic xs)) = true := rfl
theorem kd_sda {xs : List (PyData × PyData)} : kindOk .sdapp (some (.dic xs)) = true := rfl
def wrA (m : Mf) (as : List PyData) (i : Nat) (ρ : Fr) : Option MO → Res (Slot × Fr)
  | some o => (Res.of (writeM m o as)).bind fun y => .ok (.val y.1, Fr.put ρ i y.2)
  | none => .stuck
theorem wrA_ok {m : Mf} {as : List PyData} {ρ : Fr} {o : MO} : wrA m as i ρ (some o) = (Res.of (writeM m o as)).bind fun y => .ok (.val y.1, Fr.put ρ i y.2) := rfl
theorem wrV_eq {m : Mf} {as : List PyData} : wrV m (.slot i) as (s :: r) = wrA m as i (s :: r) (((s :: r)[i]?).bind Slot.mo) := by
  show (match ((s :: r)[i]?).bind Slot.mo with
    | some o => (Res.of (writeM m o as)).bind fun y => Res.ok (Slot.val y.1, Fr.put (s :: r) i y.2)
    | none => .stuck) = _
  cases (((s :: r)[i]?).bind Slot.mo) <;> rfl
theorem bme_app {as : List PyData} : bmeV .append (.slot i) as (s :: r) = wrA .append as i (s :: r) (((s :: r)[i]?).bind Slot.mo) := wrV_eq
theorem bme_pop {as : List PyData} : bmeV .pop (.slot i) as (s :: r) = wrA .pop as i (s :: r) (((s :: r)[i]?).bind Slot.mo) := wrV_eq
theorem bme_ext {as : List PyData} : bmeV .extend (.slot i) as (s :: r) = wrA .extend as i (s :: r) (((s :: r)[i]?).bind Slot.mo) := wrV_eq
theorem bme_add {as : List PyData} : bmeV .add (.slot i) as (s :: r) = wrA .add as i (s :: r) (((s :: r)[i]?).bind Slot.mo) := wrV_eq
theorem bme_sda {as : List PyData} : bmeV .sdapp (.slot i) as (s :: r) = wrA .sdapp as i (s :: r) (((s :: r)[i]?).bind Slot.mo) := wrV_eq
theorem w_app {xs : List PyData} {x : PyData} : writeM .append (.lst xs) [x] = if decide (xs.length < 16777216) then some (.none, .lst (xs ++ [x])) else none := rfl
theorem w_pop {xs : List PyData} : writeM .pop (.lst xs) [] = (xs.getLast?).map fun z => (z, .lst xs.dropLast) := rfl
theorem w_ext {xs ys : List PyData} : writeM .extend (.lst xs) [.list ys] = if fits (xs.length + ys.length) then some (.none, .lst (xs ++ ys)) else none := rfl
theorem w_add {ks : List PyData} {x : PyData} : writeM .add (.set ks) [x] = if okSet ks x then some (.none, .set (addK ks x)) else none := rfl
def asgFB (Γ : Ctx) (f : Str) (v : PyData) (k : Nat) (ρ : Fr) : Option MO → Res (Flow × Fr)
  | some (.ins c fs) => if Γ.cls c = true ∧ fs.length < 100 then .ok (.next, Fr.put ρ k (.ins c (putFd f v fs))) else .stuck
  | _ => .stuck
def asgFA (Γ : Ctx) (f : Str) (v : PyData) : Opd → Fr → Res (Flow × Fr)
  | .slot k, ρ => asgFB Γ f v k ρ ((ρ[k]?).bind Slot.mo)
  | .tmp _, _ => .stuck
theorem asgFB_ok {f c : Str} {v : PyData} {k : Nat} {ρ : Fr} {fs : List (Str × PyData)} (h1 : Γ.cls c = true) (h2 : fs.length < 100) : asgFB Γ f v k ρ (some (.ins c fs)) = .ok (.next, Fr.put ρ k (.ins c (putFd f v fs))) := if_pos ⟨h1, h2⟩
theorem asgFA_s {f : Str} {v : PyData} {k : Nat} {ρ : Fr} : asgFA Γ f v (.slot k) ρ = asgFB Γ f v k ρ ((ρ[k]?).bind Slot.mo) := rfl
theorem x_asgF {f : Str} : ex Γ (.asgF a f b) (s :: r) = ((dn Γ b).d (s :: r)).bind fun v => ((dn Γ a).p v.2).bind fun w => asgFA Γ f v.1 w.1 w.2 := by
  show ((dn Γ b).d (s :: r)).bind _ = _
  congr 1
  funext v
  congr 1
  funext w
  obtain ⟨w1, w2⟩ := w
  cases w1 with
  | tmp x => rfl
  | slot k =>
    show (match (w2[k]?).bind Slot.mo with
      | some (.ins c fs) => if Γ.cls c = true ∧ fs.length < 100 then Res.ok (Flow.next, Fr.put w2 k (.ins c (putFd f v.1 fs))) else .stuck
      | _ => .stuck) = asgFB Γ f v.1 k w2 ((w2[k]?).bind Slot.mo)
    cases (w2[k]?).bind Slot.mo with
    | none => rfl
    | some o => cases o <;> rfl
def augFC (f : Str) (z : Int) (k : Nat) (c : Str) (v : PyData) (ρ : Fr) : Option MO → Res (Flow × Fr)
  | some (.ins c' fs') => (Res.of (addI (some (.int z)) v)).bind fun d => if c' = c ∧ fs'.length < 100 then .ok (.next, Fr.put ρ k (.ins c' (putFd f d fs'))) else .stuck
  | _ => .stuck
theorem augFC_ok {f : Str} {z : Int} {k : Nat} {c c' : Str} {v : PyData} {ρ : Fr} {fs : List (Str × PyData)} : augFC f z k c v ρ (some (.ins c' fs)) = (Res.of (addI (some (.int z)) v)).bind fun d => if c' = c ∧ fs.length < 100 then .ok (.next, Fr.put ρ k (.ins c' (putFd f d fs))) else .stuck := rfl
def augFB (Γ : Ctx) (f : Str) (e : E) (k : Nat) (c : Str) (ρ : Fr) : Option PyData → Res (Flow × Fr)
  | some (.int z) => ((dn Γ e).d ρ).bind fun v => augFC f z k c v.1 v.2 ((v.2[k]?).bind Slot.mo)
  | _ => .stuck
theorem augFB_ok {f : Str} {e : E} {k : Nat} {c : Str} {ρ : Fr} {z : Int} : augFB Γ f e k c ρ (some (.int z)) = ((dn Γ e).d ρ).bind fun v => augFC f z k c v.1 v.2 ((v.2[k]?).bind Slot.mo) := rfl
def augFA (Γ : Ctx) (f : Str) (e : E) (k : Nat) (ρ : Fr) : Option MO → Res (Flow × Fr)
  | some (.ins c fs) => augFB Γ f e k c ρ (if Γ.cls c then fs.lookup f else none)
  | _ => .stuck
theorem augFA_ok {f : Str} {e : E} {k : Nat} {ρ : Fr} {c : Str} {fs : List (Str × PyData)} : augFA Γ f e k ρ (some (.ins c fs)) = augFB Γ f e k c ρ (if Γ.cls c then fs.lookup f else none) := rfl
def augF0 (Γ : Ctx) (f : Str) (e : E) : Opd → Fr → Res (Flow × Fr)
  | .slot k, ρ => augFA Γ f e k ρ ((ρ[k]?).bind Slot.mo)
  | .tmp _, _ => .stuck
theorem augF0_s {f : Str} {e : E} {k : Nat} {ρ : Fr} : augF0 Γ f e (.slot k) ρ = augFA Γ f e k ρ ((ρ[k]?).bind Slot.mo) := rfl
theorem x_augF {f : Str} : ex Γ (.augF a f b) (s :: r) = ((dn Γ a).p (s :: r)).bind fun w => augF0 Γ f b w.1 w.2 := by
  show ((dn Γ a).p (s :: r)).bind _ = _
  congr 1
  funext w
  obtain ⟨w1, w2⟩ := w
  cases w1 with
  | tmp x => rfl
  | slot k =>
    show (match (w2[k]?).bind Slot.mo with
      | some (.ins c fs) => (match (if Γ.cls c then fs.lookup f else none) with
        | some (.int z) => ((dn Γ b).d w2).bind fun v => (match v.1, (v.2[k]?).bind Slot.mo with
          | .int q, some (.ins c' fs') => if c' = c ∧ fs'.length < 100 then Res.ok (Flow.next, Fr.put v.2 k (.ins c' (putFd f (.int (z + q)) fs'))) else .stuck
          | _, _ => .stuck)
        | _ => .stuck)
      | _ => .stuck) = augFA Γ f b k w2 ((w2[k]?).bind Slot.mo)
    cases (w2[k]?).bind Slot.mo with
    | none => rfl
    | some o => cases o with
      | ins c fs =>
        unfold augFA
        dsimp only
        generalize (if Γ.cls c then fs.lookup f else none) = q
        cases q with
        | none => rfl
        | some d => cases d with
          | int z =>
            show ((dn Γ b).d w2).bind _ = ((dn Γ b).d w2).bind _
            congr 1
            funext v
            obtain ⟨v1, v2⟩ := v
            show _ = augFC f z k c v1 v2 ((v2[k]?).bind Slot.mo)
            cases (v2[k]?).bind Slot.mo with
            | none => cases v1 <;> rfl
            | some o => cases o <;> cases v1 <;> rfl
          | _ => rfl
      | _ => rfl
def trF (w : Option Str) (ρ : Fr) : Res (Flow × Fr) → Res (Flow × Fr)
  | .exc c => (Res.of (kindOf c)).bind fun n => .ok (.ret (.val (resD w n)), ρ.map fun _ => Slot.no)
  | r => r
theorem trF_ok {w : Option Str} {ρ : Fr} {x : Flow × Fr} : trF w ρ (.ok x) = .ok x := rfl
theorem trF_exc {w : Option Str} {ρ : Fr} {c : Str} : trF w ρ (.exc c) = (Res.of (kindOf c)).bind fun n => .ok (.ret (.val (resD w n)), ρ.map fun _ => Slot.no) := rfl
theorem x_try {bd : List S} {w : Option Str} (h : noBrw (s :: r) = true) (h2 : i < (s :: r).length) : ex Γ (.tryR i bd w) (s :: r) = trF w (s :: r) (exB Γ bd (s :: r)) := by
  show (match exB Γ bd (s :: r) with
    | .exc c => if noBrw (s :: r) = true ∧ i < (s :: r).length then (Res.of (kindOf c)).bind fun n => Res.ok (Flow.ret (.val (resD w n)), (s :: r).map fun _ => Slot.no) else .stuck
    | r => r) = _
  cases exB Γ bd (s :: r) with
  | exc c => exact if_pos ⟨h, h2⟩
  | _ => rfl
end
/-! ### loops -/
theorem forL_nil {f : PyData → Fr → Res (Flow × Fr)} {ρ : Fr} : forL f [] ρ = .ok (.next, ρ) := rfl
theorem cmpL_nil {f : PyData → Fr → Res (List PyData × Fr)} {ρ : Fr} : cmpL f [] ρ = .ok ([], ρ) := rfl
/-- what a turn of a loop is to do: the invariant speaks of what is left -/
theorem forL_wp {α : Type} {en : α → PyData} {f : PyData → Fr → Res (Flow × Fr)} {I : List α → Fr → Prop} {Q : Flow × Fr → Prop} {E : Str → Prop} :
    ∀ (xs : List α), (∀ x r ρ, I (x :: r) ρ → (f (en x) ρ).wp (fun y => match y.1 with | .next => I r y.2 | .cnt => I r y.2 | .brk => Q (.next, y.2) | .ret s => Q (.ret s, y.2)) E) → (∀ ρ, I [] ρ → Q (.next, ρ)) → ∀ ρ, I xs ρ → (forL f (xs.map en) ρ).wp Q E
  | [], _, h2, ρ, h => h2 ρ h
  | x :: xs, h1, h2, ρ, h => by
    show ((f (en x) ρ).bind _).wp Q E
    refine wp_bindE (h1 x xs ρ h) ?_ fun _ h => h
    intro y hy
    obtain ⟨y1, y2⟩ := y
    cases y1 with
    | next => exact forL_wp xs h1 h2 y2 hy
    | cnt => exact forL_wp xs h1 h2 y2 hy
    | brk => exact hy
    | ret s => exact hy
/-- a loop that walks a list to its end, as a fold -/
theorem forL_fold {α σ : Type} {en : α → PyData} {f : PyData → Fr → Res (Flow × Fr)} {I : σ → Fr → Prop} {E : Str → Prop} {g : σ → α → σ} :
    ∀ (xs : List α), (∀ x ∈ xs, ∀ st ρ, I st ρ → (f (en x) ρ).wp (fun y => (y.1 = .next ∨ y.1 = .cnt) ∧ I (g st x) y.2) E) → ∀ st ρ, I st ρ → (forL f (xs.map en) ρ).wp (fun y => y.1 = .next ∧ I (xs.foldl g st) y.2) E
  | [], _, st, ρ, h => ⟨rfl, h⟩
  | x :: xs, h1, st, ρ, h => by
    show ((f (en x) ρ).bind _).wp _ E
    refine wp_bindE (h1 x List.mem_cons_self st ρ h) ?_ fun _ h => h
    intro y hy
    obtain ⟨y1, y2⟩ := y
    obtain ⟨e, hy⟩ := hy
    have k := forL_fold (g := g) xs (fun x' hx' => h1 x' (List.mem_cons_of_mem _ hx')) (g st x) y2 hy
    rcases e with e | e
    · cases (show y1 = .next from e); exact k
    · cases (show y1 = .cnt from e); exact k
/-- a comprehension over a frame that stays as it is (but for an invariant) -/
theorem cmpL_wp {α : Type} {en : α → PyData} {f : PyData → Fr → Res (List PyData × Fr)} {I : Fr → Prop} {E : Str → Prop} {g : α → List PyData} :
    ∀ (xs : List α), (∀ x ∈ xs, ∀ ρ, I ρ → (f (en x) ρ).wp (fun y => y.1 = g x ∧ I y.2) E) → ∀ ρ, I ρ → (cmpL f (xs.map en) ρ).wp (fun y => y.1 = xs.flatMap g ∧ I y.2) E
  | [], _, ρ, h => ⟨rfl, h⟩
  | x :: xs, h1, ρ, h => by
    show ((f (en x) ρ).bind _).wp _ E
    refine wp_bindE (h1 x List.mem_cons_self ρ h) ?_ fun _ h => h
    intro y ⟨e, hy⟩
    refine wp_bindE (cmpL_wp xs (fun x' hx' => h1 x' (List.mem_cons_of_mem _ hx')) y.2 hy) ?_ fun _ h => h
    intro z ⟨e2, hz⟩
    exact ⟨by show y.1 ++ z.1 = _; rw [e, e2]; rfl, hz⟩
/-- a comprehension, whatever it makes: what holds of each -/
theorem cmpL_each {α : Type} {en : α → PyData} {f : PyData → Fr → Res (List PyData × Fr)} {I : Fr → Prop} {E : Str → Prop} {P : PyData → Prop} :
    ∀ (xs : List α), (∀ x ∈ xs, ∀ ρ, I ρ → (f (en x) ρ).wp (fun y => y.1.length ≤ 1 ∧ (∀ d ∈ y.1, P d) ∧ I y.2) E) → ∀ ρ, I ρ → (cmpL f (xs.map en) ρ).wp (fun y => y.1.length ≤ xs.length ∧ (∀ d ∈ y.1, P d) ∧ I y.2) E
  | [], _, ρ, h => ⟨Nat.le_refl _, fun _ h => (List.not_mem_nil h).elim, h⟩
  | x :: xs, h1, ρ, h => by
    show ((f (en x) ρ).bind _).wp _ E
    refine wp_bindE (h1 x List.mem_cons_self ρ h) ?_ fun _ h => h
    intro y ⟨l, e, hy⟩
    refine wp_bindE (cmpL_each xs (fun x' hx' => h1 x' (List.mem_cons_of_mem _ hx')) y.2 hy) ?_ fun _ h => h
    intro z ⟨l2, e2, hz⟩
    refine ⟨?_, fun d hd => (List.mem_append.mp hd).elim (e d) (e2 d), hz⟩
    show (y.1 ++ z.1).length ≤ _
    rw [List.length_append, List.length_cons]
    omega
/-- a while loop, by a measure -/
theorem whl_wp {c : Fr → Res (Bool × Fr)} {f : Fr → Res (Flow × Fr)} {I : Nat → Fr → Prop} {Q : Flow × Fr → Prop} {E : Str → Prop}
    (h1 : ∀ m ρ, I m ρ → (c ρ).wp (fun q => if q.1 then (f q.2).wp (fun y => match y.1 with | .next => ∃ m', m' < m ∧ I m' y.2 | .cnt => ∃ m', m' < m ∧ I m' y.2 | .brk => Q (.next, y.2) | .ret s => Q (.ret s, y.2)) E else Q (.next, q.2)) E) :
    ∀ n m ρ, m < n → I m ρ → (whlL c f n ρ).wp Q E
  | 0, m, ρ, h, _ => (Nat.not_lt_zero m h).elim
  | n + 1, m, ρ, h, hi => by
    show ((c ρ).bind _).wp Q E
    refine wp_bindE (h1 m ρ hi) ?_ fun _ h => h
    intro q hq
    obtain ⟨q1, q2⟩ := q
    cases q1 with
    | false => exact hq
    | true =>
      show ((f q2).bind _).wp Q E
      refine wp_bindE (show (f q2).wp _ E from hq) ?_ fun _ h => h
      intro y hy
      obtain ⟨y1, y2⟩ := y
      cases y1 with
      | next => obtain ⟨m', h', k⟩ := hy; exact whl_wp h1 n m' y2 (by omega) k
      | cnt => obtain ⟨m', h', k⟩ := hy; exact whl_wp h1 n m' y2 (by omega) k
      | brk => exact hy
      | ret s => exact hy
/-! ### programs -/
theorem ctx_fn {P : Prog} {k : Nat} : (ctx P k).fn = den P k := rfl
theorem ctx_glo {P : Prog} {k : Nat} : (ctx P k).glo = P.glo := rfl
theorem ctx_cls {P : Prog} {k : Nat} : (ctx P k).cls = P.cls := rfl
theorem ctx_fuel {P : Prog} {k : Nat} : (ctx P k).fuel = P.fuel := rfl
def endR (io : Bool) (x : Res (Flow × Fr)) : Res (Slot × Option MO) := x.bind fun r => (Res.of (retOf r.1)).bind fun s => .ok (s, if io then (r.2[0]?).bind Slot.mo else none)
theorem den_of {P : Prog} {k : Nat} {f : FName} {as : List Slot} {D : FnDef} (h : P.fn f = some D) (h2 : as.length = D.npar ∧ ioOk D.io as = true) :
    den P (k + 1) f as = endR D.io (exB (ctx P k) D.body (as ++ List.replicate (D.nslots - D.npar) .no)) := by
  rw [den_succ _ _ _ _ h]
  exact if_pos h2
theorem endR_ret {io : Bool} {x : Slot} {ρ : Fr} : endR io (.ok (.ret x, ρ)) = .ok (x, if io then (ρ[0]?).bind Slot.mo else none) := rfl
theorem endR_next {io : Bool} {ρ : Fr} : endR io (.ok (.next, ρ)) = .ok (.val .none, if io then (ρ[0]?).bind Slot.mo else none) := rfl
theorem endR_exc {io : Bool} {c : Str} : endR io (.exc c) = .exc c := rfl
theorem endR_if {io : Bool} {c : Prop} [Decidable c] {x y : Res (Flow × Fr)} : endR io (if c then x else y) = if c then endR io x else endR io y := by
  by_cases h : c
  · rw [if_pos h, if_pos h]
  · rw [if_neg h, if_neg h]
theorem seqR_if {c : Prop} [Decidable c] {x y : Res (Flow × Fr)} {f : Fr → Res (Flow × Fr)} : seqR (if c then x else y) f = if c then seqR x f else seqR y f := by
  by_cases h : c
  · rw [if_pos h, if_pos h]
  · rw [if_neg h, if_neg h]
theorem seqR_exc {c : Str} {f : Fr → Res (Flow × Fr)} : seqR (.exc c) f = .exc c := rfl
theorem seqR_brk {ρ : Fr} {f : Fr → Res (Flow × Fr)} : seqR (.ok (.brk, ρ)) f = .ok (.brk, ρ) := rfl
theorem seqR_cnt {ρ : Fr} {f : Fr → Res (Flow × Fr)} : seqR (.ok (.cnt, ρ)) f = .ok (.cnt, ρ) := rfl
theorem seqR_bind {α : Type} {x : Res α} {g : α → Res (Flow × Fr)} {f : Fr → Res (Flow × Fr)} : seqR (x.bind g) f = x.bind fun a => seqR (g a) f := by
  cases x <;> rfl
theorem endR_bind {α : Type} {io : Bool} {x : Res α} {g : α → Res (Flow × Fr)} : endR io (x.bind g) = x.bind fun a => endR io (g a) := by
  cases x <;> rfl
/-! ### data -/
theorem tmp_exc {c : Str} : tmp (.exc c) = .exc c := rfl
theorem itR_exc {c : Str} : itR (.exc c) = .exc c := rfl
theorem tmp_if {c : Prop} [Decidable c] {x y : Res (Slot × Fr)} : tmp (if c then x else y) = if c then tmp x else tmp y := by
  by_cases h : c
  · rw [if_pos h, if_pos h]
  · rw [if_neg h, if_neg h]
def nb : Slot → Bool
  | .brw _ => false
  | _ => true
theorem asg_nb {i : Nat} {x s : Slot} {ρ : Fr} (h : nb s = true) : asgA i x (some s) ρ = some (ρ.set i x) := by cases s <;> first | rfl | cases h
theorem nb_v {d : PyData} : nb (.val d) = true := rfl
theorem nb_o {o : MO} : nb (.own o) = true := rfl
theorem nb_n : nb .no = true := rfl
theorem dat_ownL {ds : List PyData} {ρ : Fr} : Opd.dat ρ (.tmp (.own (.lst ds))) = some (.list ds) := rfl
theorem dat_slot {i : Nat} {ρ : Fr} : Opd.dat ρ (.slot i) = Vw.dat? ((ρ[i]?).bind Slot.vw) := rfl
theorem shp_str {a : Str} (h : (PyData.str a).canLay0 = true) : SeqAt.shaped (.str a) = true := by
  unfold SeqAt.shaped
  rw [h]
  rfl
theorem c_eqS {a b : Str} (ha : (PyData.str a).canLay0 = true) (hb : (PyData.str b).canLay0 = true) : cmpV .eq (some (.dat (.str a))) (some (.dat (.str b))) = some (decide (a = b)) := by
  show eqD (.str a) (.str b) = _
  unfold eqD
  rw [shp_str ha, shp_str hb]
  simp [PyData.eqv]
  rw [Bool.eq_iff_iff, beq_iff_eq, decide_eq_true_eq]
theorem c_neS {a b : Str} (ha : (PyData.str a).canLay0 = true) (hb : (PyData.str b).canLay0 = true) : cmpV .ne (some (.dat (.str a))) (some (.dat (.str b))) = some (!decide (a = b)) := by
  show (eqD (.str a) (.str b)).map _ = _
  have h := c_eqS ha hb
  rw [show eqD (.str a) (.str b) = some (decide (a = b)) from h]
  rfl
theorem at_1 {x y : PyData} {xs : List PyData} : L2.atI (x :: y :: xs) 1 = some y := by
  have h := at_n (x := y) (xs := x :: y :: xs) (n := 1)
  exact h
theorem at_2 {x y z : PyData} {xs : List PyData} : L2.atI (x :: y :: z :: xs) 2 = some z := by
  have h := at_n (x := y) (xs := x :: y :: z :: xs) (n := 2)
  exact h
theorem at_3 {x y z u : PyData} {xs : List PyData} : L2.atI (x :: y :: z :: u :: xs) 3 = some u := by
  have h := at_n (x := y) (xs := x :: y :: z :: u :: xs) (n := 3)
  exact h
def isNone : PyData → Bool
  | .none => true
  | _ => false
theorem isNone_n : isNone .none = true := rfl
theorem isNone_t {xs : List PyData} : isNone (.tuple xs) = false := rfl
theorem isNone_l {xs : List PyData} : isNone (.list xs) = false := rfl
theorem isNone_i {i : Int} : isNone (.int i) = false := rfl
theorem isNone_b {i : Bool} : isNone (.bool i) = false := rfl
theorem isNone_s {i : Str} : isNone (.str i) = false := rfl
theorem c_isNN {d : PyData} : cmpV .isN (some (.dat d)) (some (.dat .none)) = some (isNone d) := by cases d <;> rfl
theorem c_notN {d : PyData} : cmpV .notN (some (.dat d)) (some (.dat .none)) = some (!isNone d) := by cases d <;> rfl
theorem c_leM {p q m t p' q' m' t' : Int} : cmpV .le (some (.dat (.tuple [.tuple [.int p, .int q, .int m], .int t]))) (some (.dat (.tuple [.tuple [.int p', .int q', .int m'], .int t']))) =
    some (ordB .le (.tuple [.tuple [.int p, .int q, .int m], .int t]) (.tuple [.tuple [.int p', .int q', .int m'], .int t'])) := rfl
theorem c_leA {p q m p' q' m' : Int} : cmpV .le (some (.dat (.tuple [.int p, .int q, .int m]))) (some (.dat (.tuple [.int p', .int q', .int m']))) =
    some (ordB .le (.tuple [.int p, .int q, .int m]) (.tuple [.int p', .int q', .int m'])) := rfl
theorem dat_d {d : PyData} : Vw.dat? (some (.dat d)) = some d := rfl
theorem plc_v {i : Nat} {d : PyData} {ρ : Fr} : plc i (some (.val d)) ρ = .ok (.tmp (.val d), ρ) := rfl
theorem plc_o {i : Nat} {o : MO} {ρ : Fr} : plc i (some (.own o)) ρ = .ok (.slot i, ρ) := rfl
theorem plc_b {i : Nat} {o : MO} {ρ : Fr} : plc i (some (.brw o)) ρ = .ok (.slot i, ρ) := rfl
theorem plc_i {i : Nat} {c : Str} {fs : List (Str × PyData)} {ρ : Fr} : plc i (some (.ins c fs)) ρ = .ok (.slot i, ρ) := rfl
theorem lod_v {i : Nat} {d : PyData} {ρ : Fr} : lod i (some (.val d)) ρ = .ok (.val d, ρ) := rfl
theorem lod_i {i : Nat} {c : Str} {fs : List (Str × PyData)} {ρ : Fr} : lod i (some (.ins c fs)) ρ = .ok (.ins c fs, ρ) := rfl
theorem lod_ol {i : Nat} {ds : List PyData} {ρ : Fr} : lod i (some (.own (.lst ds))) ρ = .ok (.val (.list ds), ρ.set i (.val (.list ds))) := rfl
theorem lod_oi {i : Nat} {c : Str} {fs : List (Str × PyData)} {ρ : Fr} : lod i (some (.own (.ins c fs))) ρ = .ok (.ins c fs, ρ.set i (.ins c fs)) := rfl
theorem retA_o {i : Nat} {o : MO} {ρ : Fr} {x : Res (Slot × Fr)} : retA i (some (.own o)) ρ x = .ok (.own o, ρ.set i .no) := rfl
theorem retA_v {i : Nat} {d : PyData} {ρ : Fr} {x : Res (Slot × Fr)} : retA i (some (.val d)) ρ x = x := rfl
theorem retA_i {i : Nat} {c : Str} {fs : List (Str × PyData)} {ρ : Fr} {x : Res (Slot × Fr)} : retA i (some (.ins c fs)) ρ x = x := rfl
theorem c_neI {i j : Int} : cmpV .ne (some (.dat (.int i))) (some (.dat (.int j))) = some (!decide (i = j)) := by
  show (eqD (.int i) (.int j)).map _ = _
  unfold eqD
  have h1 : SeqAt.shaped (.int i) = true := rfl
  have h2 : SeqAt.shaped (.int j) = true := rfl
  rw [h1, h2]
  simp [PyData.eqv]
  rw [Bool.eq_iff_iff, beq_iff_eq, decide_eq_true_eq]
theorem c_ndx {n : Nat} : (0 : Nat) + n = n := Nat.zero_add n
theorem c_eqD {a b : PyData} (ha : SeqAt.shaped a = true) (hb : SeqAt.shaped b = true) : cmpV .eq (some (.dat a)) (some (.dat b)) = some (PyData.eqv a b) := if_pos (by rw [ha, hb]; rfl)
theorem c_neD {a b : PyData} (ha : SeqAt.shaped a = true) (hb : SeqAt.shaped b = true) : cmpV .ne (some (.dat a)) (some (.dat b)) = some (!PyData.eqv a b) := by
  show (eqD a b).map _ = _
  unfold eqD
  rw [ha, hb]
  rfl
theorem c_inL {x : PyData} {zs : List PyData} (ha : SeqAt.shaped x = true) (hb : SeqAt.shaped (.list zs) = true) : cmpV .inn (some (.dat x)) (some (.dat (.list zs))) = some (zs.any fun z => PyData.eqv z x) := if_pos (by rw [ha, hb]; rfl)
theorem c_inT {x : PyData} {zs : List PyData} (ha : SeqAt.shaped x = true) (hb : SeqAt.shaped (.tuple zs) = true) : cmpV .inn (some (.dat x)) (some (.dat (.tuple zs))) = some (zs.any fun z => PyData.eqv z x) := if_pos (by rw [ha, hb]; rfl)
theorem c_niL {x : PyData} {zs : List PyData} (ha : SeqAt.shaped x = true) (hb : SeqAt.shaped (.list zs) = true) : cmpV .notIn (some (.dat x)) (some (.dat (.list zs))) = some (!zs.any fun z => PyData.eqv z x) := by
  show (inD x (.list zs)).map _ = _
  unfold inD
  dsimp only
  rw [ha, hb]
  rfl
theorem c_niT {x : PyData} {zs : List PyData} (ha : SeqAt.shaped x = true) (hb : SeqAt.shaped (.tuple zs) = true) : cmpV .notIn (some (.dat x)) (some (.dat (.tuple zs))) = some (!zs.any fun z => PyData.eqv z x) := by
  show (inD x (.tuple zs)).map _ = _
  unfold inD
  dsimp only
  rw [ha, hb]
  rfl
theorem t_lst {xs : List PyData} : truV (some (.dat (.list xs))) = some (!xs.isEmpty) := rfl
theorem t_tupB {xs : List PyData} : truV (some (.dat (.tuple xs))) = some (!xs.isEmpty) := rfl
theorem b_set0 : bltV .set [] = some (.own (.set [])) := rfl
theorem b_tupT {xs : List PyData} : blt1 .tuple (some (.dat (.tuple xs))) = some (.val (.tuple xs)) := rfl
theorem b_lstL {xs : List PyData} : blt1 .list (some (.dat (.list xs))) = some (.own (.lst xs)) := rfl
theorem b_srtL {xs : List PyData} (h : (sortable xs && fits xs.length) = true) : blt1 .sorted (some (.dat (.list xs))) = some (.own (.lst (sortD xs))) := if_pos (by rw [h]; rfl)
theorem b_srtS {xs : List PyData} (h : (sortable xs && fits xs.length) = true) (h2 : srtSet xs = true) : blt1 .sorted (some (.set xs)) = some (.own (.lst (sortD xs))) := if_pos (by rw [h, h2]; rfl)
theorem sv_set {ks : List PyData} : Slot.vw (.own (.set ks)) = some (.set ks) := rfl
theorem sv_dic {ks : List (PyData × PyData)} : Slot.vw (.own (.dic ks)) = some (.dic ks) := rfl
theorem sv_insF {c : Str} {fs : List (Str × PyData)} : Slot.vw (.ins c fs) = some (.ins c fs) := rfl
theorem fz_val {d : PyData} : Slot.fz (.val d) = some (.val d) := rfl
theorem fz_lst {ds : List PyData} : Slot.fz (.own (.lst ds)) = some (.val (.list ds)) := rfl
theorem fz_ins {c : Str} {fs : List (Str × PyData)} : Slot.fz (.own (.ins c fs)) = some (.ins c fs) := rfl
theorem fz_insF {c : Str} {fs : List (Str × PyData)} : Slot.fz (.ins c fs) = some (.ins c fs) := rfl
theorem s_cutT {xs : List PyData} {l h : Option Int} : slcV (some (.dat (.tuple xs))) l h = some (.val (.tuple (cut xs l h))) := rfl
theorem s_cutL {xs : List PyData} {l h : Option Int} : slcV (some (.dat (.list xs))) l h = some (.own (.lst (cut xs l h))) := rfl
theorem o_addT {xs ys : List PyData} (h : fits (xs.length + ys.length) = true) : binD .add (.tuple xs) (.tuple ys) = some (.val (.tuple (xs ++ ys))) := if_pos ⟨rfl, h⟩
theorem o_addL {xs ys : List PyData} (h : fits (xs.length + ys.length) = true) : binD .add (.list xs) (.list ys) = some (.own (.lst (xs ++ ys))) := if_pos ⟨rfl, h⟩
/-! ### one statement behind another -/
def seqF (f : Fr → Res (Flow × Fr)) (y : Flow × Fr) : Res (Flow × Fr) := match y.1 with
  | .next => f y.2
  | _ => .ok y
theorem seqF_next {f : Fr → Res (Flow × Fr)} {ρ : Fr} : seqF f (.next, ρ) = f ρ := rfl
theorem seqF_ret {f : Fr → Res (Flow × Fr)} {x : Slot} {ρ : Fr} : seqF f (.ret x, ρ) = .ok (.ret x, ρ) := rfl
theorem seqF_brk {f : Fr → Res (Flow × Fr)} {ρ : Fr} : seqF f (.brk, ρ) = .ok (.brk, ρ) := rfl
theorem seqF_cnt {f : Fr → Res (Flow × Fr)} {ρ : Fr} : seqF f (.cnt, ρ) = .ok (.cnt, ρ) := rfl
theorem wp_seq {x : Res (Flow × Fr)} {f : Fr → Res (Flow × Fr)} {Q : Flow × Fr → Prop} {E : Str → Prop} (h : x.wp (fun y => (seqF f y).wp Q E) E) : (seqR x f).wp Q E := by
  cases x with
  | ok y => exact h
  | exc c => exact h
  | stuck => exact h
theorem wp_end {io : Bool} {x : Res (Flow × Fr)} {Q : Slot × Option MO → Prop} {E : Str → Prop} (h : x.wp (fun y => (endR io (.ok y)).wp Q E) E) : (endR io x).wp Q E := by
  cases x with
  | ok y => exact h
  | exc c => exact h
  | stuck => exact h
theorem wp_endseq {io : Bool} {x : Res (Flow × Fr)} {f : Fr → Res (Flow × Fr)} {Q : Slot × Option MO → Prop} {E : Str → Prop} (h : x.wp (fun y => (endR io (seqF f y)).wp Q E) E) : (endR io (seqR x f)).wp Q E := by
  cases x with
  | ok y => exact h
  | exc c => exact h
  | stuck => exact h
/-- a loop over data as they are -/
theorem forL_wp0 {f : PyData → Fr → Res (Flow × Fr)} {I : List PyData → Fr → Prop} {Q : Flow × Fr → Prop} {E : Str → Prop} (xs : List PyData) (ρ : Fr) (h0 : I xs ρ)
    (h1 : ∀ x r ρ, I (x :: r) ρ → (f x ρ).wp (fun y => match y.1 with | .next => I r y.2 | .cnt => I r y.2 | .brk => Q (.next, y.2) | .ret s => Q (.ret s, y.2)) E) (h2 : ∀ ρ, I [] ρ → Q (.next, ρ)) : (forL f xs ρ).wp Q E := by
  have h := forL_wp (en := id) (f := f) (I := I) (Q := Q) (E := E) xs h1 h2 ρ h0
  rw [List.map_id] at h
  exact h
theorem cmpL_wp0 {f : PyData → Fr → Res (List PyData × Fr)} {I : Fr → Prop} {E : Str → Prop} {g : PyData → List PyData} (xs : List PyData) (ρ : Fr) (h0 : I ρ) (h1 : ∀ x ∈ xs, ∀ ρ, I ρ → (f x ρ).wp (fun y => y.1 = g x ∧ I y.2) E) : (cmpL f xs ρ).wp (fun y => y.1 = xs.flatMap g ∧ I y.2) E := by
  have h := cmpL_wp (en := id) (f := f) (I := I) (E := E) (g := g) xs h1 ρ h0
  rw [List.map_id] at h
  exact h
end PM
set_option Elab.async false
set_option linter.all false
set_option maxRecDepth 100000
set_option maxHeartbeats 2000000
namespace PM
open PySem
/-! plain facts about data -/
theorem layA_iff : ∀ {xs : List PyData}, PyData.canLayAll0 xs = true ↔ ∀ x ∈ xs, x.canLay0 = true
  | [] => ⟨fun _ _ h => (List.not_mem_nil h).elim, fun _ => by simp only [PyData.canLayAll0]⟩
  | x :: xs => by
    simp only [PyData.canLayAll0, Bool.and_eq_true, List.forall_mem_cons, layA_iff (xs := xs)]
theorem depA_iff {n : Nat} : ∀ {xs : List PyData}, PyData.depthAll xs ≤ n ↔ ∀ x ∈ xs, x.depth ≤ n
  | [] => ⟨fun _ _ h => (List.not_mem_nil h).elim, fun _ => by simp only [PyData.depthAll]; exact Nat.zero_le n⟩
  | x :: xs => by
    simp only [PyData.depthAll, List.forall_mem_cons, Nat.max_le, depA_iff (xs := xs)]
/-- data that can be laid, of some depth at most -/
def Fine (n : Nat) (d : PyData) : Prop := d.canLay0 = true ∧ d.depth ≤ n
theorem Fine.mono {n m : Nat} {d : PyData} (h : Fine n d) (hm : n ≤ m) : Fine m d := ⟨h.1, Nat.le_trans h.2 hm⟩
theorem Fine.shp {n : Nat} {d : PyData} (h : Fine n d) (hn : n ≤ 64 := by omega) : SeqAt.shaped d = true := by
  unfold SeqAt.shaped
  rw [h.1, Bool.true_and]
  exact decide_eq_true (Nat.le_trans h.2 hn)
theorem fine_of_shp {d : PyData} (h : SeqAt.shaped d = true) : Fine 64 d := by
  unfold SeqAt.shaped at h
  rw [Bool.and_eq_true, decide_eq_true_eq] at h
  exact h
theorem Fine.tup {n : Nat} {xs : List PyData} : Fine (n + 1) (.tuple xs) ↔ ∀ x ∈ xs, Fine n x := by
  unfold Fine
  simp only [PyData.canLay0, PyData.depth, layA_iff, Nat.add_le_add_iff_right, depA_iff]
  exact ⟨fun h x hx => ⟨h.1 x hx, h.2 x hx⟩, fun h => ⟨fun x hx => (h x hx).1, fun x hx => (h x hx).2⟩⟩
theorem Fine.lst {n : Nat} {xs : List PyData} : Fine (n + 1) (.list xs) ↔ ∀ x ∈ xs, Fine n x := by
  unfold Fine
  simp only [PyData.canLay0, PyData.depth, layA_iff, Nat.add_le_add_iff_right, depA_iff]
  exact ⟨fun h x hx => ⟨h.1 x hx, h.2 x hx⟩, fun h => ⟨fun x hx => (h x hx).1, fun x hx => (h x hx).2⟩⟩
theorem Fine.int {n : Nat} {i : Int} : Fine n (.int i) := ⟨rfl, Nat.zero_le n⟩
theorem Fine.bool {n : Nat} {i : Bool} : Fine n (.bool i) := ⟨rfl, Nat.zero_le n⟩
theorem Fine.none {n : Nat} : Fine n .none := ⟨rfl, Nat.zero_le n⟩
theorem Fine.str {n : Nat} {s : Str} (h : (PyData.str s).canLay0 = true) : Fine n (.str s) := ⟨h, Nat.zero_le n⟩
theorem shp_tup {xs : List PyData} (h : SeqAt.shaped (.tuple xs) = true) {x : PyData} (hx : x ∈ xs) : SeqAt.shaped x = true :=
  ((Fine.tup (n := 63)).mp (fine_of_shp h) x hx).shp
theorem shp_lay {x : PyData} (h : SeqAt.shaped x = true) : x.canLay0 = true := (fine_of_shp h).1
theorem shp_cons {x : PyData} {xs : List PyData} (h : SeqAt.shaped (.tuple (x :: xs)) = true) : SeqAt.shaped x = true ∧ SeqAt.shaped (.tuple xs) = true :=
  ⟨shp_tup h List.mem_cons_self, (Fine.tup (n := 63)).mpr (fun y hy => (Fine.tup (n := 63)).mp (fine_of_shp h) y (List.mem_cons_of_mem _ hy)) |>.shp⟩
theorem shp_lst {xs : List PyData} (h : ∀ x ∈ xs, Fine 63 x) : SeqAt.shaped (.list xs) = true := (Fine.lst.mpr h).shp
theorem shp_int {i : Int} : SeqAt.shaped (.int i) = true := rfl
theorem shp_bool {i : Bool} : SeqAt.shaped (.bool i) = true := rfl
theorem shp_tnil : SeqAt.shaped (.tuple []) = true := rfl
theorem shp_lnil : SeqAt.shaped (.list []) = true := rfl
theorem shp_bools {α : Type} {xs : List α} {f : α → Bool} : SeqAt.shaped (.list (xs.map fun x => .bool (f x))) = true := shp_lst fun x hx => by
  obtain ⟨y, -, rfl⟩ := List.mem_map.mp hx
  exact Fine.bool
theorem any_false {α : Type} {xs : List α} {f : α → Bool} : ((xs.map fun x => PyData.bool (f x)).any fun z => PyData.eqv z (.bool false)) = !(xs.all f) := by
  induction xs with
  | nil => rfl
  | cons x xs ih =>
    rw [List.map_cons, List.any_cons, List.all_cons, ih, Bool.not_and]
    congr 1
    simp only [PyData.eqv]
    cases f x <;> rfl
theorem eqv_tnil {xs : List PyData} : PyData.eqv (.tuple xs) (.tuple []) = xs.isEmpty := by cases xs <;> simp only [PyData.eqv, PyData.eqvAll] <;> rfl
theorem eqv_lnil {xs : List PyData} : PyData.eqv (.list xs) (.list []) = xs.isEmpty := by cases xs <;> simp only [PyData.eqv, PyData.eqvAll] <;> rfl
theorem fits_of {n : Nat} (h : n ≤ 16777216) : fits n = true := decide_eq_true h
theorem flatMap_one {α : Type} {xs : List α} {h : α → PyData} : (xs.flatMap fun x => [h x]) = xs.map h := by
  induction xs with
  | nil => rfl
  | cons x xs ih => rw [List.flatMap_cons, ih]; rfl
theorem c_inB {α : Type} {xs : List α} {f : α → Bool} : cmpV .inn (some (.dat (.bool false))) (some (.dat (.list (xs.map fun x => .bool (f x))))) = some (!(xs.all f)) := by
  rw [c_inL shp_bool shp_bools, any_false]
theorem c_niB {α : Type} {xs : List α} {f : α → Bool} : cmpV .notIn (some (.dat (.bool false))) (some (.dat (.list (xs.map fun x => .bool (f x))))) = some (xs.all f) := by
  rw [c_niL shp_bool shp_bools, any_false, Bool.not_not]
theorem rngOk_nat {n : Int} (h : 0 ≤ n) (h2 : n < 4611686018427387904) : rngOk n = true := by
  unfold rngOk
  rw [Bool.and_eq_true, decide_eq_true_eq, decide_eq_true_eq]
  omega
theorem at_nat {xs : List PyData} {n : Nat} : L2.atI xs (n : Int) = xs[n]? := at_n (x := .none)
theorem isE_app {α : Type} {xs ys : List α} : (xs ++ ys).isEmpty = (xs.isEmpty && ys.isEmpty) := by cases xs <;> rfl
/-- strictly rising, by the places -/
theorem rise_range : ∀ (xs : List Int), ((List.range (xs.length - 1)).flatMap fun n => if xs.getD (n + 1) 0 ≤ xs.getD n 0 then [PyData.int (1 + (n : Int))] else []).isEmpty = (xs.zip xs.tail).all fun p => decide (p.1 < p.2)
  | [] => rfl
  | [x] => rfl
  | x :: y :: r => by
    have ih := rise_range (y :: r)
    rw [show (x :: y :: r).length - 1 = ((y :: r).length - 1) + 1 from rfl, List.range_succ_eq_map, List.flatMap_cons, isE_app]
    show _ = (decide (x < y) && _)
    congr 1
    · by_cases h : y ≤ x
      · rw [if_pos (show (x :: y :: r).getD (0 + 1) 0 ≤ (x :: y :: r).getD 0 0 from h)]
        exact (decide_eq_false (by omega)).symm
      · rw [if_neg (show ¬ (x :: y :: r).getD (0 + 1) 0 ≤ (x :: y :: r).getD 0 0 from h)]
        exact (decide_eq_true (by omega)).symm
    · refine Eq.trans ?_ ih
      rw [Bool.eq_iff_iff, List.isEmpty_iff, List.isEmpty_iff, List.flatMap_eq_nil_iff, List.flatMap_eq_nil_iff]
      constructor
      · intro h n hn
        have := h (n + 1) (List.mem_map.mpr ⟨n, hn, rfl⟩)
        split at this
        · cases this
        · next h2 => exact if_neg h2
      · intro h n hn
        obtain ⟨m, hm, rfl⟩ := List.mem_map.mp hn
        have := h m hm
        split at this
        · cases this
        · next h2 => exact if_neg h2
mutual
/-- no tuple and no list in it is longer -/
def wid (w : Nat) : PyData → Bool
  | .tuple xs => decide (xs.length ≤ w) && widA w xs
  | .list xs => decide (xs.length ≤ w) && widA w xs
  | _ => true
def widA (w : Nat) : List PyData → Bool
  | [] => true
  | x :: xs => wid w x && widA w xs
end
theorem widA_iff {w : Nat} : ∀ {xs : List PyData}, widA w xs = true ↔ ∀ x ∈ xs, wid w x = true
  | [] => ⟨fun _ _ h => (List.not_mem_nil h).elim, fun _ => by simp only [widA]⟩
  | x :: xs => by simp only [widA, Bool.and_eq_true, List.forall_mem_cons, widA_iff (xs := xs)]
mutual
theorem wid_mono {w w' : Nat} (h : w ≤ w') : ∀ d, wid w d = true → wid w' d = true
  | .tuple xs, hd => by
    rw [wid, Bool.and_eq_true, decide_eq_true_eq] at hd ⊢
    exact ⟨by omega, widA_mono h xs hd.2⟩
  | .list xs, hd => by
    rw [wid, Bool.and_eq_true, decide_eq_true_eq] at hd ⊢
    exact ⟨by omega, widA_mono h xs hd.2⟩
  | .none, _ => by rw [wid] <;> simp
  | .bool _, _ => by rw [wid] <;> simp
  | .int _, _ => by rw [wid] <;> simp
  | .str _, _ => by rw [wid] <;> simp
  | .dict _, _ => by rw [wid] <;> simp
theorem widA_mono {w w' : Nat} (h : w ≤ w') : ∀ xs, widA w xs = true → widA w' xs = true
  | [], _ => by simp only [widA]
  | x :: xs, hd => by
    rw [widA, Bool.and_eq_true] at hd ⊢
    exact ⟨wid_mono h x hd.1, widA_mono h xs hd.2⟩
end
/-- data that all the law's tests can look at: of depth n, of width w at most -/
def Nc (w n : Nat) (d : PyData) : Prop := Fine n d ∧ wid w d = true
abbrev Nice (n : Nat) (d : PyData) : Prop := Nc 1000 n d
theorem Nc.tup {w n : Nat} {xs : List PyData} : Nc w (n + 1) (.tuple xs) ↔ xs.length ≤ w ∧ ∀ x ∈ xs, Nc w n x := by
  unfold Nc
  rw [Fine.tup, wid, Bool.and_eq_true, decide_eq_true_eq, widA_iff]
  exact ⟨fun h => ⟨h.2.1, fun x hx => ⟨h.1 x hx, h.2.2 x hx⟩⟩, fun h => ⟨fun x hx => (h.2 x hx).1, h.1, fun x hx => (h.2 x hx).2⟩⟩
theorem Nc.mono {w w' n m : Nat} {d : PyData} (h : Nc w n d) (hw : w ≤ w') (hm : n ≤ m) : Nc w' m d := ⟨h.1.mono hm, wid_mono hw d h.2⟩
theorem Nc.shp {w n : Nat} {d : PyData} (h : Nc w n d) (hn : n ≤ 64 := by omega) : SeqAt.shaped d = true := h.1.shp hn
theorem Nc.lay {w n : Nat} {d : PyData} (h : Nc w n d) : d.canLay0 = true := h.1.1
theorem Nc.len {w n : Nat} {xs : List PyData} (h : Nc w n (.tuple xs)) : xs.length ≤ w := by
  have h2 := h.2
  rw [wid, Bool.and_eq_true, decide_eq_true_eq] at h2
  exact h2.1
theorem Nc.kid {w n : Nat} {xs : List PyData} (h : Nc w n (.tuple xs)) {x : PyData} (hx : x ∈ xs) : Nc w n x := by
  cases n with
  | zero =>
    have := h.1.2
    simp only [PyData.depth] at this
    omega
  | succ n => exact ((Nc.tup.mp h).2 x hx).mono (Nat.le_refl w) (Nat.le_succ n)
theorem Nc.int {w n : Nat} {i : Int} : Nc w n (.int i) := ⟨Fine.int, rfl⟩
theorem Nc.bool {w n : Nat} {i : Bool} : Nc w n (.bool i) := ⟨Fine.bool, rfl⟩
theorem Nc.none {w n : Nat} : Nc w n .none := ⟨Fine.none, rfl⟩
theorem Nc.str {w n : Nat} {s : Str} (h : (PyData.str s).canLay0 = true) : Nc w n (.str s) := ⟨Fine.str h, rfl⟩
theorem Nc.cons {w n : Nat} {x : PyData} {xs : List PyData} (h : Nc w n (.tuple (x :: xs))) : Nc w n x ∧ Nc w n (.tuple xs) := by
  refine ⟨h.kid List.mem_cons_self, ?_⟩
  cases n with
  | zero =>
    have := h.1.2
    simp only [PyData.depth] at this
    omega
  | succ n =>
    have h2 := Nc.tup.mp h
    rw [List.length_cons] at h2
    exact Nc.tup.mpr ⟨by omega, fun y hy => h2.2 y (List.mem_cons_of_mem _ hy)⟩
/-! ### comprehensions whose turns leave the frame as it is -/
def lastF (ρ : Fr) (i : Nat) (xs : List PyData) : Fr := match xs.getLast? with
  | none => ρ
  | some x => ρ.set i (.val x)
theorem lc_go {α : Type} {en : α → PyData} {Γ : Ctx} {c e : E} {i : Nat} {ρ : Fr} {g : α → List PyData} {s : Slot} (hs : ρ[i]? = some s) :
    ∀ (xs : List α), (∀ x ∈ xs, ((dn Γ c).t (ρ.set i (.val (en x)))).bind (fun q => if q.1 then ((dn Γ e).d q.2).bind fun y => .ok ([y.1], y.2) else .ok ([], q.2)) = .ok (g x, ρ.set i (.val (en x)))) →
      ∀ s', plainS s' = true → cmpL (turnL (.name i) (dn Γ c) (dn Γ e) [i]) (xs.map en) (ρ.set i s') = .ok (xs.flatMap g, match (xs.map en).getLast? with | none => ρ.set i s' | some x => ρ.set i (.val x))
  | [], _, s', _ => rfl
  | x :: xs, h, s', hp => by
    have hl : i < ρ.length := (List.getElem?_eq_some_iff.mp hs).1
    have ht : turnL (.name i) (dn Γ c) (dn Γ e) [i] (en x) (ρ.set i s') = .ok (g x, ρ.set i (.val (en x))) := by
      show (Res.of ((wipeF (ρ.set i s') [i]).bind (asgT (.name i) (en x)))).bind _ = _
      have hw : wipeF (ρ.set i s') [i] = some (ρ.set i .no) := by
        show (match (ρ.set i s')[i]? with | some s => if plainS s then some ((ρ.set i s').set i .no) else none | none => none) = _
        rw [List.getElem?_set_self hl]
        show (if plainS s' = true then some ((ρ.set i s').set i .no) else none) = _
        rw [if_pos hp, List.set_set]
      have ha : asgT (.name i) (en x) (ρ.set i .no) = some (ρ.set i (.val (en x))) := by
        show (match (ρ.set i .no)[i]? with | some (.brw _) => none | some _ => some ((ρ.set i .no).set i (.val (en x))) | none => none) = _
        rw [List.getElem?_set_self hl]
        show some ((ρ.set i .no).set i (.val (en x))) = _
        rw [List.set_set]
      rw [hw]
      show (Res.of (asgT (.name i) (en x) (ρ.set i .no))).bind _ = _
      rw [ha]
      exact h x List.mem_cons_self
    show (turnL (.name i) (dn Γ c) (dn Γ e) [i] (en x) (ρ.set i s')).bind _ = _
    rw [ht]
    show (cmpL _ (xs.map en) (ρ.set i (.val (en x)))).bind _ = _
    rw [lc_go hs xs (fun y hy => h y (List.mem_cons_of_mem _ hy)) (.val (en x)) rfl]
    show Res.ok _ = Res.ok _
    congr 2
    cases xs with
    | nil => rfl
    | cons y ys =>
      have hz : (en x :: List.map en (y :: ys)).getLast? = (List.map en (y :: ys)).getLast? := by rw [List.map_cons, List.getLast?_cons_cons]
      obtain ⟨z, h3⟩ : ∃ z, (List.map en (y :: ys)).getLast? = some z := by
        cases hy : (List.map en (y :: ys)).getLast? with
        | none => exact absurd (List.getLast?_eq_none_iff.mp hy) (by simp)
        | some z => exact ⟨z, rfl⟩
      show (match (List.map en (y :: ys)).getLast? with | none => ρ.set i (.val (en x)) | some x => ρ.set i (.val x)) = (match (en x :: List.map en (y :: ys)).getLast? with | none => ρ.set i s' | some x => ρ.set i (.val x))
      rw [hz, h3]
theorem lc_nameM {α : Type} {en : α → PyData} {Γ : Ctx} {c e : E} {i : Nat} {ρ : Fr} {g : α → List PyData} {xs : List α} (hs : ∃ s, ρ[i]? = some s ∧ plainS s = true)
    (h : ∀ x ∈ xs, ((dn Γ c).t (ρ.set i (.val (en x)))).bind (fun q => if q.1 then ((dn Γ e).d q.2).bind fun y => .ok ([y.1], y.2) else .ok ([], q.2)) = .ok (g x, ρ.set i (.val (en x)))) :
    cmpL (turnL (.name i) (dn Γ c) (dn Γ e) [i]) (xs.map en) ρ = .ok (xs.flatMap g, lastF ρ i (xs.map en)) := by
  obtain ⟨s, e1, hp⟩ := hs
  obtain ⟨hl, e2⟩ := List.getElem?_eq_some_iff.mp e1
  have h2 := lc_go e1 xs h s hp
  rw [← e2, List.set_getElem_self hl] at h2
  exact h2
theorem lc_name {Γ : Ctx} {c e : E} {i : Nat} {ρ : Fr} {g : PyData → List PyData} {xs : List PyData} (hs : ∃ s, ρ[i]? = some s ∧ plainS s = true)
    (h : ∀ x ∈ xs, ((dn Γ c).t (ρ.set i (.val x))).bind (fun q => if q.1 then ((dn Γ e).d q.2).bind fun y => .ok ([y.1], y.2) else .ok ([], q.2)) = .ok (g x, ρ.set i (.val x))) :
    cmpL (turnL (.name i) (dn Γ c) (dn Γ e) [i]) xs ρ = .ok (xs.flatMap g, lastF ρ i xs) := by
  have h2 := lc_nameM (en := id) (g := g) hs h
  rw [List.map_id] at h2
  exact h2
theorem back_last {ρ : Fr} {i : Nat} {xs : List PyData} : backF ρ (lastF ρ i xs) [i] = ρ := by
  show (match ρ[i]? with | some s => (lastF ρ i xs).set i s | none => lastF ρ i xs) = _
  unfold lastF
  cases h : ρ[i]? with
  | none =>
    show (match xs.getLast? with | none => ρ | some x => ρ.set i (.val x)) = _
    cases xs.getLast? with
    | none => rfl
    | some x => exact List.set_eq_of_length_le (List.getElem?_eq_none_iff.mp h)
  | some s =>
    obtain ⟨hl, e2⟩ := List.getElem?_eq_some_iff.mp h
    show (match xs.getLast? with | none => ρ | some x => ρ.set i (.val x)).set i s = _
    cases xs.getLast? with
    | none => rw [← e2]; exact List.set_getElem_self hl
    | some x => show (ρ.set i (.val x)).set i s = _; rw [List.set_set, ← e2]; exact List.set_getElem_self hl
theorem bac_last {ρ : Fr} {i : Nat} {xs : List PyData} {s : Slot} (h : ρ[i]? = some s) : bacA (lastF ρ i xs) i (some s) = ρ := by
  have h2 := back_last (ρ := ρ) (i := i) (xs := xs)
  rw [back_c, h] at h2
  exact h2
theorem fm_len {α : Type} {g : α → List PyData} : ∀ {xs : List α}, (∀ x ∈ xs, (g x).length ≤ 1) → (xs.flatMap g).length ≤ xs.length
  | [], _ => Nat.le_refl 0
  | x :: xs, h => by
    rw [List.flatMap_cons, List.length_append, List.length_cons]
    have h1 := h x List.mem_cons_self
    have h2 := fm_len (xs := xs) (g := g) fun y hy => h y (List.mem_cons_of_mem _ hy)
    omega
theorem shp_fm {α : Type} {g : α → List PyData} {xs : List α} (h : ∀ x ∈ xs, ∀ d ∈ g x, Fine 63 d) : SeqAt.shaped (.list (xs.flatMap g)) = true := shp_lst fun d hd => by
  obtain ⟨x, hx, h2⟩ := List.mem_flatMap.mp hd
  exact h x hx d h2
theorem sl_ended : (PyData.str "ended").canLay0 = true := by decide +kernel
theorem sl_at : (PyData.str "at").canLay0 = true := by decide +kernel
theorem sl_may : (PyData.str "may").canLay0 = true := by decide +kernel
theorem sl_not : (PyData.str "not").canLay0 = true := by decide +kernel
theorem sl_all : (PyData.str "all").canLay0 = true := by decide +kernel
theorem sl_knows : (PyData.str "knows").canLay0 = true := by decide +kernel
theorem sl_let : (PyData.str "let").canLay0 = true := by decide +kernel
theorem sl_refused : (PyData.str "refused").canLay0 = true := by decide +kernel
theorem sl_formula : (PyData.str "formula").canLay0 = true := by decide +kernel
theorem sl_protocol : (PyData.str "protocol").canLay0 = true := by decide +kernel
theorem sn_ended_at : (("ended" : Str) = "at") = False := eq_false (by decide +kernel)
theorem sn_ended_may : (("ended" : Str) = "may") = False := eq_false (by decide +kernel)
theorem sn_ended_not : (("ended" : Str) = "not") = False := eq_false (by decide +kernel)
theorem sn_ended_all : (("ended" : Str) = "all") = False := eq_false (by decide +kernel)
theorem sn_ended_knows : (("ended" : Str) = "knows") = False := eq_false (by decide +kernel)
theorem sn_ended_let : (("ended" : Str) = "let") = False := eq_false (by decide +kernel)
theorem sn_ended_refused : (("ended" : Str) = "refused") = False := eq_false (by decide +kernel)
theorem sn_ended_formula : (("ended" : Str) = "formula") = False := eq_false (by decide +kernel)
theorem sn_ended_protocol : (("ended" : Str) = "protocol") = False := eq_false (by decide +kernel)
theorem sn_at_ended : (("at" : Str) = "ended") = False := eq_false (by decide +kernel)
theorem sn_at_may : (("at" : Str) = "may") = False := eq_false (by decide +kernel)
theorem sn_at_not : (("at" : Str) = "not") = False := eq_false (by decide +kernel)
theorem sn_at_all : (("at" : Str) = "all") = False := eq_false (by decide +kernel)
theorem sn_at_knows : (("at" : Str) = "knows") = False := eq_false (by decide +kernel)
theorem sn_at_let : (("at" : Str) = "let") = False := eq_false (by decide +kernel)
theorem sn_at_refused : (("at" : Str) = "refused") = False := eq_false (by decide +kernel)
theorem sn_at_formula : (("at" : Str) = "formula") = False := eq_false (by decide +kernel)
theorem sn_at_protocol : (("at" : Str) = "protocol") = False := eq_false (by decide +kernel)
theorem sn_may_ended : (("may" : Str) = "ended") = False := eq_false (by decide +kernel)
theorem sn_may_at : (("may" : Str) = "at") = False := eq_false (by decide +kernel)
theorem sn_may_not : (("may" : Str) = "not") = False := eq_false (by decide +kernel)
theorem sn_may_all : (("may" : Str) = "all") = False := eq_false (by decide +kernel)
theorem sn_may_knows : (("may" : Str) = "knows") = False := eq_false (by decide +kernel)
theorem sn_may_let : (("may" : Str) = "let") = False := eq_false (by decide +kernel)
theorem sn_may_refused : (("may" : Str) = "refused") = False := eq_false (by decide +kernel)
theorem sn_may_formula : (("may" : Str) = "formula") = False := eq_false (by decide +kernel)
theorem sn_may_protocol : (("may" : Str) = "protocol") = False := eq_false (by decide +kernel)
theorem sn_not_ended : (("not" : Str) = "ended") = False := eq_false (by decide +kernel)
theorem sn_not_at : (("not" : Str) = "at") = False := eq_false (by decide +kernel)
theorem sn_not_may : (("not" : Str) = "may") = False := eq_false (by decide +kernel)
theorem sn_not_all : (("not" : Str) = "all") = False := eq_false (by decide +kernel)
theorem sn_not_knows : (("not" : Str) = "knows") = False := eq_false (by decide +kernel)
theorem sn_not_let : (("not" : Str) = "let") = False := eq_false (by decide +kernel)
theorem sn_not_refused : (("not" : Str) = "refused") = False := eq_false (by decide +kernel)
theorem sn_not_formula : (("not" : Str) = "formula") = False := eq_false (by decide +kernel)
theorem sn_not_protocol : (("not" : Str) = "protocol") = False := eq_false (by decide +kernel)
theorem sn_all_ended : (("all" : Str) = "ended") = False := eq_false (by decide +kernel)
theorem sn_all_at : (("all" : Str) = "at") = False := eq_false (by decide +kernel)
theorem sn_all_may : (("all" : Str) = "may") = False := eq_false (by decide +kernel)
theorem sn_all_not : (("all" : Str) = "not") = False := eq_false (by decide +kernel)
theorem sn_all_knows : (("all" : Str) = "knows") = False := eq_false (by decide +kernel)
theorem sn_all_let : (("all" : Str) = "let") = False := eq_false (by decide +kernel)
theorem sn_all_refused : (("all" : Str) = "refused") = False := eq_false (by decide +kernel)
theorem sn_all_formula : (("all" : Str) = "formula") = False := eq_false (by decide +kernel)
theorem sn_all_protocol : (("all" : Str) = "protocol") = False := eq_false (by decide +kernel)
theorem sn_knows_ended : (("knows" : Str) = "ended") = False := eq_false (by decide +kernel)
theorem sn_knows_at : (("knows" : Str) = "at") = False := eq_false (by decide +kernel)
theorem sn_knows_may : (("knows" : Str) = "may") = False := eq_false (by decide +kernel)
theorem sn_knows_not : (("knows" : Str) = "not") = False := eq_false (by decide +kernel)
theorem sn_knows_all : (("knows" : Str) = "all") = False := eq_false (by decide +kernel)
theorem sn_knows_let : (("knows" : Str) = "let") = False := eq_false (by decide +kernel)
theorem sn_knows_refused : (("knows" : Str) = "refused") = False := eq_false (by decide +kernel)
theorem sn_knows_formula : (("knows" : Str) = "formula") = False := eq_false (by decide +kernel)
theorem sn_knows_protocol : (("knows" : Str) = "protocol") = False := eq_false (by decide +kernel)
theorem sn_let_ended : (("let" : Str) = "ended") = False := eq_false (by decide +kernel)
theorem sn_let_at : (("let" : Str) = "at") = False := eq_false (by decide +kernel)
theorem sn_let_may : (("let" : Str) = "may") = False := eq_false (by decide +kernel)
theorem sn_let_not : (("let" : Str) = "not") = False := eq_false (by decide +kernel)
theorem sn_let_all : (("let" : Str) = "all") = False := eq_false (by decide +kernel)
theorem sn_let_knows : (("let" : Str) = "knows") = False := eq_false (by decide +kernel)
theorem sn_let_refused : (("let" : Str) = "refused") = False := eq_false (by decide +kernel)
theorem sn_let_formula : (("let" : Str) = "formula") = False := eq_false (by decide +kernel)
theorem sn_let_protocol : (("let" : Str) = "protocol") = False := eq_false (by decide +kernel)
theorem sn_refused_ended : (("refused" : Str) = "ended") = False := eq_false (by decide +kernel)
theorem sn_refused_at : (("refused" : Str) = "at") = False := eq_false (by decide +kernel)
theorem sn_refused_may : (("refused" : Str) = "may") = False := eq_false (by decide +kernel)
theorem sn_refused_not : (("refused" : Str) = "not") = False := eq_false (by decide +kernel)
theorem sn_refused_all : (("refused" : Str) = "all") = False := eq_false (by decide +kernel)
theorem sn_refused_knows : (("refused" : Str) = "knows") = False := eq_false (by decide +kernel)
theorem sn_refused_let : (("refused" : Str) = "let") = False := eq_false (by decide +kernel)
theorem sn_refused_formula : (("refused" : Str) = "formula") = False := eq_false (by decide +kernel)
theorem sn_refused_protocol : (("refused" : Str) = "protocol") = False := eq_false (by decide +kernel)
theorem sn_formula_ended : (("formula" : Str) = "ended") = False := eq_false (by decide +kernel)
theorem sn_formula_at : (("formula" : Str) = "at") = False := eq_false (by decide +kernel)
theorem sn_formula_may : (("formula" : Str) = "may") = False := eq_false (by decide +kernel)
theorem sn_formula_not : (("formula" : Str) = "not") = False := eq_false (by decide +kernel)
theorem sn_formula_all : (("formula" : Str) = "all") = False := eq_false (by decide +kernel)
theorem sn_formula_knows : (("formula" : Str) = "knows") = False := eq_false (by decide +kernel)
theorem sn_formula_let : (("formula" : Str) = "let") = False := eq_false (by decide +kernel)
theorem sn_formula_refused : (("formula" : Str) = "refused") = False := eq_false (by decide +kernel)
theorem sn_formula_protocol : (("formula" : Str) = "protocol") = False := eq_false (by decide +kernel)
theorem sn_protocol_ended : (("protocol" : Str) = "ended") = False := eq_false (by decide +kernel)
theorem sn_protocol_at : (("protocol" : Str) = "at") = False := eq_false (by decide +kernel)
theorem sn_protocol_may : (("protocol" : Str) = "may") = False := eq_false (by decide +kernel)
theorem sn_protocol_not : (("protocol" : Str) = "not") = False := eq_false (by decide +kernel)
theorem sn_protocol_all : (("protocol" : Str) = "all") = False := eq_false (by decide +kernel)
theorem sn_protocol_knows : (("protocol" : Str) = "knows") = False := eq_false (by decide +kernel)
theorem sn_protocol_let : (("protocol" : Str) = "let") = False := eq_false (by decide +kernel)
theorem sn_protocol_refused : (("protocol" : Str) = "refused") = False := eq_false (by decide +kernel)
theorem sn_protocol_formula : (("protocol" : Str) = "formula") = False := eq_false (by decide +kernel)
end PM
set_option Elab.async false
set_option linter.all false
set_option maxRecDepth 100000
set_option maxHeartbeats 2000000
namespace PM
open PySem
/-! acts, moves, states, protocols as plain things -/
structure Act where
  p : Nat
  q : Nat
  m : Nat
  deriving DecidableEq
def Act.e (a : Act) : PyData := .tuple [.int a.p, .int a.q, .int a.m]
def Act.lt (a b : Act) : Bool := decide (a.p < b.p ∨ (a.p = b.p ∧ (a.q < b.q ∨ (a.q = b.q ∧ a.m < b.m))))
def Act.le (a b : Act) : Bool := !b.lt a
def Act.ok (k : Nat) (a : Act) : Prop := a.p < k ∧ a.q < k ∧ a.p ≠ a.q ∧ a.m ≤ 4
abbrev Mv := Act × Nat
def mvE (v : Mv) : PyData := .tuple [v.1.e, .int v.2]
def mvLt (v w : Mv) : Bool := v.1.lt w.1 || (decide (v.1 = w.1) && decide (v.2 < w.2))
def mvLe (v w : Mv) : Bool := !mvLt w v
abbrev Sta := Bool × List Mv
def stE (s : Sta) : PyData := .tuple [.bool s.1, .tuple (s.2.map mvE)]
structure Pro where
  k : Nat
  sts : List Sta
def Pro.e (P : Pro) : PyData := .tuple [.int P.k, .tuple (P.sts.map stE)]
theorem act_ext {a b : Act} : a = b ↔ a.p = b.p ∧ a.q = b.q ∧ a.m = b.m := by
  cases a; cases b; simp
theorem nat_beq {i j : Nat} : ((i : Int) == (j : Int)) = decide (i = j) := by
  rw [Bool.eq_iff_iff, beq_iff_eq, decide_eq_true_eq]
  omega
theorem eqv_nat {i j : Nat} : PyData.eqv (.int i) (.int j) = decide (i = j) := by
  simp only [PyData.eqv]
  exact nat_beq
theorem eqv_act {a b : Act} : PyData.eqv a.e b.e = decide (a = b) := by
  simp only [Act.e, PyData.eqv, PyData.eqvAll, nat_beq, Bool.and_true]
  rw [Bool.eq_iff_iff]
  simp only [Bool.and_eq_true, decide_eq_true_eq, act_ext]
theorem eqv_mv {v w : Mv} : PyData.eqv (mvE v) (mvE w) = decide (v = w) := by
  have h := eqv_act (a := v.1) (b := w.1)
  obtain ⟨v1, v2⟩ := v
  obtain ⟨w1, w2⟩ := w
  simp only [mvE, PyData.eqv, PyData.eqvAll, Bool.and_true] at h ⊢
  rw [h, nat_beq, Bool.eq_iff_iff]
  simp only [Bool.and_eq_true, decide_eq_true_eq, Prod.mk.injEq]
theorem fine_act {n : Nat} (a : Act) : Fine (n + 1) a.e := Fine.tup.mpr fun x hx => by
  simp only [List.mem_cons, List.not_mem_nil, or_false] at hx
  rcases hx with rfl | rfl | rfl <;> exact Fine.int
theorem fine_mv {n : Nat} (v : Mv) : Fine (n + 2) (mvE v) := Fine.tup.mpr fun x hx => by
  simp only [List.mem_cons, List.not_mem_nil, or_false] at hx
  rcases hx with rfl | rfl
  · exact fine_act _
  · exact Fine.int
theorem any_act {as : List Act} {a : Act} : ((as.map Act.e).any fun z => PyData.eqv z a.e) = decide (a ∈ as) := by
  rw [Bool.eq_iff_iff, List.any_eq_true, decide_eq_true_eq]
  constructor
  · rintro ⟨z, hz, h⟩
    obtain ⟨b, hb, rfl⟩ := List.mem_map.mp hz
    rw [eqv_act, decide_eq_true_eq] at h
    exact h ▸ hb
  · exact fun h => ⟨a.e, List.mem_map_of_mem h, by rw [eqv_act, decide_eq_true_eq]⟩
theorem any_mv {as : List Mv} {a : Mv} : ((as.map mvE).any fun z => PyData.eqv z (mvE a)) = decide (a ∈ as) := by
  rw [Bool.eq_iff_iff, List.any_eq_true, decide_eq_true_eq]
  constructor
  · rintro ⟨z, hz, h⟩
    obtain ⟨b, hb, rfl⟩ := List.mem_map.mp hz
    rw [eqv_mv, decide_eq_true_eq] at h
    exact h ▸ hb
  · exact fun h => ⟨mvE a, List.mem_map_of_mem h, by rw [eqv_mv, decide_eq_true_eq]⟩
theorem c_niAct {as : List Act} {a : Act} : cmpV .notIn (some (.dat a.e)) (some (.dat (.list (as.map Act.e)))) = some (!decide (a ∈ as)) := by
  rw [c_niL (fine_act (n := 63) a).shp (shp_lst fun x hx => ?_), any_act]
  obtain ⟨b, -, rfl⟩ := List.mem_map.mp hx
  exact fine_act b
theorem c_niMv {as : List Mv} {a : Mv} : cmpV .notIn (some (.dat (mvE a))) (some (.dat (.list (as.map mvE)))) = some (!decide (a ∈ as)) := by
  rw [c_niL (fine_mv (n := 62) a).shp (shp_lst fun x hx => ?_), any_mv]
  obtain ⟨b, -, rfl⟩ := List.mem_map.mp hx
  exact fine_mv b
/-! sorting -/
def lexT (a b : List (Int ⊕ List Nat)) : Bool := PyProof.Rows.lexLt PyProof.Rows.itemOrd a b
theorem lexT_nil : lexT [] [] = false := rfl
theorem lex_int {i j : Int} {r t : List (Int ⊕ List Nat)} : lexT (.inl i :: r) (.inl j :: t) = (decide (i < j) || (decide (i = j) && lexT r t)) := by
  show (decide (i < j) || (!decide (j < i) && lexT r t)) = _
  rw [Bool.eq_iff_iff]
  simp only [Bool.or_eq_true, Bool.and_eq_true, decide_eq_true_eq, Bool.not_eq_true', decide_eq_false_iff_not]
  constructor
  · rintro (h | ⟨h, h2⟩)
    · exact .inl h
    · by_cases h3 : i < j
      · exact .inl h3
      · exact .inr ⟨by omega, h2⟩
  · rintro (h | ⟨h, h2⟩)
    · exact .inl h
    · exact .inr ⟨by omega, h2⟩
theorem key_act {a : Act} {r : List (Int ⊕ List Nat)} : PySem.W.keyToks a.e ++ r = .inl 1 :: .inl a.p :: .inl 1 :: .inl a.q :: .inl 1 :: .inl a.m :: .inl 0 :: r := by
  simp only [Act.e, PySem.W.keyToks, PySem.W.keyToksAll, List.cons_append, List.nil_append]
theorem lex_act {a b : Act} {r t : List (Int ⊕ List Nat)} : lexT (PySem.W.keyToks a.e ++ r) (PySem.W.keyToks b.e ++ t) = (a.lt b || (decide (a = b) && lexT r t)) := by
  rw [key_act, key_act]
  simp only [lex_int]
  rw [Bool.eq_iff_iff]
  simp only [Act.lt, Bool.or_eq_true, Bool.and_eq_true, decide_eq_true_eq, act_ext]
  generalize lexT r t = z
  cases z <;> simp <;> omega
theorem le_act {a b : Act} : PySem.W.dataLe false id a.e b.e = a.le b := by
  show (!lexT (PySem.W.keyToks b.e) (PySem.W.keyToks a.e)) = _
  have h := lex_act (a := b) (b := a) (r := []) (t := [])
  rw [List.append_nil, List.append_nil] at h
  rw [h, lexT_nil, Bool.and_false, Bool.or_false]
  rfl
theorem le_mv {v w : Mv} : PySem.W.dataLe false id (mvE v) (mvE w) = mvLe v w := by
  show (!lexT (PySem.W.keyToks (mvE w)) (PySem.W.keyToks (mvE v))) = _
  have h := lex_act (a := w.1) (b := v.1) (r := [.inl 1, .inl (w.2 : Int), .inl 0]) (t := [.inl 1, .inl (v.2 : Int), .inl 0])
  have e : ∀ v : Mv, PySem.W.keyToks (mvE v) = .inl 1 :: (PySem.W.keyToks v.1.e ++ [.inl 1, .inl (v.2 : Int), .inl 0]) := fun v => by
    simp only [mvE, PySem.W.keyToks, PySem.W.keyToksAll, List.cons_append, List.nil_append]
  rw [e, e, lex_int, h]
  simp only [lex_int, lexT_nil, mvLe, mvLt]
  congr 1
  rw [Bool.eq_iff_iff]
  simp
theorem sort_act (as : List Act) : sortD (as.map Act.e) = (as.mergeSort Act.le).map Act.e := (List.map_mergeSort (r := Act.le) (s := PySem.W.dataLe false id) (f := Act.e) fun a _ b _ => le_act.symm).symm
theorem sort_mv (as : List Mv) : sortD (as.map mvE) = (as.mergeSort mvLe).map mvE := (List.map_mergeSort (r := mvLe) (s := PySem.W.dataLe false id) (f := mvE) fun a _ b _ => le_mv.symm).symm
theorem Act.le_trans (a b c : Act) (h : a.le b = true) (h2 : b.le c = true) : a.le c = true := by
  simp only [Act.le, Act.lt, Bool.not_eq_true', decide_eq_false_iff_not] at h h2 ⊢
  omega
theorem Act.le_total (a b : Act) : (a.le b || b.le a) = true := by
  simp only [Act.le, Act.lt, Bool.or_eq_true, Bool.not_eq_true', decide_eq_false_iff_not]
  omega
theorem Act.lt_of {a b : Act} (h : a.le b = true) (h2 : a ≠ b) : a.lt b = true := by
  simp only [Act.le, Act.lt, Bool.not_eq_true', decide_eq_false_iff_not, decide_eq_true_eq, ne_eq, act_ext] at h h2 ⊢
  omega
theorem mvLe_trans (a b c : Mv) (h : mvLe a b = true) (h2 : mvLe b c = true) : mvLe a c = true := by
  simp only [mvLe, mvLt, Act.lt, Bool.not_eq_true', Bool.or_eq_false_iff, Bool.and_eq_false_iff, decide_eq_false_iff_not, act_ext] at h h2 ⊢
  omega
theorem mvLe_total (a b : Mv) : (mvLe a b || mvLe b a) = true := by
  simp only [mvLe, mvLt, Act.lt, Bool.or_eq_true, Bool.not_eq_true', Bool.or_eq_false_iff, Bool.and_eq_false_iff, decide_eq_false_iff_not, act_ext]
  omega
theorem mvLt_of {a b : Mv} (h : mvLe a b = true) (h2 : a ≠ b) : mvLt a b = true := by
  have h3 : ¬ (a.1 = b.1 ∧ a.2 = b.2) := fun h => h2 (Prod.ext h.1 h.2)
  simp only [mvLe, mvLt, Act.lt, Bool.not_eq_true', Bool.or_eq_false_iff, Bool.and_eq_false_iff, decide_eq_false_iff_not, act_ext, Bool.or_eq_true, Bool.and_eq_true, decide_eq_true_eq] at h h3 ⊢
  omega
theorem sorted_act {as : List Act} (h : as.Nodup) : (as.mergeSort Act.le).Pairwise fun a b => a.lt b = true := by
  have h1 := List.pairwise_mergeSort (le := Act.le) Act.le_trans Act.le_total as
  have h2 : (as.mergeSort Act.le).Nodup := (List.mergeSort_perm as Act.le).nodup_iff.mpr h
  exact List.Pairwise.imp₂ (fun a b h1 h2 => Act.lt_of h1 h2) h1 h2
theorem sorted_mv {as : List Mv} (h : as.Nodup) : (as.mergeSort mvLe).Pairwise fun a b => mvLt a b = true := by
  have h1 := List.pairwise_mergeSort (le := mvLe) mvLe_trans mvLe_total as
  have h2 : (as.mergeSort mvLe).Nodup := (List.mergeSort_perm as mvLe).nodup_iff.mpr h
  exact List.Pairwise.imp₂ (fun a b h1 h2 => mvLt_of h1 h2) h1 h2
theorem srtb_act {as : List Act} (h : as.length ≤ 16777216) : (sortable (as.map Act.e) && fits (as.map Act.e).length) = true := by
  rw [List.length_map, fits_of h, Bool.and_true]
  unfold sortable
  simp only [Bool.and_eq_true, Bool.or_eq_true, List.all_eq_true, List.mem_map, forall_exists_index, and_imp, forall_apply_eq_imp_iff₂, decide_eq_true_eq]
  refine ⟨⟨fun a _ b _ => ?_, fun a _ => (fine_act (n := 63) a).2⟩, .inl fun a _ => rfl⟩
  simp only [Act.e, PySem.W.alike, PySem.W.alikeAll, Bool.and_true]
theorem srtb_mv {as : List Mv} (h : as.length ≤ 16777216) : (sortable (as.map mvE) && fits (as.map mvE).length) = true := by
  rw [List.length_map, fits_of h, Bool.and_true]
  unfold sortable
  simp only [Bool.and_eq_true, Bool.or_eq_true, List.all_eq_true, List.mem_map, forall_exists_index, and_imp, forall_apply_eq_imp_iff₂, decide_eq_true_eq]
  refine ⟨⟨fun a _ b _ => ?_, fun a _ => (fine_mv (n := 62) a).2⟩, .inl fun a _ => rfl⟩
  simp only [mvE, Act.e, PySem.W.alike, PySem.W.alikeAll, Bool.and_true]
end PM
set_option Elab.async false
set_option linter.all false
set_option maxRecDepth 100000
/-! PM: what sorted sets look like. -/
namespace PM
open PySem PySem.Spec PyProof.Rows L2
theorem le_int {i j : Int} : PySem.W.dataLe false id (.int i) (.int j) = decide (i ≤ j) := by
  show (!lexT (PySem.W.keyToks (.int j)) (PySem.W.keyToks (.int i))) = _
  simp only [PySem.W.keyToks, lex_int, lexT_nil, Bool.and_false, Bool.or_false]
  rw [Bool.eq_iff_iff, Bool.not_eq_true', decide_eq_false_iff_not, decide_eq_true_eq]
  omega
theorem sort_ints (is : List Int) : sortD (is.map PyData.int) = (is.mergeSort fun a b => decide (a ≤ b)).map PyData.int := (List.map_mergeSort (r := fun a b : Int => decide (a ≤ b)) (s := PySem.W.dataLe false id) (f := PyData.int) fun a _ b _ => le_int.symm).symm
theorem srt_ints {is ns : List Int} (hd : is.Nodup) (h1 : ns.Pairwise (· < ·)) (h2 : ∀ k, k ∈ ns ↔ k ∈ is) : sortD (is.map PyData.int) = ns.map PyData.int := by
  rw [sort_ints]
  congr 1
  have hn : ns.Nodup := h1.imp fun h => by omega
  have hp : ns.Perm is := (List.perm_ext_iff_of_nodup hn hd).mpr h2
  refine List.Perm.eq_of_pairwise (le := fun a b => a ≤ b) (fun a b _ _ h1 h2 => by omega) ?_ (h1.imp fun h => by omega) ((List.mergeSort_perm _ _).trans hp.symm)
  exact (List.pairwise_mergeSort (le := fun a b : Int => decide (a ≤ b)) (fun a b c h1 h2 => by simp at *; omega) (fun a b => by simp; omega) is).imp fun h => by simpa using h
def actI : List Int → Act
  | [x, y, z] => ⟨x.toNat, y.toNat, z.toNat⟩
  | _ => ⟨0, 0, 0⟩
theorem row_data {d : PyData} (h : isRow 3 d = true) : ∃ x y z : Int, d = tupI [x, y, z] ∧ (0 ≤ x ∧ x < 1000) ∧ (0 ≤ y ∧ y < 1000) ∧ (0 ≤ z ∧ z < 1000) := by
  unfold isRow at h
  split at h
  · next xs =>
    rw [Bool.and_eq_true, decide_eq_true_eq] at h
    obtain ⟨h1, h2⟩ := h
    match xs, h1 with
    | [a, b, c], _ =>
      simp only [List.all_cons, List.all_nil, Bool.and_true, Bool.and_eq_true] at h2
      obtain ⟨ha, hb, hc⟩ := h2
      cases a <;> try cases ha
      cases b <;> try cases hb
      cases c <;> try cases hc
      simp only [Bool.and_eq_true, decide_eq_true_eq] at ha hb hc
      exact ⟨_, _, _, rfl, ha, hb, hc⟩
  · cases h
theorem actI_e {x y z : Int} (hx : 0 ≤ x) (hy : 0 ≤ y) (hz : 0 ≤ z) : (actI [x, y, z]).e = tupI [x, y, z] := by
  simp only [actI, Act.e, tupI, List.map_cons, List.map_nil, Int.toNat_of_nonneg hx, Int.toNat_of_nonneg hy, Int.toNat_of_nonneg hz]
theorem code3 (x y z : Int) : TS.code 1000 [x, y, z] = x * 1000000 + y * 1000 + z := by
  have e2 : (1000 : Int) ^ 2 = 1000000 := by decide
  have e1 : (1000 : Int) ^ 1 = 1000 := by decide
  have e0 : (1000 : Int) ^ 0 = 1 := by decide
  show x * 1000 ^ 2 + (y * 1000 ^ 1 + (z * 1000 ^ 0 + 0)) = _
  rw [e2, e1, e0]
  omega
def toAct : PyData → Act
  | .tuple [.int x, .int y, .int z] => actI [x, y, z]
  | _ => ⟨0, 0, 0⟩
/-- the lists of acts, and their codes -/
theorem srt_rows {ks : List PyData} {L L' : List (Addr × List Int)} (hk : ks.all (isRow 3) = true) (h1 : (L.map fun p => tupI p.2).Perm ks) (h2 : L'.Perm L) (h3 : L'.Pairwise fun q r => TS.code 1000 q.2 ≤ TS.code 1000 r.2) : sortD ks = L'.map fun p => tupI p.2 := by
  have hrow : ∀ p ∈ L', isRow 3 (tupI p.2) = true := fun p hp => List.all_eq_true.mp hk _ (h1.mem_iff.mp (List.mem_map.mpr ⟨p, h2.mem_iff.mp hp, rfl⟩))
  have hdat : ∀ p ∈ L', ∃ x y z : Int, p.2 = [x, y, z] ∧ (0 ≤ x ∧ x < 1000) ∧ (0 ≤ y ∧ y < 1000) ∧ (0 ≤ z ∧ z < 1000) := fun p hp => by
    obtain ⟨x, y, z, e, r⟩ := row_data (hrow p hp)
    refine ⟨x, y, z, ?_, r⟩
    have e : p.2.map PyData.int = [x, y, z].map PyData.int := by
      unfold tupI at e
      injection e
    exact (List.map_inj_right (fun a b h => by injection h)).mp e
  have e1 : (L'.map fun p => tupI p.2) = (L'.map fun p => actI p.2).map Act.e := by
    rw [List.map_map]
    refine List.map_congr_left fun p hp => ?_
    obtain ⟨x, y, z, e, ⟨hx, _⟩, ⟨hy, _⟩, hz, _⟩ := hdat p hp
    show tupI p.2 = (actI p.2).e
    rw [e, actI_e hx hy hz]
  have hpm : ((L'.map fun p => actI p.2).map Act.e).Perm ks := by
    rw [← e1]
    exact (h2.map _).trans h1
  have hks : ∃ bs : List Act, ks = bs.map Act.e := by
    have key : ∀ zs : List PyData, zs.all (isRow 3) = true → ∃ bs : List Act, zs = bs.map Act.e := fun zs => by
      induction zs with
      | nil => exact fun _ => ⟨[], rfl⟩
      | cons z zs ih =>
        intro h
        rw [List.all_cons, Bool.and_eq_true] at h
        obtain ⟨bs, rfl⟩ := ih h.2
        obtain ⟨x, y, z', rfl, ⟨hx, _⟩, ⟨hy, _⟩, hz, _⟩ := row_data h.1
        exact ⟨actI [x, y, z'] :: bs, by rw [List.map_cons, actI_e hx hy hz]⟩
    exact key ks hk
  obtain ⟨bs, rfl⟩ := hks
  have hinj : ∀ a b : Act, a.e = b.e → a = b := fun a b h => by
    have := eqv_act (a := a) (b := b)
    rw [h, eqv_act] at this
    simpa using this
  have hbp : (L'.map fun p => actI p.2).Perm bs := by
    have hc := hpm.map toAct
    have e : (toAct ∘ Act.e) = id := by
      funext a
      show actI [(a.p : Int), a.q, a.m] = a
      simp [actI]
    have hmm : ∀ l : List Act, (l.map Act.e).map toAct = l := fun l => by rw [List.map_map, e, List.map_id]
    rw [hmm, hmm] at hc
    exact hc
  rw [sort_act, e1]
  congr 1
  refine List.Perm.eq_of_pairwise (le := fun a b => a.le b = true) (fun a b _ _ h1 h2 => ?_) (List.pairwise_mergeSort (le := Act.le) Act.le_trans Act.le_total bs) ?_ ((List.mergeSort_perm _ _).trans hbp.symm)
  · simp only [Act.le, Act.lt, Bool.not_eq_true', decide_eq_false_iff_not] at h1 h2
    rw [act_ext]
    omega
  · rw [List.pairwise_map]
    refine (List.Pairwise.and_mem.mp h3).imp fun {q r} h => ?_
    obtain ⟨hq, hr, hle⟩ := h
    obtain ⟨x, y, z, e, hx, hy, hz⟩ := hdat q hq
    obtain ⟨x', y', z', e', hx', hy', hz'⟩ := hdat r hr
    rw [e, e', code3, code3] at hle
    rw [e, e']
    show (!(actI [x', y', z']).lt (actI [x, y, z])) = true
    rw [Bool.not_eq_true']
    unfold Act.lt
    rw [decide_eq_false_iff_not]
    show ¬ (x'.toNat < x.toNat ∨ (x'.toNat = x.toNat ∧ (y'.toNat < y.toNat ∨ (y'.toNat = y.toNat ∧ z'.toNat < z.toNat))))
    omega
end PM
set_option Elab.async false
set_option linter.all false
set_option maxRecDepth 100000
set_option maxHeartbeats 1000000
/-! PM: the expressions' rules: chains, and, or, not, if; displays, subscripts, slices; isinstance. -/
namespace PM
open PySem PySem.Spec PyProof.Rows L2
variable [Cur]
section
variable {X : Cx} {Γ : Ctx} {W : WX} {a b c e : Expr} {a' b' c' e' : E} {pos : Pos} {es : List Expr} {es' : List E}

/-! ### a < b < c -/
theorem chn_rd {o1 o2 : CmpOp} {σ : L2.St} {H : Hp} {Q : VK} (h : rdG X.K W (dn Γ (.chn (copOf o1) (copOf o2) a' b' c')).v (VR X.K) σ H Q) :
    tChain (rCmp X.K (copOf o1)) (rCmp X.K (copOf o2)) (rdG X.K W (dn Γ a').p (PR X.K)) (rdG X.K W (dn Γ b').p (PR X.K)) (rdG X.K W (dn Γ c').p (PR X.K)) σ H Q := by
  obtain ⟨F, ρ, s, q⟩ := two_of (f := fun x => (Res.of (cmpV (copOf o1) (x.1.1.vw x.2) (x.1.2.vw x.2))).bind fun k =>
      if k then ((dn Γ c').p x.2).bind fun z => (Res.of (cmpV (copOf o2) (x.1.2.vw z.2) (z.1.vw z.2))).bind fun k => .ok (.val (.bool k), z.2) else .ok (.val (.bool false), x.2)) h
  refine ⟨F, ρ, s, q.mono fun v1 H1 ⟨F1, ρ1, s1, q1⟩ => ⟨F1, ρ1, s1, q1.mono fun v2 H2 ⟨F2, ρ2, x, y, s2, ox, oy, q2⟩ => ?_⟩⟩
  obtain ⟨k, ek, q3⟩ := q2.of
  refine ⟨F2, _, _, k, fun w e => x.vwOk s2 ox e, fun w e => y.vwOk s2 oy e, ek, k, rfl, ?_⟩
  cases k with
  | false =>
    show Q (.bl false) H2
    exact (show rdAt X.K W (.ok (.val (.bool false), ρ2)) (VR X.K) ρ2 F2 σ H2 Q from q3).done s2 ⟨.bl false, fun o a e => by cases e⟩
  | true =>
    show rdG X.K W (dn Γ c').p (PR X.K) σ H2 _
    refine ⟨F2, ρ2, s2, (rdAt.bind (R1 := PR X.K) bkV s2 (show rdAt X.K W (((dn Γ c').p ρ2).bind fun z => (Res.of (cmpV (copOf o2) (y.vw z.2) (z.1.vw z.2))).bind fun k => .ok (.val (.bool k), z.2)) (VR X.K) ρ2 F2 σ H2 Q from q3)).mono fun v3 H3 ⟨F3, ρ3, z, s3, st3, r3, q4⟩ => ?_⟩
    obtain ⟨k, ek, q5⟩ := q4.of
    exact ⟨F3, _, _, k, fun w e => y.vwOk s3 (oy.step s2 st3) e, fun w e => z.vwOk s3 r3.opd e, ek, q5.done s3 ⟨.bl k, fun o a e => by cases e⟩⟩
theorem res_bind_ok {α β : Type} {x : Res α} {f : α → Res β} {r : β} (h : x.bind f = .ok r) : ∃ a, x = .ok a ∧ f a = .ok r := by
  cases x with
  | ok a => exact ⟨a, rfl, h⟩
  | exc c => cases h
  | stuck => cases h
theorem res_of_ok {α β : Type} {x : Option α} {f : α → Res β} {r : β} (h : (Res.of x).bind f = .ok r) : ∃ a, x = some a ∧ f a = .ok r := by
  cases x with
  | some a => exact ⟨a, rfl, h⟩
  | none => cases h
theorem ok_chn (wr : Wor X W) {o1 o2 : CmpOp} (hm : lastMarks [o1, o2] [b, c] = false) (ha : Ok X Γ W a a') (hb : Ok X Γ W b b') (hc : Ok X Γ W c c') : Ok X Γ W (.Compare a [o1, o2] [b, c] pos) (.chn (copOf o1) (copOf o2) a' b' c') := by
  have hv : PEV X W (.Compare a [o1, o2] [b, c] pos) (dn Γ (.chn (copOf o1) (copOf o2) a' b' c')) := PE.imp (pe_chain (cmp_op wr o1) (cmp_op wr o2) ha.p hb.p hc.p hm) fun σ H Q h => chn_rd h
  refine ⟨hv, pep_none rfl hv, PT.imp (pt_chain (cmp_op wr o1) (cmp_op wr o2) ha.p hb.p hc.p hm) fun σ H Q h => ?_⟩
  have h1 := tst_of (d := dn Γ (.chn (copOf o1) (copOf o2) a' b' c')) rfl (fun ρ s ρ' e => ?_) h
  · exact chn_rd h1
  · obtain ⟨x, _, e⟩ := res_bind_ok e
    obtain ⟨y, _, e⟩ := res_bind_ok e
    obtain ⟨k, _, e⟩ := res_of_ok e
    cases k with
    | false => cases e; exact ⟨false, rfl⟩
    | true =>
      obtain ⟨z, _, e⟩ := res_bind_ok (show ((dn Γ c').p y.2).bind _ = _ from e)
      obtain ⟨k, _, e⟩ := res_of_ok e
      cases e
      exact ⟨k, rfl⟩

/-! ### and, or, not, if -/
theorem ok_not (ha : Ok X Γ W a a') : Ok X Γ W (.UnaryOp .Not a pos) (.not a') := by
  have hv : PEV X W (.UnaryOp .Not a pos) (dn Γ (.not a')) := PE.imp (pe_notT ha.p) fun σ H Q h => by
    obtain ⟨F, ρ, s, q⟩ := one_of (f := fun x => (Res.of (truV (x.1.vw x.2))).bind fun k => .ok (.val (.bool (!k)), x.2)) h
    refine ⟨F, ρ, s, q.mono fun v1 H1 ⟨F1, ρ1, x, s1, ox, q1⟩ => ?_⟩
    obtain ⟨k, ek, q2⟩ := q1.of
    obtain ⟨w, ew⟩ : ∃ w, x.vw ρ1 = some w := by
      cases h : x.vw ρ1 with
      | none => rw [h] at ek; cases ek
      | some w => exact ⟨w, rfl⟩
    rw [ew] at ek
    exact ⟨k, tru_of (x.vwOk s1 ox ew) ek, q2.done s1 ⟨.bl _, fun o a e => by cases e⟩⟩
  refine ⟨hv, pep_none rfl hv, PT.imp (pt_not ha.t) fun σ H Q ⟨F, ρ, s, q⟩ => ⟨F, ρ, s, ?_⟩⟩
  refine (rdAt.bind (R1 := BR) (τ := Bool) bkB s (show rdAt X.K W (((dn Γ a').t ρ).bind fun x => .ok (!x.1, x.2)) BR ρ F σ H Q from q)).mono fun v1 H1 ⟨F1, ρ1, k, s1, st1, r1, q1⟩ => ?_
  have r1 : v1 = k := r1
  subst r1
  exact q1.done s1 (v := !v1) rfl
/-- the left value is True or False -/
theorem lft_of {f : Dn → Dn → Fr → Res (Slot × Fr)} {g : Bool → Fr → Res (Slot × Fr)} {d : Dn} {σ : L2.St} {H : Hp} {Q : VK}
    (h : rdG X.K W (fun ρ => (d.p ρ).bind fun x => match x.1.dat x.2 with | some (.bool k) => g k x.2 | _ => .stuck) (VR X.K) σ H Q) :
    rdG X.K W d.p (PR X.K) σ H fun x H1 => ∃ k, x = .bl k ∧ rdG X.K W (g k) (VR X.K) σ H1 Q := by
  obtain ⟨F, ρ, s, q⟩ := one_of (f := fun x => match x.1.dat x.2 with | some (.bool k) => g k x.2 | _ => .stuck) h
  refine ⟨F, ρ, s, q.mono fun v1 H1 ⟨F1, ρ1, x, s1, ox, q1⟩ => ?_⟩
  cases e : x.dat ρ1 with
  | none => simp only [e] at q1; exact q1.elim
  | some d =>
    simp only [e] at q1
    cases d with
    | bool k =>
      have r := x.datOk s1 ox e
      cases r
      exact ⟨k, rfl, F1, ρ1, s1, q1⟩
    | none => exact q1.elim
    | int _ => exact q1.elim
    | str _ => exact q1.elim
    | list _ => exact q1.elim
    | tuple _ => exact q1.elim
    | dict _ => exact q1.elim
theorem ok_and {rest : List Expr} (ha : Ok X Γ W a a') (hb : PEV X W (.BoolOp .And (b :: rest) pos) (dn Γ b')) (ht : PW X (.BoolOp .And (b :: rest) pos) (rdT X.K W (dn Γ b').t)) :
    Ok X Γ W (.BoolOp .And (a :: b :: rest) pos) (.and a' b') ∧ PW X (.BoolOp .And (a :: b :: rest) pos) (rdT X.K W (dn Γ (.and a' b')).t) := by
  have hv : PEV X W (.BoolOp .And (a :: b :: rest) pos) (dn Γ (.and a' b')) := PE.imp (pe_and ha.p hb) fun σ H Q h => by
    have h1 := lft_of (f := fun _ _ _ => .stuck) (g := fun k ρ => if k then (dn Γ b').v ρ else .ok (.val (.bool false), ρ)) (d := dn Γ a') (show rdG X.K W (fun ρ => ((dn Γ a').p ρ).bind fun x => match x.1.dat x.2 with
      | some (.bool k) => if k then (dn Γ b').v x.2 else .ok (.val (.bool false), x.2)
      | _ => .stuck) (VR X.K) σ H Q from by
        have e : (dn Γ (.and a' b')).v = fun ρ => ((dn Γ a').p ρ).bind fun x => match x.1.dat x.2 with
          | some (.bool k) => if k then (dn Γ b').v x.2 else .ok (.val (.bool false), x.2)
          | _ => .stuck := by
          funext ρ
          show ((dn Γ a').p ρ).bind _ = _
          congr 1
          funext x
          cases x.1.dat x.2 with
          | none => rfl
          | some d => cases d <;> first | rfl | (rename_i k; cases k <;> rfl)
        rw [← e]
        exact h)
    obtain ⟨F, ρ, s, q⟩ := h1
    refine ⟨F, ρ, s, q.mono fun v H1 ⟨k, ek, q1⟩ => ⟨k, ek, ?_⟩⟩
    cases k with
    | true => exact q1
    | false =>
      obtain ⟨F, ρ, s, q⟩ := q1
      exact (show rdAt X.K W (.ok (.val (.bool false), ρ)) (VR X.K) ρ F σ H1 Q from q).done s ⟨.bl false, fun o a e => by cases e⟩
  have hw : PW X (.BoolOp .And (a :: b :: rest) pos) (rdT X.K W (dn Γ (.and a' b')).t) := ⟨fun whole pins s σ H Q I ⟨F, ρ, sm, q⟩ => (pw_and ha.t ht).run whole pins s σ H Q I ⟨F, ρ, sm, by
    refine (rdAt.bind (R1 := BR) (τ := Bool) bkB sm (show rdAt X.K W (((dn Γ a').t ρ).bind fun x => if x.1 then (dn Γ b').t x.2 else .ok (false, x.2)) BR ρ F σ H Q from q)).mono fun v1 H1 ⟨F1, ρ1, k, s1, st1, r1, q1⟩ => ?_
    have r1 : v1 = k := r1
    subst r1
    cases v1 with
    | true => exact ⟨F1, ρ1, s1, q1⟩
    | false => exact (show rdAt X.K W (.ok (false, ρ1)) BR ρ1 F1 σ H1 Q from q1).done s1 rfl⟩⟩
  exact ⟨⟨hv, pep_none rfl hv, hw.pt⟩, hw⟩
theorem ok_or {rest : List Expr} (ha : Ok X Γ W a a') (hb : PEV X W (.BoolOp .Or (b :: rest) pos) (dn Γ b')) (ht : PW X (.BoolOp .Or (b :: rest) pos) (rdT X.K W (dn Γ b').t)) :
    Ok X Γ W (.BoolOp .Or (a :: b :: rest) pos) (.or a' b') ∧ PW X (.BoolOp .Or (a :: b :: rest) pos) (rdT X.K W (dn Γ (.or a' b')).t) := by
  have hv : PEV X W (.BoolOp .Or (a :: b :: rest) pos) (dn Γ (.or a' b')) := PE.imp (pe_or ha.p hb) fun σ H Q h => by
    have h1 := lft_of (f := fun _ _ _ => .stuck) (g := fun k ρ => if k then .ok (.val (.bool true), ρ) else (dn Γ b').v ρ) (d := dn Γ a') (show rdG X.K W (fun ρ => ((dn Γ a').p ρ).bind fun x => match x.1.dat x.2 with
      | some (.bool k) => if k then .ok (.val (.bool true), x.2) else (dn Γ b').v x.2
      | _ => .stuck) (VR X.K) σ H Q from by
        have e : (dn Γ (.or a' b')).v = fun ρ => ((dn Γ a').p ρ).bind fun x => match x.1.dat x.2 with
          | some (.bool k) => if k then .ok (.val (.bool true), x.2) else (dn Γ b').v x.2
          | _ => .stuck := by
          funext ρ
          show ((dn Γ a').p ρ).bind _ = _
          congr 1
          funext x
          cases x.1.dat x.2 with
          | none => rfl
          | some d => cases d <;> first | rfl | (rename_i k; cases k <;> rfl)
        rw [← e]
        exact h)
    obtain ⟨F, ρ, s, q⟩ := h1
    refine ⟨F, ρ, s, q.mono fun v H1 ⟨k, ek, q1⟩ => ⟨k, ek, ?_⟩⟩
    cases k with
    | false => exact q1
    | true =>
      obtain ⟨F, ρ, s, q⟩ := q1
      exact (show rdAt X.K W (.ok (.val (.bool true), ρ)) (VR X.K) ρ F σ H1 Q from q).done s ⟨.bl true, fun o a e => by cases e⟩
  have hw : PW X (.BoolOp .Or (a :: b :: rest) pos) (rdT X.K W (dn Γ (.or a' b')).t) := ⟨fun whole pins s σ H Q I ⟨F, ρ, sm, q⟩ => (pw_or ha.t ht).run whole pins s σ H Q I ⟨F, ρ, sm, by
    refine (rdAt.bind (R1 := BR) (τ := Bool) bkB sm (show rdAt X.K W (((dn Γ a').t ρ).bind fun x => if x.1 then .ok (true, x.2) else (dn Γ b').t x.2) BR ρ F σ H Q from q)).mono fun v1 H1 ⟨F1, ρ1, k, s1, st1, r1, q1⟩ => ?_
    have r1 : v1 = k := r1
    subst r1
    cases v1 with
    | false => exact ⟨F1, ρ1, s1, q1⟩
    | true => exact (show rdAt X.K W (.ok (true, ρ1)) BR ρ1 F1 σ H1 Q from q1).done s1 rfl⟩⟩
  exact ⟨⟨hv, pep_none rfl hv, hw.pt⟩, hw⟩
theorem pt_ite {tc ta tb : TT} (hc : PT X c tc) (ha : PT X a ta) (hb : PT X b tb) : PT X (.IfExp c a b pos) (fun σ H Q => tc σ H fun k H1 => if k = true then ta σ H1 Q else tb σ H1 Q) := by
  refine ⟨fun pins s σ H Q I h => ?_⟩
  rw [PySem.isTrue]
  refine wpAny_bind (thn (hc.run pins s σ H _ I h) fun k s1 ⟨H1, I1, q⟩ => ?_)
  cases k with
  | true => exact ha.run pins s1 σ H1 Q I1 q
  | false => exact hb.run pins s1 σ H1 Q I1 q
theorem ok_ite (hc : Ok X Γ W c c') (ha : Ok X Γ W a a') (hb : Ok X Γ W b b') :
    Ok X Γ W (.IfExp c a b pos) (.ite c' a' b') := by
  have hv : PEV X W (.IfExp c a b pos) (dn Γ (.ite c' a' b')) := PE.imp (pe_ifExp hc.t ha.v hb.v) fun σ H Q ⟨F, ρ, s, q⟩ => ⟨F, ρ, s, by
    refine (rdAt.bind (R1 := BR) (τ := Bool) bkV s (show rdAt X.K W (((dn Γ c').t ρ).bind fun x => if x.1 then (dn Γ a').v x.2 else (dn Γ b').v x.2) (VR X.K) ρ F σ H Q from q)).mono fun v1 H1 ⟨F1, ρ1, k, s1, st1, r1, q1⟩ => ?_
    have r1 : v1 = k := r1
    subst r1
    cases v1 with
    | true => exact ⟨F1, ρ1, s1, q1⟩
    | false => exact ⟨F1, ρ1, s1, q1⟩⟩
  refine ⟨hv, pep_none rfl hv, PT.imp (pt_ite hc.t ha.t hb.t) fun σ H Q ⟨F, ρ, s, q⟩ => ⟨F, ρ, s, ?_⟩⟩
  refine (rdAt.bind (R1 := BR) (τ := Bool) bkB s (show rdAt X.K W (((dn Γ c').t ρ).bind fun x => if x.1 then (dn Γ a').t x.2 else (dn Γ b').t x.2) BR ρ F σ H Q from q)).mono fun v1 H1 ⟨F1, ρ1, k, s1, st1, r1, q1⟩ => ?_
  have r1 : v1 = k := r1
  subst r1
  cases v1 with
  | true => exact ⟨F1, ρ1, s1, q1⟩
  | false => exact ⟨F1, ρ1, s1, q1⟩
end
end PM
set_option Elab.async false
set_option linter.all false
set_option maxRecDepth 100000
set_option maxHeartbeats 1000000
/-! PM: argument lists, displays, subscripts, slices, isinstance. -/
namespace PM
open PySem PySem.Spec PyProof.Rows L2
variable [Cur]
theorem PA.imp {X : Cx} {es : List Expr} {t t' : TA} (h : PA X es t) (k : ∀ σ H Q, t' σ H Q → t σ H Q) : PA X es t' := ⟨fun pos pins s σ H Q I q => h.run pos pins s σ H Q I (k σ H Q q)⟩
def VsR (K : PySem.W.Frag) : RR (List PyData) (List V) := fun _ _ _ _ F' H' ds vs => RpA K F' H' vs ds
theorem bkVs {K : PySem.W.Frag} : Bk (VsR K) := fun _ _ _ _ _ _ _ _ _ _ _ _ _ h => h
inductive OpsOk (K : PySem.W.Frag) (ρ : Fr) (σ : L2.St) (F : Ad) (H : Hp) : List V → List Opd → Prop
  | nil : OpsOk K ρ σ F H [] []
  | cons {v : V} {vs : List V} {p : Opd} {ps : List Opd} : OpdOk K ρ σ F H v p → OpsOk K ρ σ F H vs ps → OpsOk K ρ σ F H (v :: vs) (p :: ps)
def PsR (K : PySem.W.Frag) : RR (List Opd) (List V) := fun _ σ _ ρ' F' H' ps vs => OpsOk K ρ' σ F' H' vs ps
theorem bkPs {K : PySem.W.Frag} : Bk (PsR K) := fun _ _ _ _ _ _ _ _ _ _ _ _ _ h => h
/-- frozen arguments -/
inductive ArgOk (K : PySem.W.Frag) (F : Ad) (H : Hp) : List V → List Slot → Prop
  | nil : ArgOk K F H [] []
  | val {v : V} {vs : List V} {d : PyData} {ps : List Slot} : Rp K F H v d → ArgOk K F H vs ps → ArgOk K F H (v :: vs) (.val d :: ps)
  | ins {a : Addr} {vs : List V} {c : Str} {fs : List (Str × PyData)} {ps : List Slot} : FzI K F H a c fs → ArgOk K F H vs ps → ArgOk K F H (.ref a :: vs) (.ins c fs :: ps)
def AsR (K : PySem.W.Frag) : RR (List Slot) (List V) := fun _ _ _ _ F' H' ps vs => ArgOk K F' H' vs ps
theorem bkAs {K : PySem.W.Frag} : Bk (AsR K) := fun _ _ _ _ _ _ _ _ _ _ _ _ _ h => h
section
variable {K : PySem.W.Frag} {W : WX} {F F1 : Ad} {H H1 : Hp} {ρ ρ1 : Fr} {σ : L2.St}
theorem OpsOk.step (sim : Sim K F H ρ σ) (st : Stp ρ σ F H ρ1 σ F1 H1) : ∀ {vs : List V} {ps : List Opd}, OpsOk K ρ σ F H vs ps → OpsOk K ρ1 σ F1 H1 vs ps
  | _, _, .nil => .nil
  | _, _, .cons h t => .cons (h.step sim st) (OpsOk.step sim st t)
theorem ArgOk.mono (g : Grow F F1 H H1) : ∀ {vs : List V} {ps : List Slot}, ArgOk K F H vs ps → ArgOk K F1 H1 vs ps
  | _, _, .nil => .nil
  | _, _, .val h t => .val (h.mono g) (ArgOk.mono g t)
  | _, _, .ins h t => .ins ⟨g.sub _ h.1, h.2.mono g fun o e => g.kept _ o h.1 e⟩ (ArgOk.mono g t)
theorem FzI.of {a : Addr} {c : Str} {fs : List (Str × PyData)} (h : MoOk K F H a (.ins c fs)) : FzI K (addF F a) H a c fs := ⟨.inr rfl, h.mono ⟨fun _ h => .inl h, fun _ _ _ e => e⟩ fun _ e => e⟩
/-- a value as an argument: frozen -/
theorem rd_fz {x : Res (Slot × Fr)} {f : Slot × Fr → Res (List Slot × Fr)} {Q : List V → Hp → Prop} (sim : Sim K F H ρ σ)
    (h : rdAt K W (x.bind fun x => (Res.of x.1.fz).bind fun s => f (s, x.2)) (AsR K) ρ F σ H Q) :
    rdAt K W x (VR K) ρ F σ H fun v H1 => ∃ (F1 : Ad) (ρ1 : Fr) (s : Slot), Sim K F1 H1 ρ1 σ ∧ Stp ρ σ F H ρ1 σ F1 H1 ∧ (∀ vs ps, ∀ F' H', Grow F1 F' H1 H' → ArgOk K F' H' vs ps → ArgOk K F' H' (v :: vs) (s :: ps)) ∧ rdAt K W (f (s, ρ1)) (AsR K) ρ1 F1 σ H1 Q := by
  cases x with
  | ok q =>
    intro v F' H' s st r
    have back : ∀ {s1 : Slot} {F2 : Ad}, Stp ρ σ F H q.2 σ F2 H' → rdAt K W (f (s1, q.2)) (AsR K) ρ F σ H Q → rdAt K W (f (s1, q.2)) (AsR K) q.2 F2 σ H' Q := fun {s1 F2} st2 h' => by
      revert h'
      cases f (s1, q.2) with
      | ok z => exact fun h' v F3 H3 a b c => h' v F3 H3 a (st2.trans b) c
      | exc c => exact fun h' => h'.back st2 (s.len.trans sim.len.symm)
      | stuck => exact fun h' => h'
    obtain ⟨sz, ez, h1⟩ := h.of (x := q.1.fz)
    obtain ⟨sl, ρ'⟩ := q
    cases sl with
    | val d =>
      cases ez
      exact ⟨F', ρ', _, s, st, fun vs ps F2 H2 g t => .val (Rp.mono g r.1) t, back st h1⟩
    | ins c fs =>
      cases ez
      obtain ⟨⟨a, rfl, hi⟩, _⟩ := r
      exact ⟨F', ρ', _, s, st, fun vs ps F2 H2 g t => .ins ⟨g.sub _ hi.1, hi.2.mono g fun o e => g.kept _ o hi.1 e⟩ t, back st h1⟩
    | own o =>
      obtain ⟨⟨a, rfl, hn, hm⟩, ha⟩ := r
      obtain ⟨n1, n2⟩ := ha o a rfl rfl
      cases o with
      | lst ds =>
        cases ez
        exact ⟨addF F' a, ρ', _, s.freeze n1 hm.there, st.freeze n2, fun vs ps F2 H2 g t => .val (Rp.mono g hm.frz) t, back (st.freeze n2) h1⟩
      | ins c fs =>
        cases ez
        have hi := FzI.of hm
        exact ⟨addF F' a, ρ', _, s.freeze n1 hm.there, st.freeze n2, fun vs ps F2 H2 g t => .ins ⟨g.sub _ hi.1, hi.2.mono g fun o e => g.kept _ o hi.1 e⟩ t, back (st.freeze n2) h1⟩
      | dic _ => cases ez
      | set _ => cases ez
    | no => cases ez
    | brw _ => cases ez
  | exc c => exact h
  | stuck => exact h
end
section
variable {X : Cx} {Γ : Ctx} {W : WX} {a b c e : Expr} {a' b' c' e' : E} {pos : Pos} {es : List Expr} {es' : List E}
/-- the three readings of a list of arguments -/
structure Oks (X : Cx) (Γ : Ctx) (W : WX) (es : List Expr) (es' : List E) : Prop where
  vs : PA X es (rdG X.K W (dVs (dns Γ es')) (VsR X.K))
  ps : PA X es (rdG X.K W (dPs (dns Γ es')) (PsR X.K))
  as : PA X es (rdG X.K W (dAs (dns Γ es')) (AsR X.K))
theorem oks_nil : Oks X Γ W [] [] where
  vs := PA.imp pa_nil fun σ H Q ⟨F, ρ, s, q⟩ => (show rdAt X.K W (.ok ([], ρ)) (VsR X.K) ρ F σ H Q from q).done s .nil
  ps := PA.imp pa_nil fun σ H Q ⟨F, ρ, s, q⟩ => (show rdAt X.K W (.ok ([], ρ)) (PsR X.K) ρ F σ H Q from q).done s .nil
  as := PA.imp pa_nil fun σ H Q ⟨F, ρ, s, q⟩ => (show rdAt X.K W (.ok ([], ρ)) (AsR X.K) ρ F σ H Q from q).done s .nil
theorem oks_cons (he : Ok X Γ W e e') (hs : Oks X Γ W es es') (hst : starEach (e :: es) X.env = (false, eval e X.env) :: starEach es X.env) : Oks X Γ W (e :: es) (e' :: es') where
  vs := PA.imp (pa_cons (ped_of he.v) hs.vs hst) fun σ H Q ⟨F, ρ, s, q⟩ => ⟨F, ρ, s, by
    refine (rdAt.bind (R1 := DR X.K) bkVs s (show rdAt X.K W (((dn Γ e').d ρ).bind fun x => (dVs (dns Γ es') x.2).bind fun y => .ok (x.1 :: y.1, y.2)) (VsR X.K) ρ F σ H Q from q)).mono fun v1 H1 ⟨F1, ρ1, x, s1, st1, r1, q1⟩ => ?_
    refine ⟨F1, ρ1, s1, (rdAt.bind (R1 := VsR X.K) bkVs s1 q1).mono fun v2 H2 ⟨F2, ρ2, y, s2, st2, r2, q2⟩ => ?_⟩
    exact q2.done s2 (.cons (Rp.mono (st2.grow s1) r1) r2)⟩
  ps := PA.imp (pa_cons he.p hs.ps hst) fun σ H Q ⟨F, ρ, s, q⟩ => ⟨F, ρ, s, by
    refine (rdAt.bind (R1 := PR X.K) bkPs s (show rdAt X.K W (((dn Γ e').p ρ).bind fun x => (dPs (dns Γ es') x.2).bind fun y => .ok (x.1 :: y.1, y.2)) (PsR X.K) ρ F σ H Q from q)).mono fun v1 H1 ⟨F1, ρ1, x, s1, st1, r1, q1⟩ => ?_
    refine ⟨F1, ρ1, s1, (rdAt.bind (R1 := PsR X.K) bkPs s1 q1).mono fun v2 H2 ⟨F2, ρ2, y, s2, st2, r2, q2⟩ => ?_⟩
    exact q2.done s2 (.cons (r1.opd.step s1 st2) r2)⟩
  as := PA.imp (pa_cons he.v hs.as hst) fun σ H Q ⟨F, ρ, s, q⟩ => ⟨F, ρ, s, by
    refine (rd_fz (f := fun z => (dAs (dns Γ es') z.2).bind fun y => .ok (z.1 :: y.1, y.2)) s q).mono fun v1 H1 ⟨F1, ρ1, sl, s1, st1, r1, q1⟩ => ?_
    refine ⟨F1, ρ1, s1, (rdAt.bind (R1 := AsR X.K) bkAs s1 q1).mono fun v2 H2 ⟨F2, ρ2, y, s2, st2, r2, q2⟩ => ?_⟩
    exact q2.done s2 (r1 v2 y F2 H2 (st2.grow s1) r2)⟩

/-! ### displays -/
theorem ok_tup {k : Nat} (h : Oks X Γ W es es') : Ok X Γ W (.Tuple es k pos) (.tup es') := by
  refine .of rfl (PE.imp (pe_tup h.vs) fun σ H Q ⟨F, ρ, s, q⟩ => ⟨F, ρ, s, ?_⟩) fun _ => rfl
  refine (rdAt.bind (R1 := VsR X.K) bkV s (show rdAt X.K W ((dVs (dns Γ es') ρ).bind fun x => if fits x.1.length then .ok (.val (.tuple x.1), x.2) else .stuck) (VR X.K) ρ F σ H Q from q)).mono fun v1 H1 ⟨F1, ρ1, ds, s1, st1, r1, q1⟩ => ?_
  have r1 : RpA X.K F1 H1 v1 ds := r1
  by_cases c : fits ds.length = true
  · simp only [if_pos c] at q1
    exact ⟨by rw [r1.len]; exact fits_line c, fun p hp => q1.newTup s1 hp r1⟩
  · simp only [if_neg c] at q1
    exact q1.elim
theorem ok_lst (h : Oks X Γ W es es') : Ok X Γ W (.List es pos) (.lst es') := by
  refine .of rfl (PE.imp (pe_lst h.vs) fun σ H Q ⟨F, ρ, s, q⟩ => ⟨F, ρ, s, ?_⟩) fun _ => rfl
  refine (rdAt.bind (R1 := VsR X.K) bkV s (show rdAt X.K W ((dVs (dns Γ es') ρ).bind fun x => if fits x.1.length then .ok (.own (.lst x.1), x.2) else .stuck) (VR X.K) ρ F σ H Q from q)).mono fun v1 H1 ⟨F1, ρ1, ds, s1, st1, r1, q1⟩ => ?_
  have r1 : RpA X.K F1 H1 v1 ds := r1
  by_cases c : fits ds.length = true
  · simp only [if_pos c] at q1
    exact ⟨by rw [r1.len]; exact fits_line c, fun p hp => q1.newLst s1 hp r1⟩
  · simp only [if_neg c] at q1
    exact q1.elim

/-! ### subscripts -/
theorem atI_rp {K : PySem.W.Frag} {F : Ad} {H : Hp} {xs : List V} {ds : List PyData} {i : Int} {d : PyData} (r : RpA K F H xs ds) (h : atI ds i = some d) : ∃ v, atI xs i = some v ∧ Rp K F H v d := by
  obtain ⟨j, h1, h2⟩ := Option.bind_eq_some_iff.mp h
  obtain ⟨v, h3, h4⟩ := r.get h2
  exact ⟨v, by unfold atI; rw [r.len, h1]; exact h3, h4⟩
def rSub (K : PySem.W.Frag) : R2 := fun x y H Q => ∃ (F : Ad) (w : Vw) (i d : PyData), VwOk K F H x w ∧ Rp K F H y i ∧ subV (some w) i = some d ∧ ∀ v, Rp K F H v d → Q v H
theorem sub_ix : IxR X (rSub X.K) := by
  refine IxR.imp (IxR.or (ix_list (X := X)) ix_tup) fun x y H Q ⟨F, w, i, d, hw, hy, hs, hq⟩ => ?_
  cases w with
  | dat c =>
    cases i with
    | int j =>
      cases hy
      cases c with
      | list ds =>
        obtain ⟨p, xs, rfl, h1, h2⟩ := hw
        obtain ⟨v, e, r⟩ := atI_rp h2 hs
        exact .inl ⟨p, xs, j, v, rfl, rfl, h1, e, hq v r⟩
      | tuple ds =>
        cases hw with
        | tup h1 h2 =>
          obtain ⟨v, e, r⟩ := atI_rp h2 hs
          exact .inr ⟨_, _, j, v, rfl, rfl, h1.sq, e, hq v r⟩
      | none => cases hs
      | bool _ => cases hs
      | int _ => cases hs
      | str _ => cases hs
      | dict _ => cases hs
    | none => cases c <;> cases hs
    | bool _ => cases c <;> cases hs
    | str _ => cases c <;> cases hs
    | list _ => cases c <;> cases hs
    | tuple _ => cases c <;> cases hs
    | dict _ => cases c <;> cases hs
  | dic _ => obtain ⟨_, _, z⟩ := hw; exact z.elim
  | set _ => cases i <;> cases hs
  | ins _ _ => cases i <;> cases hs
theorem ok_sub (hp : PlainIx b) (ha : Ok X Γ W a a') (hb : Ok X Γ W b b') : Ok X Γ W (.Subscript a b pos) (.sub a' b') := by
  refine .of rfl (PE.imp (pe_ix sub_ix ha.p (ped_of hb.v) hp) fun σ H Q ⟨F, ρ, s, q⟩ => ⟨F, ρ, s, ?_⟩) fun _ => rfl
  refine (rdAt.bind (R1 := PR X.K) bkV s (show rdAt X.K W (((dn Γ a').p ρ).bind fun x => ((dn Γ b').d x.2).bind fun y => (Res.of (subV (x.1.vw y.2) y.1)).bind fun d => .ok (.val d, y.2)) (VR X.K) ρ F σ H Q from q)).mono fun v1 H1 ⟨F1, ρ1, x, s1, st1, r1, q1⟩ => ?_
  refine ⟨F1, ρ1, s1, (rdAt.bind (R1 := DR X.K) bkV s1 q1).mono fun v2 H2 ⟨F2, ρ2, y, s2, st2, r2, q2⟩ => ?_⟩
  obtain ⟨d, ed, q3⟩ := q2.of
  cases ew : x.vw ρ2 with
  | none => simp only [ew] at ed; cases y <;> cases ed
  | some w =>
    simp only [ew] at ed
    exact ⟨F2, w, y, d, x.vwOk s2 (r1.opd.step s1 st2) ew, r2, ed, fun v hv => q3.done s2 ⟨hv, fun o a e => by cases e⟩⟩

/-! ### slices -/
theorem RpA.cut {K : PySem.W.Frag} {F : Ad} {H : Hp} {xs : List V} {ds : List PyData} (r : RpA K F H xs ds) (lo hi : Option Int) : RpA K F H (cutV xs lo hi) (PM.cut ds lo hi) := by
  unfold cutV PM.cut
  rw [r.len]
  exact RpA.take _ (RpA.drop _ r)
theorem cut_whole {ds : List PyData} {lo hi : Option Int} (h : HT.sIx ds.length 0 lo = 0 ∧ HT.sIx ds.length ds.length hi = ds.length) : PM.cut ds lo hi = ds := by
  unfold PM.cut
  rw [h.1, h.2, List.drop_zero, Nat.sub_zero, List.take_length]
def OR : RR (Option Int) (Option Int) := fun _ _ _ _ _ _ o o' => o = o'
theorem bkO : Bk OR := fun _ _ _ _ _ _ _ _ _ _ _ _ _ h => h
/-- a bound of a slice: its expression, or nothing -/
def Bnd (X : Cx) (Γ : Ctx) (W : WX) (e : Option Expr) (h : Bool) (e' : E) : Prop := ∃ t : TO, PO X e t ∧ ∀ σ H (Q : Option Int → Hp → Prop), rdG X.K W (bndR h (dn Γ e')) OR σ H Q → t σ H Q
theorem bnd_none : Bnd X Γ W none false e' := ⟨_, po_none, fun σ H Q ⟨F, ρ, s, q⟩ => (show rdAt X.K W (.ok ((none : Option Int), ρ)) OR ρ F σ H Q from q).done s rfl⟩
theorem bnd_some (h : Ok X Γ W e e') : Bnd X Γ W (some e) true e' := ⟨_, po_some (ped_of h.v), fun σ H Q ⟨F, ρ, s, q⟩ => ⟨F, ρ, s, by
  refine (rdAt.bind (R1 := DR X.K) bkO s (show rdAt X.K W (((dn Γ e').d ρ).bind fun y => (Res.of (intOf y.1)).bind fun i => .ok (some i, y.2)) OR ρ F σ H Q from q)).mono fun v1 H1 ⟨F1, ρ1, x, s1, st1, r1, q1⟩ => ?_
  obtain ⟨i, ei, q2⟩ := q1.of
  have r1 : Rp X.K F1 H1 v1 x := r1
  cases x with
  | int j =>
    cases ei
    cases r1
    exact ⟨i, rfl, q2.done s1 rfl⟩
  | none => cases ei
  | bool _ => cases ei
  | str _ => cases ei
  | list _ => cases ei
  | tuple _ => cases ei
  | dict _ => cases ei⟩⟩
def rSlc (K : PySem.W.Frag) (W : WX) : V → Option Int → Option Int → Hp → VK → Prop := fun x lo hi H Q => ∃ (F : Ad) (ρ : Fr) (σ : L2.St) (w : Vw) (s : Slot), Sim K F H ρ σ ∧ VwOk K F H x w ∧ slcV (some w) lo hi = some s ∧ rdAt K W (.ok (s, ρ)) (VR K) ρ F σ H Q
theorem SlR.imp {r r' : V → Option Int → Option Int → Hp → VK → Prop} (h : SlR X r) (k : ∀ x lo hi H Q, r' x lo hi H Q → r x lo hi H Q) : SlR X r' := by
  intro pins s σ H x v vl vu lo hi sl Q I rx hs pl pu q
  exact h pins s σ H x v vl vu lo hi sl Q I rx hs pl pu (k x lo hi H Q q)
theorem slc_sl : SlR X (rSlc X.K W) := by
  refine SlR.imp (SlR.or (sl_list (X := X)) sl_tupA) fun x lo hi H Q ⟨F, ρ, σ, w, s, sim, hw, hs, hq⟩ => ?_
  cases w with
  | dat c =>
    cases c with
    | list ds =>
      cases hs
      obtain ⟨p, xs, rfl, h1, h2⟩ := hw
      exact .inl ⟨p, xs, rfl, h1, fun q hp => hq.newLst sim hp (h2.cut lo hi)⟩
    | tuple ds =>
      cases hs
      have hw' : Rp X.K F H x (.tuple ds) := hw
      cases hw' with
      | @tup p xs _ h1 h2 =>
        refine .inr ⟨p, xs, rfl, h1.sq, fun e => ?_, fun _ q hp => hq.newTup sim hp (h2.cut lo hi)⟩
        rw [h2.len] at e
        rw [cut_whole e] at hq
        exact hq.done sim ⟨.tup h1 h2, fun o a e => by cases e⟩
    | none => cases hs
    | bool _ => cases hs
    | int _ => cases hs
    | str _ => cases hs
    | dict _ => cases hs
  | dic _ => cases hs
  | set _ => cases hs
  | ins _ _ => cases hs
theorem ok_slc {lo hi : Option Expr} {hl hh : Bool} {lo' hi' : E} {p2 : Pos} (ha : Ok X Γ W a a') (h1 : Bnd X Γ W lo hl lo') (h2 : Bnd X Γ W hi hh hi') : Ok X Γ W (.Subscript a (.Slice lo hi none p2) pos) (.slc a' hl lo' hh hi') := by
  obtain ⟨t1, p1, k1⟩ := h1
  obtain ⟨t2, p2, k2⟩ := h2
  refine .of rfl (PE.imp (pe_slice (slc_sl (W := W)) ha.p p1 p2) fun σ H Q ⟨F, ρ, s, q⟩ => ⟨F, ρ, s, ?_⟩) fun _ => rfl
  refine (rdAt.bind (R1 := PR X.K) bkV s (show rdAt X.K W (((dn Γ a').p ρ).bind fun x => (bndR hl (dn Γ lo') x.2).bind fun y => (bndR hh (dn Γ hi') y.2).bind fun z => (Res.of (slcV (x.1.vw z.2) y.1 z.1)).bind fun s => .ok (s, z.2)) (VR X.K) ρ F σ H Q from q)).mono fun v1 H1 ⟨F1, ρ1, x, s1, st1, r1, q1⟩ => ?_
  refine k1 σ H1 _ ⟨F1, ρ1, s1, (rdAt.bind (R1 := OR) bkV s1 q1).mono fun v2 H2 ⟨F2, ρ2, y, s2, st2, r2, q2⟩ => ?_⟩
  refine k2 σ H2 _ ⟨F2, ρ2, s2, (rdAt.bind (R1 := OR) bkV s2 q2).mono fun v3 H3 ⟨F3, ρ3, z, s3, st3, r3, q3⟩ => ?_⟩
  have r2 : y = v2 := r2
  have r3 : z = v3 := r3
  subst r2 r3
  obtain ⟨sl, es, q4⟩ := q3.of
  cases ew : x.vw ρ3 with
  | none => simp only [ew] at es; cases es
  | some w =>
    simp only [ew] at es
    exact ⟨F3, ρ3, σ, w, sl, s3, x.vwOk s3 ((r1.opd.step s1 st2).step s2 st3) ew, es, q4⟩

/-! ### isinstance -/
theorem kit6 : ∀ t ∈ ["int", "bool", "str", "tuple", "list"], ∀ n ∈ ["NoneType", "bool", "int", "str", "list", "tuple"], kitB n t = some (decide (n = t) || (decide (n = "bool") && decide (t = "int"))) := by decide +kernel
def tyName : PyData → String
  | .none => "NoneType"
  | .bool _ => "bool"
  | .int _ => "int"
  | .str _ => "str"
  | .list _ => "list"
  | .tuple _ => "tuple"
  | .dict _ => "dict"
theorem tyx_of {F : Ad} {H : Hp} {v : V} {d : PyData} (h : Rq X.K F H v d) : TyX X.K H v (.type (tyName d)) := by
  cases d with
  | none => cases h; exact .base .non
  | bool b => cases h; exact .base (.bl b)
  | int i => cases h; exact .base (.int i)
  | str x => cases h; exact .base (.str x)
  | list ds =>
    obtain ⟨a, xs, rfl, h1, _⟩ := h
    rcases h1 with (h1 | ⟨o, h1⟩) | ⟨o, its, n, h1, h2, _⟩
    · exact .base (.lst h1)
    · exact .base (.frz h1)
    · exact .kList h1 h2
  | tuple ds =>
    have h' : Rp X.K F H v (.tuple ds) := h
    cases h' with
    | tup h1 _ =>
      rcases h1.sq with (h1 | ⟨o, h1⟩) | ⟨o, its, n, h1, h2, _⟩
      · exact .base (.tup h1)
      · exact .fTuple h1
      · exact .kTuple h1 h2
  | dict _ => cases h
def Ty.nm : Ty → String
  | .int => "int"
  | .bool => "bool"
  | .str => "str"
  | .tuple => "tuple"
  | .list => "list"
theorem isi_kit {d : PyData} {t : Ty} (hd : ∀ kv, d ≠ .dict kv) : kitB (tyName d) t.nm = some (isiD d t) := by
  have key : ∀ m ∈ ["NoneType", "bool", "int", "str", "list", "tuple"], ∀ n ∈ ["int", "bool", "str", "tuple", "list"], kitB m n = some (decide (m = n) || (decide (m = "bool") && decide (n = "int"))) := fun m hm n hn => kit6 n hn m hm
  have hm : tyName d ∈ ["NoneType", "bool", "int", "str", "list", "tuple"] := by
    cases d <;> first | exact absurd rfl (hd _) | simp [tyName]
  have hn : t.nm ∈ ["int", "bool", "str", "tuple", "list"] := by cases t <;> simp [Ty.nm]
  rw [key _ hm _ hn]
  cases t <;> cases d <;> rfl
theorem Rq.nodict {K : PySem.W.Frag} {F : Ad} {H : Hp} {v : V} {d : PyData} (h : Rq K F H v d) : ∀ kv, d ≠ .dict kv := fun kv e => by
  subst e
  cases h
theorem ok_isi {t : Ty} {x : Str} {p p2 : Pos} (gl : Gl X "isinstance") (hm : X.mg "isinstance" = none) (h2 : PE X (.Name x p2) (tC (.ty t.nm))) (ha : Ok X Γ W a a')
    (hs1 : starEach [a, .Name x p2] X.env = (false, eval a X.env) :: starEach [.Name x p2] X.env) : Ok X Γ W (.Call (.Name "isinstance" p) [a, .Name x p2] [] pos) (.isi a' t) := by
  refine .of rfl (PE.imp (pe_callB call_isi gl hm rfl (pa_cons ha.p (pa_cons h2 pa_nil rfl) hs1) (by decide) (by decide) hs1 rfl) fun σ H Q h => ?_) fun _ => rfl
  obtain ⟨F, ρ, s, q⟩ := one_of (f := fun x => (Res.of ((x.1.dat x.2).map fun d => isiD d t)).bind fun k => .ok (.val (.bool k), x.2)) h
  refine ⟨F, ρ, s, q.mono fun v1 H1 ⟨F1, ρ1, x, s1, ox, q1⟩ => ?_⟩
  obtain ⟨k, ek, q2⟩ := q1.of
  obtain ⟨d, hd, ek⟩ := Option.map_eq_some_iff.mp ek
  have r := x.datOk s1 ox hd
  exact ⟨v1, .ty t.nm, _, _, k, rfl, .ty _, tyx_of r, kit_ty (by rw [isi_kit r.nodict, ek]), q2.done s1 ⟨.bl k, fun o a e => by cases e⟩⟩
end
end PM
set_option Elab.async false
set_option linter.all false
set_option maxRecDepth 100000
set_option maxHeartbeats 1000000
/-! PM: built-in functions and methods, fields. -/
namespace PM
open PySem PySem.Spec PyProof.Rows L2
variable [Cur]
section
variable {K : PySem.W.Frag} {W : WX} {F F1 : Ad} {H H1 : Hp} {ρ ρ1 : Fr} {σ : L2.St}
theorem seq_ok {v : V} {x : Option Vw} {ds : List PyData} (h : ∀ w, x = some w → VwOk K F H v w) (e : seqOf x = some ds) : ∃ a ys, v = .ref a ∧ (SqL K H a ys ∨ (SqT K H a ys ∧ Rp K F H v (.tuple ds))) ∧ RpA K F H ys ds := by
  cases x with
  | none => cases e
  | some w =>
    have hw := h w rfl
    cases w with
    | dat d =>
      cases d with
      | list xs =>
        cases e
        obtain ⟨a, ys, rfl, h1, h2⟩ := hw
        exact ⟨a, ys, rfl, .inl h1, h2⟩
      | tuple xs =>
        cases e
        have hw' : Rp K F H v (.tuple ds) := hw
        cases hw' with
        | tup h1 h2 => exact ⟨_, _, rfl, .inr ⟨h1.sq, .tup h1 h2⟩, h2⟩
      | none => cases e
      | bool _ => cases e
      | int _ => cases e
      | str _ => cases e
      | dict _ => cases e
    | dic _ => obtain ⟨_, _, z⟩ := hw; exact z.elim
    | set _ => cases e
    | ins _ _ => cases e
theorem lst_ok {v : V} {x : Option Vw} {ds : List PyData} (h : ∀ w, x = some w → VwOk K F H v w) (e : lstOf x = some ds) : ∃ a ys, v = .ref a ∧ SqL K H a ys ∧ RpA K F H ys ds := by
  cases x with
  | none => cases e
  | some w =>
    have hw := h w rfl
    cases w with
    | dat d =>
      cases d with
      | list xs =>
        cases e
        exact hw
      | tuple xs => cases e
      | none => cases e
      | bool _ => cases e
      | int _ => cases e
      | str _ => cases e
      | dict _ => cases e
    | dic _ => cases e
    | set _ => cases e
    | ins _ _ => cases e
theorem ints_ok : ∀ {ys : List V} {ds : List PyData} {ns : List Int}, RpA K F H ys ds → intsOf ds = some ns → ys = ns.map V.int
  | _, _, _, .nil, e => by cases e; rfl
  | _, d :: ds, ns, .cons h t, e => by
    cases d with
    | int i =>
      cases h
      obtain ⟨r, hr, rfl⟩ := Option.map_eq_some_iff.mp e
      rw [ints_ok t hr]
      rfl
    | none => cases e
    | bool _ => cases e
    | str _ => cases e
    | list _ => cases e
    | tuple _ => cases e
    | dict _ => cases e
theorem maxI_ge : ∀ (r : List Int) (x : Int), x ≤ maxI x r ∧ ∀ y ∈ r, y ≤ maxI x r
  | [], x => ⟨Int.le_refl _, fun y h => by cases h⟩
  | z :: r, x => by
    have e : maxI x (z :: r) = maxI (if z > x then z else x) r := rfl
    rw [e]
    by_cases c : z > x
    · rw [if_pos c]
      obtain ⟨h1, h2⟩ := maxI_ge r z
      exact ⟨by omega, fun y hy => by
        rcases List.mem_cons.mp hy with e | hy
        · rw [e]; exact h1
        · exact h2 y hy⟩
    · rw [if_neg c]
      obtain ⟨h1, h2⟩ := maxI_ge r x
      exact ⟨h1, fun y hy => by
        rcases List.mem_cons.mp hy with e | hy
        · rw [e]; omega
        · exact h2 y hy⟩
theorem maxI_mem : ∀ (r : List Int) (x : Int), maxI x r ∈ x :: r
  | [], x => List.mem_cons_self
  | z :: r, x => by
    have e : maxI x (z :: r) = maxI (if z > x then z else x) r := rfl
    rw [e]
    by_cases c : z > x
    · rw [if_pos c]
      exact List.mem_cons_of_mem _ (maxI_mem r z)
    · rw [if_neg c]
      rcases List.mem_cons.mp (maxI_mem r x) with e | e
      · rw [e]; exact List.mem_cons_self
      · exact List.mem_cons_of_mem _ (List.mem_cons_of_mem _ e)
theorem maxI_ok (r : List Int) (x : Int) : maxI x r ∈ x :: r ∧ ∀ y ∈ x :: r, y ≤ maxI x r :=
  ⟨maxI_mem r x, fun y hy => by
    rcases List.mem_cons.mp hy with e | hy
    · rw [e]; exact (maxI_ge r x).1
    · exact (maxI_ge r x).2 y hy⟩
theorem minI_ge : ∀ (r : List Int) (x : Int), minI x r ≤ x ∧ ∀ y ∈ r, minI x r ≤ y
  | [], x => ⟨Int.le_refl _, fun y h => by cases h⟩
  | z :: r, x => by
    have e : minI x (z :: r) = minI (if z < x then z else x) r := rfl
    rw [e]
    by_cases c : z < x
    · rw [if_pos c]
      obtain ⟨h1, h2⟩ := minI_ge r z
      exact ⟨by omega, fun y hy => by
        rcases List.mem_cons.mp hy with e | hy
        · rw [e]; exact h1
        · exact h2 y hy⟩
    · rw [if_neg c]
      obtain ⟨h1, h2⟩ := minI_ge r x
      exact ⟨h1, fun y hy => by
        rcases List.mem_cons.mp hy with e | hy
        · rw [e]; omega
        · exact h2 y hy⟩
theorem minI_mem : ∀ (r : List Int) (x : Int), minI x r ∈ x :: r
  | [], x => List.mem_cons_self
  | z :: r, x => by
    have e : minI x (z :: r) = minI (if z < x then z else x) r := rfl
    rw [e]
    by_cases c : z < x
    · rw [if_pos c]
      exact List.mem_cons_of_mem _ (minI_mem r z)
    · rw [if_neg c]
      rcases List.mem_cons.mp (minI_mem r x) with e | e
      · rw [e]; exact List.mem_cons_self
      · exact List.mem_cons_of_mem _ (List.mem_cons_of_mem _ e)
theorem minI_ok (r : List Int) (x : Int) : minI x r ∈ x :: r ∧ ∀ y ∈ x :: r, minI x r ≤ y :=
  ⟨minI_mem r x, fun y hy => by
    rcases List.mem_cons.mp hy with e | hy
    · rw [e]; exact (minI_ge r x).1
    · exact (minI_ge r x).2 y hy⟩
theorem RpA.of_mem : ∀ {ps : List (V × PyData)}, (∀ p ∈ ps, Rp K F H p.1 p.2) → RpA K F H (ps.map (·.1)) (ps.map (·.2))
  | [], _ => .nil
  | p :: ps, h => .cons (h p List.mem_cons_self) (RpA.of_mem fun q hq => h q (List.mem_cons_of_mem _ hq))
theorem RpA.mem : ∀ {ys : List V} {ds : List PyData}, RpA K F H ys ds → ∀ p ∈ ys.zip ds, Rp K F H p.1 p.2
  | _, _, .nil, p, h => by simp at h
  | _, _, .cons h t, p, hp => by
    rcases List.mem_cons.mp hp with rfl | hp
    · exact h
    · exact RpA.mem t p hp
end
section
variable {X : Cx} {Γ : Ctx} {W : WX} {a b c e o : Expr} {a' b' c' e' o' : E} {pos : Pos} {es : List Expr} {es' : List E}
def rBlt (K : PySem.W.Frag) (W : WX) (b : Bf) : List V → Hp → VK → Prop := fun vs H Q =>
  ∃ (F : Ad) (ρ : Fr) (σ : L2.St) (ws : List (Option Vw)) (s : Slot), Sim K F H ρ σ ∧ vs.length = ws.length ∧ (∀ (i : Nat) (v : V) (x : Option Vw) (w : Vw), vs[i]? = some v → ws[i]? = some x → x = some w → VwOk K F H v w) ∧ bltV b ws = some s ∧ rdAt K W (.ok (s, ρ)) (VR K) ρ F σ H Q
def bfOf : Bf → Option Value
  | .len => some (.builtin "len")
  | .tuple => some (.type "tuple")
  | .list => some (.type "list")
  | .sorted => some (.builtin "sorted")
  | .sum => some (.builtin "sum")
  | .max => some (.builtin "max")
  | .min => some (.builtin "min")
  | .abs => some (.builtin "abs")
  | .int => some (.type "int")
  | .repr => some (.builtin "repr")
  | _ => none
theorem nov {K : PySem.W.Frag} {F : Ad} {H : Hp} {ρ : Fr} {σ : L2.St} {v : V} {d : PyData} (r : Rp K F H v d) : VR K ρ σ H ρ F H (.val d) v := ⟨r, fun o a e => by cases e⟩
theorem one_arg {vs : List V} {ws : List (Option Vw)} {x : Option Vw} (hl : vs.length = ws.length) (e : ws = [x]) : ∃ v, vs = [v] := by
  subst e
  cases vs with
  | nil => simp at hl
  | cons v r => cases r with
    | nil => exact ⟨v, rfl⟩
    | cons _ _ => simp at hl
theorem two_arg {vs : List V} {ws : List (Option Vw)} {x y : Option Vw} (hl : vs.length = ws.length) (e : ws = [x, y]) : ∃ v u, vs = [v, u] := by
  subst e
  cases vs with
  | nil => simp at hl
  | cons v r => cases r with
    | nil => simp at hl
    | cons u r => cases r with
      | nil => exact ⟨v, u, rfl⟩
      | cons _ _ => simp at hl
theorem int_ok {F : Ad} {H : Hp} {K : PySem.W.Frag} {v : V} {x : Option Vw} {i : Int} (h : ∀ w, x = some w → VwOk K F H v w) (e : intV x = some i) : v = .int i := by
  cases x with
  | none => cases e
  | some w =>
    have hw := h w rfl
    cases w with
    | dat d =>
      cases d with
      | int j => cases e; cases hw; rfl
      | list xs => cases e
      | tuple xs => cases e
      | none => cases e
      | bool _ => cases e
      | str _ => cases e
      | dict _ => cases e
    | dic _ => cases e
    | set _ => cases e
    | ins _ _ => cases e
theorem toI_ok {F : Ad} {H : Hp} {K : PySem.W.Frag} {v : V} {x : Option Vw} {i : Int} (h : ∀ w, x = some w → VwOk K F H v w) (e : toI x = some i) : v = .int i ∨ ∃ k : Bool, v = .bl k ∧ i = if k then 1 else 0 := by
  cases x with
  | none => cases e
  | some w =>
    have hw := h w rfl
    cases w with
    | dat d =>
      cases d with
      | int j => cases e; cases hw; exact .inl rfl
      | list xs => cases e
      | tuple xs => cases e
      | none => cases e
      | bool k => cases e; cases hw; exact .inr ⟨k, rfl, rfl⟩
      | str _ => cases e
      | dict _ => cases e
    | dic _ => cases e
    | set _ => cases e
    | ins _ _ => cases e
theorem len_ok {F : Ad} {H : Hp} {K : PySem.W.Frag} {v : V} {x : Option Vw} {n : Nat} (h : ∀ w, x = some w → VwOk K F H v w) (e : lenV x = some n) : ∃ xs, seqOf x = some xs ∧ n = xs.length := by
  cases x with
  | none => cases e
  | some w =>
    cases w with
    | set ks => cases e
    | dat d =>
      obtain ⟨xs, h1, h2⟩ := Option.map_eq_some_iff.mp (show (seqOf (some (.dat d))).map List.length = some n from e)
      exact ⟨xs, h1, h2.symm⟩
    | dic _ => obtain ⟨_, _, z⟩ := h _ rfl; exact z.elim
    | ins _ _ => cases e
theorem lst_of_set {F : Ad} {H : Hp} {K : PySem.W.Frag} {v : V} {x : Option Vw} {xs : List PyData} (h : ∀ w, x = some w → VwOk K F H v w) (e : setOf x = some xs) (hs : ∀ ks, x ≠ some (.set ks)) : lstOf x = some xs := by
  cases x with
  | none => cases e
  | some w =>
    cases w with
    | dat d => cases d <;> first | exact e | cases e
    | dic _ => obtain ⟨_, _, z⟩ := h _ rfl; exact z.elim
    | set ks => exact (hs ks rfl).elim
    | ins _ _ => cases e
theorem sortD_nil : sortD [] = [] := by simp [sortD]
/-- sorted(found), found a set -/
theorem srt_set (wr : Wor X W) {pins : List (Addr × Obj)} {σ σ' : L2.St} {H : Hp} {s : Shared} {us : List Value} {Q : VK} {F : Ad} {ρ : Fr} {v : V} {ks : List PyData} (I : Inv X pins σ H s) (r : Vals [v] us) (sim : Sim X.K F H ρ σ') (hv : VwOk X.K F H v (.set ks)) (hb : srtSet ks = true)
    (hq : rdAt X.K W (.ok (.own (.lst (sortD ks)), ρ)) (VR X.K) ρ F σ' H Q) : wpAny (model X.prog X.w) X.A (call (.builtin "sorted") us) (EP X pins σ Q) X.xe s := by
  obtain ⟨a, rfl, hm⟩ := hv
  have hm : SetOk X.K F H a ks := hm
  unfold SetOk at hm
  rw [← wr.cp, ← wr.cw] at hm
  unfold srtSet at hb
  rw [Bool.and_eq_true, decide_eq_true_eq, Bool.or_eq_true] at hb
  rcases hm with ⟨rfl, hE⟩ | ⟨is, -, rfl, hd, hO⟩ | ⟨L, hne, hp, hd, hf, hT⟩
  · refine cr_sortedS wr.calm pins s σ H _ us Q I r ⟨a, fun _ => false, 0, rfl, .inr ⟨hE, rfl, rfl⟩, by omega, fun ns p h1 h2 h3 hn => ?_⟩
    cases List.length_eq_zero_iff.mp h3
    rw [sortD_nil] at hq
    exact hq.newLst sim hn .nil
  · rw [List.length_map] at hb
    refine cr_sortedS wr.calm pins s σ H _ us Q I r ⟨a, _, is.length, rfl, .inl hO, by omega, fun ns p h1 h2 h3 hn => ?_⟩
    have e : sortD (is.map PyData.int) = ns.map PyData.int := srt_ints hd h1 fun k => by rw [h2 k, decide_eq_true_eq]
    rw [e] at hq
    refine hq.newLst sim hn ?_
    clear h1 h2 h3 e hq
    induction ns with
    | nil => exact .nil
    | cons n ns ih => exact .cons (.int n) ih
  · rcases hb.2 with hb2 | hb2
    · -- whole numbers: then there are none
      cases L with
      | nil => exact (hne rfl).elim
      | cons p L =>
        have := List.all_eq_true.mp hb2 (tupI p.2) (hp.mem_iff.mp (by simp))
        cases this
    · have hrow : ∀ p ∈ L, isRow 3 (tupI p.2) = true := fun p h => List.all_eq_true.mp hb2 _ (hp.mem_iff.mp (List.mem_map.mpr ⟨p, h, rfl⟩))
      refine cr_sortedT wr.calm pins s σ H _ us Q I r ⟨a, L, 3, 1000, rfl, hT, fun p h => (hf p h).sq, by omega, fun p h => ?_, fun L' p h1 h2 h9 h4 hn => ?_⟩
      · obtain ⟨x, y, z, e, hx, hy, hz⟩ := row_data (hrow p h)
        have e : p.2 = [x, y, z] := by
          unfold tupI at e
          injection e with e
          exact (List.map_inj_right (fun a b h => by injection h)).mp e
        rw [e]
        exact ⟨rfl, fun m hm => by simp only [List.mem_cons, List.not_mem_nil, or_false] at hm; rcases hm with rfl | rfl | rfl <;> omega⟩
      · have e := srt_rows hb2 hp h1 h4
        rw [e] at hq
        refine hq.newLst sim hn ?_
        have hf2 : ∀ q ∈ L', FzT X.K F H q.1 (q.2.map V.int) := fun q hq => hf q (h1.mem_iff.mp hq)
        clear h1 h2 h4 h9 e hq
        induction L' with
        | nil => exact .nil
        | cons q L' ih =>
          refine .cons (.tup (hf2 q List.mem_cons_self) ?_) (ih fun r hr => hf2 r (List.mem_cons_of_mem _ hr))
          generalize q.2 = ns
          induction ns with
          | nil => exact .nil
          | cons n ns ih => exact .cons (.int n) ih
theorem blt_ok (wr : Wor X W) : ∀ {b : Bf} {f : Value}, bfOf b = some f → CallR X f (rBlt X.K W b) := by
  intro b f hf pins s σ H vs us Q I r ⟨F, ρ, σ', ws, sl, sim, hl, hw, hb, hq⟩
  have h70 := wr.hu
  match ws, hb with
  | [], hb =>
    have hb : (if b = .set then some (Slot.own (.set [])) else none) = some sl := hb
    split at hb
    · rename_i c; subst c; cases hf
    · cases hb
  | _ :: _ :: _ :: _, hb => cases hb
  | [x, y], hb =>
    have hb : blt2 b x y = some sl := hb
    obtain ⟨v, u, rfl⟩ := two_arg hl rfl
    have hx : ∀ w, x = some w → VwOk X.K F H v w := fun w e => hw 0 v x w rfl rfl e
    have hy : ∀ w, y = some w → VwOk X.K F H u w := fun w e => hw 1 u y w rfl rfl e
    cases b with
    | max =>
      cases hf
      obtain ⟨i, h1, h2⟩ := Option.bind_eq_some_iff.mp hb
      obtain ⟨j, h3, rfl⟩ := Option.map_eq_some_iff.mp h2
      cases int_ok hx h1
      cases int_ok hy h3
      exact call_max2 wr.calm pins s σ H _ us Q I r ⟨i, j, rfl, hq.done sim (nov (.int _))⟩
    | min =>
      cases hf
      obtain ⟨i, h1, h2⟩ := Option.bind_eq_some_iff.mp hb
      obtain ⟨j, h3, rfl⟩ := Option.map_eq_some_iff.mp h2
      cases int_ok hx h1
      cases int_ok hy h3
      exact call_min2 wr.calm pins s σ H _ us Q I r ⟨i, j, rfl, hq.done sim (nov (.int _))⟩
    | maxd => cases hf
    | len => cases hb
    | tuple => cases hb
    | list => cases hb
    | sorted => cases hb
    | set => cases hb
    | dict => cases hb
    | sum => cases hb
    | abs => cases hb
    | int => cases hb
    | repr => cases hb
    | range => cases hb
    | range2 => cases hb
    | enumerate => cases hb
    | zip => cases hb
  | [x], hb =>
    have hb : blt1 b x = some sl := hb
    obtain ⟨v, rfl⟩ := one_arg hl rfl
    have hx : ∀ w, x = some w → VwOk X.K F H v w := fun w e => hw 0 v x w rfl rfl e
    cases b with
    | len =>
      cases hf
      obtain ⟨n, h1, h9⟩ := Option.map_eq_some_iff.mp (show (lenV x).map (fun (n : Nat) => Slot.val (.int n)) = some sl from hb)
      obtain ⟨xs, h0, rfl⟩ := len_ok hx h1
      subst h9
      obtain ⟨a, ys, rfl, h2, h3⟩ := seq_ok hx h0
      refine call_len_seq pins s σ H _ us Q I r ⟨a, ys, rfl, h2.imp id (·.1), ?_⟩
      rw [h3.len]
      exact hq.done sim (nov (.int _))
    | tuple =>
      cases hf
      obtain ⟨xs, h1, rfl⟩ := Option.map_eq_some_iff.mp hb
      obtain ⟨a, ys, rfl, h2, h3⟩ := seq_ok hx h1
      rcases h2 with h2 | ⟨h2, h4⟩
      · exact call_tuple_of pins s σ H _ us Q I r ⟨a, ys, rfl, .inl ⟨h2, fun l hl => hq.newTup sim hl h3⟩⟩
      · exact call_tuple_of pins s σ H _ us Q I r ⟨a, ys, rfl, .inr ⟨h2, hq.done sim (nov h4)⟩⟩
    | list =>
      cases hf
      obtain ⟨xs, h1, rfl⟩ := Option.map_eq_some_iff.mp hb
      obtain ⟨a, ys, rfl, h2, h3⟩ := seq_ok hx h1
      exact call_list_of pins s σ H _ us Q I r ⟨a, ys, rfl, h2.imp id (·.1), fun l hl => hq.newLst sim hl h3⟩
    | sorted =>
      cases hf
      obtain ⟨xs, h1, h2⟩ := Option.bind_eq_some_iff.mp hb
      by_cases hset : ∃ ks, x = some (.set ks)
      · obtain ⟨ks, rfl⟩ := hset
        cases h1
        split at h2
        · rename_i c
          rw [Bool.and_eq_true] at c
          cases h2
          exact srt_set wr I r sim (hx _ rfl) (by have := c.2; simpa [isSetV] using this) hq
        · cases h2
      have hns : ∀ ks, x ≠ some (.set ks) := fun ks e => hset ⟨ks, e⟩
      split at h2
      · rename_i c
        rw [Bool.and_eq_true] at c
        replace c := c.1
        rw [Bool.and_eq_true] at c
        cases h2
        obtain ⟨a, ys, rfl, h2, h3⟩ := lst_ok hx (lst_of_set hx h1 hns)
        refine cr_sortD h70 pins s σ H _ us Q I r ⟨a, ys, xs, rfl, h2, h3.dp, c.1, fun ps p hm hp hn => ?_⟩
        refine hq.newLst sim hn ?_
        rw [← hp]
        exact RpA.of_mem fun q hq => h3.mem q (hm q hq)
      · cases h2
    | sum =>
      cases hf
      obtain ⟨xs, h1, h2⟩ := Option.bind_eq_some_iff.mp hb
      obtain ⟨ns, h3, rfl⟩ := Option.map_eq_some_iff.mp h2
      obtain ⟨a, ys, rfl, h4, h5⟩ := lst_ok hx h1
      rw [ints_ok h5 h3] at h4
      exact cr_sum wr.calm pins s σ H _ us Q I r ⟨a, ns, rfl, h4, hq.done sim (nov (.int _))⟩
    | max =>
      cases hf
      obtain ⟨xs, h1, h2⟩ := Option.bind_eq_some_iff.mp hb
      obtain ⟨ns, h3, h4⟩ := Option.bind_eq_some_iff.mp h2
      obtain ⟨k, h7, rfl⟩ := Option.map_eq_some_iff.mp h4
      obtain ⟨a, ys, rfl, h5, h6⟩ := lst_ok hx h1
      rw [ints_ok h6 h3] at h5
      cases ns with
      | nil => cases h7
      | cons n r' =>
        cases h7
        refine cr_max wr.calm pins s σ H _ us Q I r ⟨a, n :: r', rfl, h5, Nat.succ_pos _, fun m hm hle => ?_⟩
        obtain ⟨m1, m2⟩ := maxI_ok r' n
        have e : m = maxI n r' := Int.le_antisymm (m2 m hm) (hle _ m1)
        rw [e]
        exact hq.done sim (nov (.int _))
    | min =>
      cases hf
      obtain ⟨xs, h1, h2⟩ := Option.bind_eq_some_iff.mp hb
      obtain ⟨ns, h3, h4⟩ := Option.bind_eq_some_iff.mp h2
      obtain ⟨k, h7, rfl⟩ := Option.map_eq_some_iff.mp h4
      obtain ⟨a, ys, rfl, h5, h6⟩ := lst_ok hx h1
      rw [ints_ok h6 h3] at h5
      cases ns with
      | nil => cases h7
      | cons n r' =>
        cases h7
        refine cr_min wr.calm pins s σ H _ us Q I r ⟨a, n :: r', rfl, h5, Nat.succ_pos _, fun m hm hle => ?_⟩
        obtain ⟨m1, m2⟩ := minI_ok r' n
        have e : m = minI n r' := Int.le_antisymm (hle _ m1) (m2 m hm)
        rw [e]
        exact hq.done sim (nov (.int _))
    | abs =>
      cases hf
      obtain ⟨i, h1, rfl⟩ := Option.map_eq_some_iff.mp hb
      cases int_ok hx h1
      exact call_abs pins s σ H _ us Q I r ⟨i, rfl, hq.done sim (nov (.int _))⟩
    | int =>
      cases hf
      obtain ⟨i, h1, rfl⟩ := Option.map_eq_some_iff.mp hb
      rcases toI_ok hx h1 with rfl | ⟨k, rfl, rfl⟩
      · exact call_int1 pins s σ H _ us Q I r (.inl ⟨i, rfl, hq.done sim (nov (.int _))⟩)
      · exact call_int1 pins s σ H _ us Q I r (.inr ⟨k, rfl, hq.done sim (nov (.int _))⟩)
    | repr =>
      cases hf
      obtain ⟨d, h1, h2⟩ := Option.bind_eq_some_iff.mp hb
      split at h2
      · rename_i c
        rw [Bool.and_eq_true, Bool.and_eq_true, decide_eq_true_eq, decide_eq_true_eq] at c
        cases h2
        have h3 := hx _ (Vw.dat_some h1)
        exact cr_repr wr.gd h70 pins s σ H _ us Q I r ⟨v, d, rfl, Rq.dp h3, c.1, c.2.1, c.2.2, hq.done sim (nov (.str _))⟩
      · cases h2
    | set => cases hf
    | dict => cases hf
    | maxd => cases hf
    | range => cases hf
    | range2 => cases hf
    | enumerate => cases hf
    | zip => cases hf
theorem ops_vw {K : PySem.W.Frag} {F : Ad} {H : Hp} {ρ : Fr} {σ : L2.St} (sim : Sim K F H ρ σ) : ∀ {vs : List V} {ps : List Opd}, OpsOk K ρ σ F H vs ps → vs.length = (ps.map fun p => p.vw ρ).length ∧
    ∀ (i : Nat) v x w, vs[i]? = some v → (ps.map fun p => p.vw ρ)[i]? = some x → x = some w → VwOk K F H v w
  | _, _, .nil => ⟨rfl, fun i v x w e => by simp at e⟩
  | _, _, .cons h t => by
    obtain ⟨h1, h2⟩ := ops_vw sim t
    refine ⟨by simp only [List.length_cons, List.map_cons, h1], fun i v x w e1 e2 e3 => ?_⟩
    cases i with
    | zero =>
      cases e1
      cases e2
      exact Opd.vwOk sim h e3
    | succ i => exact h2 i v x w (by simpa using e1) (by simpa using e2) e3
/-- how a built-in's call is written -/
inductive BltCall (X : Cx) (b : Bf) (x : Str) (e : Expr) (es : List Expr) (pos : Pos) (p : Pos) : Prop where
  | bi (id : String) (hf : bfOf b = some (.builtin id)) (hv : bootBuiltins x = some (.builtin id)) : BltCall X b x e es pos p
  | ty (T : String) (hf : bfOf b = some (.type T)) (hv : bootBuiltins x = some (.type T)) : BltCall X b x e es pos p
theorem blt_rd {b : Bf} {σ : L2.St} {H : Hp} {Q : VK} (h : rdG X.K W (dn Γ (.blt b es')).v (VR X.K) σ H Q) : tCB (rBlt X.K W b) (rdG X.K W (dPs (dns Γ es')) (PsR X.K)) σ H Q := by
  obtain ⟨F, ρ, s, q⟩ := h
  refine ⟨F, ρ, s, (rdAt.bind (R1 := PsR X.K) bkV s (show rdAt X.K W ((dPs (dns Γ es') ρ).bind fun x => (Res.of (bltV b (x.1.map fun p => p.vw x.2))).bind fun s => .ok (s, x.2)) (VR X.K) ρ F σ H Q from q)).mono fun vs H1 ⟨F1, ρ1, ps, s1, st1, r1, q1⟩ => ?_⟩
  obtain ⟨sl, es, q2⟩ := q1.of
  obtain ⟨h1, h2⟩ := ops_vw s1 r1
  exact ⟨F1, ρ1, σ, _, sl, s1, h1, h2, es, q2⟩
theorem ok_blt (wr : Wor X W) {b : Bf} {x : Str} {p : Pos} (bc : BltCall X b x e es pos p) (gl : Gl X x) (hm : X.mg x = none) (hn : x ≠ "__name__") (hd : (x == ("__debug__" : Str)) = false) (hs : Oks X Γ W (e :: es) es')
    (hst : starEach (e :: es) X.env = (false, eval e X.env) :: starEach es X.env) (hpl : (backTo pos (starEach es X.env)).any (·.1) = false) : Ok X Γ W (.Call (.Name x p) (e :: es) [] pos) (.blt b es') := by
  have hv : PEV X W (.Call (.Name x p) (e :: es) [] pos) (dn Γ (.blt b es')) := by
    cases bc with
    | bi id hf hv => exact PE.imp (pe_callB (blt_ok wr hf) gl hm hv hs.ps hn hd hst hpl) fun σ H Q h => blt_rd h
    | ty T hf hv => exact PE.imp (pe_callTy (blt_ok wr hf) gl hm hv hs.ps hn hd hst hpl) fun σ H Q h => blt_rd h
  exact ⟨hv, pep_none rfl hv, pet_of (pep_none rfl hv) (fun _ => rfl) rfl⟩
end
end PM
set_option Elab.async false
set_option linter.all false
set_option maxRecDepth 100000
set_option maxHeartbeats 1000000
/-! PM: an object changed in its place; calls of the program's own functions. -/
namespace PM
open PySem PySem.Spec PyProof.Rows L2
variable [Cur]
section
variable {K : PySem.W.Frag} {W : WX} {F F1 F' : Ad} {H H1 H' : Hp} {ρ ρ1 : Fr} {σ : L2.St} {i : Nat} {a : Addr} {o o' : MO}
theorem mo_put {s : Slot} {x : MO} (h : s.mo = some x) (o : MO) : (Slot.put o s).mo = some o := by
  cases s with
  | own _ => rfl
  | brw _ => rfl
  | no => cases h
  | val _ => cases h
  | ins _ _ => cases h
theorem mo_put_iff (s : Slot) (o : MO) : (∃ x, (Slot.put o s).mo = some x) ↔ ∃ x, s.mo = some x := by
  cases s with
  | own _ => exact ⟨fun _ => ⟨_, rfl⟩, fun _ => ⟨_, rfl⟩⟩
  | brw _ => exact ⟨fun _ => ⟨_, rfl⟩, fun _ => ⟨_, rfl⟩⟩
  | no => exact ⟨fun h => h, fun h => h⟩
  | val _ => exact ⟨fun h => h, fun h => h⟩
  | ins _ _ => exact ⟨fun h => h, fun h => h⟩
theorem put_get (ρ : Fr) (i j : Nat) (o : MO) : (Fr.put ρ i o)[j]? = if i = j then (ρ[j]?).map (Slot.put o) else ρ[j]? := by
  unfold Fr.put
  rw [List.getElem?_modify]
  split <;> simp
theorem put_len (ρ : Fr) (i : Nat) (o : MO) : (Fr.put ρ i o).length = ρ.length := by
  unfold Fr.put
  rw [List.length_modify]
theorem MAt.put {j : Nat} {b : Addr} : MAt (Fr.put ρ i o) σ j b ↔ MAt ρ σ j b := by
  unfold MAt
  rw [put_get]
  by_cases c : i = j
  · rw [if_pos c]
    constructor
    · rintro ⟨⟨s, x, e, m⟩, e2⟩
      obtain ⟨s', e', rfl⟩ := Option.map_eq_some_iff.mp e
      obtain ⟨y, hy⟩ := (mo_put_iff s' o).mp ⟨x, m⟩
      exact ⟨⟨s', y, e', hy⟩, e2⟩
    · rintro ⟨⟨s, x, e, m⟩, e2⟩
      exact ⟨⟨_, o, by rw [e]; rfl, mo_put m o⟩, e2⟩
  · rw [if_neg c]
theorem Mu.put {b : Addr} : Mu (Fr.put ρ i o) σ b ↔ Mu ρ σ b := ⟨fun ⟨j, h⟩ => ⟨j, MAt.put.mp h⟩, fun ⟨j, h⟩ => ⟨j, MAt.put.mpr h⟩⟩
theorem MAt.of {x : Option V} {j : Nat} {s : Slot} {mo : MO} {b : Addr} (e : ρ[j]? = some s) (hm : s.mo = some mo) (hx : (σ[j]?).join = some (.ref b)) : MAt ρ σ j b := by
  refine ⟨⟨s, mo, e, hm⟩, ?_⟩
  cases hs : σ[j]? with
  | none => rw [hs] at hx; cases hx
  | some y =>
    rw [hs] at hx
    have hx' : y = some (.ref b) := hx
    rw [hx']
/-- the object at a, in the place i, is now o' -/
theorem Sim.put (sim : Sim K F H ρ σ) (hi : MAt ρ σ i a) (sub : ∀ b, F b → F' b) (new : ∀ b, F' b → F b ∨ H b = none) (kept : ∀ b u, H b = some u → b ≠ a → H' b = some u) (fok : ∀ b, F' b → H' b ≠ none) (ho : MoOk K F' H' a o') :
    Sim K F' H' (Fr.put ρ i o') σ ∧ Stp ρ σ F H (Fr.put ρ i o') σ F' H' := by
  have ha : Mu ρ σ a := ⟨i, hi⟩
  have hna : ¬ F a := sim.nf ha
  have g : Grow F F' H H' := ⟨sub, fun b u hb e => kept b u e fun z => hna (z ▸ hb)⟩
  refine ⟨⟨by rw [put_len]; exact sim.len, fun j s e => ?_, fun x y b h1 h2 => sim.apart x y b (MAt.put.mp h1) (MAt.put.mp h2), fok⟩, ⟨sub, fun b hb => (new b hb).elim .inl fun z => .inr (.inl z), fun b u e hn => kept b u e fun z => hn (z ▸ ha), fun b h => .inr (Mu.put.mp h), fun j u e => ⟨?_, rfl⟩, put_len ρ i o'⟩⟩
  · rw [put_get] at e
    by_cases c : i = j
    · subst c
      rw [if_pos rfl] at e
      obtain ⟨s0, e0, rfl⟩ := Option.map_eq_some_iff.mp e
      obtain ⟨⟨s1, u, e1, m1⟩, e2⟩ := hi
      rw [e0] at e1
      cases e1
      rw [e2]
      have nf : ¬ F' a := fun h => by
        rcases new a h with z | z
        · exact hna z
        · exact sim.there ha z
      cases s0 with
      | own _ => exact ⟨a, rfl, nf, ho⟩
      | brw _ => exact ⟨a, rfl, nf, ho⟩
      | no => cases m1
      | val _ => cases m1
      | ins _ _ => cases m1
    · rw [if_neg c] at e
      refine (sim.ok j s e).mono g fun b mo hm hx => ?_
      have hb : MAt ρ σ j b := .of (x := none) e hm hx
      have hne : b ≠ a := fun z => c (sim.apart i j b (z ▸ hi) hb)
      refine ⟨fun h => ?_, fun u eu => kept b u eu hne⟩
      rcases new b h with z | z
      · exact sim.nf ⟨j, hb⟩ z
      · exact sim.there ⟨j, hb⟩ z
  · rw [put_get]
    by_cases c : i = j
    · subst c
      rw [if_pos rfl, e]
      exact ⟨o', rfl⟩
    · rw [if_neg c]
      exact ⟨u, e⟩
/-- all that stood stays -/
theorem Sim.stay (sim : Sim K F H ρ σ) (sub : ∀ b, F b → F' b) (new : ∀ b, F' b → F b ∨ H b = none) (kept : ∀ b u, H b = some u → H' b = some u) (fok : ∀ b, F' b → H' b ≠ none) : Sim K F' H' ρ σ ∧ Stp ρ σ F H ρ σ F' H' := by
  have g : Grow F F' H H' := ⟨sub, fun b u hb e => kept b u e⟩
  refine ⟨⟨sim.len, fun j s e => (sim.ok j s e).mono g fun b mo hm hx => ?_, sim.apart, fok⟩, ⟨sub, fun b hb => (new b hb).elim .inl fun z => .inr (.inl z), fun b u e _ => kept b u e, fun b h => .inr h, fun j u e => ⟨⟨u, e⟩, rfl⟩, rfl⟩⟩
  have hb : MAt ρ σ j b := .of (x := none) e hm hx
  refine ⟨fun h => ?_, fun u eu => kept b u eu⟩
  rcases new b h with z | z
  · exact sim.nf ⟨j, hb⟩ z
  · exact sim.there ⟨j, hb⟩ z
end

/-! ### what a call promises -/
def IoA (vs : List V) (ss : List Slot) (a : Addr) : Prop := ∃ o r us, ss = .brw o :: r ∧ vs = .ref a :: us
def ArgsIn (K : PySem.W.Frag) (F : Ad) (H : Hp) (vs : List V) (ss : List Slot) : Prop :=
  ArgOk K F H vs ss ∨ ∃ o r a us, ss = .brw o :: r ∧ vs = .ref a :: us ∧ ¬ F a ∧ MoOk K F H a o ∧ ArgOk K F H us r
structure CallPost (F : Ad) (H : Hp) (F' : Ad) (H' : Hp) (vs : List V) (ss : List Slot) : Prop where
  sub : ∀ a, F a → F' a
  new : ∀ a, F' a → F a ∨ H a = none
  kept : ∀ a o, H a = some o → ¬ IoA vs ss a → H' a = some o
  fok : ∀ a, F' a → H' a ≠ none
def spG (K : PySem.W.Frag) (r : List Slot → Res (Slot × Option MO)) : Sp := fun vs H Q E => ∃ (F : Ad) (ss : List Slot), (∀ a, F a → H a ≠ none) ∧ ArgsIn K F H vs ss ∧ match r ss with
  | .ok y => ∀ v F' H', CallPost F H F' H' vs ss → VOk K F' H' v y.1 → (∀ o a, y.1 = .own o → v = .ref a → H a = none) → (∀ a, IoA vs ss a → ∃ o, y.2 = some o ∧ MoOk K F' H' a o) → Q v H'
  | .exc c => ∀ H', (∀ a o, H a = some o → ¬ IoA vs ss a → H' a = some o) → E (.ref (He.ga K c)) none H'
  | .stuck => False
theorem ArgOk.noIo {K : PySem.W.Frag} {F : Ad} {H : Hp} {vs : List V} {ss : List Slot} (h : ArgOk K F H vs ss) (a : Addr) : ¬ IoA vs ss a := by
  rintro ⟨o, r, us, rfl, rfl⟩
  cases h
theorem ArgOk.len {K : PySem.W.Frag} {F : Ad} {H : Hp} : ∀ {vs : List V} {ss : List Slot}, ArgOk K F H vs ss → vs.length = ss.length
  | _, _, .nil => rfl
  | _, _, .val _ t => congrArg (· + 1) t.len
  | _, _, .ins _ t => congrArg (· + 1) t.len
section
variable {K : PySem.W.Frag} {W : WX} {F F1 F' : Ad} {H H1 H' : Hp} {ρ ρ1 : Fr} {σ : L2.St} {i n : Nat} {a : Addr} {o o' : MO} {vs us : List V} {ss : List Slot} {r : List Slot → Res (Slot × Option MO)} {Q : VK}
/-- a call that lends nothing -/
theorem call_plain (sim : Sim K F H ρ σ) (ha : ArgOk K F H vs ss) (h : rdAt K W ((r ss).bind fun y => .ok (y.1, ρ)) (VR K) ρ F σ H Q) : spG K r vs H Q (WE W σ) := by
  refine ⟨F, ss, sim.fok, .inl ha, ?_⟩
  revert h
  cases r ss with
  | ok y =>
    intro h v F' H' cp hv hown hio
    obtain ⟨s1, st⟩ := sim.stay cp.sub cp.new (fun b u e => cp.kept b u e (ha.noIo b)) cp.fok
    exact h v F' H' s1 st ⟨hv, fun o a e1 e2 => ⟨fun hm => sim.there hm (hown o a e1 e2), .inl (hown o a e1 e2)⟩⟩
  | exc c =>
    intro h H' k
    exact h σ H' sim.len.symm fun b u e _ => k b u e (ha.noIo b)
  | stuck => exact fun h => h
/-- a call that lends the object at the place i -/
theorem call_lent (sim : Sim K F H ρ σ) (hi : MAt ρ σ i a) (ho : (ρ[i]?).bind Slot.mo = some o) (ha : ArgOk K F H vs ss) 
    (h : rdAt K W ((r (.brw o :: ss)).bind fun y => (match y.2 with
      | some o' => Res.ok (y.1, Fr.put ρ i o')
      | none => .stuck)) (VR K) ρ F σ H Q) : spG K r (.ref a :: vs) H Q (WE W σ) := by
  have hmo : MoOk K F H a o ∧ ¬ F a := by
    obtain ⟨⟨s, u, e, m⟩, e2⟩ := hi
    rw [e] at ho
    have hk := sim.ok i s e
    rw [e2] at hk
    cases s with
    | own _ => cases ho; obtain ⟨b, eb, h1, h2⟩ := hk; cases eb; exact ⟨h2, h1⟩
    | brw _ => cases ho; obtain ⟨b, eb, h1, h2⟩ := hk; cases eb; exact ⟨h2, h1⟩
    | no => cases m
    | val _ => cases m
    | ins _ _ => cases m
  have io : ∀ b, IoA (.ref a :: vs) (.brw o :: ss) b ↔ b = a := fun b => ⟨fun ⟨_, _, _, e1, e2⟩ => by cases e2; rfl, fun e => ⟨o, ss, vs, rfl, by rw [e]⟩⟩
  refine ⟨F, .brw o :: ss, sim.fok, .inr ⟨o, ss, a, vs, rfl, rfl, hmo.2, hmo.1, ha⟩, ?_⟩
  revert h
  cases r (.brw o :: ss) with
  | ok y =>
    intro h v F' H' cp hv hown hio
    obtain ⟨o', e2, hm'⟩ := hio a ((io a).mpr rfl)
    obtain ⟨y1, y2⟩ := y
    cases e2
    obtain ⟨s1, st⟩ := sim.put hi cp.sub cp.new (fun b u e hn => cp.kept b u e fun z => hn ((io b).mp z)) cp.fok hm'
    exact h v F' H' s1 st ⟨hv, fun o a e1 e2 => ⟨fun hm => sim.there (Mu.put.mp hm) (hown o a e1 e2), .inl (hown o a e1 e2)⟩⟩
  | exc c =>
    intro h H' k
    exact h σ H' sim.len.symm fun b u e hn => k b u e fun z => hn ((io b).mp z ▸ ⟨i, hi⟩)
  | stuck => exact fun h => h
end
section
variable {X : Cx} {Γ : Ctx} {W : WX} {k n : Nat} {f C : Addr} {fd : FuncData} {ps : List Str} {x m fn c : Str} {p pos apos : Pos} {e o : Expr} {e' o' : E} {es : List Expr} {es' : List E}
/-- f(..), nothing lent -/
theorem ok_call (wr : Wor X W) (F : FnG X.prog X.w X.K X.mg X.base k f fd ps (spG X.K (Γ.fn (fn, none)))) (hr : Room k X.A) (gl : Gl X x) (hm : X.mg x = some (.ref f)) (hk : PySem.W.keepIn X.K (.ref f) = true)
    (hb : Binds X.K fd ps []) (ha : Oks X Γ W (e :: es) (e' :: es')) (hdb : (x == ("__debug__" : Str)) = false) (he : starEach (e :: es) X.env = (false, eval e X.env) :: starEach es X.env)
    (hpl : (backTo pos (starEach es X.env)).any (·.1) = false) : Ok X Γ W (.Call (.Name x p) (e :: es) [] pos) (.call fn false (e' :: es')) := by
  refine .of rfl (PE.imp (g_call F wr.gd hr gl hm hk hb wr.tk ha.as hdb he hpl) fun σ H Q ⟨F0, ρ, s, q⟩ => ⟨F0, ρ, s, ?_⟩) fun _ => rfl
  refine (rdAt.bind (R1 := AsR X.K) bkV s (show rdAt X.K W ((dAs (dns Γ (e' :: es')) ρ).bind fun x => (Γ.fn (fn, none) x.1).bind fun y => .ok (y.1, x.2)) (VR X.K) ρ F0 σ H Q from q)).mono fun vs H1 ⟨F1, ρ1, ss, s1, st1, r1, q1⟩ => ?_
  exact call_plain s1 r1 q1
theorem mat_of {K : PySem.W.Frag} {F : Ad} {H : Hp} {ρ : Fr} {σ : L2.St} {i : Nat} {o : MO} (sim : Sim K F H ρ σ) (h : (ρ[i]?).bind Slot.mo = some o) : ∃ a, MAt ρ σ i a := by
  obtain ⟨s, e, m⟩ := Option.bind_eq_some_iff.mp h
  obtain ⟨v, e2, hk⟩ := sim.get e (by rintro rfl; cases m)
  cases s with
  | own _ => obtain ⟨a, ea, _⟩ := hk; cases ea; exact ⟨a, ⟨_, o, e, m⟩, e2⟩
  | brw _ => obtain ⟨a, ea, _⟩ := hk; cases ea; exact ⟨a, ⟨_, o, e, m⟩, e2⟩
  | no => cases m
  | val _ => cases m
  | ins _ _ => cases m
theorem mo_at {ρ : Fr} {i : Nat} {o : MO} {s : Slot} (e : ρ[i]? = some s) (m : s.mo = some o) : (ρ[i]?).bind Slot.mo = some o := by rw [e]; exact m
/-- the lent place's address, behind a step -/
theorem MAt.addr {ρ : Fr} {σ : L2.St} {i : Nat} {a : Addr} {v : V} (h : MAt ρ σ i a) (e : σ[i]? = some (some v)) : v = .ref a := by
  obtain ⟨_, e2⟩ := h
  rw [e] at e2
  cases e2
  rfl
def tVarS (i : Nat) (t : TA) : TA := fun σ H Q => ∃ v, σ[i]? = some (some v) ∧ t σ H fun vs H1 => Q (v :: vs) H1
/-- f(x, ..), x lent -/
theorem ok_callio (wr : Wor X W) {i : Nat} {y : Str} {py : Pos} (F : FnG X.prog X.w X.K X.mg X.base k f fd ps (spG X.K (Γ.fn (fn, none)))) (hr : Room k X.A) (gl : Gl X x) (hm : X.mg x = some (.ref f)) (hk : PySem.W.keepIn X.K (.ref f) = true)
    (hb : Binds X.K fd ps []) (hN : X.N[i]? = some y) (hv : Vis X.env.scope y) (hdy : (y == ("__debug__" : Str)) = false) (hcd : (y == ("__classdict__" : Str)) = false) (ha : Oks X Γ W es es') (hdb : (x == ("__debug__" : Str)) = false)
    (he : starEach (.Name y py :: es) X.env = (false, eval (.Name y py) X.env) :: starEach es X.env)
    (hpl : (backTo pos (starEach es X.env)).any (·.1) = false) : Ok X Γ W (.Call (.Name x p) (.Name y py :: es) [] pos) (.call fn true (.var i :: es')) := by
  refine .of rfl (PE.imp (g_call F wr.gd hr gl hm hk hb wr.tk (pa_cons (pe_var hN hv hdy hcd) ha.as he) hdb he hpl) fun σ H Q ⟨F0, ρ, s, q⟩ => ?_) fun _ => rfl
  have q : rdAt X.K W (if lentB ρ i then (dAs (dns Γ es') ρ).bind fun x => callIo Γ (fn, none) i x.1 x.2 else .stuck) (VR X.K) ρ F0 σ H Q := q
  by_cases hl : lentB ρ i = true
  · rw [if_pos hl] at q
    obtain ⟨o, eo⟩ := Option.isSome_iff_exists.mp hl
    obtain ⟨a, hma⟩ := mat_of s eo
    refine ⟨.ref a, hma.2, F0, ρ, s, (rdAt.bind (R1 := AsR X.K) bkV s q).mono fun vs H1 ⟨F1, ρ1, ss, s1, st1, r1, q1⟩ => ?_⟩
    have q1 : rdAt X.K W (callIo Γ (fn, none) i ss ρ1) (VR X.K) ρ1 F1 σ H1 Q := q1
    unfold callIo at q1
    split at q1
    · rename_i o1 e1
      obtain ⟨a1, hma1⟩ := mat_of s1 e1
      have : a1 = a := by
        have e2 := hma1.2
        rw [hma.2] at e2
        cases e2
        rfl
      subst this
      exact call_lent s1 hma1 e1 r1 q1
    · exact q1.elim
  · rw [if_neg hl] at q
    exact q.elim
/-- o.m(..) -/
structure MethF (X : Cx) (Γ : Ctx) (k : Nat) (c m : Str) : Prop where
  cl : Cls X.K (He.ga X.K c)
  ex : ∃ f fd ps, Meth X.K (He.ga X.K c) m f ∧ FnG X.prog X.w X.K X.mg X.base k f fd ps (spG X.K (Γ.fn (c, some m))) ∧ Binds X.K fd ps []
theorem fd_lookup {K : PySem.W.Frag} {F : Ad} {H : Hp} {m : Str} : ∀ {vs : List (Str × V)} {fs : List (Str × PyData)}, FdA K F H vs fs → (fs.lookup m).isNone = true → vs.lookup m = none
  | _, _, .nil, _ => rfl
  | _, _, .cons (f := f) h t, e => by
    rw [List.lookup_cons] at e ⊢
    cases hb : (m == f) with
    | true => rw [hb] at e; cases e
    | false =>
      rw [hb] at e
      exact fd_lookup t e
theorem clsV_some {cs : List Str} {w : Option Vw} (h : clsV Γ cs m w = some c) : Γ.cls c = true ∧ c ∈ cs ∧ ∃ fs, w = some (.ins c fs) ∧ (fs.lookup m).isNone = true := by
  cases w with
  | none => cases h
  | some w =>
    cases w with
    | ins c' fs =>
      have h : (if Γ.cls c' = true ∧ c' ∈ cs ∧ (fs.lookup m).isNone = true then some c' else none) = some c := h
      split at h
      · rename_i z
        cases h
        exact ⟨z.1, z.2.1, fs, rfl, z.2.2⟩
      · cases h
    | dat _ => cases h
    | dic _ => cases h
    | set _ => cases h
/-- the rest stays at its base -/
theorem rdAt.bind0 {α β τ τ' : Type} {K : PySem.W.Frag} {F F1 : Ad} {H H1 : Hp} {ρ ρ1 : Fr} {σ : L2.St} {x : Res (α × Fr)} {f : α × Fr → Res (β × Fr)} {R1 : RR α τ} {R : RR β τ'} {Q : τ' → Hp → Prop} (sim : Sim K F H ρ σ) (s1 : Sim K F1 H1 ρ1 σ) (st : Stp ρ σ F H ρ1 σ F1 H1)
    (h : rdAt K W (x.bind f) R ρ F σ H Q) : rdAt K W x R1 ρ1 F1 σ H1 fun v H2 => ∃ (F2 : Ad) (ρ2 : Fr) (r : α), Sim K F2 H2 ρ2 σ ∧ Stp ρ1 σ F1 H1 ρ2 σ F2 H2 ∧ R1 ρ1 σ H1 ρ2 F2 H2 r v ∧ rdAt K W (f (r, ρ2)) R ρ F σ H Q := by
  cases x with
  | ok r => exact fun v F2 H2 s2 st2 r2 => ⟨F2, r.2, r.1, s2, st2, r2, h⟩
  | exc c => exact excW.back st (s1.len.trans sim.len.symm) h
  | stuck => exact h
/-- a made object is lent -/
theorem call_made {K : PySem.W.Frag} {F F0 : Ad} {H H0 : Hp} {ρ ρ0 : Fr} {σ : L2.St} {o : MO} {a : Addr} {vs : List V} {ss : List Slot} {r : List Slot → Res (Slot × Option MO)} {Q : VK} (sim0 : Sim K F0 H0 ρ0 σ) (st : Stp ρ0 σ F0 H0 ρ σ F H) (sim : Sim K F H ρ σ)
    (hn : ¬ F a) (hm : ¬ Mu ρ σ a) (hnew : H0 a = none ∨ Mu ρ0 σ a) (ho : MoOk K F H a o)
    (ha : ArgOk K F H vs ss) (h : rdAt K W ((r (.brw o :: ss)).bind fun y => Res.ok (y.1, ρ)) (VR K) ρ0 F0 σ H0 Q) : spG K r (.ref a :: vs) H Q (WE W σ) := by
  have io : ∀ b, IoA (.ref a :: vs) (.brw o :: ss) b ↔ b = a := fun b => ⟨fun ⟨_, _, _, e1, e2⟩ => by cases e2; rfl, fun e => ⟨o, ss, vs, rfl, by rw [e]⟩⟩
  refine ⟨F, .brw o :: ss, sim.fok, .inr ⟨o, ss, a, vs, rfl, rfl, hn, ho, ha⟩, ?_⟩
  have old : ∀ b u, H0 b = some u → ¬ Mu ρ0 σ b → b ≠ a := fun b u e hb z => by
    subst z
    rcases hnew with z | z
    · rw [e] at z; cases z
    · exact hb z
  revert h
  cases r (.brw o :: ss) with
  | ok y =>
    intro h v F' H' cp hv hown hio
    have kept : ∀ b u, H b = some u → b ≠ a → H' b = some u := fun b u e hb => cp.kept b u e fun z => hb ((io b).mp z)
    have g : Grow F F' H H' := ⟨cp.sub, fun b u hf e => kept b u e fun z => hn (z ▸ hf)⟩
    refine h v F' H' ⟨sim.len, fun j s e => (sim.ok j s e).mono g fun b mo hmo hx => ?_, sim.apart, cp.fok⟩ ⟨fun b hb => cp.sub b (st.sub b hb), fun b hb => ?_, fun b u e hb => kept b u (st.kept b u e hb) (old b u e hb), st.mu, st.brw, st.len⟩ ⟨hv, fun o a e1 e2 => ⟨fun z => sim.there z (hown o a e1 e2), st.back (hown o a e1 e2)⟩⟩
    · have hb : MAt ρ σ j b := .of (x := none) e hmo hx
      refine ⟨fun hf => ?_, fun u eu => kept b u eu fun z => hm (z ▸ ⟨j, hb⟩)⟩
      rcases cp.new b hf with z | z
      · exact sim.nf ⟨j, hb⟩ z
      · exact sim.there ⟨j, hb⟩ z
    · rcases cp.new b hb with z | z
      · exact st.new b z
      · exact .inr (st.back z)
  | exc c =>
    intro h H' k
    exact h σ H' sim0.len.symm fun b u e hb => k b u (st.kept b u e hb) fun z => old b u e hb ((io b).mp z)
  | stuck => exact fun h => h
theorem ok_meth (wr : Wor X W) {pl : Sem Bool} {cs : List Str} {io : Bool} (hr : Room k X.A) (hC : ∀ c ∈ cs, MethF X Γ k c m) (inj : ∀ c ∈ cs, ∀ c' ∈ cs, He.ga X.K c = He.ga X.K c' → c = c') (ho : Ok X Γ W o o') (ha : Oks X Γ W es es')
    (hst : ∀ (first : List Value) (f : Addr) (s : Shared) (Q : Value → Shared → Prop), PySem.W.keepIn X.K (.ref f) = true →
      wpAny (model X.prog X.w) X.A (spliced (backTo pos (starEach es X.env))) (fun us s1 => X.K.In s1.heap ∧ wpAny (model X.prog X.w) X.A (call (.ref f) (first ++ us)) Q X.xe s1) X.xe s →
        wpAny (model X.prog X.w) X.A (callWith pos (.ref f) first (backTo pos (starEach es X.env)) (backToKw pos (keywordEach [] X.env))) Q X.xe s)
    (ht : eval (.Call (.Attribute o m apos) es [] pos) X.env = (do
      let ov ← eval o X.env
      standAt apos.atName
      let (f, first) ← holding [ov] (getMethod ov m pl)
      callWith pos f first (backTo pos (starEach es X.env)) (backToKw pos (keywordEach [] X.env)))) :
    Ok X Γ W (.Call (.Attribute o m apos) es [] pos) (.meth cs m io o' es') := by
  have sp : ∀ C : Addr, (∃ c ∈ cs, C = He.ga X.K c) → ∃ f fd ps, Meth X.K C m f ∧ FnG X.prog X.w X.K X.mg X.base k f fd ps (fun vs H Q E => ∃ c ∈ cs, C = He.ga X.K c ∧ spG X.K (Γ.fn (c, some m)) vs H Q E) ∧ Binds X.K fd ps [] := by
    rintro C ⟨c, hc, rfl⟩
    obtain ⟨f, fd, ps, h1, h2, h3⟩ := (hC c hc).ex
    refine ⟨f, fd, ps, h1, ⟨fun vs H Q E ⟨c', hc', e, h⟩ => ?_, fun A o s H a us vs Q E g r e0 b v ⟨c', hc', e, h⟩ => ?_⟩, h3⟩
    · rw [inj c hc c' hc' e] at h2
      exact h2.len vs H Q E h
    · rw [inj c hc c' hc' e] at h2
      exact h2.run A o s H a us vs Q E g r e0 b v h
  refine .of rfl (PE.imp (g_meth (Cs := fun C => ∃ c ∈ cs, C = He.ga X.K c) (sps := fun C vs H Q E => ∃ c ∈ cs, C = He.ga X.K c ∧ spG X.K (Γ.fn (c, some m)) vs H Q E) ho.p (fun C ⟨c, hc, e⟩ => e ▸ (hC c hc).cl) sp wr.gd hr wr.tk ha.as hst ht) fun σ H Q ⟨F0, ρ, s, q⟩ => ⟨F0, ρ, s, ?_⟩) fun _ => rfl
  refine (rdAt.bind0 (R1 := PR X.K) s s .refl (show rdAt X.K W (((dn Γ o').p ρ).bind fun w => (Res.of (clsV Γ cs m (w.1.vw w.2))).bind fun c => (dAs (dns Γ es') w.2).bind fun x => methV Γ c m io w.1 x.1 x.2) (VR X.K) ρ F0 σ H Q from q)).mono fun v H1 ⟨F1, ρ1, w, s1, st1, r1, q1⟩ => ?_
  obtain ⟨c, ec, q1⟩ := q1.of
  obtain ⟨hc1, hc2, fs, ew, hl⟩ := clsV_some ec
  obtain ⟨a, rfl, dx, vfs, e1, e2⟩ := w.vwOk s1 r1.opd ew
  refine ⟨a, _, dx, vfs, rfl, e1, ⟨c, hc2, rfl⟩, fd_lookup e2 hl, F1, ρ1, s1, ?_⟩
  refine (rdAt.bind0 (R1 := AsR X.K) s s1 st1 q1).mono fun vs H2 ⟨F2, ρ2, ss, s2, st2, r20, q20⟩ => ⟨c, hc2, rfl, ?_⟩
  have r2 : ArgOk X.K F2 H2 vs ss := r20
  have st02 := st1.trans st2
  have ow := r1.opd.step s1 st2
  have base : ∀ {z : Res (Slot × Fr)}, rdAt X.K W z (VR X.K) ρ F0 σ H Q → (∀ r, z = .ok r → True) → rdAt X.K W z (VR X.K) ρ2 F2 σ H2 Q := fun {z} h _ => by
    revert h
    cases z with
    | ok r => exact fun h v F' H' a b c => h v F' H' a (st02.trans b) (bkV _ _ _ _ _ _ _ _ _ _ _ _ st02 c)
    | exc c => exact fun h => h.back st02 (s2.len.trans s.len.symm)
    | stuck => exact fun h => h
  have q2 : rdAt X.K W (methV Γ c m io w ss ρ2) (VR X.K) ρ F0 σ H Q := q20
  clear q20
  cases w with
  | slot i =>
    have h2 : σ[i]? = some (some (.ref a)) := ow
    cases io with
    | true =>
      have q2 : rdAt X.K W (match (ρ2[i]?).bind Slot.mo with
        | some (.ins c' _) => if c' = c then callIo Γ (c, some m) i ss ρ2 else .stuck
        | _ => .stuck) (VR X.K) ρ F0 σ H Q := q2
      split at q2
      · rename_i c' fs' eo
        split at q2
        · rename_i hcc
          subst hcc
          have q2 := base q2 fun _ _ => trivial
          obtain ⟨a1, hma1⟩ := mat_of s2 eo
          have ea : a1 = a := by
            have h1 := hma1.2
            rw [h1] at h2
            cases h2
            rfl
          subst ea
          unfold callIo at q2
          rw [eo] at q2
          exact call_lent s2 hma1 eo r2 q2
        · exact q2.elim
      · exact q2.elim
    | false =>
      have q2 : rdAt X.K W (match ρ2[i]? with
        | some (.ins c' fs) => if c' = c then (Γ.fn (c, some m) (.ins c' fs :: ss)).bind fun y => .ok (y.1, ρ2) else .stuck
        | _ => .stuck) (VR X.K) ρ F0 σ H Q := q2
      split at q2
      · rename_i c' fs' eo
        split at q2
        · rename_i hcc
          subst hcc
          have hk := s2.ok i _ eo
          rw [h2] at hk
          obtain ⟨a', ea, hz⟩ := hk
          cases ea
          exact call_plain s2 (.ins hz r2) (base q2 fun _ _ => trivial)
        · exact q2.elim
      · exact q2.elim
  | tmp sl =>
    cases io with
    | false => exact (show False from q2).elim
    | true =>
      cases sl with
      | own o =>
        cases o with
        | ins c' fs' =>
          have q2 : rdAt X.K W (if c' = c then (Γ.fn (c, some m) (.brw (.ins c' fs') :: ss)).bind fun y => .ok (y.1, ρ2) else .stuck) (VR X.K) ρ F0 σ H Q := q2
          split at q2
          · rename_i hcc
            subst hcc
            obtain ⟨⟨a', ea, hnf, hmo⟩, hmu⟩ := ow
            cases ea
            have hnew := (r1.2 _ a rfl rfl).2
            exact call_made s st02 s2 hnf (hmu _ a rfl rfl) hnew hmo r2 q2
          · exact q2.elim
        | lst _ => exact (show False from q2).elim
        | dic _ => exact (show False from q2).elim
        | set _ => exact (show False from q2).elim
      | no => exact (show False from q2).elim
      | val _ => exact (show False from q2).elim
      | ins _ _ => exact (show False from q2).elim
      | brw _ => exact (show False from q2).elim
/-- a new instance -/
theorem ok_new (wr : Wor X W) (hcl : Γ.cls c = true → He.ga X.K c = C) (M : Mk X.K C f) (F : FnG X.prog X.w X.K X.mg X.base k f fd ps (spG X.K (Γ.fn (c, some "__init__")))) (hr : Room (k + 1) X.A) (gl : Gl X x) (hm : X.mg x = some (.ref C))
    (hb : Binds X.K fd ps []) (ha : Oks X Γ W (e :: es) es') (hdb : (x == ("__debug__" : Str)) = false) (he : starEach (e :: es) X.env = (false, eval e X.env) :: starEach es X.env)
    (hpl : (backTo pos (starEach es X.env)).any (·.1) = false) : Ok X Γ W (.Call (.Name x p) (e :: es) [] pos) (.new c es') := by
  refine .of rfl (PE.imp (g_make M F wr.gd hr gl hm hb wr.tk ha.as hdb he hpl) fun σ H Q ⟨F0, ρ, s, q⟩ => ⟨F0, ρ, s, ?_⟩) fun _ => rfl
  refine (rdAt.bind (R1 := AsR X.K) bkV s q).mono fun vs H1 ⟨F1, ρ1, ss, s1, st1, r1, q1⟩ => ?_
  intro a dx h1 h2 hne
  have r1 : ArgOk X.K F1 H1 vs ss := r1
  have q1 : rdAt X.K W (if Γ.cls c then (Γ.fn (c, some "__init__") (.brw (.ins c []) :: ss)).bind fun y => (match y with
    | (.val .none, some (.ins c' fs)) => if c' = c then .ok (.own (.ins c fs), ρ1) else .stuck
    | _ => .stuck) else .stuck) (VR X.K) ρ1 F1 σ H1 Q := q1
  by_cases hc : Γ.cls c = true
  · rw [if_pos hc] at q1
    have hC := hcl hc
    have old : ∀ b u, H1 b = some u → (upd (upd H1 dx (.own a)) a (.ins C dx [])) b = some u := fun b u e => by
      rw [upd_ne (ne_of_none e h1), upd_ne (ne_of_none e h2)]
      exact e
    have new : ∀ b, (upd (upd H1 dx (.own a)) a (.ins C dx [])) b = none → H1 b = none := fun b e => by
      cases hb' : H1 b with
      | none => rfl
      | some u => rw [old b u hb'] at e; cases e
    have g : Grow F1 F1 H1 (upd (upd H1 dx (.own a)) a (.ins C dx [])) := ⟨fun _ h => h, fun b u _ e => old b u e⟩
    have hna : ¬ F1 a := s1.nfn h1
    have io : ∀ b, IoA (.ref a :: vs) (.brw (.ins c []) :: ss) b ↔ b = a := fun b => ⟨fun ⟨_, _, _, e1, e2⟩ => by cases e2; rfl, fun e => ⟨_, ss, vs, rfl, by rw [e]⟩⟩
    refine ⟨F1, .brw (.ins c []) :: ss, fun b hb' hz => s1.fok b hb' (new b hz), .inr ⟨_, ss, a, vs, rfl, rfl, hna, ⟨dx, [], by rw [upd_same, hC], .nil⟩, r1.mono g⟩, ?_⟩
    revert q1
    cases Γ.fn (c, some "__init__") (.brw (.ins c []) :: ss) with
    | ok y =>
      intro q10 v F' H' cp hv hown hio
      obtain ⟨o', e2, hm'⟩ := hio a ((io a).mpr rfl)
      obtain ⟨y1, y2⟩ := y
      cases e2
      have q1 : rdAt X.K W (match (y1, some o') with
        | (.val .none, some (.ins c' fs)) => if c' = c then Res.ok (Slot.own (.ins c fs), ρ1) else .stuck
        | _ => .stuck) (VR X.K) ρ1 F1 σ H1 Q := q10
      clear q10
      split at q1
      · rename_i c' fs heq
        cases heq
        split at q1
        · rename_i hcc
          subst hcc
          cases hv
          have nf' : ∀ b, F' b → F1 b ∨ H1 b = none := fun b h => (cp.new b h).imp id (new b)
          obtain ⟨s2, st2⟩ := s1.stay cp.sub nf' (fun b u e => cp.kept b u (old b u e) fun z => (ne_of_none e h1) ((io b).mp z)) cp.fok
          refine ⟨rfl, q1 (.ref a) F' H' s2 st2 ⟨⟨a, rfl, fun h => ?_, hm'⟩, fun o b e1 e2 => ?_⟩⟩
          · rcases cp.new a h with z | z
            · exact hna z
            · rw [upd_same] at z; cases z
          · cases e2
            exact ⟨s1.nmu h1, .inl h1⟩
        · exact q1.elim
      · exact q1.elim
    | exc c' =>
      intro q1 H' k'
      exact q1 σ H' s1.len.symm fun b u e _ => k' b u (old b u e) fun z => (ne_of_none e h1) ((io b).mp z)
    | stuck => exact fun h => h
  · rw [if_neg hc] at q1
    exact q1.elim
end
end PM
set_option Elab.async false
set_option linter.all false
set_option maxRecDepth 100000
set_option maxHeartbeats 1000000
/-! PM: fields, the methods of lists. -/
namespace PM
open PySem PySem.Spec PyProof.Rows L2
variable [Cur]
section
variable {X : Cx} {Γ : Ctx} {W : WX} {m f : Str} {p pos apos : Pos} {e o : Expr} {e' o' : E} {es : List Expr} {es' : List E}
theorem fd_get {K : PySem.W.Frag} {F : Ad} {H : Hp} {f : Str} {d : PyData} : ∀ {vs : List (Str × V)} {fs : List (Str × PyData)}, FdA K F H vs fs → fs.lookup f = some d → ∃ v, vs.lookup f = some v ∧ Rp K F H v d
  | _, _, .nil, e => by cases e
  | _, _, .cons (f := g) h t, e => by
    rw [List.lookup_cons] at e ⊢
    cases hb : (f == g) with
    | true => rw [hb] at e; cases e; exact ⟨_, rfl, h⟩
    | false =>
      rw [hb] at e
      exact fd_get t e
/-- what the class must have for a field -/
structure FldF (X : Cx) (Γ : Ctx) (f : Str) : Prop where
  cl : ∀ c, Γ.cls c = true → Cls X.K (He.ga X.K c)
  no : ∀ c, Γ.cls c = true → NoAttr X.K (He.ga X.K c) f
theorem fldV_some {w : Option Vw} {d : PyData} (h : fldV Γ f w = some d) : ∃ c fs, w = some (.ins c fs) ∧ Γ.cls c = true ∧ fs.lookup f = some d := by
  cases w with
  | none => cases h
  | some w =>
    cases w with
    | ins c fs =>
      have h : (if Γ.cls c then fs.lookup f else none) = some d := h
      split at h
      · rename_i z
        exact ⟨c, fs, rfl, z, h⟩
      · cases h
    | dat _ => cases h
    | dic _ => cases h
    | set _ => cases h
theorem ok_fld (ff : FldF X Γ f) (ho : Ok X Γ W o o') (hb : attributeBase o f X.env (eval o X.env) = eval o X.env) : Ok X Γ W (.Attribute o f pos) (.fld o' f) := by
  refine .of rfl (PE.imp (pe_fld ho.p hb) fun σ H Q ⟨F0, ρ, s, q⟩ => ⟨F0, ρ, s, ?_⟩) fun _ => rfl
  refine (rdAt.bind (R1 := PR X.K) bkV s (show rdAt X.K W (((dn Γ o').p ρ).bind fun w => (Res.of (fldV Γ f (w.1.vw w.2))).bind fun d => .ok (.val d, w.2)) (VR X.K) ρ F0 σ H Q from q)).mono fun v H1 ⟨F1, ρ1, w, s1, st1, r1, q1⟩ => ?_
  obtain ⟨d, ed, q1⟩ := q1.of
  obtain ⟨c, fs, ew, hc, hl⟩ := fldV_some ed
  obtain ⟨a, rfl, dx, vfs, e1, e2⟩ := w.vwOk s1 r1.opd ew
  obtain ⟨u, hu, ru⟩ := fd_get e2 hl
  exact ⟨a, _, dx, vfs, u, rfl, e1, ff.cl c hc, ff.no c hc, hu, q1.done s1 (nov ru)⟩

/-! ### lists' methods -/
def rBm (K : PySem.W.Frag) (W : WX) (m : Mf) : V → List V → Hp → VK → Prop := fun v vs H Q => ∃ (F : Ad) (ρ : Fr) (σ : L2.St) (w : Opd) (as : List PyData), Sim K F H ρ σ ∧ OpdOk K ρ σ F H v w ∧ RpA K F H vs as ∧ rdAt K W (bmeV m w as ρ) (VR K) ρ F σ H Q
def mfOf : Mf → Option (Str × String)
  | .append => some ("append", "list.append")
  | .index => some ("index", "list.index")
  | .pop => some ("pop", "list.pop")
  | .insert => some ("insert", "list.insert")
  | _ => none
theorem idx_ok {d : PyData} : ∀ {ds : List PyData} {n : Nat}, idxD ds d = some n → ∃ z, ds[n]? = some z ∧ PyData.eqv z d = true ∧ ∀ (m : Nat) (z' : PyData), m < n → ds[m]? = some z' → PyData.eqv z' d = false := by
  intro ds n h
  unfold idxD at h
  obtain ⟨h1, h2, h3⟩ := List.findIdx?_eq_some_iff_getElem.mp h
  exact ⟨ds[n], List.getElem?_eq_getElem h1, h2, fun m z' hm e => by
    have := h3 m hm
    obtain ⟨h4, h5⟩ := List.getElem?_eq_some_iff.mp e
    rw [h5] at this
    simpa using this⟩
theorem one_rp {K : PySem.W.Frag} {F : Ad} {H : Hp} {vs : List V} {d : PyData} (r : RpA K F H vs [d]) : ∃ v, vs = [v] ∧ Rp K F H v d := by
  cases r with
  | cons h t => cases t; exact ⟨_, rfl, h⟩
theorem RpA.dropLast {K : PySem.W.Frag} {F : Ad} {H : Hp} {xs : List V} {ds : List PyData} (r : RpA K F H xs ds) : RpA K F H xs.dropLast ds.dropLast := by
  rw [List.dropLast_eq_take, List.dropLast_eq_take, r.len]
  exact r.take _
theorem RpA.insertIdx {K : PySem.W.Frag} {F : Ad} {H : Hp} {v : V} {d : PyData} (n : Nat) {xs : List V} {ds : List PyData} (r : RpA K F H xs ds) (h : Rp K F H v d) : RpA K F H (xs.take n ++ [v] ++ xs.drop n) (ds.take n ++ [d] ++ ds.drop n) :=
  ((r.take n).app (.cons h .nil)).app (r.drop n)
theorem fits_lt {n : Nat} (h : decide (n < 16777216) = true) : n < sizeLine := by
  have := of_decide_eq_true h
  rw [sizeLine_eq]
  omega
/-- a list's own place is written -/
theorem lst_put {K : PySem.W.Frag} {F : Ad} {H : Hp} {ρ : Fr} {σ : L2.St} {i : Nat} {a : Addr} {ds' : List PyData} {xs' : List V} {Q : VK} {W : WX} {d : PyData} {v : V} (sim : Sim K F H ρ σ) (hi : MAt ρ σ i a) (r' : RpA K F H xs' ds') (hv : Rp K F H v d)
    (q : rdAt K W (.ok (.val d, Fr.put ρ i (.lst ds'))) (VR K) ρ F σ H Q) : Q v (upd H a (.lst xs')) := by
  have hna : ¬ F a := sim.nf ⟨i, hi⟩
  have g : Grow F F H (upd H a (.lst xs')) := ⟨fun _ h => h, fun b u hb e => by rw [upd_ne fun z => hna (by rw [← z]; exact hb)]; exact e⟩
  obtain ⟨s1, st⟩ := sim.put (F' := F) (H' := upd H a (.lst xs')) (o' := .lst ds') hi (fun _ h => h) (fun _ h => .inl h) (fun b u e hn => by rw [upd_ne hn]; exact e) (fun b hb => by rw [upd_ne fun z => hna (by rw [← z]; exact hb)]; exact sim.fok b hb) ⟨xs', upd_same, r'.mono g⟩
  exact q v F _ s1 st ⟨hv.mono g, fun o a e => by cases e⟩
theorem put_of {K : PySem.W.Frag} {F : Ad} {H : Hp} {ρ : Fr} {σ : L2.St} {w : Opd} {v : V} {m : Mf} {as : List PyData} {Q : VK} {W : WX} (sim : Sim K F H ρ σ) (ow : OpdOk K ρ σ F H v w)
    (q : rdAt K W (wrV m w as ρ) (VR K) ρ F σ H Q) : ∃ i a o y, MAt ρ σ i a ∧ v = .ref a ∧ MoOk K F H a o ∧ writeM m o as = some y ∧ rdAt K W (.ok (.val y.1, Fr.put ρ i y.2)) (VR K) ρ F σ H Q := by
  cases w with
  | tmp _ => exact q.elim
  | slot i =>
    have q : rdAt K W (match (ρ[i]?).bind Slot.mo with
      | some o => (Res.of (writeM m o as)).bind fun y => .ok (.val y.1, Fr.put ρ i y.2)
      | none => .stuck) (VR K) ρ F σ H Q := q
    split at q
    · rename_i o eo
      obtain ⟨y, ey, q⟩ := q.of
      obtain ⟨a, hma⟩ := mat_of sim eo
      have h2 : σ[i]? = some (some v) := ow
      have ea : v = .ref a := hma.addr h2
      refine ⟨i, a, o, y, hma, ea, ?_, ey, q⟩
      obtain ⟨⟨s, u, e, mm⟩, e2⟩ := hma
      rw [e] at eo
      have hk := sim.ok i s e
      rw [e2] at hk
      cases s with
      | own _ => cases eo; obtain ⟨b, eb, h1, h2⟩ := hk; cases eb; exact h2
      | brw _ => cases eo; obtain ⟨b, eb, h1, h2⟩ := hk; cases eb; exact h2
      | no => cases mm
      | val _ => cases mm
      | ins _ _ => cases mm
    · exact q.elim
theorem bm_append : MtR X "list.append" (rBm X.K W .append) := by
  intro pins s σ H x vs v us Q I rx rvs ⟨F, ρ, σ', w, as, sim, ow, ra, q⟩
  have e0 : readM .append (w.vw ρ) as = none := by
    unfold readM
    rfl
  unfold bmeV at q
  rw [e0] at q
  obtain ⟨i, a, o, y, hma, rfl, hm, hw, q⟩ := put_of sim ow q
  cases o with
  | lst ds =>
    match as, ra, hw with
    | [d], ra, hw =>
      obtain ⟨v1, rfl, r1⟩ := one_rp ra
      have hw : (if decide (ds.length < 16777216) = true then some (PyData.none, MO.lst (ds ++ [d])) else none) = some y := hw
      split at hw
      · rename_i c
        cases hw
        obtain ⟨xs, ha, rs⟩ := hm
        refine mt_append pins s σ H _ _ v us Q I rx rvs ⟨a, xs, v1, rfl, rfl, ha, by rw [rs.len]; exact fits_lt c, ?_⟩
        exact lst_put sim hma (rs.app (.cons r1 .nil)) .non q
      · cases hw
    | [], _, hw => cases hw
    | _ :: _ :: _, _, hw => cases hw
  | dic _ => exact hm.elim
  | set _ => cases hw
  | ins _ _ => cases hw
theorem bm_pop : MtR X "list.pop" (rBm X.K W .pop) := by
  intro pins s σ H x vs v us Q I rx rvs ⟨F, ρ, σ', w, as, sim, ow, ra, q⟩
  have e0 : readM .pop (w.vw ρ) as = none := by
    unfold readM
    rfl
  unfold bmeV at q
  rw [e0] at q
  obtain ⟨i, a, o, y, hma, rfl, hm, hw, q⟩ := put_of sim ow q
  cases o with
  | lst ds =>
    match as, ra, hw with
    | [], ra, hw =>
      cases ra
      obtain ⟨z, ez, rfl⟩ := Option.map_eq_some_iff.mp hw
      obtain ⟨xs, ha, rs⟩ := hm
      rw [List.getLast?_eq_getElem?] at ez
      obtain ⟨zv, e1, rz⟩ := rs.get ez
      refine mt_pop pins s σ H _ _ v us Q I rx rvs ⟨a, xs, zv, rfl, rfl, ha, by rw [rs.len]; exact e1, ?_⟩
      exact lst_put sim hma rs.dropLast rz q
    | _ :: _, _, hw => cases hw
  | dic _ => exact hm.elim
  | set _ => cases hw
  | ins _ _ => cases hw
theorem bm_index (wr : Wor X W) : MtR X "list.index" (rBm X.K W .index) := by
  intro pins s σ H x vs v us Q I rx rvs ⟨F, ρ, σ', w, as, sim, ow, ra, q⟩
  have h70 := wr.hu
  unfold bmeV at q
  cases hr : readM .index (w.vw ρ) as with
  | none =>
    rw [hr] at q
    obtain ⟨i, a, o, y, hma, rfl, hm, hw, q⟩ := put_of sim ow q
    cases o with
    | lst ds => cases hw
    | dic _ => exact hm.elim
    | set _ => cases hw
    | ins _ _ => cases hw
  | some d =>
    rw [hr] at q
    cases hwv : w.vw ρ with
    | none => rw [hwv] at hr; cases hr
    | some vw =>
      have hok := w.vwOk sim ow hwv
      rw [hwv] at hr
      cases vw with
      | dat c =>
        cases c with
        | list ds =>
          match as, ra, hr with
          | [d1], ra, hr =>
            obtain ⟨v1, rfl, r1⟩ := one_rp ra
            have hr : (if (SeqAt.shaped (.list ds) && SeqAt.shaped d1) = true then (idxD ds d1).map fun (n : Nat) => PyData.int n else none) = some d := hr
            split at hr
            · rename_i c
              rw [Bool.and_eq_true] at c
              obtain ⟨n, en, rfl⟩ := Option.map_eq_some_iff.mp hr
              obtain ⟨z, h1, h2, h3⟩ := idx_ok en
              obtain ⟨a, xs, rfl, hs, rs⟩ := hok
              exact mt_indexD (by omega) pins s σ H _ _ v us Q I rx rvs ⟨a, v1, d1, ds, n, z, rfl, rfl, .lst hs rs.dp, r1.dp, c.1, c.2, h1, h2, h3, q.done sim (nov (.int _))⟩
            · cases hr
          | [], _, hr => cases hr
          | _ :: _ :: _, _, hr => cases hr
        | tuple _ => cases hr
        | none => cases hr
        | bool _ => cases hr
        | int _ => cases hr
        | str _ => cases hr
        | dict _ => cases hr
      | dic _ => obtain ⟨_, _, z⟩ := hok; exact z.elim
      | set _ => cases hr
      | ins _ _ => cases hr
theorem bme_rd {m : Mf} {σ : L2.St} {H : Hp} {Q : VK} (hm : mfOf m ≠ none) (h : rdG X.K W (dn Γ (.bme m o' es')).v (VR X.K) σ H Q) :
    tBM X.K "list" (rBm X.K W m) (rdG X.K W (dn Γ o').p (PR X.K)) (rdG X.K W (dVs (dns Γ es')) (VsR X.K)) σ H Q := by
  obtain ⟨F0, ρ, s, q⟩ := h
  refine ⟨F0, ρ, s, (rdAt.bind (R1 := PR X.K) bkV s (show rdAt X.K W (((dn Γ o').p ρ).bind fun w => if kindOk m (w.1.vw w.2) then (dVs (dns Γ es') w.2).bind fun x => bmeV m w.1 x.1 x.2 else .stuck) (VR X.K) ρ F0 σ H Q from q)).mono fun v H1 ⟨F1, ρ1, w, s1, st1, r1, q1⟩ => ?_⟩
  have q1 : rdAt X.K W (if kindOk m (w.vw ρ1) then (dVs (dns Γ es') ρ1).bind fun x => bmeV m w x.1 x.2 else .stuck) (VR X.K) ρ1 F1 σ H1 Q := q1
  by_cases hk : kindOk m (w.vw ρ1) = true
  · rw [if_pos hk] at q1
    refine ⟨?_, F1, ρ1, s1, (rdAt.bind (R1 := VsR X.K) bkV s1 q1).mono fun vs H2 ⟨F2, ρ2, as, s2, st2, r2, q2⟩ => ⟨F2, ρ2, σ, w, as, s2, r1.opd.step s1 st2, r2, q2⟩⟩
    cases hwv : w.vw ρ1 with
    | none => rw [hwv] at hk; cases m <;> cases hk
    | some vw =>
      have hok := w.vwOk s1 r1.opd hwv
      rw [hwv] at hk
      cases vw with
      | dat c =>
        cases c with
        | list ds =>
          obtain ⟨a, xs, rfl, hs, _⟩ := hok
          exact .inl ⟨rfl, xs, hs⟩
        | tuple _ => cases m <;> cases hk
        | none => cases m <;> cases hk
        | bool _ => cases m <;> cases hk
        | int _ => cases m <;> cases hk
        | str _ => cases m <;> cases hk
        | dict _ => cases m <;> cases hk
      | dic _ => obtain ⟨_, _, z⟩ := hok; exact z.elim
      | set _ => cases m <;> first | exact absurd rfl hm | cases hk
      | ins _ _ => cases m <;> cases hk
  · rw [if_neg hk] at q1
    exact q1.elim
theorem bm_all (wr : Wor X W) {m : Mf} {n : Str} {id : String} (h : mfOf m = some (n, id)) : (n = "append" ∧ id = "list.append" ∧ m = .append) ∨ (n = "index" ∧ id = "list.index" ∧ m = .index) ∨ (n = "pop" ∧ id = "list.pop" ∧ m = .pop) ∨ (n = "insert" ∧ id = "list.insert" ∧ m = .insert) := by
  cases m <;> cases h <;> simp
theorem ok_append (wr : Wor X W) (ho : Ok X Γ W o o') (ha : Oks X Γ W (e :: es) es') (hbase : attributeBase o "append" X.env (eval o X.env) = eval o X.env)
    (hfew : ((backTo pos (starEach (e :: es) X.env)).all (fun x => !x.1) && (backToKw pos (keywordEach [] X.env)).all (fun x => x.1.isSome)
      && decide ((e :: es).length + ([] : List Keyword).length + (if ([] : List Keyword).isEmpty then 0 else 1) < 30)) = true)
    (hline : (apos.endLine == pos.line) = true) (hs : starEach (e :: es) X.env = (false, eval e X.env) :: starEach es X.env) (hplain : (backTo pos (starEach es X.env)).any (·.1) = false) :
    Ok X Γ W (.Call (.Attribute o "append" apos) (e :: es) [] pos) (.bme .append o' es') :=
  .of rfl (PE.imp (pe_bm F.plainAttrs_list F.slot_list_append F.type_list_append bm_append ho.p ha.vs hbase hfew hline hs hplain) fun σ H Q h => bme_rd (by decide) h) fun _ => rfl
theorem ok_index (wr : Wor X W) (ho : Ok X Γ W o o') (ha : Oks X Γ W (e :: es) es') (hbase : attributeBase o "index" X.env (eval o X.env) = eval o X.env)
    (hfew : ((backTo pos (starEach (e :: es) X.env)).all (fun x => !x.1) && (backToKw pos (keywordEach [] X.env)).all (fun x => x.1.isSome)
      && decide ((e :: es).length + ([] : List Keyword).length + (if ([] : List Keyword).isEmpty then 0 else 1) < 30)) = true)
    (hline : (apos.endLine == pos.line) = true) (hs : starEach (e :: es) X.env = (false, eval e X.env) :: starEach es X.env) (hplain : (backTo pos (starEach es X.env)).any (·.1) = false) :
    Ok X Γ W (.Call (.Attribute o "index" apos) (e :: es) [] pos) (.bme .index o' es') :=
  .of rfl (PE.imp (pe_bm F.plainAttrs_list F.slot_list_index F.type_list_index (bm_index wr) ho.p ha.vs hbase hfew hline hs hplain) fun σ H Q h => bme_rd (by decide) h) fun _ => rfl
end
end PM
set_option Elab.async false
set_option linter.all false
set_option maxRecDepth 100000
set_option maxHeartbeats 1000000
/-! PM: what is walked, targets, statements. -/
namespace PM
open PySem PySem.Spec PyProof.Rows L2
variable [Cur]
/-! ### what is walked -/
structure Walk (K : PySem.W.Frag) (F : Ad) (H : Hp) (ds : List PyData) (J : It) : Prop where
  go : ∀ i F' H', Grow F F' H H' → i < ds.length → J.go i H'
  stop : ∀ i F' H', Grow F F' H H' → ds.length ≤ i → J.stop i H'
  yld : ∀ i F' H' x H2 d, Grow F F' H H' → (∀ a, F' a → H' a ≠ none) → ds[i]? = some d → J.yld i H' x H2 →
    ∃ F2 : Ad, (∀ a, F' a → F2 a) ∧ (∀ a, F2 a → F' a ∨ H' a = none) ∧ (∀ a u, H' a = some u → H2 a = some u) ∧ (∀ a, F2 a → H2 a ≠ none) ∧ Rp K F2 H2 x d
def IR (K : PySem.W.Frag) : RR (List PyData) It := fun _ _ _ _ F' H' ds J => Walk K F' H' ds J
theorem bkI {K : PySem.W.Frag} : Bk (IR K) := fun _ _ _ _ _ _ _ _ _ _ _ _ _ h => h
section
variable {K : PySem.W.Frag} {F F' : Ad} {H H' : Hp}
theorem walk_list {a : Addr} {xs : List V} {ds : List PyData} (h : FzL K F H a xs) (r : RpA K F H xs ds) : Walk K F H ds (Itl K a) where
  go := fun i F' H' g hi => by
    obtain ⟨v, hv, _⟩ := r.get (List.getElem?_eq_getElem hi)
    exact ⟨xs, v, (h.mono g).sq, hv⟩
  stop := fun i F' H' g hi => ⟨xs, (h.mono g).sq, by rw [r.len]; exact hi⟩
  yld := fun i F' H' x H2 d g fok hd hy => by
    obtain ⟨rfl, hx⟩ := hy
    obtain ⟨v, hv, rv⟩ := r.get hd
    have := hx xs (h.mono g).sq
    rw [hv] at this
    cases this
    exact ⟨F', fun _ h => h, fun _ h => .inl h, fun _ _ h => h, fok, rv.mono g⟩
theorem walk_tup {a : Addr} {xs : List V} {ds : List PyData} (h : FzT K F H a xs) (r : RpA K F H xs ds) : Walk K F H ds (Itt K a) where
  go := fun i F' H' g hi => by
    obtain ⟨v, hv, _⟩ := r.get (List.getElem?_eq_getElem hi)
    exact ⟨xs, v, (h.mono g).sq, hv⟩
  stop := fun i F' H' g hi => ⟨xs, (h.mono g).sq, by rw [r.len]; exact hi⟩
  yld := fun i F' H' x H2 d g fok hd hy => by
    obtain ⟨rfl, hx⟩ := hy
    obtain ⟨v, hv, rv⟩ := r.get hd
    have := hx xs (h.mono g).sq
    rw [hv] at this
    cases this
    exact ⟨F', fun _ h => h, fun _ h => .inl h, fun _ _ h => h, fok, rv.mono g⟩
theorem rng_len (lo hi : Int) : (rng lo hi).length = (hi - lo).toNat := by simp [rng]
theorem rng_get {lo hi : Int} {i : Nat} {d : PyData} (h : (rng lo hi)[i]? = some d) : d = .int (lo + i) := by
  unfold rng at h
  rw [List.getElem?_map] at h
  obtain ⟨n, hn, rfl⟩ := Option.map_eq_some_iff.mp h
  rw [List.getElem?_eq_some_iff] at hn
  obtain ⟨h1, h2⟩ := hn
  rw [List.getElem_range] at h2
  rw [h2]
theorem walk_rng {lo hi : Int} : Walk K F H (rng lo hi) (Itr lo (hi - lo).toNat) where
  go := fun i F' H' g h => by rw [rng_len] at h; exact h
  stop := fun i F' H' g h => by rw [rng_len] at h; exact h
  yld := fun i F' H' x H2 d g fok hd hy => by
    obtain ⟨rfl, rfl⟩ := hy
    rw [rng_get hd]
    exact ⟨F', fun _ h => h, fun _ h => .inl h, fun _ _ h => h, fok, .int _⟩
end
section
variable {X : Cx} {Γ : Ctx} {W : WX} {e : Expr} {e' : E} {tg : Expr} {pos p : Pos}
abbrev PIG (X : Cx) (W : WX) (tg e : Expr) (d : Dn) : Prop := PI X tg e (rdG X.K W d.it (IR X.K))
theorem pi_seq {tl : TE} (hl : PE X e tl) : PI X tg e (fun σ H R => tl σ H fun x H1 => ∃ a, x = .ref a ∧ (((∃ xs, SqL X.K H1 a xs) ∧ R (Itl X.K a) H1) ∨ ((∃ xs, SqT X.K H1 a xs) ∧ R (Itt X.K a) H1))) := by
  refine ⟨fun pins s σ H R I h => ?_⟩
  refine thn (hl.run pins s σ H _ I h) fun v s1 ⟨x, H1, I1, r1, a, e, q⟩ => ?_
  subst e
  cases r1
  rcases q with ⟨⟨xs, hq⟩, q⟩ | ⟨⟨xs, hq⟩, q⟩
  · obtain ⟨its, rv, p, hz⟩ := I1.list hq
    refine wpAny_pyIter_list p.isList ?_
    refine ⟨s1.heap.objs.size, [s1.heap.objs.size], _, _, H1, rfl, I1.kept (t' := s1.toks) fun b o e => Heap.get?_push_of_some _ e, turn_list a _, ⟨_, Heap.get?_push_size _ rfl, rfl, rfl⟩, fun b hb => ?_, q⟩
    have e : b = s1.heap.objs.size := by simpa using hb
    subst e
    exact I1.fpOk (Nat.le_refl _) (I1.hok.fresh (Nat.le_refl _))
  · obtain ⟨its, rv, p, hz⟩ := I1.tuple hq
    refine wpAny_pyIter_tuple (show s1.heap.IsTuple a its.toArray from p) ?_
    refine ⟨s1.heap.objs.size, [s1.heap.objs.size], _, _, H1, rfl, I1.kept (t' := s1.toks) fun b o e => Heap.get?_push_of_some _ e, turn_tuple a _, ⟨_, Heap.get?_push_size _ rfl, rfl, rfl⟩, fun b hb => ?_, q⟩
    have e : b = s1.heap.objs.size := by simpa using hb
    subst e
    exact I1.fpOk (Nat.le_refl _) (I1.hok.fresh (Nat.le_refl _))
theorem oki_of {d : Dn} (hv : PEV X W e d) (hd : d.it = fun ρ => (d.v ρ).bind fun x => (Res.of (itemsOf x.1.toD)).bind fun xs => .ok (xs, x.2)) : PIG X W tg e d := by
  refine ⟨fun pins s σ H R I ⟨F, ρ, sim, q⟩ => (pi_seq hv).run pins s σ H R I ⟨F, ρ, sim, ?_⟩⟩
  rw [hd] at q
  have q : rdAt X.K W ((d.v ρ).bind fun x => (Res.of (itemsOf x.1.toD)).bind fun xs => .ok (xs, x.2)) (IR X.K) ρ F σ H R := q
  have q2 : rdAt X.K W ((d.v ρ).bind fun x => (Res.of x.1.toD).bind fun y => .ok (y, x.2)) (DR X.K) ρ F σ H (fun x H1 => ∃ a, x = .ref a ∧ (((∃ xs, SqL X.K H1 a xs) ∧ R (Itl X.K a) H1) ∨ ((∃ xs, SqT X.K H1 a xs) ∧ R (Itt X.K a) H1))) := by
    revert q
    cases d.v ρ with
    | ok r =>
      intro q
      have q : rdAt X.K W ((Res.of (itemsOf r.1.toD)).bind fun xs => .ok (xs, r.2)) (IR X.K) ρ F σ H R := q
      obtain ⟨ds, ed, q⟩ := q.of
      show rdAt X.K W ((Res.of r.1.toD).bind fun y => .ok (y, r.2)) (DR X.K) ρ F σ H _
      cases et : r.1.toD with
      | none => rw [et] at ed; cases ed
      | some y =>
        rw [et] at ed
        intro v F' H' s1 st r1
        have r1 : Rp X.K F' H' v y := r1
        cases y with
        | list ds' =>
          cases ed
          cases r1 with
          | lst h1 h2 => exact ⟨_, rfl, .inl ⟨⟨_, h1.sq⟩, q _ F' H' s1 st (walk_list h1 h2)⟩⟩
        | tuple ds' =>
          cases ed
          cases r1 with
          | tup h1 h2 => exact ⟨_, rfl, .inr ⟨⟨_, h1.sq⟩, q _ F' H' s1 st (walk_tup h1 h2)⟩⟩
        | none => cases ed
        | bool _ => cases ed
        | int _ => cases ed
        | str _ => cases ed
        | dict _ => cases ed
    | exc c => exact fun q => q
    | stuck => exact fun q => q
  exact rd_toD (fun _ _ _ _ _ _ _ _ r => r) q2
theorem rng_ok {i : Int} (h : rngOk i = true) : -(2 ^ 62) ≤ i ∧ i < 2 ^ 62 := by
  unfold rngOk at h
  rw [Bool.and_eq_true, decide_eq_true_eq, decide_eq_true_eq] at h
  exact h
theorem oki_range1 {a : Expr} {a' : E} (gl : Gl X "range") (hm : X.mg "range" = none) (ha : Oks X Γ W [a] [a']) (hs : starEach [a] X.env = [(false, eval a X.env)]) : PIG X W tg (.Call (.Name "range" p) [a] [] pos) (dn Γ (.blt .range [a'])) := by
  refine ⟨fun pins s σ H R I ⟨F, ρ, sim, q⟩ => (pi_range1 gl hm ha.vs hs).run pins s σ H R I ⟨F, ρ, sim, ?_⟩⟩
  refine (rdAt.bind (R1 := VsR X.K) bkI sim (show rdAt X.K W ((dVs (dns Γ [a']) ρ).bind fun x => (Res.of (walkB .range x.1)).bind fun xs => .ok (xs, x.2)) (IR X.K) ρ F σ H R from q)).mono fun vs H1 ⟨F1, ρ1, ds, s1, st1, r1, q1⟩ => ?_
  obtain ⟨xs, ex, q1⟩ := q1.of
  have r1 : RpA X.K F1 H1 vs ds := r1
  match ds, ex, r1 with
  | [.int n], ex, r1 =>
    obtain ⟨v, rfl, rv⟩ := one_rp r1
    cases rv
    have ex : (if rngOk n then some (rng 0 n) else none) = some xs := ex
    split at ex
    · rename_i c
      cases ex
      obtain ⟨h1, h2⟩ := rng_ok c
      refine ⟨n, rfl, h1, h2, ?_⟩
      have := q1.done s1 (v := Itr 0 (n - 0).toNat) walk_rng
      rw [Int.sub_zero] at this
      exact this
    · cases ex
theorem oki_range2 {a b : Expr} {a' b' : E} (gl : Gl X "range") (hm : X.mg "range" = none) (ha : Oks X Γ W [a, b] [a', b']) (hs : starEach [a, b] X.env = [(false, eval a X.env), (false, eval b X.env)]) (hs2 : starEach [b] X.env = [(false, eval b X.env)]) :
    PIG X W tg (.Call (.Name "range" p) [a, b] [] pos) (dn Γ (.blt .range2 [a', b'])) := by
  refine ⟨fun pins s σ H R I ⟨F, ρ, sim, q⟩ => (pi_range2 gl hm ha.vs hs hs2).run pins s σ H R I ⟨F, ρ, sim, ?_⟩⟩
  refine (rdAt.bind (R1 := VsR X.K) bkI sim (show rdAt X.K W ((dVs (dns Γ [a', b']) ρ).bind fun x => (Res.of (walkB .range2 x.1)).bind fun xs => .ok (xs, x.2)) (IR X.K) ρ F σ H R from q)).mono fun vs H1 ⟨F1, ρ1, ds, s1, st1, r1, q1⟩ => ?_
  obtain ⟨xs, ex, q1⟩ := q1.of
  have r1 : RpA X.K F1 H1 vs ds := r1
  match ds, ex, r1 with
  | [.int m, .int n], ex, r1 =>
    obtain ⟨v, r2, rfl, rv, r3⟩ : ∃ v vs', vs = v :: vs' ∧ Rp X.K F1 H1 v (.int m) ∧ RpA X.K F1 H1 vs' [.int n] := by
      cases r1 with
      | cons h t => exact ⟨_, _, rfl, h, t⟩
    obtain ⟨u, rfl, ru⟩ := one_rp r3
    cases rv
    cases ru
    have ex : (if (rngOk m && rngOk n) = true then some (rng m n) else none) = some xs := ex
    split at ex
    · rename_i c
      rw [Bool.and_eq_true] at c
      cases ex
      obtain ⟨h1, h2⟩ := rng_ok c.1
      obtain ⟨h3, h4⟩ := rng_ok c.2
      exact ⟨m, n, rfl, ⟨h1, h2, h3, h4⟩, q1.done s1 walk_rng⟩
    · cases ex
end

/-! ### stores -/
section
variable {K : PySem.W.Frag} {F F0 : Ad} {H H0 : Hp} {ρ ρ0 : Fr} {σ σ0 : L2.St} {i : Nat} {s s0 : Slot} {v : V}
theorem MAt.store {j : Nat} {b : Addr} (hi : i < ρ.length) (h : MAt (ρ.set i s) (σ.set i (some v)) j b) : (j = i ∧ (∃ o, s.mo = some o) ∧ v = .ref b) ∨ (j ≠ i ∧ MAt ρ σ j b) := by
  obtain ⟨⟨s', o, e, m⟩, e2⟩ := h
  by_cases hj : j = i
  · subst hj
    rw [List.getElem?_set_self hi] at e
    cases e
    refine .inl ⟨rfl, ⟨o, m⟩, ?_⟩
    obtain ⟨hl, e3⟩ := List.getElem?_eq_some_iff.mp e2
    rw [List.getElem_set_self] at e3
    cases e3
    rfl
  · rw [List.getElem?_set_ne (Ne.symm hj)] at e e2
    exact .inr ⟨hj, ⟨⟨s', o, e, m⟩, e2⟩⟩
theorem Sim.store (sim : Sim K F H ρ σ) (st : Stp ρ0 σ0 F0 H0 ρ σ F H) (e0 : ρ[i]? = some s0) (hb : ∀ o, s0 ≠ .brw o) (hv : VOk K F H v s) (ho : ∀ o a, s = .own o → v = .ref a → ¬ Mu ρ σ a ∧ (H0 a = none ∨ Mu ρ0 σ0 a)) :
    Sim K F H (ρ.set i s) (σ.set i (some v)) ∧ Stp ρ0 σ0 F0 H0 (ρ.set i s) (σ.set i (some v)) F H := by
  have hi : i < ρ.length := (List.getElem?_eq_some_iff.mp e0).1
  have own : ∀ o, s.mo = some o → s = .own o := fun o m => by
    cases s with
    | own _ => cases m; rfl
    | brw _ => exact hv.elim
    | no => cases m
    | val _ => cases m
    | ins _ _ => cases m
  refine ⟨⟨by rw [List.length_set, List.length_set]; exact sim.len, fun j sl e => ?_, fun x y b h1 h2 => ?_, sim.fok⟩, ⟨st.sub, st.new, st.kept, fun b ⟨j, h⟩ => ?_, fun j o e => ?_, by rw [List.length_set]; exact st.len⟩⟩
  · by_cases hj : j = i
    · subst hj
      rw [List.getElem?_set_self hi] at e
      cases e
      rw [List.getElem?_set_self (sim.len ▸ hi)]
      exact hv.slot
    · rw [List.getElem?_set_ne (Ne.symm hj)] at e ⊢
      exact sim.ok j sl e
  · rcases MAt.store hi h1 with ⟨e1, ⟨o, m⟩, ev⟩ | ⟨n1, h1'⟩
    · rcases MAt.store hi h2 with ⟨e2, _, _⟩ | ⟨n2, h2'⟩
      · rw [e1, e2]
      · exact ((ho o b (own o m) ev).1 ⟨_, h2'⟩).elim
    · rcases MAt.store hi h2 with ⟨e2, ⟨o, m⟩, ev⟩ | ⟨n2, h2'⟩
      · exact ((ho o b (own o m) ev).1 ⟨_, h1'⟩).elim
      · exact sim.apart x y b h1' h2'
  · rcases MAt.store hi h with ⟨rfl, ⟨o, m⟩, ev⟩ | ⟨n1, h⟩
    · exact (ho o b (own o m) ev).2
    · exact st.mu b ⟨j, h⟩
  · obtain ⟨⟨o', h1⟩, h2⟩ := st.brw j o e
    have hj : i ≠ j := fun z => by
      subst z
      rw [h1] at e0
      cases e0
      exact hb _ rfl
    rw [List.getElem?_set_ne hj, List.getElem?_set_ne hj]
    exact ⟨⟨o', h1⟩, h2⟩
end

/-! ### targets -/
/-- a target's reading -/
def gG (K : PySem.W.Frag) (t : T) : TG := fun v σ H Q => ∃ (F : Ad) (ρ : Fr) (d : PyData) (ρ' : Fr), Sim K F H ρ σ ∧ Rp K F H v d ∧ asgT t d ρ = some ρ' ∧ ∀ σ', Sim K F H ρ' σ' → Stp ρ σ F H ρ' σ' F H → (∀ j, j ∉ t.names → σ'[j]? = σ[j]?) → Q σ' H
def gGs (K : PySem.W.Frag) (ts : List T) : TGs := fun vs σ H Q => ∃ (F : Ad) (ρ : Fr) (ds : List PyData) (ρ' : Fr), Sim K F H ρ σ ∧ RpA K F H vs ds ∧ asgTs ts ds ρ = some ρ' ∧ ∀ σ', Sim K F H ρ' σ' → Stp ρ σ F H ρ' σ' F H → (∀ j, j ∉ T.namesA ts → σ'[j]? = σ[j]?) → Q σ' H
theorem PG.imp {X : Cx} {tg : Expr} {t t' : TG} (h : PG X tg t) (k : ∀ v σ H Q, t' v σ H Q → t v σ H Q) : PG X tg t' := ⟨fun pins s σ H v u Q I r q => h.run pins s σ H v u Q I r (k v σ H Q q)⟩
theorem PGs.imp {X : Cx} {tg : List Expr} {t t' : TGs} (h : PGs X tg t) (k : ∀ v σ H Q, t' v σ H Q → t v σ H Q) : PGs X tg t' := ⟨fun pins s σ H v u Q I r q => h.run pins s σ H v u Q I r (k v σ H Q q)⟩
section
variable {X : Cx} {W : WX} {pos : Pos}
theorem asgT_name {i : Nat} {d : PyData} {ρ ρ' : Fr} (h : asgT (.name i) d ρ = some ρ') : ρ' = ρ.set i (.val d) ∧ ∃ s0, ρ[i]? = some s0 ∧ ∀ o, s0 ≠ .brw o := by
  unfold asgT at h
  split at h
  · cases h
  · rename_i s hs e
    cases h
    exact ⟨rfl, s, e, hs⟩
  · cases h
theorem okg_name {i : Nat} {x : Str} (hN : X.N.Nodup) (hi : X.N[i]? = some x) (hx : Loc X.env.scope x) (hf : X.fn x = true ∨ X.env.scope.names.lookup x = some .local) : PG X (.Name x pos) (gG X.K (.name i)) :=
  PG.imp (pg_name hN hi hx hf) fun v σ H Q ⟨F, ρ, d, ρ', sim, r, e, q⟩ => by
    obtain ⟨rfl, s0, e0, hb⟩ := asgT_name e
    obtain ⟨s1, st⟩ := sim.store .refl e0 hb (show VOk X.K F H v (.val d) from r) (fun o a z => by cases z)
    exact q _ s1 st fun j hj => by
      rw [List.getElem?_set_ne]
      exact fun z => hj (by rw [T.names]; exact List.mem_singleton.mpr z.symm)
theorem okgs_nil : PGs X [] (gGs X.K []) := PGs.imp pgs_nil fun v σ H Q ⟨F, ρ, d, ρ', sim, r, e, q⟩ => by
  cases d with
  | nil =>
    cases r
    cases e
    exact ⟨rfl, q σ sim .refl fun _ _ => rfl⟩
  | cons _ _ => cases e
theorem okgs_cons {e : Expr} {es : List Expr} {t : T} {ts : List T} (h1 : PG X e (gG X.K t)) (h2 : PGs X es (gGs X.K ts)) (hs : (assignEach (e :: es) X.env).map (·.2) = assign e X.env :: (assignEach es X.env).map (·.2)) : PGs X (e :: es) (gGs X.K (t :: ts)) :=
  PGs.imp (pgs_cons h1 h2 hs) fun v σ H Q ⟨F, ρ, d, ρ', sim, r, e, q⟩ => by
    cases d with
    | nil => cases e
    | cons d ds =>
      cases r with
      | cons rv rt =>
        obtain ⟨ρ1, e1, e2⟩ := Option.bind_eq_some_iff.mp e
        refine ⟨_, _, rfl, F, ρ, d, ρ1, sim, rv, e1, fun σ1 s1 st1 o1 => ⟨F, ρ1, ds, ρ', s1, rt, e2, fun σ2 s2 st2 o2 => q σ2 s2 (st1.trans st2) fun j hj => by
          rw [T.namesA, List.mem_append, not_or] at hj
          exact (o2 j hj.2).trans (o1 j hj.1)⟩⟩
theorem asgTs_len {ts : List T} : ∀ {ds : List PyData} {ρ ρ' : Fr}, asgTs ts ds ρ = some ρ' → ds.length = ts.length := by
  induction ts with
  | nil =>
    intro ds ρ ρ' h
    cases ds with
    | nil => rfl
    | cons _ _ => cases h
  | cons t ts ih =>
    intro ds ρ ρ' h
    cases ds with
    | nil => cases h
    | cons d ds =>
      obtain ⟨ρ1, e1, e2⟩ := Option.bind_eq_some_iff.mp h
      rw [List.length_cons, List.length_cons, ih e2]
theorem okg_tup {es : List Expr} {k : Nat} {ts : List T} (hc : X.calm = true) (h : PGs X es (gGs X.K ts)) (hn : (assignEach es X.env).length = ts.length) (hst : (assignEach es X.env).findIdx? (·.1) = none) : PG X (.Tuple es k pos) (gG X.K (.tup ts)) :=
  PG.imp (pg_tup hc h hn hst) fun v σ H Q ⟨F, ρ, d, ρ', sim, r, e, q⟩ => by
    cases d with
    | tuple ds =>
      have e : asgTs ts ds ρ = some ρ' := e
      cases r with
      | tup h1 h2 => exact ⟨_, _, rfl, h1.sq, by rw [h2.len]; exact asgTs_len e, F, ρ, ds, ρ', sim, h2, e, fun σ' s' st' o' => q σ' s' st' fun j hj => o' j (by rw [T.names] at hj; exact hj)⟩
    | list _ => cases e
    | none => cases e
    | bool _ => cases e
    | int _ => cases e
    | str _ => cases e
    | dict _ => cases e
end
end PM
set_option Elab.async false
set_option linter.all false
set_option maxRecDepth 100000
set_option maxHeartbeats 1000000
/-! PM: statements. -/
namespace PM
open PySem PySem.Spec PyProof.Rows L2
variable [Cur]
def sAt (K : PySem.W.Frag) (W : WX) (x : Res (Flow × Fr)) (D : Ends) (ρ : Fr) (F : Ad) (σ : L2.St) (H : Hp) : Prop := match x with
  | .ok (fl, ρ') => (match fl with
    | .next => ∀ σ' F' H', Sim K F' H' ρ' σ' → Stp ρ σ F H ρ' σ' F' H' → D.nx σ' H'
    | .brk => ∀ σ' F' H', Sim K F' H' ρ' σ' → Stp ρ σ F H ρ' σ' F' H' → D.bk σ' H'
    | .cnt => ∀ σ' F' H', Sim K F' H' ρ' σ' → Stp ρ σ F H ρ' σ' F' H' → D.ct σ' H'
    | .ret s => ∀ v σ' F' H', Sim K F' H' ρ' σ' → Stp ρ σ F H ρ' σ' F' H' → VOk K F' H' v s → (∀ o a, s = .own o → v = .ref a → ¬ Mu ρ' σ' a ∧ (H a = none ∨ Mu ρ σ a)) → D.rt v H')
  | .exc c => excW K W c ρ σ H
  | .stuck => False
def sG (K : PySem.W.Frag) (W : WX) (m : Fr → Res (Flow × Fr)) : TS := fun D σ H => ∃ F ρ, Sim K F H ρ σ ∧ sAt K W (m ρ) D ρ F σ H
section
variable {K : PySem.W.Frag} {W : WX} {F F1 : Ad} {H H1 : Hp} {ρ ρ1 : Fr} {σ σ1 : L2.St} {D D' : Ends} {x : Res (Flow × Fr)}
theorem excW.back2 {c : Str} (st : Stp ρ σ F H ρ1 σ1 F1 H1) (hl : ρ1.length = ρ.length) (h : excW K W c ρ σ H) : excW K W c ρ1 σ1 H1 := fun σ' H' e k => h σ' H' (e.trans hl) fun a o ha hn => by
  refine k a o (st.kept a o ha hn) fun hm => ?_
  rcases st.mu a hm with z | z
  · rw [ha] at z; cases z
  · exact hn z
theorem sAt.base (st : Stp ρ σ F H ρ1 σ1 F1 H1) (h : sAt K W x D ρ F σ H) : sAt K W x D ρ1 F1 σ1 H1 := by
  cases x with
  | ok r =>
    obtain ⟨fl, ρ'⟩ := r
    cases fl with
    | next => exact fun σ' F' H' s t => h σ' F' H' s (st.trans t)
    | brk => exact fun σ' F' H' s t => h σ' F' H' s (st.trans t)
    | cnt => exact fun σ' F' H' s t => h σ' F' H' s (st.trans t)
    | ret sl => exact fun v σ' F' H' s t r ho => h v σ' F' H' s (st.trans t) r fun o a e1 e2 => ⟨(ho o a e1 e2).1, (ho o a e1 e2).2.elim st.back (st.mu a)⟩
  | exc c => exact excW.back2 st st.len h
  | stuck => exact h
/-- an expression, then the rest -/
theorem rdAt.thenS {α τ : Type} {x : Res (α × Fr)} {R : RR α τ} {f : α × Fr → Res (Flow × Fr)} (sim : Sim K F H ρ σ) (h : sAt K W (x.bind f) D ρ F σ H) :
    rdAt K W x R ρ F σ H fun v H1 => ∃ (F1 : Ad) (ρ1 : Fr) (r : α), Sim K F1 H1 ρ1 σ ∧ Stp ρ σ F H ρ1 σ F1 H1 ∧ R ρ σ H ρ1 F1 H1 r v ∧ sAt K W (f (r, ρ1)) D ρ F σ H := by
  cases x with
  | ok r => exact fun v F1 H1 s1 st r1 => ⟨F1, r.2, r.1, s1, st, r1, h⟩
  | exc c => exact h
  | stuck => exact h
theorem sAt.of {α : Type} {x : Option α} {f : α → Res (Flow × Fr)} (h : sAt K W ((Res.of x).bind f) D ρ F σ H) : ∃ a, x = some a ∧ sAt K W (f a) D ρ F σ H := by
  cases x with
  | none => exact h.elim
  | some a => exact ⟨a, rfl, h⟩
theorem sAt.next (h : sAt K W (.ok (.next, ρ1)) D ρ F σ H) (sim : Sim K F1 H1 ρ1 σ1) (st : Stp ρ σ F H ρ1 σ1 F1 H1) : D.nx σ1 H1 := h σ1 F1 H1 sim st
end
theorem PS.imp {X : Cx} {s : Stmt} {t t' : TS} (h : PS X s t) (k : ∀ D σ H, t' D σ H → t D σ H) : PS X s t' := ⟨fun pins s σ H D I q => h.run pins s σ H D I (k D σ H q)⟩
theorem PSs.imp {X : Cx} {s : List Stmt} {t t' : TS} (h : PSs X s t) (k : ∀ D σ H, t' D σ H → t D σ H) : PSs X s t' := ⟨fun pins s σ H D I q => h.run pins s σ H D I (k D σ H q)⟩
abbrev SOk (X : Cx) (Γ : Ctx) (W : WX) (s : Stmt) (s' : S) : Prop := PS X s (sG X.K W (ex Γ s'))
abbrev SsOk (X : Cx) (Γ : Ctx) (W : WX) (s : List Stmt) (s' : List S) : Prop := PSs X s (sG X.K W (exB Γ s'))
section
variable {X : Cx} {Γ : Ctx} {W : WX} {e o c : Expr} {e' o' c' : E} {st : Stmt} {s' : S} {ss ta tb : List Stmt} {ss' a' b' : List S} {pos p : Pos} {x f : Str} {i : Nat} {tg : Expr} {t : T}
/-! ### blocks -/
theorem sok_nil : SsOk X Γ W [] [] := PSs.imp pss_nil fun D σ H ⟨F, ρ, sim, q⟩ => sAt.next q sim .refl
theorem sok_cons (h1 : SOk X Γ W st s') (h2 : SsOk X Γ W ss ss') : SsOk X Γ W (st :: ss) (s' :: ss') :=
  PSs.imp (pss_cons h1 h2) fun D σ H ⟨F, ρ, sim, q⟩ => ⟨F, ρ, sim, by
    have q : sAt X.K W (seqR (ex Γ s' ρ) (exB Γ ss')) D ρ F σ H := q
    revert q
    cases ex Γ s' ρ with
    | ok r =>
      obtain ⟨fl, ρ'⟩ := r
      cases fl with
      | next => exact fun q σ1 F1 H1 s1 st1 => ⟨F1, ρ', s1, sAt.base st1 q⟩
      | brk => exact fun q => q
      | cnt => exact fun q => q
      | ret _ => exact fun q => q
    | exc c => exact fun q => q
    | stuck => exact fun q => q⟩
theorem sok_pass : SOk X Γ W (.Pass pos) .pass := PS.imp ps_pass fun D σ H ⟨F, ρ, sim, q⟩ => sAt.next q sim .refl
theorem sok_brk : SOk X Γ W (.Break pos) .brk := PS.imp ps_break fun D σ H ⟨F, ρ, sim, q⟩ => (show ∀ σ' F' H', Sim X.K F' H' ρ σ' → Stp ρ σ F H ρ σ' F' H' → D.bk σ' H' from q) σ F H sim .refl
theorem sok_cnt : SOk X Γ W (.Continue pos) .cnt := PS.imp ps_continue fun D σ H ⟨F, ρ, sim, q⟩ => (show ∀ σ' F' H', Sim X.K F' H' ρ σ' → Stp ρ σ F H ρ σ' F' H' → D.ct σ' H' from q) σ F H sim .refl
theorem sok_doc {j : Nat} {y : Str} : SOk X Γ W (.Expr (.Constant (.str y) j p) pos) .pass := PS.imp ps_doc fun D σ H ⟨F, ρ, sim, q⟩ => sAt.next q sim .refl
theorem sok_expr (he : Ok X Γ W e e') (hs : swapsWith e none pos.line X.env = pure false) : SOk X Γ W (.Expr e pos) (.expr e') :=
  PS.imp (ps_expr he.v hs) fun D σ H ⟨F, ρ, sim, q⟩ => ⟨F, ρ, sim, (rdAt.thenS (R := VR X.K) sim (show sAt X.K W (((dn Γ e').v ρ).bind fun x => .ok (.next, x.2)) D ρ F σ H from q)).mono fun v H1 ⟨F1, ρ1, r, s1, st1, r1, q1⟩ => sAt.next q1 s1 st1⟩
/-- return e, no name -/
theorem sok_ret (he : Ok X Γ W e e') (hv : (dn Γ e').vr = none) : SOk X Γ W (.Return (some e) pos) (.ret e') :=
  PS.imp (ps_ret he.v) fun D σ H ⟨F, ρ, sim, q⟩ => ⟨F, ρ, sim, by
    have e0 : retV (dn Γ e') ρ = (dn Γ e').v ρ := by unfold retV; rw [hv]
    have q : sAt X.K W ((retV (dn Γ e') ρ).bind fun x => .ok (.ret x.1, x.2)) D ρ F σ H := q
    rw [e0] at q
    exact (rdAt.thenS (R := VR X.K) sim q).mono fun v H1 ⟨F1, ρ1, r, s1, st1, r1, q1⟩ => (show ∀ v σ' F' H', Sim X.K F' H' ρ1 σ' → Stp ρ σ F H ρ1 σ' F' H' → VOk X.K F' H' v r → (∀ o a, r = .own o → v = .ref a → ¬ Mu ρ1 σ' a ∧ (H a = none ∨ Mu ρ σ a)) → D.rt v H' from q1) v σ F1 H1 s1 st1 r1.1 r1.2⟩
theorem sok_retN : SOk X Γ W (.Return none pos) (.ret (.cst .none)) :=
  PS.imp ps_retN fun D σ H ⟨F, ρ, sim, q⟩ => (show ∀ v σ' F' H', Sim X.K F' H' ρ σ' → Stp ρ σ F H ρ σ' F' H' → VOk X.K F' H' v (.val .none) → (∀ o a, Slot.val .none = .own o → v = .ref a → ¬ Mu ρ σ' a ∧ (H a = none ∨ Mu ρ σ a)) → D.rt v H' from q) .non σ F H sim .refl (show Rp X.K F H .non .none from .non) fun o a z => by cases z
/-- an own object leaves its place -/
theorem Sim.leave {K : PySem.W.Frag} {F : Ad} {H : Hp} {ρ : Fr} {σ : L2.St} {i : Nat} {o : MO} {a : Addr} (sim : Sim K F H ρ σ) (e : ρ[i]? = some (.own o)) (ea : σ[i]? = some (some (.ref a))) :
    Sim K F H (ρ.set i .no) σ ∧ Stp ρ σ F H (ρ.set i .no) σ F H ∧ ¬ Mu (ρ.set i .no) σ a ∧ VOk K F H (.ref a) (.own o) ∧ Mu ρ σ a := by
  have hi : i < ρ.length := (List.getElem?_eq_some_iff.mp e).1
  have hma : MAt ρ σ i a := ⟨⟨_, o, e, rfl⟩, ea⟩
  have q := sim.ok i _ e
  rw [ea] at q
  obtain ⟨b, eb, hn, hm⟩ := q
  cases eb
  refine ⟨⟨by rw [List.length_set]; exact sim.len, fun j s ej => ?_, fun x y b h1 h2 => sim.apart x y b (MAt.set rfl h1).1 (MAt.set rfl h2).1, sim.fok⟩, ⟨fun _ h => h, fun _ h => .inl h, fun _ _ h _ => h, fun b ⟨j, h⟩ => .inr ⟨j, (MAt.set rfl h).1⟩, fun j o' ej => ⟨⟨o', ?_⟩, rfl⟩, List.length_set⟩, fun ⟨j, h⟩ => ?_, ⟨a, rfl, hn, hm⟩, i, hma⟩
  · by_cases hj : j = i
    · subst hj
      rw [List.getElem?_set_self hi] at ej
      cases ej
      trivial
    · rw [List.getElem?_set_ne (Ne.symm hj)] at ej
      exact sim.ok j s ej
  · rw [List.getElem?_set_ne (fun z => by subst z; rw [e] at ej; cases ej)]
    exact ej
  · obtain ⟨h1, h2⟩ := MAt.set rfl h
    exact h2 (sim.apart j i a h1 hma)
theorem sok_retv {y : Str} (hN : X.N[i]? = some y) (hv : Vis X.env.scope y) (hd : (y == ("__debug__" : Str)) = false) (hcd : (y == ("__classdict__" : Str)) = false) : SOk X Γ W (.Return (some (.Name y p)) pos) (.ret (.var i)) := by
  refine ⟨fun pins s σ H D I ⟨F, ρ, sim, q⟩ => ?_⟩
  have q : sAt X.K W ((retV (dn Γ (.var i)) ρ).bind fun x => .ok (.ret x.1, x.2)) D ρ F σ H := q
  have e0 : retV (dn Γ (.var i)) ρ = (match ρ[i]? with
    | some (.own o) => Res.ok (.own o, ρ.set i .no)
    | _ => (dn Γ (.var i)).v ρ) := rfl
  cases he : ρ[i]? with
  | some sl =>
    cases sl with
    | own o =>
      have e1 : retV (dn Γ (.var i)) ρ = .ok (.own o, ρ.set i .no) := by rw [e0, he]
      rw [e1] at q
      obtain ⟨v, ev, hk⟩ := sim.get he (by intro z; cases z)
      obtain ⟨a, ea, _⟩ := hk
      cases ea
      obtain ⟨s1, st, hnm, hv1, hm⟩ := sim.leave he ev
      exact (ps_ret (pe_var hN hv hd hcd)).run pins s σ H D I ⟨_, ev, (show ∀ v σ' F' H', Sim X.K F' H' (ρ.set i .no) σ' → Stp ρ σ F H (ρ.set i .no) σ' F' H' → VOk X.K F' H' v (.own o) → (∀ o' a, Slot.own o = .own o' → v = .ref a → ¬ Mu (ρ.set i .no) σ' a ∧ (H a = none ∨ Mu ρ σ a)) → D.rt v H' from q) _ σ F H s1 st hv1 fun o' a' _ e2 => by
        cases e2
        exact ⟨hnm, .inr hm⟩⟩
    | no =>
      have e1 : retV (dn Γ (.var i)) ρ = (dn Γ (.var i)).v ρ := by rw [e0, he]
      rw [e1] at q
      exact (ps_ret (ok_var hN hv hd hcd).v).run pins s σ H D I ⟨F, ρ, sim, (rdAt.thenS (R := VR X.K) sim q).mono fun v H1 ⟨F1, ρ1, r, s1, st1, r1, q1⟩ => q1 v σ F1 H1 s1 st1 r1.1 r1.2⟩
    | val _ =>
      have e1 : retV (dn Γ (.var i)) ρ = (dn Γ (.var i)).v ρ := by rw [e0, he]
      rw [e1] at q
      exact (ps_ret (ok_var hN hv hd hcd).v).run pins s σ H D I ⟨F, ρ, sim, (rdAt.thenS (R := VR X.K) sim q).mono fun v H1 ⟨F1, ρ1, r, s1, st1, r1, q1⟩ => q1 v σ F1 H1 s1 st1 r1.1 r1.2⟩
    | ins _ _ =>
      have e1 : retV (dn Γ (.var i)) ρ = (dn Γ (.var i)).v ρ := by rw [e0, he]
      rw [e1] at q
      exact (ps_ret (ok_var hN hv hd hcd).v).run pins s σ H D I ⟨F, ρ, sim, (rdAt.thenS (R := VR X.K) sim q).mono fun v H1 ⟨F1, ρ1, r, s1, st1, r1, q1⟩ => q1 v σ F1 H1 s1 st1 r1.1 r1.2⟩
    | brw _ =>
      have e1 : retV (dn Γ (.var i)) ρ = (dn Γ (.var i)).v ρ := by rw [e0, he]
      rw [e1] at q
      exact (ps_ret (ok_var hN hv hd hcd).v).run pins s σ H D I ⟨F, ρ, sim, (rdAt.thenS (R := VR X.K) sim q).mono fun v H1 ⟨F1, ρ1, r, s1, st1, r1, q1⟩ => q1 v σ F1 H1 s1 st1 r1.1 r1.2⟩
  | none =>
    have e1 : retV (dn Γ (.var i)) ρ = (dn Γ (.var i)).v ρ := by rw [e0, he]
    rw [e1] at q
    exact (ps_ret (ok_var hN hv hd hcd).v).run pins s σ H D I ⟨F, ρ, sim, (rdAt.thenS (R := VR X.K) sim q).mono fun v H1 ⟨F1, ρ1, r, s1, st1, r1, q1⟩ => q1 v σ F1 H1 s1 st1 r1.1 r1.2⟩
theorem sok_ite (hc : Ok X Γ W c c') (ha : SsOk X Γ W ta a') (hb : SsOk X Γ W tb b') : SOk X Γ W (.If c ta tb pos) (.ite c' a' b') :=
  PS.imp (ps_if hc.t ha hb) fun D σ H ⟨F, ρ, sim, q⟩ => ⟨F, ρ, sim, (rdAt.thenS (R := BR) sim (show sAt X.K W (((dn Γ c').t ρ).bind fun x => if x.1 then exB Γ a' x.2 else exB Γ b' x.2) D ρ F σ H from q)).mono fun v H1 ⟨F1, ρ1, r, s1, st1, r1, q1⟩ => by
    have r1 : v = r := r1
    subst r1
    cases v with
    | true => exact ⟨F1, ρ1, s1, sAt.base st1 q1⟩
    | false => exact ⟨F1, ρ1, s1, sAt.base st1 q1⟩⟩

/-! ### assignments -/
/-- what a store into a name leaves -/
theorem set_of {v : V} {σ : L2.St} {H H0 : Hp} {F F0 : Ad} {ρ ρ0 : Fr} {sl : Slot} {D : Ends} (sim : Sim X.K F H ρ σ) (st : Stp ρ0 σ F0 H0 ρ σ F H) (r : VR X.K ρ0 σ H0 ρ F H sl v)
    (q : sAt X.K W ((Res.of (asgN (.name i) sl ρ)).bind fun r => .ok (.next, r)) D ρ0 F0 σ H0) : D.nx (σ.set i (some v)) H := by
  obtain ⟨ρ', e, q⟩ := q.of
  have e : (match ρ[i]? with
    | some (.brw _) => none
    | some _ => some (ρ.set i sl)
    | none => none) = some ρ' := e
  split at e
  · cases e
  · rename_i s0 hs e0
    cases e
    obtain ⟨s1, st1⟩ := sim.store st e0 hs r.1 (fun o a e1 e2 => r.2 o a e1 e2)
    exact sAt.next q s1 st1
  · cases e
theorem sok_set {y : Str} {p2 : Pos} (hN : X.N.Nodup) (hi : X.N[i]? = some y) (hx : Loc X.env.scope y) (he : Ok X Γ W e e') (hs : swapsWith e (some (.Name y p2)) pos.line X.env = pure false) (hf : X.fn y = true ∨ X.env.scope.names.lookup y = some .local) :
    SOk X Γ W (.Assign [.Name y p2] e pos) (.asg (.name i) e') :=
  PS.imp (ps_set hN hi hx he.v hs hf) fun D σ H ⟨F, ρ, sim, q⟩ => ⟨F, ρ, sim, (rdAt.thenS (R := VR X.K) sim (show sAt X.K W (((dn Γ e').v ρ).bind fun x => (Res.of (asgN (.name i) x.1 x.2)).bind fun r => .ok (.next, r)) D ρ F σ H from q)).mono fun v H1 ⟨F1, ρ1, r, s1, st1, r1, q1⟩ => set_of s1 st1 r1 q1⟩
/-- (a, b) = e -/
theorem sok_asgT {ts : List T} (he : Ok X Γ W e e') (hg : PG X tg (gG X.K (.tup ts))) (hs : swapsWithSole [tg] e pos.line X.env = pure false) (hw : swappedStores [tg] e X.env = pure none) (h1 : (assignEach [tg] X.env).map (·.2) = [assign tg X.env]) :
    SOk X Γ W (.Assign [tg] e pos) (.asg (.tup ts) e') :=
  PS.imp (ps_asg he.v hg hs hw h1) fun D σ H ⟨F, ρ, sim, q⟩ => ⟨F, ρ, sim, (rdAt.thenS (R := VR X.K) sim (show sAt X.K W (((dn Γ e').v ρ).bind fun x => (Res.of (asgN (.tup ts) x.1 x.2)).bind fun r => .ok (.next, r)) D ρ F σ H from q)).mono fun v H1 ⟨F1, ρ1, r, s1, st1, r1, q1⟩ => by
    obtain ⟨ρ', e, q2⟩ := q1.of
    clear q1
    have e : (r.toD.bind fun d => asgT (.tup ts) d ρ1) = some ρ' := e
    obtain ⟨d, ed, et⟩ := Option.bind_eq_some_iff.mp e
    cases r with
    | val d' =>
      cases ed
      exact ⟨F1, ρ1, d, ρ', s1, r1.1, et, fun σ2 s2 st2 _ => sAt.next q2 s2 (st1.trans st2)⟩
    | own o =>
      cases o with
      | lst ds => cases ed; cases et
      | dic _ => cases ed
      | set _ => cases ed
      | ins _ _ => cases ed
    | no => cases ed
    | ins _ _ => cases ed
    | brw _ => cases ed⟩
/-- name += e, ints -/
theorem sok_augN {y : Str} {p2 : Pos} (hN : X.N.Nodup) (hi : X.N[i]? = some y) (hx : Loc X.env.scope y) (he : Ok X Γ W e e') (hf : X.fn y = true ∨ X.env.scope.names.lookup y = some .local) :
    SOk X Γ W (.AugAssign (.Name y p2) .Add e pos) (.augN i e') :=
  PS.imp (ps_aug hN hi hx (ped_of he.v) ip_add hf) fun D σ H ⟨F, ρ, sim, q⟩ => by
    have q : sAt X.K W (match ρ[i]? with
      | some (.val (.int a)) => ((dn Γ e').d ρ).bind fun v => (match v.1 with
        | .int b => .ok (.next, v.2.set i (.val (.int (a + b))))
        | _ => .stuck)
      | _ => .stuck) D ρ F σ H := q
    split at q
    · rename_i a e0
      obtain ⟨v, ev, hk⟩ := sim.get e0 (by intro z; cases z)
      obtain ⟨v', e1, r⟩ := hk
      cases e1
      cases r
      refine ⟨_, ev, F, ρ, sim, (rdAt.thenS (R := DR X.K) sim q).mono fun u H1 ⟨F1, ρ1, d, s1, st1, r1, q1⟩ => ?_⟩
      cases d with
      | int b =>
        cases r1
        refine ⟨a, b, rfl, rfl, ?_⟩
        have q1 : sAt X.K W (.ok (.next, ρ1.set i (.val (.int (a + b))))) D ρ F σ H := q1
        have hl : i < ρ1.length := by rw [st1.len]; exact (List.getElem?_eq_some_iff.mp e0).1
        have hb : ∀ o, ρ1[i] ≠ .brw o := fun o z => by
          have q := s1.ok i _ (List.getElem?_eq_getElem hl)
          rw [z, ev] at q
          obtain ⟨a, e, _⟩ := q
          cases e
        obtain ⟨s2, st2⟩ := s1.store st1 (List.getElem?_eq_getElem hl) hb (show VOk X.K F1 H1 (.int (a + b)) (.val (.int (a + b))) from .int _) (fun o a e => by cases e)
        exact sAt.next q1 s2 st2
      | none => exact q1.elim
      | bool _ => exact q1.elim
      | str _ => exact q1.elim
      | list _ => exact q1.elim
      | tuple _ => exact q1.elim
      | dict _ => exact q1.elim
    · exact q.elim
/-! ### writes into objects -/
theorem mo_ok {K : PySem.W.Frag} {F : Ad} {H : Hp} {ρ : Fr} {σ : L2.St} {i : Nat} {a : Addr} {o : MO} (sim : Sim K F H ρ σ) (hma : MAt ρ σ i a) (eo : (ρ[i]?).bind Slot.mo = some o) : MoOk K F H a o := by
  obtain ⟨⟨s, u, e, mm⟩, e2⟩ := hma
  rw [e] at eo
  have hk := sim.ok i s e
  rw [e2] at hk
  cases s with
  | own _ => cases eo; obtain ⟨b, eb, h1, h2⟩ := hk; cases eb; exact h2
  | brw _ => cases eo; obtain ⟨b, eb, h1, h2⟩ := hk; cases eb; exact h2
  | no => cases mm
  | val _ => cases mm
  | ins _ _ => cases mm
theorem put_upd {K : PySem.W.Frag} {F : Ad} {H : Hp} {ρ : Fr} {σ : L2.St} {i : Nat} {a : Addr} {u : HO} {o' : MO} (sim : Sim K F H ρ σ) (hi : MAt ρ σ i a) (ho : Grow F F H (upd H a u) → MoOk K F (upd H a u) a o') :
    Sim K F (upd H a u) (Fr.put ρ i o') σ ∧ Stp ρ σ F H (Fr.put ρ i o') σ F (upd H a u) := by
  have hna : ¬ F a := sim.nf ⟨i, hi⟩
  have g : Grow F F H (upd H a u) := ⟨fun _ h => h, fun b w hb e => by rw [upd_ne fun z => hna (by rw [← z]; exact hb)]; exact e⟩
  exact sim.put (F' := F) (H' := upd H a u) hi (fun _ h => h) (fun _ h => .inl h) (fun b w e hn => by rw [upd_ne hn]; exact e) (fun b hb => by rw [upd_ne fun z => hna (by rw [← z]; exact hb)]; exact sim.fok b hb) (ho g)
theorem FdA.len {K : PySem.W.Frag} {F : Ad} {H : Hp} : ∀ {vs : List (Str × V)} {fs : List (Str × PyData)}, FdA K F H vs fs → vs.length = fs.length
  | _, _, .nil => rfl
  | _, _, .cons _ t => congrArg (· + 1) t.len
theorem FdA.put {K : PySem.W.Frag} {F : Ad} {H : Hp} {f : Str} {v : V} {d : PyData} (h : Rp K F H v d) : ∀ {vs : List (Str × V)} {fs : List (Str × PyData)}, FdA K F H vs fs → FdA K F H (putF f v vs) (putFd f d fs)
  | _, _, .nil => .cons h .nil
  | _, _, .cons (f := g) h1 t => by
    unfold putF putFd
    by_cases c : g = f
    · rw [if_pos c, if_pos c]
      exact .cons h t
    · rw [if_neg c, if_neg c]
      exact .cons h1 (FdA.put h t)
/-- o[i] = e, a list -/
theorem sok_asgS {b : Expr} {b' : E} {p2 : Pos} (ho : Ok X Γ W o o') (hb : Ok X Γ W b b') (he : Ok X Γ W e e') (ha : ∀ v, assign (.Subscript o b p2) X.env v = (do
      let ov ← holding [v] (eval o X.env)
      let iv ← holding [v, ov] (eval b X.env)
      standAt p2
      holding [v, ov, iv] (setItem ov iv v)
      release [v, ov, iv] [])) (hs : swapsWithSole [.Subscript o b p2] e pos.line X.env = pure false) (hw : swappedStores [.Subscript o b p2] e X.env = pure none) (h1 : (assignEach [.Subscript o b p2] X.env).map (·.2) = [assign (.Subscript o b p2) X.env]) :
    SOk X Γ W (.Assign [.Subscript o b p2] e pos) (.asgS o' b' e') :=
  PS.imp (ps_asg (ped_of he.v) (pg_sub ho.p (ped_of hb.v) set_list ha) hs hw h1) fun D σ H ⟨F, ρ, sim, q⟩ => ⟨F, ρ, sim, by
    refine (rdAt.thenS (R := DR X.K) sim (show sAt X.K W (((dn Γ e').d ρ).bind fun v => ((dn Γ o').p v.2).bind fun w => ((dn Γ b').d w.2).bind fun j => match w.1 with
    | .slot k => (match (j.2[k]?).bind Slot.mo with
      | some o => (Res.of (setI o j.1 v.1)).bind fun o' => .ok (.next, Fr.put j.2 k o')
      | none => .stuck)
    | .tmp _ => .stuck) D ρ F σ H from q)).mono fun v H1 ⟨F1, ρ1, d, s1, st1, r1, q1⟩ => ⟨F1, ρ1, s1, ?_⟩
    refine (rdAt.thenS (R := PR X.K) s1 (sAt.base st1 q1)).mono fun w H2 ⟨F2, ρ2, pl, s2, st2, r2, q2⟩ => ⟨F2, ρ2, s2, ?_⟩
    refine (rdAt.thenS (R := DR X.K) s2 (sAt.base st2 q2)).mono fun iv H3 ⟨F3, ρ3, j, s3, st3, r3, q3⟩ => ?_
    have r1 : Rp X.K F1 H1 v d := r1
    have r3 : Rp X.K F3 H3 iv j := r3
    have rv := (r1.mono (st2.grow s1)).mono (st3.grow s2)
    cases pl with
    | tmp _ => exact q3.elim
    | slot k =>
      have h2 : σ[k]? = some (some w) := r2
      have q3 : sAt X.K W (match (ρ3[k]?).bind Slot.mo with
        | some o => (Res.of (setI o j d)).bind fun o' => .ok (.next, Fr.put ρ3 k o')
        | none => .stuck) D ρ2 F2 σ H2 := q3
      split at q3
      · rename_i o1 eo
        obtain ⟨a, hma⟩ := mat_of s3 eo
        cases hma.addr h2
        have hm := mo_ok s3 hma eo
        obtain ⟨o2, e2, q4⟩ := q3.of
        cases o1 with
        | lst ds =>
          cases j with
          | int i =>
            obtain ⟨n, en, rfl⟩ := Option.map_eq_some_iff.mp (show (L2.ixN ds.length i).map (fun n => MO.lst (ds.set n d)) = some o2 from e2)
            obtain ⟨xs, hx, rx⟩ := hm
            cases r3
            obtain ⟨s4, st4⟩ := put_upd (u := .lst (xs.set n v)) (o' := .lst (ds.set n d)) s3 hma fun g => ⟨_, upd_same, (rx.set n rv).mono g⟩
            exact ⟨a, xs, i, n, rfl, rfl, hx, by rw [rx.len]; exact en, sAt.next q4 s4 (st3.trans st4)⟩
          | none => cases e2
          | bool _ => cases e2
          | str _ => cases e2
          | list _ => cases e2
          | tuple _ => cases e2
          | dict _ => cases e2
        | dic _ => exact hm.elim
        | set _ => cases e2
        | ins _ _ => cases e2
      · exact q3.elim⟩
/-- o.f = e -/
theorem sok_asgF {p2 : Pos} (ff : FldF X Γ f) (ho : Ok X Γ W o o') (he : Ok X Γ W e e') (hs : swapsWith e (some (.Attribute o f p2)) pos.line X.env = pure false) : SOk X Γ W (.Assign [.Attribute o f p2] e pos) (.asgF o' f e') :=
  PS.imp (ps_fld ho.p (ped_of he.v) hs) fun D σ H ⟨F, ρ, sim, q⟩ => ⟨F, ρ, sim, by
    refine (rdAt.thenS (R := DR X.K) sim (show sAt X.K W (((dn Γ e').d ρ).bind fun v => ((dn Γ o').p v.2).bind fun w => match w.1 with
    | .slot k => (match (w.2[k]?).bind Slot.mo with
      | some (.ins c fs) => if Γ.cls c = true ∧ fs.length < 100 then .ok (.next, Fr.put w.2 k (.ins c (putFd f v.1 fs))) else .stuck
      | _ => .stuck)
    | .tmp _ => .stuck) D ρ F σ H from q)).mono fun v H1 ⟨F1, ρ1, d, s1, st1, r1, q1⟩ => ⟨F1, ρ1, s1, ?_⟩
    refine (rdAt.thenS (R := PR X.K) s1 (sAt.base st1 q1)).mono fun w H2 ⟨F2, ρ2, pl, s2, st2, r2, q2⟩ => ?_
    have r1 : Rp X.K F1 H1 v d := r1
    have rv := r1.mono (st2.grow s1)
    cases pl with
    | tmp _ => exact q2.elim
    | slot k =>
      have h2 : σ[k]? = some (some w) := r2
      have q3 : sAt X.K W (match (ρ2[k]?).bind Slot.mo with
        | some (.ins c fs) => if Γ.cls c = true ∧ fs.length < 100 then Res.ok (Flow.next, Fr.put ρ2 k (.ins c (putFd f d fs))) else .stuck
        | _ => .stuck) D ρ1 F1 σ H1 := q2
      clear q2
      split at q3
      · rename_i c fs eo
        obtain ⟨a, hma⟩ := mat_of s2 eo
        cases hma.addr h2
        obtain ⟨dx, vfs, hx, rx⟩ := mo_ok s2 hma eo
        split at q3
        · rename_i hc
          obtain ⟨s4, st4⟩ := put_upd (u := .ins (He.ga X.K c) dx (putF f v vfs)) (o' := .ins c (putFd f d fs)) s2 hma fun g => ⟨dx, _, upd_same, (rx.put rv).mono g⟩
          exact ⟨a, _, dx, vfs, rfl, hx, ff.cl c hc.1, ff.no c hc.1, by have h := hc.2; rw [rx.len]; omega, sAt.next q3 s4 (st2.trans st4)⟩
        · exact q3.elim
      · exact q3.elim⟩
/-- o.f += e, ints -/
theorem sok_augF {p2 : Pos} (ff : FldF X Γ f) (ho : Ok X Γ W o o') (he : Ok X Γ W e e') : SOk X Γ W (.AugAssign (.Attribute o f p2) .Add e pos) (.augF o' f e') :=
  PS.imp (ps_fldaug ho.p (ped_of he.v) in_add) fun D σ H ⟨F, ρ, sim, q⟩ => ⟨F, ρ, sim, by
    refine (rdAt.thenS (R := PR X.K) sim (show sAt X.K W (((dn Γ o').p ρ).bind fun w => match w.1 with
    | .slot k => (match (w.2[k]?).bind Slot.mo with
      | some (.ins c fs) => (match (if Γ.cls c then fs.lookup f else none) with
        | some (.int a) => ((dn Γ e').d w.2).bind fun v => (match v.1, (v.2[k]?).bind Slot.mo with
          | .int b, some (.ins c' fs') => if c' = c ∧ fs'.length < 100 then .ok (.next, Fr.put v.2 k (.ins c' (putFd f (.int (a + b)) fs'))) else .stuck
          | _, _ => .stuck)
        | _ => .stuck)
      | _ => .stuck)
    | .tmp _ => .stuck) D ρ F σ H from q)).mono fun w H1 ⟨F1, ρ1, pl, s1, st1, r1, q1⟩ => ?_
    have q1 := sAt.base st1 q1
    cases pl with
    | tmp _ => exact q1.elim
    | slot k =>
      have h2 : σ[k]? = some (some w) := r1
      have q3 : sAt X.K W (match (ρ1[k]?).bind Slot.mo with
        | some (.ins c fs) => (match (if Γ.cls c then fs.lookup f else none) with
          | some (.int a) => ((dn Γ e').d ρ1).bind fun v => (match v.1, (v.2[k]?).bind Slot.mo with
            | .int b, some (.ins c' fs') => if c' = c ∧ fs'.length < 100 then Res.ok (Flow.next, Fr.put v.2 k (.ins c' (putFd f (.int (a + b)) fs'))) else .stuck
            | _, _ => .stuck)
          | _ => .stuck)
        | _ => .stuck) D ρ1 F1 σ H1 := q1
      clear q1
      split at q3
      · rename_i c fs eo
        obtain ⟨a, hma⟩ := mat_of s1 eo
        cases hma.addr h2
        obtain ⟨dx, vfs, hx, rx⟩ := mo_ok s1 hma eo
        split at q3
        · rename_i n hl
          split at hl
          · rename_i hc
            obtain ⟨u, hu, ru⟩ := fd_get rx hl
            cases ru
            refine ⟨a, _, dx, vfs, _, rfl, hx, ff.cl c hc, ff.no c hc, hu, F1, ρ1, s1, ?_⟩
            refine (rdAt.thenS (R := DR X.K) s1 q3).mono fun v H2 ⟨F2, ρ2, d, s2, st2, r20, q2⟩ => ?_
            have r2 : Rp X.K F2 H2 v d := r20
            clear r20
            have q4 : sAt X.K W (match (generalizing := false) d, (ρ2[k]?).bind Slot.mo with
              | .int b, some (.ins c' fs') => if c' = c ∧ fs'.length < 100 then Res.ok (Flow.next, Fr.put ρ2 k (.ins c' (putFd f (.int (n + b)) fs'))) else .stuck
              | _, _ => .stuck) D ρ1 F1 σ H1 := q2
            clear q2
            split at q4
            · rename_i b c' fs' eo2
              split at q4
              · rename_i hcc
                obtain ⟨rfl, hl2⟩ := hcc
                cases r2
                obtain ⟨a2, hma2⟩ := mat_of s2 eo2
                cases hma2.addr h2
                obtain ⟨dx2, vfs2, hx2, rx2⟩ := mo_ok s2 hma2 eo2
                obtain ⟨s4, st4⟩ := put_upd (u := .ins (He.ga X.K c') dx2 (putF f (.int (n + b)) vfs2)) (o' := .ins c' (putFd f (.int (n + b)) fs')) s2 hma2 fun g => ⟨dx2, _, upd_same, (rx2.put (.int _)).mono g⟩
                exact ⟨n, b, rfl, rfl, dx2, vfs2, hx2, by rw [rx2.len]; omega, sAt.next q4 s4 (st2.trans st4)⟩
              · exact q4.elim
            · exact q4.elim
          · cases hl
        · exact q3.elim
      · exact q3.elim⟩
/-! ### loops -/
theorem sok_while (hp : PassesOwn (model X.prog X.w) X.A X.env X.xe) (hc : Ok X Γ W c c') (hb : SsOk X Γ W tb b') : SOk X Γ W (.While c tb [] pos) (.whl c' b') :=
  PS.imp (ps_while hp hc.t hb) fun D σ H ⟨F, ρ, sim, q⟩ => by
    have q : sAt X.K W (whlL (dn Γ c').t (exB Γ b') Γ.fuel ρ) D ρ F σ H := q
    refine ⟨fun m σ H => ∃ F ρ, Sim X.K F H ρ σ ∧ sAt X.K W (whlL (dn Γ c').t (exB Γ b') m ρ) D ρ F σ H, ⟨Γ.fuel, F, ρ, sim, q⟩, ?_⟩
    rintro m σ H ⟨F, ρ, sim, q⟩
    cases m with
    | zero => exact q.elim
    | succ m =>
      refine ⟨F, ρ, sim, (rdAt.thenS (R := BR) sim (show sAt X.K W (((dn Γ c').t ρ).bind fun z => if z.1 then (exB Γ b' z.2).bind fun r => (match r.1 with
        | .next => whlL (dn Γ c').t (exB Γ b') m r.2
        | .cnt => whlL (dn Γ c').t (exB Γ b') m r.2
        | .brk => .ok (.next, r.2)
        | .ret s => .ok (.ret s, r.2)) else .ok (.next, z.2)) D ρ F σ H from q)).mono fun v H1 ⟨F1, ρ1, r, s1, st1, r1, q1⟩ => ?_⟩
      have r1 : v = r := r1
      subst r1
      cases v with
      | false => exact sAt.next q1 s1 st1
      | true =>
        refine ⟨fun σ H => ∃ F ρ, Sim X.K F H ρ σ ∧ sAt X.K W (whlL (dn Γ c').t (exB Γ b') m ρ) D ρ F σ H, fun σ' H' h => ⟨m, Nat.lt_succ_self m, h⟩, F1, ρ1, s1, ?_⟩
        have q2 : sAt X.K W ((exB Γ b' ρ1).bind fun r => (match r.1 with
          | .next => whlL (dn Γ c').t (exB Γ b') m r.2
          | .cnt => whlL (dn Γ c').t (exB Γ b') m r.2
          | .brk => .ok (.next, r.2)
          | .ret s => .ok (.ret s, r.2))) D ρ1 F1 σ H1 := sAt.base st1 q1
        revert q2
        cases exB Γ b' ρ1 with
        | ok r =>
          obtain ⟨fl, ρ'⟩ := r
          cases fl with
          | next => exact fun q σ2 F2 H2 s2 st2 => ⟨F2, ρ', s2, sAt.base st2 q⟩
          | cnt => exact fun q σ2 F2 H2 s2 st2 => ⟨F2, ρ', s2, sAt.base st2 q⟩
          | brk => exact fun q => q
          | ret _ => exact fun q => q
        | exc c => exact fun q => q
        | stuck => exact fun q => q
theorem sok_for (hp : PassesOwn (model X.prog X.w) X.A X.env X.xe) (hcl : X.calm = true) (hi : PIG X W tg e (dn Γ e')) (hg : PG X tg (gG X.K t)) (hb : SsOk X Γ W tb b') (hs : ∀ x, foldedSetIterable e X.env x = pure x) :
    SOk X Γ W (.For tg e tb [] pos) (.for_ t e' b') :=
  PS.imp (ps_for hp hcl hi hg hb hs) fun D σ H ⟨F, ρ, sim, q⟩ => ⟨F, ρ, sim, by
    refine (rdAt.thenS (R := IR X.K) sim (show sAt X.K W (((dn Γ e').it ρ).bind fun x => forL (fun d r => (Res.of (asgT t d r)).bind fun r1 => exB Γ b' r1) x.1 x.2) D ρ F σ H from q)).mono fun J H1 ⟨F1, ρ1, ds, s1, st1, r1, q1⟩ => ?_
    have wk : Walk X.K F1 H1 ds J := r1
    have q1 := sAt.base st1 q1
    refine ⟨fun i m σ H => m = ds.length - i ∧ i ≤ ds.length ∧ ∃ F ρ, Sim X.K F H ρ σ ∧ Grow F1 F H1 H ∧ sAt X.K W (forL (fun d r => (Res.of (asgT t d r)).bind fun r1 => exB Γ b' r1) (ds.drop i) ρ) D ρ F σ H, ⟨ds.length, rfl, Nat.zero_le _, F1, ρ1, s1, .refl, q1⟩, ?_⟩
    rintro i m σ H ⟨rfl, hil, F, ρ, sim, g, q⟩
    by_cases hlt : i < ds.length
    · have ed : ds.drop i = ds[i] :: ds.drop (i + 1) := (List.drop_eq_getElem_cons hlt)
      rw [ed] at q
      have q : sAt X.K W (((Res.of (asgT t ds[i] ρ)).bind fun r1 => exB Γ b' r1).bind fun r => match r.1 with
        | .next => forL (fun d r => (Res.of (asgT t d r)).bind fun r1 => exB Γ b' r1) (ds.drop (i + 1)) r.2
        | .cnt => forL (fun d r => (Res.of (asgT t d r)).bind fun r1 => exB Γ b' r1) (ds.drop (i + 1)) r.2
        | .brk => .ok (.next, r.2)
        | .ret s => .ok (.ret s, r.2)) D ρ F σ H := q
      refine .inr ⟨wk.go i F H g hlt, fun σ H => ∃ F ρ, Sim X.K F H ρ σ ∧ Grow F1 F H1 H ∧ sAt X.K W (forL (fun d r => (Res.of (asgT t d r)).bind fun r1 => exB Γ b' r1) (ds.drop (i + 1)) ρ) D ρ F σ H,
        fun σ' H' h => ⟨ds.length - (i + 1), by omega, rfl, hlt, h⟩, fun x H' hy => ?_⟩
      obtain ⟨F2, sub, new, kept, fok, rx⟩ := wk.yld i F H x H' ds[i] g sim.fok (List.getElem?_eq_getElem hlt) hy
      obtain ⟨s2, st2⟩ := sim.stay sub new kept fok
      have q2 := sAt.base st2 q
      cases ea : asgT t ds[i] ρ with
      | none => rw [ea] at q2; exact q2.elim
      | some ρ' =>
        rw [ea] at q2
        refine ⟨F2, ρ, ds[i], ρ', s2, rx, ea, fun σ3 s3 st3 _ => ⟨F2, ρ', s3, ?_⟩⟩
        have g2 : Grow F1 F2 H1 H' := (g.trans (st2.grow sim)).trans (st3.grow s2)
        have q3 : sAt X.K W ((exB Γ b' ρ').bind fun r => match r.1 with
          | .next => forL (fun d r => (Res.of (asgT t d r)).bind fun r1 => exB Γ b' r1) (ds.drop (i + 1)) r.2
          | .cnt => forL (fun d r => (Res.of (asgT t d r)).bind fun r1 => exB Γ b' r1) (ds.drop (i + 1)) r.2
          | .brk => .ok (.next, r.2)
          | .ret s => .ok (.ret s, r.2)) D ρ' F2 σ3 H' := sAt.base st3 q2
        revert q3
        cases exB Γ b' ρ' with
        | ok r =>
          obtain ⟨fl, ρ''⟩ := r
          cases fl with
          | next => exact fun q σ4 F4 H4 s4 st4 => ⟨F4, ρ'', s4, g2.trans (st4.grow s3), sAt.base st4 q⟩
          | cnt => exact fun q σ4 F4 H4 s4 st4 => ⟨F4, ρ'', s4, g2.trans (st4.grow s3), sAt.base st4 q⟩
          | brk => exact fun q => q
          | ret _ => exact fun q => q
        | exc c => exact fun q => q
        | stuck => exact fun q => q
    · have e : i = ds.length := by omega
      subst e
      rw [List.drop_length] at q
      exact .inl ⟨wk.stop _ F H g (Nat.le_refl _), sAt.next q sim .refl⟩⟩
end
end PM
set_option Elab.async false
set_option linter.all false
set_option maxRecDepth 100000
set_option maxHeartbeats 1000000
/-! PM: comprehensions. -/
namespace PM
open PySem PySem.Spec PyProof.Rows L2
variable [Cur]
section
variable {K : PySem.W.Frag} {F F1 F' : Ad} {H H1 H' : Hp} {ρ ρ1 ρ' : Fr} {σ σ1 σ' : L2.St} {own : List Nat}
theorem plain_mo {s : Slot} (h : plainS s = true) : s.mo = none := by
  cases s with
  | own _ => cases h
  | brw _ => cases h
  | no => rfl
  | val _ => rfl
  | ins _ _ => rfl
theorem MAt.wipe1 {i j : Nat} {a : Addr} (hi : i < ρ.length) (h : MAt (ρ.set i .no) (σ.set i none) j a) : MAt ρ σ j a ∧ j ≠ i := by
  obtain ⟨⟨s, o, e, m⟩, e2⟩ := h
  by_cases hj : j = i
  · subst hj
    rw [List.getElem?_set_self hi] at e
    cases e
    cases m
  · rw [List.getElem?_set_ne (Ne.symm hj)] at e e2
    exact ⟨⟨⟨s, o, e, m⟩, e2⟩, hj⟩
/-- a place forgotten -/
theorem Sim.wipe1 {i : Nat} {s : Slot} (sim : Sim K F H ρ σ) (e : ρ[i]? = some s) (hp : plainS s = true) : Sim K F H (ρ.set i .no) (σ.set i none) ∧ Stp ρ σ F H (ρ.set i .no) (σ.set i none) F H := by
  have hi : i < ρ.length := (List.getElem?_eq_some_iff.mp e).1
  refine ⟨⟨by rw [List.length_set, List.length_set]; exact sim.len, fun j sl ej => ?_, fun x y b h1 h2 => sim.apart x y b (MAt.wipe1 hi h1).1 (MAt.wipe1 hi h2).1, sim.fok⟩, ⟨fun _ h => h, fun _ h => .inl h, fun _ _ h _ => h, fun b ⟨j, h⟩ => .inr ⟨j, (MAt.wipe1 hi h).1⟩, fun j o ej => ?_, List.length_set⟩⟩
  · by_cases hj : j = i
    · subst hj
      rw [List.getElem?_set_self hi] at ej
      cases ej
      trivial
    · rw [List.getElem?_set_ne (Ne.symm hj)] at ej ⊢
      exact sim.ok j sl ej
  · have hj : i ≠ j := fun z => by
      subst z
      rw [e] at ej
      cases ej
      cases hp
    rw [List.getElem?_set_ne hj, List.getElem?_set_ne hj]
    exact ⟨⟨o, ej⟩, rfl⟩
theorem Sim.wipeAll : ∀ {own : List Nat} {ρ' : Fr}, Sim K F H ρ σ → wipeF ρ own = some ρ' → Sim K F H ρ' (wipe σ own) ∧ Stp ρ σ F H ρ' (wipe σ own) F H
  | [], ρ', sim, e => by
    cases e
    exact ⟨sim, .refl⟩
  | i :: r, ρ', sim, e => by
    obtain ⟨ρ1, e1, e2⟩ := Option.bind_eq_some_iff.mp e
    obtain ⟨s1, st1⟩ := Sim.wipeAll (own := r) sim e1
    split at e2
    · rename_i s es
      split at e2
      · rename_i hp
        cases e2
        obtain ⟨s2, st2⟩ := s1.wipe1 es hp
        exact ⟨s2, st1.trans st2⟩
      · cases e2
    · cases e2
theorem wipe_at {own : List Nat} {j : Nat} (h : j ∉ own) : (wipe σ own)[j]? = σ[j]? := by
  induction own with
  | nil => rfl
  | cons v vs ih =>
    rw [List.mem_cons, not_or] at h
    unfold wipe
    rw [List.getElem?_set_ne (Ne.symm h.1)]
    exact ih h.2
theorem wipe_in {own : List Nat} {j : Nat} (h : j ∈ own) (hl : j < σ.length) : (wipe σ own)[j]? = some none := by
  induction own with
  | nil => cases h
  | cons v vs ih =>
    unfold wipe
    by_cases e : v = j
    · subst e
      rw [List.getElem?_set_self (by rw [wipe_length]; exact hl)]
    · rw [List.getElem?_set_ne e]
      rcases List.mem_cons.mp h with z | z
      · exact absurd z.symm e
      · exact ih z
theorem wipe_eq {own : List Nat} (hl : σ1.length = σ.length) (h : ∀ j, j ∉ own → σ1[j]? = σ[j]?) : wipe σ1 own = wipe σ own := by
  apply List.ext_getElem?
  intro j
  by_cases hj : j ∈ own
  · by_cases hb : j < σ.length
    · rw [wipe_in hj hb, wipe_in hj (by omega)]
    · rw [List.getElem?_eq_none (by rw [wipe_length]; omega), List.getElem?_eq_none (by rw [wipe_length]; omega)]
  · rw [wipe_at hj, wipe_at hj, h j hj]
theorem wipe_wipe {own : List Nat} : wipe (wipe σ own) own = wipe σ own := wipe_eq (wipe_length σ own) fun j hj => wipe_at hj
/-- an address of no place -/
theorem Sim.updOff {u : HO} {p : Addr} (sim : Sim K F H ρ σ) (hf : ¬ F p) (hm : ¬ Mu ρ σ p) : Sim K F (upd H p u) ρ σ := by
  have g : Grow F F H (upd H p u) := ⟨fun _ h => h, fun b w hb e => by rw [upd_ne fun z => hf (by rw [← z]; exact hb)]; exact e⟩
  refine ⟨sim.len, fun j s e => (sim.ok j s e).mono g fun b mo hmo hx => ?_, sim.apart, fun b hb => by rw [upd_ne fun z => hf (by rw [← z]; exact hb)]; exact sim.fok b hb⟩
  have hb : MAt ρ σ j b := .of (x := none) e hmo hx
  exact ⟨sim.nf ⟨j, hb⟩, fun w e => by rw [upd_ne fun z => hm (by rw [← z]; exact ⟨j, hb⟩)]; exact e⟩
theorem Stp.updNew {u : HO} {p : Addr} (st : Stp ρ σ F H ρ1 σ1 F1 H1) (hp : H p = none) : Stp ρ σ F H ρ1 σ1 F1 (upd H1 p u) :=
  ⟨st.sub, st.new, fun b w e hn => by rw [upd_ne fun z => by subst z; rw [hp] at e; cases e]; exact st.kept b w e hn, st.mu, st.brw, st.len⟩
theorem ownPl_at {ρ0 : Fr} : ∀ {own : List Nat}, ownPl ρ0 own = true → ∀ j ∈ own, ∃ s, ρ0[j]? = some s ∧ plainS s = true
  | [], _, j, hj => by cases hj
  | i :: r, h, j, hj => by
    unfold ownPl at h
    rw [Bool.and_eq_true] at h
    rcases List.mem_cons.mp hj with rfl | hj
    · cases e : ρ0[j]? with
      | none => rw [e] at h; cases h.1
      | some s => rw [e] at h; exact ⟨s, rfl, h.1⟩
    · exact ownPl_at h.2 j hj
theorem backF_len {ρ0 : Fr} : ∀ {own : List Nat}, (backF ρ0 ρ own).length = ρ.length
  | [] => rfl
  | i :: r => by
    unfold backF
    split
    · rw [List.length_set]; exact backF_len
    · exact backF_len
theorem backF_at {ρ0 : Fr} : ∀ {own : List Nat} {j : Nat}, ρ.length = ρ0.length → (backF ρ0 ρ own)[j]? = if j ∈ own then ρ0[j]? else ρ[j]?
  | [], j, hl => rfl
  | i :: r, j, hl => by
    have ih := @backF_at ρ0 r j hl
    unfold backF
    by_cases hij : i = j
    · subst hij
      rw [if_pos List.mem_cons_self]
      split
      · rename_i s e
        rw [List.getElem?_set_self (by rw [backF_len, hl]; exact (List.getElem?_eq_some_iff.mp e).1), e]
      · rename_i e
        rw [e, List.getElem?_eq_none]
        rw [backF_len, hl]
        exact List.getElem?_eq_none_iff.mp e
    · have hm : (j ∈ i :: r) ↔ j ∈ r := by simp [Ne.symm hij]
      split
      · rw [List.getElem?_set_ne hij, ih]
        simp only [hm]
      · rw [ih]
        simp only [hm]
/-- behind a comprehension -/
theorem Sim.backAll {ρ0 : Fr} {F0 : Ad} {H0 : Hp} (sim0 : Sim K F0 H0 ρ0 σ) (st : Stp ρ0 σ F0 H0 ρ σ1 F H) (sim : Sim K F H ρ σ1) (hw : wipe σ1 own = wipe σ own) (hp : ownPl ρ0 own = true) :
    Sim K F H (backF ρ0 ρ own) σ ∧ Stp ρ0 σ F0 H0 (backF ρ0 ρ own) σ F H ∧ ∀ a, Mu (backF ρ0 ρ own) σ a → Mu ρ σ1 a := by
  have off : ∀ j, j ∉ own → σ1[j]? = σ[j]? := fun j hj => by rw [← wipe_at (σ := σ1) hj, hw, wipe_at hj]
  have g := st.grow sim0
  have mat : ∀ j a, MAt (backF ρ0 ρ own) σ j a → MAt ρ σ1 j a := fun j a ⟨⟨s, o, e, m⟩, e2⟩ => by
    rw [backF_at st.len] at e
    by_cases hj : j ∈ own
    · rw [if_pos hj] at e
      obtain ⟨s', e', hp'⟩ := ownPl_at hp j hj
      rw [e] at e'
      cases e'
      rw [plain_mo hp'] at m
      cases m
    · rw [if_neg hj] at e
      exact ⟨⟨s, o, e, m⟩, by rw [off j hj]; exact e2⟩
  refine ⟨⟨by rw [backF_len, st.len]; exact sim0.len, fun j s e => ?_, fun x y b h1 h2 => sim.apart x y b (mat _ _ h1) (mat _ _ h2), sim.fok⟩, ⟨st.sub, st.new, st.kept, fun b ⟨j, h⟩ => st.mu b ⟨j, mat _ _ h⟩, fun j o e => ?_, by rw [backF_len]; exact st.len⟩, fun a ⟨j, h⟩ => ⟨j, mat _ _ h⟩⟩
  · rw [backF_at st.len] at e
    by_cases hj : j ∈ own
    · rw [if_pos hj] at e
      obtain ⟨s', e', hp'⟩ := ownPl_at hp j hj
      rw [e] at e'
      cases e'
      exact (sim0.ok j s e).mono g fun a mo hmo _ => by rw [plain_mo hp'] at hmo; cases hmo
    · rw [if_neg hj] at e
      rw [← off j hj]
      exact sim.ok j s e
  · obtain ⟨⟨o', h1⟩, h2⟩ := st.brw j o e
    rw [backF_at st.len]
    by_cases hj : j ∈ own
    · obtain ⟨s', e', hp'⟩ := ownPl_at hp j hj
      rw [e] at e'
      cases e'
      cases hp'
    · rw [if_neg hj]
      exact ⟨⟨o', h1⟩, rfl⟩
end
abbrev W0 : WX := fun _ _ _ _ => False
theorem rdAt.okq {α τ : Type} {K : PySem.W.Frag} {W : WX} {x : Res (α × Fr)} {R : RR α τ} {ρ : Fr} {F : Ad} {σ : L2.St} {H : Hp} {Q : τ → Hp → Prop} {r : α} {ρ' : Fr} (e : x = .ok (r, ρ'))
    (h : ∀ v F' H', Sim K F' H' ρ' σ → Stp ρ σ F H ρ' σ F' H' → R ρ σ H ρ' F' H' r v → Q v H') : rdAt K W x R ρ F σ H Q := by
  subst e
  exact h
section
variable {X : Cx} {Γ : Ctx} {W : WX} {elt tg iter : Expr} {ifs : List Expr} {scope : Scope} {own : List (Str × Nat)} {own' : List Nat} {pos : Pos} {t : T} {elt' it' c' : E}
theorem lc_rd {σ : L2.St} {H : Hp} {Q : VK} (ho : own.map (·.2) = own') (hn : ∀ j ∈ t.names, j ∈ own') (h : rdG X.K W (dn Γ (.lc elt' t it' c' own')).v (VR X.K) σ H Q) :
    tLc (rdG X.K W (dn Γ it').it (IR X.K)) (gG X.K t) (rdT X.K W0 (dn Γ c').t) (rdG X.K W0 (dn Γ elt').d (DR X.K)) (own.map (·.2)) σ H Q := by
  rw [ho]
  obtain ⟨F, ρ, sim, q⟩ := h
  refine ⟨F, ρ, sim, (rdAt.bind (R1 := IR X.K) bkV sim (show rdAt X.K W (((dn Γ it').it ρ).bind fun x => if ownPl x.2 own' then (noExc (cmpL (turnL t (dn Γ c') (dn Γ elt') own') x.1 x.2)).bind fun y =>
        (if fits y.1.length then .ok (.own (.lst y.1), backF x.2 y.2 own') else .stuck) else .stuck) (VR X.K) ρ F σ H Q from q)).mono fun J H1 ⟨F1, ρ1, ds, s1, st1, r1, q1⟩ => ?_⟩
  have wk : Walk X.K F1 H1 ds J := r1
  have q1 : rdAt X.K W (if ownPl ρ1 own' then (noExc (cmpL (turnL t (dn Γ c') (dn Γ elt') own') ds ρ1)).bind fun y =>
        (if fits y.1.length then .ok (.own (.lst y.1), backF ρ1 y.2 own') else .stuck) else .stuck) (VR X.K) ρ1 F1 σ H1 Q := q1
  by_cases hp : ownPl ρ1 own' = true
  · rw [if_pos hp] at q1
    cases ec : cmpL (turnL t (dn Γ c') (dn Γ elt') own') ds ρ1 with
    | stuck => rw [ec] at q1; exact q1.elim
    | exc c => rw [ec] at q1; exact q1.elim
    | ok y =>
      obtain ⟨total, ρe⟩ := y
      rw [ec] at q1
      have q1 : rdAt X.K W (if fits total.length then Res.ok (Slot.own (.lst total), backF ρ1 ρe own') else .stuck) (VR X.K) ρ1 F1 σ H1 Q := q1
      by_cases hf : fits total.length = true
      · rw [if_pos hf] at q1
        intro D hD
        have hz := fits_line hf
        refine ⟨fun i m H => m = ds.length - i ∧ i ≤ ds.length ∧ ∃ (F : Ad) (ρ : Fr) (σc : L2.St) (acc : List V) (done rest : List PyData), Sim X.K F H ρ σc ∧ wipe σc own' = wipe σ own' ∧ Stp ρ1 σ F1 H1 ρ σc F H ∧ H D = some (.lst acc) ∧ ¬ F D ∧ ¬ Mu ρ σc D ∧
          RpA X.K F H acc done ∧ cmpL (turnL t (dn Γ c') (dn Γ elt') own') (ds.drop i) ρ = .ok (rest, ρe) ∧ done ++ rest = total, ⟨ds.length, rfl, Nat.zero_le _, F1, ρ1, σ, [], [], total, ?_, rfl, ?_, upd_same, s1.nfn hD, s1.nmu hD, .nil, ec, rfl⟩, ?_⟩
        · exact s1.new hD F1 (sameF_iff (s1.nfn hD))
        · exact Stp.alloc hD F1 (sameF_iff (s1.nfn hD))
        rintro i m H ⟨rfl, hil, F, ρ, σc, acc, done, rest, sc, hw, stc, hD1, hnf, hnm, hacc, hc, htot⟩
        by_cases hlt : i < ds.length
        · have ed : ds.drop i = ds[i] :: ds.drop (i + 1) := (List.drop_eq_getElem_cons hlt)
          rw [ed] at hc
          have hc : ((turnL t (dn Γ c') (dn Γ elt') own' ds[i] ρ).bind fun r => (cmpL (turnL t (dn Γ c') (dn Γ elt') own') (ds.drop (i + 1)) r.2).bind fun q => Res.ok (r.1 ++ q.1, q.2)) = .ok (rest, ρe) := hc
          obtain ⟨⟨now, ρt⟩, et, hc⟩ := res_bind_ok hc
          obtain ⟨⟨more, ρx⟩, em, hc⟩ := res_bind_ok hc
          cases hc
          have et : ((Res.of ((wipeF ρ own').bind (asgT t ds[i]))).bind fun r1 => ((dn Γ c').t r1).bind fun q => if q.1 then ((dn Γ elt').d q.2).bind fun y => Res.ok ([y.1], y.2) else .ok ([], q.2)) = .ok (now, ρt) := et
          obtain ⟨ρa, ea, et⟩ := res_of_ok et
          obtain ⟨ρw, ew, ea⟩ := Option.bind_eq_some_iff.mp ea
          obtain ⟨⟨b, ρb⟩, eb, et⟩ := res_bind_ok et
          have gc := stc.grow s1
          obtain ⟨sw, stw⟩ := sc.wipeAll ew
          rw [hw] at sw stw
          refine .inr ⟨wk.go i F H gc hlt, fun H => ∃ (F : Ad) (ρ : Fr) (σc : L2.St) (acc : List V) (done rest : List PyData), Sim X.K F H ρ σc ∧ wipe σc own' = wipe σ own' ∧ Stp ρ1 σ F1 H1 ρ σc F H ∧ H D = some (.lst acc) ∧ ¬ F D ∧ ¬ Mu ρ σc D ∧
            RpA X.K F H acc done ∧ cmpL (turnL t (dn Γ c') (dn Γ elt') own') (ds.drop (i + 1)) ρ = .ok (rest, ρx) ∧ done ++ rest = total, fun H' ⟨F, ρ, σc, acc, done, rest, h⟩ => ⟨ds.length - (i + 1), by omega, rfl, hlt, F, ρ, σc, acc, done, rest, h⟩, fun x H' hy => ?_⟩
          obtain ⟨F2, sub, new, kept, fok, rx⟩ := wk.yld i F H x H' ds[i] gc sc.fok (List.getElem?_eq_getElem hlt) hy
          obtain ⟨s2, st2⟩ := sw.stay sub new kept fok
          refine ⟨F2, ρw, ds[i], ρa, s2, rx, ea, fun σ3 s3 st3 off => ?_⟩
          have hw3 : wipe σ3 own' = wipe σ own' := by
            rw [← wipe_wipe (σ := σ)]
            refine wipe_eq ?_ fun j hj => off j fun z => hj (hn j z)
            rw [← s3.len, st3.len, s2.len]
          refine ⟨by rw [wipe_wipe.symm, hw3, wipe_wipe], F2, ρa, s3, ?_⟩
          have st03 := ((stc.trans stw).trans st2).trans st3
          have hnfw : ¬ Mu ρw (wipe σ own') D := fun z => by
            rcases stw.mu D z with z | z
            · rw [hD1] at z; cases z
            · exact hnm z
          have hD2 : H' D = some (.lst acc) := kept D _ hD1
          have hnf2 : ¬ F2 D := fun z => by
            rcases new D z with z | z
            · exact hnf z
            · rw [hD1] at z; cases z
          have hnm3 : ¬ Mu ρa σ3 D := fun z => by
            rcases st3.mu D z with z | z
            · rw [hD2] at z; cases z
            · exact hnfw z
          have hacc2 : RpA X.K F2 H' acc done := (hacc.mono (stw.grow sc)).mono (st2.grow sw)
          -- the test
          refine rdAt.okq eb fun bv F4 H4 s4 st4 rb => ?_
          have rb : bv = b := rb
          subst rb
          have hD4 : H4 D = some (.lst acc) := st4.kept D _ hD2 hnm3
          have hnf4 : ¬ F4 D := fun z => by
            rcases st4.new D z with z | z | z
            · exact hnf2 z
            · rw [hD2] at z; cases z
            · exact hnm3 z
          have hnm4 : ¬ Mu ρb σ3 D := fun z => by
            rcases st4.mu D z with z | z
            · rw [hD2] at z; cases z
            · exact hnm3 z
          have hacc4 := hacc2.mono (st4.grow s3)
          cases bv with
          | false =>
            have et : Res.ok (([] : List PyData), ρb) = .ok (now, ρt) := et
            cases et
            exact ⟨F4, _, σ3, acc, done, more, s4, hw3, st03.trans st4, hD4, hnf4, hnm4, hacc4, em, htot⟩
          | true =>
            have et : (((dn Γ elt').d ρb).bind fun y => Res.ok ([y.1], y.2)) = .ok (now, ρt) := et
            obtain ⟨⟨d, ρd⟩, ee, et⟩ := res_bind_ok et
            cases et
            refine ⟨F4, ρb, s4, rdAt.okq ee fun yv F5 H5 s5 st5 ry => ?_⟩
            have ry : Rp X.K F5 H5 yv d := ry
            have hD5 : H5 D = some (.lst acc) := st5.kept D _ hD4 hnm4
            have hnf5 : ¬ F5 D := fun z => by
              rcases st5.new D z with z | z | z
              · exact hnf4 z
              · rw [hD4] at z; cases z
              · exact hnm4 z
            have hnm5 : ¬ Mu ρd σ3 D := fun z => by
              rcases st5.mu D z with z | z
              · rw [hD4] at z; cases z
              · exact hnm4 z
            have hacc5 := hacc4.mono (st5.grow s4)
            have g5 : Grow F5 F5 H5 (upd H5 D (.lst (acc ++ [yv]))) := ⟨fun _ h => h, fun b w hb e => by rw [upd_ne fun z => hnf5 (by rw [← z]; exact hb)]; exact e⟩
            have hlen : acc.length < sizeLine := by
              have h1 := hacc.len
              have h2 : total.length = done.length + (1 + more.length) := by
                rw [← htot, List.length_append, List.length_append]
                rfl
              omega
            refine ⟨acc, hD5, hlen, F5, ρd, σ3, acc ++ [yv], done ++ [d], more, s5.updOff hnf5 hnm5, hw3, ((st03.trans st4).trans st5).updNew hD, upd_same, hnf5, hnm5, (hacc5.app (.cons ry .nil)).mono g5, em, ?_⟩
            rw [List.append_assoc]
            exact htot
        · have e : i = ds.length := by omega
          subst e
          rw [List.drop_length] at hc
          cases hc
          refine .inl ⟨wk.stop _ F H (stc.grow s1) (Nat.le_refl _), ?_⟩
          rw [List.append_nil] at htot
          subst htot
          obtain ⟨sb, stb, hmu⟩ := s1.backAll stc sc hw hp
          exact q1 (.ref D) F H sb stb ⟨⟨D, rfl, hnf, acc, hD1, hacc⟩, fun o a e1 e2 => by
            cases e2
            exact ⟨fun z => hnm (hmu D z), .inl hD⟩⟩
      · rw [if_neg hf] at q1
        exact q1.elim
  · rw [if_neg hp] at q1
    exact q1.elim
/-- a clause's tests -/
abbrev CndOk (X : Cx) (Γ : Ctx) (ifs : List Expr) (c' : E) : Prop := PTs X ifs (rdT X.K W0 (dn Γ c').t)
theorem PTs.imp {ts : List Expr} {t t' : TT} (h : PTs X ts t) (k : ∀ σ H Q, t' σ H Q → t σ H Q) : PTs X ts t' := ⟨fun pins s σ H Q I q => h.run pins s σ H Q I (k σ H Q q)⟩
theorem cnd_nil : CndOk X Γ [] (.cst (.bool true)) := PTs.imp pts_nil fun σ H Q ⟨F, ρ, sim, q⟩ => (show rdAt X.K W0 (.ok (true, ρ)) BR ρ F σ H Q from q).done sim rfl
theorem cnd_one {c : Expr} (h : Ok X Γ W0 c c') : CndOk X Γ [c] c' := pts_one h.t
theorem ok_lc (hc : X.calm = true) (hN : X.N.Nodup) (hi : PIG X W tg iter (dn Γ it')) (ok : BlkOk X.N X.env.scope scope own) (ho : own.map (·.2) = own') (hn : ∀ j ∈ t.names, j ∈ own')
    (hg : ∀ (s : Shared) (H : Hp) (C : Addr) (cl : List (Str × Addr)) (fp : List Addr), PG (X.blk s H scope (compEnvC scope cl C X.env) fp) tg (gG X.K t))
    (ht : ∀ (s : Shared) (H : Hp) (C : Addr) (cl : List (Str × Addr)) (fp : List Addr), CndOk (X.blk s H scope (compEnvC scope cl C X.env) fp) Γ ifs c')
    (he : ∀ (s : Shared) (H : Hp) (C : Addr) (cl : List (Str × Addr)) (fp : List Addr), Ok (X.blk s H scope (compEnvC scope cl C X.env) fp) Γ W0 elt elt') (hs : ∀ x, foldedSetIterable iter X.env x = pure x) :
    Ok X Γ W (.ListComp elt [⟨tg, iter, ifs, 0⟩] scope pos) (.lc elt' t it' c' own') :=
  .of rfl (PE.imp (pe_lc hc hN hi ok hg ht (fun s H C cl fp => ped_of (he s H C cl fp).v) hs) fun σ H Q h => lc_rd ho hn h) fun _ => rfl
/-- name = [..] -/
theorem sok_setLc {i : Nat} {y : Str} {py spos : Pos} (hc : X.calm = true) (hN : X.N.Nodup) (hy : X.N[i]? = some y) (hyl : X.env.scope.names.lookup y = some .local)
    (hsw : swapsWith (.ListComp elt [⟨tg, iter, ifs, 0⟩] scope pos) (some (.Name y py)) spos.line X.env = pure true) (hi : PIG X W tg iter (dn Γ it')) (ok : BlkOk X.N X.env.scope scope own) (ho : own.map (·.2) = own') (hn : ∀ j ∈ t.names, j ∈ own')
    (hg : ∀ (s : Shared) (H : Hp) (C : Addr) (cl : List (Str × Addr)) (fp : List Addr), PG (X.blk s H scope (compEnvC scope cl C X.env) fp) tg (gG X.K t))
    (ht : ∀ (s : Shared) (H : Hp) (C : Addr) (cl : List (Str × Addr)) (fp : List Addr), CndOk (X.blk s H scope (compEnvC scope cl C X.env) fp) Γ ifs c')
    (he : ∀ (s : Shared) (H : Hp) (C : Addr) (cl : List (Str × Addr)) (fp : List Addr), Ok (X.blk s H scope (compEnvC scope cl C X.env) fp) Γ W0 elt elt') (hs : ∀ x, foldedSetIterable iter X.env x = pure x) :
    SOk X Γ W (.Assign [.Name y py] (.ListComp elt [⟨tg, iter, ifs, 0⟩] scope pos) spos) (.asg (.name i) (.lc elt' t it' c' own')) :=
  PS.imp (ps_setLc hc hN hy hyl hsw hi ok hg ht (fun s H C cl fp => ped_of (he s H C cl fp).v) hs) fun D σ H ⟨F, ρ, sim, q⟩ => lc_rd ho hn ⟨F, ρ, sim, (rdAt.thenS (R := VR X.K) sim (show sAt X.K W (((dn Γ (.lc elt' t it' c' own')).v ρ).bind fun x => (Res.of (asgN (.name i) x.1 x.2)).bind fun r => .ok (.next, r)) D ρ F σ H from q)).mono fun v H1 ⟨F1, ρ1, r, s1, st1, r1, q1⟩ => set_of s1 st1 r1 q1⟩
end
end PM
set_option Elab.async false
set_option linter.all false
set_option maxRecDepth 100000
set_option maxHeartbeats 1000000
/-! PM: raise; try with the law's own naming of the class. -/
namespace PM
open PySem PySem.Spec PyProof.Rows L2
variable [Cur]
/-! ### raise C() -/
structure RaiseF (X : Cx) (x : Str) : Prop where
  ex : ∃ (bmB : List Value) (B newId initId : String), ExcBaseFacts B newId initId bmB ∧ PySem.W.excIn X.K (He.ga X.K x) bmB newId = true
  gC : X.mg x = some (.ref (He.ga X.K x))
  kC : PySem.W.keepIn X.K (.ref (He.ga X.K x)) = true
  ra : Raises X (.ref (He.ga X.K x))
theorem sok_raise {X : Cx} {Γ : Ctx} {W : WX} {x : Str} {p cpos pos : Pos} (wr : Wor X W) (rf : RaiseF X x) (gl : Gl X x) (hdb : (x == ("__debug__" : Str)) = false) : SOk X Γ W (.Raise (some (.Call (.Name x p) [] [] cpos)) none pos) (.raise x) := by
  obtain ⟨bmB, B, newId, initId, F, q⟩ := rf.ex
  refine PS.imp (ps_raiseA wr.calm wr.tk F q rf.gC rf.kC rf.ra gl hdb) fun D σ H ⟨F0, ρ, sim, h⟩ => fun t ht => ?_
  have h : excW X.K W x ρ σ H := h
  exact h σ (upd H t (.tup [])) sim.len.symm fun a o ha _ => by rw [upd_ne (ne_of_none ha ht)]; exact ha

/-! ### the exception's own facts -/
/-- the kind n of the class C, among the four -/
def clsOf (K : PySem.W.Frag) (n : Nat) : Addr := He.ga K (match n with | 0 => "BadProtocol" | 1 => "BadFormula" | 2 => "BadWord" | _ => "TooMuch")
/-- what the questions to a made error need of its class -/
structure MadeC (K : PySem.W.Frag) (x : Str) : Prop where
  xf : XcF K (He.ga K x)
  up : PySem.W.kitOne K (.ref (He.ga K x)) (.ref (He.ga K "PlaypartsError")) = some true
abbrev five : List Str := ["PlaypartsError", "BadProtocol", "BadFormula", "BadWord", "TooMuch"]
structure KindF (K : PySem.W.Frag) : Prop where
  mad : ∀ x ∈ five, MadeC K x
  xf : ∀ c n, kindOf c = some n → XcF K (He.ga K c)
  kd : ∀ c n, kindOf c = some n → Kinds K (He.ga K c) (He.ga K "BadProtocol") (He.ga K "BadFormula") (He.ga K "BadWord") (He.ga K "TooMuch") n
  up : ∀ c n, kindOf c = some n → PySem.W.exmOne K (.ref (He.ga K c)) (.ref (He.ga K "PlaypartsError")) = some true
/-- what the law's naming leaves -/
def ResOk (w : Option Str) (n : Nat) (H : Hp) (v : V) (H' : Hp) : Prop := (∀ b u, H b = some u → H' b = some u) ∧ match w with
  | none => v = .str (kindS n)
  | some r => ∃ p, v = .ref p ∧ H p = none ∧ H' p = some (.tup [.str r, .str (kindS n)])
def spC (K : PySem.W.Frag) (w : Option Str) : SpX := fun p H Q => ∃ (c : Str) (n : Nat) (t : Addr), kindOf c = some n ∧ Zd (.ref (He.ga K c)) none t p.2 ∧ (∃ fs, p.2.data = .fields fs) ∧ H t = some (.tup []) ∧ ∀ v H', ResOk w n H v H' → Q v H'
section
variable {X : Cx} {ps : Nat → Pos} {several : Stmt} {w : Option Str}
/-- the last row of the naming -/
def lastC (w : Option Str) (ps : Nat → Pos) : Stmt := match w with
  | none => .Return (some (clsIx ps)) (ps 47)
  | some r => .Return (some (.Tuple [.Constant (.str r) 0 (ps 49), clsIx ps] 0 (ps 48))) (ps 47)
theorem cls_all {c : Str} {n : Nat} {a t : Addr} {oe : Obj} (cx : ClsX X "BadProtocol" "BadFormula" "BadWord" "TooMuch" (He.ga X.K "BadProtocol") (He.ga X.K "BadFormula") (He.ga X.K "BadWord") (He.ga X.K "TooMuch")) (kf : KindF X.K) (hc : kindOf c = some n)
    (hp : (a, oe) ∈ X.pn) (hz : Zd (.ref (He.ga X.K c)) none t oe) (hf : ∃ fs, oe.data = .fields fs) (hln : ((ps 20).endLine == (ps 22).line) = true) (hln2 : ((ps 43).endLine == (ps 45).line) = true) :
    ∃ tt, PSs X (clsBody "BadProtocol" "BadFormula" "BadWord" "TooMuch" several (lastC w ps) ps) tt ∧ ∀ D σ H, σ.length = 2 → σ[0]? = some (some (.ref a)) → H t = some (.tup []) → (∀ v H', ResOk w n H v H' → D.rt v H') → tt D σ H := by
  have kd := kf.kd c n hc
  have xf := kf.xf c n hc
  cases w with
  | none =>
    refine ⟨_, cls_walk cx hp xf hz hf kd (ps_ret (pos := ps 47) (clsIx_walk cx kd.lt hln2)) hln, fun D σ H hl h0 ht hq => ⟨hl, h0, ht, fun l hfl => ?_⟩⟩
    refine ⟨l, List.getElem?_set_self (by omega), upd_same, fun p hp => hq _ _ ⟨fun b u e => ?_, rfl⟩⟩
    have e1 : (upd H l (.lst [.bl (decide (0 = n)), .bl (decide (1 = n)), .bl (decide (2 = n)), .bl (decide (3 = n))])) b = some u := by rw [upd_ne (ne_of_none e hfl)]; exact e
    rw [upd_ne (ne_of_none e1 hp)]
    exact e1
  | some r =>
    refine ⟨_, cls_walk cx hp xf hz hf kd (ps_ret (pos := ps 47) (pe_tup (x1 := 0) (pos := ps 48) (pa_cons (pe_str (X := X) (x := r) (j := 0) (pos := ps 49)) (pa_cons (clsIx_walk cx kd.lt hln2) pa_nil)))) hln, fun D σ H hl h0 ht hq => ⟨hl, h0, ht, fun l hfl => ?_⟩⟩
    refine ⟨l, List.getElem?_set_self (by omega), upd_same, fun p hp => ⟨by show 2 ≤ sizeLine; rw [sizeLine_eq]; decide, fun p2 hp2 => hq _ _ ⟨fun b u e => ?_, p2, rfl, ?_, upd_same⟩⟩⟩
    · have e1 : (upd H l (.lst [.bl (decide (0 = n)), .bl (decide (1 = n)), .bl (decide (2 = n)), .bl (decide (3 = n))])) b = some u := by rw [upd_ne (ne_of_none e hfl)]; exact e
      have e2 : (upd (upd H l (.lst [.bl (decide (0 = n)), .bl (decide (1 = n)), .bl (decide (2 = n)), .bl (decide (3 = n))])) p (.lst [.str "protocol", .str "formula", .str "word", .str "much"])) b = some u := by rw [upd_ne (ne_of_none e1 hp)]; exact e1
      rw [upd_ne (ne_of_none e2 hp2)]
      exact e2
    · cases e : H p2 with
      | none => rfl
      | some u =>
        have e1 : (upd H l (.lst [.bl (decide (0 = n)), .bl (decide (1 = n)), .bl (decide (2 = n)), .bl (decide (3 = n))])) p2 = some u := by rw [upd_ne (ne_of_none e hfl)]; exact e
        rw [upd_ne (ne_of_none e1 hp), e1] at hp2
        cases hp2
end

/-! ### the handler -/
section
variable {X : Cx} {Γ : Ctx} {W : WX} {x y z n : Str} {i k : Nat} {f : Addr} {fd : FuncData} {p pz pos rpos hp hpos tpos : Pos} {w : Option Str} {body : List Stmt} {b' : List S}
/-- how the handler is written: the naming's own answer, or a pair with it -/
inductive Hdl (x y : Str) : Option Str → Option Str → Stmt → Prop
  | call (w : Option Str) (p pz pos rpos : Pos) : Hdl x y w w (.Return (some (.Call (.Name x p) [.Name y pz] [] pos)) rpos)
  | pair (r : Str) (p pz pos rpos tpos cpos : Pos) : Hdl x y none (some r) (.Return (some (.Tuple [.Constant (.str r) 0 cpos, .Call (.Name x p) [.Name y pz] [] pos] 0 tpos)) rpos)
/-- what is known of the naming where the handler stands -/
structure NameF (X : Cx) (k : Nat) (x y : Str) (i : Nat) (w : Option Str) : Prop where
  fn : ∃ f fd z, FnX X.prog X.w X.K X.mg X.base k f fd z (spC X.K w) ∧ X.mg x = some (.ref f) ∧ PySem.W.keepIn X.K (.ref f) = true ∧ Binds X.K fd [z] []
  gl : Gl X x
  hN : X.N[i]? = some y
  hv : Vis X.env.scope y
  d1 : (y == ("__debug__" : Str)) = false
  d2 : (y == ("__classdict__" : Str)) = false
  d3 : (x == ("__debug__" : Str)) = false
theorem hdl_ok {w w' : Option Str} {st : Stmt} (hd : Hdl x y w w' st) (nf : NameF X k x y i w) (hr : L2H.RoomH k X.A) {a t : Addr} {oe : Obj} {cls : Value} {d : Option Addr} {pn : List (Addr × Obj)} (hz : Zd cls d t oe) (hf : ∃ fs, oe.data = .fields fs) :
    PSs (X.suite a ((a, oe) :: pn)) [st] (fun D σ H => ∃ c m, cls = .ref (He.ga X.K c) ∧ d = none ∧ kindOf c = some m ∧ σ[i]? = some (some (.ref a)) ∧ H t = some (.tup []) ∧ ∀ v H', ResOk w' m H v H' → D.rt v H') := by
  obtain ⟨f, fd, z, F, hm, hk, hb⟩ := nf.fn
  obtain ⟨fs, hd2⟩ := hf
  have hc : ∃ fs : Array Value, oe.data = .fields fs ∧ fs[2]? = some .none := ⟨fs, hd2, (hz.2 fs hd2).2⟩
  have call : ∀ (p pz pos : Pos), PE (X.suite a ((a, oe) :: pn)) (.Call (.Name x p) [.Name y pz] [] pos) (fun σ H Q => σ[i]? = some (some (.ref a)) ∧ spC X.K w (a, oe) H Q) := fun p pz pos =>
    pe_callX (X := X.suite a ((a, oe) :: pn)) F ⟨hr.dp, hr.un⟩ rfl List.mem_cons_self hc nf.gl hm hk hb nf.hN nf.hv nf.d1 nf.d2 nf.d3 rfl rfl
  cases hd with
  | call _ p pz pos rpos =>
    have all := pss_one (ps_ret (pos := rpos) (call p pz pos))
    refine ⟨fun pins s σ H D I ⟨c, m, e1, e2, hkc, hs, ht, hq⟩ => all.run pins s σ H D I ?_⟩
    subst e1 e2
    exact ⟨hs, c, m, t, hkc, hz, ⟨fs, hd2⟩, ht, hq⟩
  | pair r p pz pos rpos tpos cpos =>
    have all := pss_one (ps_ret (pos := rpos) (pe_tup (x1 := 0) (pos := tpos) (pa_cons (pe_str (X := X.suite a ((a, oe) :: pn)) (x := r) (j := 0) (pos := cpos)) (pa_cons (call p pz pos) pa_nil))))
    refine ⟨fun pins s σ H D I ⟨c, m, e1, e2, hkc, hs, ht, hq⟩ => all.run pins s σ H D I ?_⟩
    subst e1 e2
    refine ⟨hs, c, m, t, hkc, hz, ⟨fs, hd2⟩, ht, fun v H1 ⟨kept, ev⟩ => ⟨by show 2 ≤ sizeLine; rw [sizeLine_eq]; decide, fun q hq2 => ?_⟩⟩
    subst ev
    refine hq _ _ ⟨fun b u e => ?_, q, rfl, ?_, upd_same⟩
    · rw [upd_ne (ne_of_none (kept b u e) hq2)]
      exact kept b u e
    · cases e : H q with
      | none => rfl
      | some u => rw [kept q u e] at hq2; cases hq2
/-- try: body, except PlaypartsError as y: the handler -/
theorem sok_try {w w' : Option Str} {st : Stmt} (hst : X.stack = X.env :: X.outer) (hfr : X.env.frame = some X.env.locals) (hNd : X.N.Nodup) (hln : X.env.kindOf y = some .local) (kf : KindF X.K) (nm : Names X "PlaypartsError" (.ref (He.ga X.K "PlaypartsError")))
    (hd : Hdl x y w w' st) (nf : NameF X k x y i w) (hr : L2H.RoomH k X.A)
    (hb : ∀ (W : WX) (pn : List (Addr × Obj)) (xe : Value → Shared → Prop), TakesA (X.tr pn xe) W → PassesOwn (model X.prog X.w) X.A X.env xe → SsOk (X.tr pn xe) Γ W body b') :
    SOk X Γ W (.Try body [.ExceptHandler (some (.Name "PlaypartsError" hp)) (some y) [st] hpos] [] [] pos) (.tryR i b' w') := by
  refine PS.imp (ps_tryA (tb := fun W => sG X.K W (exB Γ b')) (ts := fun a t cls d D σ H => ∃ c m, cls = .ref (He.ga X.K c) ∧ d = none ∧ kindOf c = some m ∧ σ[i]? = some (some (.ref a)) ∧ H t = some (.tup []) ∧ ∀ v H', ResOk w' m H v H' → D.rt v H') hst hfr hNd nf.hN hln nm hb fun a oe t cls d pn hz hf => hdl_ok hd nf hr hz hf) fun D σ H ⟨F, ρ, sim, q⟩ => ?_
  refine ⟨F, ρ, sim, ?_⟩
  have q : sAt X.K W (match exB Γ b' ρ with
    | .exc c => if noBrw ρ = true ∧ i < ρ.length then (Res.of (kindOf c)).bind fun n => .ok (.ret (.val (resD w' n)), ρ.map fun _ => Slot.no) else .stuck
    | r => r) D ρ F σ H := q
  revert q
  cases exB Γ b' ρ with
  | ok r => obtain ⟨fl, ρ'⟩ := r; cases fl <;> exact fun q => q
  | stuck => exact fun q => q
  | exc c =>
    intro q
    have q : sAt X.K W (if noBrw ρ = true ∧ i < ρ.length then (Res.of (kindOf c)).bind fun n => .ok (.ret (.val (resD w' n)), ρ.map fun _ => Slot.no) else .stuck) D ρ F σ H := q
    by_cases hnb2 : noBrw ρ = true ∧ i < ρ.length
    · rw [if_pos hnb2] at q
      have hnb := hnb2.1
      obtain ⟨m, em, q⟩ := q.of
      show excW X.K (wC X.K (.ref (He.ga X.K "PlaypartsError")) i (fun a t cls d D σ H => ∃ c m, cls = .ref (He.ga X.K c) ∧ d = none ∧ kindOf c = some m ∧ σ[i]? = some (some (.ref a)) ∧ H t = some (.tup []) ∧ ∀ v H', ResOk w' m H v H' → D.rt v H') D) c ρ σ H
      intro σ1 H1 hlen kept
      refine ⟨kf.up c m em, fun a t ha ht => ⟨c, m, rfl, rfl, em, ?_, ht, fun v H2 ⟨k2, hv⟩ => ?_⟩⟩
      · have hi : i < σ1.length := by
          rw [hlen]
          exact hnb2.2
        rw [List.getElem?_set_self hi]
      · have nomu : ∀ a, ¬ Mu (ρ.map fun _ => Slot.no) σ1 a := fun a ⟨j, ⟨s, o, e, m⟩, _⟩ => by
          rw [List.getElem?_map] at e
          obtain ⟨s0, _, rfl⟩ := Option.map_eq_some_iff.mp e
          cases m
        have nob : ∀ (j : Nat) (o : MO), ρ[j]? ≠ some (.brw o) := fun j o e => by
          have := List.all_eq_true.mp hnb _ (List.mem_of_getElem? e)
          cases this
        have keptF : ∀ b u, F b → H b = some u → H1 b = some u := fun b u hb e => kept b u e fun hm => sim.nf hm hb
        have base : ∀ (F2 : Ad), (∀ b, F b → F2 b) → (∀ b, F2 b → F b ∨ H b = none ∨ Mu ρ σ b) → (∀ b, F2 b → H2 b ≠ none) → Rp X.K F2 H2 v (resD w' m) → D.rt v H2 := fun F2 sub new fok r => by
          refine (show ∀ v σ' F' H', Sim X.K F' H' (ρ.map fun _ => Slot.no) σ' → Stp ρ σ F H (ρ.map fun _ => Slot.no) σ' F' H' → VOk X.K F' H' v (.val (resD w' m)) → (∀ o a, Slot.val (resD w' m) = .own o → v = .ref a → ¬ Mu (ρ.map fun _ => Slot.no) σ' a ∧ (H a = none ∨ Mu ρ σ a)) → D.rt v H' from q) v σ1 F2 H2
            ⟨by rw [List.length_map]; exact hlen.symm, fun j s e => ?_, fun x y b h1 _ => (nomu b ⟨x, h1⟩).elim, fok⟩ ⟨sub, new, fun b u e hn => k2 b u (kept b u e hn), fun b h => (nomu b h).elim, fun j o e => (nob j o e).elim, List.length_map _⟩ r fun o a e => by cases e
          rw [List.getElem?_map] at e
          obtain ⟨s0, _, rfl⟩ := Option.map_eq_some_iff.mp e
          trivial
        have alive : ∀ b, F b → H2 b ≠ none := fun b hb e => by
          cases e1 : H b with
          | none => exact sim.fok b hb e1
          | some u => rw [k2 b u (keptF b u hb e1)] at e; cases e
        cases w' with
        | none =>
          subst hv
          exact base F (fun _ h => h) (fun _ h => .inl h) alive (.str _)
        | some r =>
          obtain ⟨p, rfl, hp1, hp2⟩ := hv
          refine base (addF F p) (fun _ h => .inl h) (fun b h => ?_) (fun b h => ?_) (.tup (.inl ⟨.inr rfl, .inl hp2⟩) (.cons (.str _) (.cons (.str _) .nil)))
          · rcases h with h | rfl
            · exact .inl h
            · by_cases hm : Mu ρ σ b
              · exact .inr (.inr hm)
              · refine .inr (.inl ?_)
                cases e : H b with
                | none => rfl
                | some u => rw [kept b u e hm] at hp1; cases hp1
          · rcases h with h | rfl
            · exact alive b h
            · rw [hp2]; simp
    · rw [if_neg hnb2] at q
      exact q.elim
end
end PM
set_option Elab.async false
set_option linter.all false
set_option maxRecDepth 100000
set_option maxHeartbeats 1000000
/-! PM: a def's promise from its body's. -/
namespace PM
open PySem PySem.Spec PyProof.Rows L2
variable [Cur]
theorem takesA0 {X : Cx} : TakesA X W0 := fun u s' ⟨_, _, _, _, _, _, _, _, _, _, _, _, _, _, _, _, _, _, _, _, _, _, w, _⟩ => w.elim
theorem Wor.blk {X : Cx} {W : WX} (wr : Wor X W) (s : Shared) (H : Hp) (scope : Scope) (ce : Env) (fp : List Addr) : Wor (X.blk s H scope ce fp) W0 := ⟨wr.calm, wr.nd, wr.hu, wr.gd, takesA0, wr.cp, wr.cw⟩
theorem Wor.tr {X : Cx} {W W' : WX} (wr : Wor X W) {pn : List (Addr × Obj)} {xe : Value → Shared → Prop} (tk : TakesA (X.tr pn xe) W') : Wor (X.tr pn xe) W' := ⟨wr.calm, wr.nd, wr.hu, wr.gd, tk, wr.cp, wr.cw⟩
section
variable {K : PySem.W.Frag} {F : Ad} {H : Hp} {vs : List V} {ss : List Slot}
theorem ArgOk.slot : ∀ {vs : List V} {ss : List Slot} {j : Nat} {s : Slot}, ArgOk K F H vs ss → ss[j]? = some s → ∃ v, vs[j]? = some v ∧ SlotOk K F H (some v) s ∧ s.mo = none
  | _, _, _, _, .nil, e => by simp at e
  | _, _, 0, _, .val h _, e => by cases e; exact ⟨_, rfl, ⟨_, rfl, h⟩, rfl⟩
  | _, _, 0, _, .ins h _, e => by cases e; exact ⟨_, rfl, ⟨_, rfl, h⟩, rfl⟩
  | _, _, j + 1, s, .val _ t, e => ArgOk.slot (j := j) (s := s) t (by simpa using e)
  | _, _, j + 1, s, .ins _ t, e => ArgOk.slot (j := j) (s := s) t (by simpa using e)
theorem ArgsIn.slot {j : Nat} {s : Slot} (h : ArgsIn K F H vs ss) (e : ss[j]? = some s) : ∃ v, vs[j]? = some v ∧ SlotOk K F H (some v) s ∧ ∀ o, s.mo = some o → j = 0 ∧ s = .brw o ∧ ∀ a, v = .ref a → IoA vs ss a := by
  rcases h with h | ⟨o, r, a, us, rfl, rfl, hn, ho, ha⟩
  · obtain ⟨v, h1, h2, h3⟩ := h.slot e
    exact ⟨v, h1, h2, fun o ho => by rw [h3] at ho; cases ho⟩
  · cases j with
    | zero =>
      cases e
      exact ⟨_, rfl, ⟨a, rfl, hn, ho⟩, fun o' ho' => by cases ho'; exact ⟨rfl, rfl, fun b hb => ⟨o, r, us, rfl, by rw [hb]⟩⟩⟩
    | succ j =>
      obtain ⟨v, h1, h2, h3⟩ := ha.slot (j := j) (s := s) (by simpa using e)
      exact ⟨v, by simpa using h1, h2, fun o ho => by rw [h3] at ho; cases ho⟩
theorem ArgsIn.len (h : ArgsIn K F H vs ss) : vs.length = ss.length := by
  rcases h with h | ⟨o, r, a, us, rfl, rfl, hn, ho, ha⟩
  · exact h.len
  · rw [List.length_cons, List.length_cons, ha.len]
theorem start_at {N : List Str} {j : Nat} : (L2.start N vs)[j]? = if j < vs.length then (vs[j]?).map some else if j < vs.length + (N.length - vs.length) then some none else none := by
  unfold L2.start
  by_cases h : j < vs.length
  · rw [if_pos h, List.getElem?_append_left (by simpa using h), List.getElem?_map]
  · rw [if_neg h, List.getElem?_append_right (by simpa using h), List.length_map, List.getElem?_replicate]
    by_cases h2 : j < vs.length + (N.length - vs.length)
    · rw [if_pos h2, if_pos (by omega)]
    · rw [if_neg h2, if_neg (by omega)]
theorem frame_at {m j : Nat} {s : Slot} (e : (ss ++ List.replicate m Slot.no)[j]? = some s) : ss[j]? = some s ∨ s = .no := by
  by_cases h : j < ss.length
  · rw [List.getElem?_append_left h] at e
    exact .inl e
  · rw [List.getElem?_append_right (by omega), List.getElem?_replicate] at e
    split at e
    · cases e; exact .inr rfl
    · cases e
theorem mat_start {N : List Str} {m j : Nat} {a : Addr} (h : ArgsIn K F H vs ss) (x : MAt (ss ++ List.replicate m Slot.no) (L2.start N vs) j a) : j = 0 ∧ IoA vs ss a := by
  obtain ⟨⟨s, o, e, mo⟩, e2⟩ := x
  rcases frame_at e with e | rfl
  · obtain ⟨v, h1, _, h3⟩ := h.slot e
    obtain ⟨j0, _, h4⟩ := h3 o mo
    have hj : j < vs.length := (List.getElem?_eq_some_iff.mp h1).1
    rw [start_at, if_pos hj, h1] at e2
    cases e2
    exact ⟨j0, h4 a rfl⟩
  · cases mo
theorem sim_start {N : List Str} {m : Nat} (h : ArgsIn K F H vs ss) (fok : ∀ a, F a → H a ≠ none) (hl : ss.length + m = N.length) : Sim K F H (ss ++ List.replicate m .no) (L2.start N vs) := by
  have hv := h.len
  refine ⟨?_, fun j s e => ?_, fun x y b h1 h2 => by rw [(mat_start h h1).1, (mat_start h h2).1], fok⟩
  · unfold L2.start
    rw [List.length_append, List.length_append, List.length_replicate, List.length_map, List.length_replicate]
    omega
  · rcases frame_at e with e | rfl
    · obtain ⟨v, h1, h2, _⟩ := h.slot e
      have hj : j < vs.length := (List.getElem?_eq_some_iff.mp h1).1
      rw [start_at, if_pos hj, h1]
      exact h2
    · trivial
end
theorem fn_sound {P : Program} {w : World} {K : PySem.W.Frag} {mg : Str → Option Value} {base : Heap} {k : Nat} {x qual : Str} {params : Arguments} {body : List Stmt} {scope : Scope} {dvs : List V} {kws : List (Str × V)} {f : Addr} {fd : FuncData} {N ps : List Str} {Γ : Ctx} {d : FnDef}
    (hc : P = Cur.P ∧ w = Cur.w) (F : FunD K x qual params body scope dvs kws f fd) (S : FnScope N ps scope) (hn : N.length = d.nslots) (hp : ps.length = d.npar) (hle : d.npar ≤ d.nslots)
    (hB : ∀ (cdv : Value) (A : Around) (outer : List Env) (s : Shared) (H : Hp) (E : XK), Room k (A.deeper (envOfC qual scope s.heap.objs.size f cdv)) →
      Wor (cxOf (CXA P w) P w K mg base N qual scope f cdv A outer s H E) (fun cls d _ H' => E cls d H') → SsOk (cxOf (CXA P w) P w K mg base N qual scope f cdv A outer s H E) Γ (fun cls d _ H' => E cls d H') body d.body) :
    FnG P w K mg base (k + 1) f fd ps (spG K (runFn Γ d)) := by
  have sz : ∀ (ss : List Slot), ¬ (ss.length = d.npar ∧ ioOk d.io ss = true) → runFn Γ d ss = .stuck := fun ss h => by
    unfold runFn
    rw [if_neg h]
  refine g_of F S (fun vs H Q E ⟨Fa, ss, fok, hin, hr⟩ => ?_) fun cdv A outer s H vs Q E hg hr ⟨Fa, ss, fok, hin, hq⟩ => ?_
  · by_cases c : ss.length = d.npar ∧ ioOk d.io ss = true
    · rw [hin.len, c.1, hp]
    · rw [sz ss c] at hr
      exact hr.elim
  · by_cases c : ss.length = d.npar ∧ ioOk d.io ss = true
    · have wr : Wor (cxOf (CXA P w) P w K mg base N qual scope f cdv A outer s H E) (fun cls d _ H' => E cls d H') := ⟨rfl, S.nd, by have := hr.un; show (A.deeper (envOfC qual scope s.heap.objs.size f cdv)).units + 70 < _; omega, hg, takesA_of rfl rfl rfl rfl, hc.1, hc.2⟩
      refine ⟨_, hB cdv A outer s H E hr wr, Fa, ss ++ List.replicate (d.nslots - d.npar) .no, ?_, ?_⟩
      · exact sim_start hin fok (by rw [c.1, hn]; omega)
      · have sim0 : Sim K Fa H (ss ++ List.replicate (d.nslots - d.npar) .no) (L2.start N vs) := sim_start hin fok (by rw [c.1, hn]; omega)
        have er : runFn Γ d ss = (exB Γ d.body (ss ++ List.replicate (d.nslots - d.npar) .no)).bind fun r => (Res.of (retOf r.1)).bind fun s => .ok (s, if d.io then (r.2[0]?).bind Slot.mo else none) := by
          unfold runFn
          rw [if_pos c]
        rw [er] at hq
        have noMu : ∀ b u, H b = some u → ¬ IoA vs ss b → ¬ Mu (ss ++ List.replicate (d.nslots - d.npar) .no) (L2.start N vs) b := fun b u _ hn2 ⟨j, hj⟩ => hn2 (mat_start hin hj).2
        -- the end
        have fin : ∀ {sl : Slot} {ρ' : Fr} {v : V} {σ' : L2.St} {F' : Ad} {H' : Hp}, (∀ v F' H', CallPost Fa H F' H' vs ss → VOk K F' H' v sl → (∀ o a, sl = .own o → v = .ref a → H a = none) → (∀ a, IoA vs ss a → ∃ o, (if d.io then (ρ'[0]?).bind Slot.mo else none) = some o ∧ MoOk K F' H' a o) → Q v H') →
            Sim K F' H' ρ' σ' → Stp (ss ++ List.replicate (d.nslots - d.npar) .no) (L2.start N vs) Fa H ρ' σ' F' H' → VOk K F' H' v sl →
              (∀ o a, sl = .own o → v = .ref a → ¬ Mu ρ' σ' a ∧ (H a = none ∨ Mu (ss ++ List.replicate (d.nslots - d.npar) .no) (L2.start N vs) a)) → Q v H' := by
          intro sl ρ' v σ' F' H' hq s1 st hv ho
          have lent : ∀ a, IoA vs ss a → ∃ o', ρ'[0]? = some (.brw o') ∧ MAt ρ' σ' 0 a ∧ d.io = true := by
            rintro a ⟨o, r, us, rfl, rfl⟩
            obtain ⟨⟨o', h1⟩, h2⟩ := st.brw 0 o rfl
            refine ⟨o', h1, ⟨⟨_, o', h1, rfl⟩, h2.trans ?_⟩, ?_⟩
            · rw [start_at]; rfl
            · cases hio : d.io with
              | true => rfl
              | false =>
                have h3 := c.2
                rw [hio] at h3
                have h3 : (Slot.brw o :: r).all (fun s => match s with | .val _ => true | .ins _ _ => true | _ => false) = true := h3
                rw [List.all_cons] at h3
                cases h3
          refine hq v F' H' ⟨st.sub, fun a ha => ?_, fun a u e hn2 => st.kept a u e (noMu a u e hn2), s1.fok⟩ hv (fun o a e1 e2 => ?_) fun a ha => ?_
          · rcases st.new a ha with z | z | ⟨j, hj⟩
            · exact .inl z
            · exact .inr z
            · obtain ⟨_, _, hm, _⟩ := lent a (mat_start hin hj).2
              exact (s1.nf ⟨0, hm⟩ ha).elim
          · obtain ⟨h1, h2⟩ := ho o a e1 e2
            rcases h2 with z | ⟨j, hj⟩
            · exact z
            · obtain ⟨_, _, hm, _⟩ := lent a (mat_start hin hj).2
              exact (h1 ⟨0, hm⟩).elim
          · obtain ⟨o', h1, hm, hio⟩ := lent a ha
            refine ⟨o', by rw [if_pos hio, h1]; rfl, mo_ok s1 hm (mo_at h1 rfl)⟩
        revert hq
        cases exB Γ d.body (ss ++ List.replicate (d.nslots - d.npar) .no) with
        | stuck => exact fun h => h
        | exc c =>
          intro hq σ' H' _ kept
          exact hq H' fun a o e hn2 => kept a o e (noMu a o e hn2)
        | ok r =>
          obtain ⟨fl, ρ'⟩ := r
          cases fl with
          | brk => exact fun h => h.elim
          | cnt => exact fun h => h.elim
          | next =>
            intro hq σ' F' H' s1 st
            exact fin (sl := .val .none) (ρ' := ρ') hq s1 st (show Rp K F' H' .non .none from .non) fun o a e => by cases e
          | ret sl =>
            intro hq v σ' F' H' s1 st hv ho
            exact fin (sl := sl) (ρ' := ρ') hq s1 st hv ho
    · rw [sz ss c] at hq
      exact hq.elim
end PM
set_option Elab.async false
set_option linter.all false
set_option maxRecDepth 100000
set_option maxHeartbeats 1000000
/-! PM: a loop over newly made errors, each of which is asked for its class and its text. -/
namespace PM
open PySem PySem.Spec PyProof.Rows L2
variable [Cur]
/-- an error made without arguments -/
def ExZ (C t a : Addr) : HO := .ext fun h => ∃ (oe : Obj) (fs : Array Value), h.get? a = some oe ∧ Zd (.ref C) none t oe ∧ oe.data = .fields fs
theorem exZ_ok {P : Program} {w : World} {H : Hp} {h : Heap} {C t a : Addr} {oe : Obj} {fs : Array Value} (e : h.get? a = some oe) (z : Zd (.ref C) none t oe) (d : oe.data = .fields fs) : ObjOk P w H h a (ExZ C t a) :=
  ⟨⟨oe, fs, e, z, d⟩, ⟨oe, e⟩, fun _ _ ⟨o, v, q, r⟩ k => ⟨o, v, k o q, r⟩⟩
/-- what is made here and stays -/
abbrev Ext (H H' : Hp) : Prop := ∀ b u, H b = some u → H' b = some u
def tMk (C : Addr) : TE := fun σ H Q => ∀ a t H', Ext H H' → H' a = some (ExZ C t a) → H' t = some (.tup []) → Q (.ref a) H'
theorem Un.laid2 {fs ex : List Addr} {H : Hp} {h h' : Heap} {a b : Addr} {o u : HO} (k : ∀ c v, h.get? c = some v → h'.get? c = some v) (ha : h.get? a = none) (hb : h.get? b = none) (na : H a = none) (nb : upd H a o b = none) : Un fs ex H (upd (upd H a o) b u) h h' where
  keep := fun c v q _ _ _ => k c v q
  slot := fun c v q _ _ _ => ⟨v.slots, k c v q⟩
  free := fun c v q n _ => by
    rw [upd_ne (fun z => by rw [z, hb] at q; cases q), upd_ne (fun z => by rw [z, ha] at q; cases q)]
    exact n
  there := fun c v q _ => ⟨v, k c v q⟩
  tups := fun c xs q => by
    have q2 : upd H a o c = some (.tup xs) := by rw [upd_ne (ne_of_none q na)]; exact q
    rw [upd_ne (ne_of_none q2 nb)]
    exact q2
  frzs := fun c v xs q => by
    have q2 : upd H a o c = some (.frz v xs) := by rw [upd_ne (ne_of_none q na)]; exact q
    rw [upd_ne (ne_of_none q2 nb)]
    exact q2
  tbls := fun c ps q => ⟨#[], by
    have q2 : upd H a o c = some (.tbl ps) := by rw [upd_ne (ne_of_none q na)]; exact q
    rw [upd_ne (ne_of_none q2 nb), q2]
    simp⟩
section
variable {X : Cx}
/-- C(), C an own error class -/
theorem pe_mk {x : Str} {p pos : Pos} {C : Addr} {bmB : List Value} {B newId initId : String} (F : ExcBaseFacts B newId initId bmB) (q : PySem.W.excIn X.K C bmB newId = true) (gC : X.mg x = some (.ref C)) (kC : PySem.W.keepIn X.K (.ref C) = true) (gl : Gl X x)
    (hdb : (x == ("__debug__" : Str)) = false) : PE X (.Call (.Name x p) [] [] pos) (tMk C) := by
  refine ⟨fun pins s σ H Q I h => ?_⟩
  refine wpAny_Call_Name_kw (ld_glob I gl gC (PySem.W.callWith_K0 (first := []) I.kIn kC ?_) hdb)
  show wpAny _ _ (call (.ref C) []) _ _ _
  obtain ⟨bm, N, nm, qn, bs, hdct, sn, sub, ab, col, dd, k0, k1, k2, k3, k5, mN, hC, hN, hni, T⟩ := exc_obj I.kIn q
  refine wpAny_call_exc_subT F T hC hN hni (fun h' e hm => ?_) (Nat.zero_le _)
  obtain ⟨t, g1, g2, g3⟩ := hm.there
  have ht : H t = none := I.hok.gone g2
  have hea : H e = none := I.hok.gone hm.new
  have hte : e ≠ t := fun z => by
    subst z
    rw [g1] at g3
    cases g3
  have hea2 : upd H t (.tup []) e = none := by rw [upd_ne hte]; exact hea
  have ok1 : HOk X.prog X.w (upd H t (.tup [])) h' := I.hok.laidN hm.keeps ht ⟨Nat.zero_le _, [], .nil, _, g3, rfl, _, rfl⟩
  have ok2 : HOk X.prog X.w (upd (upd H t (.tup [])) e (ExZ C t e)) h' := ok1.laidN (fun _ _ z => z) hea2 (exZ_ok g1 ⟨⟨rfl, rfl⟩, fun fs hf => by cases hf; exact ⟨rfl, rfl⟩⟩ rfl)
  refine ⟨.ref e, upd (upd H t (.tup [])) e (ExZ C t e), I.un (t' := s.toks) (Un.laid2 hm.keeps g2 hm.new ht hea2) ok2, rfl, ?_⟩
  exact h e t _ (fun b u hb => by
    have q2 : upd H t (.tup []) b = some u := by rw [upd_ne (ne_of_none hb ht)]; exact hb
    rw [upd_ne (ne_of_none q2 hea2)]; exact q2) upd_same (by rw [upd_ne (Ne.symm hte)]; exact upd_same)
theorem callr_isM {Cp : Addr} : CallR X (.builtin "isinstance") (fun xs H Q => ∃ a t C, xs = [.ref a, .ref Cp] ∧ H a = some (ExZ C t a) ∧ L2.ExcC X.K C ∧ PySem.W.kitOne X.K (.ref C) (.ref Cp) = some true ∧ Q (.bl true) H) := by
  intro pins s σ H xs us Q I r ⟨a, t, C, exs, ha, xc, ek, q⟩
  subst exs
  obtain ⟨u1, u2, rfl, r1, r2⟩ := r.two
  cases r1
  cases r2
  obtain ⟨⟨oe, fs, g, hz, hd⟩, _, _⟩ := (show ObjOk X.prog X.w H s.heap a (ExZ C t a) from I.hok a _ ha)
  have here : PySem.W.InstAt s.heap a oe C none := by
    obtain ⟨oc, od, oda, osl⟩ := oe
    obtain ⟨⟨z1, z2⟩, _⟩ := hz
    dsimp only at z1 z2 hd
    subst z1 z2 hd
    exact ⟨g, rfl, rfl, trivial⟩
  exact PySem.W.kia_one (PySem.W.handS_kitx_exc xc.hg xc.hk xc.hs xc.hd xc.ha xc.hn xc.ht xc.hm) I.kIn here ek (fun z => nomatch z) fun tk => ⟨.bl true, H, I.kept (t' := tk) fun _ _ z => z, rfl, q⟩
theorem callr_strM (hu : X.A.units + 2 < cLine) : CallR X (.type "str") (fun xs H Q => ∃ a t C, xs = [.ref a] ∧ H a = some (ExZ C t a) ∧ H t = some (.tup []) ∧ XcF X.K C ∧ Q (.str Str.empty) H) := by
  intro pins s σ H xs us Q I r ⟨a, t, C, exs, ha, ht, xf, q⟩
  subst exs
  obtain ⟨u, rfl, r1⟩ := r.one
  cases r1
  obtain ⟨⟨oe, fs, g, hz, hd⟩, _, _⟩ := (show ObjOk X.prog X.w H s.heap a (ExZ C t a) from I.hok a _ ha)
  obtain ⟨_, its, rv, o, g2, c2, n, d2⟩ := (show ObjOk X.prog X.w H s.heap t (.tup []) from I.hok t _ ht)
  cases rv
  exact PySem.P.str_of_C_none hu ⟨I.kIn, oe, fs, g, hz.1.1, hd, (hz.2 fs hd).1⟩ ⟨o, n, g2, c2, d2⟩ xf.tx xf.ex.hs ⟨.str Str.empty, H, I.tok _, ⟨_, rfl⟩, q⟩
/-- the suite of the loop -/
def madeIf (y : Str) (ps : Nat → Pos) (st : Stmt) : Stmt := .If (.BoolOp .Or [.UnaryOp .Not (.Call (.Name "isinstance" (ps 0)) [.Name y (ps 1), .Name "PlaypartsError" (ps 2)] [] (ps 3)) (ps 4),
    .Compare (.Call (.Name "str" (ps 5)) [.Name y (ps 6)] [] (ps 7)) [.NotEq] [.Constant (.str "") 0 (ps 8)] (ps 9)] (ps 10)) [st] [] (ps 11)
/-- the place i holds a made error -/
def MadeAt (K : PySem.W.Frag) (v : V) (H : Hp) : Prop := ∃ a t x, v = .ref a ∧ H a = some (ExZ (He.ga K x) t a) ∧ H t = some (.tup []) ∧ MadeC K x
theorem ps_madeIf {y : Str} {i : Nat} {ps : Nat → Pos} {st : Stmt} (hN : X.N[i]? = some y) (hv : Vis X.env.scope y) (d1 : (y == ("__debug__" : Str)) = false) (d2 : (y == ("__classdict__" : Str)) = false) (g0 : Gl X "isinstance" ∧ X.mg "isinstance" = none) (g1 : Gl X "PlaypartsError" ∧ X.mg "PlaypartsError" = some (.ref (He.ga X.K "PlaypartsError")))
    (g6 : Gl X "str" ∧ X.mg "str" = none) (hu : X.A.units + 2 < cLine) : PS X (madeIf y ps st) (fun D σ H => ∃ v, σ[i]? = some (some v) ∧ MadeAt X.K v H ∧ D.nx σ H) := by
  have isC := pe_callB (pos := ps 3) (p := ps 0) (callr_isM (X := X) (Cp := He.ga X.K "PlaypartsError")) g0.1 g0.2 (by decide +kernel) (pa_cons (pe_var (pos := ps 1) hN hv d1 d2) (pa_cons (pe_glob (v := .ref (He.ga X.K "PlaypartsError")) (pos := ps 2) g1.1 g1.2 rfl (by decide)) pa_nil))
  have strC := pe_callTy (pos := ps 7) (p := ps 5) (callr_strM (X := X) hu) g6.1 g6.2 (by decide +kernel) (pa_cons (pe_var (pos := ps 6) hN hv d1 d2) pa_nil)
  have test := (pw_or (pos := ps 10) (pt_not (pos := ps 4) (pt_truth isC fun _ => rfl)) (pw_or1 (pos := ps 10) (pt_cmpR (pos := ps 9) op_ne strC (pe_str (x := "") (j := 0) (pos := ps 8)) (nobehind _ (by decide) (by decide))))).pt
  have all := ps_if (pos := ps 11) test (pss_one (ps_never (st := st))) pss_nil
  refine ⟨fun pins s σ H D I ⟨v, hs, ⟨a, t, x, ev, ha, ht, mc⟩, q⟩ => all.run pins s σ H D I ?_⟩
  subst ev
  refine ⟨_, hs, a, t, _, rfl, ha, mc.xf.ex, mc.up, true, rfl, ?_⟩
  exact ⟨_, hs, a, t, _, rfl, ha, ht, mc.xf, rfl, false, by decide +kernel, q⟩
def tMkL (K : PySem.W.Frag) (n : Nat) : TA := fun _ H Q => ∀ vs H', Ext H H' → (∀ v ∈ vs, MadeAt K v H') → vs.length = n → Q vs H'
theorem pa_mk0 : PA X [] (tMkL X.K 0) := PA.imp pa_nil fun _ H _ h => h [] H (fun _ _ e => e) (fun _ h => (List.not_mem_nil h).elim) rfl
theorem pa_mk {x : Str} {p pos : Pos} {es : List Expr} {n : Nat} (rf : RaiseF X x) (mc : MadeC X.K x) (gl : Gl X x) (hdb : (x == ("__debug__" : Str)) = false) (hr : PA X es (tMkL X.K n))
    (hs : starEach (.Call (.Name x p) [] [] pos :: es) X.env = (false, eval (.Call (.Name x p) [] [] pos) X.env) :: starEach es X.env) : PA X (.Call (.Name x p) [] [] pos :: es) (tMkL X.K (n + 1)) := by
  obtain ⟨bmB, B, newId, initId, F, q⟩ := rf.ex
  refine PA.imp (pa_cons (pe_mk F q rf.gC rf.kC gl hdb) hr hs) fun σ H Q h => ?_
  intro a t H1 e1 ha ht vs H2 e2 hm hl
  refine h (.ref a :: vs) H2 (fun b u hb => e2 b u (e1 b u hb)) (fun v hv => ?_) (by rw [List.length_cons, hl])
  rcases List.mem_cons.mp hv with rfl | hv
  · exact ⟨a, t, x, rfl, e2 _ _ ha, e2 _ _ ht, mc⟩
  · exact hm v hv
variable {F : Ad} {H : Hp} {ρ ρ' : Fr} {σ : L2.St} {Γ : Ctx} {W : WX}
theorem Sim.junk {K : PySem.W.Frag} {i : Nat} {v : V} (sim : Sim K F H ρ σ) (e : junkF i ρ = some ρ') : i < ρ.length ∧ Sim K F H ρ' (σ.set i (some v)) ∧ Stp ρ σ F H ρ' (σ.set i (some v)) F H := by
  unfold junkF at e
  cases es : ρ[i]? with
  | none => rw [es] at e; cases e
  | some s =>
    have hi : i < ρ.length := (List.getElem?_eq_some_iff.mp es).1
    have hb : ∀ o, s ≠ .brw o := fun o z => by subst z; rw [es] at e; cases e
    have e' : ρ' = ρ.set i .no := by
      rw [es] at e
      cases s with
      | brw o => cases e
      | _ => cases e; rfl
    subst e'
    have hm : ∀ j b, MAt (ρ.set i .no) (σ.set i (some v)) j b → MAt ρ σ j b := fun j b h => by
      obtain ⟨⟨s2, o, e1, m⟩, e2⟩ := h
      by_cases hj : j = i
      · subst hj
        rw [List.getElem?_set_self hi] at e1
        cases e1
        cases m
      · rw [List.getElem?_set_ne (Ne.symm hj)] at e1 e2
        exact ⟨⟨s2, o, e1, m⟩, e2⟩
    refine ⟨hi, ⟨by rw [List.length_set, List.length_set]; exact sim.len, fun j sl ej => ?_, fun x y b h1 h2 => sim.apart x y b (hm x b h1) (hm y b h2), sim.fok⟩, ⟨fun _ h => h, fun _ h => .inl h, fun _ _ h _ => h, fun b ⟨j, h⟩ => .inr ⟨j, hm j b h⟩, fun j o ej => ?_, List.length_set⟩⟩
    · by_cases hj : j = i
      · subst hj
        rw [List.getElem?_set_self hi] at ej
        cases ej
        trivial
      · rw [List.getElem?_set_ne (Ne.symm hj)] at ej ⊢
        exact sim.ok j sl ej
    · have hj : i ≠ j := fun z => by
        subst z
        rw [es] at ej
        cases ej
        exact hb _ rfl
      rw [List.getElem?_set_ne hj, List.getElem?_set_ne hj]
      exact ⟨⟨o, ej⟩, rfl⟩
/-- for y in (C1(), .. Cn()): if not isinstance(y, PlaypartsError) or str(y) != "": .. -/
theorem sok_mades {y : Str} {i n : Nat} {x1 : Nat} {es : List Expr} {py tpos pos : Pos} {st : Stmt} {ps : Nat → Pos} (hp : PassesOwn (model X.prog X.w) X.A X.env X.xe) (hc : X.calm = true) (hNd : X.N.Nodup) (hN : X.N[i]? = some y) (hx : X.env.scope.names.lookup y = some .local) (hv : Vis X.env.scope y)
    (d1 : (y == ("__debug__" : Str)) = false) (d2 : (y == ("__classdict__" : Str)) = false) (g0 : Gl X "isinstance" ∧ X.mg "isinstance" = none) (g1 : Gl X "PlaypartsError" ∧ X.mg "PlaypartsError" = some (.ref (He.ga X.K "PlaypartsError"))) (g6 : Gl X "str" ∧ X.mg "str" = none)
    (hu : X.A.units + 2 < cLine) (ha : PA X es (tMkL X.K n)) (h0 : 0 < n) (hn : n ≤ 1000) (hs : ∀ x, foldedSetIterable (.Tuple es x1 tpos) X.env x = pure x) : SOk X Γ W (.For (.Name y py) (.Tuple es x1 tpos) [madeIf y ps st] [] pos) (.junk i) := by
  refine PS.imp (ps_for hp hc (pi_tup (pe_tup ha)) (pg_name hNd hN (.inl hx) (.inr hx)) (pss_one (ps_madeIf (ps := ps) (st := st) hN hv d1 d2 g0 g1 g6 hu)) hs) fun D σ H ⟨F, ρ, sim, q⟩ => ?_
  have q : sAt X.K W ((Res.of (junkF i ρ)).bind fun r => .ok (.next, r)) D ρ F σ H := q
  obtain ⟨ρ', ej, q⟩ := q.of
  intro vs H1 e1 hm hl
  have hsz : (1000 : Nat) ≤ sizeLine := by rw [sizeLine_eq]; decide
  refine ⟨by omega, fun p hpn => ⟨p, rfl, ⟨vs, .inl (.inl upd_same)⟩, ?_⟩⟩
  have e2 : Ext H (upd H1 p (.tup vs)) := fun b u hb => by rw [upd_ne (ne_of_none (e1 b u hb) hpn)]; exact e1 b u hb
  have hm2 : ∀ v ∈ vs, MadeAt X.K v (upd H1 p (.tup vs)) := fun v hv => by
    obtain ⟨a, t, x, ev, h1, h2, mc⟩ := hm v hv
    exact ⟨a, t, x, ev, by rw [upd_ne (ne_of_none h1 hpn)]; exact h1, by rw [upd_ne (ne_of_none h2 hpn)]; exact h2, mc⟩
  have sq : SqT X.K (upd H1 p (.tup vs)) p vs := .inl (.inl upd_same)
  have hi : i < σ.length := by rw [← sim.len]; exact (Sim.junk (v := .non) sim ej).1
  refine ⟨fun j m σ' H' => m = vs.length - j ∧ j ≤ vs.length ∧ H' = upd H1 p (.tup vs) ∧ ((j = 0 ∧ σ' = σ) ∨ ∃ v, σ' = σ.set i (some v)), ⟨vs.length, rfl, Nat.zero_le _, rfl, .inl ⟨rfl, rfl⟩⟩, ?_⟩
  rintro j m σ' H' ⟨em, hj, eH, hσ⟩
  subst eH
  by_cases hjl : j = vs.length
  · refine .inl ⟨⟨vs, sq, by omega⟩, ?_⟩
    rcases hσ with ⟨z, _⟩ | ⟨v, rfl⟩
    · omega
    · obtain ⟨_, s1, st1⟩ := Sim.junk (v := v) sim ej
      obtain ⟨s2, st2⟩ := s1.stay (F' := F) (H' := upd H1 p (.tup vs)) (fun _ h => h) (fun _ h => .inl h) e2 fun b hb z => by
        cases e : H b with
        | none => exact sim.fok b hb e
        | some u => rw [e2 b u e] at z; cases z
      exact q _ F _ s2 (st1.trans st2)
  · have hlt : j < vs.length := by omega
    refine .inr ⟨⟨vs, vs[j], sq, List.getElem?_eq_getElem hlt⟩, fun σ2 H2 => σ2 = σ.set i (some vs[j]) ∧ H2 = upd H1 p (.tup vs), ?_, ?_⟩
    · rintro σ2 H2 ⟨rfl, rfl⟩
      exact ⟨vs.length - (j + 1), by omega, rfl, by omega, rfl, .inr ⟨_, rfl⟩⟩
    · rintro x H2 ⟨rfl, hx2⟩
      have ex : vs[j]? = some x := hx2 vs sq
      rw [List.getElem?_eq_getElem hlt] at ex
      cases ex
      have eσ : σ'.set i (some vs[j]) = σ.set i (some vs[j]) := by
        rcases hσ with ⟨_, rfl⟩ | ⟨v, rfl⟩
        · rfl
        · rw [List.set_set]
      show ∃ v, (σ'.set i (some vs[j]))[i]? = some (some v) ∧ MadeAt X.K v _ ∧ _
      rw [eσ]
      exact ⟨vs[j], List.getElem?_set_self hi, hm2 _ (List.getElem_mem hlt), rfl, rfl⟩
end
end PM
set_option Elab.async false
set_option linter.all false
set_option maxRecDepth 100000
set_option maxHeartbeats 1000000
/-! PM: a tuple read backwards. -/
namespace PM
open PySem PySem.Spec PySem.Calls PyProof.Rows HT
theorem fm_congr {α β : Type} {f g : α → Option β} : ∀ {xs : List α}, (∀ x ∈ xs, f x = g x) → xs.filterMap f = xs.filterMap g
  | [], _ => rfl
  | x :: xs, h => by
    rw [List.filterMap_cons, List.filterMap_cons, h x List.mem_cons_self, fm_congr fun y hy => h y (List.mem_cons_of_mem _ hy)]
section
variable {prog : Program} {w : World} {A : Around} {E : Value → Shared → Prop} {s : Shared}
theorem adjust_rev (n : Nat) : Builtin.Slice.sliceAdjust none none (-1) (n : Int) = ((n : Int) - 1, -1) := by
  have h1 : ((-1 : Int) < 0) := by omega
  unfold Builtin.Slice.sliceAdjust
  simp only [h1, if_true]
theorem places_rev (n : Nat) : Builtin.Slice.slicePlaces ((n : Int) - 1) (-1) (-1) = n := by
  unfold Builtin.Slice.slicePlaces
  have h1 : ¬ ((-1 : Int) > 0) := by omega
  simp only [h1, if_false]
  rw [show (- (-1 : Int)) = 1 from rfl, Int.ediv_one]
  split <;> omega
theorem sliceApplied_rev {sl : Addr} {vl vu vs : Value} {n : Nat} {Q : Int × Int × Nat → Shared → Prop} (hs : s.heap.IsSliceOf sl vl vu vs) (pl : IsPart vl none) (pu : IsPart vu none) (ps : IsPart vs (some (-1)))
    (h : Q ((n : Int) - 1, -1, n) s) : wpAny (model prog w) A (Builtin.Slice.sliceApplied (.ref sl) (pure (n : Int))) Q E s := by
  obtain ⟨os, hos, hcs, hds⟩ := id hs
  unfold Builtin.Slice.sliceApplied Builtin.Slice.sliceFields
  refine wpAny_bind (wpAny_bind (wpAny_field hos hds (x := vl) rfl (wpAny_bind (wpAny_field hos hds (x := vu) rfl (wpAny_bind (wpAny_field hos hds (x := vs) rfl (wpAny_pure ?_)))))))
  refine wpAny_bind (slicePart_ ps ?_)
  show wpAny _ _ (if ((-1 : Int) == 0) = true then _ else _) _ _ s
  rw [if_neg (by decide)]
  refine wpAny_bind (slicePart_ pl (wpAny_bind (slicePart_ pu (wpAny_bind (wpAny_pure ?_)))))
  show wpAny _ _ (match Builtin.Slice.sliceAdjust none none (-1) (n : Int) with | (lo, hi) => pure (lo, (-1 : Int), Builtin.Slice.slicePlaces lo hi (-1))) _ _ s
  rw [adjust_rev n]
  show wpAny _ _ (pure ((n : Int) - 1, (-1 : Int), Builtin.Slice.slicePlaces ((n : Int) - 1) (-1) (-1))) _ _ s
  rw [places_rev]
  exact wpAny_pure h
theorem pick_rev (xs : Array Value) : ((List.range xs.size).filterMap fun (m : Nat) => xs[((xs.size : Int) - 1 + (m : Int) * (-1)).toNat]?).toArray = xs.toList.reverse.toArray := by
  have e : ((List.range xs.size).filterMap fun (m : Nat) => xs[((xs.size : Int) - 1 + (m : Int) * (-1)).toNat]?) = ((List.range xs.size).map fun k => xs.size - 1 - k).filterMap (xs[·]?) := by
    rw [List.filterMap_map]
    refine fm_congr fun m hm => ?_
    have := List.mem_range.mp hm
    show xs[((xs.size : Int) - 1 + (m : Int) * (-1)).toNat]? = xs[xs.size - 1 - m]?
    rw [show ((xs.size : Int) - 1 + (m : Int) * (-1)).toNat = xs.size - 1 - m from by omega]
  rw [e, PySem.W.krv_range, List.filterMap_reverse, PySem.W.krv_all]
theorem getItem_tuple_rev {t sl : Addr} {items : Array Value} {vl vu vs : Value} {Q : Value → Shared → Prop} (ht : IsTup s.heap t items) (hs : s.heap.IsSliceOf sl vl vu vs) (pl : IsPart vl none) (pu : IsPart vu none) (ps : IsPart vs (some (-1)))
    (h : Q (.ref s.heap.objs.size) { s with heap := s.heap.push { cls := .type "tuple", data := .seq items.toList.reverse.toArray } })
    (hsz : items.size ≤ sizeLine) : wpAny (model prog w) A (getItem (.ref t) (.ref sl)) Q E s := by
  have htake : sizeOk (.seq items.toList.reverse.toArray) := by
    show items.toList.reverse.toArray.size ≤ sizeLine
    rw [List.size_toArray, List.length_reverse, Array.length_toList]
    exact hsz
  obtain ⟨os, hos, hcs, hds⟩ := id hs
  have hTs : s.TypeIs (.ref sl) "slice" := ⟨os, hos, hcs⟩
  unfold getItem
  try with_reducible refine wpAny_holding ?_
  first | refine wpAny_bind (wpAny_pure ?_) | skip
  refine wpAny_bind (wpAny_sequenceKey ht.typeIs (by decide) ?_)
  refine wpAny_bind (wpAny_callSpecial?_slot (name := Str.ofString "__getitem__") ht.typeIs PyProof.Rows.slot_tuple_getitem
    (wpAny_call_entry PyProof.Rows.slot_tuple_getitem ht.typeIs entry_tuple_getitem ?_ (args_tuple_getitem _ _)))
  show wpAny _ _ (Builtin.Tuple.tupleItemsOf (.ref t) >>= _) _ _ s
  refine wpAny_bind (tupleItemsOf_ ht ?_)
  refine wpAny_bind (wpAny_typeOf hTs ?_)
  rw [if_pos (by decide)]
  refine wpAny_bind (sliceApplied_rev hs pl pu ps ?_)
  have hno : ¬ ((((items.size : Int) - 1) == 0 && (-1 : Int) == 1 && items.size == items.size) = true) := by
    intro q
    rw [Bool.and_eq_true, Bool.and_eq_true] at q
    exact absurd q.1.2 (by decide)
  show wpAny _ _ (if (((items.size : Int) - 1) == 0 && (-1 : Int) == 1 && items.size == items.size) = true then _ else _) _ _ s
  rw [if_neg hno, pick_rev]
  first
    | exact wpAny_bind (m := Builtin.Tuple.tupleExact _) (wpAny_newObj_type (wpAny_pure ⟨_, rfl, wpAny_pure h⟩) htake)
    | exact wpAny_bind (m := Builtin.Tuple.tupleExact _) (wpAny_newObj_type (wpAny_bind (wpAny_pure (wpAny_pure ⟨_, rfl, wpAny_pure h⟩))) htake)
    | exact wpAny_bind (wpAny_bind (m := Builtin.Tuple.tupleExact _) (wpAny_newObj_type (wpAny_pure (wpAny_pure ⟨_, rfl, wpAny_pure h⟩)) htake))
    | exact wpAny_bind (wpAny_bind (m := Builtin.Tuple.tupleExact _) (wpAny_newObj_type (wpAny_pure ⟨_, rfl, wpAny_pure h⟩) htake))
end
end PM
namespace PM
open PySem PySem.Spec PyProof.Rows L2
variable [Cur]
def tRevT (K : PySem.W.Frag) (te : TE) : TE := fun σ H Q => te σ H fun x H1 => ∃ a xs, x = .ref a ∧ SqT K H1 a xs ∧ ∀ p, H1 p = none → Q (.ref p) (upd H1 p (.tup xs.reverse))
section
variable {X : Cx} {Γ : Ctx} {W : WX}
theorem pe_revT {e : Expr} {te : TE} {k : Nat} {p1 p2 p3 pos : Pos} (he : PE X e te) : PE X (.Subscript e (.Slice none none (some (.UnaryOp .USub (.Constant (.int 1) k p1) p2)) p3) pos) (tRevT X.K te) := by
  refine ⟨fun pins s σ H Q I h => ?_⟩
  refine Subscript_ (thn (he.run pins s σ H _ I h) fun v s1 ⟨x, H1, I1, r1, q1⟩ => ?_)
  obtain ⟨a, xs, ex, hx, q⟩ := q1
  subst ex
  cases r1
  have hst : PO X (some (.UnaryOp .USub (.Constant (.int 1) k p1) p2)) (tPart (tUn (rU fun i => .int (-i)) (tC (.int 1)))) := po_some (pe_un un_neg pe_int)
  refine wpAny_Slice (thn (po_none.run pins s1 σ H1 (fun o H2 => o = none ∧ H2 = H1) I1 ⟨rfl, rfl⟩) fun vl s2 ⟨l, H2, I2, pl, el, e2⟩ => ?_)
  subst el e2
  refine thn (po_none.run pins s2 σ H2 (fun o H3 => o = none ∧ H3 = H2) I2 ⟨rfl, rfl⟩) fun vu s3 ⟨u, H3, I3, pu, eu, e3⟩ => ?_
  subst eu e3
  refine thn (hst.run pins s3 σ H3 (fun o H4 => o = some (-1) ∧ H4 = H3) I3 ⟨1, rfl, -1, rfl, rfl, rfl⟩) fun vs s4 ⟨o, H4, I4, ps, eo, e4⟩ => ?_
  subst eo e4
  have I5 : Inv X pins σ H4 { s4 with heap := s4.heap.push { cls := .type "slice", data := .fields #[vl, vu, vs] } } := I4.kept (t' := s4.toks) fun b ob q => Heap.get?_push_of_some _ q
  obtain ⟨its, r, ht, hz⟩ := I5.tuple hx
  have hlen := r.length
  show wpAny (model X.prog X.w) X.A (subscriptTail e (.Slice none none (some (.UnaryOp .USub (.Constant (.int 1) k p1) p2)) p3) (.ref a) (.ref s4.heap.objs.size)) (EP X pins σ Q) X.xe { s4 with heap := s4.heap.push { cls := .type "slice", data := .fields #[vl, vu, vs] } }
  refine tail_any (ops := [.ref a, .ref s4.heap.objs.size]) ht.typeIs (PyProof.Rows.slot_tuple_getitem.lookup) ?_ (by with_unfolding_all rfl)
  refine getItem_tuple_rev ht (Heap.IsSliceOf.new _ vl vu vs) pl pu ps ?_ (by rw [List.size_toArray]; omega)
  refine ⟨.ref _, _, I5.laid (t' := s4.toks) (o := .tup xs.reverse) (fun b ob q => Heap.get?_push_of_some _ q) (Nat.le_refl _) ?_, rfl, q _ (I5.hok.fresh (Nat.le_refl _))⟩
  exact ⟨by rw [List.length_reverse]; exact hz, its.reverse, r.reverse, _, Heap.get?_push_size _ rfl, rfl, 0, rfl⟩
theorem RpA.snoc {K : PySem.W.Frag} {F : Ad} {H : Hp} {v : V} {d : PyData} (h : Rp K F H v d) : ∀ {xs : List V} {ds : List PyData}, RpA K F H xs ds → RpA K F H (xs ++ [v]) (ds ++ [d])
  | _, _, .nil => .cons h .nil
  | _, _, .cons h1 h2 => .cons h1 (RpA.snoc h h2)
theorem RpA.reverse {K : PySem.W.Frag} {F : Ad} {H : Hp} : ∀ {xs : List V} {ds : List PyData}, RpA K F H xs ds → RpA K F H xs.reverse ds.reverse
  | _, _, .nil => .nil
  | _, _, .cons h1 h2 => by
    rw [List.reverse_cons, List.reverse_cons]
    exact RpA.snoc h1 (RpA.reverse h2)
theorem ok_rev {a : Expr} {a' : E} {k : Nat} {p1 p2 p3 pos : Pos} (ha : Ok X Γ W a a') : Ok X Γ W (.Subscript a (.Slice none none (some (.UnaryOp .USub (.Constant (.int 1) k p1) p2)) p3) pos) (.rev a') := by
  refine .of rfl (PE.imp (pe_revT ha.p) fun σ H Q ⟨F, ρ, s, q⟩ => ⟨F, ρ, s, ?_⟩) fun _ => rfl
  refine (rdAt.bind (R1 := PR X.K) bkV s (show rdAt X.K W (((dn Γ a').p ρ).bind fun x => (Res.of (revV (x.1.vw x.2))).bind fun s => .ok (s, x.2)) (VR X.K) ρ F σ H Q from q)).mono fun v1 H1 ⟨F1, ρ1, x, s1, st1, r1, q1⟩ => ?_
  obtain ⟨sl, es, q4⟩ := q1.of
  cases ew : x.vw ρ1 with
  | none => simp only [ew] at es; cases es
  | some w =>
    simp only [ew] at es
    have hw := x.vwOk s1 r1.opd ew
    cases w with
    | dat c =>
      cases c with
      | tuple ds =>
        cases es
        have hw' : Rp X.K F1 H1 v1 (.tuple ds) := hw
        cases hw' with
        | @tup p xs _ h1 h2 => exact ⟨p, xs, rfl, h1.sq, fun q hp => q4.newTup s1 hp h2.reverse⟩
      | none => cases es
      | bool _ => cases es
      | int _ => cases es
      | str _ => cases es
      | dict _ => cases es
      | list _ => cases es
    | dic _ => cases es
    | set _ => cases es
    | ins _ _ => cases es
end
end PM
set_option Elab.async false
set_option linter.all false
set_option maxRecDepth 100000
set_option maxHeartbeats 1000000
/-! PM: max(.., default=..). -/
namespace PM
open PySem PySem.Spec PyProof.Rows L2
variable [Cur]
theorem maxI_fold : ∀ (r : List Int) (x : Int), PySem.W.maxOf x r = maxI x r
  | [], x => rfl
  | z :: r, x => by
    have ih := maxI_fold r (if z > x then z else x)
    show PySem.W.maxOf (if PySem.W.DatumOrd.lt x z = true then z else x) r = _
    have e : (if PySem.W.DatumOrd.lt x z = true then z else x) = (if z > x then z else x) := by
      show (if decide (x < z) = true then z else x) = (if z > x then z else x)
      by_cases c : z > x
      · rw [if_pos c, if_pos (decide_eq_true c)]
      · rw [if_neg c, if_neg fun h => c (of_decide_eq_true h)]
    rw [e]
    exact ih
def rMxd (K : PySem.W.Frag) : List V → List V → Hp → VK → Prop := fun xs zs H Q => ∃ (a : Addr) (ns : List Int) (z : V), xs = [.ref a] ∧ zs = [z] ∧ SqL K H a (ns.map V.int) ∧ ((ns = [] ∧ Q z H) ∨ ∃ n r, ns = n :: r ∧ Q (.int (maxI n r)) H)
theorem crk_max {X : Cx} (hc : X.calm = true) (hu : X.A.units + 70 < cLine) : CallRK X (.builtin "max") ["default"] (rMxd X.K) := by
  intro pins s σ H xs zs us ws Q I r rz ⟨a, ns, z, e1, e2, hs, hq⟩
  subst e1 e2
  obtain ⟨its, rv, hl, _⟩ := I.list hs
  rw [Vals.ref1 r]
  obtain ⟨u, rfl, ru⟩ := rz.one
  have hi := rv.ints
  have dp : ∀ ns : List Int, DpAll X.K H (ns.map V.int) (ns.map PyData.int) := fun ns => by
    induction ns with
    | nil => exact .nil
    | cons n r ih => exact .cons (.int n) ih
  obtain ⟨as, hra⟩ := Dp.readsAll I (ns.map PyData.int) _ its (dp ns) rv
  have hold : PySem.W.HoldAll s.heap its.toArray.toList ns := ⟨as, hra⟩
  have hdp : PySem.W.Datum.depth Int ≤ 60 := by decide
  refine PySem.W.max_list_datum_default (I.ok.hd hc) hl.isList hold (by omega) (fun e h' tk k => ?_) fun y ys i v h' tk e hv hh k => ?_
  · rcases hq with ⟨_, q⟩ | ⟨n, r, e2, _⟩
    · exact ⟨z, H, I.kept k, ru, q⟩
    · rw [e] at e2; cases e2
  · rcases hq with ⟨e2, _⟩ | ⟨n, r, e2, q⟩
    · rw [e] at e2; cases e2
    · rw [e] at e2
      cases e2
      obtain ⟨bs, hrd⟩ := hh
      have hrd : PySem.Reads h' v (.int (PySem.W.maxOf y ys)) bs := hrd
      cases hrd
      rw [maxI_fold]
      exact ⟨.int _, H, I.kept k, ⟨_, rfl⟩, q⟩
section
variable {X : Cx} {Γ : Ctx} {W : WX} {e d : Expr} {e' d' : E} {p pos kp : Pos}
/-- max(l, default=d) -/
theorem ok_maxd (wr : Wor X W) (gl : Gl X "max") (hm : X.mg "max" = none) (he : Ok X Γ W e e') (hd : Ok X Γ W d d') (hst : starEach [e] X.env = (false, eval e X.env) :: starEach [] X.env) (h1 : backTo pos (starEach [e] X.env) = (false, eval e X.env) :: backTo pos (starEach [] X.env)) (h2 : (backTo pos (starEach [e] X.env)).any (·.1) = false) :
    Ok X Γ W (.Call (.Name "max" p) [e] [⟨some "default", d, kp⟩] pos) (.blt .maxd [e', d']) := by
  have hu := wr.hu
  have hv : PEV X W (.Call (.Name "max" p) [e] [⟨some "default", d, kp⟩] pos) (dn Γ (.blt .maxd [e', d'])) := by
    refine PE.imp (pe_callBK (crk_max wr.calm hu) gl hm (by decide +kernel) (pa_cons he.p pa_nil hst) (pk_cons hd.p pk_nil) (by decide) (by decide) h1 h2) fun σ H Q ⟨F, ρ, sim, q⟩ => ?_
    have q : rdAt X.K W (((dn Γ e').p ρ).bind fun x => (((dn Γ d').p x.2).bind fun y => Res.ok ([x.1, y.1], y.2)).bind fun z => (Res.of (bltV .maxd (z.1.map fun p => p.vw z.2))).bind fun s => .ok (s, z.2)) (VR X.K) ρ F σ H Q := by
      have e0 : (dn Γ (.blt .maxd [e', d'])).v ρ = (((dn Γ e').p ρ).bind fun x => (((dn Γ d').p x.2).bind fun y => Res.ok ([x.1, y.1], y.2)).bind fun z => (Res.of (bltV .maxd (z.1.map fun p => p.vw z.2))).bind fun s => .ok (s, z.2)) := by
        show (((dn Γ e').p ρ).bind fun x => (((dn Γ d').p x.2).bind fun y => Res.bind (.ok ([], y.2)) fun y2 => .ok (y.1 :: y2.1, y2.2)).bind fun y => .ok (x.1 :: y.1, y.2)).bind _ = _
        cases (dn Γ e').p ρ with
        | ok x =>
          show ((((dn Γ d').p x.2).bind fun y => Res.bind (.ok ([], y.2)) fun y2 => .ok (y.1 :: y2.1, y2.2)).bind fun y => .ok (x.1 :: y.1, y.2)).bind _ = (((dn Γ d').p x.2).bind fun y => Res.ok ([x.1, y.1], y.2)).bind _
          cases (dn Γ d').p x.2 with
          | ok y => rfl
          | exc c => rfl
          | stuck => rfl
        | exc c => rfl
        | stuck => rfl
      rw [← e0]
      exact q
    refine ⟨F, ρ, sim, (rdAt.bind (R1 := PR X.K) bkV sim q).mono fun v1 H1 ⟨F1, ρ1, x, s1, st1, r1, q1⟩ => ?_⟩
    refine ⟨F1, ρ1, s1, ?_⟩
    have q1 : rdAt X.K W (((dn Γ d').p ρ1).bind fun y => (Res.of (bltV .maxd ([x, y.1].map fun p => p.vw y.2))).bind fun s => .ok (s, y.2)) (VR X.K) ρ1 F1 σ H1 Q := by
      have e0 : (((dn Γ d').p ρ1).bind fun y => (Res.of (bltV .maxd ([x, y.1].map fun p => p.vw y.2))).bind fun s => Res.ok (s, y.2)) = ((((dn Γ d').p ρ1).bind fun y => Res.ok ([x, y.1], y.2)).bind fun z => (Res.of (bltV .maxd (z.1.map fun p => p.vw z.2))).bind fun s => .ok (s, z.2)) := by
        cases (dn Γ d').p ρ1 <;> rfl
      rw [e0]
      exact q1
    refine (rdAt.bind (R1 := PR X.K) bkV s1 q1).mono fun v2 H2 ⟨F2, ρ2, y, s2, st2, r2, q2⟩ => ?_
    obtain ⟨sl, es, q3⟩ := q2.of
    have es : ((lstOf (x.vw ρ2)).bind fun xs => (intsOf xs).bind fun ns => (intV (y.vw ρ2)).map fun j => Slot.val (.int ((maxL ns).getD j))) = some sl := es
    obtain ⟨xs, e1, es⟩ := Option.bind_eq_some_iff.mp es
    obtain ⟨ns, e2, es⟩ := Option.bind_eq_some_iff.mp es
    obtain ⟨dd, e3, rfl⟩ := Option.map_eq_some_iff.mp es
    have ox := r1.opd.step s1 st2
    obtain ⟨a, ys, rfl, h1, h2⟩ := lst_ok (fun w e => x.vwOk s2 ox e) e1
    rw [ints_ok h2 e2] at h1
    refine ⟨a, ns, v2, rfl, rfl, h1, ?_⟩
    cases ns with
    | nil =>
      refine .inl ⟨rfl, ?_⟩
      cases int_ok (fun w e => y.vwOk s2 r2.opd e) e3
      exact q3.done s2 (nov (.int _))
    | cons n r => exact .inr ⟨n, r, rfl, q3.done s2 (nov (.int _))⟩
  exact ⟨hv, pep_none rfl hv, pet_of (pep_none rfl hv) (fun _ => rfl) rfl⟩
end
end PM
set_option Elab.async false
set_option linter.all false
set_option maxRecDepth 100000
set_option maxHeartbeats 1000000
/-! PM: set(), found.add(k). -/
namespace PM
open PySem PySem.Spec PyProof.Rows L2
variable [Cur]
section
variable {X : Cx} {Γ : Ctx} {W : WX} {x : Str} {p pos apos : Pos} {e o : Expr} {e' o' : E} {es : List Expr} {es' : List E}
theorem newSet {K : PySem.W.Frag} {F : Ad} {H : Hp} {ρ : Fr} {σ : L2.St} {Q : VK} {p : Addr} (h : rdAt K W (.ok (.own (.set []), ρ)) (VR K) ρ F σ H Q) (sim : Sim K F H ρ σ) (hp : H p = none) : Q (.ref p) (upd H p (SetE Cur.w p)) := by
  have hn := sim.nfn hp
  refine h (.ref p) F (upd H p (SetE Cur.w p)) (sim.new hp _ (sameF_iff hn)) (Stp.alloc hp _ (sameF_iff hn)) ⟨⟨p, rfl, hn, .inl ⟨rfl, upd_same⟩⟩, fun o a _ e => ?_⟩
  cases e
  exact ⟨sim.nmu hp, .inl hp⟩
theorem ok_set0 (wr : Wor X W) (gl : Gl X "set") (hm : X.mg "set" = none) : Ok X Γ W (.Call (.Name "set" p) [] [] pos) (.blt .set []) := by
  have hv : PEV X W (.Call (.Name "set" p) [] [] pos) (dn Γ (.blt .set [])) := PE.imp (pe_callTy0 cr_setE gl hm rfl) fun σ H Q ⟨F, ρ, sim, q⟩ => by
    have q : rdAt X.K W (.ok (.own (.set []), ρ)) (VR X.K) ρ F σ H Q := q
    refine ⟨rfl, fun p hp => ?_⟩
    rw [wr.cw]
    exact newSet q sim hp
  exact ⟨hv, pep_none rfl hv, pet_of (pep_none rfl hv) (fun _ => rfl) rfl⟩
theorem addK_int {is : List Int} {i : Int} : addK (is.map PyData.int) (.int i) = (if i ∈ is then is else is ++ [i]).map PyData.int := by
  have h : ((is.map PyData.int).any fun z => PyData.eqv z (.int i)) = decide (i ∈ is) := by
    rw [Bool.eq_iff_iff, List.any_eq_true, decide_eq_true_eq]
    constructor
    · rintro ⟨z, hz, h⟩
      obtain ⟨j, hj, rfl⟩ := List.mem_map.mp hz
      simp only [PyData.eqv, beq_iff_eq] at h
      exact h ▸ hj
    · exact fun h => ⟨.int i, List.mem_map_of_mem h, by simp [PyData.eqv]⟩
  unfold addK
  rw [h]
  by_cases hi : i ∈ is
  · rw [if_pos (decide_eq_true hi), if_pos hi]
  · rw [if_neg (by simpa using hi), if_neg hi, List.map_append]
    rfl
theorem eqv_tupI : ∀ {k l : List Int}, PyData.eqvAll (k.map .int) (l.map .int) = decide (k = l)
  | [], [] => by simp [PyData.eqvAll]
  | [], _ :: _ => by simp [PyData.eqvAll]
  | _ :: _, [] => by simp [PyData.eqvAll]
  | a :: k, b :: l => by
    rw [List.map_cons, List.map_cons, PyData.eqvAll, eqv_tupI]
    simp only [PyData.eqv]
    rw [Bool.eq_iff_iff]
    simp
theorem flat_data {d : PyData} (h : isFlat d = true) : ∃ k : List Int, d = tupI k := by
  unfold isFlat at h
  split at h
  · next xs =>
    have key : ∀ xs : List PyData, xs.all isIntKey = true → ∃ k : List Int, xs = k.map .int := fun xs => by
      induction xs with
      | nil => exact fun _ => ⟨[], rfl⟩
      | cons x xs ih =>
        intro h
        rw [List.all_cons, Bool.and_eq_true] at h
        obtain ⟨k, rfl⟩ := ih h.2
        cases x with
        | int i => exact ⟨i :: k, rfl⟩
        | _ => cases h.1
    obtain ⟨k, rfl⟩ := key xs h
    exact ⟨k, rfl⟩
  · cases h
theorem rp_ints {K : PySem.W.Frag} {F : Ad} {H : Hp} : ∀ {xs : List V} {k : List Int}, RpA K F H xs (k.map .int) → xs = k.map V.int
  | [], [], _ => rfl
  | [], _ :: _, h => by cases h
  | _ :: _, [], h => by cases h
  | x :: xs, i :: k, h => by
    cases h with
    | cons h t =>
      cases h
      rw [rp_ints t, List.map_cons]
theorem any_tupI {ks : List PyData} {L : List (Addr × List Int)} {k : List Int} (h : (L.map fun p => tupI p.2).Perm ks) : (ks.any fun z => PyData.eqv z (tupI k)) = decide (k ∈ L.map (·.2)) := by
  rw [Bool.eq_iff_iff, List.any_eq_true, decide_eq_true_eq]
  constructor
  · rintro ⟨z, hz, he⟩
    obtain ⟨p, hp, rfl⟩ := List.mem_map.mp (h.mem_iff.mpr hz)
    simp only [tupI, PyData.eqv, eqv_tupI, decide_eq_true_eq] at he
    exact List.mem_map.mpr ⟨p, hp, he⟩
  · intro hk
    obtain ⟨p, hp, rfl⟩ := List.mem_map.mp hk
    exact ⟨tupI p.2, h.mem_iff.mp (List.mem_map.mpr ⟨p, hp, rfl⟩), by simp [tupI, PyData.eqv, eqv_tupI]⟩
theorem set_put {K : PySem.W.Frag} {F : Ad} {H : Hp} {ρ : Fr} {σ : L2.St} {i : Nat} {a : Addr} {ks : List PyData} {u : HO} {Q : VK} (sim : Sim K F H ρ σ) (hi : MAt ρ σ i a) (r' : Grow F F H (upd H a u) → SetOk K F (upd H a u) a ks)
    (q : rdAt K W (.ok (.val .none, Fr.put ρ i (.set ks))) (VR K) ρ F σ H Q) : Q .non (upd H a u) := by
  obtain ⟨s1, st⟩ := put_upd (u := u) (o' := .set ks) sim hi r'
  exact q .non F _ s1 st ⟨.non, fun o a e => by cases e⟩
theorem bm_add (wr : Wor X W) : MtR X "set.add" (rBm X.K W .add) := by
  intro pins s σ H x vs v us Q I rx rvs ⟨F, ρ, σ', w, as, sim, ow, ra, q⟩
  have h70 := wr.hu
  have e0 : readM .add (w.vw ρ) as = none := by
    unfold readM
    rfl
  unfold bmeV at q
  rw [e0] at q
  obtain ⟨i, a, o, y, hma, rfl, hm, hw, q⟩ := put_of sim ow q
  cases o with
  | set ks =>
    match as, ra, hw with
    | [d], ra, hw =>
      obtain ⟨v1, rfl, r1⟩ := one_rp ra
      have hw : (if okSet ks d = true then some (PyData.none, MO.set (addK ks d)) else none) = some y := hw
      split at hw
      · rename_i c
        cases hw
        have hm : SetOk X.K F H a ks := hm
        unfold okSet at c
        rw [Bool.or_eq_true, Bool.and_eq_true, Bool.and_eq_true, Bool.and_eq_true, Bool.and_eq_true, decide_eq_true_eq, decide_eq_true_eq] at c
        rcases c with ⟨c1, c2, c3⟩ | ⟨c1, c2, c3⟩
        · cases d with
          | int z =>
            cases r1
            have key : ∀ is : List Int, ks = is.map PyData.int → is.Nodup → (H a = some (SetO X.w a (fun j => decide (j ∈ is)) is.length) ∨ (H a = some (SetE X.w a) ∧ is = [])) → wpAny (model X.prog X.w) X.A (call (.builtin "set.add") (v :: us)) (EP X pins σ Q) X.xe s := by
              rintro is rfl hd ha
              refine mt_saddI pins s σ H _ _ v us Q I rx rvs ⟨a, z, fun j => decide (j ∈ is), is.length, rfl, rfl, ?_, ?_, ?_⟩
              · rcases ha with ha | ⟨ha, rfl⟩
                · exact .inl ha
                · exact .inr ⟨ha, by funext j; simp, rfl⟩
              · rw [List.length_map] at c3
                have : (1001 : Nat) < scanBound := by decide
                omega
              · refine set_put sim hma (ks := addK (is.map PyData.int) (.int z)) (fun g => ?_) q
                rw [addK_int]
                refine .inr (.inl ⟨_, ?_, rfl, ?_, ?_⟩)
                · split
                  · next h => exact List.ne_nil_of_mem h
                  · simp
                · split
                  · exact hd
                  · next h => rw [List.nodup_append]; exact ⟨hd, by simp, fun x hx y hy => by rw [List.mem_singleton] at hy; subst hy; exact fun e => h (e ▸ hx)⟩
                · rw [upd_same, wr.cw]
                  congr 2
                  · funext j
                    by_cases h : z ∈ is
                    · rw [if_pos h]
                      by_cases hj : j = z
                      · subst hj; simp [h]
                      · simp [hj]
                    · rw [if_neg h]
                      simp [Bool.eq_iff_iff]
                  · by_cases h : z ∈ is
                    · rw [if_pos h, if_pos (by simpa using h)]
                    · rw [if_neg h, if_neg (by simpa using h), List.length_append]; rfl
            unfold SetOk at hm
            rw [← wr.cp, ← wr.cw] at hm
            rcases hm with ⟨rfl, hE⟩ | ⟨is, hne, rfl, hd, hO⟩ | ⟨L, hne, hp, hd, hf, hT⟩
            · exact key [] rfl List.nodup_nil (.inr ⟨hE, rfl⟩)
            · exact key is rfl hd (.inl hO)
            · cases L with
              | nil => exact (hne rfl).elim
              | cons p L => have := List.all_eq_true.mp c2 (tupI p.2) (hp.mem_iff.mp (by simp)); cases this
          | _ => cases c1
        · obtain ⟨k, rfl⟩ := flat_data c1
          cases r1 with
          | @tup b xs _ hz hr =>
            have hxs := rp_ints hr
            subst hxs
            have key : ∀ L : List (Addr × List Int), (L.map fun p => tupI p.2).Perm ks → (L.map (·.2)).Nodup → (∀ p ∈ L, FzT X.K F H p.1 (p.2.map V.int)) → (H a = some (SetTO X.prog X.w a L) ∨ (H a = some (SetE X.w a) ∧ L = [])) → wpAny (model X.prog X.w) X.A (call (.builtin "set.add") (v :: us)) (EP X pins σ Q) X.xe s := by
              intro L hp hd hf ha
              have hlen : L.length = ks.length := by have := hp.length_eq; rwa [List.length_map] at this
              refine mt_saddT (by omega) pins s σ H _ _ v us Q I rx rvs ⟨a, b, k, L, rfl, rfl, hz.sq, ha, fun p h => (hf p h).sq, by omega, fun L' c1' c2' => ?_⟩
              refine set_put sim hma (ks := addK ks (tupI k)) (fun g => ?_) q
              have hany := any_tupI (k := k) hp
              unfold addK
              rw [hany]
              by_cases h : k ∈ L.map (·.2)
              · rw [if_pos (decide_eq_true h)]
                rw [c1' h] at *
                refine .inr (.inr ⟨L, ?_, hp, hd, fun p h => (hf p h).mono g, by rw [upd_same, wr.cp, wr.cw]⟩)
                rintro rfl
                exact List.not_mem_nil h
              · rw [if_neg (by simpa using h)]
                have hpm := c2' h
                refine .inr (.inr ⟨L', ?_, ?_, ?_, fun p hpL => ?_, by rw [upd_same, wr.cp, wr.cw]⟩)
                · rintro rfl
                  have := hpm.length_eq
                  simp at this
                · refine ((hpm.map fun p => tupI p.2).trans ?_)
                  rw [List.map_cons]
                  exact (List.Perm.cons _ hp).trans (List.perm_append_singleton _ _).symm
                · exact ((hpm.map (·.2)).nodup_iff).mpr (List.nodup_cons.mpr ⟨h, hd⟩)
                · rcases List.mem_cons.mp (hpm.mem_iff.mp hpL) with rfl | h2
                  · exact hz.mono g
                  · exact (hf p h2).mono g
            unfold SetOk at hm
            rw [← wr.cp, ← wr.cw] at hm
            rcases hm with ⟨rfl, hE⟩ | ⟨is, hne, rfl, hd, hO⟩ | ⟨L, hne, hp, hd, hf, hT⟩
            · exact key [] (by simp) (by simp) (fun p h => (List.not_mem_nil h).elim) (.inr ⟨hE, rfl⟩)
            · cases is with
              | nil => exact (hne rfl).elim
              | cons j is => rw [List.map_cons, List.all_cons, Bool.and_eq_true] at c2; cases c2.1
            · exact key L hp hd hf (.inl hT)
      · cases hw
    | [], _, hw => cases hw
    | _ :: _ :: _, _, hw => cases hw
  | dic _ => exact hm.elim
  | lst _ => cases hw
  | ins _ _ => cases hw
theorem add_rd (wr : Wor X W) {σ : L2.St} {H : Hp} {Q : VK} (h : rdG X.K W (dn Γ (.bme .add o' es')).v (VR X.K) σ H Q) :
    tBMS X.prog X.w (rBm X.K W .add) (rdG X.K W (dn Γ o').p (PR X.K)) (rdG X.K W (dVs (dns Γ es')) (VsR X.K)) σ H Q := by
  obtain ⟨F0, ρ, s, q⟩ := h
  refine ⟨F0, ρ, s, (rdAt.bind (R1 := PR X.K) bkV s (show rdAt X.K W (((dn Γ o').p ρ).bind fun w => if kindOk .add (w.1.vw w.2) then (dVs (dns Γ es') w.2).bind fun x => bmeV .add w.1 x.1 x.2 else .stuck) (VR X.K) ρ F0 σ H Q from q)).mono fun v H1 ⟨F1, ρ1, w, s1, st1, r1, q1⟩ => ?_⟩
  have q1 : rdAt X.K W (if kindOk .add (w.vw ρ1) then (dVs (dns Γ es') ρ1).bind fun x => bmeV .add w x.1 x.2 else .stuck) (VR X.K) ρ1 F1 σ H1 Q := q1
  by_cases hk : kindOk .add (w.vw ρ1) = true
  · rw [if_pos hk] at q1
    refine ⟨?_, F1, ρ1, s1, (rdAt.bind (R1 := VsR X.K) bkV s1 q1).mono fun vs H2 ⟨F2, ρ2, as, s2, st2, r2, q2⟩ => ⟨F2, ρ2, σ, w, as, s2, r1.opd.step s1 st2, r2, q2⟩⟩
    cases hwv : w.vw ρ1 with
    | none => rw [hwv] at hk; cases hk
    | some vw =>
      have hok := w.vwOk s1 r1.opd hwv
      rw [hwv] at hk
      cases vw with
      | set ks =>
        obtain ⟨a, rfl, hm⟩ := hok
        have hm : SetOk X.K F1 H1 a ks := hm
        have := hm.isS
        rw [← wr.cp, ← wr.cw] at this
        exact ⟨a, rfl, this⟩
      | dat c => cases c <;> cases hk
      | dic _ => cases hk
      | ins _ _ => cases hk
  · rw [if_neg hk] at q1
    exact q1.elim
theorem ok_add (wr : Wor X W) (ho : Ok X Γ W o o') (ha : Oks X Γ W (e :: es) es') (hbase : attributeBase o "add" X.env (eval o X.env) = eval o X.env)
    (hfew : ((backTo pos (starEach (e :: es) X.env)).all (fun x => !x.1) && (backToKw pos (keywordEach [] X.env)).all (fun x => x.1.isSome)
      && decide ((e :: es).length + ([] : List Keyword).length + (if ([] : List Keyword).isEmpty then 0 else 1) < 30)) = true)
    (hline : (apos.endLine == pos.line) = true) (hs : starEach (e :: es) X.env = (false, eval e X.env) :: starEach es X.env) (hplain : (backTo pos (starEach es X.env)).any (·.1) = false) :
    Ok X Γ W (.Call (.Attribute o "add" apos) (e :: es) [] pos) (.bme .add o' es') :=
  .of rfl (PE.imp (pe_sadd' (bm_add wr) ho.p ha.vs hbase hfew hline hs hplain) fun σ H Q h => add_rd wr h) fun _ => rfl
end
end PM
set_option Elab.async false
set_option linter.all false
set_option maxRecDepth 100000
set_option maxHeartbeats 1000000
/-! PM: a loop over a list of the frame's own, which stays its own. -/
namespace PM
open PySem PySem.Spec PyProof.Rows L2
variable [Cur]
section
variable {K : PySem.W.Frag} {W : WX} {F F1 : Ad} {H H1 : Hp} {ρ ρ1 : Fr} {σ σ1 : L2.St} {i : Nat}
theorem lend_mo {s : Slot} : (lendS s).mo = s.mo := by cases s <;> rfl
theorem take_mo {s : Slot} : (takeS s).mo = s.mo := by cases s <;> rfl
theorem mod_self {g : Slot → Slot} {s : Slot} (h : ρ[i]? = some s) : (List.modify ρ i g)[i]? = some (g s) := by rw [List.getElem?_modify, h]; simp
theorem mod_ne {g : Slot → Slot} {j : Nat} (hj : i ≠ j) : (List.modify ρ i g)[j]? = ρ[j]? := by rw [List.getElem?_modify]; simp [hj]
theorem mod_get {g : Slot → Slot} {j : Nat} {s : Slot} (h : (List.modify ρ i g)[j]? = some s) : ∃ u, ρ[j]? = some u ∧ (s = u ∨ s = g u) ∧ (j ≠ i → s = u) ∧ (j = i → s = g u) := by
  rw [List.getElem?_modify] at h
  obtain ⟨u, hu, rfl⟩ := Option.map_eq_some_iff.mp h
  refine ⟨u, hu, ?_, ?_, ?_⟩
  · split
    · exact .inr rfl
    · exact .inl rfl
  · intro hj
    rw [if_neg (Ne.symm hj)]
  · intro hj
    rw [if_pos hj.symm]
theorem mod_mat {g : Slot → Slot} (hg : ∀ s, (g s).mo = s.mo) {j : Nat} {a : Addr} (h : MAt (List.modify ρ i g) σ j a) : MAt ρ σ j a := by
  obtain ⟨⟨s, o, e, m⟩, e2⟩ := h
  obtain ⟨u, hu, h1, -, -⟩ := mod_get e
  refine ⟨⟨u, o, hu, ?_⟩, e2⟩
  rcases h1 with rfl | rfl
  · exact m
  · rw [← hg]; exact m
theorem mod_mat' {g : Slot → Slot} (hg : ∀ s, (g s).mo = s.mo) {j : Nat} {a : Addr} (h : MAt ρ σ j a) : MAt (List.modify ρ i g) σ j a := by
  obtain ⟨⟨s, o, e, m⟩, e2⟩ := h
  by_cases hj : i = j
  · subst hj
    exact ⟨⟨g s, o, mod_self e, by rw [hg]; exact m⟩, e2⟩
  · exact ⟨⟨s, o, (mod_ne hj).trans e, m⟩, e2⟩
theorem mod_mu {g : Slot → Slot} (hg : ∀ s, (g s).mo = s.mo) {a : Addr} : Mu (List.modify ρ i g) σ a ↔ Mu ρ σ a := ⟨fun ⟨j, h⟩ => ⟨j, mod_mat hg h⟩, fun ⟨j, h⟩ => ⟨j, mod_mat' hg h⟩⟩
theorem lend_slot {x : Option V} {s : Slot} (h : SlotOk K F H x s) : SlotOk K F H x (lendS s) := by
  cases s <;> exact h
theorem take_slot {x : Option V} {s : Slot} (h : SlotOk K F H x s) : SlotOk K F H x (takeS s) := by
  cases s <;> exact h
theorem Sim.mod {g : Slot → Slot} (hg : ∀ s, (g s).mo = s.mo) (hs : ∀ x s, SlotOk K F H x s → SlotOk K F H x (g s)) (sim : Sim K F H ρ σ) : Sim K F H (List.modify ρ i g) σ where
  len := by rw [List.length_modify]; exact sim.len
  ok := fun j s e => by
    obtain ⟨u, hu, h1, -, -⟩ := mod_get e
    have := sim.ok j u hu
    rcases h1 with rfl | rfl
    · exact this
    · exact hs _ _ this
  apart := fun x y a h1 h2 => sim.apart x y a (mod_mat hg h1) (mod_mat hg h2)
  fok := sim.fok
/-- a step between lent frames is one between the frames as they were -/
theorem Stp.back_lend (hi : ∀ o, ρ[i]? ≠ some (.brw o)) (st : Stp (ρ.lend i) σ F H ρ1 σ1 F1 H1) : Stp ρ σ F H (ρ1.take i) σ1 F1 H1 where
  sub := st.sub
  new := fun a h => (st.new a h).imp id fun h => h.imp id (mod_mu fun _ => lend_mo).mp
  kept := fun a o h hn => st.kept a o h fun hm => hn ((mod_mu fun _ => lend_mo).mp hm)
  mu := fun a h => (st.mu a ((mod_mu fun _ => take_mo).mp h)).imp id (mod_mu fun _ => lend_mo).mp
  brw := fun j o h => by
    have hj : j ≠ i := fun e => by subst e; exact hi o h
    have hj2 : ¬ i = j := fun e => hj e.symm
    have h2 : (ρ.lend i)[j]? = some (.brw o) := by
      exact (mod_ne hj2).trans h
    obtain ⟨⟨o', h3⟩, e⟩ := st.brw j o h2
    refine ⟨⟨o', ?_⟩, e⟩
    exact (mod_ne hj2).trans h3
  len := by
    unfold Fr.take
    rw [List.length_modify, st.len]
    unfold Fr.lend
    rw [List.length_modify]
theorem sAt.lend {x : Res (Flow × Fr)} {D : Ends} (hi : ∀ o, ρ[i]? ≠ some (.brw o)) (q : sAt K W (x.bind fun r => .ok (r.1, r.2.take i)) D ρ F σ H) : sAt K W x D (ρ.lend i) F σ H := by
  have tk : ∀ {ρ' : Fr} {σ' : L2.St} {F' : Ad} {H' : Hp}, Sim K F' H' ρ' σ' → Sim K F' H' (ρ'.take i) σ' := fun s => s.mod (fun _ => take_mo) fun _ _ h => take_slot h
  cases x with
  | ok r =>
    obtain ⟨fl, ρ'⟩ := r
    cases fl with
    | next => exact fun σ' F' H' s st => q σ' F' H' (tk s) (st.back_lend hi)
    | brk => exact fun σ' F' H' s st => q σ' F' H' (tk s) (st.back_lend hi)
    | cnt => exact fun σ' F' H' s st => q σ' F' H' (tk s) (st.back_lend hi)
    | ret sl => exact fun v σ' F' H' s st hv hm => q v σ' F' H' (tk s) (st.back_lend hi) hv fun o a e1 e2 => ⟨fun h => (hm o a e1 e2).1 ((mod_mu fun _ => take_mo).mp h), (hm o a e1 e2).2.imp id (mod_mu fun _ => lend_mo).mp⟩
  | exc c =>
    have q : excW K W c ρ σ H := q
    intro σ' H' e k
    refine q σ' H' (e.trans (by unfold Fr.lend; rw [List.length_modify])) fun a o ha hn => k a o ha fun hm => hn ((mod_mu fun _ => lend_mo).mp hm)
  | stuck => exact q
end
section
variable {X : Cx} {Γ : Ctx} {W : WX} {tg : Expr} {t : T} {tb : List Stmt} {b' : List S} {y : Str} {p pos : Pos} {i : Nat}
theorem sok_forO (hp : PassesOwn (model X.prog X.w) X.A X.env X.xe) (hcl : X.calm = true) (hv : PEP X W (.Name y p) (dn Γ (.var i))) (hg : PG X tg (gG X.K t)) (hb : SsOk X Γ W tb b') (hs : ∀ x, foldedSetIterable (.Name y p) X.env x = pure x) :
    SOk X Γ W (.For tg (.Name y p) tb [] pos) (.forO t i b') :=
  PS.imp (ps_for hp hcl (pi_seq hv) hg hb hs) fun D σ H ⟨F, ρ, sim, q⟩ => by
    have q : sAt X.K W (if ownL ρ[i]? then (walkO i (fun d r => (Res.of (asgT t d r)).bind fun r1 => exB Γ b' r1) Γ.fuel 0 (ρ.lend i)).bind fun r => .ok (r.1, r.2.take i) else .stuck) D ρ F σ H := q
    by_cases ho : ownL ρ[i]? = true
    · rw [if_pos ho] at q
      obtain ⟨ds, e0⟩ : ∃ ds, ρ[i]? = some (.own (.lst ds)) := by
        unfold ownL at ho
        split at ho
        · next ds e => exact ⟨ds, e⟩
        · cases ho
      have hib : ∀ o, ρ[i]? ≠ some (.brw o) := fun o e => by rw [e0] at e; cases e
      have q1 := sAt.lend hib q
      have sl : Sim X.K F H (ρ.lend i) σ := sim.mod (fun _ => lend_mo) fun _ _ h => lend_slot h
      have hk := sim.ok i _ e0
      obtain ⟨a, ea, hna, vs, hva, hrv⟩ := hk
      have es : σ[i]? = some (some (.ref a)) := by
        cases h : σ[i]? with
        | none => rw [h] at ea; cases ea
        | some x => rw [h] at ea; have ea : x = some (.ref a) := ea; rw [ea]
      refine ⟨F, ρ, sim, ?_⟩
      have hpv : (dn Γ (.var i)).p ρ = .ok (.slot i, ρ) := by
        show (match ρ[i]? with | some (.val x) => Res.ok (Opd.tmp (.val x), ρ) | some .no => .stuck | none => .stuck | some _ => .ok (.slot i, ρ)) = _
        rw [e0]
      rw [hpv]
      intro v F2 H2 s2 st2 r2
      have hv2 : σ[i]? = some (some v) := r2
      rw [es] at hv2
      cases hv2
      have hk2 := s2.ok i _ e0
      rw [es] at hk2
      obtain ⟨a', ea', hna2, vs2, hva2, hrv2⟩ := hk2
      cases ea'
      refine ⟨a, rfl, .inl ⟨⟨vs2, .inl (.inl hva2)⟩, ?_⟩⟩
      have st2l : Stp (ρ.lend i) σ F H (ρ.lend i) σ F2 H2 := ⟨st2.sub, fun b h => (st2.new b h).imp id fun h => h.imp id (mod_mu fun _ => lend_mo).mpr, fun b o h hn => st2.kept b o h fun hm => hn ((mod_mu fun _ => lend_mo).mpr hm), fun b h => .inr h, fun _ o h => ⟨⟨o, h⟩, rfl⟩, rfl⟩
      have q2 := sAt.base st2l q1
      have sl2 : Sim X.K F2 H2 (ρ.lend i) σ := s2.mod (fun _ => lend_mo) fun _ _ h => lend_slot h
      refine ⟨fun j m σ' H' => ∃ F' ρ', Sim X.K F' H' ρ' σ' ∧ σ'[i]? = some (some (.ref a)) ∧ (∃ o, ρ'[i]? = some (.brw o)) ∧ sAt X.K W (walkO i (fun d r => (Res.of (asgT t d r)).bind fun r1 => exB Γ b' r1) m j ρ') D ρ' F' σ' H', ⟨Γ.fuel, F2, ρ.lend i, sl2, es, ⟨.lst ds, mod_self e0⟩, q2⟩, ?_⟩
      rintro j m σ' H' ⟨F', ρ', s3, es3, ⟨o3, eb3⟩, q3⟩
      cases m with
      | zero => exact q3.elim
      | succ m =>
        have q3 : sAt X.K W ((Res.of (brwL ρ'[i]?)).bind fun ys => match ys[j]? with
          | some d => ((Res.of (asgT t d ρ')).bind fun r1 => exB Γ b' r1).bind fun r => (match r.1 with
            | .next => walkO i (fun d r => (Res.of (asgT t d r)).bind fun r1 => exB Γ b' r1) m (j + 1) r.2
            | .cnt => walkO i (fun d r => (Res.of (asgT t d r)).bind fun r1 => exB Γ b' r1) m (j + 1) r.2
            | .brk => .ok (.next, r.2)
            | .ret s => .ok (.ret s, r.2))
          | none => .ok (.next, ρ')) D ρ' F' σ' H' := q3
        rw [eb3] at q3
        cases o3 with
        | lst ys =>
          have q3 : sAt X.K W (match ys[j]? with
            | some d => ((Res.of (asgT t d ρ')).bind fun r1 => exB Γ b' r1).bind fun r => (match r.1 with
              | .next => walkO i (fun d r => (Res.of (asgT t d r)).bind fun r1 => exB Γ b' r1) m (j + 1) r.2
              | .cnt => walkO i (fun d r => (Res.of (asgT t d r)).bind fun r1 => exB Γ b' r1) m (j + 1) r.2
              | .brk => .ok (.next, r.2)
              | .ret s => .ok (.ret s, r.2))
            | none => .ok (.next, ρ')) D ρ' F' σ' H' := q3
          have hk3 := s3.ok i _ eb3
          rw [es3] at hk3
          obtain ⟨a3, ea3, hna3, vs3, hva3, hrv3⟩ := hk3
          cases ea3
          cases ed : ys[j]? with
          | none =>
            rw [ed] at q3
            refine .inl ⟨⟨vs3, .inl (.inl hva3), ?_⟩, sAt.next q3 s3 .refl⟩
            rw [hrv3.len]
            exact List.getElem?_eq_none_iff.mp ed
          | some d =>
            rw [ed] at q3
            dsimp only at q3
            obtain ⟨vd, hvd, rvd⟩ := hrv3.get ed
            refine .inr ⟨⟨vs3, vd, .inl (.inl hva3), hvd⟩, fun σ' H' => ∃ F' ρ', Sim X.K F' H' ρ' σ' ∧ σ'[i]? = some (some (.ref a)) ∧ (∃ o, ρ'[i]? = some (.brw o)) ∧ sAt X.K W (walkO i (fun d r => (Res.of (asgT t d r)).bind fun r1 => exB Γ b' r1) m (j + 1) ρ') D ρ' F' σ' H', fun σ' H' h => ⟨m, by omega, h⟩, fun x H4 hy => ?_⟩
            obtain ⟨rfl, hx⟩ := hy
            have hx2 := hx vs3 (.inl (.inl hva3))
            rw [hvd] at hx2
            cases hx2
            cases eat : asgT t d ρ' with
            | none => rw [eat] at q3; exact q3.elim
            | some ρ4 =>
              rw [eat] at q3
              refine ⟨F', ρ', d, ρ4, s3, rvd, eat, fun σ5 s5 st5 _ => ⟨F', ρ4, s5, ?_⟩⟩
              have q4 : sAt X.K W ((exB Γ b' ρ4).bind fun r => match r.1 with
                | .next => walkO i (fun d r => (Res.of (asgT t d r)).bind fun r1 => exB Γ b' r1) m (j + 1) r.2
                | .cnt => walkO i (fun d r => (Res.of (asgT t d r)).bind fun r1 => exB Γ b' r1) m (j + 1) r.2
                | .brk => .ok (.next, r.2)
                | .ret s => .ok (.ret s, r.2)) D ρ4 F' σ5 H4 := sAt.base st5 q3
              obtain ⟨⟨o5, eb5⟩, es5⟩ := st5.brw i _ eb3
              rw [es3] at es5
              revert q4
              cases exB Γ b' ρ4 with
              | ok r =>
                obtain ⟨fl, ρ6⟩ := r
                cases fl with
                | next =>
                  intro q σ6 F6 H6 s6 st6
                  obtain ⟨eb6, es6⟩ := st6.brw i _ eb5
                  exact ⟨F6, ρ6, s6, es6.trans es5, eb6, sAt.base st6 q⟩
                | cnt =>
                  intro q σ6 F6 H6 s6 st6
                  obtain ⟨eb6, es6⟩ := st6.brw i _ eb5
                  exact ⟨F6, ρ6, s6, es6.trans es5, eb6, sAt.base st6 q⟩
                | brk => exact fun q => q
                | ret _ => exact fun q => q
              | exc c => exact fun q => q
              | stuck => exact fun q => q
        | _ => exact q3.elim
    · rw [if_neg ho] at q
      exact q.elim
end
end PM
set_option Elab.async false
set_option linter.all false
set_option maxRecDepth 100000
set_option maxHeartbeats 1000000
/-! PM: the rules with their side conditions tried by themselves; what a context knows of the module. -/
namespace PM
open PySem PySem.Spec PyProof.Rows L2
variable [Cur]
/-- a function of the module -/
def FnAt (X : Cx) (Γ : Ctx) (k : Nat) (x : Str) : Prop := ∃ f fd ps, X.mg x = some (.ref f) ∧ PySem.W.keepIn X.K (.ref f) = true ∧ Binds X.K fd ps [] ∧ FnG X.prog X.w X.K X.mg X.base k f fd ps (spG X.K (Γ.fn (x, none)))
/-- a class of the module -/
structure ClAt (X : Cx) (Γ : Ctx) (k : Nat) (c : Str) : Prop where
  ini : ∃ f fd ps, Mk X.K (He.ga X.K c) f ∧ FnG X.prog X.w X.K X.mg X.base k f fd ps (spG X.K (Γ.fn (c, some "__init__"))) ∧ Binds X.K fd ps []
  gC : X.mg c = some (.ref (He.ga X.K c))
/-- what a context knows: functions, built-ins, numbers, classes, fields, methods, errors -/
structure Fx (X : Cx) (Γ : Ctx) (k : Nat) (fns blts cls : List Str) (flds : List Str) (mts : List (Str × Str)) (excs : List Str) : Prop where
  room : Room (k + 1) X.A
  kin : X.K.In X.base
  fn : ∀ x ∈ fns, FnAt X Γ k x
  blt : ∀ x ∈ blts, X.mg x = none
  glo : ∀ x d, Γ.glo x = some d → ∃ i t, d = .int i ∧ X.mg x = some (.int i t)
  cl : ∀ c ∈ cls, ClAt X Γ k c
  fld : ∀ f ∈ flds, FldF X Γ f
  mt : ∀ p ∈ mts, MethF X Γ k p.1 p.2
  exc : ∀ x ∈ excs, RaiseF X x
section
variable {X : Cx} {Γ : Ctx} {W : WX} {k : Nat} {fns blts cls flds excs : List Str} {mts : List (Str × Str)}
theorem Fx.blk (fx : Fx X Γ k fns blts cls flds mts excs) (s : Shared) (H : Hp) (scope : Scope) (ce : Env) (fp : List Addr) : Fx (X.blk s H scope ce fp) Γ k fns blts cls flds mts excs := ⟨fx.room, fx.kin, fx.fn, fx.blt, fx.glo, fun c hc => ⟨(fx.cl c hc).ini, (fx.cl c hc).gC⟩, fun f hf => ⟨(fx.fld f hf).cl, (fx.fld f hf).no⟩, fun p hp => ⟨(fx.mt p hp).cl, (fx.mt p hp).ex⟩, fun x hx => ⟨(fx.exc x hx).ex, (fx.exc x hx).gC, (fx.exc x hx).kC, (fx.exc x hx).ra⟩⟩
theorem Fx.tr (fx : Fx X Γ k fns blts cls flds mts excs) (pn : List (Addr × Obj)) (xe : Value → Shared → Prop) : Fx (X.tr pn xe) Γ k fns blts cls flds mts excs := ⟨fx.room, fx.kin, fx.fn, fx.blt, fx.glo, fun c hc => ⟨(fx.cl c hc).ini, (fx.cl c hc).gC⟩, fun f hf => ⟨(fx.fld f hf).cl, (fx.fld f hf).no⟩, fun p hp => ⟨(fx.mt p hp).cl, (fx.mt p hp).ex⟩, fun x hx => ⟨(fx.exc x hx).ex, (fx.exc x hx).gC, (fx.exc x hx).kC, (fx.exc x hx).ra⟩⟩
variable {a b c e o d : Expr} {a' b' c' e' o' d' : E} {es : List Expr} {es' : List E} {p pos apos p2 : Pos} {x f m : Str} {i : Nat}
theorem c_var (hN : X.N[i]? = some x := by rfl) (hv : Vis X.env.scope x := by first | exact .inl rfl | exact .inr (.inl rfl) | exact .inr (.inr rfl)) (hd : (x == ("__debug__" : Str)) = false := by decide) (hcd : (x == ("__classdict__" : Str)) = false := by decide) :
    Ok X Γ W (.Name x pos) (.var i) := ok_var hN hv hd hcd
theorem c_int {j : Int} {n : Nat} : Ok X Γ W (.Constant (.int j) n pos) (.cst (.int j)) := ok_cst pe_int (fun _ _ => .int _) fun _ => rfl
theorem c_bl {j : Bool} {n : Nat} : Ok X Γ W (.Constant (.bool j) n pos) (.cst (.bool j)) := ok_cst pe_bl (fun _ _ => .bl _) fun _ => rfl
theorem c_str {j : Str} {n : Nat} : Ok X Γ W (.Constant (.str j) n pos) (.cst (.str j)) := ok_cst pe_str (fun _ _ => .str _) fun _ => rfl
theorem c_non {n : Nat} : Ok X Γ W (.Constant .none n pos) (.cst .none) := ok_cst pe_non (fun _ _ => .non) fun _ => rfl
theorem c_glo (fx : Fx X Γ k fns blts cls flds mts excs) {j : Int} (hx : Γ.glo x = some (.int j)) (gl : Gl X x := by rfl) (hd : (x == ("__debug__" : Str)) = false := by decide) : Ok X Γ W (.Name x pos) (.glo x) := by
  obtain ⟨j', t, e, hm⟩ := fx.glo x _ hx
  cases e
  exact ok_glo (pe_glob (v := .int j) gl hm ⟨t, rfl⟩ hd) (fun d hd' F H => by rw [hx] at hd'; cases hd'; exact .int _) fun _ => rfl
theorem c_bin {op : Operator} {bop : Bop} (ha : Ok X Γ W a a') (hb : Ok X Γ W b b') (ho : opOf op = some bop := by rfl) : Ok X Γ W (.BinOp a op b pos) (.bin bop a' b') := ok_bin ho ha hb
theorem c_cmp (wr : Wor X W) {op : CmpOp} {cop : Cop} (ha : Ok X Γ W a a') (hb : Ok X Γ W b b') (ho : copOf op = cop := by rfl) (hm : behindInMarks op b = false := by first | exact nobehind _ (by decide) (by decide) | rfl) : Ok X Γ W (.Compare a [op] [b] pos) (.cmp cop a' b') := by
  subst ho
  exact ok_cmp wr hm ha hb
theorem c_chn (wr : Wor X W) {o1 o2 : CmpOp} {c1 c2 : Cop} (ha : Ok X Γ W a a') (hb : Ok X Γ W b b') (hc : Ok X Γ W c c') (h1 : copOf o1 = c1 := by rfl) (h2 : copOf o2 = c2 := by rfl) (hm : lastMarks [o1, o2] [b, c] = false := by rfl) : Ok X Γ W (.Compare a [o1, o2] [b, c] pos) (.chn c1 c2 a' b' c') := by
  subst h1 h2
  exact ok_chn wr hm ha hb hc
/-- a row of and, or: its value and its test -/
structure Bl (X : Cx) (Γ : Ctx) (W : WX) (o : PySem.BoolOp) (es : List Expr) (pos : Pos) (e' : E) : Prop where
  v : PEV X W (.BoolOp o es pos) (dn Γ e')
  t : PW X (.BoolOp o es pos) (rdT X.K W (dn Γ e').t)
theorem bl_or1 (ha : Ok X Γ W a a') : Bl X Γ W .Or [a] pos a' := ⟨pe_one ha.v, pw_or1 ha.t⟩
theorem bl_and1 (ha : Ok X Γ W a a') : Bl X Γ W .And [a] pos a' := ⟨pe_one ha.v, pw_and1 ha.t⟩
theorem bl_or (ha : Ok X Γ W a a') (hb : Bl X Γ W .Or (b :: es) pos b') : Bl X Γ W .Or (a :: b :: es) pos (.or a' b') := ⟨(ok_or ha hb.v hb.t).1.v, (ok_or ha hb.v hb.t).2⟩
theorem bl_and (ha : Ok X Γ W a a') (hb : Bl X Γ W .And (b :: es) pos b') : Bl X Γ W .And (a :: b :: es) pos (.and a' b') := ⟨(ok_and ha hb.v hb.t).1.v, (ok_and ha hb.v hb.t).2⟩
theorem c_or (ha : Ok X Γ W a a') (hb : Bl X Γ W .Or (b :: es) pos b') : Ok X Γ W (.BoolOp .Or (a :: b :: es) pos) (.or a' b') := (ok_or ha hb.v hb.t).1
theorem c_and (ha : Ok X Γ W a a') (hb : Bl X Γ W .And (b :: es) pos b') : Ok X Γ W (.BoolOp .And (a :: b :: es) pos) (.and a' b') := (ok_and ha hb.v hb.t).1
theorem c_cons (he : Ok X Γ W e e') (hs : Oks X Γ W es es') (hst : starEach (e :: es) X.env = (false, eval e X.env) :: starEach es X.env := by rfl) : Oks X Γ W (e :: es) (e' :: es') := oks_cons he hs hst
theorem c_sub (ha : Ok X Γ W a a') (hb : Ok X Γ W b b') (hp : PlainIx b := by intro _ _; rfl) : Ok X Γ W (.Subscript a b pos) (.sub a' b') := ok_sub hp ha hb
theorem c_isi (fx : Fx X Γ k fns blts cls flds mts excs) {t : Ty} (h1 : ("isinstance" : Str) ∈ blts) (h2 : x ∈ blts) (ha : Ok X Γ W a a') (g1 : Gl X "isinstance" := by rfl) (g2 : Gl X x := by rfl) (hv : bootBuiltins x = some (.type t.nm) := by decide +kernel) (hn : x ≠ "__name__" := by decide) (hd : (x == ("__debug__" : Str)) = false := by decide)
    (hs1 : starEach [a, .Name x p2] X.env = (false, eval a X.env) :: starEach [.Name x p2] X.env := by rfl) : Ok X Γ W (.Call (.Name "isinstance" p) [a, .Name x p2] [] pos) (.isi a' t) :=
  ok_isi g1 (fx.blt _ h1) (pe_bltn (v := .ty t.nm) g2 (fx.blt _ h2) hv rfl hn hd) ha hs1
theorem c_blt (wr : Wor X W) (fx : Fx X Γ k fns blts cls flds mts excs) {bf : Bf} (h1 : x ∈ blts) (hs : Oks X Γ W (e :: es) es') (bc : BltCall X bf x e es pos p := by first | exact .bi _ rfl (by decide +kernel) | exact .ty _ rfl (by decide +kernel)) (gl : Gl X x := by rfl) (hn : x ≠ "__name__" := by decide) (hd : (x == ("__debug__" : Str)) = false := by decide)
    (hst : starEach (e :: es) X.env = (false, eval e X.env) :: starEach es X.env := by rfl) (hpl : (backTo pos (starEach es X.env)).any (·.1) = false := by rfl) : Ok X Γ W (.Call (.Name x p) (e :: es) [] pos) (.blt bf es') :=
  ok_blt wr bc gl (fx.blt _ h1) hn hd hs hst hpl
theorem c_maxd (wr : Wor X W) (fx : Fx X Γ k fns blts cls flds mts excs) {kp : Pos} (h1 : ("max" : Str) ∈ blts) (he : Ok X Γ W e e') (hd : Ok X Γ W d d') (gl : Gl X "max" := by rfl) (hst : starEach [e] X.env = (false, eval e X.env) :: starEach [] X.env := by rfl)
    (q1 : backTo pos (starEach [e] X.env) = (false, eval e X.env) :: backTo pos (starEach [] X.env) := by rfl) (q2 : (backTo pos (starEach [e] X.env)).any (·.1) = false := by rfl) : Ok X Γ W (.Call (.Name "max" p) [e] [⟨some "default", d, kp⟩] pos) (.blt .maxd [e', d']) :=
  ok_maxd wr gl (fx.blt _ h1) he hd hst q1 q2
theorem c_call (wr : Wor X W) (fx : Fx X Γ k fns blts cls flds mts excs) (h1 : x ∈ fns) (hs : Oks X Γ W (e :: es) (e' :: es')) (gl : Gl X x := by rfl) (hd : (x == ("__debug__" : Str)) = false := by decide)
    (hst : starEach (e :: es) X.env = (false, eval e X.env) :: starEach es X.env := by rfl) (hpl : (backTo pos (starEach es X.env)).any (·.1) = false := by rfl) : Ok X Γ W (.Call (.Name x p) (e :: es) [] pos) (.call x false (e' :: es')) := by
  obtain ⟨f, fd, ps, hm, hk, hb, F⟩ := fx.fn x h1
  exact ok_call wr F (fx.room.mono (Nat.le_succ _)) gl hm hk hb hs hd hst hpl
theorem c_callio (wr : Wor X W) (fx : Fx X Γ k fns blts cls flds mts excs) {y : Str} {py : Pos} (h1 : x ∈ fns) (hs : Oks X Γ W es es') (gl : Gl X x := by rfl) (hN : X.N[i]? = some y := by rfl) (hv : Vis X.env.scope y := by first | exact .inl rfl | exact .inr (.inl rfl) | exact .inr (.inr rfl))
    (hdy : (y == ("__debug__" : Str)) = false := by decide) (hcd : (y == ("__classdict__" : Str)) = false := by decide) (hd : (x == ("__debug__" : Str)) = false := by decide)
    (hst : starEach (.Name y py :: es) X.env = (false, eval (.Name y py) X.env) :: starEach es X.env := by rfl) (hpl : (backTo pos (starEach es X.env)).any (·.1) = false := by rfl) : Ok X Γ W (.Call (.Name x p) (.Name y py :: es) [] pos) (.call x true (.var i :: es')) := by
  obtain ⟨f, fd, ps, hm, hk, hb, F⟩ := fx.fn x h1
  exact ok_callio wr F (fx.room.mono (Nat.le_succ _)) gl hm hk hb hN hv hdy hcd hs hd hst hpl
theorem c_new (wr : Wor X W) (fx : Fx X Γ k fns blts cls flds mts excs) (h1 : x ∈ cls) (hs : Oks X Γ W (e :: es) es') (gl : Gl X x := by rfl) (hd : (x == ("__debug__" : Str)) = false := by decide)
    (hst : starEach (e :: es) X.env = (false, eval e X.env) :: starEach es X.env := by rfl) (hpl : (backTo pos (starEach es X.env)).any (·.1) = false := by rfl) : Ok X Γ W (.Call (.Name x p) (e :: es) [] pos) (.new x es') := by
  obtain ⟨f, fd, ps, M, F, hb⟩ := (fx.cl x h1).ini
  exact ok_new wr (fun _ => rfl) M F fx.room gl (fx.cl x h1).gC hb hs hd hst hpl
theorem c_meth (wr : Wor X W) (fx : Fx X Γ k fns blts cls flds mts excs) {pl : Sem Bool} {cs : List Str} {io : Bool} (hC : ∀ c ∈ cs, (c, m) ∈ mts) (inj : ∀ c ∈ cs, ∀ c' ∈ cs, He.ga X.K c = He.ga X.K c' → c = c') (ho : Ok X Γ W o o') (hs : Oks X Γ W (e :: es) es')
    (hst : starEach (e :: es) X.env = (false, eval e X.env) :: starEach es X.env := by rfl) (hpl : (backTo pos (starEach es X.env)).any (·.1) = false := by rfl)
    (ht : eval (.Call (.Attribute o m apos) (e :: es) [] pos) X.env = (do
      let ov ← eval o X.env
      standAt apos.atName
      let (f, first) ← holding [ov] (getMethod ov m pl)
      callWith pos f first (backTo pos (starEach (e :: es) X.env)) (backToKw pos (keywordEach [] X.env))) := by rfl) : Ok X Γ W (.Call (.Attribute o m apos) (e :: es) [] pos) (.meth cs m io o' es') :=
  ok_meth wr (fx.room.mono (Nat.le_succ _)) (fun c hc => fx.mt _ (hC c hc)) inj ho hs (fun first f s Q hk h => PySem.W.callWith_K (first := first) (h₀ := X.base) fx.kin hk h hst hpl) ht
theorem c_fld (fx : Fx X Γ k fns blts cls flds mts excs) (h1 : f ∈ flds) (ho : Ok X Γ W o o') (hb : attributeBase o f X.env (eval o X.env) = eval o X.env := by rfl) : Ok X Γ W (.Attribute o f pos) (.fld o' f) := ok_fld (fx.fld f h1) ho hb
theorem ssok_stuck {body : List Stmt} : SsOk X Γ W body [.asgS (.cst .none) (.cst .none) (.cst .none)] := ⟨fun pins s σ H D I ⟨F, ρ, sim, q⟩ => (show False from q).elim⟩
theorem c_append (wr : Wor X W) (ho : Ok X Γ W o o') (ha : Oks X Γ W (e :: es) es') (hbase : attributeBase o "append" X.env (eval o X.env) = eval o X.env := by rfl)
    (hfew : ((backTo pos (starEach (e :: es) X.env)).all (fun x => !x.1) && (backToKw pos (keywordEach [] X.env)).all (fun x => x.1.isSome)
      && decide ((e :: es).length + ([] : List Keyword).length + (if ([] : List Keyword).isEmpty then 0 else 1) < 30)) = true := by rfl)
    (hline : (apos.endLine == pos.line) = true := by rfl) (hs : starEach (e :: es) X.env = (false, eval e X.env) :: starEach es X.env := by rfl) (hplain : (backTo pos (starEach es X.env)).any (·.1) = false := by rfl) :
    Ok X Γ W (.Call (.Attribute o "append" apos) (e :: es) [] pos) (.bme .append o' es') := ok_append wr ho ha hbase hfew hline hs hplain
/-! ### what is walked -/
theorem c_add (wr : Wor X W) (ho : Ok X Γ W o o') (ha : Oks X Γ W (e :: es) es') (hbase : attributeBase o "add" X.env (eval o X.env) = eval o X.env := by rfl)
    (hfew : ((backTo pos (starEach (e :: es) X.env)).all (fun x => !x.1) && (backToKw pos (keywordEach [] X.env)).all (fun x => x.1.isSome)
      && decide ((e :: es).length + ([] : List Keyword).length + (if ([] : List Keyword).isEmpty then 0 else 1) < 30)) = true := by rfl)
    (hline : (apos.endLine == pos.line) = true := by rfl) (hs : starEach (e :: es) X.env = (false, eval e X.env) :: starEach es X.env := by rfl) (hplain : (backTo pos (starEach es X.env)).any (·.1) = false := by rfl) :
    Ok X Γ W (.Call (.Attribute o "add" apos) (e :: es) [] pos) (.bme .add o' es') := ok_add wr ho ha hbase hfew hline hs hplain
/-! ### what is walked -/
theorem c_set0 (wr : Wor X W) (fx : Fx X Γ k fns blts cls flds mts excs) (h1 : ("set" : Str) ∈ blts) (gl : Gl X "set" := by rfl) : Ok X Γ W (.Call (.Name "set" p) [] [] pos) (.blt .set []) := ok_set0 wr gl (fx.blt _ h1)
theorem w_v {tg : Expr} {d' : E} (he : Ok X Γ W e d') (hd : (dn Γ d').it = fun ρ => ((dn Γ d').v ρ).bind fun x => (Res.of (itemsOf x.1.toD)).bind fun xs => .ok (xs, x.2) := by rfl) : PIG X W tg e (dn Γ d') := oki_of he.v hd
theorem w_range1 (fx : Fx X Γ k fns blts cls flds mts excs) {tg : Expr} (h1 : ("range" : Str) ∈ blts) (ha : Ok X Γ W a a') (gl : Gl X "range" := by rfl) (hs : starEach [a] X.env = [(false, eval a X.env)] := by rfl) : PIG X W tg (.Call (.Name "range" p) [a] [] pos) (dn Γ (.blt .range [a'])) :=
  oki_range1 gl (fx.blt _ h1) (oks_cons ha oks_nil hs) hs
theorem w_range2 (fx : Fx X Γ k fns blts cls flds mts excs) {tg : Expr} (h1 : ("range" : Str) ∈ blts) (ha : Ok X Γ W a a') (hb : Ok X Γ W b b') (gl : Gl X "range" := by rfl) (hs : starEach [a, b] X.env = [(false, eval a X.env), (false, eval b X.env)] := by rfl) (hs2 : starEach [b] X.env = [(false, eval b X.env)] := by rfl) :
    PIG X W tg (.Call (.Name "range" p) [a, b] [] pos) (dn Γ (.blt .range2 [a', b'])) :=
  oki_range2 gl (fx.blt _ h1) (oks_cons ha (oks_cons hb oks_nil hs2) (by rw [hs, hs2])) hs hs2
theorem g_name {i : Nat} (hN : X.N.Nodup) (hi : X.N[i]? = some x := by rfl) (hx : Loc X.env.scope x := by first | exact .inl rfl | exact .inr rfl) (hf : X.fn x = true ∨ X.env.scope.names.lookup x = some .local := by first | exact .inl rfl | exact .inr rfl) : PG X (.Name x pos) (gG X.K (.name i)) := okg_name hN hi hx hf
theorem g_cons {es : List Expr} {t : T} {ts : List T} (h1 : PG X e (gG X.K t)) (h2 : PGs X es (gGs X.K ts)) (hs : (assignEach (e :: es) X.env).map (·.2) = assign e X.env :: (assignEach es X.env).map (·.2) := by rfl) : PGs X (e :: es) (gGs X.K (t :: ts)) := okgs_cons h1 h2 hs
theorem g_tup {es : List Expr} {kk : Nat} {ts : List T} (hc : X.calm = true) (h : PGs X es (gGs X.K ts)) (hn : (assignEach es X.env).length = ts.length := by rfl) (hst : (assignEach es X.env).findIdx? (·.1) = none := by rfl) : PG X (.Tuple es kk pos) (gG X.K (.tup ts)) := okg_tup hc h hn hst
/-! ### statements -/
theorem s_set {y : Str} {p2 : Pos} (hN : X.N.Nodup) (he : Ok X Γ W e e') (hi : X.N[i]? = some y := by rfl) (hx : Loc X.env.scope y := by first | exact .inl rfl | exact .inr rfl) (hs : swapsWith e (some (.Name y p2)) pos.line X.env = pure false := by rfl)
    (hf : X.fn y = true ∨ X.env.scope.names.lookup y = some .local := by first | exact .inl rfl | exact .inr rfl) : SOk X Γ W (.Assign [.Name y p2] e pos) (.asg (.name i) e') := sok_set hN hi hx he hs hf
theorem s_tup {tg : Expr} {ts : List T} (he : Ok X Γ W e e') (hg : PG X tg (gG X.K (.tup ts))) (hs : swapsWithSole [tg] e pos.line X.env = pure false := by rfl) (hw : swappedStores [tg] e X.env = pure none := by rfl) (h1 : (assignEach [tg] X.env).map (·.2) = [assign tg X.env] := by rfl) :
    SOk X Γ W (.Assign [tg] e pos) (.asg (.tup ts) e') := sok_asgT he hg hs hw h1
theorem s_sub (ho : Ok X Γ W o o') (hb : Ok X Γ W b b') (he : Ok X Γ W e e') (ha : ∀ v, assign (.Subscript o b p2) X.env v = (do
      let ov ← holding [v] (eval o X.env)
      let iv ← holding [v, ov] (eval b X.env)
      standAt p2
      holding [v, ov, iv] (setItem ov iv v)
      release [v, ov, iv] []) := by intro _; rfl) (hs : swapsWithSole [.Subscript o b p2] e pos.line X.env = pure false := by rfl) (hw : swappedStores [.Subscript o b p2] e X.env = pure none := by rfl) (h1 : (assignEach [.Subscript o b p2] X.env).map (·.2) = [assign (.Subscript o b p2) X.env] := by rfl) :
    SOk X Γ W (.Assign [.Subscript o b p2] e pos) (.asgS o' b' e') := sok_asgS ho hb he ha hs hw h1
theorem s_fld (fx : Fx X Γ k fns blts cls flds mts excs) (h1 : f ∈ flds) (ho : Ok X Γ W o o') (he : Ok X Γ W e e') (hs : swapsWith e (some (.Attribute o f p2)) pos.line X.env = pure false := by rfl) : SOk X Γ W (.Assign [.Attribute o f p2] e pos) (.asgF o' f e') := sok_asgF (fx.fld f h1) ho he hs
theorem s_augF (fx : Fx X Γ k fns blts cls flds mts excs) (h1 : f ∈ flds) (ho : Ok X Γ W o o') (he : Ok X Γ W e e') : SOk X Γ W (.AugAssign (.Attribute o f p2) .Add e pos) (.augF o' f e') := sok_augF (fx.fld f h1) ho he
theorem s_augN {y : Str} {p2 : Pos} (hN : X.N.Nodup) (he : Ok X Γ W e e') (hi : X.N[i]? = some y := by rfl) (hx : Loc X.env.scope y := by first | exact .inl rfl | exact .inr rfl) (hf : X.fn y = true ∨ X.env.scope.names.lookup y = some .local := by first | exact .inl rfl | exact .inr rfl) :
    SOk X Γ W (.AugAssign (.Name y p2) .Add e pos) (.augN i e') := sok_augN hN hi hx he hf
theorem s_expr (he : Ok X Γ W e e') (hs : swapsWith e none pos.line X.env = pure false := by rfl) : SOk X Γ W (.Expr e pos) (.expr e') := sok_expr he hs
theorem s_ret (he : Ok X Γ W e e') (hv : (dn Γ e').vr = none := by rfl) : SOk X Γ W (.Return (some e) pos) (.ret e') := sok_ret he hv
theorem s_retv {y : Str} (hN : X.N[i]? = some y := by rfl) (hv : Vis X.env.scope y := by first | exact .inl rfl | exact .inr (.inl rfl) | exact .inr (.inr rfl)) (hd : (y == ("__debug__" : Str)) = false := by decide) (hcd : (y == ("__classdict__" : Str)) = false := by decide) :
    SOk X Γ W (.Return (some (.Name y p)) pos) (.ret (.var i)) := sok_retv hN hv hd hcd
theorem s_for {tg : Expr} {t : T} {tb : List Stmt} {tb' : List S} (hp : PassesOwn (model X.prog X.w) X.A X.env X.xe) (wr : Wor X W) (hi : PIG X W tg e (dn Γ e')) (hg : PG X tg (gG X.K t)) (hb : SsOk X Γ W tb tb') (hs : ∀ x, foldedSetIterable e X.env x = pure x := by intro _; rfl) :
    SOk X Γ W (.For tg e tb [] pos) (.for_ t e' tb') := sok_for hp wr.calm hi hg hb hs
theorem s_forO {tg : Expr} {t : T} {tb : List Stmt} {tb' : List S} {y : Str} {py : Pos} {i : Nat} (hp : PassesOwn (model X.prog X.w) X.A X.env X.xe) (wr : Wor X W) (ho : Ok X Γ W (.Name y py) (.var i)) (hg : PG X tg (gG X.K t)) (hb : SsOk X Γ W tb tb') (hs : ∀ x, foldedSetIterable (.Name y py) X.env x = pure x := by intro _; rfl) :
    SOk X Γ W (.For tg (.Name y py) tb [] pos) (.forO t i tb') := sok_forO hp wr.calm ho.p hg hb hs
theorem s_raise (wr : Wor X W) (fx : Fx X Γ k fns blts cls flds mts excs) {cpos : Pos} (h1 : x ∈ excs) (gl : Gl X x := by rfl) (hdb : (x == ("__debug__" : Str)) = false := by decide) : SOk X Γ W (.Raise (some (.Call (.Name x p) [] [] cpos)) none pos) (.raise x) := sok_raise wr (fx.exc x h1) gl hdb
section
variable {elt tg iter : Expr} {ifs : List Expr} {scope : Scope} {own' : List Nat} {t : T} {elt' it' cc : E}
theorem c_lc (own : List (Str × Nat)) (wr : Wor X W) (hi : PIG X W tg iter (dn Γ it')) (hg : ∀ (s : Shared) (H : Hp) (C : Addr) (cl : List (Str × Addr)) (fp : List Addr), PG (X.blk s H scope (compEnvC scope cl C X.env) fp) tg (gG X.K t))
    (ht : ∀ (s : Shared) (H : Hp) (C : Addr) (cl : List (Str × Addr)) (fp : List Addr), CndOk (X.blk s H scope (compEnvC scope cl C X.env) fp) Γ ifs cc)
    (he : ∀ (s : Shared) (H : Hp) (C : Addr) (cl : List (Str × Addr)) (fp : List Addr), Ok (X.blk s H scope (compEnvC scope cl C X.env) fp) Γ W0 elt elt')
    (ok : blkC X.N X.env.scope scope own = true := by rfl) (ho : own.map (·.2) = own' := by rfl) (hn : ∀ j ∈ t.names, j ∈ own' := by decide) (hs : ∀ x, foldedSetIterable iter X.env x = pure x := by intro _; rfl) :
    Ok X Γ W (.ListComp elt [⟨tg, iter, ifs, 0⟩] scope pos) (.lc elt' t it' cc own') := ok_lc wr.calm wr.nd hi (blkOk_by ok) ho hn hg ht he hs
theorem s_setLc (own : List (Str × Nat)) {y : Str} {py spos : Pos} (wr : Wor X W) (hi : PIG X W tg iter (dn Γ it')) (hg : ∀ (s : Shared) (H : Hp) (C : Addr) (cl : List (Str × Addr)) (fp : List Addr), PG (X.blk s H scope (compEnvC scope cl C X.env) fp) tg (gG X.K t))
    (ht : ∀ (s : Shared) (H : Hp) (C : Addr) (cl : List (Str × Addr)) (fp : List Addr), CndOk (X.blk s H scope (compEnvC scope cl C X.env) fp) Γ ifs cc)
    (he : ∀ (s : Shared) (H : Hp) (C : Addr) (cl : List (Str × Addr)) (fp : List Addr), Ok (X.blk s H scope (compEnvC scope cl C X.env) fp) Γ W0 elt elt')
    (hy : X.N[i]? = some y := by rfl) (hyl : X.env.scope.names.lookup y = some .local := by rfl) (hk : X.env.scope.kind = .function := by rfl) (hln : (py.line == pos.line) = true := by rfl) (hsn : (scope.names.any fun (n, k) => n == y && (k == .local || k == .cell)) = false := by rfl)
    (ok : blkC X.N X.env.scope scope own = true := by rfl) (ho : own.map (·.2) = own' := by rfl) (hn : ∀ j ∈ t.names, j ∈ own' := by decide) (hs : ∀ x, foldedSetIterable iter X.env x = pure x := by intro _; rfl) :
    SOk X Γ W (.Assign [.Name y py] (.ListComp elt [⟨tg, iter, ifs, 0⟩] scope pos) spos) (.asg (.name i) (.lc elt' t it' cc own')) := sok_setLc wr.calm wr.nd hy hyl (sw_true hk hyl hln hsn) hi (blkOk_by ok) ho hn hg ht he hs
end
end
section
variable {X : Cx} {Γ : Ctx} {W : WX} {k : Nat} {fns blts cls flds excs : List Str} {mts : List (Str × Str)}
/-- what a context knows of the errors and of their naming -/
structure XFx (X : Cx) (j : Nat) (w : Option Str) : Prop where
  kf : KindF X.K
  pe : X.mg "PlaypartsError" = some (.ref (He.ga X.K "PlaypartsError"))
  nf : ∃ f fd z, FnX X.prog X.w X.K X.mg X.base j f fd z (spC X.K w) ∧ X.mg "_law_class" = some (.ref f) ∧ PySem.W.keepIn X.K (.ref f) = true ∧ Binds X.K fd [z] []
theorem s_try {i j : Nat} {y : Str} {w w' : Option Str} {st : Stmt} {body : List Stmt} {b' : List S} {hp hpos pos : Pos} (wr : Wor X W) (fx : Fx X Γ k fns blts cls flds mts excs) (xf : XFx X j w) (hj : j ≤ k + 1)
    (hb : ∀ (W : WX) (pn : List (Addr × Obj)) (xe : Value → Shared → Prop), TakesA (X.tr pn xe) W → PassesOwn (model X.prog X.w) X.A X.env xe → SsOk (X.tr pn xe) Γ W body b')
    (hd : Hdl "_law_class" y w w' st := by first | exact .call _ _ _ _ _ | exact .pair _ _ _ _ _ _ _) (hst : X.stack = X.env :: X.outer := by rfl) (hfr : X.env.frame = some X.env.locals := by rfl) (hln : X.env.kindOf y = some .local := by rfl) (g1 : Gl X "PlaypartsError" := by rfl) (gl : Gl X "_law_class" := by rfl)
    (hN : X.N[i]? = some y := by rfl) (hv : Vis X.env.scope y := by first | exact .inl rfl | exact .inr (.inl rfl)) (d1 : (y == ("__debug__" : Str)) = false := by decide) (d2 : (y == ("__classdict__" : Str)) = false := by decide) :
    SOk X Γ W (.Try body [.ExceptHandler (some (.Name "PlaypartsError" hp)) (some y) [st] hpos] [] [] pos) (.tryR i b' w') :=
  sok_try (k := j) hst hfr wr.nd hln xf.kf ⟨g1, by decide, .inl xf.pe⟩ hd ⟨xf.nf, gl, hN, hv, d1, d2, by decide⟩ (L2H.roomH_of (fx.room.mono hj)) hb
theorem c_mk {j n : Nat} {w : Option Str} {x : Str} {p pos : Pos} {es : List Expr} (fx : Fx X Γ k fns blts cls flds mts excs) (xf : XFx X j w) (h1 : x ∈ excs) (hr : PA X es (tMkL X.K n)) (h5 : x ∈ five := by decide +kernel) (gl : Gl X x := by rfl) (hdb : (x == ("__debug__" : Str)) = false := by decide)
    (hs : starEach (.Call (.Name x p) [] [] pos :: es) X.env = (false, eval (.Call (.Name x p) [] [] pos) X.env) :: starEach es X.env := by rfl) : PA X (.Call (.Name x p) [] [] pos :: es) (tMkL X.K (n + 1)) := pa_mk (fx.exc x h1) (xf.kf.mad x h5) gl hdb hr hs
theorem s_mades {i j n x1 : Nat} {y : Str} {w : Option Str} {es : List Expr} {py tpos pos : Pos} {st : Stmt} {ps : Nat → Pos} (hp : PassesOwn (model X.prog X.w) X.A X.env X.xe) (wr : Wor X W) (fx : Fx X Γ k fns blts cls flds mts excs) (xf : XFx X j w) (h1 : ("isinstance" : Str) ∈ blts) (h2 : ("str" : Str) ∈ blts)
    (ha : PA X es (tMkL X.K n)) (h0 : 0 < n := by decide) (hn : n ≤ 1000 := by decide) (hN : X.N[i]? = some y := by rfl) (hx : X.env.scope.names.lookup y = some .local := by rfl) (hv : Vis X.env.scope y := by first | exact .inl rfl | exact .inr (.inl rfl)) (d1 : (y == ("__debug__" : Str)) = false := by decide) (d2 : (y == ("__classdict__" : Str)) = false := by decide)
    (g0 : Gl X "isinstance" := by rfl) (g1 : Gl X "PlaypartsError" := by rfl) (g6 : Gl X "str" := by rfl) (hs : ∀ x, foldedSetIterable (.Tuple es x1 tpos) X.env x = pure x := by intro _; rfl) :
    SOk X Γ W (.For (.Name y py) (.Tuple es x1 tpos) [madeIf y ps st] [] pos) (.junk i) :=
  sok_mades hp wr.calm wr.nd hN hx hv d1 d2 ⟨g0, fx.blt _ h1⟩ ⟨g1, xf.pe⟩ ⟨g6, fx.blt _ h2⟩ (by have := fx.room.un; omega) ha h0 hn hs
end
end PM
set_option Elab.async false
set_option linter.all false
set_option maxRecDepth 100000
/-! The head's facts, with a test of one's own beside He.hookD's. -/
namespace PM
open PySem PySem.Spec PyProof.Rows L2
def hookP (n : Nat) (fa : List He.Fa) (fn : List He.DefD) (xok : PySem.W.Frag → Bool) : PySem.W.Hook where
  α := He.AlD × Bool
  obs := fun s => (He.obsDG n fa fn s.heap.get?, xok (He.frG s.heap.get? (He.asD s.heap.get? n)))
  val := fun _ => (He.valD fn, true)
  says := fun _ h => ∃ K : PySem.W.Frag, K.In h ∧ He.SaysD fa fn K ∧ xok K = true
  of := fun _ _ e => ⟨_, He.frG_in, congrArg Prod.fst e, congrArg Prod.snd e⟩
  keeps := fun _ _ _ ⟨K, hK, c⟩ k => ⟨K, PySem.W.Frag.In.keeps hK k, c⟩
def obP (n : Nat) (fa : List He.Fa) (fn : List He.DefD) (xok : PySem.W.Frag → Bool) (s : PySem.W.SharedT) : He.AlD × Bool := (He.obsDG n fa fn (HandSHeadRun.getT s), xok (He.frG (HandSHeadRun.getT s) (He.asD (HandSHeadRun.getT s) n)))
theorem obP_eq (n : Nat) (fa : List He.Fa) (fn : List He.DefD) (xok : PySem.W.Frag → Bool) (s : PySem.W.SharedT) : obP n fa fn xok s = (hookP n fa fn xok).obs s.abs := by
  have e : HandSHeadRun.getT s = s.abs.heap.get? := funext (HandSHeadRun.getT_eq s)
  show (He.obsDG n fa fn (HandSHeadRun.getT s), xok (He.frG (HandSHeadRun.getT s) (He.asD (HandSHeadRun.getT s) n))) = _
  rw [e]
  rfl
/-! ### the errors' classes -/
def excB (K : PySem.W.Frag) (c : Str) : Bool :=
  He.eqO (PySem.W.findIn K (.ref (He.ga K c)) "__getattribute__") (some (some (.builtin "BaseException.__getattribute__"))) && (He.eqO (PySem.W.findIn K (.ref (He.ga K c)) "__getattr__") (some none) &&
  (decide (PySem.W.subIn K (.ref (He.ga K c)) (.type "BaseException") = some true) && (PySem.W.hasDictIn K (He.ga K c) && (He.eqO (PySem.W.findIn K (.ref (He.ga K c)) "__class__") (some (some (.builtin "object.__class__"))) &&
  (He.eqO (PySem.W.specialIn K (.builtin "object.__class__") "__get__") (some (some (.builtin "getset_descriptor.__get__"))) && (decide (PySem.W.takesIn K (.builtin "object.__class__") = some true) && (decide (PySem.W.mroIn K (He.ga K c) (.type "object") = some true) &&
  He.eqO (PySem.W.findIn K (.ref (He.ga K c)) "__str__") (some (some (.builtin "BaseException.__str__"))))))))))
theorem excB_ok {K : PySem.W.Frag} {c : Str} (h : excB K c = true) : XcF K (He.ga K c) := by
  obtain ⟨h1, h⟩ := He.ba h
  obtain ⟨h2, h⟩ := He.ba h
  obtain ⟨h3, h⟩ := He.ba h
  obtain ⟨h4, h⟩ := He.ba h
  obtain ⟨h5, h⟩ := He.ba h
  obtain ⟨h6, h⟩ := He.ba h
  obtain ⟨h7, h⟩ := He.ba h
  obtain ⟨h8, h9⟩ := He.ba h
  exact ⟨⟨He.eqO_ok h1, He.eqO_ok h2, of_decide_eq_true h3, h4, He.eqO_ok h5, He.eqO_ok h6, of_decide_eq_true h7, of_decide_eq_true h8⟩, He.eqO_ok h9⟩
def four : List Str := ["BadProtocol", "BadFormula", "BadWord", "TooMuch"]
def kindB (K : PySem.W.Frag) (c : Str) (n : Nat) : Bool :=
  decide (four.map (fun d => PySem.W.kitOne K (.ref (He.ga K c)) (.ref (He.ga K d))) = (List.range 4).map fun j => some (decide (j = n))) && (decide (PySem.W.kitOne K (.ref (He.ga K c)) (.type "ValueError") = some true) &&
    decide (PySem.W.exmOne K (.ref (He.ga K c)) (.ref (He.ga K "PlaypartsError")) = some true))
def madeB (K : PySem.W.Frag) (x : Str) : Bool := excB K x && decide (PySem.W.kitOne K (.ref (He.ga K x)) (.ref (He.ga K "PlaypartsError")) = some true)
def errsB (K : PySem.W.Frag) : Bool := (five.all fun c => madeB K c) && ((four.all fun c => excB K c) && (kindB K "BadProtocol" 0 && (kindB K "BadFormula" 1 && (kindB K "BadWord" 2 && kindB K "TooMuch" 3))))
theorem kindB_ok {K : PySem.W.Frag} {c : Str} {n : Nat} (h : kindB K c n = true) (hn : n < 4) : Kinds K (He.ga K c) (He.ga K "BadProtocol") (He.ga K "BadFormula") (He.ga K "BadWord") (He.ga K "TooMuch") n ∧ PySem.W.exmOne K (.ref (He.ga K c)) (.ref (He.ga K "PlaypartsError")) = some true := by
  obtain ⟨h1, h⟩ := He.ba h
  obtain ⟨h2, h3⟩ := He.ba h
  have e := of_decide_eq_true h1
  have e : [PySem.W.kitOne K (.ref (He.ga K c)) (.ref (He.ga K "BadProtocol")), PySem.W.kitOne K (.ref (He.ga K c)) (.ref (He.ga K "BadFormula")), PySem.W.kitOne K (.ref (He.ga K c)) (.ref (He.ga K "BadWord")), PySem.W.kitOne K (.ref (He.ga K c)) (.ref (He.ga K "TooMuch"))] =
    [some (decide (0 = n)), some (decide (1 = n)), some (decide (2 = n)), some (decide (3 = n))] := e
  injection e with e1 e
  injection e with e2 e
  injection e with e3 e
  injection e with e4 e
  exact ⟨⟨⟨_, _, _, _, e1, e2, e3, e4, rfl⟩, hn, of_decide_eq_true h2⟩, of_decide_eq_true h3⟩
theorem errs_ok {K : PySem.W.Frag} (h : errsB K = true) : KindF K := by
  obtain ⟨hm, h⟩ := He.ba h
  obtain ⟨h0, h⟩ := He.ba h
  obtain ⟨h1, h⟩ := He.ba h
  obtain ⟨h2, h⟩ := He.ba h
  obtain ⟨h3, h4⟩ := He.ba h
  have h0 : (excB K "BadProtocol" && (excB K "BadFormula" && (excB K "BadWord" && (excB K "TooMuch" && true)))) = true := h0
  obtain ⟨x1, h0⟩ := He.ba h0
  obtain ⟨x2, h0⟩ := He.ba h0
  obtain ⟨x3, h0⟩ := He.ba h0
  obtain ⟨x4, _⟩ := He.ba h0
  have key : ∀ c n, kindOf c = some n → (c = "BadProtocol" ∧ n = 0) ∨ (c = "BadFormula" ∧ n = 1) ∨ (c = "BadWord" ∧ n = 2) ∨ (c = "TooMuch" ∧ n = 3) := by
    intro c n h
    unfold kindOf at h
    split at h
    · rename_i z; cases h; exact .inl ⟨z, rfl⟩
    · split at h
      · rename_i z; cases h; exact .inr (.inl ⟨z, rfl⟩)
      · split at h
        · rename_i z; cases h; exact .inr (.inr (.inl ⟨z, rfl⟩))
        · split at h
          · rename_i z; cases h; exact .inr (.inr (.inr ⟨z, rfl⟩))
          · cases h
  refine ⟨fun x hx => ?_, fun c n h => ?_, fun c n h => ?_, fun c n h => ?_⟩
  · obtain ⟨a, b⟩ := He.ba (List.all_eq_true.mp hm x hx)
    exact ⟨excB_ok a, of_decide_eq_true b⟩
  · rcases key c n h with ⟨rfl, _⟩ | ⟨rfl, _⟩ | ⟨rfl, _⟩ | ⟨rfl, _⟩
    · exact excB_ok x1
    · exact excB_ok x2
    · exact excB_ok x3
    · exact excB_ok x4
  · rcases key c n h with ⟨rfl, rfl⟩ | ⟨rfl, rfl⟩ | ⟨rfl, rfl⟩ | ⟨rfl, rfl⟩
    · exact (kindB_ok h1 (by decide)).1
    · exact (kindB_ok h2 (by decide)).1
    · exact (kindB_ok h3 (by decide)).1
    · exact (kindB_ok h4 (by decide)).1
  · rcases key c n h with ⟨rfl, rfl⟩ | ⟨rfl, rfl⟩ | ⟨rfl, rfl⟩ | ⟨rfl, rfl⟩
    · exact (kindB_ok h1 (by decide)).2
    · exact (kindB_ok h2 (by decide)).2
    · exact (kindB_ok h3 (by decide)).2
    · exact (kindB_ok h4 (by decide)).2
end PM
set_option Elab.async false
set_option linter.all false
set_option maxRecDepth 100000
/-! From the head's facts to the promises of all defs, level by level. -/
namespace PM
open PySem PySem.Spec PyProof.Rows L2
variable [Cur]
/-- what is asked of the head, list by list -/
structure Rows where
  fns : List Str
  frs : List Str
  cons : List (Str × Int)
  ucls : List Str
  flds : List Str
  mts : List (Str × Str)
  excs : List Str
def Rows.fa (r : Rows) : List He.Fa := (r.fns ++ r.ucls ++ r.excs).map He.Fa.glo ++ r.frs.map He.Fa.free ++ r.cons.map (fun p => He.Fa.int p.1 p.2) ++ r.ucls.map He.Fa.cls ++ r.ucls.map He.Fa.mkr ++
  (r.ucls.flatMap fun c => r.flds.map fun f => He.Fa.noat c f) ++ r.mts.map (fun p => He.Fa.meth p.1 p.2) ++ r.excs.map He.Fa.exc
section
variable {r : Rows} {fn : List He.DefD} {K : PySem.W.Frag}
theorem fact_mem {fa : List He.Fa} {f : He.Fa} (c : He.SaysD fa fn K) (h : f ∈ fa) : f.ok K = true := by
  obtain ⟨i, hi⟩ := List.mem_iff_getElem?.mp h
  exact c.fact i hi
theorem def_mem {fa : List He.Fa} {d : He.DefD} (c : He.SaysD fa fn K) (h : d ∈ fn) : ∃ fd, FunD K d.name d.qual d.params d.body d.scope (d.dvs K) (d.kws K) (He.fAd K d.at_) fd := by
  obtain ⟨i, hi⟩ := List.mem_iff_getElem?.mp h
  exact c.def_ i hi
theorem fa_glo {x : Str} (h : x ∈ r.fns ++ r.ucls ++ r.excs) : He.Fa.glo x ∈ r.fa := by
  unfold Rows.fa
  simp only [List.mem_append]
  exact .inl (.inl (.inl (.inl (.inl (.inl (.inl (List.mem_map_of_mem h)))))))
theorem fa_free {x : Str} (h : x ∈ r.frs) : He.Fa.free x ∈ r.fa := by
  unfold Rows.fa
  simp only [List.mem_append]
  exact .inl (.inl (.inl (.inl (.inl (.inl (.inr (List.mem_map_of_mem h)))))))
theorem fa_int {p : Str × Int} (h : p ∈ r.cons) : He.Fa.int p.1 p.2 ∈ r.fa := by
  unfold Rows.fa
  simp only [List.mem_append]
  exact .inl (.inl (.inl (.inl (.inl (.inr (List.mem_map_of_mem (f := fun p => He.Fa.int p.1 p.2) h))))))
theorem fa_cls {x : Str} (h : x ∈ r.ucls) : He.Fa.cls x ∈ r.fa := by
  unfold Rows.fa
  simp only [List.mem_append]
  exact .inl (.inl (.inl (.inl (.inr (List.mem_map_of_mem h)))))
theorem fa_mkr {x : Str} (h : x ∈ r.ucls) : He.Fa.mkr x ∈ r.fa := by
  unfold Rows.fa
  simp only [List.mem_append]
  exact .inl (.inl (.inl (.inr (List.mem_map_of_mem h))))
theorem fa_noat {x f : Str} (h : x ∈ r.ucls) (hf : f ∈ r.flds) : He.Fa.noat x f ∈ r.fa := by
  unfold Rows.fa
  simp only [List.mem_append]
  exact .inl (.inl (.inr (List.mem_flatMap.mpr ⟨x, h, List.mem_map_of_mem hf⟩)))
theorem fa_meth {p : Str × Str} (h : p ∈ r.mts) : He.Fa.meth p.1 p.2 ∈ r.fa := by
  unfold Rows.fa
  simp only [List.mem_append]
  exact .inl (.inr (List.mem_map_of_mem (f := fun p => He.Fa.meth p.1 p.2) h))
theorem fa_exc {x : Str} (h : x ∈ r.excs) : He.Fa.exc x ∈ r.fa := by
  unfold Rows.fa
  simp only [List.mem_append]
  exact .inr (List.mem_map_of_mem h)
end
/-- the promises at a level -/
def Lv (P : Program) (w : World) (K : PySem.W.Frag) (mg : Str → Option Value) (base : Heap) (Pm : Prog) (fn : List He.DefD) (k : Nat) : Prop :=
  ∀ d ∈ fn, ∃ fd ps, FnG P w K mg base (2 * k) (He.fAd K d.at_) fd ps (spG K (den Pm k d.at_)) ∧ Binds K fd ps [] ∧ PySem.W.keepIn K (.ref (He.fAd K d.at_)) = true
theorem lv_zero {P : Program} {w : World} {K : PySem.W.Frag} {mg : Str → Option Value} {base : Heap} {Pm : Prog} {fn : List He.DefD} {fa : List He.Fa} (c : He.SaysD fa fn K) (hb : ∀ d ∈ fn, ∀ fd, FunD K d.name d.qual d.params d.body d.scope (d.dvs K) (d.kws K) (He.fAd K d.at_) fd → ∃ ps, Binds K fd ps []) : Lv P w K mg base Pm fn 0 := fun d hd => by
  obtain ⟨fd, F⟩ := def_mem c hd
  obtain ⟨ps, b⟩ := hb d hd fd F
  exact ⟨fd, ps, ⟨fun vs H Q E ⟨_, _, _, _, h⟩ => h.elim, fun _ _ _ _ _ _ _ _ _ _ _ _ _ _ ⟨_, _, _, _, h⟩ => h.elim⟩, b, F.kp⟩
theorem fx_of {X : Cx} {Pm : Prog} {k : Nat} {r : Rows} {fn : List He.DefD} (kin : X.K.In X.base) (G : X.base.Ns mainGlobals X.mg) (c : ∀ f ∈ r.fa, f.ok X.K = true) (lv : Lv X.prog X.w X.K X.mg X.base Pm fn k) (hr : Room (2 * k + 1) X.A)
    (hf : ∀ x ∈ r.fns, ∃ d ∈ fn, d.at_ = (x, none)) (hi : ∀ x ∈ r.ucls, ∃ d ∈ fn, d.at_ = (x, some ("__init__" : Str))) (hm : ∀ p ∈ r.mts, p.1 ∈ r.ucls ∧ ∃ d ∈ fn, d.at_ = (p.1, some p.2)) (hg : ∀ x d, Pm.glo x = some d → ∃ i, d = .int i ∧ (x, i) ∈ r.cons) (hc : ∀ x, Pm.cls x = true → x ∈ r.ucls) :
    Fx X (ctx Pm k) (2 * k) r.fns r.frs r.ucls r.flds r.mts r.excs where
  room := hr
  kin := kin
  fn := fun x hx => by
    obtain ⟨d, hd, e⟩ := hf x hx
    obtain ⟨fd, ps, F, b, kp⟩ := lv d hd
    rw [e] at F kp
    exact ⟨_, fd, ps, He.glo_ok kin G (c _ (fa_glo (List.mem_append_left _ (List.mem_append_left _ hx)))), kp, b, F⟩
  blt := fun x hx => He.free_ok kin G (c _ (fa_free hx))
  glo := fun x d hd => by
    obtain ⟨i, e, hi⟩ := hg x d hd
    obtain ⟨t, ht⟩ := He.int_ok kin G (c _ (fa_int hi))
    exact ⟨i, t, e, ht⟩
  cl := fun x hx => by
    obtain ⟨d, hd, e⟩ := hi x hx
    obtain ⟨fd, ps, F, b, kp⟩ := lv d hd
    rw [e] at F
    exact ⟨⟨_, fd, ps, He.mkr_ok (c _ (fa_mkr hx)), F, b⟩, He.glo_ok kin G (c _ (fa_glo (List.mem_append_left _ (List.mem_append_right _ hx))))⟩
  fld := fun f hf => ⟨fun x hx => He.cls_ok (c _ (fa_cls (hc x hx))), fun x hx => He.noat_ok (c _ (fa_noat (hc x hx) hf))⟩
  mt := fun p hp => by
    obtain ⟨h1, d, hd, e⟩ := hm p hp
    obtain ⟨fd, ps, F, b, kp⟩ := lv d hd
    rw [e] at F
    exact ⟨He.cls_ok (c _ (fa_cls h1)), _, fd, ps, He.meth_ok (c _ (fa_meth hp)), F, b⟩
  exc := fun x hx => by
    obtain ⟨h1, h2, h3, h4⟩ := He.exc_ok (c _ (fa_exc hx))
    exact ⟨⟨_, _, _, _, PySem.F.excBase_ValueError, h1⟩, He.glo_ok kin G (c _ (fa_glo (List.mem_append_right _ hx))), h2, raises_own h3 h4⟩
/-- one level up, for one def -/
theorem up_of {P : Program} {w : World} {K : PySem.W.Frag} {mg : Str → Option Value} {base : Heap} {Pm : Prog} {fn : List He.DefD} {fa : List He.Fa} {k : Nat} {d : He.DefD} {N ps : List Str} {D : FnDef} (hcur : P = Cur.P ∧ w = Cur.w) (c : He.SaysD fa fn K) (hd : d ∈ fn) (e0 : d.dfl = []) (S : FnScope N ps d.scope) (hn : N.length = D.nslots) (hp : ps.length = D.npar) (hle : D.npar ≤ D.nslots)
    (hb : ∀ (kV doc pm : Value) (an : Option Addr) (cdv ct : Value) (us : List Value), us.length = ps.length → bindArgs (PySem.W.fnOf d.name d.qual d.params d.body d.scope .none kV doc pm an cdv ct) ⟨us, []⟩ = pure (ps.zip us)) (hD : Pm.fn d.at_ = some D)
    (hB : ∀ (cdv : Value) (A : Around) (outer : List Env) (s : Shared) (H : Hp) (E : XK), Room (2 * k + 1) (A.deeper (envOfC d.qual d.scope s.heap.objs.size (He.fAd K d.at_) cdv)) →
      Wor (cxOf (CXA P w) P w K mg base N d.qual d.scope (He.fAd K d.at_) cdv A outer s H E) (fun cls dd _ H' => E cls dd H') → SsOk (cxOf (CXA P w) P w K mg base N d.qual d.scope (He.fAd K d.at_) cdv A outer s H E) (ctx Pm k) (fun cls dd _ H' => E cls dd H') d.body D.body) :
    ∃ fd ps, FnG P w K mg base (2 * (k + 1)) (He.fAd K d.at_) fd ps (spG K (den Pm (k + 1) d.at_)) ∧ Binds K fd ps [] ∧ PySem.W.keepIn K (.ref (He.fAd K d.at_)) = true := by
  obtain ⟨fd, F⟩ := def_mem c hd
  have F2 : FunD K d.name d.qual d.params d.body d.scope [] (d.kws K) (He.fAd K d.at_) fd := by
    have e : d.dvs K = [] := by unfold He.DefD.dvs; rw [e0]; rfl
    rw [← e]
    exact F
  refine ⟨fd, ps, ?_, F2.bindsN hb, F.kp⟩
  have e : den Pm (k + 1) d.at_ = runFn (ctx Pm k) D := funext fun as => den_succ Pm k _ as hD
  rw [e]
  exact fn_sound hcur F2 S hn hp hle hB
theorem Fx.sub {X : Cx} {Γ : Ctx} {k : Nat} {fns blts blts' cls flds excs excs' : List Str} {mts : List (Str × Str)} (fx : Fx X Γ k fns blts cls flds mts excs) (h1 : ∀ x ∈ blts', x ∈ blts) (h2 : ∀ x ∈ excs', x ∈ excs) : Fx X Γ k fns blts' cls flds mts excs' :=
  ⟨fx.room, fx.kin, fx.fn, fun x h => fx.blt x (h1 x h), fx.glo, fx.cl, fx.fld, fx.mt, fun x h => fx.exc x (h2 x h)⟩
/-- level 0, for one def -/
theorem base_of {P : Program} {w : World} {K : PySem.W.Frag} {mg : Str → Option Value} {base : Heap} {Pm : Prog} {fn : List He.DefD} {fa : List He.Fa} {d : He.DefD} {ps : List Str} (c : He.SaysD fa fn K) (hd : d ∈ fn) (e0 : d.dfl = [])
    (hb : ∀ (kV doc pm : Value) (an : Option Addr) (cdv ct : Value) (us : List Value), us.length = ps.length → bindArgs (PySem.W.fnOf d.name d.qual d.params d.body d.scope .none kV doc pm an cdv ct) ⟨us, []⟩ = pure (ps.zip us)) :
    ∃ fd ps, FnG P w K mg base (2 * 0) (He.fAd K d.at_) fd ps (spG K (den Pm 0 d.at_)) ∧ Binds K fd ps [] ∧ PySem.W.keepIn K (.ref (He.fAd K d.at_)) = true := by
  obtain ⟨fd, F⟩ := def_mem c hd
  have F2 : FunD K d.name d.qual d.params d.body d.scope [] (d.kws K) (He.fAd K d.at_) fd := by
    have e : d.dvs K = [] := by unfold He.DefD.dvs; rw [e0]; rfl
    rw [← e]
    exact F
  exact ⟨fd, ps, ⟨fun vs H Q E ⟨_, _, _, _, h⟩ => h.elim, fun _ _ _ _ _ _ _ _ _ _ _ _ _ _ ⟨_, _, _, _, h⟩ => h.elim⟩, F2.bindsN hb, F.kp⟩
/-- the law's own promise at the script -/
theorem law_sp {K : PySem.W.Frag} {r : List Slot → Res (Slot × Option MO)} {ns : List Int} {H : Hp} {a : Addr} (only : Only H) (hs : SqL K H a (ns.map V.int)) (h : r [.val (.list (ns.map PyData.int))] = .ok (.val (.bool true), none)) :
    spG K r [.ref a] H (fun v _ => v = .bl true) fun _ _ _ => False := by
  have rp : ∀ ns : List Int, RpA K (fun b => H b ≠ none) H (ns.map V.int) (ns.map PyData.int) := fun ns => by
    induction ns with
    | nil => exact .nil
    | cons n r ih => exact .cons (.int n) ih
  refine ⟨fun b => H b ≠ none, [.val (.list (ns.map .int))], fun _ h => h, .inl (.val (.lst ?_ (rp ns)) .nil), ?_⟩
  · rcases hs with hs | hs
    · refine .inl ⟨?_, hs⟩
      rcases hs with e | ⟨o, e⟩ <;> (rw [e]; simp)
    · exact .inr fun H' => .inr hs
  · rw [h]
    intro v F' H' _ hv _ _
    cases hv
    rfl
end PM
set_option Elab.async false
set_option linter.all false
set_option maxRecDepth 100000
set_option maxHeartbeats 0
namespace PM
namespace Lk01
open PySem
abbrev fns : List Str := [("is_within" : Str), ("is_act" : Str), ("are_moves" : Str), ("is_marked" : Str), ("is_protocol" : Str), ("check_protocol" : Str), ("_law_box" : Str), ("_law_take" : Str), ("_law_pick" : Str), ("_law_acts" : Str), ("_law_protocol" : Str), ("_law_spoilt" : Str), ("_law_number" : Str), ("_law_is_act" : Str), ("_law_are_moves" : Str), ("_law_is_protocol" : Str), ("_law_told" : Str), ("_law_near" : Str), ("law" : Str)]
abbrev blts : List Str := [("abs" : Str), ("bool" : Str), ("int" : Str), ("isinstance" : Str), ("len" : Str), ("range" : Str), ("sorted" : Str), ("str" : Str), ("sum" : Str), ("tuple" : Str)]
abbrev clss : List Str := []
abbrev flds : List Str := []
abbrev excs : List Str := [("BadFormula" : Str), ("BadProtocol" : Str), ("BadWord" : Str), ("PlaypartsError" : Str), ("TooMuch" : Str)]
abbrev mts : List (Str × Str) := []
def B_is_within : List S := [(.ret (.and (.isi (.var 0) .int) (.and (.not (.isi (.var 0) .bool)) (.chn .le .le (.var 1) (.var 0) (.var 2)))))]
def N_is_within : List Str := [("x" : Str), ("low" : Str), ("high" : Str)]
def D_is_within : FnDef := ⟨3, 3, false, B_is_within⟩
def B_is_act : List S := [(.ite (.or (.not (.isi (.var 0) .tuple)) (.cmp .ne (.blt .len [(.var 0)]) (.cst (.int 3)))) [(.ret (.cst (.bool false)))] []),
  (.asg (.tup [(.name 2), (.name 3), (.name 4)]) (.var 0)),
  (.ite (.or (.not (.call ("is_within" : Str) false [(.var 2), (.cst (.int 0)), (.bin .sub (.var 1) (.cst (.int 1)))])) (.not (.call ("is_within" : Str) false [(.var 3), (.cst (.int 0)), (.bin .sub (.var 1) (.cst (.int 1)))]))) [(.ret (.cst (.bool false)))] []),
  (.ret (.and (.cmp .ne (.var 2) (.var 3)) (.call ("is_within" : Str) false [(.var 4), (.cst (.int 0)), (.glo ("MOST_MESSAGE" : Str))])))]
def N_is_act : List Str := [("x" : Str), ("partners" : Str), ("teller" : Str), ("hearer" : Str), ("message" : Str)]
def D_is_act : FnDef := ⟨5, 2, false, B_is_act⟩
def B_are_moves : List S := [(.ite (.not (.isi (.var 0) .tuple)) [(.ret (.cst (.bool false)))] []),
  (.asg (.name 3) (.cst .none)),
  (.for_ (.name 4) (.var 0) [(.ite (.or (.not (.isi (.var 4) .tuple)) (.cmp .ne (.blt .len [(.var 4)]) (.cst (.int 2)))) [(.ret (.cst (.bool false)))] []), (.ite (.or (.not (.call ("is_act" : Str) false [(.sub (.var 4) (.cst (.int 0))), (.var 1)])) (.not (.call ("is_within" : Str) false [(.sub (.var 4) (.cst (.int 1))), (.cst (.int 0)), (.bin .sub (.var 2) (.cst (.int 1)))]))) [(.ret (.cst (.bool false)))] []), (.ite (.and (.cmp .notN (.var 3) (.cst .none)) (.cmp .le (.var 4) (.var 3))) [(.ret (.cst (.bool false)))] []), (.asg (.name 3) (.var 4))]),
  (.ret (.cst (.bool true)))]
def N_are_moves : List Str := [("x" : Str), ("partners" : Str), ("many" : Str), ("before" : Str), ("move" : Str)]
def D_are_moves : FnDef := ⟨5, 3, false, B_are_moves⟩
def B_is_marked : List S := [(.ite (.or (.not (.isi (.var 0) .tuple)) (.or (.cmp .ne (.blt .len [(.var 0)]) (.cst (.int 2))) (.not (.isi (.sub (.var 0) (.cst (.int 0))) .bool)))) [(.ret (.cst (.bool false)))] []),
  (.ret (.call ("are_moves" : Str) false [(.sub (.var 0) (.cst (.int 1))), (.var 1), (.var 2)]))]
def N_is_marked : List Str := [("x" : Str), ("partners" : Str), ("many" : Str)]
def D_is_marked : FnDef := ⟨3, 3, false, B_is_marked⟩
def B_is_protocol : List S := [(.ite (.or (.not (.isi (.var 0) .tuple)) (.or (.cmp .ne (.blt .len [(.var 0)]) (.cst (.int 2))) (.not (.call ("is_within" : Str) false [(.sub (.var 0) (.cst (.int 0))), (.glo ("FEWEST" : Str)), (.glo ("MOST_PARTNERS" : Str))])))) [(.ret (.cst (.bool false)))] []),
  (.ite (.or (.not (.isi (.sub (.var 0) (.cst (.int 1))) .tuple)) (.not (.chn .le .le (.cst (.int 1)) (.blt .len [(.sub (.var 0) (.cst (.int 1)))]) (.glo ("MOST_STATES" : Str))))) [(.ret (.cst (.bool false)))] []),
  (.asg (.name 1) (.cst (.int 0))),
  (.for_ (.name 2) (.sub (.var 0) (.cst (.int 1))) [(.ite (.or (.not (.call ("is_marked" : Str) false [(.var 2), (.sub (.var 0) (.cst (.int 0))), (.blt .len [(.sub (.var 0) (.cst (.int 1)))])])) (.not (.or (.sub (.var 2) (.cst (.int 0))) (.sub (.var 2) (.cst (.int 1)))))) [(.ret (.cst (.bool false)))] []), (.augN 1 (.blt .len [(.sub (.var 2) (.cst (.int 1)))]))]),
  (.ret (.cmp .le (.var 1) (.glo ("MOST_MOVES" : Str))))]
def N_is_protocol : List Str := [("x" : Str), ("moves" : Str), ("state" : Str)]
def D_is_protocol : FnDef := ⟨3, 1, false, B_is_protocol⟩
def B_check_protocol : List S := [(.ite (.not (.call ("is_protocol" : Str) false [(.var 0)])) [(.raise ("BadProtocol" : Str))] [])]
def N_check_protocol : List Str := [("protocol" : Str)]
def D_check_protocol : FnDef := ⟨1, 1, false, B_check_protocol⟩
def B__law_box : List S := [(.ret (.lst [(.cst (.int 0)), (.cst (.int 0)), (.cst (.int 0)), (.lc (.blt .abs [(.blt .int [(.var 1)])]) (.name 1) (.var 0) (.cst (.bool true)) [1])]))]
def N__law_box : List Str := [("_law_script" : Str), ("_law_x" : Str)]
def D__law_box : FnDef := ⟨2, 1, false, B__law_box⟩
def B__law_take : List S := [(.ite (.cmp .eq (.sub (.var 0) (.cst (.int 1))) (.cst (.int 0))) [(.asg (.name 2) (.sub (.var 0) (.cst (.int 2)))), (.asg (.name 3) (.cst (.int 0))), (.ite (.cmp .lt (.var 2) (.blt .len [(.sub (.var 0) (.cst (.int 3)))])) [(.asg (.name 3) (.sub (.sub (.var 0) (.cst (.int 3))) (.var 2))), (.asgS (.var 0) (.cst (.int 1)) (.ite (.cmp .ge (.var 3) (.bin .pow (.cst (.int 10)) (.cst (.int 18)))) (.cst (.int 60)) (.neg (.cst (.int 9)))))] []), (.asgS (.var 0) (.cst (.int 2)) (.bin .add (.var 2) (.cst (.int 1)))), (.asgS (.var 0) (.cst (.int 0)) (.var 3)), (.ite (.cmp .eq (.sub (.var 0) (.cst (.int 1))) (.cst (.int 0))) [(.ret (.cst (.int 0)))] [])] []),
  (.ite (.cmp .gt (.sub (.var 0) (.cst (.int 1))) (.cst (.int 0))) [(.asg (.name 4) (.bin .mod (.blt .int [(.sub (.var 0) (.cst (.int 0)))]) (.var 1))), (.asgS (.var 0) (.cst (.int 0)) (.bin .fdiv (.sub (.var 0) (.cst (.int 0))) (.var 1))), (.asgS (.var 0) (.cst (.int 1)) (.ite (.cmp .gt (.sub (.var 0) (.cst (.int 0))) (.cst (.int 0))) (.bin .sub (.sub (.var 0) (.cst (.int 1))) (.cst (.int 1))) (.cst (.int 0)))), (.ret (.var 4))] []),
  (.asgS (.var 0) (.cst (.int 1)) (.bin .add (.sub (.var 0) (.cst (.int 1))) (.cst (.int 1)))),
  (.asgS (.var 0) (.cst (.int 0)) (.bin .mod (.blt .int [(.bin .add (.bin .mul (.sub (.var 0) (.cst (.int 0))) (.cst (.int 48271))) (.bin .mul (.cst (.int 69621)) (.bin .add (.sub (.var 0) (.cst (.int 1))) (.cst (.int 20)))))]) (.cst (.int 2147483647)))),
  (.ret (.bin .mod (.bin .mod (.blt .int [(.bin .add (.bin .fdiv (.sub (.var 0) (.cst (.int 0))) (.cst (.int 7))) (.sub (.var 0) (.cst (.int 0))))]) (.cst (.int 1000003))) (.var 1)))]
def N__law_take : List Str := [("_law_box_here" : Str), ("_law_m" : Str), ("_law_at" : Str), ("_law_cell" : Str), ("_law_told_here" : Str)]
def D__law_take : FnDef := ⟨5, 2, true, B__law_take⟩
def B__law_pick : List S := [(.ret (.sub (.var 1) (.call ("_law_take" : Str) true [(.var 0), (.blt .len [(.var 1)])])))]
def N__law_pick : List Str := [("_law_box_here" : Str), ("_law_menu" : Str)]
def D__law_pick : FnDef := ⟨2, 2, true, B__law_pick⟩
def B__law_acts : List S := [(.asg (.name 2) (.lst [])),
  (.for_ (.name 3) (.blt .range [(.bin .add (.cst (.int 2)) (.call ("_law_take" : Str) true [(.var 0), (.cst (.int 4))]))]) [(.asg (.name 4) (.call ("_law_take" : Str) true [(.var 0), (.var 1)])), (.asg (.name 5) (.bin .mod (.blt .int [(.bin .add (.bin .add (.var 4) (.cst (.int 1))) (.call ("_law_take" : Str) true [(.var 0), (.bin .sub (.var 1) (.cst (.int 1)))]))]) (.var 1))), (.asg (.name 6) (.tup [(.var 4), (.var 5), (.call ("_law_pick" : Str) true [(.var 0), (.lst [(.cst (.int 0)), (.cst (.int 0)), (.cst (.int 1)), (.cst (.int 4))])])])), (.ite (.cmp .notIn (.var 6) (.var 2)) [(.expr (.bme .append (.var 2) [(.var 6)]))] [])]),
  (.ret (.blt .sorted [(.var 2)]))]
def N__law_acts : List Str := [("_law_box_here" : Str), ("_law_k" : Str), ("_law_found" : Str), ("_law_turn" : Str), ("_law_p" : Str), ("_law_q" : Str), ("_law_act" : Str)]
def D__law_acts : FnDef := ⟨7, 2, true, B__law_acts⟩
def B__law_protocol : List S := [(.asg (.name 2) (.call ("_law_pick" : Str) true [(.var 0), (.lst [(.cst (.int 2)), (.cst (.int 2)), (.cst (.int 3)), (.cst (.int 3)), (.cst (.int 4))])])),
  (.asg (.name 3) (.call ("_law_acts" : Str) true [(.var 0), (.var 2)])),
  (.asg (.name 4) (.bin .add (.cst (.int 1)) (.call ("_law_take" : Str) true [(.var 0), (.var 1)]))),
  (.asg (.name 5) (.lst [])),
  (.for_ (.name 6) (.blt .range [(.var 4)]) [(.asg (.name 7) (.lst [])), (.for_ (.name 8) (.blt .range [(.call ("_law_pick" : Str) true [(.var 0), (.lst [(.cst (.int 0)), (.cst (.int 1)), (.cst (.int 1)), (.cst (.int 2)), (.cst (.int 2)), (.cst (.int 3))])])]) [(.asg (.name 9) (.tup [(.call ("_law_pick" : Str) true [(.var 0), (.var 3)]), (.call ("_law_take" : Str) true [(.var 0), (.var 4)])])), (.ite (.cmp .notIn (.var 9) (.var 7)) [(.expr (.bme .append (.var 7) [(.var 9)]))] [])]), (.expr (.bme .append (.var 5) [(.tup [(.or (.cmp .eq (.var 7) (.lst [])) (.cmp .eq (.call ("_law_take" : Str) true [(.var 0), (.cst (.int 3))]) (.cst (.int 0)))), (.blt .tuple [(.blt .sorted [(.var 7)])])])]))]),
  (.ret (.tup [(.var 2), (.blt .tuple [(.var 5)])]))]
def N__law_protocol : List Str := [("_law_box_here" : Str), ("_law_most" : Str), ("_law_k" : Str), ("_law_acts_here" : Str), ("_law_many" : Str), ("_law_states" : Str), ("_law_s" : Str), ("_law_moves" : Str), ("_law_turn" : Str), ("_law_move" : Str)]
def D__law_protocol : FnDef := ⟨10, 2, true, B__law_protocol⟩
def B__law_spoilt : List S := [(.ite (.or (.not (.isi (.var 1) .tuple)) (.or (.cmp .eq (.var 1) (.tup [])) (.cmp .eq (.call ("_law_take" : Str) true [(.var 0), (.cst (.int 9))]) (.cst (.int 0))))) [(.ite (.and (.isi (.var 1) .int) (.and (.not (.isi (.var 1) .bool)) (.cmp .gt (.call ("_law_take" : Str) true [(.var 0), (.cst (.int 3))]) (.cst (.int 0))))) [(.ret (.bin .add (.var 1) (.call ("_law_pick" : Str) true [(.var 0), (.lst [(.cst (.int 1)), (.neg (.cst (.int 1))), (.cst (.int 2)), (.cst (.int 9))])])))] []), (.ret (.call ("_law_pick" : Str) true [(.var 0), (.lst [(.cst (.int 0)), (.cst (.int 1)), (.neg (.cst (.int 1))), (.cst (.int 5)), (.cst (.bool true)), (.cst (.bool false)), (.cst .none), (.cst (.str ("0" : Str))), (.cst (.str ("" : Str))), (.tup []), (.tup [(.cst (.int 0)), (.cst (.int 1)), (.cst (.int 0))]), (.tup [(.cst (.int 1)), (.cst (.int 0)), (.cst (.int 0))]), (.tup [(.tup [(.cst (.int 0)), (.cst (.int 1)), (.cst (.int 0))]), (.cst (.int 0))]), (.cst (.str ("at" : Str))), (.cst (.str ("not" : Str))), (.cst (.str ("all" : Str))), (.cst (.str ("ended" : Str))), (.tup [(.cst (.str ("ended" : Str)))])])]))] []),
  (.asg (.name 2) (.call ("_law_take" : Str) true [(.var 0), (.blt .len [(.var 1)])])),
  (.asg (.name 3) (.call ("_law_take" : Str) true [(.var 0), (.cst (.int 6))])),
  (.ite (.cmp .eq (.var 3) (.cst (.int 0))) [(.ret (.bin .add (.slc (.var 1) false (.cst .none) true (.var 2)) (.slc (.var 1) true (.bin .add (.var 2) (.cst (.int 1))) false (.cst .none))))] []),
  (.ite (.cmp .eq (.var 3) (.cst (.int 1))) [(.ret (.bin .add (.bin .add (.slc (.var 1) false (.cst .none) true (.var 2)) (.tup [(.sub (.var 1) (.var 2))])) (.slc (.var 1) true (.var 2) false (.cst .none))))] []),
  (.ite (.and (.cmp .eq (.var 3) (.cst (.int 2))) (.cmp .gt (.var 2) (.cst (.int 0)))) [(.ret (.bin .add (.bin .add (.slc (.var 1) false (.cst .none) true (.bin .sub (.var 2) (.cst (.int 1)))) (.tup [(.sub (.var 1) (.var 2)), (.sub (.var 1) (.bin .sub (.var 2) (.cst (.int 1))))])) (.slc (.var 1) true (.bin .add (.var 2) (.cst (.int 1))) false (.cst .none))))] []),
  (.ret (.bin .add (.bin .add (.slc (.var 1) false (.cst .none) true (.var 2)) (.tup [(.call ("_law_spoilt" : Str) true [(.var 0), (.sub (.var 1) (.var 2))])])) (.slc (.var 1) true (.bin .add (.var 2) (.cst (.int 1))) false (.cst .none))))]
def N__law_spoilt : List Str := [("_law_box_here" : Str), ("_law_x" : Str), ("_law_at" : Str), ("_law_sort" : Str)]
def D__law_spoilt : FnDef := ⟨4, 2, true, B__law_spoilt⟩
def B__law_number : List S := [(.ret (.and (.isi (.var 0) .int) (.and (.not (.isi (.var 0) .bool)) (.and (.cmp .le (.var 1) (.var 0)) (.cmp .le (.var 0) (.var 2))))))]
def N__law_number : List Str := [("_law_x" : Str), ("_law_low" : Str), ("_law_high" : Str)]
def D__law_number : FnDef := ⟨3, 3, false, B__law_number⟩
def B__law_is_act : List S := [(.ite (.or (.not (.isi (.var 0) .tuple)) (.cmp .ne (.blt .len [(.var 0)]) (.cst (.int 3)))) [(.ret (.cst (.bool false)))] []),
  (.ret (.and (.call ("_law_number" : Str) false [(.sub (.var 0) (.cst (.int 0))), (.cst (.int 0)), (.bin .sub (.var 1) (.cst (.int 1)))]) (.and (.call ("_law_number" : Str) false [(.sub (.var 0) (.cst (.int 1))), (.cst (.int 0)), (.bin .sub (.var 1) (.cst (.int 1)))]) (.and (.cmp .ne (.sub (.var 0) (.cst (.int 0))) (.sub (.var 0) (.cst (.int 1)))) (.call ("_law_number" : Str) false [(.sub (.var 0) (.cst (.int 2))), (.cst (.int 0)), (.cst (.int 4))])))))]
def N__law_is_act : List Str := [("_law_x" : Str), ("_law_k" : Str)]
def D__law_is_act : FnDef := ⟨2, 2, false, B__law_is_act⟩
def B__law_are_moves : List S := [(.ite (.not (.isi (.var 0) .tuple)) [(.ret (.cst (.bool false)))] []),
  (.for_ (.name 3) (.var 0) [(.ite (.or (.not (.isi (.var 3) .tuple)) (.or (.cmp .ne (.blt .len [(.var 3)]) (.cst (.int 2))) (.or (.not (.call ("_law_is_act" : Str) false [(.sub (.var 3) (.cst (.int 0))), (.var 1)])) (.not (.call ("_law_number" : Str) false [(.sub (.var 3) (.cst (.int 1))), (.cst (.int 0)), (.bin .sub (.var 2) (.cst (.int 1)))]))))) [(.ret (.cst (.bool false)))] [])]),
  (.ret (.cmp .eq (.lc (.var 4) (.name 4) (.blt .range2 [(.cst (.int 1)), (.blt .len [(.var 0)])]) (.cmp .le (.sub (.var 0) (.var 4)) (.sub (.var 0) (.bin .sub (.var 4) (.cst (.int 1))))) [4]) (.lst [])))]
def N__law_are_moves : List Str := [("_law_x" : Str), ("_law_k" : Str), ("_law_many" : Str), ("_law_move" : Str), ("_law_at" : Str)]
def D__law_are_moves : FnDef := ⟨5, 3, false, B__law_are_moves⟩
def B__law_is_protocol : List S := [(.ite (.or (.not (.isi (.var 0) .tuple)) (.or (.cmp .ne (.blt .len [(.var 0)]) (.cst (.int 2))) (.or (.not (.call ("_law_number" : Str) false [(.sub (.var 0) (.cst (.int 0))), (.cst (.int 2)), (.cst (.int 4))])) (.or (.not (.isi (.sub (.var 0) (.cst (.int 1))) .tuple)) (.not (.chn .le .le (.cst (.int 1)) (.blt .len [(.sub (.var 0) (.cst (.int 1)))]) (.cst (.int 10)))))))) [(.ret (.cst (.bool false)))] []),
  (.for_ (.name 1) (.sub (.var 0) (.cst (.int 1))) [(.ite (.or (.not (.isi (.var 1) .tuple)) (.or (.cmp .ne (.blt .len [(.var 1)]) (.cst (.int 2))) (.or (.not (.isi (.sub (.var 1) (.cst (.int 0))) .bool)) (.not (.call ("_law_are_moves" : Str) false [(.sub (.var 1) (.cst (.int 1))), (.sub (.var 0) (.cst (.int 0))), (.blt .len [(.sub (.var 0) (.cst (.int 1)))])]))))) [(.ret (.cst (.bool false)))] []), (.ite (.and (.not (.sub (.var 1) (.cst (.int 0)))) (.cmp .eq (.sub (.var 1) (.cst (.int 1))) (.tup []))) [(.ret (.cst (.bool false)))] [])]),
  (.ret (.cmp .le (.blt .sum [(.lc (.blt .len [(.var 3)]) (.tup [(.name 2), (.name 3)]) (.sub (.var 0) (.cst (.int 1))) (.cst (.bool true)) [2, 3])]) (.cst (.int 40))))]
def N__law_is_protocol : List Str := [("_law_x" : Str), ("_law_state" : Str), ("_law_ends" : Str), ("_law_moves" : Str)]
def D__law_is_protocol : FnDef := ⟨4, 1, false, B__law_is_protocol⟩
def B__law_told : List S := [(.tryR 1 [(.ret (.ite (.cmp .isN (.call ("check_protocol" : Str) false [(.var 0)]) (.cst .none)) (.cst (.str ("let" : Str))) (.cst (.str ("told" : Str)))))] (some ("refused" : Str)))]
def N__law_told : List Str := [("_law_x" : Str), ("_law_e" : Str)]
def D__law_told : FnDef := ⟨2, 1, false, B__law_told⟩
def B__law_near : List S := [(.asg (.name 1) (.call ("_law_take" : Str) true [(.var 0), (.cst (.int 2))])),
  (.asg (.name 2) (.tup [(.cst (.bool false)), (.tup [(.tup [(.tup [(.cst (.int 0)), (.cst (.int 1)), (.cst (.int 0))]), (.cst (.int 0))])])])),
  (.asg (.name 3) (.lst [])),
  (.for_ (.tup [(.name 4), (.name 5)]) (.tup [(.tup [(.cst (.int 0)), (.cst (.int 1))]), (.tup [(.cst (.int 1)), (.cst (.int 0))])]) [(.for_ (.name 6) (.blt .range [(.cst (.int 5))]) [(.asg (.name 3) (.bin .add (.var 3) (.lc (.tup [(.tup [(.var 4), (.var 5), (.var 6)]), (.var 9)]) (.name 9) (.blt .range [(.cst (.int 4))]) (.cst (.bool true)) [9])))])]),
  (.asg (.name 7) (.tup [(.cst (.bool false)), (.blt .tuple [(.slc (.var 3) false (.cst .none) true (.cst (.int 20)))])])),
  (.asg (.name 8) (.lst [(.tup [(.bin .add (.cst (.int 4)) (.var 1)), (.tup [(.var 2)])]), (.tup [(.bin .sub (.cst (.int 2)) (.var 1)), (.tup [(.tup [(.cst (.bool true)), (.tup [])])])]), (.tup [(.cst (.int 2)), (.bin .mul (.tup [(.var 2)]) (.bin .add (.cst (.int 10)) (.var 1)))]), (.tup [(.cst (.int 2)), (.ite (.cmp .eq (.var 1) (.cst (.int 0))) (.bin .mul (.tup [(.var 2)]) (.cst (.int 10))) (.tup []))]), (.tup [(.cst (.int 2)), (.tup [(.tup [(.cst (.bool false)), (.tup [(.tup [(.tup [(.cst (.int 0)), (.cst (.int 1)), (.bin .add (.cst (.int 4)) (.var 1))]), (.cst (.int 0))])])])])]), (.tup [(.cst (.int 2)), (.tup [(.var 7), (.tup [(.cst (.bool true)), (.blt .tuple [(.slc (.var 3) true (.cst (.int 20)) true (.cst (.int 40)))])]), (.tup [(.cst (.bool true)), (.ite (.var 1) (.sub (.var 2) (.cst (.int 1))) (.tup []))]), (.tup [(.cst (.bool true)), (.tup [])])])]), (.tup [(.cst (.int 2)), (.tup [(.tup [(.cmp .eq (.var 1) (.cst (.int 0))), (.tup [])])])]), (.tup [(.cst (.int 2)), (.tup [(.tup [(.cst (.bool false)), (.tup [(.tup [(.tup [(.cst (.int 0)), (.cst (.int 1)), (.cst (.int 0))]), (.var 1)])])])])]), (.tup [(.cst (.int 3)), (.tup [(.tup [(.cst (.bool false)), (.tup [(.tup [(.tup [(.cst (.int 0)), (.bin .add (.cst (.int 2)) (.var 1)), (.cst (.int 0))]), (.cst (.int 0))])])])])])])),
  (.ret (.tup [(.call ("_law_pick" : Str) true [(.var 0), (.var 8)]), (.cmp .eq (.var 1) (.cst (.int 0)))]))]
def N__law_near : List Str := [("_law_box_here" : Str), ("_law_more" : Str), ("_law_loop" : Str), ("_law_wide" : Str), ("_law_p" : Str), ("_law_q" : Str), ("_law_m" : Str), ("_law_full" : Str), ("_law_found" : Str), ("_law_to" : Str)]
def D__law_near : FnDef := ⟨10, 1, true, B__law_near⟩
def B_law : List S := [(.asg (.name 1) (.call ("_law_box" : Str) false [(.var 0)])),
  (.for_ (.name 2) (.blt .range [(.cst (.int 4))]) [(.asg (.name 3) (.call ("_law_protocol" : Str) true [(.var 1), (.cst (.int 6))])), (.ite (.or (.cmp .ne (.call ("_law_told" : Str) false [(.var 3)]) (.cst (.str ("let" : Str)))) (.not (.call ("_law_is_protocol" : Str) false [(.var 3)]))) [(.ret (.cst (.bool false)))] []), (.asg (.name 4) (.call ("_law_spoilt" : Str) true [(.var 1), (.var 3)])), (.for_ (.name 5) (.lst [(.var 4), (.call ("_law_spoilt" : Str) true [(.var 1), (.var 4)]), (.call ("_law_pick" : Str) true [(.var 1), (.lst [(.cst .none), (.cst (.int 2)), (.cst (.str ("protocol" : Str))), (.tup []), (.tup [(.var 3)]), (.rev (.var 3)), (.bin .add (.var 3) (.tup [(.cst (.int 0))])), (.tup [(.cst (.int 2))])])])]) [(.ite (.cmp .ne (.call ("_law_told" : Str) false [(.var 5)]) (.ite (.call ("_law_is_protocol" : Str) false [(.var 5)]) (.cst (.str ("let" : Str))) (.tup [(.cst (.str ("refused" : Str))), (.cst (.str ("protocol" : Str)))]))) [(.ret (.cst (.bool false)))] [])])]),
  (.asg (.tup [(.name 6), (.name 7)]) (.call ("_law_near" : Str) true [(.var 1)])),
  (.junk 8),
  (.ret (.and (.cmp .eq (.var 7) (.call ("_law_is_protocol" : Str) false [(.var 6)])) (.cmp .eq (.call ("_law_told" : Str) false [(.var 6)]) (.ite (.var 7) (.cst (.str ("let" : Str))) (.tup [(.cst (.str ("refused" : Str))), (.cst (.str ("protocol" : Str)))])))))]
def N_law : List Str := [("_law_script" : Str), ("_law_box_here" : Str), ("_law_turn" : Str), ("_law_protocol_here" : Str), ("_law_spoilt_here" : Str), ("_law_x" : Str), ("_law_near_here" : Str), ("_law_good" : Str), ("_law_error" : Str)]
def D_law : FnDef := ⟨9, 1, false, B_law⟩
def tab : List (FName × FnDef) := [((("is_within" : Str), none), D_is_within), ((("is_act" : Str), none), D_is_act), ((("are_moves" : Str), none), D_are_moves), ((("is_marked" : Str), none), D_is_marked), ((("is_protocol" : Str), none), D_is_protocol), ((("check_protocol" : Str), none), D_check_protocol), ((("_law_box" : Str), none), D__law_box), ((("_law_take" : Str), none), D__law_take), ((("_law_pick" : Str), none), D__law_pick), ((("_law_acts" : Str), none), D__law_acts), ((("_law_protocol" : Str), none), D__law_protocol), ((("_law_spoilt" : Str), none), D__law_spoilt), ((("_law_number" : Str), none), D__law_number), ((("_law_is_act" : Str), none), D__law_is_act), ((("_law_are_moves" : Str), none), D__law_are_moves), ((("_law_is_protocol" : Str), none), D__law_is_protocol), ((("_law_told" : Str), none), D__law_told), ((("_law_near" : Str), none), D__law_near), ((("law" : Str), none), D_law)]
def cons : List (Str × PyData) := [(("FEWEST" : Str), .int 2), (("MOST_PARTNERS" : Str), .int 4), (("MOST_MESSAGE" : Str), .int 4), (("MOST_STATES" : Str), .int 10), (("MOST_MOVES" : Str), .int 40)]
def prog : Prog := ⟨fun f => tab.lookup f, fun x => cons.lookup x, 100000, fun c => decide (c ∈ clss)⟩
theorem glo_FEWEST {k : Nat} : (ctx prog k).glo ("FEWEST" : Str) = some (.int 2) := rfl
theorem glo_MOST_PARTNERS {k : Nat} : (ctx prog k).glo ("MOST_PARTNERS" : Str) = some (.int 4) := rfl
theorem glo_MOST_MESSAGE {k : Nat} : (ctx prog k).glo ("MOST_MESSAGE" : Str) = some (.int 4) := rfl
theorem glo_MOST_STATES {k : Nat} : (ctx prog k).glo ("MOST_STATES" : Str) = some (.int 10) := rfl
theorem glo_MOST_MOVES {k : Nat} : (ctx prog k).glo ("MOST_MOVES" : Str) = some (.int 40) := rfl
theorem Dn_is_within : prog.fn (("is_within" : Str), none) = some D_is_within := rfl
theorem Dn_is_act : prog.fn (("is_act" : Str), none) = some D_is_act := rfl
theorem Dn_are_moves : prog.fn (("are_moves" : Str), none) = some D_are_moves := rfl
theorem Dn_is_marked : prog.fn (("is_marked" : Str), none) = some D_is_marked := rfl
theorem Dn_is_protocol : prog.fn (("is_protocol" : Str), none) = some D_is_protocol := rfl
theorem Dn_check_protocol : prog.fn (("check_protocol" : Str), none) = some D_check_protocol := rfl
theorem Dn__law_box : prog.fn (("_law_box" : Str), none) = some D__law_box := rfl
theorem Dn__law_take : prog.fn (("_law_take" : Str), none) = some D__law_take := rfl
theorem Dn__law_pick : prog.fn (("_law_pick" : Str), none) = some D__law_pick := rfl
theorem Dn__law_acts : prog.fn (("_law_acts" : Str), none) = some D__law_acts := rfl
theorem Dn__law_protocol : prog.fn (("_law_protocol" : Str), none) = some D__law_protocol := rfl
theorem Dn__law_spoilt : prog.fn (("_law_spoilt" : Str), none) = some D__law_spoilt := rfl
theorem Dn__law_number : prog.fn (("_law_number" : Str), none) = some D__law_number := rfl
theorem Dn__law_is_act : prog.fn (("_law_is_act" : Str), none) = some D__law_is_act := rfl
theorem Dn__law_are_moves : prog.fn (("_law_are_moves" : Str), none) = some D__law_are_moves := rfl
theorem Dn__law_is_protocol : prog.fn (("_law_is_protocol" : Str), none) = some D__law_is_protocol := rfl
theorem Dn__law_told : prog.fn (("_law_told" : Str), none) = some D__law_told := rfl
theorem Dn__law_near : prog.fn (("_law_near" : Str), none) = some D__law_near := rfl
theorem Dn_law : prog.fn (("law" : Str), none) = some D_law := rfl
end Lk01
end PM
set_option Elab.async false
set_option linter.all false
set_option maxRecDepth 100000
set_option maxHeartbeats 0
namespace PM
namespace Lk01
open PySem PySem.Spec PyProof.Rows L2
variable [Cur]
def top (i : Nat) : Stmt := PySem.Challenge.pw_playparts_k01_what_is_a_protocol.main.body.getD i (.Pass ⟨0, 0, 0, 0⟩)
def inCls (st : Stmt) (j : Nat) : Stmt := match st with
  | .ClassDef _ _ _ body _ _ _ _ _ _ _ => body.getD j (.Pass ⟨0, 0, 0, 0⟩)
  | _ => .Pass ⟨0, 0, 0, 0⟩
theorem m_f_is_within : ("is_within" : Str) ∈ fns := by decide +kernel
theorem m_f_is_act : ("is_act" : Str) ∈ fns := by decide +kernel
theorem m_f_are_moves : ("are_moves" : Str) ∈ fns := by decide +kernel
theorem m_f_is_marked : ("is_marked" : Str) ∈ fns := by decide +kernel
theorem m_f_is_protocol : ("is_protocol" : Str) ∈ fns := by decide +kernel
theorem m_f_check_protocol : ("check_protocol" : Str) ∈ fns := by decide +kernel
theorem m_f__law_box : ("_law_box" : Str) ∈ fns := by decide +kernel
theorem m_f__law_take : ("_law_take" : Str) ∈ fns := by decide +kernel
theorem m_f__law_pick : ("_law_pick" : Str) ∈ fns := by decide +kernel
theorem m_f__law_acts : ("_law_acts" : Str) ∈ fns := by decide +kernel
theorem m_f__law_protocol : ("_law_protocol" : Str) ∈ fns := by decide +kernel
theorem m_f__law_spoilt : ("_law_spoilt" : Str) ∈ fns := by decide +kernel
theorem m_f__law_number : ("_law_number" : Str) ∈ fns := by decide +kernel
theorem m_f__law_is_act : ("_law_is_act" : Str) ∈ fns := by decide +kernel
theorem m_f__law_are_moves : ("_law_are_moves" : Str) ∈ fns := by decide +kernel
theorem m_f__law_is_protocol : ("_law_is_protocol" : Str) ∈ fns := by decide +kernel
theorem m_f__law_told : ("_law_told" : Str) ∈ fns := by decide +kernel
theorem m_f__law_near : ("_law_near" : Str) ∈ fns := by decide +kernel
theorem m_f_law : ("law" : Str) ∈ fns := by decide +kernel
theorem m_b_abs : ("abs" : Str) ∈ blts := by decide +kernel
theorem m_b_bool : ("bool" : Str) ∈ blts := by decide +kernel
theorem m_b_int : ("int" : Str) ∈ blts := by decide +kernel
theorem m_b_isinstance : ("isinstance" : Str) ∈ blts := by decide +kernel
theorem m_b_len : ("len" : Str) ∈ blts := by decide +kernel
theorem m_b_range : ("range" : Str) ∈ blts := by decide +kernel
theorem m_b_sorted : ("sorted" : Str) ∈ blts := by decide +kernel
theorem m_b_str : ("str" : Str) ∈ blts := by decide +kernel
theorem m_b_sum : ("sum" : Str) ∈ blts := by decide +kernel
theorem m_b_tuple : ("tuple" : Str) ∈ blts := by decide +kernel
theorem m_e_BadFormula : ("BadFormula" : Str) ∈ excs := by decide +kernel
theorem m_e_BadProtocol : ("BadProtocol" : Str) ∈ excs := by decide +kernel
theorem m_e_BadWord : ("BadWord" : Str) ∈ excs := by decide +kernel
theorem m_e_PlaypartsError : ("PlaypartsError" : Str) ∈ excs := by decide +kernel
theorem m_e_TooMuch : ("TooMuch" : Str) ∈ excs := by decide +kernel
abbrev st_is_within : Stmt := top 12
abbrev st_is_act : Stmt := top 13
abbrev st_are_moves : Stmt := top 14
abbrev st_is_marked : Stmt := top 15
abbrev st_is_protocol : Stmt := top 16
abbrev st_check_protocol : Stmt := top 17
abbrev st__law_box : Stmt := top 19
abbrev st__law_take : Stmt := top 20
abbrev st__law_pick : Stmt := top 21
abbrev st__law_acts : Stmt := top 22
abbrev st__law_protocol : Stmt := top 23
abbrev st__law_spoilt : Stmt := top 25
abbrev st__law_number : Stmt := top 26
abbrev st__law_is_act : Stmt := top 27
abbrev st__law_are_moves : Stmt := top 28
abbrev st__law_is_protocol : Stmt := top 29
abbrev st__law_told : Stmt := top 30
abbrev st__law_near : Stmt := top 31
abbrev st_law : Stmt := top 32
section
variable {P : Program} {w : World} {K : PySem.W.Frag} {mg : Str → Option Value} {base : Heap} {f : Addr} {cdv : Value} {A : Around} {outer : List Env} {s : Shared} {H : Hp} {E : XK} {k kk : Nat}
theorem ok_is_within (wr : Wor (cxOf (CXA P w) P w K mg base N_is_within "is_within" (defScope st_is_within) f cdv A outer s H E) (fun cls d _ H2 => E cls d H2)) (fx : Fx (cxOf (CXA P w) P w K mg base N_is_within "is_within" (defScope st_is_within) f cdv A outer s H E) (ctx prog kk) k fns blts clss flds mts excs) : SsOk (cxOf (CXA P w) P w K mg base N_is_within "is_within" (defScope st_is_within) f cdv A outer s H E) (ctx prog kk) (fun cls d _ H2 => E cls d H2) (defBody st_is_within) B_is_within :=
  (sok_cons (s_ret (c_and (c_isi fx (t := .int) (m_b_isinstance) (m_b_int) (c_var (i := 0))) (bl_and (ok_not (c_isi fx (t := .bool) (m_b_isinstance) (m_b_bool) (c_var (i := 0)))) (bl_and1 (c_chn wr (c_var (i := 1)) (c_var (i := 0)) (c_var (i := 2)))))))
    sok_nil)
theorem ok_is_act (wr : Wor (cxOf (CXA P w) P w K mg base N_is_act "is_act" (defScope st_is_act) f cdv A outer s H E) (fun cls d _ H2 => E cls d H2)) (fx : Fx (cxOf (CXA P w) P w K mg base N_is_act "is_act" (defScope st_is_act) f cdv A outer s H E) (ctx prog kk) k fns blts clss flds mts excs) : SsOk (cxOf (CXA P w) P w K mg base N_is_act "is_act" (defScope st_is_act) f cdv A outer s H E) (ctx prog kk) (fun cls d _ H2 => E cls d H2) (defBody st_is_act) B_is_act :=
  (sok_cons (sok_ite (c_or (ok_not (c_isi fx (t := .tuple) (m_b_isinstance) (m_b_tuple) (c_var (i := 0)))) (bl_or1 (c_cmp wr (c_blt wr fx (m_b_len) (c_cons (c_var (i := 0)) oks_nil)) c_int))) (sok_cons (s_ret c_bl)
    sok_nil) sok_nil)
    (sok_cons (s_tup (c_var (i := 0)) (g_tup wr.calm (g_cons (g_name (i := 2) wr.nd) (g_cons (g_name (i := 3) wr.nd) (g_cons (g_name (i := 4) wr.nd) okgs_nil)))))
    (sok_cons (sok_ite (c_or (ok_not (c_call wr fx (m_f_is_within) (c_cons (c_var (i := 2)) (c_cons c_int (c_cons (c_bin (c_var (i := 1)) c_int) oks_nil))))) (bl_or1 (ok_not (c_call wr fx (m_f_is_within) (c_cons (c_var (i := 3)) (c_cons c_int (c_cons (c_bin (c_var (i := 1)) c_int) oks_nil))))))) (sok_cons (s_ret c_bl)
    sok_nil) sok_nil)
    (sok_cons (s_ret (c_and (c_cmp wr (c_var (i := 2)) (c_var (i := 3))) (bl_and1 (c_call wr fx (m_f_is_within) (c_cons (c_var (i := 4)) (c_cons c_int (c_cons (c_glo fx (j := 4) rfl) oks_nil)))))))
    sok_nil))))
theorem ok_are_moves (wr : Wor (cxOf (CXA P w) P w K mg base N_are_moves "are_moves" (defScope st_are_moves) f cdv A outer s H E) (fun cls d _ H2 => E cls d H2)) (fx : Fx (cxOf (CXA P w) P w K mg base N_are_moves "are_moves" (defScope st_are_moves) f cdv A outer s H E) (ctx prog kk) k fns blts clss flds mts excs) : SsOk (cxOf (CXA P w) P w K mg base N_are_moves "are_moves" (defScope st_are_moves) f cdv A outer s H E) (ctx prog kk) (fun cls d _ H2 => E cls d H2) (defBody st_are_moves) B_are_moves :=
  (sok_cons (sok_ite (ok_not (c_isi fx (t := .tuple) (m_b_isinstance) (m_b_tuple) (c_var (i := 0)))) (sok_cons (s_ret c_bl)
    sok_nil) sok_nil)
    (sok_cons (s_set (i := 3) wr.nd c_non)
    (sok_cons (s_for (passes_of rfl) wr (w_v (c_var (i := 0))) (g_name (i := 4) wr.nd) (sok_cons (sok_ite (c_or (ok_not (c_isi fx (t := .tuple) (m_b_isinstance) (m_b_tuple) (c_var (i := 4)))) (bl_or1 (c_cmp wr (c_blt wr fx (m_b_len) (c_cons (c_var (i := 4)) oks_nil)) c_int))) (sok_cons (s_ret c_bl)
    sok_nil) sok_nil)
    (sok_cons (sok_ite (c_or (ok_not (c_call wr fx (m_f_is_act) (c_cons (c_sub (c_var (i := 4)) c_int) (c_cons (c_var (i := 1)) oks_nil)))) (bl_or1 (ok_not (c_call wr fx (m_f_is_within) (c_cons (c_sub (c_var (i := 4)) c_int) (c_cons c_int (c_cons (c_bin (c_var (i := 2)) c_int) oks_nil))))))) (sok_cons (s_ret c_bl)
    sok_nil) sok_nil)
    (sok_cons (sok_ite (c_and (c_cmp wr (c_var (i := 3)) c_non) (bl_and1 (c_cmp wr (c_var (i := 4)) (c_var (i := 3))))) (sok_cons (s_ret c_bl)
    sok_nil) sok_nil)
    (sok_cons (s_set (i := 3) wr.nd (c_var (i := 4)))
    sok_nil)))))
    (sok_cons (s_ret c_bl)
    sok_nil))))
theorem ok_is_marked (wr : Wor (cxOf (CXA P w) P w K mg base N_is_marked "is_marked" (defScope st_is_marked) f cdv A outer s H E) (fun cls d _ H2 => E cls d H2)) (fx : Fx (cxOf (CXA P w) P w K mg base N_is_marked "is_marked" (defScope st_is_marked) f cdv A outer s H E) (ctx prog kk) k fns blts clss flds mts excs) : SsOk (cxOf (CXA P w) P w K mg base N_is_marked "is_marked" (defScope st_is_marked) f cdv A outer s H E) (ctx prog kk) (fun cls d _ H2 => E cls d H2) (defBody st_is_marked) B_is_marked :=
  (sok_cons (sok_ite (c_or (ok_not (c_isi fx (t := .tuple) (m_b_isinstance) (m_b_tuple) (c_var (i := 0)))) (bl_or (c_cmp wr (c_blt wr fx (m_b_len) (c_cons (c_var (i := 0)) oks_nil)) c_int) (bl_or1 (ok_not (c_isi fx (t := .bool) (m_b_isinstance) (m_b_bool) (c_sub (c_var (i := 0)) c_int)))))) (sok_cons (s_ret c_bl)
    sok_nil) sok_nil)
    (sok_cons (s_ret (c_call wr fx (m_f_are_moves) (c_cons (c_sub (c_var (i := 0)) c_int) (c_cons (c_var (i := 1)) (c_cons (c_var (i := 2)) oks_nil)))))
    sok_nil))
theorem ok_is_protocol (wr : Wor (cxOf (CXA P w) P w K mg base N_is_protocol "is_protocol" (defScope st_is_protocol) f cdv A outer s H E) (fun cls d _ H2 => E cls d H2)) (fx : Fx (cxOf (CXA P w) P w K mg base N_is_protocol "is_protocol" (defScope st_is_protocol) f cdv A outer s H E) (ctx prog kk) k fns blts clss flds mts excs) : SsOk (cxOf (CXA P w) P w K mg base N_is_protocol "is_protocol" (defScope st_is_protocol) f cdv A outer s H E) (ctx prog kk) (fun cls d _ H2 => E cls d H2) (defBody st_is_protocol) B_is_protocol :=
  (sok_cons (sok_ite (c_or (ok_not (c_isi fx (t := .tuple) (m_b_isinstance) (m_b_tuple) (c_var (i := 0)))) (bl_or (c_cmp wr (c_blt wr fx (m_b_len) (c_cons (c_var (i := 0)) oks_nil)) c_int) (bl_or1 (ok_not (c_call wr fx (m_f_is_within) (c_cons (c_sub (c_var (i := 0)) c_int) (c_cons (c_glo fx (j := 2) rfl) (c_cons (c_glo fx (j := 4) rfl) oks_nil)))))))) (sok_cons (s_ret c_bl)
    sok_nil) sok_nil)
    (sok_cons (sok_ite (c_or (ok_not (c_isi fx (t := .tuple) (m_b_isinstance) (m_b_tuple) (c_sub (c_var (i := 0)) c_int))) (bl_or1 (ok_not (c_chn wr c_int (c_blt wr fx (m_b_len) (c_cons (c_sub (c_var (i := 0)) c_int) oks_nil)) (c_glo fx (j := 10) rfl))))) (sok_cons (s_ret c_bl)
    sok_nil) sok_nil)
    (sok_cons (s_set (i := 1) wr.nd c_int)
    (sok_cons (s_for (passes_of rfl) wr (w_v (c_sub (c_var (i := 0)) c_int)) (g_name (i := 2) wr.nd) (sok_cons (sok_ite (c_or (ok_not (c_call wr fx (m_f_is_marked) (c_cons (c_var (i := 2)) (c_cons (c_sub (c_var (i := 0)) c_int) (c_cons (c_blt wr fx (m_b_len) (c_cons (c_sub (c_var (i := 0)) c_int) oks_nil)) oks_nil))))) (bl_or1 (ok_not (c_or (c_sub (c_var (i := 2)) c_int) (bl_or1 (c_sub (c_var (i := 2)) c_int)))))) (sok_cons (s_ret c_bl)
    sok_nil) sok_nil)
    (sok_cons (s_augN (i := 1) wr.nd (c_blt wr fx (m_b_len) (c_cons (c_sub (c_var (i := 2)) c_int) oks_nil)))
    sok_nil)))
    (sok_cons (s_ret (c_cmp wr (c_var (i := 1)) (c_glo fx (j := 40) rfl)))
    sok_nil)))))
theorem ok_check_protocol (wr : Wor (cxOf (CXA P w) P w K mg base N_check_protocol "check_protocol" (defScope st_check_protocol) f cdv A outer s H E) (fun cls d _ H2 => E cls d H2)) (fx : Fx (cxOf (CXA P w) P w K mg base N_check_protocol "check_protocol" (defScope st_check_protocol) f cdv A outer s H E) (ctx prog kk) k fns blts clss flds mts excs) : SsOk (cxOf (CXA P w) P w K mg base N_check_protocol "check_protocol" (defScope st_check_protocol) f cdv A outer s H E) (ctx prog kk) (fun cls d _ H2 => E cls d H2) (defBody st_check_protocol) B_check_protocol :=
  (sok_cons (sok_ite (ok_not (c_call wr fx (m_f_is_protocol) (c_cons (c_var (i := 0)) oks_nil))) (sok_cons (s_raise wr fx (m_e_BadProtocol))
    sok_nil) sok_nil)
    sok_nil)
theorem ok__law_box (wr : Wor (cxOf (CXA P w) P w K mg base N__law_box "_law_box" (defScope st__law_box) f cdv A outer s H E) (fun cls d _ H2 => E cls d H2)) (fx : Fx (cxOf (CXA P w) P w K mg base N__law_box "_law_box" (defScope st__law_box) f cdv A outer s H E) (ctx prog kk) k fns blts clss flds mts excs) : SsOk (cxOf (CXA P w) P w K mg base N__law_box "_law_box" (defScope st__law_box) f cdv A outer s H E) (ctx prog kk) (fun cls d _ H2 => E cls d H2) (defBody st__law_box) B__law_box :=
  (sok_cons (s_ret (ok_lst (c_cons c_int (c_cons c_int (c_cons c_int (c_cons (c_lc [(("_law_x" : Str), 1)] wr (w_v (c_var (i := 0))) (fun s1 H1 C1 cl1 fp1 => (g_name (i := 1) (Wor.blk wr s1 H1 _ _ fp1).nd)) (fun s1 H1 C1 cl1 fp1 => cnd_nil) (fun s1 H1 C1 cl1 fp1 => (c_blt (Wor.blk wr s1 H1 _ _ fp1) (Fx.blk fx s1 H1 _ _ fp1) (m_b_abs) (c_cons (c_blt (Wor.blk wr s1 H1 _ _ fp1) (Fx.blk fx s1 H1 _ _ fp1) (m_b_int) (c_cons (c_var (i := 1)) oks_nil)) oks_nil)))) oks_nil))))))
    sok_nil)
theorem ok__law_take (wr : Wor (cxOf (CXA P w) P w K mg base N__law_take "_law_take" (defScope st__law_take) f cdv A outer s H E) (fun cls d _ H2 => E cls d H2)) (fx : Fx (cxOf (CXA P w) P w K mg base N__law_take "_law_take" (defScope st__law_take) f cdv A outer s H E) (ctx prog kk) k fns blts clss flds mts excs) : SsOk (cxOf (CXA P w) P w K mg base N__law_take "_law_take" (defScope st__law_take) f cdv A outer s H E) (ctx prog kk) (fun cls d _ H2 => E cls d H2) (defBody st__law_take) B__law_take :=
  (sok_cons (sok_ite (c_cmp wr (c_sub (c_var (i := 0)) c_int) c_int) (sok_cons (s_set (i := 2) wr.nd (c_sub (c_var (i := 0)) c_int))
    (sok_cons (s_set (i := 3) wr.nd c_int)
    (sok_cons (sok_ite (c_cmp wr (c_var (i := 2)) (c_blt wr fx (m_b_len) (c_cons (c_sub (c_var (i := 0)) c_int) oks_nil))) (sok_cons (s_set (i := 3) wr.nd (c_sub (c_sub (c_var (i := 0)) c_int) (c_var (i := 2))))
    (sok_cons (s_sub (c_var (i := 0)) c_int (ok_ite (c_cmp wr (c_var (i := 3)) (c_bin c_int c_int)) c_int (ok_neg c_int)))
    sok_nil)) sok_nil)
    (sok_cons (s_sub (c_var (i := 0)) c_int (c_bin (c_var (i := 2)) c_int))
    (sok_cons (s_sub (c_var (i := 0)) c_int (c_var (i := 3)))
    (sok_cons (sok_ite (c_cmp wr (c_sub (c_var (i := 0)) c_int) c_int) (sok_cons (s_ret c_int)
    sok_nil) sok_nil)
    sok_nil)))))) sok_nil)
    (sok_cons (sok_ite (c_cmp wr (c_sub (c_var (i := 0)) c_int) c_int) (sok_cons (s_set (i := 4) wr.nd (c_bin (c_blt wr fx (m_b_int) (c_cons (c_sub (c_var (i := 0)) c_int) oks_nil)) (c_var (i := 1))))
    (sok_cons (s_sub (c_var (i := 0)) c_int (c_bin (c_sub (c_var (i := 0)) c_int) (c_var (i := 1))))
    (sok_cons (s_sub (c_var (i := 0)) c_int (ok_ite (c_cmp wr (c_sub (c_var (i := 0)) c_int) c_int) (c_bin (c_sub (c_var (i := 0)) c_int) c_int) c_int))
    (sok_cons (s_retv (i := 4))
    sok_nil)))) sok_nil)
    (sok_cons (s_sub (c_var (i := 0)) c_int (c_bin (c_sub (c_var (i := 0)) c_int) c_int))
    (sok_cons (s_sub (c_var (i := 0)) c_int (c_bin (c_blt wr fx (m_b_int) (c_cons (c_bin (c_bin (c_sub (c_var (i := 0)) c_int) c_int) (c_bin c_int (c_bin (c_sub (c_var (i := 0)) c_int) c_int))) oks_nil)) c_int))
    (sok_cons (s_ret (c_bin (c_bin (c_blt wr fx (m_b_int) (c_cons (c_bin (c_bin (c_sub (c_var (i := 0)) c_int) c_int) (c_sub (c_var (i := 0)) c_int)) oks_nil)) c_int) (c_var (i := 1))))
    sok_nil)))))
theorem ok__law_pick (wr : Wor (cxOf (CXA P w) P w K mg base N__law_pick "_law_pick" (defScope st__law_pick) f cdv A outer s H E) (fun cls d _ H2 => E cls d H2)) (fx : Fx (cxOf (CXA P w) P w K mg base N__law_pick "_law_pick" (defScope st__law_pick) f cdv A outer s H E) (ctx prog kk) k fns blts clss flds mts excs) : SsOk (cxOf (CXA P w) P w K mg base N__law_pick "_law_pick" (defScope st__law_pick) f cdv A outer s H E) (ctx prog kk) (fun cls d _ H2 => E cls d H2) (defBody st__law_pick) B__law_pick :=
  (sok_cons (s_ret (c_sub (c_var (i := 1)) (c_callio (i := 0) wr fx (m_f__law_take) (c_cons (c_blt wr fx (m_b_len) (c_cons (c_var (i := 1)) oks_nil)) oks_nil))))
    sok_nil)
theorem ok__law_acts (wr : Wor (cxOf (CXA P w) P w K mg base N__law_acts "_law_acts" (defScope st__law_acts) f cdv A outer s H E) (fun cls d _ H2 => E cls d H2)) (fx : Fx (cxOf (CXA P w) P w K mg base N__law_acts "_law_acts" (defScope st__law_acts) f cdv A outer s H E) (ctx prog kk) k fns blts clss flds mts excs) : SsOk (cxOf (CXA P w) P w K mg base N__law_acts "_law_acts" (defScope st__law_acts) f cdv A outer s H E) (ctx prog kk) (fun cls d _ H2 => E cls d H2) (defBody st__law_acts) B__law_acts :=
  (sok_cons (s_set (i := 2) wr.nd (ok_lst oks_nil))
    (sok_cons (s_for (passes_of rfl) wr (w_range1 fx (m_b_range) (c_bin c_int (c_callio (i := 0) wr fx (m_f__law_take) (c_cons c_int oks_nil)))) (g_name (i := 3) wr.nd) (sok_cons (s_set (i := 4) wr.nd (c_callio (i := 0) wr fx (m_f__law_take) (c_cons (c_var (i := 1)) oks_nil)))
    (sok_cons (s_set (i := 5) wr.nd (c_bin (c_blt wr fx (m_b_int) (c_cons (c_bin (c_bin (c_var (i := 4)) c_int) (c_callio (i := 0) wr fx (m_f__law_take) (c_cons (c_bin (c_var (i := 1)) c_int) oks_nil))) oks_nil)) (c_var (i := 1))))
    (sok_cons (s_set (i := 6) wr.nd (ok_tup (c_cons (c_var (i := 4)) (c_cons (c_var (i := 5)) (c_cons (c_callio (i := 0) wr fx (m_f__law_pick) (c_cons (ok_lst (c_cons c_int (c_cons c_int (c_cons c_int (c_cons c_int oks_nil))))) oks_nil)) oks_nil)))))
    (sok_cons (sok_ite (c_cmp wr (c_var (i := 6)) (c_var (i := 2))) (sok_cons (s_expr (c_append wr (c_var (i := 2)) (c_cons (c_var (i := 6)) oks_nil)))
    sok_nil) sok_nil)
    sok_nil)))))
    (sok_cons (s_ret (c_blt wr fx (m_b_sorted) (c_cons (c_var (i := 2)) oks_nil)))
    sok_nil)))
theorem ok__law_protocol (wr : Wor (cxOf (CXA P w) P w K mg base N__law_protocol "_law_protocol" (defScope st__law_protocol) f cdv A outer s H E) (fun cls d _ H2 => E cls d H2)) (fx : Fx (cxOf (CXA P w) P w K mg base N__law_protocol "_law_protocol" (defScope st__law_protocol) f cdv A outer s H E) (ctx prog kk) k fns blts clss flds mts excs) : SsOk (cxOf (CXA P w) P w K mg base N__law_protocol "_law_protocol" (defScope st__law_protocol) f cdv A outer s H E) (ctx prog kk) (fun cls d _ H2 => E cls d H2) (defBody st__law_protocol) B__law_protocol :=
  (sok_cons (s_set (i := 2) wr.nd (c_callio (i := 0) wr fx (m_f__law_pick) (c_cons (ok_lst (c_cons c_int (c_cons c_int (c_cons c_int (c_cons c_int (c_cons c_int oks_nil)))))) oks_nil)))
    (sok_cons (s_set (i := 3) wr.nd (c_callio (i := 0) wr fx (m_f__law_acts) (c_cons (c_var (i := 2)) oks_nil)))
    (sok_cons (s_set (i := 4) wr.nd (c_bin c_int (c_callio (i := 0) wr fx (m_f__law_take) (c_cons (c_var (i := 1)) oks_nil))))
    (sok_cons (s_set (i := 5) wr.nd (ok_lst oks_nil))
    (sok_cons (s_for (passes_of rfl) wr (w_range1 fx (m_b_range) (c_var (i := 4))) (g_name (i := 6) wr.nd) (sok_cons (s_set (i := 7) wr.nd (ok_lst oks_nil))
    (sok_cons (s_for (passes_of rfl) wr (w_range1 fx (m_b_range) (c_callio (i := 0) wr fx (m_f__law_pick) (c_cons (ok_lst (c_cons c_int (c_cons c_int (c_cons c_int (c_cons c_int (c_cons c_int (c_cons c_int oks_nil))))))) oks_nil))) (g_name (i := 8) wr.nd) (sok_cons (s_set (i := 9) wr.nd (ok_tup (c_cons (c_callio (i := 0) wr fx (m_f__law_pick) (c_cons (c_var (i := 3)) oks_nil)) (c_cons (c_callio (i := 0) wr fx (m_f__law_take) (c_cons (c_var (i := 4)) oks_nil)) oks_nil))))
    (sok_cons (sok_ite (c_cmp wr (c_var (i := 9)) (c_var (i := 7))) (sok_cons (s_expr (c_append wr (c_var (i := 7)) (c_cons (c_var (i := 9)) oks_nil)))
    sok_nil) sok_nil)
    sok_nil)))
    (sok_cons (s_expr (c_append wr (c_var (i := 5)) (c_cons (ok_tup (c_cons (c_or (c_cmp wr (c_var (i := 7)) (ok_lst oks_nil)) (bl_or1 (c_cmp wr (c_callio (i := 0) wr fx (m_f__law_take) (c_cons c_int oks_nil)) c_int))) (c_cons (c_blt wr fx (m_b_tuple) (c_cons (c_blt wr fx (m_b_sorted) (c_cons (c_var (i := 7)) oks_nil)) oks_nil)) oks_nil))) oks_nil)))
    sok_nil))))
    (sok_cons (s_ret (ok_tup (c_cons (c_var (i := 2)) (c_cons (c_blt wr fx (m_b_tuple) (c_cons (c_var (i := 5)) oks_nil)) oks_nil))))
    sok_nil))))))
theorem ok__law_spoilt (wr : Wor (cxOf (CXA P w) P w K mg base N__law_spoilt "_law_spoilt" (defScope st__law_spoilt) f cdv A outer s H E) (fun cls d _ H2 => E cls d H2)) (fx : Fx (cxOf (CXA P w) P w K mg base N__law_spoilt "_law_spoilt" (defScope st__law_spoilt) f cdv A outer s H E) (ctx prog kk) k fns blts clss flds mts excs) : SsOk (cxOf (CXA P w) P w K mg base N__law_spoilt "_law_spoilt" (defScope st__law_spoilt) f cdv A outer s H E) (ctx prog kk) (fun cls d _ H2 => E cls d H2) (defBody st__law_spoilt) B__law_spoilt :=
  (sok_cons (sok_ite (c_or (ok_not (c_isi fx (t := .tuple) (m_b_isinstance) (m_b_tuple) (c_var (i := 1)))) (bl_or (c_cmp wr (c_var (i := 1)) (ok_tup oks_nil)) (bl_or1 (c_cmp wr (c_callio (i := 0) wr fx (m_f__law_take) (c_cons c_int oks_nil)) c_int)))) (sok_cons (sok_ite (c_and (c_isi fx (t := .int) (m_b_isinstance) (m_b_int) (c_var (i := 1))) (bl_and (ok_not (c_isi fx (t := .bool) (m_b_isinstance) (m_b_bool) (c_var (i := 1)))) (bl_and1 (c_cmp wr (c_callio (i := 0) wr fx (m_f__law_take) (c_cons c_int oks_nil)) c_int)))) (sok_cons (s_ret (c_bin (c_var (i := 1)) (c_callio (i := 0) wr fx (m_f__law_pick) (c_cons (ok_lst (c_cons c_int (c_cons (ok_neg c_int) (c_cons c_int (c_cons c_int oks_nil))))) oks_nil))))
    sok_nil) sok_nil)
    (sok_cons (s_ret (c_callio (i := 0) wr fx (m_f__law_pick) (c_cons (ok_lst (c_cons c_int (c_cons c_int (c_cons (ok_neg c_int) (c_cons c_int (c_cons c_bl (c_cons c_bl (c_cons c_non (c_cons c_str (c_cons c_str (c_cons (ok_tup oks_nil) (c_cons (ok_tup (c_cons c_int (c_cons c_int (c_cons c_int oks_nil)))) (c_cons (ok_tup (c_cons c_int (c_cons c_int (c_cons c_int oks_nil)))) (c_cons (ok_tup (c_cons (ok_tup (c_cons c_int (c_cons c_int (c_cons c_int oks_nil)))) (c_cons c_int oks_nil))) (c_cons c_str (c_cons c_str (c_cons c_str (c_cons c_str (c_cons (ok_tup (c_cons c_str oks_nil)) oks_nil))))))))))))))))))) oks_nil)))
    sok_nil)) sok_nil)
    (sok_cons (s_set (i := 2) wr.nd (c_callio (i := 0) wr fx (m_f__law_take) (c_cons (c_blt wr fx (m_b_len) (c_cons (c_var (i := 1)) oks_nil)) oks_nil)))
    (sok_cons (s_set (i := 3) wr.nd (c_callio (i := 0) wr fx (m_f__law_take) (c_cons c_int oks_nil)))
    (sok_cons (sok_ite (c_cmp wr (c_var (i := 3)) c_int) (sok_cons (s_ret (c_bin (ok_slc (c_var (i := 1)) bnd_none (bnd_some (c_var (i := 2)))) (ok_slc (c_var (i := 1)) (bnd_some (c_bin (c_var (i := 2)) c_int)) bnd_none)))
    sok_nil) sok_nil)
    (sok_cons (sok_ite (c_cmp wr (c_var (i := 3)) c_int) (sok_cons (s_ret (c_bin (c_bin (ok_slc (c_var (i := 1)) bnd_none (bnd_some (c_var (i := 2)))) (ok_tup (c_cons (c_sub (c_var (i := 1)) (c_var (i := 2))) oks_nil))) (ok_slc (c_var (i := 1)) (bnd_some (c_var (i := 2))) bnd_none)))
    sok_nil) sok_nil)
    (sok_cons (sok_ite (c_and (c_cmp wr (c_var (i := 3)) c_int) (bl_and1 (c_cmp wr (c_var (i := 2)) c_int))) (sok_cons (s_ret (c_bin (c_bin (ok_slc (c_var (i := 1)) bnd_none (bnd_some (c_bin (c_var (i := 2)) c_int))) (ok_tup (c_cons (c_sub (c_var (i := 1)) (c_var (i := 2))) (c_cons (c_sub (c_var (i := 1)) (c_bin (c_var (i := 2)) c_int)) oks_nil)))) (ok_slc (c_var (i := 1)) (bnd_some (c_bin (c_var (i := 2)) c_int)) bnd_none)))
    sok_nil) sok_nil)
    (sok_cons (s_ret (c_bin (c_bin (ok_slc (c_var (i := 1)) bnd_none (bnd_some (c_var (i := 2)))) (ok_tup (c_cons (c_callio (i := 0) wr fx (m_f__law_spoilt) (c_cons (c_sub (c_var (i := 1)) (c_var (i := 2))) oks_nil)) oks_nil))) (ok_slc (c_var (i := 1)) (bnd_some (c_bin (c_var (i := 2)) c_int)) bnd_none)))
    sok_nil)))))))
theorem ok__law_number (wr : Wor (cxOf (CXA P w) P w K mg base N__law_number "_law_number" (defScope st__law_number) f cdv A outer s H E) (fun cls d _ H2 => E cls d H2)) (fx : Fx (cxOf (CXA P w) P w K mg base N__law_number "_law_number" (defScope st__law_number) f cdv A outer s H E) (ctx prog kk) k fns blts clss flds mts excs) : SsOk (cxOf (CXA P w) P w K mg base N__law_number "_law_number" (defScope st__law_number) f cdv A outer s H E) (ctx prog kk) (fun cls d _ H2 => E cls d H2) (defBody st__law_number) B__law_number :=
  (sok_cons (s_ret (c_and (c_isi fx (t := .int) (m_b_isinstance) (m_b_int) (c_var (i := 0))) (bl_and (ok_not (c_isi fx (t := .bool) (m_b_isinstance) (m_b_bool) (c_var (i := 0)))) (bl_and (c_cmp wr (c_var (i := 1)) (c_var (i := 0))) (bl_and1 (c_cmp wr (c_var (i := 0)) (c_var (i := 2))))))))
    sok_nil)
theorem ok__law_is_act (wr : Wor (cxOf (CXA P w) P w K mg base N__law_is_act "_law_is_act" (defScope st__law_is_act) f cdv A outer s H E) (fun cls d _ H2 => E cls d H2)) (fx : Fx (cxOf (CXA P w) P w K mg base N__law_is_act "_law_is_act" (defScope st__law_is_act) f cdv A outer s H E) (ctx prog kk) k fns blts clss flds mts excs) : SsOk (cxOf (CXA P w) P w K mg base N__law_is_act "_law_is_act" (defScope st__law_is_act) f cdv A outer s H E) (ctx prog kk) (fun cls d _ H2 => E cls d H2) (defBody st__law_is_act) B__law_is_act :=
  (sok_cons (sok_ite (c_or (ok_not (c_isi fx (t := .tuple) (m_b_isinstance) (m_b_tuple) (c_var (i := 0)))) (bl_or1 (c_cmp wr (c_blt wr fx (m_b_len) (c_cons (c_var (i := 0)) oks_nil)) c_int))) (sok_cons (s_ret c_bl)
    sok_nil) sok_nil)
    (sok_cons (s_ret (c_and (c_call wr fx (m_f__law_number) (c_cons (c_sub (c_var (i := 0)) c_int) (c_cons c_int (c_cons (c_bin (c_var (i := 1)) c_int) oks_nil)))) (bl_and (c_call wr fx (m_f__law_number) (c_cons (c_sub (c_var (i := 0)) c_int) (c_cons c_int (c_cons (c_bin (c_var (i := 1)) c_int) oks_nil)))) (bl_and (c_cmp wr (c_sub (c_var (i := 0)) c_int) (c_sub (c_var (i := 0)) c_int)) (bl_and1 (c_call wr fx (m_f__law_number) (c_cons (c_sub (c_var (i := 0)) c_int) (c_cons c_int (c_cons c_int oks_nil)))))))))
    sok_nil))
theorem ok__law_are_moves (wr : Wor (cxOf (CXA P w) P w K mg base N__law_are_moves "_law_are_moves" (defScope st__law_are_moves) f cdv A outer s H E) (fun cls d _ H2 => E cls d H2)) (fx : Fx (cxOf (CXA P w) P w K mg base N__law_are_moves "_law_are_moves" (defScope st__law_are_moves) f cdv A outer s H E) (ctx prog kk) k fns blts clss flds mts excs) : SsOk (cxOf (CXA P w) P w K mg base N__law_are_moves "_law_are_moves" (defScope st__law_are_moves) f cdv A outer s H E) (ctx prog kk) (fun cls d _ H2 => E cls d H2) (defBody st__law_are_moves) B__law_are_moves :=
  (sok_cons (sok_ite (ok_not (c_isi fx (t := .tuple) (m_b_isinstance) (m_b_tuple) (c_var (i := 0)))) (sok_cons (s_ret c_bl)
    sok_nil) sok_nil)
    (sok_cons (s_for (passes_of rfl) wr (w_v (c_var (i := 0))) (g_name (i := 3) wr.nd) (sok_cons (sok_ite (c_or (ok_not (c_isi fx (t := .tuple) (m_b_isinstance) (m_b_tuple) (c_var (i := 3)))) (bl_or (c_cmp wr (c_blt wr fx (m_b_len) (c_cons (c_var (i := 3)) oks_nil)) c_int) (bl_or (ok_not (c_call wr fx (m_f__law_is_act) (c_cons (c_sub (c_var (i := 3)) c_int) (c_cons (c_var (i := 1)) oks_nil)))) (bl_or1 (ok_not (c_call wr fx (m_f__law_number) (c_cons (c_sub (c_var (i := 3)) c_int) (c_cons c_int (c_cons (c_bin (c_var (i := 2)) c_int) oks_nil))))))))) (sok_cons (s_ret c_bl)
    sok_nil) sok_nil)
    sok_nil))
    (sok_cons (s_ret (c_cmp wr (c_lc [(("_law_at" : Str), 4)] wr (w_range2 fx (m_b_range) c_int (c_blt wr fx (m_b_len) (c_cons (c_var (i := 0)) oks_nil))) (fun s1 H1 C1 cl1 fp1 => (g_name (i := 4) (Wor.blk wr s1 H1 _ _ fp1).nd)) (fun s1 H1 C1 cl1 fp1 => cnd_one (c_cmp (Wor.blk wr s1 H1 _ _ fp1) (c_sub (c_var (i := 0)) (c_var (i := 4))) (c_sub (c_var (i := 0)) (c_bin (c_var (i := 4)) c_int)))) (fun s1 H1 C1 cl1 fp1 => (c_var (i := 4)))) (ok_lst oks_nil)))
    sok_nil)))
theorem ok__law_is_protocol (wr : Wor (cxOf (CXA P w) P w K mg base N__law_is_protocol "_law_is_protocol" (defScope st__law_is_protocol) f cdv A outer s H E) (fun cls d _ H2 => E cls d H2)) (fx : Fx (cxOf (CXA P w) P w K mg base N__law_is_protocol "_law_is_protocol" (defScope st__law_is_protocol) f cdv A outer s H E) (ctx prog kk) k fns blts clss flds mts excs) : SsOk (cxOf (CXA P w) P w K mg base N__law_is_protocol "_law_is_protocol" (defScope st__law_is_protocol) f cdv A outer s H E) (ctx prog kk) (fun cls d _ H2 => E cls d H2) (defBody st__law_is_protocol) B__law_is_protocol :=
  (sok_cons (sok_ite (c_or (ok_not (c_isi fx (t := .tuple) (m_b_isinstance) (m_b_tuple) (c_var (i := 0)))) (bl_or (c_cmp wr (c_blt wr fx (m_b_len) (c_cons (c_var (i := 0)) oks_nil)) c_int) (bl_or (ok_not (c_call wr fx (m_f__law_number) (c_cons (c_sub (c_var (i := 0)) c_int) (c_cons c_int (c_cons c_int oks_nil))))) (bl_or (ok_not (c_isi fx (t := .tuple) (m_b_isinstance) (m_b_tuple) (c_sub (c_var (i := 0)) c_int))) (bl_or1 (ok_not (c_chn wr c_int (c_blt wr fx (m_b_len) (c_cons (c_sub (c_var (i := 0)) c_int) oks_nil)) c_int))))))) (sok_cons (s_ret c_bl)
    sok_nil) sok_nil)
    (sok_cons (s_for (passes_of rfl) wr (w_v (c_sub (c_var (i := 0)) c_int)) (g_name (i := 1) wr.nd) (sok_cons (sok_ite (c_or (ok_not (c_isi fx (t := .tuple) (m_b_isinstance) (m_b_tuple) (c_var (i := 1)))) (bl_or (c_cmp wr (c_blt wr fx (m_b_len) (c_cons (c_var (i := 1)) oks_nil)) c_int) (bl_or (ok_not (c_isi fx (t := .bool) (m_b_isinstance) (m_b_bool) (c_sub (c_var (i := 1)) c_int))) (bl_or1 (ok_not (c_call wr fx (m_f__law_are_moves) (c_cons (c_sub (c_var (i := 1)) c_int) (c_cons (c_sub (c_var (i := 0)) c_int) (c_cons (c_blt wr fx (m_b_len) (c_cons (c_sub (c_var (i := 0)) c_int) oks_nil)) oks_nil))))))))) (sok_cons (s_ret c_bl)
    sok_nil) sok_nil)
    (sok_cons (sok_ite (c_and (ok_not (c_sub (c_var (i := 1)) c_int)) (bl_and1 (c_cmp wr (c_sub (c_var (i := 1)) c_int) (ok_tup oks_nil)))) (sok_cons (s_ret c_bl)
    sok_nil) sok_nil)
    sok_nil)))
    (sok_cons (s_ret (c_cmp wr (c_blt wr fx (m_b_sum) (c_cons (c_lc [(("_law_ends" : Str), 2), (("_law_moves" : Str), 3)] wr (w_v (c_sub (c_var (i := 0)) c_int)) (fun s1 H1 C1 cl1 fp1 => (g_tup (Wor.blk wr s1 H1 _ _ fp1).calm (g_cons (g_name (i := 2) (Wor.blk wr s1 H1 _ _ fp1).nd) (g_cons (g_name (i := 3) (Wor.blk wr s1 H1 _ _ fp1).nd) okgs_nil)))) (fun s1 H1 C1 cl1 fp1 => cnd_nil) (fun s1 H1 C1 cl1 fp1 => (c_blt (Wor.blk wr s1 H1 _ _ fp1) (Fx.blk fx s1 H1 _ _ fp1) (m_b_len) (c_cons (c_var (i := 3)) oks_nil)))) oks_nil)) c_int))
    sok_nil)))
theorem ok__law_told (wr : Wor (cxOf (CXA P w) P w K mg base N__law_told "_law_told" (defScope st__law_told) f cdv A outer s H E) (fun cls d _ H2 => E cls d H2)) (fx : Fx (cxOf (CXA P w) P w K mg base N__law_told "_law_told" (defScope st__law_told) f cdv A outer s H E) (ctx prog kk) k fns blts clss flds mts excs) {j : Nat} (xf : XFx (cxOf (CXA P w) P w K mg base N__law_told "_law_told" (defScope st__law_told) f cdv A outer s H E) j none) (hj : j ≤ k + 1) : SsOk (cxOf (CXA P w) P w K mg base N__law_told "_law_told" (defScope st__law_told) f cdv A outer s H E) (ctx prog kk) (fun cls d _ H2 => E cls d H2) (defBody st__law_told) B__law_told :=
  (sok_cons (s_try (i := 1) wr fx xf hj (fun W2 pn xe tk hp2 => (sok_cons (s_ret (ok_ite (c_cmp (Wor.tr wr tk) (c_call (Wor.tr wr tk) (Fx.tr fx pn xe) (m_f_check_protocol) (c_cons (c_var (i := 0)) oks_nil)) c_non) c_str c_str))
    sok_nil)))
    sok_nil)
theorem ok__law_near (wr : Wor (cxOf (CXA P w) P w K mg base N__law_near "_law_near" (defScope st__law_near) f cdv A outer s H E) (fun cls d _ H2 => E cls d H2)) (fx : Fx (cxOf (CXA P w) P w K mg base N__law_near "_law_near" (defScope st__law_near) f cdv A outer s H E) (ctx prog kk) k fns blts clss flds mts excs) : SsOk (cxOf (CXA P w) P w K mg base N__law_near "_law_near" (defScope st__law_near) f cdv A outer s H E) (ctx prog kk) (fun cls d _ H2 => E cls d H2) (defBody st__law_near) B__law_near :=
  (sok_cons (s_set (i := 1) wr.nd (c_callio (i := 0) wr fx (m_f__law_take) (c_cons c_int oks_nil)))
    (sok_cons (s_set (i := 2) wr.nd (ok_tup (c_cons c_bl (c_cons (ok_tup (c_cons (ok_tup (c_cons (ok_tup (c_cons c_int (c_cons c_int (c_cons c_int oks_nil)))) (c_cons c_int oks_nil))) oks_nil)) oks_nil))))
    (sok_cons (s_set (i := 3) wr.nd (ok_lst oks_nil))
    (sok_cons (s_for (passes_of rfl) wr (w_v (ok_tup (c_cons (ok_tup (c_cons c_int (c_cons c_int oks_nil))) (c_cons (ok_tup (c_cons c_int (c_cons c_int oks_nil))) oks_nil)))) (g_tup wr.calm (g_cons (g_name (i := 4) wr.nd) (g_cons (g_name (i := 5) wr.nd) okgs_nil))) (sok_cons (s_for (passes_of rfl) wr (w_range1 fx (m_b_range) c_int) (g_name (i := 6) wr.nd) (sok_cons (s_set (i := 3) wr.nd (c_bin (c_var (i := 3)) (c_lc [(("_law_to" : Str), 9)] wr (w_range1 fx (m_b_range) c_int) (fun s1 H1 C1 cl1 fp1 => (g_name (i := 9) (Wor.blk wr s1 H1 _ _ fp1).nd)) (fun s1 H1 C1 cl1 fp1 => cnd_nil) (fun s1 H1 C1 cl1 fp1 => (ok_tup (c_cons (ok_tup (c_cons (c_var (i := 4)) (c_cons (c_var (i := 5)) (c_cons (c_var (i := 6)) oks_nil)))) (c_cons (c_var (i := 9)) oks_nil)))))))
    sok_nil))
    sok_nil))
    (sok_cons (s_set (i := 7) wr.nd (ok_tup (c_cons c_bl (c_cons (c_blt wr fx (m_b_tuple) (c_cons (ok_slc (c_var (i := 3)) bnd_none (bnd_some c_int)) oks_nil)) oks_nil))))
    (sok_cons (s_set (i := 8) wr.nd (ok_lst (c_cons (ok_tup (c_cons (c_bin c_int (c_var (i := 1))) (c_cons (ok_tup (c_cons (c_var (i := 2)) oks_nil)) oks_nil))) (c_cons (ok_tup (c_cons (c_bin c_int (c_var (i := 1))) (c_cons (ok_tup (c_cons (ok_tup (c_cons c_bl (c_cons (ok_tup oks_nil) oks_nil))) oks_nil)) oks_nil))) (c_cons (ok_tup (c_cons c_int (c_cons (c_bin (ok_tup (c_cons (c_var (i := 2)) oks_nil)) (c_bin c_int (c_var (i := 1)))) oks_nil))) (c_cons (ok_tup (c_cons c_int (c_cons (ok_ite (c_cmp wr (c_var (i := 1)) c_int) (c_bin (ok_tup (c_cons (c_var (i := 2)) oks_nil)) c_int) (ok_tup oks_nil)) oks_nil))) (c_cons (ok_tup (c_cons c_int (c_cons (ok_tup (c_cons (ok_tup (c_cons c_bl (c_cons (ok_tup (c_cons (ok_tup (c_cons (ok_tup (c_cons c_int (c_cons c_int (c_cons (c_bin c_int (c_var (i := 1))) oks_nil)))) (c_cons c_int oks_nil))) oks_nil)) oks_nil))) oks_nil)) oks_nil))) (c_cons (ok_tup (c_cons c_int (c_cons (ok_tup (c_cons (c_var (i := 7)) (c_cons (ok_tup (c_cons c_bl (c_cons (c_blt wr fx (m_b_tuple) (c_cons (ok_slc (c_var (i := 3)) (bnd_some c_int) (bnd_some c_int)) oks_nil)) oks_nil))) (c_cons (ok_tup (c_cons c_bl (c_cons (ok_ite (c_var (i := 1)) (c_sub (c_var (i := 2)) c_int) (ok_tup oks_nil)) oks_nil))) (c_cons (ok_tup (c_cons c_bl (c_cons (ok_tup oks_nil) oks_nil))) oks_nil))))) oks_nil))) (c_cons (ok_tup (c_cons c_int (c_cons (ok_tup (c_cons (ok_tup (c_cons (c_cmp wr (c_var (i := 1)) c_int) (c_cons (ok_tup oks_nil) oks_nil))) oks_nil)) oks_nil))) (c_cons (ok_tup (c_cons c_int (c_cons (ok_tup (c_cons (ok_tup (c_cons c_bl (c_cons (ok_tup (c_cons (ok_tup (c_cons (ok_tup (c_cons c_int (c_cons c_int (c_cons c_int oks_nil)))) (c_cons (c_var (i := 1)) oks_nil))) oks_nil)) oks_nil))) oks_nil)) oks_nil))) (c_cons (ok_tup (c_cons c_int (c_cons (ok_tup (c_cons (ok_tup (c_cons c_bl (c_cons (ok_tup (c_cons (ok_tup (c_cons (ok_tup (c_cons c_int (c_cons (c_bin c_int (c_var (i := 1))) (c_cons c_int oks_nil)))) (c_cons c_int oks_nil))) oks_nil)) oks_nil))) oks_nil)) oks_nil))) oks_nil)))))))))))
    (sok_cons (s_ret (ok_tup (c_cons (c_callio (i := 0) wr fx (m_f__law_pick) (c_cons (c_var (i := 8)) oks_nil)) (c_cons (c_cmp wr (c_var (i := 1)) c_int) oks_nil))))
    sok_nil)))))))
theorem ok_law (wr : Wor (cxOf (CXA P w) P w K mg base N_law "law" (defScope st_law) f cdv A outer s H E) (fun cls d _ H2 => E cls d H2)) (fx : Fx (cxOf (CXA P w) P w K mg base N_law "law" (defScope st_law) f cdv A outer s H E) (ctx prog kk) k fns blts clss flds mts excs) {j : Nat} (xf : XFx (cxOf (CXA P w) P w K mg base N_law "law" (defScope st_law) f cdv A outer s H E) j none) (hj : j ≤ k + 1) : SsOk (cxOf (CXA P w) P w K mg base N_law "law" (defScope st_law) f cdv A outer s H E) (ctx prog kk) (fun cls d _ H2 => E cls d H2) (defBody st_law) B_law :=
  (sok_cons (s_set (i := 1) wr.nd (c_call wr fx (m_f__law_box) (c_cons (c_var (i := 0)) oks_nil)))
    (sok_cons (s_for (passes_of rfl) wr (w_range1 fx (m_b_range) c_int) (g_name (i := 2) wr.nd) (sok_cons (s_set (i := 3) wr.nd (c_callio (i := 1) wr fx (m_f__law_protocol) (c_cons c_int oks_nil)))
    (sok_cons (sok_ite (c_or (c_cmp wr (c_call wr fx (m_f__law_told) (c_cons (c_var (i := 3)) oks_nil)) c_str) (bl_or1 (ok_not (c_call wr fx (m_f__law_is_protocol) (c_cons (c_var (i := 3)) oks_nil))))) (sok_cons (s_ret c_bl)
    sok_nil) sok_nil)
    (sok_cons (s_set (i := 4) wr.nd (c_callio (i := 1) wr fx (m_f__law_spoilt) (c_cons (c_var (i := 3)) oks_nil)))
    (sok_cons (s_for (passes_of rfl) wr (w_v (ok_lst (c_cons (c_var (i := 4)) (c_cons (c_callio (i := 1) wr fx (m_f__law_spoilt) (c_cons (c_var (i := 4)) oks_nil)) (c_cons (c_callio (i := 1) wr fx (m_f__law_pick) (c_cons (ok_lst (c_cons c_non (c_cons c_int (c_cons c_str (c_cons (ok_tup oks_nil) (c_cons (ok_tup (c_cons (c_var (i := 3)) oks_nil)) (c_cons (ok_rev (c_var (i := 3))) (c_cons (c_bin (c_var (i := 3)) (ok_tup (c_cons c_int oks_nil))) (c_cons (ok_tup (c_cons c_int oks_nil)) oks_nil))))))))) oks_nil)) oks_nil))))) (g_name (i := 5) wr.nd) (sok_cons (sok_ite (c_cmp wr (c_call wr fx (m_f__law_told) (c_cons (c_var (i := 5)) oks_nil)) (ok_ite (c_call wr fx (m_f__law_is_protocol) (c_cons (c_var (i := 5)) oks_nil)) c_str (ok_tup (c_cons c_str (c_cons c_str oks_nil))))) (sok_cons (s_ret c_bl)
    sok_nil) sok_nil)
    sok_nil))
    sok_nil)))))
    (sok_cons (s_tup (c_callio (i := 1) wr fx (m_f__law_near) oks_nil) (g_tup wr.calm (g_cons (g_name (i := 6) wr.nd) (g_cons (g_name (i := 7) wr.nd) okgs_nil))))
    (sok_cons (s_mades (i := 8) (n := 5) (ps := fun i => ([⟨172, 15, 172, 25⟩, ⟨172, 26, 172, 36⟩, ⟨172, 38, 172, 52⟩, ⟨172, 15, 172, 53⟩, ⟨172, 11, 172, 53⟩, ⟨172, 57, 172, 60⟩, ⟨172, 61, 172, 71⟩, ⟨172, 57, 172, 72⟩, ⟨172, 76, 172, 78⟩, ⟨172, 57, 172, 78⟩, ⟨172, 11, 172, 78⟩, ⟨172, 8, 173, 24⟩] : List Pos).getD i ⟨0, 0, 0, 0⟩) (passes_of rfl) wr fx xf (m_b_isinstance) (m_b_str) (c_mk fx xf (m_e_PlaypartsError) (c_mk fx xf (m_e_BadProtocol) (c_mk fx xf (m_e_BadFormula) (c_mk fx xf (m_e_BadWord) (c_mk fx xf (m_e_TooMuch) pa_mk0))))))
    (sok_cons (s_ret (c_and (c_cmp wr (c_var (i := 7)) (c_call wr fx (m_f__law_is_protocol) (c_cons (c_var (i := 6)) oks_nil))) (bl_and1 (c_cmp wr (c_call wr fx (m_f__law_told) (c_cons (c_var (i := 6)) oks_nil)) (ok_ite (c_var (i := 7)) c_str (ok_tup (c_cons c_str (c_cons c_str oks_nil))))))))
    sok_nil)))))
end
end Lk01
end PM
set_option Elab.async false
set_option linter.all false
set_option maxRecDepth 100000
set_option maxHeartbeats 0
namespace PM
namespace Lk01
open PySem PySem.Spec PyProof.Rows L2
abbrev st__law_class : Stmt := top 24
def d_is_within : He.DefD := ⟨(("is_within" : Str), none), ("is_within" : Str), ("is_within" : Str), defArgs st_is_within, defBody st_is_within, defScope st_is_within, [], []⟩
def d_is_act : He.DefD := ⟨(("is_act" : Str), none), ("is_act" : Str), ("is_act" : Str), defArgs st_is_act, defBody st_is_act, defScope st_is_act, [], []⟩
def d_are_moves : He.DefD := ⟨(("are_moves" : Str), none), ("are_moves" : Str), ("are_moves" : Str), defArgs st_are_moves, defBody st_are_moves, defScope st_are_moves, [], []⟩
def d_is_marked : He.DefD := ⟨(("is_marked" : Str), none), ("is_marked" : Str), ("is_marked" : Str), defArgs st_is_marked, defBody st_is_marked, defScope st_is_marked, [], []⟩
def d_is_protocol : He.DefD := ⟨(("is_protocol" : Str), none), ("is_protocol" : Str), ("is_protocol" : Str), defArgs st_is_protocol, defBody st_is_protocol, defScope st_is_protocol, [], []⟩
def d_check_protocol : He.DefD := ⟨(("check_protocol" : Str), none), ("check_protocol" : Str), ("check_protocol" : Str), defArgs st_check_protocol, defBody st_check_protocol, defScope st_check_protocol, [], []⟩
def d__law_box : He.DefD := ⟨(("_law_box" : Str), none), ("_law_box" : Str), ("_law_box" : Str), defArgs st__law_box, defBody st__law_box, defScope st__law_box, [], []⟩
def d__law_take : He.DefD := ⟨(("_law_take" : Str), none), ("_law_take" : Str), ("_law_take" : Str), defArgs st__law_take, defBody st__law_take, defScope st__law_take, [], []⟩
def d__law_pick : He.DefD := ⟨(("_law_pick" : Str), none), ("_law_pick" : Str), ("_law_pick" : Str), defArgs st__law_pick, defBody st__law_pick, defScope st__law_pick, [], []⟩
def d__law_acts : He.DefD := ⟨(("_law_acts" : Str), none), ("_law_acts" : Str), ("_law_acts" : Str), defArgs st__law_acts, defBody st__law_acts, defScope st__law_acts, [], []⟩
def d__law_protocol : He.DefD := ⟨(("_law_protocol" : Str), none), ("_law_protocol" : Str), ("_law_protocol" : Str), defArgs st__law_protocol, defBody st__law_protocol, defScope st__law_protocol, [], []⟩
def d__law_spoilt : He.DefD := ⟨(("_law_spoilt" : Str), none), ("_law_spoilt" : Str), ("_law_spoilt" : Str), defArgs st__law_spoilt, defBody st__law_spoilt, defScope st__law_spoilt, [], []⟩
def d__law_number : He.DefD := ⟨(("_law_number" : Str), none), ("_law_number" : Str), ("_law_number" : Str), defArgs st__law_number, defBody st__law_number, defScope st__law_number, [], []⟩
def d__law_is_act : He.DefD := ⟨(("_law_is_act" : Str), none), ("_law_is_act" : Str), ("_law_is_act" : Str), defArgs st__law_is_act, defBody st__law_is_act, defScope st__law_is_act, [], []⟩
def d__law_are_moves : He.DefD := ⟨(("_law_are_moves" : Str), none), ("_law_are_moves" : Str), ("_law_are_moves" : Str), defArgs st__law_are_moves, defBody st__law_are_moves, defScope st__law_are_moves, [], []⟩
def d__law_is_protocol : He.DefD := ⟨(("_law_is_protocol" : Str), none), ("_law_is_protocol" : Str), ("_law_is_protocol" : Str), defArgs st__law_is_protocol, defBody st__law_is_protocol, defScope st__law_is_protocol, [], []⟩
def d__law_told : He.DefD := ⟨(("_law_told" : Str), none), ("_law_told" : Str), ("_law_told" : Str), defArgs st__law_told, defBody st__law_told, defScope st__law_told, [], []⟩
def d__law_near : He.DefD := ⟨(("_law_near" : Str), none), ("_law_near" : Str), ("_law_near" : Str), defArgs st__law_near, defBody st__law_near, defScope st__law_near, [], []⟩
def d_law : He.DefD := ⟨(("law" : Str), none), ("law" : Str), ("law" : Str), defArgs st_law, defBody st_law, defScope st_law, [], []⟩
def d__law_class : He.DefD := ⟨(("_law_class" : Str), none), ("_law_class" : Str), ("_law_class" : Str), defArgs st__law_class, defBody st__law_class, defScope st__law_class, [], []⟩
abbrev fnK : List He.DefD := [d_is_within, d_is_act, d_are_moves, d_is_marked, d_is_protocol, d_check_protocol, d__law_box, d__law_take, d__law_pick, d__law_acts, d__law_protocol, d__law_spoilt, d__law_number, d__law_is_act, d__law_are_moves, d__law_is_protocol, d__law_told, d__law_near, d_law]
abbrev fn : List He.DefD := fnK ++ [d__law_class]
abbrev frees : List Str := [("ValueError" : Str), ("abs" : Str), ("bool" : Str), ("int" : Str), ("isinstance" : Str), ("len" : Str), ("range" : Str), ("sorted" : Str), ("str" : Str), ("sum" : Str), ("tuple" : Str)]
abbrev consI : List (Str × Int) := [(("FEWEST" : Str), 2), (("MOST_PARTNERS" : Str), 4), (("MOST_MESSAGE" : Str), 4), (("MOST_STATES" : Str), 10), (("MOST_MOVES" : Str), 40)]
abbrev rws : Rows := ⟨fns, frees, consI, clss, flds, mts, [("BadProtocol" : Str), ("BadFormula" : Str), ("BadWord" : Str), ("TooMuch" : Str), ("PlaypartsError" : Str)]⟩
def fa : List He.Fa := rws.fa ++ [He.Fa.glo ("PlaypartsError" : Str), He.Fa.glo ("_law_class" : Str)]
abbrev R : PySem.W.OpenRow := PySem.W.OpenLaw.row PySem.Challenge.rw_playparts_k01_what_is_a_protocol
abbrev hk : PySem.W.Hook := hookP 6 fa fn errsB
def ob (s : PySem.W.SharedT) : He.AlD × Bool := obP 6 fa fn errsB s
def names0 : List Str := [("PlaypartsError" : Str), ("BadProtocol" : Str), ("BadFormula" : Str), ("BadWord" : Str), ("TooMuch" : Str), ("FEWEST" : Str), ("MOST_PARTNERS" : Str), ("MOST_MESSAGE" : Str), ("MOST_STATES" : Str), ("MOST_MOVES" : Str), ("is_within" : Str), ("is_act" : Str), ("are_moves" : Str), ("is_marked" : Str), ("is_protocol" : Str), ("check_protocol" : Str), ("_law_box" : Str), ("_law_take" : Str), ("_law_pick" : Str), ("_law_acts" : Str), ("_law_protocol" : Str), ("_law_class" : Str), ("_law_spoilt" : Str), ("_law_number" : Str), ("_law_is_act" : Str), ("_law_are_moves" : Str), ("_law_is_protocol" : Str), ("_law_told" : Str), ("_law_near" : Str)]
abbrev names : List Str := names0
abbrev qv : Program := PySem.W.view R.prog [32]
theorem run (w : World) : HandSHeadRun.RunEq R qv hk ob 3000 names w := by
  intro os
  kernel_rfl
variable [Cur]
theorem says_sub {K : PySem.W.Frag} (c : He.SaysD fa fn K) : ∀ f ∈ rws.fa, f.ok K = true := fun f h => fact_mem c (List.mem_append_left _ h)
def cps : List Pos := [⟨105, 4, 105, 14⟩, ⟨105, 18, 105, 28⟩, ⟨105, 29, 105, 35⟩, ⟨105, 37, 105, 48⟩, ⟨105, 18, 105, 49⟩, ⟨105, 51, 105, 61⟩, ⟨105, 62, 105, 68⟩, ⟨105, 70, 105, 80⟩, ⟨105, 51, 105, 81⟩, ⟨105, 83, 105, 93⟩, ⟨105, 94, 105, 100⟩, ⟨105, 102, 105, 109⟩, ⟨105, 83, 105, 110⟩, ⟨105, 112, 105, 122⟩, ⟨105, 123, 105, 129⟩, ⟨105, 131, 105, 138⟩, ⟨105, 112, 105, 139⟩, ⟨105, 17, 105, 140⟩, ⟨105, 4, 105, 140⟩, ⟨106, 7, 106, 17⟩, ⟨106, 7, 106, 23⟩, ⟨106, 24, 106, 28⟩, ⟨106, 7, 106, 29⟩, ⟨106, 33, 106, 34⟩, ⟨106, 7, 106, 34⟩, ⟨106, 42, 106, 52⟩, ⟨106, 53, 106, 59⟩, ⟨106, 61, 106, 71⟩, ⟨106, 42, 106, 72⟩, ⟨106, 38, 106, 72⟩, ⟨106, 76, 106, 79⟩, ⟨106, 80, 106, 86⟩, ⟨106, 76, 106, 87⟩, ⟨106, 91, 106, 93⟩, ⟨106, 76, 106, 93⟩, ⟨106, 7, 106, 93⟩, ⟨106, 4, 107, 24⟩, ⟨108, 12, 108, 22⟩, ⟨108, 24, 108, 33⟩, ⟨108, 35, 108, 41⟩, ⟨108, 43, 108, 49⟩, ⟨108, 11, 108, 50⟩, ⟨108, 51, 108, 61⟩, ⟨108, 51, 108, 67⟩, ⟨108, 68, 108, 72⟩, ⟨108, 51, 108, 73⟩, ⟨108, 11, 108, 74⟩, ⟨108, 4, 108, 74⟩, ⟨108, 4, 108, 74⟩, ⟨108, 4, 108, 74⟩]
def several : Stmt := match defBody st__law_class with
  | [_, .If _ [x] _ _, _] => x
  | _ => .Pass ⟨0, 0, 0, 0⟩
theorem body_cls : defBody st__law_class = clsBody "BadProtocol" "BadFormula" "BadWord" "TooMuch" several (lastC none fun i => cps.getD i ⟨0, 0, 0, 0⟩) fun i => cps.getD i ⟨0, 0, 0, 0⟩ := by rfl
end Lk01
end PM
set_option Elab.async false
set_option linter.all false
set_option maxRecDepth 100000
set_option maxHeartbeats 0
namespace PM
namespace Lk01
open PySem PySem.Spec PyProof.Rows L2
variable [Cur]
section
variable {P : Program} {w : World} {K : PySem.W.Frag} {mg : Str → Option Value} {base : Heap} {k : Nat}
theorem S_is_within : FnScope N_is_within [("x" : Str), ("low" : Str), ("high" : Str)] (defScope st_is_within) := ⟨rfl, rfl, rfl, by decide +kernel, rfl, by decide +kernel, by decide +kernel⟩
theorem b_is_within : ∀ (kV doc pm : Value) (an : Option Addr) (cdv ct : Value) (us : List Value), us.length = ([("x" : Str), ("low" : Str), ("high" : Str)] : List Str).length → bindArgs (PySem.W.fnOf d_is_within.name d_is_within.qual d_is_within.params d_is_within.body d_is_within.scope .none kV doc pm an cdv ct) ⟨us, []⟩ = pure (([("x" : Str), ("low" : Str), ("high" : Str)] : List Str).zip us) := fun _ _ _ _ _ _ us hl => match us, hl with | [_, _, _], _ => rfl
theorem i_is_within : d_is_within ∈ fn := List.mem_append_left _ (List.mem_of_getElem? (i := 0) rfl)
theorem S_is_act : FnScope N_is_act [("x" : Str), ("partners" : Str)] (defScope st_is_act) := ⟨rfl, rfl, rfl, by decide +kernel, rfl, by decide +kernel, by decide +kernel⟩
theorem b_is_act : ∀ (kV doc pm : Value) (an : Option Addr) (cdv ct : Value) (us : List Value), us.length = ([("x" : Str), ("partners" : Str)] : List Str).length → bindArgs (PySem.W.fnOf d_is_act.name d_is_act.qual d_is_act.params d_is_act.body d_is_act.scope .none kV doc pm an cdv ct) ⟨us, []⟩ = pure (([("x" : Str), ("partners" : Str)] : List Str).zip us) := fun _ _ _ _ _ _ us hl => match us, hl with | [_, _], _ => rfl
theorem i_is_act : d_is_act ∈ fn := List.mem_append_left _ (List.mem_of_getElem? (i := 1) rfl)
theorem S_are_moves : FnScope N_are_moves [("x" : Str), ("partners" : Str), ("many" : Str)] (defScope st_are_moves) := ⟨rfl, rfl, rfl, by decide +kernel, rfl, by decide +kernel, by decide +kernel⟩
theorem b_are_moves : ∀ (kV doc pm : Value) (an : Option Addr) (cdv ct : Value) (us : List Value), us.length = ([("x" : Str), ("partners" : Str), ("many" : Str)] : List Str).length → bindArgs (PySem.W.fnOf d_are_moves.name d_are_moves.qual d_are_moves.params d_are_moves.body d_are_moves.scope .none kV doc pm an cdv ct) ⟨us, []⟩ = pure (([("x" : Str), ("partners" : Str), ("many" : Str)] : List Str).zip us) := fun _ _ _ _ _ _ us hl => match us, hl with | [_, _, _], _ => rfl
theorem i_are_moves : d_are_moves ∈ fn := List.mem_append_left _ (List.mem_of_getElem? (i := 2) rfl)
theorem S_is_marked : FnScope N_is_marked [("x" : Str), ("partners" : Str), ("many" : Str)] (defScope st_is_marked) := ⟨rfl, rfl, rfl, by decide +kernel, rfl, by decide +kernel, by decide +kernel⟩
theorem b_is_marked : ∀ (kV doc pm : Value) (an : Option Addr) (cdv ct : Value) (us : List Value), us.length = ([("x" : Str), ("partners" : Str), ("many" : Str)] : List Str).length → bindArgs (PySem.W.fnOf d_is_marked.name d_is_marked.qual d_is_marked.params d_is_marked.body d_is_marked.scope .none kV doc pm an cdv ct) ⟨us, []⟩ = pure (([("x" : Str), ("partners" : Str), ("many" : Str)] : List Str).zip us) := fun _ _ _ _ _ _ us hl => match us, hl with | [_, _, _], _ => rfl
theorem i_is_marked : d_is_marked ∈ fn := List.mem_append_left _ (List.mem_of_getElem? (i := 3) rfl)
theorem S_is_protocol : FnScope N_is_protocol [("x" : Str)] (defScope st_is_protocol) := ⟨rfl, rfl, rfl, by decide +kernel, rfl, by decide +kernel, by decide +kernel⟩
theorem b_is_protocol : ∀ (kV doc pm : Value) (an : Option Addr) (cdv ct : Value) (us : List Value), us.length = ([("x" : Str)] : List Str).length → bindArgs (PySem.W.fnOf d_is_protocol.name d_is_protocol.qual d_is_protocol.params d_is_protocol.body d_is_protocol.scope .none kV doc pm an cdv ct) ⟨us, []⟩ = pure (([("x" : Str)] : List Str).zip us) := fun _ _ _ _ _ _ us hl => match us, hl with | [_], _ => rfl
theorem i_is_protocol : d_is_protocol ∈ fn := List.mem_append_left _ (List.mem_of_getElem? (i := 4) rfl)
theorem S_check_protocol : FnScope N_check_protocol [("protocol" : Str)] (defScope st_check_protocol) := ⟨rfl, rfl, rfl, by decide +kernel, rfl, by decide +kernel, by decide +kernel⟩
theorem b_check_protocol : ∀ (kV doc pm : Value) (an : Option Addr) (cdv ct : Value) (us : List Value), us.length = ([("protocol" : Str)] : List Str).length → bindArgs (PySem.W.fnOf d_check_protocol.name d_check_protocol.qual d_check_protocol.params d_check_protocol.body d_check_protocol.scope .none kV doc pm an cdv ct) ⟨us, []⟩ = pure (([("protocol" : Str)] : List Str).zip us) := fun _ _ _ _ _ _ us hl => match us, hl with | [_], _ => rfl
theorem i_check_protocol : d_check_protocol ∈ fn := List.mem_append_left _ (List.mem_of_getElem? (i := 5) rfl)
theorem S__law_box : FnScope N__law_box [("_law_script" : Str)] (defScope st__law_box) := ⟨rfl, rfl, rfl, by decide +kernel, rfl, by decide +kernel, by decide +kernel⟩
theorem b__law_box : ∀ (kV doc pm : Value) (an : Option Addr) (cdv ct : Value) (us : List Value), us.length = ([("_law_script" : Str)] : List Str).length → bindArgs (PySem.W.fnOf d__law_box.name d__law_box.qual d__law_box.params d__law_box.body d__law_box.scope .none kV doc pm an cdv ct) ⟨us, []⟩ = pure (([("_law_script" : Str)] : List Str).zip us) := fun _ _ _ _ _ _ us hl => match us, hl with | [_], _ => rfl
theorem i__law_box : d__law_box ∈ fn := List.mem_append_left _ (List.mem_of_getElem? (i := 6) rfl)
theorem S__law_take : FnScope N__law_take [("_law_box_here" : Str), ("_law_m" : Str)] (defScope st__law_take) := ⟨rfl, rfl, rfl, by decide +kernel, rfl, by decide +kernel, by decide +kernel⟩
theorem b__law_take : ∀ (kV doc pm : Value) (an : Option Addr) (cdv ct : Value) (us : List Value), us.length = ([("_law_box_here" : Str), ("_law_m" : Str)] : List Str).length → bindArgs (PySem.W.fnOf d__law_take.name d__law_take.qual d__law_take.params d__law_take.body d__law_take.scope .none kV doc pm an cdv ct) ⟨us, []⟩ = pure (([("_law_box_here" : Str), ("_law_m" : Str)] : List Str).zip us) := fun _ _ _ _ _ _ us hl => match us, hl with | [_, _], _ => rfl
theorem i__law_take : d__law_take ∈ fn := List.mem_append_left _ (List.mem_of_getElem? (i := 7) rfl)
theorem S__law_pick : FnScope N__law_pick [("_law_box_here" : Str), ("_law_menu" : Str)] (defScope st__law_pick) := ⟨rfl, rfl, rfl, by decide +kernel, rfl, by decide +kernel, by decide +kernel⟩
theorem b__law_pick : ∀ (kV doc pm : Value) (an : Option Addr) (cdv ct : Value) (us : List Value), us.length = ([("_law_box_here" : Str), ("_law_menu" : Str)] : List Str).length → bindArgs (PySem.W.fnOf d__law_pick.name d__law_pick.qual d__law_pick.params d__law_pick.body d__law_pick.scope .none kV doc pm an cdv ct) ⟨us, []⟩ = pure (([("_law_box_here" : Str), ("_law_menu" : Str)] : List Str).zip us) := fun _ _ _ _ _ _ us hl => match us, hl with | [_, _], _ => rfl
theorem i__law_pick : d__law_pick ∈ fn := List.mem_append_left _ (List.mem_of_getElem? (i := 8) rfl)
theorem S__law_acts : FnScope N__law_acts [("_law_box_here" : Str), ("_law_k" : Str)] (defScope st__law_acts) := ⟨rfl, rfl, rfl, by decide +kernel, rfl, by decide +kernel, by decide +kernel⟩
theorem b__law_acts : ∀ (kV doc pm : Value) (an : Option Addr) (cdv ct : Value) (us : List Value), us.length = ([("_law_box_here" : Str), ("_law_k" : Str)] : List Str).length → bindArgs (PySem.W.fnOf d__law_acts.name d__law_acts.qual d__law_acts.params d__law_acts.body d__law_acts.scope .none kV doc pm an cdv ct) ⟨us, []⟩ = pure (([("_law_box_here" : Str), ("_law_k" : Str)] : List Str).zip us) := fun _ _ _ _ _ _ us hl => match us, hl with | [_, _], _ => rfl
theorem i__law_acts : d__law_acts ∈ fn := List.mem_append_left _ (List.mem_of_getElem? (i := 9) rfl)
theorem S__law_protocol : FnScope N__law_protocol [("_law_box_here" : Str), ("_law_most" : Str)] (defScope st__law_protocol) := ⟨rfl, rfl, rfl, by decide +kernel, rfl, by decide +kernel, by decide +kernel⟩
theorem b__law_protocol : ∀ (kV doc pm : Value) (an : Option Addr) (cdv ct : Value) (us : List Value), us.length = ([("_law_box_here" : Str), ("_law_most" : Str)] : List Str).length → bindArgs (PySem.W.fnOf d__law_protocol.name d__law_protocol.qual d__law_protocol.params d__law_protocol.body d__law_protocol.scope .none kV doc pm an cdv ct) ⟨us, []⟩ = pure (([("_law_box_here" : Str), ("_law_most" : Str)] : List Str).zip us) := fun _ _ _ _ _ _ us hl => match us, hl with | [_, _], _ => rfl
theorem i__law_protocol : d__law_protocol ∈ fn := List.mem_append_left _ (List.mem_of_getElem? (i := 10) rfl)
theorem S__law_spoilt : FnScope N__law_spoilt [("_law_box_here" : Str), ("_law_x" : Str)] (defScope st__law_spoilt) := ⟨rfl, rfl, rfl, by decide +kernel, rfl, by decide +kernel, by decide +kernel⟩
theorem b__law_spoilt : ∀ (kV doc pm : Value) (an : Option Addr) (cdv ct : Value) (us : List Value), us.length = ([("_law_box_here" : Str), ("_law_x" : Str)] : List Str).length → bindArgs (PySem.W.fnOf d__law_spoilt.name d__law_spoilt.qual d__law_spoilt.params d__law_spoilt.body d__law_spoilt.scope .none kV doc pm an cdv ct) ⟨us, []⟩ = pure (([("_law_box_here" : Str), ("_law_x" : Str)] : List Str).zip us) := fun _ _ _ _ _ _ us hl => match us, hl with | [_, _], _ => rfl
theorem i__law_spoilt : d__law_spoilt ∈ fn := List.mem_append_left _ (List.mem_of_getElem? (i := 11) rfl)
theorem S__law_number : FnScope N__law_number [("_law_x" : Str), ("_law_low" : Str), ("_law_high" : Str)] (defScope st__law_number) := ⟨rfl, rfl, rfl, by decide +kernel, rfl, by decide +kernel, by decide +kernel⟩
theorem b__law_number : ∀ (kV doc pm : Value) (an : Option Addr) (cdv ct : Value) (us : List Value), us.length = ([("_law_x" : Str), ("_law_low" : Str), ("_law_high" : Str)] : List Str).length → bindArgs (PySem.W.fnOf d__law_number.name d__law_number.qual d__law_number.params d__law_number.body d__law_number.scope .none kV doc pm an cdv ct) ⟨us, []⟩ = pure (([("_law_x" : Str), ("_law_low" : Str), ("_law_high" : Str)] : List Str).zip us) := fun _ _ _ _ _ _ us hl => match us, hl with | [_, _, _], _ => rfl
theorem i__law_number : d__law_number ∈ fn := List.mem_append_left _ (List.mem_of_getElem? (i := 12) rfl)
theorem S__law_is_act : FnScope N__law_is_act [("_law_x" : Str), ("_law_k" : Str)] (defScope st__law_is_act) := ⟨rfl, rfl, rfl, by decide +kernel, rfl, by decide +kernel, by decide +kernel⟩
theorem b__law_is_act : ∀ (kV doc pm : Value) (an : Option Addr) (cdv ct : Value) (us : List Value), us.length = ([("_law_x" : Str), ("_law_k" : Str)] : List Str).length → bindArgs (PySem.W.fnOf d__law_is_act.name d__law_is_act.qual d__law_is_act.params d__law_is_act.body d__law_is_act.scope .none kV doc pm an cdv ct) ⟨us, []⟩ = pure (([("_law_x" : Str), ("_law_k" : Str)] : List Str).zip us) := fun _ _ _ _ _ _ us hl => match us, hl with | [_, _], _ => rfl
theorem i__law_is_act : d__law_is_act ∈ fn := List.mem_append_left _ (List.mem_of_getElem? (i := 13) rfl)
theorem S__law_are_moves : FnScope N__law_are_moves [("_law_x" : Str), ("_law_k" : Str), ("_law_many" : Str)] (defScope st__law_are_moves) := ⟨rfl, rfl, rfl, by decide +kernel, rfl, by decide +kernel, by decide +kernel⟩
theorem b__law_are_moves : ∀ (kV doc pm : Value) (an : Option Addr) (cdv ct : Value) (us : List Value), us.length = ([("_law_x" : Str), ("_law_k" : Str), ("_law_many" : Str)] : List Str).length → bindArgs (PySem.W.fnOf d__law_are_moves.name d__law_are_moves.qual d__law_are_moves.params d__law_are_moves.body d__law_are_moves.scope .none kV doc pm an cdv ct) ⟨us, []⟩ = pure (([("_law_x" : Str), ("_law_k" : Str), ("_law_many" : Str)] : List Str).zip us) := fun _ _ _ _ _ _ us hl => match us, hl with | [_, _, _], _ => rfl
theorem i__law_are_moves : d__law_are_moves ∈ fn := List.mem_append_left _ (List.mem_of_getElem? (i := 14) rfl)
theorem S__law_is_protocol : FnScope N__law_is_protocol [("_law_x" : Str)] (defScope st__law_is_protocol) := ⟨rfl, rfl, rfl, by decide +kernel, rfl, by decide +kernel, by decide +kernel⟩
theorem b__law_is_protocol : ∀ (kV doc pm : Value) (an : Option Addr) (cdv ct : Value) (us : List Value), us.length = ([("_law_x" : Str)] : List Str).length → bindArgs (PySem.W.fnOf d__law_is_protocol.name d__law_is_protocol.qual d__law_is_protocol.params d__law_is_protocol.body d__law_is_protocol.scope .none kV doc pm an cdv ct) ⟨us, []⟩ = pure (([("_law_x" : Str)] : List Str).zip us) := fun _ _ _ _ _ _ us hl => match us, hl with | [_], _ => rfl
theorem i__law_is_protocol : d__law_is_protocol ∈ fn := List.mem_append_left _ (List.mem_of_getElem? (i := 15) rfl)
theorem S__law_told : FnScope N__law_told [("_law_x" : Str)] (defScope st__law_told) := ⟨rfl, rfl, rfl, by decide +kernel, rfl, by decide +kernel, by decide +kernel⟩
theorem b__law_told : ∀ (kV doc pm : Value) (an : Option Addr) (cdv ct : Value) (us : List Value), us.length = ([("_law_x" : Str)] : List Str).length → bindArgs (PySem.W.fnOf d__law_told.name d__law_told.qual d__law_told.params d__law_told.body d__law_told.scope .none kV doc pm an cdv ct) ⟨us, []⟩ = pure (([("_law_x" : Str)] : List Str).zip us) := fun _ _ _ _ _ _ us hl => match us, hl with | [_], _ => rfl
theorem i__law_told : d__law_told ∈ fn := List.mem_append_left _ (List.mem_of_getElem? (i := 16) rfl)
theorem S__law_near : FnScope N__law_near [("_law_box_here" : Str)] (defScope st__law_near) := ⟨rfl, rfl, rfl, by decide +kernel, rfl, by decide +kernel, by decide +kernel⟩
theorem b__law_near : ∀ (kV doc pm : Value) (an : Option Addr) (cdv ct : Value) (us : List Value), us.length = ([("_law_box_here" : Str)] : List Str).length → bindArgs (PySem.W.fnOf d__law_near.name d__law_near.qual d__law_near.params d__law_near.body d__law_near.scope .none kV doc pm an cdv ct) ⟨us, []⟩ = pure (([("_law_box_here" : Str)] : List Str).zip us) := fun _ _ _ _ _ _ us hl => match us, hl with | [_], _ => rfl
theorem i__law_near : d__law_near ∈ fn := List.mem_append_left _ (List.mem_of_getElem? (i := 17) rfl)
theorem S_law : FnScope N_law [("_law_script" : Str)] (defScope st_law) := ⟨rfl, rfl, rfl, by decide +kernel, rfl, by decide +kernel, by decide +kernel⟩
theorem b_law : ∀ (kV doc pm : Value) (an : Option Addr) (cdv ct : Value) (us : List Value), us.length = ([("_law_script" : Str)] : List Str).length → bindArgs (PySem.W.fnOf d_law.name d_law.qual d_law.params d_law.body d_law.scope .none kV doc pm an cdv ct) ⟨us, []⟩ = pure (([("_law_script" : Str)] : List Str).zip us) := fun _ _ _ _ _ _ us hl => match us, hl with | [_], _ => rfl
theorem i_law : d_law ∈ fn := List.mem_append_left _ (List.mem_of_getElem? (i := 18) rfl)
theorem lv0 (c : He.SaysD fa fn K) : Lv P w K mg base prog fnK 0 :=
  (List.forall_mem_cons.mpr ⟨base_of c i_is_within rfl b_is_within,
  (List.forall_mem_cons.mpr ⟨base_of c i_is_act rfl b_is_act,
  (List.forall_mem_cons.mpr ⟨base_of c i_are_moves rfl b_are_moves,
  (List.forall_mem_cons.mpr ⟨base_of c i_is_marked rfl b_is_marked,
  (List.forall_mem_cons.mpr ⟨base_of c i_is_protocol rfl b_is_protocol,
  (List.forall_mem_cons.mpr ⟨base_of c i_check_protocol rfl b_check_protocol,
  (List.forall_mem_cons.mpr ⟨base_of c i__law_box rfl b__law_box,
  (List.forall_mem_cons.mpr ⟨base_of c i__law_take rfl b__law_take,
  (List.forall_mem_cons.mpr ⟨base_of c i__law_pick rfl b__law_pick,
  (List.forall_mem_cons.mpr ⟨base_of c i__law_acts rfl b__law_acts,
  (List.forall_mem_cons.mpr ⟨base_of c i__law_protocol rfl b__law_protocol,
  (List.forall_mem_cons.mpr ⟨base_of c i__law_spoilt rfl b__law_spoilt,
  (List.forall_mem_cons.mpr ⟨base_of c i__law_number rfl b__law_number,
  (List.forall_mem_cons.mpr ⟨base_of c i__law_is_act rfl b__law_is_act,
  (List.forall_mem_cons.mpr ⟨base_of c i__law_are_moves rfl b__law_are_moves,
  (List.forall_mem_cons.mpr ⟨base_of c i__law_is_protocol rfl b__law_is_protocol,
  (List.forall_mem_cons.mpr ⟨base_of c i__law_told rfl b__law_told,
  (List.forall_mem_cons.mpr ⟨base_of c i__law_near rfl b__law_near,
  (List.forall_mem_cons.mpr ⟨base_of c i_law rfl b_law,
  (List.forall_mem_nil _)⟩)⟩)⟩)⟩)⟩)⟩)⟩)⟩)⟩)⟩)⟩)⟩)⟩)⟩)⟩)⟩)⟩)⟩)⟩)
theorem hf : ∀ x ∈ fns, ∃ d ∈ fnK, d.at_ = (x, none) :=
  (List.forall_mem_cons.mpr ⟨⟨d_is_within, List.mem_of_getElem? (i := 0) rfl, rfl⟩,
  (List.forall_mem_cons.mpr ⟨⟨d_is_act, List.mem_of_getElem? (i := 1) rfl, rfl⟩,
  (List.forall_mem_cons.mpr ⟨⟨d_are_moves, List.mem_of_getElem? (i := 2) rfl, rfl⟩,
  (List.forall_mem_cons.mpr ⟨⟨d_is_marked, List.mem_of_getElem? (i := 3) rfl, rfl⟩,
  (List.forall_mem_cons.mpr ⟨⟨d_is_protocol, List.mem_of_getElem? (i := 4) rfl, rfl⟩,
  (List.forall_mem_cons.mpr ⟨⟨d_check_protocol, List.mem_of_getElem? (i := 5) rfl, rfl⟩,
  (List.forall_mem_cons.mpr ⟨⟨d__law_box, List.mem_of_getElem? (i := 6) rfl, rfl⟩,
  (List.forall_mem_cons.mpr ⟨⟨d__law_take, List.mem_of_getElem? (i := 7) rfl, rfl⟩,
  (List.forall_mem_cons.mpr ⟨⟨d__law_pick, List.mem_of_getElem? (i := 8) rfl, rfl⟩,
  (List.forall_mem_cons.mpr ⟨⟨d__law_acts, List.mem_of_getElem? (i := 9) rfl, rfl⟩,
  (List.forall_mem_cons.mpr ⟨⟨d__law_protocol, List.mem_of_getElem? (i := 10) rfl, rfl⟩,
  (List.forall_mem_cons.mpr ⟨⟨d__law_spoilt, List.mem_of_getElem? (i := 11) rfl, rfl⟩,
  (List.forall_mem_cons.mpr ⟨⟨d__law_number, List.mem_of_getElem? (i := 12) rfl, rfl⟩,
  (List.forall_mem_cons.mpr ⟨⟨d__law_is_act, List.mem_of_getElem? (i := 13) rfl, rfl⟩,
  (List.forall_mem_cons.mpr ⟨⟨d__law_are_moves, List.mem_of_getElem? (i := 14) rfl, rfl⟩,
  (List.forall_mem_cons.mpr ⟨⟨d__law_is_protocol, List.mem_of_getElem? (i := 15) rfl, rfl⟩,
  (List.forall_mem_cons.mpr ⟨⟨d__law_told, List.mem_of_getElem? (i := 16) rfl, rfl⟩,
  (List.forall_mem_cons.mpr ⟨⟨d__law_near, List.mem_of_getElem? (i := 17) rfl, rfl⟩,
  (List.forall_mem_cons.mpr ⟨⟨d_law, List.mem_of_getElem? (i := 18) rfl, rfl⟩,
  (List.forall_mem_nil _)⟩)⟩)⟩)⟩)⟩)⟩)⟩)⟩)⟩)⟩)⟩)⟩)⟩)⟩)⟩)⟩)⟩)⟩)⟩)
theorem hi : ∀ x ∈ clss, ∃ d ∈ fnK, d.at_ = (x, some ("__init__" : Str)) :=
  (List.forall_mem_nil _)
theorem hm : ∀ p ∈ mts, p.1 ∈ clss ∧ ∃ d ∈ fnK, d.at_ = (p.1, some p.2) :=
  (List.forall_mem_nil _)
theorem hg : ∀ x d, prog.glo x = some d → ∃ i, d = .int i ∧ (x, i) ∈ consI := by
  intro x d h
  have key : ∀ (l : List (Str × Int)), (l.map fun p => (p.1, PyData.int p.2)).lookup x = some d → ∃ i, d = .int i ∧ (x, i) ∈ l := by
    intro l
    induction l with
    | nil => intro h; cases h
    | cons p l ih =>
      intro h
      rw [List.map_cons, List.lookup_cons] at h
      cases hb : (x == p.1) with
      | true =>
        rw [hb] at h
        cases h
        exact ⟨p.2, rfl, by rw [eq_of_beq hb]; exact List.mem_cons_self⟩
      | false =>
        rw [hb] at h
        obtain ⟨i, e, hi⟩ := ih h
        exact ⟨i, e, List.mem_cons_of_mem _ hi⟩
  exact key consI h
theorem hcl : ∀ x, prog.cls x = true → x ∈ clss := fun x h => of_decide_eq_true h
theorem fx_at {X : Cx} (kin : X.K.In X.base) (G : X.base.Ns mainGlobals X.mg) (c : He.SaysD fa fn X.K) (lv : Lv X.prog X.w X.K X.mg X.base prog fnK k) (hr : Room (2 * k + 1) X.A) : Fx X (ctx prog k) (2 * k) fns blts clss flds mts excs :=
  (fx_of (r := rws) kin G (says_sub c) lv hr hf hi hm hg hcl).sub (by decide +kernel) (by decide +kernel)
theorem S_cls : FnScope [("_law_e" : Str), ("_law_kinds" : Str)] [("_law_e" : Str)] (defScope st__law_class) := ⟨rfl, rfl, rfl, by decide +kernel, rfl, by decide +kernel, by decide +kernel⟩
theorem i_cls : d__law_class ∈ fn := List.mem_append_right _ List.mem_cons_self
theorem four_sub : ∀ x ∈ four, x ∈ rws.excs := by decide +kernel
theorem xf_at {X : Cx} (kin : X.K.In X.base) (G : X.base.Ns mainGlobals X.mg) (c : He.SaysD fa fn X.K) (xk : errsB X.K = true) : XFx X 1 none := by
  have kf := errs_ok xk
  have gl : ∀ x, He.Fa.glo x ∈ fa → X.mg x = some (.ref (He.ga X.K x)) := fun x h => He.glo_ok kin G (fact_mem c h)
  have fr : ∀ x, He.Fa.free x ∈ fa → X.mg x = none := fun x h => He.free_ok kin G (fact_mem c h)
  have gx : ∀ x ∈ four, X.mg x = some (.ref (He.ga X.K x)) := fun x h => gl x (List.mem_append_left _ (fa_glo (r := rws) (List.mem_append_right _ (four_sub x h))))
  have fx : ∀ x ∈ frees, X.mg x = none := fun x h => fr x (List.mem_append_left _ (fa_free (r := rws) h))
  obtain ⟨fd, F⟩ := def_mem c i_cls
  have F2 : FunD X.K d__law_class.name d__law_class.qual d__law_class.params d__law_class.body d__law_class.scope [] (d__law_class.kws X.K) (He.fAd X.K d__law_class.at_) fd := F
  refine ⟨kf, gl "PlaypartsError" (List.mem_append_right _ List.mem_cons_self), _, fd, "_law_e", fnx_of (k := 0) F2 S_cls ?_, gl "_law_class" (List.mem_append_right _ (List.mem_cons_of_mem _ List.mem_cons_self)), F.kp, F2.bindsN fun _ _ _ _ _ _ us hl => match us, hl with | [_], _ => rfl⟩
  intro cdv A outer s H Q p hot hr hsp
  obtain ⟨cn, n, t, hk, hz, hf, ht, hq⟩ := hsp
  have cx : ClsX (L2H.cxH (CXA X.prog X.w) X.prog X.w X.K X.mg X.base [("_law_e" : Str), ("_law_kinds" : Str)] d__law_class.qual d__law_class.scope (He.fAd X.K d__law_class.at_) cdv A outer s H (fun _ _ _ => False) p) "BadProtocol" "BadFormula" "BadWord" "TooMuch" (He.ga X.K "BadProtocol") (He.ga X.K "BadFormula") (He.ga X.K "BadWord") (He.ga X.K "TooMuch") :=
    ⟨rfl, .inl rfl, .inl rfl, rfl, ⟨rfl, fx _ (by decide +kernel)⟩, ⟨rfl, gx _ (by decide +kernel)⟩, ⟨rfl, gx _ (by decide +kernel)⟩, ⟨rfl, gx _ (by decide +kernel)⟩, ⟨rfl, gx _ (by decide +kernel)⟩, ⟨rfl, fx _ (by decide +kernel)⟩, ⟨rfl, fx _ (by decide +kernel)⟩, by
      have h := hr.un
      show (A.deeper (envOfC d__law_class.qual d__law_class.scope s.heap.objs.size (He.fAd X.K d__law_class.at_) cdv)).units + 100 < _
      omega, by decide, by decide, by decide, by decide⟩
  obtain ⟨tt, hps, himp⟩ := cls_all (X := L2H.cxH (CXA X.prog X.w) X.prog X.w X.K X.mg X.base [("_law_e" : Str), ("_law_kinds" : Str)] d__law_class.qual d__law_class.scope (He.fAd X.K d__law_class.at_) cdv A outer s H (fun _ _ _ => False) p) (a := p.1) (oe := p.2) (several := several) (w := none) (ps := fun i => cps.getD i ⟨0, 0, 0, 0⟩) cx kf hk (List.mem_singleton.mpr rfl) hz hf rfl rfl
  refine ⟨tt, ?_, himp _ _ _ rfl rfl ht hq⟩
  have e : d__law_class.body = clsBody "BadProtocol" "BadFormula" "BadWord" "TooMuch" several (lastC none fun i => cps.getD i ⟨0, 0, 0, 0⟩) fun i => cps.getD i ⟨0, 0, 0, 0⟩ := body_cls
  rw [e]
  exact hps
theorem lv_up (hcur : P = Cur.P ∧ w = Cur.w) (c : He.SaysD fa fn K) (xk : errsB K = true) (kin : K.In base) (G : base.Ns mainGlobals mg) (lv : Lv P w K mg base prog fnK k) : Lv P w K mg base prog fnK (k + 1) :=
  (List.forall_mem_cons.mpr ⟨up_of (N := N_is_within) (D := D_is_within) hcur c i_is_within rfl S_is_within rfl rfl (by decide) b_is_within rfl fun cdv A outer s H E hr wr => ok_is_within wr (fx_at kin G c lv hr),
  (List.forall_mem_cons.mpr ⟨up_of (N := N_is_act) (D := D_is_act) hcur c i_is_act rfl S_is_act rfl rfl (by decide) b_is_act rfl fun cdv A outer s H E hr wr => ok_is_act wr (fx_at kin G c lv hr),
  (List.forall_mem_cons.mpr ⟨up_of (N := N_are_moves) (D := D_are_moves) hcur c i_are_moves rfl S_are_moves rfl rfl (by decide) b_are_moves rfl fun cdv A outer s H E hr wr => ok_are_moves wr (fx_at kin G c lv hr),
  (List.forall_mem_cons.mpr ⟨up_of (N := N_is_marked) (D := D_is_marked) hcur c i_is_marked rfl S_is_marked rfl rfl (by decide) b_is_marked rfl fun cdv A outer s H E hr wr => ok_is_marked wr (fx_at kin G c lv hr),
  (List.forall_mem_cons.mpr ⟨up_of (N := N_is_protocol) (D := D_is_protocol) hcur c i_is_protocol rfl S_is_protocol rfl rfl (by decide) b_is_protocol rfl fun cdv A outer s H E hr wr => ok_is_protocol wr (fx_at kin G c lv hr),
  (List.forall_mem_cons.mpr ⟨up_of (N := N_check_protocol) (D := D_check_protocol) hcur c i_check_protocol rfl S_check_protocol rfl rfl (by decide) b_check_protocol rfl fun cdv A outer s H E hr wr => ok_check_protocol wr (fx_at kin G c lv hr),
  (List.forall_mem_cons.mpr ⟨up_of (N := N__law_box) (D := D__law_box) hcur c i__law_box rfl S__law_box rfl rfl (by decide) b__law_box rfl fun cdv A outer s H E hr wr => ok__law_box wr (fx_at kin G c lv hr),
  (List.forall_mem_cons.mpr ⟨up_of (N := N__law_take) (D := D__law_take) hcur c i__law_take rfl S__law_take rfl rfl (by decide) b__law_take rfl fun cdv A outer s H E hr wr => ok__law_take wr (fx_at kin G c lv hr),
  (List.forall_mem_cons.mpr ⟨up_of (N := N__law_pick) (D := D__law_pick) hcur c i__law_pick rfl S__law_pick rfl rfl (by decide) b__law_pick rfl fun cdv A outer s H E hr wr => ok__law_pick wr (fx_at kin G c lv hr),
  (List.forall_mem_cons.mpr ⟨up_of (N := N__law_acts) (D := D__law_acts) hcur c i__law_acts rfl S__law_acts rfl rfl (by decide) b__law_acts rfl fun cdv A outer s H E hr wr => ok__law_acts wr (fx_at kin G c lv hr),
  (List.forall_mem_cons.mpr ⟨up_of (N := N__law_protocol) (D := D__law_protocol) hcur c i__law_protocol rfl S__law_protocol rfl rfl (by decide) b__law_protocol rfl fun cdv A outer s H E hr wr => ok__law_protocol wr (fx_at kin G c lv hr),
  (List.forall_mem_cons.mpr ⟨up_of (N := N__law_spoilt) (D := D__law_spoilt) hcur c i__law_spoilt rfl S__law_spoilt rfl rfl (by decide) b__law_spoilt rfl fun cdv A outer s H E hr wr => ok__law_spoilt wr (fx_at kin G c lv hr),
  (List.forall_mem_cons.mpr ⟨up_of (N := N__law_number) (D := D__law_number) hcur c i__law_number rfl S__law_number rfl rfl (by decide) b__law_number rfl fun cdv A outer s H E hr wr => ok__law_number wr (fx_at kin G c lv hr),
  (List.forall_mem_cons.mpr ⟨up_of (N := N__law_is_act) (D := D__law_is_act) hcur c i__law_is_act rfl S__law_is_act rfl rfl (by decide) b__law_is_act rfl fun cdv A outer s H E hr wr => ok__law_is_act wr (fx_at kin G c lv hr),
  (List.forall_mem_cons.mpr ⟨up_of (N := N__law_are_moves) (D := D__law_are_moves) hcur c i__law_are_moves rfl S__law_are_moves rfl rfl (by decide) b__law_are_moves rfl fun cdv A outer s H E hr wr => ok__law_are_moves wr (fx_at kin G c lv hr),
  (List.forall_mem_cons.mpr ⟨up_of (N := N__law_is_protocol) (D := D__law_is_protocol) hcur c i__law_is_protocol rfl S__law_is_protocol rfl rfl (by decide) b__law_is_protocol rfl fun cdv A outer s H E hr wr => ok__law_is_protocol wr (fx_at kin G c lv hr),
  (List.forall_mem_cons.mpr ⟨up_of (N := N__law_told) (D := D__law_told) hcur c i__law_told rfl S__law_told rfl rfl (by decide) b__law_told rfl fun cdv A outer s H E hr wr => ok__law_told wr (fx_at kin G c lv hr) (xf_at kin G c xk) (by omega),
  (List.forall_mem_cons.mpr ⟨up_of (N := N__law_near) (D := D__law_near) hcur c i__law_near rfl S__law_near rfl rfl (by decide) b__law_near rfl fun cdv A outer s H E hr wr => ok__law_near wr (fx_at kin G c lv hr),
  (List.forall_mem_cons.mpr ⟨up_of (N := N_law) (D := D_law) hcur c i_law rfl S_law rfl rfl (by decide) b_law rfl fun cdv A outer s H E hr wr => ok_law wr (fx_at kin G c lv hr) (xf_at kin G c xk) (by omega),
  (List.forall_mem_nil _)⟩)⟩)⟩)⟩)⟩)⟩)⟩)⟩)⟩)⟩)⟩)⟩)⟩)⟩)⟩)⟩)⟩)⟩)⟩)
theorem lv_all (hcur : P = Cur.P ∧ w = Cur.w) (c : He.SaysD fa fn K) (xk : errsB K = true) (kin : K.In base) (G : base.Ns mainGlobals mg) : ∀ k, Lv P w K mg base prog fnK k
  | 0 => lv0 c
  | k + 1 => lv_up hcur c xk kin G (lv_all hcur c xk kin G k)
end
open PySem PySem.W PySem.Calls PyProof.Rows
omit [Cur] in
theorem holds_of (k : Nat) (hr : Room (2 * k + 2) callerA) (plain : ∀ ns : List Int, ns.length ≤ 63 → runFn (ctx prog k) D_law [.val (.list (ns.map PyData.int))] = .ok (.val (.bool true), none)) : PySem.Challenge.rw_playparts_k01_what_is_a_protocol.Holds := by
  w_on; o_law
  refine HandSHeadRun.head_any (r := OpenLaw.row PySem.Challenge.rw_playparts_k01_what_is_a_protocol) (q := view (OpenLaw.row PySem.Challenge.rw_playparts_k01_what_is_a_protocol).prog [32]) (H := hk) (ob := ob) (M := 3000) (loose := names) (d := HandSHeadRun.topDef (OpenLaw.row PySem.Challenge.rw_playparts_k01_what_is_a_protocol).prog 32) (kwd := []) (obP_eq 6 fa fn errsB)
    (by kernel_rfl) (fun s => by kernel_rfl) run (by kernel_rfl) (by kernel_rfl) (by kernel_rfl) (by rfl) (by first | assumption | decide +kernel) (by decide +kernel) ⟨rfl, rfl, rfl, rfl, rfl, by decide +kernel⟩ ?hw ?hc
  case hw => w_witness2
  case hc =>
    refine walk_g (l := PySem.Challenge.rw_playparts_k01_what_is_a_protocol) (n := 63) (k := 2 * k + 2) (x := "_law_script") rfl (by decide) (by kernel_rfl) hr ?F
    intro w mg fa' h Y G hmg0
    letI : Cur := ⟨PySem.Challenge.rw_playparts_k01_what_is_a_protocol.prog, w⟩
    obtain ⟨K, KX, c, xk⟩ := Y
    have hmg : mg ("law" : PySem.Str) = some (.ref fa') := by
      have e : (HandSHeadRun.topDef (OpenLaw.row PySem.Challenge.rw_playparts_k01_what_is_a_protocol).prog 32).name = ("law" : PySem.Str) := by kernel_rfl
      rw [← e]
      exact hmg0
    obtain ⟨fd, F⟩ := def_mem c i_law
    have F2 : FunD K d_law.name d_law.qual d_law.params d_law.body d_law.scope [] (d_law.kws K) (He.fAd K d_law.at_) fd := F
    have ef := hmg.symm.trans (He.glo_ok KX G (fact_mem c (List.mem_append_left _ (fa_glo (r := rws) (List.mem_append_left _ (List.mem_append_left _ m_f_law))))))
    cases ef
    refine ⟨K, fd, spG K (runFn (ctx prog k) D_law), KX, fun s u => FunD.bindsA F2 b_law s [u] rfl, fun H a ns hl only hs => law_sp only hs (plain ns hl), fun base kin G2 => ?_⟩
    exact fn_sound ⟨rfl, rfl⟩ F2 S_law rfl rfl (by decide) fun cdv A outer s H E hr wr => ok_law wr (fx_at kin G2 c (lv_all ⟨rfl, rfl⟩ c xk kin G2 k) hr) (xf_at kin G2 c xk) (by omega)
end Lk01
end PM
set_option Elab.async false
set_option linter.all false
set_option maxRecDepth 100000
set_option maxHeartbeats 1000000
/-! a loop over a list of the frame's own -/
namespace PM
open PySem
theorem walkO_wp {i : Nat} {f : PyData → Fr → Res (Flow × Fr)} {ys : List PyData} {I : Nat → Fr → Prop} {Q : Flow × Fr → Prop} {E : Str → Prop}
    (hI : ∀ j ρ, I j ρ → brwL ρ[i]? = some ys)
    (h1 : ∀ j d ρ, ys[j]? = some d → I j ρ → (f d ρ).wp (fun y => match y.1 with | .next => I (j + 1) y.2 | .cnt => I (j + 1) y.2 | .brk => Q (.next, y.2.take i) | .ret s => Q (.ret s, y.2.take i)) E)
    (h2 : ∀ ρ, I ys.length ρ → Q (.next, ρ.take i)) :
    ∀ n j ρ, ys.length < n + j → j ≤ ys.length → I j ρ → (walkO i f n j ρ).wp (fun r => Q (r.1, r.2.take i)) E
  | 0, j, ρ, h, hj, _ => by omega
  | n + 1, j, ρ, h, hj, hi => by
    unfold walkO
    rw [hI j ρ hi]
    show ((match ys[j]? with
      | some d => (f d ρ).bind _
      | none => .ok (.next, ρ)) : Res (Flow × Fr)).wp _ E
    cases hy : ys[j]? with
    | none =>
      have : ys.length ≤ j := List.getElem?_eq_none_iff.mp hy
      have e : j = ys.length := by omega
      subst e
      exact h2 ρ hi
    | some d =>
      have hlt : j < ys.length := (List.getElem?_eq_some_iff.mp hy).1
      refine wp_bindE (h1 j d ρ hy hi) ?_ fun _ h => h
      rintro ⟨y1, y2⟩ hq
      cases y1 with
      | next => exact walkO_wp hI h1 h2 n (j + 1) y2 (by omega) (by omega) hq
      | cnt => exact walkO_wp hI h1 h2 n (j + 1) y2 (by omega) (by omega) hq
      | brk => exact hq
      | ret s => exact hq
theorem forO_wp {Γ : Ctx} {t : T} {i : Nat} {b : List S} {ρ : Fr} {ys : List PyData} {I : Nat → Fr → Prop} {Q : Flow × Fr → Prop} {E : Str → Prop}
    (ho : ownL ρ[i]? = true) (h0 : I 0 (ρ.lend i)) (hf : ys.length < Γ.fuel) (hI : ∀ j ρ, I j ρ → brwL ρ[i]? = some ys)
    (h1 : ∀ j d ρ, ys[j]? = some d → I j ρ → ((Res.of (asgT t d ρ)).bind fun r1 => exB Γ b r1).wp (fun y => match y.1 with | .next => I (j + 1) y.2 | .cnt => I (j + 1) y.2 | .brk => Q (.next, y.2.take i) | .ret s => Q (.ret s, y.2.take i)) E)
    (h2 : ∀ ρ, I ys.length ρ → Q (.next, ρ.take i)) : (ex Γ (.forO t i b) ρ).wp Q E := by
  show (if ownL ρ[i]? then _ else _ : Res (Flow × Fr)).wp Q E
  rw [if_pos ho]
  refine wp_bindE (walkO_wp (Q := Q) hI h1 h2 Γ.fuel 0 _ (by omega) (Nat.zero_le _) h0) ?_ fun _ h => h
  rintro ⟨y1, y2⟩ hq
  exact hq
end PM
set_option Elab.async false
set_option linter.all false
set_option maxRecDepth 100000
set_option maxHeartbeats 2000000
namespace PM
namespace Lk01
open PySem
structure Bx where
  c : Int
  n : Int
  a : Nat
  xs : List Int
def Bx.mo (b : Bx) : MO := .lst [.int b.c, .int b.n, .int b.a, .list (b.xs.map PyData.int)]
theorem D_take : prog.fn (("_law_take" : Str), none) = some D__law_take := by rfl
theorem take_1 (k : Nat) (c n : Int) (at_ : Nat) (xs : List Int) (m : Int) (hm : 0 < m) (hm2 : m.natAbs < 1073741824) (hn : 0 < n) : den prog (k + 1) (("_law_take" : Str), none) [.brw (Bx.mo ⟨c, n, at_, xs⟩), .val (.int m)] =
    .ok (.val (.int (c.fmod m)), some (Bx.mo ⟨c.fdiv m, if c.fdiv m > 0 then n - 1 else 0, at_, xs⟩)) := by
  rw [den_succ _ _ _ _ D_take]
  have e : runFn (ctx prog k) D__law_take [.brw (Bx.mo ⟨c, n, at_, xs⟩), .val (.int m)] = (exB (ctx prog k) B__law_take (.brw (Bx.mo ⟨c, n, at_, xs⟩) :: .val (.int m) :: [.no, .no, .no])).bind fun r => (Res.of (retOf r.1)).bind fun s => .ok (s, (r.2[0]?).bind Slot.mo) := rfl
  rw [e]
  unfold B__law_take
  by_cases h : 0 < c.fdiv m
  all_goals simp only [e_cst_v, e_var_p, e_var_v, e_d, e_cmp, e_bin, e_sub, e_isi, e_cmp_t, e_isi_t, e_not_t, e_and_t, e_or_t, e_exB, e_nil, e_ite, e_ret, e_asg, seqR_next, seqR_ret, tmp_ok, e_cst_t, e_glo_t, e_bin_t, e_neg_t, e_chn_t, e_tup_t, e_lst_t, e_sub_t, e_slc_t, e_call_t, e_meth_t, e_new_t, e_blt_t, e_bme_t, e_fld_t, e_lc_t, e_var_t, retV_var, e_glo, e_neg, e_not, e_ite_v, e_ite_t, e_chn, e_dns, e_dns0, e_dVs, e_dVs0, e_dPs, e_dPs0, e_dAs, e_dAs0, e_tup, e_lst, e_call, e_callio, e_blt, e_asgS, p_cst, rv_cst, p_glo, rv_glo, p_bin, rv_bin, p_neg, rv_neg, p_not, rv_not, p_and, rv_and, p_or, rv_or, p_ite, rv_ite, p_cmp, rv_cmp, p_chn, rv_chn, p_tup, rv_tup, p_lst, rv_lst, p_sub, rv_sub, p_slc, rv_slc, p_isi, rv_isi, p_call, rv_call, p_meth, rv_meth, p_new, rv_new, p_blt, rv_blt, p_bme, rv_bme, p_fld, rv_fld, p_lc, rv_lc, vw_tmp, vw_slot, sv_val, sv_own, sv_brw, sv_ownI, sv_brwI, dat_tmp, toD_val, toD_own, c_eq, c_lt, c_le, c_gt, c_ge, t_bool, s_at, s_att, at_0, b_1, b_2, b_int, b_intB, b_lenL, b_lenT, b_tupL, b_lstT, o_int, o_add, o_sub, o_mod, o_div, asg_n, put_b, put_o, put_s, mo_b, mo_o, set4_0, set4_1, set4_2, at4_1, at4_2, at4_3, ret_of, asgA, plc, lod, retA, List.getElem?_cons_zero, List.getElem?_cons_succ, List.map_cons, List.map_nil, List.set_cons_zero, List.set_cons_succ, List.length_cons, List.length_nil, Res.bind_ok, Bx.mo, Option.bind_some, Option.map_some, Res.of_some, show ¬ (n = 0) from by omega, decide_false, decide_true, Bool.false_eq_true, if_false, if_true, hn, h, hm2, show m ≠ 0 from by omega, ne_eq, not_false_eq_true, gt_iff_lt]
/-- the next number of the row -/
def nxt (c n : Int) : Int := (c * 48271 + 69621 * (n + 1 + 20)).fmod 2147483647
theorem take_2 (k : Nat) (c n : Int) (at_ : Nat) (xs : List Int) (m : Int) (hm : 0 < m) (hn : n < 0) : den prog (k + 1) (("_law_take" : Str), none) [.brw (Bx.mo ⟨c, n, at_, xs⟩), .val (.int m)] =
    .ok (.val (.int ((((nxt c n).fdiv 7 + nxt c n).fmod 1000003).fmod m)), some (Bx.mo ⟨nxt c n, n + 1, at_, xs⟩)) := by
  rw [den_succ _ _ _ _ D_take]
  have e : runFn (ctx prog k) D__law_take [.brw (Bx.mo ⟨c, n, at_, xs⟩), .val (.int m)] = (exB (ctx prog k) B__law_take (.brw (Bx.mo ⟨c, n, at_, xs⟩) :: .val (.int m) :: [.no, .no, .no])).bind fun r => (Res.of (retOf r.1)).bind fun s => .ok (s, (r.2[0]?).bind Slot.mo) := rfl
  rw [e]
  unfold B__law_take
  simp only [e_cst_v, e_var_p, e_var_v, e_d, e_cmp, e_bin, e_sub, e_isi, e_cmp_t, e_isi_t, e_not_t, e_and_t, e_or_t, e_exB, e_nil, e_ite, e_ret, e_asg, seqR_next, seqR_ret, tmp_ok, e_cst_t, e_glo_t, e_bin_t, e_neg_t, e_chn_t, e_tup_t, e_lst_t, e_sub_t, e_slc_t, e_call_t, e_meth_t, e_new_t, e_blt_t, e_bme_t, e_fld_t, e_lc_t, e_var_t, retV_var, e_glo, e_neg, e_not, e_ite_v, e_ite_t, e_chn, e_dns, e_dns0, e_dVs, e_dVs0, e_dPs, e_dPs0, e_dAs, e_dAs0, e_tup, e_lst, e_call, e_callio, e_blt, e_asgS, p_cst, rv_cst, p_glo, rv_glo, p_bin, rv_bin, p_neg, rv_neg, p_not, rv_not, p_and, rv_and, p_or, rv_or, p_ite, rv_ite, p_cmp, rv_cmp, p_chn, rv_chn, p_tup, rv_tup, p_lst, rv_lst, p_sub, rv_sub, p_slc, rv_slc, p_isi, rv_isi, p_call, rv_call, p_meth, rv_meth, p_new, rv_new, p_blt, rv_blt, p_bme, rv_bme, p_fld, rv_fld, p_lc, rv_lc, vw_tmp, vw_slot, sv_val, sv_own, sv_brw, sv_ownI, sv_brwI, dat_tmp, toD_val, toD_own, c_eq, c_lt, c_le, c_gt, c_ge, t_bool, s_at, s_att, at_0, b_1, b_2, b_int, b_intB, b_lenL, b_lenT, b_tupL, b_lstT, o_int, o_add, o_sub, o_mod, o_div, asg_n, put_b, put_o, put_s, mo_b, mo_o, set4_0, set4_1, set4_2, at4_1, at4_2, at4_3, ret_of, o_mulR, o_mulL, o_pow18, o_mod1, o_mod2, o_div7, n_neg, asgA, plc, lod, retA, List.getElem?_cons_zero, List.getElem?_cons_succ, List.map_cons, List.map_nil, List.set_cons_zero, List.set_cons_succ, List.length_cons, List.length_nil, Res.bind_ok, Bx.mo, Option.bind_some, Option.map_some, Res.of_some, decide_false, decide_true, Bool.false_eq_true, if_false, if_true, ne_eq, not_false_eq_true, gt_iff_lt, nxt, show ¬ (n = 0) from by omega, show ¬ (0 < n) from by omega, show m ≠ 0 from by omega]
theorem take_0 (k : Nat) (c : Int) (at_ : Nat) (xs : List Int) (m : Int) (hm : 0 < m) (hl : xs.length ≤ at_) : den prog (k + 1) (("_law_take" : Str), none) [.brw (Bx.mo ⟨c, 0, at_, xs⟩), .val (.int m)] =
    .ok (.val (.int 0), some (Bx.mo ⟨0, 0, at_ + 1, xs⟩)) := by
  rw [den_succ _ _ _ _ D_take]
  have e : runFn (ctx prog k) D__law_take [.brw (Bx.mo ⟨c, 0, at_, xs⟩), .val (.int m)] = (exB (ctx prog k) B__law_take (.brw (Bx.mo ⟨c, 0, at_, xs⟩) :: .val (.int m) :: [.no, .no, .no])).bind fun r => (Res.of (retOf r.1)).bind fun s => .ok (s, (r.2[0]?).bind Slot.mo) := rfl
  rw [e]
  unfold B__law_take
  have h1 : ¬ ((at_ : Int) < ((xs.map PyData.int).length : Int)) := by rw [List.length_map]; omega
  simp only [e_cst_v, e_var_p, e_var_v, e_d, e_cmp, e_bin, e_sub, e_isi, e_cmp_t, e_isi_t, e_not_t, e_and_t, e_or_t, e_exB, e_nil, e_ite, e_ret, e_asg, seqR_next, seqR_ret, tmp_ok, e_cst_t, e_glo_t, e_bin_t, e_neg_t, e_chn_t, e_tup_t, e_lst_t, e_sub_t, e_slc_t, e_call_t, e_meth_t, e_new_t, e_blt_t, e_bme_t, e_fld_t, e_lc_t, e_var_t, retV_var, e_glo, e_neg, e_not, e_ite_v, e_ite_t, e_chn, e_dns, e_dns0, e_dVs, e_dVs0, e_dPs, e_dPs0, e_dAs, e_dAs0, e_tup, e_lst, e_call, e_callio, e_blt, e_asgS, p_cst, rv_cst, p_glo, rv_glo, p_bin, rv_bin, p_neg, rv_neg, p_not, rv_not, p_and, rv_and, p_or, rv_or, p_ite, rv_ite, p_cmp, rv_cmp, p_chn, rv_chn, p_tup, rv_tup, p_lst, rv_lst, p_sub, rv_sub, p_slc, rv_slc, p_isi, rv_isi, p_call, rv_call, p_meth, rv_meth, p_new, rv_new, p_blt, rv_blt, p_bme, rv_bme, p_fld, rv_fld, p_lc, rv_lc, vw_tmp, vw_slot, sv_val, sv_own, sv_brw, sv_ownI, sv_brwI, dat_tmp, toD_val, toD_own, c_eq, c_lt, c_le, c_gt, c_ge, t_bool, s_at, s_att, at_0, b_1, b_2, b_int, b_intB, b_lenL, b_lenT, b_tupL, b_lstT, o_int, o_add, o_sub, o_mod, o_div, asg_n, put_b, put_o, put_s, mo_b, mo_o, set4_0, set4_1, set4_2, at4_1, at4_2, at4_3, ret_of, o_mulR, o_mulL, o_pow18, o_mod1, o_mod2, o_div7, n_neg, asgA, plc, lod, retA, List.getElem?_cons_zero, List.getElem?_cons_succ, List.map_cons, List.map_nil, List.set_cons_zero, List.set_cons_succ, List.length_cons, List.length_nil, Res.bind_ok, Bx.mo, Option.bind_some, Option.map_some, Res.of_some, decide_false, decide_true, Bool.false_eq_true, if_false, if_true, ne_eq, not_false_eq_true, gt_iff_lt, h1, if_neg h1]
  rfl
theorem take_big (k : Nat) (c v : Int) (at_ : Nat) (xs : List Int) (m : Int) (hm : 0 < m) (hm2 : m.natAbs < 1073741824) (hx : xs[at_]? = some v) (hv : 1000000000000000000 ≤ v) : den prog (k + 1) (("_law_take" : Str), none) [.brw (Bx.mo ⟨c, 0, at_, xs⟩), .val (.int m)] =
    .ok (.val (.int (v.fmod m)), some (Bx.mo ⟨v.fdiv m, if v.fdiv m > 0 then 59 else 0, at_ + 1, xs⟩)) := by
  rw [den_succ _ _ _ _ D_take]
  have e : runFn (ctx prog k) D__law_take [.brw (Bx.mo ⟨c, 0, at_, xs⟩), .val (.int m)] = (exB (ctx prog k) B__law_take (.brw (Bx.mo ⟨c, 0, at_, xs⟩) :: .val (.int m) :: [.no, .no, .no])).bind fun r => (Res.of (retOf r.1)).bind fun s => .ok (s, (r.2[0]?).bind Slot.mo) := rfl
  rw [e]
  unfold B__law_take
  have h1 : ((at_ : Int) < ((xs.map PyData.int).length : Int)) := by
    rw [List.length_map]
    have := (List.getElem?_eq_some_iff.mp hx).1
    omega
  have h2 : L2.atI (xs.map PyData.int) (at_ : Int) = some (.int v) := by rw [at_n (x := .none), List.getElem?_map, hx]; rfl
  by_cases h : 0 < v.fdiv m
  all_goals simp only [e_cst_v, e_var_p, e_var_v, e_d, e_cmp, e_bin, e_sub, e_isi, e_cmp_t, e_isi_t, e_not_t, e_and_t, e_or_t, e_exB, e_nil, e_ite, e_ret, e_asg, seqR_next, seqR_ret, tmp_ok, e_cst_t, e_glo_t, e_bin_t, e_neg_t, e_chn_t, e_tup_t, e_lst_t, e_sub_t, e_slc_t, e_call_t, e_meth_t, e_new_t, e_blt_t, e_bme_t, e_fld_t, e_lc_t, e_var_t, retV_var, e_glo, e_neg, e_not, e_ite_v, e_ite_t, e_chn, e_dns, e_dns0, e_dVs, e_dVs0, e_dPs, e_dPs0, e_dAs, e_dAs0, e_tup, e_lst, e_call, e_callio, e_blt, e_asgS, p_cst, rv_cst, p_glo, rv_glo, p_bin, rv_bin, p_neg, rv_neg, p_not, rv_not, p_and, rv_and, p_or, rv_or, p_ite, rv_ite, p_cmp, rv_cmp, p_chn, rv_chn, p_tup, rv_tup, p_lst, rv_lst, p_sub, rv_sub, p_slc, rv_slc, p_isi, rv_isi, p_call, rv_call, p_meth, rv_meth, p_new, rv_new, p_blt, rv_blt, p_bme, rv_bme, p_fld, rv_fld, p_lc, rv_lc, vw_tmp, vw_slot, sv_val, sv_own, sv_brw, sv_ownI, sv_brwI, dat_tmp, toD_val, toD_own, c_eq, c_lt, c_le, c_gt, c_ge, t_bool, s_at, s_att, at_0, b_1, b_2, b_int, b_intB, b_lenL, b_lenT, b_tupL, b_lstT, o_int, o_add, o_sub, o_mod, o_div, asg_n, put_b, put_o, put_s, mo_b, mo_o, set4_0, set4_1, set4_2, at4_1, at4_2, at4_3, ret_of, o_mulR, o_mulL, o_pow18, o_mod1, o_mod2, o_div7, n_neg, asgA, plc, lod, retA, List.getElem?_cons_zero, List.getElem?_cons_succ, List.map_cons, List.map_nil, List.set_cons_zero, List.set_cons_succ, List.length_cons, List.length_nil, Res.bind_ok, Bx.mo, Option.bind_some, Option.map_some, Res.of_some, decide_false, decide_true, Bool.false_eq_true, if_false, if_true, ne_eq, not_false_eq_true, gt_iff_lt, h1, h2, hv, h, hm2, show m ≠ 0 from by omega, show ¬ ((60 : Int) = 0) from by decide, show (0 : Int) < 60 from by decide, show (60 : Int) - 1 = 59 from by decide]
  all_goals rfl
theorem take_small (k : Nat) (c v : Int) (at_ : Nat) (xs : List Int) (m : Int) (hm : 0 < m) (hx : xs[at_]? = some v) (hv : ¬ 1000000000000000000 ≤ v) : den prog (k + 1) (("_law_take" : Str), none) [.brw (Bx.mo ⟨c, 0, at_, xs⟩), .val (.int m)] =
    .ok (.val (.int ((((nxt v (-9)).fdiv 7 + nxt v (-9)).fmod 1000003).fmod m)), some (Bx.mo ⟨nxt v (-9), -8, at_ + 1, xs⟩)) := by
  rw [den_succ _ _ _ _ D_take]
  have e : runFn (ctx prog k) D__law_take [.brw (Bx.mo ⟨c, 0, at_, xs⟩), .val (.int m)] = (exB (ctx prog k) B__law_take (.brw (Bx.mo ⟨c, 0, at_, xs⟩) :: .val (.int m) :: [.no, .no, .no])).bind fun r => (Res.of (retOf r.1)).bind fun s => .ok (s, (r.2[0]?).bind Slot.mo) := rfl
  rw [e]
  unfold B__law_take
  have h1 : ((at_ : Int) < ((xs.map PyData.int).length : Int)) := by
    rw [List.length_map]
    have := (List.getElem?_eq_some_iff.mp hx).1
    omega
  have h2 : L2.atI (xs.map PyData.int) (at_ : Int) = some (.int v) := by rw [at_n (x := .none), List.getElem?_map, hx]; rfl
  simp only [e_cst_v, e_var_p, e_var_v, e_d, e_cmp, e_bin, e_sub, e_isi, e_cmp_t, e_isi_t, e_not_t, e_and_t, e_or_t, e_exB, e_nil, e_ite, e_ret, e_asg, seqR_next, seqR_ret, tmp_ok, e_cst_t, e_glo_t, e_bin_t, e_neg_t, e_chn_t, e_tup_t, e_lst_t, e_sub_t, e_slc_t, e_call_t, e_meth_t, e_new_t, e_blt_t, e_bme_t, e_fld_t, e_lc_t, e_var_t, retV_var, e_glo, e_neg, e_not, e_ite_v, e_ite_t, e_chn, e_dns, e_dns0, e_dVs, e_dVs0, e_dPs, e_dPs0, e_dAs, e_dAs0, e_tup, e_lst, e_call, e_callio, e_blt, e_asgS, p_cst, rv_cst, p_glo, rv_glo, p_bin, rv_bin, p_neg, rv_neg, p_not, rv_not, p_and, rv_and, p_or, rv_or, p_ite, rv_ite, p_cmp, rv_cmp, p_chn, rv_chn, p_tup, rv_tup, p_lst, rv_lst, p_sub, rv_sub, p_slc, rv_slc, p_isi, rv_isi, p_call, rv_call, p_meth, rv_meth, p_new, rv_new, p_blt, rv_blt, p_bme, rv_bme, p_fld, rv_fld, p_lc, rv_lc, vw_tmp, vw_slot, sv_val, sv_own, sv_brw, sv_ownI, sv_brwI, dat_tmp, toD_val, toD_own, c_eq, c_lt, c_le, c_gt, c_ge, t_bool, s_at, s_att, at_0, b_1, b_2, b_int, b_intB, b_lenL, b_lenT, b_tupL, b_lstT, o_int, o_add, o_sub, o_mod, o_div, asg_n, put_b, put_o, put_s, mo_b, mo_o, set4_0, set4_1, set4_2, at4_1, at4_2, at4_3, ret_of, o_mulR, o_mulL, o_pow18, o_mod1, o_mod2, o_div7, n_neg, asgA, plc, lod, retA, List.getElem?_cons_zero, List.getElem?_cons_succ, List.map_cons, List.map_nil, List.set_cons_zero, List.set_cons_succ, List.length_cons, List.length_nil, Res.bind_ok, Bx.mo, Option.bind_some, Option.map_some, Res.of_some, decide_false, decide_true, Bool.false_eq_true, if_false, if_true, ne_eq, not_false_eq_true, gt_iff_lt, nxt, h1, h2, hv, show m ≠ 0 from by omega, show ¬ ((-9 : Int) = 0) from by decide, show ¬ ((0 : Int) < -9) from by decide, show (-9 : Int) + 1 = -8 from by decide]
  rfl
end Lk01
end PM
set_option Elab.async false
set_option linter.all false
set_option maxRecDepth 100000
set_option maxHeartbeats 2000000
namespace PM
namespace Lk01
open PySem
/-- a number is drawn: below m, and the box stays a box -/
theorem take_ok (k : Nat) (b : Bx) (m : Int) (hm : 0 < m) (hm2 : m < 1000000000) : ∃ (v : Int) (b' : Bx), den prog (k + 1) (("_law_take" : Str), none) [.brw b.mo, .val (.int m)] = .ok (.val (.int v), some b'.mo) ∧ 0 ≤ v ∧ v < m := by
  obtain ⟨c, n, at_, xs⟩ := b
  have hn2 : m.natAbs < 1073741824 := by omega
  have lo : ∀ z : Int, 0 ≤ z.fmod m := fun z => Int.fmod_nonneg_of_pos z hm
  have up : ∀ z : Int, z.fmod m < m := fun z => Int.fmod_lt_of_pos z hm
  by_cases h1 : 0 < n
  · exact ⟨_, _, take_1 k c n at_ xs m hm hn2 h1, lo _, up _⟩
  · by_cases h2 : n < 0
    · exact ⟨_, _, take_2 k c n at_ xs m hm h2, lo _, up _⟩
    · have h3 : n = 0 := by omega
      subst h3
      cases h4 : xs[at_]? with
      | none => exact ⟨_, _, take_0 k c at_ xs m hm (List.getElem?_eq_none_iff.mp h4), Int.le_refl 0, hm⟩
      | some v =>
        by_cases h5 : 1000000000000000000 ≤ v
        · exact ⟨_, _, take_big k c v at_ xs m hm hn2 h4 h5, lo _, up _⟩
        · exact ⟨_, _, take_small k c v at_ xs m hm h4 h5, lo _, up _⟩
end Lk01
end PM
set_option Elab.async false
set_option linter.all false
set_option maxRecDepth 100000
set_option maxHeartbeats 2000000
namespace PM
open PySem
/-! the program's tests of protocols, on any data -/
def isWithin (x : PyData) (lo hi : Int) : Bool := match x with
  | .int i => decide (lo ≤ i) && decide (i ≤ hi)
  | _ => false
def isAct (x : PyData) (n : Int) : Bool := match x with
  | .tuple [a, b, c] => isWithin a 0 (n - 1) && (isWithin b 0 (n - 1) && (!(PyData.eqv a b) && isWithin c 0 4))
  | _ => false
def isMove (x : PyData) (n many : Int) : Bool := match x with
  | .tuple [a, t] => isAct a n && isWithin t 0 (many - 1)
  | _ => false
def befOk (b x : PyData) : Bool := isNone b || !(ordB .le x b)
def areMovesL (n many : Int) : PyData → List PyData → Bool
  | _, [] => true
  | b, x :: r => isMove x n many && (befOk b x && areMovesL n many x r)
def areMoves (x : PyData) (n many : Int) : Bool := match x with
  | .tuple xs => areMovesL n many .none xs
  | _ => false
def isMarked (x : PyData) (n many : Int) : Bool := match x with
  | .tuple [.bool _, m] => areMoves m n many
  | _ => false
def stOk : PyData → Bool
  | .tuple [.bool e, .tuple m] => e || !m.isEmpty
  | _ => false
theorem stOk_t {e : Bool} {m : List PyData} : stOk (.tuple [.bool e, .tuple m]) = (e || !m.isEmpty) := rfl
def movesIn : PyData → Int
  | .tuple [_, .tuple m] => m.length
  | _ => 0
def isProtocol (x : PyData) : Bool := match x with
  | .tuple [.int k, .tuple sts] => (decide (2 ≤ k) && decide (k ≤ 4)) && ((decide (1 ≤ sts.length) && decide (sts.length ≤ 10)) && ((sts.all fun s => isMarked s k sts.length && stOk s) && decide ((sts.map movesIn).sum ≤ 40)))
  | _ => false
theorem within_int {x : PyData} {lo hi : Int} (h : isWithin x lo hi = true) : ∃ i : Int, x = .int i ∧ lo ≤ i ∧ i ≤ hi := by
  cases x with
  | int i => exact ⟨i, rfl, by simpa [isWithin] using h⟩
  | _ => cases h
theorem eqv_int {i j : Int} : PyData.eqv (.int i) (.int j) = decide (i = j) := by
  simp [PyData.eqv]
  rw [Bool.eq_iff_iff, beq_iff_eq, decide_eq_true_eq]
theorem act_data {x : PyData} {n : Int} (h : isAct x n = true) : ∃ a b c : Int, x = .tuple [.int a, .int b, .int c] ∧ 0 ≤ a ∧ a < n ∧ 0 ≤ b ∧ b < n ∧ a ≠ b ∧ 0 ≤ c ∧ c ≤ 4 := by
  unfold isAct at h
  split at h
  · simp only [Bool.and_eq_true] at h
    obtain ⟨h1, h2, h3, h4⟩ := h
    obtain ⟨a, rfl, a1, a2⟩ := within_int h1
    obtain ⟨b, rfl, b1, b2⟩ := within_int h2
    obtain ⟨c, rfl, c1, c2⟩ := within_int h4
    rw [eqv_int] at h3
    exact ⟨a, b, c, rfl, a1, by omega, b1, by omega, by simpa using h3, c1, c2⟩
  · cases h
theorem move_data {x : PyData} {n many : Int} (h : isMove x n many = true) : ∃ a b c t : Int, x = .tuple [.tuple [.int a, .int b, .int c], .int t] ∧ (0 ≤ a ∧ a < n ∧ 0 ≤ b ∧ b < n ∧ a ≠ b ∧ 0 ≤ c ∧ c ≤ 4) ∧ 0 ≤ t ∧ t < many := by
  unfold isMove at h
  split at h
  · rw [Bool.and_eq_true] at h
    obtain ⟨a, b, c, rfl, r⟩ := act_data h.1
    obtain ⟨t, rfl, t1, t2⟩ := within_int h.2
    exact ⟨a, b, c, t, rfl, r, t1, by omega⟩
  · cases h
namespace Lk01
local macro_rules | `(tactic| simp_arith [$xs,*]) => `(tactic| simp -implicitDefEqProofs only [e_cst_v, e_var_p, e_var_v, e_d, e_cmp, e_bin, e_sub, e_isi, e_cmp_t, e_isi_t, e_not_t, e_and_t, e_or_t, e_exB, e_nil, e_ite, e_ret, e_asg, seqR_next, seqR_ret, tmp_ok, e_cst_t, e_glo_t, e_bin_t, e_neg_t, e_chn_t, e_tup_t, e_lst_t, e_sub_t, e_slc_t, e_call_t, e_meth_t, e_new_t, e_blt_t, e_bme_t, e_fld_t, e_lc_t, e_var_t, retV_var, e_glo, e_neg, e_not, e_ite_v, e_ite_t, e_chn, e_dns, e_dns0, e_dVs, e_dVs0, e_dPs, e_dPs0, e_dAs, e_dAs0, e_tup, e_lst, e_call, e_callio, e_blt, e_asgS, p_cst, rv_cst, p_glo, rv_glo, p_bin, rv_bin, p_neg, rv_neg, p_not, rv_not, p_and, rv_and, p_or, rv_or, p_ite, rv_ite, p_cmp, rv_cmp, p_chn, rv_chn, p_tup, rv_tup, p_lst, rv_lst, p_sub, rv_sub, p_slc, rv_slc, p_isi, rv_isi, p_call, rv_call, p_meth, rv_meth, p_new, rv_new, p_blt, rv_blt, p_bme, rv_bme, p_fld, rv_fld, p_lc, rv_lc, vw_tmp, vw_slot, sv_val, sv_own, sv_brw, sv_ownI, sv_brwI, dat_tmp, toD_val, toD_own, c_eq, c_lt, c_le, c_gt, c_ge, t_bool, s_at, s_att, at_0, b_1, b_2, b_int, b_intB, b_lenL, b_lenT, b_tupL, b_lstT, o_int, o_add, o_sub, o_mod, o_div, asg_n, put_b, put_o, put_s, mo_b, mo_o, set4_0, set4_1, set4_2, at4_1, at4_2, at4_3, ret_of, o_mulR, o_mulL, o_pow18, o_mod1, o_mod2, o_div7, n_neg, wp_ok, wp_exc, bind_if, asg_G, asg_v, asg_0, asg_o, asg_i, plain_G, t_tup, t_nil, t_cons, asg_t, boolR_b, e_and, e_or, bndF, bndT, int_of, e_slc, e_rev, e_dct, e_fld, e_bme, e_meth, newB_ok, e_new, e_lc, e_lc2, e_sc, e_dc, itR_ok, it_var, it_cst, it_sub, it_slc, it_rev, it_bin, it_tup, it_lst, it_call, it_meth, it_bme, it_fld, it_lc, it_ite, it_blt, p_rev, rv_rev, p_dct, rv_dct, p_lc2, rv_lc2, p_sc, rv_sc, p_dc, rv_dc, x_pass, x_brk, x_cnt, x_expr, x_raise, x_for, x_whl, addI_ok, augS_ok, x_augN, rng_0, rng_2, wk_enum, wk_zip, ite_l, ite_t, isW_1, isW_2, isW_3, isW_4, isW_5, isW_6, isW_7, turn_eq, wipe_0, wipA_s, wipe_c, back_0, back_c, ownPl_0, ownA_s, ownPl_c, plain_v, plain_n, noExc_ok, cIo_some, callIo_eq, lent_eq, mIo_ok, meth_io, meth_tmp, mRd_ok, meth_rd, cls_of, fld_of, kd_app, kd_pop, kd_ext, kd_ins, kd_idx, kd_add, kd_get, kd_sda, wrA_ok, wrV_eq, bme_app, bme_pop, bme_ext, bme_add, bme_sda, w_app, w_pop, w_ext, w_add, asgFB_ok, asgFA_s, x_asgF, augFC_ok, augFB_ok, augFA_ok, augF0_s, x_augF, trF_ok, trF_exc, x_try, ctx_fn, ctx_glo, ctx_cls, ctx_fuel, endR_ret, endR_next, endR_exc, endR_if, seqR_if, seqR_exc, seqR_brk, seqR_cnt, tmp_exc, itR_exc, tmp_if, asg_nb, nb_v, nb_o, nb_n, dat_ownL, dat_slot, c_eqS, c_neS, at_1, at_2, at_3, isNone_n, isNone_t, isNone_l, isNone_i, isNone_b, isNone_s, c_isNN, c_notN, c_leM, c_leA, dat_d, plc_v, plc_o, plc_b, plc_i, lod_v, lod_i, lod_ol, lod_oi, retA_o, retA_v, retA_i, c_neI, c_ndx, c_eqD, c_neD, c_inL, c_inT, c_niL, c_niT, t_lst, t_tupB, b_set0, b_tupT, b_lstL, b_srtL, b_srtS, sv_set, sv_dic, sv_insF, fz_val, fz_lst, fz_ins, fz_insF, s_cutT, s_cutL, o_addT, o_addL, seqF_next, seqF_ret, seqF_brk, seqF_cnt, t_name, set_l, List.getElem?_cons_zero, List.getElem?_cons_succ, List.map_cons, List.map_nil, List.set_cons_zero, List.set_cons_succ, List.length_cons, List.length_nil, List.cons_append, List.nil_append, List.append_nil, List.replicate_succ, List.replicate_zero, List.map, Res.bind_ok, Res.bind_exc, Res.bind_stuck, Option.bind_some, Option.map_some, Option.bind_none, Option.map_none, Option.isSome_some, Res.of_some, Res.of_none, decide_false, decide_true, Bool.false_eq_true, if_false, if_true, ite_true, ite_false, ne_eq, not_false_eq_true, not_true_eq_false, gt_iff_lt, Bool.not_true, Bool.not_false, Bool.and_true, Bool.and_false, Bool.true_and, Bool.false_and, Bool.or_true, Bool.or_false, Bool.true_or, Bool.false_or, Bool.decide_eq_true, decide_eq_true_eq, ge_iff_le, Nat.reduceAdd, Nat.reduceSub, Nat.reduceMul, Nat.reduceLeDiff, Nat.reduceLT, Nat.reduceEqDiff, Int.cast_ofNat_Int, Int.natCast_zero, Int.natCast_one, Int.reduceEq, Int.reduceLT, Int.reduceLE, Int.reduceAdd, Int.reduceSub, Int.reduceNeg, Int.reduceMul, reduceCtorEq, and_self, eq_self, $xs,*])
local macro_rules | `(tactic| simp_arith) => `(tactic| simp -implicitDefEqProofs only [e_cst_v, e_var_p, e_var_v, e_d, e_cmp, e_bin, e_sub, e_isi, e_cmp_t, e_isi_t, e_not_t, e_and_t, e_or_t, e_exB, e_nil, e_ite, e_ret, e_asg, seqR_next, seqR_ret, tmp_ok, e_cst_t, e_glo_t, e_bin_t, e_neg_t, e_chn_t, e_tup_t, e_lst_t, e_sub_t, e_slc_t, e_call_t, e_meth_t, e_new_t, e_blt_t, e_bme_t, e_fld_t, e_lc_t, e_var_t, retV_var, e_glo, e_neg, e_not, e_ite_v, e_ite_t, e_chn, e_dns, e_dns0, e_dVs, e_dVs0, e_dPs, e_dPs0, e_dAs, e_dAs0, e_tup, e_lst, e_call, e_callio, e_blt, e_asgS, p_cst, rv_cst, p_glo, rv_glo, p_bin, rv_bin, p_neg, rv_neg, p_not, rv_not, p_and, rv_and, p_or, rv_or, p_ite, rv_ite, p_cmp, rv_cmp, p_chn, rv_chn, p_tup, rv_tup, p_lst, rv_lst, p_sub, rv_sub, p_slc, rv_slc, p_isi, rv_isi, p_call, rv_call, p_meth, rv_meth, p_new, rv_new, p_blt, rv_blt, p_bme, rv_bme, p_fld, rv_fld, p_lc, rv_lc, vw_tmp, vw_slot, sv_val, sv_own, sv_brw, sv_ownI, sv_brwI, dat_tmp, toD_val, toD_own, c_eq, c_lt, c_le, c_gt, c_ge, t_bool, s_at, s_att, at_0, b_1, b_2, b_int, b_intB, b_lenL, b_lenT, b_tupL, b_lstT, o_int, o_add, o_sub, o_mod, o_div, asg_n, put_b, put_o, put_s, mo_b, mo_o, set4_0, set4_1, set4_2, at4_1, at4_2, at4_3, ret_of, o_mulR, o_mulL, o_pow18, o_mod1, o_mod2, o_div7, n_neg, wp_ok, wp_exc, bind_if, asg_G, asg_v, asg_0, asg_o, asg_i, plain_G, t_tup, t_nil, t_cons, asg_t, boolR_b, e_and, e_or, bndF, bndT, int_of, e_slc, e_rev, e_dct, e_fld, e_bme, e_meth, newB_ok, e_new, e_lc, e_lc2, e_sc, e_dc, itR_ok, it_var, it_cst, it_sub, it_slc, it_rev, it_bin, it_tup, it_lst, it_call, it_meth, it_bme, it_fld, it_lc, it_ite, it_blt, p_rev, rv_rev, p_dct, rv_dct, p_lc2, rv_lc2, p_sc, rv_sc, p_dc, rv_dc, x_pass, x_brk, x_cnt, x_expr, x_raise, x_for, x_whl, addI_ok, augS_ok, x_augN, rng_0, rng_2, wk_enum, wk_zip, ite_l, ite_t, isW_1, isW_2, isW_3, isW_4, isW_5, isW_6, isW_7, turn_eq, wipe_0, wipA_s, wipe_c, back_0, back_c, ownPl_0, ownA_s, ownPl_c, plain_v, plain_n, noExc_ok, cIo_some, callIo_eq, lent_eq, mIo_ok, meth_io, meth_tmp, mRd_ok, meth_rd, cls_of, fld_of, kd_app, kd_pop, kd_ext, kd_ins, kd_idx, kd_add, kd_get, kd_sda, wrA_ok, wrV_eq, bme_app, bme_pop, bme_ext, bme_add, bme_sda, w_app, w_pop, w_ext, w_add, asgFB_ok, asgFA_s, x_asgF, augFC_ok, augFB_ok, augFA_ok, augF0_s, x_augF, trF_ok, trF_exc, x_try, ctx_fn, ctx_glo, ctx_cls, ctx_fuel, endR_ret, endR_next, endR_exc, endR_if, seqR_if, seqR_exc, seqR_brk, seqR_cnt, tmp_exc, itR_exc, tmp_if, asg_nb, nb_v, nb_o, nb_n, dat_ownL, dat_slot, c_eqS, c_neS, at_1, at_2, at_3, isNone_n, isNone_t, isNone_l, isNone_i, isNone_b, isNone_s, c_isNN, c_notN, c_leM, c_leA, dat_d, plc_v, plc_o, plc_b, plc_i, lod_v, lod_i, lod_ol, lod_oi, retA_o, retA_v, retA_i, c_neI, c_ndx, c_eqD, c_neD, c_inL, c_inT, c_niL, c_niT, t_lst, t_tupB, b_set0, b_tupT, b_lstL, b_srtL, b_srtS, sv_set, sv_dic, sv_insF, fz_val, fz_lst, fz_ins, fz_insF, s_cutT, s_cutL, o_addT, o_addL, seqF_next, seqF_ret, seqF_brk, seqF_cnt, t_name, set_l, List.getElem?_cons_zero, List.getElem?_cons_succ, List.map_cons, List.map_nil, List.set_cons_zero, List.set_cons_succ, List.length_cons, List.length_nil, List.cons_append, List.nil_append, List.append_nil, List.replicate_succ, List.replicate_zero, List.map, Res.bind_ok, Res.bind_exc, Res.bind_stuck, Option.bind_some, Option.map_some, Option.bind_none, Option.map_none, Option.isSome_some, Res.of_some, Res.of_none, decide_false, decide_true, Bool.false_eq_true, if_false, if_true, ite_true, ite_false, ne_eq, not_false_eq_true, not_true_eq_false, gt_iff_lt, Bool.not_true, Bool.not_false, Bool.and_true, Bool.and_false, Bool.true_and, Bool.false_and, Bool.or_true, Bool.or_false, Bool.true_or, Bool.false_or, Bool.decide_eq_true, decide_eq_true_eq, ge_iff_le, Nat.reduceAdd, Nat.reduceSub, Nat.reduceMul, Nat.reduceLeDiff, Nat.reduceLT, Nat.reduceEqDiff, Int.cast_ofNat_Int, Int.natCast_zero, Int.natCast_one, Int.reduceEq, Int.reduceLT, Int.reduceLE, Int.reduceAdd, Int.reduceSub, Int.reduceNeg, Int.reduceMul, reduceCtorEq, and_self, eq_self])
theorem is_within_ok (k : Nat) (x : PyData) (lo hi : Int) : den prog (k + 1) ("is_within", none) [.val x, .val (.int lo), .val (.int hi)] = .ok (.val (.bool (isWithin x lo hi)), none) := by
  rw [den_of Dn_is_within ⟨rfl, rfl⟩]
  unfold D_is_within B_is_within
  cases x
  all_goals simp_arith [isiD, isWithin]
  split
  · next h => rw [decide_eq_true h, Bool.true_and]
  · next h => rw [decide_eq_false h, Bool.false_and]
theorem is_act_ok (k : Nat) (x : PyData) (n : Int) : den prog (k + 2) ("is_act", none) [.val x, .val (.int n)] = .ok (.val (.bool (isAct x n)), none) := by
  rw [den_of Dn_is_act ⟨rfl, rfl⟩]
  unfold D_is_act B_is_act
  cases x with
  | tuple xs =>
    rcases xs with _ | ⟨a, _ | ⟨b, _ | ⟨c, _ | ⟨d, r⟩⟩⟩⟩
    · simp_arith [isiD, isAct]
    · simp_arith [isiD, isAct]
    · simp_arith [isiD, isAct]
    · simp_arith [isiD, isAct, is_within_ok, glo_MOST_MESSAGE]
      cases ha : isWithin a 0 (n - 1) with
      | false => simp_arith [ha]
      | true =>
        cases hb : isWithin b 0 (n - 1) with
        | false => simp_arith [hb]
        | true =>
          obtain ⟨a, rfl, a1, a2⟩ := within_int ha
          obtain ⟨b, rfl, b1, b2⟩ := within_int hb
          simp_arith [c_neD (show SeqAt.shaped (.int a) = true from rfl) (show SeqAt.shaped (.int b) = true from rfl), is_within_ok, glo_MOST_MESSAGE]
          cases PyData.eqv (.int a) (.int b) <;> simp_arith [is_within_ok]
    · have h : ¬ (((r.length + 1 + 1 + 1 + 1 : Nat) : Int) = 3) := by omega
      simp_arith [isiD, isAct, h]
  | _ => simp_arith [isiD, isAct]
theorem are_moves_ok (k : Nat) (x : PyData) (n many : Int) : den prog (k + 3) ("are_moves", none) [.val x, .val (.int n), .val (.int many)] = .ok (.val (.bool (areMoves x n many)), none) := by
  rw [den_of Dn_are_moves ⟨rfl, rfl⟩]
  unfold D_are_moves B_are_moves
  cases x with
  | tuple xs =>
    simp_arith [isiD, areMoves]
    apply wp_eq
    refine wp_endseq (forL_wp0 (I := fun rest ρ => ∃ b o, ρ = [.val (.tuple xs), .val (.int n), .val (.int many), .val b, G o] ∧ (b = .none ∨ isMove b n many = true) ∧ areMovesL n many b rest = areMovesL n many .none xs) _ _ ⟨.none, none, rfl, .inl rfl, rfl⟩ ?_ ?_)
    · rintro mv r ρ ⟨b, o, rfl, hb, e⟩
      by_cases hm : isMove mv n many = true
      · obtain ⟨p, q, m, t, rfl, h1, h2, h3⟩ := move_data hm
        have hm1 := hm
        unfold isMove at hm1
        rw [Bool.and_eq_true] at hm1
        rcases hb with rfl | hb
        · simp_arith [isiD, is_act_ok, is_within_ok, hm1.1, hm1.2]
          refine ⟨_, _, by rw [← G_val], .inr hm, ?_⟩
          rw [← e, areMovesL, hm]
          rfl
        · obtain ⟨p', q', m', t', rfl, -, -, -⟩ := move_data hb
          simp_arith [isiD, is_act_ok, is_within_ok, hm1.1, hm1.2]
          cases hl : ordB .le (.tuple [.tuple [.int p, .int q, .int m], .int t]) (.tuple [.tuple [.int p', .int q', .int m'], .int t']) with
          | true =>
            simp_arith []
            rw [← e, areMovesL, hm, befOk, hl]
            rfl
          | false =>
            simp_arith []
            refine ⟨_, _, by rw [← G_val], .inr hm, ?_⟩
            rw [← e, areMovesL, hm, befOk, hl]
            rfl
      · have e2 : areMovesL n many .none xs = false := by
          rw [← e, areMovesL, Bool.eq_false_iff.mpr hm]
          rfl
        rw [e2]
        cases mv with
        | tuple ys =>
          rcases ys with _ | ⟨a, _ | ⟨b', _ | ⟨c, d⟩⟩⟩
          · simp_arith [isiD]
          · simp_arith [isiD]
          · simp_arith [isiD, is_act_ok, is_within_ok]
            unfold isMove at hm
            rw [Bool.and_eq_true, not_and] at hm
            cases h1 : isAct a n with
            | false => simp_arith
            | true =>
              have h2 := Bool.eq_false_iff.mpr (hm h1)
              simp_arith [is_within_ok, h2]
          · have h : ¬ (((d.length + 1 + 1 + 1 : Nat) : Int) = 2) := by omega
            simp_arith [isiD, h]
        | _ => simp_arith [isiD]
    · rintro ρ ⟨b, o, rfl, hb, e⟩
      simp_arith [← e, areMovesL]
  | _ => simp_arith [isiD, areMoves]
theorem is_marked_ok (k : Nat) (x : PyData) (n many : Int) : den prog (k + 4) ("is_marked", none) [.val x, .val (.int n), .val (.int many)] = .ok (.val (.bool (isMarked x n many)), none) := by
  rw [den_of Dn_is_marked ⟨rfl, rfl⟩]
  unfold D_is_marked B_is_marked
  cases x with
  | tuple xs =>
    rcases xs with _ | ⟨a, _ | ⟨b, _ | ⟨c, r⟩⟩⟩
    · simp_arith [isiD, isMarked]
    · simp_arith [isiD, isMarked]
    · cases a <;> simp_arith [isiD, isMarked, are_moves_ok]
    · have h : ¬ (((r.length + 1 + 1 + 1 : Nat) : Int) = 2) := by omega
      simp_arith [isiD, isMarked, h]
  | _ => simp_arith [isiD, isMarked]
theorem marked_data {x : PyData} {n many : Int} (h : isMarked x n many = true) : ∃ e m, x = .tuple [.bool e, .tuple m] ∧ areMovesL n many .none m = true := by
  unfold isMarked at h
  split at h
  · next e m =>
    unfold areMoves at h
    split at h
    · next ms => exact ⟨e, ms, rfl, h⟩
    · cases h
  · cases h
theorem is_protocol_ok (k : Nat) (x : PyData) : den prog (k + 5) ("is_protocol", none) [.val x] = .ok (.val (.bool (isProtocol x)), none) := by
  rw [den_of Dn_is_protocol ⟨rfl, rfl⟩]
  unfold D_is_protocol B_is_protocol
  cases x with
  | tuple xs =>
    rcases xs with _ | ⟨a, _ | ⟨b, _ | ⟨c, r⟩⟩⟩
    · simp_arith [isiD, isProtocol]
    · simp_arith [isiD, isProtocol]
    · simp_arith [isiD, is_within_ok, glo_FEWEST, glo_MOST_PARTNERS]
      cases ha : isWithin a 2 4 with
      | false =>
        simp_arith []
        cases a <;> try rfl
        cases b <;> try rfl
        simp only [isWithin] at ha
        simp only [isProtocol, ha, Bool.false_and]
      | true =>
        obtain ⟨n, rfl, h1, h2⟩ := within_int ha
        simp only [isWithin] at ha
        cases b with
        | tuple sts =>
          simp_arith [isiD, glo_MOST_STATES]
          by_cases hc : (decide (1 ≤ sts.length) && decide (sts.length ≤ 10)) = true
          · have hc1 : (1 : Int) ≤ (sts.length : Int) := by simp only [Bool.and_eq_true, decide_eq_true_eq] at hc; omega
            have hc2 : (sts.length : Int) ≤ 10 := by simp only [Bool.and_eq_true, decide_eq_true_eq] at hc; omega
            simp_arith [hc1, hc2]
            apply wp_eq
            refine wp_endseq (forL_wp0 (I := fun rest ρ => ∃ m o, ρ = [.val (.tuple [.int n, .tuple sts]), .val (.int m), G o] ∧ ((rest.all fun s => isMarked s n sts.length && stOk s) && decide (m + (rest.map movesIn).sum ≤ 40)) = isProtocol (.tuple [.int n, .tuple sts])) _ _ ⟨0, none, rfl, ?_⟩ ?_ ?_)
            · simp only [isProtocol, ha, hc, Bool.true_and, Int.zero_add]
            · rintro st r ρ ⟨m, o, rfl, e⟩
              rw [← e]
              simp_arith [is_marked_ok]
              cases hm : isMarked st n sts.length with
              | false => simp_arith [List.all_cons, hm]
              | true =>
                obtain ⟨en, ms, rfl, -⟩ := marked_data hm
                cases en with
                | true =>
                  simp_arith []
                  refine ⟨_, _, by rw [← G_val], ?_⟩
                  simp only [List.all_cons, hm, stOk_t, Bool.true_or, Bool.true_and, List.map_cons, List.sum_cons, movesIn, Int.add_assoc]
                  rfl
                | false =>
                  cases ms with
                  | nil => simp_arith [List.isEmpty_nil, List.all_cons, hm, stOk_t]
                  | cons z zs =>
                    simp_arith [List.isEmpty_cons]
                    refine ⟨_, _, by rw [← G_val], ?_⟩
                    simp only [List.all_cons, hm, stOk_t, List.isEmpty_cons, Bool.not_false, Bool.or_true, Bool.true_and, List.map_cons, List.sum_cons, movesIn, Int.add_assoc, List.length_cons]
                    rfl
            · rintro ρ ⟨m, o, rfl, e⟩
              rw [← e]
              simp_arith [glo_MOST_MOVES, List.all_nil, List.sum_nil, Int.add_zero]
          · rw [show isProtocol (.tuple [.int n, .tuple sts]) = false by simp only [isProtocol, Bool.eq_false_iff.mpr hc, Bool.false_and, Bool.and_false]]
            have hc3 : ¬ ((1 : Int) ≤ (sts.length : Int) ∧ (sts.length : Int) ≤ 10) := by simp only [Bool.and_eq_true, decide_eq_true_eq] at hc; omega
            by_cases hc1 : (1 : Int) ≤ (sts.length : Int)
            · have hc2 : ¬ (sts.length : Int) ≤ 10 := fun h => hc3 ⟨hc1, h⟩
              simp_arith [hc1, hc2]
            · simp_arith [hc1]
        | _ => simp_arith [isiD, isProtocol]
    · have h : ¬ (((r.length + 1 + 1 + 1 : Nat) : Int) = 2) := by omega
      simp_arith [isiD, isProtocol, h]
  | _ => simp_arith [isiD, isProtocol]
theorem check_protocol_ok (k : Nat) (x : PyData) : den prog (k + 6) ("check_protocol", none) [.val x] = if isProtocol x then .ok (.val .none, none) else .exc "BadProtocol" := by
  rw [den_of Dn_check_protocol ⟨rfl, rfl⟩]
  unfold D_check_protocol B_check_protocol
  cases h : isProtocol x <;> simp_arith [is_protocol_ok, h]
end Lk01
end PM
set_option Elab.async false
set_option linter.all false
set_option maxRecDepth 100000
set_option maxHeartbeats 4000000
namespace PM
open PySem
theorem fmod_nat {a n : Nat} : ((a : Int)).fmod (n : Int) = ((a % n : Nat) : Int) := by
  rw [Int.fmod_eq_emod_of_nonneg _ (Int.natCast_nonneg n)]
  exact (Int.natCast_emod a n).symm
theorem turn_ne {n p t : Nat} (h2 : 2 ≤ n) (h4 : n ≤ 4) (hp : p < n) (ht : t < n - 1) : p ≠ (p + 1 + t) % n := by
  have : n = 2 ∨ n = 3 ∨ n = 4 := by omega
  rcases this with rfl | rfl | rfl <;> omega
def addA (found : List Act) (a : Act) : List Act := if a ∈ found then found else found ++ [a]
def allActs (P : Pro) : List Act := (P.sts.foldl (fun f s => s.2.foldl (fun f v => addA f v.1) f) []).mergeSort Act.le
structure Pro.Dr (P : Pro) (most : Nat) : Prop where
  k2 : 2 ≤ P.k
  k4 : P.k ≤ 4
  s1 : 1 ≤ P.sts.length
  s2 : P.sts.length ≤ most
  mv : ∀ s ∈ P.sts, (s.1 = true ∨ s.2 ≠ []) ∧ s.2.length ≤ 3 ∧ (s.2.Pairwise fun v w => mvLt v w = true) ∧ ∀ v ∈ s.2, v.1.ok P.k ∧ v.2 < P.sts.length
theorem ordB_int {i j : Nat} : ordB .le (.int i) (.int j) = decide (i ≤ j) := by
  show decide ((i : Int) ≤ (j : Int)) = _
  rw [Bool.eq_iff_iff, decide_eq_true_eq, decide_eq_true_eq]
  omega
theorem ordB_act {a b : Act} : ordB .le a.e b.e = !(b.lt a) := by
  simp only [Act.e, ordB, ordBA, eqv_nat, ordB_int, Oop.i, Oop.n]
  rw [Bool.eq_iff_iff]
  simp only [Act.lt, Bool.not_eq_true', decide_eq_false_iff_not, decide_eq_true_eq]
  split
  · split
    · split
      · simp; omega
      · simp; omega
    · simp; omega
  · simp; omega
theorem ordB_mv {v w : Mv} : ordB .le (mvE v) (mvE w) = !(mvLt w v) := by
  have h := ordB_act (a := v.1) (b := w.1)
  simp only [mvE, ordB, ordBA, eqv_act, eqv_nat, Oop.i, Oop.n]
  rw [Bool.eq_iff_iff]
  split
  · next h1 =>
    rw [decide_eq_true_eq] at h1
    simp only [mvLt, h1, Act.lt]
    split
    · next h2 => rw [decide_eq_true_eq] at h2; simp; try omega
    · next h2 => rw [decide_eq_true_eq] at h2; simp; try omega
  · next h1 =>
    rw [decide_eq_true_eq] at h1
    have h2 : ¬ w.1 = v.1 := fun h => h1 h.symm
    rw [h]
    simp only [mvLt, decide_eq_false h2, Bool.false_and, Bool.or_false]
theorem act_is {a : Act} {k : Nat} (h : a.ok k) : isAct a.e k = true := by
  obtain ⟨h1, h2, h3, h4⟩ := h
  show (isWithin _ _ _ && (isWithin _ _ _ && (!(PyData.eqv (.int a.p) (.int a.q)) && isWithin _ _ _))) = true
  rw [eqv_nat, decide_eq_false h3]
  simp only [isWithin, Bool.and_eq_true, decide_eq_true_eq, Bool.not_false, true_and]
  omega
theorem mv_is {v : Mv} {k n : Nat} (h : v.1.ok k) (h2 : v.2 < n) : isMove (mvE v) k n = true := by
  show (isAct v.1.e k && isWithin (.int v.2) 0 ((n : Int) - 1)) = true
  rw [act_is h]
  simp only [isWithin, Bool.and_eq_true, decide_eq_true_eq, true_and]
  omega
theorem moves_are {k n : Nat} : ∀ {ms : List Mv} {b : PyData}, (∀ v ∈ ms, v.1.ok k ∧ v.2 < n) → (ms.Pairwise fun v w => mvLt v w = true) → (b = .none ∨ ∃ w, b = mvE w ∧ ∀ v ∈ ms, mvLt w v = true) → areMovesL k n b (ms.map mvE) = true
  | [], _, _, _, _ => rfl
  | v :: ms, b, h, hp, hb => by
    obtain ⟨h1, h2⟩ := h v List.mem_cons_self
    rw [List.pairwise_cons] at hp
    rw [List.map_cons, areMovesL, mv_is h1 h2, moves_are (fun w hw => h w (List.mem_cons_of_mem _ hw)) hp.2 (.inr ⟨v, rfl, hp.1⟩), Bool.true_and, Bool.and_true]
    rcases hb with rfl | ⟨w, rfl, hw⟩
    · rfl
    · show (false || !(ordB .le (mvE v) (mvE w))) = true
      rw [ordB_mv, hw v List.mem_cons_self]
      rfl
theorem Pro.Dr.is {P : Pro} {most : Nat} (h : P.Dr most) (hm : most ≤ 10) : isProtocol P.e = true := by
  have hlen : (P.sts.map stE).length = P.sts.length := List.length_map _
  show ((decide ((2 : Int) ≤ P.k) && decide ((P.k : Int) ≤ 4)) && ((decide (1 ≤ (P.sts.map stE).length) && decide ((P.sts.map stE).length ≤ 10)) && (((P.sts.map stE).all fun s => isMarked s P.k (P.sts.map stE).length && stOk s) && decide (((P.sts.map stE).map movesIn).sum ≤ 40)))) = true
  rw [hlen]
  have h1 := h.k2
  have h2 := h.k4
  have h3 := h.s1
  have h4 := h.s2
  rw [decide_eq_true (by omega : (2 : Int) ≤ P.k), decide_eq_true (by omega : (P.k : Int) ≤ 4), decide_eq_true h3, decide_eq_true (by omega : P.sts.length ≤ 10)]
  simp only [Bool.true_and, Bool.and_eq_true, List.all_eq_true, decide_eq_true_eq]
  refine ⟨fun s hs => ?_, ?_⟩
  · obtain ⟨s, hs2, rfl⟩ := List.mem_map.mp hs
    obtain ⟨a, b, c, d⟩ := h.mv s hs2
    refine ⟨moves_are d c (.inl rfl), ?_⟩
    show (s.1 || !(s.2.map mvE).isEmpty) = true
    rcases a with a | a
    · rw [a]; rfl
    · cases h5 : s.2 with
      | nil => exact (a h5).elim
      | cons _ _ => simp
  · have key : ∀ l : List Sta, (∀ s ∈ l, s.2.length ≤ 3) → ((l.map stE).map movesIn).sum ≤ 3 * l.length := fun l => by
      induction l with
      | nil => intro _; exact Int.le_refl 0
      | cons s l ih =>
        intro hl
        have e := ih fun s hs => hl s (List.mem_cons_of_mem _ hs)
        have e2 := hl s List.mem_cons_self
        rw [List.map_cons, List.map_cons, List.sum_cons, List.length_cons]
        have : movesIn (stE s) = (s.2.length : Int) := by show ((s.2.map mvE).length : Int) = _; rw [List.length_map]
        omega
    have := key P.sts fun s hs => (h.mv s hs).2.1
    omega
theorem Pro.Dr.mono {P : Pro} {m n : Nat} (h : P.Dr m) (hm : m ≤ n) : P.Dr n := ⟨h.k2, h.k4, h.s1, Nat.le_trans h.s2 hm, h.mv⟩
namespace Lk01
local macro_rules | `(tactic| simp_arith [$xs,*]) => `(tactic| simp -implicitDefEqProofs only [e_cst_v, e_var_p, e_var_v, e_d, e_cmp, e_bin, e_sub, e_isi, e_cmp_t, e_isi_t, e_not_t, e_and_t, e_or_t, e_exB, e_nil, e_ite, e_ret, e_asg, seqR_next, seqR_ret, tmp_ok, e_cst_t, e_glo_t, e_bin_t, e_neg_t, e_chn_t, e_tup_t, e_lst_t, e_sub_t, e_slc_t, e_call_t, e_meth_t, e_new_t, e_blt_t, e_bme_t, e_fld_t, e_lc_t, e_var_t, retV_var, e_glo, e_neg, e_not, e_ite_v, e_ite_t, e_chn, e_dns, e_dns0, e_dVs, e_dVs0, e_dPs, e_dPs0, e_dAs, e_dAs0, e_tup, e_lst, e_call, e_callio, e_blt, e_asgS, p_cst, rv_cst, p_glo, rv_glo, p_bin, rv_bin, p_neg, rv_neg, p_not, rv_not, p_and, rv_and, p_or, rv_or, p_ite, rv_ite, p_cmp, rv_cmp, p_chn, rv_chn, p_tup, rv_tup, p_lst, rv_lst, p_sub, rv_sub, p_slc, rv_slc, p_isi, rv_isi, p_call, rv_call, p_meth, rv_meth, p_new, rv_new, p_blt, rv_blt, p_bme, rv_bme, p_fld, rv_fld, p_lc, rv_lc, vw_tmp, vw_slot, sv_val, sv_own, sv_brw, sv_ownI, sv_brwI, dat_tmp, toD_val, toD_own, c_eq, c_lt, c_le, c_gt, c_ge, t_bool, s_at, s_att, at_0, b_1, b_2, b_int, b_intB, b_lenL, b_lenT, b_tupL, b_lstT, o_int, o_add, o_sub, o_mod, o_div, asg_n, put_b, put_o, put_s, mo_b, mo_o, set4_0, set4_1, set4_2, at4_1, at4_2, at4_3, ret_of, o_mulR, o_mulL, o_pow18, o_mod1, o_mod2, o_div7, n_neg, wp_ok, wp_exc, bind_if, asg_G, asg_v, asg_0, asg_o, asg_i, plain_G, t_tup, t_nil, t_cons, asg_t, boolR_b, e_and, e_or, bndF, bndT, int_of, e_slc, e_rev, e_dct, e_fld, e_bme, e_meth, newB_ok, e_new, e_lc, e_lc2, e_sc, e_dc, itR_ok, it_var, it_cst, it_sub, it_slc, it_rev, it_bin, it_tup, it_lst, it_call, it_meth, it_bme, it_fld, it_lc, it_ite, it_blt, p_rev, rv_rev, p_dct, rv_dct, p_lc2, rv_lc2, p_sc, rv_sc, p_dc, rv_dc, x_pass, x_brk, x_cnt, x_expr, x_raise, x_for, x_whl, addI_ok, augS_ok, x_augN, rng_0, rng_2, wk_enum, wk_zip, ite_l, ite_t, isW_1, isW_2, isW_3, isW_4, isW_5, isW_6, isW_7, turn_eq, wipe_0, wipA_s, wipe_c, back_0, back_c, ownPl_0, ownA_s, ownPl_c, plain_v, plain_n, noExc_ok, cIo_some, callIo_eq, lent_eq, mIo_ok, meth_io, meth_tmp, mRd_ok, meth_rd, cls_of, fld_of, kd_app, kd_pop, kd_ext, kd_ins, kd_idx, kd_add, kd_get, kd_sda, wrA_ok, wrV_eq, bme_app, bme_pop, bme_ext, bme_add, bme_sda, w_app, w_pop, w_ext, w_add, asgFB_ok, asgFA_s, x_asgF, augFC_ok, augFB_ok, augFA_ok, augF0_s, x_augF, trF_ok, trF_exc, x_try, ctx_fn, ctx_glo, ctx_cls, ctx_fuel, endR_ret, endR_next, endR_exc, endR_if, seqR_if, seqR_exc, seqR_brk, seqR_cnt, tmp_exc, itR_exc, tmp_if, asg_nb, nb_v, nb_o, nb_n, dat_ownL, dat_slot, c_eqS, c_neS, at_1, at_2, at_3, isNone_n, isNone_t, isNone_l, isNone_i, isNone_b, isNone_s, c_isNN, c_notN, c_leM, c_leA, dat_d, plc_v, plc_o, plc_b, plc_i, lod_v, lod_i, lod_ol, lod_oi, retA_o, retA_v, retA_i, c_neI, c_ndx, c_eqD, c_neD, c_inL, c_inT, c_niL, c_niT, t_lst, t_tupB, b_set0, b_tupT, b_lstL, b_srtL, b_srtS, sv_set, sv_dic, sv_insF, fz_val, fz_lst, fz_ins, fz_insF, s_cutT, s_cutL, o_addT, o_addL, seqF_next, seqF_ret, seqF_brk, seqF_cnt, t_name, set_l, List.getElem?_cons_zero, List.getElem?_cons_succ, List.map_cons, List.map_nil, List.set_cons_zero, List.set_cons_succ, List.length_cons, List.length_nil, List.cons_append, List.nil_append, List.append_nil, List.replicate_succ, List.replicate_zero, List.map, Res.bind_ok, Res.bind_exc, Res.bind_stuck, Option.bind_some, Option.map_some, Option.bind_none, Option.map_none, Option.isSome_some, Res.of_some, Res.of_none, decide_false, decide_true, Bool.false_eq_true, if_false, if_true, ite_true, ite_false, ne_eq, not_false_eq_true, not_true_eq_false, gt_iff_lt, Bool.not_true, Bool.not_false, Bool.and_true, Bool.and_false, Bool.true_and, Bool.false_and, Bool.or_true, Bool.or_false, Bool.true_or, Bool.false_or, Bool.decide_eq_true, decide_eq_true_eq, ge_iff_le, Nat.reduceAdd, Nat.reduceSub, Nat.reduceMul, Nat.reduceLeDiff, Nat.reduceLT, Nat.reduceEqDiff, Int.cast_ofNat_Int, Int.natCast_zero, Int.natCast_one, Int.reduceEq, Int.reduceLT, Int.reduceLE, Int.reduceAdd, Int.reduceSub, Int.reduceNeg, Int.reduceMul, reduceCtorEq, and_self, eq_self, $xs,*])
local macro_rules | `(tactic| simp_arith) => `(tactic| simp -implicitDefEqProofs only [e_cst_v, e_var_p, e_var_v, e_d, e_cmp, e_bin, e_sub, e_isi, e_cmp_t, e_isi_t, e_not_t, e_and_t, e_or_t, e_exB, e_nil, e_ite, e_ret, e_asg, seqR_next, seqR_ret, tmp_ok, e_cst_t, e_glo_t, e_bin_t, e_neg_t, e_chn_t, e_tup_t, e_lst_t, e_sub_t, e_slc_t, e_call_t, e_meth_t, e_new_t, e_blt_t, e_bme_t, e_fld_t, e_lc_t, e_var_t, retV_var, e_glo, e_neg, e_not, e_ite_v, e_ite_t, e_chn, e_dns, e_dns0, e_dVs, e_dVs0, e_dPs, e_dPs0, e_dAs, e_dAs0, e_tup, e_lst, e_call, e_callio, e_blt, e_asgS, p_cst, rv_cst, p_glo, rv_glo, p_bin, rv_bin, p_neg, rv_neg, p_not, rv_not, p_and, rv_and, p_or, rv_or, p_ite, rv_ite, p_cmp, rv_cmp, p_chn, rv_chn, p_tup, rv_tup, p_lst, rv_lst, p_sub, rv_sub, p_slc, rv_slc, p_isi, rv_isi, p_call, rv_call, p_meth, rv_meth, p_new, rv_new, p_blt, rv_blt, p_bme, rv_bme, p_fld, rv_fld, p_lc, rv_lc, vw_tmp, vw_slot, sv_val, sv_own, sv_brw, sv_ownI, sv_brwI, dat_tmp, toD_val, toD_own, c_eq, c_lt, c_le, c_gt, c_ge, t_bool, s_at, s_att, at_0, b_1, b_2, b_int, b_intB, b_lenL, b_lenT, b_tupL, b_lstT, o_int, o_add, o_sub, o_mod, o_div, asg_n, put_b, put_o, put_s, mo_b, mo_o, set4_0, set4_1, set4_2, at4_1, at4_2, at4_3, ret_of, o_mulR, o_mulL, o_pow18, o_mod1, o_mod2, o_div7, n_neg, wp_ok, wp_exc, bind_if, asg_G, asg_v, asg_0, asg_o, asg_i, plain_G, t_tup, t_nil, t_cons, asg_t, boolR_b, e_and, e_or, bndF, bndT, int_of, e_slc, e_rev, e_dct, e_fld, e_bme, e_meth, newB_ok, e_new, e_lc, e_lc2, e_sc, e_dc, itR_ok, it_var, it_cst, it_sub, it_slc, it_rev, it_bin, it_tup, it_lst, it_call, it_meth, it_bme, it_fld, it_lc, it_ite, it_blt, p_rev, rv_rev, p_dct, rv_dct, p_lc2, rv_lc2, p_sc, rv_sc, p_dc, rv_dc, x_pass, x_brk, x_cnt, x_expr, x_raise, x_for, x_whl, addI_ok, augS_ok, x_augN, rng_0, rng_2, wk_enum, wk_zip, ite_l, ite_t, isW_1, isW_2, isW_3, isW_4, isW_5, isW_6, isW_7, turn_eq, wipe_0, wipA_s, wipe_c, back_0, back_c, ownPl_0, ownA_s, ownPl_c, plain_v, plain_n, noExc_ok, cIo_some, callIo_eq, lent_eq, mIo_ok, meth_io, meth_tmp, mRd_ok, meth_rd, cls_of, fld_of, kd_app, kd_pop, kd_ext, kd_ins, kd_idx, kd_add, kd_get, kd_sda, wrA_ok, wrV_eq, bme_app, bme_pop, bme_ext, bme_add, bme_sda, w_app, w_pop, w_ext, w_add, asgFB_ok, asgFA_s, x_asgF, augFC_ok, augFB_ok, augFA_ok, augF0_s, x_augF, trF_ok, trF_exc, x_try, ctx_fn, ctx_glo, ctx_cls, ctx_fuel, endR_ret, endR_next, endR_exc, endR_if, seqR_if, seqR_exc, seqR_brk, seqR_cnt, tmp_exc, itR_exc, tmp_if, asg_nb, nb_v, nb_o, nb_n, dat_ownL, dat_slot, c_eqS, c_neS, at_1, at_2, at_3, isNone_n, isNone_t, isNone_l, isNone_i, isNone_b, isNone_s, c_isNN, c_notN, c_leM, c_leA, dat_d, plc_v, plc_o, plc_b, plc_i, lod_v, lod_i, lod_ol, lod_oi, retA_o, retA_v, retA_i, c_neI, c_ndx, c_eqD, c_neD, c_inL, c_inT, c_niL, c_niT, t_lst, t_tupB, b_set0, b_tupT, b_lstL, b_srtL, b_srtS, sv_set, sv_dic, sv_insF, fz_val, fz_lst, fz_ins, fz_insF, s_cutT, s_cutL, o_addT, o_addL, seqF_next, seqF_ret, seqF_brk, seqF_cnt, t_name, set_l, List.getElem?_cons_zero, List.getElem?_cons_succ, List.map_cons, List.map_nil, List.set_cons_zero, List.set_cons_succ, List.length_cons, List.length_nil, List.cons_append, List.nil_append, List.append_nil, List.replicate_succ, List.replicate_zero, List.map, Res.bind_ok, Res.bind_exc, Res.bind_stuck, Option.bind_some, Option.map_some, Option.bind_none, Option.map_none, Option.isSome_some, Res.of_some, Res.of_none, decide_false, decide_true, Bool.false_eq_true, if_false, if_true, ite_true, ite_false, ne_eq, not_false_eq_true, not_true_eq_false, gt_iff_lt, Bool.not_true, Bool.not_false, Bool.and_true, Bool.and_false, Bool.true_and, Bool.false_and, Bool.or_true, Bool.or_false, Bool.true_or, Bool.false_or, Bool.decide_eq_true, decide_eq_true_eq, ge_iff_le, Nat.reduceAdd, Nat.reduceSub, Nat.reduceMul, Nat.reduceLeDiff, Nat.reduceLT, Nat.reduceEqDiff, Int.cast_ofNat_Int, Int.natCast_zero, Int.natCast_one, Int.reduceEq, Int.reduceLT, Int.reduceLE, Int.reduceAdd, Int.reduceSub, Int.reduceNeg, Int.reduceMul, reduceCtorEq, and_self, eq_self])
theorem number_ok (k : Nat) (x : PyData) (lo hi : Int) : den prog (k + 1) ("_law_number", none) [.val x, .val (.int lo), .val (.int hi)] = .ok (.val (.bool (isWithin x lo hi)), none) := by
  rw [den_of Dn__law_number ⟨rfl, rfl⟩]
  unfold D__law_number B__law_number
  cases x
  all_goals simp_arith [isiD, isWithin]
  split
  · next h => rw [decide_eq_true h, Bool.true_and]
  · next h => rw [decide_eq_false h, Bool.false_and]
theorem lact_ok (k : Nat) (x : PyData) (n : Int) : den prog (k + 2) ("_law_is_act", none) [.val x, .val (.int n)] = .ok (.val (.bool (isAct x n)), none) := by
  rw [den_of Dn__law_is_act ⟨rfl, rfl⟩]
  unfold D__law_is_act B__law_is_act
  cases x with
  | tuple xs =>
    rcases xs with _ | ⟨a, _ | ⟨b, _ | ⟨c, _ | ⟨d, r⟩⟩⟩⟩
    · simp_arith [isiD, isAct]
    · simp_arith [isiD, isAct]
    · simp_arith [isiD, isAct]
    · cases ha : isWithin a 0 (n - 1) with
      | false => simp_arith [isiD, isAct, number_ok, ha]
      | true =>
        cases hb : isWithin b 0 (n - 1) with
        | false => simp_arith [isiD, isAct, number_ok, ha, hb]
        | true =>
          obtain ⟨a, rfl, a1, a2⟩ := within_int ha
          obtain ⟨b, rfl, b1, b2⟩ := within_int hb
          cases hc : PyData.eqv (.int a) (.int b)
          all_goals rw [eqv_int] at hc
          all_goals simp_arith [isiD, isAct, number_ok, ha, hb, eqv_int, hc]
    · have h : ¬ (((r.length + 1 + 1 + 1 + 1 : Nat) : Int) = 3) := by omega
      simp_arith [isiD, isAct, h]
  | _ => simp_arith [isiD, isAct]
theorem take_nat (k : Nat) (b : Bx) (m : Int) (hm : 0 < m) (hm2 : m < 1000000000) : ∃ (v : Nat) (b' : Bx), den prog (k + 1) ("_law_take", none) [.brw b.mo, .val (.int m)] = .ok (.val (.int v), some b'.mo) ∧ (v : Int) < m := by
  obtain ⟨v, b', e, h1, h2⟩ := take_ok k b m hm hm2
  refine ⟨v.toNat, b', ?_, by omega⟩
  rw [Int.toNat_of_nonneg h1]
  exact e
theorem pick_ok (k : Nat) (b : Bx) (ds : List PyData) (h0 : ds ≠ []) (hl : ds.length < 1000) : ∃ (d : PyData) (b' : Bx), den prog (k + 2) ("_law_pick", none) [.brw b.mo, .val (.list ds)] = .ok (.val d, some b'.mo) ∧ d ∈ ds := by
  have hp : 0 < ds.length := List.length_pos_iff.mpr h0
  obtain ⟨n, b', e1, e2⟩ := take_nat k b ds.length (by omega) (by omega)
  have hn : n < ds.length := by omega
  refine ⟨ds[n], b', ?_, List.getElem_mem hn⟩
  have h2 : L2.atI ds (n : Int) = some ds[n] := by rw [at_nat]; exact List.getElem?_eq_getElem hn
  rw [den_of Dn__law_pick ⟨rfl, rfl⟩]
  unfold D__law_pick B__law_pick
  simp_arith [e1, h2]
theorem acts_ok (k : Nat) (b : Bx) (n : Nat) (n2 : 2 ≤ n) (n4 : n ≤ 4) : ∃ (as : List Act) (b' : Bx), den prog (k + 3) ("_law_acts", none) [.brw b.mo, .val (.int n)] = .ok (.own (.lst (as.map Act.e)), some b'.mo) ∧ as ≠ [] ∧ as.length ≤ 5 ∧ (as.Pairwise fun a b => a.lt b = true) ∧ ∀ a ∈ as, a.ok n := by
  obtain ⟨t0, b0, e0, h0⟩ := take_nat (k + 1) b 4 (by omega) (by omega)
  have key : (den prog (k + 3) ("_law_acts", none) [.brw b.mo, .val (.int n)]).wp (fun r => ∃ (as : List Act) (b' : Bx), r = (.own (.lst (as.map Act.e)), some b'.mo) ∧ as ≠ [] ∧ as.length ≤ 5 ∧ (as.Pairwise fun a b => a.lt b = true) ∧ ∀ a ∈ as, a.ok n) noE := by
    rw [den_of Dn__law_acts ⟨rfl, rfl⟩]
    unfold D__law_acts B__law_acts
    simp_arith [e0, rngOk_nat (n := 2 + (t0 : Int)) (by omega) (by omega)]
    refine wp_endseq (forL_wp0 (I := fun rest ρ => ∃ (b : Bx) (f : List Act) (s3 s4 s5 s6 : Slot), ρ = [.brw b.mo, .val (.int n), .own (.lst (f.map Act.e)), s3, s4, s5, s6] ∧ (nb s3 = true ∧ nb s4 = true ∧ nb s5 = true ∧ nb s6 = true) ∧ (∀ a ∈ f, a.ok n) ∧ f.Nodup ∧ f.length + rest.length ≤ 5 ∧ (f ≠ [] ∨ rest ≠ [])) _ _
      ⟨b0, [], .no, .no, .no, .no, rfl, ⟨rfl, rfl, rfl, rfl⟩, fun _ h => (List.not_mem_nil h).elim, List.nodup_nil, by simp only [rng, List.length_map, List.length_range, List.length_nil]; omega, .inr (by simp only [rng, ne_eq, List.map_eq_nil_iff, List.range_eq_nil]; omega)⟩ ?_ ?_)
    · rintro x r ρ ⟨b, f, s3, s4, s5, s6, rfl, ⟨n3, n4', n5, n6⟩, hf, hd, hl, -⟩
      obtain ⟨p, b1, e1, h1⟩ := take_nat (k + 1) b n (by omega) (by omega)
      obtain ⟨t, b2, e2, h2⟩ := take_nat (k + 1) b1 ((n : Int) - 1) (by omega) (by omega)
      obtain ⟨c, b3, e3, h3⟩ := pick_ok k b2 [.int 0, .int 0, .int 1, .int 4] (by simp) (by simp)
      obtain ⟨m, rfl, hm⟩ : ∃ m : Nat, c = .int m ∧ m ≤ 4 := by
        simp only [List.mem_cons, List.not_mem_nil, or_false] at h3
        rcases h3 with rfl | rfl | rfl | rfl
        · exact ⟨0, rfl, by omega⟩
        · exact ⟨0, rfl, by omega⟩
        · exact ⟨1, rfl, by omega⟩
        · exact ⟨4, rfl, by omega⟩
      have hn0 : (n : Int) ≠ 0 := by omega
      have hq : ((p : Int) + 1 + (t : Int)).fmod n = (((p + 1 + t) % n : Nat) : Int) := by
        rw [show (p : Int) + 1 + (t : Int) = ((p + 1 + t : Nat) : Int) from by omega]
        exact fmod_nat
      have hni : cmpV .notIn (some (.dat (.tuple [.int p, .int ((p + 1 + t) % n : Nat), .int m]))) (some (.dat (.list (f.map Act.e)))) = some (!decide ((⟨p, (p + 1 + t) % n, m⟩ : Act) ∈ f)) := c_niAct (as := f) (a := ⟨p, (p + 1 + t) % n, m⟩)
      have hfl : f.length < 16777216 := by rw [List.length_cons] at hl; omega
      by_cases hmem : (⟨p, (p + 1 + t) % n, m⟩ : Act) ∈ f
      · simp_arith [e1, e2, e3, asg_nb, n3, n4', n5, n6, o_mod hn0, hq, hni, hmem]
        exact ⟨b3, f, _, _, _, _, rfl, ⟨rfl, rfl, rfl, rfl⟩, hf, hd, by rw [List.length_cons] at hl; omega, .inl (List.ne_nil_of_mem hmem)⟩
      · simp_arith [e1, e2, e3, asg_nb, n3, n4', n5, n6, o_mod hn0, hq, hni, hmem, hfl, List.length_map]
        refine ⟨b3, f ++ [⟨p, (p + 1 + t) % n, m⟩], _, _, _, _, by rw [List.map_append]; rfl, ⟨rfl, rfl, rfl, rfl⟩, ?_, ?_, by rw [List.length_append]; rw [List.length_cons] at hl; simp; omega, .inl (by simp)⟩
        · intro a ha
          rw [List.mem_append, List.mem_singleton] at ha
          rcases ha with ha | rfl
          · exact hf a ha
          · exact ⟨by show p < n; omega, Nat.mod_lt _ (by omega), (turn_ne n2 n4 (by omega) (by omega) : p ≠ (p + 1 + t) % n), hm⟩
        · rw [List.nodup_append]
          exact ⟨hd, by simp, fun a ha b hb => by rw [List.mem_singleton] at hb; subst hb; exact fun h => hmem (h ▸ ha)⟩
    · rintro ρ ⟨b, f, s3, s4, s5, s6, rfl, -, hf, hd, hl, hne⟩
      have hs := b_srtL (srtb_act (as := f) (by omega))
      simp_arith [hs, sort_act]
      refine ⟨_, b, rfl, ?_, ?_, sorted_act hd, ?_⟩
      · intro h
        have := (List.mergeSort_perm f Act.le).length_eq
        rw [h] at this
        rcases hne with h2 | h2
        · exact h2 (List.length_eq_zero_iff.mp this.symm)
        · exact h2 rfl
      · rw [(List.mergeSort_perm f Act.le).length_eq]; omega
      · exact fun a ha => hf a ((List.mergeSort_perm f Act.le).mem_iff.mp ha)
  obtain ⟨r, e, as, b', rfl, h⟩ := wp_ex key
  exact ⟨as, b', e, h⟩
theorem protocol_ok (k : Nat) (b : Bx) (most : Nat) (hm : 1 ≤ most) (hm2 : most ≤ 10) : ∃ (P : Pro) (b' : Bx), den prog (k + 4) ("_law_protocol", none) [.brw b.mo, .val (.int most)] = .ok (.val P.e, some b'.mo) ∧ P.Dr most := by
  obtain ⟨kd, b0, e0, h0⟩ := pick_ok (k + 1) b [.int 2, .int 2, .int 3, .int 3, .int 4] (by simp) (by simp)
  obtain ⟨n, rfl, n2, n4⟩ : ∃ n : Nat, kd = .int n ∧ 2 ≤ n ∧ n ≤ 4 := by
    simp only [List.mem_cons, List.not_mem_nil, or_false] at h0
    rcases h0 with rfl | rfl | rfl | rfl | rfl
    · exact ⟨2, rfl, by omega⟩
    · exact ⟨2, rfl, by omega⟩
    · exact ⟨3, rfl, by omega⟩
    · exact ⟨3, rfl, by omega⟩
    · exact ⟨4, rfl, by omega⟩
  obtain ⟨as, b1, e1, a1, a2, -, a4⟩ := acts_ok k b0 n n2 n4
  obtain ⟨t, b2, e2, h2⟩ := take_nat (k + 2) b1 most (by omega) (by omega)
  have key : (den prog (k + 4) ("_law_protocol", none) [.brw b.mo, .val (.int most)]).wp (fun r => ∃ (P : Pro) (b' : Bx), r = (.val P.e, some b'.mo) ∧ P.Dr most) noE := by
    rw [den_of Dn__law_protocol ⟨rfl, rfl⟩]
    unfold D__law_protocol B__law_protocol
    simp_arith [e0, e1, e2, rngOk_nat (n := 1 + (t : Int)) (by omega) (by omega)]
    refine wp_endseq (forL_wp0 (I := fun rest ρ => ∃ (b : Bx) (ss : List Sta) (s3 s6 s7 s8 s9 : Slot), ρ = [.brw b.mo, .val (.int most), .val (.int n), s3, .val (.int (1 + t)), .own (.lst (ss.map stE)), s6, s7, s8, s9] ∧ (s3 = .own (.lst (as.map Act.e)) ∨ s3 = .val (.list (as.map Act.e))) ∧ (nb s6 = true ∧ nb s7 = true ∧ nb s8 = true ∧ nb s9 = true) ∧
      ss.length + rest.length = t + 1 ∧ ∀ s ∈ ss, (s.1 = true ∨ s.2 ≠ []) ∧ s.2.length ≤ 3 ∧ (s.2.Pairwise fun v w => mvLt v w = true) ∧ ∀ v ∈ s.2, v.1.ok n ∧ v.2 < t + 1) _ _
      ⟨b2, [], _, _, _, _, _, rfl, .inl rfl, ⟨rfl, rfl, rfl, rfl⟩, by simp only [rng, List.length_map, List.length_range, List.length_nil]; omega, fun _ h => (List.not_mem_nil h).elim⟩ ?_ ?_)
    · rintro x r ρ ⟨b, ss, s3, s6, s7, s8, s9, rfl, h3, ⟨n6, n7, n8, n9⟩, hl, hs⟩
      obtain ⟨c, b3, e3, hc⟩ := pick_ok (k + 1) b [.int 0, .int 1, .int 1, .int 2, .int 2, .int 3] (by simp) (by simp)
      obtain ⟨m, rfl, hm⟩ : ∃ m : Nat, c = .int m ∧ m ≤ 3 := by
        simp only [List.mem_cons, List.not_mem_nil, or_false] at hc
        rcases hc with rfl | rfl | rfl | rfl | rfl | rfl
        · exact ⟨0, rfl, by omega⟩
        · exact ⟨1, rfl, by omega⟩
        · exact ⟨1, rfl, by omega⟩
        · exact ⟨2, rfl, by omega⟩
        · exact ⟨2, rfl, by omega⟩
        · exact ⟨3, rfl, by omega⟩
      simp_arith [asg_nb, n6, n7, n8, n9, e3, rngOk_nat (n := (m : Int)) (by omega) (by omega)]
      refine wp_seq (forL_wp0 (I := fun rest ρ => ∃ (b : Bx) (ms : List Mv) (s3 s8 s9 : Slot), ρ = [.brw b.mo, .val (.int most), .val (.int n), s3, .val (.int (1 + t)), .own (.lst (ss.map stE)), .val x, .own (.lst (ms.map mvE)), s8, s9] ∧ (s3 = .own (.lst (as.map Act.e)) ∨ s3 = .val (.list (as.map Act.e))) ∧ (nb s8 = true ∧ nb s9 = true) ∧
        ms.length + rest.length ≤ 3 ∧ ms.Nodup ∧ ∀ v ∈ ms, v.1.ok n ∧ v.2 < t + 1) _ _ ⟨b3, [], s3, s8, s9, rfl, h3, ⟨n8, n9⟩, by simp only [rng, List.length_map, List.length_range, List.length_nil]; omega, List.nodup_nil, fun _ h => (List.not_mem_nil h).elim⟩ ?_ ?_)
      · rintro y r ρ ⟨b, ms, s3, s8, s9, rfl, h3, ⟨n8, n9⟩, hl, hd, hv⟩
        obtain ⟨a, b4, e4, h4⟩ := pick_ok (k + 1) b (as.map Act.e) (by simpa using a1) (by simp; omega)
        obtain ⟨a, ha, rfl⟩ := List.mem_map.mp h4
        obtain ⟨to, b5, e5, h5⟩ := take_nat (k + 2) b4 (1 + (t : Int)) (by omega) (by omega)
        have hni : cmpV .notIn (some (.dat (.tuple [a.e, .int to]))) (some (.dat (.list (ms.map mvE)))) = some (!decide (((a, to) : Mv) ∈ ms)) := c_niMv (as := ms) (a := (a, to))
        have hml : ms.length < 16777216 := by rw [List.length_cons] at hl; omega
        by_cases hmem : ((a, to) : Mv) ∈ ms
        · rcases h3 with rfl | rfl
          all_goals simp_arith [asg_nb, n8, n9, e4, e5, hni, hmem]
          all_goals exact ⟨b5, ms, _, _, _, rfl, .inr rfl, ⟨rfl, rfl⟩, by rw [List.length_cons] at hl; omega, hd, hv⟩
        · have hnew : ∀ v ∈ ms ++ [((a, to) : Mv)], v.1.ok n ∧ v.2 < t + 1 := by
            intro v hv2
            rw [List.mem_append, List.mem_singleton] at hv2
            rcases hv2 with hv2 | rfl
            · exact hv v hv2
            · exact ⟨a4 a ha, by show to < t + 1; omega⟩
          have hnd : (ms ++ [((a, to) : Mv)]).Nodup := by
            rw [List.nodup_append]
            exact ⟨hd, by simp, fun a ha b hb => by rw [List.mem_singleton] at hb; subst hb; exact fun h => hmem (h ▸ ha)⟩
          rcases h3 with rfl | rfl
          all_goals simp_arith [asg_nb, n8, n9, e4, e5, hni, hmem, List.length_map, hml]
          all_goals exact ⟨b5, ms ++ [(a, to)], _, _, _, by rw [List.map_append]; rfl, .inr rfl, ⟨rfl, rfl⟩, by rw [List.length_append]; rw [List.length_cons] at hl; simp; omega, hnd, hnew⟩
      · rintro ρ ⟨b, ms, s3, s8, s9, rfl, h3, ⟨n8, n9⟩, hl, hd, hv⟩
        obtain ⟨z, b4, e4, h4⟩ := take_nat (k + 2) b 3 (by omega) (by omega)
        have hq : cmpV .eq (some (.dat (.list (ms.map mvE)))) (some (.dat (.list []))) = some ms.isEmpty := by
          rw [c_eqD (shp_lst fun x hx => by obtain ⟨v, -, rfl⟩ := List.mem_map.mp hx; exact fine_mv v) shp_lnil, eqv_lnil]
          cases ms <;> rfl
        have hso := b_srtL (srtb_mv (as := ms) (by simp only [List.length_nil] at hl; omega))
        have hsl : ss.length < 16777216 := by rw [List.length_cons] at *; omega
        have hmv : ∀ v ∈ ms.mergeSort mvLe, v.1.ok n ∧ v.2 < t + 1 := fun v h => hv v ((List.mergeSort_perm ms mvLe).mem_iff.mp h)
        have hml : (ms.mergeSort mvLe).length ≤ 3 := by rw [(List.mergeSort_perm ms mvLe).length_eq]; simp only [List.length_nil] at hl; omega
        have hne : ms.isEmpty = false → ms.mergeSort mvLe ≠ [] := fun h h2 => by
          have := (List.mergeSort_perm ms mvLe).length_eq
          rw [h2] at this
          rw [List.length_eq_zero_iff.mp this.symm] at h
          cases h
        cases hem : ms.isEmpty with
        | true =>
          simp_arith [hq, hem, hso, sort_mv, hsl, List.length_map]
          refine ⟨b, ss ++ [(true, ms.mergeSort mvLe)], _, _, _, _, _, by rw [List.map_append]; rfl, h3, ⟨rfl, rfl, n8, n9⟩, by rw [List.length_append]; rw [List.length_cons] at *; simp; omega, ?_⟩
          intro s hs2
          rw [List.mem_append, List.mem_singleton] at hs2
          rcases hs2 with hs2 | rfl
          · exact hs s hs2
          · exact ⟨.inl rfl, hml, sorted_mv hd, hmv⟩
        | false =>
          simp_arith [hq, hem, e4, hso, sort_mv, hsl, List.length_map]
          refine ⟨b4, ss ++ [(decide ((z : Int) = 0), ms.mergeSort mvLe)], _, _, _, _, _, by rw [List.map_append]; rfl, h3, ⟨rfl, rfl, n8, n9⟩, by rw [List.length_append]; rw [List.length_cons] at *; simp; omega, ?_⟩
          intro s hs2
          rw [List.mem_append, List.mem_singleton] at hs2
          rcases hs2 with hs2 | rfl
          · exact hs s hs2
          · exact ⟨.inr (hne hem), hml, sorted_mv hd, hmv⟩
    · rintro ρ ⟨b, ss, s3, s6, s7, s8, s9, rfl, h3, hn, hl, hs⟩
      simp_arith []
      rw [List.length_nil, Nat.add_zero] at hl
      exact ⟨⟨n, ss⟩, b, rfl, n2, n4, by show 1 ≤ ss.length; omega, by show ss.length ≤ most; omega, fun s h => by have := hs s h; rw [hl]; exact this⟩
  obtain ⟨r, e, P, b', rfl, h⟩ := wp_ex key
  exact ⟨P, b', e, h⟩
end Lk01
end PM
set_option Elab.async false
set_option linter.all false
set_option maxRecDepth 100000
set_option maxHeartbeats 4000000
namespace PM
open PySem
def endD : PyData := .tuple [.str "ended"]
theorem endD_nc {w n : Nat} (hw : 1 ≤ w) : Nc w (n + 1) endD := Nc.tup.mpr ⟨hw, fun x hx => by rw [List.mem_singleton] at hx; subst hx; exact Nc.str sl_ended⟩
theorem cut_take {xs : List PyData} {n : Nat} (h : n ≤ xs.length) : cut xs none (some (n : Int)) = xs.take n := by
  unfold cut
  rw [HT.sIx_none, HT.sIx_nat, Nat.min_eq_left h, List.drop_zero, Nat.sub_zero]
theorem cut_drop {xs : List PyData} {n : Nat} (h : n ≤ xs.length) : cut xs (some (n : Int)) none = xs.drop n := by
  unfold cut
  rw [HT.sIx_none, HT.sIx_nat, Nat.min_eq_left h]
  exact List.take_of_length_le (Nat.le_of_eq List.length_drop)
theorem sl_0 : (PyData.str "0").canLay0 = true := by decide +kernel
theorem sl_e : (PyData.str "").canLay0 = true := by decide +kernel
def spoilL : List PyData := [.int 0, .int 1, .int (-1), .int 5, .bool true, .bool false, .none, .str "0", .str "", .tuple [], .tuple [.int 0, .int 1, .int 0], .tuple [.int 1, .int 0, .int 0], .tuple [.tuple [.int 0, .int 1, .int 0], .int 0], .str "at", .str "not", .str "all", .str "ended", .tuple [.str "ended"]]
theorem spoilL_nc {w n : Nat} (hw : 3 ≤ w) : ∀ d ∈ spoilL, Nc w (n + 2) d := by
  have t3 : ∀ {n : Nat} (a b c : Int), Nc w (n + 1) (.tuple [.int a, .int b, .int c]) := fun a b c => Nc.tup.mpr ⟨hw, by simp only [List.forall_mem_cons]; exact ⟨Nc.int, Nc.int, Nc.int, fun _ h => (List.not_mem_nil h).elim⟩⟩
  unfold spoilL
  simp only [List.forall_mem_cons]
  refine ⟨Nc.int, Nc.int, Nc.int, Nc.int, Nc.bool, Nc.bool, Nc.none, Nc.str sl_0, Nc.str sl_e, Nc.tup.mpr ⟨Nat.zero_le w, fun _ h => (List.not_mem_nil h).elim⟩, t3 _ _ _, t3 _ _ _, Nc.tup.mpr ⟨by simp; omega, ?_⟩, Nc.str sl_at, Nc.str sl_not, Nc.str sl_all, Nc.str sl_ended, endD_nc (by omega), fun _ h => (List.not_mem_nil h).elim⟩
  simp only [List.forall_mem_cons]
  exact ⟨t3 _ _ _, Nc.int, fun _ h => (List.not_mem_nil h).elim⟩
theorem nc_list {w n : Nat} {xs ys : List PyData} (h : Nc w (n + 1) (.tuple xs)) (hl : ys.length ≤ w + 1) (hy : ∀ y ∈ ys, y ∈ xs ∨ Nc (w + 1) (n + 2) y) : Nc (w + 1) (n + 3) (.tuple ys) := by
  have h2 := Nc.tup.mp h
  exact Nc.tup.mpr ⟨hl, fun y hy2 => (hy y hy2).elim (fun e => (h2.2 y e).mono (by omega) (by omega)) id⟩
namespace Lk01
local macro_rules | `(tactic| simp_arith [$xs,*]) => `(tactic| simp -implicitDefEqProofs only [e_cst_v, e_var_p, e_var_v, e_d, e_cmp, e_bin, e_sub, e_isi, e_cmp_t, e_isi_t, e_not_t, e_and_t, e_or_t, e_exB, e_nil, e_ite, e_ret, e_asg, seqR_next, seqR_ret, tmp_ok, e_cst_t, e_glo_t, e_bin_t, e_neg_t, e_chn_t, e_tup_t, e_lst_t, e_sub_t, e_slc_t, e_call_t, e_meth_t, e_new_t, e_blt_t, e_bme_t, e_fld_t, e_lc_t, e_var_t, retV_var, e_glo, e_neg, e_not, e_ite_v, e_ite_t, e_chn, e_dns, e_dns0, e_dVs, e_dVs0, e_dPs, e_dPs0, e_dAs, e_dAs0, e_tup, e_lst, e_call, e_callio, e_blt, e_asgS, p_cst, rv_cst, p_glo, rv_glo, p_bin, rv_bin, p_neg, rv_neg, p_not, rv_not, p_and, rv_and, p_or, rv_or, p_ite, rv_ite, p_cmp, rv_cmp, p_chn, rv_chn, p_tup, rv_tup, p_lst, rv_lst, p_sub, rv_sub, p_slc, rv_slc, p_isi, rv_isi, p_call, rv_call, p_meth, rv_meth, p_new, rv_new, p_blt, rv_blt, p_bme, rv_bme, p_fld, rv_fld, p_lc, rv_lc, vw_tmp, vw_slot, sv_val, sv_own, sv_brw, sv_ownI, sv_brwI, dat_tmp, toD_val, toD_own, c_eq, c_lt, c_le, c_gt, c_ge, t_bool, s_at, s_att, at_0, b_1, b_2, b_int, b_intB, b_lenL, b_lenT, b_tupL, b_lstT, o_int, o_add, o_sub, o_mod, o_div, asg_n, put_b, put_o, put_s, mo_b, mo_o, set4_0, set4_1, set4_2, at4_1, at4_2, at4_3, ret_of, o_mulR, o_mulL, o_pow18, o_mod1, o_mod2, o_div7, n_neg, wp_ok, wp_exc, bind_if, asg_G, asg_v, asg_0, asg_o, asg_i, plain_G, t_tup, t_nil, t_cons, asg_t, boolR_b, e_and, e_or, bndF, bndT, int_of, e_slc, e_rev, e_dct, e_fld, e_bme, e_meth, newB_ok, e_new, e_lc, e_lc2, e_sc, e_dc, itR_ok, it_var, it_cst, it_sub, it_slc, it_rev, it_bin, it_tup, it_lst, it_call, it_meth, it_bme, it_fld, it_lc, it_ite, it_blt, p_rev, rv_rev, p_dct, rv_dct, p_lc2, rv_lc2, p_sc, rv_sc, p_dc, rv_dc, x_pass, x_brk, x_cnt, x_expr, x_raise, x_for, x_whl, addI_ok, augS_ok, x_augN, rng_0, rng_2, wk_enum, wk_zip, ite_l, ite_t, isW_1, isW_2, isW_3, isW_4, isW_5, isW_6, isW_7, turn_eq, wipe_0, wipA_s, wipe_c, back_0, back_c, ownPl_0, ownA_s, ownPl_c, plain_v, plain_n, noExc_ok, cIo_some, callIo_eq, lent_eq, mIo_ok, meth_io, meth_tmp, mRd_ok, meth_rd, cls_of, fld_of, kd_app, kd_pop, kd_ext, kd_ins, kd_idx, kd_add, kd_get, kd_sda, wrA_ok, wrV_eq, bme_app, bme_pop, bme_ext, bme_add, bme_sda, w_app, w_pop, w_ext, w_add, asgFB_ok, asgFA_s, x_asgF, augFC_ok, augFB_ok, augFA_ok, augF0_s, x_augF, trF_ok, trF_exc, x_try, ctx_fn, ctx_glo, ctx_cls, ctx_fuel, endR_ret, endR_next, endR_exc, endR_if, seqR_if, seqR_exc, seqR_brk, seqR_cnt, tmp_exc, itR_exc, tmp_if, asg_nb, nb_v, nb_o, nb_n, dat_ownL, dat_slot, c_eqS, c_neS, at_1, at_2, at_3, isNone_n, isNone_t, isNone_l, isNone_i, isNone_b, isNone_s, c_isNN, c_notN, c_leM, c_leA, dat_d, plc_v, plc_o, plc_b, plc_i, lod_v, lod_i, lod_ol, lod_oi, retA_o, retA_v, retA_i, c_neI, c_ndx, c_eqD, c_neD, c_inL, c_inT, c_niL, c_niT, t_lst, t_tupB, b_set0, b_tupT, b_lstL, b_srtL, b_srtS, sv_set, sv_dic, sv_insF, fz_val, fz_lst, fz_ins, fz_insF, s_cutT, s_cutL, o_addT, o_addL, seqF_next, seqF_ret, seqF_brk, seqF_cnt, t_name, set_l, List.getElem?_cons_zero, List.getElem?_cons_succ, List.map_cons, List.map_nil, List.set_cons_zero, List.set_cons_succ, List.length_cons, List.length_nil, List.cons_append, List.nil_append, List.append_nil, List.replicate_succ, List.replicate_zero, List.map, Res.bind_ok, Res.bind_exc, Res.bind_stuck, Option.bind_some, Option.map_some, Option.bind_none, Option.map_none, Option.isSome_some, Res.of_some, Res.of_none, decide_false, decide_true, Bool.false_eq_true, if_false, if_true, ite_true, ite_false, ne_eq, not_false_eq_true, not_true_eq_false, gt_iff_lt, Bool.not_true, Bool.not_false, Bool.and_true, Bool.and_false, Bool.true_and, Bool.false_and, Bool.or_true, Bool.or_false, Bool.true_or, Bool.false_or, Bool.decide_eq_true, decide_eq_true_eq, ge_iff_le, Nat.reduceAdd, Nat.reduceSub, Nat.reduceMul, Nat.reduceLeDiff, Nat.reduceLT, Nat.reduceEqDiff, Int.cast_ofNat_Int, Int.natCast_zero, Int.natCast_one, Int.reduceEq, Int.reduceLT, Int.reduceLE, Int.reduceAdd, Int.reduceSub, Int.reduceNeg, Int.reduceMul, reduceCtorEq, and_self, eq_self, $xs,*])
local macro_rules | `(tactic| simp_arith) => `(tactic| simp -implicitDefEqProofs only [e_cst_v, e_var_p, e_var_v, e_d, e_cmp, e_bin, e_sub, e_isi, e_cmp_t, e_isi_t, e_not_t, e_and_t, e_or_t, e_exB, e_nil, e_ite, e_ret, e_asg, seqR_next, seqR_ret, tmp_ok, e_cst_t, e_glo_t, e_bin_t, e_neg_t, e_chn_t, e_tup_t, e_lst_t, e_sub_t, e_slc_t, e_call_t, e_meth_t, e_new_t, e_blt_t, e_bme_t, e_fld_t, e_lc_t, e_var_t, retV_var, e_glo, e_neg, e_not, e_ite_v, e_ite_t, e_chn, e_dns, e_dns0, e_dVs, e_dVs0, e_dPs, e_dPs0, e_dAs, e_dAs0, e_tup, e_lst, e_call, e_callio, e_blt, e_asgS, p_cst, rv_cst, p_glo, rv_glo, p_bin, rv_bin, p_neg, rv_neg, p_not, rv_not, p_and, rv_and, p_or, rv_or, p_ite, rv_ite, p_cmp, rv_cmp, p_chn, rv_chn, p_tup, rv_tup, p_lst, rv_lst, p_sub, rv_sub, p_slc, rv_slc, p_isi, rv_isi, p_call, rv_call, p_meth, rv_meth, p_new, rv_new, p_blt, rv_blt, p_bme, rv_bme, p_fld, rv_fld, p_lc, rv_lc, vw_tmp, vw_slot, sv_val, sv_own, sv_brw, sv_ownI, sv_brwI, dat_tmp, toD_val, toD_own, c_eq, c_lt, c_le, c_gt, c_ge, t_bool, s_at, s_att, at_0, b_1, b_2, b_int, b_intB, b_lenL, b_lenT, b_tupL, b_lstT, o_int, o_add, o_sub, o_mod, o_div, asg_n, put_b, put_o, put_s, mo_b, mo_o, set4_0, set4_1, set4_2, at4_1, at4_2, at4_3, ret_of, o_mulR, o_mulL, o_pow18, o_mod1, o_mod2, o_div7, n_neg, wp_ok, wp_exc, bind_if, asg_G, asg_v, asg_0, asg_o, asg_i, plain_G, t_tup, t_nil, t_cons, asg_t, boolR_b, e_and, e_or, bndF, bndT, int_of, e_slc, e_rev, e_dct, e_fld, e_bme, e_meth, newB_ok, e_new, e_lc, e_lc2, e_sc, e_dc, itR_ok, it_var, it_cst, it_sub, it_slc, it_rev, it_bin, it_tup, it_lst, it_call, it_meth, it_bme, it_fld, it_lc, it_ite, it_blt, p_rev, rv_rev, p_dct, rv_dct, p_lc2, rv_lc2, p_sc, rv_sc, p_dc, rv_dc, x_pass, x_brk, x_cnt, x_expr, x_raise, x_for, x_whl, addI_ok, augS_ok, x_augN, rng_0, rng_2, wk_enum, wk_zip, ite_l, ite_t, isW_1, isW_2, isW_3, isW_4, isW_5, isW_6, isW_7, turn_eq, wipe_0, wipA_s, wipe_c, back_0, back_c, ownPl_0, ownA_s, ownPl_c, plain_v, plain_n, noExc_ok, cIo_some, callIo_eq, lent_eq, mIo_ok, meth_io, meth_tmp, mRd_ok, meth_rd, cls_of, fld_of, kd_app, kd_pop, kd_ext, kd_ins, kd_idx, kd_add, kd_get, kd_sda, wrA_ok, wrV_eq, bme_app, bme_pop, bme_ext, bme_add, bme_sda, w_app, w_pop, w_ext, w_add, asgFB_ok, asgFA_s, x_asgF, augFC_ok, augFB_ok, augFA_ok, augF0_s, x_augF, trF_ok, trF_exc, x_try, ctx_fn, ctx_glo, ctx_cls, ctx_fuel, endR_ret, endR_next, endR_exc, endR_if, seqR_if, seqR_exc, seqR_brk, seqR_cnt, tmp_exc, itR_exc, tmp_if, asg_nb, nb_v, nb_o, nb_n, dat_ownL, dat_slot, c_eqS, c_neS, at_1, at_2, at_3, isNone_n, isNone_t, isNone_l, isNone_i, isNone_b, isNone_s, c_isNN, c_notN, c_leM, c_leA, dat_d, plc_v, plc_o, plc_b, plc_i, lod_v, lod_i, lod_ol, lod_oi, retA_o, retA_v, retA_i, c_neI, c_ndx, c_eqD, c_neD, c_inL, c_inT, c_niL, c_niT, t_lst, t_tupB, b_set0, b_tupT, b_lstL, b_srtL, b_srtS, sv_set, sv_dic, sv_insF, fz_val, fz_lst, fz_ins, fz_insF, s_cutT, s_cutL, o_addT, o_addL, seqF_next, seqF_ret, seqF_brk, seqF_cnt, t_name, set_l, List.getElem?_cons_zero, List.getElem?_cons_succ, List.map_cons, List.map_nil, List.set_cons_zero, List.set_cons_succ, List.length_cons, List.length_nil, List.cons_append, List.nil_append, List.append_nil, List.replicate_succ, List.replicate_zero, List.map, Res.bind_ok, Res.bind_exc, Res.bind_stuck, Option.bind_some, Option.map_some, Option.bind_none, Option.map_none, Option.isSome_some, Res.of_some, Res.of_none, decide_false, decide_true, Bool.false_eq_true, if_false, if_true, ite_true, ite_false, ne_eq, not_false_eq_true, not_true_eq_false, gt_iff_lt, Bool.not_true, Bool.not_false, Bool.and_true, Bool.and_false, Bool.true_and, Bool.false_and, Bool.or_true, Bool.or_false, Bool.true_or, Bool.false_or, Bool.decide_eq_true, decide_eq_true_eq, ge_iff_le, Nat.reduceAdd, Nat.reduceSub, Nat.reduceMul, Nat.reduceLeDiff, Nat.reduceLT, Nat.reduceEqDiff, Int.cast_ofNat_Int, Int.natCast_zero, Int.natCast_one, Int.reduceEq, Int.reduceLT, Int.reduceLE, Int.reduceAdd, Int.reduceSub, Int.reduceNeg, Int.reduceMul, reduceCtorEq, and_self, eq_self])
theorem spoil_base {w : Nat} (hw : 3 ≤ w) (kk : Nat) (b : Bx) : ∃ (d : PyData) (b' : Bx), den prog (kk + 2) ("_law_pick", none) [.brw b.mo, .val (.list spoilL)] = .ok (.val d, some b'.mo) ∧ Nc (w + 1) 2 d := by
  obtain ⟨d, b', e, h⟩ := pick_ok kk b spoilL (by simp [spoilL]) (by simp [spoilL])
  exact ⟨d, b', e, spoilL_nc (n := 0) (by omega) d h⟩
theorem spoil_nont {w : Nat} (hw : 3 ≤ w) (kk : Nat) (b : Bx) (x : PyData) (hx : isiD x .tuple = false) : ∃ (d : PyData) (b' : Bx), den prog (kk + 3) ("_law_spoilt", none) [.brw b.mo, .val x] = .ok (.val d, some b'.mo) ∧ Nc (w + 1) 2 d := by
  rw [den_of Dn__law_spoilt ⟨rfl, rfl⟩]
  unfold D__law_spoilt
  obtain ⟨d, b', e, h⟩ := spoil_base hw kk b
  unfold spoilL at e
  have other : isiD x .int = false ∨ isiD x .bool = true → endR true (exB (ctx prog (kk + 2)) B__law_spoilt ([.brw b.mo, .val x] ++ List.replicate (4 - 2) .no)) = .ok (.val d, some b'.mo) := fun hq => by
    unfold B__law_spoilt
    rcases hq with hq | hq
    · simp_arith [hx, hq, e]
    · cases hi : isiD x .int <;> simp_arith [hx, hq, hi, e]
  cases x with
  | int i =>
    unfold B__law_spoilt
    obtain ⟨z, b1, e1, h1⟩ := take_nat (kk + 1) b 3 (by omega) (by omega)
    by_cases hz : (0 : Int) < z
    · obtain ⟨d2, b2, e2, h2⟩ := pick_ok kk b1 [.int 1, .int (-1), .int 2, .int 9] (by simp) (by simp)
      obtain ⟨j, rfl⟩ : ∃ j, d2 = .int j := by
        simp only [List.mem_cons, List.not_mem_nil, or_false] at h2
        rcases h2 with rfl | rfl | rfl | rfl <;> exact ⟨_, rfl⟩
      refine ⟨.int (i + j), b2, ?_, Nc.int⟩
      simp_arith [isiD, e1, hz, e2]
    · obtain ⟨d, b', e, h⟩ := spoil_base hw kk b1
      unfold spoilL at e
      refine ⟨d, b', ?_, h⟩
      simp_arith [isiD, e1, hz, e]
  | bool q => exact ⟨d, b', other (.inr rfl), h⟩
  | tuple xs => cases hx
  | _ => exact ⟨d, b', other (.inl rfl), h⟩
theorem spoilt_ok {w : Nat} (hw : 3 ≤ w) (hw2 : w ≤ 900) : ∀ (n k : Nat) (x : PyData) (b : Bx), n ≤ 60 → Nc w n x → ∃ (d : PyData) (b' : Bx), den prog (k + n + 3) ("_law_spoilt", none) [.brw b.mo, .val x] = .ok (.val d, some b'.mo) ∧ Nc (w + 1) (n + 2) d := by
  intro n
  induction n with
  | zero => ?_
  | succ n ih => ?_
  all_goals intro k x b hn hx
  · cases hi : isiD x .tuple with
    | false => exact spoil_nont hw k b x hi
    | true =>
      cases x with
      | tuple xs =>
        have := hx.1.2
        simp only [PyData.depth] at this
        omega
      | _ => cases hi
  · cases hi : isiD x .tuple with
    | false =>
      obtain ⟨d, b', e, h⟩ := spoil_nont hw (k + n + 1) b x hi
      exact ⟨d, b', e, h.mono (Nat.le_refl _) (by omega)⟩
    | true =>
      cases x with
      | tuple xs =>
        have hsh := hx.shp (by omega)
        rw [show k + (n + 1) + 3 = (k + n + 3) + 1 from by omega]
        cases hxs : xs with
        | nil =>
          subst hxs
          obtain ⟨d, b', e, h⟩ := spoil_base hw (k + n + 1) b
          unfold spoilL at e
          refine ⟨d, b', ?_, h.mono (Nat.le_refl _) (by omega)⟩
          rw [den_of Dn__law_spoilt ⟨rfl, rfl⟩]
          unfold D__law_spoilt B__law_spoilt
          simp_arith [isiD, c_eqD shp_tnil shp_tnil, eqv_tnil, List.isEmpty_nil, e]
        | cons x0 xr =>
          rw [← hxs]
          have hne : xs.isEmpty = false := by rw [hxs]; rfl
          have hpos : 0 < xs.length := by rw [hxs]; simp
          have hlen := hx.len
          obtain ⟨z, b1, e1, h1⟩ := take_nat (k + n + 2) b 9 (by omega) (by omega)
          by_cases hz : (z : Int) = 0
          · obtain ⟨d, b', e, h⟩ := spoil_base hw (k + n + 1) b1
            unfold spoilL at e
            refine ⟨d, b', ?_, h.mono (Nat.le_refl _) (by omega)⟩
            rw [den_of Dn__law_spoilt ⟨rfl, rfl⟩]
            unfold D__law_spoilt B__law_spoilt
            simp_arith [isiD, c_eqD hsh shp_tnil, eqv_tnil, hne, e1, eq_true hz, e]
          · obtain ⟨j, b2, e2, h2⟩ := take_nat (k + n + 2) b1 xs.length (by omega) (by omega)
            obtain ⟨q, b3, e3, h3⟩ := take_nat (k + n + 2) b2 6 (by omega) (by omega)
            have hj : j < xs.length := by omega
            have ct := cut_take (xs := xs) (n := j) (by omega)
            have cd := cut_drop (xs := xs) (n := j + 1) (by omega)
            rw [show ((j + 1 : Nat) : Int) = (j : Int) + 1 from by omega] at cd
            have cd0 := cut_drop (xs := xs) (n := j) (by omega)
            have aj : L2.atI xs (j : Int) = some xs[j] := by rw [at_nat]; exact List.getElem?_eq_getElem hj
            have hmj : xs[j] ∈ xs := List.getElem_mem hj
            by_cases q0 : (q : Int) = 0
            · refine ⟨.tuple (xs.take j ++ xs.drop (j + 1)), b3, ?_, nc_list hx (by rw [List.length_append, List.length_take, List.length_drop]; omega) fun y hy => .inl ((List.mem_append.mp hy).elim List.mem_of_mem_take List.mem_of_mem_drop)⟩
              rw [den_of Dn__law_spoilt ⟨rfl, rfl⟩]
              unfold D__law_spoilt B__law_spoilt
              have oa := o_addT (xs := xs.take j) (ys := xs.drop (j + 1)) (fits_of (by rw [List.length_take, List.length_drop]; omega))
              simp_arith [isiD, c_eqD hsh shp_tnil, eqv_tnil, hne, e1, hz, e2, e3, eq_true q0, ct, cd, oa]
            · by_cases q1 : (q : Int) = 1
              · refine ⟨.tuple (xs.take j ++ [xs[j]] ++ xs.drop j), b3, ?_, nc_list hx (by rw [List.length_append, List.length_append, List.length_take, List.length_drop]; simp; omega) fun y hy => .inl ?_⟩
                · rw [den_of Dn__law_spoilt ⟨rfl, rfl⟩]
                  unfold D__law_spoilt B__law_spoilt
                  have oa := o_addT (xs := xs.take j) (ys := [xs[j]]) (fits_of (by rw [List.length_take]; simp; omega))
                  have ob := o_addT (xs := xs.take j ++ [xs[j]]) (ys := xs.drop j) (fits_of (by rw [List.length_append, List.length_take, List.length_drop]; simp; omega))
                  simp_arith [isiD, c_eqD hsh shp_tnil, eqv_tnil, hne, e1, hz, e2, e3, q0, eq_true q1, ct, cd0, aj, oa, ob]
                · simp only [List.mem_append, List.mem_singleton] at hy
                  rcases hy with (hy | rfl) | hy
                  · exact List.mem_of_mem_take hy
                  · exact hmj
                  · exact List.mem_of_mem_drop hy
              · by_cases q2 : (q : Int) = 2 ∧ (0 : Int) < j
                · have hj0 : 0 < j := by omega
                  have ct1 := cut_take (xs := xs) (n := j - 1) (by omega)
                  rw [show ((j - 1 : Nat) : Int) = (j : Int) - 1 from by omega] at ct1
                  have aj1 : L2.atI xs ((j : Int) - 1) = some xs[j - 1] := by
                    rw [show (j : Int) - 1 = ((j - 1 : Nat) : Int) from by omega, at_nat]; exact List.getElem?_eq_getElem (by omega)
                  refine ⟨.tuple (xs.take (j - 1) ++ [xs[j], xs[j - 1]] ++ xs.drop (j + 1)), b3, ?_, nc_list hx (by rw [List.length_append, List.length_append, List.length_take, List.length_drop]; simp; omega) fun y hy => .inl ?_⟩
                  · rw [den_of Dn__law_spoilt ⟨rfl, rfl⟩]
                    unfold D__law_spoilt B__law_spoilt
                    have oa := o_addT (xs := xs.take (j - 1)) (ys := [xs[j], xs[j - 1]]) (fits_of (by rw [List.length_take]; simp; omega))
                    have ob := o_addT (xs := xs.take (j - 1) ++ [xs[j], xs[j - 1]]) (ys := xs.drop (j + 1)) (fits_of (by rw [List.length_append, List.length_take, List.length_drop]; simp; omega))
                    simp_arith [isiD, c_eqD hsh shp_tnil, eqv_tnil, hne, e1, hz, e2, e3, q0, q1, eq_true q2.1, q2.2, ct1, cd, aj, aj1, oa, ob]
                  · simp only [List.mem_append, List.mem_cons, List.not_mem_nil, or_false] at hy
                    rcases hy with (hy | rfl | rfl) | hy
                    · exact List.mem_of_mem_take hy
                    · exact hmj
                    · exact List.getElem_mem _
                    · exact List.mem_of_mem_drop hy
                · obtain ⟨d, b4, e4, h4⟩ := ih k xs[j] b3 (by omega) ((Nc.tup.mp hx).2 _ hmj)
                  refine ⟨.tuple (xs.take j ++ [d] ++ xs.drop (j + 1)), b4, ?_, nc_list hx (by rw [List.length_append, List.length_append, List.length_take, List.length_drop]; simp; omega) fun y hy => ?_⟩
                  · rw [den_of Dn__law_spoilt ⟨rfl, rfl⟩]
                    unfold D__law_spoilt B__law_spoilt
                    have oa := o_addT (xs := xs.take j) (ys := [d]) (fits_of (by rw [List.length_take]; simp; omega))
                    have ob := o_addT (xs := xs.take j ++ [d]) (ys := xs.drop (j + 1)) (fits_of (by rw [List.length_append, List.length_take, List.length_drop]; simp; omega))
                    by_cases q3 : (q : Int) = 2
                    · have q4 : ¬ (0 : Int) < j := fun h => q2 ⟨q3, h⟩
                      simp_arith [isiD, c_eqD hsh shp_tnil, eqv_tnil, hne, e1, hz, e2, e3, q0, q1, eq_true q3, q4, ct, cd, aj, e4, oa, ob]
                    · simp_arith [isiD, c_eqD hsh shp_tnil, eqv_tnil, hne, e1, hz, e2, e3, q0, q1, q3, ct, cd, aj, e4, oa, ob]
                  · simp only [List.mem_append, List.mem_singleton] at hy
                    rcases hy with (hy | rfl) | hy
                    · exact .inl (List.mem_of_mem_take hy)
                    · exact .inr h4
                    · exact .inl (List.mem_of_mem_drop hy)
      | _ => cases hi
end Lk01
end PM
set_option Elab.async false
set_option linter.all false
set_option maxRecDepth 100000
set_option maxHeartbeats 4000000
namespace PM
open PySem
theorem rise_gen {α : Type} {r : α → α → Bool} {d : α} : ∀ (xs : List α), ((List.range (xs.length - 1)).flatMap fun n => if r (xs.getD (n + 1) d) (xs.getD n d) = true then [PyData.int (1 + (n : Int))] else []).isEmpty = (xs.zip xs.tail).all fun p => !(r p.2 p.1)
  | [] => rfl
  | [x] => rfl
  | x :: y :: l => by
    have ih := rise_gen (r := r) (d := d) (y :: l)
    rw [show (x :: y :: l).length - 1 = ((y :: l).length - 1) + 1 from rfl, List.range_succ_eq_map, List.flatMap_cons, isE_app]
    show _ = (!(r y x) && _)
    congr 1
    · cases h : r y x with
      | true => rw [if_pos (show r ((x :: y :: l).getD (0 + 1) d) ((x :: y :: l).getD 0 d) = true from h)]; rfl
      | false => rw [if_neg (show ¬ r ((x :: y :: l).getD (0 + 1) d) ((x :: y :: l).getD 0 d) = true from by rw [show r ((x :: y :: l).getD (0 + 1) d) ((x :: y :: l).getD 0 d) = false from h]; exact Bool.false_ne_true)]; rfl
    · refine Eq.trans ?_ ih
      rw [Bool.eq_iff_iff, List.isEmpty_iff, List.isEmpty_iff, List.flatMap_eq_nil_iff, List.flatMap_eq_nil_iff]
      constructor
      · intro h n hn
        have := h (n + 1) (List.mem_map.mpr ⟨n, hn, rfl⟩)
        split at this
        · cases this
        · next h2 => exact if_neg h2
      · intro h n hn
        obtain ⟨m, hm, rfl⟩ := List.mem_map.mp hn
        have := h m hm
        split at this
        · cases this
        · next h2 => exact if_neg h2
theorem move_some {x : PyData} {n many : Int} (h : isMove x n many = true) : isNone x = false := by
  obtain ⟨a, b, c, t, rfl, -, -, -⟩ := move_data h
  rfl
theorem moves_rise {n many : Int} : ∀ {xs : List PyData} {b : PyData}, (∀ x ∈ xs, isMove x n many = true) → areMovesL n many b xs = ((match xs with | [] => true | x :: _ => befOk b x) && (xs.zip xs.tail).all fun p => !(ordB .le p.2 p.1))
  | [], b, _ => rfl
  | [x], b, h => by
    rw [areMovesL, h x List.mem_cons_self]
    simp [areMovesL]
  | x :: y :: r, b, h => by
    have hx := h x List.mem_cons_self
    have ih := moves_rise (xs := y :: r) (b := x) fun z hz => h z (List.mem_cons_of_mem _ hz)
    rw [areMovesL, hx, ih]
    show (true && (befOk b x && ((isNone x || !(ordB .le y x)) && _))) = (befOk b x && (!(ordB .le y x) && _))
    rw [move_some hx, Bool.true_and, Bool.false_or]
    rfl
theorem moves_bad {n many : Int} : ∀ {xs : List PyData} {b : PyData}, (xs.all fun x => isMove x n many) = false → areMovesL n many b xs = false
  | x :: r, b, h => by
    rw [List.all_cons, Bool.and_eq_false_iff] at h
    rw [areMovesL]
    rcases h with h | h
    · rw [h]; rfl
    · rw [moves_bad h]; simp
theorem c_leMv {x y : PyData} {n many : Int} (hx : isMove x n many = true) (hy : isMove y n many = true) : cmpV .le (some (.dat x)) (some (.dat y)) = some (ordB .le x y) := by
  obtain ⟨a, b, c, t, rfl, -, -, -⟩ := move_data hx
  obtain ⟨a2, b2, c2, t2, rfl, -, -, -⟩ := move_data hy
  exact c_leM
namespace Lk01
local macro_rules | `(tactic| simp_arith [$xs,*]) => `(tactic| simp -implicitDefEqProofs only [e_cst_v, e_var_p, e_var_v, e_d, e_cmp, e_bin, e_sub, e_isi, e_cmp_t, e_isi_t, e_not_t, e_and_t, e_or_t, e_exB, e_nil, e_ite, e_ret, e_asg, seqR_next, seqR_ret, tmp_ok, e_cst_t, e_glo_t, e_bin_t, e_neg_t, e_chn_t, e_tup_t, e_lst_t, e_sub_t, e_slc_t, e_call_t, e_meth_t, e_new_t, e_blt_t, e_bme_t, e_fld_t, e_lc_t, e_var_t, retV_var, e_glo, e_neg, e_not, e_ite_v, e_ite_t, e_chn, e_dns, e_dns0, e_dVs, e_dVs0, e_dPs, e_dPs0, e_dAs, e_dAs0, e_tup, e_lst, e_call, e_callio, e_blt, e_asgS, p_cst, rv_cst, p_glo, rv_glo, p_bin, rv_bin, p_neg, rv_neg, p_not, rv_not, p_and, rv_and, p_or, rv_or, p_ite, rv_ite, p_cmp, rv_cmp, p_chn, rv_chn, p_tup, rv_tup, p_lst, rv_lst, p_sub, rv_sub, p_slc, rv_slc, p_isi, rv_isi, p_call, rv_call, p_meth, rv_meth, p_new, rv_new, p_blt, rv_blt, p_bme, rv_bme, p_fld, rv_fld, p_lc, rv_lc, vw_tmp, vw_slot, sv_val, sv_own, sv_brw, sv_ownI, sv_brwI, dat_tmp, toD_val, toD_own, c_eq, c_lt, c_le, c_gt, c_ge, t_bool, s_at, s_att, at_0, b_1, b_2, b_int, b_intB, b_lenL, b_lenT, b_tupL, b_lstT, o_int, o_add, o_sub, o_mod, o_div, asg_n, put_b, put_o, put_s, mo_b, mo_o, set4_0, set4_1, set4_2, at4_1, at4_2, at4_3, ret_of, o_mulR, o_mulL, o_pow18, o_mod1, o_mod2, o_div7, n_neg, wp_ok, wp_exc, bind_if, asg_G, asg_v, asg_0, asg_o, asg_i, plain_G, t_tup, t_nil, t_cons, asg_t, boolR_b, e_and, e_or, bndF, bndT, int_of, e_slc, e_rev, e_dct, e_fld, e_bme, e_meth, newB_ok, e_new, e_lc, e_lc2, e_sc, e_dc, itR_ok, it_var, it_cst, it_sub, it_slc, it_rev, it_bin, it_tup, it_lst, it_call, it_meth, it_bme, it_fld, it_lc, it_ite, it_blt, p_rev, rv_rev, p_dct, rv_dct, p_lc2, rv_lc2, p_sc, rv_sc, p_dc, rv_dc, x_pass, x_brk, x_cnt, x_expr, x_raise, x_for, x_whl, addI_ok, augS_ok, x_augN, rng_0, rng_2, wk_enum, wk_zip, ite_l, ite_t, isW_1, isW_2, isW_3, isW_4, isW_5, isW_6, isW_7, turn_eq, wipe_0, wipA_s, wipe_c, back_0, back_c, ownPl_0, ownA_s, ownPl_c, plain_v, plain_n, noExc_ok, cIo_some, callIo_eq, lent_eq, mIo_ok, meth_io, meth_tmp, mRd_ok, meth_rd, cls_of, fld_of, kd_app, kd_pop, kd_ext, kd_ins, kd_idx, kd_add, kd_get, kd_sda, wrA_ok, wrV_eq, bme_app, bme_pop, bme_ext, bme_add, bme_sda, w_app, w_pop, w_ext, w_add, asgFB_ok, asgFA_s, x_asgF, augFC_ok, augFB_ok, augFA_ok, augF0_s, x_augF, trF_ok, trF_exc, x_try, ctx_fn, ctx_glo, ctx_cls, ctx_fuel, endR_ret, endR_next, endR_exc, endR_if, seqR_if, seqR_exc, seqR_brk, seqR_cnt, tmp_exc, itR_exc, tmp_if, asg_nb, nb_v, nb_o, nb_n, dat_ownL, dat_slot, c_eqS, c_neS, at_1, at_2, at_3, isNone_n, isNone_t, isNone_l, isNone_i, isNone_b, isNone_s, c_isNN, c_notN, c_leM, c_leA, dat_d, plc_v, plc_o, plc_b, plc_i, lod_v, lod_i, lod_ol, lod_oi, retA_o, retA_v, retA_i, c_neI, c_ndx, c_eqD, c_neD, c_inL, c_inT, c_niL, c_niT, t_lst, t_tupB, b_set0, b_tupT, b_lstL, b_srtL, b_srtS, sv_set, sv_dic, sv_insF, fz_val, fz_lst, fz_ins, fz_insF, s_cutT, s_cutL, o_addT, o_addL, seqF_next, seqF_ret, seqF_brk, seqF_cnt, t_name, set_l, List.getElem?_cons_zero, List.getElem?_cons_succ, List.map_cons, List.map_nil, List.set_cons_zero, List.set_cons_succ, List.length_cons, List.length_nil, List.cons_append, List.nil_append, List.append_nil, List.replicate_succ, List.replicate_zero, List.map, Res.bind_ok, Res.bind_exc, Res.bind_stuck, Option.bind_some, Option.map_some, Option.bind_none, Option.map_none, Option.isSome_some, Res.of_some, Res.of_none, decide_false, decide_true, Bool.false_eq_true, if_false, if_true, ite_true, ite_false, ne_eq, not_false_eq_true, not_true_eq_false, gt_iff_lt, Bool.not_true, Bool.not_false, Bool.and_true, Bool.and_false, Bool.true_and, Bool.false_and, Bool.or_true, Bool.or_false, Bool.true_or, Bool.false_or, Bool.decide_eq_true, decide_eq_true_eq, ge_iff_le, Nat.reduceAdd, Nat.reduceSub, Nat.reduceMul, Nat.reduceLeDiff, Nat.reduceLT, Nat.reduceEqDiff, Int.cast_ofNat_Int, Int.natCast_zero, Int.natCast_one, Int.reduceEq, Int.reduceLT, Int.reduceLE, Int.reduceAdd, Int.reduceSub, Int.reduceNeg, Int.reduceMul, reduceCtorEq, and_self, eq_self, $xs,*])
local macro_rules | `(tactic| simp_arith) => `(tactic| simp -implicitDefEqProofs only [e_cst_v, e_var_p, e_var_v, e_d, e_cmp, e_bin, e_sub, e_isi, e_cmp_t, e_isi_t, e_not_t, e_and_t, e_or_t, e_exB, e_nil, e_ite, e_ret, e_asg, seqR_next, seqR_ret, tmp_ok, e_cst_t, e_glo_t, e_bin_t, e_neg_t, e_chn_t, e_tup_t, e_lst_t, e_sub_t, e_slc_t, e_call_t, e_meth_t, e_new_t, e_blt_t, e_bme_t, e_fld_t, e_lc_t, e_var_t, retV_var, e_glo, e_neg, e_not, e_ite_v, e_ite_t, e_chn, e_dns, e_dns0, e_dVs, e_dVs0, e_dPs, e_dPs0, e_dAs, e_dAs0, e_tup, e_lst, e_call, e_callio, e_blt, e_asgS, p_cst, rv_cst, p_glo, rv_glo, p_bin, rv_bin, p_neg, rv_neg, p_not, rv_not, p_and, rv_and, p_or, rv_or, p_ite, rv_ite, p_cmp, rv_cmp, p_chn, rv_chn, p_tup, rv_tup, p_lst, rv_lst, p_sub, rv_sub, p_slc, rv_slc, p_isi, rv_isi, p_call, rv_call, p_meth, rv_meth, p_new, rv_new, p_blt, rv_blt, p_bme, rv_bme, p_fld, rv_fld, p_lc, rv_lc, vw_tmp, vw_slot, sv_val, sv_own, sv_brw, sv_ownI, sv_brwI, dat_tmp, toD_val, toD_own, c_eq, c_lt, c_le, c_gt, c_ge, t_bool, s_at, s_att, at_0, b_1, b_2, b_int, b_intB, b_lenL, b_lenT, b_tupL, b_lstT, o_int, o_add, o_sub, o_mod, o_div, asg_n, put_b, put_o, put_s, mo_b, mo_o, set4_0, set4_1, set4_2, at4_1, at4_2, at4_3, ret_of, o_mulR, o_mulL, o_pow18, o_mod1, o_mod2, o_div7, n_neg, wp_ok, wp_exc, bind_if, asg_G, asg_v, asg_0, asg_o, asg_i, plain_G, t_tup, t_nil, t_cons, asg_t, boolR_b, e_and, e_or, bndF, bndT, int_of, e_slc, e_rev, e_dct, e_fld, e_bme, e_meth, newB_ok, e_new, e_lc, e_lc2, e_sc, e_dc, itR_ok, it_var, it_cst, it_sub, it_slc, it_rev, it_bin, it_tup, it_lst, it_call, it_meth, it_bme, it_fld, it_lc, it_ite, it_blt, p_rev, rv_rev, p_dct, rv_dct, p_lc2, rv_lc2, p_sc, rv_sc, p_dc, rv_dc, x_pass, x_brk, x_cnt, x_expr, x_raise, x_for, x_whl, addI_ok, augS_ok, x_augN, rng_0, rng_2, wk_enum, wk_zip, ite_l, ite_t, isW_1, isW_2, isW_3, isW_4, isW_5, isW_6, isW_7, turn_eq, wipe_0, wipA_s, wipe_c, back_0, back_c, ownPl_0, ownA_s, ownPl_c, plain_v, plain_n, noExc_ok, cIo_some, callIo_eq, lent_eq, mIo_ok, meth_io, meth_tmp, mRd_ok, meth_rd, cls_of, fld_of, kd_app, kd_pop, kd_ext, kd_ins, kd_idx, kd_add, kd_get, kd_sda, wrA_ok, wrV_eq, bme_app, bme_pop, bme_ext, bme_add, bme_sda, w_app, w_pop, w_ext, w_add, asgFB_ok, asgFA_s, x_asgF, augFC_ok, augFB_ok, augFA_ok, augF0_s, x_augF, trF_ok, trF_exc, x_try, ctx_fn, ctx_glo, ctx_cls, ctx_fuel, endR_ret, endR_next, endR_exc, endR_if, seqR_if, seqR_exc, seqR_brk, seqR_cnt, tmp_exc, itR_exc, tmp_if, asg_nb, nb_v, nb_o, nb_n, dat_ownL, dat_slot, c_eqS, c_neS, at_1, at_2, at_3, isNone_n, isNone_t, isNone_l, isNone_i, isNone_b, isNone_s, c_isNN, c_notN, c_leM, c_leA, dat_d, plc_v, plc_o, plc_b, plc_i, lod_v, lod_i, lod_ol, lod_oi, retA_o, retA_v, retA_i, c_neI, c_ndx, c_eqD, c_neD, c_inL, c_inT, c_niL, c_niT, t_lst, t_tupB, b_set0, b_tupT, b_lstL, b_srtL, b_srtS, sv_set, sv_dic, sv_insF, fz_val, fz_lst, fz_ins, fz_insF, s_cutT, s_cutL, o_addT, o_addL, seqF_next, seqF_ret, seqF_brk, seqF_cnt, t_name, set_l, List.getElem?_cons_zero, List.getElem?_cons_succ, List.map_cons, List.map_nil, List.set_cons_zero, List.set_cons_succ, List.length_cons, List.length_nil, List.cons_append, List.nil_append, List.append_nil, List.replicate_succ, List.replicate_zero, List.map, Res.bind_ok, Res.bind_exc, Res.bind_stuck, Option.bind_some, Option.map_some, Option.bind_none, Option.map_none, Option.isSome_some, Res.of_some, Res.of_none, decide_false, decide_true, Bool.false_eq_true, if_false, if_true, ite_true, ite_false, ne_eq, not_false_eq_true, not_true_eq_false, gt_iff_lt, Bool.not_true, Bool.not_false, Bool.and_true, Bool.and_false, Bool.true_and, Bool.false_and, Bool.or_true, Bool.or_false, Bool.true_or, Bool.false_or, Bool.decide_eq_true, decide_eq_true_eq, ge_iff_le, Nat.reduceAdd, Nat.reduceSub, Nat.reduceMul, Nat.reduceLeDiff, Nat.reduceLT, Nat.reduceEqDiff, Int.cast_ofNat_Int, Int.natCast_zero, Int.natCast_one, Int.reduceEq, Int.reduceLT, Int.reduceLE, Int.reduceAdd, Int.reduceSub, Int.reduceNeg, Int.reduceMul, reduceCtorEq, and_self, eq_self])
theorem lmoves_ok (k : Nat) (x : PyData) (n many : Int) (hx : Nice 64 x) : den prog (k + 3) ("_law_are_moves", none) [.val x, .val (.int n), .val (.int many)] = .ok (.val (.bool (areMoves x n many)), none) := by
  rw [den_of Dn__law_are_moves ⟨rfl, rfl⟩]
  unfold D__law_are_moves B__law_are_moves
  cases x with
  | tuple xs =>
    have hlen := hx.len
    simp_arith [isiD, areMoves]
    apply wp_eq
    refine wp_endseq (forL_wp0 (I := fun rest ρ => ∃ o, ρ = [.val (.tuple xs), .val (.int n), .val (.int many), G o, .no] ∧ (rest.all fun x => isMove x n many) = xs.all fun x => isMove x n many) _ _ ⟨none, rfl, rfl⟩ ?_ ?_)
    · rintro mv r ρ ⟨o, rfl, e⟩
      rw [List.all_cons] at e
      cases hm : isMove mv n many with
      | true =>
        rw [hm, Bool.true_and] at e
        have hm1 := hm
        obtain ⟨p, q, m, t, rfl, h1, h2, h3⟩ := move_data hm
        unfold isMove at hm1
        rw [Bool.and_eq_true] at hm1
        simp_arith [isiD, lact_ok, number_ok, hm1.1, hm1.2]
        exact ⟨_, by rw [← G_val], e⟩
      | false =>
        have e2 : areMovesL n many .none xs = false := moves_bad (by rw [← e, hm]; rfl)
        rw [e2]
        cases mv with
        | tuple ys =>
          rcases ys with _ | ⟨a, _ | ⟨b', _ | ⟨c, d⟩⟩⟩
          · simp_arith [isiD]
          · simp_arith [isiD]
          · have hm' : (isAct a n && isWithin b' 0 (many - 1)) = false := hm
            cases h1 : isAct a n with
            | false => simp_arith [isiD, lact_ok, h1]
            | true =>
              rw [h1, Bool.true_and] at hm'
              simp_arith [isiD, lact_ok, number_ok, h1, hm']
          · have h : ¬ (((d.length + 1 + 1 + 1 : Nat) : Int) = 2) := by omega
            simp_arith [isiD, h]
        | _ => simp_arith [isiD]
    · rintro ρ ⟨o, rfl, e⟩
      have hall : ∀ x ∈ xs, isMove x n many = true := List.all_eq_true.mp e.symm
      have hget : ∀ m, m < xs.length → isMove (xs.getD m .none) n many = true := fun m hm => by
        rw [List.getD_eq_getElem?_getD, List.getElem?_eq_getElem hm]
        exact hall _ (List.getElem_mem hm)
      simp_arith [rngOk_nat (n := 1) (by omega) (by omega), rngOk_nat (n := (xs.length : Int)) (by omega) (by omega), plain_G]
      rw [rng, show ((xs.length : Int) - 1).toNat = xs.length - 1 from by omega]
      rw [lc_nameM (g := fun n => if ordB .le (xs.getD (n + 1) .none) (xs.getD n .none) = true then [PyData.int (1 + (n : Int))] else [])]
      rotate_left
      · exact ⟨_, rfl, rfl⟩
      · intro m hm
        rw [List.mem_range] at hm
        have a1 : L2.atI xs (1 + (m : Int)) = some (xs.getD (m + 1) .none) := by
          rw [show (1 + (m : Int)) = ((m + 1 : Nat) : Int) from by omega, at_nat, List.getD_eq_getElem?_getD, List.getElem?_eq_getElem (by omega)]
          rfl
        have a2 : L2.atI xs (1 + (m : Int) - 1) = some (xs.getD m .none) := by
          rw [show (1 + (m : Int) - 1) = (m : Int) from by omega, at_nat, List.getD_eq_getElem?_getD, List.getElem?_eq_getElem (by omega)]
          rfl
        have hc := c_leMv (hget (m + 1) (by omega)) (hget m (by omega))
        cases hle : ordB .le (xs.getD (m + 1) .none) (xs.getD m .none) <;> simp_arith [a1, a2, hc, hle]
      have hfm : ((List.range (xs.length - 1)).flatMap fun n => if ordB .le (xs.getD (n + 1) .none) (xs.getD n .none) = true then [PyData.int (1 + (n : Int))] else []).length ≤ 16777216 := by
        refine Nat.le_trans (fm_len fun x _ => ?_) (by rw [List.length_range]; omega)
        split <;> simp
      have hsh : SeqAt.shaped (.list ((List.range (xs.length - 1)).flatMap fun n => if ordB .le (xs.getD (n + 1) .none) (xs.getD n .none) = true then [PyData.int (1 + (n : Int))] else [])) = true := shp_fm fun x _ d hd => by
        split at hd
        · rw [List.mem_singleton] at hd; subst hd; exact Fine.int
        · exact (List.not_mem_nil hd).elim
      have hb : areMovesL n many .none xs = (xs.zip xs.tail).all fun p => !(ordB .le p.2 p.1) := by
        rw [moves_rise hall]
        cases xs <;> rfl
      rw [hb, ← rise_gen (r := fun a b => ordB .le a b) (d := PyData.none)]
      simp_arith [bac_last, hfm, c_eqD hsh shp_lnil, eqv_lnil]
  | _ => simp_arith [isiD, areMoves]
end Lk01
end PM
set_option Elab.async false
set_option linter.all false
set_option maxRecDepth 100000
set_option maxHeartbeats 4000000
namespace PM
open PySem
theorem bacA_s {q : Fr} {i : Nat} {s : Slot} : bacA q i (some s) = q.set i s := rfl
theorem ints_map {α : Type} {xs : List α} {h : α → Int} : intsOf (xs.map fun x => .int (h x)) = some (xs.map h) := by
  induction xs with
  | nil => rfl
  | cons x xs ih => rw [List.map_cons, intsOf, ih]; rfl
theorem b_sum {xs : List PyData} {ns : List Int} (h : intsOf xs = some ns) : blt1 .sum (some (.dat (.list xs))) = some (.val (.int ns.sum)) := by
  show ((lstOf (some (.dat (.list xs)))).bind fun xs => (intsOf xs).map fun ns => Slot.val (.int ns.sum)) = _
  show (intsOf xs).map _ = _
  rw [h]
  rfl
theorem all_mem {α : Type} {p : α → Bool} {xs : List α} (h : xs.all p = true) : ∀ x ∈ xs, p x = true := List.all_eq_true.mp h
namespace Lk01
local macro_rules | `(tactic| simp_arith [$xs,*]) => `(tactic| simp -implicitDefEqProofs only [e_cst_v, e_var_p, e_var_v, e_d, e_cmp, e_bin, e_sub, e_isi, e_cmp_t, e_isi_t, e_not_t, e_and_t, e_or_t, e_exB, e_nil, e_ite, e_ret, e_asg, seqR_next, seqR_ret, tmp_ok, e_cst_t, e_glo_t, e_bin_t, e_neg_t, e_chn_t, e_tup_t, e_lst_t, e_sub_t, e_slc_t, e_call_t, e_meth_t, e_new_t, e_blt_t, e_bme_t, e_fld_t, e_lc_t, e_var_t, retV_var, e_glo, e_neg, e_not, e_ite_v, e_ite_t, e_chn, e_dns, e_dns0, e_dVs, e_dVs0, e_dPs, e_dPs0, e_dAs, e_dAs0, e_tup, e_lst, e_call, e_callio, e_blt, e_asgS, p_cst, rv_cst, p_glo, rv_glo, p_bin, rv_bin, p_neg, rv_neg, p_not, rv_not, p_and, rv_and, p_or, rv_or, p_ite, rv_ite, p_cmp, rv_cmp, p_chn, rv_chn, p_tup, rv_tup, p_lst, rv_lst, p_sub, rv_sub, p_slc, rv_slc, p_isi, rv_isi, p_call, rv_call, p_meth, rv_meth, p_new, rv_new, p_blt, rv_blt, p_bme, rv_bme, p_fld, rv_fld, p_lc, rv_lc, vw_tmp, vw_slot, sv_val, sv_own, sv_brw, sv_ownI, sv_brwI, dat_tmp, toD_val, toD_own, c_eq, c_lt, c_le, c_gt, c_ge, t_bool, s_at, s_att, at_0, b_1, b_2, b_int, b_intB, b_lenL, b_lenT, b_tupL, b_lstT, o_int, o_add, o_sub, o_mod, o_div, asg_n, put_b, put_o, put_s, mo_b, mo_o, set4_0, set4_1, set4_2, at4_1, at4_2, at4_3, ret_of, o_mulR, o_mulL, o_pow18, o_mod1, o_mod2, o_div7, n_neg, wp_ok, wp_exc, bind_if, asg_G, asg_v, asg_0, asg_o, asg_i, plain_G, t_tup, t_nil, t_cons, asg_t, boolR_b, e_and, e_or, bndF, bndT, int_of, e_slc, e_rev, e_dct, e_fld, e_bme, e_meth, newB_ok, e_new, e_lc, e_lc2, e_sc, e_dc, itR_ok, it_var, it_cst, it_sub, it_slc, it_rev, it_bin, it_tup, it_lst, it_call, it_meth, it_bme, it_fld, it_lc, it_ite, it_blt, p_rev, rv_rev, p_dct, rv_dct, p_lc2, rv_lc2, p_sc, rv_sc, p_dc, rv_dc, x_pass, x_brk, x_cnt, x_expr, x_raise, x_for, x_whl, addI_ok, augS_ok, x_augN, rng_0, rng_2, wk_enum, wk_zip, ite_l, ite_t, isW_1, isW_2, isW_3, isW_4, isW_5, isW_6, isW_7, turn_eq, wipe_0, wipA_s, wipe_c, back_0, back_c, ownPl_0, ownA_s, ownPl_c, plain_v, plain_n, noExc_ok, cIo_some, callIo_eq, lent_eq, mIo_ok, meth_io, meth_tmp, mRd_ok, meth_rd, cls_of, fld_of, kd_app, kd_pop, kd_ext, kd_ins, kd_idx, kd_add, kd_get, kd_sda, wrA_ok, wrV_eq, bme_app, bme_pop, bme_ext, bme_add, bme_sda, w_app, w_pop, w_ext, w_add, asgFB_ok, asgFA_s, x_asgF, augFC_ok, augFB_ok, augFA_ok, augF0_s, x_augF, trF_ok, trF_exc, x_try, ctx_fn, ctx_glo, ctx_cls, ctx_fuel, endR_ret, endR_next, endR_exc, endR_if, seqR_if, seqR_exc, seqR_brk, seqR_cnt, tmp_exc, itR_exc, tmp_if, asg_nb, nb_v, nb_o, nb_n, dat_ownL, dat_slot, c_eqS, c_neS, at_1, at_2, at_3, isNone_n, isNone_t, isNone_l, isNone_i, isNone_b, isNone_s, c_isNN, c_notN, c_leM, c_leA, dat_d, plc_v, plc_o, plc_b, plc_i, lod_v, lod_i, lod_ol, lod_oi, retA_o, retA_v, retA_i, c_neI, c_ndx, c_eqD, c_neD, c_inL, c_inT, c_niL, c_niT, t_lst, t_tupB, b_set0, b_tupT, b_lstL, b_srtL, b_srtS, sv_set, sv_dic, sv_insF, fz_val, fz_lst, fz_ins, fz_insF, s_cutT, s_cutL, o_addT, o_addL, seqF_next, seqF_ret, seqF_brk, seqF_cnt, t_name, set_l, List.getElem?_cons_zero, List.getElem?_cons_succ, List.map_cons, List.map_nil, List.set_cons_zero, List.set_cons_succ, List.length_cons, List.length_nil, List.cons_append, List.nil_append, List.append_nil, List.replicate_succ, List.replicate_zero, List.map, Res.bind_ok, Res.bind_exc, Res.bind_stuck, Option.bind_some, Option.map_some, Option.bind_none, Option.map_none, Option.isSome_some, Res.of_some, Res.of_none, decide_false, decide_true, Bool.false_eq_true, if_false, if_true, ite_true, ite_false, ne_eq, not_false_eq_true, not_true_eq_false, gt_iff_lt, Bool.not_true, Bool.not_false, Bool.and_true, Bool.and_false, Bool.true_and, Bool.false_and, Bool.or_true, Bool.or_false, Bool.true_or, Bool.false_or, Bool.decide_eq_true, decide_eq_true_eq, ge_iff_le, Nat.reduceAdd, Nat.reduceSub, Nat.reduceMul, Nat.reduceLeDiff, Nat.reduceLT, Nat.reduceEqDiff, Int.cast_ofNat_Int, Int.natCast_zero, Int.natCast_one, Int.reduceEq, Int.reduceLT, Int.reduceLE, Int.reduceAdd, Int.reduceSub, Int.reduceNeg, Int.reduceMul, reduceCtorEq, and_self, eq_self, $xs,*])
local macro_rules | `(tactic| simp_arith) => `(tactic| simp -implicitDefEqProofs only [e_cst_v, e_var_p, e_var_v, e_d, e_cmp, e_bin, e_sub, e_isi, e_cmp_t, e_isi_t, e_not_t, e_and_t, e_or_t, e_exB, e_nil, e_ite, e_ret, e_asg, seqR_next, seqR_ret, tmp_ok, e_cst_t, e_glo_t, e_bin_t, e_neg_t, e_chn_t, e_tup_t, e_lst_t, e_sub_t, e_slc_t, e_call_t, e_meth_t, e_new_t, e_blt_t, e_bme_t, e_fld_t, e_lc_t, e_var_t, retV_var, e_glo, e_neg, e_not, e_ite_v, e_ite_t, e_chn, e_dns, e_dns0, e_dVs, e_dVs0, e_dPs, e_dPs0, e_dAs, e_dAs0, e_tup, e_lst, e_call, e_callio, e_blt, e_asgS, p_cst, rv_cst, p_glo, rv_glo, p_bin, rv_bin, p_neg, rv_neg, p_not, rv_not, p_and, rv_and, p_or, rv_or, p_ite, rv_ite, p_cmp, rv_cmp, p_chn, rv_chn, p_tup, rv_tup, p_lst, rv_lst, p_sub, rv_sub, p_slc, rv_slc, p_isi, rv_isi, p_call, rv_call, p_meth, rv_meth, p_new, rv_new, p_blt, rv_blt, p_bme, rv_bme, p_fld, rv_fld, p_lc, rv_lc, vw_tmp, vw_slot, sv_val, sv_own, sv_brw, sv_ownI, sv_brwI, dat_tmp, toD_val, toD_own, c_eq, c_lt, c_le, c_gt, c_ge, t_bool, s_at, s_att, at_0, b_1, b_2, b_int, b_intB, b_lenL, b_lenT, b_tupL, b_lstT, o_int, o_add, o_sub, o_mod, o_div, asg_n, put_b, put_o, put_s, mo_b, mo_o, set4_0, set4_1, set4_2, at4_1, at4_2, at4_3, ret_of, o_mulR, o_mulL, o_pow18, o_mod1, o_mod2, o_div7, n_neg, wp_ok, wp_exc, bind_if, asg_G, asg_v, asg_0, asg_o, asg_i, plain_G, t_tup, t_nil, t_cons, asg_t, boolR_b, e_and, e_or, bndF, bndT, int_of, e_slc, e_rev, e_dct, e_fld, e_bme, e_meth, newB_ok, e_new, e_lc, e_lc2, e_sc, e_dc, itR_ok, it_var, it_cst, it_sub, it_slc, it_rev, it_bin, it_tup, it_lst, it_call, it_meth, it_bme, it_fld, it_lc, it_ite, it_blt, p_rev, rv_rev, p_dct, rv_dct, p_lc2, rv_lc2, p_sc, rv_sc, p_dc, rv_dc, x_pass, x_brk, x_cnt, x_expr, x_raise, x_for, x_whl, addI_ok, augS_ok, x_augN, rng_0, rng_2, wk_enum, wk_zip, ite_l, ite_t, isW_1, isW_2, isW_3, isW_4, isW_5, isW_6, isW_7, turn_eq, wipe_0, wipA_s, wipe_c, back_0, back_c, ownPl_0, ownA_s, ownPl_c, plain_v, plain_n, noExc_ok, cIo_some, callIo_eq, lent_eq, mIo_ok, meth_io, meth_tmp, mRd_ok, meth_rd, cls_of, fld_of, kd_app, kd_pop, kd_ext, kd_ins, kd_idx, kd_add, kd_get, kd_sda, wrA_ok, wrV_eq, bme_app, bme_pop, bme_ext, bme_add, bme_sda, w_app, w_pop, w_ext, w_add, asgFB_ok, asgFA_s, x_asgF, augFC_ok, augFB_ok, augFA_ok, augF0_s, x_augF, trF_ok, trF_exc, x_try, ctx_fn, ctx_glo, ctx_cls, ctx_fuel, endR_ret, endR_next, endR_exc, endR_if, seqR_if, seqR_exc, seqR_brk, seqR_cnt, tmp_exc, itR_exc, tmp_if, asg_nb, nb_v, nb_o, nb_n, dat_ownL, dat_slot, c_eqS, c_neS, at_1, at_2, at_3, isNone_n, isNone_t, isNone_l, isNone_i, isNone_b, isNone_s, c_isNN, c_notN, c_leM, c_leA, dat_d, plc_v, plc_o, plc_b, plc_i, lod_v, lod_i, lod_ol, lod_oi, retA_o, retA_v, retA_i, c_neI, c_ndx, c_eqD, c_neD, c_inL, c_inT, c_niL, c_niT, t_lst, t_tupB, b_set0, b_tupT, b_lstL, b_srtL, b_srtS, sv_set, sv_dic, sv_insF, fz_val, fz_lst, fz_ins, fz_insF, s_cutT, s_cutL, o_addT, o_addL, seqF_next, seqF_ret, seqF_brk, seqF_cnt, t_name, set_l, List.getElem?_cons_zero, List.getElem?_cons_succ, List.map_cons, List.map_nil, List.set_cons_zero, List.set_cons_succ, List.length_cons, List.length_nil, List.cons_append, List.nil_append, List.append_nil, List.replicate_succ, List.replicate_zero, List.map, Res.bind_ok, Res.bind_exc, Res.bind_stuck, Option.bind_some, Option.map_some, Option.bind_none, Option.map_none, Option.isSome_some, Res.of_some, Res.of_none, decide_false, decide_true, Bool.false_eq_true, if_false, if_true, ite_true, ite_false, ne_eq, not_false_eq_true, not_true_eq_false, gt_iff_lt, Bool.not_true, Bool.not_false, Bool.and_true, Bool.and_false, Bool.true_and, Bool.false_and, Bool.or_true, Bool.or_false, Bool.true_or, Bool.false_or, Bool.decide_eq_true, decide_eq_true_eq, ge_iff_le, Nat.reduceAdd, Nat.reduceSub, Nat.reduceMul, Nat.reduceLeDiff, Nat.reduceLT, Nat.reduceEqDiff, Int.cast_ofNat_Int, Int.natCast_zero, Int.natCast_one, Int.reduceEq, Int.reduceLT, Int.reduceLE, Int.reduceAdd, Int.reduceSub, Int.reduceNeg, Int.reduceMul, reduceCtorEq, and_self, eq_self])
theorem lpro_ok (k : Nat) (x : PyData) (hx : Nice 64 x) : den prog (k + 4) ("_law_is_protocol", none) [.val x] = .ok (.val (.bool (isProtocol x)), none) := by
  rw [den_of Dn__law_is_protocol ⟨rfl, rfl⟩]
  unfold D__law_is_protocol B__law_is_protocol
  cases x with
  | tuple xs =>
    rcases xs with _ | ⟨a, _ | ⟨b, _ | ⟨c, r⟩⟩⟩
    · simp_arith [isiD, isProtocol]
    · simp_arith [isiD, isProtocol]
    · simp_arith [isiD, number_ok]
      cases ha : isWithin a 2 4 with
      | false =>
        simp_arith []
        cases a <;> try rfl
        cases b <;> try rfl
        simp only [isWithin] at ha
        simp only [isProtocol, ha, Bool.false_and]
      | true =>
        obtain ⟨n, rfl, h1, h2⟩ := within_int ha
        simp only [isWithin] at ha
        cases b with
        | tuple sts =>
          have hs : Nice 64 (.tuple sts) := hx.kid (List.mem_cons_of_mem _ List.mem_cons_self)
          by_cases hc : (decide (1 ≤ sts.length) && decide (sts.length ≤ 10)) = true
          · have hc1 : (1 : Int) ≤ (sts.length : Int) := by simp only [Bool.and_eq_true, decide_eq_true_eq] at hc; omega
            have hc2 : (sts.length : Int) ≤ 10 := by simp only [Bool.and_eq_true, decide_eq_true_eq] at hc; omega
            simp_arith [isiD, hc1, hc2]
            apply wp_eq
            refine wp_endseq (forL_wp0 (I := fun rest ρ => ∃ o, ρ = [.val (.tuple [.int n, .tuple sts]), G o, .no, .no] ∧ (∀ s ∈ rest, Nice 64 s) ∧ (rest.all fun s => isMarked s n sts.length && stOk s) = sts.all fun s => isMarked s n sts.length && stOk s) _ _ ⟨none, rfl, fun s h => hs.kid h, rfl⟩ ?_ ?_)
            · rintro st r ρ ⟨o, rfl, hn, e⟩
              have hst := hn st List.mem_cons_self
              have hn2 := fun s hs => hn s (List.mem_cons_of_mem _ hs)
              rw [List.all_cons] at e
              have bad : (isMarked st n sts.length && stOk st) = false → isProtocol (.tuple [.int n, .tuple sts]) = false := fun h => by
                rw [h, Bool.false_and] at e
                simp only [isProtocol, ← e, Bool.false_and, Bool.and_false]
              cases st with
              | tuple ys =>
                rcases ys with _ | ⟨p, _ | ⟨q, _ | ⟨c, r⟩⟩⟩
                · simp_arith [isiD, bad rfl]
                · have hb := bad (by cases p <;> rfl)
                  simp_arith [isiD, hb]
                · cases p with
                  | bool en =>
                    have hq : Nice 64 q := hst.kid (List.mem_cons_of_mem _ List.mem_cons_self)
                    have lm := lmoves_ok k q n sts.length hq
                    cases hm : areMoves q n sts.length with
                    | false =>
                      have hb := bad (by show (areMoves q n sts.length && _) = false; rw [hm]; rfl)
                      simp_arith [isiD, lm, hm, hb]
                    | true =>
                      cases q with
                      | tuple ms =>
                        cases en with
                        | true =>
                          rw [show (isMarked (.tuple [.bool true, .tuple ms]) n sts.length && stOk (.tuple [.bool true, .tuple ms])) = true from by show (areMoves (.tuple ms) n sts.length && (true || !ms.isEmpty)) = true; rw [hm]; rfl, Bool.true_and] at e
                          simp_arith [isiD, lm, hm]
                          exact ⟨_, by rw [← G_val], hn2, e⟩
                        | false =>
                          cases ms with
                          | nil =>
                            have hb := bad (by show (_ && false) = false; rw [Bool.and_false])
                            simp_arith [isiD, lm, hm, hb, c_eqD hq.shp shp_tnil, eqv_tnil, List.isEmpty_nil]
                          | cons m0 ms =>
                            rw [show (isMarked (.tuple [.bool false, .tuple (m0 :: ms)]) n sts.length && stOk (.tuple [.bool false, .tuple (m0 :: ms)])) = true from by show (areMoves (.tuple (m0 :: ms)) n sts.length && (false || !(m0 :: ms).isEmpty)) = true; rw [hm]; rfl, Bool.true_and] at e
                            simp_arith [isiD, lm, hm, c_eqD hq.shp shp_tnil, eqv_tnil, List.isEmpty_cons]
                            exact ⟨_, by rw [← G_val], hn2, e⟩
                      | _ => cases hm
                  | _ => simp_arith [isiD, bad rfl]
                · have h : ¬ (((r.length + 1 + 1 + 1 : Nat) : Int) = 2) := by omega
                  have hb := bad (by cases p <;> rfl)
                  simp_arith [isiD, h, hb]
              | _ => simp_arith [isiD, bad rfl]
            · rintro ρ ⟨o, rfl, -, e⟩
              have hall := all_mem e.symm
              have hex : isProtocol (.tuple [.int n, .tuple sts]) = decide ((sts.map movesIn).sum ≤ 40) := by
                simp only [isProtocol, ha, hc, ← e, List.all_nil, Bool.true_and]
              have hcmp : ∃ o1 o2, cmpL (turnL (T.tup [T.name 2, T.name 3]) (dn (ctx prog (k + 3)) (.cst (.bool true))) (dn (ctx prog (k + 3)) (.blt .len [(.var 3)])) [2, 3]) sts [.val (.tuple [.int n, .tuple sts]), G o, .no, .no] =
                  .ok (sts.flatMap fun s => [.int (movesIn s)], [.val (.tuple [.int n, .tuple sts]), G o, G o1, G o2]) := by
                have h2 := cmpL_wp0 (E := noE) (g := fun s => [PyData.int (movesIn s)]) (I := fun ρ => ∃ o1 o2, ρ = [.val (.tuple [.int n, .tuple sts]), G o, G o1, G o2])
                  (f := turnL (T.tup [T.name 2, T.name 3]) (dn (ctx prog (k + 3)) (.cst (.bool true))) (dn (ctx prog (k + 3)) (.blt .len [(.var 3)])) [2, 3]) sts [.val (.tuple [.int n, .tuple sts]), G o, .no, .no] ⟨none, none, rfl⟩ ?_
                · obtain ⟨⟨ys, ρ'⟩, e, hy, o1, o2, rfl⟩ := wp_ex h2
                  refine ⟨o1, o2, ?_⟩
                  have hy : ys = _ := hy
                  rw [e, hy]
                · rintro s hs ρ ⟨o1, o2, rfl⟩
                  have h3 := hall s hs
                  rw [Bool.and_eq_true] at h3
                  obtain ⟨en, ms, rfl, -⟩ := marked_data h3.1
                  simp_arith [plain_G, movesIn]
                  exact ⟨trivial, some _, some _, rfl⟩
              obtain ⟨o1, o2, ec⟩ := hcmp
              have hf1 : (sts.flatMap fun s => [PyData.int (movesIn s)]) = sts.map fun s => .int (movesIn s) := flatMap_one
              have hl : (sts.map fun s => PyData.int (movesIn s)).length ≤ 16777216 := by rw [List.length_map]; omega
              rw [hex]
              simp_arith [plain_G, ec, hf1, hl, bacA_s, b_sum ints_map]
          · rw [show isProtocol (.tuple [.int n, .tuple sts]) = false by simp only [isProtocol, Bool.eq_false_iff.mpr hc, Bool.false_and, Bool.and_false]]
            have hc3 : ¬ ((1 : Int) ≤ (sts.length : Int) ∧ (sts.length : Int) ≤ 10) := by simp only [Bool.and_eq_true, decide_eq_true_eq] at hc; omega
            by_cases hc1 : (1 : Int) ≤ (sts.length : Int)
            · have hc2 : ¬ (sts.length : Int) ≤ 10 := fun h => hc3 ⟨hc1, h⟩
              simp_arith [isiD, hc1, hc2]
            · simp_arith [isiD, hc1]
        | _ => simp_arith [isiD, isProtocol]
    · have h : ¬ (((r.length + 1 + 1 + 1 : Nat) : Int) = 2) := by omega
      simp_arith [isiD, isProtocol, h]
  | _ => simp_arith [isiD, isProtocol]
theorem told_ok (k : Nat) (x : PyData) : den prog (k + 8) ("_law_told", none) [.val x] = .ok (.val (if isProtocol x then .str "let" else .tuple [.str "refused", .str "protocol"]), none) := by
  rw [den_of Dn__law_told ⟨rfl, rfl⟩]
  unfold D__law_told B__law_told
  have e := check_protocol_ok (k + 1) x
  have ht : ∀ bd, ex (ctx prog (k + 7)) (.tryR 1 bd (some "refused")) [.val x, .no] = trF (some "refused") [.val x, .no] (exB (ctx prog (k + 7)) bd [.val x, .no]) := fun bd => x_try rfl (by simp)
  have kp : kindOf "BadProtocol" = some 0 := by decide +kernel
  have rp : resD (some "refused") 0 = .tuple [.str "refused", .str "protocol"] := rfl
  cases hP : isProtocol x with
  | false =>
    rw [hP] at e
    simp_arith [ht, e, kp, rp]
  | true =>
    rw [hP] at e
    simp_arith [ht, e, kp, rp, isNone_n]
end Lk01
end PM
set_option Elab.async false
set_option linter.all false
set_option maxRecDepth 100000
set_option maxHeartbeats 4000000
namespace PM
open PySem
def loopD : PyData := .tuple [.bool false, .tuple [.tuple [.tuple [.int 0, .int 1, .int 0], .int 0]]]
def blkD (p q m : Nat) : List PyData := (List.range 4).map fun (t : Nat) => PyData.tuple [.tuple [.int p, .int q, .int m], .int t]
def rowD (pq : Nat × Nat) : List PyData := (List.range 5).flatMap fun (m : Nat) => blkD pq.1 pq.2 m
def wideL : List PyData := [((0 : Nat), (1 : Nat)), (1, 0)].flatMap rowD
def rep (n : Nat) (d : PyData) : List PyData := List.replicate n d
theorem o_rep {d : PyData} {n : Nat} (h1 : 1 ≤ n) (h2 : n ≤ 1000) : binD .mul (.tuple [d]) (.int n) = some (.val (.tuple (rep n d))) := by
  show (if (.mul = Bop.mul) ∧ [d] ≠ [] ∧ (1 : Int) ≤ n ∧ (n : Int) ≤ 1000 ∧ [d].length ≤ 1000 then some (Slot.val (.tuple (List.replicate (n : Int).toNat [d]).flatten)) else none) = _
  rw [if_pos ⟨rfl, by simp, by omega, by omega, by simp⟩, Int.toNat_natCast]
  congr 3
  unfold rep
  clear h1 h2
  induction n with
  | zero => rfl
  | succ n ih => rw [List.replicate_succ, List.flatten_cons, ih]; rfl
theorem rng_nat {k : Nat} : rng 0 (k : Int) = (List.range k).map fun (n : Nat) => PyData.int n := by
  unfold rng
  rw [show ((k : Int) - 0).toNat = k from by omega]
  congr 1
  funext n
  rw [Int.zero_add]
theorem t_int0 : truV (some (.dat (.int 0))) = some false := rfl
theorem t_int1 : truV (some (.dat (.int 1))) = some true := rfl
def a0 : PyData := .tuple [.int 0, .int 1, .int 0]
def nearL0 (a : List PyData) : List PyData := [.tuple [.int 4, .tuple [.tuple [.bool false, .tuple [.tuple [.tuple [.int 0, .int 1, .int 0], .int 0]]]]], .tuple [.int 2, .tuple [.tuple [.bool true, .tuple []]]],
  .tuple [.int 2, .tuple (rep 10 (.tuple [.bool false, .tuple [.tuple [.tuple [.int 0, .int 1, .int 0], .int 0]]]))], .tuple [.int 2, .tuple (rep 10 (.tuple [.bool false, .tuple [.tuple [.tuple [.int 0, .int 1, .int 0], .int 0]]]))],
  .tuple [.int 2, .tuple [.tuple [.bool false, .tuple [.tuple [.tuple [.int 0, .int 1, .int 4], .int 0]]]]],
  .tuple [.int 2, .tuple [.tuple [.bool false, .tuple (a.take 20)], .tuple [.bool true, .tuple ((a.drop 20).take 20)], .tuple [.bool true, .tuple []], .tuple [.bool true, .tuple []]]],
  .tuple [.int 2, .tuple [.tuple [.bool true, .tuple []]]], .tuple [.int 2, .tuple [.tuple [.bool false, .tuple [.tuple [.tuple [.int 0, .int 1, .int 0], .int 0]]]]], .tuple [.int 3, .tuple [.tuple [.bool false, .tuple [.tuple [.tuple [.int 0, .int 2, .int 0], .int 0]]]]]]
def nearL1 (a : List PyData) : List PyData := [.tuple [.int 5, .tuple [.tuple [.bool false, .tuple [.tuple [.tuple [.int 0, .int 1, .int 0], .int 0]]]]], .tuple [.int 1, .tuple [.tuple [.bool true, .tuple []]]],
  .tuple [.int 2, .tuple (rep 11 (.tuple [.bool false, .tuple [.tuple [.tuple [.int 0, .int 1, .int 0], .int 0]]]))], .tuple [.int 2, .tuple []],
  .tuple [.int 2, .tuple [.tuple [.bool false, .tuple [.tuple [.tuple [.int 0, .int 1, .int 5], .int 0]]]]],
  .tuple [.int 2, .tuple [.tuple [.bool false, .tuple (a.take 20)], .tuple [.bool true, .tuple ((a.drop 20).take 20)], .tuple [.bool true, .tuple [.tuple [.tuple [.int 0, .int 1, .int 0], .int 0]]], .tuple [.bool true, .tuple []]]],
  .tuple [.int 2, .tuple [.tuple [.bool false, .tuple []]]], .tuple [.int 2, .tuple [.tuple [.bool false, .tuple [.tuple [.tuple [.int 0, .int 1, .int 0], .int 1]]]]], .tuple [.int 3, .tuple [.tuple [.bool false, .tuple [.tuple [.tuple [.int 0, .int 3, .int 0], .int 0]]]]]]
def niceB (d : PyData) : Bool := d.canLay0 && (decide (d.depth ≤ 64) && wid 1000 d)
theorem nice_of {d : PyData} (h : niceB d = true) : Nice 64 d := by
  unfold niceB at h
  rw [Bool.and_eq_true, Bool.and_eq_true, decide_eq_true_eq] at h
  exact ⟨⟨h.1, h.2.1⟩, h.2.2⟩
theorem near_a0 : ((nearL0 wideL).all fun d => isProtocol d && niceB d) = true := by decide +kernel
theorem near_a1 : ((nearL1 wideL).all fun d => !isProtocol d && niceB d) = true := by decide +kernel
theorem near_c0 (l : List PyData) (h : (l.all fun d => isProtocol d && niceB d) = true) : ∀ d ∈ l, isProtocol d = true ∧ Nice 64 d := by
  intro d h2
  have h3 := List.all_eq_true.mp h d h2
  have h4 : (isProtocol d && niceB d) = true := h3
  rw [Bool.and_eq_true] at h4
  exact ⟨h4.1, nice_of h4.2⟩
theorem near_c1 (l : List PyData) (h : (l.all fun d => !isProtocol d && niceB d) = true) : ∀ d ∈ l, isProtocol d = false ∧ Nice 64 d := by
  intro d h2
  have h3 := List.all_eq_true.mp h d h2
  have h4 : (!isProtocol d && niceB d) = true := h3
  rw [Bool.and_eq_true, Bool.not_eq_true'] at h4
  exact ⟨h4.1, nice_of h4.2⟩
theorem near_d0 {a : List PyData} (e : a = wideL) : ∀ d ∈ nearL0 a, isProtocol d = true ∧ Nice 64 d := by
  rw [e]
  exact near_c0 _ near_a0
theorem near_d1 {a : List PyData} (e : a = wideL) : ∀ d ∈ nearL1 a, isProtocol d = false ∧ Nice 64 d := by
  rw [e]
  exact near_c1 _ near_a1
theorem near_n0 (a : List PyData) : nearL0 a ≠ [] ∧ (nearL0 a).length < 1000 := by unfold nearL0; exact ⟨List.cons_ne_nil _ _, by simp⟩
theorem near_n1 (a : List PyData) : nearL1 a ≠ [] ∧ (nearL1 a).length < 1000 := by unfold nearL1; exact ⟨List.cons_ne_nil _ _, by simp⟩
theorem cut_mid {xs : List PyData} {i j : Nat} (hi : i ≤ xs.length) (hj : j ≤ xs.length) : cut xs (some (i : Int)) (some (j : Int)) = (xs.drop i).take (j - i) := by
  unfold cut
  rw [HT.sIx_nat, HT.sIx_nat, Nat.min_eq_left hi, Nat.min_eq_left hj]
namespace Lk01
def nearAsg : List S := [(.asg (.name 3) (.bin .add (.var 3) (.lc (.tup [(.tup [(.var 4), (.var 5), (.var 6)]), (.var 9)]) (.name 9) (.blt .range [(.cst (.int 4))]) (.cst (.bool true)) [9])))]
def nearIn : List S := [(.for_ (.name 6) (.blt .range [(.cst (.int 5))]) nearAsg)]
def nearPost : List S := [(.asg (.name 7) (.tup [(.cst (.bool false)), (.blt .tuple [(.slc (.var 3) false (.cst .none) true (.cst (.int 20)))])])),
  (.asg (.name 8) (.lst [(.tup [(.bin .add (.cst (.int 4)) (.var 1)), (.tup [(.var 2)])]), (.tup [(.bin .sub (.cst (.int 2)) (.var 1)), (.tup [(.tup [(.cst (.bool true)), (.tup [])])])]), (.tup [(.cst (.int 2)), (.bin .mul (.tup [(.var 2)]) (.bin .add (.cst (.int 10)) (.var 1)))]), (.tup [(.cst (.int 2)), (.ite (.cmp .eq (.var 1) (.cst (.int 0))) (.bin .mul (.tup [(.var 2)]) (.cst (.int 10))) (.tup []))]), (.tup [(.cst (.int 2)), (.tup [(.tup [(.cst (.bool false)), (.tup [(.tup [(.tup [(.cst (.int 0)), (.cst (.int 1)), (.bin .add (.cst (.int 4)) (.var 1))]), (.cst (.int 0))])])])])]), (.tup [(.cst (.int 2)), (.tup [(.var 7), (.tup [(.cst (.bool true)), (.blt .tuple [(.slc (.var 3) true (.cst (.int 20)) true (.cst (.int 40)))])]), (.tup [(.cst (.bool true)), (.ite (.var 1) (.sub (.var 2) (.cst (.int 1))) (.tup []))]), (.tup [(.cst (.bool true)), (.tup [])])])]), (.tup [(.cst (.int 2)), (.tup [(.tup [(.cmp .eq (.var 1) (.cst (.int 0))), (.tup [])])])]), (.tup [(.cst (.int 2)), (.tup [(.tup [(.cst (.bool false)), (.tup [(.tup [(.tup [(.cst (.int 0)), (.cst (.int 1)), (.cst (.int 0))]), (.var 1)])])])])]), (.tup [(.cst (.int 3)), (.tup [(.tup [(.cst (.bool false)), (.tup [(.tup [(.tup [(.cst (.int 0)), (.bin .add (.cst (.int 2)) (.var 1)), (.cst (.int 0))]), (.cst (.int 0))])])])])])])),
  (.ret (.tup [(.call ("_law_pick" : Str) true [(.var 0), (.var 8)]), (.cmp .eq (.var 1) (.cst (.int 0)))]))]
def nearRest : List S := (.for_ (.tup [(.name 4), (.name 5)]) (.tup [(.tup [(.cst (.int 0)), (.cst (.int 1))]), (.tup [(.cst (.int 1)), (.cst (.int 0))])]) nearIn) :: nearPost
theorem near_B : B__law_near = (.asg (.name 1) (.call ("_law_take" : Str) true [(.var 0), (.cst (.int 2))])) :: (.asg (.name 2) (.tup [(.cst (.bool false)), (.tup [(.tup [(.tup [(.cst (.int 0)), (.cst (.int 1)), (.cst (.int 0))]), (.cst (.int 0))])])])) :: (.asg (.name 3) (.lst [])) :: nearRest := rfl
local macro_rules | `(tactic| simp_arith [$xs,*]) => `(tactic| simp -implicitDefEqProofs only [e_cst_v, e_var_p, e_var_v, e_d, e_cmp, e_bin, e_sub, e_isi, e_cmp_t, e_isi_t, e_not_t, e_and_t, e_or_t, e_exB, e_nil, e_ite, e_ret, e_asg, seqR_next, seqR_ret, tmp_ok, e_cst_t, e_glo_t, e_bin_t, e_neg_t, e_chn_t, e_tup_t, e_lst_t, e_sub_t, e_slc_t, e_call_t, e_meth_t, e_new_t, e_blt_t, e_bme_t, e_fld_t, e_lc_t, e_var_t, retV_var, e_glo, e_neg, e_not, e_ite_v, e_ite_t, e_chn, e_dns, e_dns0, e_dVs, e_dVs0, e_dPs, e_dPs0, e_dAs, e_dAs0, e_tup, e_lst, e_call, e_callio, e_blt, e_asgS, p_cst, rv_cst, p_glo, rv_glo, p_bin, rv_bin, p_neg, rv_neg, p_not, rv_not, p_and, rv_and, p_or, rv_or, p_ite, rv_ite, p_cmp, rv_cmp, p_chn, rv_chn, p_tup, rv_tup, p_lst, rv_lst, p_sub, rv_sub, p_slc, rv_slc, p_isi, rv_isi, p_call, rv_call, p_meth, rv_meth, p_new, rv_new, p_blt, rv_blt, p_bme, rv_bme, p_fld, rv_fld, p_lc, rv_lc, vw_tmp, vw_slot, sv_val, sv_own, sv_brw, sv_ownI, sv_brwI, dat_tmp, toD_val, toD_own, c_eq, c_lt, c_le, c_gt, c_ge, t_bool, s_at, s_att, at_0, b_1, b_2, b_int, b_intB, b_lenL, b_lenT, b_tupL, b_lstT, o_int, o_add, o_sub, o_mod, o_div, asg_n, put_b, put_o, put_s, mo_b, mo_o, set4_0, set4_1, set4_2, at4_1, at4_2, at4_3, ret_of, o_mulR, o_mulL, o_pow18, o_mod1, o_mod2, o_div7, n_neg, wp_ok, wp_exc, bind_if, asg_G, asg_v, asg_0, asg_o, asg_i, plain_G, t_tup, t_nil, t_cons, asg_t, boolR_b, e_and, e_or, bndF, bndT, int_of, e_slc, e_rev, e_dct, e_fld, e_bme, e_meth, newB_ok, e_new, e_lc, e_lc2, e_sc, e_dc, itR_ok, it_var, it_cst, it_sub, it_slc, it_rev, it_bin, it_tup, it_lst, it_call, it_meth, it_bme, it_fld, it_lc, it_ite, it_blt, p_rev, rv_rev, p_dct, rv_dct, p_lc2, rv_lc2, p_sc, rv_sc, p_dc, rv_dc, x_pass, x_brk, x_cnt, x_expr, x_raise, x_for, x_whl, addI_ok, augS_ok, x_augN, rng_0, rng_2, wk_enum, wk_zip, ite_l, ite_t, isW_1, isW_2, isW_3, isW_4, isW_5, isW_6, isW_7, turn_eq, wipe_0, wipA_s, wipe_c, back_0, back_c, ownPl_0, ownA_s, ownPl_c, plain_v, plain_n, noExc_ok, cIo_some, callIo_eq, lent_eq, mIo_ok, meth_io, meth_tmp, mRd_ok, meth_rd, cls_of, fld_of, kd_app, kd_pop, kd_ext, kd_ins, kd_idx, kd_add, kd_get, kd_sda, wrA_ok, wrV_eq, bme_app, bme_pop, bme_ext, bme_add, bme_sda, w_app, w_pop, w_ext, w_add, asgFB_ok, asgFA_s, x_asgF, augFC_ok, augFB_ok, augFA_ok, augF0_s, x_augF, trF_ok, trF_exc, x_try, ctx_fn, ctx_glo, ctx_cls, ctx_fuel, endR_ret, endR_next, endR_exc, endR_if, seqR_if, seqR_exc, seqR_brk, seqR_cnt, tmp_exc, itR_exc, tmp_if, asg_nb, nb_v, nb_o, nb_n, dat_ownL, dat_slot, c_eqS, c_neS, at_1, at_2, at_3, isNone_n, isNone_t, isNone_l, isNone_i, isNone_b, isNone_s, c_isNN, c_notN, c_leM, c_leA, dat_d, plc_v, plc_o, plc_b, plc_i, lod_v, lod_i, lod_ol, lod_oi, retA_o, retA_v, retA_i, c_neI, c_ndx, c_eqD, c_neD, c_inL, c_inT, c_niL, c_niT, t_lst, t_tupB, b_set0, b_tupT, b_lstL, b_srtL, b_srtS, sv_set, sv_dic, sv_insF, fz_val, fz_lst, fz_ins, fz_insF, s_cutT, s_cutL, o_addT, o_addL, seqF_next, seqF_ret, seqF_brk, seqF_cnt, t_name, set_l, List.getElem?_cons_zero, List.getElem?_cons_succ, List.map_cons, List.map_nil, List.set_cons_zero, List.set_cons_succ, List.length_cons, List.length_nil, List.cons_append, List.nil_append, List.append_nil, List.replicate_succ, List.replicate_zero, List.map, Res.bind_ok, Res.bind_exc, Res.bind_stuck, Option.bind_some, Option.map_some, Option.bind_none, Option.map_none, Option.isSome_some, Res.of_some, Res.of_none, decide_false, decide_true, Bool.false_eq_true, if_false, if_true, ite_true, ite_false, ne_eq, not_false_eq_true, not_true_eq_false, gt_iff_lt, Bool.not_true, Bool.not_false, Bool.and_true, Bool.and_false, Bool.true_and, Bool.false_and, Bool.or_true, Bool.or_false, Bool.true_or, Bool.false_or, Bool.decide_eq_true, decide_eq_true_eq, ge_iff_le, Nat.reduceAdd, Nat.reduceSub, Nat.reduceMul, Nat.reduceLeDiff, Nat.reduceLT, Nat.reduceEqDiff, Int.cast_ofNat_Int, Int.natCast_zero, Int.natCast_one, Int.reduceEq, Int.reduceLT, Int.reduceLE, Int.reduceAdd, Int.reduceSub, Int.reduceNeg, Int.reduceMul, reduceCtorEq, and_self, eq_self, $xs,*])
local macro_rules | `(tactic| simp_arith) => `(tactic| simp -implicitDefEqProofs only [e_cst_v, e_var_p, e_var_v, e_d, e_cmp, e_bin, e_sub, e_isi, e_cmp_t, e_isi_t, e_not_t, e_and_t, e_or_t, e_exB, e_nil, e_ite, e_ret, e_asg, seqR_next, seqR_ret, tmp_ok, e_cst_t, e_glo_t, e_bin_t, e_neg_t, e_chn_t, e_tup_t, e_lst_t, e_sub_t, e_slc_t, e_call_t, e_meth_t, e_new_t, e_blt_t, e_bme_t, e_fld_t, e_lc_t, e_var_t, retV_var, e_glo, e_neg, e_not, e_ite_v, e_ite_t, e_chn, e_dns, e_dns0, e_dVs, e_dVs0, e_dPs, e_dPs0, e_dAs, e_dAs0, e_tup, e_lst, e_call, e_callio, e_blt, e_asgS, p_cst, rv_cst, p_glo, rv_glo, p_bin, rv_bin, p_neg, rv_neg, p_not, rv_not, p_and, rv_and, p_or, rv_or, p_ite, rv_ite, p_cmp, rv_cmp, p_chn, rv_chn, p_tup, rv_tup, p_lst, rv_lst, p_sub, rv_sub, p_slc, rv_slc, p_isi, rv_isi, p_call, rv_call, p_meth, rv_meth, p_new, rv_new, p_blt, rv_blt, p_bme, rv_bme, p_fld, rv_fld, p_lc, rv_lc, vw_tmp, vw_slot, sv_val, sv_own, sv_brw, sv_ownI, sv_brwI, dat_tmp, toD_val, toD_own, c_eq, c_lt, c_le, c_gt, c_ge, t_bool, s_at, s_att, at_0, b_1, b_2, b_int, b_intB, b_lenL, b_lenT, b_tupL, b_lstT, o_int, o_add, o_sub, o_mod, o_div, asg_n, put_b, put_o, put_s, mo_b, mo_o, set4_0, set4_1, set4_2, at4_1, at4_2, at4_3, ret_of, o_mulR, o_mulL, o_pow18, o_mod1, o_mod2, o_div7, n_neg, wp_ok, wp_exc, bind_if, asg_G, asg_v, asg_0, asg_o, asg_i, plain_G, t_tup, t_nil, t_cons, asg_t, boolR_b, e_and, e_or, bndF, bndT, int_of, e_slc, e_rev, e_dct, e_fld, e_bme, e_meth, newB_ok, e_new, e_lc, e_lc2, e_sc, e_dc, itR_ok, it_var, it_cst, it_sub, it_slc, it_rev, it_bin, it_tup, it_lst, it_call, it_meth, it_bme, it_fld, it_lc, it_ite, it_blt, p_rev, rv_rev, p_dct, rv_dct, p_lc2, rv_lc2, p_sc, rv_sc, p_dc, rv_dc, x_pass, x_brk, x_cnt, x_expr, x_raise, x_for, x_whl, addI_ok, augS_ok, x_augN, rng_0, rng_2, wk_enum, wk_zip, ite_l, ite_t, isW_1, isW_2, isW_3, isW_4, isW_5, isW_6, isW_7, turn_eq, wipe_0, wipA_s, wipe_c, back_0, back_c, ownPl_0, ownA_s, ownPl_c, plain_v, plain_n, noExc_ok, cIo_some, callIo_eq, lent_eq, mIo_ok, meth_io, meth_tmp, mRd_ok, meth_rd, cls_of, fld_of, kd_app, kd_pop, kd_ext, kd_ins, kd_idx, kd_add, kd_get, kd_sda, wrA_ok, wrV_eq, bme_app, bme_pop, bme_ext, bme_add, bme_sda, w_app, w_pop, w_ext, w_add, asgFB_ok, asgFA_s, x_asgF, augFC_ok, augFB_ok, augFA_ok, augF0_s, x_augF, trF_ok, trF_exc, x_try, ctx_fn, ctx_glo, ctx_cls, ctx_fuel, endR_ret, endR_next, endR_exc, endR_if, seqR_if, seqR_exc, seqR_brk, seqR_cnt, tmp_exc, itR_exc, tmp_if, asg_nb, nb_v, nb_o, nb_n, dat_ownL, dat_slot, c_eqS, c_neS, at_1, at_2, at_3, isNone_n, isNone_t, isNone_l, isNone_i, isNone_b, isNone_s, c_isNN, c_notN, c_leM, c_leA, dat_d, plc_v, plc_o, plc_b, plc_i, lod_v, lod_i, lod_ol, lod_oi, retA_o, retA_v, retA_i, c_neI, c_ndx, c_eqD, c_neD, c_inL, c_inT, c_niL, c_niT, t_lst, t_tupB, b_set0, b_tupT, b_lstL, b_srtL, b_srtS, sv_set, sv_dic, sv_insF, fz_val, fz_lst, fz_ins, fz_insF, s_cutT, s_cutL, o_addT, o_addL, seqF_next, seqF_ret, seqF_brk, seqF_cnt, t_name, set_l, List.getElem?_cons_zero, List.getElem?_cons_succ, List.map_cons, List.map_nil, List.set_cons_zero, List.set_cons_succ, List.length_cons, List.length_nil, List.cons_append, List.nil_append, List.append_nil, List.replicate_succ, List.replicate_zero, List.map, Res.bind_ok, Res.bind_exc, Res.bind_stuck, Option.bind_some, Option.map_some, Option.bind_none, Option.map_none, Option.isSome_some, Res.of_some, Res.of_none, decide_false, decide_true, Bool.false_eq_true, if_false, if_true, ite_true, ite_false, ne_eq, not_false_eq_true, not_true_eq_false, gt_iff_lt, Bool.not_true, Bool.not_false, Bool.and_true, Bool.and_false, Bool.true_and, Bool.false_and, Bool.or_true, Bool.or_false, Bool.true_or, Bool.false_or, Bool.decide_eq_true, decide_eq_true_eq, ge_iff_le, Nat.reduceAdd, Nat.reduceSub, Nat.reduceMul, Nat.reduceLeDiff, Nat.reduceLT, Nat.reduceEqDiff, Int.cast_ofNat_Int, Int.natCast_zero, Int.natCast_one, Int.reduceEq, Int.reduceLT, Int.reduceLE, Int.reduceAdd, Int.reduceSub, Int.reduceNeg, Int.reduceMul, reduceCtorEq, and_self, eq_self])
theorem near_ok (k : Nat) (b : Bx) : ∃ (g : Bool) (d : PyData) (b' : Bx), den prog (k + 3) ("_law_near", none) [.brw b.mo] = .ok (.val (.tuple [d, .bool g]), some b'.mo) ∧ isProtocol d = g ∧ Nice 64 d := by
  obtain ⟨v, b1, e1, h1⟩ := take_nat (k + 1) b 2 (by omega) (by omega)
  have e1' : den prog (k + 2) ("_law_take", none) [.brw b.mo, .val (.int 2)] = .ok (.val (.int v), some b1.mo) := e1
  have key : (den prog (k + 3) ("_law_near", none) [.brw b.mo]).wp (fun r => ∃ (g : Bool) (d : PyData) (b' : Bx), r = (.val (.tuple [d, .bool g]), some b'.mo) ∧ isProtocol d = g ∧ Nice 64 d) noE := by
    rw [den_of Dn__law_near ⟨rfl, rfl⟩]
    unfold D__law_near
    rw [near_B]
    unfold nearRest
    generalize hIn : nearIn = sIn
    generalize hPo : nearPost = sPo
    simp_arith [e1']
    refine wp_endseq (forL_wp (en := fun pq : Nat × Nat => PyData.tuple [.int pq.1, .int pq.2]) (I := fun rest ρ => ∃ (a : List PyData) (s4 s5 s6 : Slot), ρ = [.brw b1.mo, .val (.int v), .val (.tuple [.bool false, .tuple [.tuple [.tuple [.int 0, .int 1, .int 0], .int 0]]]), .own (.lst a), s4, s5, s6, .no, .no, .no] ∧ (nb s4 = true ∧ nb s5 = true ∧ nb s6 = true) ∧ a ++ rest.flatMap rowD = wideL ∧ a.length + 20 * rest.length ≤ 100)
      [((0 : Nat), (1 : Nat)), (1, 0)] ?_ ?_ _ ⟨[], _, _, _, rfl, ⟨rfl, rfl, rfl⟩, List.nil_append _, by simp⟩)
    · rintro ⟨p, q⟩ r ρ ⟨a, s4, s5, s6, rfl, ⟨n4, n5, n6⟩, ea, hl⟩
      rw [show sIn = [(.for_ (.name 6) (.blt .range [(.cst (.int 5))]) nearAsg)] from hIn.symm]
      generalize hA : nearAsg = sA
      rw [List.flatMap_cons] at ea
      rw [List.length_cons] at hl
      have rk5 : rngOk 5 = true := by decide +kernel
      have rk4 : rngOk 4 = true := by decide +kernel
      have r5 : rng 0 5 = (List.range 5).map fun (n : Nat) => PyData.int n := rng_nat (k := 5)
      have r4 : rng 0 4 = (List.range 4).map fun (n : Nat) => PyData.int n := rng_nat (k := 4)
      simp_arith [asg_nb, n4, n5, n6, rk5, r5]
      refine wp_seq (forL_wp (en := fun (n : Nat) => PyData.int n) (I := fun rest ρ => ∃ (c : List PyData) (s6 : Slot), ρ = [.brw b1.mo, .val (.int v), .val (.tuple [.bool false, .tuple [.tuple [.tuple [.int 0, .int 1, .int 0], .int 0]]]), .own (.lst c), .val (.int p), .val (.int q), s6, .no, .no, .no] ∧ nb s6 = true ∧ c ++ rest.flatMap (blkD p q) = a ++ rowD (p, q) ∧ c.length + 4 * rest.length ≤ a.length + 20)
        (List.range 5) ?_ ?_ _ ⟨a, s6, rfl, n6, rfl, by rw [List.length_range]; omega⟩)
      · rintro m r2 ρ ⟨c, s6, rfl, n6, ec, hc⟩
        rw [show sA = [(.asg (.name 3) (.bin .add (.var 3) (.lc (.tup [(.tup [(.var 4), (.var 5), (.var 6)]), (.var 9)]) (.name 9) (.blt .range [(.cst (.int 4))]) (.cst (.bool true)) [9])))] from hA.symm]
        rw [List.flatMap_cons] at ec
        rw [List.length_cons] at hc
        simp_arith [asg_nb, n6, rk4, r4]
        rw [lc_nameM (g := fun (t : Nat) => [PyData.tuple [.tuple [.int p, .int q, .int m], .int t]])]
        rotate_left
        · exact ⟨_, rfl, rfl⟩
        · intro n hn
          simp_arith []
        have e4 : ((List.range 4).map fun (t : Nat) => PyData.tuple [.tuple [.int p, .int q, .int m], .int t]) = blkD p q m := rfl
        have l4 : (blkD p q m).length = 4 := by unfold blkD; rw [List.length_map, List.length_range]
        have hf4 : (blkD p q m).length ≤ 16777216 := by omega
        have hfa : fits (c.length + (blkD p q m).length) = true := fits_of (by omega)
        simp_arith [bac_last, flatMap_one, e4, hf4, o_addL hfa]
        exact ⟨c ++ blkD p q m, _, rfl, rfl, by rw [List.append_assoc]; exact ec, by rw [List.length_append, l4]; omega⟩
      · rintro ρ ⟨c, s6, rfl, n6, ec, hc⟩
        rw [List.flatMap_nil, List.append_nil] at ec
        simp_arith []
        exact ⟨c, _, _, s6, rfl, ⟨rfl, rfl, n6⟩, by rw [ec, List.append_assoc]; exact ea, by rw [List.length_nil] at hc; omega⟩
    · rintro ρ ⟨a, s4, s5, s6, rfl, ⟨n4, n5, n6⟩, ea, hl⟩
      rw [List.flatMap_nil, List.append_nil] at ea
      have la : a.length = 40 := by rw [ea]; rfl
      have hc1 : cut a none (some 20) = a.take 20 := cut_take (n := 20) (by omega)
      have hc2 : cut a (some 20) (some 40) = (a.drop 20).take 20 := cut_mid (i := 20) (j := 40) (by omega) (by omega)
      have hm10 : ∀ d, binD .mul (.tuple [d]) (.int 10) = some (.val (.tuple (rep 10 d))) := fun d => o_rep (n := 10) (by omega) (by omega)
      have hm11 : ∀ d, binD .mul (.tuple [d]) (.int 11) = some (.val (.tuple (rep 11 d))) := fun d => o_rep (n := 11) (by omega) (by omega)
      have hv : v = 0 ∨ v = 1 := by omega
      have A0 := near_d0 ea
      have A1 := near_d1 ea
      clear ea
      rcases hv with rfl | rfl
      · obtain ⟨d, b2, e2, h2⟩ := pick_ok k b1 (nearL0 a) (near_n0 a).1 (near_n0 a).2
        have h3 := A0 d h2
        clear h2 A0 A1
        unfold nearL0 at e2
        rw [← hPo]
        unfold nearPost
        simp_arith [asg_nb, n4, n5, n6, s_cutL, hc1, hc2, hm10, t_int0, e2]
        exact ⟨true, d, b2, rfl, h3⟩
      · obtain ⟨d, b2, e2, h2⟩ := pick_ok k b1 (nearL1 a) (near_n1 a).1 (near_n1 a).2
        have h3 := A1 d h2
        clear h2 A0 A1
        unfold nearL1 at e2
        rw [← hPo]
        unfold nearPost
        simp_arith [asg_nb, n4, n5, n6, s_cutL, hc1, hc2, hm11, t_int1, e2]
        exact ⟨false, d, b2, rfl, h3⟩
  obtain ⟨r, e, g, d, b', rfl, h⟩ := wp_ex key
  exact ⟨g, d, b', e, h⟩
end Lk01
end PM
set_option Elab.async false
set_option linter.all false
set_option maxRecDepth 100000
set_option maxHeartbeats 8000000
namespace PM
open PySem
def saidD (g : Bool) : PyData := if g then .str "let" else .tuple [.str "refused", .str "protocol"]
theorem ne_said {g : Bool} : cmpV .ne (some (.dat (saidD g))) (some (.dat (saidD g))) = some false := by cases g <;> decide +kernel
theorem eq_said {g : Bool} : cmpV .eq (some (.dat (saidD g))) (some (.dat (saidD g))) = some true := by cases g <;> decide +kernel
theorem ne_let : cmpV .ne (some (.dat (saidD true))) (some (.dat (.str "let"))) = some false := by decide +kernel
theorem eq_bb {g : Bool} : cmpV .eq (some (.dat (.bool g))) (some (.dat (.bool g))) = some true := by cases g <;> decide +kernel
theorem said_T : saidD true = .str "let" := rfl
theorem said_F : saidD false = .tuple [.str "refused", .str "protocol"] := rfl
theorem nc_pro {P : Pro} (h : P.Dr 6) : Nc 6 6 P.e := by
  refine Nc.tup.mpr ⟨by simp, fun x hx => ?_⟩
  rcases List.mem_cons.mp hx with rfl | hx
  · exact Nc.int
  rw [List.mem_singleton] at hx
  subst hx
  refine Nc.tup.mpr ⟨by rw [List.length_map]; exact h.s2, fun y hy => ?_⟩
  obtain ⟨s, hs, rfl⟩ := List.mem_map.mp hy
  obtain ⟨-, h2, -, h4⟩ := h.mv s hs
  refine Nc.tup.mpr ⟨by simp, fun x hx => ?_⟩
  rcases List.mem_cons.mp hx with rfl | hx
  · exact Nc.bool
  rw [List.mem_singleton] at hx
  subst hx
  refine Nc.tup.mpr ⟨by rw [List.length_map]; omega, fun y hy => ?_⟩
  obtain ⟨v, hv, rfl⟩ := List.mem_map.mp hy
  refine Nc.tup.mpr ⟨by simp, fun x hx => ?_⟩
  rcases List.mem_cons.mp hx with rfl | hx
  · refine Nc.tup.mpr ⟨by simp, fun x hx => ?_⟩
    simp only [List.mem_cons, List.not_mem_nil, or_false] at hx
    rcases hx with rfl | rfl | rfl <;> exact Nc.int
  rw [List.mem_singleton] at hx
  subst hx
  exact Nc.int
def othersP (P : Pro) : List PyData := [.none, .int 2, .str "protocol", .tuple [], .tuple [P.e], .tuple [.tuple (P.sts.map stE), .int P.k], .tuple [.int P.k, .tuple (P.sts.map stE), .int 0], .tuple [.int 2]]
theorem sl_prot : (PyData.str "protocol").canLay0 = true := by decide +kernel
theorem others_nc {P : Pro} (h : P.Dr 6) : ∀ d ∈ othersP P, Nice 64 d := by
  have hp : Nc 1000 6 P.e := (nc_pro h).mono (by omega) (by omega)
  have hs : Nc 1000 5 (.tuple (P.sts.map stE)) := ((Nc.tup.mp (nc_pro h)).2 _ (by simp)).mono (by omega) (by omega)
  intro d hd
  unfold othersP at hd
  simp only [List.mem_cons, List.not_mem_nil, or_false] at hd
  rcases hd with rfl | rfl | rfl | rfl | rfl | rfl | rfl | rfl
  · exact Nc.none
  · exact Nc.int
  · exact Nc.str sl_prot
  · exact Nc.tup.mpr ⟨by simp, fun x hx => (List.not_mem_nil hx).elim⟩
  · exact Nc.tup.mpr ⟨by simp, fun x hx => by rw [List.mem_singleton] at hx; subst hx; exact hp.mono (by omega) (by omega)⟩
  · refine Nc.tup.mpr ⟨by simp, fun x hx => ?_⟩
    simp only [List.mem_cons, List.not_mem_nil, or_false] at hx
    rcases hx with rfl | rfl
    · exact hs.mono (by omega) (by omega)
    · exact Nc.int
  · refine Nc.tup.mpr ⟨by simp, fun x hx => ?_⟩
    simp only [List.cons_append, List.nil_append, List.mem_cons, List.not_mem_nil, or_false] at hx
    rcases hx with rfl | rfl | rfl
    · exact Nc.int
    · exact hs.mono (by omega) (by omega)
    · exact Nc.int
  · exact Nc.tup.mpr ⟨by simp, fun x hx => by rw [List.mem_singleton] at hx; subst hx; exact Nc.int⟩
theorem s_rev {xs : List PyData} : revV (some (.dat (.tuple xs))) = some (.val (.tuple xs.reverse)) := rfl
theorem x_junk {Γ : Ctx} {i : Nat} {s : Slot} {r : Fr} : ex Γ (.junk i) (s :: r) = (Res.of (junkF i (s :: r))).bind fun r => .ok (.next, r) := rfl
namespace Lk01
local macro_rules | `(tactic| simp_arith [$xs,*]) => `(tactic| simp -implicitDefEqProofs only [e_cst_v, e_var_p, e_var_v, e_d, e_cmp, e_bin, e_sub, e_isi, e_cmp_t, e_isi_t, e_not_t, e_and_t, e_or_t, e_exB, e_nil, e_ite, e_ret, e_asg, seqR_next, seqR_ret, tmp_ok, e_cst_t, e_glo_t, e_bin_t, e_neg_t, e_chn_t, e_tup_t, e_lst_t, e_sub_t, e_slc_t, e_call_t, e_meth_t, e_new_t, e_blt_t, e_bme_t, e_fld_t, e_lc_t, e_var_t, retV_var, e_glo, e_neg, e_not, e_ite_v, e_ite_t, e_chn, e_dns, e_dns0, e_dVs, e_dVs0, e_dPs, e_dPs0, e_dAs, e_dAs0, e_tup, e_lst, e_call, e_callio, e_blt, e_asgS, p_cst, rv_cst, p_glo, rv_glo, p_bin, rv_bin, p_neg, rv_neg, p_not, rv_not, p_and, rv_and, p_or, rv_or, p_ite, rv_ite, p_cmp, rv_cmp, p_chn, rv_chn, p_tup, rv_tup, p_lst, rv_lst, p_sub, rv_sub, p_slc, rv_slc, p_isi, rv_isi, p_call, rv_call, p_meth, rv_meth, p_new, rv_new, p_blt, rv_blt, p_bme, rv_bme, p_fld, rv_fld, p_lc, rv_lc, vw_tmp, vw_slot, sv_val, sv_own, sv_brw, sv_ownI, sv_brwI, dat_tmp, toD_val, toD_own, c_eq, c_lt, c_le, c_gt, c_ge, t_bool, s_at, s_att, at_0, b_1, b_2, b_int, b_intB, b_lenL, b_lenT, b_tupL, b_lstT, o_int, o_add, o_sub, o_mod, o_div, asg_n, put_b, put_o, put_s, mo_b, mo_o, set4_0, set4_1, set4_2, at4_1, at4_2, at4_3, ret_of, o_mulR, o_mulL, o_pow18, o_mod1, o_mod2, o_div7, n_neg, wp_ok, wp_exc, bind_if, asg_G, asg_v, asg_0, asg_o, asg_i, plain_G, t_tup, t_nil, t_cons, asg_t, boolR_b, e_and, e_or, bndF, bndT, int_of, e_slc, e_rev, e_dct, e_fld, e_bme, e_meth, newB_ok, e_new, e_lc, e_lc2, e_sc, e_dc, itR_ok, it_var, it_cst, it_sub, it_slc, it_rev, it_bin, it_tup, it_lst, it_call, it_meth, it_bme, it_fld, it_lc, it_ite, it_blt, p_rev, rv_rev, p_dct, rv_dct, p_lc2, rv_lc2, p_sc, rv_sc, p_dc, rv_dc, x_pass, x_brk, x_cnt, x_expr, x_raise, x_for, x_whl, addI_ok, augS_ok, x_augN, rng_0, rng_2, wk_enum, wk_zip, ite_l, ite_t, isW_1, isW_2, isW_3, isW_4, isW_5, isW_6, isW_7, turn_eq, wipe_0, wipA_s, wipe_c, back_0, back_c, ownPl_0, ownA_s, ownPl_c, plain_v, plain_n, noExc_ok, cIo_some, callIo_eq, lent_eq, mIo_ok, meth_io, meth_tmp, mRd_ok, meth_rd, cls_of, fld_of, kd_app, kd_pop, kd_ext, kd_ins, kd_idx, kd_add, kd_get, kd_sda, wrA_ok, wrV_eq, bme_app, bme_pop, bme_ext, bme_add, bme_sda, w_app, w_pop, w_ext, w_add, asgFB_ok, asgFA_s, x_asgF, augFC_ok, augFB_ok, augFA_ok, augF0_s, x_augF, trF_ok, trF_exc, x_try, ctx_fn, ctx_glo, ctx_cls, ctx_fuel, endR_ret, endR_next, endR_exc, endR_if, seqR_if, seqR_exc, seqR_brk, seqR_cnt, tmp_exc, itR_exc, tmp_if, asg_nb, nb_v, nb_o, nb_n, dat_ownL, dat_slot, c_eqS, c_neS, at_1, at_2, at_3, isNone_n, isNone_t, isNone_l, isNone_i, isNone_b, isNone_s, c_isNN, c_notN, c_leM, c_leA, dat_d, plc_v, plc_o, plc_b, plc_i, lod_v, lod_i, lod_ol, lod_oi, retA_o, retA_v, retA_i, c_neI, c_ndx, c_eqD, c_neD, c_inL, c_inT, c_niL, c_niT, t_lst, t_tupB, b_set0, b_tupT, b_lstL, b_srtL, b_srtS, sv_set, sv_dic, sv_insF, fz_val, fz_lst, fz_ins, fz_insF, s_cutT, s_cutL, o_addT, o_addL, seqF_next, seqF_ret, seqF_brk, seqF_cnt, t_name, set_l, List.getElem?_cons_zero, List.getElem?_cons_succ, List.map_cons, List.map_nil, List.set_cons_zero, List.set_cons_succ, List.length_cons, List.length_nil, List.cons_append, List.nil_append, List.append_nil, List.replicate_succ, List.replicate_zero, List.map, Res.bind_ok, Res.bind_exc, Res.bind_stuck, Option.bind_some, Option.map_some, Option.bind_none, Option.map_none, Option.isSome_some, Res.of_some, Res.of_none, decide_false, decide_true, Bool.false_eq_true, if_false, if_true, ite_true, ite_false, ne_eq, not_false_eq_true, not_true_eq_false, gt_iff_lt, Bool.not_true, Bool.not_false, Bool.and_true, Bool.and_false, Bool.true_and, Bool.false_and, Bool.or_true, Bool.or_false, Bool.true_or, Bool.false_or, Bool.decide_eq_true, decide_eq_true_eq, ge_iff_le, Nat.reduceAdd, Nat.reduceSub, Nat.reduceMul, Nat.reduceLeDiff, Nat.reduceLT, Nat.reduceEqDiff, Int.cast_ofNat_Int, Int.natCast_zero, Int.natCast_one, Int.reduceEq, Int.reduceLT, Int.reduceLE, Int.reduceAdd, Int.reduceSub, Int.reduceNeg, Int.reduceMul, reduceCtorEq, and_self, eq_self, $xs,*])
local macro_rules | `(tactic| simp_arith) => `(tactic| simp -implicitDefEqProofs only [e_cst_v, e_var_p, e_var_v, e_d, e_cmp, e_bin, e_sub, e_isi, e_cmp_t, e_isi_t, e_not_t, e_and_t, e_or_t, e_exB, e_nil, e_ite, e_ret, e_asg, seqR_next, seqR_ret, tmp_ok, e_cst_t, e_glo_t, e_bin_t, e_neg_t, e_chn_t, e_tup_t, e_lst_t, e_sub_t, e_slc_t, e_call_t, e_meth_t, e_new_t, e_blt_t, e_bme_t, e_fld_t, e_lc_t, e_var_t, retV_var, e_glo, e_neg, e_not, e_ite_v, e_ite_t, e_chn, e_dns, e_dns0, e_dVs, e_dVs0, e_dPs, e_dPs0, e_dAs, e_dAs0, e_tup, e_lst, e_call, e_callio, e_blt, e_asgS, p_cst, rv_cst, p_glo, rv_glo, p_bin, rv_bin, p_neg, rv_neg, p_not, rv_not, p_and, rv_and, p_or, rv_or, p_ite, rv_ite, p_cmp, rv_cmp, p_chn, rv_chn, p_tup, rv_tup, p_lst, rv_lst, p_sub, rv_sub, p_slc, rv_slc, p_isi, rv_isi, p_call, rv_call, p_meth, rv_meth, p_new, rv_new, p_blt, rv_blt, p_bme, rv_bme, p_fld, rv_fld, p_lc, rv_lc, vw_tmp, vw_slot, sv_val, sv_own, sv_brw, sv_ownI, sv_brwI, dat_tmp, toD_val, toD_own, c_eq, c_lt, c_le, c_gt, c_ge, t_bool, s_at, s_att, at_0, b_1, b_2, b_int, b_intB, b_lenL, b_lenT, b_tupL, b_lstT, o_int, o_add, o_sub, o_mod, o_div, asg_n, put_b, put_o, put_s, mo_b, mo_o, set4_0, set4_1, set4_2, at4_1, at4_2, at4_3, ret_of, o_mulR, o_mulL, o_pow18, o_mod1, o_mod2, o_div7, n_neg, wp_ok, wp_exc, bind_if, asg_G, asg_v, asg_0, asg_o, asg_i, plain_G, t_tup, t_nil, t_cons, asg_t, boolR_b, e_and, e_or, bndF, bndT, int_of, e_slc, e_rev, e_dct, e_fld, e_bme, e_meth, newB_ok, e_new, e_lc, e_lc2, e_sc, e_dc, itR_ok, it_var, it_cst, it_sub, it_slc, it_rev, it_bin, it_tup, it_lst, it_call, it_meth, it_bme, it_fld, it_lc, it_ite, it_blt, p_rev, rv_rev, p_dct, rv_dct, p_lc2, rv_lc2, p_sc, rv_sc, p_dc, rv_dc, x_pass, x_brk, x_cnt, x_expr, x_raise, x_for, x_whl, addI_ok, augS_ok, x_augN, rng_0, rng_2, wk_enum, wk_zip, ite_l, ite_t, isW_1, isW_2, isW_3, isW_4, isW_5, isW_6, isW_7, turn_eq, wipe_0, wipA_s, wipe_c, back_0, back_c, ownPl_0, ownA_s, ownPl_c, plain_v, plain_n, noExc_ok, cIo_some, callIo_eq, lent_eq, mIo_ok, meth_io, meth_tmp, mRd_ok, meth_rd, cls_of, fld_of, kd_app, kd_pop, kd_ext, kd_ins, kd_idx, kd_add, kd_get, kd_sda, wrA_ok, wrV_eq, bme_app, bme_pop, bme_ext, bme_add, bme_sda, w_app, w_pop, w_ext, w_add, asgFB_ok, asgFA_s, x_asgF, augFC_ok, augFB_ok, augFA_ok, augF0_s, x_augF, trF_ok, trF_exc, x_try, ctx_fn, ctx_glo, ctx_cls, ctx_fuel, endR_ret, endR_next, endR_exc, endR_if, seqR_if, seqR_exc, seqR_brk, seqR_cnt, tmp_exc, itR_exc, tmp_if, asg_nb, nb_v, nb_o, nb_n, dat_ownL, dat_slot, c_eqS, c_neS, at_1, at_2, at_3, isNone_n, isNone_t, isNone_l, isNone_i, isNone_b, isNone_s, c_isNN, c_notN, c_leM, c_leA, dat_d, plc_v, plc_o, plc_b, plc_i, lod_v, lod_i, lod_ol, lod_oi, retA_o, retA_v, retA_i, c_neI, c_ndx, c_eqD, c_neD, c_inL, c_inT, c_niL, c_niT, t_lst, t_tupB, b_set0, b_tupT, b_lstL, b_srtL, b_srtS, sv_set, sv_dic, sv_insF, fz_val, fz_lst, fz_ins, fz_insF, s_cutT, s_cutL, o_addT, o_addL, seqF_next, seqF_ret, seqF_brk, seqF_cnt, t_name, set_l, List.getElem?_cons_zero, List.getElem?_cons_succ, List.map_cons, List.map_nil, List.set_cons_zero, List.set_cons_succ, List.length_cons, List.length_nil, List.cons_append, List.nil_append, List.append_nil, List.replicate_succ, List.replicate_zero, List.map, Res.bind_ok, Res.bind_exc, Res.bind_stuck, Option.bind_some, Option.map_some, Option.bind_none, Option.map_none, Option.isSome_some, Res.of_some, Res.of_none, decide_false, decide_true, Bool.false_eq_true, if_false, if_true, ite_true, ite_false, ne_eq, not_false_eq_true, not_true_eq_false, gt_iff_lt, Bool.not_true, Bool.not_false, Bool.and_true, Bool.and_false, Bool.true_and, Bool.false_and, Bool.or_true, Bool.or_false, Bool.true_or, Bool.false_or, Bool.decide_eq_true, decide_eq_true_eq, ge_iff_le, Nat.reduceAdd, Nat.reduceSub, Nat.reduceMul, Nat.reduceLeDiff, Nat.reduceLT, Nat.reduceEqDiff, Int.cast_ofNat_Int, Int.natCast_zero, Int.natCast_one, Int.reduceEq, Int.reduceLT, Int.reduceLE, Int.reduceAdd, Int.reduceSub, Int.reduceNeg, Int.reduceMul, reduceCtorEq, and_self, eq_self])
theorem box_ok (k : Nat) (ns : List Int) (hl : ns.length ≤ 63) : ∃ b : Bx, den prog (k + 1) ("_law_box", none) [.val (.list (ns.map PyData.int))] = .ok (.own b.mo, none) := by
  rw [den_of Dn__law_box ⟨rfl, rfl⟩]
  unfold D__law_box B__law_box
  simp_arith []
  rw [lc_nameM (g := fun n => [PyData.int (if n < 0 then -n else n)])]
  rotate_left
  · exact ⟨_, rfl, rfl⟩
  · intro n hn
    have e : blt1 .abs (some (.dat (.int n))) = some (.val (.int (if n < 0 then -n else n))) := rfl
    simp_arith [e]
  have hfl : ((ns.flatMap fun n => [PyData.int (if n < 0 then -n else n)])) = (ns.map fun n => if n < 0 then -n else n).map PyData.int := by
    clear hl
    induction ns with
    | nil => rfl
    | cons n r ih => rw [List.flatMap_cons, ih]; rfl
  have hl2 : ns.length ≤ 16777216 := by omega
  simp_arith [bac_last, hfl, List.length_map, hl2]
  exact ⟨⟨0, 0, 0, ns.map fun n => if n < 0 then -n else n⟩, by simp only [Bx.mo, Res.ok.injEq, Prod.mk.injEq, and_true]; rfl⟩
theorem law_ok (ns : List Int) (hl : ns.length ≤ 63) : den prog 41 ("law", none) [.val (.list (ns.map PyData.int))] = .ok (.val (.bool true), none) := by
  obtain ⟨b0, e0⟩ := box_ok 39 ns hl
  have e0' : den prog 40 ("_law_box", none) [.val (.list (ns.map PyData.int))] = .ok (.own b0.mo, none) := e0
  have hr4 : rngOk 4 = true := by decide +kernel
  have TL : ∀ x, den prog 40 ("_law_told", none) [.val x] = .ok (.val (saidD (isProtocol x)), none) := fun x => by
    have h := told_ok 32 x
    unfold saidD
    exact h
  have LP : ∀ x, Nice 64 x → den prog 40 ("_law_is_protocol", none) [.val x] = .ok (.val (.bool (isProtocol x)), none) := fun x hx => lpro_ok 36 x hx
  apply wp_eq
  rw [den_of Dn_law ⟨rfl, rfl⟩]
  unfold D_law B_law
  simp_arith [e0', hr4]
  refine wp_endseq (forL_wp0 (I := fun rest ρ => ∃ (b : Bx) (s2 s3 s4 s5 : Slot), ρ = [.val (.list (ns.map PyData.int)), .own b.mo, s2, s3, s4, s5, .no, .no, .no] ∧ (nb s2 = true ∧ nb s3 = true ∧ nb s4 = true ∧ nb s5 = true)) _ _ ⟨b0, .no, .no, .no, .no, rfl, rfl, rfl, rfl, rfl⟩ ?_ ?_)
  · rintro t r ρ ⟨b, s2, s3, s4, s5, rfl, n2, n3, n4, n5⟩
    obtain ⟨P, b1, e1, hP⟩ := protocol_ok 36 b 6 (by omega) (by omega)
    obtain ⟨x1, b2, e2, hx1⟩ := spoilt_ok (w := 6) (by omega) (by omega) 6 31 P.e b1 (by omega) (nc_pro hP)
    obtain ⟨x2, b3, e3, hx2⟩ := spoilt_ok (w := 7) (by omega) (by omega) 8 29 x1 b2 (by omega) hx1
    obtain ⟨x3, b4, e4, hx3⟩ := pick_ok 38 b3 (othersP P) (by unfold othersP; exact List.cons_ne_nil _ _) (by unfold othersP; simp)
    have hx3 := others_nc hP x3 hx3
    have ip := hP.is (by omega)
    have t1 := TL P.e
    rw [ip] at t1
    have l1 := LP P.e ((nc_pro hP).mono (by omega) (by omega))
    rw [ip] at l1
    have e1' : den prog 40 ("_law_protocol", none) [.brw b.mo, .val (.int 6)] = .ok (.val P.e, some b1.mo) := e1
    have e2' : den prog 40 ("_law_spoilt", none) [.brw b1.mo, .val P.e] = .ok (.val x1, some b2.mo) := e2
    have e3' : den prog 40 ("_law_spoilt", none) [.brw b2.mo, .val x1] = .ok (.val x2, some b3.mo) := e3
    have e4' : den prog 40 ("_law_pick", none) [.brw b3.mo, .val (.list (othersP P))] = .ok (.val x3, some b4.mo) := e4
    unfold othersP at e4'
    have one : ∀ x, Nice 64 x → ∀ ρ : Fr, True := fun _ _ _ => trivial
    have hre : revV (some (.dat P.e)) = some (.val (.tuple [.tuple (P.sts.map stE), .int P.k])) := rfl
    have had : binD .add P.e (.tuple [.int 0]) = some (.val (.tuple [.int P.k, .tuple (P.sts.map stE), .int 0])) := rfl
    simp_arith [asg_nb, n2, n3, n4, n5, e1', t1, ne_let, l1, e2', e3', hre, had, e4']
    have hN1 : Nice 64 x1 := hx1.mono (by omega) (by omega)
    have hN2 : Nice 64 x2 := hx2.mono (by omega) (by omega)
    refine wp_seq (forL_wp (en := id) (I := fun rest ρ => ∃ s5, ρ = [.val (.list (ns.map PyData.int)), .own b4.mo, .val t, .val P.e, .val x1, s5, .no, .no, .no] ∧ nb s5 = true ∧ ∀ x ∈ rest, Nice 64 x) [x1, x2, x3] ?_ ?_ _ ⟨s5, rfl, n5, ?_⟩)
    · rintro x r ρ ⟨s5, rfl, n5, hr⟩
      have hx := hr x List.mem_cons_self
      have tx := TL x
      have lx := LP x hx
      show (Res.bind _ _).wp _ _
      cases hb : isProtocol x with
      | true =>
        rw [hb] at tx lx
        simp_arith [asg_nb, n5, id, tx, lx, ← said_T, ne_said]
        exact ⟨_, rfl, rfl, fun y hy => hr y (List.mem_cons_of_mem _ hy)⟩
      | false =>
        rw [hb] at tx lx
        simp_arith [asg_nb, n5, id, tx, lx, ← said_F, ne_said]
        exact ⟨_, rfl, rfl, fun y hy => hr y (List.mem_cons_of_mem _ hy)⟩
    · rintro ρ ⟨s5, rfl, n5, -⟩
      exact ⟨b4, _, _, _, _, rfl, rfl, rfl, rfl, n5⟩
    · intro x hx
      simp only [List.mem_cons, List.not_mem_nil, or_false] at hx
      rcases hx with rfl | rfl | rfl
      · exact hN1
      · exact hN2
      · exact hx3
  · rintro ρ ⟨b, s2, s3, s4, s5, rfl, n2, n3, n4, n5⟩
    obtain ⟨g, d, b1, e1, hg, hd⟩ := near_ok 37 b
    have e1' : den prog 40 ("_law_near", none) [.brw b.mo] = .ok (.val (.tuple [d, .bool g]), some b1.mo) := e1
    have td := TL d
    have ld := LP d hd
    rw [hg] at td ld
    cases g with
    | true =>
      simp_arith [asg_nb, e1', td, ld, x_junk, junkF, eq_bb, ← said_T, eq_said]
    | false =>
      simp_arith [asg_nb, e1', td, ld, x_junk, junkF, eq_bb, ← said_F, eq_said]
theorem plain (ns : List Int) (hl : ns.length ≤ 63) : runFn (ctx prog 40) D_law [.val (.list (ns.map PyData.int))] = .ok (.val (.bool true), none) := by
  rw [← den_succ prog 40 ("law", none) _ Dn_law]
  exact law_ok ns hl
end Lk01
end PM
set_option maxHeartbeats 2000000
theorem PySem.Challenge.cw_playparts_k01_what_is_a_protocol_holds : PySem.Challenge.rw_playparts_k01_what_is_a_protocol.Holds := by
  exact PM.Lk01.holds_of 40 ⟨rfl, by decide +kernel, by decide +kernel⟩ PM.Lk01.plain
