import PyProof.Rows.All
import Wide.All
import OpenK.AllK
import Wide.FinOn
import HandS.ForMost
import HandS.ForExc
import HandS.Wide
import HandS.TupAny
import HandS.TupMul
import HandS.TupLe
import HandS.Zip
import HandS.ReMatch
import HandS.Flow
import HandS.Style
import HandS.Deep
import HandS.Conv
import HandS.Strs
import HandS.TupLen
import HandS.WordsDict
import HandS.SlotsVar
import HandS.SlotsOwn
import HandS.Small
import HandS.IsInst
import HandS.Lambda
import HandS.Defaults
import HandS.Codes
import HandS.EndTab
import HandS.ExcOwn
import HandS.ExcField
import HandS.TryMany
import HandS.Star
import HandS.Property
import KE.SortData
import KE.KDictPairs
import KE.DataCmp
import PyProof.ReprReads
import KE.GoesEnum
import PyProof.ZipIter
import HandS.FStr
import KE.KCallOwn
import HandS.SortKw
import KE.SortKeyHeap
import KE.KSortKey
import KE.DataMinMax
import KE.KDictZip
import HandS.Keys
import KE.KDflt
import KE.KExcSuper
import KE.KExcInit
import HandS.HeadWalk
import HandS.ExcInit
import HandS.HeadHook1
import HandS.HeadHook2
import HandS.Exc
import HandS.Ends
import HandS.More
import HandS.Words
import HandS.WordsExc
import HandS.Head0
import HandS.Head1
import HandS.Head2
import HandS.HeadEnd
import PySem.Challenge.RW_letinprice_k49_errors_of_hours
section
set_option Elab.async false
set_option linter.all false
set_option maxRecDepth 100000
set_option maxHeartbeats 4000000
/-! Ev1: the evaluator. Values are pure data; what is changed in place stands in a store. -/
namespace Ev
open PySem L2

inductive Vl where
  | d (x : PyData)
  | ref (n : Nat)
  /-- the script: it is read alone -/
  | scr (ns : List Int)
  /-- a tuple of texts of the module -/
  | kc (l : List Str)

inductive Ob where
  | lst (l : List PyData)
  | dK (kvs : List (Key × PyData))
  | dT (kvs : List (List Key × PyData))
  | obj (c : Nat) (fs : List (Option PyData))

abbrev Store := List (Option Ob)
inductive R (α : Type) where
  | ok (a : α) (s : Store)
  | exc (c : Nat) (p : PyData) (s : Store)
  | no
def R.bind {α β : Type} (r : R α) (f : α → Store → R β) : R β :=
  match r with
  | .ok a s => f a s
  | .exc c p s => .exc c p s
  | .no => .no

inductive Bop where | add | sub | mul | fdiv | mod | pow | shl | shr | band | bor | bxor
inductive Cop where | eq | ne | lt | le | gt | ge | is_ | isn | in_ | nin
inductive Uop where | neg | inv
inductive Ty where | int | bool | str | tup | lst | dict | own (c : Nat)
inductive Bi where | len | abs | int | tuple | list | sum | all | any | sorted | repr | max2 | min2 | str | dictP
inductive Mt where | append | extend | pop | popAt | get2 | tindex | lindex
inductive Ik where | rng | over | enm | zip
inductive Tg where
  | nm (i : Nat)
  | tu (ts : List Tg)

/-- what an except clause hands back -/
inductive Hx where
  | con (x : PyData)
  | fld (n : Str)
  | rep (n : Str)
  | tup (l : List Hx)
  | add (a b : Hx)
/-- an except clause: its class, whether it has a name -/
structure Hd where
  cls : Nat
  nm : Bool
  e : Hx
inductive MetK where
  /-- call(), then return a constant -/
  | run (h : Hx)
  /-- return call() -/
  | ret
  /-- return (w, call()) -/
  | told (w : Str)
/-- a def that calls what it gets and looks at the errors -/
structure Met where
  k : MetK
  hs : List Hd
/-- how a def of an own class is called: a property, len(x), str(x), ==, != -/
inductive Pk where
  | get (n : Str)
  | len
  | str
  | eq
  | ne
  deriving DecidableEq
inductive Ex where
  /-- x == y, x != y by an own __eq__ -/
  | eqo (ne : Bool) (a b : Ex) (cs : List (Nat × Nat))
  /-- a text of parts -/
  | fstr (es : List Ex)
  /-- tuple(range(..)), list(range(..)) -/
  | trng (t : Bool) (es : List Ex)
  /-- sorted(x, key=len), of tuples -/
  | srtL (a : Ex)
  | zipL (es : List Ex)
  | dkLe (j i : Nat) (g : Str) (c : Int)
  | compR (elt : Ex) (tg : Tg) (a : Ex) (ifs : List Ex)
  /-- min(x, default=None), of ints -/
  | minN (a : Ex)
  /-- f(.., *x) -/
  | callS (f : Nat) (fl : List Bool) (as : List Ex)
  /-- {k: v, ..}, keys and values by turns -/
  | dct (es : List Ex)
  /-- a display with starred items -/
  | spl (t : Bool) (fl : List Bool) (es : List Ex)
  | met (i : Nat) (m : Met) (e : Ex)
  | prop (k : Pk) (o : Ex) (cs : List (Nat × Nat))
  | con (x : PyData)
  | glo (n : Str) (x : PyData)
  | gtu (n : Str) (l : List Str)
  | var (i : Nat)
  | tup (es : List Ex)
  | lst (es : List Ex)
  | dnew (t : Bool)
  | bin (op : Bop) (a b : Ex)
  | un (op : Uop) (a : Ex)
  | cmp (op : Cop) (a b : Ex)
  | chain (o1 o2 : Cop) (a b c : Ex)
  | and_ (a b : Ex)
  | or_ (a b : Ex)
  | not_ (a : Ex)
  | ife (c a b : Ex)
  | idx (a b : Ex)
  | slc (a : Ex) (lo hi : List Ex)
  | call (f : Nat) (as : List Ex)
  | new (c : Nat) (as : List Ex)
  | bi (b : Bi) (as : List Ex)
  | mt (m : Mt) (o : Ex) (as : List Ex)
  | fld (o : Ex) (cs : List (Nat × Nat))
  | isi (e : Ex) (ts : List Ty)
  | comp (elt : Ex) (tg : Tg) (k : Ik) (es : List Ex) (ifs : List Ex)

inductive Sx where
  | set (i : Nat) (e : Ex)
  | thaw (i : Nat) (e : Ex)
  | setz (i : Nat) (e : Ex)
  | dead
  | par (is : List (Nat × Bool)) (es : List Ex)
  | unp (tg : Tg) (e : Ex)
  | aug (i : Nat) (op : Bop) (e : Ex)
  | setI (o i e : Ex)
  | augI (o i : Ex) (op : Bop) (e : Ex)
  | setF (o : Ex) (cs : List (Nat × Nat)) (e : Ex)
  | ex (e : Ex)
  | ret (e : Ex)
  | retN
  | ifs (c : Ex) (a b : List Sx)
  | whl (c : Ex) (b : List Sx)
  | for_ (tg : Tg) (k : Ik) (es : List Ex) (b : List Sx)
  | forR (tg : Tg) (a : Ex) (b : List Sx)
  | raise_ (c : Nat) (as : List Ex)
  | pass
  | brk
  | cont

/-! ### data -/
/-- an instance, as data -/
def encI (c : Nat) (fs : List PyData) : PyData := .dict [(.int (.ofNat c), .tuple fs)]
def insD : PyData → Option (Nat × List PyData)
  | .dict [(.int (.ofNat c), .tuple fs)] => some (c, fs)
  | _ => none
mutual
/-- no instance, no dict within -/
def noD : PyData → Bool
  | .list l => noDs l
  | .tuple l => noDs l
  | .dict _ => false
  | _ => true
def noDs : List PyData → Bool
  | [] => true
  | x :: r => noD x && noDs r
end
def limZ : Nat := 16777216
def binI : Bop → Int → Int → Option Int
  | .add, i, j => some (i + j)
  | .sub, i, j => some (i - j)
  | .mul, i, j => if i.natAbs.log2 + j.natAbs.log2 < 1000000 then some (i * j) else none
  | .fdiv, i, j => if 0 < j ∧ j < 1073741824 then some (i / j) else none
  | .mod, i, j => if 0 < j then some (i % j) else none
  | .pow, i, j => if 0 ≤ j ∧ ((j ≤ 1000000 ∧ i.natAbs < 18446744073709551616) ∨ (j ≤ 1000 ∧ i.natAbs.log2 < 1000)) then some (i ^ j.toNat) else none
  | .shl, i, j => if 0 ≤ j ∧ j ≤ 1000000 ∧ i.natAbs < 18446744073709551616 then some (i * 2 ^ j.toNat) else none
  | .shr, i, j => if 0 ≤ j then some (i / 2 ^ j.toNat) else none
  | .band, i, j => some (Builtin.bitAnd i j)
  | .bor, i, j => some (Builtin.bitOr i j)
  | .bxor, i, j => some (Builtin.bitXor i j)

def strsOf : List PyData → Option (List Str)
  | [] => some []
  | .str i :: r => (strsOf r).map (i :: ·)
  | _ => none
/-- texts alone, at least one: such a tuple is told by its own object -/
def isS (l : List PyData) : Bool := !l.isEmpty && (strsOf l).isSome
def repN (n : Int) (l : List PyData) : Option (List PyData) :=
  if 0 ≤ n ∧ n ≤ 1000000 ∧ l.length * n.toNat ≤ limZ then some (List.replicate n.toNat l).flatten else none

/-- the value, whether it is a new list -/
def binD (op : Bop) (a b : PyData) : Option (PyData × Bool) :=
  match a, b with
  | .int i, .int j => (binI op i j).map fun k => (.int k, false)
  | .str x, .str y => match op with
    | .add => if x.length + y.length ≤ limZ then some (.str (x ++ y), false) else none
    | _ => none
  | .tuple xs, .tuple ys => match op with
    | .add => if xs.length + ys.length ≤ limZ ∧ isS (xs ++ ys) = false then some (.tuple (xs ++ ys), false) else none
    | _ => none
  | .list xs, .list ys => match op with
    | .add => if xs.length + ys.length ≤ limZ then some (.list (xs ++ ys), true) else none
    | _ => none
  | .tuple xs, .int n => match op with
    | .mul => (repN n xs).map fun l => (.tuple l, false)
    | _ => none
  | .list xs, .int n => match op with
    | .mul => (repN n xs).map fun l => (.list l, true)
    | _ => none
  | _, _ => none

def unD (op : Uop) (a : PyData) : Option PyData :=
  match op, a with
  | .neg, .int i => some (.int (-i))
  | .inv, .int i => some (.int (Builtin.bitNot i))
  | _, _ => none

def isScal : PyData → Bool
  | .none => true
  | .bool _ => true
  | .int _ => true
  | .str _ => true
  | _ => false
def fineD (x : PyData) : Bool := SeqAt.shaped x
def eqD (a b : PyData) : Option Bool :=
  match a, b with
  | .int i, .int j => some (i == j)
  | .str x, .str y => some (x == y)
  | _, _ => if fineD a && fineD b then some (PyData.eqv a b) else none
def ltD (a b : PyData) : Option Bool :=
  match a, b with
  | .int i, .int j => some (decide (i < j))
  | _, _ => match a with
    | .none => none
    | _ => if PySem.W.alike a b && (decide (a.depth ≤ 64) && noD a) && (decide (b.depth ≤ 64) && noD b) then some (PySem.W.dataLt a b) else none
def leD (a b : PyData) : Option Bool :=
  match a, b with
  | .int i, .int j => some (decide (i ≤ j))
  | _, _ => match a with
    | .none => none
    | _ => if PySem.W.alike a b && (decide (a.depth ≤ 64) && noD a) && (decide (b.depth ≤ 64) && noD b) then some (!PySem.W.dataLt b a) else none

def seqOf : PyData → Option (List PyData)
  | .list l => some l
  | .tuple l => some l
  | _ => none
def listOf : PyData → Option (List PyData)
  | .list l => some l
  | _ => none
def inD (x : PyData) (l : List PyData) : Option Bool :=
  if fineD x && fineD (.list l) then some (l.any fun z => PyData.eqv z x) else none
def strIn (x y : Str) : Bool := !(Builtin.Str.occurrences y x 0 y.length 1).isEmpty

def toKey : PyData → Option Key
  | .int i => some (.inl i)
  | .str x => some (.inr x)
  | _ => none
def toKeys : List PyData → Option (List Key)
  | [] => some []
  | x :: xs => match toKey x, toKeys xs with
    | some k, some ks => some (k :: ks)
    | _, _ => none
def toTKey : PyData → Option (List Key)
  | .tuple l => if isS l = false then toKeys l else none
  | _ => none
def lookK {κ : Type} [DecidableEq κ] (k : κ) : List (κ × PyData) → Option PyData
  | [] => none
  | (k', v) :: r => if k' = k then some v else lookK k r
def putK {κ : Type} [DecidableEq κ] (k : κ) (v : PyData) (kvs : List (κ × PyData)) : List (κ × PyData) :=
  if (kvs.any fun p => decide (p.1 = k)) = true then kvs.map (fun p => if p.1 = k then (p.1, v) else p) else kvs ++ [(k, v)]

def Tru : PyData → Option Bool
  | .none => some false
  | .bool b => some b
  | .int i => some (i != 0)
  | .str x => if x.length ≤ limZ then some ((x.length : Int) != 0) else none
  | .list l => some !l.isEmpty
  | .tuple l => some !l.isEmpty
  | .dict _ => none

def ixN (n : Nat) (i : Int) : Option Nat := if 0 ≤ i then (if i < n then some i.toNat else none) else if -(n : Int) ≤ i then some (i + n).toNat else none
def atD (l : List PyData) (i : Int) : Option PyData := (ixN l.length i).bind fun j => l[j]?
def sIx (n dflt : Nat) : Option Int → Nat
  | none => dflt
  | some v => if v < 0 then (v + (n : Int)).toNat else min v.toNat n
def cutD (l : List PyData) (lo hi : Option Int) : List PyData := (l.drop (sIx l.length 0 lo)).take (sIx l.length l.length hi - sIx l.length 0 lo)

def augZ (op : Bop) (i j : Int) : Option Int := match op with
  | .add => some (i + j)
  | .sub => some (i - j)
  | .bor => some (Builtin.bitOr i j)
  | _ => none
/-! ### the store -/
def getO (st : Store) (n : Nat) : Option Ob := (st[n]?).join
/-- a value as data -/
def datD (st : Store) : Vl → Option PyData
  | .d x => some x
  | .ref n => match getO st n with
    | some (.lst l) => some (.list l)
    | _ => none
  | .scr _ => none
  | .kc _ => none
/-- a value that goes into another one: what could be changed is no more -/
def frz (st : Store) : Vl → Option (PyData × Store)
  | .d x => some (x, st)
  | .ref n => match getO st n with
    | some (.lst l) => some (.list l, st.set n none)
    | some (.dK []) => some (.dict [], st.set n none)
    | _ => none
  | .scr _ => none
  | .kc _ => none
def frzs (st : Store) : List Vl → Option (List PyData × Store)
  | [] => some ([], st)
  | v :: vs => match frz st v with
    | some (x, st1) => match frzs st1 vs with
      | some (xs, st2) => some (x :: xs, st2)
      | none => none
    | none => none
def datDs (st : Store) : List Vl → Option (List PyData)
  | [] => some []
  | v :: vs => match datD st v, datDs st vs with
    | some x, some xs => some (x :: xs)
    | _, _ => none

def truV (st : Store) : Vl → Option Bool
  | .d x => Tru x
  | .ref n => match getO st n with
    | some (.lst l) => some !l.isEmpty
    | _ => none
  | .scr _ => none
  | .kc _ => none

def cmpV (op : Cop) (st : Store) (a b : Vl) : Option Bool :=
  match op, b with
  | .in_, .ref n => match getO st n, a with
    | some (.dK kvs), .d x => (toKey x).map fun k => (lookK k kvs).isSome
    | some (.dT kvs), .d x => (toTKey x).map fun k => (lookK k kvs).isSome
    | some (.lst l), .d x => inD x l
    | _, _ => none
  | .in_, .kc l => match a with
    | .d (.str x) => some (l.any (· == x))
    | _ => none
  | .nin, .kc l => match a with
    | .d (.str x) => some !(l.any (· == x))
    | _ => none
  | .nin, .ref n => match getO st n, a with
    | some (.dK kvs), .d x => (toKey x).map fun k => !(lookK k kvs).isSome
    | some (.dT kvs), .d x => (toTKey x).map fun k => !(lookK k kvs).isSome
    | some (.lst l), .d x => (inD x l).map (!·)
    | _, _ => none
  | _, _ => match datD st a, datD st b with
    | some x, some y => match op with
      | .eq => eqD x y
      | .ne => (eqD x y).map (!·)
      | .lt => ltD x y
      | .gt => ltD y x
      | .le => leD x y
      | .ge => leD y x
      | .is_ => match y with
        | .none => some (match x with | .none => true | _ => false)
        | .bool b => (match x with | .bool a => some (a == b) | _ => none)
        | _ => none
      | .isn => match y with
        | .none => some (match x with | .none => false | _ => true)
        | .bool b => (match x with | .bool a => some (a != b) | _ => none)
        | _ => none
      | .in_ => match y, x with
        | .str t, .str s => some (strIn s t)
        | .list l, _ => inD x l
        | .tuple l, _ => inD x l
        | _, _ => none
      | .nin => match y, x with
        | .str t, .str s => some (!strIn s t)
        | .list l, _ => (inD x l).map (!·)
        | .tuple l, _ => (inD x l).map (!·)
        | _, _ => none
    | _, _ => none

/-- o[i] -/
def idxV (st : Store) (o i : Vl) : Option PyData :=
  match i with
  | .d k => match o with
    | .d (.list l) => (match k with | .int j => atD l j | _ => none)
    | .d (.tuple l) => (match k with | .int j => atD l j | _ => none)
    | .d (.str z) => (match k with | .int j => if z.length ≤ limZ then ((ixN z.cps.toList.length j).bind fun m => z.cps.toList[m]?).map fun c => .str ⟨#[c]⟩ else none | _ => none)
    | .ref n => (match getO st n with
      | some (.lst l) => (match k with | .int j => atD l j | _ => none)
      | some (.dK kvs) => (toKey k).bind fun q => lookK q kvs
      | some (.dT kvs) => (toTKey k).bind fun q => lookK q kvs
      | _ => none)
    | .scr l => (match k with | .int j => (ixN l.length j).bind fun m => l[m]?.map PyData.int | _ => none)
    | _ => none
  | _ => none

def idxR (st : Store) (o i : Vl) : Option PyData := match o with
  | .ref n => idxV st (.ref n) i
  | _ => none
def tyO (c : Nat) : Ty → Bool
  | .own c' => c == c'
  | _ => false
def tyP : Ty → PyData → Bool
  | .int, .int _ => true
  | .int, .bool _ => true
  | .bool, .bool _ => true
  | .str, .str _ => true
  | .tup, .tuple _ => true
  | .lst, .list _ => true
  | .dict, .dict _ => true
  | _, _ => false
def tyL : Ty → Bool
  | .lst => true
  | _ => false
def tyDi : Ty → Bool
  | .dict => true
  | _ => false
def tyD (t : Ty) (x : PyData) : Bool := match insD x with
  | some p => tyO p.1 t
  | none => tyP t x
def isTy (st : Store) (t : Ty) (v : Vl) : Option Bool :=
  match v with
  | .d x => some (tyD t x)
  | .ref n => match getO st n with
    | some (.lst _) => some (tyL t)
    | some (.dK _) => some (tyDi t)
    | some (.dT _) => some (tyDi t)
    | _ => none
  | .scr _ => none
  | .kc _ => none
def intV : Vl → Option Int
  | .d (.int n) => some n
  | _ => none
def augV (op : Bop) (a b : Vl) : Option Int := (intV a).bind fun i => (intV b).bind fun j => augZ op i j
def isTys (st : Store) (v : Vl) : List Ty → Option Bool
  | [] => some false
  | t :: ts => match isTy st t v with
    | some true => some true
    | some false => isTys st v ts
    | none => none

def intsOf : List PyData → Option (List Int)
  | [] => some []
  | .int i :: r => (intsOf r).map (i :: ·)
  | _ => none
def boolsOf : List PyData → Option (List Bool)
  | [] => some []
  | .bool i :: r => (boolsOf r).map (i :: ·)
  | _ => none
def findIx (x : PyData) : List PyData → Nat → Option Nat
  | [], _ => none
  | y :: r, n => if PyData.eqv y x then some n else findIx x r (n + 1)
def findStr (x : Str) : List Str → Nat → Option Nat
  | [], _ => none
  | y :: r, n => if y = x then some n else findStr x r (n + 1)
def sortD (l : List PyData) : Option (List PyData) :=
  if l.all (fun x => l.all fun y => PySem.W.alike x y) && (l.all (fun x => match x with | .tuple (_ :: _) => true | _ => false) || l.all (fun x => match x with | .tuple _ => false | .none => false | _ => true)) && l.all (fun x => decide (x.depth ≤ 64)) && decide (l.length ≤ limZ) && noDs l then
    some (PySem.W.mergeSortF (PySem.W.dataLe false id) l.length l) else none
def kD : Key → PyData
  | .inl i => .int i
  | .inr x => .str x
def pairsT : List PyData → Option (List (List Key × PyData))
  | [] => some []
  | .tuple [k, v] :: r => match toTKey k, pairsT r with
    | some q, some qs => some ((q, v) :: qs)
    | _, _ => none
  | _ => none

/-- the keys of a dict, as data -/
def keysV (st : Store) : Vl → Option (List PyData)
  | .ref n => match getO st n with
    | some (.dK kvs) => some (kvs.map fun p => kD p.1)
    | some (.dT kvs) => if (kvs.all fun p => !isS (p.1.map kD)) = true then some (kvs.map fun p => .tuple (p.1.map kD)) else none
    | _ => none
  | _ => none
def lenV (st : Store) : Vl → Option Nat
  | .d (.str x) => if x.length ≤ limZ then some x.length else none
  | .d (.list l) => some l.length
  | .d (.tuple l) => some l.length
  | .ref n => match getO st n with
    | some (.lst l) => some l.length
    | some (.dK kvs) => some kvs.length
    | some (.dT kvs) => some kvs.length
    | _ => none
  | .scr l => some l.length
  | _ => none
/-- items of a list, a tuple, or the keys of a dict -/
def itemsV (st : Store) (v : Vl) : Option (List PyData) :=
  match keysV st v with
  | some l => some l
  | none => (datD st v).bind seqOf

/-- items of a list, or the keys of a dict -/
def itemsL (st : Store) (v : Vl) : Option (List PyData) :=
  match keysV st v with
  | some l => some l
  | none => (datD st v).bind listOf

def okD (x : PyData × Bool) (st : Store) : R (Vl × Bool) := .ok (.d x.1, x.2) st
def retO (x : Option (PyData × Bool)) (st : Store) : R (Vl × Bool) :=
  match x with
  | some y => .ok (.d y.1, y.2) st
  | none => .no
def retB (x : Option Bool) (st : Store) : R (Vl × Bool) :=
  match x with
  | some b => .ok (.d (.bool b), false) st
  | none => .no
def retP (x : Option PyData) (st : Store) : R (Vl × Bool) :=
  match x with
  | some b => .ok (.d b, false) st
  | none => .no

def bi1 (vs : List Vl) (f : Vl → R (Vl × Bool)) : R (Vl × Bool) := match vs with
  | [v] => f v
  | _ => .no
def bi2 (vs : List Vl) (f : Vl → Vl → R (Vl × Bool)) : R (Vl × Bool) := match vs with
  | [v, w] => f v w
  | _ => .no
def absI (st : Store) : Vl → R (Vl × Bool)
  | .d (.int i) => .ok (.d (.int (if i < 0 then -i else i)), false) st
  | _ => .no
def intI (st : Store) : Vl → R (Vl × Bool)
  | .d (.int i) => .ok (.d (.int i), false) st
  | .d (.bool k) => .ok (.d (.int (if k then 1 else 0)), false) st
  | _ => .no
def maxI (st : Store) : Vl → Vl → R (Vl × Bool)
  | .d (.int i), .d (.int j) => .ok (.d (.int (if j > i then j else i)), false) st
  | _, _ => .no
def minI (st : Store) : Vl → Vl → R (Vl × Bool)
  | .d (.int i), .d (.int j) => .ok (.d (.int (if j < i then j else i)), false) st
  | _, _ => .no
def reprI (st : Store) (v : Vl) : R (Vl × Bool) := match datD st v with
  | some x => if x.showable && fineD x && decide (x.shown.length ≤ limZ) then .ok (.d (.str x.shown), false) st else .no
  | none => .no
def dictI (st : Store) (v : Vl) : R (Vl × Bool) := match (datD st v).bind listOf with
  | some l => match pairsT l with
    | some kvs => if l.length ≤ limZ then .ok (.ref st.length, false) (st ++ [some (.dT (kvs.foldl (fun acc p => putK p.1 p.2 acc) []))]) else .no
    | none => .no
  | none => .no
def biV (b : Bi) (vs : List Vl) (st : Store) : R (Vl × Bool) :=
  match b with
  | .len => bi1 vs fun v => retP ((lenV st v).map fun (n : Nat) => PyData.int (n : Int)) st
  | .abs => bi1 vs (absI st)
  | .int => bi1 vs (intI st)
  | .max2 => bi2 vs (maxI st)
  | .min2 => bi2 vs (minI st)
  | .tuple => bi1 vs fun v => retP (((datD st v).bind seqOf).map .tuple) st
  | .list => bi1 vs fun v => retO (((itemsV st v)).map fun l => (.list l, true)) st
  | .sum => bi1 vs fun v => retP ((((datD st v).bind listOf).bind intsOf).map fun l => .int l.sum) st
  | .all => bi1 vs fun v => retB ((((datD st v).bind listOf).bind boolsOf).map fun l => l.all id) st
  | .any => bi1 vs fun v => retB ((((datD st v).bind listOf).bind boolsOf).map fun l => l.any id) st
  | .sorted => bi1 vs fun v => retO (((itemsV st v).bind sortD).map fun l => (.list l, true)) st
  | .repr => bi1 vs (reprI st)
  | .dictP => bi1 vs (dictI st)
  | .str => .no

def mAppend (st : Store) (n : Nat) (v : Vl) : R (Vl × Bool) := match frz st v with
  | some (x, st1) => match getO st1 n with
    | some (.lst l) => if l.length < limZ then .ok (.d .none, false) (st1.set n (some (.lst (l ++ [x])))) else .no
    | _ => .no
  | none => .no
def mExtend (st : Store) (n : Nat) (v : Vl) : R (Vl × Bool) := match datD st v with
  | some (.list xs) => match getO st n with
    | some (.lst l) => if l.length + xs.length ≤ limZ then .ok (.d .none, false) (st.set n (some (.lst (l ++ xs)))) else .no
    | _ => .no
  | _ => .no
def mPop (st : Store) (n : Nat) : R (Vl × Bool) := match getO st n with
  | some (.lst l) => match l[l.length - 1]? with
    | some x => .ok (.d x, false) (st.set n (some (.lst l.dropLast)))
    | none => .no
  | _ => .no
def mPopAt (st : Store) (n : Nat) (v : Vl) : R (Vl × Bool) := match v with
  | .d (.int i) => match getO st n with
    | some (.lst l) => if -9223372036854775808 ≤ i ∧ i < 9223372036854775808 then match ixN l.length i with
      | some k => match l[k]? with
        | some x => .ok (.d x, false) (st.set n (some (.lst (l.eraseIdx k))))
        | none => .no
      | none => .no else .no
    | _ => .no
  | _ => .no
def mGet2 (st : Store) (n : Nat) (kv dv : Vl) : R (Vl × Bool) := match kv, frz st dv with
  | .d k, some (dflt, st1) => match getO st1 n with
    | some (.dK kvs) => match toKey k with
      | some q => .ok (.d ((lookK q kvs).getD dflt), false) st1
      | none => .no
    | some (.dT kvs) => match toTKey k with
      | some q => .ok (.d ((lookK q kvs).getD dflt), false) st1
      | none => .no
    | _ => .no
  | _, _ => .no
def mTindex (st : Store) (o v : Vl) : R (Vl × Bool) := match o, v with
  | .d (.tuple l), .d (.str z) => match strsOf l with
    | some zs => retP ((findStr z zs 0).map fun (n : Nat) => PyData.int (n : Int)) st
    | none => .no
  | _, _ => .no
def mLindex (st : Store) (o v : Vl) : R (Vl × Bool) := match datD st o, datD st v with
  | some (.list l), some x => if fineD x && fineD (.list l) then retP ((findIx x l 0).map fun (n : Nat) => PyData.int (n : Int)) st else .no
  | _, _ => .no
def onRef (o : Vl) (f : Nat → R (Vl × Bool)) : R (Vl × Bool) := match o with
  | .ref n => f n
  | _ => .no
def mtV (m : Mt) (o : Vl) (vs : List Vl) (st : Store) : R (Vl × Bool) :=
  match m with
  | .append => onRef o fun n => bi1 vs (mAppend st n)
  | .extend => onRef o fun n => bi1 vs (mExtend st n)
  | .pop => onRef o fun n => match vs with
    | [] => mPop st n
    | _ => .no
  | .popAt => onRef o fun n => bi1 vs (mPopAt st n)
  | .get2 => onRef o fun n => bi2 vs (mGet2 st n)
  | .tindex => bi1 vs (mTindex st o)
  | .lindex => bi1 vs (mLindex st o)

/-- the type that the method asks of its object -/
def mtK (m : Mt) (st : Store) (o : Vl) : Bool :=
  match m with
  | .get2 => match o with
    | .ref n => match getO st n with
      | some (.dK _) => true
      | some (.dT _) => true
      | _ => false
    | _ => false
  | .tindex => match o with
    | .d (.tuple l) => isS l
    | _ => false
  | _ => match datD st o with
    | some (.list _) => true
    | _ => false
/-- a variable of an instance: its slot by the class -/
def fldV (cs : List (Nat × Nat)) (st : Store) (o : Vl) : Option PyData :=
  match o with
  | .d x => (insD x).bind fun p => (cs.lookup p.1).bind fun i => p.2[i]?
  | .ref n => match getO st n with
    | some (.obj c fs) => (cs.lookup c).bind fun i => (fs[i]?).join
    | _ => none
  | _ => none

def chars (z : Str) : List PyData := z.cps.toList.map fun c => .str ⟨#[c]⟩
def enumD : List PyData → Nat → List PyData
  | [], _ => []
  | x :: r, n => .tuple [.int n, x] :: enumD r (n + 1)
def zipD : List PyData → List PyData → List PyData
  | x :: xs, y :: ys => .tuple [x, y] :: zipD xs ys
  | _, _ => []
def rngD (lo : Int) : Nat → List PyData
  | 0 => []
  | n + 1 => .int lo :: rngD (lo + 1) n
/-- frozen items -/
def frozen : Vl → Option (List PyData)
  | .d (.list l) => some l
  | .d (.tuple l) => some l
  | _ => none
def strV : Vl → Option Str
  | .d (.str z) => some z
  | _ => none
def lstV : Vl → Option (List PyData)
  | .d (.list l) => some l
  | _ => none
def tupV : Vl → Option (List PyData)
  | .d (.tuple l) => some l
  | _ => none
def fitZ (n : Int) : Bool := decide (n < 4611686018427387904) && decide (-4611686018427387904 ≤ n)
def walkR : List Vl → Option (List PyData)
  | [v] => (intV v).bind fun n => if fitZ n then some (rngD 0 n.toNat) else none
  | [v, w] => (intV v).bind fun a => (intV w).bind fun b => if fitZ a && fitZ b then some (rngD a (b - a).toNat) else none
  | _ => none
def walkO : List Vl → Option (List PyData)
  | [v] => match strV v with
    | some z => some (chars z)
    | none => frozen v
  | _ => none
def walkE : List Vl → Option (List PyData)
  | [v] => (frozen v).map fun l => enumD l 0
  | _ => none
/-- no pair of texts -/
def notSP : PyData → Bool
  | .tuple l => !isS l
  | _ => true
def walkZ : List Vl → Option (List PyData)
  | [v, w] => match frozen v, frozen w with
    | some a, some b => some (zipD a b)
    | _, _ => none
  | _ => none
/-- what a loop walks -/
def walkV (k : Ik) (vs : List Vl) (st : Store) : Option (List PyData) :=
  match k with
  | .rng => walkR vs
  | .over => walkO vs
  | .enm => walkE vs
  | .zip => walkZ vs

/-! ### the frame -/
abbrev Env := List (Option Vl)
mutual
def setT (x : PyData) (env : Env) : Tg → Option Env
  | .nm i => some (env.set i (some (.d x)))
  | .tu ts => match x with
    | .tuple l => setTs l env ts
    | _ => none
  termination_by structural t => t
def setTs : List PyData → Env → List Tg → Option Env
  | [], env, [] => some env
  | x :: xs, env, t :: ts => match setT x env t with
    | some env' => setTs xs env' ts
    | none => none
  | _, _, _ => none
  termination_by structural _ _ ts => ts
end


mutual
def sameD : PyData → PyData → Bool
  | .none, .none => true
  | .bool a, .bool b => decide (a = b)
  | .int a, .int b => decide (a = b)
  | .str a, .str b => decide (a = b)
  | .list a, .list b => sameDs a b
  | .tuple a, .tuple b => sameDs a b
  | _, _ => false
def sameDs : List PyData → List PyData → Bool
  | [], [] => true
  | x :: xs, y :: ys => sameD x y && sameDs xs ys
  | _, _ => false
end
def intKs : List (Key × PyData) → Option (List Int)
  | [] => some []
  | (.inl i, _) :: r => (intKs r).map (i :: ·)
  | _ => none
/-- what a comprehension over one value walks: a list that is changed elsewhere must stand at each turn as it stood -/
def walkOR (v : Vl) (st : Store) : Option (List PyData) :=
  match v with
  | .ref n => match getO st n with
    | some (.lst l) => some l
    | _ => none
  | v => walkO [v]
def okW (v : Vl) (st0 st : Store) : Bool :=
  match v with
  | .ref n => match getO st0 n, getO st n with
    | some (.lst l), some (.lst m) => sameDs l m
    | _, _ => false
  | _ => true
def clpW (ok : Store → Bool) (f : PyData → Store → R (Option PyData)) : List PyData → Store → R (List PyData)
  | [], st => if ok st = true then .ok [] st else .no
  | x :: xs, st => if ok st = true then (f x st).bind fun y st1 => (clpW ok f xs st1).bind fun ys st2 => .ok (match y with | some z => z :: ys | none => ys) st2 else .no
def clp (f : PyData → Store → R (Option PyData)) : List PyData → Store → R (List PyData)
  | [], st => .ok [] st
  | x :: xs, st => (f x st).bind fun y st1 => (clp f xs st1).bind fun ys st2 => .ok (match y with | some z => z :: ys | none => ys) st2

/-- nothing is raised -/
def R.calm {α : Type} : R α → R α
  | .exc _ _ _ => .no
  | r => r
mutual
def hxV (p : PyData) : Hx → Option PyData
  | .con x => some x
  | .fld _ => some p
  | .rep _ => if p.showable && fineD p && decide (p.shown.length ≤ limZ) then some (.str p.shown) else none
  | .tup l => (hxVs p l).bind fun xs => if xs.length ≤ limZ then some (.tuple xs) else none
  | .add a b => match hxV p a, hxV p b with
    | some (.str x), some (.str y) => if x.length + y.length ≤ limZ then some (.str (x ++ y)) else none
    | _, _ => none
def hxVs (p : PyData) : List Hx → Option (List PyData)
  | [] => some []
  | a :: r => match hxV p a, hxVs p r with
    | some x, some xs => some (x :: xs)
    | _, _ => none
end
def hdFind (c : Nat) : List Hd → Option Hd
  | [] => none
  | h :: r => if h.cls = c then some h else hdFind c r
def metV (m : Met) (r : R (Vl × Bool)) : R (Vl × Bool) := match r with
  | .ok v st => match m.k with
    | .run h => match hxV .none h with
      | some x => .ok (.d x, false) st
      | none => .no
    | .ret => match v.1 with
      | .d _ => .ok v st
      | _ => .no
    | .told w => match frz st v.1 with
      | some (x, st2) => .ok (.d (.tuple [.str w, x]), false) st2
      | none => .no
  | .exc c p st => match hdFind c m.hs with
    | some h => match hxV p h.e with
      | some x => .ok (.d x, false) st
      | none => .no
    | none => .no
  | .no => .no
/-- the def of an own class -/
def propV (cs : List (Nat × Nat)) : Vl → Option Nat
  | .d x => (insD x).bind fun p => cs.lookup p.1
  | _ => none
/-- what an own def's answer must be -/
def propR (k : Pk) (y : Vl × Bool) (st : Store) : R (Vl × Bool) := match k with
  | .get _ => .ok y st
  | .len => (match y.1 with
    | .d (.int n) => if 0 ≤ n ∧ n < 4611686018427387904 then .ok (.d (.int n), false) st else .no
    | _ => .no)
  | .str => (match y.1 with
    | .d (.str z) => .ok (.d (.str z), false) st
    | _ => .no)
  | _ => .no
/-- with what an own object may be compared -/
def eqoR : Vl → Bool
  | .d .none => true
  | .d (.tuple _) => true
  | .d (.dict [(.int (.ofNat _), .tuple _)]) => true
  | _ => false
def eqoB (ne : Bool) (y : Vl) (st : Store) : R (Vl × Bool) := match y with
  | .d (.bool b) => .ok (.d (.bool (if ne then !b else b)), false) st
  | _ => .no
/-- a part joins a text -/
def fmt1 (acc : Str) : Vl → Option Str
  | .d (.str y) => if y.length ≤ limZ ∧ (acc ++ y).length ≤ limZ then some (acc ++ y) else none
  | .d (.int i) => if i.natAbs.log2 < 1920 ∧ (acc ++ (toString i : Str)).length ≤ limZ then some (acc ++ (toString i : Str)) else none
  | _ => none
def rgI : List Vl → Option (Int × Int)
  | [.d (.int n)] => some (0, n)
  | [.d (.int i), .d (.int j)] => some (i, j)
  | _ => none
def fitR (i j : Int) : Bool := decide (-4611686018427387904 ≤ i ∧ i < 4611686018427387904 ∧ -4611686018427387904 ≤ j ∧ j < 4611686018427387904 ∧ (j - i).toNat ≤ 16777216)
def rgD (i j : Int) : List PyData := (List.range (j - i).toNat).map fun k => .int (i + (k : Nat))
def isTupD : PyData → Bool
  | .tuple _ => true
  | _ => false
def lenK : PyData → PyData
  | .tuple l => .int l.length
  | _ => .int 0
def sortL (l : List PyData) : Option (List PyData) := if l.all isTupD = true ∧ l.length ≤ limZ then some (PySem.W.mergeSortF (PySem.W.dataLe false lenK) l.length l) else none
def minOf : List Int → PyData
  | [] => .none
  | i :: r => .int (r.foldl min i)
def pairsK : List PyData → Option (List (Key × PyData))
  | [] => some []
  | k :: v :: r => match toKey k, pairsK r with
    | some q, some qs => some ((q, v) :: qs)
    | _, _ => none
  | _ => none
abbrev CallF := Nat → List Vl → Store → R (Vl × Bool)
def getV (env : Env) (i : Nat) (st : Store) : R (Vl × Bool) := match env[i]? with
  | some (some v) => .ok (v, false) st
  | _ => .no

def optI : List Vl → Option (Option Int)
  | [] => some none
  | [.d (.int i)] => some (some i)
  | _ => none
def slcD (x : Option PyData) (lo hi : Option Int) : Option (PyData × Bool) :=
  match x with
  | some (.list l) => some (.list (cutD l lo hi), true)
  | some (.tuple l) => some (.tuple (cutD l lo hi), false)
  | _ => none
def slcV (st : Store) (v : Vl) (lo hi : Option Int) : Option (PyData × Bool) :=
  match v with
  | .scr ns => some (.list (cutD (ns.map PyData.int) lo hi), true)
  | v => slcD (datD st v) lo hi

mutual
def evE (cf nf : CallF) : Ex → Env → Store → R (Vl × Bool)
  | .spl t fl es, env, st => (evFs cf nf es fl env st).bind fun vs st1 => match frzs st1 vs with
    | some (xs, st2) => if xs.length ≤ limZ then .ok (.d (if t then .tuple xs else .list xs), !t) st2 else .no
    | none => .no
  | .met _ m e, env, st => metV m (evE cf nf e env st)
  | .prop k o cs, env, st => (evE cf nf o env st).bind fun x st1 => match propV cs x.1 with
    | some f => (R.calm (cf f [x.1] st1)).bind fun y st2 => propR k y st2
    | none => .no
  | .eqo ne a b cs, env, st => (evE cf nf a env st).bind fun x st1 => (evE cf nf b env st1).bind fun y st2 => if eqoR y.1 = true then match propV cs x.1 with
    | some f => (R.calm (cf f [x.1, y.1] st2)).bind fun z st3 => eqoB ne z.1 st3
    | none => .no else .no
  | .trng t es, env, st => (evEs cf nf es env st).bind fun vs st1 => match rgI vs with
    | some p => if fitR p.1 p.2 = true then .ok (.d (if t then .tuple (rgD p.1 p.2) else .list (rgD p.1 p.2)), !t) st1 else .no
    | none => .no
  | .srtL a, env, st => (evE cf nf a env st).bind fun x st1 => retO ((((datD st1 x.1).bind listOf).bind sortL).map fun l => (.list l, true)) st1
  | .minN a, env, st => (evE cf nf a env st).bind fun x st1 => retP ((((datD st1 x.1).bind listOf).bind intsOf).map minOf) st1
  | .callS f fl as, env, st => (evFs cf nf as fl env st).bind fun vs st1 => cf f vs st1
  | .dct es, env, st => (evEs cf nf es env (st ++ [some (.dK [])])).bind fun vs st1 => match frzs st1 vs with
    | some (xs, st2) => match pairsK xs, getO st2 st.length with
      | some kvs, some (.dK []) => if kvs.length ≤ 15 then .ok (.ref st.length, false) (st2.set st.length (some (.dK (kvs.foldl (fun acc p => putK p.1 p.2 acc) [])))) else .no
      | _, _ => .no
    | none => .no
  | .fstr es, env, st => (evJs cf nf es Str.empty env st).bind fun z st1 => .ok (.d (.str z), false) st1
  | .con x, _, st => .ok (.d x, false) st
  | .glo _ x, _, st => .ok (.d x, false) st
  | .gtu _ l, _, st => .ok (.kc l, false) st
  | .var i, env, st => getV env i st
  | .tup es, env, st => (evEs cf nf es env st).bind fun vs st1 => match frzs st1 vs with
    | some (xs, st2) => if xs.length ≤ limZ then .ok (.d (.tuple xs), false) st2 else .no
    | none => .no
  | .lst es, env, st => (evEs cf nf es env st).bind fun vs st1 => match frzs st1 vs with
    | some (xs, st2) => if xs.length ≤ limZ then .ok (.d (.list xs), true) st2 else .no
    | none => .no
  | .dnew t, _, st => .ok (.ref st.length, false) (st ++ [some (if t then .dT [] else .dK [])])
  | .bin op a b, env, st => (evE cf nf a env st).bind fun x st1 => (evE cf nf b env st1).bind fun y st2 =>
      match datD st2 x.1, datD st2 y.1 with
      | some u, some v => retO (binD op u v) st2
      | _, _ => .no
  | .un op a, env, st => (evE cf nf a env st).bind fun x st1 => match datD st1 x.1 with
    | some u => retP (unD op u) st1
    | none => .no
  | .cmp op a b, env, st => (evE cf nf a env st).bind fun x st1 => (evE cf nf b env st1).bind fun y st2 => retB (cmpV op st2 x.1 y.1) st2
  | .chain o1 o2 a b c, env, st => (evE cf nf a env st).bind fun x st1 => (evE cf nf b env st1).bind fun y st2 => match cmpV o1 st2 x.1 y.1 with
    | some true => (evE cf nf c env st2).bind fun z st3 => retB (cmpV o2 st3 y.1 z.1) st3
    | some false => .ok (.d (.bool false), false) st2
    | none => .no
  | .and_ a b, env, st => (evE cf nf a env st).bind fun x st1 => match truV st1 x.1 with
    | some true => evE cf nf b env st1
    | some false => .ok (x.1, false) st1
    | none => .no
  | .or_ a b, env, st => (evE cf nf a env st).bind fun x st1 => match truV st1 x.1 with
    | some false => evE cf nf b env st1
    | some true => .ok (x.1, false) st1
    | none => .no
  | .not_ a, env, st => (evE cf nf a env st).bind fun x st1 => retB ((truV st1 x.1).map (!·)) st1
  | .ife c a b, env, st => (evE cf nf c env st).bind fun x st1 => match truV st1 x.1 with
    | some true => evE cf nf a env st1
    | some false => evE cf nf b env st1
    | none => .no
  | .idx a b, env, st => (evE cf nf a env st).bind fun x st1 => (evE cf nf b env st1).bind fun y st2 => retP (idxV st2 x.1 y.1) st2
  | .slc a lo hi, env, st => (evE cf nf a env st).bind fun x st1 => (evEs cf nf lo env st1).bind fun l st2 => match optI l with
      | some l => (evEs cf nf hi env st2).bind fun h st3 => match optI h with
        | some h => retO (slcV st3 x.1 l h) st3
        | none => .no
      | none => .no
  | .call f as, env, st => (evEs cf nf as env st).bind fun vs st1 => cf f vs st1
  | .new c as, env, st => (evEs cf nf as env st).bind fun vs st1 => nf c vs st1
  | .bi b as, env, st => (evEs cf nf as env st).bind fun vs st1 => biV b vs st1
  | .mt m o as, env, st => (evE cf nf o env st).bind fun x st1 => if mtK m st1 x.1 = true then (evEs cf nf as env st1).bind fun vs st2 => mtV m x.1 vs st2 else .no
  | .fld o cs, env, st => (evE cf nf o env st).bind fun x st1 => retP (fldV cs st1 x.1) st1
  | .isi e ts, env, st => (evE cf nf e env st).bind fun x st1 => retB (isTys st1 x.1 ts) st1
  | .dkLe j i _ c, env, st => match env[j]? with
    | some (some (.ref n)) => (match getO st n with
      | some (.dK kvs) => (match intKs kvs with
        | some l => if l.length ≤ limZ ∧ i < env.length then .ok (.d (.list ((l.filter fun k => decide (k ≤ c)).map .int)), true) st else .no
        | none => .no)
      | _ => .no)
    | _ => .no
  | .zipL es, env, st => (evEs cf nf es env st).bind fun vs st1 => match walkZ vs with
    | some l => if l.length ≤ limZ ∧ l.all notSP = true then .ok (.d (.list l), true) st1 else .no
    | none => .no
  | .compR elt tg a ifs, env, st => (evE cf nf a env st).bind fun v st1 => match walkOR v.1 st1 with
    | some items => if items.length ≤ limZ then R.calm ((clpW (okW v.1 st1) (fun x s => match setT x env tg with
        | some env' => (evEs cf nf ifs env' s).bind fun cs s1 => match cs with
          | [] => (evE cf nf elt env' s1).bind fun y s2 => match frz s2 y.1 with
            | some (z, s3) => .ok (some z) s3
            | none => .no
          | [c] => match truV s1 c with
            | some true => (evE cf nf elt env' s1).bind fun y s2 => match frz s2 y.1 with
              | some (z, s3) => .ok (some z) s3
              | none => .no
            | some false => .ok none s1
            | none => .no
          | _ => .no
        | none => .no) items st1).bind fun ys st2 => .ok (.d (.list ys), true) st2) else .no
    | none => .no
  | .comp elt tg k es ifs, env, st => (evEs cf nf es env st).bind fun vs st1 => match walkV k vs st1 with
    | some items => if items.length ≤ limZ then R.calm ((clp (fun x s => match setT x env tg with
        | some env' => (evEs cf nf ifs env' s).bind fun cs s1 => match cs with
          | [] => (evE cf nf elt env' s1).bind fun y s2 => match frz s2 y.1 with
            | some (z, s3) => .ok (some z) s3
            | none => .no
          | [c] => match truV s1 c with
            | some true => (evE cf nf elt env' s1).bind fun y s2 => match frz s2 y.1 with
              | some (z, s3) => .ok (some z) s3
              | none => .no
            | some false => .ok none s1
            | none => .no
          | _ => .no
        | none => .no) items st1).bind fun ys st2 => .ok (.d (.list ys), true) st2) else .no
    | none => .no
  termination_by structural e => e
def evEs (cf nf : CallF) : List Ex → Env → Store → R (List Vl)
  | [], _, st => .ok [] st
  | e :: es, env, st => (evE cf nf e env st).bind fun x st1 => (evEs cf nf es env st1).bind fun xs st2 => .ok (x.1 :: xs) st2
  termination_by structural es => es
/-- parts of a text -/
def evJs (cf nf : CallF) : List Ex → Str → Env → Store → R Str
  | [], acc, _, st => .ok acc st
  | e :: es, acc, env, st => (evE cf nf e env st).bind fun x st1 => match fmt1 acc x.1 with
    | some acc2 => evJs cf nf es acc2 env st1
    | none => .no
  termination_by structural es => es
/-- items, some of them starred -/
def evFs (cf nf : CallF) : List Ex → List Bool → Env → Store → R (List Vl)
  | [], _, _, st => .ok [] st
  | e :: es, fl, env, st => (evE cf nf e env st).bind fun x st1 => match fl.headD false with
    | false => (evFs cf nf es fl.tail env st1).bind fun xs st2 => .ok (x.1 :: xs) st2
    | true => match (datD st1 x.1).bind seqOf with
      | some l => (evFs cf nf es fl.tail env st1).bind fun xs st2 => .ok (l.map Vl.d ++ xs) st2
      | none => .no
  termination_by structural es => es
end

/-- a new list -/
def isNew (v : Vl × Bool) : Bool := v.2 && (match v.1 with
  | .d (.list _) => true
  | _ => false)
/-! ### statements -/
inductive SR where
  | nx (env : Env) (st : Store)
  | ret (v : Vl) (fr : Bool) (st : Store)
  | bk (env : Env) (st : Store)
  | ct (env : Env) (st : Store)
  | exc (c : Nat) (p : PyData) (env : Env) (st : Store)
  | no
def SR.bind (r : SR) (f : Env → Store → SR) : SR :=
  match r with
  | .nx env st => f env st
  | .ret v fr st => .ret v fr st
  | .bk env st => .bk env st
  | .ct env st => .ct env st
  | .exc c p env st => .exc c p env st
  | .no => .no
def R.on {α : Type} (r : R α) (env : Env) (f : α → Store → SR) : SR :=
  match r with
  | .ok a st => f a st
  | .exc c p st => .exc c p env st
  | .no => .no
/-- a value comes to stand in a slot: a new list may be changed from now on (t) -/
def thawV (t : Bool) (v : Vl × Bool) (st : Store) : Option (Vl × Store) :=
  match t with
  | false => some (v.1, st)
  | true => match v with
    | (.d (.list l), true) => some (.ref st.length, st ++ [some (.lst l)])
    | (.ref n, _) => some (.ref n, st)
    | _ => none
def putV (t : Bool) (i : Nat) (v : Vl × Bool) (env : Env) (st : Store) : SR :=
  match thawV t v st with
  | some (w, st1) => .nx (env.set i (some w)) st1
  | none => .no
def evTs (cf nf : CallF) : List (Nat × Bool) → List Ex → Env → Store → R (List Vl)
  | [], [], _, st => .ok [] st
  | (i, t) :: is, e :: es, env, st => (evE cf nf e env st).bind fun v st1 => match thawV t v st1 with
    | some (w, st2) => (evTs cf nf is es env st2).bind fun ws st3 => .ok (w :: ws) st3
    | none => .no
  | _, _, _, _ => .no
def setL : List (Nat × Bool) → List Vl → Env → Env
  | (i, _) :: is, v :: vs, env => setL is vs (env.set i (some v))
  | _, _, env => env

def setIV (o i : Vl) (x : PyData) (st : Store) : Option Store :=
  match o, i with
  | .ref n, .d k => match getO st n with
    | some (.lst l) => (match k with
      | .int j => (ixN l.length j).map fun m => st.set n (some (.lst (l.set m x)))
      | _ => none)
    | some (.dK kvs) => (match toKey k with
      | some q => if kvs.length < limZ then some (st.set n (some (.dK (putK q x kvs)))) else none
      | none => none)
    | some (.dT kvs) => (match toTKey k with
      | some q => if kvs.length < limZ then some (st.set n (some (.dT (putK q x kvs)))) else none
      | none => none)
    | _ => none
  | _, _ => none

def wlp (test : Env → Store → R (Option Bool)) (body : Env → Store → SR) : Nat → Env → Store → SR
  | 0, _, _ => .no
  | n + 1, env, st => (test env st).on env fun b st1 => match b with
    | some true => match body env st1 with
      | .nx env' st' => wlp test body n env' st'
      | .ct env' st' => wlp test body n env' st'
      | .bk env' st' => .nx env' st'
      | r => r
    | some false => .nx env st1
    | none => .no
def flpW (ok : Store → Bool) (body : PyData → Env → Store → SR) : List PyData → Env → Store → SR
  | [], env, st => if ok st = true then .nx env st else .no
  | x :: xs, env, st => if ok st = true then (match body x env st with
    | .nx env' st' => flpW ok body xs env' st'
    | .ct env' st' => flpW ok body xs env' st'
    | .bk env' st' => .nx env' st'
    | r => r) else .no
def flp (body : PyData → Env → Store → SR) : List PyData → Env → Store → SR
  | [], env, st => .nx env st
  | x :: xs, env, st => match body x env st with
    | .nx env' st' => flp body xs env' st'
    | .ct env' st' => flp body xs env' st'
    | .bk env' st' => .nx env' st'
    | r => r

mutual
def exS (cf nf : CallF) (fuel : Nat) : Sx → Env → Store → SR
  | .set i e, env, st => (evE cf nf e env st).on env fun v st1 => putV false i v env st1
  | .thaw i e, env, st => (evE cf nf e env st).on env fun v st1 => putV true i v env st1
  | .setz i e, env, st => (evE cf nf e env st).on env fun v st1 => match frz st1 v.1 with
    | some (x, st2) => .nx (env.set i (some (.d x))) st2
    | none => .no
  | .dead, _, _ => .no
  | .par is es, env, st => (evTs cf nf is es env st).on env fun vs st1 => .nx (setL is vs env) st1
  | .unp tg e, env, st => (evE cf nf e env st).on env fun v st1 => match frz st1 v.1 with
    | some (x, st2) => match setT x env tg with
      | some env' => .nx env' st2
      | none => .no
    | none => .no
  | .aug i op e, env, st => match env[i]? with
    | some (some v) => (evE cf nf e env st).on env fun w st1 => match augV op v w.1 with
      | some z => .nx (env.set i (some (.d (.int z)))) st1
      | none => .no
    | _ => .no
  | .setI o i e, env, st => (evE cf nf e env st).on env fun v st1 => (evE cf nf o env st1).on env fun x st2 => (evE cf nf i env st2).on env fun k st3 => match frz st3 v.1 with
    | some (y, st4) => match setIV x.1 k.1 y st4 with
      | some st5 => .nx env st5
      | none => .no
    | none => .no
  | .augI o i op e, env, st => (evE cf nf o env st).on env fun x st1 => (evE cf nf i env st1).on env fun k st2 => match idxR st2 x.1 k.1 with
    | some u => (evE cf nf e env st2).on env fun v st3 => match augV op (.d u) v.1 with
      | some w => match setIV x.1 k.1 (.int w) st3 with
        | some st4 => .nx env st4
        | none => .no
      | none => .no
    | none => .no
  | .setF o cs e, env, st => (evE cf nf e env st).on env fun v st1 => (evE cf nf o env st1).on env fun x st2 => match frz st2 v.1, x.1 with
    | some (y, st3), .ref n => match getO st3 n with
      | some (.obj c fs) => match cs.lookup c with
        | some i => if i < fs.length then .nx env (st3.set n (some (.obj c (fs.set i (some y))))) else .no
        | none => .no
      | _ => .no
    | _, _ => .no
  | .ex e, env, st => (evE cf nf e env st).on env fun _ st1 => .nx env st1
  | .ret e, env, st => (evE cf nf e env st).on env fun v st1 => .ret v.1 v.2 st1
  | .retN, _, st => .ret (.d .none) false st
  | .ifs c a b, env, st => (evE cf nf c env st).on env fun x st1 => match truV st1 x.1 with
    | some true => exSs cf nf fuel a env st1
    | some false => exSs cf nf fuel b env st1
    | none => .no
  | .whl c b, env, st => wlp (fun env st => (evE cf nf c env st).bind fun x st1 => .ok (truV st1 x.1) st1) (fun env st => exSs cf nf fuel b env st) fuel env st
  | .forR tg a b, env, st => (evE cf nf a env st).on env fun v st1 => match walkOR v.1 st1 with
    | some items => flpW (okW v.1 st1) (fun x env st => match setT x env tg with
      | some env' => exSs cf nf fuel b env' st
      | none => .no) items env st1
    | none => .no
  | .for_ tg k es b, env, st => (evEs cf nf es env st).on env fun vs st1 => match walkV k vs st1 with
    | some items => flp (fun x env st => match setT x env tg with
      | some env' => exSs cf nf fuel b env' st
      | none => .no) items env st1
    | none => .no
  | .raise_ c as, env, st => (evEs cf nf as env st).on env fun vs st1 => match vs with
    | [v] => match frz st1 v with
      | some (x, st2) => .exc c x env st2
      | none => .no
    | _ => .no
  | .pass, env, st => .nx env st
  | .brk, env, st => .bk env st
  | .cont, env, st => .ct env st
  termination_by structural s => s
def exSs (cf nf : CallF) (fuel : Nat) : List Sx → Env → Store → SR
  | [], env, st => .nx env st
  | s :: ss, env, st => (exS cf nf fuel s env st).bind fun env1 st1 => exSs cf nf fuel ss env1 st1
  termination_by structural ss => ss
end

/-! ### defs -/
structure Fn where
  np : Nat
  ns : Nat
  body : List Sx
structure Prog where
  fns : List Fn
  /-- a class: its __init__, the number of its slots -/
  cls : List (Nat × Nat)
  /-- the most turns of a while -/
  fuel : Nat

def finV (base : Nat) (v : Vl) (fr : Bool) (st : Store) : R (Vl × Bool) :=
  match v with
  | .ref n => if n < base then .ok (.ref n, false) (st.take base) else match getO st n with
    | some (.lst l) => .ok (.d (.list l), true) (st.take base)
    | some (.dK kvs) => .ok (.ref base, false) (st.take base ++ [some (.dK kvs)])
    | some (.dT kvs) => .ok (.ref base, false) (st.take base ++ [some (.dT kvs)])
    | _ => .no
  | v => .ok (v, fr) (st.take base)
def allSome : List (Option PyData) → Option (List PyData)
  | [] => some []
  | some x :: r => (allSome r).map (x :: ·)
  | none :: _ => none

def isNon : Vl → Bool
  | .d .none => true
  | _ => false
def newV (cf : CallF) (c : Nat × Nat) (ci : Nat) (vs : List Vl) (st : Store) : R (Vl × Bool) :=
  match cf c.1 (.ref st.length :: vs) (st ++ [some (.obj ci (List.replicate c.2 none))]) with
  | .ok v st1 => if isNon v.1 = true then match getO st1 st.length with
    | some (.obj c2 fs) => if c2 = ci then match allSome fs with
      | some xs => .ok (.d (encI ci xs), false) (st1.take st.length)
      | none => .no else .no
    | _ => .no else .no
  | .exc e p st1 => .exc e p (st1.take st.length)
  | .no => .no
def endV (base : Nat) (r : SR) : R (Vl × Bool) :=
  match r with
  | .nx _ st1 => .ok (.d .none, false) (st1.take base)
  | .ret v fr st1 => finV base v fr st1
  | .exc e p _ st1 => .exc e p (st1.take base)
  | _ => .no
mutual
def callN (P : Prog) : Nat → CallF
  | 0 => fun _ _ _ => .no
  | n + 1 => fun f vs st => match P.fns[f]? with
    | some fn => if vs.length = fn.np ∧ fn.np ≤ fn.ns then
        endV st.length (exSs (callN P n) (newN P n) P.fuel fn.body (vs.map some ++ List.replicate (fn.ns - fn.np) none) st)
      else .no
    | none => .no
def newN (P : Prog) : Nat → CallF
  | 0 => fun _ _ _ => .no
  | n + 1 => fun c vs st => match P.cls[c]? with
    | some k => newV (callN P n) k c vs st
    | none => .no
end
end Ev
end

section
set_option Elab.async false
set_option linter.all false
set_option maxRecDepth 100000
set_option maxHeartbeats 4000000
/-! Ev2: how the store and the values of the evaluator stand in the abstract heap. -/
namespace Ev
open PySem L2
/-- F: the part that no one changes any more -/
def Sub (F H : Hp) : Prop := ∀ a o, F a = some o → H a = some o
theorem Sub.refl (F : Hp) : Sub F F := fun _ _ h => h
theorem Sub.trans {F G H : Hp} (a : Sub F G) (b : Sub G H) : Sub F H := fun x o h => b x o (a x o h)
theorem Sub.upd {F H : Hp} {a : Addr} {o : HO} (s : Sub F H) (h : F a = none) : Sub F (upd H a o) := fun b u e => by
  have hne : b ≠ a := fun q => by subst q; rw [h] at e; cases e
  rw [upd_ne hne]; exact s b u e
theorem Sub.updF {F H : Hp} {a : Addr} {o : HO} (s : Sub F H) (h : H a = some o) : Sub (L2.upd F a o) H := fun b u e => by
  by_cases hb : b = a
  · subst hb; rw [upd_same] at e; rw [← e]; exact h
  · rw [upd_ne hb] at e; exact s b u e
theorem Sub.intoF {F : Hp} {a : Addr} {o : HO} (h : F a = none) : Sub F (L2.upd F a o) := fun b u e => by
  have hne : b ≠ a := fun q => by subst q; rw [h] at e; cases e
  rw [upd_ne hne]; exact e

section
variable {K : PySem.W.Frag} {F G : Hp}
theorem Rd.sub (s : Sub F G) {a : Addr} {u : HO} (h : Rd F a u) : Rd G a u := by
  rcases h with h | ⟨o, h⟩
  · exact .inl (s _ _ h)
  · exact .inr ⟨o, s _ _ h⟩
theorem SqL.sub (s : Sub F G) {a : Addr} {xs : List V} (h : SqL K F a xs) : SqL K G a xs := by
  rcases h with h | h
  · exact .inl (Rd.sub s h)
  · exact .inr h
theorem SqT.sub (s : Sub F G) {a : Addr} {xs : List V} (h : SqT K F a xs) : SqT K G a xs := by
  rcases h with h | h
  · exact .inl (Rd.sub s h)
  · exact .inr h
end

/-- a tuple of texts is told by its object (it has no dict), any other one as a tuple -/
def TupO (o : Obj) : Prop := o.cls = .type "tuple" ∧ o.dict = none
def TP (F : Hp) (a : Addr) (xs : List V) (ds : List PyData) : Prop := (isS ds = false ∧ F a = some (.tup xs)) ∨ (isS ds = true ∧ ∃ o, F a = some (.frz o (.tup xs)) ∧ TupO o)
theorem TP.sub {F G : Hp} (s : Sub F G) {a : Addr} {xs : List V} {ds : List PyData} (h : TP F a xs ds) : TP G a xs ds := by
  rcases h with ⟨h1, h⟩ | ⟨h1, o, h, h2⟩
  · exact .inl ⟨h1, s _ _ h⟩
  · exact .inr ⟨h1, o, s _ _ h, h2⟩
theorem TP.sq {F : Hp} {a : Addr} {xs : List V} {ds : List PyData} (h : TP F a xs ds) {K : PySem.W.Frag} : SqT K F a xs := by
  rcases h with ⟨_, h⟩ | ⟨_, o, h, _⟩
  · exact .inl (.inl h)
  · exact .inl (.inr ⟨o, h⟩)
/-- where the classes stand -/
structure KC where
  K : PySem.W.Frag
  cA : Nat → Addr
  /-- how many classes there are -/
  ncl : Nat
  /-- the classes of errors; the attribute in which each keeps what it takes -/
  xA : Nat → Addr
  xf : Nat → Option Str
theorem SlAt.sub {F G : Hp} (s : Sub F G) {x C dx : Addr} {vs : List (Option V)} (h : SlAt F x C dx vs) : SlAt G x C dx vs := by
  obtain ⟨h1, h2, h3⟩ := h
  refine ⟨s _ _ h1, h2, ?_⟩
  rcases h3 with h3 | ⟨e, h3⟩
  · exact .inl (s _ _ h3)
  · exact .inr ⟨e, s _ _ h3⟩
mutual
/-- a value reads as data; lists are the evaluator's own -/
inductive Dq (K : KC) (F : Hp) : V → PyData → Prop where
  | non : Dq K F .non .none
  | bl (b : Bool) : Dq K F (.bl b) (.bool b)
  | int (i : Int) : Dq K F (.int i) (.int i)
  | str (x : Str) : Dq K F (.str x) (.str x)
  | lst {a : Addr} {xs : List V} {ds : List PyData} : F a = some (.lst xs) → DqAll K F xs ds → Dq K F (.ref a) (.list ds)
  | tup {a : Addr} {xs : List V} {ds : List PyData} : TP F a xs ds → DqAll K F xs ds → Dq K F (.ref a) (.tuple ds)
  | d0 {a : Addr} : F a = some (.dK []) → Dq K F (.ref a) (.dict [])
  | ins {c : Nat} {a dx : Addr} {vs : List (Option V)} {fs : List PyData} : c < K.ncl → SlAt F a (K.cA c) dx vs → DqFs K F vs fs → Dq K F (.ref a) (.dict [(.int (.ofNat c), .tuple fs)])
inductive DqAll (K : KC) (F : Hp) : List V → List PyData → Prop where
  | nil : DqAll K F [] []
  | cons {v : V} {vs : List V} {d : PyData} {ds : List PyData} : Dq K F v d → DqAll K F vs ds → DqAll K F (v :: vs) (d :: ds)
/-- the variables of an instance -/
inductive DqFs (K : KC) (F : Hp) : List (Option V) → List PyData → Prop where
  | nil {vs : List (Option V)} : DqFs K F vs []
  | cons {v : V} {vs : List (Option V)} {d : PyData} {ds : List PyData} : Dq K F v d → DqFs K F vs ds → DqFs K F (some v :: vs) (d :: ds)
end
section
variable {K : KC} {F G : Hp}
mutual
theorem Dq.dp (s : Sub F G) : ∀ {d : PyData} {v : V}, noD d = true → Dq K F v d → Dp K.K G v d
  | _, _, _, .non => .non
  | _, _, _, .bl b => .bl b
  | _, _, _, .int i => .int i
  | _, _, _, .str x => .str x
  | _, _, n, .lst h r => .lst (SqL.of (s _ _ h)) (DqAll.dp s (by simpa [noD] using n) r)
  | _, _, n, .tup h r => .tup (h.sub s).sq (DqAll.dp s (by simpa [noD] using n) r)
  | _, _, n, .d0 h => by simp [noD] at n
  | _, _, n, .ins _ _ _ => by simp [noD] at n
theorem DqAll.dp (s : Sub F G) : ∀ {ds : List PyData} {vs : List V}, noDs ds = true → DqAll K F vs ds → DpAll K.K G vs ds
  | _, _, _, .nil => .nil
  | _, _, n, .cons h r => by
    simp only [noDs, Bool.and_eq_true] at n
    exact .cons (Dq.dp s n.1 h) (DqAll.dp s n.2 r)
end
mutual
theorem Dq.sub (s : Sub F G) : ∀ {d : PyData} {v : V}, Dq K F v d → Dq K G v d
  | _, _, .non => .non
  | _, _, .bl b => .bl b
  | _, _, .int i => .int i
  | _, _, .str x => .str x
  | _, _, .lst h r => .lst (s _ _ h) (DqAll.sub s r)
  | _, _, .tup h r => .tup (h.sub s) (DqAll.sub s r)
  | _, _, .d0 h => .d0 (s _ _ h)
  | _, _, .ins hc h r => .ins hc (SlAt.sub s h) (DqFs.sub s r)
theorem DqAll.sub (s : Sub F G) : ∀ {ds : List PyData} {vs : List V}, DqAll K F vs ds → DqAll K G vs ds
  | _, _, .nil => .nil
  | _, _, .cons h r => .cons (Dq.sub s h) (DqAll.sub s r)
theorem DqFs.sub (s : Sub F G) : ∀ {ds : List PyData} {vs : List (Option V)}, DqFs K F vs ds → DqFs K G vs ds
  | _, _, .nil => .nil
  | _, _, .cons h r => .cons (Dq.sub s h) (DqFs.sub s r)
end
end
mutual
theorem noD_lay : ∀ {d : PyData}, d.canLay0 = true → noD d = true
  | .none, _ => rfl
  | .bool _, _ => rfl
  | .int _, _ => rfl
  | .str _, _ => rfl
  | .list l, h => by
    unfold noD
    exact noDs_lay (by simpa [PyData.canLay0] using h)
  | .tuple l, h => by
    unfold noD
    exact noDs_lay (by simpa [PyData.canLay0] using h)
  | .dict _, h => by simp [PyData.canLay0] at h
theorem noDs_lay : ∀ {l : List PyData}, PyData.canLayAll0 l = true → noDs l = true
  | [], _ => rfl
  | x :: r, h => by
    simp only [PyData.canLayAll0, Bool.and_eq_true] at h
    unfold noDs
    rw [Bool.and_eq_true]
    exact ⟨noD_lay h.1, noDs_lay h.2⟩
end
theorem noD_fine {d : PyData} (h : fineD d = true) : noD d = true := noD_lay (SeqAt.canLay_of_shaped h)
theorem noDs_mem : ∀ {l : List PyData} {d : PyData}, noDs l = true → d ∈ l → noD d = true
  | [], _, _, h => by simp at h
  | x :: r, d, h, m => by
    unfold noDs at h
    rw [Bool.and_eq_true] at h
    rcases List.mem_cons.mp m with e | m
    · rw [e]; exact h.1
    · exact noDs_mem h.2 m

theorem DqAll.length {K : KC} {F : Hp} : ∀ {vs : List V} {ds : List PyData}, DqAll K F vs ds → vs.length = ds.length
  | _, _, .nil => rfl
  | _, _, .cons _ r => by rw [List.length_cons, List.length_cons, DqAll.length r]
theorem DqAll.at {K : KC} {F : Hp} : ∀ {vs : List V} {ds : List PyData} {i : Nat} {d : PyData}, DqAll K F vs ds → ds[i]? = some d → ∃ v, vs[i]? = some v ∧ Dq K F v d
  | _, _, _, _, .nil, h => by simp at h
  | _, _, 0, _, .cons a _, h => by
    simp at h; subst h
    exact ⟨_, rfl, a⟩
  | _, _, i + 1, _, .cons _ r, h => by
    obtain ⟨v, h1, h2⟩ := DqAll.at (i := i) r (by simpa using h)
    exact ⟨v, by simpa using h1, h2⟩
theorem DqAll.append {K : KC} {F : Hp} : ∀ {vs ws : List V} {ds es : List PyData}, DqAll K F vs ds → DqAll K F ws es → DqAll K F (vs ++ ws) (ds ++ es)
  | _, _, _, _, .nil, h => h
  | _, _, _, _, .cons a r, h => .cons a (DqAll.append r h)
theorem DqAll.set {K : KC} {F : Hp} {v : V} {d : PyData} (h : Dq K F v d) : ∀ {vs : List V} {ds : List PyData} (i : Nat), DqAll K F vs ds → DqAll K F (vs.set i v) (ds.set i d)
  | _, _, _, .nil => .nil
  | _, _, 0, .cons _ r => .cons h r
  | _, _, i + 1, .cons a r => .cons a (DqAll.set h i r)
theorem DqAll.take {K : KC} {F : Hp} : ∀ {vs : List V} {ds : List PyData} (n : Nat), DqAll K F vs ds → DqAll K F (vs.take n) (ds.take n)
  | _, _, 0, _ => by simp; exact .nil
  | _, _, _ + 1, .nil => by simp; exact .nil
  | _, _, n + 1, .cons a r => .cons a (DqAll.take n r)
theorem DqAll.drop {K : KC} {F : Hp} : ∀ {vs : List V} {ds : List PyData} (n : Nat), DqAll K F vs ds → DqAll K F (vs.drop n) (ds.drop n)
  | _, _, 0, h => by simpa using h
  | _, _, _ + 1, .nil => by simp; exact .nil
  | _, _, n + 1, .cons _ r => by simpa using DqAll.drop n r
theorem DqAll.eraseIdx {K : KC} {F : Hp} : ∀ {vs : List V} {ds : List PyData} (n : Nat), DqAll K F vs ds → DqAll K F (vs.eraseIdx n) (ds.eraseIdx n)
  | _, _, _, .nil => by simp; exact .nil
  | _, _, 0, .cons _ r => by simpa using r
  | _, _, n + 1, .cons a r => by simpa using DqAll.cons a (DqAll.eraseIdx n r)
theorem DqAll.dropLast {K : KC} {F : Hp} : ∀ {vs : List V} {ds : List PyData}, DqAll K F vs ds → DqAll K F vs.dropLast ds.dropLast
  | _, _, .nil => .nil
  | _, _, .cons _ .nil => .nil
  | _, _, .cons a (.cons b r) => .cons a (DqAll.dropLast (.cons b r))
theorem DqAll.isEmpty {K : KC} {F : Hp} {vs : List V} {ds : List PyData} (h : DqAll K F vs ds) : vs.isEmpty = ds.isEmpty := by cases h <;> rfl
theorem DqAll.nil_iff {K : KC} {F : Hp} {vs : List V} {ds : List PyData} (h : DqAll K F vs ds) : vs = [] ↔ ds = [] := by cases h <;> simp

theorem DqAll.uncons {K : KC} {F : Hp} {vs : List V} {d : PyData} {ds : List PyData} (h : DqAll K F vs (d :: ds)) : ∃ y ys, vs = y :: ys ∧ Dq K F y d ∧ DqAll K F ys ds := by
  cases h with | cons a b => exact ⟨_, _, rfl, a, b⟩
/-! ### the tables of a program -/
/-- what is known of the whole run -/
structure Tab where
  kc : KC
  /-- lists that are no one's yet -/
  hid : List (Addr × List V)
  /-- tables of code objects -/
  tbs : List (Addr × Str)
abbrev Tab.K (T : Tab) : PySem.W.Frag := T.kc.K
abbrev Tab.cA (T : Tab) : Nat → Addr := T.kc.cA
abbrev Tab.ncl (T : Tab) : Nat := T.kc.ncl

variable (T : Tab)
inductive KvR {κ : Type} (F : Hp) : List (κ × V) → List (κ × PyData) → Prop where
  | nil : KvR F [] []
  | cons {k : κ} {v : V} {d : PyData} {ws : List (κ × V)} {kvs : List (κ × PyData)} : Dq T.kc F v d → KvR F ws kvs → KvR F ((k, v) :: ws) ((k, d) :: kvs)
inductive FsR (F : Hp) : List (Option V) → List (Option PyData) → Prop where
  | nil {vs : List (Option V)} : FsR F vs []
  | none {fs : List (Option PyData)} {vs : List (Option V)} : FsR F vs.tail fs → FsR F vs (Option.none :: fs)
  | some {v : V} {d : PyData} {fs : List (Option PyData)} {vs : List (Option V)} : Dq T.kc F v d → FsR F vs fs → FsR F (some v :: vs) (some d :: fs)
def ObR (F H : Hp) (a : Addr) : Ob → Prop
  | .lst l => ∃ xs, H a = some (.lst xs) ∧ DqAll T.kc F xs l
  | .dK kvs => ∃ ws, H a = some (.dK ws) ∧ KvR T F ws kvs
  | .dT kvs => ∃ ws, H a = some (.dT ws) ∧ KvR T F ws kvs
  | .obj c fs => ∃ dx vs, SlAt H a (T.cA c) dx vs ∧ FsR T F vs fs
/-- the tables stand, what they tell is frozen -/
def TbR (ρ : List Addr) (F H : Hp) : Prop := (∀ p ∈ T.tbs, p.1 ∉ ρ ∧ ∃ ps : Array Value, H p.1 = some (.tbl ps) ∧ TriplesOk ps.toList ∧ ∀ (pos : Pos) (cv : Value), codeAmong pos ps.toList = some cv → ∃ c, cv = .ref c ∧ F c = some (LamX.CodeO c p.2)) ∧ ∀ b ps, F b ≠ some (.tbl ps)
structure Rl (ρ : List Addr) (F H : Hp) (st : Store) : Prop where
  sub : Sub F H
  len : ρ.length = st.length
  nd : ρ.Nodup
  trk : ∀ a ∈ ρ, ∃ u, H a = some u ∧ ∀ ps, u ≠ .tbl ps
  obj : ∀ n o, getO st n = some o → ∃ a, ρ[n]? = some a ∧ F a = none ∧ ObR T F H a o
  hid : ∀ p ∈ T.hid, H p.1 = some (.lst p.2) ∧ F p.1 = none ∧ p.1 ∉ ρ
  tb : TbR T ρ F H
def VlR (ρ : List Addr) (F : Hp) : Vl → V → Prop
  | .d x, v => Dq T.kc F v x
  | .ref n, v => ∃ a, v = .ref a ∧ ρ[n]? = some a
  | .scr ns, v => ∃ a, v = .ref a ∧ SqL T.K F a (ns.map V.int)
  | .kc l, v => ∃ a, v = .ref a ∧ SqT T.K F a (l.map V.str)
def FrR (ρ : List Addr) (F H : Hp) (v : Vl × Bool) (x : V) : Prop :=
  (isNew v = false ∧ VlR T ρ F v.1 x) ∨ (v.2 = true ∧ ∃ l a xs, v.1 = .d (.list l) ∧ x = .ref a ∧ H a = some (.lst xs) ∧ F a = none ∧ a ∉ ρ ∧ DqAll T.kc F xs l ∧ ∀ q ∈ T.hid, q.1 ≠ a)
inductive VlsR (ρ : List Addr) (F : Hp) : List Vl → List V → Prop where
  | nil : VlsR ρ F [] []
  | cons {v : Vl} {x : V} {vs : List Vl} {xs : List V} : VlR T ρ F v x → VlsR ρ F vs xs → VlsR ρ F (v :: vs) (x :: xs)
/-- the frame; the slots at S are not told -/
structure EnvR (ρ : List Addr) (F : Hp) (S : List Nat) (env : Env) (σ : L2.St) : Prop where
  len : env.length = σ.length
  get : ∀ i v, i ∉ S → env[i]? = some (some v) → ∃ x, σ[i]? = some (some x) ∧ VlR T ρ F v x

section
variable {T} {ρ ρ' : List Addr} {F F' H H' : Hp} {st st' : Store}
theorem pre_get {α : Type} {l l' : List α} (p : l <+: l') {n : Nat} {a : α} (h : l[n]? = some a) : l'[n]? = some a := by
  obtain ⟨t, rfl⟩ := p
  rw [List.getElem?_append_left (List.getElem?_eq_some_iff.mp h).1]; exact h
theorem KvR.sub {κ : Type} (s : Sub F F') : ∀ {ws : List (κ × V)} {kvs : List (κ × PyData)}, KvR T F ws kvs → KvR T F' ws kvs
  | _, _, .nil => .nil
  | _, _, .cons h r => .cons (Dq.sub s h) (KvR.sub s r)
theorem FsR.sub (s : Sub F F') : ∀ {vs : List (Option V)} {fs : List (Option PyData)}, FsR T F vs fs → FsR T F' vs fs
  | _, _, .nil => .nil
  | _, _, .none r => .none (FsR.sub s r)
  | _, _, .some h r => .some (Dq.sub s h) (FsR.sub s r)
theorem VlR.mono (p : ρ <+: ρ') (s : Sub F F') : ∀ {v : Vl} {x : V}, VlR T ρ F v x → VlR T ρ' F' v x
  | .d _, _, h => Dq.sub s h
  | .ref _, _, ⟨a, e, h⟩ => ⟨a, e, pre_get p h⟩
  | .scr _, _, ⟨a, e, h⟩ => ⟨a, e, SqL.sub s h⟩
  | .kc _, _, ⟨a, e, h⟩ => ⟨a, e, SqT.sub s h⟩
theorem VlsR.mono (p : ρ <+: ρ') (s : Sub F F') : ∀ {vs : List Vl} {xs : List V}, VlsR T ρ F vs xs → VlsR T ρ' F' vs xs
  | _, _, .nil => .nil
  | _, _, .cons h r => .cons (VlR.mono p s h) (VlsR.mono p s r)
theorem EnvR.mono (p : ρ <+: ρ') (s : Sub F F') {S : List Nat} {env : Env} {σ : L2.St} (h : EnvR T ρ F S env σ) : EnvR T ρ' F' S env σ :=
  ⟨h.len, fun i v hs e => let ⟨x, h1, h2⟩ := h.get i v hs e; ⟨x, h1, VlR.mono p s h2⟩⟩
theorem ObR.keep {a : Addr} (k : ∀ b u, H b = some u → (b = a ∨ u = .own a) → H' b = some u) (s : Sub F F') : ∀ {o : Ob}, ObR T F H a o → ObR T F' H' a o
  | .lst _, ⟨xs, h, r⟩ => ⟨xs, k _ _ h (.inl rfl), DqAll.sub s r⟩
  | .dK _, ⟨xs, h, r⟩ => ⟨xs, k _ _ h (.inl rfl), KvR.sub s r⟩
  | .dT _, ⟨xs, h, r⟩ => ⟨xs, k _ _ h (.inl rfl), KvR.sub s r⟩
  | .obj _ _, ⟨dx, vs, ⟨h1, h2, h3⟩, r⟩ => ⟨dx, vs, ⟨k _ _ h1 (.inr rfl), h2, h3.elim (fun h => .inl (k _ _ h (.inl rfl))) fun ⟨e, h⟩ => .inr ⟨e, k _ _ h (.inl rfl)⟩⟩, FsR.sub s r⟩
theorem TbR.step (t : TbR T ρ F H) (k : ∀ b ps, H b = some (.tbl ps) → b ∉ ρ → H' b = some (.tbl ps)) (s : Sub F F') (n : ∀ b ps, F' b ≠ some (.tbl ps)) : TbR T ρ F' H' :=
  ⟨fun p hp => let ⟨h0, ps, h1, h2, h3⟩ := t.1 p hp; ⟨h0, ps, k _ _ h1 h0, h2, fun pos cv hc => let ⟨c, e1, e2⟩ := h3 pos cv hc; ⟨c, e1, s _ _ e2⟩⟩, n⟩
theorem TbR.no (t : TbR T ρ F H) {a : Addr} {o : HO} (ho : ∀ ps, o ≠ .tbl ps) : ∀ b ps, upd F a o b ≠ some (.tbl ps) := fun b ps e => by
  by_cases hb : b = a
  · rw [hb, upd_same] at e; exact ho ps (Option.some.inj e)
  · rw [upd_ne hb] at e; exact t.2 b ps e
theorem TbR.chg (t : TbR T ρ F H) {a : Addr} {u : HO} (ha : a ∈ ρ ∨ ∃ o, H a = some o ∧ ∀ ps, o ≠ .tbl ps) : TbR T ρ F (upd H a u) := t.step (fun b ps e hb => by
  have hne : b ≠ a := fun z => by
    subst z
    rcases ha with ha | ⟨o, h1, h2⟩
    · exact hb ha
    · rw [h1] at e; exact h2 ps (Option.some.inj e)
  rw [upd_ne hne]; exact e) (Sub.refl F) t.2
theorem TbR.sub {ρ' : List Addr} (t : TbR T ρ F H) (s : ∀ a ∈ ρ', a ∈ ρ ∨ ∃ o, H a = some o ∧ ∀ ps, o ≠ .tbl ps) : TbR T ρ' F H :=
  ⟨fun p hp => let ⟨h0, ps, h1, h2⟩ := t.1 p hp; ⟨fun z => (s _ z).elim h0 fun ⟨o, q1, q2⟩ => by rw [h1] at q1; exact q2 ps (Option.some.inj q1).symm, ps, h1, h2⟩, t.2⟩
/-- what was tracked is kept, F grows within -/
theorem Rl.grow (h : Rl T ρ F H st) (k : ∀ b u, H b = some u → H' b = some u) (s : Sub F F') (s' : Sub F' H') (hn : ∀ a ∈ ρ, F a = none → F' a = none) (hh : ∀ p ∈ T.hid, F' p.1 = none) (nt : ∀ b ps, F' b ≠ some (.tbl ps)) : Rl T ρ F' H' st :=
  ⟨s', h.len, h.nd, fun a ha => let ⟨u, e, n⟩ := h.trk a ha; ⟨u, k _ _ e, n⟩, fun n o e => let ⟨a, h1, h2, h3⟩ := h.obj n o e; ⟨a, h1, hn a (List.mem_of_getElem? h1) h2, h3.keep (fun b u e _ => k b u e) s⟩, fun p hp => let ⟨h1, _, h3⟩ := h.hid p hp; ⟨k _ _ h1, hh p hp, h3⟩, h.tb.step (fun b ps e _ => k _ _ e) s nt⟩
/-- a new address is tracked -/
theorem Rl.new {p : Addr} {o : HO} (h : Rl T ρ F H st) (hp : H p = none) : Rl T ρ F (upd H p o) st :=
  h.grow (fun b u e => by rw [upd_ne (ne_of_none e hp)]; exact e) (Sub.refl F) (h.sub.trans (fun b u e => by rw [upd_ne (ne_of_none e hp)]; exact e)) (fun _ _ h => h) (fun p hp => (h.hid p hp).2.1) h.tb.2
theorem Rl.noneF {p : Addr} (h : Rl T ρ F H st) (hp : H p = none) : F p = none := by
  cases e : F p with
  | none => rfl
  | some u => have := h.sub p u e; rw [hp] at this; cases this
theorem Rl.notin {p : Addr} (h : Rl T ρ F H st) (hp : H p = none) : p ∉ ρ := fun q => by
  obtain ⟨u, e, _⟩ := h.trk p q
  rw [hp] at e; cases e
theorem Rl.nohid {p : Addr} (h : Rl T ρ F H st) (hp : H p = none) : ∀ q ∈ T.hid, q.1 ≠ p := fun q hq z => by
  have := (h.hid q hq).1
  rw [z, hp] at this; cases this
theorem ObR.there2 {a : Addr} : ∀ {o : Ob}, ObR T F H a o → ∃ u, H a = some u ∧ ∀ ps, u ≠ .tbl ps
  | .lst _, ⟨_, h, _⟩ => ⟨_, h, fun _ z => nomatch z⟩
  | .dK _, ⟨_, h, _⟩ => ⟨_, h, fun _ z => nomatch z⟩
  | .dT _, ⟨_, h, _⟩ => ⟨_, h, fun _ z => nomatch z⟩
  | .obj _ _, ⟨_, _, ⟨_, _, h⟩, _⟩ => h.elim (fun h => ⟨_, h, fun _ z => by unfold SlO at z; cases z⟩) fun ⟨_, h⟩ => ⟨_, h, fun _ z => nomatch z⟩
theorem ObR.there {a : Addr} : ∀ {o : Ob}, ObR T F H a o → ∃ u, H a = some u
  | .lst _, ⟨_, h, _⟩ => ⟨_, h⟩
  | .dK _, ⟨_, h, _⟩ => ⟨_, h⟩
  | .dT _, ⟨_, h, _⟩ => ⟨_, h⟩
  | .obj _ _, ⟨_, _, ⟨_, _, h⟩, _⟩ => h.elim (fun h => ⟨_, h⟩) fun ⟨_, h⟩ => ⟨_, h⟩
/-- a new address is tracked and frozen -/
theorem Rl.newF {p : Addr} {o : HO} (h : Rl T ρ F H st) (hp : H p = none) (hr : p ∉ ρ := h.notin hp) (ho : ∀ ps, o ≠ .tbl ps := by intro _ z; cases z) : Rl T ρ (upd F p o) (upd H p o) st ∧ Sub F (upd F p o) := by
  have hF := h.noneF hp
  refine ⟨h.grow (fun b u e => by rw [upd_ne (ne_of_none e hp)]; exact e) (Sub.intoF hF) (fun b u e => ?_) (fun a ha hn => ?_) (fun q hq => ?_) (h.tb.no ho), Sub.intoF hF⟩
  · by_cases hb : b = p
    · subst hb; rw [upd_same] at e ⊢; exact e
    · rw [upd_ne hb] at e ⊢; exact h.sub b u e
  · rw [upd_ne (by rintro rfl; exact hr ha)]; exact hn
  · obtain ⟨q1, q2, _⟩ := h.hid q hq
    rw [upd_ne (ne_of_none q1 hp)]; exact q2
/-- what is tracked already is frozen -/
theorem Rl.freeze {p : Addr} {o : HO} (h : Rl T ρ F H st) (hp : H p = some o) (hF : F p = none) (hr : p ∉ ρ) (hh : ∀ q ∈ T.hid, q.1 ≠ p) (ho : ∀ ps, o ≠ .tbl ps := by intro _ z; cases z) : Rl T ρ (upd F p o) H st ∧ Sub F (upd F p o) :=
  ⟨h.grow (fun _ _ e => e) (Sub.intoF hF) (h.sub.updF hp) (fun a ha hn => by rw [upd_ne (by rintro rfl; exact hr ha)]; exact hn) (fun q hq => by rw [upd_ne (hh q hq)]; exact (h.hid q hq).2.1) (h.tb.no ho), Sub.intoF hF⟩
theorem getO_append {o : Option Ob} {n : Nat} {x : Ob} (h : getO (st ++ [o]) n = some x) : getO st n = some x ∨ (n = st.length ∧ o = some x) := by
  unfold getO at h
  by_cases hn : n < st.length
  · rw [List.getElem?_append_left hn] at h; exact .inl h
  · by_cases he : n = st.length
    · subst he
      rw [List.getElem?_append_right (Nat.le_refl _), Nat.sub_self] at h
      exact .inr ⟨rfl, by simpa [Option.join] using h⟩
    · have : (st ++ [o])[n]? = none := List.getElem?_eq_none_iff.mpr (by simp; omega)
      rw [this] at h; cases h
theorem getO_lt {n : Nat} {x : Ob} (h : getO st n = some x) : n < st.length := by
  unfold getO at h
  cases e : st[n]? with
  | none => rw [e] at h; cases h
  | some u => exact (List.getElem?_eq_some_iff.mp e).1
/-- an object joins the store -/
theorem Rl.push {a : Addr} {o : Ob} (h : Rl T ρ F H st) (ha : a ∉ ρ) (hF : F a = none) (ho : ObR T F H a o) (hh : ∀ q ∈ T.hid, q.1 ≠ a) : Rl T (ρ ++ [a]) F H (st ++ [some o]) :=
  ⟨h.sub, by simp [h.len], List.nodup_append.mpr ⟨h.nd, by simp, fun x hx y hy => by
    have : y = a := by simpa using hy
    subst this
    exact fun q => ha (q ▸ hx)⟩, fun b hb => by
    rcases List.mem_append.mp hb with hb | hb
    · exact h.trk b hb
    · obtain rfl : b = a := by simpa using hb
      exact ho.there2, fun n x e => by
    rcases getO_append e with e | ⟨rfl, eo⟩
    · obtain ⟨b, h1, h2, h3⟩ := h.obj n x e
      exact ⟨b, by rw [List.getElem?_append_left (by rw [h.len]; exact getO_lt e)]; exact h1, h2, h3⟩
    · obtain rfl := Option.some.inj eo
      exact ⟨a, by rw [← h.len, List.getElem?_append_right (Nat.le_refl _), Nat.sub_self]; rfl, hF, ho⟩, fun q hq => by
    obtain ⟨q1, q2, q3⟩ := h.hid q hq
    exact ⟨q1, q2, fun z => (List.mem_append.mp z).elim q3 fun z => hh q hq (by simpa using z)⟩, h.tb.sub fun b hb => (List.mem_append.mp hb).imp id fun hb => by
    obtain rfl : b = a := by simpa using hb
    exact ho.there2⟩
theorem getO_take {b n : Nat} {x : Ob} (h : getO (st.take b) n = some x) : getO st n = some x ∧ n < b := by
  have hl := getO_lt h
  have hb : n < b := by rw [List.length_take] at hl; omega
  unfold getO at h ⊢
  rw [List.getElem?_take_of_lt hb] at h
  exact ⟨h, hb⟩
/-- the later objects are let go -/
theorem Rl.cut {b : Nat} (h : Rl T ρ F H st) : Rl T (ρ.take b) F H (st.take b) :=
  ⟨h.sub, by simp [h.len], h.nd.sublist (List.take_sublist _ _), fun a ha => h.trk a (List.mem_of_mem_take ha), fun n o e => by
    obtain ⟨e, hb⟩ := getO_take e
    obtain ⟨a, h1, h2, h3⟩ := h.obj n o e
    exact ⟨a, by rw [List.getElem?_take_of_lt hb]; exact h1, h2, h3⟩, fun q hq => let ⟨q1, q2, q3⟩ := h.hid q hq; ⟨q1, q2, fun z => q3 (List.mem_of_mem_take z)⟩, h.tb.sub fun a ha => .inl (List.mem_of_mem_take ha)⟩
theorem getO_set {n m : Nat} {o : Option Ob} {x : Ob} (h : getO (st.set n o) m = some x) : (m = n ∧ o = some x) ∨ (m ≠ n ∧ getO st m = some x) := by
  unfold getO at h ⊢
  by_cases e : m = n
  · subst e
    by_cases hl : m < st.length
    · rw [List.getElem?_set_self hl] at h; exact .inl ⟨rfl, by simpa using h⟩
    · rw [List.getElem?_eq_none_iff.mpr (by simp; omega)] at h; cases h
  · rw [List.getElem?_set_ne (Ne.symm e)] at h; exact .inr ⟨e, h⟩
theorem nodup_at {l : List Addr} (hn : l.Nodup) {i j : Nat} {a : Addr} (hi : l[i]? = some a) (hj : l[j]? = some a) : i = j := by
  obtain ⟨h1, e1⟩ := List.getElem?_eq_some_iff.mp hi
  obtain ⟨h2, e2⟩ := List.getElem?_eq_some_iff.mp hj
  exact (List.getElem_inj hn).mp (e1.trans e2.symm)
/-- an object is given up: it may be frozen -/
theorem Rl.drop {n : Nat} {a : Addr} {o : HO} (h : Rl T ρ F H st) (hn : ρ[n]? = some a) (ho : H a = some o) (hF : F a = none) (hk : ∀ ps, o ≠ .tbl ps := by intro _ z; cases z) : Rl T ρ (upd F a o) H (st.set n none) ∧ Sub F (upd F a o) := by
  refine ⟨⟨h.sub.updF ho, by simp [h.len], h.nd, h.trk, fun m x e => ?_, fun q hq => let ⟨q1, q2, q3⟩ := h.hid q hq; ⟨q1, by rw [upd_ne fun z => q3 (by rw [z]; exact List.mem_of_getElem? hn)]; exact q2, q3⟩, h.tb.step (fun _ _ e _ => e) (Sub.intoF hF) (h.tb.no hk)⟩, Sub.intoF hF⟩
  rcases getO_set e with ⟨_, e⟩ | ⟨hm, e⟩
  · cases e
  · obtain ⟨b, h1, h2, h3⟩ := h.obj m x e
    have hb : b ≠ a := fun q => hm (nodup_at h.nd h1 (q ▸ hn))
    exact ⟨b, h1, by rw [upd_ne hb]; exact h2, h3.keep (fun _ _ e _ => e) (Sub.intoF hF)⟩
/-- an object is changed -/
theorem Rl.put {n : Nat} {a : Addr} {o' : Ob} {u u' : HO} (h : Rl T ρ F H st) (hn : ρ[n]? = some a) (hF : F a = none) (hu : H a = some u) (hown : ∀ x, u ≠ .own x) (ho : ObR T F (upd H a u') a o') : Rl T ρ F (upd H a u') (st.set n (some o')) := by
  refine ⟨h.sub.upd hF, by simp [h.len], h.nd, fun b hb => ?_, fun m x e => ?_, fun q hq => let ⟨q1, q2, q3⟩ := h.hid q hq; ⟨by rw [upd_ne fun z => q3 (by rw [z]; exact List.mem_of_getElem? hn)]; exact q1, q2, q3⟩, h.tb.chg (.inl (List.mem_of_getElem? hn))⟩
  · by_cases hba : b = a
    · subst hba; exact ho.there2
    · obtain ⟨w, hw, hw2⟩ := h.trk b hb
      exact ⟨w, by rw [upd_ne hba]; exact hw, hw2⟩
  rcases getO_set e with ⟨rfl, eo⟩ | ⟨hm, e⟩
  · obtain rfl := Option.some.inj eo
    exact ⟨a, hn, hF, ho⟩
  · obtain ⟨b, h1, h2, h3⟩ := h.obj m x e
    have hb : b ≠ a := fun q => hm (nodup_at h.nd h1 (q ▸ hn))
    refine ⟨b, h1, h2, h3.keep (fun c w e hc => ?_) (Sub.refl F)⟩
    have hca : c ≠ a := by
      rcases hc with rfl | rfl
      · exact hb
      · intro q; subst q; rw [hu] at e; exact hown _ (Option.some.inj e)
    rw [upd_ne hca]; exact e
/-- a fresh list is frozen -/
theorem FrR.frz (h : Rl T ρ F H st) {v : Vl × Bool} {x : V} (r : FrR T ρ F H v x) : ∃ F', Sub F F' ∧ Rl T ρ F' H st ∧ VlR T ρ F' v.1 x := by
  rcases r with ⟨_, r⟩ | ⟨_, l, a, xs, e, rfl, h1, h2, h3, h4, h5⟩
  · exact ⟨F, Sub.refl F, h, r⟩
  · obtain ⟨q1, q2⟩ := h.freeze h1 h2 h3 h5
    refine ⟨_, q2, q1, ?_⟩
    rw [e]
    exact Dq.lst upd_same (DqAll.sub q2 h4)
/-- read as data: a frozen value, or a list of the store -/
def DlR (F H : Hp) (x : V) (d : PyData) : Prop := Dq T.kc F x d ∨ ∃ l a xs, d = .list l ∧ x = .ref a ∧ H a = some (.lst xs) ∧ DqAll T.kc F xs l
theorem DlR.dp (s : Sub F H) {x : V} {d : PyData} (n : noD d = true) (h : DlR (T := T) F H x d) : Dp T.K H x d := by
  rcases h with h | ⟨l, a, xs, rfl, rfl, h1, h2⟩
  · exact Dq.dp s n h
  · exact Dp.lst (SqL.of h1) (DqAll.dp s (by simpa [noD] using n) h2)
theorem DlR.tup {x : V} {l : List PyData} (h : DlR (T := T) F H x (.tuple l)) : ∃ a xs, x = .ref a ∧ TP F a xs l ∧ DqAll T.kc F xs l := by
  rcases h with h | ⟨_, _, _, e, _⟩
  · cases h with | tup h r => exact ⟨_, _, rfl, h, r⟩
  · cases e
theorem DlR.lst (s : Sub F H) {x : V} {l : List PyData} (h : DlR (T := T) F H x (.list l)) : ∃ a xs, x = .ref a ∧ H a = some (.lst xs) ∧ DqAll T.kc F xs l := by
  rcases h with h | ⟨_, a, xs, e, rfl, h1, h2⟩
  · cases h with | lst h r => exact ⟨_, _, rfl, s _ _ h, r⟩
  · cases e; exact ⟨a, xs, rfl, h1, h2⟩
theorem VlR.dat (h : Rl T ρ F H st) {v : Vl} {x : V} {d : PyData} (r : VlR T ρ F v x) (e : datD st v = some d) : DlR (T := T) F H x d := by
  cases v with
  | d y => cases e; exact .inl r
  | ref n =>
    obtain ⟨a, rfl, hn⟩ := r
    unfold datD at e
    cases q : getO st n with
    | none => simp [q] at e
    | some o =>
      cases o with
      | lst l =>
        simp [q] at e; subst e
        obtain ⟨b, h1, _, xs, h2, h3⟩ := h.obj n _ q
        rw [hn] at h1; cases h1
        exact .inr ⟨l, _, xs, rfl, rfl, h2, h3⟩
      | dK _ => simp [q] at e
      | dT _ => simp [q] at e
      | obj _ _ => simp [q] at e
  | scr ns => cases e
  | kc l => cases e
theorem VlR.frzd (h : Rl T ρ F H st) {v : Vl} {x : V} {d : PyData} (r : VlR T ρ F v x) (e : frz st v = some (d, st')) : ∃ F', Sub F F' ∧ Rl T ρ F' H st' ∧ Dq T.kc F' x d := by
  cases v with
  | d y => cases e; exact ⟨F, Sub.refl F, h, r⟩
  | ref n =>
    obtain ⟨a, rfl, hn⟩ := r
    unfold frz at e
    cases q : getO st n with
    | none => simp [q] at e
    | some o =>
      cases o with
      | lst l =>
        simp [q] at e
        obtain ⟨rfl, rfl⟩ := e
        obtain ⟨b, h1, h0, xs, h2, h3⟩ := h.obj n _ q
        rw [hn] at h1; cases h1
        obtain ⟨q1, q2⟩ := h.drop hn h2 h0
        exact ⟨_, q2, q1, Dq.lst upd_same (DqAll.sub q2 h3)⟩
      | dK kvs =>
        cases kvs with
        | cons _ _ => simp [q] at e
        | nil =>
          simp [q] at e
          obtain ⟨rfl, rfl⟩ := e
          obtain ⟨b, h1, h0, xs, h2, h3⟩ := h.obj n _ q
          rw [hn] at h1; cases h1
          cases h3
          obtain ⟨q1, q2⟩ := h.drop hn h2 h0
          exact ⟨_, q2, q1, Dq.d0 upd_same⟩
      | dT _ => simp [q] at e
      | obj _ _ => simp [q] at e
  | scr ns => cases e
  | kc l => cases e
theorem VlsR.frzd : ∀ {vs : List Vl} {xs : List V} {ds : List PyData} {st st' : Store} {F : Hp}, Rl T ρ F H st → VlsR T ρ F vs xs → frzs st vs = some (ds, st') → ∃ F', Sub F F' ∧ Rl T ρ F' H st' ∧ DqAll T.kc F' xs ds
  | _, _, _, _, _, F, h, .nil, e => by cases e; exact ⟨F, Sub.refl F, h, .nil⟩
  | v :: vs, x :: xs, ds, st, st', F, h, .cons r rs, e => by
    unfold frzs at e
    cases q : frz st v with
    | none => simp [q] at e
    | some p =>
      obtain ⟨y, st1⟩ := p
      simp only [q] at e
      obtain ⟨F1, s1, h1, d1⟩ := VlR.frzd h r q
      cases q2 : frzs st1 vs with
      | none => simp [q2] at e
      | some p2 =>
        obtain ⟨ys, st2⟩ := p2
        simp only [q2, Option.some.injEq, Prod.mk.injEq] at e
        obtain ⟨rfl, rfl⟩ := e
        obtain ⟨F2, s2, h2, d2⟩ := VlsR.frzd h1 (VlsR.mono (List.prefix_refl _) s1 rs) q2
        exact ⟨F2, s1.trans s2, h2, .cons (Dq.sub s2 d1) d2⟩
end
end Ev
end

section
set_option Elab.async false
set_option linter.all false
set_option maxRecDepth 100000
set_option maxHeartbeats 4000000
/-! Ev3: the operators. -/
namespace Ev
open PySem L2
abbrev XW := Nat → PyData → List Addr → Hp → Hp → Store → Prop
section
variable (T : Tab) (W : XW)
def OkR {α : Type} (ρ : List Addr) (F : Hp) (r : R α) (k : α → Store → List Addr → Hp → Hp → Prop) : Prop :=
  match r with
  | .ok a st' => ∀ ρ' F' H', ρ <+: ρ' → Sub F F' → Rl T ρ' F' H' st' → k a st' ρ' F' H'
  | .exc c p st' => ∀ ρ' F' H', ρ <+: ρ' → Sub F F' → Rl T ρ' F' H' st' → W c p ρ' F' H' st'
  | .no => False
def OkP (ρ : List Addr) (F : Hp) (r : R (Vl × Bool)) (Q : VK) : Prop := OkR T W ρ F r fun v _ ρ' F' H' => ∀ x, FrR T ρ' F' H' v x → Q x H'
end
section
variable {T : Tab} {W : XW} {ρ ρ' : List Addr} {F F' H H' : Hp} {st st' : Store} {Q : VK}
theorem OkR.mono {α : Type} {r : R α} {k : α → Store → List Addr → Hp → Hp → Prop} (h : OkR T W ρ F r k) (p : ρ <+: ρ') (s : Sub F F') : OkR T W ρ' F' r k := by
  cases r with
  | ok a st' => exact fun ρ2 F2 H2 p2 s2 => h ρ2 F2 H2 (p.trans p2) (s.trans s2)
  | exc c q st' => exact fun ρ2 F2 H2 p2 s2 => h ρ2 F2 H2 (p.trans p2) (s.trans s2)
  | no => exact h
theorem OkR.bind {α β : Type} {r : R α} {f : α → Store → R β} {k : β → Store → List Addr → Hp → Hp → Prop} (h : OkR T W ρ F (r.bind f) k) :
    OkR T W ρ F r fun a st' ρ' F' H' => OkR T W ρ' F' (f a st') k := by
  cases r with
  | ok a st' => exact fun ρ2 F2 H2 p2 s2 _ => OkR.mono h p2 s2
  | exc c q st' => exact h
  | no => exact h
theorem OkR.imp {α : Type} {r : R α} {k k' : α → Store → List Addr → Hp → Hp → Prop} (h : OkR T W ρ F r k) (i : ∀ a st' ρ' F' H', ρ <+: ρ' → Sub F F' → Rl T ρ' F' H' st' → k a st' ρ' F' H' → k' a st' ρ' F' H') : OkR T W ρ F r k' := by
  cases r with
  | ok a st' => exact fun ρ2 F2 H2 p2 s2 h2 => i _ _ _ _ _ p2 s2 h2 (h ρ2 F2 H2 p2 s2 h2)
  | exc c q st' => exact h
  | no => exact h
/-- the result stands as it is -/
theorem OkP.here {v : Vl × Bool} {x : V} (h : OkP T W ρ F (.ok v st) Q) (r : Rl T ρ F H st) (f : FrR T ρ F H v x) : Q x H :=
  h ρ F H (List.prefix_refl _) (Sub.refl F) r x f
theorem OkP.dat {d : PyData} {b : Bool} {x : V} (h : OkP T W ρ F (.ok (.d d, b) st) Q) (r : Rl T ρ F H st) (f : Dq T.kc F x d) (hn : isNew (.d d, b) = false := by first | rfl | simp [isNew]) : Q x H := h.here r (.inl ⟨hn, f⟩)
theorem OkP.newT {l : List PyData} {b : Bool} {xs : List V} {p : Addr} (h : OkP T W ρ F (.ok (.d (.tuple l), b) st) Q) (r : Rl T ρ F H st) (f : DqAll T.kc F xs l) (hs : isS l = false) (hp : H p = none) : Q (.ref p) (upd H p (.tup xs)) := by
  obtain ⟨r2, s2⟩ := r.newF (o := .tup xs) hp
  exact h ρ _ _ (List.prefix_refl _) s2 r2 _ (.inl ⟨by simp [isNew], Dq.tup (.inl ⟨hs, upd_same⟩) (DqAll.sub s2 f)⟩)
/-- a new tuple is laid: one of texts is told by its object -/
theorem OkP.lay {X : Cx} {pins : List (Addr × Obj)} {s : Shared} {σ : L2.St} {l : List PyData} {b : Bool} {xs : List V} {us : List Value} {tk : Tok} (h : OkP T W ρ F (.ok (.d (.tuple l), b) st) Q) (r : Rl T ρ F H st) (I : L2.Inv X pins σ H s) (f : DqAll T.kc F xs l) (hv : Vals xs us) (hz : xs.length ≤ sizeLine) :
    EP X pins σ Q (.ref s.heap.objs.size) { s with toks := tk, heap := s.heap.push { cls := .type "tuple", data := .seq us.toArray } } := by
  have hp := I.hok.fresh (Nat.le_refl s.heap.objs.size)
  by_cases hs : isS l = true
  · let ob : Obj := { cls := .type "tuple", data := .seq us.toArray }
    obtain ⟨r2, s2⟩ := r.newF (o := .frz ob (.tup xs)) hp
    have hg : (s.heap.push ob).get? s.heap.objs.size = some ob := Heap.get?_push_size _ rfl
    refine ⟨.ref s.heap.objs.size, upd H s.heap.objs.size (.frz ob (.tup xs)), I.laid (t' := tk) (fun b u q => Heap.get?_push_of_some _ q) (Nat.le_refl _) ⟨hg, hz, us, hv, ob, hg, rfl, _, rfl⟩, rfl, ?_⟩
    exact h ρ _ _ (List.prefix_refl _) s2 r2 _ (.inl ⟨by simp [isNew], Dq.tup (.inr ⟨hs, ob, upd_same, rfl, rfl⟩) (DqAll.sub s2 f)⟩)
  · have hs : isS l = false := by simpa using hs
    exact laid_tup I hv hz fun q hq => h.newT r f hs hq
theorem OkP.newL {l : List PyData} {b : Bool} {xs : List V} {p : Addr} (h : OkP T W ρ F (.ok (.d (.list l), b) st) Q) (r : Rl T ρ F H st) (f : DqAll T.kc F xs l) (hp : H p = none) : Q (.ref p) (upd H p (.lst xs)) := by
  cases b with
  | true => exact h ρ F _ (List.prefix_refl _) (Sub.refl F) (r.new hp) _ (.inr ⟨rfl, l, p, xs, rfl, rfl, upd_same, r.noneF hp, r.notin hp, f, r.nohid hp⟩)
  | false =>
    obtain ⟨r2, s2⟩ := r.newF (o := .lst xs) hp
    exact h ρ _ _ (List.prefix_refl _) s2 r2 _ (.inl ⟨rfl, Dq.lst upd_same (DqAll.sub s2 f)⟩)
theorem DlR.int {x : V} {i : Int} (h : DlR (T := T) F H x (.int i)) : x = .int i := by
  rcases h with h | ⟨_, _, _, e, _⟩
  · cases h; rfl
  · cases e
theorem DlR.bl {x : V} {i : Bool} (h : DlR (T := T) F H x (.bool i)) : x = .bl i := by
  rcases h with h | ⟨_, _, _, e, _⟩
  · cases h; rfl
  · cases e
theorem DlR.str {x : V} {i : Str} (h : DlR (T := T) F H x (.str i)) : x = .str i := by
  rcases h with h | ⟨_, _, _, e, _⟩
  · cases h; rfl
  · cases e
theorem DlR.non {x : V} (h : DlR (T := T) F H x .none) : x = .non := by
  rcases h with h | ⟨_, _, _, e, _⟩
  · cases h; rfl
  · cases e
theorem limZ_eq : limZ = sizeLine := by rw [sizeLine_eq]; rfl
theorem DqAll.rep {K : KC} {xs : List V} {l : List PyData} (h : DqAll K F xs l) : ∀ n : Nat, DqAll K F (List.replicate n xs).flatten (List.replicate n l).flatten
  | 0 => .nil
  | n + 1 => by
    rw [List.replicate_succ, List.replicate_succ, List.flatten_cons, List.flatten_cons]
    exact DqAll.append h (DqAll.rep h n)
end
def opS : Bop → Operator
  | .add => .Add | .sub => .Sub | .mul => .Mult | .fdiv => .FloorDiv | .mod => .Mod | .pow => .Pow | .shl => .LShift | .shr => .RShift | .band => .BitAnd | .bor => .BitOr | .bxor => .BitXor
section
variable {T : Tab} {W : XW} {X : Cx}
theorem op_binI (op : Bop) : OpR X (binaryOp (opS op)) (fun x y H Q => ∃ i j k, x = .int i ∧ y = .int j ∧ binI op i j = some k ∧ Q (.int k) H) := by
  intro pins s σ H x y v u Q I rx ry ⟨i, j, k, hx, hy, e, q⟩
  cases op <;> simp only [binI] at e
  case add => cases e; exact op_add pins s σ H x y v u Q I rx ry ⟨i, j, hx, hy, q⟩
  case sub => cases e; exact op_sub pins s σ H x y v u Q I rx ry ⟨i, j, hx, hy, q⟩
  case mul =>
    split at e
    · rename_i c; cases e; exact op_mulW pins s σ H x y v u Q I rx ry ⟨i, j, hx, hy, c, q⟩
    · cases e
  case fdiv =>
    split at e
    · rename_i c; cases e; exact op_fdiv pins s σ H x y v u Q I rx ry ⟨i, j, hx, hy, c, q⟩
    · cases e
  case mod =>
    split at e
    · rename_i c; cases e; exact op_mod pins s σ H x y v u Q I rx ry ⟨i, j, hx, hy, c, q⟩
    · cases e
  case pow =>
    split at e
    · rename_i c; cases e
      obtain ⟨c0, c1 | ⟨c1, c2⟩⟩ := c
      · exact op_pow pins s σ H x y v u Q I rx ry ⟨i, j, hx, hy, ⟨c0, c1.1, c1.2⟩, q⟩
      · exact opI (f := binaryOp .Pow) (C := fun i j => 0 ≤ j ∧ j ≤ 1000 ∧ i.natAbs.log2 < 1000) (g := fun i j => i ^ j.toNat) (fun i j _ _ _ _ _ hc q => PyProof.Rows.pow_int hc.1 (by
          have hb : Builtin.Int.intBits i ≤ 1000 := by
            unfold Builtin.Int.intBits
            split
            · omega
            · have := hc.2.2; omega
          have h1 : (Builtin.Int.intBits i : Int) * j ≤ 1000 * j := Int.mul_le_mul_of_nonneg_right (by omega) hc.1
          have := hc.2.1
          omega) q) pins s σ H x y v u Q I rx ry ⟨i, j, hx, hy, ⟨c0, c1, c2⟩, q⟩
    · cases e
  case shl =>
    split at e
    · rename_i c; cases e; exact op_shl pins s σ H x y v u Q I rx ry ⟨i, j, hx, hy, c, q⟩
    · cases e
  case shr =>
    split at e
    · rename_i c; cases e; exact op_shr pins s σ H x y v u Q I rx ry ⟨i, j, hx, hy, c, q⟩
    · cases e
  case band => cases e; exact op_and pins s σ H x y v u Q I rx ry ⟨i, j, hx, hy, q⟩
  case bor => cases e; exact op_or pins s σ H x y v u Q I rx ry ⟨i, j, hx, hy, q⟩
  case bxor => cases e; exact op_xor pins s σ H x y v u Q I rx ry ⟨i, j, hx, hy, q⟩

/-- a result by data, in the state as it is -/
def ResQ (T : Tab) (F H : Hp) (z : PyData) (fr : Bool) (Q : VK) : Prop :=
  (isNew (.d z, fr) = false → ∀ w, Dq T.kc F w z → Q w H) ∧ (∀ l xs p, z = .tuple l → isS l = false → DqAll T.kc F xs l → H p = none → Q (.ref p) (upd H p (.tup xs))) ∧ (∀ l xs p, z = .list l → DqAll T.kc F xs l → H p = none → Q (.ref p) (upd H p (.lst xs))) ∧ (∀ l xs p ob, z = .tuple l → isS l = true → DqAll T.kc F xs l → H p = none → TupO ob → Q (.ref p) (upd H p (.frz ob (.tup xs))))
theorem OkP.newS {l : List PyData} {b : Bool} {xs : List V} {p : Addr} {ob : Obj} (h : OkP T W ρ F (.ok (.d (.tuple l), b) st) Q) (r : Rl T ρ F H st) (f : DqAll T.kc F xs l) (hs : isS l = true) (hp : H p = none) (ho : TupO ob) : Q (.ref p) (upd H p (.frz ob (.tup xs))) := by
  obtain ⟨r2, s2⟩ := r.newF (o := .frz ob (.tup xs)) hp
  exact h ρ _ _ (List.prefix_refl _) s2 r2 _ (.inl ⟨by simp [isNew], Dq.tup (.inr ⟨hs, ob, upd_same, ho⟩) (DqAll.sub s2 f)⟩)
theorem OkP.res {ρ : List Addr} {F H : Hp} {st : Store} {Q : VK} {z : PyData} {b : Bool} (h : OkP T W ρ F (.ok (.d z, b) st) Q) (r : Rl T ρ F H st) : ResQ T F H z b Q :=
  ⟨fun hn w f => h.dat r f hn, fun l xs p e hs f hp => by subst e; exact h.newT r f hs hp, fun l xs p e f hp => by subst e; exact h.newL r f hp, fun l xs p ob e hs f hp ho => by subst e; exact h.newS r f hs hp ho⟩
/-- tuple * int -/
def RepT (X : Cx) : Prop := OpR X (binaryOp .Mult) (fun x y H Q => ∃ l k xs, x = .ref l ∧ y = .int k ∧ SqT X.K H l xs ∧ 0 ≤ k ∧ k ≤ 1000000 ∧ xs.length * k.toNat ≤ sizeLine ∧ ((xs = [] ∨ k = 1) → Q (.ref l) H) ∧ ((∀ p, H p = none → Q (.ref p) (upd H p (.tup (List.replicate k.toNat xs).flatten))) ∨ ∀ p ob, H p = none → TupO ob → Q (.ref p) (upd H p (.frz ob (.tup (List.replicate k.toNat xs).flatten)))))
theorem op_binD (hT : T.K = X.K) (hrep : RepT X) (op : Bop) : OpR X (binaryOp (opS op)) (fun x y H Q => ∃ F a b z fr, Sub F H ∧ DlR (T := T) F H x a ∧ DlR (T := T) F H y b ∧ binD op a b = some (z, fr) ∧ ResQ T F H z fr Q) := by
  intro pins s σ H x y v u Q I rx ry ⟨F, a, b, z, fr, sF, hx, hy, e, q1, q2, q3, q4⟩
  unfold binD at e
  split at e
  · rename_i i j
    cases hk : binI op i j with
    | none => rw [hk] at e; cases e
    | some k =>
      rw [hk] at e; cases e
      exact op_binI op pins s σ H x y v u Q I rx ry ⟨i, j, k, hx.int, hy.int, hk, q1 rfl _ (.int k)⟩
  · rename_i i j
    cases op <;> try (cases e; done)
    simp only at e
    split at e
    · rename_i c; cases e
      exact op_add_str pins s σ H x y v u Q I rx ry ⟨i, j, hx.str, hy.str, by rw [← limZ_eq]; exact c, q1 rfl _ (.str _)⟩
    · cases e
  · rename_i l m
    cases op <;> try (cases e; done)
    simp only at e
    split at e
    · rename_i c; cases e
      obtain ⟨a, xs, rfl, h1, h2⟩ := hx.tup
      obtain ⟨b, ys, rfl, h3, h4⟩ := hy.tup
      refine op_catA pins s σ H _ _ v u Q I rx ry ⟨a, b, xs, ys, rfl, rfl, (h1.sub sF).sq, (h3.sub sF).sq, by rw [h2.length, h4.length, ← limZ_eq]; exact c.1, fun e => ?_, fun _ e => ?_, fun _ _ p hp => ?_⟩
      · have e2 := h2.nil_iff.mp e
        subst e2
        exact q1 rfl _ (Dq.tup h3 h4)
      · have e2 := h4.nil_iff.mp e
        subst e2
        rw [List.append_nil] at q1
        exact q1 rfl _ (Dq.tup h1 h2)
      · exact q2 _ _ p rfl c.2 (DqAll.append h2 h4) hp
    · cases e
  · rename_i l m
    cases op <;> try (cases e; done)
    simp only at e
    split at e
    · rename_i c; cases e
      obtain ⟨a, xs, rfl, h1, h2⟩ := hx.lst sF
      obtain ⟨b, ys, rfl, h3, h4⟩ := hy.lst sF
      exact op_cat pins s σ H _ _ v u Q I rx ry ⟨a, b, xs, ys, rfl, rfl, h1, h3, by rw [h2.length, h4.length, ← limZ_eq]; exact c, fun p hp => q3 _ _ p rfl (DqAll.append h2 h4) hp⟩
    · cases e
  · rename_i l n
    cases op <;> try (cases e; done)
    simp only at e
    cases hk : repN n l with
    | none => rw [hk] at e; cases e
    | some m =>
      rw [hk] at e; cases e
      unfold repN at hk
      split at hk
      · rename_i c; cases hk
        obtain ⟨a, xs, rfl, h1, h2⟩ := hx.tup
        refine hrep pins s σ H _ _ v u Q I rx ry ⟨a, n, xs, rfl, hy.int, (h1.sub sF).sq, c.1, c.2.1, by rw [h2.length, ← limZ_eq]; exact c.2.2, fun e => ?_, ?_⟩
        rotate_left
        · by_cases hs : isS (List.replicate n.toNat l).flatten = true
          · exact .inr fun p ob hp ho => q4 _ _ p ob rfl hs (DqAll.rep h2 _) hp ho
          · exact .inl fun p hp => q2 _ _ p rfl (by simpa using hs) (DqAll.rep h2 _) hp
        have q : (List.replicate n.toNat l).flatten = l := by
          rcases e with e | e
          · have := h2.nil_iff.mp e
            subst this
            simp
          · subst e
            show (List.replicate 1 l).flatten = l
            simp
        rw [q] at q1
        exact q1 rfl _ (Dq.tup h1 h2)
      · cases hk
  · rename_i l n
    cases op <;> try (cases e; done)
    simp only at e
    cases hk : repN n l with
    | none => rw [hk] at e; cases e
    | some m =>
      rw [hk] at e; cases e
      unfold repN at hk
      split at hk
      · rename_i c; cases hk
        obtain ⟨a, xs, rfl, h1, h2⟩ := hx.lst sF
        exact op_rep pins s σ H _ _ v u Q I rx ry ⟨a, n, xs, rfl, hy.int, h1, by omega, by omega, by rw [h2.length, ← limZ_eq]; exact c.2.2, fun p hp => q3 _ _ p rfl (DqAll.rep h2 _) hp⟩
      · cases hk
  · cases e
def rBin (T : Tab) (W : XW) (op : Bop) : R2 := fun x y H Q => ∃ ρ F st u v, Rl T ρ F H st ∧ VlR T ρ F u x ∧ VlR T ρ F v y ∧ OkP T W ρ F (match datD st u, datD st v with
      | some u, some v => retO (binD op u v) st
      | _, _ => .no) Q
theorem op_bin (hT : T.K = X.K) (hrep : RepT X) (op : Bop) : OpR X (binaryOp (opS op)) (rBin T W op) := by
  intro pins s σ H x y v u Q I rx ry ⟨ρ, F, st, a, b, r, ha, hb, h⟩
  split at h
  · rename_i d e h1 h2
    cases hk : binD op d e with
    | none => rw [hk] at h; exact h.elim
    | some z =>
      rw [hk] at h
      exact op_binD hT hrep op pins s σ H x y v u Q I rx ry ⟨F, d, e, z.1, z.2, r.sub, ha.dat r h1, hb.dat r h2, hk, OkP.res h r⟩
  · exact h.elim
theorem op_un (op : Uop) : UnR X (unaryOp (match op with | .neg => .USub | .inv => .Invert)) (fun x H Q => ∃ ρ F st u, Rl T ρ F H st ∧ VlR T ρ F u x ∧ OkP T W ρ F (match datD st u with
    | some u => retP (unD op u) st
    | none => .no) Q) := by
  intro pins s σ H x v Q I rx ⟨ρ, F, st, a, r, ha, h⟩
  split at h
  · rename_i d h1
    cases hk : unD op d with
    | none => rw [hk] at h; exact h.elim
    | some z =>
      rw [hk] at h
      unfold unD at hk
      split at hk
      · rename_i i; cases hk
        exact un_neg pins s σ H x v Q I rx ⟨i, (ha.dat r h1).int, OkP.dat h r (.int _)⟩
      · rename_i i; cases hk
        exact un_inv pins s σ H x v Q I rx ⟨i, (ha.dat r h1).int, OkP.dat h r (.int _)⟩
      · cases hk
  · exact h.elim
end
end Ev
end

section
set_option Elab.async false
set_option linter.all false
set_option maxRecDepth 100000
set_option maxHeartbeats 4000000
/-! Ev4: comparisons, truth, places. -/
namespace Ev
open PySem L2
section
variable {T : Tab} {W : XW} {ρ : List Addr} {F H : Hp} {st : Store} {Q : VK}
theorem toKey_kV {K : KC} {v : V} {d : PyData} {k : Key} (h : Dq K F v d) (e : toKey d = some k) : v = kV k := by
  unfold toKey at e
  split at e
  · cases e; cases h; rfl
  · cases e; cases h; rfl
  · cases e
theorem toKeys_kV {K : KC} : ∀ {ds : List PyData} {vs : List V} {ks : List Key}, DqAll K F vs ds → toKeys ds = some ks → vs = ks.map kV
  | _, _, _, .nil, e => by unfold toKeys at e; cases e; rfl
  | d :: ds, v :: vs, ks, .cons h r, e => by
    unfold toKeys at e
    cases q1 : toKey d with
    | none => simp [q1] at e
    | some k =>
      cases q2 : toKeys ds with
      | none => simp [q1, q2] at e
      | some ks' =>
        simp [q1, q2] at e; subst e
        rw [List.map_cons, toKey_kV h q1, toKeys_kV r q2]
theorem toTKey_kV {K : KC} {v : V} {d : PyData} {ks : List Key} (h : Dq K F v d) (e : toTKey d = some ks) : ∃ b, v = .ref b ∧ F b = some (.tup (ks.map kV)) := by
  unfold toTKey at e
  split at e
  · rename_i l
    split at e
    · rename_i hs
      cases h with
      | tup h1 h2 =>
        rcases h1 with ⟨_, h1⟩ | ⟨h1, _⟩
        · exact ⟨_, rfl, by rw [← toKeys_kV h2 e]; exact h1⟩
        · rw [hs] at h1; cases h1
    · cases e
  · cases e
theorem KvR.look {κ : Type} [DecidableEq κ] (k : κ) : ∀ {ws : List (κ × V)} {kvs : List (κ × PyData)}, KvR T F ws kvs → (lookK k kvs = none → valV ws k = none) ∧ ∀ d, lookK k kvs = some d → ∃ v, valV ws k = some v ∧ Dq T.kc F v d
  | _, _, .nil => ⟨fun _ => rfl, fun _ e => by unfold lookK at e; cases e⟩
  | (k', v) :: ws, (_, d) :: kvs, .cons h r => by
    unfold lookK
    by_cases e : k' = k
    · rw [if_pos e, valV_pos (p := (k', v)) e]
      exact ⟨fun q => by simp at q, fun d' q => by simp at q; subst q; exact ⟨v, rfl, h⟩⟩
    · rw [if_neg e, valV_neg (p := (k', v)) e]
      exact KvR.look k r
theorem KvR.isSome {κ : Type} [DecidableEq κ] (k : κ) {ws : List (κ × V)} {kvs : List (κ × PyData)} (h : KvR T F ws kvs) : (valV ws k).isSome = (lookK k kvs).isSome := by
  obtain ⟨h1, h2⟩ := KvR.look k h
  cases e : lookK k kvs with
  | none => rw [h1 e]; rfl
  | some d => obtain ⟨v, q, _⟩ := h2 d e; rw [q]; rfl
theorem KvR.length {κ : Type} : ∀ {ws : List (κ × V)} {kvs : List (κ × PyData)}, KvR T F ws kvs → ws.length = kvs.length
  | _, _, .nil => rfl
  | _, _, .cons _ r => by rw [List.length_cons, List.length_cons, KvR.length r]
theorem KvR.any {κ : Type} (p : κ → Bool) : ∀ {ws : List (κ × V)} {kvs : List (κ × PyData)}, KvR T F ws kvs → (ws.any fun x => p x.1) = kvs.any fun x => p x.1
  | _, _, .nil => rfl
  | _, _, .cons _ r => by rw [List.any_cons, List.any_cons, KvR.any p r]
theorem KvR.mapp {κ : Type} [DecidableEq κ] (k : κ) {v : V} {d : PyData} (h : Dq T.kc F v d) : ∀ {ws : List (κ × V)} {kvs : List (κ × PyData)}, KvR T F ws kvs → KvR T F (ws.map fun kv => if kv.1 = k then (kv.1, v) else kv) (kvs.map fun kv => if kv.1 = k then (kv.1, d) else kv)
  | _, _, .nil => .nil
  | (k', _) :: _, _, .cons q r => by
    rw [List.map_cons, List.map_cons]
    by_cases e : k' = k
    · simp only [if_pos e]; exact .cons h (KvR.mapp k h r)
    · simp only [if_neg e]; exact .cons q (KvR.mapp k h r)
theorem KvR.append {κ : Type} : ∀ {ws ws' : List (κ × V)} {kvs kvs' : List (κ × PyData)}, KvR T F ws kvs → KvR T F ws' kvs' → KvR T F (ws ++ ws') (kvs ++ kvs')
  | _, _, _, _, .nil, h => h
  | _, _, _, _, .cons q r, h => .cons q (KvR.append r h)
theorem KvR.put {κ : Type} [DecidableEq κ] (k : κ) {v : V} {d : PyData} (h : Dq T.kc F v d) {ws : List (κ × V)} {kvs : List (κ × PyData)} (r : KvR T F ws kvs) : KvR T F (L2.putK ws k v) (Ev.putK k d kvs) := by
  unfold L2.putK Ev.putK
  rw [KvR.any (fun x => decide (x = k)) r]
  split
  · exact KvR.mapp k h r
  · exact KvR.append r (.cons h .nil)

/-- the object of a ref -/
theorem VlR.obj (h : Rl T ρ F H st) {n : Nat} {x : V} {o : Ob} (r : VlR T ρ F (.ref n) x) (e : getO st n = some o) : ∃ a, x = .ref a ∧ ρ[n]? = some a ∧ F a = none ∧ ObR T F H a o := by
  obtain ⟨a, rfl, hn⟩ := r
  obtain ⟨b, h1, h2, h3⟩ := h.obj n o e
  rw [hn] at h1; cases h1
  exact ⟨_, rfl, hn, h2, h3⟩
end

def copS : Cop → CmpOp
  | .eq => .Eq | .ne => .NotEq | .lt => .Lt | .le => .LtE | .gt => .Gt | .ge => .GtE | .is_ => .Is | .isn => .IsNot | .in_ => .In | .nin => .NotIn
section
variable {T : Tab} {W : XW} {X : Cx}
/-- data compared -/
def cmpD (op : Cop) (x y : PyData) : Option Bool := match op with
  | .eq => eqD x y
  | .ne => (eqD x y).map (!·)
  | .lt => ltD x y
  | .gt => ltD y x
  | .le => leD x y
  | .ge => leD y x
  | .is_ => match y with
    | .none => some (match x with | .none => true | _ => false)
    | .bool b => (match x with | .bool a => some (a == b) | _ => none)
    | _ => none
  | .isn => match y with
    | .none => some (match x with | .none => false | _ => true)
    | .bool b => (match x with | .bool a => some (a != b) | _ => none)
    | _ => none
  | .in_ => match y, x with
    | .str t, .str s => some (strIn s t)
    | .list l, _ => inD x l
    | .tuple l, _ => inD x l
    | _, _ => none
  | .nin => match y, x with
    | .str t, .str s => some (!strIn s t)
    | .list l, _ => (inD x l).map (!·)
    | .tuple l, _ => (inD x l).map (!·)
    | _, _ => none
theorem dp_dec {F H : Hp} {x : V} {d : PyData} (h : DlR (T := T) F H x d) : decide (x = V.non) = (match d with | .none => true | _ => false) := by
  rcases h with h | ⟨_, _, _, rfl, rfl, _⟩
  · cases h <;> simp
  · simp
theorem op_eqX (hT : T.K = X.K) (hu : X.A.units + 200 < cLine) : OpR X (compareOp .Eq) (fun x y H Q => ∃ F a b k, Sub F H ∧ DlR (T := T) F H x a ∧ DlR (T := T) F H y b ∧ eqD a b = some k ∧ Q (.bl k) H) := by
  intro pins s σ H x y v u Q I rx ry ⟨F, a, b, k, sF, ha, hb, e, q⟩
  unfold eqD at e
  split at e
  · rename_i i j; cases e
    have ha' := ha.int; have hb' := hb.int; subst ha' hb'
    refine op_eq pins s σ H _ _ v u Q I rx ry ⟨rfl, ?_⟩
    rw [dec_int]; exact q
  · rename_i i j; cases e
    have ha' := ha.str; have hb' := hb.str; subst ha' hb'
    refine op_eq pins s σ H _ _ v u Q I rx ry ⟨rfl, ?_⟩
    rw [dec_str]; exact q
  · split at e
    · rename_i c
      rw [Bool.and_eq_true] at c
      cases e
      exact op_eqD (by omega) pins s σ H _ _ v u Q I rx ry ⟨a, b, by rw [← hT]; exact ha.dp sF (noD_fine c.1), by rw [← hT]; exact hb.dp sF (noD_fine c.2), c.1, c.2, q⟩
    · cases e
theorem op_neX (hT : T.K = X.K) (hu : X.A.units + 200 < cLine) : OpR X (compareOp .NotEq) (fun x y H Q => ∃ F a b k, Sub F H ∧ DlR (T := T) F H x a ∧ DlR (T := T) F H y b ∧ eqD a b = some k ∧ Q (.bl !k) H) := by
  intro pins s σ H x y v u Q I rx ry ⟨F, a, b, k, sF, ha, hb, e, q⟩
  unfold eqD at e
  split at e
  · rename_i i j; cases e
    have ha' := ha.int; have hb' := hb.int; subst ha' hb'
    refine op_ne pins s σ H _ _ v u Q I rx ry ⟨rfl, ?_⟩
    rw [dec_int]; exact q
  · rename_i i j; cases e
    have ha' := ha.str; have hb' := hb.str; subst ha' hb'
    refine op_ne pins s σ H _ _ v u Q I rx ry ⟨rfl, ?_⟩
    rw [dec_str]; exact q
  · split at e
    · rename_i c
      rw [Bool.and_eq_true] at c
      cases e
      exact op_neD (by omega) pins s σ H _ _ v u Q I rx ry ⟨a, b, by rw [← hT]; exact ha.dp sF (noD_fine c.1), by rw [← hT]; exact hb.dp sF (noD_fine c.2), c.1, c.2, q⟩
    · cases e
theorem dl_reads {pins : List (Addr × Obj)} {s : Shared} {σ : L2.St} {F H : Hp} {x : V} {d : PyData} {u : Value} (hT : T.K = X.K) (I : L2.Inv X pins σ H s) (sF : Sub F H) (n : noD d = true) (h : DlR (T := T) F H x d) (r : RelV x u) : ∃ as, Reads s.heap u d as :=
  Dp.reads I d x u (by rw [← hT]; exact h.dp sF n) r
theorem op_ltX (hT : T.K = X.K) (hu : X.A.units + 200 < cLine) (op : Cop) (ho : op = .lt ∨ op = .gt ∨ op = .le ∨ op = .ge) : OpR X (compareOp (copS op)) (fun x y H Q => ∃ F a b k, Sub F H ∧ DlR (T := T) F H x a ∧ DlR (T := T) F H y b ∧ cmpD op a b = some k ∧ Q (.bl k) H) := by
  intro pins s σ H x y v u Q I rx ry ⟨F, a, b, k, sF, ha, hb, e, q⟩
  have r1 := fun n => dl_reads hT I sF n ha rx
  have r2 := fun n => dl_reads hT I sF n hb ry
  have fin : ∀ k', k' = k → EP X pins σ Q (.bool k') s := fun k' e => ⟨.bl k', H, I, rfl, by rw [e]; exact q⟩
  have am : ∀ x y : PyData, PySem.W.alike x y = true → x ≠ .none → y ≠ .none := fun x y h n => PySem.W.ne_none_both h n
  rcases ho with rfl | rfl | rfl | rfl
  · replace e : ltD a b = some k := e
    unfold ltD at e
    split at e
    · rename_i i j; cases e
      have ha' := ha.int; have hb' := hb.int; subst ha' hb'
      exact op_lt pins s σ H _ _ v u Q I rx ry ⟨i, j, rfl, rfl, q⟩
    · split at e
      · cases e
      · rename_i hn
        split at e
        · rename_i c
          simp only [Bool.and_eq_true, decide_eq_true_eq] at c
          obtain ⟨as, r1⟩ := r1 c.1.2.2
          obtain ⟨bs, r2⟩ := r2 c.2.2
          refine PySem.W.lt_data r1 r2 c.1.1 (fun z => hn z) ?_ (fin _ (Option.some.inj e))
          have := Nat.min_le_left a.depth b.depth; omega
        · cases e
  · replace e : ltD b a = some k := e
    unfold ltD at e
    split at e
    · rename_i i j; cases e
      have ha' := ha.int; have hb' := hb.int; subst ha' hb'
      exact op_gt pins s σ H _ _ v u Q I rx ry ⟨_, _, rfl, rfl, q⟩
    · split at e
      · cases e
      · rename_i hn
        split at e
        · rename_i c
          simp only [Bool.and_eq_true, decide_eq_true_eq] at c
          obtain ⟨as, r1⟩ := r1 c.2.2
          obtain ⟨bs, r2⟩ := r2 c.1.2.2
          have c1 : PySem.W.alike a b = true := by rw [PySem.W.alike_comm]; exact c.1.1
          refine PySem.W.gt_data r1 r2 c1 (am _ _ c.1.1 hn) ?_ (fin _ (Option.some.inj e))
          have := Nat.min_le_left a.depth b.depth; omega
        · cases e
  · replace e : leD a b = some k := e
    unfold leD at e
    split at e
    · rename_i i j; cases e
      have ha' := ha.int; have hb' := hb.int; subst ha' hb'
      exact op_le pins s σ H _ _ v u Q I rx ry ⟨i, j, rfl, rfl, q⟩
    · split at e
      · cases e
      · rename_i hn
        split at e
        · rename_i c
          simp only [Bool.and_eq_true, decide_eq_true_eq] at c
          obtain ⟨as, r1⟩ := r1 c.1.2.2
          obtain ⟨bs, r2⟩ := r2 c.2.2
          refine PySem.W.le_data r1 r2 c.1.1 (fun z => hn z) ?_ (fin _ (Option.some.inj e))
          have := Nat.min_le_left a.depth b.depth; omega
        · cases e
  · replace e : leD b a = some k := e
    unfold leD at e
    split at e
    · rename_i i j; cases e
      have ha' := ha.int; have hb' := hb.int; subst ha' hb'
      exact op_ge pins s σ H _ _ v u Q I rx ry ⟨_, _, rfl, rfl, q⟩
    · split at e
      · cases e
      · rename_i hn
        split at e
        · rename_i c
          simp only [Bool.and_eq_true, decide_eq_true_eq] at c
          obtain ⟨as, r1⟩ := r1 c.2.2
          obtain ⟨bs, r2⟩ := r2 c.1.2.2
          have c1 : PySem.W.alike a b = true := by rw [PySem.W.alike_comm]; exact c.1.1
          refine PySem.W.ge_data r1 r2 c1 (am _ _ c.1.1 hn) ?_ (fin _ (Option.some.inj e))
          have := Nat.min_le_left a.depth b.depth; omega
        · cases e
theorem op_inX (hT : T.K = X.K) (hu : X.A.units + 200 < cLine) : OpR X (compareOp .In) (fun x y H Q => ∃ F a b k, Sub F H ∧ DlR (T := T) F H x a ∧ DlR (T := T) F H y b ∧ cmpD .in_ a b = some k ∧ Q (.bl k) H) := by
  intro pins s σ H x y v u Q I rx ry ⟨F, a, b, k, sF, ha, hb, e, q⟩
  have inl : ∀ l, inD a l = some k → fineD a = true ∧ fineD (.list l) = true ∧ (l.any fun z => PyData.eqv z a) = k := fun l h => by
    unfold inD at h
    split at h
    · rename_i c; rw [Bool.and_eq_true] at c; exact ⟨c.1, c.2, Option.some.inj h⟩
    · cases h
  unfold cmpD at e
  simp only at e
  split at e
  · rename_i t z; cases e
    have ha' := ha.str; have hb' := hb.str; subst ha' hb'
    exact op_in_str pins s σ H _ _ v u Q I rx ry ⟨_, _, rfl, rfl, q⟩
  · rename_i l
    obtain ⟨c1, c2, rfl⟩ := inl l e
    exact op_inD (by omega) pins s σ H _ _ v u Q I rx ry ⟨a, l, by rw [← hT]; exact ha.dp sF (noD_fine c1), by rw [← hT]; exact hb.dp sF (noD_fine c2), c1, c2, q⟩
  · rename_i l
    obtain ⟨c1, c2, rfl⟩ := inl l e
    obtain ⟨as, r1⟩ := dl_reads hT I sF (noD_fine c1) ha rx
    obtain ⟨bs, r2⟩ := dl_reads hT I sF (show noD (.tuple l) = true from noD_fine c2) hb ry
    have c2' : PyData.canLayAll0 l = true := SeqAt.canLay_of_shaped c2
    refine SeqAt.in_tuple_reads r2 r1 c2' (SeqAt.canLay_of_shaped c1) ?_ ⟨.bl _, H, I, rfl, q⟩
    have := Nat.min_le_right (PyData.depthAll l) a.depth
    have := SeqAt.depth_of_shaped c1
    omega
  · cases e
theorem op_ninX (hT : T.K = X.K) (hu : X.A.units + 200 < cLine) : OpR X (compareOp .NotIn) (fun x y H Q => ∃ F a b k, Sub F H ∧ DlR (T := T) F H x a ∧ DlR (T := T) F H y b ∧ cmpD .nin a b = some k ∧ Q (.bl k) H) := by
  intro pins s σ H x y v u Q I rx ry ⟨F, a, b, k, sF, ha, hb, e, q⟩
  have inl : ∀ l, (inD a l).map (!·) = some k → fineD a = true ∧ fineD (.list l) = true ∧ (!(l.any fun z => PyData.eqv z a)) = k := fun l h => by
    unfold inD at h
    split at h
    · rename_i c; rw [Bool.and_eq_true] at c; exact ⟨c.1, c.2, Option.some.inj h⟩
    · cases h
  unfold cmpD at e
  simp only at e
  split at e
  · rename_i t z; cases e
    have ha' := ha.str; have hb' := hb.str; subst ha' hb'
    exact op_notin_str pins s σ H _ _ v u Q I rx ry ⟨_, _, rfl, rfl, q⟩
  · rename_i l
    obtain ⟨c1, c2, rfl⟩ := inl l e
    exact op_notInD (by omega) pins s σ H _ _ v u Q I rx ry ⟨a, l, by rw [← hT]; exact ha.dp sF (noD_fine c1), by rw [← hT]; exact hb.dp sF (noD_fine c2), c1, c2, q⟩
  · rename_i l
    obtain ⟨c1, c2, rfl⟩ := inl l e
    obtain ⟨as, r1⟩ := dl_reads hT I sF (noD_fine c1) ha rx
    obtain ⟨bs, r2⟩ := dl_reads hT I sF (show noD (.tuple l) = true from noD_fine c2) hb ry
    have c2' : PyData.canLayAll0 l = true := SeqAt.canLay_of_shaped c2
    refine SeqAt.notIn_tuple_reads r2 r1 c2' (SeqAt.canLay_of_shaped c1) ?_ ⟨.bl _, H, I, rfl, q⟩
    have := Nat.min_le_right (PyData.depthAll l) a.depth
    have := SeqAt.depth_of_shaped c1
    omega
  · cases e
theorem op_cmpD (hT : T.K = X.K) (hu : X.A.units + 200 < cLine) (op : Cop) : OpR X (compareOp (copS op)) (fun x y H Q => ∃ F a b k, Sub F H ∧ DlR (T := T) F H x a ∧ DlR (T := T) F H y b ∧ cmpD op a b = some k ∧ Q (.bl k) H) := by
  cases op with
  | eq => exact op_eqX hT hu
  | ne =>
    intro pins s σ H x y v u Q I rx ry ⟨F, a, b, k, sF, ha, hb, e, q⟩
    replace e : (eqD a b).map (!·) = some k := e
    cases h : eqD a b with
    | none => rw [h] at e; cases e
    | some j =>
      rw [h] at e; cases e
      exact op_neX (T := T) hT hu pins s σ H x y v u Q I rx ry ⟨F, a, b, j, sF, ha, hb, h, q⟩
  | lt => exact op_ltX hT hu .lt (.inl rfl)
  | gt => exact op_ltX hT hu .gt (.inr (.inl rfl))
  | le => exact op_ltX hT hu .le (.inr (.inr (.inl rfl)))
  | ge => exact op_ltX hT hu .ge (.inr (.inr (.inr rfl)))
  | is_ =>
    intro pins s σ H x y v u Q I rx ry ⟨F, a, b, k, sF, ha, hb, e, q⟩
    unfold cmpD at e
    simp only at e
    split at e
    · cases e
      have hb' := hb.non; subst hb'
      exact op_isN pins s σ H _ _ v u Q I rx ry ⟨rfl, by rw [dp_dec ha]; cases a <;> exact q⟩
    · split at e
      · rename_i i j; cases e
        have ha' := ha.bl; have hb' := hb.bl; subst ha' hb'
        refine op_is_bl pins s σ H _ _ v u Q I rx ry ⟨_, _, rfl, rfl, ?_⟩
        cases i <;> cases j <;> exact q
      · cases e
    · cases e
  | isn =>
    intro pins s σ H x y v u Q I rx ry ⟨F, a, b, k, sF, ha, hb, e, q⟩
    unfold cmpD at e
    simp only at e
    split at e
    · cases e
      have hb' := hb.non; subst hb'
      refine op_notN pins s σ H _ _ v u Q I rx ry ⟨rfl, ?_⟩
      rw [dp_dec ha]
      cases a <;> exact q
    · split at e
      · rename_i i j; cases e
        have ha' := ha.bl; have hb' := hb.bl; subst ha' hb'
        refine op_isnot_bl pins s σ H _ _ v u Q I rx ry ⟨_, _, rfl, rfl, ?_⟩
        cases i <;> cases j <;> exact q
      · cases e
    · cases e
  | in_ => exact op_inX hT hu
  | nin => exact op_ninX hT hu
theorem kc_any {l : List Str} {x : Str} : inV (.str x) (l.map V.str) = l.any (· == x) := by
  unfold inV
  rw [List.any_map]
  rfl
theorem op_cmp (hT : T.K = X.K) (hu : X.A.units + 200 < cLine) (op : Cop) : OpR X (compareOp (copS op)) (fun x y H Q => ∃ ρ F st a b k, Rl T ρ F H st ∧ VlR T ρ F a x ∧ VlR T ρ F b y ∧ cmpV op st a b = some k ∧ Q (.bl k) H) := by
  intro pins s σ H x y v u Q I rx ry ⟨ρ, F, st, a, b, k, r, ha, hb, e, q⟩
  have hu1 : X.A.units + 1 < cLine := by omega
  have gen : (match datD st a, datD st b with | some x, some y => cmpD op x y | _, _ => none) = some k → wpAny (model X.prog X.w) X.A (compareOp (copS op) v u) (EP X pins σ Q) X.xe s := fun e => by
    split at e
    · rename_i d1 d2 h1 h2
      exact op_cmpD hT hu op pins s σ H x y v u Q I rx ry ⟨F, d1, d2, k, r.sub, ha.dat r h1, hb.dat r h2, e, q⟩
    · cases e
  unfold cmpV at e
  split at e
  · rename_i n
    split at e
    · rename_i kvs d h1
      obtain ⟨p, rfl, _, _, ws, hp, hk⟩ := VlR.obj r hb h1
      cases h2 : toKey d with
      | none => rw [h2] at e; cases e
      | some kk =>
        rw [h2] at e; cases e
        have e1 := toKey_kV ha h2
        subst e1
        cases ry
        refine d_in hu1 I (DGet.k hp) rx fun s' I' => ⟨.bl _, H, I', rfl, ?_⟩
        rw [KvR.isSome kk hk]; exact q
    · rename_i kvs d h1
      obtain ⟨p, rfl, _, _, ws, hp, hk⟩ := VlR.obj r hb h1
      cases h2 : toTKey d with
      | none => rw [h2] at e; cases e
      | some kk =>
        rw [h2] at e; cases e
        obtain ⟨bb, rfl, e1⟩ := toTKey_kV ha h2
        cases ry
        refine d_in hu1 I (DGet.t hp (r.sub _ _ e1)) rx fun s' I' => ⟨.bl _, H, I', rfl, ?_⟩
        rw [KvR.isSome kk hk]; exact q
    · rename_i l d h1
      exact op_inX hT hu pins s σ H _ _ v u Q I rx ry ⟨F, d, .list l, k, r.sub, ha.dat r rfl, hb.dat r (by show (match getO st n with | some (.lst l) => some (PyData.list l) | _ => none) = _; rw [h1]), e, q⟩
    · cases e
  · rename_i l
    split at e
    · cases e
      obtain ⟨p, rfl, hp⟩ := hb
      cases ha
      refine op_in_seq pins s σ H _ _ v u Q I rx ry ⟨p, _, rfl, .inr (by rw [← hT]; exact SqT.sub r.sub hp), rfl, flat_strs _, ?_⟩
      rw [if_neg (by decide), kc_any]; exact q
    · cases e
  · rename_i l
    split at e
    · cases e
      obtain ⟨p, rfl, hp⟩ := hb
      cases ha
      refine op_notIn_seq pins s σ H _ _ v u Q I rx ry ⟨p, _, rfl, .inr (by rw [← hT]; exact SqT.sub r.sub hp), rfl, flat_strs _, ?_⟩
      rw [if_pos rfl, kc_any]; exact q
    · cases e
  · rename_i n
    split at e
    · rename_i kvs d h1
      obtain ⟨p, rfl, _, _, ws, hp, hk⟩ := VlR.obj r hb h1
      cases h2 : toKey d with
      | none => rw [h2] at e; cases e
      | some kk =>
        rw [h2] at e; cases e
        have e1 := toKey_kV ha h2
        subst e1
        cases ry
        refine d_notIn hu1 I (DGet.k hp) rx fun s' I' => ⟨.bl _, H, I', rfl, ?_⟩
        rw [KvR.isSome kk hk]; exact q
    · rename_i kvs d h1
      obtain ⟨p, rfl, _, _, ws, hp, hk⟩ := VlR.obj r hb h1
      cases h2 : toTKey d with
      | none => rw [h2] at e; cases e
      | some kk =>
        rw [h2] at e; cases e
        obtain ⟨bb, rfl, e1⟩ := toTKey_kV ha h2
        cases ry
        refine d_notIn hu1 I (DGet.t hp (r.sub _ _ e1)) rx fun s' I' => ⟨.bl _, H, I', rfl, ?_⟩
        rw [KvR.isSome kk hk]; exact q
    · rename_i l d h1
      exact op_ninX hT hu pins s σ H _ _ v u Q I rx ry ⟨F, d, .list l, k, r.sub, ha.dat r rfl, hb.dat r (by show (match getO st n with | some (.lst l) => some (PyData.list l) | _ => none) = _; rw [h1]), e, q⟩
    · cases e
  · refine gen ?_
    exact e
end
end Ev
end

section
set_option Elab.async false
set_option linter.all false
set_option maxRecDepth 100000
set_option maxHeartbeats 4000000
/-! Ev5: truth, places, slices, built-ins. -/
namespace Ev
open PySem PySem.Spec PyProof.Rows L2
section
variable {T : Tab} {W : XW} {X : Cx}
theorem tru_of (hT : T.K = X.K) {ρ : List Addr} {F H : Hp} {st : Store} {v : Vl} {x : V} {k : Bool} (r : Rl T ρ F H st) (hv : VlR T ρ F v x) (e : truV st v = some k) : TruV X.K x H k := by
  cases v with
  | d y =>
    replace e : Tru y = some k := e
    cases hv with
    | non => exact (Option.some.inj e).symm
    | bl b => exact (Option.some.inj e).symm
    | int i => exact (Option.some.inj e).symm
    | str z =>
      unfold Tru at e
      simp only at e
      split at e
      · rename_i c; exact ⟨by rw [← limZ_eq]; exact c, (Option.some.inj e).symm⟩
      · cases e
    | lst h h2 => exact .inl ⟨_, SqL.of (r.sub _ _ h), by rw [h2.isEmpty]; exact (Option.some.inj e).symm⟩
    | tup h h2 => exact .inr (.inl ⟨_, (h.sub r.sub).sq, by rw [h2.isEmpty]; exact (Option.some.inj e).symm⟩)
    | d0 h => cases e
    | ins _ _ _ => cases e
  | ref n =>
    replace e : (match getO st n with | some (.lst l) => some !l.isEmpty | _ => none) = some k := e
    split at e
    · rename_i l h1
      obtain ⟨a, rfl, _, _, xs, h2, h3⟩ := VlR.obj r hv h1
      exact .inl ⟨_, SqL.of h2, by rw [h3.isEmpty]; exact (Option.some.inj e).symm⟩
    · cases e
  | scr l => cases e
  | kc l => cases e
theorem ixN_eq (n : Nat) (i : Int) : Ev.ixN n i = L2.ixN n i := rfl
theorem atD_V {F : Hp} {xs : List V} {l : List PyData} {i : Int} {d : PyData} (h : DqAll T.kc F xs l) (e : atD l i = some d) : ∃ v, atI xs i = some v ∧ Dq T.kc F v d := by
  unfold atD at e
  unfold atI
  rw [h.length]
  rw [ixN_eq] at e
  cases q : L2.ixN l.length i with
  | none => rw [q] at e; cases e
  | some j =>
    rw [q] at e
    obtain ⟨v, h1, h2⟩ := h.at (i := j) e
    exact ⟨v, h1, h2⟩
theorem ix_dict (hu : X.A.units + 1 < cLine) : IxR X (fun x y H Q => ∃ a v, x = .ref a ∧ DGet H a y (some v) ∧ Q v H) := by
  intro value slice pins s σ H x y v u Q I rx ry ⟨a, z, hx, g, q⟩ hs
  subst hx
  obtain rfl : v = Value.ref a := rx
  exact tail_any (dict_typeIs I g) PySem.F.slot_dict_getitem.lookup (d_getItem hu I g ry fun w' s3 I3 rw' => ⟨z, H, I3, rw', q⟩) hs
def rIdx (T : Tab) : R2 := fun x y H Q => ∃ ρ F st a b d, Rl T ρ F H st ∧ VlR T ρ F a x ∧ VlR T ρ F b y ∧ idxV st a b = some d ∧ ∀ w, Dq T.kc F w d → Q w H
theorem ix_idx (hT : T.K = X.K) (hu : X.A.units + 200 < cLine) : IxR X (rIdx T) := by
  intro value slice pins s σ H x y v u Q I rx ry ⟨ρ, F, st, a, b, d, r, ha, hb, e, q⟩ hs
  have hu1 : X.A.units + 1 < cLine := by omega
  unfold idxV at e
  split at e
  · rename_i k
    split at e
    · rename_i l
      split at e
      · rename_i j
        have hy := (hb.dat r rfl : DlR (T := T) F H y _).int
        obtain ⟨p, xs, rfl, h1, h2⟩ := (ha.dat r rfl : DlR (T := T) F H x _).lst r.sub
        obtain ⟨w, e1, e2⟩ := atD_V h2 e
        exact ix_list value slice pins s σ H _ _ v u Q I rx ry ⟨p, xs, j, w, rfl, hy, SqL.of h1, e1, q w e2⟩ hs
      · cases e
    · rename_i l
      split at e
      · rename_i j
        have hy := (hb.dat r rfl : DlR (T := T) F H y _).int
        obtain ⟨p, xs, rfl, h1, h2⟩ := (ha.dat r rfl : DlR (T := T) F H x _).tup
        obtain ⟨w, e1, e2⟩ := atD_V h2 e
        exact ix_tup value slice pins s σ H _ _ v u Q I rx ry ⟨p, xs, j, w, rfl, hy, (h1.sub r.sub).sq, e1, q w e2⟩ hs
      · cases e
    · rename_i z
      split at e
      · rename_i j
        have hy := (hb.dat r rfl : DlR (T := T) F H y _).int
        have hx := (ha.dat r rfl : DlR (T := T) F H x _).str
        split at e
        · rename_i c
          cases e1 : (Ev.ixN z.cps.toList.length j).bind fun m => z.cps.toList[m]? with
          | none => rw [e1] at e; cases e
          | some cc =>
            rw [e1] at e; cases e
            exact ix_str value slice pins s σ H _ _ v u Q I rx ry ⟨z, j, cc, hx, hy, by rw [← limZ_eq]; exact c, e1, q _ (.str _)⟩ hs
        · cases e
      · cases e
    · rename_i n
      split at e
      · rename_i l h0
        split at e
        · rename_i j
          have hy := (hb.dat r rfl : DlR (T := T) F H y _).int
          obtain ⟨p, rfl, _, _, xs, h1, h2⟩ := VlR.obj r ha h0
          obtain ⟨w, e1, e2⟩ := atD_V h2 e
          exact ix_list value slice pins s σ H _ _ v u Q I rx ry ⟨p, xs, j, w, rfl, hy, SqL.of h1, e1, q w e2⟩ hs
        · cases e
      · rename_i kvs h0
        obtain ⟨p, rfl, _, _, ws, h1, h2⟩ := VlR.obj r ha h0
        cases h3 : toKey k with
        | none => rw [h3] at e; cases e
        | some kk =>
          rw [h3] at e
          have e1 := toKey_kV hb h3
          subst e1
          obtain ⟨w, e2, e3⟩ := (KvR.look kk h2).2 d e
          exact ix_dict hu1 value slice pins s σ H _ _ v u Q I rx ry ⟨p, w, rfl, by rw [← e2]; exact DGet.k h1, q w e3⟩ hs
      · rename_i kvs h0
        obtain ⟨p, rfl, _, _, ws, h1, h2⟩ := VlR.obj r ha h0
        cases h3 : toTKey k with
        | none => rw [h3] at e; cases e
        | some kk =>
          rw [h3] at e
          obtain ⟨bb, rfl, e1⟩ := toTKey_kV hb h3
          obtain ⟨w, e2, e3⟩ := (KvR.look kk h2).2 d e
          exact ix_dict hu1 value slice pins s σ H _ _ v u Q I rx ry ⟨p, w, rfl, by rw [← e2]; exact DGet.t h1 (r.sub _ _ e1), q w e3⟩ hs
      · cases e
    · rename_i l
      split at e
      · rename_i j
        have hy := (hb.dat r rfl : DlR (T := T) F H y _).int
        obtain ⟨p, rfl, h1⟩ := ha
        cases e1 : Ev.ixN l.length j with
        | none => rw [e1] at e; cases e
        | some m =>
          rw [e1] at e
          cases e2 : l[m]? with
          | none => simp [e2] at e
          | some i =>
            simp [e2] at e; subst e
            exact ix_list value slice pins s σ H _ _ v u Q I rx ry ⟨p, l.map V.int, j, .int i, rfl, hy, by rw [← hT]; exact SqL.sub r.sub h1, by unfold atI; rw [List.length_map, ← ixN_eq, e1]; simp [e2], q _ (.int i)⟩ hs
      · cases e
    · cases e
  · cases e
theorem cut_V {F : Hp} {xs : List V} {l : List PyData} (h : DqAll T.kc F xs l) (lo hi : Option Int) : DqAll T.kc F (cutV xs lo hi) (cutD l lo hi) := by
  unfold cutV cutD
  rw [h.length]
  exact DqAll.take _ (DqAll.drop _ h)
theorem cut_whole (l : List PyData) {lo hi : Option Int} (h : Ev.sIx l.length 0 lo = 0 ∧ Ev.sIx l.length l.length hi = l.length) : cutD l lo hi = l := by
  unfold cutD; rw [h.1, h.2]; simp
theorem ints_D {kc : KC} {F : Hp} : ∀ ns : List Int, DqAll kc F (ns.map V.int) (ns.map PyData.int)
  | [] => .nil
  | n :: r => .cons (.int n) (ints_D r)
def rSlc (T : Tab) (W : XW) : V → Option Int → Option Int → Hp → VK → Prop := fun x lo hi H Q => ∃ ρ F st a, Rl T ρ F H st ∧ VlR T ρ F a x ∧ OkP T W ρ F (retO (slcV st a lo hi) st) Q
theorem sl_slc (hT : T.K = X.K) : L2.SlR X (rSlc T W) := by
  intro pins s σ H x v vl vu lo hi sl Q I rx hs pl pu ⟨ρ, F, st, a, r, ha, h⟩
  by_cases hsc : ∃ ns, a = .scr ns
  · obtain ⟨ns, rfl⟩ := hsc
    obtain ⟨p, rfl, h1⟩ := ha
    exact sl_list pins s σ H _ v vl vu lo hi sl Q I rx hs pl pu ⟨p, ns.map V.int, rfl, by rw [← hT]; exact SqL.sub r.sub h1, fun p hp => OkP.newL h r (cut_V (ints_D ns) lo hi) hp⟩
  have e0 : slcV st a lo hi = slcD (datD st a) lo hi := by
    cases a with
    | scr ns => exact absurd ⟨ns, rfl⟩ hsc
    | _ => rfl
  rw [e0] at h
  unfold slcD at h
  cases hd : datD st a with
  | none => rw [hd] at h; exact h.elim
  | some d =>
    rw [hd] at h
    cases d with
    | list l =>
      obtain ⟨p, xs, rfl, h1, h2⟩ := (ha.dat r hd).lst r.sub
      exact sl_list pins s σ H _ v vl vu lo hi sl Q I rx hs pl pu ⟨p, xs, rfl, SqL.of h1, fun p hp => OkP.newL h r (cut_V h2 lo hi) hp⟩
    | tuple l =>
      obtain ⟨p, xs, rfl, h1, h2⟩ := (ha.dat r hd).tup
      cases rx
      obtain ⟨its, rv, ht, hz⟩ := I.tuple (h1.sub r.sub).sq
      have hlen : its.toArray.size = xs.length := by rw [List.size_toArray]; exact rv.length.symm
      refine ⟨"tuple", _, PyProof.Rows.slot_tuple_getitem.lookup, ht.typeIs, ?_⟩
      by_cases hw : HT.sIx xs.length 0 lo = 0 ∧ HT.sIx xs.length xs.length hi = xs.length
      · refine getItem_tuple_whole ht hs pl pu (by rw [hlen]; exact hw) ⟨.ref p, H, I, rfl, ?_⟩
        have e2 : cutD l lo hi = l := cut_whole l (by rw [h2.length] at hw; exact hw)
        refine OkP.dat h r ?_
        rw [e2]
        exact Dq.tup h1 h2
      · refine HT.getItem_tuple_cut ht hs pl pu (by rw [hlen]; exact hw) ?_ (by rw [hlen]; exact hz)
        rw [hlen]
        exact OkP.lay (tk := s.toks) h r I (cut_V h2 lo hi) ((rv.drop (HT.sIx xs.length 0 lo)).take (HT.sIx xs.length xs.length hi - HT.sIx xs.length 0 lo)) (Nat.le_trans (cutV_length xs lo hi) hz)
    | _ => exact h.elim

/-! ### built-ins -/
def rBi (T : Tab) (W : XW) (b : Bi) : List V → Hp → VK → Prop := fun xs H Q => ∃ ρ F st vs, Rl T ρ F H st ∧ VlsR T ρ F vs xs ∧ OkP T W ρ F (biV b vs st) Q
def biF : Bi → Value
  | .len => .builtin "len" | .abs => .builtin "abs" | .int => .type "int" | .tuple => .type "tuple" | .list => .type "list" | .sum => .builtin "sum" | .all => .builtin "all" | .any => .builtin "any"
  | .sorted => .builtin "sorted" | .repr => .builtin "repr" | .max2 => .builtin "max" | .min2 => .builtin "min" | .str => .type "str" | .dictP => .type "dict"
theorem VlsR.one {ρ : List Addr} {F : Hp} {v : Vl} {xs : List V} (h : VlsR T ρ F [v] xs) : ∃ x, xs = [x] ∧ VlR T ρ F v x := by
  cases h with | cons a r => cases r; exact ⟨_, rfl, a⟩
theorem VlsR.two {ρ : List Addr} {F : Hp} {v w : Vl} {xs : List V} (h : VlsR T ρ F [v, w] xs) : ∃ x y, xs = [x, y] ∧ VlR T ρ F v x ∧ VlR T ρ F w y := by
  cases h with | cons a r => obtain ⟨y, rfl, b⟩ := VlsR.one r; exact ⟨_, _, rfl, a, b⟩
theorem VlsR.nil_eq {ρ : List Addr} {F : Hp} {xs : List V} (h : VlsR T ρ F [] xs) : xs = [] := by cases h; rfl
theorem ints_V {F : Hp} : ∀ {l : List PyData} {xs : List V} {ns : List Int}, DqAll T.kc F xs l → Ev.intsOf l = some ns → xs = ns.map V.int
  | _, _, _, .nil, e => by cases e; rfl
  | .int i :: l, _, _, .cons h r, e => by
    unfold Ev.intsOf at e
    cases q : Ev.intsOf l with
    | none => rw [q] at e; cases e
    | some m => rw [q] at e; cases e; cases h; rw [ints_V r q]; rfl
  | .none :: _, _, _, .cons _ _, e => by cases e
  | .bool _ :: _, _, _, .cons _ _, e => by cases e
  | .str _ :: _, _, _, .cons _ _, e => by cases e
  | .list _ :: _, _, _, .cons _ _, e => by cases e
  | .tuple _ :: _, _, _, .cons _ _, e => by cases e
  | .dict _ :: _, _, _, .cons _ _, e => by cases e
theorem bools_V {F : Hp} : ∀ {l : List PyData} {xs : List V} {ns : List Bool}, DqAll T.kc F xs l → boolsOf l = some ns → xs = ns.map V.bl
  | _, _, _, .nil, e => by cases e; rfl
  | .bool i :: l, _, _, .cons h r, e => by
    unfold boolsOf at e
    cases q : boolsOf l with
    | none => rw [q] at e; cases e
    | some m => rw [q] at e; cases e; cases h; rw [bools_V r q]; rfl
  | .none :: _, _, _, .cons _ _, e => by cases e
  | .int _ :: _, _, _, .cons _ _, e => by cases e
  | .str _ :: _, _, _, .cons _ _, e => by cases e
  | .list _ :: _, _, _, .cons _ _, e => by cases e
  | .tuple _ :: _, _, _, .cons _ _, e => by cases e
  | .dict _ :: _, _, _, .cons _ _, e => by cases e
theorem strs_V {F : Hp} : ∀ {l : List PyData} {xs : List V} {ns : List Str}, DqAll T.kc F xs l → strsOf l = some ns → xs = ns.map V.str
  | _, _, _, .nil, e => by cases e; rfl
  | .str i :: l, _, _, .cons h r, e => by
    unfold strsOf at e
    cases q : strsOf l with
    | none => rw [q] at e; cases e
    | some m => rw [q] at e; cases e; cases h; rw [strs_V r q]; rfl
  | .none :: _, _, _, .cons _ _, e => by cases e
  | .int _ :: _, _, _, .cons _ _, e => by cases e
  | .bool _ :: _, _, _, .cons _ _, e => by cases e
  | .list _ :: _, _, _, .cons _ _, e => by cases e
  | .tuple _ :: _, _, _, .cons _ _, e => by cases e
  | .dict _ :: _, _, _, .cons _ _, e => by cases e
/-- data that is a list or a tuple -/
theorem DlR.seq {F H : Hp} {x : V} {d : PyData} {l : List PyData} (s : Sub F H) (h : DlR (T := T) F H x d) (e : seqOf d = some l) : ∃ a xs, x = .ref a ∧ DqAll T.kc F xs l ∧ ((d = .list l ∧ H a = some (.lst xs)) ∨ (d = .tuple l ∧ TP F a xs l)) := by
  cases d with
  | list m => cases e; obtain ⟨a, xs, rfl, h1, h2⟩ := h.lst s; exact ⟨a, xs, rfl, h2, .inl ⟨rfl, h1⟩⟩
  | tuple m => cases e; obtain ⟨a, xs, rfl, h1, h2⟩ := h.tup; exact ⟨a, xs, rfl, h2, .inr ⟨rfl, h1⟩⟩
  | _ => cases e
theorem retP_ok {ρ : List Addr} {F : Hp} {st : Store} {Q : VK} {x : Option PyData} (h : OkP T W ρ F (retP x st) Q) : ∃ d, x = some d ∧ OkP T W ρ F (.ok (.d d, false) st) Q := by
  cases x with
  | none => exact h.elim
  | some d => exact ⟨d, rfl, h⟩
theorem retO_ok {ρ : List Addr} {F : Hp} {st : Store} {Q : VK} {x : Option (PyData × Bool)} (h : OkP T W ρ F (retO x st) Q) : ∃ d b, x = some (d, b) ∧ OkP T W ρ F (.ok (.d d, b) st) Q := by
  cases x with
  | none => exact h.elim
  | some d => exact ⟨d.1, d.2, rfl, h⟩
theorem retB_ok {ρ : List Addr} {F : Hp} {st : Store} {Q : VK} {x : Option Bool} (h : OkP T W ρ F (retB x st) Q) : ∃ d, x = some d ∧ OkP T W ρ F (.ok (.d (.bool d), false) st) Q := by
  cases x with
  | none => exact h.elim
  | some d => exact ⟨d, rfl, h⟩
theorem map_some {α β : Type} {x : Option α} {f : α → β} {b : β} (h : x.map f = some b) : ∃ a, x = some a ∧ f a = b := by
  cases x with
  | none => cases h
  | some a => exact ⟨a, rfl, Option.some.inj h⟩
theorem bind_some {α β : Type} {x : Option α} {f : α → Option β} {b : β} (h : x.bind f = some b) : ∃ a, x = some a ∧ f a = some b := by
  cases x with
  | none => cases h
  | some a => exact ⟨a, rfl, h⟩
theorem bi1_ok {ρ : List Addr} {F H : Hp} {vs : List Vl} {xs : List V} {f : Vl → R (Vl × Bool)} {Q : VK} (hv : VlsR T ρ F vs xs) (h : OkP T W ρ F (bi1 vs f) Q) : ∃ v x, xs = [x] ∧ VlR T ρ F v x ∧ OkP T W ρ F (f v) Q := by
  unfold bi1 at h
  split at h
  · obtain ⟨x, rfl, hx⟩ := hv.one
    exact ⟨_, x, rfl, hx, h⟩
  · exact h.elim
theorem bi2_ok {ρ : List Addr} {F H : Hp} {vs : List Vl} {xs : List V} {f : Vl → Vl → R (Vl × Bool)} {Q : VK} (hv : VlsR T ρ F vs xs) (h : OkP T W ρ F (bi2 vs f) Q) : ∃ v w x y, xs = [x, y] ∧ VlR T ρ F v x ∧ VlR T ρ F w y ∧ OkP T W ρ F (f v w) Q := by
  unfold bi2 at h
  split at h
  · obtain ⟨x, y, rfl, hx, hy⟩ := hv.two
    exact ⟨_, _, x, y, rfl, hx, hy, h⟩
  · exact h.elim
theorem bi_ok_len (hT : T.K = X.K) : CallR X (.builtin "len") (rBi T W .len) := by
  intro pins s σ H xs us Q I rr ⟨ρ, F, st, vs, r, hv, h⟩
  obtain ⟨v, x, rfl, hx, h⟩ := bi1_ok (H := H) hv h
  obtain ⟨d, e, h⟩ := retP_ok h
  obtain ⟨n, e0, rfl⟩ := map_some e
  replace e := e0
  clear e0
  have q := OkP.dat h r (.int (n : Int))
  unfold lenV at e
  split at e
  · rename_i z
    split at e
    · rename_i c; cases e
      cases hx
      exact call_len_str pins s σ H _ us Q I rr ⟨z, rfl, by rw [← limZ_eq]; exact c, q⟩
    · cases e
  · rename_i l; cases e
    obtain ⟨p, ys, rfl, h1, h2⟩ := (hx.dat r rfl : DlR (T := T) F H x _).lst r.sub
    rw [← h2.length] at q
    exact call_len_seq pins s σ H _ us Q I rr ⟨p, ys, rfl, .inl (SqL.of h1), q⟩
  · rename_i l; cases e
    obtain ⟨p, ys, rfl, h1, h2⟩ := (hx.dat r rfl : DlR (T := T) F H x _).tup
    rw [← h2.length] at q
    exact call_len_seq pins s σ H _ us Q I rr ⟨p, ys, rfl, .inr (h1.sub r.sub).sq, q⟩
  · rename_i m
    split at e
    · rename_i l h0; cases e
      obtain ⟨p, rfl, _, _, ys, h1, h2⟩ := VlR.obj r hx h0
      rw [← h2.length] at q
      exact call_len_seq pins s σ H _ us Q I rr ⟨p, ys, rfl, .inl (SqL.of h1), q⟩
    · rename_i l h0; cases e
      obtain ⟨p, rfl, _, _, ys, h1, h2⟩ := VlR.obj r hx h0
      rw [← KvR.length h2] at q
      exact call_lenD pins s σ H _ us Q I rr ⟨p, ys, rfl, h1, q⟩
    · rename_i l h0; cases e
      obtain ⟨p, rfl, _, _, ys, h1, h2⟩ := VlR.obj r hx h0
      rw [← KvR.length h2] at q
      exact call_len_dT pins s σ H _ us Q I rr ⟨p, ys, rfl, h1, q⟩
    · cases e
  · rename_i l; cases e
    obtain ⟨p, rfl, h1⟩ := hx
    have q' : Q (.int ((l.map V.int).length : Nat)) H := by rw [List.length_map]; exact q
    exact call_len_seq pins s σ H _ us Q I rr ⟨p, _, rfl, .inl (by rw [← hT]; exact SqL.sub r.sub h1), q'⟩
  · cases e
theorem bi_ok_abs : CallR X (.builtin "abs") (rBi T W .abs) := by
  intro pins s σ H xs us Q I rr ⟨ρ, F, st, vs, r, hv, h⟩
  obtain ⟨v, x, rfl, hx, h⟩ := bi1_ok (H := H) hv h
  unfold absI at h
  split at h
  · rename_i i
    cases hx
    exact call_abs pins s σ H _ us Q I rr ⟨i, rfl, OkP.dat h r (.int _)⟩
  · exact h.elim
theorem bi_ok_int : CallR X (.type "int") (rBi T W .int) := by
  intro pins s σ H xs us Q I rr ⟨ρ, F, st, vs, r, hv, h⟩
  obtain ⟨v, x, rfl, hx, h⟩ := bi1_ok (H := H) hv h
  unfold intI at h
  split at h
  · rename_i i
    cases hx
    exact call_int1 pins s σ H _ us Q I rr (.inl ⟨i, rfl, OkP.dat h r (.int _)⟩)
  · rename_i k
    cases hx
    exact call_int1 pins s σ H _ us Q I rr (.inr ⟨k, rfl, OkP.dat h r (.int _)⟩)
  · exact h.elim
theorem bi_ok_max (hc : X.calm = true) : CallR X (.builtin "max") (rBi T W .max2) := by
  intro pins s σ H xs us Q I rr ⟨ρ, F, st, vs, r, hv, h⟩
  obtain ⟨v, w, x, y, rfl, hx, hy, h⟩ := bi2_ok (H := H) hv h
  unfold maxI at h
  split at h
  · rename_i i j
    cases hx
    cases hy
    exact call_max2 hc pins s σ H _ us Q I rr ⟨i, j, rfl, OkP.dat h r (.int _)⟩
  · exact h.elim
theorem bi_ok_min (hc : X.calm = true) : CallR X (.builtin "min") (rBi T W .min2) := by
  intro pins s σ H xs us Q I rr ⟨ρ, F, st, vs, r, hv, h⟩
  obtain ⟨v, w, x, y, rfl, hx, hy, h⟩ := bi2_ok (H := H) hv h
  unfold minI at h
  split at h
  · rename_i i j
    cases hx
    cases hy
    exact call_min2 hc pins s σ H _ us Q I rr ⟨i, j, rfl, OkP.dat h r (.int _)⟩
  · exact h.elim
theorem bi_ok_tuple : CallR X (.type "tuple") (rBi T W .tuple) := by
  intro pins s σ H xs us Q I rr ⟨ρ, F, st, vs, r, hv, h⟩
  obtain ⟨v, x, rfl, hx, h⟩ := bi1_ok (H := H) hv h
  obtain ⟨d, e, h⟩ := retP_ok h
  obtain ⟨l, e0, rfl⟩ := map_some e
  obtain ⟨d, e1, e2⟩ := bind_some e0
  obtain ⟨a, ys, rfl, h2, h1⟩ := (hx.dat r e1).seq r.sub e2
  obtain ⟨u, rfl, rx⟩ := vals1 rr
  cases rx
  rcases h1 with ⟨_, h1⟩ | ⟨_, h1⟩
  · obtain ⟨its, rv, pl, hz⟩ := I.list (SqL.of (K := X.K) h1)
    have hlen := rv.length
    refine call_tuple_list pl.isList (fun h' kp => ?_) (by simp only [List.size_toArray] <;> omega)
    have I1 : L2.Inv X pins σ H { s with heap := h' } := I.kept (t' := s.toks) kp
    exact OkP.lay (tk := s.toks) h r I1 h2 rv hz
  · obtain ⟨its, rv, pl, hz⟩ := I.tuple (h1.sub r.sub).sq
    exact call_tuple_same pl ⟨.ref a, H, I, rfl, OkP.dat h r (Dq.tup h1 h2)⟩
/-- lists and tuples -/
theorem seq_sq {F H : Hp} {a : Addr} {xs : List V} {l : List PyData} {d : PyData} (s : Sub F H) (h : (d = .list l ∧ H a = some (.lst xs)) ∨ (d = .tuple l ∧ TP F a xs l)) : SqL X.K H a xs ∨ SqT X.K H a xs := by
  rcases h with ⟨_, h⟩ | ⟨_, h⟩
  · exact .inl (SqL.of h)
  · exact .inr (h.sub s).sq
theorem keys_V {ρ : List Addr} {F H : Hp} {st : Store} {v : Vl} {x : V} {l : List PyData} (r : Rl T ρ F H st) (hx : VlR T ρ F v x) (e : keysV st v = some l) : ∃ n, v = .ref n := by
  cases v with
  | ref n => exact ⟨n, rfl⟩
  | _ => cases e
end
end Ev
end

section
set_option Elab.async false
set_option linter.all false
set_option maxRecDepth 100000
set_option maxHeartbeats 4000000
/-! Ev6: more built-ins, methods. -/
namespace Ev
open PySem PySem.Spec PyProof.Rows L2
section
variable {T : Tab} {W : XW} {X : Cx}
theorem bi_ok_sum (hc : X.calm = true) (hT : T.K = X.K) : CallR X (.builtin "sum") (rBi T W .sum) := by
  intro pins s σ H xs us Q I rr ⟨ρ, F, st, vs, r, hv, h⟩
  obtain ⟨v, x, rfl, hx, h⟩ := bi1_ok (H := H) hv h
  obtain ⟨d, e, h⟩ := retP_ok h
  obtain ⟨ns, e0, rfl⟩ := map_some e
  obtain ⟨l, e1, e2⟩ := bind_some e0
  obtain ⟨d, e1, e3⟩ := bind_some e1
  cases d with
  | list m =>
    cases e3
    obtain ⟨a, ys, rfl, h1, h2⟩ := (hx.dat r e1).lst r.sub
    have e4 := ints_V h2 e2
    subst e4
    exact cr_sum hc pins s σ H _ us Q I rr ⟨a, ns, rfl, SqL.of h1, OkP.dat h r (.int _)⟩
  | _ => cases e3
theorem bi_ok_all (hc : X.calm = true) : CallR X (.builtin "all") (rBi T W .all) := by
  intro pins s σ H xs us Q I rr ⟨ρ, F, st, vs, r, hv, h⟩
  obtain ⟨v, x, rfl, hx, h⟩ := bi1_ok (H := H) hv h
  obtain ⟨d, e, h⟩ := retB_ok h
  obtain ⟨ns, e0, rfl⟩ := map_some e
  obtain ⟨l, e1, e2⟩ := bind_some e0
  obtain ⟨d, e1, e3⟩ := bind_some e1
  cases d with
  | list m =>
    cases e3
    obtain ⟨a, ys, rfl, h1, h2⟩ := (hx.dat r e1).lst r.sub
    have e4 := bools_V h2 e2
    subst e4
    exact cr_all hc pins s σ H _ us Q I rr ⟨a, ns, rfl, SqL.of h1, OkP.dat h r (.bl _)⟩
  | _ => cases e3
theorem bi_ok_any (hc : X.calm = true) : CallR X (.builtin "any") (rBi T W .any) := by
  intro pins s σ H xs us Q I rr ⟨ρ, F, st, vs, r, hv, h⟩
  obtain ⟨v, x, rfl, hx, h⟩ := bi1_ok (H := H) hv h
  obtain ⟨d, e, h⟩ := retB_ok h
  obtain ⟨ns, e0, rfl⟩ := map_some e
  obtain ⟨l, e1, e2⟩ := bind_some e0
  obtain ⟨d, e1, e3⟩ := bind_some e1
  cases d with
  | list m =>
    cases e3
    obtain ⟨a, ys, rfl, h1, h2⟩ := (hx.dat r e1).lst r.sub
    have e4 := bools_V h2 e2
    subst e4
    exact cr_any hc pins s σ H _ us Q I rr ⟨a, ns, rfl, SqL.of h1, OkP.dat h r (.bl _)⟩
  | _ => cases e3
theorem bi_ok_repr (hT : T.K = X.K) (hg : X.A.guards = some []) (hu : X.A.units + 200 < cLine) : CallR X (.builtin "repr") (rBi T W .repr) := by
  intro pins s σ H xs us Q I rr ⟨ρ, F, st, vs, r, hv, h⟩
  obtain ⟨v, x, rfl, hx, h⟩ := bi1_ok (H := H) hv h
  unfold reprI at h
  split at h
  · rename_i d e
    split at h
    · rename_i c
      simp only [Bool.and_eq_true, decide_eq_true_eq] at c
      have hsz : d.shown.length ≤ sizeLine := by rw [← limZ_eq]; exact c.2
      have hd := hx.dat r e
      obtain ⟨u, rfl, rx⟩ := vals1 rr
      have q := OkP.dat h r (.str d.shown)
      have hdep := SeqAt.depth_of_shaped c.1.2
      have big : ∀ a, x = .ref a → wpAny (model X.prog X.w) X.A (call (.builtin "repr") [u]) (EP X pins σ Q) X.xe s := fun a e2 => by
        subst e2
        obtain rfl : u = Value.ref a := rx
        obtain ⟨as, r1⟩ := dl_reads hT I r.sub (noD_fine c.1.2) hd rfl
        exact repr_of_reads' r1 c.1.1 (PyData.noDict_hsm (PyData.hasDict_of_canLay d (SeqAt.canLay_of_shaped c.1.2))) hg (by omega) (fun _ _ e => e) (fun h' t tk hk => ⟨.str _, H, I.kept hk, ⟨_, rfl⟩, q⟩) hsz
      cases d with
      | none =>
        have := hd.non; subst this
        obtain rfl : u = Value.none := rx
        exact PySem.P.repr_of_none ⟨.str _, H, I.tok _, ⟨_, rfl⟩, q⟩
      | bool b =>
        have := hd.bl; subst this
        obtain rfl : u = Value.bool b := rx
        exact PySem.P.repr_of_bool ⟨.str _, H, I.tok _, ⟨_, rfl⟩, q⟩
      | int i =>
        have := hd.int; subst this
        obtain ⟨t, rfl⟩ := rx
        exact PySem.P.repr_of_int (of_decide_eq_true c.1.1) ⟨.str _, H, I.tok _, ⟨_, rfl⟩, q⟩
      | str z =>
        have := hd.str; subst this
        obtain ⟨t, rfl⟩ := rx
        exact PySem.P.repr_of_str ⟨.str _, H, I.tok _, ⟨_, rfl⟩, q⟩ hsz
      | list l =>
        obtain ⟨a, xs, e2, _⟩ := hd.lst r.sub
        exact big a e2
      | tuple l =>
        obtain ⟨a, xs, e2, _⟩ := hd.tup
        exact big a e2
      | dict l =>
        have := c.1.2
        exact absurd (SeqAt.canLay_of_shaped this) (by simp [PyData.canLay0])
    · exact h.elim
  · exact h.elim
/-! ### sorting -/
mutual
theorem reads_lt {h : Heap} : ∀ {v : Value} {d : PyData} {as : List Addr}, Reads h v d as → ∀ a ∈ as, a < h.objs.size
  | _, _, _, .none, a, ha => by simp at ha
  | _, _, _, .bool _, a, ha => by simp at ha
  | _, _, _, .int _ _, a, ha => by simp at ha
  | _, _, _, .str _ _, a, ha => by simp at ha
  | _, _, _, .list h1 _ _ r, a, ha => by
    rcases List.mem_cons.mp ha with rfl | ha
    · exact Heap.lt_size h1
    · exact readsAll_lt r a ha
  | _, _, _, .tuple _ _ _ r, a, ha => readsAll_lt r a ha
  | _, _, _, .dict h1 _ _ r1 r2, a, ha => by
    rcases List.mem_append.mp ha with ha | ha
    · rcases List.mem_cons.mp ha with rfl | ha
      · exact Heap.lt_size h1
      · exact readsAll_lt r1 a ha
    · exact readsAll_lt r2 a ha
theorem readsAll_lt {h : Heap} : ∀ {v : List Value} {d : List PyData} {as : List Addr}, ReadsAll h v d as → ∀ a ∈ as, a < h.objs.size
  | _, _, _, .nil, a, ha => by simp at ha
  | _, _, _, .cons r1 r2, a, ha => by
    rcases List.mem_append.mp ha with ha | ha
    · exact reads_lt r1 a ha
    · exact readsAll_lt r2 a ha
end
/-- the items with their values -/
theorem zip_map {α β : Type} : ∀ {xs : List α} {ys : List β}, xs.length = ys.length → (xs.zip ys).map (·.1) = xs ∧ (xs.zip ys).map (·.2) = ys
  | [], [], _ => ⟨rfl, rfl⟩
  | x :: xs, y :: ys, h => by
    obtain ⟨h1, h2⟩ := zip_map (xs := xs) (ys := ys) (by simpa using h)
    exact ⟨by rw [List.zip_cons_cons, List.map_cons, h1], by rw [List.zip_cons_cons, List.map_cons, h2]⟩
  | [], _ :: _, h => by cases h
  | _ :: _, [], h => by cases h
theorem each_rel {F : Hp} : ∀ {xs : List V} {l : List PyData} {us : List Value}, DqAll T.kc F xs l → Vals xs us → PySem.W.EachIs (fun (v : Value) (b : V × PyData) => RelV b.1 v ∧ Dq T.kc F b.1 b.2) us (xs.zip l)
  | _, _, _, .nil, .nil => .nil
  | _, _, _, .cons h r, .cons a b => .cons ⟨a, h⟩ (each_rel r b)
theorem each_relN {F : Hp} : ∀ {xs : List V} {l : List PyData} {us : List Value}, noDs l = true → DqAll T.kc F xs l → Vals xs us → PySem.W.EachIs (fun (v : Value) (b : V × PyData) => noD b.2 = true ∧ RelV b.1 v ∧ Dq T.kc F b.1 b.2) us (xs.zip l)
  | _, _, _, _, .nil, .nil => .nil
  | _, _, _, n, .cons h r, .cons a b => by
    unfold noDs at n
    rw [Bool.and_eq_true] at n
    exact .cons ⟨n.1, a, h⟩ (each_relN n.2 r b)
theorem of_each {F : Hp} : ∀ {bs : List (V × PyData)} {us : List Value}, PySem.W.EachIs (fun (v : Value) (b : V × PyData) => RelV b.1 v ∧ Dq T.kc F b.1 b.2) us bs → Vals (bs.map (·.1)) us ∧ DqAll T.kc F (bs.map (·.1)) (bs.map (·.2))
  | _, _, .nil => ⟨.nil, .nil⟩
  | _, _, .cons h r => ⟨.cons h.1 (of_each r).1, .cons h.2 (of_each r).2⟩
theorem sortD_facts {l m : List PyData} (e : sortD l = some m) : m = l.mergeSort (PySem.W.dataLe false id) ∧ PySem.W.AllAlike l ∧ PySem.W.Sortable l ∧ (∀ d ∈ l, d.depth ≤ 64) ∧ l.length ≤ sizeLine ∧ noDs l = true := by
  unfold sortD at e
  split at e
  · rename_i c
    simp only [Bool.and_eq_true, Bool.or_eq_true, List.all_eq_true, decide_eq_true_eq] at c
    refine ⟨((PySem.W.mergeSortF_eq _ _ l (Nat.le_refl _)).trans (Option.some.inj e)).symm, fun d hd d' hd' => c.1.1.1.1 d hd d' hd', ?_, c.1.1.2, by rw [← limZ_eq]; exact c.1.2, c.2⟩
    rcases c.1.1.1.2 with h | h
    · refine .inl fun d hd => ?_
      have := h d hd
      split at this
      · exact ⟨_, _, rfl⟩
      · cases this
    · refine .inr fun d hd => ⟨fun q => ?_, fun xs q => ?_⟩
      · have := h d hd; rw [q] at this; cases this
      · have := h d hd; rw [q] at this; cases this
  · cases e
theorem sort_out {F : Hp} {xs : List V} {l m : List PyData} {out : List Value} (h : DqAll T.kc F xs l) (e : m = l.mergeSort (PySem.W.dataLe false id))
    (ho : PySem.W.EachIs (fun (v : Value) (b : V × PyData) => RelV b.1 v ∧ Dq T.kc F b.1 b.2) out ((xs.zip l).mergeSort (PySem.W.dataLe false fun b => b.2))) : ∃ ys, Vals ys out ∧ DqAll T.kc F ys m := by
  obtain ⟨h1, h2⟩ := of_each ho
  refine ⟨_, h1, ?_⟩
  rw [e]
  have q := PySem.W.sort_maps (r := PySem.W.dataLe false fun b : V × PyData => b.2) (s := PySem.W.dataLe false id) (fun b : V × PyData => b.2) (l := xs.zip l) (fun _ _ _ _ => rfl)
  rw [(zip_map h.length).2] at q
  rw [← q]
  exact h2
theorem reads_of {pins : List (Addr × Obj)} {s : Shared} {σ : L2.St} {F H : Hp} (hT : T.K = X.K) (I : L2.Inv X pins σ H s) (sF : Sub F H) {bs : List (V × PyData)} {us : List Value}
    (h : PySem.W.EachIs (fun (v : Value) (b : V × PyData) => noD b.2 = true ∧ RelV b.1 v ∧ Dq T.kc F b.1 b.2) us bs) : PySem.W.EachIs (fun v b => ∃ as, Reads s.heap v b.2 as) us bs :=
  h.mono fun v b q => dl_reads (T := T) hT I sF q.1 (.inl q.2.2) q.2.1
theorem sorted_list {pins : List (Addr × Obj)} {s : Shared} {σ : L2.St} {F H : Hp} {Q : VK} {a : Addr} {xs : List V} {l m : List PyData} (hT : T.K = X.K) (hu : X.A.units + 200 < cLine) (I : L2.Inv X pins σ H s) (sF : Sub F H) (ha : H a = some (.lst xs)) (h : DqAll T.kc F xs l) (e : sortD l = some m)
    (q : ∀ p ys, DqAll T.kc F ys m → H p = none → Q (.ref p) (upd H p (.lst ys))) : wpAny (model X.prog X.w) X.A (call (.builtin "sorted") [.ref a]) (EP X pins σ Q) X.xe s := by
  obtain ⟨e1, e2, e3, e4, e5, e6⟩ := sortD_facts e
  obtain ⟨its, rv, pl, hz⟩ := I.list (SqL.of (K := X.K) ha)
  have er := each_rel h rv
  have hlz : (xs.zip l).length = l.length := by rw [List.length_zip, h.length, Nat.min_self]
  refine PySem.W.sorted_data (enc := fun b : V × PyData => b.2) pl.isList er (reads_of hT I sF (each_relN e6 h rv)) (by rw [(zip_map h.length).2]; exact e2) (by rw [(zip_map h.length).2]; exact e3) (by rw [hlz]; exact e5) (fun b hb => ?_) fun out ho hs => ?_
  · have : b.2 ∈ l := (List.of_mem_zip hb).2
    have := e4 _ this
    omega
  · obtain ⟨ys, hy1, hy2⟩ := sort_out h e1 hs
    obtain ⟨ep, he'⟩ := PyProof.Rows.sortedAll_at s.heap its out.toArray
    have hlen : ys.length ≤ sizeLine := by rw [hy1.length, ho, hlz]; exact e5
    exact ⟨.ref _, upd H (s.heap.objs.size + 1) (.lst ys), I.laid (t' := s.toks) (fun _ _ => PyProof.Rows.sortedAll_old) (Nat.le_succ _) ⟨hlen, out, ep, hy1, he'⟩, rfl, q _ _ hy2 (I.hok.fresh (Nat.le_succ _))⟩
/-- sorted(x) from what x gives when it is walked -/
theorem sorted_from {pins : List (Addr × Obj)} {s : Shared} {σ : L2.St} {F H : Hp} {Q : VK} {a : Addr} {xs : List V} {l m : List PyData} (hT : T.K = X.K) (hu : X.A.units + 200 < cLine) (I : L2.Inv X pins σ H s) (sF : Sub F H) (h : DqAll T.kc F xs l) (e : sortD l = some m)
    (hc : ∀ (R : List Value → Shared → Prop) (E : Value → Shared → Prop), (∀ h' tk us, (∀ b o, s.heap.get? b = some o → h'.get? b = some o) → Vals xs us → R us { s with heap := h', toks := tk }) → wpAny (model X.prog X.w) X.A.in1 (collect (.ref a)) R E s)
    (q : ∀ p ys, DqAll T.kc F ys m → H p = none → Q (.ref p) (upd H p (.lst ys))) : wpAny (model X.prog X.w) X.A (call (.builtin "sorted") [.ref a]) (EP X pins σ Q) X.xe s := by
  obtain ⟨e1, e2, e3, e4, e5, e6⟩ := sortD_facts e
  have hlz : (xs.zip l).length = l.length := by rw [List.length_zip, h.length, Nat.min_self]
  refine Calls.call_function_entry PyProof.Rows.kind_sorted PyProof.Rows.plain_sorted PyProof.Rows.entry_sorted (PyProof.Rows.args_sorted1 _) ?_
  unfold Builtin.«sorted»
  refine wpAny_bind (m := checkCount "sorted" 1 1 _) (wpAny_pure ?_)
  refine wpAny_bind (hc _ _ fun h' tk us hk rv => ?_)
  have I1 : L2.Inv X pins σ H { s with heap := h', toks := tk } := I.kept hk
  have hal : us.length = l.length := by rw [← rv.length, h.length]
  refine wpAny_bind (wpAny_newList ?_ (by rw [hal]; exact e5))
  have hoL : (h'.push (seqObj "list" us.toArray 0)).get? h'.objs.size = some (seqObj "list" us.toArray 0) := Heap.get?_push_size _ rfl
  show wpAny _ _ _ _ _ { s with heap := h'.push (seqObj "list" us.toArray 0), toks := tk }
  have er := each_rel h rv
  have hkp : ∀ b o, h'.get? b = some o → (h'.push (seqObj "list" us.toArray 0)).get? b = some o := fun b o z => Heap.get?_push_of_some _ z
  have er2 : PySem.W.EachIs (fun v b => ∃ as, Reads (h'.push (seqObj "list" us.toArray 0)) v b.2 as ∧ h'.objs.size ∉ as) us (xs.zip l) :=
    (reads_of hT I1 sF (each_relN e6 h rv)).mono fun v b ⟨as, r1⟩ => ⟨as, PyProof.Rows.Reads.keeps hkp r1, fun hin => by
      have : h'.objs.size < h'.objs.size := reads_lt r1 _ hin
      omega⟩
  refine wpAny_bind (wpAny_holding (PySem.W.list_sort_data (enc := fun b : V × PyData => b.2) (s := { s with heap := h'.push (seqObj "list" us.toArray 0), toks := tk }) hoL er er2 (by rw [(zip_map h.length).2]; exact e2) (by rw [(zip_map h.length).2]; exact e3) (by rw [hlz]; exact e5) (fun b hb => ?_) fun out ho hs => ?_))
  · have := e4 _ (List.of_mem_zip hb).2
    show X.A.units + 1 + 1 + _ < _
    omega
  · obtain ⟨ys, hy1, hy2⟩ := sort_out h e1 hs
    obtain ⟨e', he'⟩ := PyProof.Rows.sortedHeap_at (vs := us) (out := out.toArray) hoL
    have hlen : ys.length ≤ sizeLine := by rw [hy1.length, ho, hlz]; exact e5
    refine wpAny_pure ⟨_, rfl, .ref h'.objs.size, upd H h'.objs.size (.lst ys), I1.laid (t' := tk) (fun b u z => ?_) (Nat.le_refl _) ⟨hlen, out, e', hy1, he'⟩, rfl, q _ _ hy2 (I1.hok.fresh (Nat.le_refl _))⟩
    have hb : b < h'.objs.size := Heap.lt_size z
    rw [PyProof.Rows.sortedHeap_old (Nat.ne_of_lt hb) (by rw [size_push']; exact Nat.lt_succ_of_lt hb)]
    exact Heap.get?_push_of_some _ z
end
end Ev
end

section
set_option Elab.async false
set_option linter.all false
set_option maxRecDepth 100000
set_option maxHeartbeats 4000000
/-! Ev7: list, sorted, methods. -/
namespace Ev
open PySem PySem.Spec PyProof.Rows L2
/-- all tracked tuples are frozen -/
def tupF (F H : Hp) : Hp := fun b => match H b with
  | some (.tup xs) => some (.tup xs)
  | _ => F b
section
variable {T : Tab} {ρ : List Addr} {F H : Hp} {st : Store}
theorem tupF_at {b : Addr} {xs : List V} (h : H b = some (.tup xs)) : tupF F H b = some (.tup xs) := by unfold tupF; rw [h]
theorem tupF_sub (s : Sub F H) : Sub F (tupF F H) := fun b o e => by
  unfold tupF
  have h := s b o e
  cases o with
  | tup xs => rw [h]
  | _ => simp only [h]; exact e
theorem tupF_in (s : Sub F H) : Sub (tupF F H) H := fun b o e => by
  unfold tupF at e
  split at e
  · rename_i xs h; rw [h]; exact e
  · exact s b o e
theorem ObR.notTup {a : Addr} {xs : List V} : ∀ {o : Ob}, ObR T F H a o → H a ≠ some (.tup xs)
  | .lst _, ⟨_, h, _⟩ => by rw [h]; simp
  | .dK _, ⟨_, h, _⟩ => by rw [h]; simp
  | .dT _, ⟨_, h, _⟩ => by rw [h]; simp
  | .obj _ _, ⟨_, _, ⟨_, _, h⟩, _⟩ => by
    rcases h with h | ⟨_, h⟩
    · rw [h]; unfold SlO; simp
    · rw [h]; simp
theorem Rl.tups (h : Rl T ρ F H st) : Rl T ρ (tupF F H) H st ∧ Sub F (tupF F H) :=
  ⟨⟨tupF_in h.sub, h.len, h.nd, h.trk, fun n o e => by
    obtain ⟨a, h1, h2, h3⟩ := h.obj n o e
    refine ⟨a, h1, ?_, h3.keep (fun _ _ e _ => e) (tupF_sub h.sub)⟩
    unfold tupF
    split
    · rename_i xs hx; exact absurd hx h3.notTup
    · exact h2, fun q hq => by
    obtain ⟨q1, q2, q3⟩ := h.hid q hq
    refine ⟨q1, ?_, q3⟩
    unfold tupF
    rw [q1]; exact q2, h.tb.step (fun _ _ e _ => e) (tupF_sub h.sub) fun b ps e => by
    unfold tupF at e
    split at e
    · cases e
    · exact h.tb.2 b ps e⟩, tupF_sub h.sub⟩
end
section
variable {T : Tab} {W : XW} {X : Cx}
theorem keyD_V {F : Hp} (k : Key) : Dq T.kc F (kV k) (kD k) := by
  cases k with
  | inl i => exact .int i
  | inr x => exact .str x
theorem keysD_V {F : Hp} : ∀ ks : List Key, DqAll T.kc F (ks.map kV) (ks.map kD)
  | [] => .nil
  | k :: ks => .cons (keyD_V k) (keysD_V ks)
theorem KvR.keys {κ : Type} {F : Hp} : ∀ {ws : List (κ × V)} {kvs : List (κ × PyData)}, KvR T F ws kvs → ws.map (·.1) = kvs.map (·.1)
  | _, _, .nil => rfl
  | _, _, .cons _ r => by rw [List.map_cons, List.map_cons, KvR.keys r]
theorem isKeys_V {F H : Hp} (s : ∀ b xs, H b = some (.tup xs) → F b = some (.tup xs)) : ∀ {ws : List (List Key × V)} {bs : List Addr}, IsKeys H ws bs → (ws.all fun p => !isS (p.1.map kD)) = true → DqAll T.kc F (bs.map V.ref) (ws.map fun p => .tuple (p.1.map kD))
  | _, _, .nil, _ => .nil
  | _, _, .cons h r, e => by
    rw [List.all_cons, Bool.and_eq_true] at e
    exact .cons (Dq.tup (.inl ⟨by simpa using e.1, s _ _ h⟩) (keysD_V _)) (isKeys_V s r e.2)
theorem KvR.noS {F : Hp} {ws : List (List Key × V)} {kvs : List (List Key × PyData)} (h : KvR T F ws kvs) (e : (kvs.all fun p => !isS (p.1.map kD)) = true) : (ws.all fun p => !isS (p.1.map kD)) = true := by
  have q : ∀ {α : Type} (l : List (List Key × α)), (l.all fun p => !isS (p.1.map kD)) = (l.map (·.1)).all fun k => !isS (k.map kD) := fun l => by rw [List.all_map]; rfl
  rw [q, KvR.keys h, ← q]; exact e
/-- list(x) -/
theorem bi_ok_list (hc : X.calm = true) : CallR X (.type "list") (rBi T W .list) := by
  intro pins s σ H xs us Q I rr ⟨ρ, F, st, vs, r, hv, h⟩
  obtain ⟨v, x, rfl, hx, h⟩ := bi1_ok (H := H) hv h
  obtain ⟨d, b, e, h⟩ := retO_ok h
  obtain ⟨l, e0, e2⟩ := map_some e
  cases e2
  unfold itemsV at e0
  split at e0
  · rename_i l' e1
    cases e0
    obtain ⟨n, rfl⟩ := keys_V r hx e1
    replace e1 : (match getO st n with | some (.dK kvs) => some (kvs.map fun p => kD p.1) | some (.dT kvs) => if (kvs.all fun p => !isS (p.1.map kD)) = true then some (kvs.map fun p => PyData.tuple (p.1.map kD)) else none | _ => none) = some l := e1
    split at e1
    · rename_i kvs h0
      obtain ⟨p, rfl, _, _, ws, h1, h2⟩ := VlR.obj r hx h0
      cases e1
      refine call_list_dK hc pins s σ H _ us Q I rr ⟨p, ws, rfl, h1, fun q hq => OkP.newL h r ?_ hq⟩
      have q1 : (ws.map fun kv => kV kv.1) = (ws.map (·.1)).map kV := by rw [List.map_map]; rfl
      have q2 : (kvs.map fun p => kD p.1) = (kvs.map (·.1)).map kD := by rw [List.map_map]; rfl
      rw [q1, q2, KvR.keys h2]
      exact keysD_V _
    · rename_i kvs h0
      obtain ⟨p, rfl, _, _, ws, h1, h2⟩ := VlR.obj r hx h0
      split at e1
      rotate_left
      · cases e1
      rename_i hns
      cases e1
      obtain ⟨r2, s2⟩ := r.tups
      refine call_list_dT hc pins s σ H _ us Q I rr ⟨p, ws, rfl, .inl h1, fun q bs hq hb => OkP.newL (h.mono (List.prefix_refl _) s2) r2 ?_ hq⟩
      have q1 : (kvs.map fun p => PyData.tuple (p.1.map kD)) = (kvs.map (·.1)).map fun k => PyData.tuple (k.map kD) := by rw [List.map_map]; rfl
      have q2 := isKeys_V (T := T) (fun b xs e => tupF_at (F := F) e) hb (KvR.noS h2 hns)
      have q3 : (ws.map fun p => PyData.tuple (p.1.map kD)) = (ws.map (·.1)).map fun k => PyData.tuple (k.map kD) := by rw [List.map_map]; rfl
      rw [q1, ← KvR.keys h2, ← q3]
      exact q2
    · cases e1
  · obtain ⟨d, e1, e2⟩ := bind_some e0
    obtain ⟨a, ys, rfl, h2, h1⟩ := (hx.dat r e1).seq r.sub e2
    exact call_list_of pins s σ H _ us Q I rr ⟨a, ys, rfl, seq_sq r.sub h1, fun p hp => OkP.newL h r h2 hp⟩
theorem collect_dT {pins : List (Addr × Obj)} {s : Shared} {σ : L2.St} {H : Hp} {a : Addr} {ws : List (List Key × V)} (hc : X.calm = true) (I : L2.Inv X pins σ H s) (ha : H a = some (.dT ws)) :
    ∃ bs, IsKeys H ws bs ∧ ∀ (R : List Value → Shared → Prop) (E : Value → Shared → Prop), (∀ h' tk us, (∀ b o, s.heap.get? b = some o → h'.get? b = some o) → Vals (bs.map V.ref) us → R us { s with heap := h', toks := tk }) → wpAny (model X.prog X.w) X.A.in1 (collect (.ref a)) R E s := by
  obtain ⟨z, hs, ks, pr, o, es, ep, ho, hx, hdt, he, hn⟩ := (show ObjOk X.prog X.w H s.heap a (.dT ws) from I.hok _ _ ha)
  have l1 : es.size = ks.length := size_of_entries he
  have l2 : ws.length = ks.length := Paired.length pr
  refine ⟨ks.map fun x => x.2.1, isKeys_of pr, fun R E hR => ?_⟩
  refine PySem.W.kdu_collect (kdl_raw hs hx hdt) (show X.A.in1.handled = none from I.ok.hd hc) ho (by omega) fun h' tk acc kp it => hR h' tk _ kp ?_
  refine vals_of_at (by rw [List.length_map, List.length_map, (show acc.toList.length = acc.size by simp), it.1, l1]) fun j x w h1 h2 => ?_
  obtain ⟨en, hen, hv⟩ := it.2 j w (by rw [← Array.getElem?_toList]; exact h2)
  have qe := entry_at he j
  rw [hen] at qe
  rw [List.map_map, List.getElem?_map] at h1
  cases hb : ks[j]? with
  | none => rw [hb] at h1; cases h1
  | some b =>
    rw [hb] at h1 qe
    have e2 : en = entryOfKey (tupleKind (mixKind X.prog X.w)) b := Option.some.inj qe
    have e3 : V.ref b.2.1 = x := Option.some.inj h1
    rw [hv, e2, ← e3]
    exact rfl
theorem collect_dK {pins : List (Addr × Obj)} {s : Shared} {σ : L2.St} {H : Hp} {a : Addr} {ws : List (Key × V)} (hc : X.calm = true) (I : L2.Inv X pins σ H s) (ha : H a = some (.dK ws)) :
    ∀ (R : List Value → Shared → Prop) (E : Value → Shared → Prop), (∀ h' tk us, (∀ b o, s.heap.get? b = some o → h'.get? b = some o) → Vals (ws.map fun kv => kV kv.1) us → R us { s with heap := h', toks := tk }) → wpAny (model X.prog X.w) X.A.in1 (collect (.ref a)) R E s := by
  intro R E hR
  obtain ⟨z, lo, vs, rk, hd⟩ := (show ObjOk X.prog X.w H s.heap a (.dK ws) from I.hok _ _ ha)
  obtain ⟨ep, hat⟩ := hd.dictAt
  have hl : ws.length = vs.length := Paired.length rk
  refine PySem.W.kdu_collect (PySem.W.kdl_dict (knd := mixKind X.prog X.w) (kvs := vs) (ep := ep) lo) (show X.A.in1.handled = none from I.ok.hd hc) hat (by rw [← hl]; exact z) fun h' tk acc kp it => hR h' tk _ kp ?_
  refine vals_of_at (by rw [List.length_map, (show acc.toList.length = acc.size by simp), it.1, hl]) fun j x w h1 h2 => ?_
  obtain ⟨k, y, hky, hi⟩ := it.2 j w (by rw [← Array.getElem?_toList]; exact h2)
  have e1 : (ws.map (·.1))[j]? = some k := by rw [KV.keys rk, List.getElem?_map, hky]; rfl
  have e2 : (ws.map fun kv => kV kv.1)[j]? = some (kV k) := by
    have e3 : (ws.map fun kv => kV kv.1) = (ws.map (·.1)).map kV := by rw [List.map_map]; rfl
    rw [e3, List.getElem?_map, e1]; rfl
  rw [e2] at h1
  cases h1
  exact keyIs_rel hi
theorem bi_ok_sorted (hc : X.calm = true) (hT : T.K = X.K) (hu : X.A.units + 200 < cLine) : CallR X (.builtin "sorted") (rBi T W .sorted) := by
  intro pins s σ H xs us Q I rr ⟨ρ, F, st, vs, r, hv, h⟩
  obtain ⟨v, x, rfl, hx, h⟩ := bi1_ok (H := H) hv h
  obtain ⟨d, b, e, hk⟩ := retO_ok h
  obtain ⟨m, e0, e2⟩ := map_some e
  obtain ⟨rfl, rfl⟩ := Prod.mk.inj e2
  obtain ⟨l, e0, e3⟩ := bind_some e0
  clear h e e2
  obtain ⟨u, rfl, rx⟩ := vals1 rr
  unfold itemsV at e0
  split at e0
  · rename_i l' e1
    cases e0
    obtain ⟨n, rfl⟩ := keys_V r hx e1
    replace e1 : (match getO st n with | some (.dK kvs) => some (kvs.map fun p => kD p.1) | some (.dT kvs) => if (kvs.all fun p => !isS (p.1.map kD)) = true then some (kvs.map fun p => PyData.tuple (p.1.map kD)) else none | _ => none) = some l := e1
    split at e1
    · rename_i kvs h0
      obtain ⟨p, rfl, _, _, ws, h1, h2⟩ := VlR.obj r hx h0
      cases e1
      obtain rfl : u = Value.ref p := rx
      refine sorted_from hT hu I r.sub (xs := ws.map fun kv => kV kv.1) ?_ e3 (collect_dK hc I h1) fun p ys hy hp => OkP.newL hk r hy hp
      have q1 : (ws.map fun kv => kV kv.1) = (ws.map (·.1)).map kV := by rw [List.map_map]; rfl
      have q2 : (kvs.map fun p => kD p.1) = (kvs.map (·.1)).map kD := by rw [List.map_map]; rfl
      rw [q1, q2, KvR.keys h2]
      exact keysD_V _
    · rename_i kvs h0
      obtain ⟨p, rfl, _, _, ws, h1, h2⟩ := VlR.obj r hx h0
      split at e1
      rotate_left
      · cases e1
      rename_i hns
      cases e1
      obtain rfl : u = Value.ref p := rx
      obtain ⟨r2, s2⟩ := r.tups
      obtain ⟨bs, hb, hcol⟩ := collect_dT hc I h1
      refine sorted_from hT hu I r2.sub (xs := bs.map V.ref) ?_ e3 hcol fun p ys hy hp => OkP.newL (OkR.mono hk (List.prefix_refl _) s2) r2 hy hp
      have q1 : (kvs.map fun p => PyData.tuple (p.1.map kD)) = (kvs.map (·.1)).map fun k => PyData.tuple (k.map kD) := by rw [List.map_map]; rfl
      have q2 := isKeys_V (T := T) (fun b xs e => tupF_at (F := F) e) hb (KvR.noS h2 hns)
      have q3 : (ws.map fun p => PyData.tuple (p.1.map kD)) = (ws.map (·.1)).map fun k => PyData.tuple (k.map kD) := by rw [List.map_map]; rfl
      rw [q1, ← KvR.keys h2, ← q3]
      exact q2
    · cases e1
  · obtain ⟨d, e1, e2⟩ := bind_some e0
    cases d with
    | list l' =>
      cases e2
      obtain ⟨a, ys, rfl, h1, h2⟩ := (hx.dat r e1).lst r.sub
      obtain rfl : u = Value.ref a := rx
      exact sorted_list hT hu I r.sub h1 h2 e3 fun p ys hy hp => OkP.newL hk r hy hp
    | tuple l' =>
      cases e2
      obtain ⟨a, ys, rfl, h1, h2⟩ := (hx.dat r e1).tup
      obtain rfl : u = Value.ref a := rx
      obtain ⟨its, rv, ⟨o, ho, hc2, n, hd2⟩, hz⟩ := I.tuple (by rw [← hT]; exact (h1.sub r.sub).sq)
      refine sorted_from hT hu I r.sub h2 e3 (fun R E hR => ?_) fun p ys hy hp => OkP.newL hk r hy hp
      exact wpAny_collect_seq a (.inr rfl) ho hc2 hd2 (fun h' kp => hR h' s.toks its kp rv) (by rw [List.size_toArray, ← rv.length]; exact hz)
    | _ => cases e2

/-! ### methods -/
def rMt (T : Tab) (W : XW) (m : Mt) : V → List V → Hp → VK → Prop := fun x xs H Q => ∃ ρ F st o vs, Rl T ρ F H st ∧ VlR T ρ F o x ∧ VlsR T ρ F vs xs ∧ OkP T W ρ F (mtV m o vs st) Q
theorem onRef_ok {ρ : List Addr} {F : Hp} {o : Vl} {f : Nat → R (Vl × Bool)} {Q : VK} (h : OkP T W ρ F (onRef o f) Q) : ∃ n, o = .ref n ∧ OkP T W ρ F (f n) Q := by
  unfold onRef at h
  split at h
  · exact ⟨_, rfl, h⟩
  · exact h.elim
theorem lst_own {xs : List V} : ∀ y, HO.lst xs ≠ .own y := fun _ h => by cases h
theorem mt_ok_append : MtR X "list.append" (rMt T W .append) := by
  intro pins s σ H x xs v us Q I rx rs ⟨ρ, F, st, o, vs, r, ho, hv, h⟩
  obtain ⟨n, rfl, h⟩ := onRef_ok h
  obtain ⟨w, y, rfl, hw, h⟩ := bi1_ok (H := H) hv h
  unfold mAppend at h
  split at h
  · rename_i d st1 e1
    obtain ⟨F1, s1, r1, d1⟩ := hw.frzd r e1
    split at h
    · rename_i l h0
      split at h
      · rename_i c
        obtain ⟨a, rfl, ha, hF, ys, h1, h2⟩ := VlR.obj r1 (ho.mono (List.prefix_refl _) s1) h0
        refine mt_append pins s σ H _ _ v us Q I rx rs ⟨a, ys, y, rfl, rfl, h1, by rw [h2.length, ← limZ_eq]; exact c, ?_⟩
        have r2 := r1.put (o' := .lst (l ++ [d])) (u' := .lst (ys ++ [y])) ha hF h1 lst_own ⟨_, upd_same, DqAll.append h2 (.cons d1 .nil)⟩
        exact h ρ F1 _ (List.prefix_refl _) s1 r2 _ (.inl ⟨rfl, .non⟩)
      · exact h.elim
    · exact h.elim
  · exact h.elim
theorem mt_ok_extend : MtR X "list.extend" (rMt T W .extend) := by
  intro pins s σ H x xs v us Q I rx rs ⟨ρ, F, st, o, vs, r, ho, hv, h⟩
  obtain ⟨n, rfl, h⟩ := onRef_ok h
  obtain ⟨w, y, rfl, hw, h⟩ := bi1_ok (H := H) hv h
  unfold mExtend at h
  split at h
  · rename_i m e1
    split at h
    · rename_i l h0
      split at h
      · rename_i c
        obtain ⟨a, rfl, ha, hF, ys, h1, h2⟩ := VlR.obj r ho h0
        obtain ⟨b, zs, rfl, h3, h4⟩ := (hw.dat r e1).lst r.sub
        refine mt_extend pins s σ H _ _ v us Q I rx rs ⟨a, b, ys, zs, rfl, rfl, h1, h3, by rw [h2.length, h4.length, ← limZ_eq]; exact c, ?_⟩
        have r2 := r.put (o' := .lst (l ++ m)) (u' := .lst (ys ++ zs)) ha hF h1 lst_own ⟨_, upd_same, DqAll.append h2 h4⟩
        exact h ρ F _ (List.prefix_refl _) (Sub.refl F) r2 _ (.inl ⟨rfl, .non⟩)
      · exact h.elim
    · exact h.elim
  · exact h.elim
theorem mt_ok_pop : MtR X "list.pop" (rMt T W .pop) := by
  intro pins s σ H x xs v us Q I rx rs ⟨ρ, F, st, o, vs, r, ho, hv, h⟩
  obtain ⟨n, e0, hh⟩ := onRef_ok h
  clear h
  subst e0
  have h := hh
  clear hh
  split at h
  · have := hv.nil_eq; subst this
    unfold mPop at h
    split at h
    · rename_i l h0
      split at h
      · rename_i d hd
        obtain ⟨a, rfl, ha, hF, ys, h1, h2⟩ := VlR.obj r ho h0
        obtain ⟨y, hy, dy⟩ := h2.at hd
        refine mt_pop pins s σ H _ _ v us Q I rx rs ⟨a, ys, y, rfl, rfl, h1, by rw [h2.length]; exact hy, ?_⟩
        have r2 := r.put (o' := .lst l.dropLast) (u' := .lst ys.dropLast) ha hF h1 lst_own ⟨_, upd_same, DqAll.dropLast h2⟩
        exact h ρ F _ (List.prefix_refl _) (Sub.refl F) r2 _ (.inl ⟨rfl, dy⟩)
      · exact h.elim
    · exact h.elim
  · exact h.elim
theorem seqIndex_ixN {n : Nat} {i : Int} {k : Nat} (h : Ev.ixN n i = some k) : seqIndex? i n = some k := (ixN_seq (by rw [← ixN_eq]; exact h)).1
theorem mt_ok_popAt : MtR X "list.pop" (rMt T W .popAt) := by
  intro pins s σ H x xs v us Q I rx rs ⟨ρ, F, st, o, vs, r, ho, hv, h⟩
  obtain ⟨n, rfl, h⟩ := onRef_ok h
  obtain ⟨w, y, rfl, hw, h⟩ := bi1_ok (H := H) hv h
  unfold mPopAt at h
  split at h
  · rename_i i
    cases hw
    split at h
    · rename_i l h0
      split at h
      · rename_i c
        split at h
        · rename_i k hk
          split at h
          · rename_i d hd
            obtain ⟨a, rfl, ha, hF, ys, h1, h2⟩ := VlR.obj r ho h0
            obtain ⟨y, hy, dy⟩ := h2.at hd
            refine mt_popAt pins s σ H _ _ v us Q I rx rs ⟨a, ys, i, k, y, rfl, rfl, h1, c.1, c.2, by rw [h2.length]; exact seqIndex_ixN hk, hy, ?_⟩
            have r2 := r.put (o' := .lst (l.eraseIdx k)) (u' := .lst (ys.eraseIdx k)) ha hF h1 lst_own ⟨_, upd_same, DqAll.eraseIdx k h2⟩
            exact h ρ F _ (List.prefix_refl _) (Sub.refl F) r2 _ (.inl ⟨rfl, dy⟩)
          · exact h.elim
        · exact h.elim
      · exact h.elim
    · exact h.elim
  · exact h.elim
theorem mt_ok_get2 (hu : X.A.units + 200 < cLine) : MtR X "dict.get" (rMt T W .get2) := by
  intro pins s σ H x xs v us Q I rx rs ⟨ρ, F, st, o, vs, r, ho, hv, h⟩
  have hu1 : X.A.units + 1 < cLine := by omega
  obtain ⟨n, rfl, h⟩ := onRef_ok h
  obtain ⟨w, w2, y, y2, rfl, hw, hw2, h⟩ := bi2_ok (H := H) hv h
  obtain ⟨u1, u2, rfl, ry, ry2⟩ := vals2 rs
  unfold mGet2 at h
  split at h
  · rename_i k dflt st1 e1
    obtain ⟨F1, s1, r1, d1⟩ := hw2.frzd r e1
    split at h
    · rename_i kvs h0
      split at h
      · rename_i kk hk
        obtain ⟨a, rfl, _, _, ws, h1, h2⟩ := VlR.obj r1 (ho.mono (List.prefix_refl _) s1) h0
        have e2 := toKey_kV hw hk
        subst e2
        obtain rfl : v = Value.ref a := rx
        refine d_get2 hu1 I (DGet.k h1) ry ry2 fun w' s' I' rw' => ⟨_, H, I', rw', ?_⟩
        refine OkP.dat (h.mono (List.prefix_refl _) s1) r1 ?_
        obtain ⟨q1, q2⟩ := KvR.look kk h2
        cases e3 : lookK kk kvs with
        | none => rw [q1 e3]; exact d1
        | some d => obtain ⟨z, q3, q4⟩ := q2 d e3; rw [q3]; exact q4
      · exact h.elim
    · rename_i kvs h0
      split at h
      · rename_i kk hk
        obtain ⟨a, rfl, _, _, ws, h1, h2⟩ := VlR.obj r1 (ho.mono (List.prefix_refl _) s1) h0
        obtain ⟨b, rfl, e2⟩ := toTKey_kV hw hk
        obtain rfl : v = Value.ref a := rx
        refine d_get2 hu1 I (DGet.t h1 (r.sub _ _ e2)) ry ry2 fun w' s' I' rw' => ⟨_, H, I', rw', ?_⟩
        refine OkP.dat (h.mono (List.prefix_refl _) s1) r1 ?_
        obtain ⟨q1, q2⟩ := KvR.look kk h2
        cases e3 : lookK kk kvs with
        | none => rw [q1 e3]; exact d1
        | some d => obtain ⟨z, q3, q4⟩ := q2 d e3; rw [q3]; exact q4
      · exact h.elim
    · exact h.elim
  · exact h.elim
theorem findStr_spec : ∀ {zs : List Str} {z : Str} {k n : Nat}, findStr z zs k = some n → ∃ j, n = k + j ∧ zs[j]? = some z ∧ ∀ m, m < j → zs[m]? ≠ some z
  | y :: r, z, k, n, h => by
    unfold findStr at h
    split at h
    · rename_i c; cases h; exact ⟨0, rfl, by rw [c]; rfl, fun m hm => by omega⟩
    · rename_i c
      obtain ⟨j, e, h1, h2⟩ := findStr_spec h
      refine ⟨j + 1, by omega, by simpa using h1, fun m hm => ?_⟩
      cases m with
      | zero => intro q; exact c (Option.some.inj q)
      | succ m => simpa using h2 m (by omega)
  | [], _, _, _, h => by cases h
theorem mt_ok_tindex (hT : T.K = X.K) : MtR X "tuple.index" (rMt T W .tindex) := by
  intro pins s σ H x xs v us Q I rx rs ⟨ρ, F, st, o, vs, r, ho, hv, h⟩
  obtain ⟨w, y, e0, hw, hh⟩ := bi1_ok (H := H) hv h
  clear h
  have h := hh
  clear hh
  subst e0
  unfold mTindex at h
  split at h
  · rename_i l z
    split at h
    · rename_i zs e1
      obtain ⟨d, e2, h⟩ := retP_ok h
      obtain ⟨n, e3, rfl⟩ := map_some e2
      obtain ⟨j, rfl, q1, q2⟩ := findStr_spec e3
      rw [Nat.zero_add] at h
      cases hw
      cases ho with
      | tup h1 h2 =>
        have e4 := strs_V h2 e1
        subst e4
        exact mt_tup_index pins s σ H _ _ v us Q I rx rs ⟨_, zs, z, j, rfl, rfl, (h1.sub r.sub).sq, q1, q2, OkP.dat h r (.int _)⟩
    · exact h.elim
  · exact h.elim
theorem findIx_spec : ∀ {zs : List PyData} {z : PyData} {k n : Nat}, findIx z zs k = some n → ∃ j y, n = k + j ∧ zs[j]? = some y ∧ PyData.eqv y z = true ∧ ∀ m y', m < j → zs[m]? = some y' → PyData.eqv y' z = false
  | y :: r, z, k, n, h => by
    unfold findIx at h
    split at h
    · rename_i c; cases h; exact ⟨0, y, rfl, rfl, c, fun m _ hm => by omega⟩
    · rename_i c
      obtain ⟨j, y2, e, h1, h3, h2⟩ := findIx_spec h
      refine ⟨j + 1, y2, by omega, by simpa using h1, h3, fun m y' hm hy => ?_⟩
      cases m with
      | zero => have : y = y' := Option.some.inj hy; subst this; exact Bool.eq_false_iff.mpr c
      | succ m => exact h2 m y' (by omega) (by simpa using hy)
  | [], _, _, _, h => by cases h
theorem mt_ok_lindex (hT : T.K = X.K) (hu : X.A.units + 200 < cLine) : MtR X "list.index" (rMt T W .lindex) := by
  intro pins s σ H x xs v us Q I rx rs ⟨ρ, F, st, o, vs, r, ho, hv, h⟩
  obtain ⟨w, y, rfl, hw, h⟩ := bi1_ok (H := H) hv h
  unfold mLindex at h
  split at h
  · rename_i l z e1 e2
    split at h
    · rename_i c
      rw [Bool.and_eq_true] at c
      obtain ⟨d, e3, h⟩ := retP_ok h
      obtain ⟨n, e4, rfl⟩ := map_some e3
      obtain ⟨j, y2, rfl, q1, q3, q2⟩ := findIx_spec e4
      rw [Nat.zero_add] at h
      have hd := (ho.dat r e1).dp r.sub (noD_fine c.2)
      have hd2 := (hw.dat r e2).dp r.sub (noD_fine c.1)
      obtain ⟨a, ys, rfl, _, _⟩ := (ho.dat r e1).lst r.sub
      exact mt_indexD (by omega) pins s σ H _ _ v us Q I rx rs ⟨a, y, z, l, j, y2, rfl, rfl, by rw [← hT]; exact hd, by rw [← hT]; exact hd2, c.2, c.1, q1, q3, fun m z' hm hz => q2 m z' hm hz, OkP.dat h r (.int _)⟩
    · exact h.elim
  · exact h.elim
end
end Ev
end

section
set_option Elab.async false
set_option linter.all false
set_option maxRecDepth 100000
set_option maxHeartbeats 4000000
/-! Ev7b: dict(pairs). -/
namespace Ev
open PySem PySem.Spec PyProof.Rows L2
section
variable {T : Tab} {W : XW} {X : Cx}
theorem vals_two {x y : V} {us : List Value} (h : Vals [x, y] us) : ∃ u v, us = [u, v] ∧ RelV x u ∧ RelV y v := vals2 h
/-- the pairs of a list, by their objects -/
theorem pairs_V {pins : List (Addr × Obj)} {s : Shared} {σ : L2.St} {F H : Hp} (I : L2.Inv X pins σ H s) (sF : Sub F H) : ∀ {l : List PyData} {xs : List V} {us : List Value} {kvs : List (List Key × PyData)}, DqAll T.kc F xs l → Vals xs us → pairsT l = some kvs →
    ∃ (Ts : List Addr) (qs : List (List Key × Addr × Value)) (ws : List (List Key × V)), us = Ts.map Value.ref ∧ Ts.length = qs.length ∧ (∀ (j : Nat) (t : Addr) (q : List Key × Addr × Value), Ts[j]? = some t → qs[j]? = some q → PairAt s.heap t (.ref q.2.1) q.2.2) ∧ KT H ws qs ∧ KvR T F ws kvs
  | [], _, _, _, .nil, .nil, e => by
    cases e
    exact ⟨[], [], [], rfl, rfl, fun j t q h => by simp at h, .nil, .nil⟩
  | d :: l, x :: xs, u :: us, kvs, .cons hd hl, .cons ru rr, e => by
    unfold pairsT at e
    split at e
    · rename_i e0; cases e0
    · rename_i k v r e0
      cases e0
      split at e
      · rename_i q qs1 e1 e2
        cases e
        obtain ⟨Ts, qs, ws, h1, h2, h3, h4, h5⟩ := pairs_V I sF hl rr e2
        cases hd with
        | tup t1 t2 =>
          rename_i a ys
          obtain ⟨xk, r1, rfl, dk, r2⟩ := t2.uncons
          obtain ⟨xv, r3, rfl, dv, r4⟩ := r2.uncons
          cases r4
          obtain ⟨b, rfl, hb⟩ := toTKey_kV dk e1
          obtain ⟨its, rv, pt, _⟩ := I.tuple ((t1.sub sF).sq (K := X.K))
          obtain ⟨uk, uv, rfl, ruk, ruv⟩ := vals_two rv
          obtain rfl : uk = Value.ref b := ruk
          obtain rfl : u = Value.ref a := ru
          refine ⟨a :: Ts, (q, b, uv) :: qs, (q, xv) :: ws, by rw [h1]; rfl, by rw [List.length_cons, List.length_cons, h2], fun j t p hj hp => ?_, .cons ⟨rfl, sF _ _ hb, ruv⟩ h4, .cons dv h5⟩
          cases j with
          | zero =>
            simp at hj hp
            subst hj hp
            exact .inl pt
          | succ j => exact h3 j t p (by simpa using hj) (by simpa using hp)
      · cases e
    · cases e
theorem fold_KT {H : Hp} : ∀ {ws : List (List Key × V)} {qs : List (List Key × Addr × Value)} {acc : List (List Key × V)} {aq : List (List Key × Addr × Value)}, KT H ws qs → KT H acc aq → KT H (ws.foldl (fun a p => L2.putK a p.1 p.2) acc) (storedAllH aq qs)
  | [], [], _, _, .nil, h => h
  | (k, v) :: ws, (k2, b, u) :: qs, acc, aq, .cons ⟨e1, e2, e3⟩ r, h => by
    cases e1
    show KT H (ws.foldl (fun a p => L2.putK a p.1 p.2) (L2.putK acc k v)) (storedAllH (storedH aq k b u) qs)
    exact fold_KT r (KT.put h k e2 e3)
theorem fold_Kv {F : Hp} : ∀ {ws : List (List Key × V)} {kvs : List (List Key × PyData)} {acc : List (List Key × V)} {ak : List (List Key × PyData)}, KvR T F ws kvs → KvR T F acc ak → KvR T F (ws.foldl (fun a p => L2.putK a p.1 p.2) acc) (kvs.foldl (fun a p => Ev.putK p.1 p.2 a) ak)
  | [], [], _, _, .nil, h => h
  | (k, v) :: ws, (_, d) :: kvs, acc, ak, .cons hd r, h => by
    show KvR T F (ws.foldl (fun a p => L2.putK a p.1 p.2) (L2.putK acc k v)) (kvs.foldl (fun a p => Ev.putK p.1 p.2 a) (Ev.putK k d ak))
    exact fold_Kv r (KvR.put k hd h)
theorem bi_ok_dict (hc : X.calm = true) (hu : X.A.units + 200 < cLine) : CallR X (.type "dict") (rBi T W .dictP) := by
  intro pins s σ H xs us Q I rr ⟨ρ, F, st, vs, r, hv, h⟩
  obtain ⟨v, x, rfl, hx, h⟩ := bi1_ok (H := H) hv h
  unfold dictI at h
  split at h
  rotate_left
  · exact h.elim
  rename_i l e1
  split at h
  rotate_left
  · exact h.elim
  rename_i kvs e2
  split at h
  rotate_left
  · exact h.elim
  rename_i hz
  obtain ⟨d, e3, e4⟩ := bind_some e1
  cases d with
  | list m =>
    cases e4
    obtain ⟨a, ys, rfl, h1, h2⟩ := (hx.dat r e3).lst r.sub
    obtain ⟨u, rfl, ru⟩ := vals1 rr
    obtain rfl : u = Value.ref a := ru
    obtain ⟨its, rv, pl, hsz⟩ := I.list (SqL.of (K := X.K) h1)
    obtain ⟨Ts, qs, ws, q1, q2, q3, q4, q5⟩ := pairs_V (T := T) I r.sub h2 rv e2
    have hTs : ∀ j, j < qs.length → ∃ t, Ts[j]? = some t := fun j hj => ⟨_, List.getElem?_eq_getElem (by rw [q2]; exact hj)⟩
    have hlen : qs.length = l.length := by
      rw [← q2, ← h2.length, rv.length, q1, List.length_map]
    let pv : List (Value × Value) := qs.map fun q => (Value.ref q.2.1, q.2.2)
    have hpl : PlainSeq "list" s.heap a its.toArray := by
      obtain ⟨o, n, g1, g2, g3, g4⟩ := pl
      exact ⟨o, n, g1, g2, g3, g4⟩
    have hpi : PairItems s.heap its.toArray (fun j => Ts.getD j 0) pv := by
      refine ⟨by rw [List.size_toArray, q1, List.length_map, q2]; show _ = (qs.map _).length; rw [List.length_map], fun j k w hj => ?_⟩
      rw [List.getElem?_map] at hj
      cases hq : qs[j]? with
      | none => rw [hq] at hj; cases hj
      | some q =>
        rw [hq] at hj
        cases hj
        obtain ⟨t, ht⟩ := hTs j (List.getElem?_eq_some_iff.mp hq).1
        have hg : Ts.getD j 0 = t := by rw [List.getD_eq_getElem?_getD, ht]; rfl
        show its.toArray[j]? = some (Value.ref (Ts.getD j 0)) ∧ PairAt s.heap (Ts.getD j 0) _ _
        rw [hg]
        refine ⟨?_, q3 j t q ht hq⟩
        rw [q1]
        simp [ht]
    refine call_dict_pairsH (knd := tupleKind (mixKind X.prog X.w)) (ps := qs) (PairArg.list a its.toArray (fun j => Ts.getD j 0) pv) (show X.A.handled = none from I.ok.hd hc) (show X.A.units + 1 + 1 < cLine by omega) ⟨hpl, hpi⟩ ⟨by show _ = (qs.map _).length; rw [List.length_map], fun i key w hr => ?_⟩ (fun h' hk z hm => ?_) ?_ fun h' tk hd hk => ?_
    · have hr : (qs.map fun q => (Value.ref q.2.1, q.2.2))[i]? = some (key, w) := hr
      rw [List.getElem?_map] at hr
      cases hq : qs[i]? with
      | none => rw [hq] at hr; cases hr
      | some q => rw [hq] at hr; cases hr; exact ⟨q.1, q.2.1, rfl, rfl⟩
    · have ok2 : HOk X.prog X.w H h' := I.hok.kept fun b o e => hk b o (Nat.ne_of_lt (Heap.lt_size e)) (by simp) e
      have : ∀ {ws : List (List Key × V)} {qs : List (List Key × Addr × Value)}, KT H ws qs → ∀ z ∈ qs, (tupleKind (mixKind X.prog X.w)).is h' z.1 z.2.1 := by
        intro ws qs k
        induction k with
        | nil => intro z hz; cases hz
        | cons c _ ih =>
          intro z hz
          rcases List.mem_cons.mp hz with e | hz
          · rw [e, ← c.1]; exact key_of ok2 c.2.1
          · exact ih z hz
      exact this q4 z hm
    · show (qs.map _).length ≤ sizeLine
      rw [List.length_map, hlen, ← limZ_eq]; exact hz
    · have hn := I.hok.fresh (Nat.le_refl s.heap.objs.size)
      obtain ⟨o, es, ep, g1, g2, g3, g4, _, g6⟩ := hd
      have kt := fold_KT q4 (.nil : KT H [] [])
      have kv := fold_Kv (T := T) q5 (.nil : KvR T F [] [])
      have lz : (ws.foldl (fun a p => L2.putK a p.1 p.2) []).length ≤ sizeLine := by
        rw [Paired.length kt]
        have := storedAllH_length qs []
        have e5 : qs.length ≤ sizeLine := by rw [hlen, ← limZ_eq]; exact hz
        simp at this
        omega
      have hs : (s.heap.objs.size == sysModules) = false := (show ObjOk X.prog X.w H _ s.heap.objs.size (.dT []) from dt_empty s.heap I.big).2.1
      have J := I.laid (t' := tk) (a := s.heap.objs.size) (o := .dT (ws.foldl (fun a p => L2.putK a p.1 p.2) [])) (fun b o e => hk b o (by simp) e) (Nat.le_refl _) ⟨lz, hs, _, kt.keeps fun b zs e => by rw [upd_ne (ne_of_none e hn)]; exact e, o, es, ep, g1, g2, g3, g4, g6⟩
      refine ⟨.ref s.heap.objs.size, _, J, rfl, ?_⟩
      have r2 := (r.new (o := .dT (ws.foldl (fun a p => L2.putK a p.1 p.2) [])) hn).push (o := .dT (kvs.foldl (fun acc p => putK p.1 p.2 acc) [])) (r.notin hn) (r.noneF hn) ⟨_, upd_same, kv⟩ (r.nohid hn)
      refine h _ _ _ (List.prefix_append _ _) (Sub.refl F) r2 _ (.inl ⟨rfl, _, rfl, ?_⟩)
      rw [← r.len, List.getElem?_append_right (Nat.le_refl _), Nat.sub_self]; rfl
  | _ => cases e4
end
end Ev
end

section
set_option Elab.async false
set_option linter.all false
set_option maxRecDepth 100000
set_option maxHeartbeats 4000000
/-! Ev8: expressions. -/
namespace Ev
open PySem PySem.Spec PyProof.Rows L2
/-! ### what the text is -/
inductive GE where
  | int (i : Int)
  | str (z : Str)
  | tus (l : List Str)
  | fn (f : Nat)
  | cls (c : Nat)
  /-- a class of errors -/
  | xc (c : Nat)
/-- a def of the text -/
structure FI where
  name : Str
  qual : Str
  pa : Arguments
  body : List Stmt
  sc : Scope
  N : List Str
  ps : List Str
structure Ck where
  G : List (Str × GE)
  free : List Str
  /-- the names of the classes' slots -/
  slots : List (List Str)
  /-- the classes of errors: what each keeps -/
  xs : List (Option Str)
  /-- the defs that call what they get -/
  md : List (Nat × FI)
  /-- the defs that make lambdas -/
  lams : List Str
  /-- the defs of own classes that are called by a property, len and so on: how, the class, the def -/
  ms : List (Pk × Nat × Nat)
  /-- lambdas may be made here -/
  lam : Bool
abbrev Ck.noLam (C : Ck) : Ck := { C with lam := false }
/-- .. in the def x -/
abbrev Ck.at_ (C : Ck) (x : Str) : Ck := { C with lam := decide (x ∈ C.lams) }

def isStar : Expr → Bool
  | .Starred .. => true
  | _ => false
def isSlice : Expr → Bool
  | .Slice .. => true
  | _ => false
def isSetE : Expr → Bool
  | .Set .. => true
  | _ => false
def isCompE : Expr → Bool
  | .ListComp .. => true
  | .SetComp .. => true
  | .DictComp .. => true
  | _ => false
def plainTest : Expr → Bool
  | .UnaryOp .Not _ _ => false
  | .BoolOp .. => false
  | .IfExp .. => false
  | .Compare .. => false
  | _ => true
def plainBase : Expr → Bool
  | .Call (.Name _ _) [] [] _ => false
  | _ => true
theorem star_cons {e : Expr} (h : isStar e = false) (es : List Expr) (env : PySem.Env) : starEach (e :: es) env = (false, eval e env) :: starEach es env := by
  cases e <;> first | rfl | cases h
theorem star_any : ∀ {es : List Expr} (h : es.all (fun e => !isStar e) = true) (pos : Pos) (env : PySem.Env), (backTo pos (starEach es env)).any (·.1) = false
  | [], _, _, _ => rfl
  | e :: es, h, pos, env => by
    rw [List.all_cons, Bool.and_eq_true] at h
    rw [star_cons (by simpa using h.1)]
    show (false || (backTo pos (starEach es env)).any (·.1)) = false
    rw [star_any h.2]; rfl
theorem star_few : ∀ {es : List Expr} (h : es.all (fun e => !isStar e) = true) (pos : Pos) (env : PySem.Env), (backTo pos (starEach es env)).all (fun x => !x.1) = true
  | [], _, _, _ => rfl
  | e :: es, h, pos, env => by
    rw [List.all_cons, Bool.and_eq_true] at h
    rw [star_cons (by simpa using h.1)]
    show (true && (backTo pos (starEach es env)).all (fun x => !x.1)) = true
    rw [star_few h.2]; rfl
theorem slice_plain {b : Expr} (h : isSlice b = false) : PlainIx b := fun o i => by cases b <;> first | rfl | cases h
theorem base_plain {o : Expr} (h : plainBase o = true) (nm : Str) (env : PySem.Env) : attributeBase o nm env (eval o env) = eval o env := by
  unfold attributeBase
  split
  · cases h
  · rfl
theorem test_plain {e : Expr} (h : plainTest e = true) (env : PySem.Env) : ∀ whole, isTrue e env whole = (do let v ← whole; standAt e.pos; holding [v] (truthy v)) := fun whole => by
  cases e with
  | UnaryOp op x p => (cases op <;> first | rfl | cases h)
  | BoolOp _ _ _ => cases h
  | IfExp _ _ _ _ => cases h
  | Compare _ _ _ _ => cases h
  | _ => rfl

def asName : Expr → Option Str
  | .Name x _ => some x
  | _ => none
theorem asName_eq {e : Expr} {x : Str} (h : asName e = some x) : ∃ p, e = .Name x p := by
  cases e <;> first | (cases h; done) | (cases h; exact ⟨_, rfl⟩)
def asBin : Expr → Option (Expr × Operator × Expr)
  | .BinOp a o b _ => some (a, o, b)
  | _ => none
theorem asBin_eq {e a b : Expr} {o : Operator} (h : asBin e = some (a, o, b)) : ∃ p, e = .BinOp a o b p := by
  cases e <;> first | (cases h; done) | (cases h; exact ⟨_, rfl⟩)
def asUn : Expr → Option (UnaryOp × Expr)
  | .UnaryOp o a _ => some (o, a)
  | _ => none
theorem asUn_eq {e a : Expr} {o : UnaryOp} (h : asUn e = some (o, a)) : ∃ p, e = .UnaryOp o a p := by
  cases e <;> first | (cases h; done) | (cases h; exact ⟨_, rfl⟩)
def asBool : Expr → Option (BoolOp × List Expr × Pos)
  | .BoolOp o a p => some (o, a, p)
  | _ => none
theorem asBool_eq {e : Expr} {o : BoolOp} {a : List Expr} {p : Pos} (h : asBool e = some (o, a, p)) : e = .BoolOp o a p := by
  cases e <;> first | (cases h; done) | (cases h; rfl)
def asCmp : Expr → Option (Expr × List CmpOp × List Expr)
  | .Compare a o b _ => some (a, o, b)
  | _ => none
theorem asCmp_eq {e a : Expr} {o : List CmpOp} {b : List Expr} (h : asCmp e = some (a, o, b)) : ∃ p, e = .Compare a o b p := by
  cases e <;> first | (cases h; done) | (cases h; exact ⟨_, rfl⟩)
def asIf : Expr → Option (Expr × Expr × Expr)
  | .IfExp a b c _ => some (a, b, c)
  | _ => none
theorem asIf_eq {e a b c : Expr} (h : asIf e = some (a, b, c)) : ∃ p, e = .IfExp a b c p := by
  cases e <;> first | (cases h; done) | (cases h; exact ⟨_, rfl⟩)
def asTup : Expr → Option (List Expr)
  | .Tuple a _ _ => some a
  | _ => none
theorem asTup_eq {e : Expr} {a : List Expr} (h : asTup e = some a) : ∃ k p, e = .Tuple a k p := by
  cases e <;> first | (cases h; done) | (cases h; exact ⟨_, _, rfl⟩)
def asLst : Expr → Option (List Expr)
  | .List a _ => some a
  | _ => none
theorem asLst_eq {e : Expr} {a : List Expr} (h : asLst e = some a) : ∃ p, e = .List a p := by
  cases e <;> first | (cases h; done) | (cases h; exact ⟨_, rfl⟩)
def asSub : Expr → Option (Expr × Expr)
  | .Subscript a b _ => some (a, b)
  | _ => none
theorem asSub_eq {e a b : Expr} (h : asSub e = some (a, b)) : ∃ p, e = .Subscript a b p := by
  cases e <;> first | (cases h; done) | (cases h; exact ⟨_, rfl⟩)
def asSlice : Expr → Option (Option Expr × Option Expr)
  | .Slice a b none _ => some (a, b)
  | _ => none
theorem asSlice_eq {e : Expr} {a b : Option Expr} (h : asSlice e = some (a, b)) : ∃ p, e = .Slice a b none p := by
  cases e with
  | Slice x y z p =>
    cases z with
    | none => cases h; exact ⟨_, rfl⟩
    | some _ => cases h
  | _ => cases h
def asAttr : Expr → Option (Expr × Str × Pos)
  | .Attribute a n p => some (a, n, p)
  | _ => none
theorem asAttr_eq {e a : Expr} {n : Str} {p : Pos} (h : asAttr e = some (a, n, p)) : e = .Attribute a n p := by
  cases e <;> first | (cases h; done) | (cases h; rfl)
def asCall : Expr → Option (Expr × List Expr × Pos)
  | .Call f a [] p => some (f, a, p)
  | _ => none
theorem asCall_eq {e f : Expr} {a : List Expr} {p : Pos} (h : asCall e = some (f, a, p)) : e = .Call f a [] p := by
  cases e with
  | Call f' a' k p' =>
    cases k with
    | nil => cases h; rfl
    | cons _ _ => cases h
  | _ => cases h
def conD : Expr → Option PyData
  | .Constant (.int i) _ _ => some (.int i)
  | .Constant (.bool i) _ _ => some (.bool i)
  | .Constant (.str i) _ _ => some (.str i)
  | .Constant .none _ _ => some .none
  | _ => none
def isD0 : Expr → Bool
  | .Dict [] [] _ => true
  | _ => false
theorem isD0_eq {e : Expr} (h : isD0 e = true) : ∃ p, e = .Dict [] [] p := by
  cases e with
  | Dict k v p =>
    cases k with
    | nil =>
      cases v with
      | nil => exact ⟨_, rfl⟩
      | cons _ _ => cases h
    | cons _ _ => cases h
  | _ => cases h
def eqData : PyData → PyData → Bool
  | .int i, .int j => i == j
  | .bool i, .bool j => i == j
  | .str i, .str j => i == j
  | .none, .none => true
  | _, _ => false
theorem eqData_eq {a b : PyData} (h : eqData a b = true) : a = b := by
  cases a <;> cases b <;> first | (cases h; done) | rfl | (unfold eqData at h; rw [eq_of_beq h])

def visB (sc : Scope) (x : Str) : Bool := match sc.names.lookup x with
  | some .local => true
  | some .cell => true
  | some .free => true
  | _ => false
def gloB (sc : Scope) (x : Str) : Bool := (match sc.names.lookup x with
  | some .globalImplicit => true
  | _ => false) && !(x == ("__debug__" : Str)) && !decide (x = ("__name__" : Str))
def biN : Bi → Str
  | .len => "len" | .abs => "abs" | .int => "int" | .tuple => "tuple" | .list => "list" | .sum => "sum" | .all => "all" | .any => "any" | .sorted => "sorted" | .repr => "repr" | .max2 => "max" | .min2 => "min" | .str => "str" | .dictP => "dict"
def biOk : Bi → Bool
  | .str => false
  | _ => true
def mtN : Mt → Str
  | .append => "append" | .extend => "extend" | .pop => "pop" | .popAt => "pop" | .get2 => "get" | .tindex => "index" | .lindex => "index"
def tyN : Ty → Option Str
  | .int => some "int" | .bool => some "bool" | .str => some "str" | .tup => some "tuple" | .lst => some "list" | .dict => some "dict" | .own _ => none
def uopS : Uop → UnaryOp
  | .neg => .USub
  | .inv => .Invert
def eqGE : GE → GE → Bool
  | .int i, .int j => i == j
  | .str i, .str j => i == j
  | .tus i, .tus j => i == j
  | .fn i, .fn j => i == j
  | .cls i, .cls j => i == j
  | .xc i, .xc j => i == j
  | _, _ => false
theorem eqGE_eq {a b : GE} (h : eqGE a b = true) : a = b := by
  cases a <;> cases b <;> first | (cases h; done) | rfl | (unfold eqGE at h; rw [eq_of_beq h])
def isGE (C : Ck) (x : Str) (g : GE) : Bool := match C.G.lookup x with
  | some g' => eqGE g' g
  | none => false
theorem isGE_eq {C : Ck} {x : Str} {g : GE} (h : isGE C x g = true) : C.G.lookup x = some g := by
  unfold isGE at h
  split at h
  · rename_i g' e; rw [e, eqGE_eq h]
  · cases h
def gloD : PyData → Option GE
  | .int i => some (.int i)
  | .str z => some (.str z)
  | _ => none

end Ev
end

section
set_option Elab.async false
set_option linter.all false
set_option maxRecDepth 100000
set_option maxHeartbeats 4000000
/-! Ev9: the evaluator tells what an expression does. -/
namespace Ev
open PySem PySem.Spec PyProof.Rows L2
abbrev NW : XW := fun _ _ _ _ _ _ => False
section
variable (T : Tab) (W : XW) (cf nf : CallF)
def tE (ir : Ex) : TE := fun σ H Q => ∃ ρ F env st, Rl T ρ F H st ∧ EnvR T ρ F [] env σ ∧ OkP T W ρ F (evE cf nf ir env st) Q
def tA (irs : List Ex) : TA := fun σ H Q => ∃ ρ F env st, Rl T ρ F H st ∧ EnvR T ρ F [] env σ ∧ OkR T W ρ F (evEs cf nf irs env st) fun vs _ ρ' F' H' => ∀ xs, VlsR T ρ' F' vs xs → Q xs H'
def tT (ir : Ex) : TT := fun σ H Q => ∃ ρ F env st, Rl T ρ F H st ∧ EnvR T ρ F [] env σ ∧ OkR T W ρ F (evE cf nf ir env st) fun v st' ρ' F' H' => ∃ k, truV st' v.1 = some k ∧ Q k H'
def rCf (f : Nat) : List V → Hp → VK → Prop := fun xs H Q => ∃ ρ F st vs, Rl T ρ F H st ∧ VlsR T ρ F vs xs ∧ OkP T W ρ F (cf f vs st) Q
end
def Like (X Y : Cx) : Prop := Y.prog = X.prog ∧ Y.w = X.w ∧ Y.K = X.K ∧ Y.mg = X.mg ∧ Y.base = X.base ∧ Y.A = X.A ∧ Y.calm = X.calm ∧ Y.N = X.N
theorem Like.trans {X Y Z : Cx} (a : Like X Y) (b : Like Y Z) : Like X Z := by
  obtain ⟨a1, a2, a3, a4, a5, a6, a7, a8⟩ := a
  obtain ⟨b1, b2, b3, b4, b5, b6, b7, b8⟩ := b
  exact ⟨b1.trans a1, b2.trans a2, b3.trans a3, b4.trans a4, b5.trans a5, b6.trans a6, b7.trans a7, b8.trans a8⟩
theorem Like.refl (X : Cx) : Like X X := ⟨rfl, rfl, rfl, rfl, rfl, rfl, rfl, rfl⟩
def isiTys : List String := ["int", "bool", "str", "tuple", "list", "dict", "NoneType"]
/-- an error of the class c that keeps p -/
def ExR (K : KC) (F : Hp) (cls : Value) (d : Option Addr) (c : Nat) (p : PyData) : Prop := cls = .ref (K.xA c) ∧ ∀ f, K.xf c = some f → ∃ dd fs v, d = some dd ∧ F dd = some (.xd fs) ∧ fs.lookup f = some v ∧ Dq K F v p
theorem ExR.sub {K : KC} {F G : Hp} (s : Sub F G) {cls : Value} {d : Option Addr} {c : Nat} {p : PyData} (h : ExR K F cls d c p) : ExR K G cls d c p :=
  ⟨h.1, fun f e => let ⟨dd, fs, v, e1, e2, e3, e4⟩ := h.2 f e; ⟨dd, fs, v, e1, s _ _ e2, e3, Dq.sub s e4⟩⟩
/-- what is wished of the errors, told for the evaluator's -/
def wOf (K : KC) (E : XK) : XW := fun c p _ F H _ => ∀ cls d, ExR K F cls d c p → E cls d H
/-- nothing is raised -/
def nE : XK := fun _ _ _ => False
abbrev TakesE (X : Cx) (E : XK) : Prop := Takes X fun cls d _ H => E cls d H
theorem takes_nE {X : Cx} : TakesE X nE := fun _ _ x => by
  obtain ⟨_, _, _, _, _, _, _, _, _, _, _, _, _, _, _, _, z⟩ := x
  exact z.elim
theorem rCf_imp {T : Tab} {W W' : XW} {cf : CallF} {f : Nat} {xs : List V} {H : Hp} {Q : VK} (h : ∀ c p ρ F H st, W c p ρ F H st → W' c p ρ F H st) (q : rCf T W cf f xs H Q) : rCf T W' cf f xs H Q := by
  obtain ⟨ρ, F, st, vs, r, hv, hk⟩ := q
  refine ⟨ρ, F, st, vs, r, hv, ?_⟩
  cases e : cf f vs st with
  | ok a st' => rw [e] at hk; exact hk
  | exc c p st' => rw [e] at hk; exact fun ρ' F' H' p1 s1 r1 => h _ _ _ _ _ _ (hk ρ' F' H' p1 s1 r1)
  | no => rw [e] at hk; exact hk
/-- what an error of the class c, made of x, leaves -/
def rMkx (K : KC) (c : Nat) (x : V) (H : Hp) (Q : XK) : Prop := match K.xf c with
  | none => Q (.ref (K.xA c)) none H
  | some f => ∀ dd, H dd = none → Q (.ref (K.xA c)) (some dd) (upd H dd (.xd [(f, x)]))
def MkX (K : KC) (c : Nat) (X : Cx) : Prop := ∀ (pins : List (Addr × Obj)) (s : Shared) (σ : L2.St) (H : Hp) (x : V) (u : Value) (Q : XK), L2.Inv X pins σ H s → RelV x u → rMkx K c x H Q → wpAny (model X.prog X.w) X.A (call (.ref (K.xA c)) [u]) (MkP X pins σ Q) X.xe s
/-- what an own def must answer -/
def msPost (k : Pk) (Q : VK) : VK := match k with
  | .get _ => Q
  | .len => fun z H' => ∃ i : Int, z = .int i ∧ 0 ≤ i ∧ i < 4611686018427387904 ∧ Q (.int i) H'
  | .str => fun z H' => ∃ y : Str, z = .str y ∧ Q (.str y) H'
  | .eq => fun z H' => ∃ b : Bool, z = .bl b ∧ Q (.bl b) H'
  | .ne => fun z H' => ∃ b : Bool, z = .bl b ∧ Q (.bl !b) H'
/-- an own def of the class at C is called by a property, len and so on -/
def MsR (X : Cx) (C : Addr) (k : Pk) (r : List V → Hp → VK → Prop) : Prop := ∀ (pins : List (Addr × Obj)) (s : Shared) (σ : L2.St) (H : Hp) (a dx : Addr) (vs : List (Option V)) (Q : VK), L2.Inv X pins σ H s → SlAt H a C dx vs → match k with
  | .get n => r [.ref a] H Q → ∀ b, wpAny (model X.prog X.w) X.A (getAttr (.ref a) n b) (EP X pins σ Q) X.xe s
  | .len => r [.ref a] H (msPost .len Q) → wpAny (model X.prog X.w) X.A (call (.builtin "len") [.ref a]) (EP X pins σ Q) X.xe s
  | .str => r [.ref a] H (msPost .str Q) → wpAny (model X.prog X.w) X.A (call (.type "str") [.ref a]) (EP X pins σ Q) X.xe s
  | .eq => ∀ (y : V) (u tb : Value), RelV y u → PySem.W.notFirst X.K C tb = true → PySem.W.Looks (model X.prog X.w) s.heap (typeOf u) tb → r [.ref a, y] H (msPost .eq Q) → wpAny (model X.prog X.w) X.A (compareOp .Eq (.ref a) u) (EP X pins σ Q) X.xe s
  | .ne => ∀ (y : V) (u tb : Value), RelV y u → PySem.W.notFirst X.K C tb = true → PySem.W.Looks (model X.prog X.w) s.heap (typeOf u) tb → r [.ref a, y] H (msPost .ne Q) → wpAny (model X.prog X.w) X.A (compareOp .NotEq (.ref a) u) (EP X pins σ Q) X.xe s
/-- with what an own object may be compared -/
structure NfC (K : PySem.W.Frag) (cA : Nat → Addr) (n : Nat) : Prop where
  non : ∀ c, c < n → PySem.W.notFirst K (cA c) (.type "NoneType") = true
  tup : ∀ c, c < n → PySem.W.notFirst K (cA c) (.type "tuple") = true
  own : ∀ c c', c < n → c' < n → PySem.W.notFirst K (cA c) (.ref (cA c')) = true
/-- what is known of the module, but for lambdas -/
structure AmbC (T : Tab) (C : Ck) (W : XW) (cf nf : CallF) (X : Cx) : Prop where
  wk : ∃ E : XK, TakesE X E ∧ ∀ c p ρ F H st, W c p ρ F H st → wOf T.kc E c p ρ F H st
  hT : T.K = X.K
  nc : T.ncl = C.slots.length
  calm : X.calm = true
  nd : X.N.Nodup
  gd : X.A.guards = some []
  un : X.A.units + 200 < cLine
  rep : ∀ Y, RepT Y
  rm : Room 2 X.A
  gi : ∀ n i, C.G.lookup n = some (.int i) → ∃ t, X.mg n = some (.int i t)
  gs : ∀ n i, C.G.lookup n = some (.str i) → ∃ t, X.mg n = some (.str i t)
  gt : ∀ n l, C.G.lookup n = some (.tus l) → ∃ a, X.mg n = some (.ref a) ∧ ∀ H, SqT X.K H a (l.map V.str)
  fr : ∀ n ∈ C.free, X.mg n = none
  fn : ∀ n f, C.G.lookup n = some (.fn f) → ∃ a, X.mg n = some (.ref a) ∧ PySem.W.keepIn X.K (.ref a) = true ∧ ∀ Y, Like X Y → ∀ h E, TakesE Y E → CallR Y (.ref a) (rCf { T with hid := h } (wOf T.kc E) cf f)
  cl : ∀ n c, C.G.lookup n = some (.cls c) → X.mg n = some (.ref (T.cA c)) ∧ PySem.W.keepIn X.K (.ref (T.cA c)) = true ∧ ∀ Y, Like X Y → ∀ h E, TakesE Y E → CallR Y (.ref (T.cA c)) (rCf { T with hid := h } (wOf T.kc E) nf c)
  /-- what isinstance asks of the classes -/
  kc : ∀ c c', c < C.slots.length → c' < C.slots.length → PySem.W.kitOne X.K (.ref (T.cA c)) (.ref (T.cA c')) = some (c == c')
  ko : ∀ c, c < C.slots.length → ∀ t ∈ isiTys, PySem.W.kitOne X.K (.ref (T.cA c)) (.type t) = some false ∧ PySem.W.kitOne X.K (.type t) (.ref (T.cA c)) = some false
  sl : ∀ c s, C.slots[c]? = some s → SCls X.K (T.cA c) ∧ ∀ i n, s[i]? = some n → ∃ p, Slt X.K (T.cA c) n i p
  si : ∀ c, c < C.slots.length → SlX.SIsi X.K (T.cA c)
  xc : ∀ n c, C.G.lookup n = some (.xc c) → X.mg n = some (.ref (T.kc.xA c)) ∧ PySem.W.keepIn X.K (.ref (T.kc.xA c)) = true ∧ c < C.xs.length
  xm : ∀ c c', c < C.xs.length → c' < C.xs.length → PySem.W.exmOne X.K (.ref (T.kc.xA c)) (.ref (T.kc.xA c')) = some (c == c')
  xf : ∀ c, c < C.xs.length → C.xs[c]? = some (T.kc.xf c)
  xr : ∀ c f, c < C.xs.length → T.kc.xf c = some f → XfC X.K (T.kc.xA c) ∧ PySem.W.findIn X.K (.ref (T.kc.xA c)) f = some none
  ms : ∀ k c f, (k, c, f) ∈ C.ms → ∀ Y, Like X Y → ∀ h, MsR Y (T.cA c) k (rCf { T with hid := h } NW cf f)
  nfc : NfC X.K T.cA C.slots.length
  xk : ∀ c, c < C.xs.length → ∀ Y : Cx, Y.prog = X.prog → Y.w = X.w → Y.K = X.K → Y.mg = X.mg → Y.base = X.base → Room 2 Y.A → MkX T.kc c Y
  md : ∀ n i fi, C.G.lookup n = some (.fn i) → C.md.lookup i = some fi → ∃ a fd, X.mg n = some (.ref a) ∧ PySem.W.keepIn X.K (.ref a) = true ∧ FunD X.K fi.name fi.qual fi.pa fi.body fi.sc [] [] a fd ∧ Binds X.K fd fi.ps [] ∧ FnScope fi.N fi.ps fi.sc
/-- where lambdas may be made -/
structure LamAt (T : Tab) (C : Ck) (cf nf : CallF) (X : Cx) : Prop where
  ex : ∃ c P, X.env.code = .ref c ∧ LamX.TabB X.base X.mg c P ∧ (P, X.env.qual ++ "<lambda>") ∈ T.tbs ∧ ∀ p ∈ T.tbs, p.1 = P → p.2 = X.env.qual ++ "<lambda>"
  am : ∃ lv, Room (lv + 2) X.A ∧ ∀ (Y : Cx), Like X Y → ∀ (A : Around) (outer : List PySem.Env) (s : Shared) (H : Hp) (E : XK) (scope : Scope) (f c' : Addr) (hd : List (Addr × List V)), Room lv (A.deeper (LamX.lamEnv Y scope s.heap.objs.size f c')) → A.guards = some [] → AmbC { T with hid := hd } C.noLam (wOf T.kc E) cf nf (LamX.lamCx Y A outer s H E scope f c')
structure Amb (T : Tab) (C : Ck) (W : XW) (cf nf : CallF) (X : Cx) : Prop extends AmbC T C W cf nf X where
  lam : C.lam = true → LamAt T C cf nf X
theorem AmbC.like {T : Tab} {C : Ck} {W W' : XW} {cf nf : CallF} {X Y : Cx} (h : AmbC T C W cf nf X) (l : Like X Y) (w : ∃ E : XK, TakesE Y E ∧ ∀ c p ρ F H st, W' c p ρ F H st → wOf T.kc E c p ρ F H st) : AmbC T C.noLam W' cf nf Y := by
  obtain ⟨l1, l2, l3, l4, l5, l6, l7, l8⟩ := id l
  refine ⟨w, by rw [l3]; exact h.hT, h.nc, by rw [l7]; exact h.calm, by rw [l8]; exact h.nd, by rw [l6]; exact h.gd, by rw [l6]; exact h.un, h.rep, by rw [l6]; exact h.rm, ?_, ?_, ?_, ?_, ?_, ?_, ?_, ?_, ?_, ?_, ?_, ?_, h.xf, ?_, fun k c f e Z z => h.ms k c f e Z (l.trans z), by rw [l3]; exact h.nfc, ?_, ?_⟩
  · rw [l4]; exact h.gi
  · rw [l4]; exact h.gs
  · rw [l4, l3]; exact h.gt
  · rw [l4]; exact h.fr
  · intro n f e; obtain ⟨a, h1, h2, h3⟩ := h.fn n f e; exact ⟨a, by rw [l4]; exact h1, by rw [l3]; exact h2, fun Z z => h3 Z (l.trans z)⟩
  · intro n f e; obtain ⟨h1, h2, h3⟩ := h.cl n f e; exact ⟨by rw [l4]; exact h1, by rw [l3]; exact h2, fun Z z => h3 Z (l.trans z)⟩
  · rw [l3]; exact h.kc
  · rw [l3]; exact h.ko
  · rw [l3]; exact h.sl
  · rw [l3]; exact h.si
  · rw [l4, l3]; exact h.xc
  · rw [l3]; exact h.xm
  · rw [l3]; exact h.xr
  · rw [l1, l2, l3, l4, l5]; exact h.xk
  · rw [l3, l4]; exact h.md
theorem AmbC.on {T : Tab} {C : Ck} {W : XW} {cf nf : CallF} {X : Cx} (a : AmbC T C.noLam W cf nf X) : AmbC T C W cf nf X :=
  ⟨a.wk, a.hT, a.nc, a.calm, a.nd, a.gd, a.un, a.rep, a.rm, a.gi, a.gs, a.gt, a.fr, a.fn, a.cl, a.kc, a.ko, a.sl, a.si, a.xc, a.xm, a.xf, a.xr, a.ms, a.nfc, a.xk, a.md⟩
/-- .. and no lambda is made -/
theorem AmbC.plain {T : Tab} {C : Ck} {W : XW} {cf nf : CallF} {X : Cx} (h : AmbC T C.noLam W cf nf X) : Amb T C.noLam W cf nf X := { toAmbC := h, lam := fun z => nomatch z }
theorem Amb.like {T : Tab} {C : Ck} {W W' : XW} {cf nf : CallF} {X Y : Cx} (h : Amb T C W cf nf X) (l : Like X Y) (w : ∃ E : XK, TakesE Y E ∧ ∀ c p ρ F H st, W' c p ρ F H st → wOf T.kc E c p ρ F H st) : Amb T C.noLam W' cf nf Y := (h.toAmbC.like l w).plain
theorem nw_wk {T : Tab} {Y : Cx} : ∃ E : XK, TakesE Y E ∧ ∀ c p ρ F H st, NW c p ρ F H st → wOf T.kc E c p ρ F H st := ⟨nE, takes_nE, fun _ _ _ _ _ _ z => z.elim⟩
theorem AmbC.re {T : Tab} {C : Ck} {W : XW} {cf nf : CallF} {X : Cx} (h : AmbC T C W cf nf X) (hd : List (Addr × List V)) : AmbC { T with hid := hd } C W cf nf X :=
  ⟨h.wk, h.hT, h.nc, h.calm, h.nd, h.gd, h.un, h.rep, h.rm, h.gi, h.gs, h.gt, h.fr, h.fn, h.cl, h.kc, h.ko, h.sl, h.si, h.xc, h.xm, h.xf, h.xr, h.ms, h.nfc, h.xk, h.md⟩
theorem Amb.re {T : Tab} {C : Ck} {W : XW} {cf nf : CallF} {X : Cx} (h : Amb T C W cf nf X) (hd : List (Addr × List V)) : Amb { T with hid := hd } C W cf nf X :=
  { toAmbC := h.toAmbC.re hd, lam := fun z => ⟨(h.lam z).ex, (h.lam z).am⟩ }
theorem _root_.L2.PE.imp {X : Cx} {e : Expr} {t t' : TE} (h : PE X e t) (i : ∀ σ H Q, t' σ H Q → t σ H Q) : PE X e t' := ⟨fun pins s σ H Q I q => h.run pins s σ H Q I (i σ H Q q)⟩
theorem _root_.L2.PT.imp {X : Cx} {e : Expr} {t t' : TT} (h : PT X e t) (i : ∀ σ H Q, t' σ H Q → t σ H Q) : PT X e t' := ⟨fun pins s σ H Q I q => h.run pins s σ H Q I (i σ H Q q)⟩
theorem _root_.L2.PA.imp {X : Cx} {e : List Expr} {t t' : TA} (h : PA X e t) (i : ∀ σ H Q, t' σ H Q → t σ H Q) : PA X e t' := ⟨fun pos pins s σ H Q I q => h.run pos pins s σ H Q I (i σ H Q q)⟩
section
variable {T : Tab} {W : XW} {C : Ck} {cf nf : CallF} {X : Cx} {ρ : List Addr} {F H : Hp} {st : Store} {env : Env} {σ : L2.St}
theorem seqE {a : Ex} {α : Type} {f : Vl × Bool → Store → R α} {k : α → Store → List Addr → Hp → Hp → Prop} {Q1 : VK} (r : Rl T ρ F H st) (en : EnvR T ρ F [] env σ) (h : OkR T W ρ F ((evE cf nf a env st).bind f) k)
    (hq : ∀ ρ1 F1 H1 st1 v x, ρ <+: ρ1 → Sub F F1 → Rl T ρ1 F1 H1 st1 → EnvR T ρ1 F1 [] env σ → VlR T ρ1 F1 v.1 x → OkR T W ρ1 F1 (f v st1) k → Q1 x H1) : tE T W cf nf a σ H Q1 :=
  ⟨ρ, F, env, st, r, en, (OkR.bind h).imp fun v st1 ρ1 F1 H1 p s r1 q x fx => by
    obtain ⟨F2, s2, r2, v2⟩ := fx.frz r1
    exact hq ρ1 F2 H1 st1 v x p (s.trans s2) r2 (en.mono p (s.trans s2)) v2 (q.mono (List.prefix_refl _) s2)⟩
theorem seqA {a : List Ex} {α : Type} {f : List Vl → Store → R α} {k : α → Store → List Addr → Hp → Hp → Prop} {Q1 : List V → Hp → Prop} (r : Rl T ρ F H st) (en : EnvR T ρ F [] env σ) (h : OkR T W ρ F ((evEs cf nf a env st).bind f) k)
    (hq : ∀ ρ1 F1 H1 st1 v x, ρ <+: ρ1 → Sub F F1 → Rl T ρ1 F1 H1 st1 → EnvR T ρ1 F1 [] env σ → VlsR T ρ1 F1 v x → OkR T W ρ1 F1 (f v st1) k → Q1 x H1) : tA T W cf nf a σ H Q1 :=
  ⟨ρ, F, env, st, r, en, (OkR.bind h).imp fun v st1 ρ1 F1 H1 p s r1 q x fx => hq ρ1 F1 H1 st1 v x p s r1 (en.mono p s) fx q⟩
theorem seqT {a : Ex} {α : Type} {f : Vl × Bool → Store → R α} {k : α → Store → List Addr → Hp → Hp → Prop} {Q1 : Bool → Hp → Prop} (r : Rl T ρ F H st) (en : EnvR T ρ F [] env σ) (h : OkR T W ρ F ((evE cf nf a env st).bind f) k)
    (hq : ∀ ρ1 F1 H1 st1 v, ρ <+: ρ1 → Sub F F1 → Rl T ρ1 F1 H1 st1 → EnvR T ρ1 F1 [] env σ → OkR T W ρ1 F1 (f v st1) k → ∃ b, truV st1 v.1 = some b ∧ Q1 b H1) : tT T W cf nf a σ H Q1 :=
  ⟨ρ, F, env, st, r, en, (OkR.bind h).imp fun v st1 ρ1 F1 H1 p s r1 q => hq ρ1 F1 H1 st1 v p s r1 (en.mono p s) q⟩
theorem OkP.k {r : R (Vl × Bool)} {Q : VK} (h : OkP T W ρ F r Q) : OkR T W ρ F r fun v _ ρ' F' H' => ∀ x, FrR T ρ' F' H' v x → Q x H' := h

/-! ### each form -/
theorem con_V {x : PyData} (h : isScal x = true) : ∃ v, Dq T.kc F v x ∧ ∀ H, Dq T.kc H v x := by
  cases x with
  | none => exact ⟨_, .non, fun _ => .non⟩
  | bool b => exact ⟨_, .bl b, fun _ => .bl b⟩
  | int i => exact ⟨_, .int i, fun _ => .int i⟩
  | str z => exact ⟨_, .str z, fun _ => .str z⟩
  | _ => cases h
theorem e_con {e : Expr} {x y : PyData} (h : conD e = some y) (h2 : eqData y x = true) : PE X e (tE T W cf nf (.con x)) := by
  have := eqData_eq h2
  subst this
  unfold conD at h
  split at h
  · cases h; exact pe_int.imp fun σ H Q ⟨ρ, F, env, st, r, en, h⟩ => OkP.dat h r (.int _)
  · cases h; exact pe_bl.imp fun σ H Q ⟨ρ, F, env, st, r, en, h⟩ => OkP.dat h r (.bl _)
  · cases h; exact pe_str.imp fun σ H Q ⟨ρ, F, env, st, r, en, h⟩ => OkP.dat h r (.str _)
  · cases h; exact pe_non.imp fun σ H Q ⟨ρ, F, env, st, r, en, h⟩ => OkP.dat h r .non
  · cases h
theorem gl_of {sc : Scope} {m : Str} (hs : X.env.scope = sc) (h : gloB sc m = true) : Gl X m ∧ (m == ("__debug__" : Str)) = false ∧ m ≠ ("__name__" : Str) := by
  unfold gloB at h
  simp only [Bool.and_eq_true, Bool.not_eq_true', decide_eq_false_iff_not] at h
  refine ⟨?_, h.1.2, h.2⟩
  have h1 := h.1.1
  split at h1
  · rename_i q
    show X.env.scope.names.lookup m = some .globalImplicit
    rw [hs]; exact q
  · cases h1
theorem e_glo {m : Str} {p : Pos} {sc : Scope} {x : PyData} {g : GE} (am : Amb T C W cf nf X) (hs : X.env.scope = sc) (h1 : gloD x = some g) (h2 : gloB sc m = true) (h3 : C.G.lookup m = some g) (n : Str) : PE X (.Name m p) (tE T W cf nf (.glo n x)) := by
  obtain ⟨g1, g2, _⟩ := gl_of hs h2
  unfold gloD at h1
  split at h1
  · cases h1
    obtain ⟨t, q⟩ := am.gi _ _ h3
    exact (pe_glob (v := .int _) g1 q ⟨t, rfl⟩ g2).imp fun σ H Q ⟨ρ, F, env, st, r, en, h⟩ => OkP.dat h r (.int _)
  · cases h1
    obtain ⟨t, q⟩ := am.gs _ _ h3
    exact (pe_glob (v := .str _) g1 q ⟨t, rfl⟩ g2).imp fun σ H Q ⟨ρ, F, env, st, r, en, h⟩ => OkP.dat h r (.str _)
  · cases h1
theorem e_gtu {m : Str} {p : Pos} {sc : Scope} {l : List Str} (am : Amb T C W cf nf X) (hs : X.env.scope = sc) (h2 : gloB sc m = true) (h3 : C.G.lookup m = some (.tus l)) (n : Str) : PE X (.Name m p) (tE T W cf nf (.gtu n l)) := by
  obtain ⟨g1, g2, _⟩ := gl_of hs h2
  obtain ⟨a, q, q2⟩ := am.gt _ _ h3
  exact (pe_glob (v := .ref a) g1 q rfl g2).imp fun σ H Q ⟨ρ, F, env, st, r, en, h⟩ => OkP.here h r (.inl ⟨rfl, a, rfl, by rw [am.hT]; exact q2 F⟩)
theorem vis_of {sc : Scope} {m : Str} (hs : X.env.scope = sc) (h : visB sc m = true) : Vis X.env.scope m := by
  rw [hs]
  unfold visB at h
  split at h
  · rename_i q; exact .inl q
  · rename_i q; exact .inr (.inl q)
  · rename_i q; exact .inr (.inr q)
  · cases h
theorem e_var {m : Str} {p : Pos} {sc : Scope} {i : Nat} (hs : X.env.scope = sc) (h1 : X.N[i]? = some m) (h2 : visB sc m = true) (h3 : (m == ("__debug__" : Str)) = false) (h4 : (m == ("__classdict__" : Str)) = false) : PE X (.Name m p) (tE T W cf nf (.var i)) :=
  (pe_var h1 (vis_of hs h2) h3 h4).imp fun σ H Q ⟨ρ, F, env, st, r, en, h⟩ => by
    unfold evE getV at h
    cases e : env[i]? with
    | none => rw [e] at h; exact h.elim
    | some o =>
      cases o with
      | none => rw [e] at h; exact h.elim
      | some v =>
        rw [e] at h
        obtain ⟨x, e1, e2⟩ := en.get i v (by simp) e
        exact ⟨x, e1, OkP.here h r (.inl ⟨rfl, e2⟩)⟩
theorem a_nil : PA X [] (tA T W cf nf []) := pa_nil.imp fun σ H Q ⟨ρ, F, env, st, r, en, h⟩ => h ρ F H (List.prefix_refl _) (Sub.refl F) r [] .nil
theorem a_cons {e : Expr} {es : List Expr} {a : Ex} {as : List Ex} (hs : isStar e = false) (h1 : PE X e (tE T W cf nf a)) (h2 : PA X es (tA T W cf nf as)) : PA X (e :: es) (tA T W cf nf (a :: as)) :=
  (pa_cons h1 h2 (star_cons hs es X.env)).imp fun σ H Q ⟨ρ, F, env, st, r, en, h⟩ => by
    unfold evEs at h
    refine seqE r en h fun ρ1 F1 H1 st1 v x p1 s1 r1 en1 hv h1 => ?_
    refine seqA r1 en1 h1 fun ρ2 F2 H2 st2 vs xs p2 s2 r2 en2 hvs h2 => ?_
    exact h2 ρ2 F2 H2 (List.prefix_refl _) (Sub.refl F2) r2 _ (.cons (hv.mono p2 s2) hvs)
theorem e_tup {es : List Expr} {as : List Ex} {k : Nat} {p : Pos} (h1 : PA X es (tA T W cf nf as)) : PE X (.Tuple es k p) (tE T W cf nf (.tup as)) := by
  refine ⟨fun pins s σ H Q I ⟨ρ, F, env, st, r, en, h⟩ => ?_⟩
  unfold evE at h
  refine wpAny_Tuple_spliced (thn (h1.run p pins s σ H (fun xs H1 => ∃ ρ1 F1 st2 ds, Rl T ρ1 F1 H1 st2 ∧ DqAll T.kc F1 xs ds ∧ ds.length ≤ limZ ∧ OkP T W ρ1 F1 (.ok (.d (.tuple ds), false) st2) Q) I ?_) fun us s1 ⟨xs, H1, I1, rv, ρ1, F1, st2, ds, r1, hd, c, hk⟩ => ?_)
  · refine seqA r en h fun ρ1 F1 H1 st1 vs xs p1 s1 r1 en1 hv h1 => ?_
    split at h1
    · rename_i ds st2 e1
      split at h1
      · rename_i c
        obtain ⟨F2, s2, r2, d2⟩ := hv.frzd r1 e1
        exact ⟨ρ1, F2, st2, ds, r2, d2, c, OkR.mono h1 (List.prefix_refl _) s2⟩
      · exact h1.elim
    · exact h1.elim
  · have hz : xs.length ≤ sizeLine := by rw [hd.length, ← limZ_eq]; exact c
    exact ⟨by rw [← rv.length]; exact hz, OkP.lay (tk := s1.toks) hk r1 I1 hd rv hz⟩
theorem e_lst {es : List Expr} {as : List Ex} {p : Pos} (h1 : PA X es (tA T W cf nf as)) : PE X (.List es p) (tE T W cf nf (.lst as)) :=
  (pe_lst h1).imp fun σ H Q ⟨ρ, F, env, st, r, en, h⟩ => by
    unfold evE at h
    refine seqA r en h fun ρ1 F1 H1 st1 vs xs p1 s1 r1 en1 hv h1 => ?_
    split at h1
    · rename_i ds st2 e1
      split at h1
      · rename_i c
        obtain ⟨F2, s2, r2, d2⟩ := hv.frzd r1 e1
        refine ⟨by rw [d2.length, ← limZ_eq]; exact c, fun q hq => OkP.newL (OkR.mono h1 (List.prefix_refl _) s2) r2 d2 hq⟩
      · exact h1.elim
    · exact h1.elim
theorem e_dnew {p : Pos} (t : Bool) : PE X (.Dict [] [] p) (tE T W cf nf (.dnew t)) := by
  cases t with
  | true =>
    refine pe_dnewT.imp fun σ H Q ⟨ρ, F, env, st, r, en, h⟩ q hq => ?_
    have r2 := (r.new (o := .dT []) hq).push (o := .dT []) (r.notin hq) (r.noneF hq) ⟨[], upd_same, .nil⟩ (r.nohid hq)
    refine h _ _ _ (List.prefix_append _ _) (Sub.refl F) r2 _ (.inl ⟨rfl, q, rfl, ?_⟩)
    rw [← r.len, List.getElem?_append_right (Nat.le_refl _), Nat.sub_self]; rfl
  | false =>
    refine pe_dnewK.imp fun σ H Q ⟨ρ, F, env, st, r, en, h⟩ q hq => ?_
    have r2 := (r.new (o := .dK []) hq).push (o := .dK []) (r.notin hq) (r.noneF hq) ⟨[], upd_same, .nil⟩ (r.nohid hq)
    refine h _ _ _ (List.prefix_append _ _) (Sub.refl F) r2 _ (.inl ⟨rfl, q, rfl, ?_⟩)
    rw [← r.len, List.getElem?_append_right (Nat.le_refl _), Nat.sub_self]; rfl
theorem e_bin {a b : Expr} {x y : Ex} {op : Bop} {p : Pos} (am : Amb T C W cf nf X) (h1 : PE X a (tE T W cf nf x)) (h2 : PE X b (tE T W cf nf y)) : PE X (.BinOp a (opS op) b p) (tE T W cf nf (.bin op x y)) :=
  (pe_op (op_bin (W := W) am.hT (am.rep X) op) h1 h2).imp fun σ H Q ⟨ρ, F, env, st, r, en, h⟩ => by
    unfold evE at h
    refine seqE r en h fun ρ1 F1 H1 st1 u xx p1 s1 r1 en1 hu h1 => ?_
    refine seqE r1 en1 h1 fun ρ2 F2 H2 st2 v yy p2 s2 r2 en2 hv h2 => ?_
    exact ⟨ρ2, F2, st2, u.1, v.1, r2, hu.mono p2 s2, hv, h2⟩
theorem e_un {a : Expr} {x : Ex} {op : Uop} {p : Pos} (h1 : PE X a (tE T W cf nf x)) : PE X (.UnaryOp (uopS op) a p) (tE T W cf nf (.un op x)) := by
  have q : UnR X (unaryOp (uopS op)) (fun x H Q => ∃ ρ F st u, Rl T ρ F H st ∧ VlR T ρ F u x ∧ OkP T W ρ F (match datD st u with
    | some u => retP (unD op u) st
    | none => .no) Q) := by
    have := op_un (T := T) (W := W) (X := X) op
    cases op <;> exact this
  exact (pe_un q h1).imp fun σ H Q ⟨ρ, F, env, st, r, en, h⟩ => by
    unfold evE at h
    refine seqE r en h fun ρ1 F1 H1 st1 u xx p1 s1 r1 en1 hu h1 => ?_
    exact ⟨ρ1, F1, st1, u.1, r1, hu, h1⟩
theorem e_cmp {a b : Expr} {x y : Ex} {op : Cop} {p : Pos} (am : Amb T C W cf nf X) (hm : behindInMarks (copS op) b = false) (h1 : PE X a (tE T W cf nf x)) (h2 : PE X b (tE T W cf nf y)) :
    PE X (.Compare a [copS op] [b] p) (tE T W cf nf (.cmp op x y)) ∧ PT X (.Compare a [copS op] [b] p) (tT T W cf nf (.cmp op x y)) := by
  constructor
  · exact (pe_cmpR (op_cmp am.hT am.un op) h1 h2 hm).imp fun σ H Q ⟨ρ, F, env, st, r, en, h⟩ => by
      unfold evE at h
      refine seqE r en h fun ρ1 F1 H1 st1 u xx p1 s1 r1 en1 hu h1 => ?_
      refine seqE r1 en1 h1 fun ρ2 F2 H2 st2 v yy p2 s2 r2 en2 hv h2 => ?_
      obtain ⟨d, e, h3⟩ := retB_ok h2
      exact ⟨ρ2, F2, st2, u.1, v.1, d, r2, hu.mono p2 s2, hv, e, OkP.dat h3 r2 (.bl d)⟩
  · exact (pt_cmpR (op_cmp am.hT am.un op) h1 h2 hm).imp fun σ H Q ⟨ρ, F, env, st, r, en, h⟩ => by
      unfold evE at h
      refine seqE r en h fun ρ1 F1 H1 st1 u xx p1 s1 r1 en1 hu h1 => ?_
      refine seqE r1 en1 h1 fun ρ2 F2 H2 st2 v yy p2 s2 r2 en2 hv h2 => ?_
      cases e : cmpV op st2 u.1 v.1 with
      | none => rw [e] at h2; exact h2.elim
      | some d =>
        rw [e] at h2
        obtain ⟨k, e2, q⟩ := h2 ρ2 F2 H2 (List.prefix_refl _) (Sub.refl F2) r2
        cases e2
        exact ⟨ρ2, F2, st2, u.1, v.1, d, r2, hu.mono p2 s2, hv, e, d, rfl, q⟩
theorem e_chain {a b c : Expr} {x y z : Ex} {o1 o2 : Cop} {p : Pos} (am : Amb T C W cf nf X) (hm : lastMarks [copS o1, copS o2] [b, c] = false) (h1 : PE X a (tE T W cf nf x)) (h2 : PE X b (tE T W cf nf y)) (h3 : PE X c (tE T W cf nf z)) :
    PE X (.Compare a [copS o1, copS o2] [b, c] p) (tE T W cf nf (.chain o1 o2 x y z)) ∧ PT X (.Compare a [copS o1, copS o2] [b, c] p) (tT T W cf nf (.chain o1 o2 x y z)) := by
  constructor
  · exact (pe_chain (op_cmp am.hT am.un o1) (op_cmp am.hT am.un o2) h1 h2 h3 hm).imp fun σ H Q ⟨ρ, F, env, st, r, en, h⟩ => by
      unfold evE at h
      refine seqE r en h fun ρ1 F1 H1 st1 u xx p1 s1 r1 en1 hu h1 => ?_
      refine seqE r1 en1 h1 fun ρ2 F2 H2 st2 v yy p2 s2 r2 en2 hv h2 => ?_
      split at h2
      · rename_i e
        refine ⟨ρ2, F2, st2, u.1, v.1, true, r2, hu.mono p2 s2, hv, e, true, rfl, ?_⟩
        rw [if_pos rfl]
        refine seqE r2 en2 h2 fun ρ3 F3 H3 st3 w ww p3 s3 r3 en3 hw h3 => ?_
        obtain ⟨d, e3, h4⟩ := retB_ok h3
        exact ⟨ρ3, F3, st3, v.1, w.1, d, r3, hv.mono p3 s3, hw, e3, OkP.dat h4 r3 (.bl d)⟩
      · rename_i e
        refine ⟨ρ2, F2, st2, u.1, v.1, false, r2, hu.mono p2 s2, hv, e, false, rfl, ?_⟩
        rw [if_neg (by decide)]
        exact OkP.dat h2 r2 (.bl false)
      · exact h2.elim
  · exact (pt_chain (op_cmp am.hT am.un o1) (op_cmp am.hT am.un o2) h1 h2 h3 hm).imp fun σ H Q ⟨ρ, F, env, st, r, en, h⟩ => by
      unfold evE at h
      refine seqE r en h fun ρ1 F1 H1 st1 u xx p1 s1 r1 en1 hu h1 => ?_
      refine seqE r1 en1 h1 fun ρ2 F2 H2 st2 v yy p2 s2 r2 en2 hv h2 => ?_
      split at h2
      · rename_i e
        refine ⟨ρ2, F2, st2, u.1, v.1, true, r2, hu.mono p2 s2, hv, e, true, rfl, ?_⟩
        rw [if_pos rfl]
        refine seqE r2 en2 h2 fun ρ3 F3 H3 st3 w ww p3 s3 r3 en3 hw h3 => ?_
        cases e3 : cmpV o2 st3 v.1 w.1 with
        | none => rw [e3] at h3; exact h3.elim
        | some d =>
          rw [e3] at h3
          obtain ⟨k, e2, q⟩ := h3 ρ3 F3 H3 (List.prefix_refl _) (Sub.refl F3) r3
          cases e2
          exact ⟨ρ3, F3, st3, v.1, w.1, d, r3, hv.mono p3 s3, hw, e3, d, rfl, q⟩
      · rename_i e
        refine ⟨ρ2, F2, st2, u.1, v.1, false, r2, hu.mono p2 s2, hv, e, false, rfl, ?_⟩
        rw [if_neg (by decide)]
        obtain ⟨k, e2, q⟩ := h2 ρ2 F2 H2 (List.prefix_refl _) (Sub.refl F2) r2
        cases e2
        exact ⟨false, rfl, q⟩
      · exact h2.elim
/-- a test by the value -/
theorem t_gen {e : Expr} {a : Ex} (am : Amb T C W cf nf X) (hp : plainTest e = true) (h : PE X e (tE T W cf nf a)) : PT X e (tT T W cf nf a) :=
  (pt_truth h (test_plain hp X.env)).imp fun σ H Q ⟨ρ, F, env, st, r, en, h⟩ => ⟨ρ, F, env, st, r, en, h.imp fun v st' ρ' F' H' p s r' ⟨k, e, q⟩ x fx => by
    obtain ⟨F2, s2, r2, v2⟩ := fx.frz r'
    exact ⟨k, tru_of am.hT r2 v2 e, q⟩⟩
theorem e_and {x y : Ex} {a b : Expr} {l : List Expr} {p : Pos} (am : Amb T C W cf nf X) (h1 : PE X a (tE T W cf nf x)) (h2 : PE X (.BoolOp .And (b :: l) p) (tE T W cf nf y)) : PE X (.BoolOp .And (a :: b :: l) p) (tE T W cf nf (.and_ x y)) :=
  (pe_andT h1 h2).imp fun σ H Q ⟨ρ, F, env, st, r, en, h⟩ => by
    unfold evE at h
    refine seqE r en h fun ρ1 F1 H1 st1 u xx p1 s1 r1 en1 hu h1 => ?_
    split at h1
    · rename_i e
      exact ⟨true, tru_of am.hT r1 hu e, by rw [if_pos rfl]; exact ⟨ρ1, F1, env, st1, r1, en1, h1⟩⟩
    · rename_i e
      exact ⟨false, tru_of am.hT r1 hu e, by rw [if_neg (by decide)]; exact OkP.here h1 r1 (.inl ⟨rfl, hu⟩)⟩
    · exact h1.elim
theorem e_or {x y : Ex} {a b : Expr} {l : List Expr} {p : Pos} (am : Amb T C W cf nf X) (h1 : PE X a (tE T W cf nf x)) (h2 : PE X (.BoolOp .Or (b :: l) p) (tE T W cf nf y)) : PE X (.BoolOp .Or (a :: b :: l) p) (tE T W cf nf (.or_ x y)) :=
  (pe_orT h1 h2).imp fun σ H Q ⟨ρ, F, env, st, r, en, h⟩ => by
    unfold evE at h
    refine seqE r en h fun ρ1 F1 H1 st1 u xx p1 s1 r1 en1 hu h1 => ?_
    split at h1
    · rename_i e
      exact ⟨false, tru_of am.hT r1 hu e, by rw [if_neg (by decide)]; exact ⟨ρ1, F1, env, st1, r1, en1, h1⟩⟩
    · rename_i e
      exact ⟨true, tru_of am.hT r1 hu e, by rw [if_pos rfl]; exact OkP.here h1 r1 (.inl ⟨rfl, hu⟩)⟩
    · exact h1.elim
theorem tT_and {x y : Ex} {σ : L2.St} {H : Hp} {Q : Bool → Hp → Prop} (h : tT T W cf nf (.and_ x y) σ H Q) : tAnd (tT T W cf nf x) (tT T W cf nf y) σ H Q := by
  obtain ⟨ρ, F, env, st, r, en, h⟩ := h
  unfold evE at h
  refine seqT r en h fun ρ1 F1 H1 st1 u p1 s1 r1 en1 h1 => ?_
  split at h1
  · rename_i e
    exact ⟨true, e, by rw [if_pos rfl]; exact ⟨ρ1, F1, env, st1, r1, en1, h1⟩⟩
  · rename_i e
    obtain ⟨k, e2, q⟩ := h1 ρ1 F1 H1 (List.prefix_refl _) (Sub.refl F1) r1
    have : some k = some false := e2.symm.trans e
    cases this
    exact ⟨false, e, by rw [if_neg (by decide)]; exact q⟩
  · exact h1.elim
theorem tT_or {x y : Ex} {σ : L2.St} {H : Hp} {Q : Bool → Hp → Prop} (h : tT T W cf nf (.or_ x y) σ H Q) : tOr (tT T W cf nf x) (tT T W cf nf y) σ H Q := by
  obtain ⟨ρ, F, env, st, r, en, h⟩ := h
  unfold evE at h
  refine seqT r en h fun ρ1 F1 H1 st1 u p1 s1 r1 en1 h1 => ?_
  split at h1
  · rename_i e
    exact ⟨false, e, by rw [if_neg (by decide)]; exact ⟨ρ1, F1, env, st1, r1, en1, h1⟩⟩
  · rename_i e
    obtain ⟨k, e2, q⟩ := h1 ρ1 F1 H1 (List.prefix_refl _) (Sub.refl F1) r1
    have : some k = some true := e2.symm.trans e
    cases this
    exact ⟨true, e, by rw [if_pos rfl]; exact q⟩
  · exact h1.elim
theorem e_not {x : Ex} {a : Expr} {p : Pos} (am : Amb T C W cf nf X) (h1 : PE X a (tE T W cf nf x)) : PE X (.UnaryOp .Not a p) (tE T W cf nf (.not_ x)) :=
  (pe_notT h1).imp fun σ H Q ⟨ρ, F, env, st, r, en, h⟩ => by
    unfold evE at h
    refine seqE r en h fun ρ1 F1 H1 st1 u xx p1 s1 r1 en1 hu h1 => ?_
    obtain ⟨d, e, h2⟩ := retB_ok h1
    obtain ⟨k, e2, rfl⟩ := map_some e
    exact ⟨k, tru_of am.hT r1 hu e2, OkP.dat h2 r1 (.bl _)⟩
theorem tT_not {x : Ex} {σ : L2.St} {H : Hp} {Q : Bool → Hp → Prop} (h : tT T W cf nf (.not_ x) σ H Q) : tNot (tT T W cf nf x) σ H Q := by
  obtain ⟨ρ, F, env, st, r, en, h⟩ := h
  unfold evE at h
  refine seqT r en h fun ρ1 F1 H1 st1 u p1 s1 r1 en1 h1 => ?_
  cases e : truV st1 u.1 with
  | none => rw [e] at h1; exact h1.elim
  | some b =>
    rw [e] at h1
    obtain ⟨k, e2, q⟩ := h1 ρ1 F1 H1 (List.prefix_refl _) (Sub.refl F1) r1
    cases e2
    exact ⟨b, rfl, q⟩
theorem e_ife {c a b : Expr} {x y z : Ex} {p : Pos} (h1 : PT X c (tT T W cf nf x)) (h2 : PE X a (tE T W cf nf y)) (h3 : PE X b (tE T W cf nf z)) : PE X (.IfExp c a b p) (tE T W cf nf (.ife x y z)) :=
  (pe_ifExp h1 h2 h3).imp fun σ H Q ⟨ρ, F, env, st, r, en, h⟩ => by
    unfold evE at h
    refine seqT r en h fun ρ1 F1 H1 st1 u p1 s1 r1 en1 h1 => ?_
    split at h1
    · rename_i e
      exact ⟨true, e, by rw [if_pos rfl]; exact ⟨ρ1, F1, env, st1, r1, en1, h1⟩⟩
    · rename_i e
      exact ⟨false, e, by rw [if_neg (by decide)]; exact ⟨ρ1, F1, env, st1, r1, en1, h1⟩⟩
    · exact h1.elim
theorem e_idx {a b : Expr} {x y : Ex} {p : Pos} (am : Amb T C W cf nf X) (hs : isSlice b = false) (h1 : PE X a (tE T W cf nf x)) (h2 : PE X b (tE T W cf nf y)) : PE X (.Subscript a b p) (tE T W cf nf (.idx x y)) :=
  (pe_ix (ix_idx am.hT am.un) h1 h2 (slice_plain hs)).imp fun σ H Q ⟨ρ, F, env, st, r, en, h⟩ => by
    unfold evE at h
    refine seqE r en h fun ρ1 F1 H1 st1 u xx p1 s1 r1 en1 hu h1 => ?_
    refine seqE r1 en1 h1 fun ρ2 F2 H2 st2 v yy p2 s2 r2 en2 hv h2 => ?_
    obtain ⟨d, e, h3⟩ := retP_ok h2
    exact ⟨ρ2, F2, st2, u.1, v.1, d, r2, hu.mono p2 s2, hv, e, fun w hw => OkP.dat h3 r2 hw⟩
def tO (T : Tab) (W : XW) (cf nf : CallF) (irs : List Ex) : TO := fun σ H Q => ∃ ρ F env st, Rl T ρ F H st ∧ EnvR T ρ F [] env σ ∧ OkR T W ρ F (evEs cf nf irs env st) fun vs _ ρ' F' H' => ∃ o, optI vs = some o ∧ Q o H'
theorem o_none : PO X none (tO T W cf nf []) := ⟨fun pins s σ H Q I ⟨ρ, F, env, st, r, en, h⟩ => by
  obtain ⟨o, e, q⟩ := h ρ F H (List.prefix_refl _) (Sub.refl F) r
  cases e
  exact po_none.run pins s σ H Q I q⟩
theorem o_some {e : Expr} {a : Ex} (h1 : PE X e (tE T W cf nf a)) : PO X (some e) (tO T W cf nf [a]) := ⟨fun pins s σ H Q I ⟨ρ, F, env, st, r, en, h⟩ => by
  refine (po_some h1).run pins s σ H Q I ?_
  unfold evEs at h
  refine seqE r en h fun ρ1 F1 H1 st1 u xx p1 s1 r1 en1 hu h1 => ?_
  obtain ⟨o, e, q⟩ := h1 ρ1 F1 H1 (List.prefix_refl _) (Sub.refl F1) r1
  obtain ⟨v, b⟩ := u
  cases v with
  | d x =>
    cases x with
    | int i => cases e; cases hu; exact ⟨i, rfl, q⟩
    | _ => cases e
  | _ => cases e⟩
theorem e_slc {a : Expr} {x : Ex} {l h : List Ex} {lo hi : Option Expr} {p p2 : Pos} (am : Amb T C W cf nf X) (h1 : PE X a (tE T W cf nf x)) (h2 : PO X lo (tO T W cf nf l)) (h3 : PO X hi (tO T W cf nf h)) : PE X (.Subscript a (.Slice lo hi none p2) p) (tE T W cf nf (.slc x l h)) :=
  (pe_slice (sl_slc (W := W) am.hT) h1 h2 h3).imp fun σ H Q ⟨ρ, F, env, st, r, en, h⟩ => by
    unfold evE at h
    refine seqE r en h fun ρ1 F1 H1 st1 u xx p1 s1 r1 en1 hu h1 => ?_
    refine ⟨ρ1, F1, env, st1, r1, en1, (OkR.bind h1).imp fun ls st2 ρ2 F2 H2 p2 s2 r2 h2 => ?_⟩
    cases e1 : optI ls with
    | none => rw [e1] at h2; exact h2.elim
    | some lo =>
      rw [e1] at h2
      refine ⟨lo, rfl, ρ2, F2, env, st2, r2, en1.mono p2 s2, (OkR.bind h2).imp fun hs st3 ρ3 F3 H3 p3 s3 r3 h3 => ?_⟩
      cases e2 : optI hs with
      | none => rw [e2] at h3; exact h3.elim
      | some hi =>
        rw [e2] at h3
        exact ⟨hi, rfl, ρ3, F3, st3, u.1, r3, (hu.mono p2 s2).mono p3 s3, h3⟩
end
end Ev
end

section
set_option Elab.async false
set_option linter.all false
set_option maxRecDepth 100000
set_option maxHeartbeats 4000000
/-! Ev10: targets, what a loop walks. -/
namespace Ev
open PySem PySem.Spec PyProof.Rows L2
mutual
def slotsT : Tg → List Nat
  | .nm i => [i]
  | .tu ts => slotsTs ts
def slotsTs : List Tg → List Nat
  | [] => []
  | t :: ts => slotsT t ++ slotsTs ts
end
def locB (sc : Scope) (fn : Str → Bool) (x : Str) : Bool := match sc.names.lookup x with
  | some .local => true
  | some .cell => fn x
  | _ => false
mutual
def okT (N : List Str) (sc : Scope) (fn : Str → Bool) : Tg → Expr → Bool
  | .nm i, e => (match asName e with
    | some m => decide (N[i]? = some m) && locB sc fn m
    | none => false)
  | .tu ts, e => (match asTup e with
    | some xs => okTs N sc fn ts xs
    | none => false)
def okTs (N : List Str) (sc : Scope) (fn : Str → Bool) : List Tg → List Expr → Bool
  | [], [] => true
  | t :: ts, x :: xs => !isStar x && okT N sc fn t x && okTs N sc fn ts xs
  | _, _ => false
end
theorem loc_of {sc : Scope} {fn : Str → Bool} {x : Str} (h : locB sc fn x = true) : Loc sc x ∧ (fn x = true ∨ sc.names.lookup x = some .local) := by
  unfold locB at h
  split at h
  · rename_i e; exact ⟨.inl e, .inr e⟩
  · rename_i e; exact ⟨.inr e, .inl h⟩
  · cases h
section
variable {T : Tab} {ρ : List Addr} {F H : Hp} {env env' : Env} {σ σ' : L2.St} {S S' : List Nat}
theorem EnvR.put {i : Nat} {v : Vl} {x : V} (h : EnvR T ρ F S env σ) (hv : VlR T ρ F v x) (hs : ∀ j, j ∉ S' → j ∉ S ∨ j = i) : EnvR T ρ F S' (env.set i (some v)) (σ.set i (some x)) :=
  ⟨by rw [List.length_set, List.length_set, h.len], fun j w hj e => by
    by_cases hij : i = j
    · subst hij
      have hl : i < env.length := by
        have := (List.getElem?_eq_some_iff.mp e).1
        rwa [List.length_set] at this
      rw [List.getElem?_set_self hl] at e
      cases e
      exact ⟨x, by rw [List.getElem?_set_self (by rw [← h.len]; exact hl)], hv⟩
    · rw [List.getElem?_set_ne hij] at e
      rcases hs j hj with q | q
      · obtain ⟨y, h1, h2⟩ := h.get j w q e
        exact ⟨y, by rw [List.getElem?_set_ne hij]; exact h1, h2⟩
      · exact absurd q.symm hij⟩
theorem EnvR.less (h : EnvR T ρ F S env σ) (hs : ∀ j, j ∉ S' → j ∉ S) : EnvR T ρ F S' env σ := ⟨h.len, fun i v hi e => h.get i v (hs i hi) e⟩
theorem wipe_set {i : Nat} {x : Option V} : ∀ {vs : List Nat} {σ : L2.St}, i ∈ vs → wipe (σ.set i x) vs = wipe σ vs
  | v :: vs, σ, h => by
    unfold wipe
    by_cases hv : i ∈ vs
    · rw [wipe_set hv]
    · have e : v = i := by
        rcases List.mem_cons.mp h with q | q
        · exact q.symm
        · exact absurd q hv
      subst e
      clear h hv
      have : ∀ (ws : List Nat), (wipe (σ.set v x) ws).set v none = (wipe σ ws).set v none := by
        intro ws
        induction ws with
        | nil => show (σ.set v x).set v none = σ.set v none; rw [List.set_set]
        | cons w ws ih =>
          show ((wipe (σ.set v x) ws).set w none).set v none = ((wipe σ ws).set w none).set v none
          by_cases hw : w = v
          · subst hw; rw [List.set_set, List.set_set]; exact ih
          · rw [List.set_comm _ _ hw, ih, List.set_comm _ _ hw]
      exact this vs
/-- an item that is taken apart at once -/
def ItV (T : Tab) (F H : Hp) (x : V) (d : PyData) : Prop := Dq T.kc F x d ∨ ∃ a xs l, x = .ref a ∧ d = .tuple l ∧ SqT T.K H a xs ∧ DqAll T.kc F xs l
def ItT (T : Tab) (F H : Hp) : Tg → V → PyData → Prop
  | .nm _, x, d => Dq T.kc F x d
  | .tu _, x, d => ItV T F H x d
def gTg (T : Tab) (tg : Tg) : TG := fun x σ H k => ∃ ρ F S env d env', Sub F H ∧ EnvR T ρ F S env σ ∧ ItT T F H tg x d ∧ setT d env tg = some env' ∧
  ∀ σ', (∀ S', (∀ j, j ∉ S' → j ∉ S ∨ j ∈ slotsT tg) → EnvR T ρ F S' env' σ') → (∀ vs, (∀ j ∈ slotsT tg, j ∈ vs) → wipe σ' vs = wipe σ vs) → k σ' H
def gTgs (T : Tab) (ts : List Tg) : TGs := fun xs σ H k => ∃ ρ F S env ds env', Sub F H ∧ EnvR T ρ F S env σ ∧ DqAll T.kc F xs ds ∧ setTs ds env ts = some env' ∧
  ∀ σ', (∀ S', (∀ j, j ∉ S' → j ∉ S ∨ j ∈ slotsTs ts) → EnvR T ρ F S' env' σ') → (∀ vs, (∀ j ∈ slotsTs ts, j ∈ vs) → wipe σ' vs = wipe σ vs) → k σ' H
theorem Dq.it {tg : Tg} {x : V} {d : PyData} (h : Dq T.kc F x d) : ItT T F H tg x d := by
  cases tg with
  | nm _ => exact h
  | tu _ => exact .inl h
end
theorem assign_cons {e : Expr} (h : isStar e = false) (es : List Expr) (env : PySem.Env) : assignEach (e :: es) env = (false, assign e env) :: assignEach es env := by
  cases e <;> first | rfl | cases h
theorem okTs_facts {N : List Str} {sc : Scope} {fn : Str → Bool} {env : PySem.Env} : ∀ {ts : List Tg} {xs : List Expr}, okTs N sc fn ts xs = true → (assignEach xs env).length = xs.length ∧ (assignEach xs env).findIdx? (·.1) = none ∧ ts.length = xs.length
  | [], [], _ => ⟨rfl, rfl, rfl⟩
  | [], _ :: _, h => by cases h
  | _ :: _, [], h => by cases h
  | t :: ts, x :: xs, h => by
    unfold okTs at h
    simp only [Bool.and_eq_true, Bool.not_eq_true'] at h
    obtain ⟨h1, h2, h3⟩ := okTs_facts (env := env) h.2
    rw [assign_cons h.1.1]
    refine ⟨by rw [List.length_cons, h1, List.length_cons], ?_, by rw [List.length_cons, List.length_cons, h3]⟩
    rw [List.findIdx?_cons, h2]; rfl
theorem setTs_len : ∀ {ds : List PyData} {ts : List Tg} {env env' : Env}, setTs ds env ts = some env' → ds.length = ts.length
  | [], [], _, _, _ => rfl
  | [], _ :: _, _, _, h => by cases h
  | _ :: _, [], _, _, h => by cases h
  | d :: ds, t :: ts, env, env', h => by
    unfold setTs at h
    split at h
    · rw [List.length_cons, List.length_cons, setTs_len h]
    · cases h
section
variable {T : Tab} {X : Cx} {sc : Scope} {fn : Str → Bool}
mutual
theorem g_tg (hT : T.K = X.K) (hc : X.calm = true) (hN : X.N.Nodup) (hs : X.env.scope = sc) (hf : X.fn = fn) : ∀ (tg : Tg) (e : Expr), okT X.N sc fn tg e = true → PG X e (gTg T tg)
  | .nm i, e, h => by
    unfold okT at h
    split at h
    · rename_i m em
      obtain ⟨p, rfl⟩ := asName_eq em
      simp only [Bool.and_eq_true, decide_eq_true_eq] at h
      obtain ⟨l1, l2⟩ := loc_of h.2
      have q := pg_name (pos := p) hN h.1 (by rw [hs]; exact l1) (by rw [hf, hs]; exact l2)
      refine ⟨fun pins s σ H v u Q I r ⟨ρ, F, S, env, d, env', sF, en, hd, e, k⟩ => q.run pins s σ H v u Q I r ?_⟩
      have e1 : env.set i (some (.d d)) = env' := Option.some.inj (show some _ = _ from by unfold setT at e; exact e)
      subst e1
      refine k _ (fun S' hS => en.put hd fun j hj => ?_) fun vs hvs => wipe_set (hvs i (by unfold slotsT; simp))
      rcases hS j hj with q | q
      · exact .inl q
      · unfold slotsT at q; exact .inr (by simpa using q)
    · cases h
  | .tu ts, e, h => by
    unfold okT at h
    split at h
    · rename_i xs em
      obtain ⟨k, p, rfl⟩ := asTup_eq em
      obtain ⟨f1, f2, f3⟩ := okTs_facts (env := X.env) h
      have q := pg_tup (pos := p) (k := k) hc (g_tgs hT hc hN hs hf ts xs h) f1 f2
      refine ⟨fun pins s σ H v u Q I r ⟨ρ, F, S, env, d, env', sF, en, hd, e, k⟩ => q.run pins s σ H v u Q I r ?_⟩
      unfold setT at e
      split at e
      · rename_i l
        have big : ∃ a xs, v = .ref a ∧ SqT T.K H a xs ∧ DqAll T.kc F xs l := by
          rcases hd with hd | ⟨a, xs, l', e1, e2, h1, h2⟩
          · cases hd with
            | tup h1 h2 => exact ⟨_, _, rfl, (h1.sub sF).sq, h2⟩
          · cases e2; exact ⟨a, xs, e1, h1, h2⟩
        obtain ⟨a, ys, rfl, h1, h2⟩ := big
        refine ⟨a, ys, rfl, by rw [← hT]; exact h1, by rw [h2.length, setTs_len e, f3], ρ, F, S, env, l, env', sF, en, h2, e, fun σ' q1 q2 => k σ' (fun S' hS => q1 S' fun j hj => ?_) fun vs hvs => q2 vs fun j hj => hvs j ?_⟩
        · rcases hS j hj with q | q
          · exact .inl q
          · unfold slotsT at q; exact .inr q
        · unfold slotsT; exact hj
      · cases e
    · cases h
theorem g_tgs (hT : T.K = X.K) (hc : X.calm = true) (hN : X.N.Nodup) (hs : X.env.scope = sc) (hf : X.fn = fn) : ∀ (ts : List Tg) (es : List Expr), okTs X.N sc fn ts es = true → PGs X es (gTgs T ts)
  | [], [], _ => ⟨fun pins s σ H v u Q I r ⟨ρ, F, S, env, d, env', sF, en, hd, e, k⟩ => pgs_nil.run pins s σ H v u Q I r (by
      cases d with
      | nil =>
        cases hd
        have e1 : env = env' := Option.some.inj (show some _ = _ from by unfold setTs at e; exact e)
        subst e1
        refine ⟨rfl, k σ (fun S' hS => en.less fun j hj => ?_) fun _ _ => rfl⟩
        rcases hS j hj with q | q
        · exact q
        · unfold slotsTs at q; cases q
      | cons _ _ => unfold setTs at e; cases e)⟩
  | [], _ :: _, h => by unfold okTs at h; cases h
  | _ :: _, [], h => by unfold okTs at h; cases h
  | t :: ts, x :: xs, h => by
    unfold okTs at h
    simp only [Bool.and_eq_true, Bool.not_eq_true'] at h
    have q := pgs_cons (g_tg hT hc hN hs hf t x h.1.2) (g_tgs hT hc hN hs hf ts xs h.2) (by rw [assign_cons h.1.1]; rfl)
    refine ⟨fun pins s σ H v u Q I r ⟨ρ, F, S, env, d, env', sF, en, hd, e, k⟩ => q.run pins s σ H v u Q I r ?_⟩
    cases d with
    | nil => unfold setTs at e; cases e
    | cons d ds =>
      obtain ⟨y, ys, rfl, d1, d2⟩ := hd.uncons
      unfold setTs at e
      split at e
      · rename_i env1 e1
        refine ⟨y, ys, rfl, ρ, F, S, env, d, env1, sF, en, d1.it, e1, fun σ1 q1 q2 => ?_⟩
        refine ⟨ρ, F, S.filter (fun j => !(slotsT t).contains j), env1, ds, env', sF, q1 _ fun j hj => ?_, d2, e, fun σ2 q3 q4 => k σ2 (fun S' hS => q3 S' fun j hj => ?_) fun vs hvs => ?_⟩
        · by_cases hm : j ∈ slotsT t
          · exact .inr hm
          · refine .inl fun hS => hj (List.mem_filter.mpr ⟨hS, ?_⟩)
            simpa using hm
        · rcases hS j hj with q | q
          · exact .inl fun z => q (List.mem_filter.mp z).1
          · unfold slotsTs at q
            rcases List.mem_append.mp q with q | q
            · refine .inl fun z => ?_
              have := (List.mem_filter.mp z).2
              simp at this
              exact this q
            · exact .inr q
        · rw [q4 vs fun j hj => hvs j (by unfold slotsTs; exact List.mem_append_right _ hj)]
          exact q2 vs fun j hj => hvs j (by unfold slotsTs; exact List.mem_append_left _ hj)
      · cases e
end
end
end Ev
end

section
set_option Elab.async false
set_option linter.all false
set_option maxRecDepth 100000
set_option maxHeartbeats 4000000
/-! Ev11: enumerate of a tuple. -/
namespace Ev
open PySem PySem.Spec PyProof.Rows L2
theorem enumNew_tup (t : Addr) (its : Array Value) : Meets (Builtin.«enumerate.__new__» ⟨[.type "enumerate", .ref t], []⟩) (fun _ R s => s.heap.IsTuple t its ∧ R (.ok (.ret (.ref (s.heap.push { cls := .type "tuple_iterator", data := .fields #[.ref t, .int 0 0] }).objs.size)))
      { s with heap := (s.heap.push { cls := .type "tuple_iterator", data := .fields #[.ref t, .int 0 0] }).push { cls := .type "enumerate", data := .fields #[.none, .bool false, .ref s.heap.objs.size, rawInt 0, .none, .none] } }) := .of_wp fun prog w A R s h => by
  obtain ⟨hp, g, dd, tk, os⟩ := s
  obtain ⟨h1, h⟩ := h
  have hsub := sub_enumerate
  have B := begins_tuple t its
  have go : ∀ {A' : Around} {E : Value → Shared → Prop} {Q : Value → Shared → Prop}, Q (.ref hp.objs.size) ⟨hp.push { cls := .type "tuple_iterator", data := .fields #[.ref t, .int 0 0] }, g, dd, tk, os⟩ → wpAny (model prog w) A' (pyIter (.ref t)) Q E ⟨hp, g, dd, tk, os⟩ := fun q => B.iter prog w _ _ ⟨hp, g, dd, tk, os⟩ _ h1 q
  obtain ⟨o, ho, hc, n, hd⟩ := id h1
  obtain ⟨oc, od, dt, sl⟩ := o
  simp only at hc hd
  subst hc hd
  wp_walk using go, AutoSeq1.wpAny_loadPart' ho
  refine wpAny_stack_any fun st => wpAny_pure ?_
  split
  · rename_i c _ _ _ _ _
    cases (c == Value.type "enumerate") <;> (wp_walk using go, AutoSeq1.wpAny_loadPart' ho; exact ⟨_, rfl, h⟩)
  · wp_walk using go, AutoSeq1.wpAny_loadPart' ho
    exact ⟨_, rfl, h⟩
theorem callEnum_tup {prog : Program} {w : World} {A : Around} {E : Value → Shared → Prop} {s : Shared} {t : Addr} {its : Array Value} {Q : Value → Shared → Prop} (ht : s.heap.IsTuple t its)
    (k : ∀ h', IsEnum h' (s.heap.objs.size + 1) s.heap.objs.size 0 .none → h'.IsTupleIter s.heap.objs.size t 0 → (∀ b o, s.heap.get? b = some o → h'.get? b = some o) → Q (.ref (s.heap.objs.size + 1)) { s with heap := h' }) : wpAny (model prog w) A (call (.type "enumerate") [.ref t]) Q E s := by
  refine callType_new F.called_enumerate (by decide) (F.typeCall_enumerate_1 _) (F.newCall_enumerate_1 _) (fun obj => F.args_object_init_2 obj _) F.entry_enumerate_new (enumNew_tup t its) ⟨ht, ?_⟩
  have hz : (s.heap.push { cls := .type "tuple_iterator", data := .fields #[.ref t, .int 0 0] }).objs.size = s.heap.objs.size + 1 := Heap.size_push ..
  rw [hz]
  have he : IsEnum ((s.heap.push { cls := .type "tuple_iterator", data := .fields #[.ref t, .int 0 0] }).push { cls := .type "enumerate", data := .fields #[.none, .bool false, .ref s.heap.objs.size, rawInt 0, .none, .none] }) (s.heap.objs.size + 1) s.heap.objs.size 0 .none := by
    have q := Heap.get?_push_size (s.heap.push { cls := .type "tuple_iterator", data := .fields #[.ref t, .int 0 0] }) (o := { cls := .type "enumerate", data := .fields #[.none, .bool false, .ref s.heap.objs.size, rawInt 0, .none, .none] }) rfl
    rw [hz] at q
    exact q
  exact ⟨⟨_, he, rfl⟩, k _ he ⟨_, Heap.get?_push_of_some _ (Heap.get?_push_size _ rfl), rfl, rfl⟩ fun b o q => Heap.get?_push_of_some _ (Heap.get?_push_of_some _ q)⟩
/-- the tuple at a, each item in a new pair -/
def IteT (K : PySem.W.Frag) (a : Addr) : It where
  go := fun i H => ∃ (xs : List V) (x : V), SqT K H a xs ∧ xs[i]? = some x
  yld := fun i H v H' => ∃ t x, v = .ref t ∧ H t = none ∧ H' = upd H t (.tup [.int (i : Nat), x]) ∧ ∀ xs, SqT K H a xs → xs[i]? = some x
  stop := fun i H => ∃ xs : List V, SqT K H a xs ∧ xs.length = i
theorem turnEnum_tup {P : Program} {w : World} {K : PySem.W.Frag} {elts : List Expr} {kk : Nat} {tpos : Pos} (a e it : Addr) :
    Turn P w K (.Tuple elts kk tpos) (IteT K a) [e, it] e (fun i h => (∃ old, IsEnum h e it ((i : Nat) : Int) old) ∧ h.IsTupleIter it a i ∧ e ≠ it ∧ a ≠ it ∧ e ≠ a) where
  mem := by simp
  obj := fun i h st b hb => by
    obtain ⟨⟨old, he⟩, ⟨o, ho, hc, hd⟩, _⟩ := st
    have e2 : b = e ∨ b = it := by simpa using hb
    rcases e2 with rfl | rfl
    · exact ⟨_, he, fun v q => nomatch q⟩
    · exact ⟨o, ho, fun v q => by rw [hd] at q; cases q⟩
  keep := fun i h h' ⟨⟨old, he⟩, hi, hn⟩ k => ⟨⟨old, k e (by simp) _ he⟩, hi.at fun o q => k it (by simp) o q, hn⟩
  item := by
    intro X hP hw hK hc i pins s σ H E I hf st hg
    subst hP hw hK
    obtain ⟨⟨old, he⟩, hit, hne, hai, hea⟩ := st
    obtain ⟨xs, x, hq, hx⟩ := hg
    obtain ⟨its, rv, p, hz⟩ := I.tuple hq
    obtain ⟨u, hu, ru⟩ := rv.get hx
    have hel : e < s.heap.objs.size := Heap.lt_size he
    have hil : it < s.heap.objs.size := by obtain ⟨_, q, _⟩ := hit; exact Heap.lt_size q
    have il : i < its.toArray.size := by rw [List.size_toArray]; exact (List.getElem?_eq_some_iff.mp hu).1
    refine wpAny_pyNext_enum_itemC (Draws.tuple (show X.A.in1.handled = none from I.ok.hd hc) it a hai its.toArray) he ⟨hit, p⟩ il hne (by simp [hne, hea]) fun y h' tk hy ho ⟨hit2, _⟩ hT _ hk => ?_
    have ey : y = u := by
      have q : its[i]? = some y := by simpa using hy
      rw [hu] at q; exact (Option.some.inj q).symm
    subst ey
    refine ⟨_, rfl, wpAny_letOwnedTupleGo_enum (s := { s with heap := h', toks := tk + 1 }) ho fun h2 he2 sb => ?_⟩
    have hT2 := (sb.2 _ (Nat.ne_of_gt hel)).trans hT
    have old2 : ∀ b o, b ∉ [e, it] → s.heap.get? b = some o → h2.get? b = some o := fun b o hb q => (sb.2 b (fun z => hb (by simp [z]))).trans (hk b o (fun z => hb (by simp [z])) (fun z => hb (by simp [z])) q)
    have I1 : L2.Inv X pins σ (upd H s.heap.objs.size (.tup [.int (i : Nat), x])) { s with heap := h2, toks := tk + 1 } := I.turnedNew (ch := [e, it]) old2 hf (Nat.le_refl _) ⟨by show 2 ≤ sizeLine; decide, [.int i tk, y], .cons ⟨_, rfl⟩ (.cons ru .nil), ⟨_, hT2, rfl, _, rfl⟩⟩
    refine ⟨.ref s.heap.objs.size, _, I1, rfl, ⟨_, x, rfl, I.hok.fresh (Nat.le_refl _), rfl, fun ys hy => by rw [I.tuple_inj hy hq]; exact hx⟩, ⟨⟨y, by rw [Int.natCast_add]; exact he2⟩, hit2.at fun o q => (sb.2 it (Ne.symm hne)).trans q, hne, hai, hea⟩, fun b hb => ?_⟩
    have hlt : b < s.heap.objs.size := by
      have e2 : b = e ∨ b = it := by simpa using hb
      rcases e2 with rfl | rfl
      · exact hel
      · exact hil
    rw [upd_ne (Nat.ne_of_lt hlt)]
    exact (hf b hb).1
  done := by
    intro X hP hw hK hc i pins s σ H E I hf st hg
    subst hP hw hK
    obtain ⟨⟨old, he⟩, hit, hne, hai, hea⟩ := st
    obtain ⟨xs, hq, hx⟩ := hg
    obtain ⟨its, rv, p, hz⟩ := I.tuple hq
    obtain ⟨f0, f1, f2, f3, f4, f5⟩ := hf it (by simp)
    have hl : i = its.toArray.size := by rw [List.size_toArray, ← rv.length, hx]
    subst hl
    exact wpAny_pyNext_enum_endD (Draws.tuple (show X.A.in1.handled = none from I.ok.hd hc) it a hai its.toArray) he ⟨hit, p⟩ fun h' eb => ⟨rfl, I.turned (t' := s.toks) (fun b o hb q => eb b o hb q) f0 f1 f3 f4 f5⟩
  self := fun A i s Q E st h => let ⟨⟨_, he⟩, _⟩ := st; wpAny_pyIter_enum he h
end Ev
end

section
set_option Elab.async false
set_option linter.all false
set_option maxRecDepth 100000
set_option maxHeartbeats 0
/-! Ev11b: zip of a list and a tuple, in any order: by the kind of each. -/
namespace Ev
open PySem PySem.Spec PyProof.Rows L2
/-- the kind of a sequence -/
inductive Sk where | l | t
namespace Sk
def Cur : Sk → Heap → Addr → Addr → Nat → Prop
  | .l => Heap.IsListIter | .t => Heap.IsTupleIter
def Ob : Sk → Heap → Addr → Array Value → Prop
  | .l => Heap.IsList | .t => Heap.IsTuple
def Sq : Sk → PySem.W.Frag → Hp → Addr → List V → Prop
  | .l => SqL | .t => SqT
def nm : Sk → String
  | .l => "list_iterator" | .t => "tuple_iterator"
variable {q : Sk} {h h' : Heap} {i a b : Addr} {k : Nat} {xs : Array Value}
theorem Cur.to (c : Cur q h i a k) (e : ∀ o, h.get? i = some o → h'.get? i = some o) : Cur q h' i a k := by
  cases q
  · exact Heap.IsListIter.at c e
  · exact Heap.IsTupleIter.at c e
theorem Cur.eb (c : Cur q h i a k) (e : Heap.ExtBut b h h') (n : i ≠ b) : Cur q h' i a k := c.to fun o x => e _ o n x
theorem Cur.ob (c : Cur q h i a k) : ∃ o, h.get? i = some o ∧ o.data = .fields #[.ref a, .int k 0] := by
  cases q <;> (obtain ⟨o, e, _, d⟩ := c; exact ⟨o, e, d⟩)
theorem Ob.eb (c : Ob q h a xs) (e : Heap.ExtBut b h h') (n : a ≠ b) : Ob q h' a xs := by
  cases q
  · exact Heap.IsList.extBut c e n
  · exact Heap.IsTuple.extBut c e n
theorem Ob.lt (c : Ob q h a xs) : a < h.objs.size := by
  cases q
  · obtain ⟨_, e, _⟩ := c; exact Heap.lt_size e
  · obtain ⟨_, e, _⟩ := c; exact Heap.lt_size e
theorem Ob.push (c : Ob q h a xs) (o : Obj) : Ob q (h.push o) a xs := by
  cases q
  · exact Heap.IsList.push c o
  · exact Heap.IsTuple.push c o
variable {prog : Program} {w : World} {A : Around} {E : Value → Shared → Prop} {s : Shared}
theorem nx {x : Value} {Q : Value → Shared → Prop} (c : Cur q s.heap i a k) (o : Ob q s.heap a xs) (e : xs[k]? = some x)
    (d : ∀ h', Cur q h' i a (k + 1) → Heap.SameBut i s.heap h' → Q x { s with heap := h' }) : wpAny (model prog w) A (Builtin.SmallTypes.nextOf (.ref i)) Q E s := by
  cases q
  · exact wpAny_nextOf_list_item c o e d
  · exact RZ.nextOf_tuple_item c o e d
theorem stop {Q : Value → Shared → Prop} (hh : A.handled = none) (c : Cur q s.heap i a k) (o : Ob q s.heap a xs) (e : xs[k]? = none)
    (d : ∀ h' e, Heap.ExtBut i s.heap h' → (∃ o, h'.get? e = some o ∧ o.cls = .type "StopIteration") → E (.ref e) { s with heap := h' }) : wpAny (model prog w) A (Builtin.SmallTypes.nextOf (.ref i)) Q E s := by
  cases q
  · exact wpAny_nextOf_list_end hh c o e d
  · exact RZ.nextOf_tuple_end hh c o e d
theorem iter {Q : Value → Shared → Prop} (o : Ob q s.heap a xs) (d : Q (.ref s.heap.objs.size) { s with heap := s.heap.push { cls := .type q.nm, data := .fields #[.ref a, .int 0 0] } }) : wpAny (model prog w) A (pyIter (.ref a)) Q E s := by
  cases q
  · exact wpAny_pyIter_list o d
  · exact wpAny_pyIter_tuple o d
theorem Cur.new (e : h.get? i = some { cls := .type q.nm, data := .fields #[.ref a, .int 0 0] }) : Cur q h i a 0 := by
  cases q
  · exact ⟨_, e, rfl, rfl⟩
  · exact ⟨_, e, rfl, rfl⟩
end Sk
section
variable {prog : Program} {w : World} {A : Around} {E : Value → Shared → Prop} {s : Shared}
variable {z TI TO i1 i2 a b : Addr} {k : Nat} {xs ys : Array Value} {u v : Value} {p q : Sk}
/-- a zip object at its turn k, over a and b of the kinds p and q -/
structure Zs (p q : Sk) (h : Heap) (z TI TO i1 i2 a b : Addr) (k : Nat) : Prop where
  z : IsZip h z TI TO .none
  ti : IsPair h TI (.ref i1) (.ref i2)
  to : ∃ u v, IsPair h TO u v
  c1 : p.Cur h i1 a k
  c2 : q.Cur h i2 b k
/-- what a turn leaves alone -/
abbrev Left (z TO i1 i2 : Addr) (h h' : Heap) : Prop := ∀ c o, c ≠ z → c ≠ TO → c ≠ i1 → c ≠ i2 → h.get? c = some o → h'.get? c = some o
theorem zs_item {Q : Value → Shared → Prop} (D : ZipApart z TI TO i1 i2 a b) (st : Zs p q s.heap z TI TO i1 i2 a b k) (o1 : p.Ob s.heap a xs) (o2 : q.Ob s.heap b ys) (e1 : xs[k]? = some u) (e2 : ys[k]? = some v)
    (d : ∀ h', IsZip h' z TI TO (rawInt s.heap.objs.size) → IsPair h' TO u v → p.Cur h' i1 a (k + 1) → q.Cur h' i2 b (k + 1) → IsPair h' s.heap.objs.size u v → Left z TO i1 i2 s.heap h' → Q (.ref s.heap.objs.size) { s with heap := h' }) :
    wpAny (model prog w) A (Builtin.«zip.__next__» ⟨[.ref z], []⟩) (fun fin s' => ∃ v, fin = .done (.ret v) ∧ Q v s') E s := by
  obtain ⟨hz, hTI, ⟨u0, v0, hTO⟩, c1, c2⟩ := st
  show wpAny _ _ (field (.ref z) 2 >>= _) _ _ _
  refine wpAny_bind (wpAny_field hz rfl (x := .bool false) rfl ?_)
  show wpAny _ _ (field (.ref z) 3 >>= _) _ _ _
  refine wpAny_bind (wpAny_field hz rfl (x := .ref TI) rfl (wpAny_bind (wpAny_seqItems hTI rfl ?_)))
  show wpAny _ _ (Builtin.SmallTypes.ownedTupleIsFree (.ref z) >>= _) _ _ _
  refine wpAny_bind ?_
  unfold Builtin.SmallTypes.ownedTupleIsFree
  refine wpAny_bind (wpAny_field hz rfl (x := .none) rfl (wpAny_pure ?_))
  simp only [if_true]
  refine wpAny_bind (wpAny_rule (wpAny_bind (wpAny_field hz rfl (x := .ref TO) rfl ?_)))
  refine wpAny_bind (wpAny_setField_rec hz (by simp) fun g1 z1 w1 => wpAny_bind ?_)
  have z1' : IsZip g1 z TI TO .ellipsis := z1
  simp only [List.zipIdx_cons, List.zipIdx_nil, List.forIn_cons, List.forIn_nil]
  refine wpAny_bind (wpAny_bind (wpAny_onRaise ?_))
  show wpAny _ _ (Builtin.SmallTypes.nextOf (.ref i1) >>= _) _ _ _
  refine wpAny_bind (Sk.nx (c1.eb w1.extBut D.i1z) (o1.eb w1.extBut D.l1z) e1 fun g2 c1' w2 => wpAny_pure ?_)
  have p2 : IsPair g2 TO u0 v0 := w2.extBut _ _ D.TOi1 (w1.extBut _ _ D.TOz hTO)
  refine wpAny_bind (wpAny_seqItems p2 rfl (wpAny_bind (wpAny_updateSeq_pair p2 fun g3 p3 w3 => ?_)))
  have p3' : IsPair g3 TO u v0 := p3
  refine wpAny_bind (wpAny_letGo (wpAny_pure (wpAny_bind (wpAny_bind (wpAny_onRaise ?_)))))
  show wpAny _ _ (Builtin.SmallTypes.nextOf (.ref i2) >>= _) _ _ _
  refine wpAny_bind (Sk.nx (((c2.eb w1.extBut D.i2z).eb w2.extBut D.i12.symm).eb w3.extBut D.TOi2.symm) (((o2.eb w1.extBut D.l2z).eb w2.extBut D.l2i1).eb w3.extBut D.l2TO) e2 fun g4 c2' w4 => wpAny_pure ?_)
  have p4 : IsPair g4 TO u v0 := w4.extBut _ _ D.TOi2 p3'
  refine wpAny_bind (wpAny_seqItems p4 rfl (wpAny_bind (wpAny_updateSeq_pair p4 fun g5 p5 w5 => ?_)))
  have p5' : IsPair g5 TO u v := p5
  refine wpAny_bind (wpAny_letGo (wpAny_pure (wpAny_pure (wpAny_bind (wpAny_seqItems p5' rfl (wpAny_bind (wpAny_newTuple ?_)))))))
  have hsz : g5.objs.size = s.heap.objs.size := by rw [w5.1, w4.1, w3.1, w2.1, w1.1]
  have z5 : IsZip g5 z TI TO .ellipsis := w5.extBut _ _ D.TOz.symm (w4.extBut _ _ D.i2z.symm (w3.extBut _ _ D.TOz.symm (w2.extBut _ _ D.i1z.symm z1')))
  have l5 : Left z TO i1 i2 s.heap g5 := fun c o n1 n2 n3 n4 e => w5.extBut _ _ n2 (w4.extBut _ _ n4 (w3.extBut _ _ n2 (w2.extBut _ _ n3 (w1.extBut _ _ n1 e))))
  have c1'' : p.Cur g5 i1 a (k + 1) := ((c1'.eb w3.extBut D.TOi1.symm).eb w4.extBut D.i12).eb w5.extBut D.TOi1.symm
  have c2'' : q.Cur g5 i2 b (k + 1) := c2'.eb w5.extBut D.TOi2.symm
  have zl : z < g5.objs.size := Heap.lt_size z5
  show wpAny _ _ (Builtin.SmallTypes.ownedTupleHandOut (.ref z) (.ref g5.objs.size) >>= _) _ _ _
  refine wpAny_bind ?_
  unfold Builtin.SmallTypes.ownedTupleHandOut
  have z6 : IsZip (g5.push { cls := .type "tuple", data := .seq #[u, v] }) z TI TO .ellipsis := Heap.get?_push_of_some _ z5
  refine wpAny_bind (wpAny_setField_rec z6 (by simp) fun g7 z7 w7 => ?_)
  have z7' : IsZip g7 z TI TO (rawInt g5.objs.size) := z7
  refine wpAny_setField_rec z7' (by simp) fun g8 z8 w8 => wpAny_pure ⟨_, rfl, ?_⟩
  have z8' : IsZip g8 z TI TO (rawInt g5.objs.size) := z8
  have up : ∀ c o, c ≠ z → g5.get? c = some o → g8.get? c = some o := fun c o n e => w8.extBut _ _ n (w7.extBut _ _ n (Heap.get?_push_of_some _ e))
  have p8 : IsPair g8 g5.objs.size u v := w8.extBut _ _ (Nat.ne_of_gt zl) (w7.extBut _ _ (Nat.ne_of_gt zl) (Heap.get?_push_size _ rfl))
  show Q (.ref g5.objs.size) _
  rw [hsz] at z8' p8 ⊢
  exact d g8 z8' (up _ _ D.TOz p5') (c1''.to fun o e => up _ o D.i1z e) (c2''.to fun o e => up _ o D.i2z e) p8 fun c o n1 n2 n3 n4 e => up c o n1 (l5 c o n1 n2 n3 n4 e)
theorem zs_stop {Q : Fin → Shared → Prop} (hh : A.handled = none) (D : ZipApart z TI TO i1 i2 a b) (st : Zs p q s.heap z TI TO i1 i2 a b k) (o1 : p.Ob s.heap a xs) (o2 : q.Ob s.heap b ys) (e : xs[k]? = none ∨ ys[k]? = none)
    (d : ∀ h' x, Left z TO i1 i2 s.heap h' → (∃ o, h'.get? x = some o ∧ o.cls = .type "StopIteration") → E (.ref x) { s with heap := h' }) :
    wpAny (model prog w) A (Builtin.«zip.__next__» ⟨[.ref z], []⟩) Q E s := by
  obtain ⟨hz, hTI, ⟨u0, v0, hTO⟩, c1, c2⟩ := st
  show wpAny _ _ (field (.ref z) 2 >>= _) _ _ _
  refine wpAny_bind (wpAny_field hz rfl (x := .bool false) rfl ?_)
  show wpAny _ _ (field (.ref z) 3 >>= _) _ _ _
  refine wpAny_bind (wpAny_field hz rfl (x := .ref TI) rfl (wpAny_bind (wpAny_seqItems hTI rfl ?_)))
  show wpAny _ _ (Builtin.SmallTypes.ownedTupleIsFree (.ref z) >>= _) _ _ _
  refine wpAny_bind ?_
  unfold Builtin.SmallTypes.ownedTupleIsFree
  refine wpAny_bind (wpAny_field hz rfl (x := .none) rfl (wpAny_pure ?_))
  simp only [if_true]
  refine wpAny_bind (wpAny_rule (wpAny_bind (wpAny_field hz rfl (x := .ref TO) rfl ?_)))
  refine wpAny_bind (wpAny_setField_rec hz (by simp) fun g1 z1 w1 => wpAny_bind ?_)
  have z1' : IsZip g1 z TI TO .ellipsis := z1
  simp only [List.zipIdx_cons, List.zipIdx_nil, List.forIn_cons, List.forIn_nil]
  refine wpAny_bind (wpAny_bind (wpAny_onRaise ?_))
  show wpAny _ _ (Builtin.SmallTypes.nextOf (.ref i1) >>= _) _ _ _
  have fin : ∀ {g : Heap} {x : Addr}, IsZip g z TI TO .ellipsis → (∃ o, g.get? x = some o ∧ o.cls = .type "StopIteration") → x ≠ z := fun hg ⟨o, h1, h2⟩ n => by
    subst n; rw [hg] at h1; cases h1; simp at h2
  cases hx : xs[k]? with
  | none =>
    refine wpAny_bind (Sk.stop hh (c1.eb w1.extBut D.i1z) (o1.eb w1.extBut D.l1z) hx fun g2 x w2 hs => ?_)
    have z2 : IsZip g2 z TI TO .ellipsis := w2 _ _ D.i1z.symm z1'
    refine wpAny_setField_rec z2 (by simp) fun g3 _ w3 => d g3 x (fun c o n1 _ n3 _ e => w3.extBut _ _ n1 (w2 _ _ n3 (w1.extBut _ _ n1 e))) ?_
    obtain ⟨o, h1, h2⟩ := hs
    exact ⟨o, w3.extBut _ _ (fin z2 ⟨o, h1, h2⟩) h1, h2⟩
  | some u =>
    have hy : ys[k]? = none := e.resolve_left (by rw [hx]; simp)
    refine wpAny_bind (Sk.nx (c1.eb w1.extBut D.i1z) (o1.eb w1.extBut D.l1z) hx fun g2 c1' w2 => wpAny_pure ?_)
    have p2 : IsPair g2 TO u0 v0 := w2.extBut _ _ D.TOi1 (w1.extBut _ _ D.TOz hTO)
    refine wpAny_bind (wpAny_seqItems p2 rfl (wpAny_bind (wpAny_updateSeq_pair p2 fun g3 p3 w3 => ?_)))
    refine wpAny_bind (wpAny_letGo (wpAny_pure (wpAny_bind (wpAny_bind (wpAny_onRaise ?_)))))
    show wpAny _ _ (Builtin.SmallTypes.nextOf (.ref i2) >>= _) _ _ _
    refine wpAny_bind (Sk.stop hh (((c2.eb w1.extBut D.i2z).eb w2.extBut D.i12.symm).eb w3.extBut D.TOi2.symm) (((o2.eb w1.extBut D.l2z).eb w2.extBut D.l2i1).eb w3.extBut D.l2TO) hy fun g4 x w4 hs => ?_)
    have z4 : IsZip g4 z TI TO .ellipsis := w4 _ _ D.i2z.symm (w3.extBut _ _ D.TOz.symm (w2.extBut _ _ D.i1z.symm z1'))
    refine wpAny_setField_rec z4 (by simp) fun g5 _ w5 => d g5 x (fun c o n1 n2 n3 n4 e => w5.extBut _ _ n1 (w4 _ _ n4 (w3.extBut _ _ n2 (w2.extBut _ _ n3 (w1.extBut _ _ n1 e))))) ?_
    obtain ⟨o, h1, h2⟩ := hs
    exact ⟨o, w5.extBut _ _ (fin z4 ⟨o, h1, h2⟩) h1, h2⟩
theorem zs_next {Q : Option Value → Shared → Prop} (D : ZipApart z TI TO i1 i2 a b) (st : Zs p q s.heap z TI TO i1 i2 a b k) (o1 : p.Ob s.heap a xs) (o2 : q.Ob s.heap b ys) (e1 : xs[k]? = some u) (e2 : ys[k]? = some v)
    (d : ∀ h', IsZip h' z TI TO (rawInt s.heap.objs.size) → IsPair h' TO u v → p.Cur h' i1 a (k + 1) → q.Cur h' i2 b (k + 1) → IsPair h' s.heap.objs.size u v → Left z TO i1 i2 s.heap h' → Q (some (.ref s.heap.objs.size)) { s with heap := h' }) :
    wpAny (model prog w) A (pyNext (.ref z)) Q E s := by
  have hT : s.TypeIs (.ref z) "zip" := ⟨_, st.z, rfl⟩
  unfold pyNext
  exact wpAny_bind (wpAny_attempt (wpAny_callSpecial?_slot (name := Str.ofString "__next__") hT F.slot_zip_next (wpAny_call_entry F.slot_zip_next hT F.entry_zip_next
    (zs_item D st o1 o2 e1 e2 fun h' a1 a2 a3 a4 a5 a6 => wpAny_pure (d h' a1 a2 a3 a4 a5 a6)) (F.args_zip_next_1 _))))
theorem zs_over {Q : Option Value → Shared → Prop} (hh : A.handled = none) (D : ZipApart z TI TO i1 i2 a b) (st : Zs p q s.heap z TI TO i1 i2 a b k) (o1 : p.Ob s.heap a xs) (o2 : q.Ob s.heap b ys) (e : xs[k]? = none ∨ ys[k]? = none)
    (d : ∀ h', Left z TO i1 i2 s.heap h' → Q none { s with heap := h' }) : wpAny (model prog w) A (pyNext (.ref z)) Q E s := by
  have hT : s.TypeIs (.ref z) "zip" := ⟨_, st.z, rfl⟩
  unfold pyNext
  refine wpAny_bind (wpAny_attempt (wpAny_callSpecial?_slot (name := Str.ofString "__next__") hT F.slot_zip_next (wpAny_call_entry F.slot_zip_next hT F.entry_zip_next
    (zs_stop hh D st o1 o2 e fun h' x l ⟨o, h1, h2⟩ => wpAny_bind (wpAny_isInstance (T := "StopIteration") (b := true) ⟨o, h1, h2⟩ isSubtype_stop ?_)) (F.args_zip_next_1 _))))
  exact wpAny_pure (d _ l)
end
/-! ### the object -/
section
abbrev zA (p : Sk) (h : Heap) (a : Addr) : Heap := h.push { cls := .type p.nm, data := .fields #[.ref a, .int 0 0] }
abbrev zB (p q : Sk) (h : Heap) (a b : Addr) : Heap := zA q (zA p h a) b
abbrev zC (p q : Sk) (h : Heap) (a b : Addr) : Heap := (zB p q h a b).push { cls := .type "tuple", data := .seq #[.ref h.objs.size, .ref (zA p h a).objs.size] }
abbrev zD (p q : Sk) (h : Heap) (a b : Addr) : Heap := (zC p q h a b).push { cls := .type "tuple", data := .seq #[.none, .none] }
abbrev zE (p q : Sk) (h : Heap) (a b : Addr) : Heap := (zD p q h a b).push { cls := .type "zip", data := .fields #[.none, .bool false, .bool false, .ref (zB p q h a b).objs.size, .ref (zC p q h a b).objs.size] }
theorem meets_zs (p q : Sk) (a b : Addr) (xs ys : Array Value) :
    Meets (Builtin.«zip.__new__» ⟨[.type "zip", .ref a, .ref b], []⟩) (fun _ R s => p.Ob s.heap a xs ∧ q.Ob s.heap b ys ∧ R (.ok (.ret (.ref (zD p q s.heap a b).objs.size))) { s with heap := zE p q s.heap a b }) :=
  .of_wp fun prog w A R s h => by
    obtain ⟨hp, g, d, tk, os⟩ := s; obtain ⟨o1, o2, h⟩ := h
    have hsub := PySem.sub_zip
    have L1 : p.Ob (Shared.heap ⟨hp, g, d, tk, os⟩) a xs := o1
    have L2 : q.Ob (Shared.heap ⟨hp.push { cls := .type p.nm, data := .fields #[.ref a, .int 0 0] }, g, d, tk, os⟩) b ys := o2.push _
    wp_walk using Sk.iter L1, Sk.iter L2
    exact ⟨_, rfl, h⟩
variable {prog : Program} {w : World} {A : Around} {E : Value → Shared → Prop} {s : Shared} {p q : Sk}
theorem call_zs {a b : Addr} {xs ys : Array Value} {Q : Value → Shared → Prop} (o1 : p.Ob s.heap a xs) (o2 : q.Ob s.heap b ys)
    (d : ∀ h', Zs p q h' (s.heap.objs.size + 4) (s.heap.objs.size + 2) (s.heap.objs.size + 3) s.heap.objs.size (s.heap.objs.size + 1) a b 0 → (∀ c o, s.heap.get? c = some o → h'.get? c = some o) → Q (.ref (s.heap.objs.size + 4)) { s with heap := h' }) :
    wpAny (model prog w) A (call (.type "zip") [.ref a, .ref b]) Q E s := by
  refine callType_new F.called_zip (by decide) (F.typeCall_zip_2 _ _) (F.newCall_zip_2 _ _) (fun obj => F.args_object_init_3 obj _ _) F.entry_zip_new (meets_zs p q a b xs ys) ⟨o1, o2, ?_⟩
  have n1 : (zA p s.heap a).objs.size = s.heap.objs.size + 1 := Heap.size_push ..
  have n2 : (zB p q s.heap a b).objs.size = s.heap.objs.size + 2 := by rw [Heap.size_push, n1]
  have n3 : (zC p q s.heap a b).objs.size = s.heap.objs.size + 3 := by rw [Heap.size_push, n2]
  have n4 : (zD p q s.heap a b).objs.size = s.heap.objs.size + 4 := by rw [Heap.size_push, n3]
  have up3 : ∀ c o, (zB p q s.heap a b).get? c = some o → (zE p q s.heap a b).get? c = some o := fun c o e => Heap.get?_push_of_some _ (Heap.get?_push_of_some _ (Heap.get?_push_of_some _ e))
  have g5 : (zE p q s.heap a b).get? (zD p q s.heap a b).objs.size = some _ := Heap.get?_push_size _ rfl
  have g4 : (zE p q s.heap a b).get? (zC p q s.heap a b).objs.size = some _ := Heap.get?_push_of_some _ (Heap.get?_push_size _ rfl)
  have g3 : (zE p q s.heap a b).get? (zB p q s.heap a b).objs.size = some _ := Heap.get?_push_of_some _ (Heap.get?_push_of_some _ (Heap.get?_push_size _ rfl))
  have g2 : (zE p q s.heap a b).get? (zA p s.heap a).objs.size = some _ := up3 _ _ (Heap.get?_push_size _ rfl)
  have g1 : (zE p q s.heap a b).get? s.heap.objs.size = some _ := up3 _ _ (Heap.get?_push_of_some _ (Heap.get?_push_size _ rfl))
  show _ ∧ _
  rw [n2, n3, n4] at g5
  rw [n1, n2] at g3
  rw [n3] at g4
  rw [n1] at g2
  rw [n4]
  exact ⟨⟨_, g5, rfl⟩, d _ ⟨g5, g3, ⟨_, _, g4⟩, .new g1, .new g2⟩ fun c o e => up3 _ _ (Heap.get?_push_of_some _ (Heap.get?_push_of_some _ e))⟩
end
/-! ### the walk -/
section
variable {p q : Sk}
theorem Sk.of {X : Cx} {pins : List (Addr × Obj)} {σ : L2.St} {H : Hp} {s : Shared} {a : Addr} {xs : List V} (I : Inv X pins σ H s) (h : p.Sq X.K H a xs) : ∃ its : List Value, Vals xs its ∧ p.Ob s.heap a its.toArray := by
  cases p
  · obtain ⟨its, r, o, _⟩ := I.list h; exact ⟨its, r, o.isList⟩
  · obtain ⟨its, r, o, _⟩ := I.tuple h; exact ⟨its, r, o⟩
theorem Sk.inj {X : Cx} {pins : List (Addr × Obj)} {σ : L2.St} {H : Hp} {s : Shared} {a : Addr} {xs ys : List V} (I : Inv X pins σ H s) (h : p.Sq X.K H a xs) (h' : p.Sq X.K H a ys) : xs = ys := by
  cases p
  · exact I.list_inj h h'
  · exact I.tuple_inj h h'
/-- the two as they stand at each turn, the items in new pairs -/
def ItzS (p q : Sk) (K : PySem.W.Frag) (a b : Addr) : It where
  go := fun i H => ∃ (xs ys : List V) (x y : V), p.Sq K H a xs ∧ q.Sq K H b ys ∧ xs[i]? = some x ∧ ys[i]? = some y
  yld := fun i H v H' => ∃ t x y, v = .ref t ∧ H t = none ∧ H' = upd H t (.tup [x, y]) ∧ (∀ xs, p.Sq K H a xs → xs[i]? = some x) ∧ ∀ ys, q.Sq K H b ys → ys[i]? = some y
  stop := fun i H => ∃ xs ys : List V, p.Sq K H a xs ∧ q.Sq K H b ys ∧ (xs.length ≤ i ∨ ys.length ≤ i)
theorem turn_zs {P : Program} {w : World} {K : PySem.W.Frag} {elts : List Expr} {kk : Nat} {tpos : Pos} {a b z TI TO i1 i2 : Addr} (D : ZipApart z TI TO i1 i2 a b) :
    Turn P w K (.Tuple elts kk tpos) (ItzS p q K a b) [z, TI, TO, i1, i2] z (fun i h => Zs p q h z TI TO i1 i2 a b i) where
  mem := by simp
  obj := fun i h st c hc => by
    obtain ⟨hz, hTI, ⟨x, y, hTO⟩, c1, c2⟩ := st
    obtain ⟨o1, e1, d1⟩ := c1.ob
    obtain ⟨o2, e2, d2⟩ := c2.ob
    simp only [List.mem_cons, List.not_mem_nil, or_false] at hc
    rcases hc with rfl | rfl | rfl | rfl | rfl
    · exact ⟨_, hz, fun v n => nomatch n⟩
    · exact ⟨_, hTI, fun v n => nomatch n⟩
    · exact ⟨_, hTO, fun v n => nomatch n⟩
    · exact ⟨o1, e1, fun v n => by rw [d1] at n; cases n⟩
    · exact ⟨o2, e2, fun v n => by rw [d2] at n; cases n⟩
  keep := fun i h h' ⟨hz, hTI, ⟨x, y, hTO⟩, c1, c2⟩ k =>
    ⟨k z (by simp) _ hz, k TI (by simp) _ hTI, ⟨x, y, k TO (by simp) _ hTO⟩, c1.to fun o n => k i1 (by simp) o n, c2.to fun o n => k i2 (by simp) o n⟩
  item := by
    intro X hP hw hK hc i pins s σ H E I hf st ⟨xs, ys, x, y, hx, hy, ex, ey⟩
    subst hP hw hK
    obtain ⟨its, rv, o1⟩ := Sk.of I hx
    obtain ⟨its2, rv2, o2⟩ := Sk.of I hy
    obtain ⟨u, hu, ru⟩ := rv.get ex
    obtain ⟨v, hv, rw2⟩ := rv2.get ey
    have bound : ∀ c ∈ [z, TI, TO, i1, i2], c < s.heap.objs.size := fun c hc => by
      obtain ⟨hz, hTI, ⟨_, _, hTO⟩, c1, c2⟩ := st
      obtain ⟨_, e1, _⟩ := c1.ob
      obtain ⟨_, e2, _⟩ := c2.ob
      simp only [List.mem_cons, List.not_mem_nil, or_false] at hc
      rcases hc with rfl | rfl | rfl | rfl | rfl
      · exact Heap.lt_size hz
      · exact Heap.lt_size hTI
      · exact Heap.lt_size hTO
      · exact Heap.lt_size e1
      · exact Heap.lt_size e2
    have hTI := st.ti
    refine zs_next D st o1 o2 (u := u) (v := v) (by simpa using hu) (by simpa using hv) fun h' z' TO' c1 c2 hT hk => ⟨_, rfl, wpAny_letOwnedTupleGo_zip (s := { s with heap := h' }) z' fun g z'' sb => ?_⟩
    have hT2 : g.get? s.heap.objs.size = some { cls := .type "tuple", data := .seq #[u, v] } := (sb.2 _ (Nat.ne_of_gt (bound z (by simp)))).trans hT
    have new : ObjOk X.prog X.w (upd H s.heap.objs.size (.tup [x, y])) g s.heap.objs.size (.tup [x, y]) := ⟨by show 2 ≤ sizeLine; decide, [u, v], .cons ru (.cons rw2 .nil), ⟨_, hT2, rfl, _, rfl⟩⟩
    have I1 : Inv X pins σ (upd H s.heap.objs.size (.tup [x, y])) { s with heap := g } := I.turnedNew (t' := s.toks) (ch := [z, TI, TO, i1, i2])
      (fun c o hb n => by
        simp only [List.mem_cons, List.not_mem_nil, or_false, not_or] at hb
        exact (sb.2 c hb.1).trans (hk c o hb.1 hb.2.2.1 hb.2.2.2.1 hb.2.2.2.2 n)) hf (Nat.le_refl _) new
    refine ⟨.ref s.heap.objs.size, _, I1, rfl, ⟨_, x, y, rfl, I.hok.fresh (Nat.le_refl _), rfl, fun l hl => by rw [Sk.inj I hl hx]; exact ex, fun l hl => by rw [Sk.inj I hl hy]; exact ey⟩, ?_, fun c hcm => ?_⟩
    · exact ⟨z'', (sb.2 _ D.TIz).trans (hk _ _ D.TIz D.TITO D.TIi1 D.TIi2 hTI), ⟨u, v, (sb.2 _ D.TOz).trans TO'⟩, c1.to fun o n => (sb.2 _ D.i1z).trans n, c2.to fun o n => (sb.2 _ D.i2z).trans n⟩
    · rw [upd_ne (Nat.ne_of_lt (bound c hcm))]
      exact (hf c hcm).1
  done := by
    intro X hP hw hK hc i pins s σ H E I hf st ⟨xs, ys, hx, hy, hend⟩
    subst hP hw hK
    obtain ⟨its, rv, o1⟩ := Sk.of I hx
    obtain ⟨its2, rv2, o2⟩ := Sk.of I hy
    have l1 := rv.length
    have l2 := rv2.length
    have he : its.toArray[i]? = none ∨ its2.toArray[i]? = none := by
      rcases hend with n | n
      · exact .inl (by simp; omega)
      · exact .inr (by simp; omega)
    exact zs_over (I.ok.hd hc) D st o1 o2 he fun h' hk => ⟨rfl, I.turnedL (t' := s.toks) (ch := [z, TI, TO, i1, i2]) (fun c o hb n => by
      simp only [List.mem_cons, List.not_mem_nil, or_false, not_or] at hb
      exact hk c o hb.1 hb.2.2.1 hb.2.2.2.1 hb.2.2.2.2 n) hf⟩
  self := fun A i s Q E st h => wpAny_pyIter_zip st.z h
def iZs (K : PySem.W.Frag) (ta : TA) : TI := fun σ H R => ta σ H fun vs H1 => ∃ a b xs ys p q, vs = [.ref a, .ref b] ∧ Sk.Sq p K H1 a xs ∧ Sk.Sq q K H1 b ys ∧ R (ItzS p q K a b) H1
theorem pi_zs {X : Cx} {e e2 : Expr} {ta : TA} {np pos tpos : Pos} {elts : List Expr} {kk : Nat} (hg : Gl X "zip") (hm : X.mg "zip" = none) (ha : PA X [e, e2] ta)
    (hs : starEach [e, e2] X.env = (false, eval e X.env) :: starEach [e2] X.env := by rfl) (hpl : (backTo pos (starEach [e2] X.env)).any (·.1) = false := by rfl) :
    PI X (.Tuple elts kk tpos) (.Call (.Name "zip" np) [e, e2] [] pos) (iZs X.K ta) := by
  refine ⟨fun pins s σ H R I h => Call_ (ld_blt I hg hm PyProof.Rows.boot_zip (PyProof.Rows.callWith_type1 (thn (ha.run pos pins s σ H _ I h) fun us s1 ⟨vs, H1, I1, r1, a, b, xs, ys, p, q, ex, hx, hy, hr⟩ => ?_) hs hpl))⟩
  subst ex
  obtain ⟨u1, u2, rfl, r, r'⟩ : ∃ u1 u2, us = [u1, u2] ∧ RelV (.ref a) u1 ∧ RelV (.ref b) u2 := by
    cases r1 with
    | cons r rr => cases rr with
      | cons r' rr => cases rr; exact ⟨_, _, rfl, r, r'⟩
  cases r
  cases r'
  obtain ⟨its, rv, o1⟩ := Sk.of I1 hx
  obtain ⟨its2, rv2, o2⟩ := Sk.of I1 hy
  refine call_zs o1 o2 fun h' st hk => wpAny_pyIter_zip st.z ?_
  refine ⟨s1.heap.objs.size + 4, [s1.heap.objs.size + 4, s1.heap.objs.size + 2, s1.heap.objs.size + 3, s1.heap.objs.size, s1.heap.objs.size + 1], _, _, H1, rfl, I1.kept (t' := s1.toks) hk, turn_zs (PySem.W.ktu_apart s1.heap.objs.size a b o1.lt o2.lt), st, fun c hc => ?_, hr⟩
  have le : s1.heap.objs.size ≤ c := by
    simp only [List.mem_cons, List.not_mem_nil, or_false] at hc
    rcases hc with rfl | rfl | rfl | rfl | rfl
    · exact Nat.le_add_right _ _
    · exact Nat.le_add_right _ _
    · exact Nat.le_add_right _ _
    · exact Nat.le_refl _
    · exact Nat.le_add_right _ _
  exact I1.fpOk le (I1.hok.fresh le)
end
end Ev
end

section
set_option Elab.async false
set_option linter.all false
set_option maxRecDepth 100000
set_option maxHeartbeats 4000000
/-! Ev12: what a loop walks. -/
namespace Ev
open PySem PySem.Spec PyProof.Rows L2
def Yl (T : Tab) (tg : Tg) (F : Hp) (J : It) (ds : List PyData) : Prop := ∀ i ρ G H st, Sub F G → Rl T ρ G H st → (i < ds.length → J.go i H) ∧ (i = ds.length → J.stop i H) ∧
  ∀ x H', i < ds.length → J.yld i H x H' → ∃ d, ds[i]? = some d ∧ Rl T ρ G H' st ∧ ItT T G H' tg x d
def tI (T : Tab) (W : XW) (cf nf : CallF) (tg : Tg) (k : Ik) (es : List Ex) : TI := fun σ H R => ∃ ρ F env st, Rl T ρ F H st ∧ EnvR T ρ F [] env σ ∧ OkR T W ρ F (evEs cf nf es env st) fun vs st' ρ' F' H' => ∃ ds, walkV k vs st' = some ds ∧ ∀ J, (∀ h, Yl { T with hid := h } tg F' J ds) → R J H'
section
variable {T : Tab} {X : Cx} {tg : Tg} {F : Hp}
theorem DqAll.lt {xs : List V} {ds : List PyData} (h : DqAll T.kc F xs ds) {i : Nat} (hi : i < ds.length) : ∃ x d, xs[i]? = some x ∧ ds[i]? = some d ∧ Dq T.kc F x d := by
  have e : ds[i]? = some ds[i] := List.getElem?_eq_getElem hi
  obtain ⟨v, h1, h2⟩ := h.at e
  exact ⟨v, _, h1, e, h2⟩
theorem yl_list {a : Addr} {xs : List V} {ds : List PyData} (h1 : F a = some (.lst xs)) (h2 : DqAll T.kc F xs ds) : Yl T tg F (Itl X.K a) ds := by
  intro i ρ G H st s r
  have ha : SqL X.K H a xs := SqL.of (r.sub _ _ (s _ _ h1))
  refine ⟨fun hi => ?_, fun hi => ⟨xs, ha, by rw [h2.length]; omega⟩, fun x H' hi y => ?_⟩
  · obtain ⟨x, d, e1, _, _⟩ := h2.lt hi
    exact ⟨xs, x, ha, e1⟩
  · obtain ⟨rfl, y⟩ := y
    obtain ⟨x', d, e1, e2, e3⟩ := h2.lt hi
    have e4 := y xs ha
    rw [e1] at e4
    cases e4
    exact ⟨d, e2, r, (Dq.sub s e3).it⟩
theorem yl_tup {a : Addr} {xs : List V} {ds : List PyData} (h1 : TP F a xs ds) (h2 : DqAll T.kc F xs ds) : Yl T tg F (Itt X.K a) ds := by
  intro i ρ G H st s r
  have ha : SqT X.K H a xs := (h1.sub (s.trans r.sub)).sq
  refine ⟨fun hi => ?_, fun hi => ⟨xs, ha, by rw [h2.length]; omega⟩, fun x H' hi y => ?_⟩
  · obtain ⟨x, d, e1, _, _⟩ := h2.lt hi
    exact ⟨xs, x, ha, e1⟩
  · obtain ⟨rfl, y⟩ := y
    obtain ⟨x', d, e1, e2, e3⟩ := h2.lt hi
    have e4 := y xs ha
    rw [e1] at e4
    cases e4
    exact ⟨d, e2, r, (Dq.sub s e3).it⟩
theorem yl_str {z : Str} : Yl T tg F (Its z) (chars z) := by
  intro i ρ G H st s r
  have hl : (chars z).length = z.cps.size := by unfold chars; simp
  refine ⟨fun hi => by rw [hl] at hi; exact hi, fun hi => by show z.cps.size ≤ i; omega, fun x H' hi y => ?_⟩
  obtain ⟨rfl, c, e1, rfl⟩ := y
  refine ⟨.str ⟨#[c]⟩, ?_, r, (Dq.str _).it⟩
  unfold chars
  rw [List.getElem?_map, Array.getElem?_toList, e1]; rfl
theorem rngD_at : ∀ {n : Nat} {lo : Int} {i : Nat}, i < n → (rngD lo n)[i]? = some (.int (lo + i))
  | n + 1, lo, 0, _ => by unfold rngD; simp
  | n + 1, lo, i + 1, h => by
    unfold rngD
    rw [List.getElem?_cons_succ, rngD_at (by omega)]
    congr 2; omega
theorem rngD_len : ∀ (n : Nat) (lo : Int), (rngD lo n).length = n
  | 0, _ => rfl
  | n + 1, lo => by unfold rngD; rw [List.length_cons, rngD_len n]
theorem yl_rng {lo : Int} {n : Nat} : Yl T tg F (Itr lo n) (rngD lo n) := by
  intro i ρ G H st s r
  rw [rngD_len]
  refine ⟨fun hi => hi, fun hi => by show n ≤ i; omega, fun x H' hi y => ?_⟩
  obtain ⟨rfl, rfl⟩ := y
  exact ⟨_, rngD_at hi, r, (Dq.int _).it⟩
theorem enumD_at : ∀ {l : List PyData} {k i : Nat} {d : PyData}, l[i]? = some d → (enumD l k)[i]? = some (.tuple [.int ((k + i : Nat) : Int), d])
  | x :: r, k, 0, d, h => by unfold enumD; simp at h; subst h; simp
  | x :: r, k, i + 1, d, h => by
    unfold enumD
    rw [List.getElem?_cons_succ, enumD_at (by simpa using h)]
    congr 4; omega
  | [], _, _, _, h => by simp at h
theorem enumD_len : ∀ (l : List PyData) (k : Nat), (enumD l k).length = l.length
  | [], _ => rfl
  | x :: r, k => by unfold enumD; rw [List.length_cons, List.length_cons, enumD_len r]
theorem Rl.newV {ρ : List Addr} {G H : Hp} {st : Store} {p : Addr} {o : HO} (r : Rl T ρ G H st) (hp : H p = none) : Rl T ρ G (upd H p o) st ∧ ∀ b u, H b = some u → upd H p o b = some u :=
  ⟨r.new hp, fun b u e => by rw [upd_ne (ne_of_none e hp)]; exact e⟩
theorem yl_enum {ts : List Tg} {a : Addr} {xs : List V} {ds : List PyData} (h1 : F a = some (.lst xs)) (h2 : DqAll T.kc F xs ds) : Yl T (.tu ts) F (Ite X.K a) (enumD ds 0) := by
  intro i ρ G H st s r
  have ha : SqL X.K H a xs := SqL.of (r.sub _ _ (s _ _ h1))
  rw [enumD_len]
  refine ⟨fun hi => ?_, fun hi => ⟨xs, ha, by rw [h2.length]; omega⟩, fun x H' hi y => ?_⟩
  · obtain ⟨x, d, e1, _, _⟩ := h2.lt hi
    exact ⟨xs, x, ha, e1⟩
  · obtain ⟨t, x2, rfl, hn, rfl, y⟩ := y
    obtain ⟨x', d, e1, e2, e3⟩ := h2.lt hi
    have e4 := y xs ha
    rw [e1] at e4
    cases e4
    obtain ⟨q1, q2⟩ := r.newV (o := .tup [.int (i : Nat), x2]) hn
    refine ⟨_, enumD_at e2, q1, .inr ⟨t, _, _, rfl, rfl, SqT.of upd_same, .cons ?_ (.cons (Dq.sub s e3) .nil)⟩⟩
    rw [Nat.zero_add]; exact .int _
theorem yl_enumT {ts : List Tg} {a : Addr} {xs : List V} {ds : List PyData} (h1 : TP F a xs ds) (h2 : DqAll T.kc F xs ds) : Yl T (.tu ts) F (IteT X.K a) (enumD ds 0) := by
  intro i ρ G H st s r
  have ha : SqT X.K H a xs := (h1.sub (s.trans r.sub)).sq
  rw [enumD_len]
  refine ⟨fun hi => ?_, fun hi => ⟨xs, ha, by rw [h2.length]; omega⟩, fun x H' hi y => ?_⟩
  · obtain ⟨x, d, e1, _, _⟩ := h2.lt hi
    exact ⟨xs, x, ha, e1⟩
  · obtain ⟨t, x2, rfl, hn, rfl, y⟩ := y
    obtain ⟨x', d, e1, e2, e3⟩ := h2.lt hi
    have e4 := y xs ha
    rw [e1] at e4
    cases e4
    obtain ⟨q1, q2⟩ := r.newV (o := .tup [.int (i : Nat), x2]) hn
    refine ⟨_, enumD_at e2, q1, .inr ⟨t, _, _, rfl, rfl, SqT.of upd_same, .cons ?_ (.cons (Dq.sub s e3) .nil)⟩⟩
    rw [Nat.zero_add]; exact .int _
theorem zipD_at : ∀ {l m : List PyData} {i : Nat}, i < (zipD l m).length → ∃ a b, l[i]? = some a ∧ m[i]? = some b ∧ (zipD l m)[i]? = some (.tuple [a, b])
  | [], _, _, h => by simp [zipD] at h
  | _ :: _, [], _, h => by simp [zipD] at h
  | x :: l, y :: m, 0, _ => ⟨x, y, rfl, rfl, rfl⟩
  | x :: l, y :: m, i + 1, h => by
    obtain ⟨a, b, h1, h2, h3⟩ := zipD_at (l := l) (m := m) (i := i) (by simpa [zipD] using h)
    exact ⟨a, b, by simpa using h1, by simpa using h2, by simpa [zipD] using h3⟩
theorem zipD_len : ∀ (l m : List PyData), (zipD l m).length = min l.length m.length
  | [], _ => by simp [zipD]
  | _ :: _, [] => by simp [zipD]
  | x :: l, y :: m => by rw [zipD, List.length_cons, zipD_len l m, List.length_cons, List.length_cons]; omega
theorem yl_zs {ts : List Tg} {p q : Sk} {a b : Addr} {xs ys : List V} {ds es : List PyData} (h1 : ∀ H, Sub F H → p.Sq X.K H a xs) (h2 : DqAll T.kc F xs ds) (h3 : ∀ H, Sub F H → q.Sq X.K H b ys) (h4 : DqAll T.kc F ys es) : Yl T (.tu ts) F (ItzS p q X.K a b) (zipD ds es) := by
  intro i ρ G H st s r
  have ha := h1 H (s.trans r.sub)
  have hb := h3 H (s.trans r.sub)
  refine ⟨fun hi => ?_, fun hi => ⟨xs, ys, ha, hb, by rw [h2.length, h4.length]; rw [zipD_len] at hi; omega⟩, fun x H' hi y => ?_⟩
  · obtain ⟨d, e, e1, e2, _⟩ := zipD_at hi
    obtain ⟨x, q1, _⟩ := h2.at e1
    obtain ⟨y, q2, _⟩ := h4.at e2
    exact ⟨xs, ys, x, y, ha, hb, q1, q2⟩
  · obtain ⟨t, x1, y1, rfl, hn, rfl, y2, y3⟩ := y
    obtain ⟨d, e, e1, e2, e3⟩ := zipD_at hi
    obtain ⟨x, q1, q3⟩ := h2.at e1
    obtain ⟨y, q2, q4⟩ := h4.at e2
    have e4 := y2 xs ha
    rw [q1] at e4
    cases e4
    have e5 := y3 ys hb
    rw [q2] at e5
    cases e5
    obtain ⟨z1, z2⟩ := r.newV (o := .tup [x1, y1]) hn
    exact ⟨_, e3, z1, .inr ⟨t, _, _, rfl, rfl, SqT.of upd_same, .cons (Dq.sub s q3) (.cons (Dq.sub s q4) .nil)⟩⟩
end
/-! ### iterators -/
section
variable {T : Tab} {W : XW} {C : Ck} {cf nf : CallF} {X : Cx} {tg : Tg} {sc : Scope}
theorem frozen_some {v : Vl} {ds : List PyData} (h : frozen v = some ds) : v = .d (.list ds) ∨ v = .d (.tuple ds) := by
  unfold frozen at h
  split at h
  · cases h; exact .inl rfl
  · cases h; exact .inr rfl
  · cases h
theorem list_V {F : Hp} {x : V} {ds : List PyData} {K : KC} (h : Dq K F x (.list ds)) : ∃ a xs, x = .ref a ∧ F a = some (.lst xs) ∧ DqAll K F xs ds := by
  cases h with | lst h1 h2 => exact ⟨_, _, rfl, h1, h2⟩
theorem tup_V {F : Hp} {x : V} {ds : List PyData} {K : KC} (h : Dq K F x (.tuple ds)) : ∃ a xs, x = .ref a ∧ TP F a xs ds ∧ DqAll K F xs ds := by
  cases h with | tup h1 h2 => exact ⟨_, _, rfl, h1, h2⟩
theorem intV_some {v : Vl} {n : Int} (h : intV v = some n) : v = .d (.int n) := by
  unfold intV at h
  split at h
  · cases h; rfl
  · cases h
theorem strV_some {v : Vl} {n : Str} (h : strV v = some n) : v = .d (.str n) := by
  unfold strV at h
  split at h
  · cases h; rfl
  · cases h
theorem lstV_some {v : Vl} {n : List PyData} (h : lstV v = some n) : v = .d (.list n) := by
  unfold lstV at h
  split at h
  · cases h; rfl
  · cases h
theorem tupV_some {v : Vl} {n : List PyData} (h : tupV v = some n) : v = .d (.tuple n) := by
  unfold tupV at h
  split at h
  · cases h; rfl
  · cases h
theorem walk_over {v : Vl} {ds : List PyData} (h : walkO [v] = some ds) : (∃ z, v = .d (.str z) ∧ ds = chars z) ∨ v = .d (.list ds) ∨ v = .d (.tuple ds) := by
  replace h : (match strV v with
    | some z => some (chars z)
    | none => frozen v) = some ds := h
  split at h
  · rename_i z e; cases h; exact .inl ⟨z, strV_some e, rfl⟩
  · exact .inr (frozen_some h)
theorem fitZ_eq {n : Int} (h : fitZ n = true) : -(2 ^ 62) ≤ n ∧ n < 2 ^ 62 := by
  unfold fitZ at h
  simp only [Bool.and_eq_true, decide_eq_true_eq] at h
  omega
theorem i_over {e : Expr} {a : Ex} {te : Expr} (h1 : PE X e (tE T W cf nf a)) : PI X te e (tI T W cf nf tg .over [a]) := by
  refine ⟨fun pins s σ H R I ⟨ρ, F, env, st, r, en, h⟩ => ?_⟩
  unfold evEs at h
  refine thn (h1.run pins s σ H (fun x H1 => ∃ ρ1 F1 st1 v ds, Rl T ρ1 F1 H1 st1 ∧ VlR T ρ1 F1 v x ∧ walkO [v] = some ds ∧ ∀ J, (∀ h, Yl { T with hid := h } tg F1 J ds) → R J H1) I ?_) fun u s1 ⟨x, H1, I1, rx, ρ1, F1, st1, v, ds, r1, hv, hw, hR⟩ => ?_
  · refine seqE r en h fun ρ1 F1 H1 st1 v x p1 s1 r1 en1 hv h1 => ?_
    obtain ⟨ds, e1, e2⟩ := h1 ρ1 F1 H1 (List.prefix_refl _) (Sub.refl F1) r1
    exact ⟨ρ1, F1, st1, v.1, ds, r1, hv, e1, e2⟩
  · rcases walk_over hw with ⟨z, rfl, rfl⟩ | rfl | rfl
    · cases hv
      obtain ⟨t, rfl⟩ := rx
      have q := hR _ fun _ => yl_str (z := z)
      cases ha : z.cps.all (· < 128)
      · exact wpAny_pyIter_wide ha (pi_one (tk := s1.toks) I1 _ (turn_str _ z t "str_iterator" (.inr rfl)) ⟨_, Heap.get?_push_size _ rfl, rfl, rfl⟩ q)
      · exact wpAny_pyIter_ascii ha (pi_one (tk := s1.toks) I1 _ (turn_str _ z t "str_ascii_iterator" (.inl rfl)) ⟨_, Heap.get?_push_size _ rfl, rfl, rfl⟩ q)
    · obtain ⟨p, xs, rfl, h1, h2⟩ := list_V hv
      cases rx
      obtain ⟨its, rv, pl, hz⟩ := I1.list (SqL.of (K := X.K) (r1.sub _ _ h1))
      exact wpAny_pyIter_list pl.isList (pi_one (tk := s1.toks) I1 _ (turn_list p _) ⟨_, Heap.get?_push_size _ rfl, rfl, rfl⟩ (hR _ (fun _ => yl_list h1 h2)))
    · obtain ⟨p, xs, rfl, h1, h2⟩ := tup_V hv
      cases rx
      obtain ⟨its, rv, pl, hz⟩ := I1.tuple ((h1.sub r1.sub).sq (K := X.K))
      exact wpAny_pyIter_tuple (show s1.heap.IsTuple p its.toArray from pl) (pi_one (tk := s1.toks) I1 _ (turn_tuple p _) ⟨_, Heap.get?_push_size _ rfl, rfl, rfl⟩ (hR _ (fun _ => yl_tup h1 h2)))
theorem PI.imp {te e : Expr} {w w' : TI} (h : PI X te e w) (i : ∀ σ H R, w' σ H R → w σ H R) : PI X te e w' := ⟨fun pins s σ H R I q => h.run pins s σ H R I (i σ H R q)⟩
theorem fr_of (am : Amb T C W cf nf X) {x : Str} (h : decide (x ∈ C.free) = true) : X.mg x = none := am.fr x (by simpa using h)
theorem evEs_len : ∀ {es : List Ex} {env : Env} {st st' : Store} {vs : List Vl}, evEs cf nf es env st = .ok vs st' → vs.length = es.length
  | [], _, _, _, _, h => by unfold evEs at h; cases h; rfl
  | e :: es, env, st, st', vs, h => by
    unfold evEs at h
    cases h1 : evE cf nf e env st with
    | ok v st1 =>
      rw [h1] at h
      replace h : ((evEs cf nf es env st1).bind fun xs st2 => R.ok (v.1 :: xs) st2) = .ok vs st' := h
      cases h2 : evEs cf nf es env st1 with
      | ok ws st2 =>
        rw [h2] at h
        cases h
        rw [List.length_cons, List.length_cons, evEs_len h2]
      | exc _ _ _ => rw [h2] at h; cases h
      | no => rw [h2] at h; cases h
    | exc _ _ _ => rw [h1] at h; cases h
    | no => rw [h1] at h; cases h
theorem tI_args {k : Ik} {es : List Ex} {σ : L2.St} {H : Hp} {R : It → Hp → Prop} {Q : List V → Hp → Prop} (h : tI T W cf nf tg k es σ H R)
    (hq : ∀ ρ1 F1 H1 st1 vs xs ds, Rl T ρ1 F1 H1 st1 → VlsR T ρ1 F1 vs xs → vs.length = es.length → walkV k vs st1 = some ds → (∀ J, (∀ h, Yl { T with hid := h } tg F1 J ds) → R J H1) → Q xs H1) : tA T W cf nf es σ H Q := by
  obtain ⟨ρ, F, env, st, r, en, h⟩ := h
  refine ⟨ρ, F, env, st, r, en, ?_⟩
  cases e : evEs cf nf es env st with
  | ok vs st' =>
    rw [e] at h
    intro ρ1 F1 H1 p1 s1 r1 xs hv
    obtain ⟨ds, e1, e2⟩ := h ρ1 F1 H1 p1 s1 r1
    exact hq ρ1 F1 H1 st' vs xs ds r1 hv (evEs_len e) e1 e2
  | exc _ _ _ => rw [e] at h; exact h
  | no => rw [e] at h; exact h
theorem len1 {α : Type} {l : List α} (h : l.length = 1) : ∃ a, l = [a] := by
  match l, h with
  | [a], _ => exact ⟨a, rfl⟩
theorem len2 {α : Type} {l : List α} (h : l.length = 2) : ∃ a b, l = [a, b] := by
  match l, h with
  | [a, b], _ => exact ⟨a, b, rfl⟩
theorem i_rng1 {a : Expr} {x : Ex} {te : Expr} {p pos : Pos} (am : Amb T C W cf nf X) (hs : X.env.scope = sc) (h2 : gloB sc "range" = true) (h3 : decide (("range" : Str) ∈ C.free) = true) (hst : isStar a = false) (h1 : PA X [a] (tA T W cf nf [x])) :
    PI X te (.Call (.Name "range" p) [a] [] pos) (tI T W cf nf tg .rng [x]) :=
  PI.imp (pi_range1 (gl_of hs h2).1 (fr_of am h3) h1 (star_cons hst [] X.env)) fun σ H R h => tI_args h fun ρ1 F1 H1 st1 vs xs ds r1 hv hl e1 e2 => by
    obtain ⟨v, rfl⟩ := len1 hl
    obtain ⟨y, rfl, hy⟩ := hv.one
    obtain ⟨n, e3, e4⟩ := bind_some (show (intV v).bind (fun n => if fitZ n then some (rngD 0 n.toNat) else none) = some ds from e1)
    have := intV_some e3
    subst this
    cases hy
    split at e4
    · rename_i c
      cases e4
      obtain ⟨c1, c2⟩ := fitZ_eq c
      exact ⟨n, rfl, c1, c2, e2 _ fun _ => yl_rng⟩
    · cases e4
theorem i_rng2 {a b : Expr} {x y : Ex} {te : Expr} {p pos : Pos} (am : Amb T C W cf nf X) (hs : X.env.scope = sc) (h2 : gloB sc "range" = true) (h3 : decide (("range" : Str) ∈ C.free) = true) (hst : isStar a = false) (hst2 : isStar b = false) (h1 : PA X [a, b] (tA T W cf nf [x, y])) :
    PI X te (.Call (.Name "range" p) [a, b] [] pos) (tI T W cf nf tg .rng [x, y]) :=
  PI.imp (pi_range2 (gl_of hs h2).1 (fr_of am h3) h1 (by rw [star_cons hst, star_cons hst2]; rfl) (by rw [star_cons hst2]; rfl)) fun σ H R h => tI_args h fun ρ1 F1 H1 st1 vs xs ds r1 hv hl e1 e2 => by
    obtain ⟨v, w, rfl⟩ := len2 hl
    obtain ⟨y, y2, rfl, hy, hy2⟩ := hv.two
    obtain ⟨n, e3, e4⟩ := bind_some (show (intV v).bind (fun a => (intV w).bind fun b => if fitZ a && fitZ b then some (rngD a (b - a).toNat) else none) = some ds from e1)
    obtain ⟨m, e5, e6⟩ := bind_some e4
    have := intV_some e3
    subst this
    have := intV_some e5
    subst this
    cases hy
    cases hy2
    split at e6
    · rename_i c
      cases e6
      rw [Bool.and_eq_true] at c
      obtain ⟨c1, c2⟩ := fitZ_eq c.1
      obtain ⟨c3, c4⟩ := fitZ_eq c.2
      exact ⟨n, m, rfl, ⟨c1, c2, c3, c4⟩, e2 _ fun _ => yl_rng⟩
    · cases e6
theorem i_enm {a : Expr} {x : Ex} {ts : List Tg} {elts : List Expr} {kk : Nat} {p pos tpos : Pos} (am : Amb T C W cf nf X) (hs : X.env.scope = sc) (h2 : gloB sc "enumerate" = true) (h3 : decide (("enumerate" : Str) ∈ C.free) = true) (hst : isStar a = false) (h1 : PA X [a] (tA T W cf nf [x])) :
    PI X (.Tuple elts kk tpos) (.Call (.Name "enumerate" p) [a] [] pos) (tI T W cf nf (.tu ts) .enm [x]) := by
  refine ⟨fun pins s σ H R I h => ?_⟩
  refine Call_ (ld_blt I (gl_of hs h2).1 (fr_of am h3) boot_enumerate (PyProof.Rows.callWith_type1 (thn (h1.run pos pins s σ H (fun xs H1 => ∃ ρ1 F1 st1 v y ds, xs = [y] ∧ Rl T ρ1 F1 H1 st1 ∧ VlR T ρ1 F1 v y ∧ frozen v = some ds ∧ ∀ J, (∀ h, Yl { T with hid := h } (.tu ts) F1 J (enumD ds 0)) → R J H1) I ?_) fun us s1 ⟨vs, H1, I1, rr, ρ1, F1, st1, v, y, ds, e0, r1, hv, e1, hR⟩ => ?_) (star_cons hst [] X.env) rfl))
  · refine tI_args h fun ρ1 F1 H1 st1 vs xs ds r1 hv hl e1 e2 => ?_
    obtain ⟨v, rfl⟩ := len1 hl
    obtain ⟨y, rfl, hy⟩ := hv.one
    obtain ⟨l, e3, rfl⟩ := map_some (show (frozen v).map (fun l => enumD l 0) = some ds from e1)
    exact ⟨ρ1, F1, st1, v, y, l, rfl, r1, hy, e3, e2⟩
  · subst e0
    obtain ⟨u, rfl, rx⟩ := vals1 rr
    have fresh2 : ∀ b ∈ [s1.heap.objs.size + 1, s1.heap.objs.size], FpOk X pins H1 b := fun b hb => by
      have hle : s1.heap.objs.size ≤ b := by
        have e' : b = s1.heap.objs.size + 1 ∨ b = s1.heap.objs.size := by simpa using hb
        rcases e' with z | z <;> omega
      exact I1.fpOk hle (I1.hok.fresh hle)
    rcases frozen_some e1 with rfl | rfl
    · obtain ⟨q, xs, rfl, h1, h2⟩ := list_V hv
      cases rx
      obtain ⟨its, rv, pl, hz⟩ := I1.list (SqL.of (K := X.K) (r1.sub _ _ h1))
      refine call_enumerate_list pl.isList fun h' he hit hsz hk => wpAny_pyIter_enum he ?_
      exact ⟨_, _, _, _, H1, rfl, I1.kept (t' := s1.toks) hk, turn_enum q _ _, ⟨⟨.none, he⟩, hit, Nat.succ_ne_self _⟩, fresh2, hR _ (fun _ => yl_enum h1 h2)⟩
    · obtain ⟨q, xs, rfl, h1, h2⟩ := tup_V hv
      cases rx
      obtain ⟨its, rv, pl, hz⟩ := I1.tuple ((h1.sub r1.sub).sq (K := X.K))
      have hlt : q < s1.heap.objs.size := by obtain ⟨o, ho, _⟩ := id pl; exact Heap.lt_size ho
      refine callEnum_tup pl fun h' he hit hk => wpAny_pyIter_enum he ?_
      exact ⟨_, _, _, _, H1, rfl, I1.kept (t' := s1.toks) hk, turnEnum_tup q _ _, ⟨⟨.none, he⟩, hit, Nat.succ_ne_self _, Nat.ne_of_lt hlt, (Nat.ne_of_lt (Nat.lt_succ_of_lt hlt)).symm⟩, fresh2, hR _ (fun _ => yl_enumT h1 h2)⟩
theorem seq_V {F : Hp} {y : V} {v : Vl} {ds : List PyData} (h : VlR T ρ F v y) (e : frozen v = some ds) : ∃ (p : Sk) (a : Addr) (xs : List V), y = .ref a ∧ (∀ K H, Sub F H → p.Sq K H a xs) ∧ DqAll T.kc F xs ds := by
  rcases frozen_some e with rfl | rfl
  · obtain ⟨a, xs, rfl, q1, q2⟩ := list_V h
    exact ⟨.l, a, xs, rfl, fun K H s => SqL.of (s _ _ q1), q2⟩
  · obtain ⟨a, xs, rfl, q1, q2⟩ := tup_V h
    exact ⟨.t, a, xs, rfl, fun K H s => (q1.sub s).sq, q2⟩
theorem i_zip {a b : Expr} {x y : Ex} {ts : List Tg} {elts : List Expr} {kk : Nat} {p pos tpos : Pos} (am : Amb T C W cf nf X) (hs : X.env.scope = sc) (h2 : gloB sc "zip" = true) (h3 : decide (("zip" : Str) ∈ C.free) = true) (hst : isStar a = false) (hst2 : isStar b = false) (h1 : PA X [a, b] (tA T W cf nf [x, y])) :
    PI X (.Tuple elts kk tpos) (.Call (.Name "zip" p) [a, b] [] pos) (tI T W cf nf (.tu ts) .zip [x, y]) :=
  PI.imp (pi_zs (gl_of hs h2).1 (fr_of am h3) h1 (star_cons hst [b] X.env) (by rw [star_cons hst2]; rfl)) fun σ H R h => tI_args h fun ρ1 F1 H1 st1 vs xs ds r1 hv hl e1 e2 => by
    obtain ⟨v, w, rfl⟩ := len2 hl
    obtain ⟨y, y2, rfl, hy, hy2⟩ := hv.two
    replace e1 : (match frozen v, frozen w with
      | some a, some b => some (zipD a b)
      | _, _ => none) = some ds := e1
    split at e1
    · rename_i l m e3 e4
      cases e1
      obtain ⟨p, a1, us, rfl, q1, q2⟩ := seq_V hy e3
      obtain ⟨q, a2, ws, rfl, q3, q4⟩ := seq_V hy2 e4
      exact ⟨a1, a2, us, ws, p, q, rfl, q1 _ _ r1.sub, q3 _ _ r1.sub, e2 _ fun _ => yl_zs (fun H s => q1 _ H s) q2 (fun H s => q3 _ H s) q4⟩
    · cases e1
end
end Ev
end

section
set_option Elab.async false
set_option linter.all false
set_option maxRecDepth 100000
set_option maxHeartbeats 4000000
/-! Ev13: comprehensions. -/
namespace Ev
open PySem PySem.Spec PyProof.Rows L2
theorem R.bind_assoc {α β γ : Type} (r : R α) (f : α → Store → R β) (g : β → Store → R γ) : (r.bind f).bind g = r.bind fun a s => (f a s).bind g := by cases r <;> rfl
section
variable {T T' : Tab} {ρ : List Addr} {F H : Hp} {st : Store}
abbrev Tab.re (T : Tab) (h : List (Addr × List V)) : Tab := { T with hid := h }
theorem FsR.re {h : List (Addr × List V)} : ∀ {vs : List (Option V)} {fs : List (Option PyData)}, FsR T F vs fs → FsR (T.re h) F vs fs
  | _, _, .nil => .nil
  | _, _, .none r => .none (FsR.re r)
  | _, _, .some d r => .some d (FsR.re r)
theorem FsR.er {h : List (Addr × List V)} : ∀ {vs : List (Option V)} {fs : List (Option PyData)}, FsR (T.re h) F vs fs → FsR T F vs fs
  | _, _, .nil => .nil
  | _, _, .none r => .none (FsR.er r)
  | _, _, .some d r => .some d (FsR.er r)
theorem KvR.re {κ : Type} {h : List (Addr × List V)} : ∀ {ws : List (κ × V)} {kvs : List (κ × PyData)}, KvR T F ws kvs → KvR (T.re h) F ws kvs
  | _, _, .nil => .nil
  | _, _, .cons d r => .cons d (KvR.re r)
theorem KvR.er {κ : Type} {h : List (Addr × List V)} : ∀ {ws : List (κ × V)} {kvs : List (κ × PyData)}, KvR (T.re h) F ws kvs → KvR T F ws kvs
  | _, _, .nil => .nil
  | _, _, .cons d r => .cons d (KvR.er r)
theorem VlR.re {h : List (Addr × List V)} : ∀ {v : Vl} {x : V}, VlR T ρ F v x → VlR (T.re h) ρ F v x
  | .d _, _, q => q
  | .ref _, _, q => q
  | .scr _, _, q => q
  | .kc _, _, q => q
theorem VlR.er {h : List (Addr × List V)} : ∀ {v : Vl} {x : V}, VlR (T.re h) ρ F v x → VlR T ρ F v x
  | .d _, _, q => q
  | .ref _, _, q => q
  | .scr _, _, q => q
  | .kc _, _, q => q
theorem EnvR.re {h : List (Addr × List V)} {S : List Nat} {env : Env} {σ : L2.St} (q : EnvR T ρ F S env σ) : EnvR (T.re h) ρ F S env σ :=
  ⟨q.len, fun i v hi e => let ⟨x, h1, h2⟩ := q.get i v hi e; ⟨x, h1, VlR.re h2⟩⟩
theorem EnvR.er {h : List (Addr × List V)} {S : List Nat} {env : Env} {σ : L2.St} (q : EnvR (T.re h) ρ F S env σ) : EnvR T ρ F S env σ :=
  ⟨q.len, fun i v hi e => let ⟨x, h1, h2⟩ := q.get i v hi e; ⟨x, h1, VlR.er h2⟩⟩
theorem ObR.re {h : List (Addr × List V)} {a : Addr} : ∀ {o : Ob}, ObR T F H a o → ObR (T.re h) F H a o
  | .lst _, q => q
  | .dK _, ⟨ws, h, r⟩ => ⟨ws, h, KvR.re r⟩
  | .dT _, ⟨ws, h, r⟩ => ⟨ws, h, KvR.re r⟩
  | .obj _ _, ⟨dx, vs, h, r⟩ => ⟨dx, vs, h, FsR.re r⟩
theorem ObR.er {h : List (Addr × List V)} {a : Addr} : ∀ {o : Ob}, ObR (T.re h) F H a o → ObR T F H a o
  | .lst _, q => q
  | .dK _, ⟨ws, h, r⟩ => ⟨ws, h, KvR.er r⟩
  | .dT _, ⟨ws, h, r⟩ => ⟨ws, h, KvR.er r⟩
  | .obj _ _, ⟨dx, vs, h, r⟩ => ⟨dx, vs, h, FsR.er r⟩
theorem Rl.hide {D : Addr} {xs : List V} (r : Rl T ρ F H st) (h1 : H D = some (.lst xs)) (h2 : F D = none) (h3 : D ∉ ρ) : Rl (T.re ((D, xs) :: T.hid)) ρ F H st :=
  ⟨r.sub, r.len, r.nd, r.trk, fun n o e => let ⟨a, q1, q2, q3⟩ := r.obj n o e; ⟨a, q1, q2, q3.re⟩, fun p hp => by
    rcases List.mem_cons.mp hp with rfl | hp
    · exact ⟨h1, h2, h3⟩
    · exact r.hid p hp, r.tb⟩
theorem Rl.show {D : Addr} {xs : List V} (r : Rl (T.re ((D, xs) :: T.hid)) ρ F H st) : Rl T ρ F H st ∧ H D = some (.lst xs) ∧ F D = none ∧ D ∉ ρ :=
  ⟨⟨r.sub, r.len, r.nd, r.trk, fun n o e => let ⟨a, q1, q2, q3⟩ := r.obj n o e; ⟨a, q1, q2, q3.er⟩, fun p hp => r.hid p (List.mem_cons_of_mem _ hp), r.tb⟩, r.hid (D, xs) List.mem_cons_self⟩
/-- what is no one's is changed -/
theorem Rl.out {D : Addr} {xs ys : List V} (r : Rl T ρ F H st) (h1 : H D = some (.lst xs)) (h2 : F D = none) (h3 : D ∉ ρ) (h4 : ∀ q ∈ T.hid, q.1 ≠ D) : Rl T ρ F (upd H D (.lst ys)) st :=
  ⟨r.sub.upd h2, r.len, r.nd, fun b hb => by
    have hne : b ≠ D := fun z => h3 (z ▸ hb)
    obtain ⟨u, e, z⟩ := r.trk b hb
    exact ⟨u, by rw [upd_ne hne]; exact e, z⟩, fun n o e => by
    obtain ⟨a, q1, q2, q3⟩ := r.obj n o e
    refine ⟨a, q1, q2, q3.keep (fun b u hb hc => ?_) (Sub.refl F)⟩
    have hne : b ≠ D := by
      rcases hc with rfl | rfl
      · exact fun z => h3 (z ▸ List.mem_of_getElem? q1)
      · exact fun z => by rw [z, h1] at hb; cases hb
    rw [upd_ne hne]; exact hb, fun p hp => by
    obtain ⟨q1, q2, q3⟩ := r.hid p hp
    exact ⟨by rw [upd_ne (h4 p hp)]; exact q1, q2, q3⟩, r.tb.chg (.inr ⟨_, h1, fun _ z => nomatch z⟩)⟩
theorem OkR.re {W : XW} {α : Type} {r : R α} {k : α → Store → List Addr → Hp → Hp → Prop} {D : Addr} {xs : List V} (h : OkR T W ρ F r k) :
    OkR (T.re ((D, xs) :: T.hid)) W ρ F r k := by
  cases r with
  | ok a st' => exact fun ρ2 F2 H2 p2 s2 r2 => h ρ2 F2 H2 p2 s2 r2.show.1
  | exc c q st' => exact fun ρ2 F2 H2 p2 s2 r2 => h ρ2 F2 H2 p2 s2 r2.show.1
  | no => exact h
end
section
variable {T : Tab} {W : XW} {C : Ck} {cf nf : CallF} {X : Cx}
def tEh (T : Tab) (cf nf : CallF) (x : Ex) : TE := fun σ H Q => ∃ h, tE (T.re h) NW cf nf x σ H Q
def tTh (T : Tab) (cf nf : CallF) (x : Ex) : TT := fun σ H Q => ∃ h, tT (T.re h) NW cf nf x σ H Q
def tIfs (T : Tab) (cf nf : CallF) : List Ex → TT
  | [] => tYes
  | [c] => tTh T cf nf c
  | _ => fun _ _ _ => False
/-- a turn of a comprehension -/
def turnB (cf nf : CallF) (elt : Ex) (tg : Tg) (ifs : List Ex) (env : Env) (x : PyData) (s : Store) : R (Option PyData) := match setT x env tg with
  | some env' => (evEs cf nf ifs env' s).bind fun cs s1 => match cs with
    | [] => (evE cf nf elt env' s1).bind fun y s2 => match frz s2 y.1 with
      | some (z, s3) => .ok (some z) s3
      | none => .no
    | [c] => match truV s1 c with
      | some true => (evE cf nf elt env' s1).bind fun y s2 => match frz s2 y.1 with
        | some (z, s3) => .ok (some z) s3
        | none => .no
      | some false => .ok none s1
      | none => .no
    | _ => .no
  | none => .no
theorem comp_eq (elt : Ex) (tg : Tg) (k : Ik) (es ifs : List Ex) (env : Env) (st : Store) : evE cf nf (.comp elt tg k es ifs) env st = (evEs cf nf es env st).bind fun vs st1 => match walkV k vs st1 with
    | some items => if items.length ≤ limZ then ((clp (turnB cf nf elt tg ifs env) items st1).bind fun ys st2 => .ok (.d (.list ys), true) st2).calm else .no
    | none => .no := by unfold evE; rfl
theorem OkR.calm {W : XW} {α : Type} {ρ : List Addr} {F : Hp} {r : R α} {k : α → Store → List Addr → Hp → Hp → Prop} (h : OkR T W ρ F r.calm k) : OkR T NW ρ F r k := by
  cases r with
  | ok a st' => exact h
  | exc c q st' => exact h.elim
  | no => exact h
/-- the new list grows -/
theorem lc_put {ρ : List Addr} {F H : Hp} {st : Store} {env env' : Env} {σ σ2 : L2.St} {elt : Ex} {D : Addr} {acc : List V} {accd : List PyData} {γ : Type} {G : Option PyData → Store → R γ} {k : γ → Store → List Addr → Hp → Hp → Prop} {P : Hp → Prop}
    (r : Rl T ρ F H st) (en : EnvR T ρ F [] env σ) (en2 : EnvR T ρ F [] env' σ2) (h1 : H D = some (.lst acc)) (h2 : F D = none) (h3 : D ∉ ρ) (h4 : ∀ q ∈ T.hid, q.1 ≠ D) (hd : DqAll T.kc F acc accd) (hz : acc.length < sizeLine)
    (h : OkR T NW ρ F (((evE cf nf elt env' st).bind fun y s2 => match frz s2 y.1 with
      | some (z, s3) => .ok (some z) s3
      | none => .no).bind G) k)
    (hP : ∀ ρ1 F1 H1 st1 acc1 z, ρ <+: ρ1 → Sub F F1 → Rl T ρ1 F1 H1 st1 → H1 D = some (.lst acc1) → F1 D = none → D ∉ ρ1 → DqAll T.kc F1 acc1 (accd ++ [z]) → OkR T NW ρ1 F1 (G (some z) st1) k → P H1) :
    tEh T cf nf elt σ2 H (fun y H4 => ∃ acc, H4 D = some (.lst acc) ∧ acc.length < sizeLine ∧ P (upd H4 D (.lst (acc ++ [y])))) := by
  rw [R.bind_assoc] at h
  refine ⟨(D, acc) :: T.hid, ρ, F, env', st, r.hide h1 h2 h3, en2.re, ((OkR.bind h).re).imp fun v st1 ρ1 F1 H1 p1 s1 r1 h x fx => ?_⟩
  obtain ⟨F2, s2, r2, v2⟩ := fx.frz r1
  cases e : frz st1 v.1 with
  | none => rw [e] at h; exact h.elim
  | some p =>
    obtain ⟨z, st2⟩ := p
    rw [e] at h
    obtain ⟨F3, s3, r3, d3⟩ := v2.frzd r2 e
    obtain ⟨q0, q1, q2, q3⟩ := r3.show
    exact ⟨acc, q1, hz, hP ρ1 F3 _ st2 (acc ++ [x]) z p1 (s1.trans (s2.trans s3)) (q0.out q1 q2 q3 h4) upd_same q2 q3 (DqAll.append (DqAll.sub (s1.trans (s2.trans s3)) hd) (.cons d3 .nil)) (OkR.mono h (List.prefix_refl _) (s2.trans s3))⟩
/-- what stands at turn i -/
def IvC (T : Tab) (cf nf : CallF) (elt : Ex) (tg : Tg) (ifs : List Ex) (env : Env) (σ : L2.St) (F0 : Hp) (ds : List PyData) (D : Addr) (Q : VK) (i : Nat) (H : Hp) : Prop := i ≤ ds.length ∧ ∃ ρ F st acc accd, Sub F0 F ∧ Rl T ρ F H st ∧ EnvR T ρ F [] env σ ∧ H D = some (.lst acc) ∧ F D = none ∧ D ∉ ρ ∧ (∀ q ∈ T.hid, q.1 ≠ D) ∧ DqAll T.kc F acc accd ∧ accd.length ≤ i ∧
  OkP T NW ρ F ((clp (turnB cf nf elt tg ifs env) (ds.drop i) st).bind fun ys st2 => .ok (.d (.list (accd ++ ys)), true) st2) Q
theorem clp_cons {f : PyData → Store → R (Option PyData)} {x : PyData} {xs : List PyData} {st : Store} {β : Type} {g : List PyData → Store → R β} : (clp f (x :: xs) st).bind g = (f x st).bind fun y st1 => (clp f xs st1).bind fun ys st2 => g (match y with | some z => z :: ys | none => ys) st2 := by
  show ((f x st).bind fun y st1 => (clp f xs st1).bind fun ys st2 => R.ok (match y with | some z => z :: ys | none => ys) st2).bind g = _
  rw [R.bind_assoc]
  congr
  funext y st1
  rw [R.bind_assoc]
  rfl
theorem wipe_wipe {σ : L2.St} : ∀ {vs ws : List Nat}, (∀ i ∈ vs, i ∈ ws) → wipe (wipe σ vs) ws = wipe σ ws
  | [], _, _ => rfl
  | v :: vs, ws, h => by
    show wipe ((wipe σ vs).set v none) ws = _
    rw [wipe_set (h v List.mem_cons_self)]
    exact wipe_wipe fun i hi => h i (List.mem_cons_of_mem _ hi)
theorem ifT (P Q : Prop) (h : P) : if (true : Bool) = true then P else Q := by rw [if_pos rfl]; exact h
theorem yl_old {tg : Tg} {F : Hp} {ds : List PyData} {D : Addr} {xs : List V} {J : It} {i : Nat} {ρ : List Addr} {G H H' : Hp} {st : Store} {x : V} (s : Sub F G) (r : Rl T ρ G H st) (hi : i < ds.length) (h1 : H D = some (.lst xs)) (h2 : G D = none) (h3 : D ∉ ρ) (hy : J.yld i H x H') (y' : Yl (T.re ((D, xs) :: T.hid)) tg F J ds) :
    ∃ d, ds[i]? = some d ∧ Rl T ρ G H' st ∧ ItT T G H' tg x d ∧ H' D = some (.lst xs) := by
  obtain ⟨d, q1, q2, q3⟩ := (y' i ρ G H st s (r.hide h1 h2 h3)).2.2 x H' hi hy
  obtain ⟨z1, z2, _⟩ := q2.show
  refine ⟨d, q1, z1, ?_, z2⟩
  cases tg with
  | nm _ => exact q3
  | tu _ => exact q3
theorem lc_imp {own : List (Str × Nat)} {x : Ex} {tg : Tg} {k : Ik} {es cs : List Ex} (o1 : ∀ p ∈ own, p.2 ∈ slotsT tg) (o2 : ∀ j ∈ slotsT tg, j ∈ own.map (·.2)) (hcs : cs = [] ∨ ∃ c, cs = [c]) {σ : L2.St} {H : Hp} {Q : VK} (h : tE T W cf nf (.comp x tg k es cs) σ H Q) :
    tLc (tI T W cf nf tg k es) (gTg T tg) (tIfs T cf nf cs) (tEh T cf nf x) (own.map (·.2)) σ H Q := by
    obtain ⟨ρ, F, env, st, r, en, h⟩ := h
    rw [comp_eq] at h
    refine ⟨ρ, F, env, st, r, en, (OkR.bind h).imp fun vs st1 ρ1 F1 H1 p1 s1 r1 h => ?_⟩
    cases e : walkV k vs st1 with
    | none => rw [e] at h; exact h.elim
    | some ds =>
      rw [e] at h
      replace h : OkP T W ρ1 F1 (if ds.length ≤ limZ then R.calm ((clp (turnB cf nf x tg cs env) ds st1).bind fun ys st2 => .ok (.d (.list ys), true) st2) else .no) Q := h
      split at h
      rotate_left
      · exact h.elim
      rename_i hz
      replace h : OkP T NW ρ1 F1 ((clp (turnB cf nf x tg cs env) ds st1).bind fun ys st2 => .ok (.d (.list ys), true) st2) Q := OkR.calm h
      refine ⟨ds, rfl, fun J hJ D hD => ⟨fun i m H => m = ds.length - i ∧ IvC T cf nf x tg cs env σ F1 ds D Q i H, ⟨ds.length, by simp, Nat.zero_le _, ρ1, F1, st1, [], [], Sub.refl F1, r1.new hD, en.mono p1 s1, upd_same, r1.noneF hD, r1.notin hD, r1.nohid hD, .nil, Nat.zero_le _, h⟩, ?_⟩⟩
      rintro i m H2 ⟨rfl, hi, ρ2, F2, st2, acc, accd, s2, r2, en2, h1, h2, h3, h4, hd, hl, hk⟩
      obtain ⟨y1, y2, y3⟩ := hJ T.hid i ρ2 F2 H2 st2 s2 r2
      by_cases hlt : i < ds.length
      · refine .inr ⟨y1 hlt, IvC T cf nf x tg cs env σ F1 ds D Q (i + 1), fun H' w => ⟨ds.length - (i + 1), by omega, rfl, w⟩, fun v H3 hy => ?_⟩
        obtain ⟨d, e1, r3, it, g1⟩ := yl_old s2 r2 hlt h1 h2 h3 hy (hJ _)
        have e2 : ds.drop i = d :: ds.drop (i + 1) := by
          rw [List.drop_eq_getElem_cons hlt]
          have := List.getElem?_eq_some_iff.mp e1
          rw [this.2]
        rw [e2, clp_cons] at hk
        obtain ⟨G, hG1, hG2, hk⟩ : ∃ G : Option PyData → Store → R (Vl × Bool), (∀ z st5, G (some z) st5 = (clp (turnB cf nf x tg cs env) (ds.drop (i + 1)) st5).bind fun ys st2 => R.ok (Vl.d (.list ((accd ++ [z]) ++ ys)), true) st2) ∧
            (∀ st5, G none st5 = (clp (turnB cf nf x tg cs env) (ds.drop (i + 1)) st5).bind fun ys st2 => R.ok (Vl.d (.list (accd ++ ys)), true) st2) ∧ OkP T NW ρ2 F2 ((turnB cf nf x tg cs env d st2).bind G) Q := ⟨_, fun z st5 => by simp, fun st5 => rfl, hk⟩
        unfold turnB at hk
        cases e3 : setT d env tg with
        | none => simp only [e3] at hk; exact hk.elim
        | some env' =>
          simp only [e3] at hk
          have enB : EnvR T ρ2 F2 (own.map (·.2)) env (wipe σ (own.map (·.2))) := ⟨by rw [wipe_length]; exact en2.len, fun j w hj ej => by
            rw [wipe_out hj]; exact en2.get j w (by simp) ej⟩
          refine ⟨ρ2, F2, own.map (·.2), env, d, env', r3.sub, enB, it, e3, fun σ2 q1 q2 => ?_⟩
          have en3 : EnvR T ρ2 F2 [] env' σ2 := q1 [] fun j _ => by
            by_cases hj : j ∈ own.map (·.2)
            · obtain ⟨p, hp, rfl⟩ := List.mem_map.mp hj
              exact .inr (o1 p hp)
            · exact .inl hj
          refine ⟨(q2 _ o2).trans (wipe_wipe fun _ h => h), ?_⟩
          have az : acc.length < sizeLine := by
            have : acc.length = accd.length := hd.length
            rw [← limZ_eq]; omega
          -- the element
          have put : ∀ {ρ4 : List Addr} {F4 H4 : Hp} {st4 : Store} {k4}, ρ2 <+: ρ4 → Sub F2 F4 → Rl T ρ4 F4 H4 st4 → H4 D = some (.lst acc) → F4 D = none → D ∉ ρ4 →
              OkR T NW ρ4 F4 (((evE cf nf x env' st4).bind fun y s2 => match frz s2 y.1 with
                | some (z, s3) => .ok (some z) s3
                | none => .no).bind k4) (fun v _ ρ' F' H' => ∀ x, FrR T ρ' F' H' v x → Q x H') → (∀ z st5, k4 (some z) st5 = (clp (turnB cf nf x tg cs env) (ds.drop (i + 1)) st5).bind fun ys st2 => R.ok (Vl.d (.list ((accd ++ [z]) ++ ys)), true) st2) →
              tEh T cf nf x σ2 H4 (fun y H5 => ∃ acc, H5 D = some (.lst acc) ∧ acc.length < sizeLine ∧ IvC T cf nf x tg cs env σ F1 ds D Q (i + 1) (upd H5 D (.lst (acc ++ [y])))) := by
            intro ρ4 F4 H4 st4 k4 p4 s4 r4 g1 g2 g3 hk4 ek
            refine lc_put r4 (en2.mono p4 s4) (en3.mono p4 s4) g1 g2 g3 h4 (DqAll.sub s4 hd) az hk4 fun ρ5 F5 H5 st5 acc5 z p5 s5 r5 g4 g5 g6 d5 h5 => ?_
            refine ⟨hlt, ρ5, F5, st5, acc5, accd ++ [z], s2.trans (s4.trans s5), r5, (en2.mono p4 s4).mono p5 s5, g4, g5, g6, h4, d5, by rw [List.length_append]; simp; omega, ?_⟩
            rw [ek] at h5
            exact h5
          rcases hcs with rfl | ⟨c, rfl⟩
          · dsimp only [tIfs, tYes]
            rw [if_pos rfl]
            exact put (List.prefix_refl _) (Sub.refl F2) r3 g1 h2 h3 hk hG1
          · refine ⟨(D, acc) :: T.hid, ρ2, F2, env', st2, r3.hide g1 h2 h3, en3.re, ?_⟩
            rw [R.bind_assoc] at hk
            unfold evEs at hk
            rw [R.bind_assoc] at hk
            refine ((OkR.bind hk).re).imp fun v4 st4 ρ4 F4 H4 p4 s4 r4 hk4 => ?_
            obtain ⟨z0, z1, z2, z3⟩ := r4.show
            replace hk4 : OkR T NW ρ4 F4 ((match truV st4 v4.1 with
              | some true => (evE cf nf x env' st4).bind fun y s2 => match frz s2 y.1 with
                | some (z, s3) => .ok (some z) s3
                | none => .no
              | some false => .ok none st4
              | none => .no).bind G) _ := hk4
            split at hk4
            · rename_i e5
              refine ⟨true, e5, ?_⟩
              dsimp only
              rw [if_pos rfl]
              exact put p4 s4 z0 z1 z2 z3 hk4 hG1
            · rename_i e5
              refine ⟨false, e5, ?_⟩
              dsimp only
              rw [if_neg (by decide)]
              exact ⟨hlt, ρ4, F4, st4, acc, accd, s2.trans s4, z0, en2.mono p4 s4, z1, z2, z3, h4, DqAll.sub s4 hd, by omega, by rw [← hG2]; exact hk4⟩
            · exact hk4.elim
      · have ei : i = ds.length := by omega
        subst ei
        refine .inl ⟨y2 rfl, ?_⟩
        rw [List.drop_length] at hk
        replace hk : OkP T NW ρ2 F2 (.ok (.d (.list (accd ++ [])), true) st2) Q := hk
        rw [List.append_nil] at hk
        exact hk.here r2 (.inr ⟨rfl, accd, D, acc, rfl, rfl, h1, h2, h3, hd, h4⟩)
theorem e_comp {elt tge iter : Expr} {ifs : List Expr} {scope : Scope} {own : List (Str × Nat)} {pos : Pos} {x : Ex} {tg : Tg} {k : Ik} {es cs : List Ex} (am : Amb T C W cf nf X) (hi : PI X tge iter (tI T W cf nf tg k es)) (ok : BlkOk X.N X.env.scope scope own)
    (hg : ∀ (s : Shared) (H : Hp) (B : Addr) (cl : List (Str × Addr)) (fp : List Addr), PG (X.blk s H scope (compEnvC scope cl B X.env) fp) tge (gTg T tg))
    (ht : ∀ (s : Shared) (H : Hp) (B : Addr) (cl : List (Str × Addr)) (fp : List Addr), PTs (X.blk s H scope (compEnvC scope cl B X.env) fp) ifs (tIfs T cf nf cs))
    (he : ∀ (s : Shared) (H : Hp) (B : Addr) (cl : List (Str × Addr)) (fp : List Addr), PE (X.blk s H scope (compEnvC scope cl B X.env) fp) elt (tEh T cf nf x))
    (hs : ∀ v, foldedSetIterable iter X.env v = pure v) (o1 : ∀ p ∈ own, p.2 ∈ slotsT tg) (o2 : ∀ j ∈ slotsT tg, j ∈ own.map (·.2)) (hcs : cs = [] ∨ ∃ c, cs = [c]) :
    PE X (.ListComp elt [⟨tge, iter, ifs, 0⟩] scope pos) (tE T W cf nf (.comp x tg k es cs)) :=
  (pe_lc am.calm am.nd hi ok hg ht he hs).imp fun σ H Q h => lc_imp o1 o2 hcs h
theorem _root_.L2.PS.imp {X : Cx} {s : Stmt} {t t' : TS} (h : PS X s t) (i : ∀ D σ H, t' D σ H → t D σ H) : PS X s t' := ⟨fun pins st σ H D I q => h.run pins st σ H D I (i D σ H q)⟩
theorem _root_.L2.PSs.imp {X : Cx} {s : List Stmt} {t t' : TS} (h : PSs X s t) (i : ∀ D σ H, t' D σ H → t D σ H) : PSs X s t' := ⟨fun pins st σ H D I q => h.run pins st σ H D I (i D σ H q)⟩
theorem s_comp {elt tge iter : Expr} {ifs : List Expr} {scope : Scope} {own : List (Str × Nat)} {pos : Pos} {x : Ex} {tg : Tg} {k : Ik} {es cs : List Ex} (am : Amb T C W cf nf X) (hi : PI X tge iter (tI T W cf nf tg k es)) (ok : BlkOk X.N X.env.scope scope own)
    (hg : ∀ (s : Shared) (H : Hp) (B : Addr) (cl : List (Str × Addr)) (fp : List Addr), PG (X.blk s H scope (compEnvC scope cl B X.env) fp) tge (gTg T tg))
    (ht : ∀ (s : Shared) (H : Hp) (B : Addr) (cl : List (Str × Addr)) (fp : List Addr), PTs (X.blk s H scope (compEnvC scope cl B X.env) fp) ifs (tIfs T cf nf cs))
    (he : ∀ (s : Shared) (H : Hp) (B : Addr) (cl : List (Str × Addr)) (fp : List Addr), PE (X.blk s H scope (compEnvC scope cl B X.env) fp) elt (tEh T cf nf x))
    (hs : ∀ v, foldedSetIterable iter X.env v = pure v) (o1 : ∀ p ∈ own, p.2 ∈ slotsT tg) (o2 : ∀ j ∈ slotsT tg, j ∈ own.map (·.2)) (hcs : cs = [] ∨ ∃ c, cs = [c]) :
    ∀ {i : Nat} {y : Str} {py spos : Pos}, X.N[i]? = some y → X.env.scope.names.lookup y = some .local → swapsWith (.ListComp elt [⟨tge, iter, ifs, 0⟩] scope pos) (some (.Name y py)) spos.line X.env = pure true →
    PS X (.Assign [.Name y py] (.ListComp elt [⟨tge, iter, ifs, 0⟩] scope pos) spos) (tAsg (tE T W cf nf (.comp x tg k es cs)) (gName i)) := fun hy hyl hsw =>
  (ps_setLc am.calm am.nd hy hyl hsw hi ok hg ht he hs).imp fun D σ H h => lc_imp o1 o2 hcs h
end
end Ev
end

section
set_option Elab.async false
set_option linter.all false
set_option maxRecDepth 100000
set_option maxHeartbeats 4000000
/-! EvX0: the look at a def that looks at the errors. -/
namespace Ev
open PySem PySem.Spec PyProof.Rows L2
mutual
def okHx (C : Ck) (sc : Scope) (ok : Str → Expr → Bool) : Hx → Expr → Bool
  | .con x, e => (match conD e with
    | some y => eqData y x
    | none => false)
  | .fld n, e => ok n e
  | .rep n, e => (match asCall e with
    | some (g, [x], _) => decide (asName g = some ("repr" : Str)) && gloB sc "repr" && decide (("repr" : Str) ∈ C.free) && !isStar x && ok n x
    | _ => false)
  | .tup l, e => (match asTup e with
    | some xs => okHxs C sc ok l xs
    | none => false)
  | .add a b, e => (match asBin e with
    | some (x, o, y) => decide (o = opS .add) && okHx C sc ok a x && okHx C sc ok b y
    | none => false)
  termination_by structural h => h
def okHxs (C : Ck) (sc : Scope) (ok : Str → Expr → Bool) : List Hx → List Expr → Bool
  | [], [] => true
  | a :: r, x :: xs => !isStar x && okHx C sc ok a x && okHxs C sc ok r xs
  | _, _ => false
  termination_by structural l => l
end
def okFldX (C : Ck) (c : Nat) (en n : Str) (e : Expr) : Bool := match asAttr e with
  | some (x, m, _) => m == n && decide (asName x = some en) && decide (C.xs[c]? = some (some n))
  | none => false
def okHd (C : Ck) (N : List Str) (sc : Scope) (h : Hd) : ExceptHandler → Bool
  | .ExceptHandler (some (.Name x _)) nm [.Return (some e) _] _ => gloB sc x && isGE C x (.xc h.cls) && (match h.nm, nm with
    | false, none => okHx C sc (fun _ _ => false) h.e e
    | true, some n => decide (N[1]? = some n) && decide (sc.names.lookup n = some .local) && !(n == ("__debug__" : Str)) && !(n == ("__classdict__" : Str)) && okHx C sc (okFldX C h.cls n) h.e e
    | _, _ => false)
  | _ => false
def okHds (C : Ck) (N : List Str) (sc : Scope) : List Hd → List ExceptHandler → Bool
  | [], [] => true
  | h :: r, e :: q => okHd C N sc h e && okHds C N sc r q
  | _, _ => false
/-- a() -/
def isAct (a : Str) : Expr → Bool
  | .Call (.Name x _) [] [] _ => x == a
  | _ => false
def okBody (C : Ck) (N : List Str) (sc : Scope) (a : Str) (m : Met) : List Stmt → Bool
  | [.Try [.Expr ca _] (h0 :: hs) [] [] _, .Return (some e) _] => isAct a ca && okHds C N sc m.hs (h0 :: hs) && (match m.k with
    | .run h => okHx C sc (fun _ _ => false) h e
    | _ => false)
  | [.Try [.Return (some (.Tuple [c, ca] _ _)) _] (h0 :: hs) [] [] _] => isAct a ca && okHds C N sc m.hs (h0 :: hs) && (match m.k with
    | .told w => (match conD c with
      | some (.str z) => z == w
      | _ => false)
    | _ => false)
  | [.Try [.Return (some ca) _] (h0 :: hs) [] [] _] => isAct a ca && okHds C N sc m.hs (h0 :: hs) && (match m.k with
    | .ret => true
    | _ => false)
  | _ => false
def okMet (C : Ck) (m : Met) (fi : FI) : Bool := match fi.ps with
  | [a] => decide (fi.N[0]? = some a) && visB fi.sc a && !(a == ("__debug__" : Str)) && !(a == ("__classdict__" : Str)) && okBody C fi.N fi.sc a m fi.body
  | _ => false
/-- no parameter -/
def noPar : Arguments → Bool
  | ⟨[], [], none, [], [], none, []⟩ => true
  | _ => false
/-- one parameter d, its default de -/
abbrev parD (d : Str) (ap : Pos) (de : Expr) : Arguments := ⟨[], [⟨d, none, ap⟩], none, [], [], none, [de]⟩
def parDef : Arguments → Option (Str × Pos × Expr)
  | ⟨[], [⟨d, none, ap⟩], none, [], [], none, [de]⟩ => (match conD de with
    | some (.int _) => if d = "one" ∨ d = "two" then some (d, ap, de) else none
    | _ => none)
  | _ => none
theorem parDef_eq {pa : Arguments} {d : Str} {ap : Pos} {de : Expr} (h : parDef pa = some (d, ap, de)) : pa = parD d ap de ∧ (∃ i, conD de = some (.int i)) ∧ (d = "one" ∨ d = "two") := by
  unfold parDef at h
  split at h
  · split at h
    · rename_i i hi
      split at h
      · rename_i hd
        cases h
        exact ⟨rfl, ⟨i, hi⟩, hd⟩
      · cases h
    · cases h
  · cases h
/-- the lambda's names: its parameter d, captured ones, globals -/
structure LamD (sc scope : Scope) (d : Str) : Prop where
  kind : scope.kind = .function
  co : scope.isCoroutine = false
  gen : scope.isGenerator = false
  own : ∀ y ∈ scope.names, y.2 ≠ .cell ∧ (y.2 = .local → y.1 = d)
  dl : scope.names.lookup d = some .local
  free : ∀ y ∈ scope.names, y.2 = .free → sc.names.lookup y.1 = some .cell ∨ sc.names.lookup y.1 = some .free
def lamDB (sc scope : Scope) (d : Str) : Bool :=
  decide (scope.kind = .function) && !scope.isCoroutine && !scope.isGenerator && decide (scope.names.lookup d = some .local) && scope.names.all fun y => !decide (y.2 = .cell) && (!decide (y.2 = .local) || decide (y.1 = d)) && (!decide (y.2 = .free) || decide (sc.names.lookup y.1 = some .cell) || decide (sc.names.lookup y.1 = some .free))
theorem lamD_by {sc scope : Scope} {d : Str} (h : lamDB sc scope d = true) : LamD sc scope d := by
  unfold lamDB at h
  simp only [Bool.and_eq_true, Bool.or_eq_true, Bool.not_eq_true', decide_eq_true_eq, decide_eq_false_iff_not, List.all_eq_true] at h
  obtain ⟨⟨⟨⟨k1, k2⟩, k3⟩, k4⟩, k5⟩ := h
  refine ⟨k1, k2, k3, fun z hz => ⟨(k5 z hz).1.1, fun e => ?_⟩, k4, fun z hz e => ?_⟩
  · rcases (k5 z hz).1.2 with q | q
    · exact absurd e q
    · exact q
  · rcases (k5 z hz).2 with (q | q) | q
    · exact absurd e q
    · exact .inl q
    · exact .inr q
def parOk (N : List Str) (sc s2 : Scope) (pa : Arguments) : Bool := match parDef pa with
  | some (d, _, _) => lamDB sc s2 d && decide (d ∉ N)
  | none => false
def asLam : Expr → Option (Arguments × Expr × Scope)
  | .Lambda pa b s _ => some (pa, b, s)
  | _ => none
theorem asLam_eq {e b : Expr} {pa : Arguments} {s : Scope} (h : asLam e = some (pa, b, s)) : ∃ p, e = .Lambda pa b s p := by
  unfold asLam at h
  split at h
  · cases h; exact ⟨_, rfl⟩
  · cases h
end Ev
end

section
set_option Elab.async false
set_option linter.all false
set_option maxRecDepth 100000
set_option maxHeartbeats 4000000
/-! Ev14: calls, methods, variables, isinstance; the look at an expression and what it gives. -/
namespace Ev
open PySem PySem.Spec PyProof.Rows L2
def asLc : Expr → Option (Expr × Expr × Expr × List Expr × Scope)
  | .ListComp x [⟨y, it, ifs, 0⟩] s _ => some (x, y, it, ifs, s)
  | _ => none
theorem asLc_eq {e x y it : Expr} {ifs : List Expr} {s : Scope} (h : asLc e = some (x, y, it, ifs, s)) : ∃ p, e = .ListComp x [⟨y, it, ifs, 0⟩] s p := by
  unfold asLc at h
  split at h
  · cases h; exact ⟨_, rfl⟩
  · cases h
def ownOf (N : List Str) (s : Scope) : List (Str × Nat) := s.names.filterMap fun y => match y.2 with
  | .local => (N.idxOf? y.1).map fun i => (y.1, i)
  | .cell => (N.idxOf? y.1).map fun i => (y.1, i)
  | _ => none
/-- what is walked: the iterator's arguments -/
def iterArgs (k : Ik) (it : Expr) : List Expr := match k with
  | .over => [it]
  | _ => match asCall it with
    | some (_, xs, _) => xs
    | none => []
def isTu : Tg → Expr → Bool
  | .tu _, .Tuple .. => true
  | _, _ => false
def okI (C : Ck) (sc : Scope) (k : Ik) (tg : Tg) (y : Expr) (n : Nat) (it : Expr) : Bool := match k with
  | .over => !isSetE it && n == 1
  | .rng => (match asCall it with
    | some (g, xs, _) => decide (asName g = some ("range" : Str)) && gloB sc "range" && decide (("range" : Str) ∈ C.free) && (n == 1 || n == 2)
    | none => false)
  | .enm => (match asCall it with
    | some (g, xs, _) => decide (asName g = some ("enumerate" : Str)) && gloB sc "enumerate" && decide (("enumerate" : Str) ∈ C.free) && n == 1 && isTu tg y
    | none => false)
  | .zip => (match asCall it with
    | some (g, xs, _) => decide (asName g = some ("zip" : Str)) && gloB sc "zip" && decide (("zip" : Str) ∈ C.free) && n == 2 && isTu tg y
    | none => false)
def fldOk (C : Ck) (n : Str) (cs : List (Nat × Nat)) : Bool := cs.all fun p => match C.slots[p.1]? with
  | some s => decide (s[p.2]? = some n)
  | none => false
def isiOk (C : Ck) (sc : Scope) (ts : List Ty) (t : Expr) : Bool := match ts with
  | [ty] => (match asName t with
    | some m => gloB sc m && (match ty with
      | .own c => isGE C m (.cls c) && decide (c < C.slots.length)
      | _ => decide (tyN ty = some m) && decide (m ∈ C.free))
    | none => false)
  | _ => false
def asStar : Expr → Option Expr
  | .Starred e _ => some e
  | _ => none
theorem asStar_eq {e x : Expr} (h : asStar e = some x) : ∃ p, e = .Starred x p := by
  unfold asStar at h
  split at h
  · cases h; exact ⟨_, rfl⟩
  · cases h
def asJs : Expr → Option (List Expr)
  | .JoinedStr vs _ => some vs
  | _ => none
theorem asJs_eq {e : Expr} {vs : List Expr} (h : asJs e = some vs) : ∃ p, e = .JoinedStr vs p := by
  unfold asJs at h
  split at h
  · cases h; exact ⟨_, rfl⟩
  · cases h
def asFmt : Expr → Option Expr
  | .FormattedValue e c none _ => if c = -1 then some e else none
  | _ => none
theorem asFmt_eq {e x : Expr} (h : asFmt e = some x) : ∃ p, e = .FormattedValue x (-1) none p := by
  unfold asFmt at h
  split at h
  · split at h
    · rename_i hc
      cases h; rw [hc]; exact ⟨_, rfl⟩
    · cases h
  · cases h
def isConS : Ex → Bool
  | .con (.str _) => true
  | _ => false
/-- f(x, k=e) -/
def asKey : Expr → Option (Expr × Expr × Str × Expr)
  | .Call g [x] [⟨some n, h, _⟩] _ => some (g, x, n, h)
  | _ => none
theorem asKey_eq {e g x h : Expr} {n : Str} (q : asKey e = some (g, x, n, h)) : ∃ p p2, e = .Call g [x] [⟨some n, h, p2⟩] p := by
  unfold asKey at q
  split at q
  · cases q; exact ⟨_, _, rfl⟩
  · cases q
def isNoneE (e : Expr) : Bool := match conD e with
  | some .none => true
  | _ => false
theorem isNoneE_eq {e : Expr} (h : isNoneE e = true) : conD e = some .none := by
  unfold isNoneE at h
  split at h
  · assumption
  · cases h
def asDict : Expr → Option (List (Option Expr) × List Expr)
  | .Dict ks vs _ => some (ks, vs)
  | _ => none
theorem asDict_eq {e : Expr} {ks : List (Option Expr)} {vs : List Expr} (q : asDict e = some (ks, vs)) : ∃ p, e = .Dict ks vs p := by
  unfold asDict at q
  split at q
  · cases q; exact ⟨_, rfl⟩
  · cases q
/-- two items or more, one of them starred -/
def starLast : List Expr → Bool
  | x :: y :: r => (x :: y :: r).any isStar
  | _ => false
def msOk (C : Ck) (k : Pk) (cs : List (Nat × Nat)) : Bool := cs.all fun p => decide ((k, p.1, p.2) ∈ C.ms)
def vB (N : List Str) (sc : Scope) (i : Nat) (e : Expr) : Bool := match asName e with
  | some m => decide (N[i]? = some m) && visB sc m && !(m == ("__debug__" : Str)) && !(m == ("__classdict__" : Str))
  | none => false
def gB (C : Ck) (sc : Scope) (g : Str) (c : Int) (e : Expr) : Bool := match asName e with
  | some m => m == g && gloB sc m && isGE C m (.int c)
  | none => false
def leB (C : Ck) (N : List Str) (sc : Scope) (i : Nat) (g : Str) (c : Int) (e : Expr) : Bool := match asCmp e with
  | some (x, [o], [y]) => decide (o = .LtE) && vB N sc i x && gB C sc g c y
  | _ => false
mutual
def okE (C : Ck) (N : List Str) (sc : Scope) : Ex → Expr → Bool
  | .spl t fl es, e => (match t with
    | true => (match asTup e with
      | some xs => okFs C N sc es fl xs
      | none => false)
    | false => (match asLst e with
      | some xs => okFs C N sc es fl xs
      | none => false))
  | .met i m b, e => (match asCall e with
    | some (g, [l], _) => (match asName g, asLam l with
      | some x, some (pa, be, s2) => gloB sc x && isGE C x (.fn i) && C.lam && (match C.md.lookup i with
        | some fi => okMet C m fi
        | none => false) && (noPar pa && LamX.lamSB sc s2 || parOk N sc s2 pa) && okE C.noLam N s2 b be
      | _, _ => false)
    | _ => false)
  | .prop k o cs, e => msOk C k cs && (match k with
    | .get n => (match asAttr e with
      | some (x, m, _) => m == n && plainBase x && okE C N sc o x
      | none => false)
    | .len => (match asCall e with
      | some (g, [x], _) => decide (asName g = some ("len" : Str)) && gloB sc "len" && decide (("len" : Str) ∈ C.free) && !isStar x && okE C N sc o x
      | _ => false)
    | .str => (match asCall e with
      | some (g, [x], _) => decide (asName g = some ("str" : Str)) && gloB sc "str" && decide (("str" : Str) ∈ C.free) && !isStar x && okE C N sc o x
      | _ => false)
    | _ => false)
  | .eqo ne a b cs, e => msOk C (if ne then .ne else .eq) cs && (match asCmp e with
    | some (x, [o], [y]) => decide (o = (if ne then CmpOp.NotEq else CmpOp.Eq)) && !behindInMarks o y && okE C N sc a x && okE C N sc b y
    | _ => false)
  | .trng t es, e => (match asCall e with
    | some (g, [it], _) => decide (asName g = some (if t then ("tuple" : Str) else "list")) && gloB sc (if t then "tuple" else "list") && decide ((if t then ("tuple" : Str) else "list") ∈ C.free) && (match asCall it with
      | some (h, xs, _) => decide (asName h = some ("range" : Str)) && gloB sc "range" && decide (("range" : Str) ∈ C.free) && (xs.length == 1 || xs.length == 2) && okEs C N sc es xs
      | none => false)
    | _ => false)
  | .dkLe j i g c, e => (match asLc e with
    | some (x, y, it, [tst], s2) => blkC N sc s2 (ownOf N s2) && ((ownOf N s2).all fun p => decide (p.2 = i)) && decide (i ∈ (ownOf N s2).map (·.2)) && okT N (relS s2 sc) (fun z => s2.names.lookup z == some .cell) (.nm i) y
        && vB N sc j it && vB N (relS s2 sc) i x && leB C N (relS s2 sc) i g c tst
    | _ => false)
  | .zipL es, e => (match asCall e with
    | some (g, [it], _) => decide (asName g = some ("list" : Str)) && gloB sc "list" && decide (("list" : Str) ∈ C.free) && (match asCall it with
      | some (h, xs, _) => decide (asName h = some ("zip" : Str)) && gloB sc "zip" && decide (("zip" : Str) ∈ C.free) && (xs.length == 2) && okEs C N sc es xs
      | none => false)
    | _ => false)
  | .srtL a, e => (match asKey e with
    | some (g, x, n, h) => decide (asName g = some ("sorted" : Str)) && gloB sc "sorted" && decide (("sorted" : Str) ∈ C.free) && decide (n = "key") && decide (asName h = some ("len" : Str)) && gloB sc "len" && decide (("len" : Str) ∈ C.free) && !isStar x && okE C N sc a x
    | _ => false)
  | .minN a, e => (match asKey e with
    | some (g, x, n, h) => decide (asName g = some ("min" : Str)) && gloB sc "min" && decide (("min" : Str) ∈ C.free) && decide (n = "default") && isNoneE h && !isStar x && okE C N sc a x
    | _ => false)
  | .callS f fl as, e => (match asCall e with
    | some (g, xs, _) => (match asName g with
      | some m => gloB sc m && isGE C m (.fn f) && okFs C N sc as fl xs && starLast xs
      | none => false)
    | none => false)
  | .dct es, e => (match asDict e with
    | some (ks, vs) => decide (ks.length = vs.length) && decide (0 < ks.length) && decide (ks.length ≤ 15) && okPs C N sc es ks vs
    | none => false)
  | .fstr es, e => (match asJs e with
    | some vs => decide (2 ≤ vs.length) && okJs C N sc es vs
    | none => false)
  | .con x, e => match conD e with
    | some y => eqData y x
    | none => false
  | .glo n x, e => (match asName e, gloD x with
    | some m, some g => m == n && gloB sc m && isGE C m g
    | _, _ => false)
  | .gtu n l, e => (match asName e with
    | some m => m == n && gloB sc m && isGE C m (.tus l)
    | _ => false)
  | .var i, e => (match asName e with
    | some m => decide (N[i]? = some m) && visB sc m && !(m == ("__debug__" : Str)) && !(m == ("__classdict__" : Str))
    | none => false)
  | .tup es, e => (match asTup e with
    | some xs => okEs C N sc es xs
    | none => false)
  | .lst es, e => (match asLst e with
    | some xs => okEs C N sc es xs
    | none => false)
  | .dnew _, e => isD0 e
  | .bin op a b, e => (match asBin e with
    | some (x, o, y) => decide (o = opS op) && okE C N sc a x && okE C N sc b y
    | none => false)
  | .un op a, e => (match asUn e with
    | some (o, x) => decide (o = uopS op) && okE C N sc a x
    | none => false)
  | .cmp op a b, e => (match asCmp e with
    | some (x, [o], [y]) => decide (o = copS op) && !behindInMarks o y && okE C N sc a x && okE C N sc b y
    | _ => false)
  | .chain o1 o2 a b c, e => (match asCmp e with
    | some (x, [p1, p2], [y, z]) => decide (p1 = copS o1) && decide (p2 = copS o2) && !lastMarks [p1, p2] [y, z] && okE C N sc a x && okE C N sc b y && okE C N sc c z
    | _ => false)
  | .and_ a b, e => (match asBool e with
    | some (.And, [x, y], _) => okE C N sc a x && okE C N sc b y
    | some (.And, x :: y :: z :: r, p) => okE C N sc a x && okE C N sc b (.BoolOp .And (y :: z :: r) p)
    | _ => false)
  | .or_ a b, e => (match asBool e with
    | some (.Or, [x, y], _) => okE C N sc a x && okE C N sc b y
    | some (.Or, x :: y :: z :: r, p) => okE C N sc a x && okE C N sc b (.BoolOp .Or (y :: z :: r) p)
    | _ => false)
  | .not_ a, e => (match asUn e with
    | some (.Not, x) => okE C N sc a x
    | _ => false)
  | .ife c a b, e => (match asIf e with
    | some (x, y, z) => okE C N sc c x && okE C N sc a y && okE C N sc b z
    | none => false)
  | .idx a b, e => (match asSub e with
    | some (x, y) => !isSlice y && okE C N sc a x && okE C N sc b y
    | none => false)
  | .slc a lo hi, e => (match asSub e with
    | some (x, s) => (match asSlice s with
      | some (l, h) => okE C N sc a x && okO C N sc lo l && okO C N sc hi h
      | none => false)
    | none => false)
  | .call f as, e => (match asCall e with
    | some (g, xs, _) => (match asName g with
      | some m => gloB sc m && isGE C m (.fn f) && okEs C N sc as xs
      | none => false)
    | none => false)
  | .new c as, e => (match asCall e with
    | some (g, xs, _) => (match asName g with
      | some m => gloB sc m && isGE C m (.cls c) && okEs C N sc as xs
      | none => false)
    | none => false)
  | .bi b as, e => (match asCall e with
    | some (g, xs, _) => (match asName g with
      | some m => m == biN b && biOk b && gloB sc m && decide (m ∈ C.free) && !xs.isEmpty && okEs C N sc as xs
      | none => false)
    | none => false)
  | .mt m o as, e => (match asCall e with
    | some (g, xs, p) => (match asAttr g with
      | some (x, n, q) => n == mtN m && plainBase x && q.endLine == p.line && decide (xs.length < 20) && okE C N sc o x && okEs C N sc as xs
      | none => false)
    | none => false)
  | .fld o cs, e => (match asAttr e with
    | some (x, n, _) => plainBase x && fldOk C n cs && okE C N sc o x
    | none => false)
  | .isi a ts, e => (match asCall e with
    | some (g, [x, t], _) => decide (asName g = some ("isinstance" : Str)) && gloB sc "isinstance" && decide (("isinstance" : Str) ∈ C.free) && !isStar x && !isStar t && isiOk C sc ts t && okE C N sc a x
    | _ => false)
  | .compR a tg v cs, e => (match asLc e with
    | some (x, y, it, ifs, s2) => (decide (cs.length < 2) && blkC N sc s2 (ownOf N s2) && ((ownOf N s2).all fun p => decide (p.2 ∈ slotsT tg)) && ((slotsT tg).all fun j => decide (j ∈ (ownOf N s2).map (·.2)))
        && okT N (relS s2 sc) (fun z => s2.names.lookup z == some .cell) tg y && okE C N (relS s2 sc) a x && okEs C N (relS s2 sc) cs ifs && !isSetE it) && okE C N sc v it
    | none => false)
  | .comp a tg k es cs, e => (match asLc e with
    | some (x, y, it, ifs, s2) => (decide (cs.length < 2) && blkC N sc s2 (ownOf N s2) && ((ownOf N s2).all fun p => decide (p.2 ∈ slotsT tg)) && ((slotsT tg).all fun j => decide (j ∈ (ownOf N s2).map (·.2)))
        && okT N (relS s2 sc) (fun z => s2.names.lookup z == some .cell) tg y && okE C N (relS s2 sc) a x && okEs C N (relS s2 sc) cs ifs && okI C sc k tg y es.length it) && okEs C N sc es (iterArgs k it)
    | none => false)
  termination_by structural e => e
def okEs (C : Ck) (N : List Str) (sc : Scope) : List Ex → List Expr → Bool
  | [], [] => true
  | a :: as, x :: xs => !isStar x && okE C N sc a x && okEs C N sc as xs
  | _, _ => false
  termination_by structural es => es
def okPs (C : Ck) (N : List Str) (sc : Scope) : List Ex → List (Option Expr) → List Expr → Bool
  | [], [], [] => true
  | a :: as, ks, vs => (match ks with
    | some k :: _ => okE C N sc a k && okPv C N sc as ks.tail vs
    | _ => false)
  | _, _, _ => false
  termination_by structural es => es
def okPv (C : Ck) (N : List Str) (sc : Scope) : List Ex → List (Option Expr) → List Expr → Bool
  | b :: bs, ks, v :: vs => okE C N sc b v && okPs C N sc bs ks vs
  | _, _, _ => false
  termination_by structural es => es
def okJs (C : Ck) (N : List Str) (sc : Scope) : List Ex → List Expr → Bool
  | [], [] => true
  | a :: as, x :: xs => (match asFmt x with
    | some y => okE C N sc a y
    | none => isConS a && okE C N sc a x) && okJs C N sc as xs
  | _, _ => false
  termination_by structural es => es
def okFs (C : Ck) (N : List Str) (sc : Scope) : List Ex → List Bool → List Expr → Bool
  | [], _, [] => true
  | a :: as, fl, x :: xs => (match fl.headD false with
    | false => !isStar x && okE C N sc a x
    | true => (match asStar x with
      | some y => okE C N sc a y
      | none => false)) && okFs C N sc as fl.tail xs
  | _, _, _ => false
  termination_by structural es => es
/-- a part of a slice -/
def okO (C : Ck) (N : List Str) (sc : Scope) : List Ex → Option Expr → Bool
  | [], none => true
  | [a], some x => okE C N sc a x
  | _, _ => false
  termination_by structural es => es
end

section
variable {T : Tab} {W : XW} {C : Ck} {cf nf : CallF} {X : Cx} {sc : Scope}
theorem oks_star {N : List Str} : ∀ {as : List Ex} {xs : List Expr}, okEs C N sc as xs = true → xs.all (fun e => !isStar e) = true ∧ as.length = xs.length
  | [], [], _ => ⟨rfl, rfl⟩
  | [], _ :: _, h => by unfold okEs at h; cases h
  | _ :: _, [], h => by unfold okEs at h; cases h
  | a :: as, x :: xs, h => by
    unfold okEs at h
    simp only [Bool.and_eq_true] at h
    obtain ⟨h1, h2⟩ := oks_star h.2
    exact ⟨by rw [List.all_cons, h.1.1, h1]; rfl, by rw [List.length_cons, List.length_cons, h2]⟩
/-- a known function, or a class, is called -/
theorem e_callR {m : Str} {a : Addr} {r : List V → Hp → VK → Prop} {xs : List Expr} {ta : TA} {te : TE} {p pos : Pos} (hg : Gl X m) (hm : X.mg m = some (.ref a)) (hdb : (m == ("__debug__" : Str)) = false) (hk : PySem.W.keepIn X.K (.ref a) = true) (hc : CallR X (.ref a) r)
    (hst : xs.all (fun e => !isStar e) = true) (hp : PA X xs ta) (i : ∀ σ H Q, te σ H Q → ta σ H fun vs H1 => r vs H1 Q) (i0 : xs = [] → ∀ σ H Q, te σ H Q → r [] H Q) : PE X (.Call (.Name m p) xs [] pos) te := by
  refine ⟨fun pins s σ H Q I h => ?_⟩
  refine wpAny_Call_Name_kw (ld_glob I hg hm ?_ hdb)
  cases xs with
  | nil => exact PySem.W.callWith_K0 I.kIn hk (hc pins s σ H [] [] Q I .nil (i0 rfl σ H Q h))
  | cons e es =>
    have h1 : isStar e = false ∧ es.all (fun e => !isStar e) = true := by
      rw [List.all_cons, Bool.and_eq_true] at hst
      exact ⟨by simpa using hst.1, hst.2⟩
    exact PySem.W.callWith_K (h₀ := X.base) I.ok.mod.kin hk (thn (hp.run pos pins s σ H _ I (i σ H Q h)) fun us s1 ⟨vs, H1, I1, rv, q⟩ => ⟨I1.kIn, hc pins s1 σ H1 vs us Q I1 rv q⟩) (star_cons h1.1 es X.env) (star_any h1.2 pos X.env)
theorem tA_bind {as : List Ex} {σ : L2.St} {H : Hp} {Q : VK} {f : List Vl → Store → R (Vl × Bool)} (h : ∃ ρ F env st, Rl T ρ F H st ∧ EnvR T ρ F [] env σ ∧ OkP T W ρ F ((evEs cf nf as env st).bind f) Q) :
    tA T W cf nf as σ H fun xs H1 => ∃ ρ F st vs, Rl T ρ F H1 st ∧ VlsR T ρ F vs xs ∧ OkP T W ρ F (f vs st) Q := by
  obtain ⟨ρ, F, env, st, r, en, h⟩ := h
  exact seqA r en h fun ρ1 F1 H1 st1 vs xs p1 s1 r1 en1 hv h1 => ⟨ρ1, F1, st1, vs, r1, hv, h1⟩
theorem tA_imp {as : List Ex} {σ : L2.St} {H : Hp} {Q Q' : List V → Hp → Prop} (h : tA T W cf nf as σ H Q) (i : ∀ xs H1, Q xs H1 → Q' xs H1) : tA T W cf nf as σ H Q' := by
  obtain ⟨ρ, F, env, st, r, en, h⟩ := h
  exact ⟨ρ, F, env, st, r, en, h.imp fun vs st1 ρ1 F1 H1 p1 s1 r1 q xs hv => i xs H1 (q xs hv)⟩
theorem e_call {m : Str} {f : Nat} {as : List Ex} {xs : List Expr} {p pos : Pos} (am : Amb T C W cf nf X) (hs : X.env.scope = sc) (h2 : gloB sc m = true) (h3 : C.G.lookup m = some (.fn f)) (hst : xs.all (fun e => !isStar e) = true) (hl : as.length = xs.length) (hp : PA X xs (tA T W cf nf as)) :
    PE X (.Call (.Name m p) xs [] pos) (tE T W cf nf (.call f as)) := by
  obtain ⟨g1, g2, _⟩ := gl_of hs h2
  obtain ⟨a, q1, q2, q3⟩ := am.fn _ _ h3
  obtain ⟨E, tk, wk⟩ := am.wk
  refine e_callR g1 q1 g2 q2 (q3 X (Like.refl X) T.hid E tk) hst hp (fun σ H Q h => tA_imp (tA_bind h) fun xs H1 q => rCf_imp wk q) fun e σ H Q ⟨ρ, F, env, st, r, en, h⟩ => ?_
  subst e
  obtain rfl : as = [] := List.length_eq_zero_iff.mp hl
  exact rCf_imp wk ⟨ρ, F, st, [], r, .nil, h⟩
theorem e_new {m : Str} {c : Nat} {as : List Ex} {xs : List Expr} {p pos : Pos} (am : Amb T C W cf nf X) (hs : X.env.scope = sc) (h2 : gloB sc m = true) (h3 : C.G.lookup m = some (.cls c)) (hst : xs.all (fun e => !isStar e) = true) (hl : as.length = xs.length) (hp : PA X xs (tA T W cf nf as)) :
    PE X (.Call (.Name m p) xs [] pos) (tE T W cf nf (.new c as)) := by
  obtain ⟨g1, g2, _⟩ := gl_of hs h2
  obtain ⟨q1, q2, q3⟩ := am.cl _ _ h3
  obtain ⟨E, tk, wk⟩ := am.wk
  refine e_callR g1 q1 g2 q2 (q3 X (Like.refl X) T.hid E tk) hst hp (fun σ H Q h => tA_imp (tA_bind h) fun xs H1 q => rCf_imp wk q) fun e σ H Q ⟨ρ, F, env, st, r, en, h⟩ => ?_
  subst e
  obtain rfl : as = [] := List.length_eq_zero_iff.mp hl
  exact rCf_imp wk ⟨ρ, F, st, [], r, .nil, h⟩
theorem bi_call (am : Amb T C W cf nf X) (b : Bi) (h : biOk b = true) : CallR X (biF b) (rBi T W b) := by
  cases b with
  | len => exact bi_ok_len am.hT
  | abs => exact bi_ok_abs
  | int => exact bi_ok_int
  | tuple => exact bi_ok_tuple
  | list => exact bi_ok_list am.calm
  | sum => exact bi_ok_sum am.calm am.hT
  | all => exact bi_ok_all am.calm
  | any => exact bi_ok_any am.calm
  | sorted => exact bi_ok_sorted am.calm am.hT am.un
  | repr => exact bi_ok_repr am.hT am.gd am.un
  | max2 => exact bi_ok_max am.calm
  | min2 => exact bi_ok_min am.calm
  | str => cases h
  | dictP => exact bi_ok_dict am.calm am.un
theorem e_bi {b : Bi} {as : List Ex} {e : Expr} {es : List Expr} {p pos : Pos} (am : Amb T C W cf nf X) (hs : X.env.scope = sc) (hb : biOk b = true) (h2 : gloB sc (biN b) = true) (h3 : decide (biN b ∈ C.free) = true) (hst : (e :: es).all (fun e => !isStar e) = true) (hp : PA X (e :: es) (tA T W cf nf as)) :
    PE X (.Call (.Name (biN b) p) (e :: es) [] pos) (tE T W cf nf (.bi b as)) := by
  obtain ⟨g1, g2, g3⟩ := gl_of hs h2
  have hm := fr_of am h3
  have h1 : isStar e = false ∧ es.all (fun e => !isStar e) = true := by
    rw [List.all_cons, Bool.and_eq_true] at hst
    exact ⟨by simpa using hst.1, hst.2⟩
  have q : PE X (.Call (.Name (biN b) p) (e :: es) [] pos) (tCB (rBi T W b) (tA T W cf nf as)) := by
    have hc := bi_call am b hb
    cases b <;> first
      | (cases hb; done)
      | exact pe_callB hc g1 hm (by decide +kernel) hp g3 g2 (star_cons h1.1 es X.env) (star_any h1.2 pos X.env)
      | exact pe_callTy hc g1 hm (by decide +kernel) hp g3 g2 (star_cons h1.1 es X.env) (star_any h1.2 pos X.env)
  exact q.imp fun σ H Q h => tA_bind h
end
end Ev
end

section
set_option Elab.async false
set_option linter.all false
set_option maxRecDepth 100000
set_option maxHeartbeats 4000000
/-! Ev15: methods, variables of instances, isinstance. -/
namespace Ev
open PySem PySem.Spec PyProof.Rows L2
def mtTy : Mt → String
  | .get2 => "dict"
  | .tindex => "tuple"
  | _ => "list"
def mtId : Mt → String
  | .append => "list.append" | .extend => "list.extend" | .pop => "list.pop" | .popAt => "list.pop" | .get2 => "dict.get" | .tindex => "tuple.index" | .lindex => "list.index"
theorem mt_slot (m : Mt) : PlainAttrs (mtTy m) ∧ Slot (mtTy m) (mtN m) (mtId m) ∧ typeOf (.builtin (mtId m)) = pure (.type "method_descriptor") := by
  cases m
  · exact ⟨PySem.F.plainAttrs_list, PySem.F.slot_list_append, PySem.F.type_list_append⟩
  · exact ⟨PySem.F.plainAttrs_list, PySem.F.slot_list_extend, PySem.F.type_list_extend⟩
  · exact ⟨PySem.F.plainAttrs_list, PySem.F.slot_list_pop, PySem.F.type_list_pop⟩
  · exact ⟨PySem.F.plainAttrs_list, PySem.F.slot_list_pop, PySem.F.type_list_pop⟩
  · exact ⟨PySem.F.plainAttrs_dict, PySem.F.slot_dict_get, PySem.F.type_dict_get⟩
  · exact ⟨PySem.F.plainAttrs_tuple, PySem.F.slot_tuple_index, PySem.F.type_tuple_index⟩
  · exact ⟨PySem.F.plainAttrs_list, PySem.F.slot_list_index, PySem.F.type_list_index⟩
section
variable {T : Tab} {W : XW} {C : Ck} {cf nf : CallF} {X : Cx} {sc : Scope}
theorem mt_call (am : Amb T C W cf nf X) (m : Mt) : MtR X (mtId m) (rMt T W m) := by
  cases m
  · exact mt_ok_append
  · exact mt_ok_extend
  · exact mt_ok_pop
  · exact mt_ok_popAt
  · exact mt_ok_get2 am.un
  · exact mt_ok_tindex am.hT
  · exact mt_ok_lindex am.hT am.un
/-- the object is of that type and has no dict of its own -/
theorem mt_ty {m : Mt} {pins : List (Addr × Obj)} {s : Shared} {σ : L2.St} {ρ : List Addr} {F H : Hp} {st : Store} {o : Vl} {x : V} {u : Value} (I : L2.Inv X pins σ H s) (r : Rl T ρ F H st) (ho : VlR T ρ F o x) (rx : RelV x u) (h : mtK m st o = true) :
    s.TypeIs u (mtTy m) ∧ ∀ a, u = .ref a → ∃ ob, s.heap.get? a = some ob ∧ ob.dict = none := by
  have hl : mtTy m = "list" → (∃ l, datD st o = some (.list l)) → s.TypeIs u (mtTy m) ∧ ∀ a, u = .ref a → ∃ ob, s.heap.get? a = some ob ∧ ob.dict = none := fun e ⟨l, e2⟩ => by
    obtain ⟨a, xs, rfl, h1, _⟩ := (ho.dat r e2).lst r.sub
    exact tyV_is I rx (.inl ⟨e, xs, SqL.of h1⟩)
  have hl2 : (match datD st o with | some (.list _) => true | _ => false) = true → ∃ l, datD st o = some (.list l) := fun e => by
    split at e
    · rename_i l e2; exact ⟨l, e2⟩
    · cases e
  cases m with
  | append => exact hl rfl (hl2 h)
  | extend => exact hl rfl (hl2 h)
  | pop => exact hl rfl (hl2 h)
  | popAt => exact hl rfl (hl2 h)
  | lindex => exact hl rfl (hl2 h)
  | get2 =>
    cases o with
    | ref n =>
      replace h : (match getO st n with | some (.dK _) => true | some (.dT _) => true | _ => false) = true := h
      split at h
      · rename_i kvs h0
        obtain ⟨p, rfl, _, _, ws, h1, _⟩ := VlR.obj r ho h0
        exact tyV_is I rx (.inr (.inr (.inl ⟨rfl, .inl ⟨ws, h1⟩⟩)))
      · rename_i kvs h0
        obtain ⟨p, rfl, _, _, ws, h1, _⟩ := VlR.obj r ho h0
        exact tyV_is I rx (.inr (.inr (.inl ⟨rfl, .inr ⟨ws, h1⟩⟩)))
      · cases h
    | _ => cases h
  | tindex =>
    cases o with
    | d y =>
      cases y with
      | tuple l =>
        obtain ⟨a, xs, rfl, h1, _⟩ := tup_V ho
        cases rx
        replace h : isS l = true := h
        rcases h1 with ⟨h1, _⟩ | ⟨_, ob, h1, hc, hd⟩
        · rw [h] at h1; cases h1
        · obtain ⟨e, _⟩ := (show ObjOk X.prog X.w H s.heap a (.frz ob (.tup xs)) from I.hok a _ (r.sub _ _ h1))
          exact ⟨⟨ob, e, hc⟩, fun b e2 => by cases e2; exact ⟨ob, e, hd⟩⟩
      | _ => cases h
    | _ => cases h
theorem e_mt {m : Mt} {o : Expr} {oi : Ex} {as : List Ex} {xs : List Expr} {q p : Pos} (am : Amb T C W cf nf X) (hb : plainBase o = true) (hline : (q.endLine == p.line) = true) (hlen : xs.length < 20) (hst : xs.all (fun e => !isStar e) = true) (hl : as.length = xs.length)
    (h1 : PE X o (tE T W cf nf oi)) (hp : PA X xs (tA T W cf nf as)) : PE X (.Call (.Attribute o (mtN m) q) xs [] p) (tE T W cf nf (.mt m oi as)) := by
  refine ⟨fun pins s σ H Q I ⟨ρ, F, env, st, r, en, h⟩ => ?_⟩
  obtain ⟨f1, f2, f3⟩ := mt_slot m
  have hfew : ((backTo p (starEach xs X.env)).all (fun x => !x.1) && (backToKw p (keywordEach [] X.env)).all (fun x => x.1.isSome) && decide (xs.length + ([] : List Keyword).length + (if ([] : List Keyword).isEmpty then 0 else 1) < 30)) = true := by
    rw [star_few hst]
    show (true && true && decide (xs.length + 0 + 0 < 30)) = true
    simp; omega
  refine wpAny_Call_method_late (base_plain hb _ X.env) hfew hline rfl (thn (h1.run pins s σ H (fun x H1 => ∃ ρ1 F1 st1 v env1, Rl T ρ1 F1 H1 st1 ∧ EnvR T ρ1 F1 [] env1 σ ∧ VlR T ρ1 F1 v x ∧ mtK m st1 v = true ∧ OkP T W ρ1 F1 ((evEs cf nf as env1 st1).bind fun vs st2 => mtV m v vs st2) Q) I ?_) fun u s1 ⟨x, H1, I1, rx, ρ1, F1, st1, v, env1, r1, en1, hv, hk, h2⟩ => ?_)
  · unfold evE at h
    refine seqE r en h fun ρ1 F1 H1 st1 v x p1 s1 r1 en1 hv h1 => ?_
    split at h1
    · rename_i c
      exact ⟨ρ1, F1, st1, v.1, env, r1, en1, hv, c, h1⟩
    · exact h1.elim
  · obtain ⟨t1, t2⟩ := mt_ty I1 r1 hv rx hk
    refine ⟨_, _, f1, f2, f3, t1, t2, ?_⟩
    have hr : tA T W cf nf as σ H1 fun xs H2 => rMt T W m x xs H2 Q := seqA r1 en1 h2 fun ρ2 F2 H2 st2 vs xs p2 s2 r2 en2 hvs h3 => ⟨ρ2, F2, st2, v, vs, r2, hv.mono p2 s2, hvs, h3⟩
    cases xs with
    | nil =>
      obtain rfl : as = [] := List.length_eq_zero_iff.mp hl
      exact Calls.callWith_builtin rfl (PySem.evalArgs_none (mt_call am m pins s1 σ H1 x [] u [] Q I1 rx .nil ⟨ρ1, F1, st1, v, [], r1, hv, .nil, h2⟩))
    | cons e es =>
      have h1 : isStar e = false ∧ es.all (fun e => !isStar e) = true := by
        rw [List.all_cons, Bool.and_eq_true] at hst
        exact ⟨by simpa using hst.1, hst.2⟩
      have hA := hp.run p pins s1 σ H1 _ I1 hr
      refine Calls.callWith_builtin (star_any hst p X.env) ?_
      rw [star_cons h1.1] at hA ⊢
      exact Calls.evalArgs_plain (thn hA fun us s2 ⟨vs, H2, I2, r2, q2⟩ => mt_call am m pins s2 σ H2 x vs u us Q I2 rx r2 q2)
theorem fs_get {F : Hp} : ∀ {vs : List (Option V)} {fs : List (Option PyData)} {i : Nat} {d : PyData}, FsR T F vs fs → fs[i]? = some (some d) → ∃ v, vs[i]? = some (some v) ∧ Dq T.kc F v d
  | _, _, _, _, .nil, h => by simp at h
  | _, _, 0, _, .none _, h => by simp at h
  | [], _, i + 1, d, .none r, h => by
    obtain ⟨v, h1, _⟩ := fs_get (i := i) (d := d) r (by simpa using h)
    simp at h1
  | o :: vs, _, i + 1, d, .none r, h => by
    obtain ⟨v, h1, h2⟩ := fs_get (i := i) (d := d) r (by simpa using h)
    exact ⟨v, by simpa using h1, h2⟩
  | _, _, 0, _, .some dq r, h => by
    simp at h; subst h
    exact ⟨_, rfl, dq⟩
  | _, _, i + 1, _, .some dq r, h => by
    obtain ⟨v, h1, h2⟩ := fs_get (i := i) r (by simpa using h)
    exact ⟨v, by simpa using h1, h2⟩
theorem fsd_get {F : Hp} : ∀ {vs : List (Option V)} {fs : List PyData} {i : Nat} {d : PyData}, DqFs T.kc F vs fs → fs[i]? = some d → ∃ v, vs[i]? = some (some v) ∧ Dq T.kc F v d
  | _, _, _, _, .nil, h => by simp at h
  | _, _, 0, _, .cons dq r, h => by
    simp at h; subst h
    exact ⟨_, rfl, dq⟩
  | _, _, i + 1, _, .cons dq r, h => by
    obtain ⟨v, h1, h2⟩ := fsd_get (i := i) r (by simpa using h)
    exact ⟨v, by simpa using h1, h2⟩
theorem insD_eq {x : PyData} {c : Nat} {fs : List PyData} (h : insD x = some (c, fs)) : x = encI c fs := by
  unfold insD at h
  split at h
  · cases h; rfl
  · cases h
theorem insD_V {F : Hp} {x : V} {c : Nat} {fs : List PyData} (h : Dq T.kc F x (encI c fs)) : c < T.ncl ∧ ∃ a dx vs, x = .ref a ∧ SlAt F a (T.cA c) dx vs ∧ DqFs T.kc F vs fs := by
  unfold encI at h
  cases h with
  | ins hc h r => exact ⟨hc, _, _, _, rfl, h, r⟩
theorem memL {β : Type} : ∀ {l : List (Nat × β)} {c : Nat} {i : β}, l.lookup c = some i → (c, i) ∈ l
  | (k, v) :: r, c, i, h => by
    rw [List.lookup_cons] at h
    split at h
    · rename_i e; cases h; rw [eq_of_beq e]; exact List.mem_cons_self
    · exact List.mem_cons_of_mem _ (memL h)
theorem fld_slot (am : Amb T C W cf nf X) {n : Str} {cs : List (Nat × Nat)} {c i : Nat} (h : fldOk C n cs = true) (e : cs.lookup c = some i) : SCls X.K (T.cA c) ∧ ∃ p, Slt X.K (T.cA c) n i p := by
  unfold fldOk at h
  rw [List.all_eq_true] at h
  have := h (c, i) (memL e)
  simp only at this
  split at this
  · rename_i s hs
    obtain ⟨h1, h2⟩ := am.sl c s hs
    exact ⟨h1, h2 i n (by simpa using this)⟩
  · cases this
theorem e_fld {o : Expr} {n : Str} {q : Pos} {oi : Ex} {cs : List (Nat × Nat)} (am : Amb T C W cf nf X) (hb : plainBase o = true) (hf : fldOk C n cs = true) (h1 : PE X o (tE T W cf nf oi)) : PE X (.Attribute o n q) (tE T W cf nf (.fld oi cs)) := by
  refine ⟨fun pins s σ H Q I ⟨ρ, F, env, st, r, en, h⟩ => ?_⟩
  refine attr_of (base_plain hb _ X.env) (thn (h1.run pins s σ H (fun x H1 => ∃ ρ1 F1 st1 v d, Rl T ρ1 F1 H1 st1 ∧ VlR T ρ1 F1 v x ∧ fldV cs st1 v = some d ∧ ∀ y, Dq T.kc F1 y d → Q y H1) I ?_) fun u s1 ⟨x, H1, I1, rx, ρ1, F1, st1, v, d, r1, hv, e, hq⟩ => ?_)
  · unfold evE at h
    refine seqE r en h fun ρ1 F1 H1 st1 v x p1 s1 r1 en1 hv h1 => ?_
    obtain ⟨d, e, h2⟩ := retP_ok h1
    exact ⟨ρ1, F1, st1, v.1, d, r1, hv, e, fun y hy => OkP.dat h2 r1 hy⟩
  · cases v with
    | d z =>
      obtain ⟨p0, e0, e⟩ := bind_some (show (insD z).bind (fun p => (cs.lookup p.1).bind fun i => p.2[i]?) = some d from e)
      obtain ⟨c, fs⟩ := p0
      obtain ⟨i, e1, e2⟩ := bind_some e
      have ez := insD_eq e0
      subst ez
      obtain ⟨_, a, dx, vs, rfl, ha, hfs⟩ := insD_V hv
      cases rx
      obtain ⟨k1, p, k2⟩ := fld_slot am hf e1
      obtain ⟨y, y1, y2⟩ := fsd_get (i := i) (d := d) hfs e2
      exact getslot_ok I1 (SlAt.sub r1.sub ha) k1 k2 y1 fun u' s2 I2 ru => ⟨y, H1, I2, ru, hq y y2⟩
    | ref n =>
      replace e : (match getO st1 n with | some (.obj c fs) => (cs.lookup c).bind fun i => (fs[i]?).join | _ => none) = some d := e
      split at e
      · rename_i c fs h0
        obtain ⟨i, e1, e2⟩ := bind_some e
        obtain ⟨a, rfl, _, _, dx, vs, ha, hfs⟩ := VlR.obj r1 hv h0
        cases rx
        obtain ⟨k1, p, k2⟩ := fld_slot am hf e1
        have e3 : fs[i]? = some (some d) := by
          cases q : fs[i]? with
          | none => rw [q] at e2; cases e2
          | some o => rw [q] at e2; cases o with
            | none => cases e2
            | some z => cases e2; rfl
        obtain ⟨y, y1, y2⟩ := fs_get (i := i) (d := d) hfs e3
        exact getslot_ok I1 ha k1 k2 y1 fun u' s2 I2 ru => ⟨y, H1, I2, ru, hq y y2⟩
      · cases e
    | _ => cases e
end
end Ev
end

section
set_option Elab.async false
set_option linter.all false
set_option maxRecDepth 100000
set_option maxHeartbeats 4000000
/-! Ev16: isinstance; the expressions together. -/
namespace Ev
open PySem PySem.Spec PyProof.Rows L2
section
variable {T : Tab} {W : XW} {C : Ck} {cf nf : CallF} {X : Cx} {sc : Scope}
/-- a class as a value -/
def tyVl (T : Tab) : Ty → V
  | .int => .ty "int" | .bool => .ty "bool" | .str => .ty "str" | .tup => .ty "tuple" | .lst => .ty "list" | .dict => .ty "dict"
  | .own c => .ref (T.cA c)
def tyVv (T : Tab) : Ty → Value
  | .int => .type "int" | .bool => .type "bool" | .str => .type "str" | .tup => .type "tuple" | .lst => .type "list" | .dict => .type "dict"
  | .own c => .ref (T.cA c)
theorem tyVl_v (t : Ty) {u : Value} (h : RelV (tyVl T t) u) : u = tyVv T t := by
  cases t <;> exact h
theorem tyVv_r (t : Ty) : RelV (tyVl T t) (tyVv T t) := by
  cases t <;> rfl
/-- kitOne of a built-in type and any class of the evaluator's -/
theorem kit_data (am : Amb T C W cf nf X) {n : String} {t : Ty} {b : Bool} (hn : n ∈ isiTys) (ht : ∀ c, t = .own c → c < C.slots.length ∧ b = false) (h : ∀ m, tyVv T t = .type m → (∀ c, t ≠ .own c) → kitB n m = some b) : PySem.W.kitOne X.K (.type n) (tyVv T t) = some b := by
  cases t with
  | own c =>
    obtain ⟨h1, rfl⟩ := ht c rfl
    exact (am.ko c h1 n hn).2
  | _ => exact kit_ty (h _ rfl (fun _ z => by cases z))
theorem isi_kit (am : Amb T C W cf nf X) {pins : List (Addr × Obj)} {s : Shared} {σ : L2.St} {ρ : List Addr} {F H : Hp} {st : Store} {v : Vl} {x : V} {u : Value} {t : Ty} {b : Bool} (I : L2.Inv X pins σ H s) (r : Rl T ρ F H st) (hv : VlR T ρ F v x) (rx : RelV x u)
    (ho : ∀ c, t = .own c → c < C.slots.length) (e : isTy st t v = some b) : ∃ (ty : Value) (P : Heap → Prop), PySem.W.KitX X.K u ty P ∧ P s.heap ∧ u ≠ .builtin "__main__.__loader__#opaque" ∧ PySem.W.kitOne X.K ty (tyVv T t) = some b := by
  have go : ∀ {n : String}, TyX X.K H x (.type n) → PySem.W.kitOne X.K (.type n) (tyVv T t) = some b → ∃ (ty : Value) (P : Heap → Prop), PySem.W.KitX X.K u ty P ∧ P s.heap ∧ u ≠ .builtin "__main__.__loader__#opaque" ∧ PySem.W.kitOne X.K ty (tyVv T t) = some b := fun {n} h1 h2 => by
    obtain ⟨P, k1, k2, k3⟩ := kit_of I rx h1
    exact ⟨_, P, k1, k2, k3, h2⟩
  cases v with
  | d y =>
    have e1 : tyD t y = b := Option.some.inj e
    cases hv with
    | non => exact go (.base .non) (kit_data am (by decide) (fun c z => ⟨ho c z, by subst z; exact e1.symm⟩) (by subst e1; cases t <;> intro m hm hn <;> first | exact absurd rfl (hn _) | (cases hm; first | (show kitB _ _ = some true; decide +kernel) | (show kitB _ _ = some false; decide +kernel))))
    | bl k => exact go (.base (.bl k)) (kit_data am (by decide) (fun c z => ⟨ho c z, by subst z; exact e1.symm⟩) (by subst e1; cases t <;> intro m hm hn <;> first | exact absurd rfl (hn _) | (cases hm; first | (show kitB _ _ = some true; decide +kernel) | (show kitB _ _ = some false; decide +kernel))))
    | int i => exact go (.base (.int i)) (kit_data am (by decide) (fun c z => ⟨ho c z, by subst z; exact e1.symm⟩) (by subst e1; cases t <;> intro m hm hn <;> first | exact absurd rfl (hn _) | (cases hm; first | (show kitB _ _ = some true; decide +kernel) | (show kitB _ _ = some false; decide +kernel))))
    | str i => exact go (.base (.str i)) (kit_data am (by decide) (fun c z => ⟨ho c z, by subst z; exact e1.symm⟩) (by subst e1; cases t <;> intro m hm hn <;> first | exact absurd rfl (hn _) | (cases hm; first | (show kitB _ _ = some true; decide +kernel) | (show kitB _ _ = some false; decide +kernel))))
    | lst h1 h2 => exact go (.base (.lst (r.sub _ _ h1))) (kit_data am (by decide) (fun c z => ⟨ho c z, by subst z; exact e1.symm⟩) (by subst e1; cases t <;> intro m hm hn <;> first | exact absurd rfl (hn _) | (cases hm; first | (show kitB _ _ = some true; decide +kernel) | (show kitB _ _ = some false; decide +kernel))))
    | tup h1 h2 =>
      have q : PySem.W.kitOne X.K (.type "tuple") (tyVv T t) = some b := kit_data am (by decide) (fun c z => ⟨ho c z, by subst z; exact e1.symm⟩) (by subst e1; cases t <;> intro m hm hn <;> first | exact absurd rfl (hn _) | (cases hm; first | (show kitB _ _ = some true; decide +kernel) | (show kitB _ _ = some false; decide +kernel)))
      rcases h1 with ⟨_, h1⟩ | ⟨_, o, h1, _⟩
      · exact go (.base (.tup (r.sub _ _ h1))) q
      · exact go (.fTuple (r.sub _ _ h1)) q
    | d0 h1 => exact go (.base (.dK (r.sub _ _ h1))) (kit_data am (by decide) (fun c z => ⟨ho c z, by subst z; exact e1.symm⟩) (by subst e1; cases t <;> intro m hm hn <;> first | exact absurd rfl (hn _) | (cases hm; first | (show kitB _ _ = some true; decide +kernel) | (show kitB _ _ = some false; decide +kernel))))
    | @ins c a dx vs fs hc ha hfs =>
      have hc2 : c < C.slots.length := by rw [← am.nc]; exact hc
      cases rx
      obtain ⟨us, od, _, _, J⟩ := slAt_get I (SlAt.sub r.sub ha)
      obtain ⟨s0, hs0⟩ : ∃ s0, C.slots[c]? = some s0 := ⟨_, List.getElem?_eq_getElem hc2⟩
      have k1 := (am.sl c s0 hs0).1
      have k2 := am.si c hc2
      refine ⟨_, _, OwX.kitx_slt k1.ic k1.pg k2.ca k2.cn k2.ct k2.cm, J, (fun z => nomatch z), ?_⟩
      replace e1 : tyO c t = b := e1
      subst e1
      cases t with
      | own c' => exact am.kc c c' hc2 (ho c' rfl)
      | int => exact (am.ko c hc2 "int" (by decide)).1
      | bool => exact (am.ko c hc2 "bool" (by decide)).1
      | str => exact (am.ko c hc2 "str" (by decide)).1
      | tup => exact (am.ko c hc2 "tuple" (by decide)).1
      | lst => exact (am.ko c hc2 "list" (by decide)).1
      | dict => exact (am.ko c hc2 "dict" (by decide)).1
  | ref n =>
    replace e : (match getO st n with
      | some (.lst _) => some (tyL t)
      | some (.dK _) => some (tyDi t)
      | some (.dT _) => some (tyDi t)
      | _ => none) = some b := e
    split at e
    · rename_i l h0
      obtain ⟨a, rfl, _, _, ys, h1, h2⟩ := VlR.obj r hv h0
      have e1 := Option.some.inj e
      exact go (.base (.lst h1)) (kit_data am (by decide) (fun c z => ⟨ho c z, by subst z; exact e1.symm⟩) (by subst e1; cases t <;> intro m hm hn <;> first | exact absurd rfl (hn _) | (cases hm; first | (show kitB _ _ = some true; decide +kernel) | (show kitB _ _ = some false; decide +kernel))))
    · rename_i l h0
      obtain ⟨a, rfl, _, _, ys, h1, h2⟩ := VlR.obj r hv h0
      have e1 := Option.some.inj e
      exact go (.base (.dK h1)) (kit_data am (by decide) (fun c z => ⟨ho c z, by subst z; exact e1.symm⟩) (by subst e1; cases t <;> intro m hm hn <;> first | exact absurd rfl (hn _) | (cases hm; first | (show kitB _ _ = some true; decide +kernel) | (show kitB _ _ = some false; decide +kernel))))
    · rename_i l h0
      obtain ⟨a, rfl, _, _, ys, h1, h2⟩ := VlR.obj r hv h0
      have e1 := Option.some.inj e
      exact go (.base (.dT h1)) (kit_data am (by decide) (fun c z => ⟨ho c z, by subst z; exact e1.symm⟩) (by subst e1; cases t <;> intro m hm hn <;> first | exact absurd rfl (hn _) | (cases hm; first | (show kitB _ _ = some true; decide +kernel) | (show kitB _ _ = some false; decide +kernel))))
    · cases e
  | scr l => cases e
  | kc l => cases e
theorem cr_isi (am : Amb T C W cf nf X) (t : Ty) (ho : ∀ c, t = .own c → c < C.slots.length) : CallR X (.builtin "isinstance") (fun xs H Q => ∃ ρ F st v x b, xs = [x, tyVl T t] ∧ Rl T ρ F H st ∧ VlR T ρ F v x ∧ isTy st t v = some b ∧ Q (.bl b) H) := by
  intro pins s σ H xs us Q I rr h
  obtain ⟨ρ, F, st, v, x, b, rfl, r, hv, e, q⟩ := h
  obtain ⟨u1, u2, rfl, r1, r2⟩ := vals2 rr
  obtain rfl := tyVl_v t r2
  obtain ⟨ty, P, k1, k2, k3, k4⟩ := isi_kit am I r hv r1 ho e
  exact PySem.W.kia_one k1 I.kIn k2 k4 k3 fun tk => ⟨.bl b, H, I.tok tk, rfl, q⟩
theorem e_ty (am : Amb T C W cf nf X) (hs : X.env.scope = sc) {t : Ty} {e : Expr} (h : isiOk C sc [t] e = true) : PE X e (tC (tyVl T t)) ∧ ∀ c, t = .own c → c < C.slots.length := by
  unfold isiOk at h
  simp only at h
  split at h
  · rename_i m hm
    obtain ⟨p, rfl⟩ := asName_eq hm
    rw [Bool.and_eq_true] at h
    obtain ⟨g1, g2, g3⟩ := gl_of hs h.1
    have big : ∀ (n : String) (hv : bootBuiltins m = some (.type n)), decide (m ∈ C.free) = true → PE X (.Name m p) (tC (.ty n)) := fun n hv hf => pe_bltn (v := .ty n) g1 (fr_of am hf) hv rfl g3 g2
    cases t with
    | own c =>
      have h2 := h.2
      simp only [Bool.and_eq_true, decide_eq_true_eq] at h2
      obtain ⟨q1, q2, q3⟩ := am.cl m c (isGE_eq h2.1)
      exact ⟨pe_glob (v := .ref (T.cA c)) g1 q1 rfl g2, fun c' z => by cases z; exact h2.2⟩
    | int =>
      have h2 := h.2
      simp only [Bool.and_eq_true, decide_eq_true_eq] at h2
      cases h2.1
      exact ⟨big "int" (by decide +kernel) (by simpa using h2.2), fun c z => by cases z⟩
    | bool =>
      have h2 := h.2
      simp only [Bool.and_eq_true, decide_eq_true_eq] at h2
      cases h2.1
      exact ⟨big "bool" (by decide +kernel) (by simpa using h2.2), fun c z => by cases z⟩
    | str =>
      have h2 := h.2
      simp only [Bool.and_eq_true, decide_eq_true_eq] at h2
      cases h2.1
      exact ⟨big "str" (by decide +kernel) (by simpa using h2.2), fun c z => by cases z⟩
    | tup =>
      have h2 := h.2
      simp only [Bool.and_eq_true, decide_eq_true_eq] at h2
      cases h2.1
      exact ⟨big "tuple" (by decide +kernel) (by simpa using h2.2), fun c z => by cases z⟩
    | lst =>
      have h2 := h.2
      simp only [Bool.and_eq_true, decide_eq_true_eq] at h2
      cases h2.1
      exact ⟨big "list" (by decide +kernel) (by simpa using h2.2), fun c z => by cases z⟩
    | dict =>
      have h2 := h.2
      simp only [Bool.and_eq_true, decide_eq_true_eq] at h2
      cases h2.1
      exact ⟨big "dict" (by decide +kernel) (by simpa using h2.2), fun c z => by cases z⟩
  · cases h
theorem e_isi {x t : Expr} {a : Ex} {ty : Ty} {p pos : Pos} (am : Amb T C W cf nf X) (hs : X.env.scope = sc) (h2 : gloB sc "isinstance" = true) (h3 : decide (("isinstance" : Str) ∈ C.free) = true) (s1 : isStar x = false) (s2 : isStar t = false) (ht : isiOk C sc [ty] t = true) (h1 : PE X x (tE T W cf nf a)) :
    PE X (.Call (.Name "isinstance" p) [x, t] [] pos) (tE T W cf nf (.isi a [ty])) := by
  obtain ⟨g1, g2, g3⟩ := gl_of hs h2
  obtain ⟨q1, q2⟩ := e_ty am hs ht
  have q := pe_callB (p := p) (pos := pos) (cr_isi (T := T) am ty q2) g1 (fr_of am h3) (by decide +kernel) (pa_cons h1 (pa_cons q1 pa_nil (star_cons s2 [] X.env)) (star_cons s1 [t] X.env)) g3 g2 (star_cons s1 [t] X.env) (by rw [star_cons s2]; rfl)
  refine q.imp fun σ H Q ⟨ρ, F, env, st, r, en, h⟩ => ?_
  unfold evE at h
  refine seqE r en h fun ρ1 F1 H1 st1 v y p1 s1 r1 en1 hv h1 => ?_
  obtain ⟨b, e, h2⟩ := retB_ok h1
  have e2 : isTy st1 ty v.1 = some b := by
    replace e : (match isTy st1 ty v.1 with | some true => some true | some false => some false | none => none) = some b := e
    split at e
    · rename_i q; rw [q]; exact e
    · rename_i q; rw [q]; exact e
    · cases e
  exact ⟨ρ1, F1, st1, v.1, y, b, rfl, r1, hv, e2, OkP.dat h2 r1 (.bl b)⟩
end
end Ev
end

section
set_option Elab.async false
set_option linter.all false
set_option maxRecDepth 100000
set_option maxHeartbeats 4000000
/-! Ev16b: displays with starred items. -/
namespace Ev
open PySem PySem.Spec PyProof.Rows L2
section
variable {T : Tab} {W : XW} {C : Ck} {cf nf : CallF} {X : Cx} {sc : Scope} {ρ : List Addr} {F H : Hp} {st : Store} {env : Env} {σ : L2.St}
def tF (T : Tab) (W : XW) (cf nf : CallF) (irs : List Ex) (fl : List Bool) : TA := fun σ H Q => ∃ ρ F env st, Rl T ρ F H st ∧ EnvR T ρ F [] env σ ∧ OkR T W ρ F (evFs cf nf irs fl env st) fun vs _ ρ' F' H' => ∀ xs, VlsR T ρ' F' vs xs → Q xs H'
theorem seqF {a : List Ex} {fl : List Bool} {α : Type} {f : List Vl → Store → R α} {k : α → Store → List Addr → Hp → Hp → Prop} {Q1 : List V → Hp → Prop} (r : Rl T ρ F H st) (en : EnvR T ρ F [] env σ) (h : OkR T W ρ F ((evFs cf nf a fl env st).bind f) k)
    (hq : ∀ ρ1 F1 H1 st1 v x, ρ <+: ρ1 → Sub F F1 → Rl T ρ1 F1 H1 st1 → EnvR T ρ1 F1 [] env σ → VlsR T ρ1 F1 v x → OkR T W ρ1 F1 (f v st1) k → Q1 x H1) : tF T W cf nf a fl σ H Q1 :=
  ⟨ρ, F, env, st, r, en, (OkR.bind h).imp fun v st1 ρ1 F1 H1 p s r1 q x fx => hq ρ1 F1 H1 st1 v x p s r1 (en.mono p s) fx q⟩
theorem VlsR.data : ∀ {l : List PyData} {xs : List V} {vs : List Vl} {ys : List V}, DqAll T.kc F xs l → VlsR T ρ F vs ys → VlsR T ρ F (l.map Vl.d ++ vs) (xs ++ ys)
  | _, _, _, _, .nil, h => h
  | _, _, _, _, .cons a r, h => .cons a (VlsR.data r h)
theorem f_nil {fl : List Bool} : PA X [] (tF T W cf nf [] fl) := pa_nil.imp fun σ H Q ⟨ρ, F, env, st, r, en, h⟩ => h ρ F H (List.prefix_refl _) (Sub.refl F) r [] .nil
theorem f_cons {e : Expr} {es : List Expr} {a : Ex} {as : List Ex} {fl : List Bool} (hf : fl.headD false = false) (hs : isStar e = false) (h1 : PE X e (tE T W cf nf a)) (h2 : PA X es (tF T W cf nf as fl.tail)) : PA X (e :: es) (tF T W cf nf (a :: as) fl) :=
  (pa_cons h1 h2 (star_cons hs es X.env)).imp fun σ H Q ⟨ρ, F, env, st, r, en, h⟩ => by
    unfold evFs at h
    simp only [hf] at h
    refine seqE r en h fun ρ1 F1 H1 st1 v x p1 s1 r1 en1 hv h1 => ?_
    refine seqF r1 en1 h1 fun ρ2 F2 H2 st2 vs xs p2 s2 r2 en2 hvs h2 => ?_
    exact h2 ρ2 F2 H2 (List.prefix_refl _) (Sub.refl F2) r2 _ (.cons (hv.mono p2 s2) hvs)
theorem seq_at (r : Rl T ρ F H st) {v : Vl} {x : V} {l : List PyData} (hv : VlR T ρ F v x) (e : (datD st v).bind seqOf = some l) : ∃ p xs, x = V.ref p ∧ (SqT T.K H p xs ∨ SqL T.K H p xs) ∧ DqAll T.kc F xs l := by
  obtain ⟨d, e1, e2⟩ := bind_some e
  have hd := hv.dat r e1
  unfold seqOf at e2
  split at e2
  · cases e2
    obtain ⟨a, xs, rfl, h1, h2⟩ := hd.lst r.sub
    exact ⟨a, xs, rfl, .inr (SqL.of h1), h2⟩
  · cases e2
    obtain ⟨a, xs, rfl, h1, h2⟩ := hd.tup
    exact ⟨a, xs, rfl, .inl (h1.sub r.sub).sq, h2⟩
  · cases e2
theorem f_star {e : Expr} {es : List Expr} {a : Ex} {as : List Ex} {fl : List Bool} {p : Pos} (am : Amb T C W cf nf X) (hf : fl.headD false = true) (h1 : PE X e (tE T W cf nf a)) (h2 : PA X es (tF T W cf nf as fl.tail)) : PA X (.Starred e p :: es) (tF T W cf nf (a :: as) fl) :=
  (StX.pa_star h1 h2 rfl).imp fun σ H Q ⟨ρ, F, env, st, r, en, h⟩ => by
    unfold evFs at h
    simp only [hf] at h
    refine seqE r en h fun ρ1 F1 H1 st1 v x p1 s1 r1 en1 hv h1 => ?_
    split at h1
    · rename_i l e1
      obtain ⟨p, xs, rfl, q1, q2⟩ := seq_at r1 hv e1
      refine ⟨p, xs, rfl, by rw [← am.hT]; exact q1, ?_⟩
      refine seqF r1 en1 h1 fun ρ2 F2 H2 st2 vs ys p2 s2 r2 en2 hvs h2 => ?_
      exact h2 ρ2 F2 H2 (List.prefix_refl _) (Sub.refl F2) r2 _ (VlsR.data (DqAll.sub s2 q2) hvs)
    · exact h1.elim
theorem e_tupF {es : List Expr} {as : List Ex} {fl : List Bool} {k : Nat} {p : Pos} (h1 : PA X es (tF T W cf nf as fl)) : PE X (.Tuple es k p) (tE T W cf nf (.spl true fl as)) := by
  refine ⟨fun pins s σ H Q I ⟨ρ, F, env, st, r, en, h⟩ => ?_⟩
  unfold evE at h
  refine wpAny_Tuple_spliced (thn (h1.run p pins s σ H (fun xs H1 => ∃ ρ1 F1 st2 ds, Rl T ρ1 F1 H1 st2 ∧ DqAll T.kc F1 xs ds ∧ ds.length ≤ limZ ∧ OkP T W ρ1 F1 (.ok (.d (.tuple ds), false) st2) Q) I ?_) fun us s1 ⟨xs, H1, I1, rv, ρ1, F1, st2, ds, r1, hd, c, hk⟩ => ?_)
  · refine seqF r en h fun ρ1 F1 H1 st1 vs xs p1 s1 r1 en1 hv h1 => ?_
    split at h1
    · rename_i ds st2 e1
      split at h1
      · rename_i c
        obtain ⟨F2, s2, r2, d2⟩ := hv.frzd r1 e1
        exact ⟨ρ1, F2, st2, ds, r2, d2, c, OkR.mono h1 (List.prefix_refl _) s2⟩
      · exact h1.elim
    · exact h1.elim
  · have hz : xs.length ≤ sizeLine := by rw [hd.length, ← limZ_eq]; exact c
    exact ⟨by rw [← rv.length]; exact hz, OkP.lay (tk := s1.toks) hk r1 I1 hd rv hz⟩
theorem e_lstF {es : List Expr} {as : List Ex} {fl : List Bool} {p : Pos} (h1 : PA X es (tF T W cf nf as fl)) : PE X (.List es p) (tE T W cf nf (.spl false fl as)) :=
  (pe_lst h1).imp fun σ H Q ⟨ρ, F, env, st, r, en, h⟩ => by
    unfold evE at h
    refine seqF r en h fun ρ1 F1 H1 st1 vs xs p1 s1 r1 en1 hv h1 => ?_
    split at h1
    · rename_i ds st2 e1
      split at h1
      · rename_i c
        obtain ⟨F2, s2, r2, d2⟩ := hv.frzd r1 e1
        refine ⟨by rw [d2.length, ← limZ_eq]; exact c, fun q hq => OkP.newL (OkR.mono h1 (List.prefix_refl _) s2) r2 d2 hq⟩
      · exact h1.elim
    · exact h1.elim
end
end Ev
end

section
set_option Elab.async false
set_option linter.all false
set_option maxRecDepth 100000
set_option maxHeartbeats 4000000
/-! EvM1: own defs by a property, len, str, ==; texts of parts. -/
namespace Ev
open PySem PySem.Spec PyProof.Rows L2
/-- where the own def of the class at C stands -/
def MsK (K : PySem.W.Frag) (C : Addr) (k : Pk) (g : Addr) : Prop := match k with
  | .get n => ∃ p rest, PySem.W.findIn K (.ref C) n = some (some (.ref p)) ∧ PySem.W.specialIn K (.ref p) "__get__" = some (some (.builtin "property.__get__")) ∧ PySem.W.takesIn K (.ref p) = some true ∧ PySem.W.recIn K p "property" = some (.ref g :: rest)
  | .len => PySem.W.findIn K (.ref C) "__len__" = some (some (.ref g)) ∧ PySem.W.isFn K (.ref g) = true
  | .str => PySem.W.findIn K (.ref C) "__str__" = some (some (.ref g)) ∧ PySem.W.isFn K (.ref g) = true
  | .eq => PySem.W.findIn K (.ref C) "__eq__" = some (some (.ref g)) ∧ PySem.W.isFn K (.ref g) = true
  | .ne => PySem.W.findIn K (.ref C) "__eq__" = some (some (.ref g)) ∧ PySem.W.isFn K (.ref g) = true ∧ PySem.W.findIn K (.ref C) "__ne__" = some (some (.builtin "object.__ne__")) ∧ PySem.W.mroIn K C (.type "object") = some true
/-- the def at g runs, and raises nothing -/
def OwnC (X : Cx) (g : Addr) (r : List V → Hp → VK → Prop) : Prop := ∀ A1 : Around, (A1 = X.A ∨ A1 = X.A.in1 ∨ A1 = X.A.in1.in1) → ∀ (pins : List (Addr × Obj)) (s : Shared) (σ : L2.St) (H : Hp) (xs : List V) (us : List Value) (Q : VK), L2.Inv X pins σ H s → Vals xs us → r xs H Q →
  codeAny (model X.prog X.w) A1 (.call (.ref g) ⟨us, []⟩) (fun res s' => match res with | .ok (.ret v) => EP X pins σ Q v s' | _ => False) s
section
variable {X : Cx} {C g : Addr} {r : List V → Hp → VK → Prop}
theorem OwnC.call {A1 : Around} {E : Value → Shared → Prop} (o : OwnC X g r) (hA : A1 = X.A ∨ A1 = X.A.in1 ∨ A1 = X.A.in1.in1) {pins : List (Addr × Obj)} {s : Shared} {σ : L2.St} {H : Hp} {xs : List V} {us : List Value} {Q : VK} (I : L2.Inv X pins σ H s) (rv : Vals xs us) (h : r xs H Q) :
    wpAny (model X.prog X.w) A1 (call (.ref g) us) (EP X pins σ Q) E s := by
  apply wpAny_call
  refine codeAny_mono (o A1 hA pins s σ H xs us Q I rv h) fun res s2 hr => ?_
  match res, hr with
  | .error e, hr => exact hr.elim
  | .ok (.ret u), hr => exact hr
  | .ok .next, hr => exact hr.elim
  | .ok .brk, hr => exact hr.elim
  | .ok .cont, hr => exact hr.elim
theorem ms_get {n : Str} (sc : SCls X.K C) (mk : MsK X.K C (.get n) g) (o : OwnC X g r) : MsR X C (.get n) r := by
  intro pins s σ H a dx vs Q I hs h b
  obtain ⟨p, rest, at_, get, tk, hrec⟩ := mk
  obtain ⟨us, od, _, _, J⟩ := slAt_get I hs
  have I1 : L2.Inv X pins σ H { s with toks := s.toks + 1 } := I.tok (s.toks + 1)
  refine PySem.W.get_bind I.kIn J (PySem.W.plainGet_of sc.pg).1 (PySem.W.findObj_data sc.ic at_ get tk) ?_ (wpAny_call (PySem.W.prop_get (s := { s with toks := s.toks + 1 }) I.kIn hrec ?_))
  · exact (PySem.W.plainGet_of sc.pg).2
  · refine codeAny_mono (o X.A.in1 (.inr (.inl rfl)) pins { s with toks := s.toks + 1 } σ H [.ref a] [.ref a] Q I1 (.cons rfl .nil) h) fun res s' hq => ?_
    match res, hq with
    | .error e, hq => exact hq.elim
    | .ok (.ret u), ⟨v, H', I2, rv, q⟩ => exact wpAny_of_eq (PySem.W.handedOut_of (handed_of rv)) ⟨v, H', I2, rv, q⟩
    | .ok .next, hq => exact hq.elim
    | .ok .brk, hq => exact hq.elim
    | .ok .cont, hq => exact hq.elim
theorem ms_len (mk : MsK X.K C .len g) (o : OwnC X g r) : MsR X C .len r := by
  intro pins s σ H a dx vs Q I hs h
  obtain ⟨m1, m2⟩ := mk
  obtain ⟨us, od, _, _, J⟩ := slAt_get I hs
  refine Calls.call_function_entry kind_len plain_len entry_len (args_len1 _) ?_
  unfold Builtin.«len»
  refine wpAny_bind (m := oneArg "len" _) (wpAny_pure ?_)
  refine wpAny_bind (m := callSpecial? (.ref a) (Str.ofString "__len__")) (PySem.W.special_fn I.kIn J m1 (beq_iff_eq.mp m2) (wpAny_mono (o.call (xs := [.ref a]) (.inr (.inl rfl)) I (.cons rfl .nil) h) (fun r s' hr => ?_) fun _ _ y => y))
  obtain ⟨z, H', I', rz, i, rfl, h0, h1, q⟩ := hr
  obtain ⟨t, rfl⟩ := rz
  refine wpAny_bind (wpAny_holding (wpAny_pure ?_))
  refine wpAny_bind (wpAny_letGo ?_)
  show wpAny _ _ (if i < 0 then _ else _) _ _ _
  rw [if_neg (by omega)]
  show wpAny _ _ (if i ≥ 2 ^ 63 then _ else _) _ _ _
  rw [if_neg (by omega)]
  exact wpAny_bind (wpAny_mkInt (wpAny_pure ⟨_, rfl, .int i, H', I'.tok _, ⟨_, rfl⟩, q⟩))
theorem ms_str (hu : X.A.units + 200 < cLine) (mk : MsK X.K C .str g) (o : OwnC X g r) : MsR X C .str r := by
  intro pins s σ H a dx vs Q I hs h
  obtain ⟨m1, m2⟩ := mk
  obtain ⟨us, od, _, _, J⟩ := slAt_get I hs
  refine PySem.W.kso_call (by show X.A.units + 1 + 1 < _; omega) I.kIn J m1 m2 (wpAny_mono (o.call (xs := [.ref a]) (.inr (.inr rfl)) I (.cons rfl .nil) h) (fun r s' hr => ?_) fun _ _ y => y)
  obtain ⟨z, H', I', rz, y, rfl, q⟩ := hr
  obtain ⟨t, rfl⟩ := rz
  exact ⟨.str y, H', I', ⟨t, rfl⟩, q⟩
theorem ms_eq (hu : X.A.units + 200 < cLine) (mk : MsK X.K C .eq g) (o : OwnC X g r) : MsR X C .eq r := by
  intro pins s σ H a dx vs Q I hs y u tb ry nf lt h
  obtain ⟨m1, m2⟩ := mk
  obtain ⟨us, od, _, _, J⟩ := slAt_get I hs
  obtain ⟨m, hF⟩ := I.fr
  show wpAny _ _ (richCompare .Eq (.ref a) u) _ _ _
  refine PySem.W.cmp_K (op := .Eq) (tb := tb) (by omega) hF I.ok.mod.kin J lt nf m1 m2 ?_
  refine wpAny_mono (o.call (xs := [.ref a, y]) (.inl rfl) I (.cons rfl (.cons ry .nil)) h) (fun w s' z => ?_) fun _ _ x => x
  obtain ⟨z', H', I', rz, b, rfl, q⟩ := z
  cases rz
  exact ⟨.bl b, H', I', rfl, q⟩
theorem ne_bind (self : Value) : bindSpecial (.builtin "object.__ne__") self = pure (.builtin "object.__ne__", [self]) := PySem.F.slot_object_ne.bind self
theorem objNe_own {M : Model} {A : Around} {E : Value → Shared → Prop} {Q : Fin → Shared → Prop} {x y : Value} {s : Shared} (hu : A.units < cLine) (h : wpAny M A (callSpecialIfBound? x (Str.ofString "__eq__") [y]) (fun r s' => ∃ b, r = some (.bool b) ∧ Q (.done (.ret (.bool !b))) s') E s) :
    wpAny M A (Builtin.«object.__ne__» ⟨[x, y], []⟩) Q E s := by
  unfold Builtin.«object.__ne__»
  repeat (first
    | with_reducible refine wpAny_cRoomFor hu ?_
    | (refine wpAny_bind (m := callSpecialIfBound? x (Str.ofString "__eq__") [y])
        (wpAny_mono h (fun r s' hr => by
          obtain ⟨b, rfl, hq⟩ := hr
          repeat (first | exact hq | exact wpAny_pure hq | exact wpAny_truthy_bool hq | (refine wpAny_bind (m := truthy (.bool _)) (wpAny_truthy_bool ?_)) | wp_step)) fun _ _ e => e))
    | wp_step)
theorem ms_ne (hu : X.A.units + 200 < cLine) (mk : MsK X.K C .ne g) (o : OwnC X g r) : MsR X C .ne r := by
  intro pins s σ H a dx vs Q I hs y u tb ry nf lt h
  obtain ⟨m1, m2, m3, m4⟩ := mk
  obtain ⟨us, od, _, _, J⟩ := slAt_get I hs
  obtain ⟨m, hF⟩ := I.fr
  have KX : X.K.In s.heap := I.kIn
  have inner : wpAny (model X.prog X.w) X.A (call (.builtin "object.__ne__") [.ref a, u]) (EP X pins σ Q) X.xe s := by
    refine wpAny_call (codeAny_call_builtin PySem.F.slot_object_ne.plain PySem.F.cmpEntry_ne (PySem.W.check_slot PySem.F.cmpKind_ne PySem.F.cmpSplit_ne (J.type.andThen (PySem.W.looks_mroIn KX m4)) (PySem.F.cmpArgs_ne _ _) ?_))
    refine objNe_own (by show X.A.units + 1 < _; omega) (PySem.W.ifBound_K KX J m1 m2 (wpAny_mono (o.call (xs := [.ref a, y]) (.inr (.inl rfl)) I (.cons rfl (.cons ry .nil)) h) (fun r s' hr => ?_) fun _ _ e => e))
    obtain ⟨z, H', I', rz, b, rfl, hq⟩ := hr
    cases rz
    exact ⟨b, rfl, .bl !b, H', I', rfl, hq⟩
  have one : wpAny (model X.prog X.w) X.A (tryCompare (.ref a) "__ne__" u) (fun r s' => ∃ v, r = some v ∧ EP X pins σ Q v s') X.xe s := by
    unfold tryCompare
    have sp : wpAny (model X.prog X.w) X.A (callSpecialIfBound? (.ref a) "__ne__" [u]) (fun r s' => ∃ v, r = some v ∧ v ≠ .notImplemented ∧ EP X pins σ Q v s') X.xe s := by
      simp only [callSpecialIfBound?, bindSpecialIfBound?]
      refine wpAny_holding (wpAny_bind (wpAny_bind (wpAny_bind (J.type.here ((PySem.W.looks_findIn KX m3).here ?_)))))
      simp only [ne_bind]
      refine wpAny_bind (wpAny_askSetting (wpAny_ite ?_))
      have fin : wpAny (model X.prog X.w) X.A (call (.builtin "object.__ne__") ([.ref a] ++ [u]) >>= fun v => pure (some v)) (fun r s' => ∃ v, r = some v ∧ v ≠ .notImplemented ∧ EP X pins σ Q v s') X.xe s :=
        wpAny_bind (wpAny_mono inner (fun v s' h' => wpAny_pure ⟨v, rfl, by
          obtain ⟨z, _, _, rz, _⟩ := h'
          rintro rfl
          cases z <;> first | (cases rz; done) | (obtain ⟨_, e⟩ := rz; cases e), h'⟩) fun _ _ h' => h')
      split
      · exact wpAny_bind (wpAny_pure (wpAny_pure fin))
      · exact wpAny_tryCatch (wpAny_bind (wpAny_pure (wpAny_pure fin)))
    refine wpAny_bind (wpAny_mono sp (fun r s' hr => ?_) fun _ _ e => e)
    obtain ⟨v, rfl, hv, q⟩ := hr
    cases v <;> first | exact (hv rfl).elim | exact wpAny_pure ⟨_, rfl, q⟩
  show wpAny _ _ (richCompare .NotEq (.ref a) u) _ _ _
  unfold richCompare
  simp only [oneThing_ref]
  refine wpAny_holding (wpAny_bind (wpAny_cRoomFor (by omega) ?_))
  rw [cmpInfo_NotEq]
  dsimp only
  refine wpAny_bind (J.type.here (wpAny_bind (lt.here ?_)))
  split
  · rename_i q
    have e : PySem.W.subIn X.K tb (.ref C) = some false := by
      rcases Bool.or_eq_true_iff.mp nf with e | e
      · rw [beq_iff_eq.mp e] at q; simp at q
      · exact beq_iff_eq.mp e
    refine wpAny_bind ((PySem.W.looks_subIn KX e).here ?_)
    simp only [Bool.false_eq_true, if_false]
    refine wpAny_bind (wpAny_mono one (fun r s' z => ?_) fun _ _ e => e)
    obtain ⟨v, rfl, hq⟩ := z
    exact wpAny_pure hq
  · refine wpAny_bind (wpAny_pure ?_)
    simp only [Bool.false_eq_true, if_false]
    refine wpAny_bind (wpAny_mono one (fun r s' z => ?_) fun _ _ e => e)
    obtain ⟨v, rfl, hq⟩ := z
    exact wpAny_pure hq
theorem ms_ok {k : Pk} (hu : X.A.units + 200 < cLine) (sc : SCls X.K C) (mk : MsK X.K C k g) (o : OwnC X g r) : MsR X C k r := by
  cases k with
  | get n => exact ms_get sc mk o
  | len => exact ms_len mk o
  | str => exact ms_str hu mk o
  | eq => exact ms_eq hu mk o
  | ne => exact ms_ne hu mk o
end
/-! ### the expressions -/
section
variable {T : Tab} {W : XW} {C : Ck} {cf nf : CallF} {X : Cx} {sc : Scope} {ρ : List Addr} {F H : Hp} {st : Store} {Q : VK}
theorem propV_some {cs : List (Nat × Nat)} {v : Vl} {f : Nat} (h : propV cs v = some f) : ∃ c fs, v = .d (encI c fs) ∧ cs.lookup c = some f := by
  cases v with
  | d x =>
    obtain ⟨p, e1, e2⟩ := bind_some (show (insD x).bind (fun p => cs.lookup p.1) = some f from h)
    obtain ⟨c, fs⟩ := p
    rw [insD_eq e1]
    exact ⟨c, fs, rfl, e2⟩
  | _ => cases h
theorem msOk_at {k : Pk} {cs : List (Nat × Nat)} {c f : Nat} (h : msOk C k cs = true) (e : cs.lookup c = some f) : (k, c, f) ∈ C.ms := by
  unfold msOk at h
  rw [List.all_eq_true] at h
  exact of_decide_eq_true (h (c, f) (memL e))
theorem frr_d {H : Hp} {d : PyData} {b : Bool} {x : V} (hd : ∀ l, d ≠ .list l) (h : FrR T ρ F H (.d d, b) x) : Dq T.kc F x d := by
  rcases h with ⟨_, q⟩ | ⟨_, l, a, xs, e1, _⟩
  · exact q
  · cases e1; exact (hd l rfl).elim
/-- what the own def answers -/
theorem prop_post {k : Pk} {y : R (Vl × Bool)} (hk : k ≠ .eq ∧ k ≠ .ne) (h : OkP T W ρ F ((R.calm y).bind fun y st2 => propR k y st2) Q) : OkP T NW ρ F y (msPost k Q) := by
  refine (OkR.calm (OkR.bind h)).imp fun v st1 ρ1 F1 H1 p1 s1 r1 q x fx => ?_
  cases k with
  | get n => exact OkP.here q r1 fx
  | len =>
    replace q : OkP T W ρ1 F1 (match v.1 with
      | .d (.int n) => if 0 ≤ n ∧ n < 4611686018427387904 then .ok (.d (.int n), false) st1 else .no
      | _ => .no) Q := q
    split at q
    · rename_i n e
      split at q
      · rename_i hn
        obtain ⟨v, b⟩ := v
        simp only at e
        subst e
        have hx := frr_d (by intro l z; cases z) fx
        cases hx
        exact ⟨n, rfl, hn.1, hn.2, OkP.dat q r1 (.int n)⟩
      · exact q.elim
    · exact q.elim
  | str =>
    replace q : OkP T W ρ1 F1 (match v.1 with
      | .d (.str z) => .ok (.d (.str z), false) st1
      | _ => .no) Q := q
    split at q
    · rename_i n e
      obtain ⟨v, b⟩ := v
      simp only at e
      subst e
      have hx := frr_d (by intro l z; cases z) fx
      cases hx
      exact ⟨n, rfl, OkP.dat q r1 (.str n)⟩
    · exact q.elim
  | eq => exact (hk.1 rfl).elim
  | ne => exact (hk.2 rfl).elim
/-- an own object, and what its def does -/
def PrP (T : Tab) (C : Ck) (cf : CallF) (k : Pk) (x : V) (H : Hp) (Q : VK) : Prop := ∃ c f a dx vs, (k, c, f) ∈ C.ms ∧ x = .ref a ∧ SlAt H a (T.cA c) dx vs ∧ rCf T NW cf f [.ref a] H (msPost k Q)
theorem prop_at {k : Pk} {o : Ex} {cs : List (Nat × Nat)} (hk : k ≠ .eq ∧ k ≠ .ne) (hm : msOk C k cs = true) {σ : L2.St} {H : Hp} {Q : VK} (h : tE T W cf nf (.prop k o cs) σ H Q) : tE T W cf nf o σ H fun x H1 => PrP T C cf k x H1 Q := by
  obtain ⟨ρ, F, env, st, r, en, h⟩ := h
  unfold evE at h
  refine seqE r en h fun ρ1 F1 H1 st1 v x p1 s1 r1 en1 hv h1 => ?_
  cases e : propV cs v.1 with
  | none => rw [e] at h1; exact h1.elim
  | some f =>
    rw [e] at h1
    obtain ⟨c, fs, e1, e2⟩ := propV_some e
    rw [e1] at hv
    obtain ⟨_, a, dx, vs, rfl, ha, _⟩ := insD_V hv
    exact ⟨c, f, a, dx, vs, msOk_at hm e2, rfl, SlAt.sub r1.sub ha, ρ1, F1, st1, [v.1], r1, .cons (by rw [e1]; exact hv) .nil, prop_post hk h1⟩
theorem e_get {o : Expr} {n : Str} {q : Pos} {oi : Ex} {cs : List (Nat × Nat)} (am : Amb T C W cf nf X) (hb : plainBase o = true) (hm : msOk C (.get n) cs = true) (h1 : PE X o (tE T W cf nf oi)) : PE X (.Attribute o n q) (tE T W cf nf (.prop (.get n) oi cs)) := by
  refine ⟨fun pins s σ H Q I h => ?_⟩
  refine attr_of (base_plain hb _ X.env) (thn (h1.run pins s σ H _ I (prop_at (k := .get n) ⟨(by intro z; cases z), (by intro z; cases z)⟩ hm h)) fun u s1 ⟨x, H1, I1, rx, c, f, a, dx, vs, hc, e, ha, hq⟩ => ?_)
  subst e
  cases rx
  exact am.ms _ c f hc X (Like.refl X) T.hid pins s1 σ H1 a dx vs Q I1 ha hq _
def rPr (T : Tab) (C : Ck) (cf : CallF) (k : Pk) : List V → Hp → VK → Prop := fun xs H Q => ∃ x, xs = [x] ∧ PrP T C cf k x H Q
theorem call_len_own (am : Amb T C W cf nf X) : CallR X (.builtin "len") (rPr T C cf .len) := by
  intro pins s σ H xs us Q I rv ⟨x, e, c, f, a, dx, vs, hc, e2, ha, hq⟩
  subst e e2
  obtain ⟨u, rfl, ru⟩ := rv.one
  cases ru
  exact am.ms _ c f hc X (Like.refl X) T.hid pins s σ H a dx vs Q I ha hq
theorem call_str_own (am : Amb T C W cf nf X) : CallR X (.type "str") (rPr T C cf .str) := by
  intro pins s σ H xs us Q I rv ⟨x, e, c, f, a, dx, vs, hc, e2, ha, hq⟩
  subst e e2
  obtain ⟨u, rfl, ru⟩ := rv.one
  cases ru
  exact am.ms _ c f hc X (Like.refl X) T.hid pins s σ H a dx vs Q I ha hq
theorem tE_imp {a : Ex} {σ : L2.St} {H : Hp} {Q Q' : VK} (h : tE T W cf nf a σ H Q) (i : ∀ x H1, Q x H1 → Q' x H1) : tE T W cf nf a σ H Q' := by
  obtain ⟨ρ, F, env, st, r, en, h⟩ := h
  exact ⟨ρ, F, env, st, r, en, h.imp fun v st1 ρ1 F1 H1 p1 s1 r1 q x hv => i x H1 (q x hv)⟩
theorem fr_of2 (am : Amb T C W cf nf X) {m : Str} (h : decide (m ∈ C.free) = true) : X.mg m = none := am.fr _ (of_decide_eq_true h)
theorem e_len {x : Expr} {oi : Ex} {cs : List (Nat × Nat)} {p pos : Pos} (am : Amb T C W cf nf X) (hs : X.env.scope = sc) (hm : msOk C .len cs = true) (h2 : gloB sc ("len" : Str) = true) (h3 : decide (("len" : Str) ∈ C.free) = true) (hst : isStar x = false) (h1 : PE X x (tE T W cf nf oi)) :
    PE X (.Call (.Name "len" p) [x] [] pos) (tE T W cf nf (.prop .len oi cs)) := by
  obtain ⟨g1, g2, g3⟩ := gl_of hs h2
  exact (pe_callB (call_len_own am) g1 (fr_of2 am h3) (by decide +kernel) (pa_cons h1 pa_nil (star_cons hst [] X.env)) g3 g2 (star_cons hst [] X.env) (star_any (es := []) rfl pos X.env)).imp fun σ H Q h =>
    (show tE T W cf nf oi σ H fun x H1 => rPr T C cf .len [x] H1 Q from tE_imp (prop_at (k := .len) ⟨by decide, by decide⟩ hm h) fun x H1 q => ⟨x, rfl, q⟩)
theorem e_str {x : Expr} {oi : Ex} {cs : List (Nat × Nat)} {p pos : Pos} (am : Amb T C W cf nf X) (hs : X.env.scope = sc) (hm : msOk C .str cs = true) (h2 : gloB sc ("str" : Str) = true) (h3 : decide (("str" : Str) ∈ C.free) = true) (hst : isStar x = false) (h1 : PE X x (tE T W cf nf oi)) :
    PE X (.Call (.Name "str" p) [x] [] pos) (tE T W cf nf (.prop .str oi cs)) := by
  obtain ⟨g1, g2, g3⟩ := gl_of hs h2
  exact (pe_callTy (call_str_own am) g1 (fr_of2 am h3) (by decide +kernel) (pa_cons h1 pa_nil (star_cons hst [] X.env)) g3 g2 (star_cons hst [] X.env) (star_any (es := []) rfl pos X.env)).imp fun σ H Q h =>
    (show tE T W cf nf oi σ H fun x H1 => rPr T C cf .str [x] H1 Q from tE_imp (prop_at (k := .str) ⟨by decide, by decide⟩ hm h) fun x H1 q => ⟨x, rfl, q⟩)
/-- x == y by an own def -/
def rEq (T : Tab) (C : Ck) (cf : CallF) (K : PySem.W.Frag) (k : Pk) : R2 := fun x y H Q => ∃ c f a dx vs, (k, c, f) ∈ C.ms ∧ x = .ref a ∧ SlAt H a (T.cA c) dx vs ∧ (y = .non ∧ PySem.W.notFirst K (T.cA c) (.type "NoneType") = true ∨ (∃ b ys, y = .ref b ∧ SqT K H b ys) ∧ PySem.W.notFirst K (T.cA c) (.type "tuple") = true ∨ ∃ b c' dy ws, y = .ref b ∧ SlAt H b (T.cA c') dy ws ∧ PySem.W.notFirst K (T.cA c) (.ref (T.cA c')) = true) ∧ rCf T NW cf f [x, y] H (msPost k Q)
theorem type_at2 {M : Model} {h : Heap} {y : Addr} {o : Obj} {v : Value} (ho : h.get? y = some o) (hc : o.cls = v) : PySem.W.Looks M h (typeOf (.ref y)) v := (PySem.W.Looks.ld ho).andThen (by rw [hc]; exact .now)
theorem eq_looks {pins : List (Addr × Obj)} {s : Shared} {σ : L2.St} {H : Hp} {y : V} {u : Value} {cA : Nat → Addr} {c : Nat} (I : L2.Inv X pins σ H s) (ry : RelV y u) (h : y = .non ∧ PySem.W.notFirst X.K (cA c) (.type "NoneType") = true ∨ (∃ b ys, y = .ref b ∧ SqT X.K H b ys) ∧ PySem.W.notFirst X.K (cA c) (.type "tuple") = true ∨ ∃ b c' dy ws, y = .ref b ∧ SlAt H b (cA c') dy ws ∧ PySem.W.notFirst X.K (cA c) (.ref (cA c')) = true) :
    ∃ tb, PySem.W.notFirst X.K (cA c) tb = true ∧ PySem.W.Looks (model X.prog X.w) s.heap (typeOf u) tb := by
  rcases h with ⟨rfl, h⟩ | ⟨⟨b, ys, rfl, hq⟩, h⟩ | ⟨b, c', dy, ws, rfl, hb, h⟩
  · cases ry
    exact ⟨_, h, .now⟩
  · cases ry
    obtain ⟨its, r, ⟨o, e, hc, n, hd⟩, _⟩ := I.tuple hq
    exact ⟨_, h, type_at2 e hc⟩
  · cases ry
    obtain ⟨us, od, _, _, J⟩ := slAt_get I hb
    exact ⟨_, h, J.type⟩
theorem op_eqo (am : Amb T C W cf nf X) : OpR X (compareOp .Eq) (rEq T C cf X.K .eq) := by
  intro pins s σ H x y v u Q I rx ry ⟨c, f, a, dx, vs, hc, e, ha, ht, hq⟩
  subst e
  cases rx
  obtain ⟨tb, h1, h2⟩ := eq_looks (X := X) I ry ht
  exact am.ms _ c f hc X (Like.refl X) T.hid pins s σ H a dx vs Q I ha y u tb ry h1 h2 hq
theorem op_neo (am : Amb T C W cf nf X) : OpR X (compareOp .NotEq) (rEq T C cf X.K .ne) := by
  intro pins s σ H x y v u Q I rx ry ⟨c, f, a, dx, vs, hc, e, ha, ht, hq⟩
  subst e
  cases rx
  obtain ⟨tb, h1, h2⟩ := eq_looks (X := X) I ry ht
  exact am.ms _ c f hc X (Like.refl X) T.hid pins s σ H a dx vs Q I ha y u tb ry h1 h2 hq
theorem eqo_post {ne : Bool} {y : R (Vl × Bool)} (h : OkP T W ρ F ((R.calm y).bind fun z st2 => eqoB ne z.1 st2) Q) : OkP T NW ρ F y (msPost (if ne then .ne else .eq) Q) := by
  refine (OkR.calm (OkR.bind h)).imp fun v st1 ρ1 F1 H1 p1 s1 r1 q x fx => ?_
  replace q : OkP T W ρ1 F1 (match v.1 with
    | .d (.bool b) => .ok (.d (.bool (if ne then !b else b)), false) st1
    | _ => .no) Q := q
  split at q
  · rename_i b e
    obtain ⟨v, z⟩ := v
    simp only at e
    subst e
    have hx := frr_d (by intro l z; cases z) fx
    cases hx
    cases ne with
    | true => exact ⟨b, rfl, OkP.dat q r1 (.bl _)⟩
    | false => exact ⟨b, rfl, OkP.dat q r1 (.bl _)⟩
  · exact q.elim
theorem eqo_at (am : Amb T C W cf nf X) {ne : Bool} {a b : Ex} {cs : List (Nat × Nat)} (hm : msOk C (if ne then .ne else .eq) cs = true) {σ : L2.St} {H : Hp} {Q : VK} (h : tE T W cf nf (.eqo ne a b cs) σ H Q) : tE T W cf nf a σ H fun x H1 => tE T W cf nf b σ H1 fun y H2 => rEq T C cf X.K (if ne then .ne else .eq) x y H2 Q := by
  obtain ⟨ρ, F, env, st, r, en, h⟩ := h
  unfold evE at h
  refine seqE r en h fun ρ1 F1 H1 st1 v x p1 s1 r1 en1 hv h1 => ?_
  refine seqE r1 en1 h1 fun ρ2 F2 H2 st2 w y p2 s2 r2 en2 hw h2 => ?_
  split at h2
  rotate_left
  · exact h2.elim
  rename_i hy
  have hv := hv.mono p2 s2
  cases e : propV cs v.1 with
  | none => rw [e] at h2; exact h2.elim
  | some f =>
    rw [e] at h2
    obtain ⟨c, fs, e1, e2⟩ := propV_some e
    have hv' := hv
    rw [e1] at hv'
    obtain ⟨hc, a, dx, vs, rfl, ha, _⟩ := insD_V hv'
    rw [am.nc] at hc
    refine ⟨c, f, a, dx, vs, msOk_at hm e2, rfl, SlAt.sub r2.sub ha, ?_, ρ2, F2, st2, [v.1, w.1], r2, .cons hv (.cons hw .nil), eqo_post h2⟩
    obtain ⟨w, wb⟩ := w
    simp only at hy hw
    unfold eqoR at hy
    split at hy
    · cases hw; exact .inl ⟨rfl, am.nfc.non c hc⟩
    · obtain ⟨a2, xs, rfl, h3, _⟩ := tup_V hw
      exact .inr (.inl ⟨⟨a2, xs, rfl, by rw [← am.hT]; exact (h3.sub r2.sub).sq⟩, am.nfc.tup c hc⟩)
    · rename_i c' fs'
      obtain ⟨hc', a2, dy, ws, rfl, hb, _⟩ := insD_V (c := c') (fs := fs') hw
      rw [am.nc] at hc'
      exact .inr (.inr ⟨a2, c', dy, ws, rfl, SlAt.sub r2.sub hb, am.nfc.own c c' hc hc'⟩)
    · cases hy
theorem R.bind_ok {α β : Type} {r : R α} {f : α → Store → R β} {v : β} {s : Store} (h : r.bind f = .ok v s) : ∃ a s1, r = .ok a s1 ∧ f a s1 = .ok v s := by
  cases r with
  | ok a s1 => exact ⟨a, s1, rfl, h⟩
  | exc c p s1 => cases h
  | no => cases h
theorem eqo_bool {ne : Bool} {a b : Ex} {cs : List (Nat × Nat)} {env : Env} {st st1 : Store} {v : Vl × Bool} (h : evE cf nf (.eqo ne a b cs) env st = .ok v st1) : ∃ k, v = (.d (.bool k), false) := by
  unfold evE at h
  obtain ⟨x, s1, _, h⟩ := R.bind_ok h
  obtain ⟨y, s2, _, h⟩ := R.bind_ok h
  split at h
  · split at h
    · obtain ⟨z, s3, _, h⟩ := R.bind_ok h
      unfold eqoB at h
      split at h
      · cases h; exact ⟨_, rfl⟩
      · cases h
    · cases h
  · cases h
theorem e_eqo {a b : Expr} {x y : Ex} {ne : Bool} {cs : List (Nat × Nat)} {p : Pos} (am : Amb T C W cf nf X) (hm : msOk C (if ne then .ne else .eq) cs = true) (hb : behindInMarks (if ne then CmpOp.NotEq else CmpOp.Eq) b = false) (h1 : PE X a (tE T W cf nf x)) (h2 : PE X b (tE T W cf nf y)) :
    PE X (.Compare a [if ne then CmpOp.NotEq else CmpOp.Eq] [b] p) (tE T W cf nf (.eqo ne x y cs)) ∧ PT X (.Compare a [if ne then CmpOp.NotEq else CmpOp.Eq] [b] p) (tT T W cf nf (.eqo ne x y cs)) := by
  have bool : ∀ {σ : L2.St} {H : Hp} {Q : Bool → Hp → Prop}, tT T W cf nf (.eqo ne x y cs) σ H Q → tE T W cf nf (.eqo ne x y cs) σ H fun v H' => ∃ k, v = .bl k ∧ Q k H' := fun {σ H Q} ⟨ρ, F, env, st, r, en, h⟩ => by
    refine ⟨ρ, F, env, st, r, en, ?_⟩
    cases e : evE cf nf (.eqo ne x y cs) env st with
    | no => rw [e] at h; exact h.elim
    | exc c p st1 => rw [e] at h; exact h
    | ok v st1 =>
      rw [e] at h
      obtain ⟨k, rfl⟩ := eqo_bool e
      intro ρ1 F1 H1 p1 s1 r1 z fz
      obtain ⟨k2, e2, q⟩ := h ρ1 F1 H1 p1 s1 r1
      cases e2
      have hz := frr_d (by intro l z; cases z) fz
      cases hz
      exact ⟨k, rfl, q⟩
  cases ne with
  | true => exact ⟨(pe_cmpR (op_neo am) h1 h2 hb).imp fun σ H Q h => eqo_at am hm h, (pt_cmpR (op_neo am) h1 h2 hb).imp fun σ H Q h => eqo_at am hm (bool h)⟩
  | false => exact ⟨(pe_cmpR (op_eqo am) h1 h2 hb).imp fun σ H Q h => eqo_at am hm h, (pt_cmpR (op_eqo am) h1 h2 hb).imp fun σ H Q h => eqo_at am hm (bool h)⟩
/-! ### texts of parts -/
/-- a part's reading -/
def tJ (T : Tab) (W : XW) (cf nf : CallF) (fm : Bool) (a : Ex) : TE := match fm with
  | true => tFmt (tE T W cf nf a)
  | false => tE T W cf nf a
theorem fmt1_some {acc acc2 : Str} {v : Vl} {b : Bool} {x : V} {H1 : Hp} {ρ1 : List Addr} {F1 : Hp} (hv : VlR T ρ1 F1 v x) (h : fmt1 acc v = some acc2) : (∃ y : Str, x = .str y ∧ y.length ≤ sizeLine ∧ acc2 = acc ++ y ∧ acc2.length ≤ sizeLine) ∨ ∃ i : Int, x = .int i ∧ i.natAbs.log2 < 1920 ∧ acc2 = acc ++ (toString i : Str) ∧ acc2.length ≤ sizeLine := by
  unfold fmt1 at h
  split at h
  · split at h
    · rename_i c
      cases h
      cases hv
      exact .inl ⟨_, rfl, by rw [← limZ_eq]; exact c.1, rfl, by rw [← limZ_eq]; exact c.2⟩
    · cases h
  · split at h
    · rename_i c
      cases h
      cases hv
      exact .inr ⟨_, rfl, c.1, rfl, by rw [← limZ_eq]; exact c.2⟩
    · cases h
  · cases h
/-- the parts, one behind the other -/
theorem js_run : ∀ {fms : List Bool} {as : List Ex} {acc : Str} {σ : L2.St} {ρ : List Addr} {F H : Hp} {st : Store} {env : Env} {Q : VK}, fms.length = as.length → (∀ p ∈ fms.zip as, p.1 = false → ∃ z, p.2 = .con (.str z)) → Rl T ρ F H st → EnvR T ρ F [] env σ →
    OkR T W ρ F (evJs cf nf as acc env st) (fun z st' ρ' F' H' => Q (.str z) H') → tJs ((fms.zip as).map fun p => tJ T W cf nf p.1 p.2) acc σ H fun out H1 => Q (.str out) H1
  | [], [], acc, σ, ρ, F, H, st, env, Q, _, _, r, en, h => by
    unfold evJs at h
    exact h ρ F H (List.prefix_refl _) (Sub.refl F) r
  | [], _ :: _, _, _, _, _, _, _, _, _, hl, _, _, _, _ => by cases hl
  | _ :: _, [], _, _, _, _, _, _, _, _, hl, _, _, _, _ => by cases hl
  | fm :: fms, a :: as, acc, σ, ρ, F, H, st, env, Q, hl, hc, r, en, h => by
    unfold evJs at h
    have rest : ∀ {acc2 : Str} {ρ1 F1 H1 st1}, Rl T ρ1 F1 H1 st1 → EnvR T ρ1 F1 [] env σ → OkR T W ρ1 F1 (evJs cf nf as acc2 env st1) (fun z st' ρ' F' H' => Q (.str z) H') → tJs ((fms.zip as).map fun p => tJ T W cf nf p.1 p.2) acc2 σ H1 fun out H1 => Q (.str out) H1 :=
      fun r1 en1 h1 => js_run (by simpa using hl) (fun p hp => hc p (List.mem_cons_of_mem _ hp)) r1 en1 h1
    have key : tE T W cf nf a σ H fun x H1 => (∃ y : Str, x = .str y ∧ y.length ≤ sizeLine ∧ (acc ++ y).length ≤ sizeLine ∧ tJs ((fms.zip as).map fun p => tJ T W cf nf p.1 p.2) (acc ++ y) σ H1 fun out H1 => Q (.str out) H1) ∨ ∃ i : Int, x = .int i ∧ i.natAbs.log2 < 1920 ∧ (acc ++ (toString i : Str)).length ≤ sizeLine ∧ tJs ((fms.zip as).map fun p => tJ T W cf nf p.1 p.2) (acc ++ (toString i : Str)) σ H1 fun out H1 => Q (.str out) H1 := by
      refine seqE r en h fun ρ1 F1 H1 st1 v x p1 s1 r1 en1 hv h1 => ?_
      split at h1
      · rename_i acc2 e
        rcases fmt1_some (b := true) (H1 := H1) hv e with ⟨y, rfl, q1, rfl, q2⟩ | ⟨i, rfl, q1, rfl, q2⟩
        · exact .inl ⟨y, rfl, q1, q2, rest r1 en1 h1⟩
        · exact .inr ⟨i, rfl, q1, q2, rest r1 en1 h1⟩
      · exact h1.elim
    show tJ T W cf nf fm a σ H fun x H1 => ∃ y : Str, x = .str y ∧ (acc ++ y).length ≤ sizeLine ∧ _
    cases fm with
    | true =>
      refine tE_imp key fun x H1 q => ?_
      rcases q with ⟨y, rfl, q1, q2, q3⟩ | ⟨i, rfl, q1, q2, q3⟩
      · exact .inl ⟨y, rfl, q1, y, rfl, q2, q3⟩
      · exact .inr ⟨i, rfl, q1, _, rfl, q2, q3⟩
    | false =>
      obtain ⟨z, rfl⟩ := hc (false, a) List.mem_cons_self rfl
      show tE T W cf nf (.con (.str z)) σ H _
      obtain ⟨ρ2, F2, env2, st2, r2, en2, h2⟩ := key
      refine ⟨ρ2, F2, env2, st2, r2, en2, ?_⟩
      unfold evE at h2 ⊢
      intro ρ3 F3 H3 p3 s3 r3 x hx
      have e := frr_d (by intro l z; cases z) hx
      cases e
      rcases h2 ρ3 F3 H3 p3 s3 r3 _ hx with ⟨y, q0, q1, q2, q3⟩ | ⟨i, q0, q1, q2, q3⟩
      · exact ⟨y, q0, q2, q3⟩
      · cases q0
theorem e_fstr {v1 v2 : Expr} {rest : List Expr} {fms : List Bool} {as : List Ex} {p : Pos} (hl : fms.length = as.length) (hc : ∀ p ∈ fms.zip as, p.1 = false → ∃ z, p.2 = .con (.str z)) (h : PJ X (v1 :: v2 :: rest) ((fms.zip as).map fun p => tJ T W cf nf p.1 p.2)) : PE X (.JoinedStr (v1 :: v2 :: rest) p) (tE T W cf nf (.fstr as)) :=
  (pe_joined h).imp fun σ H Q ⟨ρ, F, env, st, r, en, h⟩ => by
    unfold evE at h
    exact js_run hl hc r en ((OkR.bind h).imp fun z st1 ρ1 F1 H1 p1 s1 r1 q => OkP.dat q r1 (.str z))
end
end Ev
end

section
set_option Elab.async false
set_option linter.all false
set_option maxRecDepth 100000
set_option maxHeartbeats 4000000
/-! EvM2: ranges as tuples, sorted by len, min with a default, calls with a star, dicts with items. -/
namespace Ev
open PySem PySem.Spec PyProof.Rows L2
section
variable {T : Tab} {W : XW} {C : Ck} {cf nf : CallF} {X : Cx} {sc : Scope} {ρ : List Addr} {F H : Hp} {st : Store} {Q : VK}
theorem evEs_one (a : Ex) (env : Env) (st : Store) : evEs cf nf [a] env st = (evE cf nf a env st).bind fun x st1 => .ok [x.1] st1 := by
  show ((evE cf nf a env st).bind fun x st1 => (R.ok [] st1).bind fun xs st2 => .ok (x.1 :: xs) st2) = _
  rfl
theorem evEs_two (a b : Ex) (env : Env) (st : Store) : evEs cf nf [a, b] env st = (evE cf nf a env st).bind fun x st1 => (evE cf nf b env st1).bind fun y st2 => .ok [x.1, y.1] st2 := by
  show ((evE cf nf a env st).bind fun x st1 => (evEs cf nf [b] env st1).bind fun xs st2 => .ok (x.1 :: xs) st2) = _
  refine congrArg _ (funext fun x => funext fun st1 => ?_)
  rw [evEs_one, R.bind_assoc]
  rfl
/-! ### tuple(range(..)) -/
theorem rg_V (i j : Int) : ∀ F : Hp, DqAll T.kc F (rgV i j) (rgD i j) := fun F => by
  unfold rgV rgD
  induction List.range (j - i).toNat with
  | nil => exact .nil
  | cons a l ih => exact .cons (.int _) ih
theorem rgI1 {v : Vl} {p : Int × Int} (h : rgI [v] = some p) : ∃ n, v = .d (.int n) ∧ p = (0, n) := by
  unfold rgI at h
  split at h <;> first | (cases h; done) | skip
  · rename_i n e
    cases h
    cases e
    exact ⟨n, rfl, rfl⟩
  · rename_i i j e
    cases e
theorem rgI2 {v w : Vl} {p : Int × Int} (h : rgI [v, w] = some p) : ∃ i j, v = .d (.int i) ∧ w = .d (.int j) ∧ p = (i, j) := by
  unfold rgI at h
  split at h <;> first | (cases h; done) | skip
  · rename_i n e
    cases e
  · rename_i i j e
    cases h
    cases e
    exact ⟨i, j, rfl, rfl, rfl⟩
theorem fit_ok {i j : Int} (h : fitR i j = true) : RgOk i j := by
  have := of_decide_eq_true h
  unfold RgOk
  omega
theorem rg_notS (i j : Int) : isS (rgD i j) = false := by
  unfold rgD
  cases List.range (j - i).toNat with
  | nil => rfl
  | cons a l => rfl
theorem rg_end {t : Bool} {i j : Int} {H1 : Hp} {ρ1 : List Addr} {F1 : Hp} {st1 : Store} (r1 : Rl T ρ1 F1 H1 st1) (h : OkP T W ρ1 F1 (if fitR i j = true then .ok (.d (if t then .tuple (rgD i j) else .list (rgD i j)), !t) st1 else .no) Q) :
    RgOk i j ∧ ∀ q, H1 q = none → if t then Q (.ref q) (upd H1 q (.tup (rgV i j))) else Q (.ref q) (upd H1 q (.lst (rgV i j))) := by
  split at h
  · rename_i hf
    refine ⟨fit_ok hf, fun q hq => ?_⟩
    cases t with
    | true => exact OkP.newT h r1 (rg_V i j F1) (rg_notS i j) hq
    | false => exact OkP.newL h r1 (rg_V i j F1) hq
  · exact h.elim
theorem e_trng {t : Bool} {xs : List Expr} {es : List Ex} {p p2 pos pos2 : Pos} (am : Amb T C W cf nf X) (hs : X.env.scope = sc) (h1 : gloB sc (if t then ("tuple" : Str) else "list") = true) (h2 : decide ((if t then ("tuple" : Str) else "list") ∈ C.free) = true) (h3 : gloB sc ("range" : Str) = true) (h4 : decide (("range" : Str) ∈ C.free) = true)
    (hl : xs.length = 1 ∨ xs.length = 2) (hst : xs.all (fun e => !isStar e) = true) (hes : es.length = xs.length) (hp : ∀ (i : Nat) (e : Expr) (a : Ex), xs[i]? = some e → es[i]? = some a → PE X e (tE T W cf nf a)) : PE X (.Call (.Name (if t then "tuple" else "list") p) [.Call (.Name "range" p2) xs [] pos2] [] pos) (tE T W cf nf (.trng t es)) := by
  obtain ⟨g1, g2, g3⟩ := gl_of hs h1
  obtain ⟨r1, r2, r3⟩ := gl_of hs h3
  have main : ∀ {tr : L2.St → Hp → (Int → Int → Hp → Prop) → Prop}, PRg X (.Call (.Name "range" p2) xs [] pos2) tr → (∀ σ H Q, tE T W cf nf (.trng t es) σ H Q → tr σ H fun a b H1 => RgOk a b ∧ ∀ q, H1 q = none → if t then Q (.ref q) (upd H1 q (.tup (rgV a b))) else Q (.ref q) (upd H1 q (.lst (rgV a b)))) → PE X (.Call (.Name (if t then "tuple" else "list") p) [.Call (.Name "range" p2) xs [] pos2] [] pos) (tE T W cf nf (.trng t es)) := fun hr hi => by
    cases t with
    | true => exact (pe_tupRg am.calm g1 (fr_of2 am h2) hr).imp fun σ H Q h => hi σ H Q h
    | false => exact (pe_listRg am.calm g1 (fr_of2 am h2) hr).imp fun σ H Q h => hi σ H Q h
  rcases hl with hl | hl
  · obtain ⟨a, rfl⟩ := len1 hl
    obtain ⟨x, rfl⟩ := len1 (by rw [hes]; exact hl)
    rw [List.all_cons, Bool.and_eq_true] at hst
    refine main (prg_1 r1 (fr_of2 am h4) (hp 0 a x rfl rfl) (star_cons (by simpa using hst.1) [] X.env)) fun σ H Q ⟨ρ, F, env, st, r, en, h⟩ => ?_
    unfold evE at h
    rw [evEs_one, R.bind_assoc] at h
    refine seqE r en h fun ρ1 F1 H1 st1 v x p1 s1 r1 en1 hv h1 => ?_
    replace h1 : OkP T W ρ1 F1 (match rgI [v.1] with
      | some p => if fitR p.1 p.2 = true then .ok (.d (if t then .tuple (rgD p.1 p.2) else .list (rgD p.1 p.2)), !t) st1 else .no
      | none => .no) Q := h1
    cases e : rgI [v.1] with
    | none => rw [e] at h1; exact h1.elim
    | some q =>
      rw [e] at h1
      obtain ⟨n, e1, rfl⟩ := rgI1 e
      rw [e1] at hv
      cases hv
      exact ⟨n, rfl, rg_end r1 h1⟩
  · obtain ⟨a, b, rfl⟩ := len2 hl
    obtain ⟨x, y, rfl⟩ := len2 (by rw [hes]; exact hl)
    rw [List.all_cons, List.all_cons, Bool.and_eq_true, Bool.and_eq_true] at hst
    refine main (prg_2 r1 (fr_of2 am h4) (hp 0 a x rfl rfl) (hp 1 b y rfl rfl) (star_cons (by simpa using hst.1) [b] X.env) (star_cons (by simpa using hst.2.1) [] X.env) (star_any (es := [b]) (by simpa using hst.2.1) pos2 X.env)) fun σ H Q ⟨ρ, F, env, st, r, en, h⟩ => ?_
    unfold evE at h
    rw [evEs_two, R.bind_assoc] at h
    refine seqE r en h fun ρ1 F1 H1 st1 v x p1 s1 r1 en1 hv h1 => ?_
    rw [R.bind_assoc] at h1
    refine seqE r1 en1 h1 fun ρ2 F2 H2 st2 w y p2 s2 r2 en2 hw h2 => ?_
    replace h2 : OkP T W ρ2 F2 (match rgI [v.1, w.1] with
      | some p => if fitR p.1 p.2 = true then .ok (.d (if t then .tuple (rgD p.1 p.2) else .list (rgD p.1 p.2)), !t) st2 else .no
      | none => .no) Q := h2
    cases e : rgI [v.1, w.1] with
    | none => rw [e] at h2; exact h2.elim
    | some q =>
      rw [e] at h2
      obtain ⟨i, j, e1, e2, rfl⟩ := rgI2 e
      rw [e1] at hv
      rw [e2] at hw
      cases hv
      cases hw
      exact ⟨i, j, rfl, rfl, rg_end r2 h2⟩
/-! ### sorted(x, key=len) -/
theorem tups_rel {F : Hp} : ∀ {xs : List V} {l : List PyData} {us : List Value}, l.all isTupD = true → DqAll T.kc F xs l → Vals xs us → PySem.W.EachIs (fun (v : Value) (b : V × PyData) => isTupD b.2 = true ∧ RelV b.1 v ∧ Dq T.kc F b.1 b.2) us (xs.zip l)
  | _, _, _, _, .nil, .nil => .nil
  | _, _, _, n, .cons h r, .cons a b => by
    rw [List.all_cons, Bool.and_eq_true] at n
    exact .cons ⟨n.1, a, h⟩ (tups_rel n.2 r b)
theorem sortL_out {F : Hp} {xs : List V} {l m : List PyData} {out : List Value} (h : DqAll T.kc F xs l) (e : m = l.mergeSort (PySem.W.dataLe false lenK))
    (ho : PySem.W.EachIs (fun (v : Value) (b : V × PyData) => isTupD b.2 = true ∧ RelV b.1 v ∧ Dq T.kc F b.1 b.2) out ((xs.zip l).mergeSort (PySem.W.dataLe false fun b : V × PyData => lenK b.2))) : ∃ ys, Vals ys out ∧ DqAll T.kc F ys m := by
  have q := PySem.W.sort_maps (r := PySem.W.dataLe false fun b : V × PyData => lenK b.2) (s := PySem.W.dataLe false lenK) (fun b : V × PyData => b.2) (l := xs.zip l) (fun _ _ _ _ => rfl)
  rw [(zip_map h.length).2] at q
  rw [e, ← q]
  clear q e h
  generalize (xs.zip l).mergeSort (PySem.W.dataLe false fun b : V × PyData => lenK b.2) = bs at ho
  induction ho with
  | nil => exact ⟨[], .nil, .nil⟩
  | cons a r ih =>
    obtain ⟨ys, h1, h2⟩ := ih
    exact ⟨_ :: ys, .cons a.2.1 h1, .cons a.2.2 h2⟩
theorem lenK_alike {bs : List (V × PyData)} : PySem.W.AllAlike (bs.map fun b => lenK b.2) ∧ PySem.W.Sortable (bs.map fun b => lenK b.2) := by
  have int : ∀ d ∈ bs.map (fun b => lenK b.2), ∃ i, d = .int i := fun d hd => by
    obtain ⟨b, _, rfl⟩ := List.mem_map.mp hd
    cases b.2 <;> exact ⟨_, rfl⟩
  refine ⟨fun d hd d' hd' => ?_, .inr fun d hd => ?_⟩
  · obtain ⟨i, rfl⟩ := int d hd
    obtain ⟨j, rfl⟩ := int d' hd'
    rfl
  · obtain ⟨i, rfl⟩ := int d hd
    exact ⟨fun z => (nomatch z), fun xs z => nomatch z⟩
theorem sorted_len {pins : List (Addr × Obj)} {s : Shared} {σ : L2.St} {F H : Hp} {Q : VK} {a : Addr} {xs : List V} {l m : List PyData} (hT : T.K = X.K) (hu : X.A.units + 200 < cLine) (I : L2.Inv X pins σ H s) (sF : Sub F H) (ha : H a = some (.lst xs)) (h : DqAll T.kc F xs l) (e : sortL l = some m)
    (q : ∀ p ys, DqAll T.kc F ys m → H p = none → Q (.ref p) (upd H p (.lst ys))) : wpAny (model X.prog X.w) X.A (call (.builtin "sorted") [.ref a] [(Str.ofString "key", .builtin "len")]) (EP X pins σ Q) X.xe s := by
  unfold sortL at e
  split at e
  rotate_left
  · cases e
  rename_i c
  cases e
  obtain ⟨its, rv, pl, hz⟩ := I.list (SqL.of ha)
  have er := tups_rel c.1 h rv
  have hlz : (xs.zip l).length = xs.length := by rw [List.length_zip, h.length, Nat.min_self]
  refine PySem.W.sorted_key_data (fun b : V × PyData => lenK b.2) pl.isList er lenK_alike.1 lenK_alike.2 (by rw [hlz]; exact hz) (fun x _ => ?_) (PyProof.Rows.ksk_s1 _ _) (fun x => PyProof.Rows.ksk_l1 _ _) (fun x => PyProof.Rows.ksk_t4 _ _) (fun v b hR _ h' tk kp => ?_) fun out c2 h' tk kp hfr ho hlen hs => ?_
  · have : (lenK x.2).depth ≤ 1 := by
      cases x.2 <;> (show PyData.depth (.int _) ≤ 1; unfold PyData.depth; omega)
    omega
  · obtain ⟨hb, rb, db⟩ := hR
    obtain ⟨bv, bd⟩ := b
    cases bd with
    | tuple ds =>
      obtain ⟨t, ys, rfl, h1, h2⟩ := tup_V db
      cases rb
      obtain ⟨its2, r2, ht2, hz2⟩ := I.tuple (by rw [← hT]; exact (h1.sub sF).sq)
      have hlen : its2.toArray.size = ds.length := by rw [List.size_toArray, ← r2.length, h2.length]
      refine PyProof.Rows.len_tuple (ht2.keeps kp) (by rw [hlen, ← h2.length]; have := sizeLine_eq; omega) ⟨h', _, rfl, fun _ _ z => z, ?_⟩
      show Reads h' (.int its2.toArray.size _) (.int ds.length) []
      rw [hlen]
      exact Reads.int _ _
    | _ => cases hb
  · obtain ⟨ys, y1, y2⟩ := sortL_out h (PySem.W.mergeSortF_eq _ _ l (Nat.le_refl _)).symm hs
    have hlen2 : ys.length ≤ sizeLine := by
      rw [y1.length, hlen, hlz]; exact hz
    exact ⟨.ref _, upd H (s.heap.objs.size + 1) (.lst ys), I.laid (t' := tk) kp (Nat.le_succ _) ⟨hlen2, out, c2, y1, ho⟩, rfl, q _ _ y2 (I.hok.fresh (Nat.le_succ _))⟩
theorem e_srtL {x : Expr} {a : Ex} {p p2 p3 pos : Pos} (am : Amb T C W cf nf X) (hs : X.env.scope = sc) (h1 : gloB sc ("sorted" : Str) = true) (h2 : decide (("sorted" : Str) ∈ C.free) = true) (h3 : gloB sc ("len" : Str) = true) (h4 : decide (("len" : Str) ∈ C.free) = true) (hst : isStar x = false) (hx : PE X x (tE T W cf nf a)) :
    PE X (.Call (.Name "sorted" p) [x] [⟨some "key", .Name "len" p2, p3⟩] pos) (tE T W cf nf (.srtL a)) := by
  obtain ⟨g1, g2, g3⟩ := gl_of hs h1
  obtain ⟨l1, l2, l3⟩ := gl_of hs h3
  refine ⟨fun pins s σ H Q I h => ?_⟩
  have h' : tE T W cf nf a σ H fun x H1 => ∃ b xs l m F, x = .ref b ∧ H1 b = some (.lst xs) ∧ Sub F H1 ∧ DqAll T.kc F xs l ∧ sortL l = some m ∧ ∀ p ys, DqAll T.kc F ys m → H1 p = none → Q (.ref p) (upd H1 p (.lst ys)) := by
    obtain ⟨ρ, F, env, st, r, en, h⟩ := h
    unfold evE at h
    refine seqE r en h fun ρ1 F1 H1 st1 v x p1 s1 r1 en1 hv h1 => ?_
    obtain ⟨d, b, e, hk⟩ := retO_ok h1
    obtain ⟨m, e0, e2⟩ := map_some e
    obtain ⟨rfl, rfl⟩ := Prod.mk.inj e2
    obtain ⟨l, e0, e3⟩ := bind_some e0
    obtain ⟨d, e4, e5⟩ := bind_some e0
    cases d with
    | list l' =>
      cases e5
      obtain ⟨c, ys, rfl, q1, q2⟩ := (hv.dat r1 e4).lst r1.sub
      exact ⟨c, ys, l, m, F1, rfl, q1, r1.sub, q2, e3, fun p ys hy hp => OkP.newL hk r1 hy hp⟩
    | _ => cases e5
  refine wpAny_Call_Name_kw (ld_blt (u := .builtin "sorted") I g1 (fr_of2 am h2) (by decide +kernel) ?_ g3 g2)
  refine PyProof.Rows.callWith_kw (thn ((pa_cons hx pa_nil (star_cons hst [] X.env)).run pos pins s σ H (fun vs H1 => ∃ x, vs = [x] ∧ ∃ b xs l m F, x = .ref b ∧ H1 b = some (.lst xs) ∧ Sub F H1 ∧ DqAll T.kc F xs l ∧ sortL l = some m ∧ ∀ p ys, DqAll T.kc F ys m → H1 p = none → Q (.ref p) (upd H1 p (.lst ys))) I (tE_imp h' fun x H1 q => ⟨x, rfl, q⟩)) fun us s1 ⟨vs, H1, I1, r1, x, e, b, xs, l, m, F, e2, k1, k2, k3, k4, k5⟩ => ?_) (by rw [star_cons hst [] X.env]; rfl) (star_any (by simp [hst]) pos X.env) rfl rfl
  subst e e2
  obtain ⟨u, rfl, ru⟩ := r1.one
  cases ru
  show wpAny _ _ (evalAll [do let v ← eval (.Name "len" p2) X.env; standAt pos; pure v]) _ _ s1
  refine wpAny_evalAll_cons (wpAny_bind (ld_blt (u := .builtin "len") I1 l1 (fr_of2 am h4) (by decide +kernel) (wpAny_bind (wpAny_standAt (wpAny_pure ?_))) l3 l2))
  refine wpAny_evalAll_nil ?_
  exact sorted_len am.hT am.un I1 k2 k1 k3 k4 k5
/-! ### f(.., *x) -/
theorem star_some : ∀ {es : List Expr} (h : es.any isStar = true) (pos : Pos) (env : PySem.Env), (backTo pos (starEach es env)).any (·.1) = true
  | [], h, _, _ => by cases h
  | e :: es, h, pos, env => by
    by_cases he : isStar e = true
    · obtain ⟨x, p, rfl⟩ : ∃ x p, e = .Starred x p := by
        cases e <;> first | exact ⟨_, _, rfl⟩ | cases he
      rfl
    · rw [List.any_cons, Bool.or_eq_true] at h
      have h2 := h.resolve_left he
      rw [star_cons (by simpa using he)]
      show (false || (backTo pos (starEach es env)).any (·.1)) = true
      rw [star_some h2]; rfl
/-- two items or more are told one after another -/
theorem args_many {M : Model} {A : Around} {E : Value → Shared → Prop} {s : Shared} {f : Value} {a b : Bool × Sem Value} {r : List (Bool × Sem Value)} {Q : Args → Shared → Prop} (h : wpAny M A (spliced (a :: b :: r)) (fun vs s1 => Q ⟨vs, []⟩ s1) E s) : wpAny M A (evalArgs f true (a :: b :: r) []) Q E s := by
  unfold evalArgs
  obtain ⟨a1, a2⟩ := a
  cases a1 <;>
  · show wpAny M A (spliced (_ :: b :: r) >>= _) Q E s
    refine wpAny_bind (wpAny_mono h (fun vs s1 h1 => ?_) fun _ _ z => z)
    refine wpAny_holding ?_
    exact wpAny_bind (wpAny_pure (wpAny_bind (wpAny_pure (wpAny_pure h1))))
theorem back_cons {x y : Expr} {xs : List Expr} (pos : Pos) (env : PySem.Env) : ∃ a b r, backTo pos (starEach (x :: y :: xs) env) = a :: b :: r := by
  cases x <;> cases y <;> exact ⟨_, _, _, rfl⟩
theorem e_callS {m : Str} {f : Nat} {fl : List Bool} {as : List Ex} {x y : Expr} {xs : List Expr} {p pos : Pos} (am : Amb T C W cf nf X) (hs : X.env.scope = sc) (h2 : gloB sc m = true) (h3 : C.G.lookup m = some (.fn f)) (hst : (x :: y :: xs).any isStar = true) (hp : PA X (x :: y :: xs) (tF T W cf nf as fl)) :
    PE X (.Call (.Name m p) (x :: y :: xs) [] pos) (tE T W cf nf (.callS f fl as)) := by
  obtain ⟨g1, g2, _⟩ := gl_of hs h2
  obtain ⟨a, q1, q2, q3⟩ := am.fn _ _ h3
  obtain ⟨E, tk, wk⟩ := am.wk
  refine ⟨fun pins s σ H Q I ⟨ρ, F, env, st, r, en, h⟩ => ?_⟩
  unfold evE at h
  refine wpAny_Call_Name_kw (ld_glob I g1 q1 ?_ g2)
  refine PySem.W.ks_call (P := X.K.In) (star_some hst pos X.env) (PySem.W.keeps_K q2) ?_
  have run := hp.run pos pins s σ H (fun vs H1 => rCf T W cf f vs H1 Q) I (seqF r en h fun ρ1 F1 H1 st1 vs xs p1 s1 r1 en1 hv h1 => ⟨ρ1, F1, st1, vs, r1, hv, h1⟩)
  obtain ⟨b1, b2, br, e⟩ := back_cons (x := x) (y := y) (xs := xs) pos X.env
  rw [e] at run ⊢
  exact args_many (thn run fun us s1 ⟨vs, H1, I1, rv, q⟩ => ⟨I1.kIn, q3 X (Like.refl X) T.hid E tk pins s1 σ H1 vs us Q I1 rv (rCf_imp wk q)⟩)
/-! ### min(x, default=None) -/
theorem int_reads {hp : Heap} : ∀ {ns : List Int} {us : List Value}, Vals (ns.map V.int) us → ReadsAll hp us (ns.map PyData.int) []
  | [], _, r => by cases r; exact .nil
  | n :: ns, _, r => by
    rw [List.map_cons] at r
    cases r with
    | cons a b =>
      obtain ⟨t, rfl⟩ := a
      exact ReadsAll.cons (Reads.int _ _) (int_reads b)
theorem int_depth : ∀ ns : List Int, PyData.depthAll (ns.map PyData.int) ≤ 1
  | [] => by unfold PyData.depthAll; simp
  | n :: ns => by
    rw [List.map_cons]
    unfold PyData.depthAll
    have := int_depth ns
    exact Nat.max_le.mpr ⟨by unfold PyData.depth; omega, this⟩
theorem int_alike (ns : List Int) : PySem.W.AlikeAll (ns.map PyData.int) := by
  refine ⟨fun x hx y hy => ?_, fun x hx => ?_⟩
  · obtain ⟨i, _, rfl⟩ := List.mem_map.mp hx
    obtain ⟨j, _, rfl⟩ := List.mem_map.mp hy
    rfl
  · obtain ⟨i, _, rfl⟩ := List.mem_map.mp hx
    exact fun z => nomatch z
theorem min_list {pins : List (Addr × Obj)} {s : Shared} {σ : L2.St} {H : Hp} {Q : VK} {a : Addr} {ns : List Int} (hc : X.calm = true) (hu : X.A.units + 200 < cLine) (I : L2.Inv X pins σ H s) (ha : SqL X.K H a (ns.map V.int)) (q : ∀ v, Dq T.kc H v (minOf ns) → Q v H) :
    wpAny (model X.prog X.w) X.A (call (.builtin "min") [.ref a] [(Str.ofString "default", .none)]) (EP X pins σ Q) X.xe s := by
  obtain ⟨its, rv, pl, hz⟩ := I.list ha
  have hd := int_depth ns
  have kept : ∀ {h' : Heap} {tk : Nat}, (∀ b o, s.heap.get? b = some o → h'.get? b = some o) → L2.Inv X pins σ H { s with heap := h', toks := tk } := fun kp => I.kept kp
  refine PySem.W.min_list_default (I.ok.hd hc) pl.isList (int_reads rv) (int_alike ns) (by omega) (fun e h' tk kp => ?_) fun y ys i v h' tk bs e hv hr kp => ?_
  · obtain rfl : ns = [] := List.map_eq_nil_iff.mp e
    exact ⟨.non, H, kept kp, rfl, q _ .non⟩
  · cases ns with
    | nil => cases e
    | cons n ns =>
      rw [List.map_cons] at e
      injection e with e1 e2
      subst e1 e2
      rw [PySem.W.minD_ints] at hr
      cases hr
      exact ⟨.int (ns.foldl min n), H, kept kp, ⟨_, rfl⟩, q _ (show Dq T.kc H (.int (ns.foldl min n)) (.int (ns.foldl min n)) from .int _)⟩
theorem e_minN {x h : Expr} {a : Ex} {p p3 pos : Pos} (am : Amb T C W cf nf X) (hs : X.env.scope = sc) (h1 : gloB sc ("min" : Str) = true) (h2 : decide (("min" : Str) ∈ C.free) = true) (hn : conD h = some .none) (hst : isStar x = false) (hx : PE X x (tE T W cf nf a)) :
    PE X (.Call (.Name "min" p) [x] [⟨some "default", h, p3⟩] pos) (tE T W cf nf (.minN a)) := by
  obtain ⟨g1, g2, g3⟩ := gl_of hs h1
  refine ⟨fun pins s σ H Q I hq => ?_⟩
  have h' : tE T W cf nf a σ H fun x H1 => ∃ b ns, x = .ref b ∧ SqL X.K H1 b (ns.map V.int) ∧ ∀ v, Dq T.kc H1 v (minOf ns) → Q v H1 := by
    obtain ⟨ρ, F, env, st, r, en, h⟩ := hq
    unfold evE at h
    refine seqE r en h fun ρ1 F1 H1 st1 v x p1 s1 r1 en1 hv h1 => ?_
    obtain ⟨d, e, hk⟩ := retP_ok h1
    obtain ⟨ns, e0, rfl⟩ := map_some e
    obtain ⟨l, e0, e3⟩ := bind_some e0
    obtain ⟨d, e4, e5⟩ := bind_some e0
    cases d with
    | list l' =>
      cases e5
      obtain ⟨c, ys, rfl, q1, q2⟩ := (hv.dat r1 e4).lst r1.sub
      have e6 := ints_V q2 e3
      subst e6
      refine ⟨c, ns, rfl, SqL.of q1, fun v hv => ?_⟩
      cases ns with
      | nil => cases hv; exact OkP.dat hk r1 .non
      | cons n ns => cases hv; exact OkP.dat (d := .int (ns.foldl min n)) hk r1 (.int _)
    | _ => cases e5
  refine wpAny_Call_Name_kw (ld_blt (u := .builtin "min") I g1 (fr_of2 am h2) (by decide +kernel) ?_ g3 g2)
  refine PyProof.Rows.callWith_kw (thn ((pa_cons hx pa_nil (star_cons hst [] X.env)).run pos pins s σ H (fun vs H1 => ∃ x, vs = [x] ∧ ∃ b ns, x = .ref b ∧ SqL X.K H1 b (ns.map V.int) ∧ ∀ v, Dq T.kc H1 v (minOf ns) → Q v H1) I (tE_imp h' fun x H1 q => ⟨x, rfl, q⟩)) fun us s1 ⟨vs, H1, I1, r1, x, e, b, ns, e2, k1, k2⟩ => ?_) (by rw [star_cons hst [] X.env]; rfl) (star_any (by simp [hst]) pos X.env) rfl rfl
  subst e e2
  obtain ⟨u, rfl, ru⟩ := r1.one
  cases ru
  show wpAny _ _ (evalAll [do let v ← eval h X.env; standAt pos; pure v]) _ _ s1
  have hh : PE X h (tC .non) := by
    unfold conD at hn
    split at hn <;> first | (cases hn; done) | exact pe_non
  refine wpAny_evalAll_cons (wpAny_bind (thn (hh.run pins s1 σ H1 (fun v H2 => v = .non ∧ H2 = H1) I1 ⟨rfl, rfl⟩) fun v s2 ⟨z, H2, I2, rz, e1, e2⟩ => wpAny_bind (wpAny_standAt (wpAny_pure ?_))))
  subst e1 e2
  cases rz
  refine wpAny_evalAll_nil ?_
  exact min_list am.calm am.un I2 k1 k2
/-! ### {k: v, ..} -/
def trsOf (T : Tab) (W : XW) (cf nf : CallF) : List Ex → List (TE × TE)
  | a :: b :: r => (tE T W cf nf a, tE T W cf nf b) :: trsOf T W cf nf r
  | _ => []
def flat2 : List (V × V) → List V
  | [] => []
  | p :: r => p.1 :: p.2 :: flat2 r
def TEm (t : TE) : Prop := ∀ σ H (Q Q' : VK), t σ H Q → (∀ x H1, Q x H1 → Q' x H1) → t σ H Q'
theorem trs_m : ∀ {es : List Ex}, ∀ p ∈ trsOf T W cf nf es, TEm p.1 ∧ TEm p.2
  | a :: b :: r, p, h => by
    rcases List.mem_cons.mp h with rfl | h
    · exact ⟨fun σ H Q Q' h i => tE_imp h i, fun σ H Q Q' h i => tE_imp h i⟩
    · exact trs_m p h
  | [_], p, h => by cases h
  | [], p, h => by cases h
theorem tPairs_imp : ∀ {trs : List (TE × TE)} {σ : L2.St} {H : Hp} {Q Q' : List (V × V) → Hp → Prop}, tPairs trs σ H Q → (∀ ps H2, Q ps H2 → Q' ps H2) → (∀ p ∈ trs, TEm p.1 ∧ TEm p.2) → tPairs trs σ H Q'
  | [], σ, H, Q, Q', h, i, _ => i _ _ h
  | (a, b) :: r, σ, H, Q, Q', h, i, m => (m (a, b) List.mem_cons_self).1 σ H _ _ h fun x H1 h1 => (m (a, b) List.mem_cons_self).2 σ H1 _ _ h1 fun y H2 h2 => tPairs_imp h2 (fun ps H3 q => i _ _ q) fun p hp => m p (List.mem_cons_of_mem _ hp)
theorem pairs_run : ∀ {n : Nat} {es : List Ex} {σ : L2.St} {ρ : List Addr} {F H : Hp} {st : Store} {env : Env} {K0 : List V → Hp → Prop}, es.length = 2 * n → Rl T ρ F H st → EnvR T ρ F [] env σ →
    OkR T W ρ F (evEs cf nf es env st) (fun vs _ ρ' F' H' => ∀ xs, VlsR T ρ' F' vs xs → K0 xs H') → tPairs (trsOf T W cf nf es) σ H fun ps H2 => K0 (flat2 ps) H2
  | 0, [], σ, ρ, F, H, st, env, K0, _, r, en, h => h ρ F H (List.prefix_refl _) (Sub.refl F) r [] .nil
  | 0, _ :: _, _, _, _, _, _, _, _, hl, _, _, _ => by simp at hl
  | n + 1, [], _, _, _, _, _, _, _, hl, _, _, _ => by simp at hl <;> omega
  | n + 1, [_], _, _, _, _, _, _, _, hl, _, _, _ => by simp at hl <;> omega
  | n + 1, a :: b :: es, σ, ρ, F, H, st, env, K0, hl, r, en, h => by
    unfold evEs at h
    show tE T W cf nf a σ H fun x H1 => tE T W cf nf b σ H1 fun y H2 => tPairs (trsOf T W cf nf es) σ H2 fun ps H3 => K0 (x :: y :: flat2 ps) H3
    refine seqE r en h fun ρ1 F1 H1 st1 v x p1 s1 r1 en1 hv h1 => ?_
    unfold evEs at h1
    rw [R.bind_assoc] at h1
    refine seqE r1 en1 h1 fun ρ2 F2 H2 st2 w y p2 s2 r2 en2 hw h2 => ?_
    refine pairs_run (n := n) (K0 := fun xs H => K0 (x :: y :: xs) H) (by simp at hl; omega) r2 en2 ((OkR.bind (OkR.bind h2)).imp fun vs st3 ρ3 F3 H3 p3 s3 r3 q xs hx => ?_)
    exact q ρ3 F3 H3 (List.prefix_refl _) (Sub.refl F3) r3 ρ3 F3 H3 (List.prefix_refl _) (Sub.refl F3) r3 _ (.cons ((hv.mono p2 s2).mono p3 s3) (.cons (hw.mono p3 s3) hx))
theorem pairsK_V {F : Hp} : ∀ {xs : List PyData} {kvs : List (Key × PyData)} {ps : List (V × V)}, pairsK xs = some kvs → DqAll T.kc F (flat2 ps) xs → ∃ ws : List (Key × V), ps = ws.map (fun kv => (kV kv.1, kv.2)) ∧ KvR T F ws kvs ∧ ws.length = kvs.length
  | _, _, [], e, h => by
    cases h
    cases e
    exact ⟨[], rfl, .nil, rfl⟩
  | _, kvs, p :: ps, e, h => by
    unfold flat2 at h
    cases h with
    | cons h1 h =>
      cases h with
      | cons h2 h =>
        rename_i d1 d2 ds2
        unfold pairsK at e
        split at e
        · rename_i q qs e1 e2
          cases e
          obtain ⟨ws, rfl, k1, k2⟩ := pairsK_V e2 h
          refine ⟨(q, p.2) :: ws, ?_, .cons h2 k1, by simp [k2]⟩
          obtain ⟨p1, p2⟩ := p
          rw [List.map_cons, ← toKey_kV h1 e1]
        · cases e
theorem merge_Kv {F : Hp} : ∀ {ws : List (Key × V)} {kvs : List (Key × PyData)} {acc : List (Key × V)} {ak : List (Key × PyData)}, KvR T F ws kvs → KvR T F acc ak → KvR T F (mergeK acc ws) (kvs.foldl (fun a p => Ev.putK p.1 p.2 a) ak)
  | _, _, _, _, .nil, h => h
  | (k, v) :: ws, (_, d) :: kvs, acc, ak, .cons dq r, h => by
    show KvR T F (mergeK (L2.putK acc k v) ws) (kvs.foldl (fun a p => Ev.putK p.1 p.2 a) (Ev.putK k d ak))
    exact merge_Kv r (KvR.put _ dq h)
theorem e_dct {n : Nat} {es : List Ex} {ks : List (Option Expr)} {vs : List Expr} {p : Pos} (hes : es.length = 2 * n) (hk : ks.all (·.isSome) = true) (hl : ks.length = vs.length) (h0 : ks ≠ []) (h15 : ks.length ≤ 15) (pp : PPs X p ks vs (trsOf T W cf nf es)) : PE X (.Dict ks vs p) (tE T W cf nf (.dct es)) :=
  (pe_disp pp hk hl h0 h15).imp fun σ H Q ⟨ρ, F, env, st, r, en, h⟩ => by
    intro q hq
    unfold evE at h
    have r2 := (r.new (o := .dK []) hq).push (o := .dK []) (r.notin hq) (r.noneF hq) ⟨[], upd_same, .nil⟩ (r.nohid hq)
    have at_q : (ρ ++ [q])[st.length]? = some q := by rw [← r.len, List.getElem?_append_right (Nat.le_refl _), Nat.sub_self]; rfl
    refine tPairs_imp (pairs_run (K0 := fun xs H2 => ∀ ps, xs = flat2 ps → H2 q = some (.dK []) ∧ ∃ kvs : List (Key × V), ps = kvs.map (fun kv => (kV kv.1, kv.2)) ∧ kvs.length ≤ 15 ∧ Q (.ref q) (upd H2 q (.dK (mergeK [] kvs)))) hes r2 (en.mono (List.prefix_append _ _) (Sub.refl F)) ((OkR.bind (OkR.mono h (List.prefix_append _ _) (Sub.refl F))).imp fun us st1 ρ1 F1 H1 p1 s1 r1 k xs hx ps e => ?_)) (fun ps H2 z => z ps rfl) trs_m
    subst e
    split at k
    rotate_left
    · exact k.elim
    rename_i ds st2 e1
    obtain ⟨F2, s2, r3, d2⟩ := hx.frzd r1 e1
    split at k
    rotate_left
    · exact k.elim
    rename_i kvs e2 e3
    split at k
    rotate_left
    · exact k.elim
    rename_i hc
    obtain ⟨ws, rfl, kv, lk⟩ := pairsK_V e2 d2
    obtain ⟨a, q1, q2, zs, q3, q4⟩ := r3.obj _ _ e3
    rw [pre_get p1 at_q] at q1
    cases q1
    cases q4
    refine ⟨q3, ws, rfl, by rw [lk]; exact hc, ?_⟩
    have r4 := r3.put (o' := .dK (kvs.foldl (fun acc p => Ev.putK p.1 p.2 acc) [])) (u' := .dK (mergeK [] ws)) (pre_get p1 at_q) q2 q3 (fun _ z => nomatch z) ⟨_, upd_same, merge_Kv kv .nil⟩
    exact k _ _ _ (List.prefix_refl _) s2 r4 _ (.inl ⟨rfl, q, rfl, pre_get p1 at_q⟩)
end
end Ev
end

section
set_option Elab.async false
set_option linter.all false
set_option maxRecDepth 100000
set_option maxHeartbeats 4000000
/-! EvM3: list(zip(x, y)). -/
namespace Ev
open PySem PySem.Spec PyProof.Rows L2
theorem Sk.Ob.to {q : Sk} {h h' : Heap} {a : Addr} {xs : Array Value} (c : Sk.Ob q h a xs) (e : ∀ o, h.get? a = some o → h'.get? a = some o) : Sk.Ob q h' a xs := by
  cases q
  · obtain ⟨o, x, r⟩ := c; exact ⟨o, e _ x, r⟩
  · obtain ⟨o, x, r⟩ := c; exact ⟨o, e _ x, r⟩
theorem zip_no_len : typeLookup (.type "zip") "__len__" = pure none := by rw [typeLookup_type, builtinLookup_eq_fast]; kernel_rfl
theorem zip_no_hint : typeLookup (.type "zip") "__length_hint__" = pure none := by rw [typeLookup_type, builtinLookup_eq_fast]; kernel_rfl
section
variable {prog : Program} {w : World} {A : Around} {E : Value → Shared → Prop} {s : Shared}
variable {z TI TO i1 i2 a b : Addr} {k : Nat} {xs ys : Array Value} {u v : Value} {p q : Sk}
theorem zh_item {T : Addr} {f : Bool} {oT : Obj} {Q : Value → Shared → Prop} (D : ZipApart z TI TO i1 i2 a b) (hz : IsZipHeld s.heap z TI TO T f) (hT : s.heap.get? T = some oT) (hTI : IsPair s.heap TI (.ref i1) (.ref i2)) (c1 : p.Cur s.heap i1 a k) (c2 : q.Cur s.heap i2 b k) (o1 : p.Ob s.heap a xs) (o2 : q.Ob s.heap b ys) (e1 : xs[k]? = some u) (e2 : ys[k]? = some v)
    (d : ∀ h', IsZipHeld h' z TI TO T true → p.Cur h' i1 a (k + 1) → q.Cur h' i2 b (k + 1) → IsPair h' s.heap.objs.size u v → (∀ c o, c ≠ z → c ≠ i1 → c ≠ i2 → s.heap.get? c = some o → h'.get? c = some o) → Q (.ref s.heap.objs.size) { s with heap := h' }) :
    wpAny (model prog w) A (Builtin.«zip.__next__» ⟨[.ref z], []⟩) (fun fin s' => ∃ v, fin = .done (.ret v) ∧ Q v s') E s := by
  show wpAny _ _ (field (.ref z) 2 >>= _) _ _ _
  refine wpAny_bind (wpAny_field hz rfl (x := .bool false) rfl ?_)
  show wpAny _ _ (field (.ref z) 3 >>= _) _ _ _
  refine wpAny_bind (wpAny_field hz rfl (x := .ref TI) rfl ?_)
  refine wpAny_bind (wpAny_seqItems hTI rfl ?_)
  show wpAny _ _ (Builtin.SmallTypes.ownedTupleIsFree (.ref z) >>= _) _ _ _
  refine wpAny_bind (wpAny_tupleHeld_zip hz hT fun g1 z1 w1 => ?_)
  simp only [Bool.false_eq_true, if_false]
  refine wpAny_bind ?_
  rw [← Array.forIn_toList]
  simp only [List.forIn_cons, List.forIn_nil]
  refine wpAny_bind (wpAny_bind (wpAny_holding ?_))
  show wpAny _ _ (Builtin.SmallTypes.nextOf (.ref i1) >>= _) _ _ _
  refine wpAny_bind (Sk.nx (s := { s with heap := g1 }) (c1.eb w1.extBut D.i1z) (o1.eb w1.extBut D.l1z) e1 fun g2 c1' w2 => wpAny_pure ?_)
  refine wpAny_pure ?_
  refine wpAny_bind (wpAny_bind (wpAny_holding ?_))
  show wpAny _ _ (Builtin.SmallTypes.nextOf (.ref i2) >>= _) _ _ _
  refine wpAny_bind (Sk.nx (s := { s with heap := g2 }) ((c2.eb w1.extBut D.i2z).eb w2.extBut D.i12.symm) ((o2.eb w1.extBut D.l2z).eb w2.extBut D.l2i1) e2 fun g3 c2' w3 => wpAny_pure ?_)
  refine wpAny_pure (wpAny_pure ?_)
  show wpAny _ _ (newTuple [u, v] >>= _) _ _ _
  refine wpAny_bind (wpAny_newTuple ?_)
  have hsz : g3.objs.size = s.heap.objs.size := by rw [w3.1, w2.1, w1.1]
  have hz3 : IsZipHeld g3 z TI TO T true := w3.extBut _ _ D.i2z.symm (w2.extBut _ _ D.i1z.symm z1)
  have hk : ∀ c o, c ≠ z → c ≠ i1 → c ≠ i2 → s.heap.get? c = some o → g3.get? c = some o := fun c o n1 n2 n3 e => w3.extBut _ _ n3 (w2.extBut _ _ n2 (w1.extBut _ _ n1 e))
  have c13 : p.Cur g3 i1 a (k + 1) := c1'.eb w3.extBut D.i12
  refine wpAny_pure ⟨_, rfl, ?_⟩
  show Q (.ref g3.objs.size) _
  have hp : IsPair (g3.push { cls := .type "tuple", data := .seq #[u, v] }) g3.objs.size u v := Heap.get?_push_size _ rfl
  rw [hsz] at hp ⊢
  exact d _ (Heap.get?_push_of_some _ hz3) (c13.to fun o e => Heap.get?_push_of_some _ e) (c2'.to fun o e => Heap.get?_push_of_some _ e) hp fun c o n1 n2 n3 e => Heap.get?_push_of_some _ (hk c o n1 n2 n3 e)
theorem zh_stop {T : Addr} {f : Bool} {oT : Obj} {Q : Fin → Shared → Prop} (hh : A.handled = none) (D : ZipApart z TI TO i1 i2 a b) (hz : IsZipHeld s.heap z TI TO T f) (hT : s.heap.get? T = some oT) (hTI : IsPair s.heap TI (.ref i1) (.ref i2)) (c1 : p.Cur s.heap i1 a k) (c2 : q.Cur s.heap i2 b k) (o1 : p.Ob s.heap a xs) (o2 : q.Ob s.heap b ys) (e : xs[k]? = none ∨ ys[k]? = none)
    (d : ∀ h' x, (∀ c o, c ≠ z → c ≠ i1 → c ≠ i2 → s.heap.get? c = some o → h'.get? c = some o) → (∃ o, h'.get? x = some o ∧ o.cls = .type "StopIteration") → E (.ref x) { s with heap := h' }) :
    wpAny (model prog w) A (Builtin.«zip.__next__» ⟨[.ref z], []⟩) Q E s := by
  show wpAny _ _ (field (.ref z) 2 >>= _) _ _ _
  refine wpAny_bind (wpAny_field hz rfl (x := .bool false) rfl ?_)
  show wpAny _ _ (field (.ref z) 3 >>= _) _ _ _
  refine wpAny_bind (wpAny_field hz rfl (x := .ref TI) rfl ?_)
  refine wpAny_bind (wpAny_seqItems hTI rfl ?_)
  show wpAny _ _ (Builtin.SmallTypes.ownedTupleIsFree (.ref z) >>= _) _ _ _
  refine wpAny_bind (wpAny_tupleHeld_zip hz hT fun g1 z1 w1 => ?_)
  simp only [Bool.false_eq_true, if_false]
  refine wpAny_bind ?_
  rw [← Array.forIn_toList]
  simp only [List.forIn_cons, List.forIn_nil]
  refine wpAny_bind (wpAny_bind (wpAny_holding ?_))
  show wpAny _ _ (Builtin.SmallTypes.nextOf (.ref i1) >>= _) _ _ _
  cases hx : xs[k]? with
  | none =>
    refine wpAny_bind (Sk.stop (s := { s with heap := g1 }) hh (c1.eb w1.extBut D.i1z) (o1.eb w1.extBut D.l1z) hx fun g2 x w2 hs => ?_)
    exact d g2 x (fun c o n1 n2 _ e => w2 _ _ n2 (w1.extBut _ _ n1 e)) hs
  | some u =>
    have hy : ys[k]? = none := e.resolve_left (by rw [hx]; simp)
    refine wpAny_bind (Sk.nx (s := { s with heap := g1 }) (c1.eb w1.extBut D.i1z) (o1.eb w1.extBut D.l1z) hx fun g2 c1' w2 => wpAny_pure ?_)
    refine wpAny_pure ?_
    refine wpAny_bind (wpAny_bind (wpAny_holding ?_))
    show wpAny _ _ (Builtin.SmallTypes.nextOf (.ref i2) >>= _) _ _ _
    refine wpAny_bind (Sk.stop (s := { s with heap := g2 }) hh ((c2.eb w1.extBut D.i2z).eb w2.extBut D.i12.symm) ((o2.eb w1.extBut D.l2z).eb w2.extBut D.l2i1) hy fun g3 x w3 hs => ?_)
    exact d g3 x (fun c o n1 n2 n3 e => w3 _ _ n3 (w2.extBut _ _ n2 (w1.extBut _ _ n1 e))) hs
/-- a zip object at its turn k, its tuple out or not -/
def ZSt (p q : Sk) (h : Heap) (z TI TO i1 i2 a b S : Addr) (k : Nat) : Prop :=
  IsPair h TI (.ref i1) (.ref i2) ∧ p.Cur h i1 a k ∧ q.Cur h i2 b k ∧ ((IsZip h z TI TO .none ∧ ∃ u v, IsPair h TO u v) ∨ ∃ T f oT, IsZipHeld h z TI TO T f ∧ h.get? T = some oT ∧ T ≠ z ∧ T ≠ i1 ∧ T ≠ i2 ∧ T ≠ S)
theorem ZSt.up {h h' : Heap} {S : Addr} (st : ZSt p q h z TI TO i1 i2 a b S k) (kp : ∀ c o, c ≠ S → h.get? c = some o → h'.get? c = some o) (n1 : z ≠ S) (n2 : TI ≠ S) (n3 : TO ≠ S) (n4 : i1 ≠ S) (n5 : i2 ≠ S) : ZSt p q h' z TI TO i1 i2 a b S k := by
  obtain ⟨hTI, c1, c2, hz⟩ := st
  refine ⟨kp _ _ n2 hTI, c1.to fun o e => kp _ o n4 e, c2.to fun o e => kp _ o n5 e, ?_⟩
  rcases hz with ⟨hz, x, y, hTO⟩ | ⟨T, f, oT, hz, hT, r1, r2, r3, r4⟩
  · exact .inl ⟨kp _ _ n1 hz, x, y, kp _ _ n3 hTO⟩
  · exact .inr ⟨T, f, oT, kp _ _ n1 hz, kp _ _ r4 hT, r1, r2, r3, r4⟩
theorem zst_next {S : Addr} {Q : Option Value → Shared → Prop} (hS : S < s.heap.objs.size) (D : ZipApart z TI TO i1 i2 a b) (st : ZSt p q s.heap z TI TO i1 i2 a b S k) (o1 : p.Ob s.heap a xs) (o2 : q.Ob s.heap b ys) (e1 : xs[k]? = some u) (e2 : ys[k]? = some v)
    (d : ∀ h', ZSt p q h' z TI TO i1 i2 a b S (k + 1) → IsPair h' s.heap.objs.size u v → Left z TO i1 i2 s.heap h' → Q (some (.ref s.heap.objs.size)) { s with heap := h' }) :
    wpAny (model prog w) A (pyNext (.ref z)) Q E s := by
  obtain ⟨hTI, c1, c2, hz⟩ := st
  have m1 : s.heap.objs.size ≠ i1 := by obtain ⟨_, e, _⟩ := c1.ob; exact Nat.ne_of_gt (Heap.lt_size e)
  have m2 : s.heap.objs.size ≠ i2 := by obtain ⟨_, e, _⟩ := c2.ob; exact Nat.ne_of_gt (Heap.lt_size e)
  rcases hz with ⟨hz, x, y, hTO⟩ | ⟨T, f, oT, hz, hT, r1, r2, r3, r4⟩
  · exact zs_next D ⟨hz, hTI, ⟨x, y, hTO⟩, c1, c2⟩ o1 o2 e1 e2 fun h' a1 a2 a3 a4 a5 hk => d h' ⟨hk _ _ D.TIz D.TITO D.TIi1 D.TIi2 hTI, a3, a4, .inr ⟨s.heap.objs.size, false, _, a1, a5, Nat.ne_of_gt (Heap.lt_size hz), m1, m2, Nat.ne_of_gt hS⟩⟩ a5 hk
  · have hTy : s.TypeIs (.ref z) "zip" := ⟨_, hz, rfl⟩
    unfold pyNext
    exact wpAny_bind (wpAny_attempt (wpAny_callSpecial?_slot (name := Str.ofString "__next__") hTy F.slot_zip_next (wpAny_call_entry F.slot_zip_next hTy F.entry_zip_next
      (zh_item D hz hT hTI c1 c2 o1 o2 e1 e2 fun h' a1 a3 a4 a5 hk => wpAny_pure (d h' ⟨hk _ _ D.TIz D.TIi1 D.TIi2 hTI, a3, a4, .inr ⟨T, true, oT, a1, hk _ _ r1 r2 r3 hT, r1, r2, r3, r4⟩⟩ a5 fun c o n1 _ n3 n4 e => hk c o n1 n3 n4 e)) (F.args_zip_next_1 _))))
theorem zst_over {S : Addr} {Q : Option Value → Shared → Prop} (hh : A.handled = none) (D : ZipApart z TI TO i1 i2 a b) (st : ZSt p q s.heap z TI TO i1 i2 a b S k) (o1 : p.Ob s.heap a xs) (o2 : q.Ob s.heap b ys) (e : xs[k]? = none ∨ ys[k]? = none)
    (d : ∀ h', Left z TO i1 i2 s.heap h' → Q none { s with heap := h' }) : wpAny (model prog w) A (pyNext (.ref z)) Q E s := by
  obtain ⟨hTI, c1, c2, hz⟩ := st
  rcases hz with ⟨hz, x, y, hTO⟩ | ⟨T, f, oT, hz, hT, r1, r2, r3, r4⟩
  · exact zs_over hh D ⟨hz, hTI, ⟨x, y, hTO⟩, c1, c2⟩ o1 o2 e d
  · have hTy : s.TypeIs (.ref z) "zip" := ⟨_, hz, rfl⟩
    unfold pyNext
    refine wpAny_bind (wpAny_attempt (wpAny_callSpecial?_slot (name := Str.ofString "__next__") hTy F.slot_zip_next (wpAny_call_entry F.slot_zip_next hTy F.entry_zip_next
      (zh_stop hh D hz hT hTI c1 c2 o1 o2 e fun h' x hk ⟨o, h1, h2⟩ => wpAny_bind (wpAny_isInstance (T := "StopIteration") (b := true) ⟨o, h1, h2⟩ isSubtype_stop ?_)) (F.args_zip_next_1 _))))
    exact wpAny_pure (d _ fun c o n1 _ n3 n4 e => hk c o n1 n3 n4 e)
/-- the pairs that were made -/
structure MadeZ (xs ys : Array Value) (lo : Addr) (h : Heap) (as : List Addr) : Prop where
  rise : as.Pairwise (· < ·)
  above : ∀ a ∈ as, lo < a
  pairs : ∀ (j : Nat) (a : Addr), as[j]? = some a → ∃ u v, xs[j]? = some u ∧ ys[j]? = some v ∧ IsPair h a u v
theorem MadeZ.there {lo : Addr} {h : Heap} {as : List Addr} (g : MadeZ xs ys lo h as) {a : Addr} (ha : a ∈ as) : a < h.objs.size := by
  obtain ⟨j, hj⟩ := List.mem_iff_getElem?.mp ha
  obtain ⟨_, _, _, _, e⟩ := g.pairs j a hj
  exact Heap.lt_size e
/-- what the walk leaves alone -/
abbrev LeftS (S z TO i1 i2 : Addr) (h h' : Heap) : Prop := ∀ c o, c ≠ S → c ≠ z → c ≠ TO → c ≠ i1 → c ≠ i2 → h.get? c = some o → h'.get? c = some o
theorem loopZ {R : Result → Shared → Prop} {S : Addr} (hh : A.handled = none) (D : ZipApart z TI TO i1 i2 a b) (lz : z < S) (lTI : TI < S) (lTO : TO < S) (l1 : i1 < S) (l2 : i2 < S) (la : a < S) (lb : b < S) (hn : min xs.size ys.size ≤ sizeLine) (res : Value) {h₁ : Heap}
    (hR : ∀ h' tk acc c as, LeftS S z TO i1 i2 h₁ h' → h'.get? S = some { cls := .type "list", dict := none, data := .seq acc c, slots := #[] } → as.length = min xs.size ys.size → MadeZ xs ys S h' as →
      acc.toList = as.map Value.ref → R (.ok (.ret res)) { s with heap := h', toks := tk }) :
    ∀ (k i : Nat) (h : Heap) (tk c : Nat) (acc : Array Value) (as : List Addr), min xs.size ys.size - i = k → i ≤ min xs.size ys.size → ZSt p q h z TI TO i1 i2 a b S i → p.Ob h a xs → q.Ob h b ys → LeftS S z TO i1 i2 h₁ h →
      h.get? S = some { cls := .type "list", dict := none, data := .seq acc c, slots := #[] } → acc.toList = as.map Value.ref → as.length = i → MadeZ xs ys S h as →
      codeAny (model prog w) A (.builtin "list.extend.loop" ⟨[.ref S, .ref z, res], []⟩) R { s with heap := h, toks := tk } := by
  intro k
  induction k with
  | zero =>
    intro i h tk c acc as hk hi hst o1 o2 hkeep hS hacc hal hG
    refine codeAny_builtin PySem.F.entry_extend_loop ?_
    rw [Around.under_plainId PySem.F.plain_extend_loop _]
    show wpAny _ A.in1 (pyNext (.ref z) >>= _) _ _ _
    have he : xs[i]? = none ∨ ys[i]? = none := by
      rcases Nat.le_total xs.size ys.size with g | g
      · exact .inl (Array.getElem?_eq_none (by omega))
      · exact .inr (Array.getElem?_eq_none (by omega))
    refine wpAny_bind (zst_over (s := { s with heap := h, toks := tk }) (A := A.in1) hh D hst o1 o2 he fun h' hl => ?_)
    have ne : ∀ b ∈ as, b ≠ z ∧ b ≠ TO ∧ b ≠ i1 ∧ b ≠ i2 := fun b hb => by
      have := hG.above b hb
      exact ⟨Nat.ne_of_gt (Nat.lt_trans lz this), Nat.ne_of_gt (Nat.lt_trans lTO this), Nat.ne_of_gt (Nat.lt_trans l1 this), Nat.ne_of_gt (Nat.lt_trans l2 this)⟩
    refine wpAny_pure (hR h' tk acc c as (fun b o n0 n1 n2 n3 n4 e => hl b o n1 n2 n3 n4 (hkeep b o n0 n1 n2 n3 n4 e)) (hl S _ (Nat.ne_of_gt lz) (Nat.ne_of_gt lTO) (Nat.ne_of_gt l1) (Nat.ne_of_gt l2) hS) (by omega) ⟨hG.rise, hG.above, fun j b hj => ?_⟩ hacc)
    obtain ⟨u, v, e1, e2, e3⟩ := hG.pairs j b hj
    obtain ⟨m1, m2, m3, m4⟩ := ne b (List.mem_of_getElem? hj)
    exact ⟨u, v, e1, e2, hl b _ m1 m2 m3 m4 e3⟩
  | succ k ih =>
    intro i h tk c acc as hk hi hst o1 o2 hkeep hS hacc hal hG
    have hlt : i < min xs.size ys.size := by omega
    have hix : i < xs.size := Nat.lt_of_lt_of_le hlt (Nat.min_le_left ..)
    have hiy : i < ys.size := Nat.lt_of_lt_of_le hlt (Nat.min_le_right ..)
    have ex := Array.getElem?_eq_getElem hix
    have ey := Array.getElem?_eq_getElem hiy
    have hsz : acc.size = i := by rw [← Array.length_toList, hacc, List.length_map, hal]
    refine codeAny_builtin PySem.F.entry_extend_loop ?_
    rw [Around.under_plainId PySem.F.plain_extend_loop _]
    show wpAny _ A.in1 (pyNext (.ref z) >>= _) _ _ _
    have hSl : S < h.objs.size := Heap.lt_size hS
    refine wpAny_bind (zst_next (s := { s with heap := h, toks := tk }) hSl D hst o1 o2 ex ey fun h' hst' ht hkp => ?_)
    dsimp only at ht hkp ⊢
    have hS' := hkp S _ (Nat.ne_of_gt lz) (Nat.ne_of_gt lTO) (Nat.ne_of_gt l1) (Nat.ne_of_gt l2) hS
    have up : ∀ b o, b ≠ S → h'.get? b = some o → (h'.update S (Obj.mapSeq (·.push (Value.ref h.objs.size)))).get? b = some o := fun b o hb e => (Heap.get?_update_other _ _ (Ne.symm hb)).trans e
    have na : a ≠ S := Nat.ne_of_lt la
    have nb : b ≠ S := Nat.ne_of_lt lb
    show wpAny _ A.in1 (updateSeq S (·.push (Value.ref h.objs.size)) >>= _) _ _ _
    refine wpAny_bind ?_
    refine wpAny_updateSeq hS' rfl (wpAny_pure ⟨plainId_quiet PySem.F.plain_extend_loop _, ih (i + 1) _ tk _ (acc.push (Value.ref h.objs.size)) (as ++ [h.objs.size]) (by omega) hlt
      (hst'.up up (Nat.ne_of_lt lz) (Nat.ne_of_lt lTI) (Nat.ne_of_lt lTO) (Nat.ne_of_lt l1) (Nat.ne_of_lt l2))
      ((o1.to fun o e => hkp _ o D.l1z D.l1TO D.l1i1 D.l1i2 e).to fun o e => up _ o na e) ((o2.to fun o e => hkp _ o D.l2z D.l2TO D.l2i1 D.l2i2 e).to fun o e => up _ o nb e)
      (fun b o n0 n1 n2 n3 n4 e => up b o n0 (hkp b o n1 n2 n3 n4 (hkeep b o n0 n1 n2 n3 n4 e))) (Heap.get?_update_self _ hS' rfl) (by rw [Array.toList_push, hacc, List.map_append]; rfl) (by rw [List.length_append, hal]; rfl) ⟨?_, ?_, ?_⟩⟩) (by rw [hsz]; omega) (by show (acc.push (Value.ref h.objs.size)).size ≤ sizeLine + 1; rw [Array.size_push, hsz]; omega)
    · refine List.pairwise_append.mpr ⟨hG.rise, List.pairwise_singleton _ _, fun a ha b hb => ?_⟩
      rw [List.mem_singleton.mp hb]
      exact hG.there ha
    · intro a ha
      rcases List.mem_append.mp ha with ha | ha
      · exact hG.above a ha
      · rw [List.mem_singleton.mp ha]; exact hSl
    · intro j b hj
      rcases Nat.lt_trichotomy j as.length with h1 | h1 | h1
      · rw [List.getElem?_append_left h1] at hj
        obtain ⟨u, v, e1, e2, e3⟩ := hG.pairs j b hj
        have hb := hG.above b (List.mem_of_getElem? hj)
        exact ⟨u, v, e1, e2, up b _ (Nat.ne_of_gt hb) (hkp b _ (Nat.ne_of_gt (Nat.lt_trans lz hb)) (Nat.ne_of_gt (Nat.lt_trans lTO hb)) (Nat.ne_of_gt (Nat.lt_trans l1 hb)) (Nat.ne_of_gt (Nat.lt_trans l2 hb)) e3)⟩
      · subst h1
        have hb : h.objs.size = b := by simpa using hj
        subst hb
        subst hal
        exact ⟨_, _, ex, ey, up _ _ (Nat.ne_of_gt hSl) ht⟩
      · have hnone : (as ++ [h.objs.size])[j]? = none := List.getElem?_eq_none (by rw [List.length_append, List.length_singleton]; omega)
        rw [hnone] at hj; cases hj
theorem zip_hint {Q : Bool → Shared → Prop} (hT : s.TypeIs (.ref z) "zip") (h : Q true s) : wpAny (model prog w) A (Builtin.List.listLengthHint (.ref z)) Q E s := by
  unfold Builtin.List.listLengthHint
  refine wpAny_bind (wpAny_specialOf hT zip_no_len ?_)
  show wpAny _ _ (specialOf (Value.ref z) (Str.ofString "__length_hint__") >>= _) _ _ _
  refine wpAny_bind (wpAny_specialOf hT zip_no_hint ?_)
  exact wpAny_pure h
/-- list(z) -/
theorem list_zip {Q : Value → Shared → Prop} (hh : A.handled = none) (D : ZipApart z TI TO i1 i2 a b) (st : Zs p q s.heap z TI TO i1 i2 a b 0) (o1 : p.Ob s.heap a xs) (o2 : q.Ob s.heap b ys) (hn : min xs.size ys.size ≤ sizeLine)
    (hQ : ∀ h' tk acc c as, Left z TO i1 i2 s.heap h' → h'.get? s.heap.objs.size = some { cls := .type "list", dict := none, data := .seq acc c, slots := #[] } → as.length = min xs.size ys.size → MadeZ xs ys s.heap.objs.size h' as →
      acc.toList = as.map Value.ref → Q (.ref s.heap.objs.size) { s with heap := h', toks := tk }) :
    wpAny (model prog w) A (call (.type "list") [.ref z]) Q E s := by
  obtain ⟨hz, hTI, ⟨x0, y0, hTO⟩, c1, c2⟩ := st
  have lz : z < s.heap.objs.size := Heap.lt_size hz
  have lTI : TI < s.heap.objs.size := Heap.lt_size hTI
  have lTO : TO < s.heap.objs.size := Heap.lt_size hTO
  have l1 : i1 < s.heap.objs.size := by obtain ⟨_, e, _⟩ := c1.ob; exact Heap.lt_size e
  have l2 : i2 < s.heap.objs.size := by obtain ⟨_, e, _⟩ := c2.ob; exact Heap.lt_size e
  have la := o1.lt
  have lb := o2.lt
  refine callType_codes (Q₁ := fun obj s₁ => obj = .ref s.heap.objs.size ∧ s₁ = { s with heap := s.heap.push { cls := .type "list", data := .seq #[] } }) PySem.F.called_list (PySem.F.typeCall_list_1 _) PySem.F.entry_list_init
    (code_list_new _ ⟨rfl, rfl⟩) fun obj s₁ h₁ => ?_
  obtain ⟨rfl, rfl⟩ := h₁
  have hS : (s.heap.push { cls := .type "list", data := .seq #[] }).get? s.heap.objs.size = some { cls := .type "list", data := .seq #[] } := Heap.get?_push_size _ rfl
  refine ⟨⟨_, hS, rfl⟩, PySem.F.args_list_init_2 _ _, ?_⟩
  show wpAny _ A.in1.in1 (do let old ← Builtin.List.listItems (.ref s.heap.objs.size); Builtin.List.listUpdate (.ref s.heap.objs.size) (fun _ => #[]); letGo old.toList.reverse; Builtin.List.listExtendWith (.ref s.heap.objs.size) (.ref z) .none) _ _ _
  refine wpAny_bind ?_
  unfold Builtin.List.listItems
  refine wpAny_bind (wpAny_seqItems hS rfl (wpAny_pure ?_))
  show wpAny _ A.in1.in1 (updateSeq s.heap.objs.size (fun _ => #[]) >>= fun _ => letGo (#[] : Array Value).toList.reverse >>= fun _ => Builtin.List.listExtendWith (.ref s.heap.objs.size) (.ref z) .none) _ _ _
  refine wpAny_bind (wpAny_updateSeq hS rfl ?_)
  have hS2 := Heap.get?_update_self (Obj.mapSeq (fun _ => (#[] : Array Value))) hS rfl
  refine wpAny_bind (wpAny_letGo ?_)
  unfold Builtin.List.listExtendWith
  have up : ∀ (h : Heap) (f : Obj → Obj), (∀ b o, s.heap.get? b = some o → h.get? b = some o) → ∀ b o, s.heap.get? b = some o → (h.update s.heap.objs.size f).get? b = some o := fun h f q b o e =>
    (Heap.get?_update_other _ _ (Ne.symm (Nat.ne_of_lt (Heap.lt_size e)))).trans (q b o e)
  have k1 : ∀ b o, s.heap.get? b = some o → (s.heap.push { cls := .type "list", data := .seq #[] }).get? b = some o := fun b o e => Heap.get?_push_of_some _ e
  have k2 := up _ (Obj.mapSeq (fun _ => (#[] : Array Value))) k1
  refine wpAny_bind (wpAny_typeOf (T := "zip") ⟨_, k2 _ _ hz, rfl⟩ ?_)
  have h1 : Builtin.List.listSameRef (.ref s.heap.objs.size) (.ref z) = false := by simp [Builtin.List.listSameRef, Nat.ne_of_gt lz]
  have h2 : (Value.type "zip" == Value.type "list") = false := by decide
  have h3 : (Value.type "zip" == Value.type "tuple") = false := by decide
  simp only [h1, h2, h3, Bool.or_false, Bool.false_eq_true, if_false]
  refine wpAny_bind (wpAny_pyIter_zip (s := { s with heap := _ }) (k2 _ _ hz) ?_)
  refine wpAny_bind (wpAny_holding (zip_hint (s := { s with heap := _ }) ⟨_, k2 _ _ hz, rfl⟩ ?_))
  show wpAny _ A.in1.in1 (rule "list.extend.makes-room" >>= fun _ => Builtin.List.listTouch (.ref s.heap.objs.size) >>= fun _ =>
    again (.builtin "list.extend.loop" ⟨[.ref s.heap.objs.size, .ref z, .none], []⟩)) _ _ _
  refine wpAny_bind (wpAny_rule ?_)
  refine wpAny_bind ?_
  show wpAny _ A.in1.in1 (updateSeq s.heap.objs.size (·.push .none) >>= fun _ => updateSeq s.heap.objs.size (·.pop)) _ _ _
  refine wpAny_bind (wpAny_updateSeq hS2 rfl ?_)
  have hS3 := Heap.get?_update_self (Obj.mapSeq (·.push Value.none)) hS2 rfl
  refine wpAny_updateSeq (hz := by seq_fits) hS3 rfl ?_
  have hS4 := Heap.get?_update_self (Obj.mapSeq (·.pop)) hS3 rfl
  have k4 := up _ (Obj.mapSeq (·.pop)) (up _ (Obj.mapSeq (·.push Value.none)) k2)
  refine wpAny_pure ⟨plainId_quiet F.plain_extend_loop _, ?_⟩
  refine loopZ (s := s) (A := A.in1) (p := p) (q := q) (xs := xs) (ys := ys) hh D lz lTI lTO l1 l2 la lb hn .none (h₁ := s.heap)
    (fun h' tk acc c as hk hS' hl hG hacc => ⟨rfl, hQ h' tk acc c as (fun c o n1 n2 n3 n4 e => hk c o (Nat.ne_of_lt (Heap.lt_size e)) n1 n2 n3 n4 e) hS' hl hG hacc⟩)
    _ 0 _ s.toks _ #[] [] rfl (Nat.zero_le _) ⟨k4 _ _ hTI, c1.to fun o e => k4 _ o e, c2.to fun o e => k4 _ o e, .inl ⟨k4 _ _ hz, x0, y0, k4 _ _ hTO⟩⟩ (o1.to fun o e => k4 _ o e) (o2.to fun o e => k4 _ o e) (fun c o _ _ _ _ _ e => k4 c o e) hS4 rfl rfl
    ⟨List.Pairwise.nil, (fun _ ha => nomatch ha), (fun j a hj => by simp at hj)⟩
end
section
variable {T : Tab} {W : XW} {C : Ck} {cf nf : CallF} {X : Cx} {sc : Scope}
theorem takeZ {pins : List (Addr × Obj)} {σ : L2.St} {H0 : Hp} {s : Shared} {h' : Heap} {tk : Nat} {ρ : List Addr} {st : Store} (I0 : L2.Inv X pins σ H0 s) : ∀ (as : List Addr) (xs ys : List V) (l1 l2 : List PyData) (F H1 : Hp), L2.Inv X pins σ H1 { s with heap := h', toks := tk } → Rl T ρ F H1 st → as.Nodup →
    as.length = min xs.length ys.length → DqAll T.kc F xs l1 → DqAll T.kc F ys l2 → (zipD l1 l2).all notSP = true →
    (∀ (j : Nat) (a : Addr), as[j]? = some a → s.heap.objs.size ≤ a ∧ H1 a = none ∧ ∃ x y u v, xs[j]? = some x ∧ ys[j]? = some y ∧ IsPair h' a u v ∧ RelV x u ∧ RelV y v) →
    ∃ F2 H2, L2.Inv X pins σ H2 { s with heap := h', toks := tk } ∧ Rl T ρ F2 H2 st ∧ Sub F F2 ∧ (∀ p, H1 p = none → p ∉ as → H2 p = none) ∧ DqAll T.kc F2 (as.map V.ref) (zipD l1 l2)
  | [], xs, ys, l1, l2, F, H1, I1, r, _, hl, d1, d2, _, _ => by
    have e : zipD l1 l2 = [] := by
      apply List.length_eq_zero_iff.mp
      rw [zipD_len, ← d1.length, ← d2.length, ← hl]; rfl
    exact ⟨F, H1, I1, r, Sub.refl F, fun _ h _ => h, by rw [e]; exact .nil⟩
  | a :: as, xs, ys, l1, l2, F, H1, I1, r, hn, hl, d1, d2, hs, hp => by
    cases d1 with
    | nil => simp at hl
    | cons e1 d1 =>
      cases d2 with
      | nil => simp at hl
      | cons e2 d2 =>
        rename_i x xs dx l1 y ys dy l2
        obtain ⟨hb, hnone, x', y', u, v, q1, q2, q3, q4, q5⟩ := hp 0 a rfl
        cases (show x = x' from Option.some.inj q1)
        cases (show y = y' from Option.some.inj q2)
        have hs : (notSP (.tuple [dx, dy]) && (zipD l1 l2).all notSP) = true := hs
        rw [Bool.and_eq_true] at hs
        have hS : isS [dx, dy] = false := by simpa [notSP] using hs.1
        have I2 : L2.Inv X pins σ (upd H1 a (.tup [x, y])) { s with heap := h', toks := tk } := I1.take (h' := h') (t' := tk) (fun b ob _ e => e) (I0.fpOk hb hnone) ⟨by show 2 ≤ sizeLine; decide, [u, v], .cons q4 (.cons q5 .nil), ⟨_, q3, rfl, _, rfl⟩⟩
        obtain ⟨r2, s2⟩ := r.newF (o := .tup [x, y]) hnone
        rw [List.nodup_cons] at hn
        obtain ⟨F2, H2, I3, r3, s3, n3, d3⟩ := takeZ I0 as xs ys l1 l2 (upd F a (.tup [x, y])) (upd H1 a (.tup [x, y])) I2 r2 hn.2 (by simp only [List.length_cons] at hl; omega) (DqAll.sub s2 d1) (DqAll.sub s2 d2) hs.2 fun j c hj => by
          obtain ⟨k1, k2, k3⟩ := hp (j + 1) c (by simpa using hj)
          exact ⟨k1, by rw [upd_ne (fun z => hn.1 (by rw [← z]; exact List.mem_of_getElem? hj))]; exact k2, by simpa using k3⟩
        refine ⟨F2, H2, I3, r3, s2.trans s3, fun p h1 h2 => n3 p (by rw [upd_ne (fun z => h2 (by rw [z]; exact List.mem_cons_self))]; exact h1) (fun z => h2 (List.mem_cons_of_mem _ z)), ?_⟩
        show DqAll T.kc F2 (V.ref a :: as.map V.ref) (.tuple [dx, dy] :: zipD l1 l2)
        exact .cons (Dq.tup (.inl ⟨hS, s3 _ _ upd_same⟩) (.cons (Dq.sub (s2.trans s3) e1) (.cons (Dq.sub (s2.trans s3) e2) .nil))) d3
theorem vals_at : ∀ {xs : List V} {us : List Value} {i : Nat} {u : Value}, Vals xs us → us[i]? = some u → ∃ x, xs[i]? = some x ∧ RelV x u
  | _, _, _, _, .nil, h => by simp at h
  | _, _, 0, _, .cons a _, h => by cases (show _ = _ from Option.some.inj h); exact ⟨_, rfl, a⟩
  | _, _, i + 1, _, .cons _ r, h => vals_at (i := i) r (by simpa using h)
theorem vals_refs : ∀ as : List Addr, Vals (as.map V.ref) (as.map Value.ref)
  | [] => .nil
  | _ :: as => .cons rfl (vals_refs as)
theorem e_zipL {x y : Expr} {a b : Ex} {p p2 pos pos2 : Pos} (am : Amb T C W cf nf X) (hs : X.env.scope = sc) (h1 : gloB sc ("list" : Str) = true) (h2 : decide (("list" : Str) ∈ C.free) = true) (h3 : gloB sc ("zip" : Str) = true) (h4 : decide (("zip" : Str) ∈ C.free) = true) (hst : isStar x = false) (hst2 : isStar y = false) (ha : PA X [x, y] (tA T W cf nf [a, b])) :
    PE X (.Call (.Name "list" p) [.Call (.Name "zip" p2) [x, y] [] pos2] [] pos) (tE T W cf nf (.zipL [a, b])) := by
  obtain ⟨g1, g2, g3⟩ := gl_of hs h1
  obtain ⟨z1, z2, z3⟩ := gl_of hs h3
  refine ⟨fun pins s σ H Q I ⟨ρ, F, env, st, r, en, h⟩ => ?_⟩
  unfold evE at h
  have run := ha.run pos2 pins s σ H (fun vs H1 => ∃ ρ1 F1 st1 a b xs ys l1 l2 p q, Rl T ρ1 F1 H1 st1 ∧ vs = [.ref a, .ref b] ∧ Sk.Sq p X.K H1 a xs ∧ Sk.Sq q X.K H1 b ys ∧ DqAll T.kc F1 xs l1 ∧ DqAll T.kc F1 ys l2 ∧ OkP T W ρ1 F1 (if (zipD l1 l2).length ≤ limZ ∧ (zipD l1 l2).all notSP = true then .ok (.d (.list (zipD l1 l2)), true) st1 else .no) Q) I (seqA r en h fun ρ1 F1 H1 st1 vs xs p1 s1 r1 en1 hv h1 => by
    cases e : walkZ vs with
    | none => rw [e] at h1; exact h1.elim
    | some l =>
      rw [e] at h1
      cases hv with
      | nil => cases e
      | cons k1 hv =>
        cases hv with
        | nil => cases e
        | cons k2 hv =>
          cases hv with
          | cons k3 hv => cases e
          | nil =>
            rename_i v1 x1 v2 x2
            replace e : (match frozen v1, frozen v2 with
              | some a, some b => some (zipD a b)
              | _, _ => none) = some l := e
            split at e
            · rename_i l1 l2 e3 e4
              cases e
              obtain ⟨p, a1, us, rfl, q1, q2⟩ := seq_V k1 e3
              obtain ⟨q, a2, ws, rfl, q3, q4⟩ := seq_V k2 e4
              exact ⟨ρ1, F1, st1, a1, a2, us, ws, l1, l2, p, q, r1, rfl, q1 _ _ r1.sub, q3 _ _ r1.sub, q2, q4, h1⟩
            · cases e)
  refine Call_ (ld_blt (u := .type "list") I g1 (fr_of2 am h2) (by decide +kernel) (PyProof.Rows.callWith_type1 ?_ rfl rfl) g3 g2)
  show wpAny _ _ (spliced ((false, eval (.Call (.Name "zip" p2) [x, y] [] pos2) X.env) :: backTo pos (starEach [] X.env))) _ _ s
  refine Calls.spliced_cons (Call_ (ld_blt I z1 (fr_of2 am h4) PyProof.Rows.boot_zip (PyProof.Rows.callWith_type1 (thn run fun us s1 ⟨vs, H1, I1, rv, ρ1, F1, st1, a, b, xs, ys, l1, l2, p, q, r1, ex, hx, hy, d1, d2, hk⟩ => ?_) (star_cons hst [y] X.env) (by rw [star_cons hst2]; rfl)) z3 z2))
  subst ex
  obtain ⟨u1, u2, rfl, rA, rB⟩ : ∃ u1 u2, us = [u1, u2] ∧ RelV (.ref a) u1 ∧ RelV (.ref b) u2 := by
    cases rv with
    | cons r rr => cases rr with
      | cons r' rr => cases rr; exact ⟨_, _, rfl, r, r'⟩
  cases rA
  cases rB
  obtain ⟨its, rx, o1⟩ := Sk.of I1 hx
  obtain ⟨its2, ry, o2⟩ := Sk.of I1 hy
  split at hk
  rotate_left
  · exact hk.elim
  rename_i hc
  refine call_zs o1 o2 fun h' stz hkp => Calls.spliced_nil ?_
  have lx : its.toArray.size = l1.length := by rw [List.size_toArray, ← rx.length, d1.length]
  have ly : its2.toArray.size = l2.length := by rw [List.size_toArray, ← ry.length, d2.length]
  refine list_zip (s := { s1 with heap := h' }) (p := p) (q := q) (xs := its.toArray) (ys := its2.toArray) (I1.ok.hd am.calm) (PySem.W.ktu_apart s1.heap.objs.size a b o1.lt o2.lt) stz (o1.to fun o e => hkp _ o e) (o2.to fun o e => hkp _ o e) (by rw [lx, ly, ← zipD_len, ← limZ_eq]; exact hc.1) fun h2 tk acc c as hl hS hlen hG hacc => ?_
  have kp : ∀ b o, s1.heap.get? b = some o → h2.get? b = some o := fun b o e => by
    have hb := Heap.lt_size e
    exact hl b o (Nat.ne_of_lt (Nat.lt_add_right _ hb)) (Nat.ne_of_lt (Nat.lt_add_right _ hb)) (Nat.ne_of_lt hb) (Nat.ne_of_lt (Nat.lt_add_right _ hb)) (hkp b o e)
  have hsz : s1.heap.objs.size ≤ h'.objs.size := by
    exact Nat.le_of_lt (Nat.lt_of_le_of_lt (Nat.le_add_right _ 4) (Heap.lt_size stz.z))
  have I2 : L2.Inv X pins σ H1 { s1 with heap := h2, toks := tk } := I1.kept (t' := tk) kp
  have nd : as.Nodup := List.Pairwise.imp (fun h => Nat.ne_of_lt h) hG.rise
  obtain ⟨F2, H2, I3, r2, s2, n2, dz⟩ := takeZ I1 as xs ys l1 l2 F1 H1 I2 r1 nd (by rw [hlen, lx, ly, d1.length, d2.length]) d1 d2 hc.2 fun j c hj => by
    have hab := hG.above c (List.mem_of_getElem? hj)
    obtain ⟨u, v, e1, e2, e3⟩ := hG.pairs j c hj
    have hle : s1.heap.objs.size ≤ c := by
      have : h'.objs.size < c := hab
      omega
    obtain ⟨x, hx1, hx2⟩ := vals_at rx (by simpa using e1)
    obtain ⟨y, hy1, hy2⟩ := vals_at ry (by simpa using e2)
    exact ⟨hle, I1.hok.fresh hle, x, y, u, v, hx1, hy1, e3, hx2, hy2⟩
  have hnS : H2 h'.objs.size = none := n2 _ (I1.hok.fresh hsz) fun z => Nat.lt_irrefl _ (hG.above _ z)
  have hz : (as.map V.ref).length ≤ sizeLine := by
    rw [List.length_map, hlen, lx, ly, ← zipD_len, ← limZ_eq]; exact hc.1
  have I4 : L2.Inv X pins σ (upd H2 h'.objs.size (.lst (as.map V.ref))) { s1 with heap := h2, toks := tk } := I3.take (h' := h2) (t' := tk) (fun b ob _ e => e) (I1.fpOk hsz hnS) ⟨hz, acc.toList, c, by rw [hacc]; exact vals_refs as, by simpa using hS⟩
  exact ⟨.ref h'.objs.size, _, I4, rfl, OkP.newL (OkR.mono hk (List.prefix_refl _) s2) r2 dz hnS⟩
end
end Ev
end

section
set_option Elab.async false
set_option linter.all false
set_option maxRecDepth 100000
set_option maxHeartbeats 4000000
/-! EvM4: comprehensions over a list that is changed elsewhere: it must stand as it stood at each turn. -/
namespace Ev
open PySem PySem.Spec PyProof.Rows L2
mutual
theorem sameD_eq : ∀ {a b : PyData}, sameD a b = true → a = b
  | .none, b, h => by cases b <;> first | rfl | cases h
  | .bool x, b, h => by cases b <;> first | (rw [of_decide_eq_true h]) | cases h
  | .int x, b, h => by cases b <;> first | (rw [of_decide_eq_true h]) | cases h
  | .str x, b, h => by cases b <;> first | (rw [of_decide_eq_true h]) | cases h
  | .list x, b, h => by cases b <;> first | (rw [sameDs_eq h]) | cases h
  | .tuple x, b, h => by cases b <;> first | (rw [sameDs_eq h]) | cases h
  | .dict x, b, h => by cases b <;> cases h
theorem sameDs_eq : ∀ {a b : List PyData}, sameDs a b = true → a = b
  | [], b, h => by cases b <;> first | rfl | cases h
  | x :: r, b, h => by
    cases b with
    | nil => cases h
    | cons y s =>
      unfold sameDs at h
      rw [Bool.and_eq_true] at h
      rw [sameD_eq h.1, sameDs_eq h.2]
end
theorem clpW_cons {ok : Store → Bool} {f : PyData → Store → R (Option PyData)} {x : PyData} {xs : List PyData} {st : Store} {β : Type} {g : List PyData → Store → R β} (h : ok st = true) : (clpW ok f (x :: xs) st).bind g = (f x st).bind fun y st1 => (clpW ok f xs st1).bind fun ys st2 => g (match y with | some z => z :: ys | none => ys) st2 := by
  rw [show clpW ok f (x :: xs) st = (if ok st = true then (f x st).bind fun y st1 => (clpW ok f xs st1).bind fun ys st2 => .ok (match y with | some z => z :: ys | none => ys) st2 else .no) from rfl, if_pos h, R.bind_assoc]
  congr
  funext y st1
  rw [R.bind_assoc]
  rfl
theorem clpW_nil {ok : Store → Bool} {f : PyData → Store → R (Option PyData)} {st : Store} (h : ok st = true) : clpW ok f [] st = .ok [] st := by
  show (if ok st = true then R.ok [] st else .no) = _
  rw [if_pos h]
theorem clpW_no {ok : Store → Bool} {f : PyData → Store → R (Option PyData)} {st : Store} (h : ¬ ok st = true) : ∀ xs, clpW ok f xs st = .no
  | [] => by show (if ok st = true then R.ok [] st else .no) = _; rw [if_neg h]
  | x :: xs => by
    rw [show clpW ok f (x :: xs) st = (if ok st = true then (f x st).bind fun y st1 => (clpW ok f xs st1).bind fun ys st2 => .ok (match y with | some z => z :: ys | none => ys) st2 else .no) from rfl, if_neg h]
section
variable {T : Tab} {W : XW} {C : Ck} {cf nf : CallF} {X : Cx}
theorem clpW_ok {ok : Store → Bool} {f : PyData → Store → R (Option PyData)} {xs : List PyData} {st : Store} {β : Type} {g : List PyData → Store → R β} {ρ : List Addr} {F : Hp} {W : XW} {k : β → Store → List Addr → Hp → Hp → Prop} (h : OkR T W ρ F ((clpW ok f xs st).bind g) k) : ok st = true := by
  by_cases e : ok st = true
  · exact e
  · rw [clpW_no e] at h
    exact h.elim
def YlR (T : Tab) (tg : Tg) (ρ0 : List Addr) (F : Hp) (ok : Store → Bool) (J : It) (ds : List PyData) : Prop := ∀ i ρ G H st, ρ0 <+: ρ → Sub F G → Rl T ρ G H st → ok st = true → (i < ds.length → J.go i H) ∧ (i = ds.length → J.stop i H) ∧
  ∀ x H', i < ds.length → J.yld i H x H' → ∃ d, ds[i]? = some d ∧ Rl T ρ G H' st ∧ ItT T G H' tg x d
def tIR (T : Tab) (W : XW) (cf nf : CallF) (tg : Tg) (a : Ex) : TI := fun σ H R => ∃ ρ F env st, Rl T ρ F H st ∧ EnvR T ρ F [] env σ ∧ OkR T W ρ F (evE cf nf a env st) fun v st' ρ' F' H' => ∃ ds, walkOR v.1 st' = some ds ∧ ∀ J, (∀ h, YlR { T with hid := h } tg ρ' F' (okW v.1 st') J ds) → R J H'
theorem Yl.toR {T : Tab} {tg : Tg} {ρ0 : List Addr} {F : Hp} {ok : Store → Bool} {J : It} {ds : List PyData} (h : Yl T tg F J ds) : YlR T tg ρ0 F ok J ds := fun i ρ G H st _ s r _ => h i ρ G H st s r
theorem compR_eq (elt : Ex) (tg : Tg) (a : Ex) (ifs : List Ex) (env : Env) (st : Store) : evE cf nf (.compR elt tg a ifs) env st = (evE cf nf a env st).bind fun v st1 => match walkOR v.1 st1 with
    | some items => if items.length ≤ limZ then ((clpW (okW v.1 st1) (turnB cf nf elt tg ifs env) items st1).bind fun ys st2 => .ok (.d (.list ys), true) st2).calm else .no
    | none => .no := by
  conv => lhs; unfold evE
  rfl
/-- the list as it stands at each turn -/
theorem yl_own {tg : Tg} {n : Nat} {st0 : Store} {ρ0 : List Addr} {F : Hp} {a : Addr} {l : List PyData} (h1 : getO st0 n = some (.lst l)) (h2 : ρ0[n]? = some a) : YlR T tg ρ0 F (okW (.ref n) st0) (Itl X.K a) l := by
  intro i ρ G H st p s r hok
  have e0 : getO st n = some (.lst l) := by
    have hok : (match getO st0 n, getO st n with
      | some (.lst l), some (.lst m) => sameDs l m
      | _, _ => false) = true := hok
    rw [h1] at hok
    cases e : getO st n with
    | none => rw [e] at hok; cases hok
    | some o =>
      rw [e] at hok
      cases o with
      | lst m =>
        have : sameDs l m = true := hok
        rw [sameDs_eq this]
      | _ => cases hok
  obtain ⟨a', q1, q2, xs, q3, q4⟩ := r.obj n _ e0
  have ea : a' = a := by
    obtain ⟨t, ht⟩ := p
    rw [← ht, List.getElem?_append_left (List.getElem?_eq_some_iff.mp h2).1, h2] at q1
    cases q1; rfl
  subst ea
  have ha : SqL X.K H a' xs := SqL.of q3
  refine ⟨fun hi => ?_, fun hi => ⟨xs, ha, by rw [q4.length]; omega⟩, fun x H' hi y => ?_⟩
  · obtain ⟨x, d, e1, _, _⟩ := q4.lt hi
    exact ⟨xs, x, ha, e1⟩
  · obtain ⟨rfl, y⟩ := y
    obtain ⟨x', d, e1, e2, e3⟩ := q4.lt hi
    have e4 := y xs ha
    rw [e1] at e4
    cases e4
    exact ⟨d, e2, r, e3.it⟩
theorem i_own {tg : Tg} {e : Expr} {a : Ex} {te : Expr} (h1 : PE X e (tE T W cf nf a)) : PI X te e (tIR T W cf nf tg a) := by
  refine ⟨fun pins s σ H R I ⟨ρ, F, env, st, r, en, h⟩ => ?_⟩
  refine thn (h1.run pins s σ H (fun x H1 => ∃ ρ1 F1 st1 v ds, Rl T ρ1 F1 H1 st1 ∧ VlR T ρ1 F1 v x ∧ walkOR v st1 = some ds ∧ ∀ J, (∀ h, YlR { T with hid := h } tg ρ1 F1 (okW v st1) J ds) → R J H1) I ?_) fun u s1 ⟨x, H1, I1, rx, ρ1, F1, st1, v, ds, r1, hv, hw, hR⟩ => ?_
  · refine ⟨ρ, F, env, st, r, en, ?_⟩
    cases e : evE cf nf a env st with
    | ok v st1 =>
      rw [e] at h
      intro ρ1 F1 H1 p1 s1 r1 x fx
      obtain ⟨F2, s2, r2, v2⟩ := fx.frz r1
      obtain ⟨ds, e1, e2⟩ := h ρ1 F2 H1 p1 (s1.trans s2) r2
      exact ⟨ρ1, F2, st1, v.1, ds, r2, v2, e1, e2⟩
    | exc _ _ _ => rw [e] at h; exact h
    | no => rw [e] at h; exact h
  · cases v with
    | ref n =>
      obtain ⟨a, rfl, q⟩ := hv
      cases rx
      cases e : getO st1 n with
      | none => simp only [walkOR, e] at hw; cases hw
      | some o =>
        cases o with
        | lst l =>
          simp only [walkOR, e] at hw
          cases hw
          obtain ⟨a', q1, q2, xs, q3, q4⟩ := r1.obj n _ e
          rw [q] at q1
          cases q1
          obtain ⟨its, rv, pl, hz⟩ := I1.list (SqL.of (K := X.K) q3)
          exact wpAny_pyIter_list pl.isList (pi_one (tk := s1.toks) I1 _ (turn_list a _) ⟨_, Heap.get?_push_size _ rfl, rfl, rfl⟩ (hR _ (fun _ => yl_own e q)))
        | _ => simp only [walkOR, e] at hw; cases hw
    | d z =>
      have hw : walkO [.d z] = some ds := hw
      rcases walk_over hw with ⟨z', e, rfl⟩ | e | e
      · cases e
        cases hv
        obtain ⟨t, rfl⟩ := rx
        have q := hR _ fun _ => (yl_str (z := z')).toR
        cases ha : z'.cps.all (· < 128)
        · exact wpAny_pyIter_wide ha (pi_one (tk := s1.toks) I1 _ (turn_str _ z' t "str_iterator" (.inr rfl)) ⟨_, Heap.get?_push_size _ rfl, rfl, rfl⟩ q)
        · exact wpAny_pyIter_ascii ha (pi_one (tk := s1.toks) I1 _ (turn_str _ z' t "str_ascii_iterator" (.inl rfl)) ⟨_, Heap.get?_push_size _ rfl, rfl, rfl⟩ q)
      · cases e
        obtain ⟨p, xs, rfl, h1, h2⟩ := list_V hv
        cases rx
        obtain ⟨its, rv, pl, hz⟩ := I1.list (SqL.of (K := X.K) (r1.sub _ _ h1))
        exact wpAny_pyIter_list pl.isList (pi_one (tk := s1.toks) I1 _ (turn_list p _) ⟨_, Heap.get?_push_size _ rfl, rfl, rfl⟩ (hR _ (fun hh => Yl.toR (yl_list (T := { T with hid := hh }) h1 h2))))
      · cases e
        obtain ⟨p, xs, rfl, h1, h2⟩ := tup_V hv
        cases rx
        obtain ⟨its, rv, pl, hz⟩ := I1.tuple ((h1.sub r1.sub).sq (K := X.K))
        exact wpAny_pyIter_tuple (show s1.heap.IsTuple p its.toArray from pl) (pi_one (tk := s1.toks) I1 _ (turn_tuple p _) ⟨_, Heap.get?_push_size _ rfl, rfl, rfl⟩ (hR _ (fun hh => Yl.toR (yl_tup (T := { T with hid := hh }) h1 h2))))
    | scr _ => cases hw
    | kc _ => cases hw
/-- what stands at turn i -/
def IvCR (ok : Store → Bool) (ρ0 : List Addr) (T : Tab) (cf nf : CallF) (elt : Ex) (tg : Tg) (ifs : List Ex) (env : Env) (σ : L2.St) (F0 : Hp) (ds : List PyData) (D : Addr) (Q : VK) (i : Nat) (H : Hp) : Prop := i ≤ ds.length ∧ ∃ ρ F st acc accd, ρ0 <+: ρ ∧ Sub F0 F ∧ Rl T ρ F H st ∧ EnvR T ρ F [] env σ ∧ H D = some (.lst acc) ∧ F D = none ∧ D ∉ ρ ∧ (∀ q ∈ T.hid, q.1 ≠ D) ∧ DqAll T.kc F acc accd ∧ accd.length ≤ i ∧
  OkP T NW ρ F ((clpW ok (turnB cf nf elt tg ifs env) (ds.drop i) st).bind fun ys st2 => .ok (.d (.list (accd ++ ys)), true) st2) Q
theorem yl_oldR {ok : Store → Bool} {ρ0 : List Addr} {tg : Tg} {F : Hp} {ds : List PyData} {D : Addr} {xs : List V} {J : It} {i : Nat} {ρ : List Addr} {G H H' : Hp} {st : Store} {x : V} (p0 : ρ0 <+: ρ) (s : Sub F G) (r : Rl T ρ G H st) (hok : ok st = true) (hi : i < ds.length) (h1 : H D = some (.lst xs)) (h2 : G D = none) (h3 : D ∉ ρ) (hy : J.yld i H x H') (y' : YlR (T.re ((D, xs) :: T.hid)) tg ρ0 F ok J ds) :
    ∃ d, ds[i]? = some d ∧ Rl T ρ G H' st ∧ ItT T G H' tg x d ∧ H' D = some (.lst xs) := by
  obtain ⟨d, q1, q2, q3⟩ := (y' i ρ G H st p0 s (r.hide h1 h2 h3) hok).2.2 x H' hi hy
  obtain ⟨z1, z2, _⟩ := q2.show
  refine ⟨d, q1, z1, ?_, z2⟩
  cases tg with
  | nm _ => exact q3
  | tu _ => exact q3
theorem lc_impR {own : List (Str × Nat)} {x : Ex} {tg : Tg} {a : Ex} {cs : List Ex} (o1 : ∀ p ∈ own, p.2 ∈ slotsT tg) (o2 : ∀ j ∈ slotsT tg, j ∈ own.map (·.2)) (hcs : cs = [] ∨ ∃ c, cs = [c]) {σ : L2.St} {H : Hp} {Q : VK} (h : tE T W cf nf (.compR x tg a cs) σ H Q) :
    tLc (tIR T W cf nf tg a) (gTg T tg) (tIfs T cf nf cs) (tEh T cf nf x) (own.map (·.2)) σ H Q := by
    obtain ⟨ρ, F, env, st, r, en, h⟩ := h
    rw [compR_eq] at h
    refine ⟨ρ, F, env, st, r, en, (OkR.bind h).imp fun vs st1 ρ1 F1 H1 p1 s1 r1 h => ?_⟩
    cases e : walkOR vs.1 st1 with
    | none => rw [e] at h; exact h.elim
    | some ds =>
      rw [e] at h
      replace h : OkP T W ρ1 F1 (if ds.length ≤ limZ then R.calm ((clpW (okW vs.1 st1) (turnB cf nf x tg cs env) ds st1).bind fun ys st2 => .ok (.d (.list ys), true) st2) else .no) Q := h
      split at h
      rotate_left
      · exact h.elim
      rename_i hz
      replace h : OkP T NW ρ1 F1 ((clpW (okW vs.1 st1) (turnB cf nf x tg cs env) ds st1).bind fun ys st2 => .ok (.d (.list ys), true) st2) Q := OkR.calm h
      refine ⟨ds, rfl, fun J hJ D hD => ⟨fun i m H => m = ds.length - i ∧ IvCR (okW vs.1 st1) ρ1 T cf nf x tg cs env σ F1 ds D Q i H, ⟨ds.length, by simp, Nat.zero_le _, ρ1, F1, st1, [], [], List.prefix_refl _, Sub.refl F1, r1.new hD, en.mono p1 s1, upd_same, r1.noneF hD, r1.notin hD, r1.nohid hD, .nil, Nat.zero_le _, h⟩, ?_⟩⟩
      rintro i m H2 ⟨rfl, hi, ρ2, F2, st2, acc, accd, p2, s2, r2, en2, h1, h2, h3, h4, hd, hl, hk⟩
      have hok := clpW_ok hk
      obtain ⟨y1, y2, y3⟩ := hJ T.hid i ρ2 F2 H2 st2 p2 s2 r2 hok
      by_cases hlt : i < ds.length
      · refine .inr ⟨y1 hlt, IvCR (okW vs.1 st1) ρ1 T cf nf x tg cs env σ F1 ds D Q (i + 1), fun H' w => ⟨ds.length - (i + 1), by omega, rfl, w⟩, fun v H3 hy => ?_⟩
        obtain ⟨d, e1, r3, it, g1⟩ := yl_oldR p2 s2 r2 hok hlt h1 h2 h3 hy (hJ _)
        have e2 : ds.drop i = d :: ds.drop (i + 1) := by
          rw [List.drop_eq_getElem_cons hlt]
          have := List.getElem?_eq_some_iff.mp e1
          rw [this.2]
        rw [e2, clpW_cons hok] at hk
        obtain ⟨G, hG1, hG2, hk⟩ : ∃ G : Option PyData → Store → R (Vl × Bool), (∀ z st5, G (some z) st5 = (clpW (okW vs.1 st1) (turnB cf nf x tg cs env) (ds.drop (i + 1)) st5).bind fun ys st2 => R.ok (Vl.d (.list ((accd ++ [z]) ++ ys)), true) st2) ∧
            (∀ st5, G none st5 = (clpW (okW vs.1 st1) (turnB cf nf x tg cs env) (ds.drop (i + 1)) st5).bind fun ys st2 => R.ok (Vl.d (.list (accd ++ ys)), true) st2) ∧ OkP T NW ρ2 F2 ((turnB cf nf x tg cs env d st2).bind G) Q := ⟨_, fun z st5 => by simp, fun st5 => rfl, hk⟩
        unfold turnB at hk
        cases e3 : setT d env tg with
        | none => simp only [e3] at hk; exact hk.elim
        | some env' =>
          simp only [e3] at hk
          have enB : EnvR T ρ2 F2 (own.map (·.2)) env (wipe σ (own.map (·.2))) := ⟨by rw [wipe_length]; exact en2.len, fun j w hj ej => by
            rw [wipe_out hj]; exact en2.get j w (by simp) ej⟩
          refine ⟨ρ2, F2, own.map (·.2), env, d, env', r3.sub, enB, it, e3, fun σ2 q1 q2 => ?_⟩
          have en3 : EnvR T ρ2 F2 [] env' σ2 := q1 [] fun j _ => by
            by_cases hj : j ∈ own.map (·.2)
            · obtain ⟨p, hp, rfl⟩ := List.mem_map.mp hj
              exact .inr (o1 p hp)
            · exact .inl hj
          refine ⟨(q2 _ o2).trans (wipe_wipe fun _ h => h), ?_⟩
          have az : acc.length < sizeLine := by
            have : acc.length = accd.length := hd.length
            rw [← limZ_eq]; omega
          -- the element
          have put : ∀ {ρ4 : List Addr} {F4 H4 : Hp} {st4 : Store} {k4}, ρ2 <+: ρ4 → Sub F2 F4 → Rl T ρ4 F4 H4 st4 → H4 D = some (.lst acc) → F4 D = none → D ∉ ρ4 →
              OkR T NW ρ4 F4 (((evE cf nf x env' st4).bind fun y s2 => match frz s2 y.1 with
                | some (z, s3) => .ok (some z) s3
                | none => .no).bind k4) (fun v _ ρ' F' H' => ∀ x, FrR T ρ' F' H' v x → Q x H') → (∀ z st5, k4 (some z) st5 = (clpW (okW vs.1 st1) (turnB cf nf x tg cs env) (ds.drop (i + 1)) st5).bind fun ys st2 => R.ok (Vl.d (.list ((accd ++ [z]) ++ ys)), true) st2) →
              tEh T cf nf x σ2 H4 (fun y H5 => ∃ acc, H5 D = some (.lst acc) ∧ acc.length < sizeLine ∧ IvCR (okW vs.1 st1) ρ1 T cf nf x tg cs env σ F1 ds D Q (i + 1) (upd H5 D (.lst (acc ++ [y])))) := by
            intro ρ4 F4 H4 st4 k4 p4 s4 r4 g1 g2 g3 hk4 ek
            refine lc_put r4 (en2.mono p4 s4) (en3.mono p4 s4) g1 g2 g3 h4 (DqAll.sub s4 hd) az hk4 fun ρ5 F5 H5 st5 acc5 z p5 s5 r5 g4 g5 g6 d5 h5 => ?_
            refine ⟨hlt, ρ5, F5, st5, acc5, accd ++ [z], p2.trans (p4.trans p5), s2.trans (s4.trans s5), r5, (en2.mono p4 s4).mono p5 s5, g4, g5, g6, h4, d5, by rw [List.length_append]; simp; omega, ?_⟩
            rw [ek] at h5
            exact h5
          rcases hcs with rfl | ⟨c, rfl⟩
          · dsimp only [tIfs, tYes]
            rw [if_pos rfl]
            exact put (List.prefix_refl _) (Sub.refl F2) r3 g1 h2 h3 hk hG1
          · refine ⟨(D, acc) :: T.hid, ρ2, F2, env', st2, r3.hide g1 h2 h3, en3.re, ?_⟩
            rw [R.bind_assoc] at hk
            unfold evEs at hk
            rw [R.bind_assoc] at hk
            refine ((OkR.bind hk).re).imp fun v4 st4 ρ4 F4 H4 p4 s4 r4 hk4 => ?_
            obtain ⟨z0, z1, z2, z3⟩ := r4.show
            replace hk4 : OkR T NW ρ4 F4 ((match truV st4 v4.1 with
              | some true => (evE cf nf x env' st4).bind fun y s2 => match frz s2 y.1 with
                | some (z, s3) => .ok (some z) s3
                | none => .no
              | some false => .ok none st4
              | none => .no).bind G) _ := hk4
            split at hk4
            · rename_i e5
              refine ⟨true, e5, ?_⟩
              dsimp only
              rw [if_pos rfl]
              exact put p4 s4 z0 z1 z2 z3 hk4 hG1
            · rename_i e5
              refine ⟨false, e5, ?_⟩
              dsimp only
              rw [if_neg (by decide)]
              exact ⟨hlt, ρ4, F4, st4, acc, accd, p2.trans p4, s2.trans s4, z0, en2.mono p4 s4, z1, z2, z3, h4, DqAll.sub s4 hd, by omega, by rw [← hG2]; exact hk4⟩
            · exact hk4.elim
      · have ei : i = ds.length := by omega
        subst ei
        refine .inl ⟨y2 rfl, ?_⟩
        rw [List.drop_length, clpW_nil hok] at hk
        replace hk : OkP T NW ρ2 F2 (.ok (.d (.list (accd ++ [])), true) st2) Q := hk
        rw [List.append_nil] at hk
        exact hk.here r2 (.inr ⟨rfl, accd, D, acc, rfl, rfl, h1, h2, h3, hd, h4⟩)
theorem e_compR {elt tge iter : Expr} {ifs : List Expr} {scope : Scope} {own : List (Str × Nat)} {pos : Pos} {x : Ex} {tg : Tg} {a : Ex} {cs : List Ex} (am : Amb T C W cf nf X) (hi : PI X tge iter (tIR T W cf nf tg a)) (ok : BlkOk X.N X.env.scope scope own)
    (hg : ∀ (s : Shared) (H : Hp) (B : Addr) (cl : List (Str × Addr)) (fp : List Addr), PG (X.blk s H scope (compEnvC scope cl B X.env) fp) tge (gTg T tg))
    (ht : ∀ (s : Shared) (H : Hp) (B : Addr) (cl : List (Str × Addr)) (fp : List Addr), PTs (X.blk s H scope (compEnvC scope cl B X.env) fp) ifs (tIfs T cf nf cs))
    (he : ∀ (s : Shared) (H : Hp) (B : Addr) (cl : List (Str × Addr)) (fp : List Addr), PE (X.blk s H scope (compEnvC scope cl B X.env) fp) elt (tEh T cf nf x))
    (hs : ∀ v, foldedSetIterable iter X.env v = pure v) (o1 : ∀ p ∈ own, p.2 ∈ slotsT tg) (o2 : ∀ j ∈ slotsT tg, j ∈ own.map (·.2)) (hcs : cs = [] ∨ ∃ c, cs = [c]) :
    PE X (.ListComp elt [⟨tge, iter, ifs, 0⟩] scope pos) (tE T W cf nf (.compR x tg a cs)) :=
  (pe_lc am.calm am.nd hi ok hg ht he hs).imp fun σ H Q h => lc_impR o1 o2 hcs h
theorem s_compR {elt tge iter : Expr} {ifs : List Expr} {scope : Scope} {own : List (Str × Nat)} {pos : Pos} {x : Ex} {tg : Tg} {a : Ex} {cs : List Ex} (am : Amb T C W cf nf X) (hi : PI X tge iter (tIR T W cf nf tg a)) (ok : BlkOk X.N X.env.scope scope own)
    (hg : ∀ (s : Shared) (H : Hp) (B : Addr) (cl : List (Str × Addr)) (fp : List Addr), PG (X.blk s H scope (compEnvC scope cl B X.env) fp) tge (gTg T tg))
    (ht : ∀ (s : Shared) (H : Hp) (B : Addr) (cl : List (Str × Addr)) (fp : List Addr), PTs (X.blk s H scope (compEnvC scope cl B X.env) fp) ifs (tIfs T cf nf cs))
    (he : ∀ (s : Shared) (H : Hp) (B : Addr) (cl : List (Str × Addr)) (fp : List Addr), PE (X.blk s H scope (compEnvC scope cl B X.env) fp) elt (tEh T cf nf x))
    (hs : ∀ v, foldedSetIterable iter X.env v = pure v) (o1 : ∀ p ∈ own, p.2 ∈ slotsT tg) (o2 : ∀ j ∈ slotsT tg, j ∈ own.map (·.2)) (hcs : cs = [] ∨ ∃ c, cs = [c]) :
    ∀ {i : Nat} {y : Str} {py spos : Pos}, X.N[i]? = some y → X.env.scope.names.lookup y = some .local → swapsWith (.ListComp elt [⟨tge, iter, ifs, 0⟩] scope pos) (some (.Name y py)) spos.line X.env = pure true →
    PS X (.Assign [.Name y py] (.ListComp elt [⟨tge, iter, ifs, 0⟩] scope pos) spos) (tAsg (tE T W cf nf (.compR x tg a cs)) (gName i)) := fun hy hyl hsw =>
  (ps_setLc am.calm am.nd hy hyl hsw hi ok hg ht he hs).imp fun D σ H h => lc_impR o1 o2 hcs h
end
end Ev
end

section
set_option Elab.async false
set_option linter.all false
set_option maxRecDepth 100000
set_option maxHeartbeats 4000000
/-! EvM5: [k for k in d if k <= c], d a dict of whole keys. -/
namespace Ev
open PySem PySem.Spec PyProof.Rows L2
theorem upd_upd {H : Hp} {a : Addr} {o o' : HO} : upd (upd H a o) a o' = upd H a o' := by
  funext b
  by_cases h : b = a
  · subst h; rw [upd_same, upd_same]
  · rw [upd_ne h, upd_ne h, upd_ne h]
theorem upd_back {H : Hp} {a D : Addr} {o u v : HO} (h : H a = some u) (n : D ≠ a) : upd (upd (upd H a o) D v) a u = upd H D v := by
  funext b
  by_cases e : b = a
  · subst e; rw [upd_same, upd_ne (Ne.symm n), h]
  · by_cases e2 : b = D
    · subst e2; rw [upd_ne e, upd_same, upd_same]
    · rw [upd_ne e, upd_ne e2, upd_ne e, upd_ne e2]
section
variable {T : Tab} {W : XW} {C : Ck} {cf nf : CallF} {X : Cx} {sc : Scope}
theorem intKs_at {F : Hp} : ∀ {ws : List (Key × V)} {kvs : List (Key × PyData)} {l : List Int}, KvR T F ws kvs → intKs kvs = some l → l.length = ws.length ∧ ∀ (i : Nat) (k : Key) (v : V), ws[i]? = some (k, v) → ∃ z : Int, l[i]? = some z ∧ k = Sum.inl z
  | _, _, l, .nil, e => by
    cases e
    exact ⟨rfl, fun i k v h => by simp at h⟩
  | _, _, l, .cons (k := k) d r, e => by
    cases k with
    | inr _ => cases e
    | inl z =>
      obtain ⟨m, e1, rfl⟩ := map_some e
      obtain ⟨q1, q2⟩ := intKs_at r e1
      refine ⟨by rw [List.length_cons, List.length_cons, q1], fun i k v h => ?_⟩
      cases i with
      | zero =>
        cases (show _ = _ from Option.some.inj h)
        exact ⟨z, rfl, rfl⟩
      | succ i => exact q2 i k v (by simpa using h)
theorem ints_dq {F : Hp} : ∀ l : List Int, DqAll T.kc F (l.map V.int) (l.map PyData.int)
  | [] => .nil
  | _ :: l => .cons (.int _) (ints_dq l)
theorem dkLe_imp {j i : Nat} {g : Str} {c : Int} {vs : List Nat} (hv : i ∈ vs) {σ : L2.St} {H : Hp} {Q : VK} (h : tE T W cf nf (.dkLe j i g c) σ H Q) :
    tLockE (tLc (iKeys (tVar j)) (gName i) (tB (tLe (tVar i) (tC (.int c)))) (tVar i) vs) σ H Q := by
  obtain ⟨ρ, F, env, st, r, en, h⟩ := h
  unfold evE at h
  split at h
  rotate_left
  · exact h.elim
  rename_i n hn
  split at h
  rotate_left
  · exact h.elim
  rename_i kvs hk
  split at h
  rotate_left
  · exact h.elim
  rename_i l hl
  split at h
  rotate_left
  · exact h.elim
  rename_i hc
  obtain ⟨x, hx, hvx⟩ := en.get j _ (by simp) hn
  obtain ⟨a, rfl, ha⟩ := hvx
  obtain ⟨a', q1, q2, ws, q3, q4⟩ := r.obj n _ hk
  rw [ha] at q1
  cases q1
  obtain ⟨hlen, hat⟩ := intKs_at q4 hl
  refine ⟨a, .dK ws, q3, trivial, fun od => ?_⟩
  refine ⟨.ref a, hx, a, od, rfl, .inl ⟨ws, upd_same, fun D hD => ?_⟩⟩
  have Da : D ≠ a := fun z => by rw [z, upd_same] at hD; cases hD
  have hDH : H D = none := by rw [upd_ne Da] at hD; exact hD
  refine ⟨fun k m H' => m = ws.length - k ∧ k ≤ ws.length ∧ H' = upd (upd H a (.frz od (.dK ws))) D (.lst (((l.take k).filter fun z => decide (z ≤ c)).map V.int)), ⟨ws.length, by simp⟩, ?_⟩
  rintro k m H' ⟨rfl, hi, rfl⟩
  have hfz : upd (upd H a (.frz od (.dK ws))) D (.lst (((l.take k).filter fun z => decide (z ≤ c)).map V.int)) a = some (.frz od (.dK ws)) := by rw [upd_ne (Ne.symm Da), upd_same]
  by_cases hlt : k < ws.length
  · refine .inr ⟨⟨hfz, hlt⟩, fun H'' => H'' = upd (upd H a (.frz od (.dK ws))) D (.lst (((l.take (k + 1)).filter fun z => decide (z ≤ c)).map V.int)), fun H'' e => ⟨ws.length - (k + 1), by omega, rfl, by omega, e⟩, fun x H'' hy => ?_⟩
    obtain ⟨rfl, key, v, e1, rfl⟩ := hy
    obtain ⟨z, e2, rfl⟩ := hat k key v e1
    have hw : i < (wipe σ vs).length := by rw [wipe_length, ← en.len]; exact hc.2
    have hget : ((wipe σ vs).set i (some (V.int z)))[i]? = some (some (V.int z)) := List.getElem?_set_self hw
    have tk : l.take (k + 1) = l.take k ++ [z] := by
      rw [List.take_succ, e2]; rfl
    refine ⟨(wipe_set hv).trans (wipe_wipe fun _ h => h), .int z, hget, z, c, rfl, rfl, decide (z ≤ c), rfl, ?_⟩
    by_cases hz : z ≤ c
    · dsimp only
      rw [if_pos (decide_eq_true hz)]
      refine ⟨.int z, hget, _, upd_same, ?_, ?_⟩
      · have h1 : ((l.take k).filter fun z => decide (z ≤ c)).length ≤ (l.take k).length := List.length_filter_le _ _
        rw [List.length_map, ← limZ_eq]
        rw [List.length_take] at h1
        have := hc.1
        omega
      · rw [upd_upd, tk, List.filter_append, List.map_append]
        simp [hz]
    · dsimp only
      rw [if_neg (by simpa using hz), tk, List.filter_append, List.map_append]
      simp [hz]
  · have ek : k = ws.length := by omega
    refine .inl ⟨⟨hfz, by omega⟩, hfz, ?_⟩
    rw [upd_back q3 Da]
    have et : l.take k = l := List.take_of_length_le (by omega)
    rw [et]
    exact OkP.newL h r (ints_dq _) hDH
theorem vB_eq {N : List Str} {i : Nat} {e : Expr} (h : vB N sc i e = true) : ∃ m p, e = .Name m p ∧ N[i]? = some m ∧ visB sc m = true ∧ (m == ("__debug__" : Str)) = false ∧ (m == ("__classdict__" : Str)) = false := by
  unfold vB at h
  split at h
  · rename_i m hm
    obtain ⟨p, rfl⟩ := asName_eq hm
    simp only [Bool.and_eq_true, decide_eq_true_eq, Bool.not_eq_true'] at h
    exact ⟨m, p, rfl, h.1.1.1, h.1.1.2, h.1.2, h.2⟩
  · cases h
theorem e_dkLe {j i : Nat} {g : Str} {c : Int} {e : Expr} (am : Amb T C W cf nf X) (hs : X.env.scope = sc) (h : okE C X.N sc (.dkLe j i g c) e = true) : PE X e (tE T W cf nf (.dkLe j i g c)) := by
  unfold okE at h
  split at h
  · rename_i x y it tst s2 hl
    obtain ⟨p, rfl⟩ := asLc_eq hl
    simp only [Bool.and_eq_true, decide_eq_true_eq] at h
    obtain ⟨⟨⟨⟨⟨⟨h1, h2⟩, h3⟩, h4⟩, h5⟩, h6⟩, h7⟩ := h
    have ok : BlkOk X.N X.env.scope s2 (ownOf X.N s2) := by rw [hs]; exact blkOk_by h1
    have hre : ∀ (B : Addr) (cl : List (Str × Addr)), (compEnvC s2 cl B X.env).scope = relS s2 sc := fun B cl => by rw [← hs]; rfl
    obtain ⟨d, pd, rfl, j1, j2, j3, j4⟩ := vB_eq h5
    obtain ⟨k, pk, rfl, k1, k2, k3, k4⟩ := vB_eq h6
    have hg : ∀ (s : Shared) (H : Hp) (B : Addr) (cl : List (Str × Addr)) (fp : List Addr), PG (X.blk s H s2 (compEnvC s2 cl B X.env) fp) y (gName i) := fun s H B cl fp => by
      unfold okT at h4
      split at h4
      · rename_i m em
        obtain ⟨q, rfl⟩ := asName_eq em
        simp only [Bool.and_eq_true, decide_eq_true_eq] at h4
        obtain ⟨l1, l2⟩ := loc_of h4.2
        exact pg_name (X := X.blk s H s2 (compEnvC s2 cl B X.env) fp) am.nd h4.1 (by rw [show (X.blk s H s2 (compEnvC s2 cl B X.env) fp).env.scope = relS s2 sc from hre B cl]; exact l1) (by rw [show (X.blk s H s2 (compEnvC s2 cl B X.env) fp).env.scope = relS s2 sc from hre B cl]; exact l2)
      · cases h4
    unfold leB at h7
    split at h7
    · rename_i a o b hc
      obtain ⟨cp, rfl⟩ := asCmp_eq hc
      simp only [Bool.and_eq_true, decide_eq_true_eq] at h7
      obtain ⟨⟨rfl, h8⟩, h9⟩ := h7
      obtain ⟨k', pk', rfl, m1, m2, m3, m4⟩ := vB_eq h8
      unfold gB at h9
      split at h9
      · rename_i gm hgm
        obtain ⟨pg, rfl⟩ := asName_eq hgm
        simp only [Bool.and_eq_true] at h9
        obtain ⟨t, ht⟩ := am.gi gm c (isGE_eq h9.2)
        have hts : ∀ (s : Shared) (H : Hp) (B : Addr) (cl : List (Str × Addr)) (fp : List Addr), PTs (X.blk s H s2 (compEnvC s2 cl B X.env) fp) [.Compare (.Name k' pk') [.LtE] [.Name gm pg] cp] (tB (tLe (tVar i) (tC (.int c)))) := fun s H B cl fp => by
          obtain ⟨g1, g2, _⟩ := gl_of (X := X.blk s H s2 (compEnvC s2 cl B X.env) fp) (hre B cl) h9.1.2
          exact pts_one (pt_cmp (pc_le (pe_var (X := X.blk s H s2 (compEnvC s2 cl B X.env) fp) m1 (vis_of (hre B cl) m2) m3 m4) (pe_glob g1 ht ⟨t, rfl⟩ g2)))
        exact (pe_lock (pe_lc am.calm am.nd (pi_keys (pe_var j1 (vis_of hs j2) j3 j4)) ok hg hts (fun s H B cl fp => pe_var (X := X.blk s H s2 (compEnvC s2 cl B X.env) fp) k1 (vis_of (hre B cl) k2) k3 k4) (fun v => rfl))).imp fun σ H Q h => dkLe_imp h3 h
      · cases h9
    · cases h7
  · cases h
end
end Ev
end

section
set_option Elab.async false
set_option linter.all false
set_option maxRecDepth 100000
set_option maxHeartbeats 4000000
/-! EvX1: try with except clauses, some of them with a name. -/
namespace Ev
open PySem PySem.Spec PyProof.Rows L2
/-- a clause: its class, the slot of its name, its suite's reading -/
structure Cls1 where
  c : Value
  i : Option Nat
  ts : Addr → Value → Option Addr → TS
def slotE (D : Ends) (i : Nat) : Ends := { nx := fun τ G => D.nx (τ.set i none) G, rt := D.rt, bk := fun τ G => D.bk (τ.set i none) G, ct := fun τ G => D.ct (τ.set i none) G }
/-- how a suite begins -/
def Cls1.go (k : Cls1) (D : Ends) (ea : Addr) (cls : Value) (dd : Option Addr) (σ : L2.St) (H : Hp) : Prop := match k.i with
  | none => k.ts ea cls dd D σ H
  | some i => k.ts ea cls dd (slotE D i) (σ.set i (some (.ref ea))) H
/-- what the clauses wish -/
def wMix (K : PySem.W.Frag) (n : Nat) (D : Ends) : List Cls1 → WX
  | [] => fun _ _ _ _ => False
  | k :: r => fun cls dd σ H => ∃ b, PySem.W.exmOne K cls k.c = some b ∧ (b = true → σ.length = n → ∀ ea, H ea = none → k.go D ea cls dd σ H) ∧ (b = false → wMix K n D r cls dd σ H)
inductive HdsMix (X : Cx) : List ExceptHandler → List Cls1 → Prop
  | nil : HdsMix X [] []
  | plain {x : Str} {k : Cls1} {b0 : Stmt} {bs : List Stmt} {np hp : Pos} {hs : List ExceptHandler} {l : List Cls1} (hi : k.i = none) (hc : Names X x k.c)
      (hb : ∀ (ea : Addr) (ob : Obj) (cls : Value) (dd : Option Addr) (pn : List (Addr × Obj)), Zc cls dd ob → (∃ vs, ob.data = .fields vs) → PSs (X.suite ea ((ea, ob) :: pn)) (b0 :: bs) (k.ts ea cls dd)) (r : HdsMix X hs l) :
      HdsMix X (.ExceptHandler (some (.Name x np)) none (b0 :: bs) hp :: hs) (k :: l)
  | named {x n : Str} {i : Nat} {k : Cls1} {b0 : Stmt} {bs : List Stmt} {np hp : Pos} {hs : List ExceptHandler} {l : List Cls1} (hi : k.i = some i) (hn : X.N[i]? = some n) (hk : X.env.kindOf n = some .local) (hc : Names X x k.c)
      (hb : ∀ (ea : Addr) (ob : Obj) (cls : Value) (dd : Option Addr) (pn : List (Addr × Obj)), Zc cls dd ob → (∃ vs, ob.data = .fields vs) → PSs (X.suite ea ((ea, ob) :: pn)) (b0 :: bs) (k.ts ea cls dd)) (r : HdsMix X hs l) :
      HdsMix X (.ExceptHandler (some (.Name x np)) (some n) (b0 :: bs) hp :: hs) (k :: l)
section
variable {X : Cx} {body : List Stmt} {h0 : ExceptHandler} {hs : List ExceptHandler} {l : List Cls1} {pos : Pos} {tb : WX → TS}
theorem ps_try_mix (st0 : X.stack = X.env :: X.outer) (fr0 : X.env.frame = some X.env.locals) (nd : X.N.Nodup)
    (hb : ∀ (W : WX) (pn : List (Addr × Obj)) (xe : Value → Shared → Prop), Takes (X.tr pn xe) W → PassesOwn (model X.prog X.w) X.A X.env xe → PSs (X.tr pn xe) body (tb W))
    (hh : HdsMix X (h0 :: hs) l) : PS X (.Try body (h0 :: hs) [] [] pos) (fun D σ H => tb (wMix X.K X.N.length D l) D σ H) := by
  constructor
  intro pins s σ H D I q0
  have ok := I.ok
  have frm : X.A.frames = some (X.env :: X.outer) := ok.frames.trans (congrArg some st0)
  apply wpAny_Try_except
  have run := (hb (wMix X.K X.N.length D l) (X.pn ++ pins) (fun u t1 => wpAny (model X.prog X.w) X.A (noteFrame u X.env) (fun _ t2 => wpAny (model X.prog X.w) X.A (setFlight u none) (fun _ t3 =>
    wpAny (model X.prog X.w) X.A (handleBy u X.env (h0 :: hs)) (SP X pins D) X.xe t3) X.xe t2) X.xe t1) (fun u t xx => ?_) PassesOwn.looking).run [] s σ H D (I.toTry _) q0
  refine wpAny_mono run (fun fl t hsp => ?_) (fun _ _ z => z)
  · cases fl with
    | next =>
      obtain ⟨σ1, H1, J, z⟩ := hsp
      exact wpAny_execs_nil ⟨σ1, H1, J.ofTry ok, z⟩
    | ret u =>
      obtain ⟨v, σ1, H1, J, rv, z⟩ := hsp
      exact ⟨v, σ1, H1, J.ofTry ok, rv, z⟩
    | brk =>
      obtain ⟨σ1, H1, J, z⟩ := hsp
      exact ⟨σ1, H1, J.ofTry ok, z⟩
    | cont =>
      obtain ⟨σ1, H1, J, z⟩ := hsp
      exact ⟨σ1, H1, J.ofTry ok, z⟩
  · -- an error came
    obtain ⟨ea, B, sI, pins1, σ1, H1, cls, dd, rfl, J1, nb, up, sky, na, os, ag, w0⟩ := xx
    have J : L2.Inv X pins σ1 H1 sI := J1.ofTry ok
    have sky1 : Sky B (X.env :: X.outer) ea (Zc cls dd) X.env.locals t.heap := st0 ▸ sky
    apply Sky.land Zc.steady frm fr0 sky1
    intro g3 fl3 up3
    have J3 : L2.Inv X pins σ1 H1 { t with heap := g3 } := J.landed nb fl3.1 (up.trans up3) os ag
    obtain ⟨o3, v3, at3, z3, d3⟩ := fl3.there
    have nfr : ea ∉ frs (X.env :: X.outer) := fun hm => by
      obtain ⟨_, o', e', hno⟩ := fl3.2.2.1.mem hm
      rw [at3] at e'
      cases e'
      exact hno _ d3
    have nL : ea ≠ X.env.locals := fun z => nfr (List.mem_filterMap.mpr ⟨X.env, List.mem_cons_self, by rw [fr0, z]⟩)
    have nF : ea ∉ X.fs := fun hm => by
      obtain ⟨e, he, q⟩ := List.mem_filterMap.mp hm
      exact nfr (List.mem_filterMap.mpr ⟨e, List.mem_cons_of_mem _ he, q⟩)
    have S3 := J3.suite at3 d3 na nL nF
    have LT : PySem.W.Looks (model X.prog X.w) g3 (typeOf (.ref ea)) cls := fun A Q E s k q => wpAny_typeOf_ref (k _ _ at3) (by rw [z3.1]; exact q)
    -- a clause's class is named
    have look : ∀ {x : Str} {c : Value} {np : Pos} {Q E : Value → Shared → Prop}, Names X x c → Q c { t with heap := g3 } → wpAny (model X.prog X.w) (X.A.mark (some (.ref ea))) (eval (.Name x np) X.env) Q E { t with heap := g3 } := fun {x c np Q E} nm q => by
      obtain ⟨g1, g2, g4⟩ := nm
      rcases g4 with m1 | ⟨m1, m2, m3⟩
      · exact ld_glob (X := X.suite ea ((ea, o3) :: (X.pn ++ pins))) S3 g1 m1 q g2
      · exact ld_blt (X := X.suite ea ((ea, o3) :: (X.pn ++ pins))) S3 g1 m1 m2 q m3 g2
    -- the suite's start
    have land : ∀ {Q : Flow → Shared → Prop} {b0 : Stmt} {bs : List Stmt} {k : Cls1} {g4 : Heap}, HandSPX.FlyingZ B (X.env :: X.outer) ea (Zc cls dd) g4 → g3.UpToSlots g4 → ∃ o4, L2.Inv (X.suite ea ((ea, o4) :: (X.pn ++ pins))) [] σ1 H1 { t with heap := g4 } ∧ Zc cls dd o4 ∧ ∃ vs, o4.data = .fields vs := fun {Q b0 bs k g4} fl4 up4 => by
      obtain ⟨o4, v4, at4, z4, d4⟩ := fl4.there
      have J4 : L2.Inv X pins σ1 H1 { t with heap := g4 } := J.landed nb fl4.1 ((up.trans up3).trans up4) os ag
      exact ⟨o4, J4.suite at4 d4 na nL nF, z4, _, d4⟩
    have main : ∀ {hs1 : List ExceptHandler} {l1 : List Cls1}, HdsMix X hs1 l1 → wMix X.K X.N.length D l1 cls dd σ1 H1 →
        wpAny (model X.prog X.w) X.A (handleBy (.ref ea) X.env hs1) (SP X pins D) X.xe { t with heap := g3 } := by
      intro hs1 l1 hk
      induction hk with
      | nil => exact fun z => False.elim z
      | @plain x k b0 bs np hp hs2 l2 hi hc hb2 r ih =>
        intro ⟨b, e1, yes, no⟩
        refine wpAny_handleBy_cons (codeAny_handlers_test (look hc ((PySem.W.exm_one (M := model X.prog X.w) J3.kIn LT e1).here ?_))) (by intro q; cases q)
        cases b with
        | false => exact ih (no rfl)
        | true =>
          apply codeAny_handlers_suite
          apply HandSPX.lands_againZ fl3
          intro g4 fl4 up4
          obtain ⟨o4, S4, z4, d4⟩ := land (Q := SP X pins D) (b0 := b0) (bs := bs) (k := k) fl4 up4
          have st := yes rfl J.len ea na
          unfold Cls1.go at st
          rw [hi] at st
          refine wpAny_mono ((hb2 ea o4 cls dd (X.pn ++ pins) z4 d4).run [] _ _ H1 _ S4 st) (fun fl s6 hsp => ?_) (fun _ _ z => False.elim z)
          cases fl with
          | next =>
            obtain ⟨σ6, H6, S6, q6⟩ := hsp
            exact ⟨σ6, H6, S6.unsuite ok, q6⟩
          | ret u =>
            obtain ⟨v6, σ6, H6, S6, r6, q6⟩ := hsp
            exact ⟨v6, σ6, H6, S6.unsuite ok, r6, q6⟩
          | brk =>
            obtain ⟨σ6, H6, S6, q6⟩ := hsp
            exact ⟨σ6, H6, S6.unsuite ok, q6⟩
          | cont =>
            obtain ⟨σ6, H6, S6, q6⟩ := hsp
            exact ⟨σ6, H6, S6.unsuite ok, q6⟩
      | @named x n i k b0 bs np hp hs2 l2 hi hn hl hc hb2 r ih =>
        intro ⟨b, e1, yes, no⟩
        refine wpAny_handleBy_cons (codeAny_handlers_test (look hc ((PySem.W.exm_one (M := model X.prog X.w) J3.kIn LT e1).here ?_))) (by intro q; cases q)
        cases b with
        | false => exact ih (no rfl)
        | true =>
          apply codeAny_handlers_suite_as
          apply HandSPX.lands_againZ fl3
          intro g4 fl4 up4
          obtain ⟨o4, S4, z4, d4⟩ := land (Q := SP X pins D) (b0 := b0) (bs := bs) (k := k) fl4 up4
          have st := yes rfl J.len ea na
          unfold Cls1.go at st
          rw [hi] at st
          refine store_ok (X := X.suite ea ((ea, o4) :: (X.pn ++ pins))) (v := .ref ea) S4 nd hn (.inl hl) rfl (fun s5 S5 => ?_) (.inr hl)
          refine wpAny_mono ((hb2 ea o4 cls dd (X.pn ++ pins) z4 d4).run [] s5 _ H1 _ S5 st) (fun fl s6 hsp => ?_) (fun _ _ z => False.elim z)
          have gone : ∀ {σ6 : L2.St} {H6 : Hp} {Q : Shared → Prop}, L2.Inv (X.suite ea ((ea, o4) :: (X.pn ++ pins))) [] σ6 H6 s6 → (∀ s7, L2.Inv X pins (σ6.set i none) H6 s7 → Q s7) →
              wpAny (model X.prog X.w) X.A (do bindName X.env n .none; unbindBehindTheSuite X.env n hp) (fun _ s7 => Q s7) X.xe s6 := fun {σ6 H6 Q} S6 hq => gone_ok (S6.unsuite ok) nd hn hl hq
          cases fl with
          | next =>
            obtain ⟨σ6, H6, S6, q6⟩ := hsp
            exact gone S6 fun s7 J7 => ⟨_, H6, J7, q6⟩
          | ret u =>
            obtain ⟨v6, σ6, H6, S6, r6, q6⟩ := hsp
            exact gone S6 fun s7 J7 => ⟨v6, _, H6, J7, r6, q6⟩
          | brk =>
            obtain ⟨σ6, H6, S6, q6⟩ := hsp
            exact gone S6 fun s7 J7 => ⟨_, H6, J7, q6⟩
          | cont =>
            obtain ⟨σ6, H6, S6, q6⟩ := hsp
            exact gone S6 fun s7 J7 => ⟨_, H6, J7, q6⟩
    exact main hh w0
end
end Ev
end

section
set_option Elab.async false
set_option linter.all false
set_option maxRecDepth 100000
set_option maxHeartbeats 4000000
/-! EvX2: a lambda is made, and called. -/
namespace Ev
open PySem PySem.Spec PyProof.Rows L2
section
variable {T : Tab} {W : XW} {C : Ck} {cf nf : CallF} {X : Cx} {pins : List (Addr × Obj)} {σ : L2.St} {H : Hp} {s : Shared} {ρ : List Addr} {F : Hp} {st : Store}
/-- an instance is no code object -/
theorem not_code (I : L2.Inv X pins σ H s) {a B dx : Addr} {vs : List (Option V)} {q : Str} (h : SlAt H a B dx vs) : H a ≠ some (LamX.CodeO a q) := fun z => by
  obtain ⟨us, od, _, _, J⟩ := slAt_get I h
  obtain ⟨⟨oc, ws, t, e1, e2, e3⟩, _⟩ := I.hok a _ z
  obtain ⟨j1, j2⟩ := J
  rw [e1] at j1
  cases j1
  cases e2
open Classical in
/-- what is frozen, and the code objects -/
noncomputable def codeF (F H : Hp) : Hp := fun b => if ∃ q, H b = some (LamX.CodeO b q) then H b else F b
theorem codeF_at {F H : Hp} {b : Addr} {q : Str} (h : H b = some (LamX.CodeO b q)) : codeF F H b = some (LamX.CodeO b q) := by
  unfold codeF
  rw [if_pos ⟨q, h⟩, h]
theorem codeF_no {F H : Hp} {b : Addr} (h : ∀ q, H b ≠ some (LamX.CodeO b q)) : codeF F H b = F b := by
  unfold codeF
  rw [if_neg fun ⟨q, z⟩ => h q z]
theorem Rl.codes {H1 : Hp} {s1 : Shared} (r : Rl T ρ F H st) (I1 : L2.Inv X pins σ H1 s1) (e : LamX.ExtN H H1) (t : LamX.Tabs T.tbs H1) : Rl T ρ (codeF F H1) H1 st ∧ Sub F (codeF F H1) := by
  have sF : Sub F H1 := fun b o h => e b o (r.sub b o h) fun ps z => r.tb.2 b ps (by rw [h, z])
  have sub1 : Sub F (codeF F H1) := fun b o h => by
    unfold codeF
    split
    · exact sF b o h
    · exact h
  have keep : ∀ {a : Addr} {o : Ob}, ObR T F H a o → ObR T F H1 a o := fun {a o} h => h.keep (fun b u hb hc => e b u hb fun ps z => by
    rcases hc with rfl | rfl
    · obtain ⟨u2, q1, q2⟩ := h.there2
      rw [hb] at q1
      cases q1
      exact q2 ps z
    · cases z) (Sub.refl F)
  refine ⟨⟨fun b o h => ?_, r.len, r.nd, fun a ha => ?_, fun n o hn => ?_, fun p hp => ?_, fun p hp => ?_, fun b ps h => ?_⟩, sub1⟩
  · unfold codeF at h
    split at h
    · exact h
    · exact sF b o h
  · obtain ⟨u, hu, hz⟩ := r.trk a ha
    exact ⟨u, e a u hu hz, hz⟩
  · obtain ⟨a, h1, h2, h3⟩ := r.obj n o hn
    have h4 := keep h3
    refine ⟨a, h1, ?_, h4.keep (fun _ _ z _ => z) sub1⟩
    rw [codeF_no fun q z => ?_]
    · exact h2
    · cases o with
      | lst l => obtain ⟨xs, g, _⟩ := h4; rw [z] at g; unfold LamX.CodeO at g; cases g
      | dK l => obtain ⟨xs, g, _⟩ := h4; rw [z] at g; unfold LamX.CodeO at g; cases g
      | dT l => obtain ⟨xs, g, _⟩ := h4; rw [z] at g; unfold LamX.CodeO at g; cases g
      | obj c fs =>
        obtain ⟨dx, vs, g, _⟩ := h4
        exact not_code I1 g z
  · obtain ⟨h1, h2, h3⟩ := r.hid p hp
    have h4 := e _ _ h1 fun ps z => nomatch z
    refine ⟨h4, ?_, h3⟩
    rw [codeF_no fun q z => by rw [h4] at z; unfold LamX.CodeO at z; cases z]
    exact h2
  · obtain ⟨ps, h1, h2, h3⟩ := t p hp
    refine ⟨(r.tb.1 p hp).1, ps, h1, h2, fun pos cv hc => ?_⟩
    obtain ⟨c, e1, e2⟩ := h3 pos cv hc
    exact ⟨c, e1, codeF_at e2⟩
  · unfold codeF at h
    split at h
    · rename_i q
      obtain ⟨q, hq⟩ := q
      rw [hq] at h
      exact LamX.codeO_ne ps (Option.some.inj h)
    · exact r.tb.2 b ps h
end
end Ev
end

section
set_option Elab.async false
set_option linter.all false
set_option maxRecDepth 100000
set_option maxHeartbeats 4000000
/-! EvX3: the def that gets a lambda calls it. -/
namespace Ev
open PySem PySem.Spec PyProof.Rows L2
section
variable {T : Tab} {W : XW} {C : Ck} {cf nf : CallF} {X : Cx} {pins : List (Addr × Obj)} {σ : L2.St} {H : Hp} {s : Shared} {ρ : List Addr} {F : Hp} {st : Store}
theorem Rl.tabs (r : Rl T ρ F H st) : LamX.Tabs T.tbs H := fun p hp =>
  let ⟨_, ps, h1, h2, h3⟩ := r.tb.1 p hp
  ⟨ps, h1, h2, fun pos cv hc => let ⟨c, e1, e2⟩ := h3 pos cv hc; ⟨c, e1, r.sub _ _ e2⟩⟩
/-- the object of a lambda -/
abbrev lamO (X : Cx) (pa : Arguments) (b : Expr) (sc : Scope) (pm : Value) (c' : Addr) (ct : Value) : Obj := PySem.W.kla_obj "<lambda>" (X.env.qual ++ "<lambda>") pa b sc (cloFrom X.env.cells sc.names []) pm c' ct
theorem lam_mk {c P : Addr} {pa : Arguments} {b : Expr} {sc : Scope} {pos : Pos} {Q E : Value → Shared → Prop} (I : L2.Inv X pins σ H s) (r : Rl T ρ F H st) (tb : LamX.TabB X.base X.mg c P) (hc : X.env.code = .ref c) (hm : (P, X.env.qual ++ "<lambda>") ∈ T.tbs) (hu : ∀ p ∈ T.tbs, p.1 = P → p.2 = X.env.qual ++ "<lambda>")
    (hd : defaultsOf pa X.env = ([], [])) (L : LamX.LamS X.env.scope sc)
    (k : ∀ (f c' : Addr) (pm ct : Value) (H1 F1 : Hp) (s1 : Shared), L2.Inv X pins σ H1 s1 → Sub F F1 → Rl T ρ F1 H1 st → s1.heap.get? f = some (lamO X pa b sc pm c' ct) → H1 f = none → f ∉ frs X.stack → H1 c' = some (LamX.CodeO c' (X.env.qual ++ "<lambda>")) → Q (.ref f) s1) :
    wpAny (model X.prog X.w) X.A (eval (.Lambda pa b sc pos) X.env) Q E s := by
  refine LamX.lam_make2 I tb hc hm hu r.tabs hd (L.has I.ok) fun f c' pm ct H1 s1 I1 eN t1 hf hfn hfr hco => ?_
  obtain ⟨r1, s1⟩ := r.codes I1 eN t1
  exact k f c' pm ct H1 _ _ I1 s1 r1 hf hfn hfr hco
/-- the lambda is called in the def Z that got it -/
theorem act_ok {CXg : CXT} {Eg : XK} {Ng : List Str} {qg : Str} {sg : Scope} {g f c' : Addr} {cdg pm ct : Value} {pa : Arguments} {b : Expr} {sc : Scope} {lv i : Nat} {a : Str} {pn : List (Addr × Obj)} {xe : Value → Shared → Prop} {Wm : WX} {E : XK} {t : TE} {p1 p2 : Pos}
    (I : L2.Inv X pins σ H s) (L : LamX.LamS X.env.scope sc) (of : s.heap.get? f = some (lamO X pa b sc pm c' ct)) (nf' : H f = none) (nr : f ∉ frs X.stack)
    (bi : bindArgs (PySem.W.kla_fn "<lambda>" (X.env.qual ++ "<lambda>") pa b sc (cloFrom X.env.cells sc.names []) pm (.ref c') ct) ⟨[], []⟩ = pure []) (gd : X.A.guards = some [])
    (tk : Takes ((cxOf CXg X.prog X.w X.K X.mg X.base Ng qg sg g cdg X.A X.stack s H Eg).tr pn xe) Wm) (hW : ∀ cls d σ' H', σ'.length = Ng.length → E cls d H' → Wm cls d σ' H') (room : Room (lv + 1) (X.A.deeper (envOfC qg sg s.heap.objs.size g cdg)))
    (body : ∀ (A : Around) (outer : List PySem.Env) (s : Shared) (H : Hp), Room lv (A.deeper (LamX.lamEnv X sc s.heap.objs.size f c')) → A.guards = some [] → PE (LamX.lamCx X A outer s H E sc f c') b t)
    (hN : Ng[i]? = some a) (hv : Vis sg a) (h1 : (a == ("__debug__" : Str)) = false) (h2 : (a == ("__classdict__" : Str)) = false) :
    PE ((cxOf CXg X.prog X.w X.K X.mg X.base Ng qg sg g cdg X.A X.stack s H Eg).tr pn xe) (.Call (.Name a p1) [] [] p2)
      (fun σZ HZ Q => σZ[i]? = some (some (.ref f)) ∧ HZ c' = some (LamX.CodeO c' (X.env.qual ++ "<lambda>")) ∧ t σ HZ Q) := by
  constructor
  intro pz sZ σZ HZ Q IZ ⟨q1, q2, q3⟩
  apply wpAny_Call_Name_kw
  refine thn ((pe_var (pos := p1) (i := i) hN hv h1 h2).run pz sZ σZ HZ (fun v G => v = .ref f ∧ G = HZ) IZ ⟨.ref f, q1, rfl, rfl⟩) ?_
  intro u s2 ⟨v, G, I2, rv, ev, eG⟩
  subst ev eG
  obtain rfl : u = Value.ref f := rv
  have of2 : s2.heap.get? f = some (lamO X pa b sc pm c' ct) := I2.base.keep f _ of nf' nr (fun z => nomatch (show f ∈ ([] : List Addr) from z))
  apply PySem.W.callWith_F0 ⟨_, _, _, _, of2⟩
  obtain ⟨⟨oc, vc, tc, hc1, hc2, hc3⟩, _, _⟩ := I2.hok c' _ q2
  have ran : codeAny (model X.prog X.w) (X.A.deeper (envOfC qg sg s.heap.objs.size g cdg)) (.call (.ref f) ⟨[], []⟩) (CR (L2.CX X.prog X.w) (envOfC qg sg s.heap.objs.size g cdg :: X.stack) X.prog X.w G s2 Q E) s2 := by
    apply PySem.W.kla_callFunE room.depth of2 rfl L.co L.gen rfl ⟨c', oc, vc, tc, rfl, hc1, hc2, hc3⟩
    rw [bi]
    apply wpAny_pure
    refine wpAny_newFunctionEnv (fun y hy => (L.own y hy).2) (fun y hy => nomatch hy) (fun h₁ hns hsb => ⟨I2.nolimit.fresh _ hsb, ?_⟩) L.kind
    have kp : ∀ b o, s2.heap.get? b = some o → h₁.get? b = some o := fun b o e => hsb.extBut b o (Nat.ne_of_lt (Heap.lt_size e)) (Heap.get?_push_of_some _ e)
    have J : L2.Inv (LamX.lamCx X (X.A.deeper (envOfC qg sg s.heap.objs.size g cdg)) (envOfC qg sg s.heap.objs.size g cdg :: X.stack) s2 G E sc f c') [] σ G { s2 with heap := h₁, toks := s2.toks + ([] : List (Str × Value)).length } :=
      LamX.lam_start2 I L I2.env0 room.hd I2.base hns kp
    show codeAny _ _ (.expr b (LamX.lamEnv X sc s2.heap.objs.size f c')) _ _
    apply PySem.W.kla_codeExpr
    refine wpAny_mono ((body _ _ s2 G (room.deeper _) gd).run [] _ _ G Q J q3) ?_ fun _ _ z => z
    intro v s3 ⟨w', G', J', rw', hq⟩
    exact ⟨w', G', J'.os, J'.bare, J'.base, J'.hok, rw', hq⟩
  apply wpAny_call
  refine codeAny_mono ran fun res s3 hr => ?_
  match res, hr with
  | .error e, hr =>
    have tk2 : Takes ((cxOf CXg X.prog X.w X.K X.mg X.base Ng qg sg g cdg X.A X.stack s H Eg).tr pn xe) fun cls d σ' H' => σ'.length = Ng.length → Wm cls d σ' H' := by
      intro u s' ⟨a1, B1, sI, pI, σI, HI, c1, d1, z0, z1, z2, z3, z4, z5, z6, z7, z8⟩
      exact tk u s' ⟨a1, B1, sI, pI, σI, HI, c1, d1, z0, z1, z2, z3, z4, z5, z6, z7, z8 z1.len⟩
    exact passes_call tk2 (fun cls d σ' H' e hl => hW cls d σ' H' hl e) pz σZ G s2 e s3 I2 hr
  | .ok (.ret u), hr => exact I2.after hr
  | .ok .next, hr => exact hr.elim
  | .ok .brk, hr => exact hr.elim
  | .ok .cont, hr => exact hr.elim
end
end Ev
end

section
set_option Elab.async false
set_option linter.all false
set_option maxRecDepth 100000
set_option maxHeartbeats 4000000
/-! EvX3b: a lambda with one parameter that has a default, called without it. -/
namespace Ev
open PySem PySem.Spec PyProof.Rows L2
section
variable {T : Tab} {W : XW} {C : Ck} {cf nf : CallF} {X : Cx} {pins : List (Addr × Obj)} {σ : L2.St} {H HZ : Hp} {s s0 : Shared} {ρ : List Addr} {F : Hp} {st : Store}
theorem LamD.has {scope : Scope} {d : Str} (L : LamD X.env.scope scope d) (ok : X.Ok) : ∀ y ∈ scope.names, y.2 = .free → ∃ c, X.env.cells.lookup y.1 = some c := fun z hz e => by
  rcases L.free z hz e with q | q
  · exact ok.has _ (.inl q)
  · exact ok.has _ (.inr q)
/-- the frame of such a lambda -/
theorem lam_startD {A : Around} {outer : List PySem.Env} {E : XK} {scope : Scope} {f c' : Addr} {h₁ : Heap} {tk : Nat} {d : Str} {v : Value} (I : L2.Inv X pins σ H s) (L : LamD X.env.scope scope d) (hdN : d ∉ X.N) (e0 : Env0 X.prog X.w X.K X.mg X.base A outer s0 HZ) (hd : A.handled = none)
    (un : Un (frs X.stack) [] H HZ s.heap s0.heap) (hns : h₁.Ns s0.heap.objs.size fun y => ([(d, v)] : List (Str × Value)).reverse.lookup y) (kp : ∀ b o, s0.heap.get? b = some o → h₁.get? b = some o) :
    L2.Inv (LamX.lamCx X A outer s0 HZ E scope f c') [] σ HZ { s0 with heap := h₁, toks := tk } := by
  have fre := L.has I.ok
  have up : ∀ {y a}, (cloFrom X.env.cells scope.names []).lookup y = some a → X.env.cells.lookup y = some a := fun {y a} e => by
    rcases cloFrom_mem (PySem.mem_of_lookup e) with hm | ⟨q1, q2⟩
    · cases hm
    · obtain ⟨a1, ha⟩ := fre _ q1 rfl
      have ha : X.env.cells.lookup y = some a1 := ha
      rw [show a = a1 from by rw [q2, ha] <;> rfl]
      exact ha
  have found : ∀ {y}, scope.names.lookup y = some .free → ∃ a, (cloFrom X.env.cells scope.names []).lookup y = some a := fun {y} hl =>
    mem_lookup (cloFrom_has (cells := X.env.cells) (acc := []) (show (y, NameKind.free) ∈ scope.names from PySem.mem_of_lookup hl))
  have stays : ∀ {a : Addr} {o : Option Value}, H a = none → s.heap.IsCell a o → h₁.IsCell a o := fun {a o} n ⟨ob, hob, hdt⟩ => by
    obtain ⟨sl, q⟩ := un.any hob n (by simp)
    exact ⟨_, kp _ _ q, hdt⟩
  have none_ex : ∀ b : Addr, b ∉ (LamX.lamCx X A outer s0 HZ E scope f c').ex := fun b z => absurd (show b ∈ ([] : List Addr) from z) (by simp)
  refine ⟨⟨e0.mod, L.kind, rfl, rfl, Nat.le_refl _, fun y z a e1 e2 => I.ok.inj y z a (up e1) (up e2), fun y hy => ?_, fun y a z _ => ?_, fun _ => hd, Around.frames_deeper e0.frames, .inr ⟨rfl, rfl⟩, fun b z => absurd z (none_ex b), e0.bs, e0.bsz, fun b _ _ => none_ex b,
      fun b z => absurd z (none_ex b), e0.funs, e0.frf⟩,
    rfl, e0.bare, Un.kept kp, ⟨_, hns, fun i y w e1 e2 e3 => ?_⟩, fun y a e => ?_, e0.hok.fresh (Nat.le_refl _), fun y a e => ?_, fun q hq => absurd (show q ∈ ([] : List (Addr × Obj)) ++ [] from hq) (by simp), e0.hok.kept kp, I.len⟩
  · have hy : scope.names.lookup y = some .cell ∨ scope.names.lookup y = some .free := hy
    rcases hy with hy | hy
    · exact absurd rfl (L.own _ (PySem.mem_of_lookup hy)).1
    · exact found hy
  · have z : false = true := z
    cases z
  · have e3 : Vis scope y := e3
    rcases e3 with q | q | q
    · have := (L.own _ (PySem.mem_of_lookup q)).2 rfl
      exact absurd (List.mem_of_getElem? e1) (by rw [show y = d from this]; exact hdN)
    · exact absurd rfl (L.own _ (PySem.mem_of_lookup q)).1
    · obtain ⟨m, hn, hl⟩ := I.loc
      have seen : Vis X.env.scope y := (L.free _ (PySem.mem_of_lookup q) rfl).elim (fun z => .inr (.inl z)) (fun z => .inr (.inr z))
      obtain ⟨u, ru, z⟩ := hl i y w e1 e2 seen
      obtain ⟨a2, h2⟩ := found q
      refine ⟨u, ru, .inr ⟨.inr q, a2, h2, ?_⟩⟩
      have a1 := up h2
      rcases z with ⟨z', _⟩ | ⟨_, a3, e', z⟩
      · have z' : X.env.scope.names.lookup y = some .local := z'
        rcases L.free _ (PySem.mem_of_lookup q) rfl with q2 | q2 <;> rw [show X.env.scope.names.lookup y = _ from q2] at z' <;> cases z'
      · rw [a1] at e'
        cases e'
        exact stays (I.freeC y _ a1) z
  · obtain ⟨u, z⟩ := I.cell y a (up e)
    exact ⟨u, stays (I.freeC y a (up e)) z⟩
  · obtain ⟨u, ob, hob, hdt⟩ := I.cell y a (up e)
    exact un.free a ob hob (I.freeC y a (up e)) (by simp)
/-- the object of such a lambda -/
abbrev lamOD (X : Cx) (pa : Arguments) (b : Expr) (sc : Scope) (dV doc pm : Value) (c' : Addr) (ct : Value) : Obj := PySem.W.kdv_obj "<lambda>" (X.env.qual ++ "<lambda>") pa (.expr b) sc (cloFrom X.env.cells sc.names []) dV doc pm c' ct
theorem lam_mkD {c P : Addr} {d : Str} {ap : Pos} {de : Expr} {iv : Int} {b : Expr} {sc : Scope} {pos : Pos} {Q : Value → Shared → Prop} (I : L2.Inv X pins σ H s) (r : Rl T ρ F H st) (tb : LamX.TabB X.base X.mg c P) (hc : X.env.code = .ref c) (hm : (P, X.env.qual ++ "<lambda>") ∈ T.tbs) (hu : ∀ p ∈ T.tbs, p.1 = P → p.2 = X.env.qual ++ "<lambda>")
    (hde : conD de = some (.int iv)) (L : LamD X.env.scope sc d)
    (k : ∀ (f c' t0 : Addr) (v doc pm ct : Value) (H1 F1 : Hp) (s1 : Shared), L2.Inv X pins σ H1 s1 → Sub F F1 → Rl T ρ F1 H1 st → s1.heap.get? f = some (lamOD X (parD d ap de) b sc (.ref t0) doc pm c' ct) → H1 f = none → f ∉ frs X.stack → s1.heap.get? t0 = some (PySem.W.kdv_tup [v]) → H1 t0 = none → t0 ∉ frs X.stack → H1 c' = some (LamX.CodeO c' (X.env.qual ++ "<lambda>")) → Q (.ref f) s1) :
    wpAny (model X.prog X.w) X.A (eval (.Lambda (parD d ap de) b sc pos) X.env) Q X.xe s := by
  have hdv : PE X de (tC (.int iv)) := by
    unfold conD at hde
    split at hde <;> first | (cases hde; done) | skip
    cases hde
    exact pe_int
  refine PySem.W.kdv_lam rfl rfl (PySem.W.kdv_all1 (thn (hdv.run pins s σ H (fun z G => z = .int iv ∧ G = H) I ⟨rfl, rfl⟩) fun v s0 ⟨z, G, I0, rz, ez, eG⟩ => PySem.W.kdv_all0 ?_))
  subst ez eG
  rw [makeFunction_eq]
  simp only [List.zip_nil_right, List.filterMap_nil, List.isEmpty_nil, List.isEmpty_cons, if_true, pure_bind, Bool.false_eq_true, if_false]
  refine wpAny_bind (wpAny_newTextTuple ?_)
  have tn : G s0.heap.objs.size = none := I0.hok.fresh (Nat.le_refl _)
  have off : ∀ a, s0.heap.objs.size ≤ a → a ∉ frs X.stack := fun a ha z => by
    rcases List.mem_cons.mp (I0.stkSub _ z) with e | e
    · have q := I0.lt
      rw [← e] at q
      exact Nat.lt_irrefl _ (Nat.lt_of_lt_of_le q ha)
    · exact I0.nofs ha e
  have tat : (s0.heap.push (PySem.W.kdv_tup [v])).get? s0.heap.objs.size = some (PySem.W.kdv_tup [v]) := Heap.get?_push_size _ rfl
  have I' : L2.Inv X pins σ G { s0 with heap := s0.heap.push (PySem.W.kdv_tup [v]) } := I0.kept (t' := s0.toks) fun _ _ e => Heap.get?_push_of_some _ e
  obtain ⟨ps, hP, ht, ha⟩ := r.tabs _ hm
  have up1 : s0.heap.objs.size ≤ (s0.heap.push (PySem.W.kdv_tup [v])).objs.size := by rw [Heap.size_push]; omega
  have pP : (s0.heap.push (PySem.W.kdv_tup [v])).get? P = some { cls := .none, data := .fields ps } := I'.hok P _ hP
  have bl : (s0.heap.push (PySem.W.kdv_tup [v])).BuiltinsAt X.mg P := tb.bm.keeps I'.bk
  have tP : s0.heap.objs.size ≠ P := fun z => by rw [← z, tn] at hP; cases hP
  cases among : codeAmong pos ps.toList with
  | none =>
    refine PySem.W.kdv_makeTail (mg := X.mg) (c := c) (P := P) (ps := ps) (closure_ok (L.has I'.ok)) I'.ok.glob (I'.mod.glob.keeps I'.bk) hc (tb.code.keeps I'.bk) pP ht among tb.gP bl fun c' ct doc h' tk hx hge hlt hrec htb => ?_
    obtain ⟨c2, oc, vs, t, e2, hoc, hdt, hv⟩ := hrec
    cases e2
    have far := Nat.le_trans hge (Nat.le_of_lt hlt)
    have cn : G c' = none := I'.hok.fresh hge
    have J := LamX.inv_table (t' := tk) (more := #[rawInt pos.line, rawInt pos.col, .ref c']) (h' := h'.push (lamOD X (parD d ap de) b sc (.ref s0.heap.objs.size) doc ((X.mg "__name__").getD .none) c' ct)) I' hP
      (fun a o q e => Heap.get?_push_of_some _ (hx a o q e)) (Heap.get?_push_of_some _ htb) hge ⟨oc, vs, t, Heap.get?_push_of_some _ hoc, hdt, hv⟩
    have grown : LamX.ExtN G (upd (upd G P (.tbl (ps ++ #[rawInt pos.line, rawInt pos.col, .ref c']))) c' (LamX.CodeO c' (X.env.qual ++ "<lambda>"))) := fun a o e n => by
      rw [upd_ne (ne_of_none e cn), upd_ne fun z => n ps (Option.some.inj (e.symm.trans (by rw [z]; exact hP)))]
      exact e
    have lst : (ps ++ #[rawInt pos.line, rawInt pos.col, .ref c']).toList = ps.toList ++ [rawInt pos.line, rawInt pos.col, .ref c'] := by simp
    have tabs : LamX.Tabs T.tbs (upd (upd G P (.tbl (ps ++ #[rawInt pos.line, rawInt pos.col, .ref c']))) c' (LamX.CodeO c' (X.env.qual ++ "<lambda>"))) := fun p hp => by
      by_cases same : p.1 = P
      · rw [hu p hp same, same]
        refine ⟨_, by rw [upd_ne (ne_of_none hP cn), upd_same], by rw [lst]; exact PySem.TriplesOk_snoc _ _ _ _ ht, fun p' cv q => ?_⟩
        rw [lst] at q
        rcases LamX.among_app _ ht q with z | z
        · obtain ⟨c0, w1, w2⟩ := ha p' cv z
          exact ⟨c0, w1, grown _ _ w2 LamX.codeO_ne⟩
        · exact ⟨c', z, upd_same⟩
      · obtain ⟨ps', w1, w2, w3⟩ := r.tabs p hp
        refine ⟨ps', by rw [upd_ne (ne_of_none w1 cn), upd_ne same]; exact w1, w2, fun p' cv q => ?_⟩
        obtain ⟨c0, w4, w5⟩ := w3 p' cv q
        exact ⟨c0, w4, grown _ _ w5 LamX.codeO_ne⟩
    obtain ⟨r1, sub1⟩ := r.codes J grown tabs
    have far2 := Nat.le_trans up1 far
    have ne1 : h'.objs.size ≠ c' := Nat.ne_of_gt hlt
    have ne2 : h'.objs.size ≠ P := Nat.ne_of_gt (Nat.lt_of_lt_of_le (Heap.lt_size pP) far)
    have ne3 : s0.heap.objs.size ≠ c' := fun z => by
      have : (s0.heap.push (PySem.W.kdv_tup [v])).objs.size ≤ s0.heap.objs.size := by rw [z] at *; exact hge
      rw [Heap.size_push] at this
      omega
    exact k h'.objs.size c' s0.heap.objs.size v doc ((X.mg "__name__").getD .none) ct _ _ _ J sub1 r1 (Heap.get?_push_size _ rfl) (by rw [upd_ne ne1, upd_ne ne2]; exact I'.hok.fresh far) (off _ far2) (Heap.get?_push_of_some _ (hx _ _ tP tat)) (by rw [upd_ne ne3, upd_ne tP]; exact tn) (off _ (Nat.le_refl _)) upd_same
  | some cv =>
    obtain ⟨c', e, hco⟩ := ha pos cv among
    subst e
    refine PySem.W.kdv_makeTailHit (mg := X.mg) (c := c) (P := P) (ps := ps) (closure_ok (L.has I'.ok)) I'.ok.glob (I'.mod.glob.keeps I'.bk) hc (tb.code.keeps I'.bk) pP ht among bl fun ct doc h' tk hx far => ?_
    have J : L2.Inv X pins σ G { s0 with heap := h'.push (lamOD X (parD d ap de) b sc (.ref s0.heap.objs.size) doc ((X.mg "__name__").getD .none) c' ct), toks := tk } := I'.kept fun a o e => Heap.get?_push_of_some _ (hx a o e)
    exact k h'.objs.size c' s0.heap.objs.size v doc ((X.mg "__name__").getD .none) ct G F _ J (Sub.refl F) r (Heap.get?_push_size _ rfl) (I'.hok.fresh far) (off _ (Nat.le_trans up1 far)) (Heap.get?_push_of_some _ (hx _ _ tat)) tn (off _ (Nat.le_refl _)) hco
/-- .. and it is called in the def Z that got it -/
theorem act_okD {CXg : CXT} {Eg : XK} {Ng : List Str} {qg : Str} {sg : Scope} {g f c' t0 : Addr} {cdg v doc pm ct : Value} {d : Str} {ap : Pos} {de b : Expr} {sc : Scope} {lv i : Nat} {a : Str} {pn : List (Addr × Obj)} {xe : Value → Shared → Prop} {Wm : WX} {E : XK} {t : TE} {p1 p2 : Pos}
    (I : L2.Inv X pins σ H s) (L : LamD X.env.scope sc d) (hdN : d ∉ X.N) (hd2 : d = "one" ∨ d = "two") (of : s.heap.get? f = some (lamOD X (parD d ap de) b sc (.ref t0) doc pm c' ct)) (nf' : H f = none) (nr : f ∉ frs X.stack) (ot : s.heap.get? t0 = some (PySem.W.kdv_tup [v])) (nt : H t0 = none) (tr : t0 ∉ frs X.stack) (gd : X.A.guards = some [])
    (tk : Takes ((cxOf CXg X.prog X.w X.K X.mg X.base Ng qg sg g cdg X.A X.stack s H Eg).tr pn xe) Wm) (hW : ∀ cls d σ' H', σ'.length = Ng.length → E cls d H' → Wm cls d σ' H') (room : Room (lv + 1) (X.A.deeper (envOfC qg sg s.heap.objs.size g cdg)))
    (body : ∀ (A : Around) (outer : List PySem.Env) (s : Shared) (H : Hp), Room lv (A.deeper (LamX.lamEnv X sc s.heap.objs.size f c')) → A.guards = some [] → PE (LamX.lamCx X A outer s H E sc f c') b t)
    (hN : Ng[i]? = some a) (hv : Vis sg a) (h1 : (a == ("__debug__" : Str)) = false) (h2 : (a == ("__classdict__" : Str)) = false) :
    PE ((cxOf CXg X.prog X.w X.K X.mg X.base Ng qg sg g cdg X.A X.stack s H Eg).tr pn xe) (.Call (.Name a p1) [] [] p2)
      (fun σZ HZ Q => σZ[i]? = some (some (.ref f)) ∧ HZ c' = some (LamX.CodeO c' (X.env.qual ++ "<lambda>")) ∧ t σ HZ Q) := by
  constructor
  intro pz sZ σZ HZ Q IZ ⟨q1, q2, q3⟩
  apply wpAny_Call_Name_kw
  refine thn ((pe_var (pos := p1) (i := i) hN hv h1 h2).run pz sZ σZ HZ (fun v G => v = .ref f ∧ G = HZ) IZ ⟨.ref f, q1, rfl, rfl⟩) ?_
  intro u s2 ⟨w, G, I2, rv, ev, eG⟩
  subst ev eG
  obtain rfl : u = Value.ref f := rv
  have no : ∀ z : Addr, z ∉ ([] : List Addr) := fun z hz => nomatch hz
  have of2 : s2.heap.get? f = some (lamOD X (parD d ap de) b sc (.ref t0) doc pm c' ct) := I2.base.keep f _ of nf' nr (no f)
  have ot2 : s2.heap.get? t0 = some (PySem.W.kdv_tup [v]) := I2.base.keep t0 _ ot nt tr (no t0)
  apply PySem.W.callWith_F0 ⟨_, _, _, _, of2⟩
  obtain ⟨⟨oc, vc, tc, hc1, hc2, hc3⟩, _, _⟩ := I2.hok c' _ q2
  have bi : BindsTo s2 (PySem.W.kdv_fn "<lambda>" (X.env.qual ++ "<lambda>") (parD d ap de) (.expr b) sc (cloFrom X.env.cells sc.names []) (.ref t0) doc pm (.ref c') ct) ⟨[], []⟩ [(d, v)] := by
    rcases hd2 with rfl | rfl <;> exact BindsTo.of_defaults rfl ot2 rfl rfl rfl
  have ran : codeAny (model X.prog X.w) (X.A.deeper (envOfC qg sg s.heap.objs.size g cdg)) (.call (.ref f) ⟨[], []⟩) (CR (L2.CX X.prog X.w) (envOfC qg sg s.heap.objs.size g cdg :: X.stack) X.prog X.w G s2 Q E) s2 := by
    apply PySem.W.kla_callFunE room.depth of2 rfl L.co L.gen rfl ⟨c', oc, vc, tc, rfl, hc1, hc2, hc3⟩
    apply bi
    refine wpAny_newFunctionEnv (fun y hy => (L.own y hy).1) (fun y hy => ?_) (fun h₁ hns hsb => ⟨I2.nolimit.fresh _ hsb, ?_⟩) L.kind
    · rcases List.mem_cons.mp hy with rfl | hy
      · exact L.dl
      · cases hy
    have kp : ∀ b o, s2.heap.get? b = some o → h₁.get? b = some o := fun b o e => hsb.extBut b o (Nat.ne_of_lt (Heap.lt_size e)) (Heap.get?_push_of_some _ e)
    have J : L2.Inv (LamX.lamCx X (X.A.deeper (envOfC qg sg s.heap.objs.size g cdg)) (envOfC qg sg s.heap.objs.size g cdg :: X.stack) s2 G E sc f c') [] σ G { s2 with heap := h₁, toks := s2.toks + ([(d, v)] : List (Str × Value)).length } :=
      lam_startD I L hdN I2.env0 room.hd I2.base hns kp
    show codeAny _ _ (.expr b (LamX.lamEnv X sc s2.heap.objs.size f c')) _ _
    apply PySem.W.kla_codeExpr
    refine wpAny_mono ((body _ _ s2 G (room.deeper _) gd).run [] _ _ G Q J q3) ?_ fun _ _ z => z
    intro v s3 ⟨w', G', J', rw', hq⟩
    exact ⟨w', G', J'.os, J'.bare, J'.base, J'.hok, rw', hq⟩
  apply wpAny_call
  refine codeAny_mono ran fun res s3 hr => ?_
  match res, hr with
  | .error e, hr =>
    have tk2 : Takes ((cxOf CXg X.prog X.w X.K X.mg X.base Ng qg sg g cdg X.A X.stack s H Eg).tr pn xe) fun cls d σ' H' => σ'.length = Ng.length → Wm cls d σ' H' := by
      intro u s' ⟨a1, B1, sI, pI, σI, HI, c1, d1, z0, z1, z2, z3, z4, z5, z6, z7, z8⟩
      exact tk u s' ⟨a1, B1, sI, pI, σI, HI, c1, d1, z0, z1, z2, z3, z4, z5, z6, z7, z8 z1.len⟩
    exact passes_call tk2 (fun cls d σ' H' e hl => hW cls d σ' H' hl e) pz σZ G s2 e s3 I2 hr
  | .ok (.ret u), hr => exact I2.after hr
  | .ok .next, hr => exact hr.elim
  | .ok .brk, hr => exact hr.elim
  | .ok .cont, hr => exact hr.elim
end
end Ev
end

section
set_option Elab.async false
set_option linter.all false
set_option maxRecDepth 100000
set_option maxHeartbeats 4000000
/-! EvX4: what an except clause hands back. -/
namespace Ev
open PySem PySem.Spec PyProof.Rows L2
section
variable {T : Tab} {C : Ck} {Y : Cx} {sc : Scope} {p : PyData} {G : Hp → L2.St → Prop} {ρ : List Addr} {F H : Hp} {st : Store} {σ : L2.St}
def tHx (T : Tab) (p : PyData) (G : Hp → L2.St → Prop) (hx : Hx) : TE := fun σ H Q => ∃ ρ F st x, Rl T ρ F H st ∧ G F σ ∧ hxV p hx = some x ∧ OkP T NW ρ F (.ok (.d x, false) st) Q
def tHxs (T : Tab) (p : PyData) (G : Hp → L2.St → Prop) (l : List Hx) : TA := fun σ H Q => ∃ ρ F st xs, Rl T ρ F H st ∧ G F σ ∧ hxVs p l = some xs ∧ ∀ ρ' F' H' ys, ρ <+: ρ' → Sub F F' → Rl T ρ' F' H' st → DqAll T.kc F' ys xs → Q ys H'
/-- what the context has -/
structure HxC (T : Tab) (C : Ck) (sc : Scope) (Y : Cx) : Prop where
  hT : T.K = Y.K
  gd : Y.A.guards = some []
  un : Y.A.units + 200 < cLine
  rep : RepT Y
  fr : ∀ n ∈ C.free, Y.mg n = none
  hs : Y.env.scope = sc
theorem env_none (σ : L2.St) : EnvR T ρ F [] (List.replicate σ.length none) σ := ⟨by simp, fun i v _ e => by
  rw [List.getElem?_replicate] at e
  split at e <;> simp at e⟩
theorem fr_dat {v : V} {x : PyData} (h : FrR T ρ F H (.d x, false) v) : Dq T.kc F v x := by
  rcases h with ⟨_, h⟩ | ⟨h, _⟩
  · exact h
  · cases h
theorem x_con {e : Expr} {x y : PyData} (h : conD e = some y) (h2 : eqData y x = true) : PE Y e (tHx T p G (.con x)) :=
  (e_con (T := T) (W := NW) (cf := fun _ _ _ => .no) (nf := fun _ _ _ => .no) h h2).imp fun σ H Q ⟨ρ, F, st, z, r, g, hz, k⟩ => by
    unfold hxV at hz
    cases hz
    exact ⟨ρ, F, _, st, r, env_none σ, by unfold evE; exact k⟩
theorem x_nil : PA Y [] (tHxs T p G []) := pa_nil.imp fun σ H Q ⟨ρ, F, st, xs, r, g, hz, k⟩ => by
  unfold hxVs at hz
  cases hz
  exact k ρ F H [] (List.prefix_refl _) (Sub.refl F) r .nil
theorem x_cons (gm : ∀ F F' σ, Sub F F' → G F σ → G F' σ) {e : Expr} {es : List Expr} {a : Hx} {l : List Hx} (hs : isStar e = false) (h1 : PE Y e (tHx T p G a)) (h2 : PA Y es (tHxs T p G l)) : PA Y (e :: es) (tHxs T p G (a :: l)) :=
  (pa_cons h1 h2 (star_cons hs es Y.env)).imp fun σ H Q ⟨ρ, F, st, xs, r, g, hz, k⟩ => by
    unfold hxVs at hz
    split at hz
    · rename_i x ys e1 e2
      cases hz
      refine ⟨ρ, F, st, x, r, g, e1, fun ρ1 F1 H1 p1 s1 r1 v fv => ?_⟩
      have dv := fr_dat fv
      exact ⟨ρ1, F1, st, ys, r1, gm _ _ _ s1 g, e2, fun ρ2 F2 H2 vs p2 s2 r2 dvs => k ρ2 F2 H2 (v :: vs) (p1.trans p2) (s1.trans s2) r2 (.cons (Dq.sub s2 dv) dvs)⟩
    · cases hz
theorem x_tup {es : List Expr} {l : List Hx} {k : Nat} {pos : Pos} (h1 : PA Y es (tHxs T p G l)) : PE Y (.Tuple es k pos) (tHx T p G (.tup l)) := by
  refine ⟨fun pins s σ H Q I ⟨ρ, F, st, x, r, g, hz, hk⟩ => ?_⟩
  unfold hxV at hz
  obtain ⟨ds, e1, e2⟩ := bind_some hz
  split at e2
  · rename_i c
    cases e2
    refine wpAny_Tuple_spliced (thn (h1.run pos pins s σ H (fun xs H1 => ∃ ρ1 F1, ρ <+: ρ1 ∧ Sub F F1 ∧ Rl T ρ1 F1 H1 st ∧ DqAll T.kc F1 xs ds) I ⟨ρ, F, st, ds, r, g, e1, fun ρ1 F1 H1 ys p1 s1 r1 d1 => ⟨ρ1, F1, p1, s1, r1, d1⟩⟩) fun us s1 ⟨xs, H1, I1, rv, ρ1, F1, p1, s1', r1, hd⟩ => ?_)
    have hz : xs.length ≤ sizeLine := by rw [hd.length, ← limZ_eq]; exact c
    exact ⟨by rw [← rv.length]; exact hz, OkP.lay (tk := s1.toks) (OkR.mono hk p1 s1') r1 I1 hd rv hz⟩
  · cases e2
theorem x_add (c : HxC T C sc Y) (gm : ∀ F F' σ, Sub F F' → G F σ → G F' σ) {a b : Expr} {x y : Hx} {pos : Pos} (h1 : PE Y a (tHx T p G x)) (h2 : PE Y b (tHx T p G y)) : PE Y (.BinOp a (opS .add) b pos) (tHx T p G (.add x y)) :=
  (pe_op (op_bin (W := NW) c.hT c.rep .add) h1 h2).imp fun σ H Q ⟨ρ, F, st, z, r, g, hz, k⟩ => by
    unfold hxV at hz
    split at hz
    · rename_i u v e1 e2
      split at hz
      · rename_i hl
        cases hz
        refine ⟨ρ, F, st, _, r, g, e1, fun ρ1 F1 H1 p1 s1 r1 w fw => ?_⟩
        have d1 := fr_dat fw
        refine ⟨ρ1, F1, st, _, r1, gm _ _ _ s1 g, e2, fun ρ2 F2 H2 p2 s2 r2 w2 fw2 => ?_⟩
        have d2 := fr_dat fw2
        refine ⟨ρ2, F2, st, .d (.str u), .d (.str v), r2, Dq.sub s2 d1, d2, ?_⟩
        show OkP T NW ρ2 F2 (retO (if u.length + v.length ≤ limZ then some (.str (u ++ v), false) else none) st) Q
        rw [if_pos hl]
        exact OkR.mono k (p1.trans p2) (s1.trans s2)
      · cases hz
    · cases hz
theorem x_rep (c : HxC T C sc Y) {n : Str} {e : Expr} {p1 pos : Pos} (h1 : gloB sc "repr" = true) (h2 : decide (("repr" : Str) ∈ C.free) = true) (hs : isStar e = false) (he : PE Y e (tHx T p G (.fld n))) : PE Y (.Call (.Name "repr" p1) [e] [] pos) (tHx T p G (.rep n)) := by
  obtain ⟨g1, g2, g3⟩ := gl_of c.hs h1
  have hm : Y.mg "repr" = none := c.fr _ (by simpa using h2)
  have hc := bi_ok_repr (T := T) (W := NW) c.hT c.gd c.un
  have ha : PA Y [e] (tCons (tHx T p G (.fld n)) tNil) := pa_cons he pa_nil (star_cons hs [] Y.env)
  have q : PE Y (.Call (.Name "repr" p1) [e] [] pos) (tCB (rBi T NW .repr) (tCons (tHx T p G (.fld n)) tNil)) := pe_callB hc g1 hm (by decide +kernel) ha g3 g2 (star_cons hs [] Y.env) rfl
  refine q.imp fun σ H Q ⟨ρ, F, st, z, r, g, hz, k⟩ => ?_
  refine ⟨ρ, F, st, p, r, g, rfl, fun ρ1 F1 H1 p1 s1 r1 w fw => ?_⟩
  have d1 := fr_dat fw
  refine ⟨ρ1, F1, st, [.d p], r1, .cons d1 .nil, ?_⟩
  show OkP T NW ρ1 F1 (reprI st (.d p)) Q
  unfold hxV at hz
  unfold reprI
  show OkP T NW ρ1 F1 (if p.showable && fineD p && decide (p.shown.length ≤ limZ) then .ok (.d (.str p.shown), false) st else .no) Q
  split at hz
  · rename_i hc
    cases hz
    rw [if_pos hc]
    exact OkR.mono k p1 s1
  · cases hz
mutual
theorem snd_Hx (c : HxC T C sc Y) (gm : ∀ F F' σ, Sub F F' → G F σ → G F' σ) {ok : Str → Expr → Bool} (hf : ∀ n e, ok n e = true → PE Y e (tHx T p G (.fld n))) : ∀ (hx : Hx) (e : Expr), okHx C sc ok hx e = true → PE Y e (tHx T p G hx)
  | .con x, e, h => by
    unfold okHx at h
    split at h
    · rename_i y hy; exact x_con hy h
    · cases h
  | .fld n, e, h => by
    unfold okHx at h
    exact hf n e h
  | .rep n, e, h => by
    unfold okHx at h
    split at h
    · rename_i g x q hc
      have e0 := asCall_eq hc
      subst e0
      simp only [Bool.and_eq_true, decide_eq_true_eq, Bool.not_eq_true'] at h
      obtain ⟨⟨⟨⟨h1, h2⟩, h3⟩, h4⟩, h5⟩ := h
      obtain ⟨q, rfl⟩ := asName_eq h1
      exact x_rep c h2 (by simpa using h3) h4 (hf n x h5)
    · cases h
  | .tup l, e, h => by
    unfold okHx at h
    split at h
    · rename_i xs hx
      obtain ⟨k, q, rfl⟩ := asTup_eq hx
      exact x_tup (snd_Hxs c gm hf l xs h)
    · cases h
  | .add a b, e, h => by
    unfold okHx at h
    split at h
    · rename_i x o y hx
      obtain ⟨q, rfl⟩ := asBin_eq hx
      simp only [Bool.and_eq_true, decide_eq_true_eq] at h
      rw [h.1.1]
      exact x_add c gm (snd_Hx c gm hf a x h.1.2) (snd_Hx c gm hf b y h.2)
    · cases h
  termination_by structural hx => hx
theorem snd_Hxs (c : HxC T C sc Y) (gm : ∀ F F' σ, Sub F F' → G F σ → G F' σ) {ok : Str → Expr → Bool} (hf : ∀ n e, ok n e = true → PE Y e (tHx T p G (.fld n))) : ∀ (l : List Hx) (es : List Expr), okHxs C sc ok l es = true → PA Y es (tHxs T p G l)
  | [], [], _ => x_nil
  | [], _ :: _, h => by unfold okHxs at h; cases h
  | _ :: _, [], h => by unfold okHxs at h; cases h
  | a :: l, x :: xs, h => by
    unfold okHxs at h
    simp only [Bool.and_eq_true, Bool.not_eq_true'] at h
    exact x_cons gm h.1.1 (snd_Hx c gm hf a x h.1.2) (snd_Hxs c gm hf l xs h.2)
  termination_by structural l => l
end
end
end Ev
end

section
set_option Elab.async false
set_option linter.all false
set_option maxRecDepth 100000
set_option maxHeartbeats 4000000
/-! EvX5: a def that calls what it gets and looks at the errors. -/
namespace Ev
open PySem PySem.Spec PyProof.Rows L2
theorem isAct_eq {a : Str} {e : Expr} (h : isAct a e = true) : ∃ p q, e = .Call (.Name a p) [] [] q := by
  unfold isAct at h
  split at h
  · rw [eq_of_beq h]; exact ⟨_, _, rfl⟩
  · cases h
/-- nothing is raised -/
def nCX : CXT := fun _ _ _ _ _ _ => False
section
variable {T : Tab} {W : XW} {C : Ck} {cf nf : CallF} {X : Cx} {σ : L2.St} {H : Hp} {s : Shared} {ρ : List Addr} {F : Hp} {st : Store}
/-- the error is told -/
def gX (T : Tab) (h : Hd) (ea : Addr) (cls : Value) (dd : Option Addr) (p : PyData) (F : Hp) (σ : L2.St) : Prop := ExR T.kc F cls dd h.cls p ∧ (h.nm = true → σ[1]? = some (some (.ref ea)))
theorem gX_mono {h : Hd} {ea : Addr} {cls : Value} {dd : Option Addr} {p : PyData} : ∀ F F' σ, Sub F F' → gX T h ea cls dd p F σ → gX T h ea cls dd p F' σ := fun _ _ _ s ⟨q1, q2⟩ => ⟨q1.sub s, q2⟩
def tsX (T : Tab) (h : Hd) (ea : Addr) (cls : Value) (dd : Option Addr) : TS := fun D σ H => ∃ p, tHx T p (gX T h ea cls dd p) h.e σ H D.rt
def clX (T : Tab) (h : Hd) : Cls1 := ⟨.ref (T.kc.xA h.cls), if h.nm then some 1 else none, tsX T h⟩
theorem am_hx (am : AmbC T C W cf nf X) {Y : Cx} (h1 : Y.K = X.K) (h2 : Y.mg = X.mg) (h3 : Y.A.guards = some []) (h4 : Y.A.units + 200 < cLine) : HxC T C Y.env.scope Y := ⟨by rw [h1]; exact am.hT, h3, h4, am.rep Y, by rw [h2]; exact am.fr, rfl⟩
theorem mark_gd {A : Around} {v : Option Value} (h : A.guards = some []) : (A.mark v).guards = some [] := by
  first
    | exact h
    | simpa [Around.mark] using h
theorem deeper_gd {A : Around} {e : PySem.Env} (h : A.guards = some []) : (A.deeper e).guards = some [] := by
  first
    | exact h
    | simpa [Around.deeper] using h
/-- the clauses are as told -/
theorem hds_mix (am : AmbC T C W cf nf X) {Z : Cx} (z1 : Z.K = X.K) (z2 : Z.mg = X.mg) (z3 : Z.A.guards = some []) (z4 : Z.A.units + 200 < cLine) : ∀ {l : List Hd} {es : List ExceptHandler}, okHds C Z.N Z.env.scope l es = true → HdsMix Z es (l.map (clX T))
  | [], [], _ => .nil
  | [], _ :: _, h => by unfold okHds at h; cases h
  | _ :: _, [], h => by unfold okHds at h; cases h
  | h :: r, e :: q, hk => by
    unfold okHds at hk
    rw [Bool.and_eq_true] at hk
    have rest := hds_mix am z1 z2 z3 z4 hk.2
    have hk := hk.1
    unfold okHd at hk
    split at hk
    · rename_i x np nm e0 rp hp _
      simp only [Bool.and_eq_true] at hk
      obtain ⟨⟨k1, k2⟩, k3⟩ := hk
      obtain ⟨g1, g2, _⟩ := gl_of rfl k1
      obtain ⟨m1, m2, m3⟩ := am.xc _ _ (isGE_eq k2)
      have nam : Names Z x (.ref (T.kc.xA h.cls)) := ⟨g1, g2, .inl (by rw [z2]; exact m1)⟩
      have suite : ∀ (ea : Addr) (ob : Obj) (cls : Value) (dd : Option Addr) (pn : List (Addr × Obj)) {ok : Str → Expr → Bool}, okHx C Z.env.scope ok h.e e0 = true → (∀ p n e, ok n e = true → PE (Z.suite ea ((ea, ob) :: pn)) e (tHx T p (gX T h ea cls dd p) (.fld n))) → PSs (Z.suite ea ((ea, ob) :: pn)) [.Return (some e0) rp] (tsX T h ea cls dd) := by
        intro ea ob cls dd pn ok ho hf
        have hx := am_hx am (Y := Z.suite ea ((ea, ob) :: pn)) z1 z2 (mark_gd z3) z4
        refine pss_one ⟨fun pins s σ H D I ⟨p, w⟩ => (ps_ret (snd_Hx hx gX_mono (hf p) h.e e0 ho)).run pins s σ H D I w⟩
      split at k3
      · rename_i en
        exact .plain (k := clX T h) (by unfold clX; rw [en]; rfl) nam (fun ea ob cls dd pn _ _ => suite ea ob cls dd pn k3 fun p n e z => absurd (show false = true from z) Bool.false_ne_true) rest
      · rename_i n en
        simp only [Bool.and_eq_true, decide_eq_true_eq, Bool.not_eq_true'] at k3
        obtain ⟨⟨⟨⟨n1, n2⟩, n3⟩, n4⟩, n5⟩ := k3
        refine .named (k := clX T h) (i := 1) (by unfold clX; rw [en]; rfl) n1 n2 nam (fun ea ob cls dd pn zc hf => suite ea ob cls dd pn n5 fun p m e z => ?_) rest
        unfold okFldX at z
        split at z
        · rename_i y m' ap ha
          simp only [Bool.and_eq_true, decide_eq_true_eq] at z
          obtain ⟨⟨o1, o2⟩, o3⟩ := z
          obtain rfl : m' = m := eq_of_beq o1
          have e1 := asAttr_eq ha
          subst e1
          obtain ⟨yp, rfl⟩ := asName_eq o2
          have hf2 : T.kc.xf h.cls = some m' := by
            have := am.xf _ m3
            rw [o3] at this
            exact (Option.some.inj this).symm
          obtain ⟨r1, r2⟩ := am.xr _ _ m3 hf2
          rw [← z1] at r1 r2
          refine (pe_xf r1 r2 zc hf (pe_var (i := 1) n1 (.inl n2) n3 n4) rfl).imp fun σ H Q ⟨ρ, F, st, x, rl, g, hz, k⟩ => ?_
          obtain ⟨⟨g1, g2⟩, g3⟩ := g
          obtain ⟨dd', fs, v, d1, d2, d3, d4⟩ := g2 _ hf2
          unfold hxV at hz
          cases hz
          exact ⟨_, g3 en, rfl, g1, dd', fs, v, d1, rl.sub _ _ d2, d3, OkP.dat k rl d4⟩
        · cases z
      · cases k3
    · cases hk
/-- an error is looked at, clause by clause -/
theorem mix_of (am : AmbC T C W cf nf X) {n : Nat} {D : Ends} {c : Nat} {p x : PyData} {cls : Value} {dd : Option Addr} (ex : ExR T.kc F cls dd c p) (r : Rl T ρ F H st) (k : OkP T NW ρ F (.ok (.d x, false) st) D.rt) :
    ∀ {l : List Hd} {h : Hd}, (∀ h ∈ l, h.cls < C.xs.length ∧ (h.nm = true → 1 < n)) → hdFind c l = some h → hxV p h.e = some x → wMix X.K n D (l.map (clX T)) cls dd σ H
  | [], _, _, e, _ => by unfold hdFind at e; cases e
  | h0 :: l, h, hl, e, ex2 => by
    unfold hdFind at e
    obtain ⟨l1, l2⟩ := hl h0 List.mem_cons_self
    have hc : c < C.xs.length := by
      have : ∀ {l : List Hd} {h : Hd}, (∀ h ∈ l, h.cls < C.xs.length ∧ (h.nm = true → 1 < n)) → hdFind c l = some h → c < C.xs.length := by
        intro l
        induction l with
        | nil => intro h _ z; unfold hdFind at z; cases z
        | cons a r ih =>
          intro h hl z
          unfold hdFind at z
          split at z
          · rename_i q; rw [← q]; exact (hl a List.mem_cons_self).1
          · exact ih (fun h hh => hl h (List.mem_cons_of_mem _ hh)) z
      exact this (l := h0 :: l) hl (by unfold hdFind; exact e)
    refine ⟨c == h0.cls, ?_, fun hb hlen ea na => ?_, fun hb => ?_⟩
    · rw [ex.1]
      exact am.xm c h0.cls hc l1
    · have q := eq_of_beq hb
      rw [if_pos q.symm] at e
      cases e
      have ex' : ExR T.kc F cls dd h0.cls p := by rw [← q]; exact ex
      have fin : ∀ τ : L2.St, (h0.nm = true → τ[1]? = some (some (.ref ea))) → ∀ D' : Ends, D'.rt = D.rt → tsX T h0 ea cls dd D' τ H := fun τ ht D' hD => ⟨p, ρ, F, st, x, r, ⟨ex', ht⟩, ex2, by rw [hD]; exact k⟩
      unfold Cls1.go clX
      cases hn : h0.nm with
      | false => exact fin σ (fun z => by rw [hn] at z; cases z) D rfl
      | true => exact fin _ (fun _ => List.getElem?_set_self (by rw [hlen]; exact l2 hn)) (slotE D 1) rfl
    · have q : ¬ h0.cls = c := fun z => by rw [z] at hb; simp at hb
      rw [if_neg q] at e
      exact mix_of am ex r k (fun h hh => hl h (List.mem_cons_of_mem _ hh)) e ex2
theorem hds_cls (am : AmbC T C W cf nf X) {N : List Str} {sc : Scope} : ∀ {l : List Hd} {es : List ExceptHandler}, okHds C N sc l es = true → ∀ h ∈ l, h.cls < C.xs.length ∧ (h.nm = true → 1 < N.length)
  | [], _, _, _, hm => by simp at hm
  | _ :: _, [], h, _, _ => by unfold okHds at h; cases h
  | h :: r, e :: q, hk, h', hm => by
    unfold okHds at hk
    rw [Bool.and_eq_true] at hk
    rcases List.mem_cons.mp hm with rfl | hm
    · have hk := hk.1
      unfold okHd at hk
      split at hk
      · rename_i x np nm e0 rp hp _
        simp only [Bool.and_eq_true] at hk
        obtain ⟨⟨k1, k2⟩, k3⟩ := hk
        refine ⟨(am.xc _ _ (isGE_eq k2)).2.2, fun hn => ?_⟩
        rw [hn] at k3
        split at k3
        · rename_i z; cases z
        · simp only [Bool.and_eq_true, decide_eq_true_eq] at k3
          exact (List.getElem?_eq_some_iff.mp k3.1.1.1.1).1
        · cases k3
      · cases hk
    · exact hds_cls am hk.2 h' hm
end
end Ev
end

section
set_option Elab.async false
set_option linter.all false
set_option maxRecDepth 100000
set_option maxHeartbeats 4000000
/-! EvX6: x(lambda: e), x a def that looks at the errors. -/
namespace Ev
open PySem PySem.Spec PyProof.Rows L2
section
variable {T : Tab} {W : XW} {C : Ck} {cf nf : CallF} {X : Cx} {σ : L2.St} {ρ : List Addr} {F : Hp} {st : Store}
theorem OkR.okW {W W' : XW} {α : Type} {a : α} {st' : Store} {k : α → Store → List Addr → Hp → Hp → Prop} (h : OkR T W ρ F (.ok a st') k) : OkR T W' ρ F (.ok a st') k := h
/-- the body of such a def -/
theorem met_body (am : AmbC T C W cf nf X) {fi : FI} {m : Met} (ok : okMet C m fi = true) (S : FnScope fi.N fi.ps fi.sc) {g f c' : Addr} {cdg : Value} {q : Str} {s : Shared} {H : Hp} (room : Room 2 X.A) {r : R (Vl × Bool)} {Q : VK} {tl : XK → Hp → VK → Prop}
    (act : ∀ (a : Str), fi.ps = [a] → fi.N[0]? = some a → Vis fi.sc a → (a == ("__debug__" : Str)) = false → (a == ("__classdict__" : Str)) = false → ∀ (Wm : WX) (pn : List (Addr × Obj)) (xe : Value → Shared → Prop) (E : XK) (p1 p2 : Pos), Takes ((cxOf nCX X.prog X.w X.K X.mg X.base fi.N fi.qual fi.sc g cdg X.A X.stack s H nE).tr pn xe) Wm → (∀ cls d σ' H', σ'.length = fi.N.length → E cls d H' → Wm cls d σ' H') →
      PE ((cxOf nCX X.prog X.w X.K X.mg X.base fi.N fi.qual fi.sc g cdg X.A X.stack s H nE).tr pn xe) (.Call (.Name a p1) [] [] p2) fun σZ HZ Q => σZ[0]? = some (some (.ref f)) ∧ HZ c' = some (LamX.CodeO c' q) ∧ tl E HZ Q)
    (mn : ∀ (E : XK) (G : Hp) (Q Q' : VK), tl E G Q → (∀ v G', Q v G' → Q' v G') → tl E G Q') (hc : H c' = some (LamX.CodeO c' q)) (go : ∀ (E : XK) (Q' : VK), OkP T (wOf T.kc E) ρ F r Q' → tl E H Q') (k : OkP T W ρ F (metV m r) Q) :
    ∃ t, PSs (cxOf nCX X.prog X.w X.K X.mg X.base fi.N fi.qual fi.sc g cdg X.A X.stack s H nE) fi.body t ∧ t { nx := fun _ H' => Q .non H', rt := Q } (L2.start fi.N [.ref f]) H := by
  let Z := cxOf nCX X.prog X.w X.K X.mg X.base fi.N fi.qual fi.sc g cdg X.A X.stack s H nE
  unfold okMet at ok
  split at ok
  rotate_left
  · cases ok
  rename_i a ha
  simp only [Bool.and_eq_true, decide_eq_true_eq, Bool.not_eq_true'] at ok
  obtain ⟨⟨⟨⟨o1, o2⟩, o3⟩, o4⟩, o5⟩ := ok
  have vis : Vis fi.sc a := vis_of (X := Z) rfl o2
  have act1 := act a ha o1 vis o3 o4
  have z3 : Z.A.guards = some [] := deeper_gd am.gd
  have z4 : Z.A.units + 200 < cLine := by
    have := room.un
    show X.A.units + 3 + 200 < cLine
    omega
  have st0 : (L2.start fi.N [V.ref f])[0]? = some (some (.ref f)) := rfl
  have start_len : ∀ σ' : L2.St, σ' = L2.start fi.N [V.ref f] → σ'.length = fi.N.length := fun σ' e => by
    subst e
    have hp := S.pre
    have hn : 1 ≤ fi.N.length := (List.getElem?_eq_some_iff.mp o1).1
    unfold L2.start
    simp
    omega
  -- the wish of the clauses
  let EE : Ends → XK := fun D cls d H' => ∀ σ' : L2.St, σ'.length = fi.N.length → wMix X.K fi.N.length D (m.hs.map (clX T)) cls d σ' H'
  have wish : ∀ {hs : List ExceptHandler} {D : Ends}, okHds C fi.N fi.sc m.hs hs = true → D.rt = Q → ∀ (c : Nat) (p : PyData) (st1 : Store), OkP T W ρ F (metV m (.exc c p st1)) Q → ∀ ρ' F' H', ρ <+: ρ' → Sub F F' → Rl T ρ' F' H' st1 → wOf T.kc (EE D) c p ρ' F' H' st1 := by
    intro hs D hh hD c p st1 k ρ' F' H' p1 s1 r1 cls d ex σ' hl
    replace k : OkP T W ρ F (match hdFind c m.hs with
      | some h => match hxV p h.e with
        | some x => .ok (.d x, false) st1
        | none => .no
      | none => .no) Q := k
    split at k
    · rename_i h e1
      split at k
      · rename_i x e2
        exact mix_of am ex r1 (by rw [hD]; exact OkR.okW (OkR.mono k p1 s1)) (hds_cls am hh) e1 e2
      · exact k.elim
    · exact k.elim
  have hm : ∀ {hs : List ExceptHandler}, okHds C fi.N fi.sc m.hs hs = true → HdsMix Z hs (m.hs.map (clX T)) := fun {hs} hh => hds_mix am (Z := Z) rfl rfl z3 z4 hh
  unfold okBody at o5
  split at o5
  · -- call(), then a constant
    rename_i ca p1 h0 hs p2 e p3 eb
    rw [eb]
    simp only [Bool.and_eq_true] at o5
    obtain ⟨⟨b1, b2⟩, b3⟩ := o5
    obtain ⟨q1, q2, rfl⟩ := isAct_eq b1
    split at b3
    rotate_left
    · cases b3
    rename_i hx ek
    have hz := am_hx am (Y := Z) rfl rfl z3 z4
    have peE := snd_Hx (p := PyData.none) (G := fun _ _ => True) hz (fun _ _ _ _ h => h) (fun n e z => absurd (show false = true from z) Bool.false_ne_true) hx e b3
    refine ⟨_, pss_cons (ps_try_mix (X := Z) rfl rfl S.nd (tb := fun Wm D σ H2 => ∃ E : XK, (∀ cls d σ' H', σ'.length = fi.N.length → E cls d H' → Wm cls d σ' H') ∧ σ[0]? = some (some (.ref f)) ∧ H2 c' = some (LamX.CodeO c' q) ∧ tl E H2 fun _ H3 => D.nx σ H3)
      (fun Wm pn xe tk po => pss_one ⟨fun pins s2 σ2 H2 D2 I2 ⟨E, w1, w2, w3, w4⟩ => (ps_expr (act1 Wm pn xe E q1 q2 tk w1)).run pins s2 σ2 H2 D2 I2 ⟨w2, w3, w4⟩⟩) (hm b2)) (pss_one (ps_ret peE)), ?_⟩
    refine ⟨EE _, fun cls d σ' H' hl z => z σ' hl, st0, hc, go _ _ ?_⟩
    cases r with
    | no => exact k.elim
    | exc c p st1 => exact wish b2 rfl c p st1 k
    | ok v st1 =>
      intro ρ1 F1 H1 p1 s1 r1 x fx
      replace k : OkP T W ρ F (match m.k with
        | .run h => match hxV .none h with
          | some x => .ok (.d x, false) st1
          | none => .no
        | .ret => match v.1 with
          | .d _ => .ok v st1
          | _ => .no
        | .told w => match frz st1 v.1 with
          | some (x, st2) => .ok (.d (.tuple [.str w, x]), false) st2
          | none => .no) Q := k
      rw [ek] at k
      simp only at k
      split at k
      · rename_i y ey
        exact ⟨ρ1, F1, st1, y, r1, trivial, ey, OkR.okW (OkR.mono k p1 s1)⟩
      · exact k.elim
  · -- return (w, call())
    rename_i c0 ca kk tp rp h0 hs p2 eb
    rw [eb]
    simp only [Bool.and_eq_true] at o5
    obtain ⟨⟨b1, b2⟩, b3⟩ := o5
    obtain ⟨q1, q2, rfl⟩ := isAct_eq b1
    split at b3
    rotate_left
    · cases b3
    rename_i w ek
    split at b3
    rotate_left
    · cases b3
    rename_i z ez
    obtain rfl : z = w := eq_of_beq b3
    have pc : ∀ Y : Cx, PE Y c0 (tC (.str z)) := fun Y => by
      unfold conD at ez
      split at ez <;> first | (cases ez; done) | skip
      cases ez
      exact pe_str
    have ns : isStar c0 = false := by
      cases c0 <;> first | rfl | (unfold conD at ez; cases ez)
    refine ⟨_, pss_one (ps_try_mix (X := Z) rfl rfl S.nd (tb := fun Wm D σ H2 => ∃ E : XK, (∀ cls d σ' H', σ'.length = fi.N.length → E cls d H' → Wm cls d σ' H') ∧ σ[0]? = some (some (.ref f)) ∧ H2 c' = some (LamX.CodeO c' q) ∧ tl E H2 fun v H3 => ∃ (ρ3 : List Addr) (F3 : Hp) (st3 : Store) (d3 : PyData), Rl T ρ3 F3 H3 st3 ∧ Dq T.kc F3 v d3 ∧ OkP T W ρ3 F3 (.ok (.d (.tuple [.str z, d3]), false) st3) D.rt)
      (fun Wm pn xe tk po => pss_one (t := fun D σ H2 => ∃ E : XK, (∀ cls d σ' H', σ'.length = fi.N.length → E cls d H' → Wm cls d σ' H') ∧ σ[0]? = some (some (.ref f)) ∧ H2 c' = some (LamX.CodeO c' q) ∧ tl E H2 fun v H3 => ∃ (ρ3 : List Addr) (F3 : Hp) (st3 : Store) (d3 : PyData), Rl T ρ3 F3 H3 st3 ∧ Dq T.kc F3 v d3 ∧ OkP T W ρ3 F3 (.ok (.d (.tuple [.str z, d3]), false) st3) D.rt) ?_) (hm b2)), ?_⟩
    · refine ⟨fun pins s2 σ2 H2 D2 I2 ⟨E, w1, w2, w3, w4⟩ => ?_⟩
      refine (ps_ret (te := fun σ H Q => σ[0]? = some (some (.ref f)) ∧ H c' = some (LamX.CodeO c' q) ∧ tl E H fun v H3 => ∃ (ρ3 : List Addr) (F3 : Hp) (st3 : Store) (d3 : PyData), Rl T ρ3 F3 H3 st3 ∧ Dq T.kc F3 v d3 ∧ OkP T W ρ3 F3 (.ok (.d (.tuple [.str z, d3]), false) st3) Q) ⟨fun pins s3 σ3 H3 Q3 I3 ⟨y1, y2, y3⟩ => ?_⟩).run pins s2 σ2 H2 D2 I2 ⟨w2, w3, w4⟩
      refine wpAny_Tuple_spliced (thn ((pa_cons (pc _) (pa_cons (act1 Wm pn xe E q1 q2 tk w1) pa_nil) (star_cons ns _ _)).run tp pins s3 σ3 H3 (fun xs H4 => ∃ v, xs = [V.str z, v] ∧ ∃ (ρ3 : List Addr) (F3 : Hp) (st3 : Store) (d3 : PyData), Rl T ρ3 F3 H4 st3 ∧ Dq T.kc F3 v d3 ∧ OkP T W ρ3 F3 (.ok (.d (.tuple [.str z, d3]), false) st3) Q3) I3 ?_) fun us s1 ⟨xs, H4, I4, rv, v, ev, ρ3, F3, st3, d3, r3, dq, hk⟩ => ?_)
      · exact ⟨y1, y2, mn _ _ _ _ y3 fun v H4 h => ⟨v, rfl, h⟩⟩
      · subst ev
        have hz : [V.str z, v].length ≤ sizeLine := by rw [sizeLine_eq]; simp
        exact ⟨by rw [← rv.length]; exact hz, OkP.lay (tk := s1.toks) hk r3 I4 (.cons (.str z) (.cons dq .nil)) rv hz⟩
    refine ⟨EE _, fun cls d σ' H' hl z => z σ' hl, st0, hc, go _ _ ?_⟩
    cases r with
    | no => exact k.elim
    | exc c p st1 => exact wish b2 rfl c p st1 k
    | ok v st1 =>
      intro ρ1 F1 H1 p1 s1 r1 x fx
      replace k : OkP T W ρ F (match m.k with
        | .run h => match hxV .none h with
          | some x => .ok (.d x, false) st1
          | none => .no
        | .ret => match v.1 with
          | .d _ => .ok v st1
          | _ => .no
        | .told w => match frz st1 v.1 with
          | some (x, st2) => .ok (.d (.tuple [.str w, x]), false) st2
          | none => .no) Q := k
      rw [ek] at k
      simp only at k
      obtain ⟨F2, s2, r2, v2⟩ := fx.frz r1
      split at k
      · rename_i y st2 ey
        obtain ⟨F3, s3, r3, d3⟩ := v2.frzd r2 ey
        exact ⟨ρ1, F3, st2, y, r3, d3, OkR.mono k p1 (s1.trans (s2.trans s3))⟩
      · exact k.elim
  · -- return call()
    rename_i ca rp h0 hs p2 _ eb
    rw [eb]
    simp only [Bool.and_eq_true] at o5
    obtain ⟨⟨b1, b2⟩, b3⟩ := o5
    obtain ⟨q1, q2, rfl⟩ := isAct_eq b1
    split at b3
    rotate_left
    · cases b3
    rename_i ek
    refine ⟨_, pss_one (ps_try_mix (X := Z) rfl rfl S.nd (tb := fun Wm D σ H2 => ∃ E : XK, (∀ cls d σ' H', σ'.length = fi.N.length → E cls d H' → Wm cls d σ' H') ∧ σ[0]? = some (some (.ref f)) ∧ H2 c' = some (LamX.CodeO c' q) ∧ tl E H2 D.rt)
      (fun Wm pn xe tk po => pss_one ⟨fun pins s2 σ2 H2 D2 I2 ⟨E, w1, w2, w3, w4⟩ => (ps_ret (act1 Wm pn xe E q1 q2 tk w1)).run pins s2 σ2 H2 D2 I2 ⟨w2, w3, w4⟩⟩) (hm b2)), ?_⟩
    refine ⟨EE _, fun cls d σ' H' hl z => z σ' hl, st0, hc, go _ _ ?_⟩
    cases r with
    | no => exact k.elim
    | exc c p st1 => exact wish b2 rfl c p st1 k
    | ok v st1 =>
      replace k : OkP T W ρ F (match m.k with
        | .run h => match hxV .none h with
          | some x => .ok (.d x, false) st1
          | none => .no
        | .ret => match v.1 with
          | .d _ => .ok v st1
          | _ => .no
        | .told w => match frz st1 v.1 with
          | some (x, st2) => .ok (.d (.tuple [.str w, x]), false) st2
          | none => .no) Q := k
      rw [ek] at k
      simp only at k
      split at k
      · exact OkR.okW k
      · exact k.elim
  · cases o5
theorem tE_mono {b : Ex} {E : XK} {Q Q' : VK} {H : Hp} (h : tE T (wOf T.kc E) cf nf b σ H Q) (i : ∀ v H', Q v H' → Q' v H') : tE T (wOf T.kc E) cf nf b σ H Q' := by
  obtain ⟨ρ, F, env, st, r, en, h⟩ := h
  exact ⟨ρ, F, env, st, r, en, h.imp fun v st1 ρ1 F1 H1 p1 s1 r1 q x fx => i x H1 (q x fx)⟩
/-- x(lambda: e) -/
theorem e_met {Y0 : List Str} (am : AmbC T C W cf nf X) (la : LamAt T C cf nf X) {x : Str} {i : Nat} {m : Met} {fi : FI} {b : Ex} {pa : Arguments} {be : Expr} {s2 sc : Scope} {p lp pos : Pos} (hs : X.env.scope = sc) (h2 : gloB sc x = true) (h3 : C.G.lookup x = some (.fn i)) (hmd : C.md.lookup i = some fi) (ok : okMet C m fi = true)
    (hp : noPar pa = true) (hL : LamX.lamSB sc s2 = true) (body : ∀ (T : Tab) (W : XW) (X : Cx), AmbC T C.noLam W cf nf X → X.env.scope = s2 → X.N = Y0 → PE X be (tE T W cf nf b)) (hY : Y0 = X.N) :
    PE X (.Call (.Name x p) [.Lambda pa be s2 lp] [] pos) (tE T W cf nf (.met i m b)) := by
  obtain ⟨g1, g2, _⟩ := gl_of hs h2
  obtain ⟨g, fd, m1, kp, fD, hb, S⟩ := am.md x i fi h3 hmd
  obtain ⟨c, P, l1, l2, l3, l4⟩ := la.ex
  obtain ⟨lv, room, lam⟩ := la.am
  obtain ⟨oc, od, dV, kV, doc, pm, an, cdv, ct, sl, rfl, lk, co, _, _⟩ := fD.ex
  have L : LamX.LamS X.env.scope s2 := by rw [hs]; exact LamX.lamS_by hL
  have hpa : pa = ⟨[], [], none, [], [], none, []⟩ := by
    unfold noPar at hp
    split at hp
    · rfl
    · cases hp
  subst hpa
  constructor
  intro pins s σ H Q I ⟨ρ, F, env, st, r, en, h⟩
  unfold evE at h
  apply wpAny_Call_Name_kw
  refine ld_glob I g1 m1 ?_ g2
  refine PySem.W.callWith_K (h₀ := X.base) I.ok.mod.kin kp ?_ (by rfl) (by rfl)
  show wpAny _ _ (spliced ((false, eval (.Lambda ⟨[], [], none, [], [], none, []⟩ be s2 lp) X.env) :: backTo pos (starEach [] X.env))) _ _ s
  apply Calls.spliced_cons
  refine lam_mk I r l2 l1 l3 l4 rfl L fun f c' pm' ct' H1 F1 s1 I1 sF r1 of hfn hfr hco => ?_
  refine Calls.spliced_nil ⟨I1.kIn, ?_⟩
  have bi : BindsTo s1 (PySem.W.fnOf fi.name fi.qual fi.pa fi.body fi.sc dV kV doc pm an cdv ct) ⟨[.ref f], []⟩ (fi.ps.zip [.ref f]) := by
    have hl : ([Value.ref f] ++ ([] : List Value)).length = fi.ps.length := by
      unfold okMet at ok
      split at ok
      · rename_i a ha; rw [ha]; rfl
      · cases ok
    exact hb s1 [.ref f] I1.kIn hl
  have ran : codeAny (model X.prog X.w) X.A (.call (.ref g) ⟨[.ref f], []⟩) (CR nCX X.stack X.prog X.w H1 s1 Q nE) s1 := by
    refine LamX.run_ofS (N := fi.N) (ps := fi.ps) (us := [.ref f]) (vs := [.ref f]) lk co S (room.mono (by omega) : Room (lv + 1 + 1) X.A) I1.env0 bi (.cons rfl .nil) ?_ fun room' => ?_
    · unfold okMet at ok
      split at ok
      · rename_i a ha; rw [ha]; rfl
      · cases ok
    · refine met_body (T := T) (W := W) (C := C) (cf := cf) (nf := nf) am ok S (f := f) (c' := c') (q := X.env.qual ++ "<lambda>") am.rm (r := evE cf nf b env st) (ρ := ρ) (F := F1) (tl := fun E G Q => tE T (wOf T.kc E) cf nf b σ G Q) (fun a ha hN hv n1 n2 Wm pn xe E p1 p2 tk hW => ?_) (fun E G Q Q' h i => tE_mono h i) hco (fun E Q' hk => ⟨ρ, F1, env, st, r1, en.mono (List.prefix_refl _) sF, hk⟩) (OkR.mono h (List.prefix_refl _) sF)
      exact act_ok (i := 0) I1 L of hfn hfr rfl am.gd tk hW room' (fun A outer s H room2 gd => body T (wOf T.kc E) _ (lam X (Like.refl X) A outer s H E s2 f c' T.hid room2 gd) rfl hY.symm) hN hv n1 n2
  apply wpAny_call
  refine codeAny_mono ran fun res s3 hr => ?_
  match res, hr with
  | .error _, hr => exact hr.elim
  | .ok (.ret u), hr => exact I1.after hr
  | .ok .next, hr => exact hr.elim
  | .ok .brk, hr => exact hr.elim
  | .ok .cont, hr => exact hr.elim
/-- x(lambda d=i: e) -/
theorem e_metD {Y0 : List Str} (am : AmbC T C W cf nf X) (la : LamAt T C cf nf X) {x : Str} {i : Nat} {m : Met} {fi : FI} {b : Ex} {pa : Arguments} {be : Expr} {s2 sc : Scope} {p lp pos : Pos} (hs : X.env.scope = sc) (h2 : gloB sc x = true) (h3 : C.G.lookup x = some (.fn i)) (hmd : C.md.lookup i = some fi) (ok : okMet C m fi = true)
    (hp : parOk Y0 sc s2 pa = true) (body : ∀ (T : Tab) (W : XW) (X : Cx), AmbC T C.noLam W cf nf X → X.env.scope = s2 → X.N = Y0 → PE X be (tE T W cf nf b)) (hY : Y0 = X.N) :
    PE X (.Call (.Name x p) [.Lambda pa be s2 lp] [] pos) (tE T W cf nf (.met i m b)) := by
  obtain ⟨g1, g2, _⟩ := gl_of hs h2
  obtain ⟨g, fd, m1, kp, fD, hb, S⟩ := am.md x i fi h3 hmd
  obtain ⟨c, P, l1, l2, l3, l4⟩ := la.ex
  obtain ⟨lv, room, lam⟩ := la.am
  obtain ⟨oc, od, dV, kV, doc, pm, an, cdv, ct, sl, rfl, lk, co, _, _⟩ := fD.ex
  unfold parOk at hp
  split at hp
  rotate_left
  · cases hp
  rename_i d ap de hd
  obtain ⟨rfl, ⟨iv, hde⟩, hd2⟩ := parDef_eq hd
  rw [Bool.and_eq_true, decide_eq_true_eq] at hp
  have L : LamD X.env.scope s2 d := by rw [hs]; exact lamD_by hp.1
  have hdN : d ∉ X.N := by rw [← hY]; exact hp.2
  constructor
  intro pins s σ H Q I ⟨ρ, F, env, st, r, en, h⟩
  unfold evE at h
  apply wpAny_Call_Name_kw
  refine ld_glob I g1 m1 ?_ g2
  refine PySem.W.callWith_K (h₀ := X.base) I.ok.mod.kin kp ?_ (by rfl) (by rfl)
  show wpAny _ _ (spliced ((false, eval (.Lambda (parD d ap de) be s2 lp) X.env) :: backTo pos (starEach [] X.env))) _ _ s
  apply Calls.spliced_cons
  refine lam_mkD I r l2 l1 l3 l4 hde L fun f c' t0 dv doc' pm' ct' H1 F1 s1 I1 sF r1 of hfn hfr ot hnt htr hco => ?_
  refine Calls.spliced_nil ⟨I1.kIn, ?_⟩
  have bi : BindsTo s1 (PySem.W.fnOf fi.name fi.qual fi.pa fi.body fi.sc dV kV doc pm an cdv ct) ⟨[.ref f], []⟩ (fi.ps.zip [.ref f]) := by
    have hl : ([Value.ref f] ++ ([] : List Value)).length = fi.ps.length := by
      unfold okMet at ok
      split at ok
      · rename_i a ha; rw [ha]; rfl
      · cases ok
    exact hb s1 [.ref f] I1.kIn hl
  have ran : codeAny (model X.prog X.w) X.A (.call (.ref g) ⟨[.ref f], []⟩) (CR nCX X.stack X.prog X.w H1 s1 Q nE) s1 := by
    refine LamX.run_ofS (N := fi.N) (ps := fi.ps) (us := [.ref f]) (vs := [.ref f]) lk co S (room.mono (by omega) : Room (lv + 1 + 1) X.A) I1.env0 bi (.cons rfl .nil) ?_ fun room' => ?_
    · unfold okMet at ok
      split at ok
      · rename_i a ha; rw [ha]; rfl
      · cases ok
    · refine met_body (T := T) (W := W) (C := C) (cf := cf) (nf := nf) am ok S (f := f) (c' := c') (q := X.env.qual ++ "<lambda>") am.rm (r := evE cf nf b env st) (ρ := ρ) (F := F1) (tl := fun E G Q => tE T (wOf T.kc E) cf nf b σ G Q) (fun a ha hN hv n1 n2 Wm pn xe E p1 p2 tk hW => ?_) (fun E G Q Q' h i => tE_mono h i) hco (fun E Q' hk => ⟨ρ, F1, env, st, r1, en.mono (List.prefix_refl _) sF, hk⟩) (OkR.mono h (List.prefix_refl _) sF)
      exact act_okD (i := 0) I1 L hdN hd2 of hfn hfr ot hnt htr am.gd tk hW room' (fun A outer s H room2 gd => body T (wOf T.kc E) _ (lam X (Like.refl X) A outer s H E s2 f c' T.hid room2 gd) rfl hY.symm) hN hv n1 n2
  apply wpAny_call
  refine codeAny_mono ran fun res s3 hr => ?_
  match res, hr with
  | .error _, hr => exact hr.elim
  | .ok (.ret u), hr => exact I1.after hr
  | .ok .next, hr => exact hr.elim
  | .ok .brk, hr => exact hr.elim
  | .ok .cont, hr => exact hr.elim
end
end Ev
end

section
set_option Elab.async false
set_option linter.all false
set_option maxRecDepth 100000
set_option maxHeartbeats 4000000
/-! Ev17: each expression does what the evaluator tells. -/
namespace Ev
open PySem PySem.Spec PyProof.Rows L2
def isBoolE : Expr → Bool
  | .BoolOp .. => true
  | _ => false
theorem _root_.L2.PW.imp {X : Cx} {e : Expr} {t t' : TT} (h : PW X e t) (i : ∀ σ H Q, t' σ H Q → t σ H Q) : PW X e t' := ⟨fun w pins s σ H Q I q => h.run w pins s σ H Q I (i σ H Q q)⟩
section
variable (cf nf : CallF)
def SndE (a : Ex) : Prop := ∀ (T : Tab) (W : XW) (C : Ck) (X : Cx) (sc : Scope) (e : Expr), Amb T C W cf nf X → X.env.scope = sc → okE C X.N sc a e = true → PE X e (tE T W cf nf a) ∧ PT X e (tT T W cf nf a) ∧ (isBoolE e = true → PW X e (tT T W cf nf a))
end
section
variable {cf nf : CallF} {T : Tab} {W : XW} {C : Ck} {X : Cx} {sc : Scope}
theorem snd_plain {a : Ex} {e : Expr} (am : Amb T C W cf nf X) (hp : plainTest e = true) (hb : isBoolE e = false) (h : PE X e (tE T W cf nf a)) : PE X e (tE T W cf nf a) ∧ PT X e (tT T W cf nf a) ∧ (isBoolE e = true → PW X e (tT T W cf nf a)) :=
  ⟨h, t_gen am hp h, fun q => by rw [hb] at q; cases q⟩
theorem strC_con {a : Ex} (h : isConS a = true) : ∃ z, a = .con (.str z) := by
  unfold isConS at h
  split at h
  · exact ⟨_, rfl⟩
  · cases h
theorem snd_A : ∀ {as : List Ex} {xs : List Expr}, (∀ a ∈ as, SndE cf nf a) → Amb T C W cf nf X → X.env.scope = sc → okEs C X.N sc as xs = true → PA X xs (tA T W cf nf as)
  | [], [], _, _, _, _ => a_nil
  | [], _ :: _, _, _, _, h => by unfold okEs at h; cases h
  | _ :: _, [], _, _, _, h => by unfold okEs at h; cases h
  | a :: as, x :: xs, ih, am, hs, h => by
    unfold okEs at h
    simp only [Bool.and_eq_true, Bool.not_eq_true'] at h
    exact a_cons h.1.1 (ih a List.mem_cons_self T W C X sc x am hs h.1.2).1 (snd_A (fun b hb => ih b (List.mem_cons_of_mem _ hb)) am hs h.2)
theorem snd_F : ∀ {as : List Ex} {fl : List Bool} {xs : List Expr}, (∀ a ∈ as, SndE cf nf a) → Amb T C W cf nf X → X.env.scope = sc → okFs C X.N sc as fl xs = true → PA X xs (tF T W cf nf as fl)
  | [], _, [], _, _, _, _ => f_nil
  | [], _, _ :: _, _, _, _, h => by unfold okFs at h; cases h
  | _ :: _, _, [], _, _, _, h => by unfold okFs at h; cases h
  | a :: as, fl, x :: xs, ih, am, hs, h => by
    unfold okFs at h
    rw [Bool.and_eq_true] at h
    have r := snd_F (fl := fl.tail) (fun b hb => ih b (List.mem_cons_of_mem _ hb)) am hs h.2
    have h1 := h.1
    split at h1
    · rename_i hf
      simp only [Bool.and_eq_true, Bool.not_eq_true'] at h1
      exact f_cons hf h1.1 (ih a List.mem_cons_self T W C X sc x am hs h1.2).1 r
    · rename_i hf
      split at h1
      · rename_i y hy
        obtain ⟨p, rfl⟩ := asStar_eq hy
        exact f_star am hf (ih a List.mem_cons_self T W C X sc y am hs h1).1 r
      · cases h1
theorem okEs_at : ∀ {as : List Ex} {xs : List Expr} {N : List Str} {i : Nat} {x : Expr} {a : Ex}, okEs C N sc as xs = true → xs[i]? = some x → as[i]? = some a → okE C N sc a x = true
  | [], _, _, _, _, _, _, _, h => by simp at h
  | _ :: _, [], _, _, _, _, h, _, _ => by unfold okEs at h; cases h
  | a :: as, x :: xs, N, 0, y, b, h, h1, h2 => by
    unfold okEs at h
    simp only [Bool.and_eq_true] at h
    simp at h1 h2
    subst h1 h2
    exact h.1.2
  | a :: as, x :: xs, N, i + 1, y, b, h, h1, h2 => by
    unfold okEs at h
    simp only [Bool.and_eq_true] at h
    exact okEs_at (i := i) h.2 (by simpa using h1) (by simpa using h2)
theorem snd_P {p : Pos} : ∀ {es : List Ex} {ks : List (Option Expr)} {vs : List Expr}, (∀ a ∈ es, SndE cf nf a) → Amb T C W cf nf X → X.env.scope = sc → okPs C X.N sc es ks vs = true → es.length = 2 * ks.length ∧ ks.all (·.isSome) = true ∧ PPs X p ks vs (trsOf T W cf nf es)
  | [], [], [], _, _, _, _ => ⟨rfl, rfl, pps_nil⟩
  | [], _ :: _, _, _, _, _, h => by unfold okPs at h; cases h
  | [], [], _ :: _, _, _, _, h => by unfold okPs at h; cases h
  | [a], ks, vs, _, _, _, h => by
    unfold okPs at h
    split at h
    · unfold okPv at h; simp at h
    · cases h
  | a :: b :: es, ks, vs, ih, am, hs, h => by
    unfold okPs at h
    split at h
    · rename_i k ks
      rw [Bool.and_eq_true] at h
      obtain ⟨h1, h2⟩ := h
      cases vs with
      | nil => unfold okPv at h2; cases h2
      | cons v vs =>
        unfold okPv at h2
        rw [Bool.and_eq_true] at h2
        obtain ⟨q1, q2, q3⟩ := snd_P (p := p) (fun c hc => ih c (List.mem_cons_of_mem _ (List.mem_cons_of_mem _ hc))) am hs h2.2
        refine ⟨by simp only [List.length_cons]; simp only [List.tail_cons] at q1; omega, by rw [List.all_cons]; exact Bool.and_eq_true_iff.mpr ⟨rfl, q2⟩, ?_⟩
        exact pps_cons (ih a List.mem_cons_self T W C X sc k am hs h1).1 (ih b (List.mem_cons_of_mem _ List.mem_cons_self) T W C X sc v am hs h2.1).1 q3
    · cases h
theorem snd_J : ∀ {as : List Ex} {xs : List Expr}, (∀ a ∈ as, SndE cf nf a) → Amb T C W cf nf X → X.env.scope = sc → okJs C X.N sc as xs = true → ∃ fms : List Bool, fms.length = as.length ∧ (∀ p ∈ fms.zip as, p.1 = false → ∃ z, p.2 = .con (.str z)) ∧ PJ X xs ((fms.zip as).map fun p => tJ T W cf nf p.1 p.2)
  | [], [], _, _, _, _ => ⟨[], rfl, fun p h => by simp at h, .nil⟩
  | [], _ :: _, _, _, _, h => by unfold okJs at h; cases h
  | _ :: _, [], _, _, _, h => by unfold okJs at h; cases h
  | a :: as, x :: xs, ih, am, hs, h => by
    unfold okJs at h
    rw [Bool.and_eq_true] at h
    obtain ⟨fms, hl, hc, pj⟩ := snd_J (fun b hb => ih b (List.mem_cons_of_mem _ hb)) am hs h.2
    have h1 := h.1
    split at h1
    · rename_i y hy
      obtain ⟨p, rfl⟩ := asFmt_eq hy
      refine ⟨true :: fms, by simp [hl], fun q hq e => ?_, .cons (pe_fmt (ih a List.mem_cons_self T W C X sc y am hs h1).1) pj⟩
      rcases List.mem_cons.mp hq with rfl | hq
      · cases e
      · exact hc q hq e
    · rw [Bool.and_eq_true] at h1
      refine ⟨false :: fms, by simp [hl], fun q hq e => ?_, .cons (ih a List.mem_cons_self T W C X sc x am hs h1.2).1 pj⟩
      rcases List.mem_cons.mp hq with rfl | hq
      · exact strC_con h1.1
      · exact hc q hq e
theorem snd_O {as : List Ex} {o : Option Expr} (ih : ∀ a ∈ as, SndE cf nf a) (am : Amb T C W cf nf X) (hs : X.env.scope = sc) (h : okO C X.N sc as o = true) : PO X o (tO T W cf nf as) := by
  unfold okO at h
  split at h
  · exact o_none
  · exact o_some (ih _ List.mem_cons_self T W C X sc _ am hs h).1
  · cases h
theorem fold_plain {e : Expr} (h : isSetE e = false) (env : PySem.Env) (x : Value) : foldedSetIterable e env x = pure x := by
  cases e <;> first | rfl | cases h
theorem fold_call {g : Expr} {xs : List Expr} {ks : List Keyword} {p : Pos} (env : PySem.Env) (x : Value) : foldedSetIterable (.Call g xs ks p) env x = pure x := rfl
theorem tu_eq {tg : Tg} {y : Expr} (h : isTu tg y = true) : ∃ ts es k p, tg = .tu ts ∧ y = .Tuple es k p := by
  unfold isTu at h
  split at h
  · exact ⟨_, _, _, _, rfl, rfl⟩
  · cases h
theorem list1 {α : Type} {l : List α} (h : (l.length == 1) = true) : ∃ a, l = [a] := len1 (by simpa using h)
theorem list2 {α : Type} {l : List α} (h : (l.length == 2) = true) : ∃ a b, l = [a, b] := len2 (by simpa using h)
/-- what a loop or a comprehension walks -/
theorem snd_I {k : Ik} {tg : Tg} {y it : Expr} {es : List Ex} (ih : ∀ a ∈ es, SndE cf nf a) (am : Amb T C W cf nf X) (hs : X.env.scope = sc) (h : okI C sc k tg y es.length it = true) (h2 : okEs C X.N sc es (iterArgs k it) = true) : PI X y it (tI T W cf nf tg k es) ∧ ∀ v, foldedSetIterable it X.env v = pure v := by
  obtain ⟨st, hl⟩ := oks_star h2
  have ha := snd_A ih am hs h2
  cases k with
  | over =>
    unfold okI at h
    simp only [Bool.and_eq_true, Bool.not_eq_true'] at h
    obtain ⟨a, rfl⟩ := list1 h.2
    have h3 : okE C X.N sc a it = true := by
      unfold iterArgs at h2
      unfold okEs at h2
      simp only [Bool.and_eq_true] at h2
      exact h2.1.2
    exact ⟨i_over (ih a List.mem_cons_self T W C X sc it am hs h3).1, fun v => fold_plain h.1 _ v⟩
  | rng =>
    unfold okI at h
    simp only at h
    split at h
    · rename_i g xs p hc
      have e0 := asCall_eq hc
      subst e0
      simp only [Bool.and_eq_true, Bool.or_eq_true, decide_eq_true_eq] at h
      obtain ⟨⟨⟨h4, h5⟩, h6⟩, h7⟩ := h
      obtain ⟨q, rfl⟩ := asName_eq h4
      refine ⟨?_, fun v => rfl⟩
      have e1 : iterArgs .rng (.Call (.Name "range" q) xs [] p) = xs := rfl
      rw [e1] at st hl ha
      rcases h7 with h7 | h7
      · obtain ⟨a, rfl⟩ := list1 h7
        obtain ⟨x, rfl⟩ := len1 hl.symm
        exact i_rng1 am hs h5 (by simpa using h6) (by simpa using st) ha
      · obtain ⟨a, b, rfl⟩ := list2 h7
        obtain ⟨x, y, rfl⟩ := len2 hl.symm
        simp only [List.all_cons, List.all_nil, Bool.and_true, Bool.and_eq_true, Bool.not_eq_true'] at st
        exact i_rng2 am hs h5 (by simpa using h6) st.1 st.2 ha
    · cases h
  | enm =>
    unfold okI at h
    simp only at h
    split at h
    · rename_i g xs p hc
      have e0 := asCall_eq hc
      subst e0
      simp only [Bool.and_eq_true, decide_eq_true_eq] at h
      obtain ⟨⟨⟨⟨h4, h5⟩, h6⟩, h7⟩, h8⟩ := h
      obtain ⟨q, rfl⟩ := asName_eq h4
      refine ⟨?_, fun v => rfl⟩
      have e1 : iterArgs .enm (.Call (.Name "enumerate" q) xs [] p) = xs := rfl
      rw [e1] at st hl ha
      obtain ⟨ts, ys, kk, pp, rfl, rfl⟩ := tu_eq h8
      obtain ⟨a, rfl⟩ := list1 h7
      obtain ⟨x, rfl⟩ := len1 hl.symm
      exact i_enm am hs h5 (by simpa using h6) (by simpa using st) ha
    · cases h
  | zip =>
    unfold okI at h
    simp only at h
    split at h
    · rename_i g xs p hc
      have e0 := asCall_eq hc
      subst e0
      simp only [Bool.and_eq_true, decide_eq_true_eq] at h
      obtain ⟨⟨⟨⟨h4, h5⟩, h6⟩, h7⟩, h8⟩ := h
      obtain ⟨q, rfl⟩ := asName_eq h4
      refine ⟨?_, fun v => rfl⟩
      have e1 : iterArgs .zip (.Call (.Name "zip" q) xs [] p) = xs := rfl
      rw [e1] at st hl ha
      obtain ⟨ts, ys, kk, pp, rfl, rfl⟩ := tu_eq h8
      obtain ⟨a, b, rfl⟩ := list2 h7
      obtain ⟨x, y, rfl⟩ := len2 hl.symm
      simp only [List.all_cons, List.all_nil, Bool.and_true, Bool.and_eq_true, Bool.not_eq_true'] at st
      exact i_zip am hs h5 (by simpa using h6) st.1 st.2 ha
    · cases h
theorem relS_eq {scope : Scope} {cl : List (Str × Addr)} {B : Addr} : (compEnvC scope cl B X.env).scope = relS scope X.env.scope := rfl
theorem amb_blk (am : Amb T C W cf nf X) (s : Shared) (H : Hp) (scope : Scope) (ce : PySem.Env) (fp : List Addr) (hc : ce.code = X.env.code) (hq : ce.qual = X.env.qual) : Amb T C NW cf nf (X.blk s H scope ce fp) :=
  { toAmbC := by
      have a : AmbC T C.noLam NW cf nf (X.blk s H scope ce fp) := am.toAmbC.like ⟨rfl, rfl, rfl, rfl, rfl, rfl, rfl, rfl⟩ nw_wk
      exact a.on
    lam := fun z => ⟨by
      obtain ⟨c, P, h1, h2, h3, h4⟩ := (am.lam z).ex
      exact ⟨c, P, hc.trans h1, h2, by rw [show (X.blk s H scope ce fp).env.qual = X.env.qual from hq]; exact h3, fun p hp e => by rw [show (X.blk s H scope ce fp).env.qual = X.env.qual from hq]; exact h4 p hp e⟩, by
      obtain ⟨lv, r, k⟩ := (am.lam z).am
      have l0 : Like X (X.blk s H scope ce fp) := ⟨rfl, rfl, rfl, rfl, rfl, rfl, rfl, rfl⟩
      exact ⟨lv, r, fun Y lk => k Y (l0.trans lk)⟩⟩ }
theorem pe_ex {e : Expr} {x : Ex} (h : ∀ hd, PE X e (tE (T.re hd) NW cf nf x)) : PE X e (tEh T cf nf x) := ⟨fun pins s σ H Q I ⟨hd, q⟩ => (h hd).run pins s σ H Q I q⟩
theorem pt_ex {e : Expr} {x : Ex} (h : ∀ hd, PT X e (tT (T.re hd) NW cf nf x)) : PT X e (tTh T cf nf x) := ⟨fun pins s σ H Q I ⟨hd, q⟩ => (h hd).run pins s σ H Q I q⟩
theorem snd_comp {a : Ex} {tg : Tg} {k : Ik} {es cs : List Ex} {e : Expr} (ha : SndE cf nf a) (he : ∀ a ∈ es, SndE cf nf a) (hcs : ∀ a ∈ cs, SndE cf nf a) (am : Amb T C W cf nf X) (hs : X.env.scope = sc) (h : okE C X.N sc (.comp a tg k es cs) e = true) : PE X e (tE T W cf nf (.comp a tg k es cs)) ∧ plainTest e = true ∧ isBoolE e = false ∧
    ∀ {i : Nat} {y : Str} {py spos : Pos}, X.N[i]? = some y → X.env.scope.names.lookup y = some .local → swapsWith e (some (.Name y py)) spos.line X.env = pure true → PS X (.Assign [.Name y py] e spos) (tAsg (tE T W cf nf (.comp a tg k es cs)) (gName i)) := by
  unfold okE at h
  split at h
  · rename_i x y it ifs s2 hl
    obtain ⟨p, rfl⟩ := asLc_eq hl
    simp only [Bool.and_eq_true, List.all_eq_true, decide_eq_true_eq] at h
    obtain ⟨⟨⟨⟨⟨⟨⟨⟨h1, h2⟩, h3⟩, h4⟩, h5⟩, h6⟩, h7⟩, h8⟩, h9⟩ := h
    obtain ⟨i1, i2⟩ := snd_I he am hs h8 h9
    have hre : ∀ (B : Addr) (cl : List (Str × Addr)), (compEnvC s2 cl B X.env).scope = relS s2 sc := fun B cl => by rw [← hs]; rfl
    have hg : ∀ (s : Shared) (H : Hp) (B : Addr) (cl : List (Str × Addr)) (fp : List Addr), PG (X.blk s H s2 (compEnvC s2 cl B X.env) fp) y (gTg T tg) := fun s H B cl fp => g_tg (X := X.blk s H s2 (compEnvC s2 cl B X.env) fp) am.hT am.calm am.nd (hre B cl) rfl tg y h5
    have ht : ∀ (s : Shared) (H : Hp) (B : Addr) (cl : List (Str × Addr)) (fp : List Addr), PTs (X.blk s H s2 (compEnvC s2 cl B X.env) fp) ifs (tIfs T cf nf cs) := fun s H B cl fp => by
      cases cs with
      | nil =>
        cases ifs with
        | nil => exact pts_nil
        | cons _ _ => unfold okEs at h7; cases h7
      | cons c cs =>
        cases cs with
        | nil =>
          cases ifs with
          | nil => unfold okEs at h7; cases h7
          | cons i is =>
            unfold okEs at h7
            simp only [Bool.and_eq_true] at h7
            cases is with
            | cons _ _ => have := h7.2; unfold okEs at this; cases this
            | nil =>
              exact pts_one (pt_ex fun hd => (hcs c List.mem_cons_self (T.re hd) NW C (X.blk s H s2 (compEnvC s2 cl B X.env) fp) (relS s2 sc) i (amb_blk (am.re hd) _ _ _ _ _ rfl rfl) (hre B cl) h7.1.2).2.1)
        | cons _ _ => exact absurd h1 (by simp only [List.length_cons]; omega)
    have he2 : ∀ (s : Shared) (H : Hp) (B : Addr) (cl : List (Str × Addr)) (fp : List Addr), PE (X.blk s H s2 (compEnvC s2 cl B X.env) fp) x (tEh T cf nf a) := fun s H B cl fp => pe_ex fun hd => (ha (T.re hd) NW C (X.blk s H s2 (compEnvC s2 cl B X.env) fp) (relS s2 sc) x (amb_blk (am.re hd) _ _ _ _ _ rfl rfl) (hre B cl) h6).1
    have hc2 : cs = [] ∨ ∃ c, cs = [c] := by
      cases cs with
      | nil => exact .inl rfl
      | cons c cs =>
        cases cs with
        | nil => exact .inr ⟨c, rfl⟩
        | cons _ _ => exact absurd h1 (by simp only [List.length_cons]; omega)
    have ok : BlkOk X.N X.env.scope s2 (ownOf X.N s2) := by rw [hs]; exact blkOk_by h2
    exact ⟨e_comp am i1 ok hg ht he2 i2 h3 h4 hc2, rfl, rfl, fun q1 q2 q3 => s_comp am i1 ok hg ht he2 i2 h3 h4 hc2 q1 q2 q3⟩
  · cases h
theorem snd_compR {a v : Ex} {tg : Tg} {cs : List Ex} {e : Expr} (ha : SndE cf nf a) (hv : SndE cf nf v) (hcs : ∀ a ∈ cs, SndE cf nf a) (am : Amb T C W cf nf X) (hs : X.env.scope = sc) (h : okE C X.N sc (.compR a tg v cs) e = true) : PE X e (tE T W cf nf (.compR a tg v cs)) ∧ plainTest e = true ∧ isBoolE e = false ∧
    ∀ {i : Nat} {y : Str} {py spos : Pos}, X.N[i]? = some y → X.env.scope.names.lookup y = some .local → swapsWith e (some (.Name y py)) spos.line X.env = pure true → PS X (.Assign [.Name y py] e spos) (tAsg (tE T W cf nf (.compR a tg v cs)) (gName i)) := by
  unfold okE at h
  split at h
  · rename_i x y it ifs s2 hl
    obtain ⟨p, rfl⟩ := asLc_eq hl
    simp only [Bool.and_eq_true, List.all_eq_true, decide_eq_true_eq] at h
    obtain ⟨⟨⟨⟨⟨⟨⟨⟨h1, h2⟩, h3⟩, h4⟩, h5⟩, h6⟩, h7⟩, h8⟩, h9⟩ := h
    have i1 : PI X y it (tIR T W cf nf tg v) := i_own (hv T W C X sc it am hs h9).1
    have i2 : ∀ u, foldedSetIterable it X.env u = pure u := fun u => fold_plain (by simpa using h8) _ u
    have hre : ∀ (B : Addr) (cl : List (Str × Addr)), (compEnvC s2 cl B X.env).scope = relS s2 sc := fun B cl => by rw [← hs]; rfl
    have hg : ∀ (s : Shared) (H : Hp) (B : Addr) (cl : List (Str × Addr)) (fp : List Addr), PG (X.blk s H s2 (compEnvC s2 cl B X.env) fp) y (gTg T tg) := fun s H B cl fp => g_tg (X := X.blk s H s2 (compEnvC s2 cl B X.env) fp) am.hT am.calm am.nd (hre B cl) rfl tg y h5
    have ht : ∀ (s : Shared) (H : Hp) (B : Addr) (cl : List (Str × Addr)) (fp : List Addr), PTs (X.blk s H s2 (compEnvC s2 cl B X.env) fp) ifs (tIfs T cf nf cs) := fun s H B cl fp => by
      cases cs with
      | nil =>
        cases ifs with
        | nil => exact pts_nil
        | cons _ _ => unfold okEs at h7; cases h7
      | cons c cs =>
        cases cs with
        | nil =>
          cases ifs with
          | nil => unfold okEs at h7; cases h7
          | cons i is =>
            unfold okEs at h7
            simp only [Bool.and_eq_true] at h7
            cases is with
            | cons _ _ => have := h7.2; unfold okEs at this; cases this
            | nil =>
              exact pts_one (pt_ex fun hd => (hcs c List.mem_cons_self (T.re hd) NW C (X.blk s H s2 (compEnvC s2 cl B X.env) fp) (relS s2 sc) i (amb_blk (am.re hd) _ _ _ _ _ rfl rfl) (hre B cl) h7.1.2).2.1)
        | cons _ _ => exact absurd h1 (by simp only [List.length_cons]; omega)
    have he2 : ∀ (s : Shared) (H : Hp) (B : Addr) (cl : List (Str × Addr)) (fp : List Addr), PE (X.blk s H s2 (compEnvC s2 cl B X.env) fp) x (tEh T cf nf a) := fun s H B cl fp => pe_ex fun hd => (ha (T.re hd) NW C (X.blk s H s2 (compEnvC s2 cl B X.env) fp) (relS s2 sc) x (amb_blk (am.re hd) _ _ _ _ _ rfl rfl) (hre B cl) h6).1
    have hc2 : cs = [] ∨ ∃ c, cs = [c] := by
      cases cs with
      | nil => exact .inl rfl
      | cons c cs =>
        cases cs with
        | nil => exact .inr ⟨c, rfl⟩
        | cons _ _ => exact absurd h1 (by simp only [List.length_cons]; omega)
    have ok : BlkOk X.N X.env.scope s2 (ownOf X.N s2) := by rw [hs]; exact blkOk_by h2
    exact ⟨e_compR am i1 ok hg ht he2 i2 h3 h4 hc2, rfl, rfl, fun q1 q2 q3 => s_compR am i1 ok hg ht he2 i2 h3 h4 hc2 q1 q2 q3⟩
  · cases h
theorem t_ife {c a b : Expr} {x y z : Ex} {p : Pos} (h1 : PT X c (tT T W cf nf x)) (h2 : PT X a (tT T W cf nf y)) (h3 : PT X b (tT T W cf nf z)) : PT X (.IfExp c a b p) (tT T W cf nf (.ife x y z)) := by
  refine ⟨fun pins s σ H Q I ⟨ρ, F, env, st, r, en, h⟩ => ?_⟩
  refine isTrue_IfExp (thn (h1.run pins s σ H (fun k H1 => if k = true then tT T W cf nf y σ H1 Q else tT T W cf nf z σ H1 Q) I ?_) fun k s1 ⟨H1, I1, q⟩ => ?_)
  · unfold evE at h
    refine seqT r en h fun ρ1 F1 H1 st1 u p1 s1 r1 en1 h1 => ?_
    split at h1
    · rename_i e
      exact ⟨true, e, by rw [if_pos rfl]; exact ⟨ρ1, F1, env, st1, r1, en1, h1⟩⟩
    · rename_i e
      exact ⟨false, e, by rw [if_neg (by decide)]; exact ⟨ρ1, F1, env, st1, r1, en1, h1⟩⟩
    · exact h1.elim
  · cases k with
    | true => exact h2.run pins s1 σ H1 Q I1 q
    | false => exact h3.run pins s1 σ H1 Q I1 q
theorem con_plain {e : Expr} {y : PyData} (h : conD e = some y) : plainTest e = true ∧ isBoolE e = false := by
  cases e <;> first | exact ⟨rfl, rfl⟩ | cases h
theorem dnew_plain {e : Expr} (h : isD0 e = true) : ∃ p, e = .Dict [] [] p := isD0_eq h
mutual
theorem snd_E : ∀ a : Ex, SndE cf nf a
  | .spl t fl es => fun T W C X sc e am hs h => by
    unfold okE at h
    cases t with
    | true =>
      simp only at h
      split at h
      · rename_i xs hx
        obtain ⟨k, p, rfl⟩ := asTup_eq hx
        exact snd_plain am rfl rfl (e_tupF (snd_F (snd_Es es) am hs h))
      · cases h
    | false =>
      simp only at h
      split at h
      · rename_i xs hx
        obtain ⟨p, rfl⟩ := asLst_eq hx
        exact snd_plain am rfl rfl (e_lstF (snd_F (snd_Es es) am hs h))
      · cases h
  | .met i m b => fun T W C X sc e am hs h => by
    unfold okE at h
    split at h
    · rename_i g l p hc
      have e0 := asCall_eq hc
      subst e0
      split at h
      · rename_i x pa be s2 hg hl
        obtain ⟨q, rfl⟩ := asName_eq hg
        obtain ⟨lp, rfl⟩ := asLam_eq hl
        simp only [Bool.and_eq_true] at h
        obtain ⟨⟨⟨⟨⟨h1, h2⟩, h3⟩, h4⟩, h5⟩, h7⟩ := h
        rw [Bool.or_eq_true, Bool.and_eq_true] at h5
        split at h4
        · rename_i fi hf
          rcases h5 with ⟨h5, h6⟩ | h5
          rotate_left
          · exact snd_plain am rfl rfl (e_metD am.toAmbC (am.lam h3) hs h1 (isGE_eq h2) hf h4 h5 (fun T W Y am' hs' hN => (snd_E b T W C.noLam Y s2 be am'.plain hs' (by rw [hN]; exact h7)).1) rfl)
          exact snd_plain am rfl rfl (e_met am.toAmbC (am.lam h3) hs h1 (isGE_eq h2) hf h4 h5 h6 (fun T W Y am' hs' hN => (snd_E b T W C.noLam Y s2 be am'.plain hs' (by rw [hN]; exact h7)).1) rfl)
        · cases h4
      · cases h
    · cases h
  | .prop k o cs => fun T W C X sc e am hs h => by
    unfold okE at h
    rw [Bool.and_eq_true] at h
    obtain ⟨hm, h⟩ := h
    cases k with
    | get n =>
      simp only at h
      split at h
      · rename_i x m q hx
        have e1 := asAttr_eq hx
        subst e1
        simp only [Bool.and_eq_true] at h
        obtain ⟨⟨h1, h2⟩, h3⟩ := h
        have e2 : m = n := eq_of_beq h1
        subst e2
        exact snd_plain am rfl rfl (e_get am h2 hm (snd_E o T W C X sc x am hs h3).1)
      · cases h
    | len =>
      simp only at h
      split at h
      · rename_i g x p hx
        have e0 := asCall_eq hx
        subst e0
        simp only [Bool.and_eq_true, decide_eq_true_eq, Bool.not_eq_true'] at h
        obtain ⟨⟨⟨⟨h1, h2⟩, h3⟩, h4⟩, h5⟩ := h
        obtain ⟨q, rfl⟩ := asName_eq h1
        exact snd_plain am rfl rfl (e_len am hs hm h2 (by simpa using h3) h4 (snd_E o T W C X sc x am hs h5).1)
      · cases h
    | str =>
      simp only at h
      split at h
      · rename_i g x p hx
        have e0 := asCall_eq hx
        subst e0
        simp only [Bool.and_eq_true, decide_eq_true_eq, Bool.not_eq_true'] at h
        obtain ⟨⟨⟨⟨h1, h2⟩, h3⟩, h4⟩, h5⟩ := h
        obtain ⟨q, rfl⟩ := asName_eq h1
        exact snd_plain am rfl rfl (e_str am hs hm h2 (by simpa using h3) h4 (snd_E o T W C X sc x am hs h5).1)
      · cases h
    | eq => cases h
    | ne => cases h
  | .eqo ne a b cs => fun T W C X sc e am hs h => by
    unfold okE at h
    rw [Bool.and_eq_true] at h
    obtain ⟨hm, h⟩ := h
    split at h
    · rename_i x o y hx
      obtain ⟨p, rfl⟩ := asCmp_eq hx
      simp only [Bool.and_eq_true, decide_eq_true_eq, Bool.not_eq_true'] at h
      obtain ⟨⟨⟨h0, h1⟩, h2⟩, h3⟩ := h
      subst h0
      obtain ⟨q1, q2⟩ := e_eqo (p := p) am hm h1 (snd_E a T W C X sc x am hs h2).1 (snd_E b T W C X sc y am hs h3).1
      exact ⟨q1, q2, fun q => by cases q⟩
    · cases h
  | .trng t es => fun T W C X sc e am hs h => by
    unfold okE at h
    split at h
    · rename_i g it p hx
      have e0 := asCall_eq hx
      subst e0
      simp only [Bool.and_eq_true] at h
      obtain ⟨⟨⟨h1, h2⟩, h3⟩, h4⟩ := h
      obtain ⟨q, rfl⟩ := asName_eq (of_decide_eq_true h1)
      split at h4
      · rename_i g2 xs p2 hy
        have e1 := asCall_eq hy
        subst e1
        simp only [Bool.and_eq_true, Bool.or_eq_true, beq_iff_eq] at h4
        obtain ⟨⟨⟨⟨h5, h6⟩, h7⟩, h8⟩, h9⟩ := h4
        obtain ⟨q2, rfl⟩ := asName_eq (of_decide_eq_true h5)
        obtain ⟨s1, s2⟩ := oks_star h9
        exact snd_plain am (by rfl) rfl (e_trng am hs h2 h3 h6 h7 h8 s1 s2 fun i e a e1 e2 => (snd_Es es a (List.mem_of_getElem? e2) T W C X sc e am hs (okEs_at h9 e1 e2)).1)
      · cases h4
    · cases h
  | .dkLe j i g c => fun T W C X sc e am hs h => by
    have q := e_dkLe am hs h
    unfold okE at h
    split at h
    · rename_i x y it tst s2 hl
      obtain ⟨p, rfl⟩ := asLc_eq hl
      exact snd_plain am rfl rfl q
    · cases h
  | .zipL es => fun T W C X sc e am hs h => by
    unfold okE at h
    split at h
    · rename_i g it p hx
      have e0 := asCall_eq hx
      subst e0
      simp only [Bool.and_eq_true, decide_eq_true_eq] at h
      obtain ⟨⟨⟨h1, h2⟩, h3⟩, h4⟩ := h
      obtain ⟨q, rfl⟩ := asName_eq h1
      split at h4
      · rename_i k xs p2 hx2
        have e1 := asCall_eq hx2
        subst e1
        simp only [Bool.and_eq_true, beq_iff_eq] at h4
        obtain ⟨⟨⟨⟨h5, h6⟩, h7⟩, h8⟩, h9⟩ := h4
        obtain ⟨q2, rfl⟩ := asName_eq (of_decide_eq_true h5)
        obtain ⟨s1, s2⟩ := oks_star h9
        have hA := snd_A (snd_Es es) am hs h9
        obtain ⟨x, y, rfl⟩ := len2 h8
        obtain ⟨a, b, rfl⟩ := len2 (s2.trans h8)
        simp only [List.all_cons, List.all_nil, Bool.and_true, Bool.and_eq_true, Bool.not_eq_true'] at s1
        exact snd_plain am rfl rfl (e_zipL am hs h2 (by simpa using h3) h6 h7 s1.1 s1.2 hA)
      · cases h4
    · cases h
  | .compR a tg v cs => fun T W C X sc e am hs h => by
    obtain ⟨q1, q2, q3, _⟩ := snd_compR (snd_E a) (snd_E v) (snd_Es cs) am hs h
    exact snd_plain am q2 q3 q1
  | .srtL a => fun T W C X sc e am hs h => by
    unfold okE at h
    split at h
    · rename_i g x n k hx
      obtain ⟨p, p2, rfl⟩ := asKey_eq hx
      simp only [Bool.and_eq_true, decide_eq_true_eq, Bool.not_eq_true'] at h
      obtain ⟨⟨⟨⟨⟨⟨⟨⟨h1, h2⟩, h3⟩, h4⟩, h5⟩, h6⟩, h7⟩, h8⟩, h9⟩ := h
      obtain ⟨q, rfl⟩ := asName_eq h1
      obtain ⟨q2, rfl⟩ := asName_eq h5
      subst h4
      exact snd_plain am rfl rfl (e_srtL am hs h2 (by simpa using h3) h6 (by simpa using h7) h8 (snd_E a T W C X sc x am hs h9).1)
    · cases h
  | .minN a => fun T W C X sc e am hs h => by
    unfold okE at h
    split at h
    · rename_i g x n k hx
      obtain ⟨p, p2, rfl⟩ := asKey_eq hx
      simp only [Bool.and_eq_true, decide_eq_true_eq, Bool.not_eq_true'] at h
      obtain ⟨⟨⟨⟨⟨⟨h1, h2⟩, h3⟩, h4⟩, h5⟩, h6⟩, h7⟩ := h
      obtain ⟨q, rfl⟩ := asName_eq h1
      subst h4
      exact snd_plain am rfl rfl (e_minN am hs h2 (by simpa using h3) (isNoneE_eq h5) h6 (snd_E a T W C X sc x am hs h7).1)
    · cases h
  | .callS f fl as => fun T W C X sc e am hs h => by
    unfold okE at h
    split at h
    · rename_i g xs p hx
      have e0 := asCall_eq hx
      subst e0
      split at h
      · rename_i m hm
        obtain ⟨q, rfl⟩ := asName_eq hm
        simp only [Bool.and_eq_true] at h
        obtain ⟨⟨⟨h1, h2⟩, h3⟩, h4⟩ := h
        cases xs with
        | nil => cases h4
        | cons x xs =>
          cases xs with
          | nil => cases h4
          | cons y xs => exact snd_plain am rfl rfl (e_callS am hs h1 (isGE_eq h2) h4 (snd_F (snd_Es as) am hs h3))
      · cases h
    · cases h
  | .dct es => fun T W C X sc e am hs h => by
    unfold okE at h
    split at h
    · rename_i ks vs hx
      obtain ⟨p, rfl⟩ := asDict_eq hx
      simp only [Bool.and_eq_true, decide_eq_true_eq] at h
      obtain ⟨⟨⟨h1, h2⟩, h3⟩, h4⟩ := h
      obtain ⟨q1, q2, q3⟩ := snd_P (p := p) (snd_Es es) am hs h4
      exact snd_plain am rfl rfl (e_dct q1 q2 h1 (fun z => by rw [z] at h2; cases h2) h3 q3)
    · cases h
  | .fstr es => fun T W C X sc e am hs h => by
    unfold okE at h
    split at h
    · rename_i vs hx
      obtain ⟨p, rfl⟩ := asJs_eq hx
      rw [Bool.and_eq_true] at h
      obtain ⟨fms, hl, hc, pj⟩ := snd_J (snd_Es es) am hs h.2
      cases vs with
      | nil => exact absurd h.1 (by simp)
      | cons v1 vs =>
        cases vs with
        | nil => exact absurd h.1 (by simp)
        | cons v2 rest => exact snd_plain am rfl rfl (e_fstr hl hc pj)
    · cases h
  | .con x => fun T W C X sc e am hs h => by
    unfold okE at h
    split at h
    · rename_i y hy
      obtain ⟨p1, p2⟩ := con_plain hy
      exact snd_plain am p1 p2 (e_con hy h)
    · cases h
  | .glo n x => fun T W C X sc e am hs h => by
    unfold okE at h
    split at h
    · rename_i m g hm hg
      obtain ⟨p, rfl⟩ := asName_eq hm
      simp only [Bool.and_eq_true] at h
      exact snd_plain am rfl rfl (e_glo am hs hg h.1.2 (isGE_eq h.2) n)
    · cases h
  | .gtu n l => fun T W C X sc e am hs h => by
    unfold okE at h
    split at h
    · rename_i m hm
      obtain ⟨p, rfl⟩ := asName_eq hm
      simp only [Bool.and_eq_true] at h
      exact snd_plain am rfl rfl (e_gtu am hs h.1.2 (isGE_eq h.2) n)
    · cases h
  | .var i => fun T W C X sc e am hs h => by
    unfold okE at h
    split at h
    · rename_i m hm
      obtain ⟨p, rfl⟩ := asName_eq hm
      simp only [Bool.and_eq_true, decide_eq_true_eq, Bool.not_eq_true'] at h
      exact snd_plain am rfl rfl (e_var hs h.1.1.1 h.1.1.2 h.1.2 h.2)
    · cases h
  | .tup es => fun T W C X sc e am hs h => by
    unfold okE at h
    split at h
    · rename_i xs hx
      obtain ⟨k, p, rfl⟩ := asTup_eq hx
      exact snd_plain am rfl rfl (e_tup (snd_A (snd_Es es) am hs h))
    · cases h
  | .lst es => fun T W C X sc e am hs h => by
    unfold okE at h
    split at h
    · rename_i xs hx
      obtain ⟨p, rfl⟩ := asLst_eq hx
      exact snd_plain am rfl rfl (e_lst (snd_A (snd_Es es) am hs h))
    · cases h
  | .dnew t => fun T W C X sc e am hs h => by
    unfold okE at h
    obtain ⟨p, rfl⟩ := isD0_eq h
    exact snd_plain am rfl rfl (e_dnew t)
  | .bin op a b => fun T W C X sc e am hs h => by
    unfold okE at h
    split at h
    · rename_i x o y hx
      obtain ⟨p, rfl⟩ := asBin_eq hx
      simp only [Bool.and_eq_true, decide_eq_true_eq] at h
      obtain ⟨⟨rfl, h1⟩, h2⟩ := h
      exact snd_plain am rfl rfl (e_bin am (snd_E a T W C X sc x am hs h1).1 (snd_E b T W C X sc y am hs h2).1)
    · cases h
  | .un op a => fun T W C X sc e am hs h => by
    unfold okE at h
    split at h
    · rename_i o x hx
      obtain ⟨p, rfl⟩ := asUn_eq hx
      simp only [Bool.and_eq_true, decide_eq_true_eq] at h
      obtain ⟨rfl, h1⟩ := h
      exact snd_plain am (by cases op <;> rfl) rfl (e_un (snd_E a T W C X sc x am hs h1).1)
    · cases h
  | .cmp op a b => fun T W C X sc e am hs h => by
    unfold okE at h
    split at h
    · rename_i x o y hx
      obtain ⟨p, rfl⟩ := asCmp_eq hx
      simp only [Bool.and_eq_true, decide_eq_true_eq, Bool.not_eq_true'] at h
      obtain ⟨⟨⟨rfl, h0⟩, h1⟩, h2⟩ := h
      obtain ⟨q1, q2⟩ := e_cmp (p := p) am h0 (snd_E a T W C X sc x am hs h1).1 (snd_E b T W C X sc y am hs h2).1
      exact ⟨q1, q2, fun q => by cases q⟩
    · cases h
  | .chain o1 o2 a b c => fun T W C X sc e am hs h => by
    unfold okE at h
    split at h
    · rename_i x p1 p2 y z hx
      obtain ⟨p, rfl⟩ := asCmp_eq hx
      simp only [Bool.and_eq_true, decide_eq_true_eq, Bool.not_eq_true'] at h
      obtain ⟨⟨⟨⟨⟨rfl, rfl⟩, h0⟩, h1⟩, h2⟩, h3⟩ := h
      obtain ⟨q1, q2⟩ := e_chain (p := p) am h0 (snd_E a T W C X sc x am hs h1).1 (snd_E b T W C X sc y am hs h2).1 (snd_E c T W C X sc z am hs h3).1
      exact ⟨q1, q2, fun q => by cases q⟩
    · cases h
  | .and_ a b => fun T W C X sc e am hs h => by
    unfold okE at h
    split at h
    · rename_i x y p hx
      have e0 := asBool_eq hx
      subst e0
      rw [Bool.and_eq_true] at h
      obtain ⟨a1, a2, _⟩ := snd_E a T W C X sc x am hs h.1
      obtain ⟨b1, b2, _⟩ := snd_E b T W C X sc y am hs h.2
      have q : PW X (.BoolOp .And [x, y] p) (tT T W cf nf (.and_ a b)) := (pw_and a2 (pw_and1 b2)).imp fun σ H Q => tT_and
      exact ⟨e_and am a1 (pe_one b1), q.pt, fun _ => q⟩
    · rename_i x y z r p hx
      have e0 := asBool_eq hx
      subst e0
      rw [Bool.and_eq_true] at h
      obtain ⟨a1, a2, _⟩ := snd_E a T W C X sc x am hs h.1
      obtain ⟨b1, b2, b3⟩ := snd_E b T W C X sc _ am hs h.2
      have q : PW X (.BoolOp .And (x :: y :: z :: r) p) (tT T W cf nf (.and_ a b)) := (pw_and a2 (b3 rfl)).imp fun σ H Q => tT_and
      exact ⟨e_and am a1 b1, q.pt, fun _ => q⟩
    · cases h
  | .or_ a b => fun T W C X sc e am hs h => by
    unfold okE at h
    split at h
    · rename_i x y p hx
      have e0 := asBool_eq hx
      subst e0
      rw [Bool.and_eq_true] at h
      obtain ⟨a1, a2, _⟩ := snd_E a T W C X sc x am hs h.1
      obtain ⟨b1, b2, _⟩ := snd_E b T W C X sc y am hs h.2
      have q : PW X (.BoolOp .Or [x, y] p) (tT T W cf nf (.or_ a b)) := (pw_or a2 (pw_or1 b2)).imp fun σ H Q => tT_or
      exact ⟨e_or am a1 (pe_one b1), q.pt, fun _ => q⟩
    · rename_i x y z r p hx
      have e0 := asBool_eq hx
      subst e0
      rw [Bool.and_eq_true] at h
      obtain ⟨a1, a2, _⟩ := snd_E a T W C X sc x am hs h.1
      obtain ⟨b1, b2, b3⟩ := snd_E b T W C X sc _ am hs h.2
      have q : PW X (.BoolOp .Or (x :: y :: z :: r) p) (tT T W cf nf (.or_ a b)) := (pw_or a2 (b3 rfl)).imp fun σ H Q => tT_or
      exact ⟨e_or am a1 b1, q.pt, fun _ => q⟩
    · cases h
  | .not_ a => fun T W C X sc e am hs h => by
    unfold okE at h
    split at h
    · rename_i x hx
      obtain ⟨p, rfl⟩ := asUn_eq hx
      obtain ⟨a1, a2, _⟩ := snd_E a T W C X sc x am hs h
      exact ⟨e_not am a1, (pt_not a2).imp fun σ H Q => tT_not, fun q => by cases q⟩
    · cases h
  | .ife c a b => fun T W C X sc e am hs h => by
    unfold okE at h
    split at h
    · rename_i x y z hx
      obtain ⟨p, rfl⟩ := asIf_eq hx
      simp only [Bool.and_eq_true] at h
      obtain ⟨c1, c2, _⟩ := snd_E c T W C X sc x am hs h.1.1
      obtain ⟨a1, a2, _⟩ := snd_E a T W C X sc y am hs h.1.2
      obtain ⟨b1, b2, _⟩ := snd_E b T W C X sc z am hs h.2
      exact ⟨e_ife c2 a1 b1, t_ife c2 a2 b2, fun q => by cases q⟩
    · cases h
  | .idx a b => fun T W C X sc e am hs h => by
    unfold okE at h
    split at h
    · rename_i x y hx
      obtain ⟨p, rfl⟩ := asSub_eq hx
      simp only [Bool.and_eq_true, Bool.not_eq_true'] at h
      exact snd_plain am rfl rfl (e_idx am h.1.1 (snd_E a T W C X sc x am hs h.1.2).1 (snd_E b T W C X sc y am hs h.2).1)
    · cases h
  | .slc a lo hi => fun T W C X sc e am hs h => by
    unfold okE at h
    split at h
    · rename_i x s hx
      obtain ⟨p, rfl⟩ := asSub_eq hx
      split at h
      · rename_i l u hsl
        obtain ⟨p2, rfl⟩ := asSlice_eq hsl
        simp only [Bool.and_eq_true] at h
        exact snd_plain am rfl rfl (e_slc am (snd_E a T W C X sc x am hs h.1.1).1 (snd_O (snd_Es lo) am hs h.1.2) (snd_O (snd_Es hi) am hs h.2))
      · cases h
    · cases h
  | .call f as => fun T W C X sc e am hs h => by
    unfold okE at h
    split at h
    · rename_i g xs p hx
      have e0 := asCall_eq hx
      subst e0
      split at h
      · rename_i m hm
        obtain ⟨p2, rfl⟩ := asName_eq hm
        simp only [Bool.and_eq_true] at h
        obtain ⟨s1, s2⟩ := oks_star h.2
        exact snd_plain am rfl rfl (e_call am hs h.1.1 (isGE_eq h.1.2) s1 s2 (snd_A (snd_Es as) am hs h.2))
      · cases h
    · cases h
  | .new c as => fun T W C X sc e am hs h => by
    unfold okE at h
    split at h
    · rename_i g xs p hx
      have e0 := asCall_eq hx
      subst e0
      split at h
      · rename_i m hm
        obtain ⟨p2, rfl⟩ := asName_eq hm
        simp only [Bool.and_eq_true] at h
        obtain ⟨s1, s2⟩ := oks_star h.2
        exact snd_plain am rfl rfl (e_new am hs h.1.1 (isGE_eq h.1.2) s1 s2 (snd_A (snd_Es as) am hs h.2))
      · cases h
    · cases h
  | .bi b as => fun T W C X sc e am hs h => by
    unfold okE at h
    split at h
    · rename_i g xs p hx
      have e0 := asCall_eq hx
      subst e0
      split at h
      · rename_i m hm
        obtain ⟨p2, rfl⟩ := asName_eq hm
        simp only [Bool.and_eq_true] at h
        obtain ⟨⟨⟨⟨⟨h1, h2⟩, h3⟩, h4⟩, h5⟩, h6⟩ := h
        obtain ⟨s1, s2⟩ := oks_star h6
        have e1 : m = biN b := eq_of_beq h1
        subst e1
        cases xs with
        | nil => cases h5
        | cons x xs => exact snd_plain am rfl rfl (e_bi am hs h2 h3 h4 s1 (snd_A (snd_Es as) am hs h6))
      · cases h
    · cases h
  | .mt m o as => fun T W C X sc e am hs h => by
    unfold okE at h
    split at h
    · rename_i g xs p hx
      have e0 := asCall_eq hx
      subst e0
      split at h
      · rename_i x n q hm
        have e1 := asAttr_eq hm
        subst e1
        simp only [Bool.and_eq_true, decide_eq_true_eq] at h
        obtain ⟨⟨⟨⟨⟨h1, h2⟩, h3⟩, h4⟩, h5⟩, h6⟩ := h
        obtain ⟨s1, s2⟩ := oks_star h6
        have e1 : n = mtN m := eq_of_beq h1
        subst e1
        exact snd_plain am rfl rfl (e_mt am h2 h3 h4 s1 s2 (snd_E o T W C X sc x am hs h5).1 (snd_A (snd_Es as) am hs h6))
      · cases h
    · cases h
  | .fld o cs => fun T W C X sc e am hs h => by
    unfold okE at h
    split at h
    · rename_i x n q hm
      have e1 := asAttr_eq hm
      subst e1
      simp only [Bool.and_eq_true] at h
      exact snd_plain am rfl rfl (e_fld am h.1.1 h.1.2 (snd_E o T W C X sc x am hs h.2).1)
    · cases h
  | .isi a ts => fun T W C X sc e am hs h => by
    unfold okE at h
    split at h
    · rename_i g x t p hx
      have e0 := asCall_eq hx
      subst e0
      simp only [Bool.and_eq_true, decide_eq_true_eq, Bool.not_eq_true'] at h
      obtain ⟨⟨⟨⟨⟨⟨h1, h2⟩, h3⟩, h4⟩, h5⟩, h6⟩, h7⟩ := h
      obtain ⟨q, rfl⟩ := asName_eq h1
      cases ts with
      | nil => unfold isiOk at h6; cases h6
      | cons ty ts =>
        cases ts with
        | cons _ _ => unfold isiOk at h6; cases h6
        | nil => exact snd_plain am rfl rfl (e_isi am hs h2 (by simpa using h3) h4 h5 h6 (snd_E a T W C X sc x am hs h7).1)
    · cases h
  | .comp a tg k es cs => fun T W C X sc e am hs h => by
    obtain ⟨q1, q2, q3, _⟩ := snd_comp (snd_E a) (snd_Es es) (snd_Es cs) am hs h
    exact snd_plain am q2 q3 q1
  termination_by structural a => a
theorem snd_Es : ∀ as : List Ex, ∀ a ∈ as, SndE cf nf a
  | [] => fun a h => by cases h
  | b :: bs => fun a h => by
    have q1 := snd_E b
    have q2 := snd_Es bs
    rcases List.mem_cons.mp h with e | h
    · rw [e]; exact q1
    · exact q2 a h
  termination_by structural as => as
end
end
end Ev
end

section
set_option Elab.async false
set_option linter.all false
set_option maxRecDepth 100000
set_option maxHeartbeats 4000000
/-! Ev18: statements: the look at them. -/
namespace Ev
open PySem PySem.Spec PyProof.Rows L2
def asAsg : Stmt → Option (Expr × Expr × Pos)
  | .Assign [t] v p => some (t, v, p)
  | _ => none
theorem asAsg_eq {s : Stmt} {t v : Expr} {p : Pos} (h : asAsg s = some (t, v, p)) : s = .Assign [t] v p := by
  unfold asAsg at h
  split at h
  · cases h; rfl
  · cases h
def asAug : Stmt → Option (Expr × Operator × Expr × Pos)
  | .AugAssign t o v p => some (t, o, v, p)
  | _ => none
theorem asAug_eq {s : Stmt} {t v : Expr} {o : Operator} {p : Pos} (h : asAug s = some (t, o, v, p)) : s = .AugAssign t o v p := by
  unfold asAug at h
  split at h
  · cases h; rfl
  · cases h
def asRaise : Stmt → Option (Str × Pos × Expr × Pos × Pos)
  | .Raise (some (.Call (.Name n p) [x] [] q)) none r => some (n, p, x, q, r)
  | _ => none
theorem asRaise_eq {s : Stmt} {n : Str} {p q r : Pos} {x : Expr} (h : asRaise s = some (n, p, x, q, r)) : s = .Raise (some (.Call (.Name n p) [x] [] q)) none r := by
  unfold asRaise at h
  split at h
  · cases h; rfl
  · cases h
def asEx : Stmt → Option (Expr × Pos)
  | .Expr v p => some (v, p)
  | _ => none
theorem asEx_eq {s : Stmt} {v : Expr} {p : Pos} (h : asEx s = some (v, p)) : s = .Expr v p := by
  unfold asEx at h
  split at h
  · cases h; rfl
  · cases h
def asRet : Stmt → Option (Option Expr)
  | .Return v _ => some v
  | _ => none
theorem asRet_eq {s : Stmt} {v : Option Expr} (h : asRet s = some v) : ∃ p, s = .Return v p := by
  unfold asRet at h
  split at h
  · cases h; exact ⟨_, rfl⟩
  · cases h
def asIfS : Stmt → Option (Expr × List Stmt × List Stmt)
  | .If c a b _ => some (c, a, b)
  | _ => none
theorem asIfS_eq {s : Stmt} {c : Expr} {a b : List Stmt} (h : asIfS s = some (c, a, b)) : ∃ p, s = .If c a b p := by
  unfold asIfS at h
  split at h
  · cases h; exact ⟨_, rfl⟩
  · cases h
def asWhl : Stmt → Option (Expr × List Stmt)
  | .While c a [] _ => some (c, a)
  | _ => none
theorem asWhl_eq {s : Stmt} {c : Expr} {a : List Stmt} (h : asWhl s = some (c, a)) : ∃ p, s = .While c a [] p := by
  unfold asWhl at h
  split at h
  · cases h; exact ⟨_, rfl⟩
  · cases h
def asForS : Stmt → Option (Expr × Expr × List Stmt)
  | .For t i b [] _ => some (t, i, b)
  | _ => none
theorem asForS_eq {s : Stmt} {t i : Expr} {a : List Stmt} (h : asForS s = some (t, i, a)) : ∃ p, s = .For t i a [] p := by
  unfold asForS at h
  split at h
  · cases h; exact ⟨_, rfl⟩
  · cases h
def isPass : Stmt → Bool
  | .Pass _ => true
  | _ => false
def isBrk : Stmt → Bool
  | .Break _ => true
  | _ => false
def isCont : Stmt → Bool
  | .Continue _ => true
  | _ => false

/-! ### the odd ways of an assignment -/
def blockK (sc : Scope) : ScopeKind := if sc.kind.isAnnotationScope then .function else sc.kind
def swB (sc : Scope) (y : Str) (p : Pos) (s2 : Scope) (pos : Pos) : Bool := blockK sc == .function && sc.names.lookup y == some .local && p.line == pos.line && !(s2.names.any fun (n, k) => n == y && (k == .local || k == .cell))
theorem sw_val {e : Expr} {t : Option Expr} {l : Nat} {env : PySem.Env} (h : isCompE e = false) : swapsWith e t l env = pure false := by
  cases e <;> first | rfl | cases h
theorem sw_lc {x : Expr} {gs : List Comprehension} {s2 : Scope} {pos p : Pos} {y : Str} {l : Nat} {env : PySem.Env} : swapsWith (.ListComp x gs s2 pos) (some (.Name y p)) l env = pure (swB env.scope y p s2 pos) := rfl
def asLcS : Expr → Option (Scope × Pos)
  | .ListComp _ _ s p => some (s, p)
  | _ => none
theorem sw_tup {e : Expr} {es : List Expr} {k : Nat} {p : Pos} {l : Nat} {env : PySem.Env} : swapsWith e (some (.Tuple es k p)) l env = pure false := by
  cases e <;> rfl
theorem sw_sub {e a b : Expr} {p : Pos} {l : Nat} {env : PySem.Env} : swapsWith e (some (.Subscript a b p)) l env = pure false := by
  cases e <;> rfl
theorem sw_attr {e a : Expr} {n : Str} {p : Pos} {l : Nat} {env : PySem.Env} : swapsWith e (some (.Attribute a n p)) l env = pure false := by
  cases e <;> rfl
def namesOn (sc : Scope) (line : Nat) (ts : List Expr) : List Str := ts.filterMap fun
  | .Name id pos => if sc.names.lookup id == some .local && pos.line == line then some id else none
  | _ => none
/-- which names are stored from the right -/
def swN (sc : Scope) (ts vs : List Expr) : Option (List Str) :=
  let names := namesOn sc ((ts.head?.map (·.pos.line)).getD 0) ts
  if !(ts.length == 2 || ts.length == 3) || vs.length != ts.length || blockK sc != .function then none
  else if vs.any isStar then none
  else if names.length != ts.length || names.eraseDups.length != names.length then none
  else if vs.all (foldedForSure 8) then none
  else some names
/-- the stores are told -/
def swOk (vs : List Expr) : Bool := vs.all (foldedForSure 8) || !(vs.all (constantsAlone 8))
theorem star_any_eq (vs : List Expr) : (vs.any fun | .Starred .. => true | _ => false) = vs.any isStar := by
  congr
theorem sw_stores {sc : Scope} {ts vs : List Expr} {k k2 : Nat} {p p2 : Pos} {env : PySem.Env} (hs : env.scope = sc) (h : swOk vs = true) : swappedStores [.Tuple ts k p] (.Tuple vs k2 p2) env = pure (swN sc ts vs) := by
  subst hs
  unfold swappedStores swN
  simp only []
  show (do
    if (!(ts.length == 2 || ts.length == 3) || vs.length != ts.length || blockK env.scope != .function) = true then return none
    if (vs.any isStar) = true then return none
    if (namesOn env.scope ((ts.head?.map (·.pos.line)).getD 0) ts).length != ts.length || (namesOn env.scope ((ts.head?.map (·.pos.line)).getD 0) ts).eraseDups.length != (namesOn env.scope ((ts.head?.map (·.pos.line)).getD 0) ts).length then return none
    if (vs.all (foldedForSure 8)) = true then return none
    if (vs.all (constantsAlone 8)) = true then unsupported "assign.tuple-of-constant-expressions:order-of-the-stores"
    return some (namesOn env.scope ((ts.head?.map (·.pos.line)).getD 0) ts) : Sem (Option (List Str))) = _
  split
  · rfl
  split
  · rfl
  split
  · rfl
  split
  · rfl
  rename_i h4
  unfold swOk at h
  rw [Bool.or_eq_true] at h
  rcases h with h | h
  · exact absurd h h4
  · have : vs.all (constantsAlone 8) = false := by simpa using h
    rw [this]
    rfl
theorem sw_none {t e : Expr} {env : PySem.Env} (h : asTup e = none) : swappedStores [t] e env = pure none := by
  cases e <;> first | (cases h; done) | (unfold swappedStores; cases t <;> rfl)
end Ev
end

section
set_option Elab.async false
set_option linter.all false
set_option maxRecDepth 100000
set_option maxHeartbeats 4000000
/-! Ev19: what a statement gives; assignments. -/
namespace Ev
open PySem PySem.Spec PyProof.Rows L2
def OkS (T : Tab) (W : XW) (ρ : List Addr) (F : Hp) (r : SR) (D : Ends) : Prop :=
  match r with
  | .nx env st => ∀ ρ' F' H' σ', ρ <+: ρ' → Sub F F' → Rl T ρ' F' H' st → EnvR T ρ' F' [] env σ' → D.nx σ' H'
  | .ret v fr st => ∀ ρ' F' H' x, ρ <+: ρ' → Sub F F' → Rl T ρ' F' H' st → FrR T ρ' F' H' (v, fr) x → D.rt x H'
  | .bk env st => ∀ ρ' F' H' σ', ρ <+: ρ' → Sub F F' → Rl T ρ' F' H' st → EnvR T ρ' F' [] env σ' → D.bk σ' H'
  | .ct env st => ∀ ρ' F' H' σ', ρ <+: ρ' → Sub F F' → Rl T ρ' F' H' st → EnvR T ρ' F' [] env σ' → D.ct σ' H'
  | .exc c p _ st => ∀ ρ' F' H', ρ <+: ρ' → Sub F F' → Rl T ρ' F' H' st → W c p ρ' F' H' st
  | .no => False
section
variable {T : Tab} {W : XW} {ρ ρ' : List Addr} {F F' H : Hp} {D : Ends} {st : Store} {env : Env} {σ : L2.St}
theorem OkS.mono {r : SR} (h : OkS T W ρ F r D) (p : ρ <+: ρ') (s : Sub F F') : OkS T W ρ' F' r D := by
  cases r with
  | nx env st => exact fun ρ2 F2 H2 σ2 p2 s2 => h ρ2 F2 H2 σ2 (p.trans p2) (s.trans s2)
  | ret v fr st => exact fun ρ2 F2 H2 x p2 s2 => h ρ2 F2 H2 x (p.trans p2) (s.trans s2)
  | bk env st => exact fun ρ2 F2 H2 σ2 p2 s2 => h ρ2 F2 H2 σ2 (p.trans p2) (s.trans s2)
  | ct env st => exact fun ρ2 F2 H2 σ2 p2 s2 => h ρ2 F2 H2 σ2 (p.trans p2) (s.trans s2)
  | exc c q e st => exact fun ρ2 F2 H2 p2 s2 => h ρ2 F2 H2 (p.trans p2) (s.trans s2)
  | no => exact h
theorem OkS.on {α : Type} {r : R α} {f : α → Store → SR} (h : OkS T W ρ F (r.on env f) D) : OkR T W ρ F r fun a st' ρ' F' H' => OkS T W ρ' F' (f a st') D := by
  cases r with
  | ok a st' => exact fun ρ2 F2 H2 p2 s2 _ => h.mono p2 s2
  | exc c q st' => exact h
  | no => exact h
theorem OkS.nx (h : OkS T W ρ F (.nx env st) D) (r : Rl T ρ F H st) (en : EnvR T ρ F [] env σ) : D.nx σ H := h ρ F H σ (List.prefix_refl _) (Sub.refl F) r en
theorem SR.bind_nx {f : Env → Store → SR} : (SR.nx env st).bind f = f env st := rfl
/-- a block goes on -/
theorem OkS.bind {r : SR} {f : Env → Store → SR} (h : OkS T W ρ F (r.bind f) D) : OkS T W ρ F r { D with nx := fun σ H => ∃ ρ F env st, Rl T ρ F H st ∧ EnvR T ρ F [] env σ ∧ OkS T W ρ F (f env st) D } := by
  cases r with
  | nx env st => exact fun ρ2 F2 H2 σ2 p2 s2 r2 en2 => ⟨ρ2, F2, env, st, r2, en2, h.mono p2 s2⟩
  | ret v fr st => exact h
  | bk env st => exact h
  | ct env st => exact h
  | exc c q e st => exact h
  | no => exact h
end
section
variable (T : Tab) (W : XW) (cf nf : CallF) (fuel : Nat)
def tS (s : Sx) : TS := fun D σ H => ∃ ρ F env st, Rl T ρ F H st ∧ EnvR T ρ F [] env σ ∧ OkS T W ρ F (exS cf nf fuel s env st) D
def tSs (s : List Sx) : TS := fun D σ H => ∃ ρ F env st, Rl T ρ F H st ∧ EnvR T ρ F [] env σ ∧ OkS T W ρ F (exSs cf nf fuel s env st) D
end
structure AmS (T : Tab) (C : Ck) (W : XW) (cf nf : CallF) (X : Cx) : Prop extends Amb T C W cf nf X where
  ff : X.fn = fun _ => true
  po : PassesOwn (model X.prog X.w) X.A X.env X.xe
def tru : Str → Bool := fun _ => true
/-! ### one name -/
def okSet (C : Ck) (N : List Str) (sc : Scope) (i : Nat) (a : Ex) (t v : Expr) : Bool := match asName t with
  | some y => decide (N[i]? = some y) && locB sc tru y && okE C N sc a v && (match asLcS v with
    | some _ => (match a with | .comp .. => true | .compR .. => true | _ => false)
    | none => !isCompE v)
  | none => false
section
variable {T : Tab} {W : XW} {C : Ck} {cf nf : CallF} {X : Cx} {sc : Scope} {fuel : Nat}
theorem asLcS_some {e : Expr} {q : Scope × Pos} (h : asLcS e = some q) : ∃ x gs, e = .ListComp x gs q.1 q.2 := by
  unfold asLcS at h
  split at h
  · cases h; exact ⟨_, _, rfl⟩
  · cases h
theorem s_set {i : Nat} {a : Ex} {t v : Expr} {pos : Pos} (am : AmS T C W cf nf X) (hs : X.env.scope = sc) (h : okSet C X.N sc i a t v = true) : PS X (.Assign [t] v pos) (tAsg (tE T W cf nf a) (gName i)) := by
  unfold okSet at h
  split at h
  · rename_i y hy
    obtain ⟨p, rfl⟩ := asName_eq hy
    simp only [Bool.and_eq_true, decide_eq_true_eq] at h
    obtain ⟨⟨⟨h1, h2⟩, h3⟩, h4⟩ := h
    obtain ⟨l1, l2⟩ := loc_of h2
    rw [← hs] at l1 l2
    have l3 : X.fn y = true ∨ X.env.scope.names.lookup y = some .local := by rw [am.ff]; exact .inl rfl
    split at h4
    · rename_i q hq
      obtain ⟨x, gs, rfl⟩ := asLcS_some hq
      split at h4
      · rename_i a1 tg k es cs
        cases hb : swB X.env.scope y p q.1 q.2 with
        | true =>
          have hl : X.env.scope.names.lookup y = some .local := by
            unfold swB at hb
            simp only [Bool.and_eq_true] at hb
            have := hb.1.1.2
            cases e : X.env.scope.names.lookup y with
            | none => rw [e] at this; cases this
            | some z => rw [e] at this; cases z <;> first | rfl | (revert this; decide)
          obtain ⟨_, _, _, q4⟩ := snd_comp (snd_E a1) (snd_Es es) (snd_Es cs) am.toAmb hs h3
          exact q4 h1 hl (by rw [sw_lc, hb])
        | false => exact ps_set am.nd h1 l1 (snd_E _ T W C X sc _ am.toAmb hs h3).1 (by rw [sw_lc, hb]) l3
      · rename_i a1 tg v1 cs
        cases hb : swB X.env.scope y p q.1 q.2 with
        | true =>
          have hl : X.env.scope.names.lookup y = some .local := by
            unfold swB at hb
            simp only [Bool.and_eq_true] at hb
            have := hb.1.1.2
            cases e : X.env.scope.names.lookup y with
            | none => rw [e] at this; cases this
            | some z => rw [e] at this; cases z <;> first | rfl | (revert this; decide)
          obtain ⟨_, _, _, q4⟩ := snd_compR (snd_E a1) (snd_E v1) (snd_Es cs) am.toAmb hs h3
          exact q4 h1 hl (by rw [sw_lc, hb])
        | false => exact ps_set am.nd h1 l1 (snd_E _ T W C X sc _ am.toAmb hs h3).1 (by rw [sw_lc, hb]) l3
      · cases h4
    · exact ps_set am.nd h1 l1 (snd_E _ T W C X sc _ am.toAmb hs h3).1 (sw_val (by simpa using h4)) l3
  · cases h
/-- a value is taken into the frame -/
theorem thaw_ok {t : Bool} {ρ : List Addr} {F H : Hp} {st st' : Store} {v : Vl × Bool} {w : Vl} {x : V} (r : Rl T ρ F H st) (f : FrR T ρ F H v x) (e : thawV t v st = some (w, st')) : ∃ ρ' F', ρ <+: ρ' ∧ Sub F F' ∧ Rl T ρ' F' H st' ∧ VlR T ρ' F' w x := by
  cases t with
  | false =>
    cases e
    obtain ⟨F2, s2, r2, v2⟩ := f.frz r
    exact ⟨ρ, F2, List.prefix_refl _, s2, r2, v2⟩
  | true =>
    obtain ⟨v, b⟩ := v
    cases v with
    | d y =>
      cases y with
      | list l =>
        cases b with
        | false => cases e
        | true =>
          cases e
          rcases f with ⟨q, _⟩ | ⟨_, l', a, xs, e1, rfl, h1, h2, h3, h4, h5⟩
          · cases q
          · cases e1
            refine ⟨ρ ++ [a], F, List.prefix_append _ _, Sub.refl F, r.push h3 h2 ⟨xs, h1, h4⟩ h5, a, rfl, ?_⟩
            rw [← r.len, List.getElem?_append_right (Nat.le_refl _), Nat.sub_self]; rfl
      | _ => cases e
    | ref n =>
      cases e
      rcases f with ⟨_, q⟩ | ⟨_, l', a, xs, e1, _⟩
      · exact ⟨ρ, F, List.prefix_refl _, Sub.refl F, r, q⟩
      · cases e1
    | _ => cases e
theorem put_ok {t : Bool} {i : Nat} {ρ : List Addr} {F H : Hp} {st : Store} {env : Env} {σ : L2.St} {v : Vl × Bool} {x : V} {D : Ends} (h : OkS T W ρ F (putV t i v env st) D) (r : Rl T ρ F H st) (en : EnvR T ρ F [] env σ) (f : FrR T ρ F H v x) : D.nx (σ.set i (some x)) H := by
  unfold putV at h
  split at h
  · rename_i w st1 e
    obtain ⟨ρ2, F2, p2, s2, r2, v2⟩ := thaw_ok r f e
    exact (h.mono p2 s2).nx r2 ((en.mono p2 s2).put v2 fun j _ => .inl (by simp))
  · exact h.elim
theorem t_set {t : Bool} {i : Nat} {a : Ex} {D : Ends} {σ : L2.St} {H : Hp} (h : ∃ ρ F env st, Rl T ρ F H st ∧ EnvR T ρ F [] env σ ∧ OkS T W ρ F ((evE cf nf a env st).on env fun v st1 => putV t i v env st1) D) : tAsg (tE T W cf nf a) (gName i) D σ H := by
  obtain ⟨ρ, F, env, st, r, en, h⟩ := h
  exact ⟨ρ, F, env, st, r, en, h.on.imp fun v st1 ρ1 F1 H1 p1 s1 r1 q x fx => put_ok q r1 (en.mono p1 s1) fx⟩
theorem sw_sole {e : Expr} {es : List Expr} {k : Nat} {p : Pos} {l : Nat} {env : PySem.Env} : swapsWithSole [.Tuple es k p] e l env = pure false := by
  show swapsWith e (some (.Tuple es k p)) l env = pure false
  exact sw_tup
/-! ### a tuple of targets -/
def okUnp (C : Ck) (N : List Str) (sc : Scope) (tg : Tg) (a : Ex) (t v : Expr) : Bool := isTu tg t && okT N sc tru tg t && okE C N sc a v && (match asTup t, asTup v with
  | some ts, some vs => swOk vs && decide (swN sc ts vs = none)
  | _, _ => decide (asTup v = none))
theorem s_unp {tg : Tg} {a : Ex} {t v : Expr} {pos : Pos} (am : AmS T C W cf nf X) (hs : X.env.scope = sc) (h : okUnp C X.N sc tg a t v = true) : PS X (.Assign [t] v pos) (tS T W cf nf fuel (.unp tg a)) := by
  unfold okUnp at h
  simp only [Bool.and_eq_true] at h
  obtain ⟨⟨⟨h1, h2⟩, h3⟩, h4⟩ := h
  obtain ⟨ts, es, k, p, rfl, rfl⟩ := tu_eq h1
  have hsw : swappedStores [.Tuple es k p] v X.env = pure none := by
    cases e : asTup v with
    | none => exact sw_none e
    | some vs =>
      rw [e] at h4
      simp only [asTup, Bool.and_eq_true, decide_eq_true_eq] at h4
      obtain ⟨k2, p2, rfl⟩ := asTup_eq e
      rw [sw_stores hs h4.1, h4.2]
  have hg := g_tg (T := T) am.hT am.calm am.nd hs am.ff (.tu ts) (.Tuple es k p) h2
  refine (ps_asg (snd_E a T W C X sc v am.toAmb hs h3).1 hg sw_sole hsw (by rw [assign_cons rfl]; rfl)).imp fun D σ H ⟨ρ, F, env, st, r, en, h⟩ => ?_
  unfold exS at h
  refine ⟨ρ, F, env, st, r, en, h.on.imp fun v st1 ρ1 F1 H1 p1 s1 r1 q x fx => ?_⟩
  obtain ⟨F2, s2, r2, v2⟩ := fx.frz r1
  split at q
  · rename_i d st2 e
    obtain ⟨F3, s3, r3, d3⟩ := v2.frzd r2 e
    split at q
    · rename_i env' e2
      have sx := (s1.trans (s2.trans s3))
      exact ⟨ρ1, F3, [], env, d, env', r3.sub, en.mono p1 sx, .inl d3, e2, fun σ' q1 _ => (q.mono (List.prefix_refl _) (s2.trans s3)).nx r3 (q1 [] fun j _ => .inl (by simp))⟩
    · exact q.elim
  · exact q.elim
/-! ### names stored from the right -/
def okTs2 (C : Ck) (N : List Str) (sc : Scope) : List (Nat × Bool) → List Ex → List Expr → Bool
  | [], [], [] => true
  | (_, _) :: is, a :: as, x :: xs => !isStar x && okE C N sc a x && okTs2 C N sc is as xs
  | _, _, _ => false
def tTs (T : Tab) (W : XW) (cf nf : CallF) (is : List (Nat × Bool)) (as : List Ex) : TA := fun σ H Q => ∃ ρ F env st, Rl T ρ F H st ∧ EnvR T ρ F [] env σ ∧ OkR T W ρ F (evTs cf nf is as env st) fun vs _ ρ' F' H' => ∀ xs, VlsR T ρ' F' vs xs → Q xs H'
theorem a_ts (am : Amb T C W cf nf X) (hs : X.env.scope = sc) : ∀ {is : List (Nat × Bool)} {as : List Ex} {xs : List Expr}, okTs2 C X.N sc is as xs = true → PA X xs (tTs T W cf nf is as)
  | [], [], [], _ => pa_nil.imp fun σ H Q ⟨ρ, F, env, st, r, en, h⟩ => h ρ F H (List.prefix_refl _) (Sub.refl F) r [] .nil
  | (i, t) :: is, a :: as, x :: xs, h => by
    unfold okTs2 at h
    simp only [Bool.and_eq_true, Bool.not_eq_true'] at h
    refine (pa_cons (snd_E a T W C X sc x am hs h.1.2).1 (a_ts am hs h.2) (star_cons h.1.1 xs X.env)).imp fun σ H Q ⟨ρ, F, env, st, r, en, h⟩ => ?_
    unfold evTs at h
    refine ⟨ρ, F, env, st, r, en, (OkR.bind h).imp fun v st1 ρ1 F1 H1 p1 s1 r1 q y fy => ?_⟩
    split at q
    · rename_i w st2 e
      obtain ⟨ρ2, F2, p2, s2, r2, v2⟩ := thaw_ok r1 fy e
      refine ⟨ρ2, F2, env, st2, r2, en.mono (p1.trans p2) (s1.trans s2), (OkR.bind (q.mono p2 s2)).imp fun ws st3 ρ3 F3 H3 p3 s3 r3 q3 ys hys => ?_⟩
      exact q3 ρ3 F3 H3 (List.prefix_refl _) (Sub.refl F3) r3 _ (.cons (v2.mono p3 s3) hys)
    · exact q.elim
  | [], [], _ :: _, h => by unfold okTs2 at h; cases h
  | [], _ :: _, _, h => by unfold okTs2 at h; cases h
  | _ :: _, [], _, h => by unfold okTs2 at h; cases h
  | _ :: _, _ :: _, [], h => by unfold okTs2 at h; cases h
def okPar0 (C : Ck) (N : List Str) (sc : Scope) (is : List (Nat × Bool)) (as : List Ex) (t v : Expr) : Bool := match asTup t, asTup v with
  | some ts, some vs => (match is, ts with
    | [(i, _), (j, _)], [a, b] => (match asName a, asName b with
      | some x, some y => decide (N[i]? = some x) && decide (N[j]? = some y) && i != j && decide (sc.names.lookup x = some .local) && decide (sc.names.lookup y = some .local) && swOk vs && decide (swN sc ts vs = some [x, y]) && okTs2 C N sc is as vs
      | _, _ => false)
    | [(i, _), (j, _), (l, _)], [a, b, c] => (match asName a, asName b, asName c with
      | some x, some y, some z => decide (N[i]? = some x) && decide (N[j]? = some y) && decide (N[l]? = some z) && i != j && i != l && j != l && decide (sc.names.lookup x = some .local) && decide (sc.names.lookup y = some .local) && decide (sc.names.lookup z = some .local) && swOk vs && decide (swN sc ts vs = some [x, y, z]) && okTs2 C N sc is as vs
      | _, _, _ => false)
    | _, _ => false)
  | _, _ => false
theorem ts2_len {N : List Str} : ∀ {is : List (Nat × Bool)} {as : List Ex} {xs : List Expr}, okTs2 C N sc is as xs = true → xs.length = is.length
  | [], [], [], _ => rfl
  | _ :: is, _ :: as, _ :: xs, h => by
    unfold okTs2 at h
    rw [Bool.and_eq_true] at h
    rw [List.length_cons, List.length_cons, ts2_len h.2]
  | [], [], _ :: _, h => by unfold okTs2 at h; cases h
  | [], _ :: _, _, h => by unfold okTs2 at h; cases h
  | _ :: _, [], _, h => by unfold okTs2 at h; cases h
  | _ :: _, _ :: _, [], h => by unfold okTs2 at h; cases h
theorem EnvR.put0 {ρ : List Addr} {F : Hp} {env : Env} {σ : L2.St} {i : Nat} {v : Vl} {x : V} (h : EnvR T ρ F [] env σ) (hv : VlR T ρ F v x) : EnvR T ρ F [] (env.set i (some v)) (σ.set i (some x)) := h.put hv fun _ _ => .inl (by simp)
theorem evTs_len : ∀ {is : List (Nat × Bool)} {es : List Ex} {env : Env} {st st' : Store} {vs : List Vl}, evTs cf nf is es env st = .ok vs st' → vs.length = is.length
  | [], [], _, _, _, _, h => by unfold evTs at h; cases h; rfl
  | (i, t) :: is, e :: es, env, st, st', vs, h => by
    unfold evTs at h
    cases h1 : evE cf nf e env st with
    | ok v st1 =>
      rw [h1] at h
      replace h : (match thawV t v st1 with
        | some (w, st2) => (evTs cf nf is es env st2).bind fun ws st3 => R.ok (w :: ws) st3
        | none => .no) = .ok vs st' := h
      split at h
      · rename_i w st2 e2
        cases h2 : evTs cf nf is es env st2 with
        | ok ws st3 =>
          rw [h2] at h
          cases h
          rw [List.length_cons, List.length_cons, evTs_len h2]
        | exc _ _ _ => rw [h2] at h; cases h
        | no => rw [h2] at h; cases h
      · cases h
    | exc _ _ _ => rw [h1] at h; cases h
    | no => rw [h1] at h; cases h
  | [], _ :: _, _, _, _, _, h => by unfold evTs at h; cases h
  | _ :: _, [], _, _, _, _, h => by unfold evTs at h; cases h
theorem ts_len {is : List (Nat × Bool)} {as : List Ex} {σ : L2.St} {H : Hp} {env : Env} {st : Store} {ρ : List Addr} {F : Hp} {D : Ends} {Q : List V → Hp → Prop} (r : Rl T ρ F H st) (en : EnvR T ρ F [] env σ) (h : OkS T W ρ F ((evTs cf nf is as env st).on env fun vs st1 => .nx (setL is vs env) st1) D)
    (k : ∀ ρ1 F1 H1 st1 vs xs, vs.length = is.length → ρ <+: ρ1 → Sub F F1 → Rl T ρ1 F1 H1 st1 → VlsR T ρ1 F1 vs xs → OkS T W ρ1 F1 (.nx (setL is vs env) st1) D → Q xs H1) : tTs T W cf nf is as σ H Q := by
  refine ⟨ρ, F, env, st, r, en, ?_⟩
  have h2 := h.on
  cases e : evTs cf nf is as env st with
  | ok vs st' =>
    rw [e] at h2
    exact fun ρ1 F1 H1 p1 s1 r1 xs hx => k ρ1 F1 H1 st' vs xs (evTs_len e) p1 s1 r1 hx (h2 ρ1 F1 H1 p1 s1 r1)
  | exc _ _ _ => rw [e] at h2; exact h2
  | no => rw [e] at h2; exact h2
theorem s_par0 {is : List (Nat × Bool)} {as : List Ex} {t v : Expr} {pos : Pos} (am : AmS T C W cf nf X) (hs : X.env.scope = sc) (h : okPar0 C X.N sc is as t v = true) : PS X (.Assign [t] v pos) (tS T W cf nf fuel (.par is as)) := by
  unfold okPar0 at h
  split at h
  · rename_i ts vs ht hv
    obtain ⟨kt, pt, rfl⟩ := asTup_eq ht
    obtain ⟨kv, pv, rfl⟩ := asTup_eq hv
    split at h
    · rename_i i ti j tj a b
      split at h
      · rename_i x y hx hy
        obtain ⟨p1, rfl⟩ := asName_eq hx
        obtain ⟨p2, rfl⟩ := asName_eq hy
        simp only [Bool.and_eq_true, decide_eq_true_eq] at h
        obtain ⟨⟨⟨⟨⟨⟨⟨h1, h2⟩, h3⟩, h4⟩, h5⟩, h6⟩, h7⟩, h8⟩ := h
        have hij : i ≠ j := by simpa using h3
        have ha := a_ts (T := T) am.toAmb hs h8
        obtain ⟨u1, u2, rfl⟩ := len2 (ts2_len h8)
        refine (ps_par (pos := pos) (kt := kt) (k2 := kv) (pt := pt) (pt2 := pv) (px := p1) (py := p2) am.calm am.nd h1 h2 hij (by rw [hs]; exact h4) (by rw [hs]; exact h5) ha (by rw [sw_stores hs h6, h7]) sw_sole).imp fun D σ H ⟨ρ, F, env, st, r, en, h⟩ => ?_
        unfold exS at h
        refine ts_len r en h fun ρ1 F1 H1 st1 vs xs hl p1 s1 r1 hx hk => ?_
        obtain ⟨w1, w2, rfl⟩ := len2 hl
        obtain ⟨y1, y2, rfl, q1, q2⟩ := hx.two
        exact ⟨y1, y2, rfl, hk.nx r1 (((en.mono p1 s1).put0 q1).put0 q2)⟩
      · cases h
    · rename_i i ti j tj l tl a b c
      split at h
      · rename_i x y z hx hy hz
        obtain ⟨p1, rfl⟩ := asName_eq hx
        obtain ⟨p2, rfl⟩ := asName_eq hy
        obtain ⟨p3, rfl⟩ := asName_eq hz
        simp only [Bool.and_eq_true, decide_eq_true_eq] at h
        obtain ⟨⟨⟨⟨⟨⟨⟨⟨⟨⟨⟨h1, h2⟩, h2'⟩, h3⟩, h3'⟩, h3''⟩, h4⟩, h5⟩, h5'⟩, h6⟩, h7⟩, h8⟩ := h
        have ha := a_ts (T := T) am.toAmb hs h8
        obtain ⟨u1, u2, u3, rfl⟩ : ∃ a b c, vs = [a, b, c] := by
          have hl := ts2_len h8
          match vs, hl with
          | [a, b, c], _ => exact ⟨a, b, c, rfl⟩
        refine (ps_par3 (pos := pos) (kt := kt) (k2 := kv) (pt := pt) (pt2 := pv) (px := p1) (py := p2) (pz := p3) am.calm am.nd h1 h2 h2' (by simpa using h3) (by simpa using h3') (by simpa using h3'') (by rw [hs]; exact h4) (by rw [hs]; exact h5) (by rw [hs]; exact h5') ha (by rw [sw_stores hs h6, h7]) sw_sole).imp fun D σ H ⟨ρ, F, env, st, r, en, h⟩ => ?_
        unfold exS at h
        refine ts_len r en h fun ρ1 F1 H1 st1 vs xs hl p1 s1 r1 hx hk => ?_
        match vs, hl with
        | [w1, w2, w3], _ =>
          cases hx with
          | cons q1 hx =>
            obtain ⟨y2, y3, rfl, q2, q3⟩ := hx.two
            exact ⟨_, y2, y3, rfl, hk.nx r1 ((((en.mono p1 s1).put0 q1).put0 q2).put0 q3)⟩
      · cases h
    · cases h
  · cases h
/-! ### names from a tuple that is built -/
def okNs (N : List Str) (sc : Scope) : List (Nat × Bool) → List Expr → Bool
  | [], [] => true
  | (i, _) :: is, x :: xs => (match asName x with
    | some n => decide (N[i]? = some n) && locB sc tru n
    | none => false) && okNs N sc is xs
  | _, _ => false
theorem VlsR.len {ρ : List Addr} {F : Hp} : ∀ {vs : List Vl} {xs : List V}, VlsR T ρ F vs xs → vs.length = xs.length
  | _, _, .nil => rfl
  | _, _, .cons _ h => by rw [List.length_cons, List.length_cons, h.len]
def putL : List (Nat × Bool) → List V → L2.St → L2.St
  | (i, _) :: is, x :: xs, σ => putL is xs (σ.set i (some x))
  | _, _, σ => σ
def gNs (is : List (Nat × Bool)) : TGs := fun xs σ H Q => xs.length = is.length ∧ Q (putL is xs σ) H
theorem okNs_facts {N : List Str} {sc : Scope} {env : PySem.Env} : ∀ {is : List (Nat × Bool)} {xs : List Expr}, okNs N sc is xs = true → (assignEach xs env).length = is.length ∧ (assignEach xs env).findIdx? (·.1) = none
  | [], [], _ => ⟨rfl, rfl⟩
  | (i, b) :: is, x :: xs, h => by
    unfold okNs at h
    rw [Bool.and_eq_true] at h
    obtain ⟨h1, h2⟩ := h
    have hx : isStar x = false := by
      split at h1
      · rename_i n e; obtain ⟨p, rfl⟩ := asName_eq e; rfl
      · cases h1
    obtain ⟨q1, q2⟩ := okNs_facts (env := env) h2
    rw [assign_cons hx]
    exact ⟨by rw [List.length_cons, List.length_cons, q1], by rw [List.findIdx?_cons, q2]; rfl⟩
  | [], _ :: _, h => by unfold okNs at h; cases h
  | (_, _) :: _, [], h => by unfold okNs at h; cases h
theorem pg_ns (hN : X.N.Nodup) (hs : X.env.scope = sc) (hf : X.fn = tru) : ∀ {is : List (Nat × Bool)} {xs : List Expr}, okNs X.N sc is xs = true → PGs X xs (gNs is)
  | [], [], _ => ⟨fun pins s σ H v u Q I r ⟨h1, h2⟩ => pgs_nil.run pins s σ H v u Q I r (by
      cases v with
      | nil => exact ⟨rfl, h2⟩
      | cons _ _ => cases h1)⟩
  | (i, b) :: is, x :: xs, h => by
    unfold okNs at h
    rw [Bool.and_eq_true] at h
    obtain ⟨h1, h2⟩ := h
    split at h1
    · rename_i n e
      obtain ⟨p, rfl⟩ := asName_eq e
      simp only [Bool.and_eq_true, decide_eq_true_eq] at h1
      obtain ⟨l1, l2⟩ := loc_of h1.2
      have q := pgs_cons (pg_name (pos := p) hN h1.1 (by rw [hs]; exact l1) (by rw [hf, hs]; exact l2)) (pg_ns hN hs hf h2) (by rw [assign_cons rfl]; rfl)
      refine ⟨fun pins s σ H v u Q I r ⟨h1, h2⟩ => q.run pins s σ H v u Q I r ?_⟩
      cases v with
      | nil => cases h1
      | cons y ys => exact ⟨y, ys, rfl, Nat.succ.inj h1, h2⟩
    · cases h1
  | [], _ :: _, h => by unfold okNs at h; cases h
  | (_, _) :: _, [], h => by unfold okNs at h; cases h
theorem EnvR.putL {ρ : List Addr} {F : Hp} : ∀ {is : List (Nat × Bool)} {vs : List Vl} {xs : List V} {env : Env} {σ : L2.St}, EnvR T ρ F [] env σ → VlsR T ρ F vs xs → vs.length = is.length → EnvR T ρ F [] (setL is vs env) (Ev.putL is xs σ)
  | [], [], _, _, _, h, hv, _ => by cases hv; exact h
  | (i, b) :: is, v :: vs, _, _, _, h, hv, hl => by
    cases hv with
    | cons q1 q2 =>
      show EnvR T ρ F [] (setL is vs _) (Ev.putL is _ _)
      exact EnvR.putL (h.put0 q1) q2 (by simpa using hl)
  | [], _ :: _, _, _, _, _, _, hl => by cases hl
  | _ :: _, [], _, _, _, _, _, hl => by cases hl
def okParT (C : Ck) (N : List Str) (sc : Scope) (is : List (Nat × Bool)) (as : List Ex) (t v : Expr) : Bool := match asTup t, asTup v with
  | some ts, some vs => okNs N sc is ts && swOk vs && decide (swN sc ts vs = none) && okTs2 C N sc is as vs && decide (is.length ≤ 8)
  | _, _ => false
theorem s_parT {is : List (Nat × Bool)} {as : List Ex} {t v : Expr} {pos : Pos} (am : AmS T C W cf nf X) (hs : X.env.scope = sc) (h : okParT C X.N sc is as t v = true) : PS X (.Assign [t] v pos) (tS T W cf nf fuel (.par is as)) := by
  unfold okParT at h
  split at h
  · rename_i ts vs ht hv
    obtain ⟨kt, pt, rfl⟩ := asTup_eq ht
    obtain ⟨kv, pv, rfl⟩ := asTup_eq hv
    simp only [Bool.and_eq_true, decide_eq_true_eq] at h
    obtain ⟨⟨⟨⟨h1, h2⟩, h3⟩, h4⟩, h5⟩ := h
    obtain ⟨f1, f2⟩ := okNs_facts (env := X.env) h1
    have hg := pg_tup (pos := pt) (k := kt) am.calm (pg_ns am.nd hs am.ff h1) f1 f2
    refine (ps_asg (pos := pos) (pe_tup (pos := pv) (x1 := kv) (a_ts (T := T) am.toAmb hs h4)) hg sw_sole (by rw [sw_stores hs h2, h3]) (by rw [assign_cons rfl]; rfl)).imp fun D σ H ⟨ρ, F, env, st, r, en, h⟩ => ?_
    unfold exS at h
    refine ts_len r en h fun ρ1 F1 H1 st1 vs xs hl p1 s1 r1 hx hk => ?_
    have hxl : xs.length = is.length := by rw [← hl]; exact hx.len.symm
    refine ⟨by rw [hxl]; exact Nat.le_trans h5 (by decide), fun p hp => ?_⟩
    refine ⟨p, xs, rfl, ?_, hxl, hxl, ?_⟩
    · exact .inl (.inl upd_same)
    · exact hk.nx (r1.new hp) ((en.mono p1 s1).putL hx hl)
  · cases h
def okPar (C : Ck) (N : List Str) (sc : Scope) (is : List (Nat × Bool)) (as : List Ex) (t v : Expr) : Bool := okPar0 C N sc is as t v || okParT C N sc is as t v
theorem s_par {is : List (Nat × Bool)} {as : List Ex} {t v : Expr} {pos : Pos} (am : AmS T C W cf nf X) (hs : X.env.scope = sc) (h : okPar C X.N sc is as t v = true) : PS X (.Assign [t] v pos) (tS T W cf nf fuel (.par is as)) := by
  unfold okPar at h
  rw [Bool.or_eq_true] at h
  rcases h with h | h
  · exact s_par0 am hs h
  · exact s_parT am hs h
end
end Ev
end

section
set_option Elab.async false
set_option linter.all false
set_option maxRecDepth 100000
set_option maxHeartbeats 4000000
/-! Ev20: stores into objects, augmented ones. -/
namespace Ev
open PySem PySem.Spec PyProof.Rows L2
section
variable {T : Tab} {W : XW} {C : Ck} {cf nf : CallF} {X : Cx} {sc : Scope} {fuel : Nat}
def rAugZ (op : Bop) : TIp := fun x y H Q => ∃ i j k, x = .int i ∧ y = .int j ∧ augZ op i j = some k ∧ Q (.int k) H
theorem ip_aug (op : Bop) : PIp X (opS op) (rAugZ op) := by
  intro pins s σ H x y v u Q I r1 r2 h
  obtain ⟨i, j, k, e1, e2, e3, q⟩ := h
  cases op with
  | add => cases e3; exact ip_add pins s σ H x y v u Q I r1 r2 ⟨i, j, e1, e2, q⟩
  | sub => cases e3; exact ip_sub pins s σ H x y v u Q I r1 r2 ⟨i, j, e1, e2, q⟩
  | bor =>
    cases e3
    subst e1 e2
    obtain ⟨t, rfl⟩ := r1
    obtain ⟨t', rfl⟩ := r2
    exact ior_int ⟨.int _, H, I.tok _, ⟨_, rfl⟩, q⟩
  | _ => cases e3
theorem augV_some {op : Bop} {a b : Vl} {k : Int} (h : augV op a b = some k) : ∃ i j, a = .d (.int i) ∧ b = .d (.int j) ∧ augZ op i j = some k := by
  obtain ⟨i, e1, h⟩ := bind_some h
  obtain ⟨j, e2, h⟩ := bind_some h
  exact ⟨i, j, intV_some e1, intV_some e2, h⟩
def okAug (C : Ck) (N : List Str) (sc : Scope) (i : Nat) (op : Bop) (a : Ex) (t : Expr) (o : Operator) (v : Expr) : Bool := match asName t with
  | some y => decide (N[i]? = some y) && locB sc tru y && decide (o = opS op) && okE C N sc a v
  | none => false
theorem s_aug {i : Nat} {op : Bop} {a : Ex} {t v : Expr} {o : Operator} {pos : Pos} (am : AmS T C W cf nf X) (hs : X.env.scope = sc) (h : okAug C X.N sc i op a t o v = true) : PS X (.AugAssign t o v pos) (tS T W cf nf fuel (.aug i op a)) := by
  unfold okAug at h
  split at h
  · rename_i y hy
    obtain ⟨p, rfl⟩ := asName_eq hy
    simp only [Bool.and_eq_true, decide_eq_true_eq] at h
    obtain ⟨⟨⟨h1, h2⟩, rfl⟩, h4⟩ := h
    obtain ⟨l1, l2⟩ := loc_of h2
    rw [← hs] at l1 l2
    have l3 : X.fn y = true ∨ X.env.scope.names.lookup y = some .local := by rw [am.ff]; exact .inl rfl
    refine (ps_aug am.nd h1 l1 (snd_E a T W C X sc v am.toAmb hs h4).1 (ip_aug op) l3).imp fun D σ H ⟨ρ, F, env, st, r, en, h⟩ => ?_
    unfold exS at h
    split at h
    · rename_i v0 e
      obtain ⟨x0, e1, e2⟩ := en.get i v0 (by simp) e
      refine ⟨x0, e1, ρ, F, env, st, r, en, h.on.imp fun w st1 ρ1 F1 H1 p1 s1 r1 q y fy => ?_⟩
      obtain ⟨F2, s2, r2, v2⟩ := fy.frz r1
      split at q
      · rename_i z ez
        obtain ⟨m, n, rfl, e4, e5⟩ := augV_some ez
        rw [e4] at v2
        cases e2
        cases v2
        exact ⟨m, n, z, rfl, rfl, e5, q.nx r1 ((en.mono p1 s1).put0 (v := .d (.int z)) (.int z))⟩
      · exact q.elim
    · exact h.elim
  · cases h
/-! ### o[i] = v -/
def rSetI (T : Tab) : TSet := fun o i v H Q => ∃ ρ F st st' ov iv y, Rl T ρ F H st ∧ VlR T ρ F ov o ∧ VlR T ρ F iv i ∧ Dq T.kc F v y ∧ setIV ov iv y st = some st' ∧ ∀ H', Rl T ρ F H' st' → Q H'
theorem dk_own {κ : Type} {ws : List (Key × V)} : ∀ y, HO.dK ws ≠ .own y := fun _ h => by cases h
theorem dt_own {ws : List (List Key × V)} : ∀ y, HO.dT ws ≠ .own y := fun _ h => by cases h
theorem set_I (hu : X.A.units + 200 < cLine) : PSet X (rSetI T) := by
  intro pins s σ H o i v ov iv u Q I ro ri rv ⟨ρ, F, st, st', oo, ii, y, r, ho, hi, hv, e, hq⟩
  have hu1 : X.A.units + 1 < cLine := by omega
  unfold setIV at e
  split at e
  · rename_i n k
    split at e
    · rename_i l h0
      split at e
      · rename_i j
        obtain ⟨m, e1, e2⟩ := map_some e
        obtain ⟨a, rfl, ha, hF, ys, h1, h2⟩ := VlR.obj r ho h0
        cases hi
        refine set_list pins s σ H _ _ v ov iv u Q I ro ri rv ⟨a, ys, j, m, rfl, rfl, h1, by rw [h2.length]; exact e1, hq _ ?_⟩
        rw [← e2]
        exact r.put (o' := .lst (l.set m y)) (u' := .lst (ys.set m v)) ha hF h1 lst_own ⟨_, upd_same, DqAll.set hv m h2⟩
      · cases e
    · rename_i kvs h0
      split at e
      · rename_i q hk
        split at e
        · rename_i c
          cases e
          obtain ⟨a, rfl, ha, hF, ws, h1, h2⟩ := VlR.obj r ho h0
          have e2 := toKey_kV hi hk
          subst e2
          refine set_dict hu1 pins s σ H _ _ v ov iv u Q I ro ri rv ⟨a, _, rfl, DPut.k h1 (by rw [KvR.length h2, ← limZ_eq]; exact c), hq _ ?_⟩
          exact r.put (o' := .dK (Ev.putK q y kvs)) (u' := .dK (L2.putK ws q v)) ha hF h1 (fun _ h => by cases h) ⟨_, upd_same, KvR.put q hv h2⟩
        · cases e
      · cases e
    · rename_i kvs h0
      split at e
      · rename_i q hk
        split at e
        · rename_i c
          cases e
          obtain ⟨a, rfl, ha, hF, ws, h1, h2⟩ := VlR.obj r ho h0
          obtain ⟨b, rfl, e2⟩ := toTKey_kV hi hk
          refine set_dict hu1 pins s σ H _ _ v ov iv u Q I ro ri rv ⟨a, _, rfl, DPut.t h1 (r.sub _ _ e2) (by rw [KvR.length h2, ← limZ_eq]; exact c), hq _ ?_⟩
          exact r.put (o' := .dT (Ev.putK q y kvs)) (u' := .dT (L2.putK ws q v)) ha hF h1 (fun _ h => by cases h) ⟨_, upd_same, KvR.put q hv h2⟩
        · cases e
      · cases e
    · cases e
  · cases e
theorem assign_sub {o i : Expr} {pos : Pos} {env : PySem.Env} (h : isSlice i = false) : ∀ v, assign (.Subscript o i pos) env v = (do
      let ov ← holding [v] (eval o env)
      let iv ← holding [v, ov] (eval i env)
      standAt pos
      holding [v, ov, iv] (setItem ov iv v)
      release [v, ov, iv] []) := by
  intro v
  cases i <;> first | rfl | cases h
def okSetI (C : Ck) (N : List Str) (sc : Scope) (o i a : Ex) (t v : Expr) : Bool := match asSub t with
  | some (x, y) => !isSlice y && okE C N sc o x && okE C N sc i y && okE C N sc a v
  | none => false
theorem s_setI {o i a : Ex} {t v : Expr} {pos : Pos} (am : AmS T C W cf nf X) (hs : X.env.scope = sc) (h : okSetI C X.N sc o i a t v = true) : PS X (.Assign [t] v pos) (tS T W cf nf fuel (.setI o i a)) := by
  unfold okSetI at h
  split at h
  · rename_i x y hx
    obtain ⟨p, rfl⟩ := asSub_eq hx
    simp only [Bool.and_eq_true, Bool.not_eq_true'] at h
    obtain ⟨⟨⟨h1, h2⟩, h3⟩, h4⟩ := h
    have hg := pg_sub (pos := p) (snd_E o T W C X sc x am.toAmb hs h2).1 (snd_E i T W C X sc y am.toAmb hs h3).1 (set_I (T := T) am.un) (assign_sub h1)
    refine (ps_asg (snd_E a T W C X sc v am.toAmb hs h4).1 hg (show swapsWith v (some (.Subscript x y p)) pos.line X.env = pure false from sw_sub) (by unfold swappedStores; rfl) (by rw [assign_cons rfl]; rfl)).imp fun D σ H ⟨ρ, F, env, st, r, en, h⟩ => ?_
    unfold exS at h
    refine ⟨ρ, F, env, st, r, en, h.on.imp fun v1 st1 ρ1 F1 H1 p1 s1 r1 q xv fx => ?_⟩
    obtain ⟨F2, s2, r2, v2⟩ := fx.frz r1
    refine ⟨ρ1, F2, env, st1, r2, en.mono p1 (s1.trans s2), (OkS.on (q.mono (List.prefix_refl _) s2)).imp fun o1 st2 ρ3 F3 H3 p3 s3 r3 q2 xo fo => ?_⟩
    obtain ⟨F4, s4, r4, v4⟩ := fo.frz r3
    refine ⟨ρ3, F4, env, st2, r4, en.mono (p1.trans p3) ((s1.trans s2).trans (s3.trans s4)), (OkS.on (q2.mono (List.prefix_refl _) s4)).imp fun i1 st3 ρ5 F5 H5 p5 s5 r5 q3 xi fi => ?_⟩
    obtain ⟨F6, s6, r6, v6⟩ := fi.frz r5
    have q4 := q3.mono (List.prefix_refl _) s6
    split at q4
    · rename_i y st4 e4
      split at q4
      · rename_i st5 e5
        obtain ⟨F7, s7, r7, d7⟩ := (v2.mono p3 (s3.trans s4) |>.mono p5 (s5.trans s6)).frzd r6 e4
        refine ⟨ρ5, F7, st4, st5, o1.1, i1.1, y, r7, v4.mono p5 ((s5.trans s6).trans s7), v6.mono (List.prefix_refl _) s7, d7, e5, fun H' r' => ?_⟩
        exact (q4.mono (List.prefix_refl _) s7).nx r' (en.mono ((p1.trans p3).trans p5) ((s1.trans s2).trans ((s3.trans s4).trans ((s5.trans s6).trans s7))))
      · exact q4.elim
    · exact q4.elim
  · cases h
/-! ### o[i] op= v -/
def rGet (T : Tab) : V → V → Hp → VK → Prop := fun x y H Q => ∃ ρ F st n b d, Rl T ρ F H st ∧ VlR T ρ F (.ref n) x ∧ VlR T ρ F b y ∧ idxV st (.ref n) b = some d ∧ ∀ w, Dq T.kc F w d → Q w H
theorem get_I (hu : X.A.units + 200 < cLine) : PGet X (rGet T) := by
  intro pins s σ H x y v u Q I rx ry ⟨ρ, F, st, n, b, d, r, ha, hb, e, q⟩
  have hu1 : X.A.units + 1 < cLine := by omega
  unfold idxV at e
  split at e
  · rename_i k
    simp only at e
    split at e
    · rename_i l h0
      split at e
      · rename_i j
        obtain ⟨p, rfl, _, _, xs, h1, h2⟩ := VlR.obj r ha h0
        cases hb
        obtain ⟨w, e1, e2⟩ := atD_V h2 e
        cases rx
        obtain ⟨t, rfl⟩ := ry
        obtain ⟨its, rv, pl, hz⟩ := I.list (SqL.of (K := X.K) h1)
        obtain ⟨m, g1, g2, g3, g4, g5⟩ := atI_get e1
        obtain ⟨z, ew, rz⟩ := rv.get g2
        have hl := rv.length
        have hn := line63
        have fin : EP X pins σ Q z s := ⟨w, H, I, rz, q w e2⟩
        by_cases hj : 0 ≤ j
        · have em : j.toNat = m := by
            rw [seqIndex_of hj g5] at g1
            exact Option.some.inj g1
          exact wpAny_getItem_list pl.isList hj (by omega) (by rw [em]; simpa using ew) fin
        · have em : (j + (its.toArray.size : Int)).toNat = m := by
            rw [seqIndex_neg (by omega) g4] at g1
            rw [List.size_toArray, ← hl]
            exact Option.some.inj g1
          exact wpAny_getItem_list_neg pl.isList (by omega) (by rw [List.size_toArray] <;> omega) (by omega) (by rw [em]; simpa using ew) fin
      · cases e
    · rename_i kvs h0
      obtain ⟨p, rfl, _, _, ws, h1, h2⟩ := VlR.obj r ha h0
      cases rx
      obtain ⟨kk, h3, h4⟩ := bind_some e
      have e1 := toKey_kV hb h3
      subst e1
      obtain ⟨w, e2, e3⟩ := (KvR.look kk h2).2 d h4
      exact d_getItem hu1 I (by rw [← e2]; exact DGet.k h1) ry fun w' s3 I3 rw' => ⟨w, H, I3, rw', q w e3⟩
    · rename_i kvs h0
      obtain ⟨p, rfl, _, _, ws, h1, h2⟩ := VlR.obj r ha h0
      cases rx
      obtain ⟨kk, h3, h4⟩ := bind_some e
      obtain ⟨bb, rfl, e1⟩ := toTKey_kV hb h3
      obtain ⟨w, e2, e3⟩ := (KvR.look kk h2).2 d h4
      exact d_getItem hu1 I (by rw [← e2]; exact DGet.t h1 (r.sub _ _ e1)) ry fun w' s3 I3 rw' => ⟨w, H, I3, rw', q w e3⟩
    · cases e
  · cases e
def okAugI (C : Ck) (N : List Str) (sc : Scope) (o i : Ex) (op : Bop) (a : Ex) (t : Expr) (p : Operator) (v : Expr) : Bool := match asSub t with
  | some (x, y) => !isSlice y && decide (p = opS op) && okE C N sc o x && okE C N sc i y && okE C N sc a v
  | none => false
theorem aug_store {i : Expr} (h : isSlice i = false) : ∀ ov iv new, augStore i ov iv new = (do holding [new, ov, iv] (setItem ov iv new); release [new, ov, iv] []; pure .next) := by
  intro ov iv new
  cases i <;> first | rfl | cases h
theorem setIV_ref {o i : Vl} {y : PyData} {st st' : Store} (h : setIV o i y st = some st') : ∃ n, o = .ref n := by
  unfold setIV at h
  split at h
  · exact ⟨_, rfl⟩
  · cases h
theorem s_augI {o i a : Ex} {op : Bop} {t v : Expr} {p : Operator} {pos : Pos} (am : AmS T C W cf nf X) (hs : X.env.scope = sc) (h : okAugI C X.N sc o i op a t p v = true) : PS X (.AugAssign t p v pos) (tS T W cf nf fuel (.augI o i op a)) := by
  unfold okAugI at h
  split at h
  · rename_i x y hx
    obtain ⟨px, rfl⟩ := asSub_eq hx
    simp only [Bool.and_eq_true, Bool.not_eq_true', decide_eq_true_eq] at h
    obtain ⟨⟨⟨⟨h1, rfl⟩, h2⟩, h3⟩, h4⟩ := h
    refine (ps_augS (snd_E o T W C X sc x am.toAmb hs h2).1 (snd_E i T W C X sc y am.toAmb hs h3).1 (get_I (T := T) am.un) (snd_E a T W C X sc v am.toAmb hs h4).1 (ip_aug op) (set_I (T := T) am.un) (aug_store h1)).imp fun D σ H ⟨ρ, F, env, st, r, en, h⟩ => ?_
    unfold exS at h
    refine ⟨ρ, F, env, st, r, en, h.on.imp fun o1 st1 ρ1 F1 H1 p1 s1 r1 q xo fo => ?_⟩
    obtain ⟨F2, s2, r2, v2⟩ := fo.frz r1
    refine ⟨ρ1, F2, env, st1, r2, en.mono p1 (s1.trans s2), (OkS.on (q.mono (List.prefix_refl _) s2)).imp fun i1 st2 ρ3 F3 H3 p3 s3 r3 q2 xi fi => ?_⟩
    obtain ⟨F4, s4, r4, v4⟩ := fi.frz r3
    have q3 := q2.mono (List.prefix_refl _) s4
    have en4 := en.mono (p1.trans p3) ((s1.trans s2).trans (s3.trans s4))
    split at q3
    · rename_i d ed
      cases hn : o1.1 with
      | ref n =>
        rw [hn] at ed v2 q3
        refine ⟨ρ3, F4, st2, n, i1.1, d, r4, v2.mono p3 (s3.trans s4), v4, ed, fun w hw => ?_⟩
        refine ⟨ρ3, F4, env, st2, r4, en4, (OkS.on q3).imp fun a1 st3 ρ5 F5 H5 p5 s5 r5 q5 xa fa => ?_⟩
        obtain ⟨F6, s6, r6, v6⟩ := fa.frz r5
        have q6 := q5.mono (List.prefix_refl _) s6
        split at q6
        · rename_i z ez
          obtain ⟨m, k, e1, e2, e3⟩ := augV_some ez
          cases e1
          rw [e2] at v6
          cases hw
          cases v6
          split at q6
          · rename_i st4 e4
            refine ⟨m, k, z, rfl, rfl, e3, ρ5, F6, st3, st4, .ref n, i1.1, .int z, r6, (v2.mono p3 (s3.trans s4)).mono p5 (s5.trans s6), v4.mono p5 (s5.trans s6), .int z, e4, fun H' r' => ?_⟩
            exact q6.nx r' (en4.mono p5 (s5.trans s6))
          · exact q6.elim
        · exact q6.elim
      | _ => rw [hn] at ed; cases ed
    · exact q3.elim
  · cases h
end
end Ev
end

section
set_option Elab.async false
set_option linter.all false
set_option maxRecDepth 100000
set_option maxHeartbeats 4000000
/-! Ev21: variables of instances are set; loops; the statements together. -/
namespace Ev
open PySem PySem.Spec PyProof.Rows L2
section
variable {T : Tab} {W : XW} {C : Ck} {cf nf : CallF} {X : Cx} {sc : Scope} {fuel : Nat}
theorem fs_of {F : Hp} : ∀ {fs : List (Option PyData)} {vs : List (Option V)}, (∀ (i : Nat) (d : PyData), fs[i]? = some (some d) → ∃ v, vs[i]? = some (some v) ∧ Dq T.kc F v d) → FsR T F vs fs
  | [], _, _ => .nil
  | none :: fs, vs, h => .none (fs_of fun i d e => by
    obtain ⟨v, h1, h2⟩ := h (i + 1) d (by simpa using e)
    refine ⟨v, ?_, h2⟩
    cases vs with
    | nil => simp at h1
    | cons _ _ => simpa using h1)
  | some d :: fs, vs, h => by
    obtain ⟨v, h1, h2⟩ := h 0 d rfl
    cases vs with
    | nil => simp at h1
    | cons o vs =>
      simp at h1
      subst h1
      exact .some h2 (fs_of fun i d e => by
        obtain ⟨v, h1, h2⟩ := h (i + 1) d (by simpa using e)
        exact ⟨v, by simpa using h1, h2⟩)
theorem fs_put {F : Hp} {vs : List (Option V)} {fs : List (Option PyData)} {i : Nat} {y : V} {d : PyData} (h : FsR T F vs fs) (hd : Dq T.kc F y d) (hi : i < fs.length) : FsR T F (putS i y vs) (fs.set i (some d)) := fs_of fun j e he => by
  unfold putS
  by_cases hij : i = j
  · subst hij
    rw [List.getElem?_set_self hi] at he
    cases he
    refine ⟨y, ?_, hd⟩
    rw [List.getElem?_set_self (by simp; omega)]
  · rw [List.getElem?_set_ne hij] at he
    obtain ⟨v, h1, h2⟩ := fs_get h he
    refine ⟨v, ?_, h2⟩
    rw [List.getElem?_set_ne hij, List.getElem?_append_left (List.getElem?_eq_some_iff.mp h1).1]
    exact h1
theorem slAt_tbl {H : Hp} {a B dx : Addr} {vs : List (Option V)} {u : HO} (h : SlAt H a B dx vs) (hu : H a = some u) : ∀ ps, u ≠ .tbl ps := fun ps z => by
  subst z
  obtain ⟨_, _, h⟩ := h
  rcases h with h | ⟨_, h⟩
  · rw [hu] at h; unfold SlO at h; cases h
  · rw [hu] at h; cases h
theorem slAt_own {H : Hp} {a B dx : Addr} {vs : List (Option V)} (h : SlAt H a B dx vs) : ∃ u, H a = some u ∧ ∀ x, u ≠ .own x := by
  obtain ⟨_, _, h⟩ := h
  rcases h with h | ⟨_, h⟩
  · exact ⟨_, h, fun x q => by unfold SlO at q; cases q⟩
  · exact ⟨_, h, fun x q => by cases q⟩
def okSetF (C : Ck) (N : List Str) (sc : Scope) (o : Ex) (cs : List (Nat × Nat)) (a : Ex) (t v : Expr) : Bool := match asAttr t with
  | some (x, n, _) => fldOk C n cs && okE C N sc o x && okE C N sc a v
  | none => false
theorem s_setF {o a : Ex} {cs : List (Nat × Nat)} {t v : Expr} {pos : Pos} (am : AmS T C W cf nf X) (hs : X.env.scope = sc) (h : okSetF C X.N sc o cs a t v = true) : PS X (.Assign [t] v pos) (tS T W cf nf fuel (.setF o cs a)) := by
  unfold okSetF at h
  split at h
  · rename_i x n p hx
    have e0 := asAttr_eq hx
    subst e0
    simp only [Bool.and_eq_true] at h
    obtain ⟨⟨h1, h2⟩, h3⟩ := h
    refine ⟨fun pins s σ H D I ⟨ρ, F, env, st, r, en, h⟩ => ?_⟩
    unfold exS at h
    refine plainObj_wpAny_Assign_Attribute (thn ((snd_E a T W C X sc v am.toAmb hs h3).1.run pins s σ H (fun y H1 => ∃ ρ1 F1 st1 v1, Rl T ρ1 F1 H1 st1 ∧ EnvR T ρ1 F1 [] env σ ∧ VlR T ρ1 F1 v1 y ∧ OkS T W ρ1 F1 ((evE cf nf o env st1).on env fun x st2 => match frz st2 v1, x.1 with
      | some (y, st3), .ref n => match getO st3 n with
        | some (.obj c fs) => match cs.lookup c with
          | some i => if i < fs.length then .nx env (st3.set n (some (.obj c (fs.set i (some y))))) else .no
          | none => .no
        | _ => .no
      | _, _ => .no) D) I ⟨ρ, F, env, st, r, en, h.on.imp fun v1 st1 ρ1 F1 H1 p1 s1 r1 q xv fx => ?_⟩) fun u s1 ⟨y, H1, I1, ry, ρ1, F1, st1, v1, r1, en1, hv1, q1⟩ => ?_) sw_attr
    · obtain ⟨F2, s2, r2, v2⟩ := fx.frz r1
      exact ⟨ρ1, F2, st1, v1.1, r2, en.mono p1 (s1.trans s2), v2, q.mono (List.prefix_refl _) s2⟩
    · refine thn ((snd_E o T W C X sc x am.toAmb hs h2).1.run pins s1 σ H1 (fun xo H2 => ∃ a2 c dx vs i, xo = .ref a2 ∧ SlAt H2 a2 (T.cA c) dx vs ∧ cs.lookup c = some i ∧ ∀ H3, H3 = upd H2 a2 (SlO (T.cA c) dx a2 (putS i y vs)) → D.nx σ H3) I1 ⟨ρ1, F1, env, st1, r1, en1, (OkS.on q1).imp fun o1 st2 ρ3 F3 H3 p3 s3 r3 q3 xo fo => ?_⟩) fun ov s2 ⟨xo, H2, I2, rx, a2, c, dx, vs, i, e1, hsl, hc, hq⟩ => ?_
      · obtain ⟨F4, s4, r4, v4⟩ := fo.frz r3
        have q4 := q3.mono (List.prefix_refl _) s4
        split at q4
        · rename_i d st3 m ed em
          obtain ⟨F5, s5, r5, d5⟩ := (hv1.mono p3 (s3.trans s4)).frzd r4 ed
          split at q4
          · rename_i c fs h0
            split at q4
            · rename_i i hc
              split at q4
              · rename_i hi
                rw [em] at v4
                obtain ⟨a2, rfl, ha, hF, dx, vs, hsl, hfs⟩ := VlR.obj r5 (v4.mono (List.prefix_refl _) s5) h0
                refine ⟨a2, c, dx, vs, i, rfl, hsl, hc, fun H6 e6 => ?_⟩
                subst e6
                obtain ⟨u6, hu6, hown⟩ := slAt_own hsl
                have r6 := r5.put (o' := .obj c (fs.set i (some d))) (u' := SlO (T.cA c) dx a2 (putS i y vs)) ha hF hu6 hown ⟨dx, _, hsl.here, fs_put hfs d5 hi⟩
                exact (q4.mono (List.prefix_refl _) s5).nx r6 (en1.mono p3 (s3.trans (s4.trans s5)))
              · exact q4.elim
            · exact q4.elim
          · exact q4.elim
        · exact q4.elim
      · subst e1
        obtain rfl : ov = Value.ref a2 := rx
        obtain ⟨k1, p, k2⟩ := fld_slot am.toAmb h1 hc
        exact setslot_ok I2 hsl k1 k2 ry fun s3 I3 => ⟨σ, _, I3, hq _ rfl⟩
  · cases h
end
end Ev
end

section
set_option Elab.async false
set_option linter.all false
set_option maxRecDepth 100000
set_option maxHeartbeats 4000000
/-! EvX7: raise. -/
namespace Ev
open PySem PySem.Spec PyProof.Rows L2
section
variable {T : Tab} {W : XW} {C : Ck} {cf nf : CallF} {X : Cx} {sc : Scope} {fuel : Nat}
theorem pmk_x {m : Str} {c : Nat} {a : Ex} {x : Expr} {p q : Pos} (am : Amb T C W cf nf X) (hs : X.env.scope = sc) (h1 : gloB sc m = true) (h2 : C.G.lookup m = some (.xc c)) (st : isStar x = false) (he : PE X x (tE T W cf nf a)) :
    PMk X (.Call (.Name m p) [x] [] q) (fun σ H Q => tE T W cf nf a σ H fun v H1 => rMkx T.kc c v H1 Q) := by
  intro pins s σ H Q I h
  obtain ⟨g1, g2, _⟩ := gl_of hs h1
  obtain ⟨m1, m2, m3⟩ := am.xc _ _ h2
  apply wpAny_Call_Name_kw
  refine ld_glob I g1 m1 ?_ g2
  have ha : PA X [x] (tCons (tE T W cf nf a) tNil) := pa_cons he pa_nil (star_cons st [] X.env)
  refine PySem.W.callWith_K (h₀ := X.base) I.ok.mod.kin m2 (thn (ha.run q pins s σ H (fun vs G => ∃ v, vs = [v] ∧ rMkx T.kc c v G Q) I ?_) ?_) (star_cons st [] X.env) rfl
  · obtain ⟨ρ, F, env, st, r, en, h⟩ := h
    exact ⟨ρ, F, env, st, r, en, h.imp fun v st1 ρ1 F1 H1 p1 s1 r1 q x fx => ⟨x, rfl, q x fx⟩⟩
  intro us s1 ⟨vs, G, I1, rv, v, ev, k⟩
  subst ev
  obtain ⟨u, rfl, ru⟩ := vals1 rv
  exact ⟨I1.kIn, am.xk c m3 X rfl rfl rfl rfl rfl am.rm pins s1 σ G v u Q I1 ru k⟩
theorem s_raise {m : Str} {c : Nat} {a : Ex} {x : Expr} {p q r : Pos} (am : Amb T C W cf nf X) (hs : X.env.scope = sc) (h1 : gloB sc m = true) (h2 : C.G.lookup m = some (.xc c)) (st : isStar x = false) (he : PE X x (tE T W cf nf a)) :
    PS X (.Raise (some (.Call (.Name m p) [x] [] q)) none r) (tS T W cf nf fuel (.raise_ c [a])) := by
  obtain ⟨E, tk, wk⟩ := am.wk
  refine (ps_raise am.calm tk (pmk_x am hs h1 h2 st he)).imp fun D σ H ⟨ρ, F, env, st, r, en, h⟩ => ?_
  unfold exS at h
  have h0 := h.on
  unfold evEs at h0
  refine seqE r en h0 fun ρ1 F1 H1 st1 v y p1 s1 r1 en1 hv h2 => ?_
  unfold evEs at h2
  replace h2 := h2 ρ1 F1 H1 (List.prefix_refl _) (Sub.refl F1) r1
  replace h2 : OkS T W ρ1 F1 (match frz st1 v.1 with
    | some (x, st2) => .exc c x env st2
    | none => .no) D := h2
  split at h2
  · rename_i d st2 e
    obtain ⟨F2, s2, r2, dq⟩ := hv.frzd r1 e
    unfold rMkx
    cases hf : T.kc.xf c with
    | none =>
      have := wk _ _ _ _ _ _ (h2 ρ1 F2 H1 (List.prefix_refl _) s2 r2)
      exact this _ _ ⟨rfl, fun f e => by rw [hf] at e; cases e⟩
    | some f =>
      intro dd hd
      obtain ⟨r3, s3⟩ := r2.newF (o := .xd [(f, y)]) hd
      have := wk _ _ _ _ _ _ (h2 ρ1 _ _ (List.prefix_refl _) (s2.trans s3) r3)
      refine this _ _ ⟨rfl, fun f' e => ?_⟩
      rw [hf] at e
      cases e
      exact ⟨dd, _, y, rfl, upd_same, by simp [List.lookup], Dq.sub s3 dq⟩
  · exact h2.elim
end
end Ev
end

section
set_option Elab.async false
set_option linter.all false
set_option maxRecDepth 100000
set_option maxHeartbeats 4000000
/-! Ev22: loops; the statements together. -/
namespace Ev
open PySem PySem.Spec PyProof.Rows L2
mutual
def okS (C : Ck) (N : List Str) (sc : Scope) : Sx → Stmt → Bool
  | .set i a, s => (match asAsg s with
    | some (t, v, _) => okSet C N sc i a t v
    | none => false)
  | .thaw i a, s => (match asAsg s with
    | some (t, v, _) => okSet C N sc i a t v
    | none => false)
  | .setz i a, s => (match asAsg s with
    | some (t, v, _) => okSet C N sc i a t v
    | none => false)
  | .dead, _ => true
  | .par is as, s => (match asAsg s with
    | some (t, v, _) => okPar C N sc is as t v
    | none => false)
  | .unp tg a, s => (match asAsg s with
    | some (t, v, _) => okUnp C N sc tg a t v
    | none => false)
  | .aug i op a, s => (match asAug s with
    | some (t, o, v, _) => okAug C N sc i op a t o v
    | none => false)
  | .setI o i a, s => (match asAsg s with
    | some (t, v, _) => okSetI C N sc o i a t v
    | none => false)
  | .augI o i op a, s => (match asAug s with
    | some (t, p, v, _) => okAugI C N sc o i op a t p v
    | none => false)
  | .setF o cs a, s => (match asAsg s with
    | some (t, v, _) => okSetF C N sc o cs a t v
    | none => false)
  | .ex a, s => (match asEx s with
    | some (v, _) => !isCompE v && okE C N sc a v
    | none => false)
  | .ret a, s => (match asRet s with
    | some (some v) => okE C N sc a v
    | _ => false)
  | .retN, s => (match asRet s with
    | some none => true
    | _ => false)
  | .ifs c a b, s => (match asIfS s with
    | some (x, p, q) => okE C N sc c x && okSs C N sc a p && okSs C N sc b q
    | none => false)
  | .whl c b, s => (match asWhl s with
    | some (x, p) => okE C N sc c x && okSs C N sc b p
    | none => false)
  | .forR tg a b, s => (match asForS s with
    | some (t, it, p) => okT N sc tru tg t && !isSetE it && okE C N sc a it && okSs C N sc b p
    | none => false)
  | .for_ tg k es b, s => (match asForS s with
    | some (t, it, p) => okT N sc tru tg t && okI C sc k tg t es.length it && okEs C N sc es (iterArgs k it) && okSs C N sc b p
    | none => false)
  | .raise_ c as, s => (match asRaise s with
    | some (n, _, x, _, _) => gloB sc n && isGE C n (.xc c) && !isStar x && okEs C N sc as [x]
    | none => false)
  | .pass, s => isPass s
  | .brk, s => isBrk s
  | .cont, s => isCont s
  termination_by structural s => s
def okSs (C : Ck) (N : List Str) (sc : Scope) : List Sx → List Stmt → Bool
  | [], [] => true
  | a :: as, s :: ss => okS C N sc a s && okSs C N sc as ss
  | _, _ => false
  termination_by structural ss => ss
end
section
variable (cf nf : CallF) (fuel : Nat)
def SndS (a : Sx) : Prop := ∀ (T : Tab) (W : XW) (C : Ck) (X : Cx) (sc : Scope) (s : Stmt), AmS T C W cf nf X → X.env.scope = sc → okS C X.N sc a s = true → PS X s (tS T W cf nf fuel a)
def SndSs (as : List Sx) : Prop := ∀ (T : Tab) (W : XW) (C : Ck) (X : Cx) (sc : Scope) (ss : List Stmt), AmS T C W cf nf X → X.env.scope = sc → okSs C X.N sc as ss = true → PSs X ss (tSs T W cf nf fuel as)
end
section
variable {T : Tab} {W : XW} {C : Ck} {cf nf : CallF} {X : Cx} {sc : Scope} {fuel : Nat}
theorem R.on_bind {α β : Type} (r : R α) (env : Env) (f : α → Store → R β) (g : β → Store → SR) : (r.bind f).on env g = r.on env fun a s => (f a s).on env g := by cases r <;> rfl
theorem s_if {c : Ex} {a b : List Sx} {x : Expr} {p q : List Stmt} {pos : Pos} (h1 : PT X x (tT T W cf nf c)) (h2 : PSs X p (tSs T W cf nf fuel a)) (h3 : PSs X q (tSs T W cf nf fuel b)) : PS X (.If x p q pos) (tS T W cf nf fuel (.ifs c a b)) :=
  (ps_if h1 h2 h3).imp fun D σ H ⟨ρ, F, env, st, r, en, h⟩ => by
    unfold exS at h
    refine ⟨ρ, F, env, st, r, en, h.on.imp fun v st1 ρ1 F1 H1 p1 s1 r1 q1 => ?_⟩
    split at q1
    · rename_i e
      exact ⟨true, e, by dsimp only; rw [if_pos rfl]; exact ⟨ρ1, F1, env, st1, r1, en.mono p1 s1, q1⟩⟩
    · rename_i e
      exact ⟨false, e, by dsimp only; rw [if_neg (by decide)]; exact ⟨ρ1, F1, env, st1, r1, en.mono p1 s1, q1⟩⟩
    · exact q1.elim
/-- the body of a loop goes on, leaves it or ends the def -/
theorem OkS.loop {ρ : List Addr} {F : Hp} {r : SR} {D : Ends} {go : Env → Store → SR} {N : L2.St → Hp → Prop} (h : OkS T W ρ F (match r with
      | .nx env' st' => go env' st'
      | .ct env' st' => go env' st'
      | .bk env' st' => .nx env' st'
      | r => r) D) (hN : ∀ ρ' F' env' st' H' σ', ρ <+: ρ' → Sub F F' → Rl T ρ' F' H' st' → EnvR T ρ' F' [] env' σ' → OkS T W ρ' F' (go env' st') D → N σ' H') : OkS T W ρ F r { D with nx := N, ct := N, bk := D.nx } := by
  cases r with
  | nx env' st' => exact fun ρ2 F2 H2 σ2 p2 s2 r2 en2 => hN ρ2 F2 env' st' H2 σ2 p2 s2 r2 en2 (h.mono p2 s2)
  | ct env' st' => exact fun ρ2 F2 H2 σ2 p2 s2 r2 en2 => hN ρ2 F2 env' st' H2 σ2 p2 s2 r2 en2 (h.mono p2 s2)
  | bk env' st' => exact h
  | ret v fr st' => exact h
  | exc c q e st' => exact h
  | no => exact h
theorem s_while {c : Ex} {b : List Sx} {x : Expr} {p : List Stmt} {pos : Pos} (am : AmS T C W cf nf X) (h1 : PT X x (tT T W cf nf c)) (h2 : PSs X p (tSs T W cf nf fuel b)) : PS X (.While x p [] pos) (tS T W cf nf fuel (.whl c b)) :=
  (ps_while am.po h1 h2).imp fun D σ H ⟨ρ, F, env, st, r, en, h⟩ => by
    unfold exS at h
    refine ⟨fun n σ H => ∃ ρ F env st, Rl T ρ F H st ∧ EnvR T ρ F [] env σ ∧ OkS T W ρ F (wlp (fun env st => (evE cf nf c env st).bind fun x st1 => .ok (truV st1 x.1) st1) (fun env st => exSs cf nf fuel b env st) n env st) D, ⟨fuel, ρ, F, env, st, r, en, h⟩, ?_⟩
    rintro n σ1 H1 ⟨ρ1, F1, env1, st1, r1, en1, h1⟩
    cases n with
    | zero => exact h1.elim
    | succ n =>
      unfold wlp at h1
      rw [R.on_bind] at h1
      refine ⟨ρ1, F1, env1, st1, r1, en1, h1.on.imp fun v st2 ρ2 F2 H2 p2 s2 r2 q2 => ?_⟩
      replace q2 : OkS T W ρ2 F2 (match truV st2 v.1 with
        | some true => match exSs cf nf fuel b env1 st2 with
          | .nx env' st' => wlp (fun env st => (evE cf nf c env st).bind fun x st1 => .ok (truV st1 x.1) st1) (fun env st => exSs cf nf fuel b env st) n env' st'
          | .ct env' st' => wlp (fun env st => (evE cf nf c env st).bind fun x st1 => .ok (truV st1 x.1) st1) (fun env st => exSs cf nf fuel b env st) n env' st'
          | .bk env' st' => .nx env' st'
          | r => r
        | some false => .nx env1 st2
        | none => .no) D := q2
      split at q2
      · rename_i e
        refine ⟨true, e, ?_⟩
        dsimp only
        rw [if_pos rfl]
        refine ⟨fun σ' H' => ∃ ρ F env st, Rl T ρ F H' st ∧ EnvR T ρ F [] env σ' ∧ OkS T W ρ F (wlp (fun env st => (evE cf nf c env st).bind fun x st1 => .ok (truV st1 x.1) st1) (fun env st => exSs cf nf fuel b env st) n env st) D, fun σ' H' w => ⟨n, Nat.lt_succ_self n, w⟩, ρ2, F2, env1, st2, r2, en1.mono p2 s2, ?_⟩
        exact OkS.loop q2 fun ρ3 F3 env3 st3 H3 σ3 p3 s3 r3 en3 q3 => ⟨ρ3, F3, env3, st3, r3, en3, q3⟩
      · rename_i e
        refine ⟨false, e, ?_⟩
        dsimp only
        rw [if_neg (by decide)]
        exact q2.nx r2 (en1.mono p2 s2)
      · exact q2.elim
theorem s_for {tg : Tg} {k : Ik} {es : List Ex} {b : List Sx} {t it : Expr} {p : List Stmt} {pos : Pos} (am : AmS T C W cf nf X) (hs : X.env.scope = sc) (h0 : okT X.N sc tru tg t = true) (hi : PI X t it (tI T W cf nf tg k es)) (hf : ∀ v, foldedSetIterable it X.env v = pure v) (h2 : PSs X p (tSs T W cf nf fuel b)) : PS X (.For t it p [] pos) (tS T W cf nf fuel (.for_ tg k es b)) :=
  (ps_for am.po am.calm hi (g_tg (T := T) am.hT am.calm am.nd hs am.ff tg t h0) h2 hf).imp fun D σ H ⟨ρ, F, env, st, r, en, h⟩ => by
    unfold exS at h
    refine ⟨ρ, F, env, st, r, en, h.on.imp fun vs st1 ρ1 F1 H1 p1 s1 r1 q1 => ?_⟩
    split at q1
    rotate_left
    · exact q1.elim
    rename_i ds e
    refine ⟨ds, e, fun J hJ => ⟨fun i m σ H => m = ds.length - i ∧ i ≤ ds.length ∧ ∃ ρ F env st, Sub F1 F ∧ Rl T ρ F H st ∧ EnvR T ρ F [] env σ ∧ OkS T W ρ F (flp (fun x env st => match setT x env tg with
      | some env' => exSs cf nf fuel b env' st
      | none => .no) (ds.drop i) env st) D, ⟨ds.length, by simp, Nat.zero_le _, ρ1, F1, env, st1, Sub.refl F1, r1, en.mono p1 s1, q1⟩, ?_⟩⟩
    rintro i m σ2 H2 ⟨rfl, hi2, ρ2, F2, env2, st2, s2, r2, en2, q2⟩
    obtain ⟨y1, y2, y3⟩ := hJ T.hid i ρ2 F2 H2 st2 s2 r2
    by_cases hlt : i < ds.length
    · refine .inr ⟨y1 hlt, fun σ' H' => i + 1 ≤ ds.length ∧ ∃ ρ F env st, Sub F1 F ∧ Rl T ρ F H' st ∧ EnvR T ρ F [] env σ' ∧ OkS T W ρ F (flp (fun x env st => match setT x env tg with
        | some env' => exSs cf nf fuel b env' st
        | none => .no) (ds.drop (i + 1)) env st) D, fun σ' H' w => ⟨ds.length - (i + 1), by omega, rfl, w⟩, fun v H3 hy => ?_⟩
      obtain ⟨d, e1, r3, it3⟩ := y3 v H3 hlt hy
      have e2 : ds.drop i = d :: ds.drop (i + 1) := by
        rw [List.drop_eq_getElem_cons hlt]
        have := List.getElem?_eq_some_iff.mp e1
        rw [this.2]
      rw [e2] at q2
      unfold flp at q2
      cases e3 : setT d env2 tg with
      | none => rw [e3] at q2; exact q2.elim
      | some env' =>
        rw [e3] at q2
        refine ⟨ρ2, F2, [], env2, d, env', r3.sub, en2, ?_, e3, fun σ' q3 _ => ⟨ρ2, F2, env', st2, r3, q3 [] fun j _ => .inl (by simp), ?_⟩⟩
        · cases tg with
          | nm _ => exact it3
          | tu _ => exact it3
        · exact OkS.loop q2 fun ρ4 F4 env4 st4 H4 σ4 p4 s4 r4 en4 q4 => ⟨hlt, ρ4, F4, env4, st4, s2.trans s4, r4, en4, q4⟩
    · have ei : i = ds.length := by omega
      subst ei
      refine .inl ⟨y2 rfl, ?_⟩
      rw [List.drop_length] at q2
      exact OkS.nx q2 r2 en2
theorem flpW_cons {ok : Store → Bool} {f : PyData → Env → Store → SR} {x : PyData} {xs : List PyData} {env : Env} {st : Store} (h : ok st = true) : flpW ok f (x :: xs) env st = (match f x env st with
    | .nx env' st' => flpW ok f xs env' st'
    | .ct env' st' => flpW ok f xs env' st'
    | .bk env' st' => .nx env' st'
    | r => r) := by
  conv => lhs; unfold flpW
  rw [if_pos h] <;> rfl
theorem flpW_nil {ok : Store → Bool} {f : PyData → Env → Store → SR} {env : Env} {st : Store} (h : ok st = true) : flpW ok f [] env st = .nx env st := by
  unfold flpW
  rw [if_pos h]
theorem flpW_no {ok : Store → Bool} {f : PyData → Env → Store → SR} {env : Env} {st : Store} (h : ¬ ok st = true) : ∀ xs, flpW ok f xs env st = .no
  | [] => by unfold flpW; rw [if_neg h]
  | _ :: _ => by unfold flpW; rw [if_neg h]
theorem flpW_ok {ok : Store → Bool} {f : PyData → Env → Store → SR} {xs : List PyData} {env : Env} {st : Store} {ρ : List Addr} {F : Hp} {D : Ends} (h : OkS T W ρ F (flpW ok f xs env st) D) : ok st = true := by
  by_cases e : ok st = true
  · exact e
  · rw [flpW_no e] at h
    exact h.elim
theorem s_forR {tg : Tg} {a : Ex} {b : List Sx} {t it : Expr} {p : List Stmt} {pos : Pos} (am : AmS T C W cf nf X) (hs : X.env.scope = sc) (h0 : okT X.N sc tru tg t = true) (hi : PI X t it (tIR T W cf nf tg a)) (hf : ∀ u, foldedSetIterable it X.env u = pure u) (h2 : PSs X p (tSs T W cf nf fuel b)) : PS X (.For t it p [] pos) (tS T W cf nf fuel (.forR tg a b)) :=
  (ps_for am.po am.calm hi (g_tg (T := T) am.hT am.calm am.nd hs am.ff tg t h0) h2 hf).imp fun D σ H ⟨ρ, F, env, st, r, en, h⟩ => by
    unfold exS at h
    refine ⟨ρ, F, env, st, r, en, h.on.imp fun v st1 ρ1 F1 H1 p1 s1 r1 q1 => ?_⟩
    split at q1
    rotate_left
    · exact q1.elim
    rename_i ds e
    refine ⟨ds, e, fun J hJ => ⟨fun i m σ H => m = ds.length - i ∧ i ≤ ds.length ∧ ∃ ρ F env st, ρ1 <+: ρ ∧ Sub F1 F ∧ Rl T ρ F H st ∧ EnvR T ρ F [] env σ ∧ OkS T W ρ F (flpW (okW v.1 st1) (fun x env st => match setT x env tg with
      | some env' => exSs cf nf fuel b env' st
      | none => .no) (ds.drop i) env st) D, ⟨ds.length, by simp, Nat.zero_le _, ρ1, F1, env, st1, List.prefix_refl _, Sub.refl F1, r1, en.mono p1 s1, q1⟩, ?_⟩⟩
    rintro i m σ2 H2 ⟨rfl, hi2, ρ2, F2, env2, st2, p2, s2, r2, en2, q2⟩
    have hok := flpW_ok q2
    obtain ⟨y1, y2, y3⟩ := hJ T.hid i ρ2 F2 H2 st2 p2 s2 r2 hok
    by_cases hlt : i < ds.length
    · refine .inr ⟨y1 hlt, fun σ' H' => i + 1 ≤ ds.length ∧ ∃ ρ F env st, ρ1 <+: ρ ∧ Sub F1 F ∧ Rl T ρ F H' st ∧ EnvR T ρ F [] env σ' ∧ OkS T W ρ F (flpW (okW v.1 st1) (fun x env st => match setT x env tg with
        | some env' => exSs cf nf fuel b env' st
        | none => .no) (ds.drop (i + 1)) env st) D, fun σ' H' w => ⟨ds.length - (i + 1), by omega, rfl, w⟩, fun u H3 hy => ?_⟩
      obtain ⟨d, e1, r3, it3⟩ := y3 u H3 hlt hy
      have e2 : ds.drop i = d :: ds.drop (i + 1) := by
        rw [List.drop_eq_getElem_cons hlt]
        have := List.getElem?_eq_some_iff.mp e1
        rw [this.2]
      rw [e2, flpW_cons hok] at q2
      cases e3 : setT d env2 tg with
      | none => rw [e3] at q2; exact q2.elim
      | some env' =>
        rw [e3] at q2
        refine ⟨ρ2, F2, [], env2, d, env', r3.sub, en2, ?_, e3, fun σ' q3 _ => ⟨ρ2, F2, env', st2, r3, q3 [] fun j _ => .inl (by simp), ?_⟩⟩
        · cases tg with
          | nm _ => exact it3
          | tu _ => exact it3
        · exact OkS.loop q2 fun ρ4 F4 env4 st4 H4 σ4 p4 s4 r4 en4 q4 => ⟨hlt, ρ4, F4, env4, st4, p2.trans p4, s2.trans s4, r4, en4, q4⟩
    · have ei : i = ds.length := by omega
      subst ei
      refine .inl ⟨y2 rfl, ?_⟩
      rw [List.drop_length, flpW_nil hok] at q2
      exact OkS.nx q2 r2 en2
theorem t_dead {D : Ends} {σ : L2.St} {H : Hp} (q : tS T W cf nf fuel .dead D σ H) : tNever D σ H := by
  obtain ⟨ρ, F, env, st, r, en, h⟩ := q
  unfold exS at h
  exact h.elim
theorem t_setz {i : Nat} {a : Ex} {D : Ends} {σ : L2.St} {H : Hp} (q : tS T W cf nf fuel (.setz i a) D σ H) : tAsg (tE T W cf nf a) (gName i) D σ H := by
  obtain ⟨ρ, F, env, st, r, en, h⟩ := q
  unfold exS at h
  refine ⟨ρ, F, env, st, r, en, h.on.imp fun v st1 ρ1 F1 H1 p1 s1 r1 q x fx => ?_⟩
  obtain ⟨F2, s2, r2, v2⟩ := fx.frz r1
  split at q
  · rename_i d st2 e
    obtain ⟨F3, s3, r3, d3⟩ := v2.frzd r2 e
    exact (q.mono (List.prefix_refl _) (s2.trans s3)).nx r3 ((en.mono p1 (s1.trans (s2.trans s3))).put0 (v := .d d) d3)
  · exact q.elim
theorem t_pass {D : Ends} {σ : L2.St} {H : Hp} (q : tS T W cf nf fuel .pass D σ H) : tNext D σ H := by
  obtain ⟨ρ, F, env, st, r, en, h⟩ := q
  unfold exS at h
  exact OkS.nx h r en
theorem t_brk {D : Ends} {σ : L2.St} {H : Hp} (q : tS T W cf nf fuel .brk D σ H) : tBreak D σ H := by
  obtain ⟨ρ, F, env, st, r, en, h⟩ := q
  unfold exS at h
  exact h ρ F H σ (List.prefix_refl _) (Sub.refl F) r en
theorem t_cont {D : Ends} {σ : L2.St} {H : Hp} (q : tS T W cf nf fuel .cont D σ H) : tCont D σ H := by
  obtain ⟨ρ, F, env, st, r, en, h⟩ := q
  unfold exS at h
  exact h ρ F H σ (List.prefix_refl _) (Sub.refl F) r en
theorem t_nil {D : Ends} {σ : L2.St} {H : Hp} (q : tSs T W cf nf fuel [] D σ H) : tNext D σ H := by
  obtain ⟨ρ, F, env, st, r, en, h⟩ := q
  unfold exSs at h
  exact OkS.nx h r en
theorem snd_As (as : List Ex) : ∀ a ∈ as, SndE cf nf a := snd_Es as
mutual
theorem snd_S : ∀ a : Sx, SndS cf nf fuel a
  | .set i a => fun T W C X sc s am hs h => by
    unfold okS at h
    split at h
    · rename_i t v p hx
      have e0 := asAsg_eq hx
      subst e0
      exact (s_set am hs h).imp fun D σ H q => t_set (t := false) (by unfold tS exS at q; exact q)
    · cases h
  | .thaw i a => fun T W C X sc s am hs h => by
    unfold okS at h
    split at h
    · rename_i t v p hx
      have e0 := asAsg_eq hx
      subst e0
      exact (s_set am hs h).imp fun D σ H q => t_set (t := true) (by unfold tS exS at q; exact q)
    · cases h
  | .setz i a => fun T W C X sc s am hs h => by
    unfold okS at h
    split at h
    · rename_i t v p hx
      have e0 := asAsg_eq hx
      subst e0
      exact (s_set am hs h).imp fun D σ H q => t_setz q
    · cases h
  | .dead => fun T W C X sc s am hs h => ps_never.imp fun D σ H q => t_dead q
  | .par is as => fun T W C X sc s am hs h => by
    unfold okS at h
    split at h
    · rename_i t v p hx
      have e0 := asAsg_eq hx
      subst e0
      exact s_par am hs h
    · cases h
  | .unp tg a => fun T W C X sc s am hs h => by
    unfold okS at h
    split at h
    · rename_i t v p hx
      have e0 := asAsg_eq hx
      subst e0
      exact s_unp am hs h
    · cases h
  | .aug i op a => fun T W C X sc s am hs h => by
    unfold okS at h
    split at h
    · rename_i t o v p hx
      have e0 := asAug_eq hx
      subst e0
      exact s_aug am hs h
    · cases h
  | .setI o i a => fun T W C X sc s am hs h => by
    unfold okS at h
    split at h
    · rename_i t v p hx
      have e0 := asAsg_eq hx
      subst e0
      exact s_setI am hs h
    · cases h
  | .augI o i op a => fun T W C X sc s am hs h => by
    unfold okS at h
    split at h
    · rename_i t o2 v p hx
      have e0 := asAug_eq hx
      subst e0
      exact s_augI am hs h
    · cases h
  | .setF o cs a => fun T W C X sc s am hs h => by
    unfold okS at h
    split at h
    · rename_i t v p hx
      have e0 := asAsg_eq hx
      subst e0
      exact s_setF am hs h
    · cases h
  | .ex a => fun T W C X sc s am hs h => by
    unfold okS at h
    split at h
    · rename_i v p hx
      have e0 := asEx_eq hx
      subst e0
      simp only [Bool.and_eq_true, Bool.not_eq_true'] at h
      exact (ps_expr (snd_E a T W C X sc v am.toAmb hs h.2).1 (sw_val h.1)).imp fun D σ H ⟨ρ, F, env, st, r, en, h⟩ => by
        unfold exS at h
        refine ⟨ρ, F, env, st, r, en, h.on.imp fun v st1 ρ1 F1 H1 p1 s1 r1 q x fx => OkS.nx q r1 (en.mono p1 s1)⟩
    · cases h
  | .ret a => fun T W C X sc s am hs h => by
    unfold okS at h
    split at h
    · rename_i v hx
      obtain ⟨p, rfl⟩ := asRet_eq hx
      exact (ps_ret (snd_E a T W C X sc v am.toAmb hs h).1).imp fun D σ H ⟨ρ, F, env, st, r, en, h⟩ => by
        unfold exS at h
        refine ⟨ρ, F, env, st, r, en, h.on.imp fun v st1 ρ1 F1 H1 p1 s1 r1 q x fx => q ρ1 F1 H1 x (List.prefix_refl _) (Sub.refl F1) r1 fx⟩
    · cases h
  | .retN => fun T W C X sc s am hs h => by
    unfold okS at h
    split at h
    · rename_i hx
      obtain ⟨p, rfl⟩ := asRet_eq hx
      exact ps_retN.imp fun D σ H ⟨ρ, F, env, st, r, en, h⟩ => by
        unfold exS at h
        exact h ρ F H .non (List.prefix_refl _) (Sub.refl F) r (.inl ⟨rfl, .non⟩)
    · cases h
  | .ifs c a b => fun T W C X sc s am hs h => by
    unfold okS at h
    split at h
    · rename_i x p q hx
      obtain ⟨pos, rfl⟩ := asIfS_eq hx
      simp only [Bool.and_eq_true] at h
      exact s_if (snd_E c T W C X sc x am.toAmb hs h.1.1).2.1 (snd_Ss a T W C X sc p am hs h.1.2) (snd_Ss b T W C X sc q am hs h.2)
    · cases h
  | .whl c b => fun T W C X sc s am hs h => by
    unfold okS at h
    split at h
    · rename_i x p hx
      obtain ⟨pos, rfl⟩ := asWhl_eq hx
      simp only [Bool.and_eq_true] at h
      exact s_while am (snd_E c T W C X sc x am.toAmb hs h.1).2.1 (snd_Ss b T W C X sc p am hs h.2)
    · cases h
  | .forR tg a b => fun T W C X sc s am hs h => by
    unfold okS at h
    split at h
    · rename_i t it p hx
      obtain ⟨pos, rfl⟩ := asForS_eq hx
      simp only [Bool.and_eq_true, Bool.not_eq_true'] at h
      exact s_forR am hs h.1.1.1 (i_own (snd_E a T W C X sc it am.toAmb hs h.1.2).1) (fun v => fold_plain h.1.1.2 _ v) (snd_Ss b T W C X sc p am hs h.2)
    · cases h
  | .for_ tg k es b => fun T W C X sc s am hs h => by
    unfold okS at h
    split at h
    · rename_i t it p hx
      obtain ⟨pos, rfl⟩ := asForS_eq hx
      simp only [Bool.and_eq_true] at h
      obtain ⟨i1, i2⟩ := snd_I (T := T) (snd_As es) am.toAmb hs h.1.1.2 h.1.2
      exact s_for am hs h.1.1.1 i1 i2 (snd_Ss b T W C X sc p am hs h.2)
    · cases h
  | .raise_ c as => fun T W C X sc s am hs h => by
    unfold okS at h
    split at h
    · rename_i n p x q r hx
      have e0 := asRaise_eq hx
      subst e0
      simp only [Bool.and_eq_true, Bool.not_eq_true'] at h
      obtain ⟨⟨⟨h1, h2⟩, h3⟩, h4⟩ := h
      cases as with
      | nil => unfold okEs at h4; cases h4
      | cons a as =>
        cases as with
        | cons _ _ => unfold okEs at h4; simp [okEs] at h4
        | nil =>
          unfold okEs at h4
          simp only [Bool.and_eq_true] at h4
          exact s_raise am.toAmb hs h1 (isGE_eq h2) h3 (snd_E a T W C X sc x am.toAmb hs h4.1.2).1
    · cases h
  | .pass => fun T W C X sc s am hs h => by
    unfold okS at h
    cases s <;> first | (cases h; done) | exact ps_pass.imp fun D σ H q => t_pass q
  | .brk => fun T W C X sc s am hs h => by
    unfold okS at h
    cases s <;> first | (cases h; done) | exact ps_break.imp fun D σ H q => t_brk q
  | .cont => fun T W C X sc s am hs h => by
    unfold okS at h
    cases s <;> first | (cases h; done) | exact ps_continue.imp fun D σ H q => t_cont q
  termination_by structural a => a
theorem snd_Ss : ∀ as : List Sx, SndSs cf nf fuel as
  | [] => fun T W C X sc ss am hs h => by
    cases ss with
    | cons _ _ => unfold okSs at h; cases h
    | nil => exact pss_nil.imp fun D σ H q => t_nil q
  | a :: as => fun T W C X sc ss am hs h => by
    have q1 := snd_S a
    have q2 := snd_Ss as
    cases ss with
    | nil => unfold okSs at h; cases h
    | cons s ss =>
      unfold okSs at h
      rw [Bool.and_eq_true] at h
      exact (pss_cons (q1 T W C X sc s am hs h.1) (q2 T W C X sc ss am hs h.2)).imp fun D σ H ⟨ρ, F, env, st, r, en, h⟩ => by
        unfold exSs at h
        exact ⟨ρ, F, env, st, r, en, OkS.bind h⟩
  termination_by structural as => as
end
end
end Ev
end

section
set_option Elab.async false
set_option linter.all false
set_option maxRecDepth 100000
set_option maxHeartbeats 4000000
/-! Ev23: the end of a def, the end of a making. -/
namespace Ev
open PySem PySem.Spec PyProof.Rows L2
section
variable {T : Tab} {E : XK} {ρ ρ' : List Addr} {F F' H : Hp} {st st1 : Store} {Q : VK}
theorem pre_take {α : Type} {l l' : List α} (p : l <+: l') : l'.take l.length = l := by
  obtain ⟨t, rfl⟩ := p
  simp
theorem VlR.cut {b : Nat} {v : Vl} {x : V} (h : VlR T ρ F v x) (hv : ∀ n, v = .ref n → n < b) : VlR T (ρ.take b) F v x := by
  cases v with
  | d y => exact h
  | ref n =>
    obtain ⟨a, e, h1⟩ := h
    exact ⟨a, e, by rw [List.getElem?_take_of_lt (hv n rfl)]; exact h1⟩
  | scr l => exact h
  | kc l => exact h
theorem take_not {b n : Nat} {a : Addr} (nd : ρ.Nodup) (h : ρ[n]? = some a) (hb : b ≤ n) : a ∉ ρ.take b := fun hm => by
  obtain ⟨m, hm1⟩ := List.mem_iff_getElem?.mp hm
  have hlt : m < b := by
    have := (List.getElem?_eq_some_iff.mp hm1).1
    rw [List.length_take] at this
    omega
  rw [List.getElem?_take_of_lt hlt] at hm1
  have := nodup_at nd hm1 h
  omega
theorem FrR.cut {b : Nat} {v : Vl} {fr : Bool} {x : V} (h : FrR T ρ F H (v, fr) x) (hv : ∀ n, v ≠ .ref n) : FrR T (ρ.take b) F H (v, fr) x := by
  rcases h with ⟨h1, h2⟩ | ⟨h1, l, a, xs, e, e2, g1, g2, g3, g4, g5⟩
  · exact .inl ⟨h1, h2.cut fun n e => absurd e (hv n)⟩
  · exact .inr ⟨h1, l, a, xs, e, e2, g1, g2, fun z => g3 (List.mem_of_mem_take z), g4, g5⟩
theorem hid_ref (r : Rl T ρ F H st) {n : Nat} {a : Addr} (h : ρ[n]? = some a) : ∀ q ∈ T.hid, q.1 ≠ a := fun q hq e => (r.hid q hq).2.2 (by rw [e]; exact List.mem_of_getElem? h)
/-- a local object that is handed out -/
theorem fin_obj {b n : Nat} {o : Ob} {x : V} (hb : b = ρ.length) (p : ρ <+: ρ') (s : Sub F F') (r : Rl T ρ' F' H st1) (hx : VlR T ρ' F' (.ref n) x) (hn : b ≤ n) (h0 : getO st1 n = some o) (h : OkP T (wOf T.kc E) ρ F (.ok (.ref b, false) (st1.take b ++ [some o])) Q) : Q x H := by
  obtain ⟨a, rfl, h1⟩ := hx
  obtain ⟨a2, q1, q2, q3⟩ := r.obj n o h0
  rw [h1] at q1
  cases q1
  have e : ρ'.take b = ρ := by rw [hb]; exact pre_take p
  have r2 := (r.cut (b := b)).push (take_not r.nd h1 hn) q2 q3 (hid_ref r h1)
  rw [e] at r2
  refine h (ρ ++ [a]) F' H (List.prefix_append _ _) s r2 _ (.inl ⟨rfl, a, rfl, ?_⟩)
  rw [hb, List.getElem?_append_right (Nat.le_refl _), Nat.sub_self]; rfl
theorem end_ok {b : Nat} {r : SR} (hb : b = ρ.length) (h : OkP T (wOf T.kc E) ρ F (endV b r) Q) : OkS T (wOf T.kc E) ρ F r { nx := fun _ H => Q .non H, rt := Q } := by
  have et : ∀ {ρ1 : List Addr}, ρ <+: ρ1 → ρ1.take b = ρ := fun p => by rw [hb]; exact pre_take p
  cases r with
  | nx env st1 =>
    intro ρ1 F1 H1 σ1 p1 s1 r1 en1
    have r2 := r1.cut (b := b)
    rw [et p1] at r2
    exact h ρ F1 H1 (List.prefix_refl _) s1 r2 _ (.inl ⟨rfl, .non⟩)
  | bk env st1 => exact h.elim
  | ct env st1 => exact h.elim
  | no => exact h.elim
  | exc c q env st1 =>
    intro ρ1 F1 H1 p1 s1 r1
    have r2 := r1.cut (b := b)
    rw [et p1] at r2
    exact h ρ F1 H1 (List.prefix_refl _) s1 r2
  | ret v fr st1 =>
    intro ρ1 F1 H1 x p1 s1 r1 fx
    have r2 := r1.cut (b := b)
    rw [et p1] at r2
    have plain : (∀ n, v ≠ .ref n) → OkP T (wOf T.kc E) ρ F (.ok (v, fr) (st1.take b)) Q → Q x H1 := fun hv h => by
      have f2 := fx.cut (b := b) hv
      rw [et p1] at f2
      exact h ρ F1 H1 (List.prefix_refl _) s1 r2 x f2
    cases v with
    | d y => exact plain (fun n e => by cases e) h
    | scr l => exact plain (fun n e => by cases e) h
    | kc l => exact plain (fun n e => by cases e) h
    | ref n =>
      have vx : VlR T ρ1 F1 (.ref n) x := by
        rcases fx with ⟨_, q⟩ | ⟨_, l, a, xs, e, _⟩
        · exact q
        · cases e
      replace h : OkP T (wOf T.kc E) ρ F (if n < b then .ok (.ref n, false) (st1.take b) else match getO st1 n with
        | some (.lst l) => .ok (.d (.list l), true) (st1.take b)
        | some (.dK kvs) => .ok (.ref b, false) (st1.take b ++ [some (.dK kvs)])
        | some (.dT kvs) => .ok (.ref b, false) (st1.take b ++ [some (.dT kvs)])
        | _ => .no) Q := h
      split at h
      · rename_i hn
        have v2 := vx.cut (b := b) fun m e => by cases e; exact hn
        rw [et p1] at v2
        exact h ρ F1 H1 (List.prefix_refl _) s1 r2 x (.inl ⟨rfl, v2⟩)
      · rename_i hn
        split at h
        · rename_i l h0
          obtain ⟨a, rfl, ha⟩ := vx
          obtain ⟨a2, q1, q2, xs, q3, q4⟩ := r1.obj n _ h0
          rw [ha] at q1
          cases q1
          have hna := take_not r1.nd ha (show b ≤ n by omega)
          rw [et p1] at hna
          exact h ρ F1 H1 (List.prefix_refl _) s1 r2 _ (.inr ⟨rfl, l, a, xs, rfl, rfl, q3, q2, hna, q4, hid_ref r1 ha⟩)
        · rename_i kvs h0
          exact fin_obj hb p1 s1 r1 vx (by omega) h0 h
        · rename_i kvs h0
          exact fin_obj hb p1 s1 r1 vx (by omega) h0 h
        · exact h.elim
theorem VlsR.get : ∀ {vs : List Vl} {xs : List V} {i : Nat} {v : Vl}, VlsR T ρ F vs xs → vs[i]? = some v → ∃ x, xs[i]? = some x ∧ VlR T ρ F v x
  | _, _, _, _, .nil, h => by simp at h
  | _, _, 0, _, .cons a _, h => by
    simp at h; subst h
    exact ⟨_, rfl, a⟩
  | _, _, i + 1, _, .cons _ r, h => by
    obtain ⟨x, h1, h2⟩ := VlsR.get (i := i) r (by simpa using h)
    exact ⟨x, by simpa using h1, h2⟩
theorem VlsR.length : ∀ {vs : List Vl} {xs : List V}, VlsR T ρ F vs xs → vs.length = xs.length
  | _, _, .nil => rfl
  | _, _, .cons _ r => by rw [List.length_cons, List.length_cons, VlsR.length r]
/-- the frame at a def's entry -/
theorem env_start {N : List Str} {vs : List Vl} {xs : List V} {ns : Nat} (h : VlsR T ρ F vs xs) (hn : N.length = ns) : EnvR T ρ F [] (vs.map some ++ List.replicate (ns - vs.length) none) (L2.start N xs) := by
  refine ⟨by unfold L2.start; simp [h.length, hn], fun i v _ e => ?_⟩
  have hi : i < vs.length := by
    by_cases hi : i < vs.length
    · exact hi
    · rw [List.getElem?_append_right (by simpa using hi)] at e
      rw [List.getElem?_replicate] at e
      split at e <;> simp at e
  rw [List.getElem?_append_left (by simpa using hi), List.getElem?_map] at e
  cases e1 : vs[i]? with
  | none => rw [e1] at e; simp at e
  | some w =>
    rw [e1] at e
    simp at e
    subst e
    obtain ⟨x, h1, h2⟩ := h.get e1
    refine ⟨x, ?_, h2⟩
    unfold L2.start
    rw [List.getElem?_append_left (by simpa [← h.length] using hi), List.getElem?_map, h1]; rfl
/-- what no living object is may be frozen -/
theorem Rl.freezeD {p : Addr} {o : HO} (h : Rl T ρ F H st) (hp : H p = some o) (ho : ∃ y, o = .own y) : ∃ F', Sub F F' ∧ Rl T ρ F' H st ∧ F' p = some o := by
  obtain ⟨y, rfl⟩ := ho
  cases hF : F p with
  | some u =>
    have := h.sub p u hF
    rw [hp] at this
    cases this
    exact ⟨F, Sub.refl F, h, hF⟩
  | none =>
    refine ⟨upd F p (.own y), Sub.intoF hF, ⟨h.sub.updF hp, h.len, h.nd, h.trk, fun n o e => ?_, fun q hq => ?_, ?_⟩, upd_same⟩
    · obtain ⟨a, h1, h2, h3⟩ := h.obj n o e
      have hne : a ≠ p := fun z => by
        subst z
        cases o with
        | lst l => obtain ⟨xs, g, _⟩ := h3; rw [hp] at g; cases g
        | dK l => obtain ⟨xs, g, _⟩ := h3; rw [hp] at g; cases g
        | dT l => obtain ⟨xs, g, _⟩ := h3; rw [hp] at g; cases g
        | obj c fs =>
          obtain ⟨dx, vs, g, _⟩ := h3
          obtain ⟨u, hu, hn⟩ := slAt_own g
          rw [hp] at hu
          exact hn y (Option.some.inj hu).symm
      exact ⟨a, h1, by rw [upd_ne hne]; exact h2, h3.keep (fun _ _ e _ => e) (Sub.intoF hF)⟩
    · obtain ⟨q1, q2, q3⟩ := h.hid q hq
      refine ⟨q1, ?_, q3⟩
      rw [upd_ne fun z => by rw [z, hp] at q1; cases q1]
      exact q2
    · exact h.tb.step (fun _ _ e _ => e) (Sub.intoF hF) (h.tb.no fun _ z => nomatch z)
theorem allSome_eq : ∀ {fs : List (Option PyData)} {xs : List PyData}, allSome fs = some xs → fs = xs.map some
  | [], _, h => by cases h; rfl
  | some x :: r, xs, h => by
    unfold allSome at h
    obtain ⟨ys, e1, e2⟩ := map_some h
    rw [← e2, allSome_eq e1]; rfl
  | none :: r, _, h => by cases h
theorem fsR_all : ∀ {xs : List PyData} {vs : List (Option V)}, FsR T F vs (xs.map some) → DqFs T.kc F vs xs
  | [], _, _ => .nil
  | x :: xs, vs, h => by
    rw [List.map_cons] at h
    cases h with
    | some d r => exact .cons d (fsR_all r)
/-- a new instance joins the store -/
theorem new_start {c k : Nat} {x dx : Addr} (r : Rl T ρ F H st) (hx : H x = none) (hd : H dx = none) (hne : dx ≠ x) : Rl T (ρ ++ [x]) F (upd (upd H dx (.own x)) x (.ins (T.cA c) dx [])) (st ++ [some (.obj c (List.replicate k none))]) ∧ VlR T (ρ ++ [x]) F (.ref st.length) (.ref x) := by
  have hx2 : upd H dx (.own x) x = none := by rw [upd_ne (Ne.symm hne)]; exact hx
  have r2 := (r.new (o := .own x) hd).new (o := .ins (T.cA c) dx []) hx2
  refine ⟨r2.push (r.notin hx) (r.noneF hx) ⟨dx, [], SlAt.made hne, fs_of fun i d e => ?_⟩ (r.nohid hx), x, rfl, ?_⟩
  · rw [List.getElem?_replicate] at e
    split at e <;> simp at e
  · rw [← r.len, List.getElem?_append_right (Nat.le_refl _), Nat.sub_self]; rfl
/-- an instance is made: what its variables were is told for good -/
theorem new_end {c : Nat} {x : Addr} {vs : List Vl} {k : Nat × Nat} {cf : CallF} (hc : c < T.ncl) (hl : ρ.length = st.length) (h : OkP T (wOf T.kc E) ρ F (newV cf k c vs st) Q) :
    OkP T (wOf T.kc E) (ρ ++ [x]) F (cf k.1 (.ref st.length :: vs) (st ++ [some (.obj c (List.replicate k.2 none))])) fun v H2 => v = .non ∧ Q (.ref x) H2 := by
  unfold newV at h
  cases e : cf k.1 (.ref st.length :: vs) (st ++ [some (.obj c (List.replicate k.2 none))]) with
  | no => rw [e] at h; exact h.elim
  | exc c2 q st1 =>
    rw [e] at h
    intro ρ1 F1 H1 p1 s1 r1
    have r2 := r1.cut (b := st.length)
    have e2 : ρ1.take st.length = ρ := by rw [← hl]; exact pre_take ((List.prefix_append ρ [x]).trans p1)
    rw [e2] at r2
    exact h ρ F1 H1 (List.prefix_refl _) s1 r2
  | ok w st1 =>
    rw [e] at h
    intro ρ1 F1 H1 p1 s1 r1 y fy
    replace h : OkP T (wOf T.kc E) ρ F (if isNon w.1 = true then match getO st1 st.length with
      | some (.obj c2 fs) => if c2 = c then match allSome fs with
        | some xs => .ok (.d (encI c xs), false) (st1.take st.length)
        | none => .no else .no
      | _ => .no else .no) Q := h
    split at h
    rotate_left
    · exact h.elim
    rename_i hw
    have hy : y = .non := by
      obtain ⟨w, b⟩ := w
      cases w with
      | d z =>
        cases z <;> first | (cases hw; done) | skip
        rcases fy with ⟨_, q⟩ | ⟨_, l, a, xs, e1, _⟩
        · cases q; rfl
        · cases e1
      | _ => cases hw
    refine ⟨hy, ?_⟩
    split at h
    · rename_i c2 fs h0
      split at h
      · rename_i ec
        subst ec
        split at h
        · rename_i xs hxs
          have e2 : ρ1.take st.length = ρ := by rw [← hl]; exact pre_take ((List.prefix_append ρ [x]).trans p1)
          have hx : ρ1[st.length]? = some x := pre_get p1 (by rw [← hl, List.getElem?_append_right (Nat.le_refl _), Nat.sub_self]; rfl)
          obtain ⟨a, q1, q2, dx, ws, q3, q4⟩ := r1.obj _ _ h0
          rw [hx] at q1
          cases q1
          obtain ⟨u, hu, _⟩ := slAt_own q3
          obtain ⟨r2, s2⟩ := r1.drop hx hu q2 (slAt_tbl q3 hu)
          obtain ⟨F3, s3, r3, hdx⟩ := r2.freezeD q3.1 ⟨x, rfl⟩
          have hxF : F3 x = some u := s3 _ _ upd_same
          have sl : SlAt F3 x (T.cA c2) dx ws := by
            refine ⟨hdx, q3.2.1, ?_⟩
            rcases q3.2.2 with g | ⟨g1, g2⟩
            · left; rw [hxF]; rw [hu] at g; exact g
            · right; exact ⟨g1, by rw [hxF]; rw [hu] at g2; exact g2⟩
          have r4 := r3.cut (b := st.length)
          rw [e2, List.take_set_of_le (Nat.le_refl _)] at r4
          rw [allSome_eq hxs] at q4
          exact h ρ F3 H1 (List.prefix_refl _) (s1.trans (s2.trans s3)) r4 _ (.inl ⟨rfl, .ins hc sl (fsR_all (q4.sub (s2.trans s3)))⟩)
        · exact h.elim
      · exact h.elim
    · exact h.elim
end
end Ev
end

section
set_option Elab.async false
set_option linter.all false
set_option maxRecDepth 100000
set_option maxHeartbeats 4000000
/-! Ev24: a def, a class by the evaluator. -/
namespace Ev
open PySem PySem.Spec PyProof.Rows L2
abbrev Sp0 := List V → Hp → VK → XK → Prop
/-- a def's promise, the guards of repr empty -/
def Fok (P : Program) (w : World) (K : PySem.W.Frag) (mg : Str → Option Value) (base : Heap) (k : Nat) (f : Addr) (fd : FuncData) (ps : List Str) (sp : Sp0) : Prop :=
  ∀ (B : Around) (out : List PySem.Env) (s : Shared) (H : Hp) (ar : Args) (us : List Value) (xs : List V) (Q : VK) (E : XK), Room k B → B.guards = some [] → Env0 P w K mg base B out s H → BindsTo s fd ar (ps.zip us) → Vals xs us → xs.length = ps.length → sp xs H Q E →
    codeAny (model P w) B (.call (.ref f) ar) (CR (L2.CX P w) out P w H s Q E) s
section
variable {P : Program} {w : World} {K : PySem.W.Frag} {mg : Str → Option Value} {base : Heap}
theorem fok_of {k : Nat} {f : Addr} {x qual : Str} {pa : Arguments} {body : List Stmt} {sc : Scope} {N ps : List Str} {fd : FuncData} {sp : Sp0} (D : FunD K x qual pa body sc [] [] f fd) (S : FnScope N ps sc)
    (hb : ∀ (cv : Value) (_ : ∃ oc od dV kV doc pm an ct sl, K.lookup f = some ⟨oc, od, .func (PySem.W.fnOf x qual pa body sc dV kV doc pm an cv ct), sl⟩) (B : Around) (out : List PySem.Env) (s : Shared) (H : Hp) (xs : List V) (Q : VK) (E : XK), Room k (B.deeper (envOfC qual sc s.heap.objs.size f cv)) → B.guards = some [] → xs.length = ps.length → sp xs H Q E →
      ∃ t, PSs (cxOf (L2.CX P w) P w K mg base N qual sc f cv B out s H E) body t ∧ t { nx := fun _ H' => Q .non H', rt := Q } (L2.start N xs) H) : Fok P w K mg base (k + 1) f fd ps sp := by
  intro B out s H ar us xs Q E room hg e0 bi rv hl h
  obtain ⟨oc, od, dV, kV, doc, pm, an, cv, ct, sl, rfl, lk, co, _, _⟩ := D.ex
  have inn : K.In s.heap := e0.mod.kin.keeps fun b o q => (e0.bs b o q).1
  have nolim : s.heap.NoLimit := e0.mod.nolimit.keeps fun b o q => (e0.bs b o q).1
  have kinds : ∀ z ∈ ps.zip us, sc.names.lookup z.1 = some .local ∨ (sc.names.lookup z.1 = some .cell ∧ ((cellsFrom (s.heap.objs.size + 1) sc.names []).lookup z.1).isSome = true) := by
    intro z hz
    rcases S.par z.1 (List.of_mem_zip hz).1 with q | q
    · exact .inl q
    · exact .inr ⟨q, PySem.W.cellsFrom_some _ _ _ (.inl q)⟩
  apply codeAny_call_function room.depth (inn _ _ lk) rfl S.co S.gen rfl (PySem.W.codeRec_of inn co)
  apply bi
  apply wpAny_newFunctionEnv_cells S.kind kinds
  intro ev hev s2 ic
  subst hev
  refine ⟨nolim.keeps ic.toInCall.keep, ?_⟩
  apply codeAny_func
  obtain ⟨t, pt, ht⟩ := hb cv ⟨_, _, _, _, _, _, _, _, _, lk⟩ B out s H xs Q E (room.deeper _) hg hl h
  have I : L2.Inv (cxOf (L2.CX P w) P w K mg base N qual sc f cv B out s H E) [] (L2.start N xs) H s2 := inv_start S room.hd e0 hl rv ic
  refine wpAny_mono (pt.run [] s2 _ H _ I ht) (fun fl s3 q => ?_) fun _ _ q => q
  have done : ∀ {σ3 : L2.St} {H3 : Hp} {y : V} {u : Value}, L2.Inv (cxOf (L2.CX P w) P w K mg base N qual sc f cv B out s H E) [] σ3 H3 s3 → RelV y u → Q y H3 → CE out P w H s Q u s3 :=
    fun J ry hq => ⟨_, _, J.os, J.bare, J.base, J.hok, ry, hq⟩
  cases fl with
  | next =>
    obtain ⟨σ3, H3, J, hq⟩ := q
    exact done (y := V.non) (u := Value.none) J rfl hq
  | ret u =>
    obtain ⟨y, σ3, H3, J, ry, hq⟩ := q
    exact done J ry hq
  | brk =>
    obtain ⟨_, _, _, hq⟩ := q
    exact hq.elim
  | cont =>
    obtain ⟨_, _, _, hq⟩ := q
    exact hq.elim
end
section
variable {X : Cx}
/-- such a def is called -/
theorem fok_call {k : Nat} {f : Addr} {fd : FuncData} {ps : List Str} {sp : Sp0} {E : XK} (tk : TakesE X E) (h : Fok X.prog X.w X.K X.mg X.base k f fd ps sp) (room : Room k X.A) (hg : X.A.guards = some []) (hb : Binds X.K fd ps []) : CallR X (.ref f) (fun xs H Q => xs.length = ps.length ∧ sp xs H Q E) := by
  intro pins s σ H xs us Q I rv ⟨hl, q⟩
  have bi : BindsTo s fd ⟨us, []⟩ (ps.zip us) := by
    have := hb s us I.kIn (by rw [List.append_nil, ← rv.length]; exact hl)
    rwa [List.append_nil] at this
  apply wpAny_call
  refine codeAny_mono (h X.A X.stack s H ⟨us, []⟩ us xs Q E room hg I.env0 bi rv hl q) fun res s2 hr => ?_
  match res, hr with
  | .error e, hr => exact passes_call tk (fun _ _ _ _ h => h) pins σ H s e s2 I hr
  | .ok (.ret u), hr => exact I.after hr
  | .ok .next, hr => exact hr.elim
  | .ok .brk, hr => exact hr.elim
  | .ok .cont, hr => exact hr.elim
theorem make_guards {B : Around} {C : Addr} {us : List Value} {kw : List (Str × Value)} (h : B.guards = some []) : (B.under (.builtin "type.__call__" ⟨.ref C :: us, kw⟩)).guards = some [] := by
  first
    | exact h
    | simp [Around.under, Code.guards, Code.isGuard, guardIds, pushGuards, h]
/-- an instance is made by such an __init__ -/
theorem fok_make {k : Nat} {C f : Addr} {fd : FuncData} {ps : List Str} {sp : Sp0} {E : XK} (tk : TakesE X E) (M : Mk X.K C f) (h : Fok X.prog X.w X.K X.mg X.base k f fd ps sp) (room : Room (k + 1) X.A) (hg : X.A.guards = some []) (hb : Binds X.K fd ps []) :
    CallR X (.ref C) (fun xs H Q => xs.length + 1 = ps.length ∧ ∀ x dx, H x = none → H dx = none → dx ≠ x → sp (.ref x :: xs) (upd (upd H dx (.own x)) x (.ins C dx [])) (fun v H2 => v = .non ∧ Q (.ref x) H2) E) := by
  intro pins s σ H xs us Q I rv ⟨hl, q⟩
  have n1 := I.hok.fresh (Nat.le_refl s.heap.objs.size)
  have n2 := I.hok.fresh (Nat.le_succ s.heap.objs.size)
  have q2 := q (s.heap.objs.size + 1) s.heap.objs.size n2 n1 (Nat.ne_of_lt (Nat.lt_succ_self _))
  have J := Inv.made (C := C) I
  have rv2 : Vals (V.ref (s.heap.objs.size + 1) :: xs) (Value.ref (s.heap.objs.size + 1) :: us) := .cons rfl rv
  have bi := hb _ (Value.ref (s.heap.objs.size + 1) :: us) J.kIn (by rw [List.append_nil, ← rv2.length, List.length_cons]; exact hl)
  rw [List.append_nil] at bi
  apply wpAny_call
  refine make_map (f := f) I.kIn M.makes M.init (beq_iff_eq.mp M.fn) ?_
  refine codeAny_mono (h _ X.stack _ _ ⟨Value.ref (s.heap.objs.size + 1) :: us, []⟩ _ _ _ E (room.make C us []) (make_guards hg) (J.env0.make C us []) bi rv2 (by rw [List.length_cons]; exact hl) q2) fun res s2 hr => ?_
  match res, hr with
  | .error e, hr => exact passes_call tk (fun _ _ _ _ h => h) pins σ _ _ e s2 J hr
  | .ok (.ret u), hr =>
    obtain ⟨y, H3, I3, ry, ey, q3⟩ := J.after hr
    subst ey
    exact ⟨ry, V.ref (s.heap.objs.size + 1), H3, I3, rfl, q3⟩
  | .ok .next, hr => exact hr.elim
  | .ok .brk, hr => exact hr.elim
  | .ok .cont, hr => exact hr.elim
end
end Ev
end

section
set_option Elab.async false
set_option linter.all false
set_option maxRecDepth 100000
set_option maxHeartbeats 4000000
set_option pp.deepTerms false
set_option pp.maxSteps 800
/-! EvX8: an error is made: super().__init__(x), then slf.f = x. -/
namespace Ev
open PySem PySem.Spec PySem.W PySem.Calls PyProof.Rows Builtin Builtin.ObjectAttr
/-- what the written part tells of such a class -/
structure XFld (P : Program) (K : Frag) (C : Addr) (f : Str) (B newId initId : String) (bmB : List Value) (fI cda cc : Addr) (nm qual slf y : Str) (pa : Arguments) (body : List Stmt) (scope : Scope) : Prop where
  FB : ExcBaseFacts B newId initId bmB
  KF : KxsFacts B initId
  SF : StoreFacts B bmB "object.__setattr__" "object"
  ini : excInitIn K C bmB newId = true
  over : excOver K C bmB = true
  iC : findIn K (.ref C) "__init__" = some (some (.ref fI))
  tI : isFn K (.ref fI) = true
  lk : ∃ oc od dV kV doc pm an ct sl, K.lookup fI = some ⟨oc, od, .func (ksFn nm qual pa body scope dV kV doc pm an (.ref cda) ct cc), sl⟩ ∧ ∀ a b : Value, bindArgs (ksFn nm qual pa body scope dV kV doc pm an (.ref cda) ct cc) ⟨[a, b], []⟩ = pure [(slf, a), (y, b)]
  co : codeIn K (.ref cda) qual = true
  cd : ∃ oc od vs sl file tf, K.lookup cda = some ⟨oc, od, .fields vs, sl⟩ ∧ vs[2]? = some (.str file tf) ∧ ((P.main.file : Str) == file) = true
  cell : ∃ oc od sl, K.lookup cc = some ⟨oc, od, .cell (some (.ref C)), sl⟩
  mro : mroIn K C (.ref C) = some true
  sup : nsIn K mainGlobals "super" = some none
  sta : nsIn K cStatics "thirdparty.any" = some none
  sin : ks_superIn K C C "__init__" = some (some (.builtin initId))
  sub : subIn K (.ref C) (.type B) = some true
  sa : findIn K (.ref C) "__setattr__" = some (some (.builtin "object.__setattr__"))
  no : takerIn K C f = some none
  hd : hasDictIn K C = true
  par : (pa.posonlyargs ++ pa.args).head?.map (·.arg) = some slf
  s1 : scope.names.lookup slf = some .local
  s2 : scope.names.lookup y = some .local
  s3 : scope.names.lookup ("super" : Str) = some .globalImplicit
  s4 : scope.names.lookup ("__class__" : Str) = some .free
  s5 : ∀ x ∈ scope.names, x.2 ≠ .cell
  s6 : scope.kind = .function
  s7 : scope.isCoroutine = false
  s8 : scope.isGenerator = false
  ne : slf ≠ y
  d1 : (slf == ("__debug__" : Str)) = false
  d2 : (y == ("__debug__" : Str)) = false
  top : (P.main.scope.names.lookup ("super" : Str)).isSome = false
  bd : ∃ p0 p1 p2 p3 p4 p5 p6 p7 p8 p9, (Pos.endLine p2 == Pos.line p4) = true ∧ body = [.Expr (.Call (.Attribute (.Call (.Name "super" p0) [] [] p1) "__init__" p2) [.Name y p3] [] p4) p5, .Assign [.Attribute (.Name slf p6) f p7] (.Name y p8) p9]
section
variable {P : Program} {w : World} {A : Around} {K : Frag} {C : Addr} {f : Str} {B newId initId : String} {bmB : List Value} {fI cda cc : Addr} {nm qual slf y : Str} {pa : Arguments} {body : List Stmt} {scope : Scope}
/-- the store, no dict yet -/
theorem fld_store {h : Heap} {g : Array GenState} {d : Drawn} {t : Nat} {os : OsState} {tk : Tok} {v : Value} {x t0 : Addr} {R : Result → Shared → Prop} (F : XFld P K C f B newId initId bmB fI cda cc nm qual slf y pa body scope) (X : K.In h) (hx : h.get? x = some (excObj C t0 none .none))
    (hq : ∀ h' tk' dx, (∀ b o, b ≠ x → h.get? b = some o → h'.get? b = some o) → h.objs.size ≤ dx → dx ≠ x → h'.get? x = some (excObj C t0 (some dx) .none) → h'.Ns1 dx (fun z => if z = f then some v else none) → R (.ok (.ret .none)) ⟨h', g, d, tk', os⟩) :
    codeAny (model P w) A (.call (.builtin "object.__setattr__") ⟨[.ref x, .str f tk, v], []⟩) R ⟨h, g, d, t, os⟩ := by
  have I : InstAt h x (excObj C t0 none .none) C none := ⟨hx, rfl, rfl, trivial⟩
  have hxs : x ≠ h.objs.size := Nat.ne_of_lt (Heap.lt_size hx)
  refine osa_openX F.SF X I F.over F.no fun b => ?_
  have hd := F.hd
  unfold hasDictIn at hd
  obtain ⟨cd, hcd, hh⟩ := any_some hd
  have hcls : Looks (model P w) h (classData C) cd := looks_clsIn X hcd
  obtain ⟨nm, bs, mro, ns, qn, hd, sn, sb, ab, col, del⟩ := cd
  dsimp only at hh
  subst hh
  show wpAny (model P w) A.in1 (storeInOwnDict (.ref x) (.ref C) (.str f tk) f v b) _ _ _
  unfold storeInOwnDict ownDictForStores
  repeat (first | with_reducible refine HandSPX.store_in_new ?_ ?_ | with_reducible refine wpAny_loadPart_at hx ?_ | with_reducible refine hcls.at ?_ | wp_step)
  · exact ⟨_, #[], _, (Heap.get?_update_ne _ _ _ _ hxs.symm).trans (Heap.get?_push_at rfl rfl), rfl, fun e he => absurd he (by simp), fun _ => rfl⟩
  · intro h' tk' hn' hs
    have hx₁ : (h.push { cls := .type "dict", data := .dict #[] }).get? x = some (excObj C t0 none .none) := Heap.get?_push_of_some _ hx
    refine hq h' tk' h.objs.size (fun b o hb ho => ?_) (Nat.le_refl _) hxs.symm ?_ hn'
    · exact (hs.2 b (Nat.ne_of_lt (Heap.lt_size ho))).trans ((Heap.get?_update_ne _ _ _ _ hb).trans (Heap.get?_push_of_some _ ho))
    · exact (hs.2 x hxs).trans (Heap.get?_update_self _ hx₁ rfl)
theorem mcall_eq {o : Expr} {m y : Str} {ap q pos : Pos} {env : PySem.Env} (h : (ap.endLine == pos.line) = true) : eval (.Call (.Attribute o m ap) [.Name y q] [] pos) env = (do
    let ov ← attributeBase o m env (eval o env)
    standAt ap.atName
    let (f, first) ← holding [ov] (getMethod ov m (L2.plainOf o env))
    callWith pos f first (backTo pos (starEach [.Name y q] env)) []) := by
  rw [arm_eval_Call]
  congr
  funext ov
  congr
  funext _
  exact L2.mcall_line (by rfl) h
theorem interactive_fn {e : PySem.Env} (h : e.scope.kind = .function) : interactive e = false := by
  unfold interactive
  rw [h]
  rfl
/-- __init__ runs -/
theorem fld_init {hp h2 : Heap} {g : Array GenState} {d : Drawn} {t : Nat} {os : OsState} {u : Value} {e t0 : Addr} {mg mb : Str → Option Value} {R : Result → Shared → Prop} (F : XFld P K C f B newId initId bmB fI cda cc nm qual slf y pa body scope) (X : K.In hp) (room : A.depth < recursionLimit)
    (kp : ∀ b o, hp.get? b = some o → h2.get? b = some o) (he : h2.get? e = some (excObj C t0 none .none)) (hn : hp.get? e = none) (hz : hp.objs.size ≤ h2.objs.size) (lim : hp.NoLimit) (hg : hp.Ns mainGlobals mg) (hb : hp.Ns builtinsNs mb) (hbb : mb "super" = some (.type "super"))
    (k : ∀ h6 tk6 t6 dx, (∀ b o, hp.get? b = some o → h6.get? b = some o) → h6.get? e = some (excObj C t6 (some dx) .none) → h6.Ns1 dx (fun z => if z = f then some u else none) → hp.objs.size ≤ dx → dx ≠ e → R (.ok (.ret .none)) ⟨h6, g, d, tk6, os⟩) :
    codeAny (model P w) A (.call (.ref fI) ⟨[.ref e, u], []⟩) R ⟨h2, g, d, t, os⟩ := by
  obtain ⟨oc, od, dV, kV, doc, pm, an, ct, sl, lk, bi⟩ := F.lk
  obtain ⟨oc2, od2, vs, sl2, file, tf, lk2, v2, hfile⟩ := F.cd
  obtain ⟨oc3, od3, sl3, lk3⟩ := F.cell
  obtain ⟨p0, p1, p2, p3, p4, p5, p6, p7, p8, p9, hline, rfl⟩ := F.bd
  have X2 : K.In h2 := X.keeps kp
  have hmg : mg "super" = none := mg_none_of X hg F.sup
  obtain ⟨ar, har, hsl⟩ := Option.map_eq_some_iff.mp F.par
  refine ks_codeAny_call_defAt (s := ⟨h2, g, d, t, os⟩) (fd := ksFn nm qual pa _ scope dV kV doc pm an (.ref cda) ct cc) (binds := [(slf, .ref e), (y, u)]) room (X2 _ _ lk) rfl (lim.keeps kp) (codeRec_of X2 F.co) rfl (BindsTo.of_eq (bi _ _)) F.s5 (fun z hz => ?_) (fun h₁ hns hk₁ => ?_) F.s7 F.s8 F.s6
  · rcases List.mem_cons.mp hz with rfl | hz
    · exact F.s1
    · obtain rfl : z = (y, u) := by simpa using hz
      exact F.s2
  have kp1 : ∀ b o, hp.get? b = some o → h₁.get? b = some o := fun b o q => hk₁ _ _ (kp _ _ q)
  have m1 : ([(slf, Value.ref e), (y, u)] : List (Str × Value)).reverse.lookup slf = some (.ref e) := by
    have : (slf == y) = false := by simpa using F.ne
    simp [List.lookup, this]
  have m2 : ([(slf, Value.ref e), (y, u)] : List (Str × Value)).reverse.lookup y = some u := by simp [List.lookup]
  have F1 : Fr hp h2.objs.size h₁ (fun z => ([(slf, Value.ref e), (y, u)] : List (Str × Value)).reverse.lookup z) := ⟨hns, kp1, hz⟩
  have lt2 : e < h2.objs.size := Heap.lt_size he
  have N1 : News hp h2.objs.size h₁ [(e, excObj C t0 none .none)] := fun q hq => by
    obtain rfl : q = (e, excObj C t0 none .none) := by simpa using hq
    exact ⟨hk₁ _ _ he, Nat.ne_of_lt lt2, hn⟩
  obtain ⟨cdC, hC⟩ : ∃ cd, clsIn K C = some cd := by
    have := F.hd
    unfold hasDictIn at this
    obtain ⟨cd, q, _⟩ := any_some this
    exact ⟨cd, q⟩
  obtain ⟨oD, hD1, hD2⟩ : ∃ oD, hp.get? C = some oD ∧ oD.data = .cls cdC := by
    have hC' := hC
    unfold clsIn at hC'
    split at hC'
    · rename_i c d' cd' sl' ho
      cases hC'
      exact ⟨_, X _ _ ho, rfl⟩
    · cases hC'
  have Ie : ∀ {h : Heap} {t' : Addr}, h.get? e = some (excObj C t' none .none) → InstAt h e (excObj C t' none .none) C none := fun q => ⟨q, rfl, rfl, trivial⟩
  apply ks_wpAt_execs_cons
  refine ks_wpAt_Expr_any (ks_wpAt_MethodCall ?_ (mcall_eq hline)) (interactive_fn (e := callEnv _ _ _) F.s6) rfl
  refine ks_wpAt_super_base (env := callEnv (ksFn nm qual pa _ scope dV kV doc pm an (.ref cda) ct cc) h2.objs.size fI) F.s3 F.s4 rfl rfl (kp1 _ _ (X _ _ lk)) rfl har rfl (kp1 _ _ (X _ _ lk2)) rfl v2 hfile F.top ?_
  refine ks_loadName_global F.s6 F.s3 (loadGlobal_builtin (env := callEnv (ksFn nm qual pa _ scope dV kV doc pm an (.ref cda) ct cc) h2.objs.size fI) (hg.keeps kp1) hmg (hb.keeps kp1) hbb ⟨rfl, ?_⟩)
  refine wpAny_loadName_free F.s6 F.s4 rfl ⟨_, kp1 _ _ (X _ _ lk3), rfl⟩ ?_
  refine wpAny_loadName_local F.s6 (by rw [hsl]; exact F.s1) F1.ns (by rw [hsl]; exact m1) ?_
  refine ks_wpAny_isType_cls (kp1 _ _ hD1) hD2 ⟨rfl, ?_⟩
  refine ks_wpAny_call_super (kp1 _ _ hD1) hD2 (N1 _ List.mem_cons_self).1 rfl (fun c z => nomatch z) (looks_mroIn (X.keeps kp1) F.mro) fun h3 e3 k3 => ?_
  obtain ⟨F3, N3, l3⟩ := ks_newsPush (s := ⟨h₁, g, d, t + 2, os⟩) F1 N1 rfl e3 k3
  -- the method, bound
  refine kxs_method (s := ⟨h3, g, d, t + 2, os⟩) F.KF F3 X N3 List.mem_cons_self (Ie (N3 _ (List.mem_cons_of_mem _ List.mem_cons_self)).1) F.sta F.sin F.sub rfl fun q h4 F4 N4 l4 => ?_
  -- its argument
  refine kxs_callWith1 (s := ⟨h4, g, d, t + 2 + 1, os⟩) N4 List.mem_cons_self ?_ rfl rfl
  refine spliced_cons (ldc (fd := ksFn nm qual pa _ scope dV kV doc pm an (.ref cda) ct cc) F.s6 F.s2 F4.ns m2 (spliced_nil ⟨kxs_at N4 List.mem_cons_self, ?_⟩) F.d2)
  have q1 : e < h₁.objs.size := l3 (e, excObj C t0 none .none) (by simp)
  have q2 : e < q := l4 (e, excObj C t0 none .none) (by simp)
  refine kxs_call (s := ⟨h4, g, d, t + 2 + 1, os⟩) F4 X N4 F.FB F.ini List.mem_cons_self (.tail (Nat.ne_of_gt q2) (.tail (Nat.ne_of_gt q1) (.head fun p hp => nomatch hp))) (by show 1 ≤ sizeLine; rw [sizeLine_eq]; omega) fun t5 h5 F5 N5 l5 => ?_
  have at5 : h5.get? e = some (excObj C t5 none .none) := (N5 (e, excObj C t5 none .none) (by simp)).1
  apply ks_wpAt_execs_cons
  refine ks_wpAt_Assign_Attr (wpAt_of_wpAny (ldc (fd := ksFn nm qual pa _ scope dV kV doc pm an (.ref cda) ct cc) F.s6 F.s2 F5.ns m2 (ldc (fd := ksFn nm qual pa _ scope dV kV doc pm an (.ref cda) ct cc) F.s6 F.s1 F5.ns m1 ?_ F.d1) F.d2)) rfl
  refine set_plain (od := none) (X.keeps F5.keep) (Ie at5) F.sa (fld_store F (X.keeps F5.keep) at5 fun h6 tk6 dx k6 hs6 dn6 at6 ns6 => ?_)
  refine wpAt_of_wpAny (wpAny_execs_nil ?_)
  refine k h6 tk6 t5 dx (fun b o hb => ?_) at6 ns6 ?_ dn6
  · have hne : b ≠ e := fun z => by rw [z, hn] at hb; cases hb
    exact k6 b o hne (F5.keep b o hb)
  · refine Nat.le_trans ?_ hs6
    obtain ⟨oL, es, ep, hL, _⟩ := F5.ns
    exact Nat.le_trans hz (Nat.le_of_lt (Heap.lt_size hL))
end
end Ev
end

section
set_option Elab.async false
set_option linter.all false
set_option maxRecDepth 100000
set_option maxHeartbeats 4000000
/-! EvX9: errors are made. -/
namespace Ev
open PySem PySem.Spec PyProof.Rows L2
section
variable {X : Cx} {KC0 : KC} {c : Nat}
/-- a class of errors without its own __init__ -/
structure XTxt (K : PySem.W.Frag) (C : Addr) : Prop where
  q : PySem.W.excIn K C [.type "ValueError", .type "Exception", .type "BaseException", .type "object"] "ValueError.__new__" = true
  sub : PySem.W.subIn K (.ref C) (.type "BaseException") = some true
  ty : PySem.W.typeIn K (.ref C) = some (.type "type")
theorem mkx_txt (F : XTxt X.K (KC0.xA c)) (hf : KC0.xf c = none) : MkX KC0 c X := by
  intro pins s σ H x u Q I ru q
  unfold rMkx at q
  rw [hf] at q
  obtain ⟨bm, N, nm, qn, bs, hdct, sn, sub, ab, col, dd, k0, k1, k2, k3, k5, mN, hC, hN, hni, T⟩ := exc_obj I.kIn F.q
  exact wpAny_call_exc_subT PySem.F.excBase_ValueError T hC hN hni (fun h' e hm => mk_of I hm (raises_own F.sub F.ty) q (I.hok.gone hm.new)) (by show 1 ≤ sizeLine; rw [sizeLine_eq]; omega)
theorem mkx_fld {f : Str} {B newId initId : String} {bmB : List Value} {fI cda cc : Addr} {nm qual slf y : Str} {pa : Arguments} {body : List Stmt} {scope : Scope} (F : XFld X.prog X.K (KC0.xA c) f B newId initId bmB fI cda cc nm qual slf y pa body scope) (hf : KC0.xf c = some f)
    (hs : PySem.W.subIn X.K (.ref (KC0.xA c)) (.type "BaseException") = some true) (ht : PySem.W.typeIn X.K (.ref (KC0.xA c)) = some (.type "type")) (room : Room 2 X.A) : MkX KC0 c X := by
  intro pins s σ H x u Q I ru q
  unfold rMkx at q
  rw [hf] at q
  obtain ⟨hp, g, d, t, os⟩ := s
  obtain ⟨nm', N', qn, bs, bm, hdct, sn, sub, ab, col, dd, k0, k1, k2, k3, k5, hC, hT⟩ := PySem.W.excInit_of I.kIn F.ini
  have X1 : X.K.In hp := I.kIn
  have tI : PySem.W.typeIn X.K (.ref fI) = some (.type "function") := beq_iff_eq.mp F.tI
  have kk : ∀ b o, hp.get? b = some o → ((hp.push (PySem.W.kdv_tup [u])).push (PySem.HandSPX.excO (KC0.xA c) hp.objs.size)).get? b = some o := fun b o e => Heap.get?_push_of_some _ (Heap.get?_push_of_some _ e)
  have at1 : ((hp.push (PySem.W.kdv_tup [u])).push (PySem.HandSPX.excO (KC0.xA c) hp.objs.size)).get? (hp.objs.size + 1) = some (PySem.W.excObj (KC0.xA c) hp.objs.size none .none) := by heap_get
  have no1 : hp.get? (hp.objs.size + 1) = none := by
    cases z : hp.get? (hp.objs.size + 1) with
    | none => rfl
    | some o => exact absurd (Heap.lt_size z) (Nat.not_lt.mpr (Nat.le_succ _))
  have hsz : hp.objs.size ≤ ((hp.push (PySem.W.kdv_tup [u])).push (PySem.HandSPX.excO (KC0.xA c) hp.objs.size)).objs.size := Nat.le_trans (Nat.le_succ _) (Nat.le_of_lt (Heap.lt_size at1))
  obtain ⟨mb, hb, hbb⟩ := I.mod.blt
  have room2 : (X.A.under (.builtin "type.__call__" ⟨.ref (KC0.xA c) :: [u], []⟩)).depth < recursionLimit := (room.make (KC0.xA c) [u] []).depth
  refine wpAny_call (PySem.HandSPX.call_own F.FB hT hC (PySem.W.looks_findIn X1 F.iC) (fun slf => PySem.W.bind_fn X1 slf tI) (by show 1 ≤ sizeLine; rw [sizeLine_eq]; omega) ?_)
  refine fld_init (hp := hp) F X1 room2 kk at1 no1 hsz I.nolimit (I.mod.glob.keeps I.bk) (hb.keeps I.bk) ((hbb _ (by decide)).trans (by decide +kernel)) fun h6 tk6 t6 dx k6 at6 ns6 sz6 dn6 => ?_
  obtain ⟨G, g1, g2⟩ := restrict h6 fun b => decide (b ≠ hp.objs.size + 1)
  have gk : ∀ b, b ≠ hp.objs.size + 1 → G.get? b = h6.get? b := fun b hb => g1 b (decide_eq_true hb)
  have ge : G.get? (hp.objs.size + 1) = none := g2 _ (by simp)
  have hnd : H dx = none := I.hok.fresh sz6
  have hne : H (hp.objs.size + 1) = none := I.hok.fresh (Nat.le_succ _)
  have J : L2.Inv X pins σ (upd H dx (.xd [(f, x)])) ⟨G, g, d, tk6, os⟩ := I.laid (t' := tk6) (a := dx) (o := .xd [(f, x)]) (h' := G) (fun b o e => by
      have : b ≠ hp.objs.size + 1 := fun z => by rw [z, no1] at e; cases e
      rw [gk b this]
      exact k6 b o e) sz6 ⟨_, ns6.at fun o e => (gk dx dn6).trans e, relO_put (fs := []) ru fun g => True.intro⟩
  refine ⟨rfl, hp.objs.size + 1, _, _, ⟨G, g, d, tk6, os⟩, _, .ref (KC0.xA c), some dx, rfl, J, fun b o e => ?_, ge, at6, ⟨rfl, rfl⟩, rfl, rfl, ?_, rfl, J.bare, raises_own hs ht, q dx hnd⟩
  · by_cases hbe : b = hp.objs.size + 1
    · rw [hbe, ge] at e; cases e
    · exact (gk b hbe).symm.trans e
  · rw [upd_ne (Ne.symm dn6)]; exact hne
end
end Ev
end

section
set_option Elab.async false
set_option linter.all false
set_option maxRecDepth 100000
set_option maxHeartbeats 4000000
/-! Ev25: the defs of a program, level by level. -/
namespace Ev
open PySem PySem.Spec PyProof.Rows L2
def okFn (C : Ck) (fi : FI) (fn : Fn) : Bool := fi.N.length == fn.ns && fi.ps.length == fn.np && C8.scC fi.N fi.ps fi.sc && okSs (C.at_ fi.qual) fi.N fi.sc fn.body fi.body
def okFns (C : Ck) : List FI → List Fn → Bool
  | [], [] => true
  | fi :: r, fn :: q => okFn C fi fn && okFns C r q
  | _, _ => false
theorem okFns_at {C : Ck} : ∀ {fis : List FI} {fns : List Fn} {f : Nat} {fn : Fn}, okFns C fis fns = true → fns[f]? = some fn → ∃ fi, fis[f]? = some fi ∧ okFn C fi fn = true
  | [], [], _, _, _, h => by simp at h
  | [], _ :: _, _, _, h, _ => by unfold okFns at h; cases h
  | _ :: _, [], _, _, h, _ => by unfold okFns at h; cases h
  | fi :: r, fn :: q, 0, g, h, e => by
    unfold okFns at h
    rw [Bool.and_eq_true] at h
    simp at e
    subst e
    exact ⟨fi, rfl, h.1⟩
  | fi :: r, fn :: q, f + 1, g, h, e => by
    unfold okFns at h
    rw [Bool.and_eq_true] at h
    obtain ⟨x, h1, h2⟩ := okFns_at h.2 (f := f) (by simpa using e)
    exact ⟨x, by simpa using h1, h2⟩
/-- what of the program stands behind the top -/
structure Kf (P : Program) (T : Tab) (C : Ck) (fis : List FI) (Pr : Prog) (K : PySem.W.Frag) (mg : Str → Option Value) (fA : Nat → Addr) : Prop where
  hT : T.K = K
  nc : T.ncl = C.slots.length
  ok : okFns C fis Pr.fns = true
  fd : ∀ f fi, fis[f]? = some fi → ∃ fd, FunD K fi.name fi.qual fi.pa fi.body fi.sc [] [] (fA f) fd ∧ Binds K fd fi.ps []
  gi : ∀ n i, C.G.lookup n = some (.int i) → ∃ t, mg n = some (.int i t)
  gs : ∀ n i, C.G.lookup n = some (.str i) → ∃ t, mg n = some (.str i t)
  gt : ∀ n l, C.G.lookup n = some (.tus l) → ∃ a, mg n = some (.ref a) ∧ ∀ H, SqT K H a (l.map V.str)
  fr : ∀ n ∈ C.free, mg n = none
  fn : ∀ n f, C.G.lookup n = some (.fn f) → mg n = some (.ref (fA f)) ∧ f < fis.length
  cl : ∀ n c, C.G.lookup n = some (.cls c) → mg n = some (.ref (T.cA c)) ∧ PySem.W.keepIn K (.ref (T.cA c)) = true ∧ ∀ k, Pr.cls[c]? = some k → k.1 < fis.length ∧ Mk K (T.cA c) (fA k.1) ∧ c < C.slots.length
  kc : ∀ c c', c < C.slots.length → c' < C.slots.length → PySem.W.kitOne K (.ref (T.cA c)) (.ref (T.cA c')) = some (c == c')
  ko : ∀ c, c < C.slots.length → ∀ t ∈ isiTys, PySem.W.kitOne K (.ref (T.cA c)) (.type t) = some false ∧ PySem.W.kitOne K (.type t) (.ref (T.cA c)) = some false
  sl : ∀ c s, C.slots[c]? = some s → SCls K (T.cA c) ∧ ∀ (i : Nat) (n : Str), s[i]? = some n → ∃ p, Slt K (T.cA c) n i p
  si : ∀ c, c < C.slots.length → SlX.SIsi K (T.cA c)
  xc : ∀ n c, C.G.lookup n = some (.xc c) → mg n = some (.ref (T.kc.xA c)) ∧ PySem.W.keepIn K (.ref (T.kc.xA c)) = true ∧ c < C.xs.length
  xm : ∀ c c', c < C.xs.length → c' < C.xs.length → PySem.W.exmOne K (.ref (T.kc.xA c)) (.ref (T.kc.xA c')) = some (c == c')
  xf : ∀ c, c < C.xs.length → C.xs[c]? = some (T.kc.xf c)
  xt : ∀ c, c < C.xs.length → T.kc.xf c = none → XTxt K (T.kc.xA c)
  xr : ∀ c f, c < C.xs.length → T.kc.xf c = some f → (XfC K (T.kc.xA c) ∧ PySem.W.findIn K (.ref (T.kc.xA c)) f = some none) ∧ PySem.W.subIn K (.ref (T.kc.xA c)) (.type "BaseException") = some true ∧ PySem.W.typeIn K (.ref (T.kc.xA c)) = some (.type "type") ∧
    ∃ B newId initId bmB fI cda cc nm qual slf y pa body scope, XFld P K (T.kc.xA c) f B newId initId bmB fI cda cc nm qual slf y pa body scope
  ms : ∀ k c f, (k, c, f) ∈ C.ms → f < fis.length ∧ c < C.slots.length ∧ MsK K (T.cA c) k (fA f)
  nfc : NfC K T.cA C.slots.length
  md : ∀ i fi, C.md.lookup i = some fi → fis[i]? = some fi
  ga : ∀ f fi, fis[f]? = some fi → fi.qual ∈ C.lams → fA f = He.ga K fi.qual
/-- such a context -/
structure PX (P : Program) (w : World) (K : PySem.W.Frag) (mg : Str → Option Value) (base : Heap) (n : Nat) (X : Cx) : Prop where
  pr : X.prog = P
  w : X.w = w
  K : X.K = K
  mg : X.mg = mg
  base : X.base = base
  calm : X.calm = true
  nd : X.N.Nodup
  room : Room (5 * n + 7) X.A
  gd : X.A.guards = some []
section
variable {T : Tab} {C : Ck} {fis : List FI} {Pr : Prog} {P : Program} {w : World} {K : PySem.W.Frag} {mg : Str → Option Value} {base : Heap} {fA : Nat → Addr}
def spF (T : Tab) (Pr : Prog) (n f : Nat) : Sp0 := fun xs H Q E => ∃ h, rCf (T.re h) (wOf T.kc E) (callN Pr n) f xs H Q
def FokAt (T : Tab) (fis : List FI) (Pr : Prog) (P : Program) (w : World) (K : PySem.W.Frag) (mg : Str → Option Value) (base : Heap) (fA : Nat → Addr) (n : Nat) : Prop :=
  ∀ f fi fd, fis[f]? = some fi → FunD K fi.name fi.qual fi.pa fi.body fi.sc [] [] (fA f) fd → Fok P w K mg base (5 * n + 5) (fA f) fd fi.ps (spF T Pr n f)
theorem call_len {W : XW} {n f : Nat} {vs : List Vl} {st : Store} {ρ : List Addr} {F : Hp} {Q : VK} (k : Kf P T C fis Pr K mg fA) (h : OkP T W ρ F (callN Pr n f vs st) Q) : ∃ fi fn, fis[f]? = some fi ∧ Pr.fns[f]? = some fn ∧ okFn C fi fn = true ∧ vs.length = fi.ps.length ∧ vs.length = fn.np ∧ fn.np ≤ fn.ns := by
  cases n with
  | zero => exact h.elim
  | succ n =>
    unfold callN at h
    split at h
    · rename_i fn e
      split at h
      · rename_i c
        obtain ⟨fi, e1, e2⟩ := okFns_at k.ok e
        refine ⟨fi, fn, e1, e, e2, ?_, c.1, c.2⟩
        unfold okFn at e2
        simp only [Bool.and_eq_true, beq_iff_eq] at e2
        rw [e2.1.1.2]; exact c.1
      · exact h.elim
    · exact h.elim
theorem Kf.re (k : Kf P T C fis Pr K mg fA) (h : List (Addr × List V)) : Kf P (T.re h) C fis Pr K mg fA := ⟨k.hT, k.nc, k.ok, k.fd, k.gi, k.gs, k.gt, k.fr, k.fn, k.cl, k.kc, k.ko, k.sl, k.si, k.xc, k.xm, k.xf, k.xt, k.xr, k.ms, k.nfc, k.md, k.ga⟩
theorem ix_some {α : Type} {l : List α} {i : Nat} (h : i < l.length) : ∃ a, l[i]? = some a := ⟨_, List.getElem?_eq_getElem h⟩
theorem sc_at (k : Kf P T C fis Pr K mg fA) {f : Nat} {fi : FI} (e : fis[f]? = some fi) : FnScope fi.N fi.ps fi.sc := by
  have : ∀ {fis : List FI} {fns : List Fn} {f : Nat} {fi : FI}, okFns C fis fns = true → fis[f]? = some fi → C8.scC fi.N fi.ps fi.sc = true := by
    intro fis
    induction fis with
    | nil => intro fns f fi _ h; simp at h
    | cons a r ihr =>
      intro fns f fi h e
      cases fns with
      | nil => unfold okFns at h; cases h
      | cons g q =>
        unfold okFns at h
        rw [Bool.and_eq_true] at h
        cases f with
        | zero =>
          simp at e
          subst e
          have := h.1
          unfold okFn at this
          simp only [Bool.and_eq_true] at this
          exact this.1.2
        | succ f => exact ihr h.2 (by simpa using e)
  exact C8.fnScope_by (this k.ok e)
/-- an own def of a class runs, and raises nothing -/
theorem fok_own {X : Cx} {k : Nat} {f : Addr} {fd : FuncData} {ps : List Str} {sp : Sp0} {r : List V → Hp → VK → Prop} (h : Fok X.prog X.w X.K X.mg X.base k f fd ps sp) (room : Room (k + 2) X.A) (hg : X.A.guards = some []) (hb : Binds X.K fd ps []) (hr : ∀ xs H Q, r xs H Q → xs.length = ps.length ∧ sp xs H Q nE) : OwnC X f r := by
  intro A1 hA pins s σ H xs us Q I rv q
  obtain ⟨hl, q⟩ := hr xs H Q q
  have bi : BindsTo s fd ⟨us, []⟩ (ps.zip us) := by
    have := hb s us I.kIn (by rw [List.append_nil, ← rv.length]; exact hl)
    rwa [List.append_nil] at this
  have main : ∀ A1 : Around, Room k A1 → A1.guards = some [] → Env0 X.prog X.w X.K X.mg X.base A1 X.stack s H → codeAny (model X.prog X.w) A1 (.call (.ref f) ⟨us, []⟩) (fun res s' => match res with | .ok (.ret v) => EP X pins σ Q v s' | _ => False) s := fun A1 r1 g1 e1 => by
    refine codeAny_mono (h A1 X.stack s H ⟨us, []⟩ us xs Q nE r1 g1 e1 bi rv hl q) fun res s2 hr => ?_
    match res, hr with
    | .error e, hr =>
      obtain ⟨_, _, _, _, _, _, _, _, _, _, _, _, z⟩ := hr
      exact z.elim
    | .ok (.ret u), hr => exact I.after hr
    | .ok .next, hr => exact hr.elim
    | .ok .brk, hr => exact hr.elim
    | .ok .cont, hr => exact hr.elim
  have gi : ∀ B : Around, B.guards = some [] → B.in1.guards = some [] := fun B h => h
  rcases hA with rfl | rfl | rfl
  · exact main _ (room.mono (by omega)) hg I.env0
  · exact main _ ((room.mono (show k + 1 ≤ k + 2 by omega)).in1) (gi _ hg) I.env0.in1
  · exact main _ room.in1.in1 (gi _ (gi _ hg)) I.env0.in1.in1
/-- what a level may lean on -/
theorem ambC_at (rep : ∀ Y, RepT Y) (k : Kf P T C fis Pr K mg fA) {n : Nat} (ih : ∀ m, m ≤ n → FokAt T fis Pr P w K mg base fA m) {X : Cx} {E : XK} (tk : TakesE X E) (px : PX P w K mg base n X) : AmbC T C (wOf T.kc E) (callN Pr n) (newN Pr n) X := by
  obtain ⟨rfl, rfl, rfl, rfl, rfl, calm, nd, room, gd⟩ := px
  have un : X.A.units + 200 < cLine := by have := room.un; omega
  refine ⟨⟨E, tk, fun _ _ _ _ _ _ z => z⟩, k.hT, k.nc, calm, nd, gd, un, rep, room.mono (by omega), k.gi, k.gs, k.gt, k.fr, fun m f e => ?_, fun m c e => ?_, k.kc, k.ko, k.sl, k.si, k.xc, k.xm, k.xf, fun c f h1 h2 => (k.xr c f h1 h2).1, fun kd c f e Y ly h => ?_, k.nfc, fun c hc Y y1 y2 y3 y4 y5 ry => ?_, fun m i fi h1 h2 => ?_⟩
  · obtain ⟨e1, e2⟩ := k.fn m f e
    obtain ⟨fi, e3⟩ := ix_some e2
    obtain ⟨fd, D, hb⟩ := k.fd f fi e3
    refine ⟨fA f, e1, D.kp, fun Y ly h E tk => ?_⟩
    obtain ⟨l1, l2, l3, l4, l5, l6, l7, l8⟩ := ly
    have F := ih n (Nat.le_refl n) f fi fd e3 D
    rw [← l1, ← l2, ← l3, ← l4, ← l5] at F
    rw [← l6] at room gd
    rw [← l3] at hb
    intro pins s σ H xs us Q I rv q
    refine fok_call tk F (room.mono (by omega)) gd hb pins s σ H xs us Q I rv ⟨?_, h, q⟩
    obtain ⟨ρ, F2, st, vs, r, hv, h3⟩ := q
    obtain ⟨fi2, fn, e4, _, _, e5, _⟩ := call_len (k.re h) h3
    rw [e3] at e4
    cases e4
    rw [← hv.length]; exact e5
  · obtain ⟨e1, e2, e3⟩ := k.cl m c e
    refine ⟨e1, e2, fun Y ly h E tk => ?_⟩
    obtain ⟨l1, l2, l3, l4, l5, l6, l7, l8⟩ := ly
    intro pins s σ H xs us Q I rv ⟨ρ, F2, st, vs, r, hv, h3⟩
    cases n with
    | zero => exact h3.elim
    | succ n =>
      unfold newN at h3
      split at h3
      · rename_i kc ek
        obtain ⟨g1, g2, g3⟩ := e3 kc ek
        obtain ⟨fi, e4⟩ := ix_some g1
        obtain ⟨fd, D, hb⟩ := k.fd kc.1 fi e4
        have F := ih n (Nat.le_succ n) kc.1 fi fd e4 D
        rw [← l1, ← l2, ← l3, ← l4, ← l5] at F
        rw [← l6] at room gd
        rw [← l3] at hb g2
        have main : ∀ x : Addr, OkP (T.re h) (wOf T.kc E) (ρ ++ [x]) F2 (callN Pr n kc.1 (.ref st.length :: vs) (st ++ [some (.obj c (List.replicate kc.2 none))])) fun v H2 => v = .non ∧ Q (.ref x) H2 := fun x => new_end (T := T.re h) (by rw [show (T.re h).ncl = T.ncl from rfl, k.nc]; exact g3) r.len h3
        refine fok_make tk g2 F (room.mono (by omega)) gd hb pins s σ H xs us Q I rv ⟨?_, fun x dx hx hdx hne => ?_⟩
        · obtain ⟨fi2, fn, e5, _, _, e6, _⟩ := call_len (k.re h) (main 0)
          rw [e4] at e5
          cases e5
          rw [← hv.length]
          simpa using e6
        · obtain ⟨r2, v2⟩ := new_start (c := c) (k := kc.2) r hx hdx hne
          refine ⟨h, ρ ++ [x], F2, _, .ref st.length :: vs, r2, .cons v2 (hv.mono (List.prefix_append _ _) (Sub.refl F2)), ?_⟩
          exact main x
      · exact h3.elim
  · obtain ⟨e1, e2, mk⟩ := k.ms kd c f e
    obtain ⟨l1, l2, l3, l4, l5, l6, l7, l8⟩ := ly
    obtain ⟨s0, hs0⟩ := ix_some e2
    have sc := (k.sl c s0 hs0).1
    rw [← l3] at sc mk
    refine ms_ok (by rw [l6]; exact un) sc mk ?_
    obtain ⟨fi, e3⟩ := ix_some e1
    obtain ⟨fd, D, hb⟩ := k.fd f fi e3
    have F := ih n (Nat.le_refl n) f fi fd e3 D
    rw [← l1, ← l2, ← l3, ← l4, ← l5] at F
    rw [← l6] at room gd
    rw [← l3] at hb
    refine fok_own F room gd hb fun xs H Q q => ⟨?_, ⟨h, rCf_imp (fun _ _ _ _ _ _ z => z.elim) q⟩⟩
    obtain ⟨ρ, F2, st, vs, r, hv, h3⟩ := q
    obtain ⟨fi2, fn, e4, _, _, e5, _⟩ := call_len (k.re h) h3
    rw [e3] at e4
    cases e4
    rw [← hv.length]; exact e5
  · cases hf : T.kc.xf c with
    | none => exact mkx_txt (by rw [y3]; exact k.xt c hc hf) hf
    | some f =>
      obtain ⟨_, h1, h2, B, newId, initId, bmB, fI, cda, cc, nm, qual, slf, y, pa, body, scope, h3⟩ := k.xr c f hc hf
      exact mkx_fld (by rw [y1, y3]; exact h3) hf (by rw [y3]; exact h1) (by rw [y3]; exact h2) ry
  · have e3 := k.md i fi h2
    obtain ⟨fd, D, hb⟩ := k.fd i fi e3
    obtain ⟨e1, _⟩ := k.fn m i h1
    exact ⟨fA i, fd, e1, D.kp, D, hb, sc_at k e3⟩
def lamQ (x : Str) : Str := (x ++ ".<locals>.") ++ "<lambda>"
/-- the tables of the defs that make lambdas -/
def LamK (T : Tab) (K : PySem.W.Frag) (mg : Str → Option Value) (base : Heap) (lams : List Str) : Prop := ∀ x ∈ lams, ∃ c P, PySem.W.tabIn K x = some (c, P) ∧ LamX.TabB base mg c P ∧ (P, lamQ x) ∈ T.tbs ∧ ∀ p ∈ T.tbs, p.1 = P → p.2 = lamQ x
theorem tab_code {x : Str} {c P : Addr} {f : Addr} {cv : Value} {nm qual : Str} {pa : Arguments} {body : List Stmt} {sc : Scope} (h : PySem.W.tabIn K x = some (c, P)) (hf : f = He.ga K x) (lk : ∃ oc od dV kV doc pm an ct sl, K.lookup f = some ⟨oc, od, .func (PySem.W.fnOf nm qual pa body sc dV kV doc pm an cv ct), sl⟩) : cv = .ref c := by
  obtain ⟨oc, od, dV, kV, doc, pm, an, ct, sl, lk⟩ := lk
  unfold PySem.W.tabIn at h
  split at h
  · rename_i f' hn
    have e : He.ga K x = f' := by unfold He.ga; rw [hn]
    rw [e] at hf
    subst hf
    rw [lk] at h
    simp only at h
    split at h
    · split at h
      · split at h
        · cases h
          rfl
        · cases h
      · cases h
    · cases h
  · cases h
theorem fok_all (rep : ∀ Y, RepT Y) (k : Kf P T C fis Pr K mg fA) (lm : LamK T K mg base C.lams) : ∀ n m, m ≤ n → FokAt T fis Pr P w K mg base fA m := by
  intro n
  induction n with
  | zero =>
    intro m hm f fi fd e D
    obtain rfl : m = 0 := by omega
    intro B out s H ar us xs Q E room hg e0 bi rv hl ⟨h, ρ, F, st, vs, r, hv, h3⟩
    exact h3.elim
  | succ n ih =>
    intro m hm
    by_cases hle : m ≤ n
    · exact ih m hle
    obtain rfl : m = n + 1 := by omega
    intro f fi fd e D
    have S : FnScope fi.N fi.ps fi.sc := sc_at k e
    rw [show 5 * (n + 1) + 5 = (5 * n + 9) + 1 from by omega]
    refine fok_of D S fun cv hcv B out s H xs Q E room hg hl ⟨h, ρ, F, st, vs, r, hv, h3⟩ => ?_
    have px : PX P w K mg base n (cxOf (L2.CX P w) P w K mg base fi.N fi.qual fi.sc (fA f) cv B out s H E) := ⟨rfl, rfl, rfl, rfl, rfl, rfl, S.nd, room.mono (by omega), hg⟩
    have tk : TakesE (cxOf (L2.CX P w) P w K mg base fi.N fi.qual fi.sc (fA f) cv B out s H E) E := takes_of rfl rfl rfl rfl
    have am : AmbC (T.re h) (C.at_ fi.qual) (wOf T.kc E) (callN Pr n) (newN Pr n) (cxOf (L2.CX P w) P w K mg base fi.N fi.qual fi.sc (fA f) cv B out s H E) := by
      have a0 := (ambC_at rep k ih tk px).re h
      exact ⟨a0.wk, a0.hT, a0.nc, a0.calm, a0.nd, a0.gd, a0.un, a0.rep, a0.rm, a0.gi, a0.gs, a0.gt, a0.fr, a0.fn, a0.cl, a0.kc, a0.ko, a0.sl, a0.si, a0.xc, a0.xm, a0.xf, a0.xr, a0.ms, a0.nfc, a0.xk, a0.md⟩
    have lam : (C.at_ fi.qual).lam = true → LamAt (T.re h) (C.at_ fi.qual) (callN Pr n) (newN Pr n) (cxOf (L2.CX P w) P w K mg base fi.N fi.qual fi.sc (fA f) cv B out s H E) := fun hl => by
      have hm : fi.qual ∈ C.lams := of_decide_eq_true hl
      obtain ⟨c, PT, l1, l2, l3, l4⟩ := lm _ hm
      refine ⟨⟨c, PT, tab_code l1 (k.ga f fi e hm) hcv, l2, l3, l4⟩, 5 * n + 7, room, fun Y lk A outer s' H' E' scope f' c' hd rm gd => ?_⟩
      obtain ⟨k1, k2, k3, k4, k5, _, _, k8⟩ := lk
      have px2 : PX P w K mg base n (LamX.lamCx Y A outer s' H' E' scope f' c') := ⟨k1, k2, k3, k4, k5, rfl, by show Y.N.Nodup; rw [k8]; exact S.nd, rm, deeper_gd gd⟩
      have tk2 : TakesE (LamX.lamCx Y A outer s' H' E' scope f' c') E' := takes_of rfl rfl rfl rfl
      have a0 := (ambC_at rep k ih tk2 px2).re hd
      exact ⟨a0.wk, a0.hT, a0.nc, a0.calm, a0.nd, a0.gd, a0.un, a0.rep, a0.rm, a0.gi, a0.gs, a0.gt, a0.fr, a0.fn, a0.cl, a0.kc, a0.ko, a0.sl, a0.si, a0.xc, a0.xm, a0.xf, a0.xr, a0.ms, a0.nfc, a0.xk, a0.md⟩
    obtain ⟨fi2, fn, e1, e2, e3, e4, e5, e6⟩ := call_len (k.re h) h3
    rw [e] at e1
    cases e1
    have ams : AmS (T.re h) (C.at_ fi.qual) (wOf T.kc E) (callN Pr n) (newN Pr n) (cxOf (L2.CX P w) P w K mg base fi.N fi.qual fi.sc (fA f) cv B out s H E) := { toAmb := { toAmbC := am, lam := lam }, ff := rfl, po := passes_of rfl }
    unfold okFn at e3
    simp only [Bool.and_eq_true, beq_iff_eq] at e3
    have body := snd_Ss (cf := callN Pr n) (nf := newN Pr n) (fuel := Pr.fuel) fn.body (T.re h) (wOf T.kc E) (C.at_ fi.qual) _ fi.sc fi.body ams rfl e3.2
    refine ⟨_, body, ρ, F, _, st, r, env_start (ns := fn.ns) hv e3.1.1.1, ?_⟩
    rw [e5]
    unfold callN at h3
    simp only [e2] at h3
    rw [if_pos ⟨e5, e6⟩] at h3
    exact end_ok r.len.symm h3
end
end Ev
end

section
set_option Elab.async false
set_option linter.all false
set_option maxRecDepth 100000
set_option maxHeartbeats 4000000
/-! Ev26: tuple * int. -/
namespace Ev
open PySem PySem.Spec PyProof.Rows L2
theorem tmul_same (l : Addr) (its : Array Value) (n : Nat) (dd : Option Addr) (sl : Array (Option Value)) (x : Int) (u : Tok) (c0 : (decide (x < -(2 ^ 63)) || decide (x ≥ 2 ^ 63)) = false) (c1 : (its.isEmpty || x == 1) = true) :
    Meets (Builtin.«tuple.__mul__» ⟨[.ref l, .int x u], []⟩) (fun _ R s => s.heap.get? l = some { cls := .type "tuple", dict := dd, data := .seq its n, slots := sl } ∧ R (.ok (.ret (Value.ref l))) s) :=
  .of_wp fun prog w A R s h => by
    obtain ⟨hp, g, d, tk, os⟩ := s
    obtain ⟨hl, h⟩ := h
    have f1 := AutoSeq1.idx_int
    wp_walk using wpAny_loadPart' hl
    repeat (first
      | (refine wpAny_ite_false (decide_eq_false (by rw [c0]; exact Bool.false_ne_true)) ?_; wp_walk using wpAny_loadPart' hl)
      | (refine wpAny_ite_true (decide_eq_true c1) ?_; wp_walk using wpAny_loadPart' hl))
    exact ⟨_, rfl, h⟩
theorem tmul_zero (l : Addr) (its : Array Value) (n : Nat) (dd : Option Addr) (sl : Array (Option Value)) (x : Int) (u : Tok) (c0 : (decide (x < -(2 ^ 63)) || decide (x ≥ 2 ^ 63)) = false) (c1 : (its.isEmpty || x == 1) = false) (c2 : (decide (x ≤ 0) || its.isEmpty) = true) :
    Meets (Builtin.«tuple.__mul__» ⟨[.ref l, .int x u], []⟩) (fun _ R s => s.heap.get? l = some { cls := .type "tuple", dict := dd, data := .seq its n, slots := sl } ∧
      R (.ok (.ret (Value.ref s.heap.objs.size))) { s with heap := s.heap.push { cls := Value.type "tuple", data := Data.seq #[] }, toks := s.toks }) :=
  .of_wp fun prog w A R s h => by
    obtain ⟨hp, g, d, tk, os⟩ := s
    obtain ⟨hl, h⟩ := h
    have f1 := AutoSeq1.idx_int
    wp_walk using wpAny_loadPart' hl
    repeat (first
      | (refine wpAny_ite_false (decide_eq_false (by rw [c0]; exact Bool.false_ne_true)) ?_; wp_walk using wpAny_loadPart' hl)
      | (refine wpAny_ite_false (decide_eq_false (by rw [c1]; exact Bool.false_ne_true)) ?_; wp_walk using wpAny_loadPart' hl)
      | (refine wpAny_ite_true (decide_eq_true c2) ?_; wp_walk using wpAny_loadPart' hl))
    exact ⟨_, rfl, h⟩
theorem laid_tupS {X : Cx} {pins : List (Addr × Obj)} {s : Shared} {σ : L2.St} {H : Hp} {Q : VK} {vs : List V} {us : List Value} {k : Nat} (I : L2.Inv X pins σ H s) (hv : Vals vs us) (hz : vs.length ≤ sizeLine)
    (h : (∀ q, H q = none → Q (.ref q) (upd H q (.tup vs))) ∨ ∀ q ob, H q = none → TupO ob → Q (.ref q) (upd H q (.frz ob (.tup vs)))) : EP X pins σ Q (.ref s.heap.objs.size) { s with toks := k, heap := s.heap.push { cls := .type "tuple", data := .seq us.toArray } } := by
  rcases h with h | h
  · exact laid_tup I hv hz h
  · have hp := I.hok.fresh (Nat.le_refl s.heap.objs.size)
    let ob : Obj := { cls := .type "tuple", data := .seq us.toArray }
    have hg : (s.heap.push ob).get? s.heap.objs.size = some ob := Heap.get?_push_size _ rfl
    exact ⟨.ref s.heap.objs.size, upd H s.heap.objs.size (.frz ob (.tup vs)), I.laid (t' := k) (fun b u q => Heap.get?_push_of_some _ q) (Nat.le_refl _) ⟨hg, hz, us, hv, ob, hg, rfl, _, rfl⟩, rfl, h _ ob hp ⟨rfl, rfl⟩⟩
theorem rep_T (X : Cx) : RepT X := by
  intro pins s σ H x y v u Q I rx ry ⟨l, k, xs, e1, e2, hT, h1, h2, hz, q1, q2⟩
  subst e1 e2
  cases rx
  obtain ⟨t, rfl⟩ := ry
  obtain ⟨its, r, ⟨⟨cls, dd, data, sl⟩, ho, hc, n, hd⟩, hs⟩ := I.tuple hT
  simp only at hc hd
  subst hc hd
  have hle : its.length = xs.length := r.length.symm
  have c0 : (decide (k < -(2 ^ 63)) || decide (k ≥ 2 ^ 63)) = false := by
    rw [decide_eq_false (by omega), decide_eq_false (by omega)] <;> rfl
  by_cases c1 : (its.toArray.isEmpty || k == 1) = true
  · refine wpAny_binaryOp_repeat_ref (T := "tuple") (U := "int") (by decide) ⟨_, ho, rfl⟩ (fun s' => typeIs_int s' k t) noFill_tuple_mul PySem.F.fills_int_mul PySem.F.slot_int_rmul repeat_tuple PySem.F.slot_int_index.lookup
      (call_meets PySem.F.slot_int_rmul (typeIs_int s k t) PySem.F.entry_int_rmul (PySem.F.args_int_rmul_2 _ _) (int_rmul_tuple k t l its.toArray n dd sl)
        ⟨ho, rfl, ⟨_, ho, rfl⟩, call_meets PySem.F.slot_tuple_mul ⟨_, ho, rfl⟩ PySem.F.entry_tuple_mul (PySem.F.args_tuple_mul_2 _ _) (tmul_same l its.toArray n dd sl k t c0 c1) ⟨ho, ?_⟩⟩)
    refine ⟨.ref l, H, I, rfl, q1 ?_⟩
    rw [Bool.or_eq_true] at c1
    rcases c1 with c1 | c1
    · left
      have : its = [] := by
        cases its with
        | nil => rfl
        | cons _ _ => cases c1
      subst this
      exact List.length_eq_zero_iff.mp (by rw [← hle]; rfl)
    · right; simpa using c1
  · have c1 : (its.toArray.isEmpty || k == 1) = false := by simpa using c1
    by_cases c2 : (decide (k ≤ 0) || its.toArray.isEmpty) = true
    · refine wpAny_binaryOp_repeat_ref (T := "tuple") (U := "int") (by decide) ⟨_, ho, rfl⟩ (fun s' => typeIs_int s' k t) noFill_tuple_mul PySem.F.fills_int_mul PySem.F.slot_int_rmul repeat_tuple PySem.F.slot_int_index.lookup
        (call_meets PySem.F.slot_int_rmul (typeIs_int s k t) PySem.F.entry_int_rmul (PySem.F.args_int_rmul_2 _ _) (int_rmul_tuple k t l its.toArray n dd sl)
          ⟨ho, rfl, ⟨_, ho, rfl⟩, call_meets PySem.F.slot_tuple_mul ⟨_, ho, rfl⟩ PySem.F.entry_tuple_mul (PySem.F.args_tuple_mul_2 _ _) (tmul_zero l its.toArray n dd sl k t c0 c1 c2) ⟨ho, ?_⟩⟩)
      rw [Bool.or_eq_false_iff] at c1
      rw [c1.1, Bool.or_false] at c2
      have hk : k = 0 := by
        have := of_decide_eq_true c2
        omega
      subst hk
      exact laid_tupS (k := s.toks) I (vs := []) (us := []) .nil (by decide) q2
    · have c2 : (decide (k ≤ 0) || its.toArray.isEmpty) = false := by simpa using c2
      have hm : ((its.toArray.size : Nat) : Int) * k ≤ (sizeLine : Int) := by
        have hk : ((k.toNat : Nat) : Int) = k := by omega
        rw [List.size_toArray, hle, ← hk, ← Int.natCast_mul]
        exact Int.ofNat_le.mpr hz
      have hsl : (sizeLine : Int) = 16777216 := by rw [sizeLine_eq]; rfl
      have flen : (List.replicate k.toNat its).flatten.length ≤ sizeLine := by
        rw [PyProof.Rows.lm_len_rep_flat, hle, Nat.mul_comm]; exact hz
      have c4 : Builtin.Tuple.tupleTooMany (((its.toArray.size : Nat) : Int) * k) = false := by
        unfold Builtin.Tuple.tupleTooMany
        exact decide_eq_false (by omega)
      refine wpAny_binaryOp_repeat_ref (T := "tuple") (U := "int") (by decide) ⟨_, ho, rfl⟩ (fun s' => typeIs_int s' k t) noFill_tuple_mul PySem.F.fills_int_mul PySem.F.slot_int_rmul repeat_tuple PySem.F.slot_int_index.lookup
        (call_meets PySem.F.slot_int_rmul (typeIs_int s k t) PySem.F.entry_int_rmul (PySem.F.args_int_rmul_2 _ _) (int_rmul_tuple k t l its.toArray n dd sl)
          ⟨ho, rfl, ⟨_, ho, rfl⟩, call_meets PySem.F.slot_tuple_mul ⟨_, ho, rfl⟩ PySem.F.entry_tuple_mul (PySem.F.args_tuple_mul_2 _ _) (tuple_mulW l its.toArray n dd sl k t c0 c1 c2 (by omega) c4 (by rw [size_rep, List.size_toArray]; exact flen)) ⟨ho, ?_⟩⟩)
      rw [size_rep]
      exact laid_tupS (k := s.toks) I (r.rep k.toNat) (by rw [PyProof.Rows.lm_len_rep_flat, Nat.mul_comm]; exact hz) q2
end Ev
end

section
set_option Elab.async false
set_option linter.all false
set_option maxRecDepth 100000
set_option maxHeartbeats 4000000
/-! Ev27: what stands behind the top, looked at by a Bool. -/
namespace Ev
open PySem PySem.Spec PyProof.Rows L2
/-- a built-in class over which errors stand -/
inductive XB where | val | idx | lkp | ovf | ari
def XB.b : XB → String
  | .val => "ValueError" | .idx => "IndexError" | .lkp => "LookupError" | .ovf => "OverflowError" | .ari => "ArithmeticError"
def XB.new : XB → String
  | .val => "ValueError.__new__" | .idx => "IndexError.__new__" | .lkp => "LookupError.__new__" | .ovf => "OverflowError.__new__" | .ari => "ArithmeticError.__new__"
def XB.ini : XB → String
  | .val => "ValueError.__init__" | .idx => "IndexError.__init__" | .lkp => "LookupError.__init__" | .ovf => "OverflowError.__init__" | .ari => "ArithmeticError.__init__"
def XB.bm : XB → List Value
  | .val => [.type "ValueError", .type "Exception", .type "BaseException", .type "object"]
  | .idx => [.type "IndexError", .type "LookupError", .type "Exception", .type "BaseException", .type "object"]
  | .lkp => [.type "LookupError", .type "Exception", .type "BaseException", .type "object"]
  | .ovf => [.type "OverflowError", .type "ArithmeticError", .type "Exception", .type "BaseException", .type "object"]
  | .ari => [.type "ArithmeticError", .type "Exception", .type "BaseException", .type "object"]
theorem XB.fb (b : XB) : ExcBaseFacts b.b b.new b.ini b.bm := by
  cases b
  · exact PySem.F.excBase_ValueError
  · exact PySem.F.excBase_IndexError
  · exact PySem.F.excBase_LookupError
  · exact PySem.F.excBase_OverflowError
  · exact PySem.F.excBase_ArithmeticError
theorem XB.kf (b : XB) : PySem.W.KxsFacts b.b b.ini := by
  cases b
  · exact PySem.W.kxs_ValueError
  · exact PySem.W.kxs_IndexError
  · exact PySem.W.kxs_LookupError
  · exact PySem.W.kxs_OverflowError
  · exact PySem.W.kxs_ArithmeticError
theorem XB.sf (b : XB) : StoreFacts b.b b.bm "object.__setattr__" "object" := by
  cases b
  · exact PySem.F.store_ValueError
  · exact PySem.F.store_IndexError
  · exact PySem.F.store_LookupError
  · exact PySem.F.store_OverflowError
  · exact PySem.F.store_ArithmeticError
/-- the __init__ of a class of errors -/
structure XD where
  b : XB
  nm : Str
  qual : Str
  slf : Str
  y : Str
  pa : Arguments
  body : List Stmt
  sc : Scope
def bodyB (f slf y : Str) : List Stmt → Bool
  | [.Expr (.Call (.Attribute (.Call (.Name su _) [] [] _) ini p2) [.Name y1 _] [] p4) _, .Assign [.Attribute (.Name s1 _) f1 _] (.Name y2 _) _] => su == ("super" : Str) && ini == ("__init__" : Str) && p2.endLine == p4.line && y1 == y && s1 == slf && f1 == f && y2 == y
  | _ => false
theorem bodyB_ok {f slf y : Str} {body : List Stmt} (h : bodyB f slf y body = true) : ∃ p0 p1 p2 p3 p4 p5 p6 p7 p8 p9, (Pos.endLine p2 == Pos.line p4) = true ∧ body = [.Expr (.Call (.Attribute (.Call (.Name "super" p0) [] [] p1) "__init__" p2) [.Name y p3] [] p4) p5, .Assign [.Attribute (.Name slf p6) f p7] (.Name y p8) p9] := by
  unfold bodyB at h
  split at h
  · simp only [Bool.and_eq_true] at h
    obtain ⟨⟨⟨⟨⟨⟨h1, h2⟩, h3⟩, h4⟩, h5⟩, h6⟩, h7⟩ := h
    rw [eq_of_beq h1, eq_of_beq h2, eq_of_beq h4, eq_of_beq h5, eq_of_beq h6, eq_of_beq h7]
    exact ⟨_, _, _, _, _, _, _, _, _, _, h3, rfl⟩
  · cases h
/-- what the text alone tells -/
def XD.stB (f : Str) (d : XD) : Bool := decide ((d.pa.posonlyargs ++ d.pa.args).head?.map (·.arg) = some d.slf) && decide (d.sc.names.lookup d.slf = some .local) && decide (d.sc.names.lookup d.y = some .local) && decide (d.sc.names.lookup ("super" : Str) = some .globalImplicit) && decide (d.sc.names.lookup ("__class__" : Str) = some .free)
  && (d.sc.names.all fun x => decide (x.2 ≠ .cell)) && decide (d.sc.kind = .function) && !d.sc.isCoroutine && !d.sc.isGenerator && decide (d.slf ≠ d.y) && !(d.slf == ("__debug__" : Str)) && !(d.y == ("__debug__" : Str)) && bodyB f d.slf d.y d.body
def XD.bind (d : XD) : Prop := ∀ (kV doc pm : Value) (an : Option Addr) (cdv ct : Value) (cc : Addr) (a b : Value), bindArgs (PySem.W.ksFn d.nm d.qual d.pa d.body d.sc .none kV doc pm an cdv ct cc) ⟨[a, b], []⟩ = pure [(d.slf, a), (d.y, b)]
abbrev XnW : Type := Option (Str × Str × Arguments × FuncBody × Scope × Addr × List Str × Addr)
def xnA (K : PySem.W.Frag) (f : Addr) : XnW := match K.lookup f with
  | some ⟨_, _, .func fd, _⟩ => some (fd.name, fd.qualname, fd.params, fd.body, fd.scope, fd.globals, fd.closure.map (·.1), fd.builtins)
  | _ => none
def XD.val (d : XD) : XnW := some (d.nm, d.qual, d.pa, .stmts d.body, d.sc, mainGlobals, ["__class__"], builtinsNs)
/-- the code and the cell of that __init__ -/
def cdB (K : PySem.W.Frag) (file : Str) (f C : Addr) (qual : Str) : Bool := match K.lookup f with
  | some ⟨_, _, .func fd, _⟩ => (match fd.code, fd.closure, fd.defaults with
    | .ref cda, [(_, cc)], .none => PySem.W.codeIn K (.ref cda) qual && ((match K.lookup cda with
      | some ⟨_, _, .fields vs, _⟩ => (match (vs[2]? : Option Value) with
        | some (.str fl _) => file == fl
        | _ => false)
      | _ => false) && (match K.lookup cc with
      | some ⟨_, _, .cell (some (.ref C')), _⟩ => C' == C
      | _ => false))
    | _, _, _ => false)
  | _ => false
theorem cdB_ok {K : PySem.W.Frag} {file : Str} {f C : Addr} {d : XD} (h : cdB K file f C d.qual = true) (e : xnA K f = d.val) : ∃ cda cc, (∃ oc od kV doc pm an ct sl, K.lookup f = some ⟨oc, od, .func (PySem.W.ksFn d.nm d.qual d.pa d.body d.sc .none kV doc pm an (.ref cda) ct cc), sl⟩) ∧ PySem.W.codeIn K (.ref cda) d.qual = true ∧ (∃ oc od vs sl fl tf, K.lookup cda = some ⟨oc, od, .fields vs, sl⟩ ∧ vs[2]? = some (.str fl tf) ∧ (file == fl) = true) ∧ ∃ oc od sl, K.lookup cc = some ⟨oc, od, .cell (some (.ref C)), sl⟩ := by
  unfold cdB at h
  unfold xnA XD.val at e
  split at h
  · rename_i oc od fd sl q
    rw [q] at e
    obtain ⟨n1, n2, n3, n4, n5, n6, n7, n8, n9, n10, n11, n12, n13, n14, n15⟩ := fd
    simp only [Option.some.injEq, Prod.mk.injEq] at e
    obtain ⟨h1, h2, h3, h4, h5, h6, h7, h8⟩ := e
    subst h1 h2 h3 h4 h5 h6 h8
    simp only at h
    split at h
    · rename_i cda z cc
      simp only [Bool.and_eq_true] at h
      obtain ⟨k1, k2, k3⟩ := h
      simp only [List.map_cons, List.map_nil, List.cons.injEq, and_true] at h7
      subst h7
      refine ⟨cda, cc, ⟨oc, od, n9, n10, n11, n12, n14, sl, q⟩, k1, ?_, ?_⟩
      · split at k2
        · rename_i oc2 od2 vs sl2 q2
          split at k2
          · rename_i fl tf q3
            exact ⟨_, _, _, _, _, _, q2, q3, k2⟩
          · cases k2
        · cases k2
      · split at k3
        · rename_i oc3 od3 C' sl3 q3
          rw [eq_of_beq k3] at q3
          exact ⟨_, _, _, q3⟩
        · cases k3
    · cases h
  · cases h
/-- where a def stands: a name of the module; a class, its method; a class, its property -/
inductive Ad where
  | g (x : Str)
  | m (x n : Str)
  | p (x n : Str)
def Ad.at_ (K : PySem.W.Frag) : Ad → Addr
  | .g x => He.ga K x
  | .m x n => He.ma K (He.ga K x) n
  | .p x n => match PySem.W.recIn K (He.ma K (He.ga K x) n) "property" with
    | some (.ref b :: _) => b
    | _ => 0
/-- the def that stands at a -/
def defA (K : PySem.W.Frag) (a : Addr) : He.FnW := match K.lookup a with
  | some ⟨_, _, .func d, _⟩ => some (d.name, d.qualname, d.params, d.body, d.scope, d.globals, d.closure, d.builtins)
  | _ => none
def defB (K : PySem.W.Frag) (a : Addr) (fi : FI) : Bool := PySem.W.keepIn K (.ref a) && (match K.lookup a with
  | some ⟨_, _, .func d, _⟩ => PySem.W.codeIn K d.code fi.qual && (He.dflB K d.defaults [] && He.kwdB K d.kwdefaults [])
  | _ => false)
def FI.val (fi : FI) : He.FnW := some (fi.name, fi.qual, fi.pa, .stmts fi.body, fi.sc, mainGlobals, [], builtinsNs)
theorem defA_ok {K : PySem.W.Frag} {a : Addr} {fi : FI} (e : defA K a = fi.val) (c : defB K a fi = true) : ∃ fd, FunD K fi.name fi.qual fi.pa fi.body fi.sc [] [] a fd := by
  unfold defB at c
  rw [Bool.and_eq_true] at c
  obtain ⟨kp, c2⟩ := c
  unfold defA FI.val at e
  split at c2
  · rename_i oc od fd sl q
    rw [q] at e
    obtain ⟨n1, n2, n3, n4, n5, n6, n7, n8, n9, n10, n11, n12, n13, n14, n15⟩ := fd
    simp only [Option.some.injEq, Prod.mk.injEq] at e
    obtain ⟨h1, h2, h3, h4, h5, h6, h7, h8⟩ := e
    subst h1 h2 h3 h4 h5 h6 h7 h8
    simp only [Bool.and_eq_true] at c2
    obtain ⟨k1, k3, k4⟩ := c2
    exact ⟨_, ⟨oc, od, n8, n9, n10, n11, n12, n13, n14, sl, rfl, q, k1, He.dflB_ok k3, He.kwdB_ok k4⟩, kp⟩
  · cases c2
/-- a program: its defs, its evaluator's form, its names, its classes -/
structure PD where
  fis : List FI
  ats : List Ad
  Pr : Prog
  C : Ck
  cn : List Str
  /-- the classes of errors, each with what it keeps -/
  xs : List (Str × Option (Str × XD))
  /-- the file's name -/
  file : Str
section
variable (D : PD) (K : PySem.W.Frag)
def PD.fA (f : Nat) : Addr := match D.ats[f]? with
  | some p => p.at_ K
  | none => 0
def PD.cA (c : Nat) : Addr := match D.cn[c]? with
  | some x => He.ga K x
  | none => 0
def PD.xA (c : Nat) : Addr := match D.xs[c]? with
  | some x => He.ga K x.1
  | none => 0
def PD.xf (c : Nat) : Option Str := (D.xs[c]?).bind fun x => x.2.map (·.1)
def globB (p : Str × GE) : Bool := match p.2 with
  | .int i => (He.Fa.int p.1 i).ok K
  | .str z => (He.Fa.str p.1 z).ok K
  | .tus l => (He.Fa.glo p.1).ok K && He.tupB K p.1 (l.map He.Dv.str)
  | .fn f => (He.Fa.glo p.1).ok K && (decide (He.ga K p.1 = D.fA K f) && decide (f < D.fis.length))
  | .cls c => (He.Fa.glo p.1).ok K && (decide (He.ga K p.1 = D.cA K c) && decide (c < D.cn.length))
  | .xc c => (He.Fa.glo p.1).ok K && (decide (He.ga K p.1 = D.xA K c) && (PySem.W.keepIn K (.ref (He.ga K p.1)) && decide (c < D.xs.length)))
def clsB (c : Nat) (x : Str) : Bool := PySem.W.plainGet K (He.ga K x) Str.empty && PySem.W.isClsIn K (He.ga K x) && PySem.W.plainOver K (He.ga K x) && decide (PySem.W.findIn K (.ref (He.ga K x)) "__setattr__" = some (some (.builtin "object.__setattr__")))
  && decide (PySem.W.findIn K (.ref (He.ga K x)) "__class__" = some (some (.builtin "object.__class__"))) && decide (PySem.W.specialIn K (.builtin "object.__class__") "__get__" = some (some (.builtin "getset_descriptor.__get__"))) && decide (PySem.W.takesIn K (.builtin "object.__class__") = some true) && decide (PySem.W.mroIn K (He.ga K x) (.type "object") = some true)
  && (match D.Pr.cls[c]? with
    | some k => (He.Fa.mkr x).ok K && decide (D.fA K k.1 = He.ma K (He.ga K x) "__init__") && decide (k.1 < D.fis.length)
    | none => false)
  && (isiTys.all fun t => decide (PySem.W.kitOne K (.ref (He.ga K x)) (.type t) = some false) && decide (PySem.W.kitOne K (.type t) (.ref (He.ga K x)) = some false))
def sltB (x : Str) (i : Nat) (f : Str) : Bool := decide (PySem.W.findIn K (.ref (He.ga K x)) f = some (some (.ref (He.ma K (He.ga K x) f)))) && decide (PySem.W.specialIn K (.ref (He.ma K (He.ga K x) f)) "__get__" = some (some (.builtin "member_descriptor.__get__")))
  && decide (PySem.W.takesIn K (.ref (He.ma K (He.ga K x) f)) = some true) && decide (PySem.W.slotIn K (He.ma K (He.ga K x) f) (He.ga K x) = some i) && decide (PySem.W.typeIn K (.ref (He.ma K (He.ga K x) f)) = some (.type "member_descriptor")) && decide (i < 1000)
def allIx {α : Type} (p : Nat → α → Bool) : Nat → List α → Bool
  | _, [] => true
  | i, a :: r => p i a && allIx p (i + 1) r
theorem allIx_at {α : Type} {p : Nat → α → Bool} : ∀ {l : List α} {k i : Nat} {a : α}, allIx p k l = true → l[i]? = some a → p (k + i) a = true
  | [], _, _, _, _, h => by simp at h
  | b :: r, k, 0, a, h, e => by
    unfold allIx at h
    rw [Bool.and_eq_true] at h
    simp at e
    subst e
    exact h.1
  | b :: r, k, i + 1, a, h, e => by
    unfold allIx at h
    rw [Bool.and_eq_true] at h
    have := allIx_at h.2 (i := i) (by simpa using e)
    rw [show k + (i + 1) = k + 1 + i from by omega]
    exact this
/-- code objects, their tables -/
def PD.cs : List (Addr × Addr) := D.C.lams.filterMap fun x => PySem.W.tabIn K x
def PD.tbs : List (Addr × Str) := D.C.lams.filterMap fun x => (PySem.W.tabIn K x).map fun p => (p.2, lamQ x)
/-- no two are equal -/
def apart : List (Addr × Str) → Bool
  | [] => true
  | p :: r => r.all (fun q => decide (q.1 ≠ p.1)) && apart r
theorem apart_eq : ∀ {l : List (Addr × Str)} {p q : Addr × Str}, apart l = true → p ∈ l → q ∈ l → q.1 = p.1 → q = p
  | [], _, _, _, h, _, _ => by simp at h
  | a :: r, p, q, h, hp, hq, e => by
    unfold apart at h
    rw [Bool.and_eq_true, List.all_eq_true] at h
    have out : ∀ z ∈ r, z.1 ≠ a.1 := fun z hz => of_decide_eq_true (h.1 z hz)
    cases List.mem_cons.mp hp with
    | inl h1 =>
      cases List.mem_cons.mp hq with
      | inl h2 => rw [h1, h2]
      | inr h2 => exact absurd (h1 ▸ e) (out q h2)
    | inr h1 =>
      cases List.mem_cons.mp hq with
      | inl h2 => exact absurd (h2 ▸ e).symm (out p h1)
      | inr h2 => exact apart_eq h.2 h1 h2 e
def PD.tabB : Bool := apart (D.tbs K) && D.C.lams.all fun x => match PySem.W.tabIn K x with
  | some p => (K.lookup p.2).isNone
  | none => false
/-- an error that keeps a field -/
def xkB (file : Str) (C : Addr) (f : Str) (d : XD) : Bool := decide (PySem.W.findIn K (.ref C) f = some none) && PySem.W.excInitIn K C d.b.bm d.b.new && PySem.W.excOver K C d.b.bm
    && decide (PySem.W.findIn K (.ref C) "__init__" = some (some (.ref (He.ma K C "__init__")))) && PySem.W.isFn K (.ref (He.ma K C "__init__"))
    && cdB K file (He.ma K C "__init__") C d.qual
    && decide (PySem.W.mroIn K C (.ref C) = some true) && decide (PySem.W.nsIn K mainGlobals "super" = some none) && decide (PySem.W.nsIn K cStatics "thirdparty.any" = some none)
    && decide (PySem.W.ks_superIn K C C "__init__" = some (some (.builtin d.b.ini))) && decide (PySem.W.subIn K (.ref C) (.type d.b.b) = some true) && decide (PySem.W.findIn K (.ref C) "__setattr__" = some (some (.builtin "object.__setattr__")))
    && decide (PySem.W.takerIn K C f = some none) && PySem.W.hasDictIn K C && L2.xfB K C
/-- the class of errors x -/
def xB (file : Str) (x : Str × Option (Str × XD)) : Bool := decide (PySem.W.subIn K (.ref (He.ga K x.1)) (.type "BaseException") = some true) && decide (PySem.W.typeIn K (.ref (He.ga K x.1)) = some (.type "type")) && (match x.2 with
  | none => PySem.W.excIn K (He.ga K x.1) XB.val.bm XB.val.new
  | some (f, d) => xkB K file (He.ga K x.1) f d)
/-- the look at the part of the heap, but for own defs -/
def PD.exA : Bool := (allIx (fun _ x => xB K D.file x) 0 D.xs && allIx (fun c x => allIx (fun c' y => decide (PySem.W.exmOne K (.ref (He.ga K x.1)) (.ref (He.ga K y.1)) = some (c == c'))) 0 D.xs) 0 D.xs) && D.tabB K && D.C.G.all (globB D K) && D.C.free.all (fun x => (He.Fa.free x).ok K) && allIx (clsB D K) 0 D.cn
  && allIx (fun c s => match D.cn[c]? with
    | some x => allIx (sltB K x) 0 s
    | none => false) 0 D.C.slots
  && allIx (fun c x => allIx (fun c' y => decide (PySem.W.kitOne K (.ref (He.ga K x)) (.ref (He.ga K y)) = some (c == c'))) 0 D.cn) 0 D.cn
/-- the def of an own class that a property, len and so on call -/
def msB (q : Pk × Nat × Nat) : Bool := decide (q.2.2 < D.fis.length) && decide (q.2.1 < D.cn.length) && (match q.1 with
  | .get n => decide (PySem.W.findIn K (.ref (D.cA K q.2.1)) n = some (some (.ref (He.ma K (D.cA K q.2.1) n)))) && decide (PySem.W.specialIn K (.ref (He.ma K (D.cA K q.2.1) n)) "__get__" = some (some (.builtin "property.__get__"))) && decide (PySem.W.takesIn K (.ref (He.ma K (D.cA K q.2.1) n)) = some true)
      && (match PySem.W.recIn K (He.ma K (D.cA K q.2.1) n) "property" with
        | some (.ref b :: _) => decide (b = D.fA K q.2.2)
        | _ => false)
  | .len => decide (PySem.W.findIn K (.ref (D.cA K q.2.1)) "__len__" = some (some (.ref (D.fA K q.2.2)))) && PySem.W.isFn K (.ref (D.fA K q.2.2))
  | .str => decide (PySem.W.findIn K (.ref (D.cA K q.2.1)) "__str__" = some (some (.ref (D.fA K q.2.2)))) && PySem.W.isFn K (.ref (D.fA K q.2.2))
  | .eq => decide (PySem.W.findIn K (.ref (D.cA K q.2.1)) "__eq__" = some (some (.ref (D.fA K q.2.2)))) && PySem.W.isFn K (.ref (D.fA K q.2.2))
  | .ne => decide (PySem.W.findIn K (.ref (D.cA K q.2.1)) "__eq__" = some (some (.ref (D.fA K q.2.2)))) && PySem.W.isFn K (.ref (D.fA K q.2.2)) && decide (PySem.W.findIn K (.ref (D.cA K q.2.1)) "__ne__" = some (some (.builtin "object.__ne__"))) && decide (PySem.W.mroIn K (D.cA K q.2.1) (.type "object") = some true))
theorem msB_ok {q : Pk × Nat × Nat} (h : msB D K q = true) : q.2.2 < D.fis.length ∧ q.2.1 < D.cn.length ∧ MsK K (D.cA K q.2.1) q.1 (D.fA K q.2.2) := by
  obtain ⟨k, c, f⟩ := q
  unfold msB at h
  rw [Bool.and_eq_true, Bool.and_eq_true] at h
  obtain ⟨⟨h1, h2⟩, h3⟩ := h
  refine ⟨of_decide_eq_true h1, of_decide_eq_true h2, ?_⟩
  cases k with
  | get n =>
    simp only [Bool.and_eq_true, decide_eq_true_eq] at h3
    obtain ⟨⟨⟨g1, g2⟩, g3⟩, g4⟩ := h3
    split at g4
    · rename_i g rest e
      have e2 := of_decide_eq_true g4
      rw [e2] at e
      exact ⟨_, rest, g1, g2, g3, e⟩
    · cases g4
  | len => simp only [Bool.and_eq_true, decide_eq_true_eq] at h3; exact h3
  | str => simp only [Bool.and_eq_true, decide_eq_true_eq] at h3; exact h3
  | eq => simp only [Bool.and_eq_true, decide_eq_true_eq] at h3; exact h3
  | ne => simp only [Bool.and_eq_true, decide_eq_true_eq] at h3; exact ⟨h3.1.1.1, h3.1.1.2, h3.1.2, h3.2⟩
def nfB : Bool := allIx (fun _ x => PySem.W.notFirst K (He.ga K x) (.type "NoneType") && PySem.W.notFirst K (He.ga K x) (.type "tuple") && allIx (fun _ y => PySem.W.notFirst K (He.ga K x) (.ref (He.ga K y))) 0 D.cn) 0 D.cn
/-- the look at the part of the heap -/
def PD.exB : Bool := D.exA K && (D.C.ms.all (msB D K) && nfB D K)
def PD.tab (h : List (Addr × List V)) : Tab := ⟨⟨K, D.cA K, D.C.slots.length, D.xA K, D.xf⟩, h, D.tbs K⟩
end
/-- every parameter is given -/
def Bn (fi : FI) : Prop := ∀ (kV doc pm : Value) (an : Option Addr) (cdv ct : Value) (us : List Value), us.length = fi.ps.length → bindArgs (PySem.W.fnOf fi.name fi.qual fi.pa fi.body fi.sc .none kV doc pm an cdv ct) ⟨us, []⟩ = pure (fi.ps.zip us)
def PD.fn (D : PD) : List (FI × Ad) := D.fis.zip D.ats
/-- what is looked at once -/
structure PD.Ok (D : PD) : Prop where
  ok : okFns D.C D.fis D.Pr.fns = true
  bn : ∀ (f : Nat) (fi : FI), D.fis[f]? = some fi → Bn fi
  l1 : D.fis.length = D.ats.length
  l2 : D.cn.length = D.C.slots.length
  xs : D.C.xs = D.xs.map fun x => x.2.map (·.1)
  xb : ∀ (c : Nat) (x : Str) (f : Str) (d : XD), D.xs[c]? = some (x, some (f, d)) → d.bind ∧ d.stB f = true
  md : ∀ (i : Nat) (fi : FI), D.C.md.lookup i = some fi → D.fis[i]? = some fi
  ga : ∀ (f : Nat) (fi : FI), D.fis[f]? = some fi → fi.qual ∈ D.C.lams → D.ats[f]? = some (.g fi.qual)
theorem lookup_mem {β : Type} : ∀ {l : List (Str × β)} {n : Str} {g : β}, l.lookup n = some g → (n, g) ∈ l
  | (k, v) :: r, n, g, h => by
    rw [List.lookup_cons] at h
    split at h
    · rename_i e; cases h; rw [eq_of_beq e]; exact List.mem_cons_self
    · exact List.mem_cons_of_mem _ (lookup_mem h)
section
variable {D : PD} {K : PySem.W.Frag} {h : Heap} {mg : Str → Option Value}
theorem PD.kf {P : Program} (o : D.Ok) (X : K.In h) (G : h.Ns mainGlobals mg) (c : D.exB K = true) (hx : ∀ (c : Nat) (x f : Str) (d : XD), D.xs[c]? = some (x, some (f, d)) → xnA K (He.ma K (He.ga K x) "__init__") = d.val) (hfile : (P.main.file : Str) = D.file) (htop : (P.main.scope.names.lookup ("super" : Str)).isSome = false) (fd : ∀ p ∈ D.fn, ∃ fd, FunD K p.1.name p.1.qual p.1.pa p.1.body p.1.sc [] [] (p.2.at_ K) fd) (hd : List (Addr × List V)) : Kf P (D.tab K hd) D.C D.fis D.Pr K mg (D.fA K) := by
  unfold PD.exB at c
  simp only [Bool.and_eq_true] at c
  obtain ⟨c, c6, c7⟩ := c
  unfold PD.exA at c
  simp only [Bool.and_eq_true] at c
  obtain ⟨⟨⟨⟨⟨⟨⟨cx, cm⟩, c0⟩, c1⟩, c2⟩, c3⟩, c4⟩, c5⟩ := c
  have gl : ∀ {n : Str} {g : GE}, D.C.G.lookup n = some g → globB D K (n, g) = true := fun e => List.all_eq_true.mp c1 _ (lookup_mem e)
  have cA : ∀ {c : Nat} {x : Str}, D.cn[c]? = some x → D.cA K c = He.ga K x := fun e => by unfold PD.cA; rw [e]
  have cl : ∀ {c : Nat} {x : Str}, D.cn[c]? = some x → clsB D K c x = true := fun {c x} e => by
    have := allIx_at c3 e
    rwa [Nat.zero_add] at this
  have xl : D.C.xs.length = D.xs.length := by rw [o.xs, List.length_map]
  have at_x : ∀ {c : Nat}, c < D.C.xs.length → ∃ x, D.xs[c]? = some x := fun hc => ix_some (by rw [← xl]; exact hc)
  have xA : ∀ {c : Nat} {x : Str × Option (Str × XD)}, D.xs[c]? = some x → D.xA K c = He.ga K x.1 := fun e => by unfold PD.xA; rw [e]
  have xl2 : ∀ {c : Nat} {x : Str × Option (Str × XD)}, D.xs[c]? = some x → xB K D.file x = true := fun {c x} e => by
    have := allIx_at cx e
    exact this
  have at_c : ∀ {c : Nat}, c < D.C.slots.length → ∃ x, D.cn[c]? = some x := fun hc => ix_some (by rw [o.l2]; exact hc)
  refine ⟨rfl, rfl, o.ok, fun f fi e => ?_, fun n i e => He.int_ok X G (gl e), fun n i e => He.str_ok X G (gl e), fun n l e => ?_, fun n hn => He.free_ok X G (List.all_eq_true.mp c2 n hn), fun n f e => ?_, fun n c e => ?_, fun c c' hc hc' => ?_, fun c hc t ht => ?_, fun c s e => ?_, fun c hc => ?_, fun n c e => ?_, fun c c' hc hc' => ?_, fun c hc => ?_, fun c hc hf => ?_, fun c f hc hf => ?_, fun k c f e => ?_, ?_, o.md, fun f fi e hq => ?_⟩
  · obtain ⟨p, hp⟩ := ix_some (l := D.ats) (i := f) (by rw [← o.l1]; exact (List.getElem?_eq_some_iff.mp e).1)
    have hm : (fi, p) ∈ D.fn := by
      unfold PD.fn
      refine List.mem_iff_getElem?.mpr ⟨f, ?_⟩
      rw [List.getElem?_zip_eq_some]
      exact ⟨e, hp⟩
    obtain ⟨fd1, F⟩ := fd _ hm
    have eA : D.fA K f = p.at_ K := by unfold PD.fA; rw [hp]
    rw [eA]
    exact ⟨fd1, F, FunD.bindsN F (o.bn f fi e)⟩
  · have q := gl e
    replace q : ((He.Fa.glo n).ok K && He.tupB K n (l.map He.Dv.str)) = true := q
    rw [Bool.and_eq_true] at q
    refine ⟨_, He.glo_ok X G q.1, fun H => ?_⟩
    have := He.tupB_ok q.2 H
    rw [List.map_map] at this
    exact this
  · have q := gl e
    replace q : ((He.Fa.glo n).ok K && (decide (He.ga K n = D.fA K f) && decide (f < D.fis.length))) = true := q
    simp only [Bool.and_eq_true, decide_eq_true_eq] at q
    rw [← q.2.1]
    exact ⟨He.glo_ok X G q.1, q.2.2⟩
  · have q := gl e
    replace q : ((He.Fa.glo n).ok K && (decide (He.ga K n = D.cA K c) && decide (c < D.cn.length))) = true := q
    simp only [Bool.and_eq_true, decide_eq_true_eq] at q
    obtain ⟨x, hx⟩ := ix_some q.2.2
    have qc := cl hx
    unfold clsB at qc
    simp only [Bool.and_eq_true] at qc
    obtain ⟨⟨_, qm⟩, _⟩ := qc
    have e1 : (D.tab K hd).cA c = He.ga K x := cA hx
    refine ⟨?_, ?_, fun k ek => ?_⟩
    · show mg n = some (.ref (D.cA K c))
      rw [← q.2.1]; exact He.glo_ok X G q.1
    · rw [e1]
      cases hk : D.Pr.cls[c]? with
      | none => rw [hk] at qm; cases qm
      | some k =>
        rw [hk] at qm
        simp only [Bool.and_eq_true] at qm
        exact (He.mkr_ok qm.1.1).kp
    · rw [ek] at qm
      simp only [Bool.and_eq_true, decide_eq_true_eq] at qm
      rw [e1]
      refine ⟨qm.2, ?_, by rw [← o.l2]; exact q.2.2⟩
      rw [qm.1.2]
      exact He.mkr_ok qm.1.1
  · obtain ⟨x, hx⟩ := at_c hc
    obtain ⟨y, hy⟩ := at_c hc'
    have q5 := allIx_at c5 hx
    rw [Nat.zero_add] at q5
    have := allIx_at q5 hy
    rw [Nat.zero_add] at this
    show PySem.W.kitOne K (.ref (D.cA K c)) (.ref (D.cA K c')) = _
    rw [cA hx, cA hy]
    exact of_decide_eq_true this
  · obtain ⟨x, hx⟩ := at_c hc
    have qc := cl hx
    unfold clsB at qc
    simp only [Bool.and_eq_true] at qc
    have := List.all_eq_true.mp qc.2 t ht
    simp only [Bool.and_eq_true, decide_eq_true_eq] at this
    show PySem.W.kitOne K (.ref (D.cA K c)) _ = _ ∧ PySem.W.kitOne K _ (.ref (D.cA K c)) = _
    rw [cA hx]
    exact this
  · have q := allIx_at c4 e
    rw [Nat.zero_add] at q
    obtain ⟨x, hx⟩ := at_c (c := c) (List.getElem?_eq_some_iff.mp e).1
    rw [hx] at q
    have qc := cl hx
    unfold clsB at qc
    simp only [Bool.and_eq_true, decide_eq_true_eq] at qc
    obtain ⟨⟨⟨⟨⟨⟨⟨⟨⟨g1, g2⟩, g3⟩, g4⟩, g5⟩, g6⟩, g7⟩, g8⟩, g9⟩, g10⟩ := qc
    have e1 : (D.tab K hd).cA c = He.ga K x := cA hx
    rw [e1]
    refine ⟨⟨g1, g2, g3, g4⟩, fun i n en => ?_⟩
    have z := allIx_at q en
    rw [Nat.zero_add] at z
    unfold sltB at z
    simp only [Bool.and_eq_true, decide_eq_true_eq] at z
    obtain ⟨⟨⟨⟨⟨z1, z2⟩, z3⟩, z4⟩, z5⟩, z6⟩ := z
    exact ⟨_, z1, z2, z3, z4, z5, z6⟩
  · obtain ⟨x, hx⟩ := at_c hc
    have qc := cl hx
    unfold clsB at qc
    simp only [Bool.and_eq_true, decide_eq_true_eq] at qc
    obtain ⟨⟨⟨⟨⟨⟨⟨⟨⟨g1, g2⟩, g3⟩, g4⟩, g5⟩, g6⟩, g7⟩, g8⟩, g9⟩, g10⟩ := qc
    show SlX.SIsi K (D.cA K c)
    rw [cA hx]
    exact ⟨g5, g6, g7, g8⟩
  · have q := gl e
    replace q : ((He.Fa.glo n).ok K && (decide (He.ga K n = D.xA K c) && (PySem.W.keepIn K (.ref (He.ga K n)) && decide (c < D.xs.length)))) = true := q
    simp only [Bool.and_eq_true, decide_eq_true_eq] at q
    obtain ⟨q1, q2, q3, q4⟩ := q
    have e2 : (D.tab K hd).kc.xA c = He.ga K n := q2.symm
    rw [e2]
    exact ⟨He.glo_ok X G q1, q3, by rw [xl]; exact q4⟩
  · obtain ⟨x, hx⟩ := at_x hc
    obtain ⟨y, hy⟩ := at_x hc'
    have q5 := allIx_at cm hx
    rw [Nat.zero_add] at q5
    have := allIx_at q5 hy
    rw [Nat.zero_add] at this
    show PySem.W.exmOne K (.ref (D.xA K c)) (.ref (D.xA K c')) = _
    rw [xA hx, xA hy]
    exact of_decide_eq_true this
  · obtain ⟨x, hx⟩ := at_x hc
    rw [o.xs, List.getElem?_map, hx]
    show _ = some ((D.xs[c]?).bind fun x => x.2.map (·.1))
    rw [hx]; rfl
  · obtain ⟨⟨x, z⟩, hx⟩ := at_x hc
    have qc := xl2 hx
    have hf : ((D.xs[c]?).bind fun x => x.2.map (·.1)) = none := hf
    rw [hx] at hf
    cases z with
    | some p => cases hf
    | none =>
      unfold xB at qc
      simp only [Bool.and_eq_true, decide_eq_true_eq] at qc
      show XTxt K (D.xA K c)
      rw [xA hx]
      exact ⟨qc.2, qc.1.1, qc.1.2⟩
  · obtain ⟨⟨x, z⟩, hxx⟩ := at_x hc
    have qc := xl2 hxx
    have hf : ((D.xs[c]?).bind fun x => x.2.map (·.1)) = some f := hf
    rw [hxx] at hf
    cases z with
    | none => cases hf
    | some p =>
      obtain ⟨f', d⟩ := p
      obtain rfl : f' = f := by simpa using hf
      obtain ⟨bd, st⟩ := o.xb c x f' d hxx
      unfold xB xkB at qc
      simp only [Bool.and_eq_true, decide_eq_true_eq] at qc
      obtain ⟨⟨w1, w2⟩, ⟨⟨⟨⟨⟨⟨⟨⟨⟨⟨⟨⟨⟨⟨g1, g2⟩, g3⟩, g4⟩, g5⟩, g6⟩, g7⟩, g8⟩, g9⟩, g10⟩, g11⟩, g12⟩, g13⟩, g14⟩, g15⟩⟩ := qc
      unfold XD.stB at st
      simp only [Bool.and_eq_true, decide_eq_true_eq, Bool.not_eq_true', List.all_eq_true] at st
      obtain ⟨⟨⟨⟨⟨⟨⟨⟨⟨⟨⟨⟨s1, s2⟩, s3⟩, s4⟩, s5⟩, s6⟩, s7⟩, s8⟩, s9⟩, s10⟩, s11⟩, s12⟩, s13⟩ := st
      obtain ⟨cda, cc, ⟨oc, od, kV, doc, pm, an, ct, sl, lk⟩, k2, ⟨oc2, od2, vs2, sl2, fl, tf, lk2, v2, hfl⟩, k4⟩ := cdB_ok g6 (hx c x f' d hxx)
      have main : XFld P K (He.ga K x) f' d.b.b d.b.new d.b.ini d.b.bm (He.ma K (He.ga K x) "__init__") cda cc d.nm d.qual d.slf d.y d.pa d.body d.sc :=
        { FB := d.b.fb, KF := d.b.kf, SF := d.b.sf, ini := g2, over := g3, iC := g4, tI := g5, lk := ⟨oc, od, .none, kV, doc, pm, an, ct, sl, lk, fun a b => bd kV doc pm an (.ref cda) ct cc a b⟩, co := k2, cd := ⟨oc2, od2, vs2, sl2, fl, tf, lk2, v2, by rw [hfile]; exact hfl⟩, cell := k4, mro := g7, sup := g8, sta := g9, sin := g10, sub := g11, sa := g12, no := g13, hd := g14, par := s1, s1 := s2, s2 := s3, s3 := s4, s4 := s5, s5 := s6, s6 := s7, s7 := s8, s8 := s9, ne := s10, d1 := s11, d2 := s12, top := htop, bd := bodyB_ok s13 }
      show (XfC K (D.xA K c) ∧ PySem.W.findIn K (.ref (D.xA K c)) f' = some none) ∧ PySem.W.subIn K (.ref (D.xA K c)) (.type "BaseException") = some true ∧ PySem.W.typeIn K (.ref (D.xA K c)) = some (.type "type") ∧ ∃ B newId initId bmB fI cda cc nm qual slf y pa body scope, XFld P K (D.xA K c) f' B newId initId bmB fI cda cc nm qual slf y pa body scope
      rw [xA hxx]
      exact ⟨⟨xfB_ok g15, g1⟩, w1, w2, _, _, _, _, _, _, _, _, _, _, _, _, _, _, main⟩
  · obtain ⟨q1, q2, q3⟩ := msB_ok D K (List.all_eq_true.mp c6 _ e)
    exact ⟨q1, by rw [← o.l2]; exact q2, q3⟩
  · have at2 : ∀ {c c' : Nat}, c < D.C.slots.length → c' < D.C.slots.length → PySem.W.notFirst K (D.cA K c) (.type "NoneType") = true ∧ PySem.W.notFirst K (D.cA K c) (.type "tuple") = true ∧ PySem.W.notFirst K (D.cA K c) (.ref (D.cA K c')) = true := fun {c c'} hc hc' => by
      obtain ⟨x, hx⟩ := at_c hc
      obtain ⟨y, hy⟩ := at_c hc'
      have q := allIx_at c7 hx
      simp only [Bool.and_eq_true] at q
      have q2 := allIx_at q.2 hy
      rw [cA hx, cA hy]
      exact ⟨q.1.1, q.1.2, q2⟩
    exact ⟨fun c hc => (at2 hc hc).1, fun c hc => (at2 hc hc).2.1, fun c c' hc hc' => (at2 hc hc').2.2⟩
  · unfold PD.fA
    rw [o.ga f fi e hq]
    rfl
end
/-! ### the Hook -/
abbrev AlE : Type := Bool × List He.FnW × List XnW
def xnO (K : PySem.W.Frag) (x : Str × Option (Str × XD)) : XnW := match x.2 with
  | none => none
  | some _ => xnA K (He.ma K (He.ga K x.1) "__init__")
def xnV (x : Str × Option (Str × XD)) : XnW := match x.2 with
  | none => none
  | some p => p.2.val
def obsE (D : PD) (K : PySem.W.Frag) : AlE := ((D.exB K && D.fn.all fun p => defB K (p.2.at_ K) p.1), D.fn.map fun p => defA K (p.2.at_ K), D.xs.map (xnO K))
def valE (D : PD) : AlE := (true, D.fn.map fun p => p.1.val, D.xs.map xnV)
/-- a table of code objects grows: it is not told -/
def isTab : Option Obj → Bool
  | some ⟨.none, _, .fields vs, _⟩ => vs.isEmpty
  | _ => false
def obsEG (n : Nat) (D : PD) (g : Addr → Option Obj) : AlE := obsE D (He.frG g ((He.asD g n ++ [cStatics]).filter fun a => !isTab (g a)))
def hookE (n : Nat) (D : PD) : PySem.W.Hook where
  α := AlE
  obs := fun s => obsEG n D s.heap.get?
  val := fun _ => valE D
  says := fun _ h => ∃ K : PySem.W.Frag, K.In h ∧ obsE D K = valE D
  of := fun _ _ e => ⟨_, He.frG_in, e⟩
  keeps := fun _ _ _ ⟨K, hK, c⟩ k => ⟨K, PySem.W.Frag.In.keeps hK k, c⟩
theorem obsEG_eq {n : Nat} {D : PD} {g : Addr → Option Obj} {s : Shared} (h : ∀ a, g a = s.heap.get? a) : obsEG n D g = (hookE n D).obs s := by
  have e : g = s.heap.get? := funext h
  rw [e] <;> rfl
theorem saysE {D : PD} {K : PySem.W.Frag} (c : obsE D K = valE D) : D.exB K = true ∧ (∀ p ∈ D.fn, ∃ fd, FunD K p.1.name p.1.qual p.1.pa p.1.body p.1.sc [] [] (p.2.at_ K) fd) ∧ ∀ (c : Nat) (x f : Str) (d : XD), D.xs[c]? = some (x, some (f, d)) → xnA K (He.ma K (He.ga K x) "__init__") = d.val := by
  have c1 : (D.exB K && D.fn.all fun p => defB K (p.2.at_ K) p.1) = true := congrArg (fun z : AlE => z.1) c
  have c2 : (D.fn.map fun p => defA K (p.2.at_ K)) = D.fn.map fun p => p.1.val := congrArg (fun z : AlE => z.2.1) c
  have c3 : D.xs.map (xnO K) = D.xs.map xnV := congrArg (fun z : AlE => z.2.2) c
  rw [Bool.and_eq_true] at c1
  refine ⟨c1.1, fun d hd => ?_, fun c x f d h => ?_⟩
  · have e : defA K (d.2.at_ K) = d.1.val := by
      obtain ⟨i, hi⟩ := List.mem_iff_getElem?.mp hd
      have q := congrArg (fun l : List He.FnW => l[i]?) c2
      simp only [List.getElem?_map, hi, Option.map_some] at q
      exact Option.some.inj q
    exact defA_ok e (List.all_eq_true.mp c1.2 d hd)
  · have q := congrArg (fun l : List XnW => l[c]?) c3
    simp only [List.getElem?_map, h, Option.map_some] at q
    exact Option.some.inj q
end Ev
end

section
set_option Elab.async false
set_option linter.all false
set_option maxRecDepth 100000
set_option maxHeartbeats 4000000
/-! Ev28: the law's def is called with the script. -/
namespace Ev
open PySem PySem.Spec PyProof.Rows L2
section
variable {P : Program} {w : World} {K : PySem.W.Frag} {mg mb : Str → Option Value} {k : Nat} {fa a : Addr} {fd : FuncData} {x : Str} {sp : Sp0} {s1 : Shared} {vs : List Value} {ns : List Int}
/-- what the law's def leaves -/
abbrev LawEnd (s1 : Shared) (r : Result) (s2 : Shared) : Prop := r = .ok (.ret (.bool true)) ∧ OldK s1.heap s2.heap ∧ s2.os = s1.os ∧ AllBare s2.gens
/-- an empty table of code objects -/
abbrev tab0 : Obj := { cls := .none, data := .fields #[] }
theorem law_from {cs : List (Addr × Addr)} (KX : K.In s1.heap) (hns : s1.heap.Ns mainGlobals mg) (hb : s1.heap.Ns builtinsNs mb) (hbb : ∀ x : Str, x ≠ "__name__" → mb x = bootBuiltins x) (lim : s1.heap.NoLimit) (hg : s1.gens = #[]) (ha : s1.heap.get? a = some { cls := .type "list", data := .seq vs.toArray })
    (tT : ∀ q ∈ cs, s1.heap.get? q.2 = some tab0) (tK : ∀ q ∈ cs, K.lookup q.2 = none) (tC : ∀ q ∈ cs, PySem.W.CodeHd s1.heap q.1 q.2) (bm : ∃ (m : Addr) (o : Obj), mg "__builtins__" = some (.ref m) ∧ m ≠ builtinsNs ∧ s1.heap.get? m = some o ∧ o.cls = .type "module" ∧ o.dict = some builtinsNs ∧ o.data = .plain)
    (room : Room k callerA) (F : ∀ base : Heap, K.In base → base.Ns mainGlobals mg → (∀ q ∈ cs, LamX.TabB base mg q.1 q.2) → Fok P w K mg base k fa fd [x] sp) (bi : ∀ (s : Shared) (u : Value), BindsTo s fd ⟨[u], []⟩ [(x, u)])
    {H : Hp} (tH : ∀ q ∈ cs, H q.2 = some (.tbl #[])) (only : ∀ b, H b = none ∨ (∃ ob xs, H b = some (.frz ob (.lst xs))) ∨ ∃ q ∈ cs, q.2 = b) (q : sp [.ref a] H (fun v _ => v = .bl true) nE) (hok : HOk P w H s1.heap) (one : ∀ b, H b ≠ none → b = a ∨ ∃ q ∈ cs, q.2 = b) (free : H a ≠ none → K.lookup a = none) : codeAny (model P w) callerA (.call (.ref fa) ⟨[.ref a], []⟩) (LawEnd s1) s1 := by
  have untold : ∀ {b : Addr} {o : Obj}, s1.heap.get? b = some o → (∀ l n, o.data ≠ .seq l n) → o.data ≠ .fields #[] → H b = none := fun {b o} e n1 n2 => by
    cases z : H b with
    | none => rfl
    | some u =>
      rcases one b (by rw [z]; simp) with rfl | ⟨c, hc, rfl⟩
      · rw [ha] at e; cases e; exact (n1 _ _ rfl).elim
      · rw [tT c hc] at e; cases e; exact (n2 rfl).elim
  have dicts : ∀ {b : Addr} {m : Str → Option Value}, s1.heap.Ns b m → (hidT s1.heap H).Ns b m := by
    intro b m ⟨o, es, ep, h1, h2, h3⟩
    refine ⟨o, es, ep, hidT_get h1 (untold h1 (fun l n z => ?_) fun z => ?_), h2, h3⟩
    · rw [h2] at z; cases z
    · rw [h2] at z; cases z
  have kin : K.In (hidT s1.heap H) := by
    intro b o h1
    refine hidT_get (KX b o h1) ?_
    cases z : H b with
    | none => rfl
    | some u =>
      rcases one b (by rw [z]; simp) with rfl | ⟨c, hc, rfl⟩
      · rw [free (by rw [z]; simp)] at h1; cases h1
      · rw [tK c hc] at h1; cases h1
  have tb : ∀ c ∈ cs, LamX.TabB (hidT s1.heap H) mg c.1 c.2 := fun c hc => by
    obtain ⟨o, us, f1, f2, f3, f4, f5, f6, f7, h1, h2, h3, hr⟩ := tC c hc
    refine ⟨⟨o, us, f1, f2, f3, f4, f5, f6, f7, hidT_get h1 (untold h1 (fun l n z => ?_) fun z => ?_), h2, h3, hr⟩, ?_, fun z => ?_⟩
    · rw [h3] at z; cases z
    · rw [h3] at z
      cases z
      obtain ⟨h4, _⟩ := hr
      simp at h4
    · obtain ⟨m, om, b1, b2, b3, b4, b5, b6⟩ := bm
      refine ⟨m, om, b1, b2, fun z => ?_, fun z => ?_, hidT_get b3 (untold b3 (fun l n z => ?_) fun z => ?_), b4, b5, b6⟩
      · obtain ⟨o1, es, ep, q1, q2, _⟩ := hns
        rw [z, q1] at b3; cases b3; rw [q2] at b6; cases b6
      · rw [z, tT c hc] at b3; cases b3; cases b6
      · rw [b6] at z; cases z
      · rw [b6] at z; cases z
    · obtain ⟨o1, es, ep, q1, q2, _⟩ := hns
      rw [z, tT c hc] at q1; cases q1; cases q2
  obtain ⟨mc, l1, l2⟩ := lim
  have e0 : Env0 P w K mg (hidT s1.heap H) callerA [] s1 H := { frames := rfl, mod := ⟨kin, dicts hns, ⟨mb, dicts hb, hbb⟩, ⟨mc, dicts l1, l2⟩⟩, bs := fun b o z => of_hidT z, bsz := Nat.le_of_eq (hidT_size _ _), funs := trivial, frf := (fun b z => nomatch z), hok := hok, bare := .of_eq hg }
  refine codeAny_mono (F _ kin (dicts hns) tb callerA [] s1 H ⟨[.ref a], []⟩ [.ref a] [.ref a] _ nE room rfl e0 (bi s1 (.ref a)) (.cons rfl .nil) rfl q) fun r s2 hr => ?_
  match r, hr with
  | .error _, hr =>
    obtain ⟨_, _, _, _, _, _, _, _, _, _, _, _, z⟩ := hr
    exact z.elim
  | .ok .next, hr => exact hr.elim
  | .ok .brk, hr => exact hr.elim
  | .ok .cont, hr => exact hr.elim
  | .ok (.ret u), hr =>
    obtain ⟨v, H2, os, bare, un, hok2, rv, hv⟩ := hr
    have hv : v = .bl true := hv
    subst hv
    obtain rfl : u = Value.bool true := rv
    have kept : ∀ b o, (¬ ∃ q ∈ cs, q.2 = b) → s1.heap.get? b = some o → s2.heap.get? b = some o := fun b o nb hb => by
      rcases only b with z | ⟨ob, xs, z⟩ | z
      · exact un.keep b o hb z (fun h => nomatch h) (fun h => nomatch h)
      · obtain ⟨g1, _⟩ := hok b _ z
        obtain ⟨g2, _⟩ := hok2 b _ (un.frzs b ob _ z)
        rw [hb] at g1
        cases g1
        exact g2
      · exact (nb z).elim
    have grown : ∀ c ∈ cs, ∃ more : Array Value, s2.heap.get? c.2 = some { cls := .none, data := .fields more } := fun c hc => by
      obtain ⟨more, z⟩ := un.tbls c.2 #[] (tH c hc)
      exact ⟨_, hok2 c.2 _ z⟩
    refine ⟨rfl, ⟨fun b o e => ?_, fun b o e => ?_⟩, os, bare⟩
    · by_cases hb : ∃ q ∈ cs, q.2 = b
      · obtain ⟨c, hc, rfl⟩ := hb
        obtain ⟨more, hm⟩ := grown c hc
        rw [tT c hc] at e
        cases e
        exact .inr (.inl ⟨((tC c hc).tab (tT c hc)).isCodeTable, rfl, #[], more, rfl, by rw [Array.empty_append]; exact hm⟩)
      · exact .inl (kept b o hb e)
    · by_cases hb : ∃ q ∈ cs, q.2 = b
      · obtain ⟨c, hc, rfl⟩ := hb
        obtain ⟨more, hm⟩ := grown c hc
        exact ⟨_, hm⟩
      · exact ⟨o, kept b o hb e⟩
theorem law_run {cs : List (Addr × Addr)} (KX : K.In s1.heap) (hns : s1.heap.Ns mainGlobals mg) (hb : s1.heap.Ns builtinsNs mb) (hbb : ∀ x : Str, x ≠ "__name__" → mb x = bootBuiltins x) (lim : s1.heap.NoLimit) (hg : s1.gens = #[]) (ha : s1.heap.get? a = some { cls := .type "list", data := .seq vs.toArray })
    (tT : ∀ q ∈ cs, s1.heap.get? q.2 = some tab0) (tK : ∀ q ∈ cs, K.lookup q.2 = none) (tC : ∀ q ∈ cs, PySem.W.CodeHd s1.heap q.1 q.2) (bm : ∃ (m : Addr) (o : Obj), mg "__builtins__" = some (.ref m) ∧ m ≠ builtinsNs ∧ s1.heap.get? m = some o ∧ o.cls = .type "module" ∧ o.dict = some builtinsNs ∧ o.data = .plain)
    (hi : IntsAre vs ns) (hl : ns.length ≤ sizeLine) (room : Room k callerA) (F : ∀ base : Heap, K.In base → base.Ns mainGlobals mg → (∀ q ∈ cs, LamX.TabB base mg q.1 q.2) → Fok P w K mg base k fa fd [x] sp) (bi : ∀ (s : Shared) (u : Value), BindsTo s fd ⟨[u], []⟩ [(x, u)])
    (q : ∀ F H : Hp, Sub F H → (∀ b ps, F b ≠ some (.tbl ps)) → (∀ c ∈ cs, H c.2 = some (.tbl #[])) → SqL K F a (ns.map V.int) → sp [.ref a] H (fun v _ => v = .bl true) nE) : codeAny (model P w) callerA (.call (.ref fa) ⟨[.ref a], []⟩) (LawEnd s1) s1 := by
  have rv := vals_ints hi
  have hlen := hi.length
  let ob : Obj := { cls := .type "list", data := .seq vs.toArray }
  let G : Hp → Hp := fun F b => match F b with
    | some u => some u
    | none => if ∃ c ∈ cs, c.2 = b then some (.tbl #[]) else none
  have gF : ∀ {F : Hp} {b : Addr} {u : HO}, F b = some u → G F b = some u := fun {F b u} e => by show (match F b with | some u => some u | none => _) = _; rw [e]
  have gT : ∀ {F : Hp} {b : Addr}, F b = none → (∃ c ∈ cs, c.2 = b) → G F b = some (.tbl #[]) := fun {F b} e h => by show (match F b with | some u => some u | none => _) = _; rw [e]; exact if_pos h
  have gN : ∀ {F : Hp} {b : Addr}, F b = none → (¬ ∃ c ∈ cs, c.2 = b) → G F b = none := fun {F b} e h => by show (match F b with | some u => some u | none => _) = _; rw [e]; exact if_neg h
  have aT : ¬ ∃ c ∈ cs, c.2 = a := fun ⟨c, hc, z⟩ => by
    have := tT c hc
    rw [z, ha] at this
    cases this
  -- the tables beside what is frozen
  have both : ∀ (F0 : Hp), (∀ b, b ≠ a → F0 b = none) → (∀ u, F0 a = some u → u = .frz ob (.lst (ns.map V.int))) → (F0 a ≠ none → K.lookup a = none) → SqL K F0 a (ns.map V.int) → codeAny (model P w) callerA (.call (.ref fa) ⟨[.ref a], []⟩) (LawEnd s1) s1 := fun F0 e1 e2 e3 e4 => by
    have nt : ∀ b, (∃ c ∈ cs, c.2 = b) → F0 b = none := fun b hb => e1 b fun z => aT (z ▸ hb)
    have tH : ∀ c ∈ cs, G F0 c.2 = some (.tbl #[]) := fun c hc => gT (nt _ ⟨c, hc, rfl⟩) ⟨c, hc, rfl⟩
    have aw : G F0 a ≠ none → F0 a ≠ none := fun h z => h (gN z aT)
    refine law_from KX hns hb hbb lim hg ha tT tK tC bm room F bi (H := G F0) tH (fun b => ?_) (q F0 _ (fun b u z => gF z) (fun b ps z => ?_) tH e4) (fun b u z => ?_) (fun b z => ?_) fun z => e3 (aw z)
    · cases h : F0 b with
      | some u =>
        by_cases hba : b = a
        · subst hba
          rw [gF h, e2 u h]
          exact .inr (.inl ⟨_, _, rfl⟩)
        · rw [e1 b hba] at h; cases h
      | none =>
        by_cases hT : ∃ c ∈ cs, c.2 = b
        · exact .inr (.inr hT)
        · exact .inl (gN h hT)
    · by_cases hba : b = a
      · subst hba
        cases e2 _ z
      · rw [e1 b hba] at z; cases z
    · cases h : F0 b with
      | some v =>
        rw [gF h] at z
        cases z
        by_cases hba : b = a
        · subst hba
          rw [e2 _ h]
          exact ⟨ha, by rw [List.length_map]; exact hl, vs, _, rv, ha⟩
        · rw [e1 b hba] at h; cases h
      | none =>
        by_cases hT : ∃ c ∈ cs, c.2 = b
        · rw [gT h hT] at z
          cases z
          obtain ⟨c, hc, rfl⟩ := hT
          exact tT c hc
        · rw [gN h hT] at z; cases z
    · by_cases hba : b = a
      · exact .inl hba
      · by_cases hT : ∃ c ∈ cs, c.2 = b
        · exact .inr hT
        · exact (z (gN (e1 b hba) hT)).elim
  cases hk : K.lookup a with
  | some o =>
    have h1 := KX a o hk
    rw [ha] at h1
    cases h1
    exact both (fun _ => none) (fun _ _ => rfl) (fun u z => nomatch z) (fun z => (z rfl).elim) (.inr ⟨_, vs.toArray, _, hk, rfl, rfl, rfl, by rw [List.size_toArray, hlen]; exact hl, by simpa using rv⟩)
  | none =>
    exact both (upd (fun _ => none) a (.frz ob (.lst (ns.map V.int)))) (fun b hba => upd_ne hba) (fun u z => by rw [upd_same] at z; exact (Option.some.inj z).symm) (fun _ => hk) (.inl (.inr ⟨ob, upd_same⟩))
end
/-- the tables stand, empty -/
theorem PD.tables {D : PD} {K : PySem.W.Frag} {q : Program} {loose : List Str} {mean : ExcName → Option Value} {mg mb : Str → Option Value} {h : Heap} (cB : D.exB K = true) (X : K.In h) (G : Top q loose mean mg mb h) (hr : ∀ x ∈ D.C.lams, ((recsOf q).find? fun e => e.name == x).isSome = true) :
    ∀ p ∈ D.cs K, h.get? p.2 = some tab0 ∧ K.lookup p.2 = none ∧ PySem.W.CodeHd h p.1 p.2 := by
  intro p hp
  obtain ⟨x, hx, e⟩ := List.mem_filterMap.mp hp
  obtain ⟨d, hd⟩ := Option.isSome_iff_exists.mp (hr x hx)
  obtain ⟨c, P⟩ := p
  obtain ⟨q1, q2⟩ := PySem.W.tab_of G X hd e
  unfold PD.exB PD.exA PD.tabB at cB
  simp only [Bool.and_eq_true, List.all_eq_true] at cB
  have := cB.1.1.1.1.1.1.2.2 x hx
  rw [e] at this
  exact ⟨q2, Option.isNone_iff_eq_none.mp this, q1⟩
theorem PD.tbs_cs {D : PD} {K : PySem.W.Frag} {p : Addr × Str} (h : p ∈ D.tbs K) : ∃ c ∈ D.cs K, c.2 = p.1 := by
  obtain ⟨x, hx, e⟩ := List.mem_filterMap.mp h
  obtain ⟨c, e1, rfl⟩ := map_some e
  exact ⟨c, List.mem_filterMap.mpr ⟨x, hx, e1⟩, rfl⟩
theorem PD.lamK {D : PD} {K : PySem.W.Frag} {mg : Str → Option Value} {base : Heap} (cB : D.exB K = true) (tb : ∀ q ∈ D.cs K, LamX.TabB base mg q.1 q.2) : LamK (D.tab K []) K mg base D.C.lams := by
  intro x hx
  unfold PD.exB PD.exA PD.tabB at cB
  simp only [Bool.and_eq_true, List.all_eq_true] at cB
  have ap := cB.1.1.1.1.1.1.2.1
  have l := cB.1.1.1.1.1.1.2.2 x hx
  cases e : PySem.W.tabIn K x with
  | none => rw [e] at l; cases l
  | some p =>
    have m1 : (p.2, lamQ x) ∈ D.tbs K := List.mem_filterMap.mpr ⟨x, hx, by rw [e]; rfl⟩
    refine ⟨p.1, p.2, rfl, tb p (List.mem_filterMap.mpr ⟨x, hx, e⟩), m1, fun q hq z => ?_⟩
    rw [apart_eq ap m1 hq z]
/-- a law by the evaluator -/
theorem law_by {D : PD} {l : PySem.W.OpenLaw} {n k lf : Nat} {q : Program} {loose : List Str} {XP : (Str → Option Value) → Heap → Prop} {d : DefRec} {fi : FI} {x : Str} (o : D.Ok) (hn : l.most = some n) (hn2 : n ≤ sizeLine) (hdf : d.params.defaults = []) (room : Room (5 * k + 5) callerA)
    (hfi : D.fis[lf]? = some fi) (hG : D.C.G.lookup d.name = some (.fn lf)) (hps : fi.ps = [x]) (hr : ∀ x ∈ D.C.lams, ((recsOf q).find? fun e => e.name == x).isSome = true) (hfile : (l.prog.main.file : Str) = D.file) (htop : (l.prog.main.scope.names.lookup ("super" : Str)).isSome = false) (hev : ∀ ns : List Int, ns.length ≤ n → ∃ fr st, callN D.Pr k lf [.scr ns] [] = .ok (.d (.bool true), fr) st) :
    PySem.W.WalkO q loose XP (fun w h => ∃ K : PySem.W.Frag, K.In h ∧ obsE D K = valE D) l.row.toRowW d [] (fun f vs => PySem.call f vs) := by
  refine Att.attach_call hn hdf fun w s0 s1 mg mb fa ob pm cd doc a vs ns G Y ho hd hcd hmg hobj hints hlen hg => ?_
  obtain ⟨K, KX, c⟩ := Y
  obtain ⟨c1, c2, c3⟩ := saysE c
  have kf := D.kf (P := l.prog) o KX G.T.g c1 c3 hfile htop c2 []
  obtain ⟨fd, F, hb⟩ := kf.fd lf fi hfi
  obtain ⟨e1, _⟩ := kf.fn d.name lf hG
  rw [hmg] at e1
  obtain rfl : fa = D.fA K lf := by cases e1; rfl
  have bi : ∀ (s : Shared) (u : Value), BindsTo s fd ⟨[u], []⟩ [(x, u)] := fun s u => by
    have := F.bindsA (o.bn lf fi hfi) s [u] (by rw [hps]; rfl)
    rwa [hps] at this
  have tabs := PD.tables c1 KX G.T hr
  refine law_run KX G.T.g G.T.b G.T.builtins G.T.nolimit hg hobj (fun p hp => (tabs p hp).1) (fun p hp => (tabs p hp).2.1) (fun p hp => (tabs p hp).2.2) G.T.bmain hints (Nat.le_trans hlen hn2) room (sp := spF (D.tab K []) D.Pr k lf) (fun base kb nb tb => ?_) bi fun F H sF nt tH hS => ?_
  · have := fok_all (T := D.tab K []) (P := l.prog) (w := w) (base := base) rep_T kf (PD.lamK c1 tb) k k (Nat.le_refl k) lf fi fd hfi F
    rwa [hps] at this
  · obtain ⟨fr, st, e⟩ := hev ns hlen
    refine ⟨[], [], F, [], [.scr ns], ⟨sF, rfl, List.nodup_nil, (fun a h => nomatch h), (fun n o h => by unfold getO at h; simp at h), (fun p hp => nomatch hp), fun p hp => ⟨(fun z => nomatch z), #[], ?_, True.intro, fun pos cv z => by simp [codeAmong] at z⟩, nt⟩, .cons ⟨a, rfl, hS⟩ .nil, ?_⟩
    · obtain ⟨c, hc, e⟩ := PD.tbs_cs hp
      rw [← e]
      exact tH c hc
    rw [e]
    intro ρ' F' H' _ _ _ y fy
    rcases fy with ⟨_, z⟩ | ⟨_, _, _, _, z, _⟩
    · cases z; rfl
    · cases z
end Ev
end

section
set_option Elab.async false
set_option linter.all false
set_option maxRecDepth 100000
set_option maxHeartbeats 4000000
/-! HnA: drawing from the script, and steps of known outcome. -/
namespace Ev
open PySem PySem.Spec
section
variable {cf nf : CallF} {fuel : Nat} {env env1 : Env} {st st1 st2 : Store} {v : Vl} {fr : Bool}
theorem hn_ss_nx {s : Sx} {ss : List Sx} (h : exS cf nf fuel s env st = .nx env1 st1) : exSs cf nf fuel (s :: ss) env st = exSs cf nf fuel ss env1 st1 := by
  show (exS cf nf fuel s env st).bind _ = _
  rw [h]; rfl
theorem hn_ss_ret {s : Sx} {ss : List Sx} (h : exS cf nf fuel s env st = .ret v fr st1) : exSs cf nf fuel (s :: ss) env st = .ret v fr st1 := by
  show (exS cf nf fuel s env st).bind _ = _
  rw [h]; rfl
theorem hn_ss_app : ∀ {xs ys : List Sx} {env : Env} {st : Store}, exSs cf nf fuel (xs ++ ys) env st = (exSs cf nf fuel xs env st).bind fun e s => exSs cf nf fuel ys e s
  | [], _, _, _ => rfl
  | x :: xs, ys, env, st => by
    show (exS cf nf fuel x env st).bind (fun e s => exSs cf nf fuel (xs ++ ys) e s) = ((exS cf nf fuel x env st).bind fun e s => exSs cf nf fuel xs e s).bind _
    cases exS cf nf fuel x env st with
    | nx e s => exact hn_ss_app
    | _ => rfl
theorem hn_ss_pre {xs ys : List Sx} (h : exSs cf nf fuel xs env st = .nx env1 st1) : exSs cf nf fuel (xs ++ ys) env st = exSs cf nf fuel ys env1 st1 := by
  rw [hn_ss_app, h]; rfl
theorem hn_s_call {i f : Nat} {as : List Ex} {vs : List Vl} (h1 : evEs cf nf as env st = .ok vs st1) (h2 : cf f vs st1 = .ok (v, fr) st2) : exS cf nf fuel (.set i (.call f as)) env st = .nx (env.set i (some v)) st2 := by
  show ((evEs cf nf as env st).bind fun vs st1 => cf f vs st1).on env _ = _
  rw [h1]
  show (cf f vs st1).on env _ = _
  rw [h2]; rfl
theorem hn_e_call {f : Nat} {as : List Ex} {vs : List Vl} {r : R (Vl × Bool)} (h1 : evEs cf nf as env st = .ok vs st1) (h2 : cf f vs st1 = r) : evE cf nf (.call f as) env st = r := by
  show ((evEs cf nf as env st).bind fun vs st1 => cf f vs st1) = _
  rw [h1]; exact h2
theorem hn_s_no {c : Ex} {a : List Sx} {b : Bool} (h : evE cf nf c env st = .ok (.d (.bool false), b) st1) : exS cf nf fuel (.ifs c a []) env st = .nx env st1 := by
  show (evE cf nf c env st).on env _ = _
  rw [h]; rfl
theorem hn_e_or {x y : Ex} {b : Bool} {r : R (Vl × Bool)} (h : evE cf nf x env st = .ok (.d (.bool false), b) st1) (h2 : evE cf nf y env st1 = r) : evE cf nf (.or_ x y) env st = r := by
  show (evE cf nf x env st).bind _ = _
  rw [h]; exact h2
theorem hn_e_ne {x y : Ex} {b b2 : Bool} {u w : Vl} {r : R (Vl × Bool)} (h : evE cf nf x env st = .ok (u, b) st1) (h2 : evE cf nf y env st1 = .ok (w, b2) st2) (h3 : retB (cmpV .ne st2 u w) st2 = r) : evE cf nf (.cmp .ne x y) env st = r := by
  show (evE cf nf x env st).bind _ = _
  rw [h]
  show (evE cf nf y env st1).bind _ = _
  rw [h2]; exact h3
end
section
variable {P : Prog} {f g n : Nat} {st : Store} {r : Nat} {a b c m : Int}
theorem hn_getO_len {o : Ob} (e : getO st r = some o) : r < st.length := by
  unfold getO at e
  cases h : st[r]? with
  | none => rw [h] at e; cases e
  | some x => exact (List.getElem?_eq_some_iff.mp h).1
theorem hn_getO_same {o : Option Ob} (h : r < st.length) : getO (st.set r o) r = o := by
  unfold getO
  rw [List.getElem?_set_self h]; rfl
theorem hn_take_set {o : Option Ob} : (st.set r o).take st.length = st.set r o := List.take_of_length_le (by rw [List.length_set]; exact Nat.le_refl _)
theorem hn_call_eq {fn : Fn} (hf : P.fns[f]? = some fn) {vs : List Vl} (h : vs.length = fn.np ∧ fn.np ≤ fn.ns) : callN P (n + 1) f vs st = endV st.length (exSs (callN P n) (newN P n) P.fuel fn.body (vs.map some ++ List.replicate (fn.ns - fn.np) none) st) := by
  show (match P.fns[f]? with
    | some fn => if vs.length = fn.np ∧ fn.np ≤ fn.ns then _ else _
    | none => _) = _
  rw [hf]
  exact if_pos h
def drawA : Fn := ⟨2, 3, [
    .ifs (.cmp .gt (.idx (.var 0) (.con (.int 0))) (.con (.int 0))) [.set 2 (.bin .mod (.bi .int [(.idx (.var 0) (.con (.int 0)))]) (.var 1)), .setI (.var 0) (.con (.int 0)) (.bin .fdiv (.idx (.var 0) (.con (.int 0))) (.var 1)), .ret (.var 2)] [],
    .setI (.var 0) (.con (.int 1)) (.bin .mod (.bi .int [(.bin .add (.bin .mul (.idx (.var 0) (.con (.int 1))) (.con (.int 6364136223))) (.con (.int 1442695041)))]) (.bin .sub (.bin .pow (.con (.int 2)) (.con (.int 61))) (.con (.int 1)))),
    .ret (.bin .mod (.bi .int [(.bin .fdiv (.idx (.var 0) (.con (.int 1))) (.con (.int 65537)))]) (.var 1))]⟩
def oneA (f : Nat) : Fn := ⟨2, 2, [
    .ret (.idx (.var 1) (.call f [(.var 0), (.bi .len [(.var 1)])]))]⟩
def BagA (st : Store) (r : Nat) (a b : Int) : Prop := getO st r = some (.lst [.int a, .int b]) ∧ 0 ≤ a ∧ 0 ≤ b ∧ b < 2305843009213693952
theorem drawA_ok (hf : P.fns[f]? = some drawA) (G : BagA st r a b) (hm : 0 < m) (hm2 : m < 1073741824) :
    ∃ x a' b', 0 ≤ x ∧ x < m ∧ BagA (st.set r (some (.lst [.int a', .int b']))) r a' b' ∧ callN P (n + 1) f [.ref r, .d (.int m)] st = .ok (.d (.int x), false) (st.set r (some (.lst [.int a', .int b']))) := by
  obtain ⟨e, ha, hb, hb2⟩ := G
  have hl := hn_getO_len e
  by_cases h : 0 < a
  · refine ⟨a % m, a / m, b, Int.emod_nonneg _ (by omega), Int.emod_lt_of_pos _ hm, ⟨hn_getO_same hl, Int.ediv_nonneg ha (by omega), hb, hb2⟩, ?_⟩
    rw [hn_call_eq hf ⟨rfl, by decide⟩]
    simp [drawA, exSs, exS, evE, evEs, getV, idxV, e, atD, ixN, cmpV, datD, ltD, h, R.bind, R.on, SR.bind, retP, retB, truV, Tru, biV, bi1, intI, binD, binI, hm, hm2, retO, putV, thawV, setIV, frz, endV, finV, hn_take_set]
  · have ha0 : a = 0 := by omega
    subst ha0
    have hmul : b.natAbs.log2 + (6364136223 : Int).natAbs.log2 < 1000000 := by
      have : b.natAbs.log2 < 62 := by
        by_cases z : b.natAbs = 0
        · rw [z]; decide
        · exact (Nat.log2_lt z).mpr (by omega)
      have h2 : (6364136223 : Int).natAbs.log2 < 100 := by decide +kernel
      omega
    have hpow : binI .pow 2 61 = some 2305843009213693952 := by decide +kernel
    refine ⟨(b * 6364136223 + 1442695041) % 2305843009213693951 / 65537 % m, 0, (b * 6364136223 + 1442695041) % 2305843009213693951, Int.emod_nonneg _ (by omega), Int.emod_lt_of_pos _ hm, ⟨hn_getO_same hl, Int.le_refl _, Int.emod_nonneg _ (by decide), ?_⟩, ?_⟩
    · have := Int.emod_lt_of_pos (b * 6364136223 + 1442695041) (show (0 : Int) < 2305843009213693951 by decide)
      omega
    · have hmul2 : binI .mul b 6364136223 = some (b * 6364136223) := if_pos hmul
      rw [hn_call_eq hf ⟨rfl, by decide⟩]
      simp [drawA, exSs, exS, evE, evEs, getV, idxV, e, atD, ixN, cmpV, datD, ltD, R.bind, R.on, SR.bind, retP, retB, truV, Tru, biV, bi1, intI, binD, hpow, hmul2, retO, putV, thawV, setIV, frz, hn_getO_same hl]
      simp [binI, hm, hm2, hl, setIV, e, ixN, hn_getO_same hl, retO, endV, finV, hn_take_set]
theorem oneA_ok (hf : P.fns[f]? = some drawA) (hg : P.fns[g]? = some (oneA f)) {items : List PyData} (G : BagA st r a b) (h1 : 0 < items.length) (h2 : items.length < 1073741824) :
    ∃ x ∈ items, ∃ a' b', BagA (st.set r (some (.lst [.int a', .int b']))) r a' b' ∧ callN P (n + 2) g [.ref r, .d (.list items)] st = .ok (.d x, false) (st.set r (some (.lst [.int a', .int b']))) := by
  obtain ⟨x, a', b', x0, x1, G', e⟩ := drawA_ok (n := n) hf G (m := (items.length : Int)) (by omega) (by omega)
  have hx : x.toNat < items.length := by omega
  refine ⟨items[x.toNat], List.getElem_mem hx, a', b', G', ?_⟩
  have hat : atD items x = some items[x.toNat] := by
    unfold atD ixN
    rw [if_pos x0, if_pos x1]
    exact List.getElem?_eq_getElem hx
  rw [hn_call_eq hg ⟨rfl, Nat.le_refl 2⟩]
  simp [oneA, exSs, exS, evE, evEs, getV, biV, bi1, lenV, datD, R.bind, R.on, SR.bind, retP, e, idxV, hat, endV, finV, hn_take_set]
def bagA : Fn := ⟨2, 5, [
    .set 2 (.ife (.cmp .lt (.var 1) (.bi .len [(.var 0)])) (.bi .int [(.idx (.var 0) (.var 1))]) (.bin .add (.bin .mul (.con (.int 89)) (.var 1)) (.con (.int 41)))),
    .set 3 (.bin .mod (.bi .max2 [(.con (.int 0)), (.bin .sub (.bi .abs [(.var 2)]) (.bin .pow (.con (.int 10)) (.con (.int 18))))]) (.bin .mul (.bin .pow (.con (.int 10)) (.con (.int 60))) (.bin .pow (.con (.int 10)) (.con (.int 60))))),
    .set 4 (.bin .add (.bin .add (.bin .add (.bin .mul (.bin .mod (.bi .int [(.bi .abs [(.var 2)])]) (.bin .add (.bin .pow (.con (.int 10)) (.con (.int 12))) (.con (.int 39)))) (.con (.int 10007))) (.bin .mul (.con (.int 509)) (.var 1))) (.bin .mul (.con (.int 17)) (.bi .int [(.cmp .lt (.var 2) (.con (.int 0)))]))) (.con (.int 1))),
    .ret (.lst [(.var 3), (.bin .mod (.bi .int [(.var 4)]) (.bin .sub (.bin .pow (.con (.int 2)) (.con (.int 61))) (.con (.int 1))))])]⟩
theorem hn_mul_small {i j : Int} (h1 : i.natAbs < 2 ^ 200) (h2 : j.natAbs < 2 ^ 200) : binI .mul i j = some (i * j) := by
  have a1 : i.natAbs.log2 < 201 := by
    by_cases z : i.natAbs = 0
    · rw [z]; decide
    · exact Nat.lt_succ_of_lt ((Nat.log2_lt z).mpr h1)
  have a2 : j.natAbs.log2 < 201 := by
    by_cases z : j.natAbs = 0
    · rw [z]; decide
    · exact Nat.lt_succ_of_lt ((Nat.log2_lt z).mpr h2)
  exact if_pos (by omega)
theorem bagA_ok (hf : P.fns[f]? = some bagA) {ns : List Int} {k : Nat} (hk : k < 1000) : ∃ a b, 0 ≤ a ∧ 0 ≤ b ∧ b < 2305843009213693952 ∧ ∀ st, callN P (n + 1) f [.scr ns, .d (.int (k : Int))] st = .ok (.d (.list [.int a, .int b]), true) st := by
  obtain ⟨c, hc⟩ : ∃ c : Int, ∀ st, exS (callN P n) (newN P n) P.fuel (.set 2 (.ife (.cmp .lt (.var 1) (.bi .len [(.var 0)])) (.bi .int [(.idx (.var 0) (.var 1))]) (.bin .add (.bin .mul (.con (.int 89)) (.var 1)) (.con (.int 41))))) [some (.scr ns), some (.d (.int (k : Int))), none, none, none] st = .nx [some (.scr ns), some (.d (.int (k : Int))), some (.d (.int c)), none, none] st := by
    by_cases h : k < ns.length
    · refine ⟨ns[k], fun st => ?_⟩
      have h1 : ((k : Int) < (ns.length : Int)) := by omega
      simp [exS, evE, evEs, getV, biV, bi1, lenV, datD, cmpV, ltD, h1, R.bind, R.on, SR.bind, retB, retP, truV, Tru, idxV, ixN, h, intI, putV, thawV]
    · refine ⟨89 * k + 41, fun st => ?_⟩
      have h1 : ¬ ((k : Int) < (ns.length : Int)) := by omega
      have hm : binI .mul 89 (k : Int) = some (89 * (k : Int)) := hn_mul_small (by decide) (by simp; omega)
      have s2 : ∀ x y : Int, binI .add x y = some (x + y) := fun x y => rfl
      simp [exS, evE, evEs, getV, biV, bi1, lenV, datD, cmpV, ltD, h, R.bind, R.on, SR.bind, retB, retP, truV, Tru, retO, binD, hm, s2, putV, thawV]
  have p1 : binI .pow 10 18 = some 1000000000000000000 := by decide +kernel
  have p2 : binI .pow 10 60 = some 1000000000000000000000000000000000000000000000000000000000000 := by decide +kernel
  have p3 : binI .pow 10 12 = some 1000000000000 := by decide +kernel
  have p4 : binI .pow 2 61 = some 2305843009213693952 := by decide +kernel
  have m1 : binI .mul 1000000000000000000000000000000000000000000000000000000000000 1000000000000000000000000000000000000000000000000000000000000 = some 1000000000000000000000000000000000000000000000000000000000000000000000000000000000000000000000000000000000000000000000000 := by decide +kernel
  let N : Int := 1000000000000000000000000000000000000000000000000000000000000000000000000000000000000000000000000000000000000000000000000
  let A : Int := if c < 0 then -c else c
  let Y : Int := if c < 0 then 1 else 0
  let X : Int := A % 1000000000039 * 10007 + 509 * k + 17 * Y + 1
  have hA : 0 ≤ A := by show 0 ≤ (if c < 0 then -c else c); split <;> omega
  have r1 : 0 ≤ A % 1000000000039 := Int.emod_nonneg _ (by decide)
  have r2 : A % 1000000000039 < 1000000000039 := Int.emod_lt_of_pos _ (by decide)
  have hY : 0 ≤ Y ∧ Y ≤ 1 := by show 0 ≤ (if c < 0 then (1 : Int) else 0) ∧ (if c < 0 then (1 : Int) else 0) ≤ 1; split <;> omega
  have m2 : binI .mul (A % 1000000000039) 10007 = some (A % 1000000000039 * 10007) := hn_mul_small (by omega) (by decide)
  have m3 : binI .mul 509 (k : Int) = some (509 * (k : Int)) := hn_mul_small (by decide) (by simp; omega)
  have m4 : binI .mul 17 Y = some (17 * Y) := hn_mul_small (by decide) (by omega)
  have d1 : ∀ x : Int, binI .mod x N = some (x % N) := fun x => rfl
  have d2 : ∀ x : Int, binI .mod x 2305843009213693951 = some (x % 2305843009213693951) := fun x => rfl
  have d3 : ∀ x : Int, binI .mod x 1000000000039 = some (x % 1000000000039) := fun x => rfl
  have s1 : ∀ x y : Int, binI .sub x y = some (x - y) := fun x y => rfl
  have s2 : ∀ x y : Int, binI .add x y = some (x + y) := fun x y => rfl
  refine ⟨(if A - 1000000000000000000 > 0 then A - 1000000000000000000 else 0) % N, X % 2305843009213693951, Int.emod_nonneg _ (by decide), Int.emod_nonneg _ (by decide), ?_, fun st => ?_⟩
  · have := Int.emod_lt_of_pos X (show (0 : Int) < 2305843009213693951 by decide)
    omega
  rw [hn_call_eq hf ⟨rfl, by decide⟩]
  show endV _ (exSs _ _ _ bagA.body [some (.scr ns), some (.d (.int (k : Int))), none, none, none] st) = _
  unfold bagA
  rw [hn_ss_nx (hc st)]
  have g2 : exS (callN P n) (newN P n) P.fuel (.set 3 (.bin .mod (.bi .max2 [(.con (.int 0)), (.bin .sub (.bi .abs [(.var 2)]) (.bin .pow (.con (.int 10)) (.con (.int 18))))]) (.bin .mul (.bin .pow (.con (.int 10)) (.con (.int 60))) (.bin .pow (.con (.int 10)) (.con (.int 60)))))) [some (.scr ns), some (.d (.int (k : Int))), some (.d (.int c)), none, none] st = .nx [some (.scr ns), some (.d (.int (k : Int))), some (.d (.int c)), some (.d (.int ((if A - 1000000000000000000 > 0 then A - 1000000000000000000 else 0) % N))), none] st := by kernel_rfl
  rw [hn_ss_nx g2]
  have g3 : exS (callN P n) (newN P n) P.fuel (.set 4 (.bin .add (.bin .add (.bin .add (.bin .mul (.bin .mod (.bi .int [(.bi .abs [(.var 2)])]) (.bin .add (.bin .pow (.con (.int 10)) (.con (.int 12))) (.con (.int 39)))) (.con (.int 10007))) (.bin .mul (.con (.int 509)) (.var 1))) (.bin .mul (.con (.int 17)) (.bi .int [(.cmp .lt (.var 2) (.con (.int 0)))]))) (.con (.int 1)))) [some (.scr ns), some (.d (.int (k : Int))), some (.d (.int c)), some (.d (.int ((if A - 1000000000000000000 > 0 then A - 1000000000000000000 else 0) % N))), none] st = .nx [some (.scr ns), some (.d (.int (k : Int))), some (.d (.int c)), some (.d (.int ((if A - 1000000000000000000 > 0 then A - 1000000000000000000 else 0) % N))), some (.d (.int X))] st := by
    have hY2 : (if decide (c < 0) = true then (1 : Int) else 0) = Y := by simp only [decide_eq_true_eq]; rfl
    have e1 : absI st (.d (.int c)) = .ok (.d (.int A), false) st := rfl
    simp [exS, evE, evEs, getV, biV, bi1, e1, intI, datD, cmpV, ltD, R.bind, R.on, retB, retO, binD, p3, s2, d3, m2, m3, hY2, m4, putV, thawV]
    simp [Y, m4, X] <;> rfl
  rw [hn_ss_nx g3]
  show endV st.length (.ret (.d (.list [_, .int (X % 2305843009213693951)])) true st) = _
  show R.ok _ _ = _
  rw [List.take_length]
end
end Ev
end

section
set_option Elab.async false
set_option linter.all false
set_option maxRecDepth 100000
set_option maxHeartbeats 4000000
/-! HnB: turns. -/
namespace Ev
open PySem PySem.Spec
section
variable {cf nf : CallF} {fuel : Nat} {env env1 : Env} {st st1 st2 : Store} {v : Vl} {fr : Bool}
theorem hn_thaw {i : Nat} {e : Ex} {l : List PyData} (h : evE cf nf e env st = .ok (.d (.list l), true) st1) : exS cf nf fuel (.thaw i e) env st = .nx (env.set i (some (.ref st1.length))) (st1 ++ [some (.lst l)]) := by
  show (evE cf nf e env st).on env _ = _
  rw [h]; rfl
theorem hn_set {i : Nat} {e : Ex} (h : evE cf nf e env st = .ok (v, fr) st1) : exS cf nf fuel (.set i e) env st = .nx (env.set i (some v)) st1 := by
  show (evE cf nf e env st).on env _ = _
  rw [h]; rfl
theorem hn_not {e : Ex} (h : evE cf nf e env st = .ok (.d (.bool true), fr) st1) : evE cf nf (.not_ e) env st = .ok (.d (.bool false), false) st1 := by
  show (evE cf nf e env st).bind _ = _
  rw [h]; rfl
theorem hn_and {x y : Ex} {b : Bool} {r : R (Vl × Bool)} (h : evE cf nf x env st = .ok (.d (.bool true), b) st1) (h2 : evE cf nf y env st1 = r) : evE cf nf (.and_ x y) env st = r := by
  show (evE cf nf x env st).bind _ = _
  rw [h]; exact h2
theorem hn_ret {e : Ex} (h : evE cf nf e env st = .ok (v, fr) st1) : exS cf nf fuel (.ret e) env st = .ret v fr st1 := by
  show (evE cf nf e env st).on env _ = _
  rw [h]; rfl
theorem hn_ts {i : Nat} {e : Ex} {is : List (Nat × Bool)} {es : List Ex} {vs : List Vl} (h : evE cf nf e env st = .ok (v, fr) st1) (h2 : evTs cf nf is es env st1 = .ok vs st2) : evTs cf nf ((i, false) :: is) (e :: es) env st = .ok (v :: vs) st2 := by
  simp only [evTs, h, R.bind, thawV, h2]
theorem hn_par {is : List (Nat × Bool)} {es : List Ex} {vs : List Vl} (h : evTs cf nf is es env st = .ok vs st1) : exS cf nf fuel (.par is es) env st = .nx (setL is vs env) st1 := by
  simp only [exS, h, R.on]
theorem hn_flp {body : PyData → Env → Store → SR} {x : PyData} {xs : List PyData} (h : body x env st = .nx env1 st1) : flp body (x :: xs) env st = flp body xs env1 st1 := by
  show (match body x env st with
    | .nx env' st' => flp body xs env' st'
    | .ct env' st' => flp body xs env' st'
    | .bk env' st' => .nx env' st'
    | r => r) = _
  rw [h]
theorem hn_clp {J : Store → Prop} {F : PyData → Store → R (Option PyData)} : ∀ {l : List PyData}, (∀ x ∈ l, ∀ s, J s → ∃ s', J s' ∧ F x s = .ok none s') → ∀ st, J st → ∃ st', J st' ∧ clp F l st = .ok [] st'
  | [], _, st, h => ⟨st, h, rfl⟩
  | x :: l, F1, st, h => by
    obtain ⟨s1, h1, e1⟩ := F1 x List.mem_cons_self st h
    obtain ⟨s2, h2, e2⟩ := hn_clp (fun y hy => F1 y (List.mem_cons_of_mem _ hy)) s1 h1
    refine ⟨s2, h2, ?_⟩
    unfold clp
    rw [e1]
    show (clp F l s1).bind _ = _
    rw [e2]; rfl
/-- [elt for j in range(m) if c]: c is false each time -/
theorem hn_comp {J : Store → Prop} {elt c : Ex} {j : Nat} {m : Int} {items : List PyData} (hw : ∀ s, walkV .rng [.d (.int m)] s = some items) (hl : items.length ≤ limZ) (step : ∀ x s, J s → ∃ s' b, J s' ∧ evE cf nf c (env.set j (some (.d x))) s = .ok (.d (.bool false), b) s') (h : J st) :
    ∃ st', J st' ∧ evE cf nf (.comp elt (.nm j) .rng [.con (.int m)] [c]) env st = .ok (.d (.list []), true) st' := by
  let F : PyData → Store → R (Option PyData) := fun x s => match setT x env (.nm j) with
    | some env' => (evEs cf nf [c] env' s).bind fun cs s1 => match cs with
      | [] => (evE cf nf elt env' s1).bind fun y s2 => match frz s2 y.1 with
        | some (z, s3) => .ok (some z) s3
        | none => .no
      | [c] => match truV s1 c with
        | some true => (evE cf nf elt env' s1).bind fun y s2 => match frz s2 y.1 with
          | some (z, s3) => .ok (some z) s3
          | none => .no
        | some false => .ok none s1
        | none => .no
      | _ => .no
    | none => .no
  obtain ⟨s2, h2, e2⟩ := hn_clp (J := J) (F := F) (l := items) (fun x _ s hs => by
    obtain ⟨s', b, h', e'⟩ := step x s hs
    refine ⟨s', h', ?_⟩
    have e3 : evEs cf nf [c] (env.set j (some (.d x))) s = .ok [.d (.bool false)] s' := by
      show (evE cf nf c (env.set j (some (.d x))) s).bind _ = _
      rw [e']; rfl
    simp only [F, setT, e3] <;> rfl) st h
  refine ⟨s2, h2, ?_⟩
  have : evE cf nf (.comp elt (.nm j) .rng [.con (.int m)] [c]) env st = (match walkV .rng [.d (.int m)] st with
    | some items => if items.length ≤ limZ then R.calm ((clp F items st).bind fun ys st2 => .ok (.d (.list ys), true) st2) else .no
    | none => .no) := rfl
  rw [this, hw]
  show (if items.length ≤ limZ then _ else _) = _
  rw [if_pos hl, e2]; rfl
theorem hn_for {tg : Tg} {k : Ik} {es : List Ex} {b : List Sx} {items : List PyData} {vs : List Vl} (h1 : evEs cf nf es env st = .ok vs st1) (h2 : walkV k vs st1 = some items) : exS cf nf fuel (.for_ tg k es b) env st = flp (fun x env st => match setT x env tg with
      | some env' => exSs cf nf fuel b env' st
      | none => .no) items env st1 := by
  simp only [exS, h1, R.on, h2] <;> (refine congrArg (fun f => flp f items env st1) (funext fun x => funext fun e => funext fun s => ?_); cases setT x e tg <;> rfl)
theorem hn_cnt {ns : List Int} {rest : Env} : ∃ k : Int, (k = 1 ∨ k = 2 ∨ k = 3 ∨ k = 4) ∧ evEs cf nf [.bi .max2 [.con (.int 1), .bi .min2 [.con (.int 4), .bi .len [.var 0]]]] (some (.scr ns) :: rest) [] = .ok [.d (.int k)] [] := by
  refine ⟨if (if (ns.length : Int) < 4 then (ns.length : Int) else 4) > 1 then (if (ns.length : Int) < 4 then (ns.length : Int) else 4) else 1, ?_, rfl⟩
  by_cases h4 : (ns.length : Int) < 4
  · simp only [if_pos h4]
    split <;> omega
  · simp only [if_neg h4]
    split <;> omega
end
end Ev
end

section
set_option Elab.async false
set_option linter.all false
set_option maxRecDepth 100000
set_option maxHeartbeats 4000000
/-! HnC: drawing by bowl and spoon. -/
namespace Ev
open PySem PySem.Spec
section
variable {P : Prog} {f g n : Nat} {st : Store} {r : Nat} {a b c m : Int} {N : Nat}
theorem hn_unp {cf nf : CallF} {fuel : Nat} {env env1 : Env} {st st1 : Store} {x : PyData} {fr : Bool} {tg : Tg} {e : Ex} (h : evE cf nf e env st = .ok (.d x, fr) st1) (h2 : setT x env tg = some env1) : exS cf nf fuel (.unp tg e) env st = .nx env1 st1 := by
  simp only [exS, h, R.on, frz, h2]
/-- its repr may be made -/
def hn_chk (D : PyData) : Bool := D.showable && fineD D && decide (D.shown.length ≤ limZ)
theorem hn_repr {cf nf : CallF} {env : Env} {st st1 : Store} {e : Ex} {u : Vl} {b : Bool} {D : PyData} (h : evE cf nf e env st = .ok (u, b) st1) (hd : datD st1 u = some D) (hc : hn_chk D = true) : evE cf nf (.bi .repr [e]) env st = .ok (.d (.str D.shown), false) st1 := by
  have h1 : evEs cf nf [e] env st = .ok [u] st1 := by
    show (evE cf nf e env st).bind _ = _
    rw [h]; rfl
  have h2 : reprI st1 u = .ok (.d (.str D.shown), false) st1 := by
    unfold reprI
    rw [hd]
    exact if_pos hc
  show ((evEs cf nf [e] env st).bind fun vs st1 => biV .repr vs st1) = _
  rw [h1]
  exact h2
theorem hn_same {st : Store} {z : Str} : retB (cmpV .eq st (.d (.str z)) (.d (.str z))) st = .ok (.d (.bool true), false) st := by
  show retB (some (z == z)) st = _
  rw [beq_self_eq_true]; rfl
theorem hn_unlike {st : Store} {z : Str} : retB (cmpV .ne st (.d (.str z)) (.d (.str z))) st = .ok (.d (.bool false), false) st := by
  show retB ((some (z == z)).map (!·)) st = _
  rw [beq_self_eq_true]; rfl
theorem hn_eq {cf nf : CallF} {env : Env} {st st1 st2 : Store} {x y : Ex} {b b2 : Bool} {u w : Vl} {r : R (Vl × Bool)} (h : evE cf nf x env st = .ok (u, b) st1) (h2 : evE cf nf y env st1 = .ok (w, b2) st2) (h3 : retB (cmpV .eq st2 u w) st2 = r) : evE cf nf (.cmp .eq x y) env st = r := by
  show (evE cf nf x env st).bind _ = _
  rw [h]
  show (evE cf nf y env st1).bind _ = _
  rw [h2]; exact h3
theorem hn_cnt2 {cf nf : CallF} {ns : List Int} {rest : Env} : ∃ k : Int, (k = 1 ∨ (k = 2 ∧ 2 ≤ ns.length)) ∧ evEs cf nf [.bi .max2 [.con (.int 1), .bi .min2 [.con (.int 2), .bi .len [.var 0]]]] (some (.scr ns) :: rest) [] = .ok [.d (.int k)] [] := by
  refine ⟨if (if (ns.length : Int) < 2 then (ns.length : Int) else 2) > 1 then (if (ns.length : Int) < 2 then (ns.length : Int) else 2) else 1, ?_, rfl⟩
  by_cases h4 : (ns.length : Int) < 2
  · simp only [if_pos h4]
    split <;> omega
  · simp only [if_neg h4]
    split <;> omega
def spoonC : Fn := ⟨2, 5, [
    .ifs (.cmp .gt (.idx (.var 0) (.con (.int 0))) (.con (.int 0))) [.set 2 (.bin .mod (.bi .int [(.idx (.var 0) (.con (.int 0)))]) (.var 1)), .setI (.var 0) (.con (.int 0)) (.bin .fdiv (.idx (.var 0) (.con (.int 0))) (.var 1)), .ret (.var 2)] [],
    .setI (.var 0) (.con (.int 2)) (.bin .add (.idx (.var 0) (.con (.int 2))) (.con (.int 1))),
    .set 3 (.bin .mod (.bi .int [(.bin .add (.idx (.var 0) (.con (.int 1))) (.bin .mul (.con (.int 20964919)) (.idx (.var 0) (.con (.int 2)))))]) (.con (.int 1152921504606846577))),
    .set 4 (.bin .add (.bin .mul (.bin .mod (.bi .int [(.bin .add (.bin .mul (.var 3) (.var 3)) (.con (.int 71)))]) (.con (.int 1152921504606846697))) (.var 3)) (.bin .mul (.con (.int 104711)) (.idx (.var 0) (.con (.int 2))))),
    .ret (.bin .mod (.bi .int [(.bin .fdiv (.bin .mod (.bi .int [(.var 4)]) (.con (.int 1152921504606846869))) (.con (.int 2048)))]) (.var 1))]⟩
def bowlC : Fn := ⟨2, 4, [
    .set 2 (.ife (.cmp .lt (.var 1) (.bi .len [(.var 0)])) (.idx (.var 0) (.var 1)) (.bin .add (.bin .add (.bin .mul (.con (.int 127)) (.var 1)) (.bin .mul (.con (.int 3)) (.bi .sum [(.slc (.var 0) [] [(.con (.int 2))])]))) (.con (.int 11)))),
    .set 3 (.bin .mod (.bi .int [(.bi .abs [(.var 2)])]) (.bin .pow (.bin .pow (.con (.int 10)) (.con (.int 59))) (.con (.int 2)))),
    .ret (.lst [(.bi .max2 [(.con (.int 0)), (.bin .sub (.var 3) (.bin .pow (.con (.int 10)) (.con (.int 16))))]), (.bin .add (.bin .add (.bin .add (.bin .mul (.bin .mod (.bi .int [(.var 3)]) (.con (.int 2305843009213693723))) (.con (.int 47))) (.bin .mul (.con (.int 5381)) (.var 1))) (.bi .int [(.cmp .lt (.var 2) (.con (.int 0)))])) (.con (.int 6))), (.con (.int 0))])]⟩
/-- at most N draws were made from the second part -/
def GoodC (N : Nat) (a b c : Int) : Prop := 0 ≤ a ∧ 0 ≤ b ∧ b < 1606938044258990275541962092341162602522202993782792835301376 ∧ 0 ≤ c ∧ c ≤ N
theorem spoonC_ok (hf : P.fns[f]? = some spoonC) (hN : N < 1000000) (e : getO st r = some (.lst [.int a, .int b, .int c])) (G : GoodC N a b c) (hm : 0 < m) (hm2 : m < 1073741824) :
    ∃ x a' b' c', 0 ≤ x ∧ x < m ∧ GoodC (N + 1) a' b' c' ∧ callN P (n + 1) f [.ref r, .d (.int m)] st = .ok (.d (.int x), false) (st.set r (some (.lst [.int a', .int b', .int c']))) := by
  obtain ⟨ha, hb, hb2, hc, hc2⟩ := G
  have hl := hn_getO_len e
  by_cases h : 0 < a
  · refine ⟨a % m, a / m, b, c, Int.emod_nonneg _ (by omega), Int.emod_lt_of_pos _ hm, ⟨Int.ediv_nonneg ha (by omega), hb, hb2, hc, by omega⟩, ?_⟩
    rw [hn_call_eq hf ⟨rfl, by decide⟩]
    simp [spoonC, exSs, exS, evE, evEs, getV, idxV, e, atD, ixN, cmpV, datD, ltD, h, R.bind, R.on, SR.bind, retP, retB, truV, Tru, biV, bi1, intI, binD, binI, hm, hm2, retO, putV, thawV, setIV, frz, endV, finV, hn_take_set]
  · have ha0 : a = 0 := by omega
    subst ha0
    let d : Int := c + 1
    let one : Int := (b + 20964919 * d) % 1152921504606846577
    let w : Int := (one * one + 71) % 1152921504606846697
    have hd : 0 ≤ d ∧ d ≤ 1000001 := by show 0 ≤ c + 1 ∧ c + 1 ≤ 1000001; omega
    have o1 : 0 ≤ one := Int.emod_nonneg _ (by decide)
    have o2 : one < 1152921504606846577 := Int.emod_lt_of_pos _ (by decide)
    have w1 : 0 ≤ w := Int.emod_nonneg _ (by decide)
    have w2 : w < 1152921504606846697 := Int.emod_lt_of_pos _ (by decide)
    have m1 : binI .mul 20964919 d = some (20964919 * d) := hn_mul_small (by decide) (by omega)
    have m2 : binI .mul one one = some (one * one) := hn_mul_small (by omega) (by omega)
    have m3 : binI .mul w one = some (w * one) := hn_mul_small (by omega) (by omega)
    have m4 : binI .mul 104711 d = some (104711 * d) := hn_mul_small (by decide) (by omega)
    have s2 : ∀ x y : Int, binI .add x y = some (x + y) := fun x y => rfl
    have d1 : ∀ x : Int, binI .mod x 1152921504606846577 = some (x % 1152921504606846577) := fun x => rfl
    have d2 : ∀ x : Int, binI .mod x 1152921504606846697 = some (x % 1152921504606846697) := fun x => rfl
    have d3 : ∀ x : Int, binI .mod x 1152921504606846869 = some (x % 1152921504606846869) := fun x => rfl
    have d4 : ∀ x : Int, binI .fdiv x 2048 = some (x / 2048) := fun x => rfl
    have d5 : ∀ x : Int, binI .mod x m = some (x % m) := fun x => if_pos hm
    let S1 : Store := st.set r (some (.lst [.int 0, .int b, .int d]))
    have e1 : getO S1 r = some (.lst [.int 0, .int b, .int d]) := hn_getO_same hl
    let E0 : Env := [some (.ref r), some (.d (.int m)), none, none, none]
    let E1 : Env := [some (.ref r), some (.d (.int m)), none, some (.d (.int one)), none]
    let E2 : Env := [some (.ref r), some (.d (.int m)), none, some (.d (.int one)), some (.d (.int (w * one + 104711 * d)))]
    have k0 : exS (callN P n) (newN P n) P.fuel (.ifs (.cmp .gt (.idx (.var 0) (.con (.int 0))) (.con (.int 0))) [.set 2 (.bin .mod (.bi .int [(.idx (.var 0) (.con (.int 0)))]) (.var 1)), .setI (.var 0) (.con (.int 0)) (.bin .fdiv (.idx (.var 0) (.con (.int 0))) (.var 1)), .ret (.var 2)] []) E0 st = .nx E0 st := by
      simp [E0, exSs, exS, evE, evEs, getV, idxV, e, atD, ixN, cmpV, datD, ltD, R.bind, R.on, SR.bind, retP, retB, truV, Tru]
    have k1 : exS (callN P n) (newN P n) P.fuel (.setI (.var 0) (.con (.int 2)) (.bin .add (.idx (.var 0) (.con (.int 2))) (.con (.int 1)))) E0 st = .nx E0 S1 := by
      simp [E0, exSs, exS, evE, evEs, getV, idxV, e, atD, ixN, datD, R.bind, R.on, SR.bind, retP, binD, s2, retO, setIV, frz, S1, d]
    have k2 : exS (callN P n) (newN P n) P.fuel (.set 3 (.bin .mod (.bi .int [(.bin .add (.idx (.var 0) (.con (.int 1))) (.bin .mul (.con (.int 20964919)) (.idx (.var 0) (.con (.int 2)))))]) (.con (.int 1152921504606846577)))) E0 S1 = .nx E1 S1 := by
      simp [E0, E1, exSs, exS, evE, evEs, getV, idxV, e1, atD, ixN, datD, R.bind, R.on, SR.bind, retP, binD, s2, m1, d1, retO, biV, bi1, intI, putV, thawV] <;> rfl
    have k3 : exS (callN P n) (newN P n) P.fuel (.set 4 (.bin .add (.bin .mul (.bin .mod (.bi .int [(.bin .add (.bin .mul (.var 3) (.var 3)) (.con (.int 71)))]) (.con (.int 1152921504606846697))) (.var 3)) (.bin .mul (.con (.int 104711)) (.idx (.var 0) (.con (.int 2)))))) E1 S1 = .nx E2 S1 := by
      have d2' : binI .mod (one * one + 71) 1152921504606846697 = some w := d2 _
      simp [E1, E2, exSs, exS, evE, evEs, getV, idxV, e1, atD, ixN, datD, R.bind, R.on, SR.bind, retP, binD, s2, m2, m3, m4, d2', retO, biV, bi1, intI, putV, thawV] <;> rfl
    have k4 : exS (callN P n) (newN P n) P.fuel (.ret (.bin .mod (.bi .int [(.bin .fdiv (.bin .mod (.bi .int [(.var 4)]) (.con (.int 1152921504606846869))) (.con (.int 2048)))]) (.var 1))) E2 S1 = .ret (.d (.int ((w * one + 104711 * d) % 1152921504606846869 / 2048 % m))) false S1 := by
      simp [E2, exSs, exS, evE, evEs, getV, datD, R.bind, R.on, SR.bind, retP, binD, d3, d4, d5, retO, biV, bi1, intI] <;> rfl
    refine ⟨(w * one + 104711 * d) % 1152921504606846869 / 2048 % m, 0, b, d, Int.emod_nonneg _ (by omega), Int.emod_lt_of_pos _ hm, ⟨Int.le_refl _, hb, hb2, hd.1, by show c + 1 ≤ ((N + 1 : Nat) : Int); omega⟩, ?_⟩
    rw [hn_call_eq hf ⟨rfl, by decide⟩]
    show endV st.length (exSs (callN P n) (newN P n) P.fuel [.ifs (.cmp .gt (.idx (.var 0) (.con (.int 0))) (.con (.int 0))) [.set 2 (.bin .mod (.bi .int [(.idx (.var 0) (.con (.int 0)))]) (.var 1)), .setI (.var 0) (.con (.int 0)) (.bin .fdiv (.idx (.var 0) (.con (.int 0))) (.var 1)), .ret (.var 2)] [], .setI (.var 0) (.con (.int 2)) (.bin .add (.idx (.var 0) (.con (.int 2))) (.con (.int 1))), .set 3 (.bin .mod (.bi .int [(.bin .add (.idx (.var 0) (.con (.int 1))) (.bin .mul (.con (.int 20964919)) (.idx (.var 0) (.con (.int 2)))))]) (.con (.int 1152921504606846577))), .set 4 (.bin .add (.bin .mul (.bin .mod (.bi .int [(.bin .add (.bin .mul (.var 3) (.var 3)) (.con (.int 71)))]) (.con (.int 1152921504606846697))) (.var 3)) (.bin .mul (.con (.int 104711)) (.idx (.var 0) (.con (.int 2))))), .ret (.bin .mod (.bi .int [(.bin .fdiv (.bin .mod (.bi .int [(.var 4)]) (.con (.int 1152921504606846869))) (.con (.int 2048)))]) (.var 1))] E0 st) = _
    rw [hn_ss_nx k0, hn_ss_nx k1, hn_ss_nx k2, hn_ss_nx k3, hn_ss_ret k4]
    show R.ok _ (S1.take st.length) = _
    rw [hn_take_set]
theorem oneC_ok (hf : P.fns[f]? = some spoonC) (hg : P.fns[g]? = some (oneA f)) (hN : N < 1000000) {items : List PyData} (e : getO st r = some (.lst [.int a, .int b, .int c])) (G : GoodC N a b c) (h1 : 0 < items.length) (h2 : items.length < 1073741824) :
    ∃ x ∈ items, ∃ a' b' c', GoodC (N + 1) a' b' c' ∧ callN P (n + 2) g [.ref r, .d (.list items)] st = .ok (.d x, false) (st.set r (some (.lst [.int a', .int b', .int c']))) := by
  obtain ⟨x, a', b', c', x0, x1, G', e2⟩ := spoonC_ok (n := n) hf hN e G (m := (items.length : Int)) (by omega) (by omega)
  have hx : x.toNat < items.length := by omega
  refine ⟨items[x.toNat], List.getElem_mem hx, a', b', c', G', ?_⟩
  have hat : atD items x = some items[x.toNat] := by
    unfold atD ixN
    rw [if_pos x0, if_pos x1]
    exact List.getElem?_eq_getElem hx
  rw [hn_call_eq hg ⟨rfl, Nat.le_refl 2⟩]
  simp [oneA, exSs, exS, evE, evEs, getV, biV, bi1, lenV, datD, R.bind, R.on, SR.bind, retP, e2, idxV, hat, endV, finV, hn_take_set]
theorem bowlC_ok (hf : P.fns[f]? = some bowlC) {ns : List Int} {k : Nat} (hk : k < 1000) (hs : k < ns.length ∨ (ns = [] ∧ k = 0)) : ∃ a b, GoodC 0 a b 0 ∧ ∀ st, callN P (n + 1) f [.scr ns, .d (.int (k : Int))] st = .ok (.d (.list [.int a, .int b, .int 0]), true) st := by
  obtain ⟨c, hc⟩ : ∃ c : Int, ∀ st, exS (callN P n) (newN P n) P.fuel (.set 2 (.ife (.cmp .lt (.var 1) (.bi .len [(.var 0)])) (.idx (.var 0) (.var 1)) (.bin .add (.bin .add (.bin .mul (.con (.int 127)) (.var 1)) (.bin .mul (.con (.int 3)) (.bi .sum [(.slc (.var 0) [] [(.con (.int 2))])]))) (.con (.int 11))))) [some (.scr ns), some (.d (.int (k : Int))), none, none] st = .nx [some (.scr ns), some (.d (.int (k : Int))), some (.d (.int c)), none] st := by
    rcases hs with h | ⟨rfl, rfl⟩
    · refine ⟨ns[k], fun st => ?_⟩
      have h1 : ((k : Int) < (ns.length : Int)) := by omega
      simp [exS, evE, evEs, getV, biV, bi1, lenV, datD, cmpV, ltD, h1, R.bind, R.on, SR.bind, retB, retP, truV, Tru, idxV, ixN, h, putV, thawV]
    · exact ⟨11, fun st => by kernel_rfl⟩
  have p1 : binI .pow 10 59 = some 100000000000000000000000000000000000000000000000000000000000 := by decide +kernel
  let N2 : Int := 10000000000000000000000000000000000000000000000000000000000000000000000000000000000000000000000000000000000000000000000
  let A : Int := if c < 0 then -c else c
  let G : Int := A % N2
  let Y : Int := if c < 0 then 1 else 0
  let X : Int := G % 2305843009213693723 * 47 + 5381 * k + Y + 6
  have hA : 0 ≤ A := by show 0 ≤ (if c < 0 then -c else c); split <;> omega
  have r1 : 0 ≤ G % 2305843009213693723 := Int.emod_nonneg _ (by decide)
  have r2 : G % 2305843009213693723 < 2305843009213693723 := Int.emod_lt_of_pos _ (by decide)
  have hY : 0 ≤ Y ∧ Y ≤ 1 := by show 0 ≤ (if c < 0 then (1 : Int) else 0) ∧ (if c < 0 then (1 : Int) else 0) ≤ 1; split <;> omega
  have m2 : binI .mul (G % 2305843009213693723) 47 = some (G % 2305843009213693723 * 47) := hn_mul_small (by omega) (by decide)
  have m3 : binI .mul 5381 (k : Int) = some (5381 * (k : Int)) := hn_mul_small (by decide) (by simp; omega)
  have d3 : ∀ x : Int, binI .mod x 2305843009213693723 = some (x % 2305843009213693723) := fun x => rfl
  have s2 : ∀ x y : Int, binI .add x y = some (x + y) := fun x y => rfl
  have s1 : ∀ x y : Int, binI .sub x y = some (x - y) := fun x y => rfl
  have p2 : binI .pow 10 16 = some 10000000000000000 := by decide +kernel
  have g2 : ∀ st, exS (callN P n) (newN P n) P.fuel (.set 3 (.bin .mod (.bi .int [(.bi .abs [(.var 2)])]) (.bin .pow (.bin .pow (.con (.int 10)) (.con (.int 59))) (.con (.int 2))))) [some (.scr ns), some (.d (.int (k : Int))), some (.d (.int c)), none] st = .nx [some (.scr ns), some (.d (.int (k : Int))), some (.d (.int c)), some (.d (.int G))] st := fun st => by kernel_rfl
  have g3 : ∀ st, exS (callN P n) (newN P n) P.fuel (.ret (.lst [(.bi .max2 [(.con (.int 0)), (.bin .sub (.var 3) (.bin .pow (.con (.int 10)) (.con (.int 16))))]), (.bin .add (.bin .add (.bin .add (.bin .mul (.bin .mod (.bi .int [(.var 3)]) (.con (.int 2305843009213693723))) (.con (.int 47))) (.bin .mul (.con (.int 5381)) (.var 1))) (.bi .int [(.cmp .lt (.var 2) (.con (.int 0)))])) (.con (.int 6))), (.con (.int 0))])) [some (.scr ns), some (.d (.int (k : Int))), some (.d (.int c)), some (.d (.int G))] st = .ret (.d (.list [.int (if G - 10000000000000000 > 0 then G - 10000000000000000 else 0), .int X, .int 0])) true st := fun st => by
    have hY2 : (if decide (c < 0) = true then (1 : Int) else 0) = Y := by simp only [decide_eq_true_eq]; rfl
    have m2' := m2
    have m3' := m3
    simp [exS, evE, evEs, getV, biV, bi1, bi2, maxI, intI, datD, cmpV, ltD, R.bind, R.on, retB, retO, binD, p2, s1, s2, d3, m2', m3', hY2, frzs, frz] <;> (first | rfl | (refine ⟨by decide, ?_⟩; rfl) | trivial)
  refine ⟨if G - 10000000000000000 > 0 then G - 10000000000000000 else 0, X, ⟨?_, ?_, ?_, Int.le_refl _, Int.le_refl _⟩, fun st => ?_⟩
  · split <;> omega
  · show 0 ≤ G % 2305843009213693723 * 47 + 5381 * (k : Int) + Y + 6; omega
  · show G % 2305843009213693723 * 47 + 5381 * (k : Int) + Y + 6 < _; omega
  rw [hn_call_eq hf ⟨rfl, by decide⟩]
  show endV st.length (exSs (callN P n) (newN P n) P.fuel [.set 2 (.ife (.cmp .lt (.var 1) (.bi .len [(.var 0)])) (.idx (.var 0) (.var 1)) (.bin .add (.bin .add (.bin .mul (.con (.int 127)) (.var 1)) (.bin .mul (.con (.int 3)) (.bi .sum [(.slc (.var 0) [] [(.con (.int 2))])]))) (.con (.int 11)))), .set 3 (.bin .mod (.bi .int [(.bi .abs [(.var 2)])]) (.bin .pow (.bin .pow (.con (.int 10)) (.con (.int 59))) (.con (.int 2)))), .ret (.lst [(.bi .max2 [(.con (.int 0)), (.bin .sub (.var 3) (.bin .pow (.con (.int 10)) (.con (.int 16))))]), (.bin .add (.bin .add (.bin .add (.bin .mul (.bin .mod (.bi .int [(.var 3)]) (.con (.int 2305843009213693723))) (.con (.int 47))) (.bin .mul (.con (.int 5381)) (.var 1))) (.bi .int [(.cmp .lt (.var 2) (.con (.int 0)))])) (.con (.int 6))), (.con (.int 0))])] [some (.scr ns), some (.d (.int (k : Int))), none, none] st) = _
  rw [hn_ss_nx (hc st), hn_ss_nx (g2 st), hn_ss_ret (g3 st)]
  show R.ok _ _ = _
  rw [List.take_length]
end
end Ev
end

section
set_option Elab.async false
set_option linter.all false
set_option maxRecDepth 100000
set_option maxHeartbeats 4000000
/-! HnD: drawing from a bag of three; a bag of two, counted. -/
namespace Ev
open PySem PySem.Spec
section
variable {P : Prog} {f g n : Nat} {st : Store} {r : Nat} {a b c m : Int} {N : Nat}
def drawB : Fn := ⟨2, 5, [
    .ifs (.cmp .gt (.idx (.var 0) (.con (.int 0))) (.con (.int 0))) [.set 2 (.bin .mod (.bi .int [(.idx (.var 0) (.con (.int 0)))]) (.var 1)), .setI (.var 0) (.con (.int 0)) (.bin .fdiv (.idx (.var 0) (.con (.int 0))) (.var 1)), .ret (.var 2)] [],
    .setI (.var 0) (.con (.int 2)) (.bin .add (.idx (.var 0) (.con (.int 2))) (.con (.int 1))),
    .set 3 (.bin .mod (.bi .int [(.bin .add (.idx (.var 0) (.con (.int 1))) (.bin .mul (.con (.int 86028121)) (.idx (.var 0) (.con (.int 2)))))]) (.con (.int 2305843009213693951))),
    .set 4 (.bin .add (.bin .mul (.bin .mod (.bi .int [(.bin .add (.bin .mul (.var 3) (.var 3)) (.bin .mul (.con (.int 107)) (.idx (.var 0) (.con (.int 2)))))]) (.con (.int 2305843009213693921))) (.con (.int 3999971))) (.var 3)),
    .ret (.bin .mod (.bi .int [(.bin .fdiv (.var 4) (.con (.int 65539)))]) (.var 1))]⟩
def bagB : Fn := ⟨2, 4, [
    .set 2 (.ife (.cmp .lt (.var 1) (.bi .len [(.var 0)])) (.bi .int [(.idx (.var 0) (.var 1))]) (.bin .add (.bin .mul (.con (.int 149)) (.var 1)) (.con (.int 83)))),
    .set 3 (.bin .mod (.bi .max2 [(.con (.int 0)), (.bin .sub (.bi .abs [(.var 2)]) (.bin .pow (.con (.int 10)) (.con (.int 16))))]) (.bin .mul (.bin .pow (.con (.int 10)) (.con (.int 58))) (.bin .pow (.con (.int 10)) (.con (.int 59))))),
    .ret (.lst [(.var 3), (.bin .add (.bin .add (.bin .add (.bin .mul (.bin .mod (.bi .abs [(.var 2)]) (.con (.int 1152921504606846999))) (.con (.int 101))) (.bin .mul (.con (.int 1049)) (.var 1))) (.bin .mul (.con (.int 59)) (.bi .int [(.cmp .lt (.var 2) (.con (.int 0)))]))) (.con (.int 29))), (.con (.int 0))])]⟩
theorem drawB_ok (hf : P.fns[f]? = some drawB) (hN : N < 1000000) (e : getO st r = some (.lst [.int a, .int b, .int c])) (G : GoodC N a b c) (hm : 0 < m) (hm2 : m < 1073741824) :
    ∃ x a' b' c', 0 ≤ x ∧ x < m ∧ GoodC (N + 1) a' b' c' ∧ callN P (n + 1) f [.ref r, .d (.int m)] st = .ok (.d (.int x), false) (st.set r (some (.lst [.int a', .int b', .int c']))) := by
  obtain ⟨ha, hb, hb2, hc, hc2⟩ := G
  have hl := hn_getO_len e
  by_cases h : 0 < a
  · refine ⟨a % m, a / m, b, c, Int.emod_nonneg _ (by omega), Int.emod_lt_of_pos _ hm, ⟨Int.ediv_nonneg ha (by omega), hb, hb2, hc, by omega⟩, ?_⟩
    rw [hn_call_eq hf ⟨rfl, by decide⟩]
    simp [drawB, exSs, exS, evE, evEs, getV, idxV, e, atD, ixN, cmpV, datD, ltD, h, R.bind, R.on, SR.bind, retP, retB, truV, Tru, biV, bi1, intI, binD, binI, hm, hm2, retO, putV, thawV, setIV, frz, endV, finV, hn_take_set]
  · have ha0 : a = 0 := by omega
    subst ha0
    let d : Int := c + 1
    let one : Int := (b + 86028121 * d) % 2305843009213693951
    let w : Int := (one * one + 107 * d) % 2305843009213693921
    have hd : 0 ≤ d ∧ d ≤ 1000001 := by show 0 ≤ c + 1 ∧ c + 1 ≤ 1000001; omega
    have o1 : 0 ≤ one := Int.emod_nonneg _ (by decide)
    have o2 : one < 2305843009213693951 := Int.emod_lt_of_pos _ (by decide)
    have w1 : 0 ≤ w := Int.emod_nonneg _ (by decide)
    have w2 : w < 2305843009213693921 := Int.emod_lt_of_pos _ (by decide)
    have m1 : binI .mul 86028121 d = some (86028121 * d) := hn_mul_small (by decide) (by omega)
    have m2 : binI .mul one one = some (one * one) := hn_mul_small (by omega) (by omega)
    have m3 : binI .mul w 3999971 = some (w * 3999971) := hn_mul_small (by omega) (by decide)
    have m4 : binI .mul 107 d = some (107 * d) := hn_mul_small (by decide) (by omega)
    have d1 : ∀ x : Int, binI .mod x 2305843009213693951 = some (x % 2305843009213693951) := fun x => rfl
    have d2 : binI .mod (one * one + 107 * d) 2305843009213693921 = some w := rfl
    have d4 : ∀ x : Int, binI .fdiv x 65539 = some (x / 65539) := fun x => rfl
    have s2 : ∀ x y : Int, binI .add x y = some (x + y) := fun x y => rfl
    have d5 : ∀ x : Int, binI .mod x m = some (x % m) := fun x => if_pos hm
    let S1 : Store := st.set r (some (.lst [.int 0, .int b, .int d]))
    have e1 : getO S1 r = some (.lst [.int 0, .int b, .int d]) := hn_getO_same hl
    let E0 : Env := [some (.ref r), some (.d (.int m)), none, none, none]
    let E1 : Env := [some (.ref r), some (.d (.int m)), none, some (.d (.int one)), none]
    let E2 : Env := [some (.ref r), some (.d (.int m)), none, some (.d (.int one)), some (.d (.int (w * 3999971 + one)))]
    have k0 : exS (callN P n) (newN P n) P.fuel (.ifs (.cmp .gt (.idx (.var 0) (.con (.int 0))) (.con (.int 0))) [.set 2 (.bin .mod (.bi .int [(.idx (.var 0) (.con (.int 0)))]) (.var 1)), .setI (.var 0) (.con (.int 0)) (.bin .fdiv (.idx (.var 0) (.con (.int 0))) (.var 1)), .ret (.var 2)] []) E0 st = .nx E0 st := by
      simp [E0, exSs, exS, evE, evEs, getV, idxV, e, atD, ixN, cmpV, datD, ltD, R.bind, R.on, SR.bind, retP, retB, truV, Tru]
    have k1 : exS (callN P n) (newN P n) P.fuel (.setI (.var 0) (.con (.int 2)) (.bin .add (.idx (.var 0) (.con (.int 2))) (.con (.int 1)))) E0 st = .nx E0 S1 := by
      simp [E0, exSs, exS, evE, evEs, getV, idxV, e, atD, ixN, datD, R.bind, R.on, SR.bind, retP, binD, s2, retO, setIV, frz, S1, d]
    have k2 : exS (callN P n) (newN P n) P.fuel (.set 3 (.bin .mod (.bi .int [(.bin .add (.idx (.var 0) (.con (.int 1))) (.bin .mul (.con (.int 86028121)) (.idx (.var 0) (.con (.int 2)))))]) (.con (.int 2305843009213693951)))) E0 S1 = .nx E1 S1 := by
      simp [E0, E1, exSs, exS, evE, evEs, getV, idxV, e1, atD, ixN, datD, R.bind, R.on, SR.bind, retP, binD, s2, m1, d1, retO, biV, bi1, intI, putV, thawV] <;> rfl
    have k3 : exS (callN P n) (newN P n) P.fuel (.set 4 (.bin .add (.bin .mul (.bin .mod (.bi .int [(.bin .add (.bin .mul (.var 3) (.var 3)) (.bin .mul (.con (.int 107)) (.idx (.var 0) (.con (.int 2)))))]) (.con (.int 2305843009213693921))) (.con (.int 3999971))) (.var 3))) E1 S1 = .nx E2 S1 := by
      simp [E1, E2, exSs, exS, evE, evEs, getV, idxV, e1, atD, ixN, datD, R.bind, R.on, SR.bind, retP, binD, s2, m2, m3, m4, d2, retO, biV, bi1, intI, putV, thawV] <;> rfl
    have k4 : exS (callN P n) (newN P n) P.fuel (.ret (.bin .mod (.bi .int [(.bin .fdiv (.var 4) (.con (.int 65539)))]) (.var 1))) E2 S1 = .ret (.d (.int ((w * 3999971 + one) / 65539 % m))) false S1 := by
      simp [E2, exSs, exS, evE, evEs, getV, datD, R.bind, R.on, SR.bind, retP, binD, d4, d5, retO, biV, bi1, intI] <;> rfl
    refine ⟨(w * 3999971 + one) / 65539 % m, 0, b, d, Int.emod_nonneg _ (by omega), Int.emod_lt_of_pos _ hm, ⟨Int.le_refl _, hb, hb2, hd.1, by show c + 1 ≤ ((N + 1 : Nat) : Int); omega⟩, ?_⟩
    rw [hn_call_eq hf ⟨rfl, by decide⟩]
    show endV st.length (exSs (callN P n) (newN P n) P.fuel [.ifs (.cmp .gt (.idx (.var 0) (.con (.int 0))) (.con (.int 0))) [.set 2 (.bin .mod (.bi .int [(.idx (.var 0) (.con (.int 0)))]) (.var 1)), .setI (.var 0) (.con (.int 0)) (.bin .fdiv (.idx (.var 0) (.con (.int 0))) (.var 1)), .ret (.var 2)] [], .setI (.var 0) (.con (.int 2)) (.bin .add (.idx (.var 0) (.con (.int 2))) (.con (.int 1))), .set 3 (.bin .mod (.bi .int [(.bin .add (.idx (.var 0) (.con (.int 1))) (.bin .mul (.con (.int 86028121)) (.idx (.var 0) (.con (.int 2)))))]) (.con (.int 2305843009213693951))), .set 4 (.bin .add (.bin .mul (.bin .mod (.bi .int [(.bin .add (.bin .mul (.var 3) (.var 3)) (.bin .mul (.con (.int 107)) (.idx (.var 0) (.con (.int 2)))))]) (.con (.int 2305843009213693921))) (.con (.int 3999971))) (.var 3)), .ret (.bin .mod (.bi .int [(.bin .fdiv (.var 4) (.con (.int 65539)))]) (.var 1))] E0 st) = _
    rw [hn_ss_nx k0, hn_ss_nx k1, hn_ss_nx k2, hn_ss_nx k3, hn_ss_ret k4]
    show R.ok _ (S1.take st.length) = _
    rw [hn_take_set]
theorem oneB_ok (hf : P.fns[f]? = some drawB) (hg : P.fns[g]? = some (oneA f)) (hN : N < 1000000) {items : List PyData} (e : getO st r = some (.lst [.int a, .int b, .int c])) (G : GoodC N a b c) (h1 : 0 < items.length) (h2 : items.length < 1073741824) :
    ∃ x ∈ items, ∃ a' b' c', GoodC (N + 1) a' b' c' ∧ callN P (n + 2) g [.ref r, .d (.list items)] st = .ok (.d x, false) (st.set r (some (.lst [.int a', .int b', .int c']))) := by
  obtain ⟨x, a', b', c', x0, x1, G', e2⟩ := drawB_ok (n := n) hf hN e G (m := (items.length : Int)) (by omega) (by omega)
  have hx : x.toNat < items.length := by omega
  refine ⟨items[x.toNat], List.getElem_mem hx, a', b', c', G', ?_⟩
  have hat : atD items x = some items[x.toNat] := by
    unfold atD ixN
    rw [if_pos x0, if_pos x1]
    exact List.getElem?_eq_getElem hx
  rw [hn_call_eq hg ⟨rfl, Nat.le_refl 2⟩]
  simp [oneA, exSs, exS, evE, evEs, getV, biV, bi1, lenV, datD, R.bind, R.on, SR.bind, retP, e2, idxV, hat, endV, finV, hn_take_set]
theorem bagB_ok (hf : P.fns[f]? = some bagB) {ns : List Int} {k : Nat} (hk : k < 1000) : ∃ a b, GoodC 0 a b 0 ∧ ∀ st, callN P (n + 1) f [.scr ns, .d (.int (k : Int))] st = .ok (.d (.list [.int a, .int b, .int 0]), true) st := by
  obtain ⟨c, hc⟩ : ∃ c : Int, ∀ st, exS (callN P n) (newN P n) P.fuel (.set 2 (.ife (.cmp .lt (.var 1) (.bi .len [(.var 0)])) (.bi .int [(.idx (.var 0) (.var 1))]) (.bin .add (.bin .mul (.con (.int 149)) (.var 1)) (.con (.int 83))))) [some (.scr ns), some (.d (.int (k : Int))), none, none] st = .nx [some (.scr ns), some (.d (.int (k : Int))), some (.d (.int c)), none] st := by
    by_cases h : k < ns.length
    · refine ⟨ns[k], fun st => ?_⟩
      have h1 : ((k : Int) < (ns.length : Int)) := by omega
      simp [exS, evE, evEs, getV, biV, bi1, lenV, datD, cmpV, ltD, h1, R.bind, R.on, SR.bind, retB, retP, truV, Tru, idxV, ixN, h, intI, putV, thawV]
    · refine ⟨149 * k + 83, fun st => ?_⟩
      have h1 : ¬ ((k : Int) < (ns.length : Int)) := by omega
      have hm : binI .mul 149 (k : Int) = some (149 * (k : Int)) := hn_mul_small (by decide) (by simp; omega)
      have s2 : ∀ x y : Int, binI .add x y = some (x + y) := fun x y => rfl
      simp [exS, evE, evEs, getV, biV, bi1, lenV, datD, cmpV, ltD, h, R.bind, R.on, SR.bind, retB, retP, truV, Tru, retO, binD, hm, s2, putV, thawV]
  let N2 : Int := 1000000000000000000000000000000000000000000000000000000000000000000000000000000000000000000000000000000000000000000000
  let A : Int := if c < 0 then -c else c
  let Y : Int := if c < 0 then 1 else 0
  let G : Int := (if A - 10000000000000000 > 0 then A - 10000000000000000 else 0) % N2
  let X : Int := A % 1152921504606846999 * 101 + 1049 * k + 59 * Y + 29
  have hA : 0 ≤ A := by show 0 ≤ (if c < 0 then -c else c); split <;> omega
  have hY : 0 ≤ Y ∧ Y ≤ 1 := by show 0 ≤ (if c < 0 then (1 : Int) else 0) ∧ (if c < 0 then (1 : Int) else 0) ≤ 1; split <;> omega
  have r1 : 0 ≤ A % 1152921504606846999 := Int.emod_nonneg _ (by decide)
  have r2 : A % 1152921504606846999 < 1152921504606846999 := Int.emod_lt_of_pos _ (by decide)
  have m2 : binI .mul (A % 1152921504606846999) 101 = some (A % 1152921504606846999 * 101) := hn_mul_small (by omega) (by decide)
  have m3 : binI .mul 1049 (k : Int) = some (1049 * (k : Int)) := hn_mul_small (by decide) (by simp; omega)
  have m4 : binI .mul 59 Y = some (59 * Y) := hn_mul_small (by decide) (by omega)
  have m4' : binI .mul 59 (if c < 0 then 1 else 0) = some (59 * Y) := m4
  have d3 : ∀ x : Int, binI .mod x 1152921504606846999 = some (x % 1152921504606846999) := fun x => rfl
  have s2 : ∀ x y : Int, binI .add x y = some (x + y) := fun x y => rfl
  have s1 : ∀ x y : Int, binI .sub x y = some (x - y) := fun x y => rfl
  have g2 : ∀ st, exS (callN P n) (newN P n) P.fuel (.set 3 (.bin .mod (.bi .max2 [(.con (.int 0)), (.bin .sub (.bi .abs [(.var 2)]) (.bin .pow (.con (.int 10)) (.con (.int 16))))]) (.bin .mul (.bin .pow (.con (.int 10)) (.con (.int 58))) (.bin .pow (.con (.int 10)) (.con (.int 59)))))) [some (.scr ns), some (.d (.int (k : Int))), some (.d (.int c)), none] st = .nx [some (.scr ns), some (.d (.int (k : Int))), some (.d (.int c)), some (.d (.int G))] st := fun st => by kernel_rfl
  have g3 : ∀ st, exS (callN P n) (newN P n) P.fuel (.ret (.lst [(.var 3), (.bin .add (.bin .add (.bin .add (.bin .mul (.bin .mod (.bi .abs [(.var 2)]) (.con (.int 1152921504606846999))) (.con (.int 101))) (.bin .mul (.con (.int 1049)) (.var 1))) (.bin .mul (.con (.int 59)) (.bi .int [(.cmp .lt (.var 2) (.con (.int 0)))]))) (.con (.int 29))), (.con (.int 0))])) [some (.scr ns), some (.d (.int (k : Int))), some (.d (.int c)), some (.d (.int G))] st = .ret (.d (.list [.int (G), .int X, .int 0])) true st := fun st => by
    have hY2 : (if decide (c < 0) = true then (1 : Int) else 0) = Y := by simp only [decide_eq_true_eq]; rfl
    have e1 : absI st (.d (.int c)) = .ok (.d (.int A), false) st := rfl
    simp [exS, evE, evEs, getV, biV, bi1, bi2, maxI, intI, e1, datD, cmpV, ltD, R.bind, R.on, retB, retO, binD, s1, s2, d3, m2, m3, m4', hY2, frzs, frz] <;> (first | rfl | (refine ⟨by decide, ?_⟩; rfl) | trivial)
  refine ⟨G, X, ⟨Int.emod_nonneg _ (by decide), ?_, ?_, Int.le_refl _, Int.le_refl _⟩, fun st => ?_⟩
  · show 0 ≤ A % 1152921504606846999 * 101 + 1049 * (k : Int) + 59 * Y + 29; omega
  · show A % 1152921504606846999 * 101 + 1049 * (k : Int) + 59 * Y + 29 < _; omega
  rw [hn_call_eq hf ⟨rfl, by decide⟩]
  show endV st.length (exSs (callN P n) (newN P n) P.fuel [.set 2 (.ife (.cmp .lt (.var 1) (.bi .len [(.var 0)])) (.bi .int [(.idx (.var 0) (.var 1))]) (.bin .add (.bin .mul (.con (.int 149)) (.var 1)) (.con (.int 83)))), .set 3 (.bin .mod (.bi .max2 [(.con (.int 0)), (.bin .sub (.bi .abs [(.var 2)]) (.bin .pow (.con (.int 10)) (.con (.int 16))))]) (.bin .mul (.bin .pow (.con (.int 10)) (.con (.int 58))) (.bin .pow (.con (.int 10)) (.con (.int 59))))), .ret (.lst [(.var 3), (.bin .add (.bin .add (.bin .add (.bin .mul (.bin .mod (.bi .abs [(.var 2)]) (.con (.int 1152921504606846999))) (.con (.int 101))) (.bin .mul (.con (.int 1049)) (.var 1))) (.bin .mul (.con (.int 59)) (.bi .int [(.cmp .lt (.var 2) (.con (.int 0)))]))) (.con (.int 29))), (.con (.int 0))])] [some (.scr ns), some (.d (.int (k : Int))), none, none] st) = _
  rw [hn_ss_nx (hc st), hn_ss_nx (g2 st), hn_ss_ret (g3 st)]
  show R.ok _ _ = _
  rw [List.take_length]
/-- a bag of two, the draws counted -/
def GoodA (N : Nat) (a b : Int) : Prop := 0 ≤ a ∧ 0 ≤ b ∧ b < 2305843009213693952
theorem oneA2_ok (hf : P.fns[f]? = some drawA) (hg : P.fns[g]? = some (oneA f)) (hN : N < 1000000) {items : List PyData} (e : getO st r = some (.lst [.int a, .int b])) (G : GoodA N a b) (h1 : 0 < items.length) (h2 : items.length < 1073741824) :
    ∃ x ∈ items, ∃ a' b', GoodA (N + 1) a' b' ∧ callN P (n + 2) g [.ref r, .d (.list items)] st = .ok (.d x, false) (st.set r (some (.lst [.int a', .int b']))) := by
  obtain ⟨x, hx, a', b', ⟨_, G'⟩, e2⟩ := oneA_ok (n := n) hf hg ⟨e, G⟩ h1 h2
  exact ⟨x, hx, a', b', G', e2⟩
theorem bagA2_ok (hf : P.fns[f]? = some bagA) {ns : List Int} {k : Nat} (hk : k < 1000) : ∃ a b, GoodA 0 a b ∧ ∀ st, callN P (n + 1) f [.scr ns, .d (.int (k : Int))] st = .ok (.d (.list [.int a, .int b]), true) st := by
  obtain ⟨a, b, h1, h2, h3, e⟩ := bagA_ok (n := n) hf (ns := ns) hk
  exact ⟨a, b, ⟨h1, h2, h3⟩, e⟩
/-- each turn's condition is false; the turns are counted -/
theorem hn_clp2 {J : Nat → Store → Prop} {F : PyData → Store → R (Option PyData)} : ∀ {l : List PyData}, (∀ k x s, k < 1000 → J k s → ∃ s', J (k + 1) s' ∧ F x s = .ok none s') → ∀ k st, k + l.length ≤ 1000 → J k st → ∃ st', J (k + l.length) st' ∧ clp F l st = .ok [] st'
  | [], _, k, st, _, h => ⟨st, h, rfl⟩
  | x :: l, F1, k, st, hk, h => by
    obtain ⟨s1, h1, e1⟩ := F1 k x st (by simp at hk; omega) h
    obtain ⟨s2, h2, e2⟩ := hn_clp2 (l := l) F1 (k + 1) s1 (by simp at hk; omega) h1
    refine ⟨s2, by rw [List.length_cons, show k + (l.length + 1) = k + 1 + l.length from by omega]; exact h2, ?_⟩
    unfold clp
    rw [e1]
    show (clp F l s1).bind _ = _
    rw [e2]; rfl
theorem hn_comp2 {cf nf : CallF} {env : Env} {J : Nat → Store → Prop} {elt c : Ex} {j : Nat} {m : Int} {items : List PyData} (hw : ∀ s, walkV .rng [.d (.int m)] s = some items) (hl : items.length ≤ 1000) (step : ∀ k x s, k < 1000 → J k s → ∃ s' b, J (k + 1) s' ∧ evE cf nf c (env.set j (some (.d x))) s = .ok (.d (.bool false), b) s') (h : J 0 st) :
    ∃ st', J items.length st' ∧ evE cf nf (.comp elt (.nm j) .rng [.con (.int m)] [c]) env st = .ok (.d (.list []), true) st' := by
  let F : PyData → Store → R (Option PyData) := fun x s => match setT x env (.nm j) with
    | some env' => (evEs cf nf [c] env' s).bind fun cs s1 => match cs with
      | [] => (evE cf nf elt env' s1).bind fun y s2 => match frz s2 y.1 with
        | some (z, s3) => .ok (some z) s3
        | none => .no
      | [c] => match truV s1 c with
        | some true => (evE cf nf elt env' s1).bind fun y s2 => match frz s2 y.1 with
          | some (z, s3) => .ok (some z) s3
          | none => .no
        | some false => .ok none s1
        | none => .no
      | _ => .no
    | none => .no
  obtain ⟨s2, h2, e2⟩ := hn_clp2 (J := J) (F := F) (l := items) (fun k x s hk hs => by
    obtain ⟨s', b, h', e'⟩ := step k x s hk hs
    refine ⟨s', h', ?_⟩
    have e3 : evEs cf nf [c] (env.set j (some (.d x))) s = .ok [.d (.bool false)] s' := by
      show (evE cf nf c (env.set j (some (.d x))) s).bind _ = _
      rw [e']; rfl
    simp only [F, setT, e3] <;> rfl) 0 st (by omega) h
  rw [Nat.zero_add] at h2
  refine ⟨s2, h2, ?_⟩
  have : evE cf nf (.comp elt (.nm j) .rng [.con (.int m)] [c]) env st = (match walkV .rng [.d (.int m)] st with
    | some items => if items.length ≤ limZ then R.calm ((clp F items st).bind fun ys st2 => .ok (.d (.list ys), true) st2) else .no
    | none => .no) := rfl
  rw [this, hw]
  show (if items.length ≤ limZ then _ else _) = _
  rw [if_pos (by unfold limZ; omega), e2]; rfl
end
end Ev
end

section
set_option Elab.async false
set_option linter.all false
set_option maxRecDepth 100000
set_option maxHeartbeats 4000000
/-! HnE: drawing from a box. -/
namespace Ev
open PySem PySem.Spec
section
variable {P : Prog} {f g n : Nat} {st : Store} {r : Nat} {a b c m : Int} {N : Nat}
def drawD : Fn := ⟨2, 5, [
    .ifs (.cmp .gt (.idx (.var 0) (.con (.int 0))) (.con (.int 0))) [.set 2 (.bin .mod (.bi .int [(.idx (.var 0) (.con (.int 0)))]) (.var 1)), .setI (.var 0) (.con (.int 0)) (.bin .fdiv (.idx (.var 0) (.con (.int 0))) (.var 1)), .ret (.var 2)] [],
    .setI (.var 0) (.con (.int 2)) (.bin .add (.idx (.var 0) (.con (.int 2))) (.con (.int 1))),
    .set 3 (.bin .mod (.bi .int [(.bin .add (.idx (.var 0) (.con (.int 1))) (.bin .mul (.con (.int 15485867)) (.idx (.var 0) (.con (.int 2)))))]) (.con (.int 2305843009213693951))),
    .set 4 (.bin .add (.bin .mul (.bin .mod (.bi .int [(.bin .mul (.var 3) (.var 3))]) (.con (.int 2305843009213693921))) (.var 3)) (.bin .mul (.con (.int 32452867)) (.idx (.var 0) (.con (.int 2))))),
    .ret (.bin .mod (.bi .int [(.bin .fdiv (.bin .mod (.bi .int [(.var 4)]) (.con (.int 2305843009213693907))) (.con (.int 8192)))]) (.var 1))]⟩
def bagD : Fn := ⟨2, 4, [
    .set 2 (.ife (.cmp .lt (.var 1) (.bi .len [(.var 0)])) (.idx (.var 0) (.var 1)) (.bin .add (.bin .mul (.con (.int 53)) (.var 1)) (.con (.int 29)))),
    .set 3 (.bin .mod (.bi .int [(.bi .abs [(.var 2)])]) (.bin .pow (.bin .pow (.con (.int 10)) (.con (.int 47))) (.con (.int 12)))),
    .ret (.lst [(.bi .max2 [(.con (.int 0)), (.bin .sub (.var 3) (.bin .pow (.con (.int 10)) (.con (.int 18))))]), (.bin .add (.bin .add (.bin .mul (.bin .mod (.bi .int [(.var 3)]) (.con (.int 2305843009213693669))) (.con (.int 7933))) (.bin .mul (.con (.int 104759)) (.var 1))) (.bi .int [(.cmp .lt (.var 2) (.con (.int 0)))])), (.con (.int 0))])]⟩
theorem drawD_ok (hf : P.fns[f]? = some drawD) (hN : N < 1000000) (e : getO st r = some (.lst [.int a, .int b, .int c])) (G : GoodC N a b c) (hm : 0 < m) (hm2 : m < 1073741824) :
    ∃ x a' b' c', 0 ≤ x ∧ x < m ∧ GoodC (N + 1) a' b' c' ∧ callN P (n + 1) f [.ref r, .d (.int m)] st = .ok (.d (.int x), false) (st.set r (some (.lst [.int a', .int b', .int c']))) := by
  obtain ⟨ha, hb, hb2, hc, hc2⟩ := G
  have hl := hn_getO_len e
  by_cases h : 0 < a
  · refine ⟨a % m, a / m, b, c, Int.emod_nonneg _ (by omega), Int.emod_lt_of_pos _ hm, ⟨Int.ediv_nonneg ha (by omega), hb, hb2, hc, by omega⟩, ?_⟩
    rw [hn_call_eq hf ⟨rfl, by decide⟩]
    simp [drawD, exSs, exS, evE, evEs, getV, idxV, e, atD, ixN, cmpV, datD, ltD, h, R.bind, R.on, SR.bind, retP, retB, truV, Tru, biV, bi1, intI, binD, binI, hm, hm2, retO, putV, thawV, setIV, frz, endV, finV, hn_take_set]
  · have ha0 : a = 0 := by omega
    subst ha0
    let d : Int := c + 1
    let one : Int := (b + 15485867 * d) % 2305843009213693951
    let w : Int := (one * one) % 2305843009213693921
    have hd : 0 ≤ d ∧ d ≤ 1000001 := by show 0 ≤ c + 1 ∧ c + 1 ≤ 1000001; omega
    have o1 : 0 ≤ one := Int.emod_nonneg _ (by decide)
    have o2 : one < 2305843009213693951 := Int.emod_lt_of_pos _ (by decide)
    have w1 : 0 ≤ w := Int.emod_nonneg _ (by decide)
    have w2 : w < 2305843009213693921 := Int.emod_lt_of_pos _ (by decide)
    have m1 : binI .mul 15485867 d = some (15485867 * d) := hn_mul_small (by decide) (by omega)
    have m2 : binI .mul one one = some (one * one) := hn_mul_small (by omega) (by omega)
    have m3 : binI .mul w one = some (w * one) := hn_mul_small (by omega) (by omega)
    have m4 : binI .mul 32452867 d = some (32452867 * d) := hn_mul_small (by decide) (by omega)
    have d1 : ∀ x : Int, binI .mod x 2305843009213693951 = some (x % 2305843009213693951) := fun x => rfl
    have d2 : binI .mod (one * one) 2305843009213693921 = some w := rfl
    have d3 : ∀ x : Int, binI .mod x 2305843009213693907 = some (x % 2305843009213693907) := fun x => rfl
    have d4 : ∀ x : Int, binI .fdiv x 8192 = some (x / 8192) := fun x => rfl
    have s2 : ∀ x y : Int, binI .add x y = some (x + y) := fun x y => rfl
    have d5 : ∀ x : Int, binI .mod x m = some (x % m) := fun x => if_pos hm
    let S1 : Store := st.set r (some (.lst [.int 0, .int b, .int d]))
    have e1 : getO S1 r = some (.lst [.int 0, .int b, .int d]) := hn_getO_same hl
    let E0 : Env := [some (.ref r), some (.d (.int m)), none, none, none]
    let E1 : Env := [some (.ref r), some (.d (.int m)), none, some (.d (.int one)), none]
    let E2 : Env := [some (.ref r), some (.d (.int m)), none, some (.d (.int one)), some (.d (.int (w * one + 32452867 * d)))]
    have k0 : exS (callN P n) (newN P n) P.fuel (.ifs (.cmp .gt (.idx (.var 0) (.con (.int 0))) (.con (.int 0))) [.set 2 (.bin .mod (.bi .int [(.idx (.var 0) (.con (.int 0)))]) (.var 1)), .setI (.var 0) (.con (.int 0)) (.bin .fdiv (.idx (.var 0) (.con (.int 0))) (.var 1)), .ret (.var 2)] []) E0 st = .nx E0 st := by
      simp [E0, exSs, exS, evE, evEs, getV, idxV, e, atD, ixN, cmpV, datD, ltD, R.bind, R.on, SR.bind, retP, retB, truV, Tru]
    have k1 : exS (callN P n) (newN P n) P.fuel (.setI (.var 0) (.con (.int 2)) (.bin .add (.idx (.var 0) (.con (.int 2))) (.con (.int 1)))) E0 st = .nx E0 S1 := by
      simp [E0, exSs, exS, evE, evEs, getV, idxV, e, atD, ixN, datD, R.bind, R.on, SR.bind, retP, binD, s2, retO, setIV, frz, S1, d]
    have k2 : exS (callN P n) (newN P n) P.fuel (.set 3 (.bin .mod (.bi .int [(.bin .add (.idx (.var 0) (.con (.int 1))) (.bin .mul (.con (.int 15485867)) (.idx (.var 0) (.con (.int 2)))))]) (.con (.int 2305843009213693951)))) E0 S1 = .nx E1 S1 := by
      simp [E0, E1, exSs, exS, evE, evEs, getV, idxV, e1, atD, ixN, datD, R.bind, R.on, SR.bind, retP, binD, s2, m1, d1, retO, biV, bi1, intI, putV, thawV] <;> rfl
    have k3 : exS (callN P n) (newN P n) P.fuel (.set 4 (.bin .add (.bin .mul (.bin .mod (.bi .int [(.bin .mul (.var 3) (.var 3))]) (.con (.int 2305843009213693921))) (.var 3)) (.bin .mul (.con (.int 32452867)) (.idx (.var 0) (.con (.int 2)))))) E1 S1 = .nx E2 S1 := by
      simp [E1, E2, exSs, exS, evE, evEs, getV, idxV, e1, atD, ixN, datD, R.bind, R.on, SR.bind, retP, binD, s2, m2, m3, m4, d2, retO, biV, bi1, intI, putV, thawV] <;> rfl
    have k4 : exS (callN P n) (newN P n) P.fuel (.ret (.bin .mod (.bi .int [(.bin .fdiv (.bin .mod (.bi .int [(.var 4)]) (.con (.int 2305843009213693907))) (.con (.int 8192)))]) (.var 1))) E2 S1 = .ret (.d (.int ((w * one + 32452867 * d) % 2305843009213693907 / 8192 % m))) false S1 := by
      simp [E2, exSs, exS, evE, evEs, getV, datD, R.bind, R.on, SR.bind, retP, binD, d3, d4, d5, retO, biV, bi1, intI] <;> rfl
    refine ⟨(w * one + 32452867 * d) % 2305843009213693907 / 8192 % m, 0, b, d, Int.emod_nonneg _ (by omega), Int.emod_lt_of_pos _ hm, ⟨Int.le_refl _, hb, hb2, hd.1, by show c + 1 ≤ ((N + 1 : Nat) : Int); omega⟩, ?_⟩
    rw [hn_call_eq hf ⟨rfl, by decide⟩]
    show endV st.length (exSs (callN P n) (newN P n) P.fuel [.ifs (.cmp .gt (.idx (.var 0) (.con (.int 0))) (.con (.int 0))) [.set 2 (.bin .mod (.bi .int [(.idx (.var 0) (.con (.int 0)))]) (.var 1)), .setI (.var 0) (.con (.int 0)) (.bin .fdiv (.idx (.var 0) (.con (.int 0))) (.var 1)), .ret (.var 2)] [], .setI (.var 0) (.con (.int 2)) (.bin .add (.idx (.var 0) (.con (.int 2))) (.con (.int 1))), .set 3 (.bin .mod (.bi .int [(.bin .add (.idx (.var 0) (.con (.int 1))) (.bin .mul (.con (.int 15485867)) (.idx (.var 0) (.con (.int 2)))))]) (.con (.int 2305843009213693951))), .set 4 (.bin .add (.bin .mul (.bin .mod (.bi .int [(.bin .mul (.var 3) (.var 3))]) (.con (.int 2305843009213693921))) (.var 3)) (.bin .mul (.con (.int 32452867)) (.idx (.var 0) (.con (.int 2))))), .ret (.bin .mod (.bi .int [(.bin .fdiv (.bin .mod (.bi .int [(.var 4)]) (.con (.int 2305843009213693907))) (.con (.int 8192)))]) (.var 1))] E0 st) = _
    rw [hn_ss_nx k0, hn_ss_nx k1, hn_ss_nx k2, hn_ss_nx k3, hn_ss_ret k4]
    show R.ok _ (S1.take st.length) = _
    rw [hn_take_set]
theorem oneD_ok (hf : P.fns[f]? = some drawD) (hg : P.fns[g]? = some (oneA f)) (hN : N < 1000000) {items : List PyData} (e : getO st r = some (.lst [.int a, .int b, .int c])) (G : GoodC N a b c) (h1 : 0 < items.length) (h2 : items.length < 1073741824) :
    ∃ x ∈ items, ∃ a' b' c', GoodC (N + 1) a' b' c' ∧ callN P (n + 2) g [.ref r, .d (.list items)] st = .ok (.d x, false) (st.set r (some (.lst [.int a', .int b', .int c']))) := by
  obtain ⟨x, a', b', c', x0, x1, G', e2⟩ := drawD_ok (n := n) hf hN e G (m := (items.length : Int)) (by omega) (by omega)
  have hx : x.toNat < items.length := by omega
  refine ⟨items[x.toNat], List.getElem_mem hx, a', b', c', G', ?_⟩
  have hat : atD items x = some items[x.toNat] := by
    unfold atD ixN
    rw [if_pos x0, if_pos x1]
    exact List.getElem?_eq_getElem hx
  rw [hn_call_eq hg ⟨rfl, Nat.le_refl 2⟩]
  simp [oneA, exSs, exS, evE, evEs, getV, biV, bi1, lenV, datD, R.bind, R.on, SR.bind, retP, e2, idxV, hat, endV, finV, hn_take_set]
theorem bagD_ok (hf : P.fns[f]? = some bagD) {ns : List Int} {k : Nat} (hk : k < 1000) : ∃ a b, GoodC 0 a b 0 ∧ ∀ st, callN P (n + 1) f [.scr ns, .d (.int (k : Int))] st = .ok (.d (.list [.int a, .int b, .int 0]), true) st := by
  obtain ⟨c, hc⟩ : ∃ c : Int, ∀ st, exS (callN P n) (newN P n) P.fuel (.set 2 (.ife (.cmp .lt (.var 1) (.bi .len [(.var 0)])) (.idx (.var 0) (.var 1)) (.bin .add (.bin .mul (.con (.int 53)) (.var 1)) (.con (.int 29))))) [some (.scr ns), some (.d (.int (k : Int))), none, none] st = .nx [some (.scr ns), some (.d (.int (k : Int))), some (.d (.int c)), none] st := by
    by_cases h : k < ns.length
    · refine ⟨ns[k], fun st => ?_⟩
      have h1 : ((k : Int) < (ns.length : Int)) := by omega
      simp [exS, evE, evEs, getV, biV, bi1, lenV, datD, cmpV, ltD, h1, R.bind, R.on, SR.bind, retB, retP, truV, Tru, idxV, ixN, h, intI, putV, thawV]
    · refine ⟨53 * k + 29, fun st => ?_⟩
      have h1 : ¬ ((k : Int) < (ns.length : Int)) := by omega
      have hm : binI .mul 53 (k : Int) = some (53 * (k : Int)) := hn_mul_small (by decide) (by simp; omega)
      have s2 : ∀ x y : Int, binI .add x y = some (x + y) := fun x y => rfl
      simp [exS, evE, evEs, getV, biV, bi1, lenV, datD, cmpV, ltD, h, R.bind, R.on, SR.bind, retB, retP, truV, Tru, retO, binD, hm, s2, putV, thawV]
  let N2 : Int := 1000000000000000000000000000000000000000000000000000000000000000000000000000000000000000000000000000000000000000000000000000000000000000000000000000000000000000000000000000000000000000000000000000000000000000000000000000000000000000000000000000000000000000000000000000000000000000000000000000000000000000000000000000000000000000000000000000000000000000000000000000000000000000000000000000000000000000000000000000000000000000000000000000000000000000000000000000000000000000000000000000000000000000000000000000000000000000000000000000000000000000000000000000000000000
  let A : Int := if c < 0 then -c else c
  let Y : Int := if c < 0 then 1 else 0
  let G : Int := A % N2
  let X : Int := G % 2305843009213693669 * 7933 + 104759 * k + Y
  have hA : 0 ≤ A := by show 0 ≤ (if c < 0 then -c else c); split <;> omega
  have hY : 0 ≤ Y ∧ Y ≤ 1 := by show 0 ≤ (if c < 0 then (1 : Int) else 0) ∧ (if c < 0 then (1 : Int) else 0) ≤ 1; split <;> omega
  have r1 : 0 ≤ G % 2305843009213693669 := Int.emod_nonneg _ (by decide)
  have r2 : G % 2305843009213693669 < 2305843009213693669 := Int.emod_lt_of_pos _ (by decide)
  have m2 : binI .mul (G % 2305843009213693669) 7933 = some (G % 2305843009213693669 * 7933) := hn_mul_small (by omega) (by decide)
  have m3 : binI .mul 104759 (k : Int) = some (104759 * (k : Int)) := hn_mul_small (by decide) (by simp; omega)
  have p3 : binI .pow 10 18 = some 1000000000000000000 := by decide +kernel
  have d3 : ∀ x : Int, binI .mod x 2305843009213693669 = some (x % 2305843009213693669) := fun x => rfl
  have s2 : ∀ x y : Int, binI .add x y = some (x + y) := fun x y => rfl
  have s1 : ∀ x y : Int, binI .sub x y = some (x - y) := fun x y => rfl
  have g2 : ∀ st, exS (callN P n) (newN P n) P.fuel (.set 3 (.bin .mod (.bi .int [(.bi .abs [(.var 2)])]) (.bin .pow (.bin .pow (.con (.int 10)) (.con (.int 47))) (.con (.int 12))))) [some (.scr ns), some (.d (.int (k : Int))), some (.d (.int c)), none] st = .nx [some (.scr ns), some (.d (.int (k : Int))), some (.d (.int c)), some (.d (.int G))] st := fun st => by kernel_rfl
  have g3 : ∀ st, exS (callN P n) (newN P n) P.fuel (.ret (.lst [(.bi .max2 [(.con (.int 0)), (.bin .sub (.var 3) (.bin .pow (.con (.int 10)) (.con (.int 18))))]), (.bin .add (.bin .add (.bin .mul (.bin .mod (.bi .int [(.var 3)]) (.con (.int 2305843009213693669))) (.con (.int 7933))) (.bin .mul (.con (.int 104759)) (.var 1))) (.bi .int [(.cmp .lt (.var 2) (.con (.int 0)))])), (.con (.int 0))])) [some (.scr ns), some (.d (.int (k : Int))), some (.d (.int c)), some (.d (.int G))] st = .ret (.d (.list [.int (if G - 1000000000000000000 > 0 then G - 1000000000000000000 else 0), .int X, .int 0])) true st := fun st => by
    have hY2 : (if decide (c < 0) = true then (1 : Int) else 0) = Y := by simp only [decide_eq_true_eq]; rfl
    have e1 : absI st (.d (.int c)) = .ok (.d (.int A), false) st := rfl
    simp [exS, evE, evEs, getV, biV, bi1, bi2, maxI, intI, e1, datD, cmpV, ltD, R.bind, R.on, retB, retO, binD, s1, s2, d3, m2, m3, p3, hY2, frzs, frz] <;> (first | rfl | (refine ⟨by decide, ?_⟩; rfl) | trivial)
  refine ⟨if G - 1000000000000000000 > 0 then G - 1000000000000000000 else 0, X, ⟨?_, ?_, ?_, Int.le_refl _, Int.le_refl _⟩, fun st => ?_⟩
  · split <;> omega
  · show 0 ≤ G % 2305843009213693669 * 7933 + 104759 * (k : Int) + Y; omega
  · show G % 2305843009213693669 * 7933 + 104759 * (k : Int) + Y < _; omega
  rw [hn_call_eq hf ⟨rfl, by decide⟩]
  show endV st.length (exSs (callN P n) (newN P n) P.fuel [.set 2 (.ife (.cmp .lt (.var 1) (.bi .len [(.var 0)])) (.idx (.var 0) (.var 1)) (.bin .add (.bin .mul (.con (.int 53)) (.var 1)) (.con (.int 29)))), .set 3 (.bin .mod (.bi .int [(.bi .abs [(.var 2)])]) (.bin .pow (.bin .pow (.con (.int 10)) (.con (.int 47))) (.con (.int 12)))), .ret (.lst [(.bi .max2 [(.con (.int 0)), (.bin .sub (.var 3) (.bin .pow (.con (.int 10)) (.con (.int 18))))]), (.bin .add (.bin .add (.bin .mul (.bin .mod (.bi .int [(.var 3)]) (.con (.int 2305843009213693669))) (.con (.int 7933))) (.bin .mul (.con (.int 104759)) (.var 1))) (.bi .int [(.cmp .lt (.var 2) (.con (.int 0)))])), (.con (.int 0))])] [some (.scr ns), some (.d (.int (k : Int))), none, none] st) = _
  rw [hn_ss_nx (hc st), hn_ss_nx (g2 st), hn_ss_ret (g3 st)]
  show R.ok _ _ = _
  rw [List.take_length]
end
end Ev
end

section
set_option Elab.async false
set_option linter.all false
set_option maxRecDepth 100000
set_option maxHeartbeats 4000000
/-! HnG: may a repr be made? from the parts. -/
namespace Ev
open PySem PySem.Spec
/-- its repr may be made, it is at most k deep and n signs long -/
def ckD (k n : Nat) (d : PyData) : Bool := d.showable && d.canLay0 && decide (d.depth ≤ k) && decide (d.shown.length ≤ n)
theorem ck_of {k n : Nat} {d : PyData} (h : ckD k n d = true) : d.showable = true ∧ d.canLay0 = true ∧ d.depth ≤ k ∧ d.shown.length ≤ n := by
  unfold ckD at h
  simp only [Bool.and_eq_true, decide_eq_true_eq] at h
  exact ⟨h.1.1.1, h.1.1.2, h.1.2, h.2⟩
theorem ck_to {k n : Nat} {d : PyData} (h1 : d.showable = true) (h2 : d.canLay0 = true) (h3 : d.depth ≤ k) (h4 : d.shown.length ≤ n) : ckD k n d = true := by
  unfold ckD
  simp only [Bool.and_eq_true, decide_eq_true_eq]
  exact ⟨⟨⟨h1, h2⟩, h3⟩, h4⟩
theorem ck_up {k n k2 n2 : Nat} {d : PyData} (h : ckD k n d = true) (hk : k ≤ k2) (hn : n ≤ n2) : ckD k2 n2 d = true := by
  obtain ⟨h1, h2, h3, h4⟩ := ck_of h
  exact ck_to h1 h2 (by omega) (by omega)
theorem ck_chk {k n : Nat} {d : PyData} (h : ckD k n d = true) (hk : k ≤ 64) (hn : n ≤ limZ) : hn_chk d = true := by
  obtain ⟨h1, h2, h3, h4⟩ := ck_of h
  unfold hn_chk fineD SeqAt.shaped
  simp only [Bool.and_eq_true, decide_eq_true_eq]
  exact ⟨⟨h1, h2, by omega⟩, by omega⟩
theorem text_le (n : Nat) : ∀ (ts : List Str) (k : Nat) (acc : Str), (∀ t ∈ ts, t.length ≤ n) → (textFrom k acc ts).length ≤ acc.length + ts.length * (n + 2)
  | [], k, acc, _ => by show acc.length ≤ _; omega
  | t :: r, k, acc, h => by
    have h1 := text_le n r (k + 1) (acc ++ (if k > 0 then ", " else "" : String) ++ t) fun u hu => h u (List.mem_cons_of_mem _ hu)
    have h2 := h t List.mem_cons_self
    have e : (acc ++ (if k > 0 then ", " else "" : String) ++ t).length ≤ acc.length + 2 + t.length := by
      rw [strLen_append, strLen_append]
      split
      · show acc.length + 2 + _ ≤ _; omega
      · show acc.length + 0 + _ ≤ _; omega
    show (textFrom (k + 1) (acc ++ (if k > 0 then ", " else "" : String) ++ t) r).length ≤ _
    rw [List.length_cons, Nat.succ_mul]
    omega
theorem piled_le (n : Nat) : ∀ (ts : List Str), (∀ t ∈ ts, t.length ≤ n) → piled ts ≤ ts.length * (n + 2)
  | [], _ => by simp [piled]
  | t :: r, h => by
    have h1 := piled_le n r fun u hu => h u (List.mem_cons_of_mem _ hu)
    have h2 := h t List.mem_cons_self
    rw [List.length_cons, Nat.succ_mul]
    unfold piled at h1 ⊢
    simp only [List.map_cons, List.sum_cons] at *
    omega
theorem shownAll_len : ∀ l : List PyData, (PyData.shownAll l).length = l.length
  | [] => rfl
  | x :: r => by unfold PyData.shownAll; rw [List.length_cons, List.length_cons, shownAll_len r]
theorem ck_all {k n : Nat} : ∀ {l : List PyData}, l.all (ckD k n) = true → PyData.showableAll l = true ∧ PyData.canLayAll0 l = true ∧ PyData.depthAll l ≤ k ∧ ∀ t ∈ PyData.shownAll l, t.length ≤ n
  | [], _ => ⟨by unfold PyData.showableAll; rfl, by unfold PyData.canLayAll0; rfl, by unfold PyData.depthAll; omega, fun t h => by unfold PyData.shownAll at h; cases h⟩
  | x :: r, h => by
    rw [List.all_cons, Bool.and_eq_true] at h
    obtain ⟨a1, a2, a3, a4⟩ := ck_of h.1
    obtain ⟨b1, b2, b3, b4⟩ := ck_all h.2
    refine ⟨?_, ?_, ?_, fun t ht => ?_⟩
    · unfold PyData.showableAll; rw [a1, b1]; rfl
    · unfold PyData.canLayAll0; rw [a2, b2]; rfl
    · unfold PyData.depthAll; exact Nat.max_le.mpr ⟨a3, b3⟩
    · unfold PyData.shownAll at ht
      rcases List.mem_cons.mp ht with rfl | ht
      · exact a4
      · exact b4 t ht
theorem ck_lst {k n : Nat} {l : List PyData} (h : l.all (ckD k n) = true) : ckD (k + 1) (2 + l.length * (n + 2)) (.list l) = true := by
  obtain ⟨h1, h2, h3, h4⟩ := ck_all h
  refine ck_to (by unfold PyData.showable; exact h1) (by unfold PyData.canLay0; exact h2) (by unfold PyData.depth; omega) ?_
  unfold PyData.shown listText
  have := text_le n (PyData.shownAll l) 0 "[" h4
  rw [shownAll_len] at this
  rw [strLen_append]
  have e1 : (("[" : String) : Str).length = 1 := rfl
  have e2 : (("]" : String) : Str).length = 1 := rfl
  rw [e1] at this
  rw [e2]
  omega
theorem ck_tup {k n : Nat} {l : List PyData} (h : l.all (ckD k n) = true) : ckD (k + 1) (3 + l.length * (n + 2)) (.tuple l) = true := by
  obtain ⟨h1, h2, h3, h4⟩ := ck_all h
  refine ck_to (by unfold PyData.showable; exact h1) (by unfold PyData.canLay0; exact h2) (by unfold PyData.depth; omega) ?_
  unfold PyData.shown tupleText
  have hp := piled_le n (PyData.shownAll l) h4
  rw [shownAll_len] at hp
  have e1 : (("(" : String) : Str).length = 1 := rfl
  have hj : (Str.join ", " (PyData.shownAll l)).length ≤ l.length * (n + 2) := by
    cases e : PyData.shownAll l with
    | nil => show (Str.join ", " []).length ≤ _; exact Nat.zero_le _
    | cons t r =>
      have := join_length_add (t :: r) (by simp)
      rw [e] at hp
      omega
  rw [strLen_append, strLen_append, e1]
  split
  · show _ + 2 ≤ _; omega
  · show _ + 1 ≤ _; omega
theorem ck_cons {k n : Nat} {x : PyData} {l : List PyData} (h : ckD k n x = true) (r : l.all (ckD k n) = true) : (x :: l).all (ckD k n) = true := by
  rw [List.all_cons, h, r]; rfl
/-- a word and something -/
theorem ck_pair {z : Str} {x : PyData} (hz : ckD 20 1000 (.str z) = true) (h : ckD 20 1000 x = true) : ckD 30 10000 (.tuple [.str z, x]) = true :=
  ck_up (ck_tup (ck_cons hz (ck_cons h rfl))) (by decide) (by show 3 + 2 * (1000 + 2) ≤ 10000; omega)
end Ev
end

section
set_option Elab.async false
set_option linter.all false
set_option maxRecDepth 100000
set_option maxHeartbeats 0
namespace K49a
open PySem PySem.Spec PyProof.Rows L2 Ev
abbrev top (i : Nat) : Stmt := PySem.Challenge.pw_letinprice_k49_errors_of_hours.main.body.getD i (.Pass ⟨0, 0, 0, 0⟩)
abbrev sub (i j : Nat) : Stmt := (C8.clsBody (top i)).getD j (.Pass ⟨0, 0, 0, 0⟩)
def m55 : Ev.Met := ⟨.run (.tup [(.con (.str "fine"))]), [⟨0, false, (.tup [(.con (.str "book"))])⟩, ⟨6, false, (.tup [(.con (.str "changes"))])⟩, ⟨3, false, (.tup [(.con (.str "spans"))])⟩, ⟨7, false, (.tup [(.con (.str "table"))])⟩, ⟨8, false, (.tup [(.con (.str "grant"))])⟩, ⟨4, false, (.tup [(.con (.str "operation"))])⟩, ⟨2, true, (.tup [(.con (.str "number")), (.fld "given")])⟩, ⟨1, true, (.tup [(.con (.str "name")), (.fld "wanted")])⟩, ⟨9, true, (.tup [(.con (.str "many")), (.fld "limit")])⟩, ⟨5, true, (.tup [(.con (.str "refused")), (.fld "reason")])⟩]⟩
def f0 : Ev.Fn := ⟨1, 1, [
    .ret (.and_ (.isi (.var 0) [.int]) (.and_ (.not_ (.isi (.var 0) [.bool])) (.chain .lt .lt (.un .neg (.glo "GREAT" (.int 1000000000000000000000000000000000000000000000000000000000000))) (.var 0) (.glo "GREAT" (.int 1000000000000000000000000000000000000000000000000000000000000)))))]⟩
def f1 : Ev.Fn := ⟨3, 3, [
    .ret (.and_ (.call 0 [(.var 0)]) (.chain .le .le (.var 1) (.var 0) (.var 2)))]⟩
def f2 : Ev.Fn := ⟨1, 3, [
    .ret (.bi .all [(.comp (.cmp .lt (.var 1) (.var 2)) (.tu [(.nm 1), (.nm 2)]) .zip [(.var 0), (.slc (.var 0) [(.con (.int 1))] [])] [])])]⟩
def f3 : Ev.Fn := ⟨1, 2, [
    .ifs (.or_ (.not_ (.isi (.var 0) [.tup])) (.or_ (.not_ (.chain .le .le (.con (.int 1)) (.bi .len [(.var 0)]) (.glo "MAX_WORDS" (.int 6)))) (.not_ (.bi .all [(.compR (.call 6 [(.var 1)]) (.nm 1) (.var 0) [])])))) [.ret (.con (.bool false))] [],
    .ret (.call 2 [(.var 0)])]⟩
def f4 : Ev.Fn := ⟨2, 2, [
    .ret (.bin .add (.bin .mul (.idx (.var 1) (.con (.int 0))) (.bi .len [(.var 0)])) (.mt .tindex (.var 0) [(.idx (.var 1) (.con (.int 1)))]))]⟩
def f5 : Ev.Fn := ⟨3, 3, [
    .ifs (.or_ (.not_ (.isi (.var 2) [.tup])) (.or_ (.cmp .ne (.bi .len [(.var 2)]) (.con (.int 2))) (.not_ (.call 1 [(.idx (.var 2) (.con (.int 0))), (.con (.int 0)), (.bin .sub (.var 0) (.con (.int 1)))])))) [.ret (.con (.bool false))] [],
    .ret (.and_ (.isi (.idx (.var 2) (.con (.int 1))) [.str]) (.cmp .in_ (.idx (.var 2) (.con (.int 1))) (.var 1)))]⟩
def f6 : Ev.Fn := ⟨1, 2, [
    .ifs (.or_ (.not_ (.isi (.var 0) [.str])) (.not_ (.chain .le .le (.con (.int 1)) (.bi .len [(.var 0)]) (.glo "MAX_LETTERS" (.int 8))))) [.ret (.con (.bool false))] [],
    .ret (.bi .all [(.compR (.cmp .in_ (.var 1) (.glo "LETTERS" (.str "abcdefghijklmnopqrstuvwxyz"))) (.nm 1) (.var 0) [])])]⟩
def f7 : Ev.Fn := ⟨4, 5, [
    .ifs (.or_ (.not_ (.isi (.var 3) [.tup])) (.not_ (.chain .le .le (.con (.int 1)) (.bi .len [(.var 3)]) (.glo "MAX_ROLES" (.int 6))))) [.ret (.con (.bool false))] [],
    .ifs (.or_ (.not_ (.bi .all [(.compR (.call 5 [(.var 0), (.var 1), (.var 4)]) (.nm 4) (.var 3) [])])) (.not_ (.call 2 [(.var 3)]))) [.ret (.con (.bool false))] [],
    .ret (.call 1 [(.var 2), (.con (.int 1)), (.bi .len [(.var 3)])])]⟩
def f8 : Ev.Fn := ⟨3, 5, [
    .ifs (.or_ (.not_ (.isi (.var 2) [.tup])) (.or_ (.cmp .lt (.bi .len [(.var 2)]) (.con (.int 3))) (.or_ (.not_ (.isi (.idx (.var 2) (.con (.int 0))) [.str])) (.cmp .nin (.idx (.var 2) (.con (.int 0))) (.gtu "KINDS" ["all", "both", "of", "one", "some"]))))) [.ret (.con (.bool false))] [],
    .ifs (.not_ (.call 5 [(.var 0), (.var 1), (.idx (.var 2) (.con (.int 1)))])) [.ret (.con (.bool false))] [],
    .par [(3, false), (4, false)] [(.idx (.var 2) (.con (.int 0))), (.slc (.var 2) [(.con (.int 2))] [])],
    .ifs (.cmp .eq (.var 3) (.con (.str "one"))) [.ret (.and_ (.cmp .eq (.bi .len [(.var 4)]) (.con (.int 1))) (.call 1 [(.idx (.var 4) (.con (.int 0))), (.con (.int 0)), (.bin .sub (.var 0) (.con (.int 1)))]))] [],
    .ifs (.cmp .eq (.var 3) (.con (.str "some"))) [.ret (.and_ (.cmp .eq (.bi .len [(.var 4)]) (.con (.int 2))) (.call 7 [(.var 0), (.var 1), (.idx (.var 4) (.con (.int 0))), (.idx (.var 4) (.con (.int 1)))]))] [],
    .ifs (.not_ (.call 5 [(.var 0), (.var 1), (.idx (.var 4) (.con (.int 0)))])) [.ret (.con (.bool false))] [],
    .ifs (.cmp .eq (.var 3) (.con (.str "all"))) [.ret (.cmp .eq (.bi .len [(.var 4)]) (.con (.int 1)))] [],
    .ifs (.cmp .ne (.bi .len [(.var 4)]) (.con (.int 2))) [.ret (.con (.bool false))] [],
    .ifs (.cmp .eq (.var 3) (.con (.str "of"))) [.ret (.and_ (.isi (.idx (.var 4) (.con (.int 1))) [.str]) (.cmp .in_ (.idx (.var 4) (.con (.int 1))) (.var 1)))] [],
    .ret (.call 5 [(.var 0), (.var 1), (.idx (.var 4) (.con (.int 1)))])]⟩
def f9 : Ev.Fn := ⟨3, 5, [
    .ifs (.not_ (.call 1 [(.var 0), (.con (.int 1)), (.glo "MAX_HOUSES" (.int 12))])) [.ret (.tup [(.con (.str "size"))])] [],
    .ifs (.not_ (.call 3 [(.var 1)])) [.ret (.tup [(.con (.str "words"))])] [],
    .ifs (.or_ (.not_ (.isi (.var 2) [.tup])) (.cmp .gt (.bi .len [(.var 2)]) (.glo "MAX_GRANTS" (.int 60)))) [.ret (.tup [(.con (.str "grants"))])] [],
    .for_ (.tu [(.nm 3), (.nm 4)]) .enm [(.var 2)] [.ifs (.or_ (.not_ (.call 8 [(.var 0), (.var 1), (.var 4)])) (.cmp .in_ (.var 4) (.slc (.var 2) [] [(.var 3)]))) [.ret (.tup [(.con (.str "grant")), (.var 3)])] []],
    .ret (.con .none)]⟩
def f10 : Ev.Fn := ⟨2, 2, [
    .ret (.new 0 [(.fld (.var 0) [(0, 1)]), (.fld (.var 0) [(0, 2)]), (.bi .tuple [(.var 1)])])]⟩
def f11 : Ev.Fn := ⟨1, 1, [
    .ifs (.not_ (.isi (.var 0) [.own 0])) [.raise_ 0 [(.con (.str "a book is expected"))]] []]⟩
def f12 : Ev.Fn := ⟨2, 2, [
    .ret (.call 5 [(.fld (.var 0) [(0, 1)]), (.fld (.var 0) [(0, 2)]), (.var 1)])]⟩
def f13 : Ev.Fn := ⟨2, 2, [
    .ifs (.not_ (.call 12 [(.var 0), (.var 1)])) [.raise_ 1 [(.var 1)]] []]⟩
def f14 : Ev.Fn := ⟨2, 2, [
    .ret (.call 1 [(.var 1), (.con (.int 0)), (.bin .sub (.fld (.var 0) [(0, 1)]) (.con (.int 1)))])]⟩
def f15 : Ev.Fn := ⟨2, 2, [
    .ifs (.not_ (.call 14 [(.var 0), (.var 1)])) [.raise_ 2 [(.var 1)]] []]⟩
def f16 : Ev.Fn := ⟨1, 3, [
    .ret (.compR (.bi .sum [(.comp (.bin .shl (.con (.int 1)) (.var 1)) (.nm 1) .over [(.var 2)] [])]) (.nm 2) (.var 0) [])]⟩
def f17 : Ev.Fn := ⟨2, 3, [
    .ret (.bi .tuple [(.comp (.var 2) (.nm 2) .rng [(.var 1)] [(.bin .band (.bin .shr (.var 0) (.var 2)) (.con (.int 1)))])])]⟩
def f18 : Ev.Fn := ⟨2, 3, [
    .ret (.bi .tuple [(.compR (.call 17 [(.var 2), (.var 1)]) (.nm 2) (.var 0) [])])]⟩
def f19 : Ev.Fn := ⟨2, 2, [
    .ret (.bin .mul (.tup [(.tup [])]) (.bin .mul (.var 0) (.bi .len [(.var 1)])))]⟩
def f20 : Ev.Fn := ⟨4, 10, [
    .set 4 (.comp (.call 4 [(.var 0), (.var 5)]) (.nm 5) .over [(.idx (.var 2) (.con (.int 3)))] []),
    .set 6 (.comp (.bi .len [(.comp (.var 7) (.nm 7) .over [(.var 4)] [(.bin .band (.bin .shr (.idx (.var 1) (.var 7)) (.var 8)) (.con (.int 1)))])]) (.nm 8) .rng [(.var 3)] []),
    .ret (.bi .sum [(.comp (.bin .shl (.con (.int 1)) (.var 8)) (.tu [(.nm 8), (.nm 9)]) .enm [(.var 6)] [(.cmp .ge (.var 9) (.idx (.var 2) (.con (.int 2))))])])]⟩
def f21 : Ev.Fn := ⟨4, 8, [
    .set 4 (.idx (.var 3) (.con (.int 0))),
    .ifs (.cmp .eq (.var 4) (.con (.str "one"))) [.ret (.bin .shl (.con (.int 1)) (.idx (.var 3) (.con (.int 2))))] [],
    .ifs (.cmp .eq (.var 4) (.con (.str "some"))) [.ret (.call 20 [(.var 1), (.var 2), (.var 3), (.var 0)])] [],
    .set 5 (.idx (.var 2) (.call 4 [(.var 1), (.idx (.var 3) (.con (.int 2)))])),
    .ifs (.cmp .eq (.var 4) (.con (.str "all"))) [.ret (.var 5)] [],
    .ifs (.cmp .eq (.var 4) (.con (.str "both"))) [.ret (.bin .band (.var 5) (.idx (.var 2) (.call 4 [(.var 1), (.idx (.var 3) (.con (.int 3)))])))] [],
    .set 6 (.con (.int 0)),
    .for_ (.nm 7) .over [(.call 17 [(.var 5), (.var 0)])] [.aug 6 .bor (.idx (.var 2) (.call 4 [(.var 1), (.tup [(.var 7), (.idx (.var 3) (.con (.int 3)))])]))],
    .ret (.var 6)]⟩
def f22 : Ev.Fn := ⟨4, 9, [
    .par [(4, true), (5, false)] [(.bi .list [(.var 3)]), (.con (.bool false))],
    .whl (.not_ (.var 5)) [.set 5 (.con (.bool true)), .forR (.nm 6) (.var 2) [.ifs (.cmp .isn (.var 6) (.con .none)) [.set 7 (.call 4 [(.var 1), (.idx (.var 6) (.con (.int 1)))]), .set 8 (.bin .bor (.idx (.var 4) (.var 7)) (.call 21 [(.var 0), (.var 1), (.var 4), (.var 6)])), .set 5 (.and_ (.var 5) (.cmp .eq (.var 8) (.idx (.var 4) (.var 7)))), .setI (.var 4) (.var 7) (.var 8)] []]],
    .ret (.var 4)]⟩
def f23 : Ev.Fn := ⟨4, 4, [
    .ret (.call 18 [(.call 22 [(.var 0), (.var 1), (.var 2), (.call 16 [(.var 3)])]), (.var 0)])]⟩
def f24 : Ev.Fn := ⟨1, 1, [
    .ret (.call 1 [(.var 0), (.con (.int 0)), (.glo "MOST_HOUR" (.int 100))])]⟩
def f25 : Ev.Fn := ⟨1, 1, [
    .ifs (.or_ (.not_ (.isi (.var 0) [.tup])) (.or_ (.cmp .ne (.bi .len [(.var 0)]) (.con (.int 2))) (.or_ (.not_ (.call 24 [(.idx (.var 0) (.con (.int 0)))])) (.not_ (.call 24 [(.idx (.var 0) (.con (.int 1)))]))))) [.ret (.con (.bool false))] [],
    .ret (.cmp .le (.idx (.var 0) (.con (.int 0))) (.idx (.var 0) (.con (.int 1))))]⟩
def f26 : Ev.Fn := ⟨2, 3, [
    .ret (.and_ (.isi (.var 0) [.tup]) (.and_ (.cmp .eq (.bi .len [(.var 0)]) (.var 1)) (.bi .all [(.compR (.call 25 [(.var 2)]) (.nm 2) (.var 0) [])])))]⟩
def f27 : Ev.Fn := ⟨3, 6, [
    .thaw 3 (.lst []),
    .for_ (.tu [(.nm 4), (.nm 5)]) .zip [(.fld (.fld (.var 0) [(1, 0)]) [(0, 0)]), (.fld (.var 0) [(1, 1)])] [.ex (.mt .append (.var 3) [(.ife (.and_ (.cmp .le (.idx (.var 5) (.con (.int 0))) (.var 1)) (.cmp .le (.var 2) (.idx (.var 5) (.con (.int 1))))) (.var 4) (.con .none))])],
    .ret (.var 3)]⟩
def f28 : Ev.Fn := ⟨2, 3, [
    .ret (.call 10 [(.fld (.var 0) [(1, 0)]), (.comp (.var 2) (.nm 2) .over [(.call 27 [(.var 0), (.var 1), (.var 1)])] [(.cmp .isn (.var 2) (.con .none))])])]⟩
def f29 : Ev.Fn := ⟨4, 5, [
    .set 4 (.call 23 [(.fld (.var 0) [(0, 1)]), (.fld (.var 0) [(0, 2)]), (.var 1), (.call 19 [(.fld (.var 0) [(0, 1)]), (.fld (.var 0) [(0, 2)])])]),
    .ret (.cmp .in_ (.var 3) (.idx (.var 4) (.call 4 [(.fld (.var 0) [(0, 2)]), (.var 2)])))]⟩
def f30 : Ev.Fn := ⟨4, 4, [
    .ret (.callS 29 [false, false, true] [(.fld (.var 0) [(1, 0)]), (.call 27 [(.var 0), (.var 2), (.var 3)]), (.var 1)])]⟩
def f31 : Ev.Fn := ⟨1, 5, [
    .thaw 1 (.dct [(.con (.int 0)), (.con (.bool true))]),
    .for_ (.tu [(.nm 2), (.nm 3)]) .over [(.fld (.var 0) [(1, 1)])] [.setI (.var 1) (.var 2) (.con (.bool true)), .setI (.var 1) (.bin .add (.var 3) (.con (.int 1))) (.con (.bool true))],
    .ret (.bi .sorted [(.dkLe 1 4 "MOST_HOUR" 100)])]⟩
def f32 : Ev.Fn := ⟨2, 6, [
    .par [(2, false), (3, true)] [(.call 31 [(.var 0)]), (.lst [])],
    .for_ (.tu [(.nm 4), (.nm 5)]) .zip [(.var 2), (.spl true [true, false] [(.slc (.var 2) [(.con (.int 1))] []), (.bin .add (.glo "MOST_HOUR" (.int 100)) (.con (.int 1)))])] [.ifs (.call 30 [(.var 0), (.var 1), (.var 4), (.var 4)]) [.ifs (.and_ (.cmp .ne (.var 3) (.lst [])) (.cmp .eq (.idx (.idx (.var 3) (.un .neg (.con (.int 1)))) (.con (.int 1))) (.bin .sub (.var 4) (.con (.int 1))))) [.setI (.var 3) (.un .neg (.con (.int 1))) (.tup [(.idx (.idx (.var 3) (.un .neg (.con (.int 1)))) (.con (.int 0))), (.bin .sub (.var 5) (.con (.int 1)))])] [.ex (.mt .append (.var 3) [(.tup [(.var 4), (.bin .sub (.var 5) (.con (.int 1)))])])]] []],
    .ret (.var 3)]⟩
def f33 : Ev.Fn := ⟨3, 6, [
    .set 3 (.comp (.var 5) (.tu [(.nm 4), (.nm 5)]) .over [(.call 32 [(.var 0), (.var 1)])] [(.chain .le .le (.var 4) (.var 2) (.var 5))]),
    .ret (.ife (.cmp .ne (.var 3) (.lst [])) (.idx (.var 3) (.con (.int 0))) (.con .none))]⟩
def f34 : Ev.Fn := ⟨3, 7, [
    .dead,
    .set 6 (.comp (.var 5) (.nm 5) .over [(.var 3)] [(.call 30 [(.var 0), (.var 1), (.var 2), (.var 5)])]),
    .ret (.ife (.cmp .ne (.var 6) (.lst [])) (.idx (.var 6) (.un .neg (.con (.int 1)))) (.con .none))]⟩
def f35 : Ev.Fn := ⟨1, 6, [
    .par [(1, false), (2, true)] [(.fld (.var 0) [(1, 0)]), (.lst [])],
    .for_ (.nm 3) .over [(.call 31 [(.var 0)])] [.par [(4, false), (5, false)] [(.call 27 [(.var 0), (.var 3), (.var 3)]), (.call 19 [(.fld (.var 1) [(0, 1)]), (.fld (.var 1) [(0, 2)])])], .ex (.mt .append (.var 2) [(.call 23 [(.fld (.var 1) [(0, 1)]), (.fld (.var 1) [(0, 2)]), (.var 4), (.var 5)])])],
    .ret (.var 2)]⟩
def f36 : Ev.Fn := ⟨4, 5, [
    .thaw 4 (.call 27 [(.var 0), (.var 1), (.var 1)]),
    .setI (.var 4) (.var 2) (.ife (.var 3) (.idx (.fld (.fld (.var 0) [(1, 0)]) [(0, 0)]) (.var 2)) (.con .none)),
    .ret (.var 4)]⟩
def f37 : Ev.Fn := ⟨5, 8, [
    .set 5 (.bin .add (.lst [(.var 2)]) (.comp (.var 6) (.nm 6) .over [(.call 31 [(.var 0)])] [(.chain .lt .le (.var 2) (.var 6) (.var 3))])),
    .for_ (.nm 6) .over [(.var 5)] [.thaw 7 (.call 27 [(.var 0), (.var 6), (.var 6)]), .ifs (.cmp .isn (.var 4) (.con .none)) [.setI (.var 7) (.var 4) (.con .none)] [], .ifs (.not_ (.callS 29 [false, false, true] [(.fld (.var 0) [(1, 0)]), (.var 7), (.var 1)])) [.ret (.con (.bool false))] []],
    .ret (.con (.bool true))]⟩
def f38 : Ev.Fn := ⟨1, 1, [
    .ifs (.not_ (.isi (.var 0) [.own 1])) [.raise_ 3 [(.con (.str "a dated book is expected"))]] []]⟩
def f39 : Ev.Fn := ⟨1, 1, [
    .ifs (.not_ (.call 24 [(.var 0)])) [.raise_ 2 [(.var 0)]] []]⟩
def f40 : Ev.Fn := ⟨3, 3, [
    .ex (.call 38 [(.var 0)]),
    .ex (.call 13 [(.fld (.var 0) [(1, 0)]), (.var 1)]),
    .ex (.call 15 [(.fld (.var 0) [(1, 0)]), (.var 2)])]⟩
def f41 : Ev.Fn := ⟨4, 4, [
    .ex (.call 40 [(.var 0), (.var 1), (.var 2)]),
    .ex (.call 39 [(.var 3)])]⟩
def f42 : Ev.Fn := ⟨2, 2, [
    .ex (.call 38 [(.var 0)]),
    .ex (.call 39 [(.var 1)]),
    .ret (.call 28 [(.var 0), (.var 1)])]⟩
def f43 : Ev.Fn := ⟨1, 3, [
    .ex (.call 38 [(.var 0)]),
    .thaw 1 (.lst [(.con (.int 0))]),
    .for_ (.nm 2) .over [(.call 31 [(.var 0)])] [.ifs (.and_ (.cmp .gt (.var 2) (.con (.int 0))) (.cmp .ne (.call 27 [(.var 0), (.var 2), (.var 2)]) (.call 27 [(.var 0), (.bin .sub (.var 2) (.con (.int 1))), (.bin .sub (.var 2) (.con (.int 1)))]))) [.ex (.mt .append (.var 1) [(.var 2)])] []],
    .ret (.bi .tuple [(.var 1)])]⟩
def f44 : Ev.Fn := ⟨3, 3, [
    .ex (.call 40 [(.var 0), (.var 1), (.var 2)]),
    .ret (.bi .tuple [(.call 32 [(.var 0), (.tup [(.var 1), (.var 2)])])])]⟩
def f45 : Ev.Fn := ⟨4, 4, [
    .ex (.call 41 [(.var 0), (.var 1), (.var 2), (.var 3)]),
    .ret (.call 33 [(.var 0), (.tup [(.var 1), (.var 2)]), (.var 3)])]⟩
def f46 : Ev.Fn := ⟨4, 4, [
    .ex (.call 41 [(.var 0), (.var 1), (.var 2), (.var 3)]),
    .ret (.call 34 [(.var 0), (.tup [(.var 1), (.var 2)]), (.var 3)])]⟩
def f47 : Ev.Fn := ⟨2, 6, [
    .ex (.call 38 [(.var 0)]),
    .ex (.call 13 [(.fld (.var 0) [(1, 0)]), (.var 1)]),
    .set 2 (.comp (.idx (.var 3) (.call 4 [(.fld (.fld (.var 0) [(1, 0)]) [(0, 2)]), (.var 1)])) (.nm 3) .over [(.call 35 [(.var 0)])] []),
    .ret (.bi .tuple [(.comp (.var 4) (.nm 4) .rng [(.fld (.fld (.var 0) [(1, 0)]) [(0, 1)])] [(.bi .any [(.comp (.cmp .in_ (.var 4) (.var 5)) (.nm 5) .over [(.var 2)] [])])])])]⟩
def f48 : Ev.Fn := ⟨2, 6, [
    .ex (.call 38 [(.var 0)]),
    .ex (.call 13 [(.fld (.var 0) [(1, 0)]), (.var 1)]),
    .set 2 (.comp (.idx (.var 3) (.call 4 [(.fld (.fld (.var 0) [(1, 0)]) [(0, 2)]), (.var 1)])) (.nm 3) .over [(.call 35 [(.var 0)])] []),
    .ret (.bi .tuple [(.comp (.var 4) (.nm 4) .rng [(.fld (.fld (.var 0) [(1, 0)]) [(0, 1)])] [(.bi .all [(.comp (.cmp .in_ (.var 4) (.var 5)) (.nm 5) .over [(.var 2)] [])])])])]⟩
def f49 : Ev.Fn := ⟨6, 9, [
    .ex (.call 40 [(.var 0), (.var 1), (.var 2)]),
    .ex (.call 39 [(.var 3)]),
    .ex (.call 39 [(.var 4)]),
    .ifs (.not_ (.call 1 [(.var 5), (.con (.int 0)), (.bin .sub (.bi .len [(.fld (.var 0) [(1, 1)])]) (.con (.int 1)))])) [.raise_ 2 [(.var 5)]] [],
    .ifs (.cmp .gt (.var 3) (.var 4)) [.raise_ 4 [(.con (.str "a first hour that is at most the last one is expected"))]] [],
    .par [(6, false), (7, true)] [(.fld (.var 0) [(1, 0)]), (.lst [])],
    .for_ (.nm 8) .rng [(.var 3), (.bin .add (.var 4) (.con (.int 1)))] [.ifs (.not_ (.call 29 [(.var 6), (.call 36 [(.var 0), (.var 8), (.var 5), (.con (.bool false))]), (.var 1), (.var 2)])) [.ex (.mt .append (.var 7) [(.var 8)]), .ifs (.not_ (.call 29 [(.var 6), (.call 36 [(.var 0), (.var 8), (.var 5), (.con (.bool true))]), (.var 1), (.var 2)])) [.ret (.con .none)] []] []],
    .ret (.ife (.cmp .ne (.var 7) (.lst [])) (.tup [(.idx (.var 7) (.con (.int 0))), (.idx (.var 7) (.un .neg (.con (.int 1))))]) (.tup []))]⟩
def f50 : Ev.Fn := ⟨5, 7, [
    .ex (.call 40 [(.var 0), (.var 1), (.var 2)]),
    .ex (.call 39 [(.var 3)]),
    .ex (.call 39 [(.var 4)]),
    .ifs (.cmp .gt (.var 3) (.var 4)) [.raise_ 4 [(.con (.str "a first hour that is at most the last one is expected"))]] [],
    .ifs (.not_ (.call 37 [(.var 0), (.tup [(.var 1), (.var 2)]), (.var 3), (.var 4), (.con .none)])) [.raise_ 5 [(.tup [(.glo "OUT" (.str "out"))])]] [],
    .thaw 5 (.lst []),
    .for_ (.nm 6) .rng [(.bi .len [(.fld (.var 0) [(1, 1)])])] [.ifs (.not_ (.call 37 [(.var 0), (.tup [(.var 1), (.var 2)]), (.var 3), (.var 4), (.var 6)])) [.ex (.mt .append (.var 5) [(.var 6)])] []],
    .ret (.bi .tuple [(.var 5)])]⟩
def f51 : Ev.Fn := ⟨2, 4, [
    .set 2 (.ife (.cmp .lt (.var 1) (.bi .len [(.var 0)])) (.bi .int [(.idx (.var 0) (.var 1))]) (.bin .add (.bin .mul (.con (.int 149)) (.var 1)) (.con (.int 83)))),
    .set 3 (.bin .mod (.bi .max2 [(.con (.int 0)), (.bin .sub (.bi .abs [(.var 2)]) (.bin .pow (.con (.int 10)) (.con (.int 16))))]) (.bin .mul (.bin .pow (.con (.int 10)) (.con (.int 58))) (.bin .pow (.con (.int 10)) (.con (.int 59))))),
    .ret (.lst [(.var 3), (.bin .add (.bin .add (.bin .add (.bin .mul (.bin .mod (.bi .abs [(.var 2)]) (.con (.int 1152921504606846999))) (.con (.int 101))) (.bin .mul (.con (.int 1049)) (.var 1))) (.bin .mul (.con (.int 59)) (.bi .int [(.cmp .lt (.var 2) (.con (.int 0)))]))) (.con (.int 29))), (.con (.int 0))])]⟩
def f52 : Ev.Fn := ⟨2, 5, [
    .ifs (.cmp .gt (.idx (.var 0) (.con (.int 0))) (.con (.int 0))) [.set 2 (.bin .mod (.bi .int [(.idx (.var 0) (.con (.int 0)))]) (.var 1)), .setI (.var 0) (.con (.int 0)) (.bin .fdiv (.idx (.var 0) (.con (.int 0))) (.var 1)), .ret (.var 2)] [],
    .setI (.var 0) (.con (.int 2)) (.bin .add (.idx (.var 0) (.con (.int 2))) (.con (.int 1))),
    .set 3 (.bin .mod (.bi .int [(.bin .add (.idx (.var 0) (.con (.int 1))) (.bin .mul (.con (.int 86028121)) (.idx (.var 0) (.con (.int 2)))))]) (.con (.int 2305843009213693951))),
    .set 4 (.bin .add (.bin .mul (.bin .mod (.bi .int [(.bin .add (.bin .mul (.var 3) (.var 3)) (.bin .mul (.con (.int 107)) (.idx (.var 0) (.con (.int 2)))))]) (.con (.int 2305843009213693921))) (.con (.int 3999971))) (.var 3)),
    .ret (.bin .mod (.bi .int [(.bin .fdiv (.var 4) (.con (.int 65539)))]) (.var 1))]⟩
def f53 : Ev.Fn := ⟨2, 2, [
    .ret (.idx (.var 1) (.call 52 [(.var 0), (.bi .len [(.var 1)])]))]⟩
def f54 : Ev.Fn := ⟨2, 5, [
    .thaw 2 (.bi .list [(.var 1)]),
    .dead,
    .ret (.var 2)]⟩
def f55 : Ev.Fn := ⟨1, 2, [.dead, .dead]⟩
def f56 : Ev.Fn := ⟨5, 6, [
    .thaw 5 (.lst [(.met 55 m55 (.call 45 [(.var 0), (.var 1), (.var 2), (.var 3)])), (.met 55 m55 (.call 46 [(.var 0), (.var 1), (.var 2), (.var 3)]))]),
    .ex (.mt .append (.var 5) [(.met 55 m55 (.call 49 [(.var 0), (.var 1), (.var 2), (.var 3), (.var 4), (.con (.int 0))]))]),
    .ex (.mt .append (.var 5) [(.met 55 m55 (.call 49 [(.var 0), (.var 1), (.var 2), (.con (.int 0)), (.var 3), (.con (.int 9))]))]),
    .ex (.mt .append (.var 5) [(.met 55 m55 (.call 50 [(.var 0), (.var 1), (.var 2), (.var 3), (.var 4)]))]),
    .ex (.mt .append (.var 5) [(.met 55 m55 (.call 44 [(.var 0), (.var 1), (.var 2)]))]),
    .ex (.mt .append (.var 5) [(.met 55 m55 (.call 47 [(.var 0), (.var 1)]))]),
    .ex (.mt .append (.var 5) [(.met 55 m55 (.call 48 [(.var 0), (.var 1)]))]),
    .ex (.mt .append (.var 5) [(.met 55 m55 (.call 42 [(.var 0), (.var 3)]))]),
    .ex (.mt .append (.var 5) [(.met 55 m55 (.call 43 [(.var 0)]))]),
    .ret (.var 5)]⟩
def f57 : Ev.Fn := ⟨2, 7, [
    .set 2 (.call 53 [(.var 0), (.lst [(.con .none), (.con (.str "dated")), (.prop (.get "book") (.var 1) [(1, 68)]), (.tup [(.tup [(.con (.int 0)), (.con (.int 1))])]), (.con (.int 7)), (.dnew false)])]),
    .set 3 (.call 53 [(.var 0), (.lst [(.tup [(.con (.int 2)), (.con (.str "in"))]), (.tup [(.con (.int 0)), (.con (.str "on"))]), (.tup [(.un .neg (.con (.int 1))), (.con (.str "in"))]), (.lst [(.con (.int 0)), (.con (.str "in"))]), (.tup [(.con (.bool true)), (.con (.str "in"))]), (.tup [(.con (.int 0))]), (.con (.str "in")), (.con .none)])]),
    .par [(4, false), (5, false)] [(.call 53 [(.var 0), (.lst [(.con (.int 2)), (.un .neg (.con (.int 1))), (.con .none), (.con (.bool true)), (.con (.str "1")), (.tup [(.con (.int 0))]), (.bin .pow (.con (.int 10)) (.con (.int 60)))])]), (.call 53 [(.var 0), (.lst [(.un .neg (.con (.int 1))), (.con (.int 101)), (.con .none), (.con (.bool true)), (.con (.str "5")), (.tup [(.con (.int 5))])])])],
    .ifs (.cmp .ne (.call 56 [(.var 2), (.var 3), (.var 4), (.var 5), (.var 5)]) (.bin .mul (.lst [(.tup [(.con (.str "spans"))])]) (.con (.int 10)))) [.ret (.con (.bool false))] [],
    .ifs (.cmp .ne (.bi .repr [(.call 56 [(.var 1), (.var 3), (.var 4), (.var 5), (.var 5)])]) (.bi .repr [(.bin .add (.bin .mul (.lst [(.tup [(.con (.str "name")), (.var 3)])]) (.con (.int 8))) (.lst [(.tup [(.con (.str "number")), (.var 5)]), (.tup [(.con (.str "fine"))])]))])) [.ret (.con (.bool false))] [],
    .ifs (.cmp .ne (.bi .repr [(.call 56 [(.var 1), (.tup [(.con (.int 0)), (.con (.str "in"))]), (.var 4), (.var 5), (.var 5)])]) (.bi .repr [(.bin .add (.bin .add (.bin .mul (.lst [(.tup [(.con (.str "number")), (.var 4)])]) (.con (.int 6))) (.bin .mul (.lst [(.tup [(.con (.str "fine"))])]) (.con (.int 2)))) (.lst [(.tup [(.con (.str "number")), (.var 5)]), (.tup [(.con (.str "fine"))])]))])) [.ret (.con (.bool false))] [],
    .set 6 (.bin .add (.call 56 [(.var 1), (.tup [(.con (.int 0)), (.con (.str "in"))]), (.con (.int 1)), (.var 5), (.con (.int 0))]) (.lst [(.met 55 m55 (.call 50 [(.var 1), (.tup [(.con (.int 0)), (.con (.str "in"))]), (.con (.int 1)), (.con (.int 3)), (.var 5)]))])),
    .ret (.cmp .eq (.bi .repr [(.var 6)]) (.bi .repr [(.bin .add (.bin .add (.bin .mul (.lst [(.tup [(.con (.str "number")), (.var 5)])]) (.con (.int 5))) (.bin .mul (.lst [(.tup [(.con (.str "fine"))])]) (.con (.int 3)))) (.lst [(.tup [(.con (.str "number")), (.var 5)]), (.tup [(.con (.str "fine"))]), (.tup [(.con (.str "number")), (.var 5)])]))]))]⟩
def f58 : Ev.Fn := ⟨1, 5, [
    .set 1 (.new 0 [(.con (.int 2)), (.tup [(.con (.str "in")), (.con (.str "old"))]), (.tup [(.tup [(.con (.str "one")), (.tup [(.con (.int 0)), (.con (.str "in"))]), (.con (.int 1))]), (.tup [(.con (.str "one")), (.tup [(.con (.int 0)), (.con (.str "in"))]), (.con (.int 0))])])]),
    .set 2 (.lst [(.con .none), (.tup []), (.tup [(.tup [(.con (.int 0)), (.con (.int 1))])]), (.lst [(.tup [(.con (.int 0)), (.con (.int 1))]), (.tup [(.con (.int 2)), (.con (.int 3))])]), (.tup [(.tup [(.con (.int 0)), (.con (.int 1))]), (.tup [(.con (.int 3)), (.con (.int 2))])]), (.tup [(.tup [(.con (.int 0)), (.con (.int 1))]), (.tup [(.con (.int 0)), (.con (.int 101))])]), (.tup [(.tup [(.un .neg (.con (.int 1))), (.con (.int 1))]), (.tup [(.con (.int 0)), (.con (.int 1))])]), (.tup [(.tup [(.con (.int 0)), (.con (.bool true))]), (.tup [(.con (.int 0)), (.con (.int 1))])])]),
    .set 2 (.bin .add (.var 2) (.lst [(.tup [(.tup [(.con (.int 0)), (.con (.int 1))]), (.tup [(.con (.int 0)), (.con (.int 1))]), (.tup [(.con (.int 0)), (.con (.int 1))])]), (.tup [(.tup [(.con (.int 0)), (.con (.int 1))]), (.lst [(.con (.int 0)), (.con (.int 1))])]), (.tup [(.tup [(.con (.int 0))]), (.tup [(.con (.int 1)), (.con (.int 2))])]), (.tup [(.tup [(.con (.int 0)), (.con .none)]), (.tup [(.con (.int 1)), (.con (.int 2))])])])),
    .set 3 (.call 53 [(.var 0), (.lst [(.con .none), (.con (.str "book")), (.tup [(.con (.int 2)), (.tup [(.con (.str "in"))]), (.tup [])]), (.con (.int 7))])]),
    .ifs (.cmp .ne (.comp (.con (.int 1)) (.nm 4) .over [(.var 2)] [(.cmp .ne (.met 55 m55 (.new 1 [(.var 1), (.var 4)])) (.tup [(.con (.str "spans"))]))]) (.lst [])) [.ret (.con (.bool false))] [],
    .ifs (.cmp .ne (.met 55 m55 (.new 1 [(.var 3), (.idx (.var 2) (.con (.int 0)))])) (.tup [(.con (.str "book"))])) [.ret (.con (.bool false))] [],
    .ret (.cmp .eq (.met 55 m55 (.new 1 [(.var 1), (.tup [(.tup [(.con (.int 0)), (.con (.int 100))]), (.tup [(.con (.int 7)), (.con (.int 7))])])])) (.tup [(.con (.str "fine"))]))]⟩
def f59 : Ev.Fn := ⟨1, 8, [
    .set 1 (.new 1 [(.new 0 [(.con (.int 2)), (.tup [(.con (.str "in")), (.con (.str "old"))]), (.tup [(.tup [(.con (.str "one")), (.tup [(.con (.int 0)), (.con (.str "in"))]), (.con (.int 1))])])]), (.tup [(.tup [(.con (.int 0)), (.con (.int 50))])])]),
    .for_ (.nm 2) .rng [(.bi .max2 [(.con (.int 1)), (.bi .min2 [(.con (.int 2)), (.bi .len [(.var 0)])])])] [.thaw 3 (.call 51 [(.var 0), (.var 2)]), .ifs (.or_ (.cmp .ne (.comp (.con (.int 1)) (.nm 4) .rng [(.con (.int 4))] [(.not_ (.call 57 [(.var 3), (.var 1)]))]) (.lst [])) (.not_ (.call 58 [(.var 3)]))) [.ret (.con (.bool false))] []],
    .thaw 5 (.lst [(.met 55 m55 (.call 50 [(.var 1), (.tup [(.con (.int 0)), (.con (.str "in"))]), (.con (.int 1)), (.con (.int 5)), (.con (.int 4))])), (.met 55 m55 (.call 50 [(.var 1), (.tup [(.con (.int 0)), (.con (.str "in"))]), (.con (.int 1)), (.con (.int 5)), (.con (.int 51))]))]),
    .ex (.mt .append (.var 5) [(.met 55 m55 (.call 50 [(.var 1), (.tup [(.con (.int 0)), (.con (.str "in"))]), (.con (.int 0)), (.con (.int 4)), (.con (.int 4))]))]),
    .ex (.mt .append (.var 5) [(.met 55 m55 (.call 49 [(.var 1), (.tup [(.con (.int 0)), (.con (.str "in"))]), (.con (.int 1)), (.con (.int 5)), (.con (.int 4)), (.con (.int 0))]))]),
    .ex (.mt .append (.var 5) [(.met 55 m55 (.call 49 [(.var 1), (.tup [(.con (.int 0)), (.con (.str "in"))]), (.con (.int 1)), (.con (.int 5)), (.con (.int 4)), (.con (.int 1))]))]),
    .for_ (.nm 6) .over [(.tup [(.un .neg (.con (.int 1))), (.con (.int 1)), (.con (.bool true)), (.con .none), (.con (.str "0"))])] [.ex (.mt .append (.var 5) [(.met 55 m55 (.call 49 [(.var 1), (.tup [(.con (.int 0)), (.con (.str "in"))]), (.con (.int 1)), (.con (.int 4)), (.con (.int 5)), (.var 6)]))])],
    .set 7 (.lst [(.tup [(.con (.str "operation"))]), (.tup [(.con (.str "refused")), (.tup [(.con (.str "out"))])]), (.tup [(.con (.str "refused")), (.tup [(.con (.str "out"))])]), (.tup [(.con (.str "operation"))]), (.tup [(.con (.str "number")), (.con (.int 1))])]),
    .ret (.cmp .eq (.bi .repr [(.bin .add (.var 5) (.lst [(.glo "MOST_HOUR" (.int 100))]))]) (.bi .repr [(.bin .add (.bin .add (.var 7) (.comp (.tup [(.con (.str "number")), (.var 6)]) (.nm 6) .over [(.tup [(.un .neg (.con (.int 1))), (.con (.int 1)), (.con (.bool true)), (.con .none), (.con (.str "0"))])] [])) (.lst [(.con (.int 100))]))]))]⟩
def f60 : Ev.Fn := ⟨4, 4, [
    .ifs (.cmp .isn (.call 9 [(.var 1), (.var 2), (.var 3)]) (.con .none)) [.raise_ 0 [(.con (.str "a size, words and grants are expected"))]] [],
    .setF (.var 0) [(0, 1)] (.var 1),
    .setF (.var 0) [(0, 2)] (.var 2),
    .setF (.var 0) [(0, 0)] (.var 3)]⟩
def f61 : Ev.Fn := ⟨3, 3, [
    .ex (.call 11 [(.var 1)]),
    .ifs (.not_ (.call 26 [(.var 2), (.bi .len [(.fld (.var 1) [(0, 0)])])])) [.raise_ 3 [(.con (.str "a span for each grant is expected"))]] [],
    .setF (.var 0) [(1, 0)] (.var 1),
    .setF (.var 0) [(1, 1)] (.var 2)]⟩
def f62 : Ev.Fn := ⟨1, 1, [
    .ret (.fld (.var 0) [(0, 1)])]⟩
def f63 : Ev.Fn := ⟨1, 1, [
    .ret (.fld (.var 0) [(0, 2)])]⟩
def f64 : Ev.Fn := ⟨1, 1, [
    .ret (.fld (.var 0) [(0, 0)])]⟩
def f65 : Ev.Fn := ⟨1, 1, [
    .ret (.bi .len [(.fld (.var 0) [(0, 0)])])]⟩
def f66 : Ev.Fn := ⟨2, 2, [
    .ifs (.or_ (.not_ (.isi (.var 1) [.own 0])) (.cmp .ne (.fld (.var 0) [(0, 1)]) (.fld (.var 1) [(0, 1)]))) [.ret (.con (.bool false))] [],
    .ret (.and_ (.cmp .eq (.fld (.var 0) [(0, 2)]) (.fld (.var 1) [(0, 2)])) (.cmp .eq (.fld (.var 0) [(0, 0)]) (.fld (.var 1) [(0, 0)])))]⟩
def f67 : Ev.Fn := ⟨1, 1, [
    .ret (.fstr [(.con (.str "book of ")), (.fld (.var 0) [(0, 1)]), (.con (.str " houses, ")), (.bi .len [(.fld (.var 0) [(0, 2)])]), (.con (.str " words, ")), (.bi .len [(.fld (.var 0) [(0, 0)])]), (.con (.str " grants"))])]⟩
def f68 : Ev.Fn := ⟨1, 1, [
    .ret (.fld (.var 0) [(1, 0)])]⟩
def f69 : Ev.Fn := ⟨1, 1, [
    .ret (.fld (.var 0) [(1, 1)])]⟩
def f70 : Ev.Fn := ⟨1, 1, [
    .ret (.bi .len [(.fld (.var 0) [(1, 1)])])]⟩
def f71 : Ev.Fn := ⟨2, 2, [
    .ret (.and_ (.isi (.var 1) [.own 1]) (.and_ (.cmp .eq (.fld (.var 0) [(1, 0)]) (.fld (.var 1) [(1, 0)])) (.cmp .eq (.fld (.var 0) [(1, 1)]) (.fld (.var 1) [(1, 1)]))))]⟩
def f72 : Ev.Fn := ⟨1, 1, [
    .ret (.fstr [(.con (.str "dated book of ")), (.fld (.fld (.var 0) [(1, 0)]) [(0, 1)]), (.con (.str " houses, ")), (.bi .len [(.fld (.var 0) [(1, 1)])]), (.con (.str " grants"))])]⟩
def i0 : Ev.FI := ⟨"is_whole", "is_whole", C8.fnArgs (top 17), C8.fnBody (top 17), C8.fnScope (top 17), [("value" : Str)], [("value" : Str)]⟩
def i1 : Ev.FI := ⟨"is_within", "is_within", C8.fnArgs (top 18), C8.fnBody (top 18), C8.fnScope (top 18), [("value" : Str), ("low" : Str), ("high" : Str)], [("value" : Str), ("low" : Str), ("high" : Str)]⟩
def i2 : Ev.FI := ⟨"is_rising", "is_rising", C8.fnArgs (top 19), C8.fnBody (top 19), C8.fnScope (top 19), [("row" : Str), ("one" : Str), ("other" : Str)], [("row" : Str)]⟩
def i3 : Ev.FI := ⟨"are_words_in", "are_words_in", C8.fnArgs (top 20), C8.fnBody (top 20), C8.fnScope (top 20), [("value" : Str), ("one" : Str)], [("value" : Str)]⟩
def i4 : Ev.FI := ⟨"place_in", "place_in", C8.fnArgs (top 21), C8.fnBody (top 21), C8.fnScope (top 21), [("words" : Str), ("role" : Str)], [("words" : Str), ("role" : Str)]⟩
def i5 : Ev.FI := ⟨"is_role_in", "is_role_in", C8.fnArgs (top 22), C8.fnBody (top 22), C8.fnScope (top 22), [("size" : Str), ("words" : Str), ("value" : Str)], [("size" : Str), ("words" : Str), ("value" : Str)]⟩
def i6 : Ev.FI := ⟨"is_name", "is_name", C8.fnArgs (top 23), C8.fnBody (top 23), C8.fnScope (top 23), [("value" : Str), ("letter" : Str)], [("value" : Str)]⟩
def i7 : Ev.FI := ⟨"are_some_roles", "are_some_roles", C8.fnArgs (top 29), C8.fnBody (top 29), C8.fnScope (top 29), [("size" : Str), ("words" : Str), ("many" : Str), ("value" : Str), ("role" : Str)], [("size" : Str), ("words" : Str), ("many" : Str), ("value" : Str)]⟩
def i8 : Ev.FI := ⟨"is_grant_in", "is_grant_in", C8.fnArgs (top 30), C8.fnBody (top 30), C8.fnScope (top 30), [("size" : Str), ("words" : Str), ("value" : Str), ("word" : Str), ("rest" : Str)], [("size" : Str), ("words" : Str), ("value" : Str)]⟩
def i9 : Ev.FI := ⟨"book_fault", "book_fault", C8.fnArgs (top 31), C8.fnBody (top 31), C8.fnScope (top 31), [("size" : Str), ("words" : Str), ("grants" : Str), ("index" : Str), ("grant" : Str)], [("size" : Str), ("words" : Str), ("grants" : Str)]⟩
def i10 : Ev.FI := ⟨"with_grants", "with_grants", C8.fnArgs (top 33), C8.fnBody (top 33), C8.fnScope (top 33), [("book" : Str), ("grants" : Str)], [("book" : Str), ("grants" : Str)]⟩
def i11 : Ev.FI := ⟨"require_book", "require_book", C8.fnArgs (top 34), C8.fnBody (top 34), C8.fnScope (top 34), [("book" : Str)], [("book" : Str)]⟩
def i12 : Ev.FI := ⟨"is_role_of", "is_role_of", C8.fnArgs (top 35), C8.fnBody (top 35), C8.fnScope (top 35), [("book" : Str), ("value" : Str)], [("book" : Str), ("value" : Str)]⟩
def i13 : Ev.FI := ⟨"require_role", "require_role", C8.fnArgs (top 36), C8.fnBody (top 36), C8.fnScope (top 36), [("book" : Str), ("role" : Str)], [("book" : Str), ("role" : Str)]⟩
def i14 : Ev.FI := ⟨"is_person_of", "is_person_of", C8.fnArgs (top 37), C8.fnBody (top 37), C8.fnScope (top 37), [("book" : Str), ("value" : Str)], [("book" : Str), ("value" : Str)]⟩
def i15 : Ev.FI := ⟨"require_person", "require_person", C8.fnArgs (top 38), C8.fnBody (top 38), C8.fnScope (top 38), [("book" : Str), ("person" : Str)], [("book" : Str), ("person" : Str)]⟩
def i16 : Ev.FI := ⟨"bits_of", "bits_of", C8.fnArgs (top 40), C8.fnBody (top 40), C8.fnScope (top 40), [("table" : Str), ("person" : Str), ("row" : Str)], [("table" : Str)]⟩
def i17 : Ev.FI := ⟨"row_of", "row_of", C8.fnArgs (top 41), C8.fnBody (top 41), C8.fnScope (top 41), [("number" : Str), ("size" : Str), ("person" : Str)], [("number" : Str), ("size" : Str)]⟩
def i18 : Ev.FI := ⟨"table_of", "table_of", C8.fnArgs (top 42), C8.fnBody (top 42), C8.fnScope (top 42), [("numbers" : Str), ("size" : Str), ("number" : Str)], [("numbers" : Str), ("size" : Str)]⟩
def i19 : Ev.FI := ⟨"empty", "empty", C8.fnArgs (top 43), C8.fnBody (top 43), C8.fnScope (top 43), [("size" : Str), ("words" : Str)], [("size" : Str), ("words" : Str)]⟩
def i20 : Ev.FI := ⟨"let_in_some", "let_in_some", C8.fnArgs (top 44), C8.fnBody (top 44), C8.fnScope (top 44), [("words" : Str), ("numbers" : Str), ("grant" : Str), ("size" : Str), ("places" : Str), ("role" : Str), ("counts" : Str), ("place" : Str), ("person" : Str), ("count" : Str)], [("words" : Str), ("numbers" : Str), ("grant" : Str), ("size" : Str)]⟩
def i21 : Ev.FI := ⟨"let_in", "let_in", C8.fnArgs (top 45), C8.fnBody (top 45), C8.fnScope (top 45), [("size" : Str), ("words" : Str), ("numbers" : Str), ("grant" : Str), ("word" : Str), ("first" : Str), ("found" : Str), ("house" : Str)], [("size" : Str), ("words" : Str), ("numbers" : Str), ("grant" : Str)]⟩
def i22 : Ev.FI := ⟨"closing_numbers", "closing_numbers", C8.fnArgs (top 46), C8.fnBody (top 46), C8.fnScope (top 46), [("size" : Str), ("words" : Str), ("grants" : Str), ("numbers" : Str), ("found" : Str), ("is_done" : Str), ("grant" : Str), ("place" : Str), ("more" : Str)], [("size" : Str), ("words" : Str), ("grants" : Str), ("numbers" : Str)]⟩
def i23 : Ev.FI := ⟨"closing", "closing", C8.fnArgs (top 47), C8.fnBody (top 47), C8.fnScope (top 47), [("size" : Str), ("words" : Str), ("grants" : Str), ("table" : Str)], [("size" : Str), ("words" : Str), ("grants" : Str), ("table" : Str)]⟩
def i24 : Ev.FI := ⟨"is_hour_of", "is_hour_of", C8.fnArgs (top 51), C8.fnBody (top 51), C8.fnScope (top 51), [("value" : Str)], [("value" : Str)]⟩
def i25 : Ev.FI := ⟨"is_span", "is_span", C8.fnArgs (top 52), C8.fnBody (top 52), C8.fnScope (top 52), [("value" : Str)], [("value" : Str)]⟩
def i26 : Ev.FI := ⟨"are_spans", "are_spans", C8.fnArgs (top 53), C8.fnBody (top 53), C8.fnScope (top 53), [("value" : Str), ("many" : Str), ("one" : Str)], [("value" : Str), ("many" : Str)]⟩
def i27 : Ev.FI := ⟨"grants_from", "grants_from", C8.fnArgs (top 55), C8.fnBody (top 55), C8.fnScope (top 55), [("dated" : Str), ("first" : Str), ("last" : Str), ("found" : Str), ("grant" : Str), ("span" : Str)], [("dated" : Str), ("first" : Str), ("last" : Str)]⟩
def i28 : Ev.FI := ⟨"book_in", "book_in", C8.fnArgs (top 56), C8.fnBody (top 56), C8.fnScope (top 56), [("dated" : Str), ("hour" : Str), ("grant" : Str)], [("dated" : Str), ("hour" : Str)]⟩
def i29 : Ev.FI := ⟨"is_in_by", "is_in_by", C8.fnArgs (top 57), C8.fnBody (top 57), C8.fnScope (top 57), [("book" : Str), ("grants" : Str), ("role" : Str), ("person" : Str), ("table" : Str)], [("book" : Str), ("grants" : Str), ("role" : Str), ("person" : Str)]⟩
def i30 : Ev.FI := ⟨"is_in_from", "is_in_from", C8.fnArgs (top 58), C8.fnBody (top 58), C8.fnScope (top 58), [("dated" : Str), ("asked" : Str), ("first" : Str), ("last" : Str)], [("dated" : Str), ("asked" : Str), ("first" : Str), ("last" : Str)]⟩
def i31 : Ev.FI := ⟨"turning_hours", "turning_hours", C8.fnArgs (top 59), C8.fnBody (top 59), C8.fnScope (top 59), [("dated" : Str), ("found" : Str), ("first" : Str), ("last" : Str), ("hour" : Str)], [("dated" : Str)]⟩
def i32 : Ev.FI := ⟨"stretches", "stretches", C8.fnArgs (top 60), C8.fnBody (top 60), C8.fnScope (top 60), [("dated" : Str), ("asked" : Str), ("hours" : Str), ("found" : Str), ("hour" : Str), ("later" : Str)], [("dated" : Str), ("asked" : Str)]⟩
def i33 : Ev.FI := ⟨"end_from", "end_from", C8.fnArgs (top 61), C8.fnBody (top 61), C8.fnScope (top 61), [("dated" : Str), ("asked" : Str), ("hour" : Str), ("some" : Str), ("first" : Str), ("last" : Str)], [("dated" : Str), ("asked" : Str), ("hour" : Str)]⟩
def i34 : Ev.FI := ⟨"one_end", "one_end", C8.fnArgs (top 62), C8.fnBody (top 62), C8.fnScope (top 62), [("dated" : Str), ("asked" : Str), ("hour" : Str), ("lasts" : Str), ("first" : Str), ("last" : Str), ("some" : Str)], [("dated" : Str), ("asked" : Str), ("hour" : Str)]⟩
def i35 : Ev.FI := ⟨"tables_at", "tables_at", C8.fnArgs (top 63), C8.fnBody (top 63), C8.fnScope (top 63), [("dated" : Str), ("book" : Str), ("found" : Str), ("hour" : Str), ("grants" : Str), ("known" : Str)], [("dated" : Str)]⟩
def i36 : Ev.FI := ⟨"with_other", "with_other", C8.fnArgs (top 64), C8.fnBody (top 64), C8.fnScope (top 64), [("dated" : Str), ("hour" : Str), ("number" : Str), ("is_there" : Str), ("grants" : Str)], [("dated" : Str), ("hour" : Str), ("number" : Str), ("is_there" : Str)]⟩
def i37 : Ev.FI := ⟨"is_all_along", "is_all_along", C8.fnArgs (top 65), C8.fnBody (top 65), C8.fnScope (top 65), [("dated" : Str), ("asked" : Str), ("first" : Str), ("last" : Str), ("banned" : Str), ("hours" : Str), ("hour" : Str), ("grants" : Str)], [("dated" : Str), ("asked" : Str), ("first" : Str), ("last" : Str), ("banned" : Str)]⟩
def i38 : Ev.FI := ⟨"require_dated", "require_dated", C8.fnArgs (top 66), C8.fnBody (top 66), C8.fnScope (top 66), [("value" : Str)], [("value" : Str)]⟩
def i39 : Ev.FI := ⟨"require_hour", "require_hour", C8.fnArgs (top 67), C8.fnBody (top 67), C8.fnScope (top 67), [("value" : Str)], [("value" : Str)]⟩
def i40 : Ev.FI := ⟨"require_asked", "require_asked", C8.fnArgs (top 68), C8.fnBody (top 68), C8.fnScope (top 68), [("dated" : Str), ("role" : Str), ("person" : Str)], [("dated" : Str), ("role" : Str), ("person" : Str)]⟩
def i41 : Ev.FI := ⟨"require_at", "require_at", C8.fnArgs (top 69), C8.fnBody (top 69), C8.fnScope (top 69), [("dated" : Str), ("role" : Str), ("person" : Str), ("hour" : Str)], [("dated" : Str), ("role" : Str), ("person" : Str), ("hour" : Str)]⟩
def i42 : Ev.FI := ⟨"book_at", "book_at", C8.fnArgs (top 70), C8.fnBody (top 70), C8.fnScope (top 70), [("dated" : Str), ("hour" : Str)], [("dated" : Str), ("hour" : Str)]⟩
def i43 : Ev.FI := ⟨"change_hours", "change_hours", C8.fnArgs (top 71), C8.fnBody (top 71), C8.fnScope (top 71), [("dated" : Str), ("found" : Str), ("hour" : Str)], [("dated" : Str)]⟩
def i44 : Ev.FI := ⟨"hours_in", "hours_in", C8.fnArgs (top 72), C8.fnBody (top 72), C8.fnScope (top 72), [("dated" : Str), ("role" : Str), ("person" : Str)], [("dated" : Str), ("role" : Str), ("person" : Str)]⟩
def i45 : Ev.FI := ⟨"until", "until", C8.fnArgs (top 73), C8.fnBody (top 73), C8.fnScope (top 73), [("dated" : Str), ("role" : Str), ("person" : Str), ("hour" : Str)], [("dated" : Str), ("role" : Str), ("person" : Str), ("hour" : Str)]⟩
def i46 : Ev.FI := ⟨"until_by_one", "until_by_one", C8.fnArgs (top 74), C8.fnBody (top 74), C8.fnScope (top 74), [("dated" : Str), ("role" : Str), ("person" : Str), ("hour" : Str)], [("dated" : Str), ("role" : Str), ("person" : Str), ("hour" : Str)]⟩
def i47 : Ev.FI := ⟨"ever_in", "ever_in", C8.fnArgs (top 75), C8.fnBody (top 75), C8.fnScope (top 75), [("dated" : Str), ("role" : Str), ("rows" : Str), ("table" : Str), ("person" : Str), ("row" : Str)], [("dated" : Str), ("role" : Str)]⟩
def i48 : Ev.FI := ⟨"always_in", "always_in", C8.fnArgs (top 76), C8.fnBody (top 76), C8.fnScope (top 76), [("dated" : Str), ("role" : Str), ("rows" : Str), ("table" : Str), ("person" : Str), ("row" : Str)], [("dated" : Str), ("role" : Str)]⟩
def i49 : Ev.FI := ⟨"least_span", "least_span", C8.fnArgs (top 77), C8.fnBody (top 77), C8.fnScope (top 77), [("dated" : Str), ("role" : Str), ("person" : Str), ("first" : Str), ("last" : Str), ("number" : Str), ("book" : Str), ("wanted" : Str), ("hour" : Str)], [("dated" : Str), ("role" : Str), ("person" : Str), ("first" : Str), ("last" : Str), ("number" : Str)]⟩
def i50 : Ev.FI := ⟨"spans_needed", "spans_needed", C8.fnArgs (top 78), C8.fnBody (top 78), C8.fnScope (top 78), [("dated" : Str), ("role" : Str), ("person" : Str), ("first" : Str), ("last" : Str), ("found" : Str), ("index" : Str)], [("dated" : Str), ("role" : Str), ("person" : Str), ("first" : Str), ("last" : Str)]⟩
def i51 : Ev.FI := ⟨"_law_bag", "_law_bag", C8.fnArgs (top 80), C8.fnBody (top 80), C8.fnScope (top 80), [("script" : Str), ("spot" : Str), ("cell" : Str), ("great" : Str)], [("script" : Str), ("spot" : Str)]⟩
def i52 : Ev.FI := ⟨"_law_draw", "_law_draw", C8.fnArgs (top 81), C8.fnBody (top 81), C8.fnScope (top 81), [("bag" : Str), ("total" : Str), ("found" : Str), ("one" : Str), ("two" : Str)], [("bag" : Str), ("total" : Str)]⟩
def i53 : Ev.FI := ⟨"_law_one_of", "_law_one_of", C8.fnArgs (top 82), C8.fnBody (top 82), C8.fnScope (top 82), [("bag" : Str), ("items" : Str)], [("bag" : Str), ("items" : Str)]⟩
def i54 : Ev.FI := ⟨"_law_mixed", "_law_mixed", C8.fnArgs (top 83), C8.fnBody (top 83), C8.fnScope (top 83), [("bag" : Str), ("items" : Str), ("found" : Str), ("at" : Str), ("other" : Str)], [("bag" : Str), ("items" : Str)]⟩
def i55 : Ev.FI := ⟨"_law_met", "_law_met", C8.fnArgs (top 84), C8.fnBody (top 84), C8.fnScope (top 84), [("call" : Str), ("error" : Str)], [("call" : Str)]⟩
def i56 : Ev.FI := ⟨"_law_all", "_law_all", C8.fnArgs (top 85), C8.fnBody (top 85), C8.fnScope (top 85), [("dated" : Str), ("role" : Str), ("person" : Str), ("hour" : Str), ("last" : Str), ("told" : Str)], [("dated" : Str), ("role" : Str), ("person" : Str), ("hour" : Str), ("last" : Str)]⟩
def i57 : Ev.FI := ⟨"_law_right", "_law_right", C8.fnArgs (top 86), C8.fnBody (top 86), C8.fnScope (top 86), [("bag" : Str), ("dated" : Str), ("none" : Str), ("role" : Str), ("person" : Str), ("hour" : Str), ("told" : Str)], [("bag" : Str), ("dated" : Str)]⟩
def i58 : Ev.FI := ⟨"_law_made_right", "_law_made_right", C8.fnArgs (top 87), C8.fnBody (top 87), C8.fnScope (top 87), [("bag" : Str), ("book" : Str), ("odd" : Str), ("none" : Str), ("spans" : Str)], [("bag" : Str)]⟩
def i59 : Ev.FI := ⟨"law", "law", C8.fnArgs (top 88), C8.fnBody (top 88), C8.fnScope (top 88), [("script" : Str), ("dated" : Str), ("at" : Str), ("bag" : Str), ("turn" : Str), ("told" : Str), ("number" : Str), ("due" : Str)], [("script" : Str)]⟩
def i60 : Ev.FI := ⟨"__init__", "Book.__init__", C8.fnArgs (sub 32 1), C8.fnBody (sub 32 1), C8.fnScope (sub 32 1), [("self" : Str), ("size" : Str), ("words" : Str), ("grants" : Str)], [("self" : Str), ("size" : Str), ("words" : Str), ("grants" : Str)]⟩
def i61 : Ev.FI := ⟨"__init__", "Dated.__init__", C8.fnArgs (sub 54 1), C8.fnBody (sub 54 1), C8.fnScope (sub 54 1), [("self" : Str), ("book" : Str), ("spans" : Str)], [("self" : Str), ("book" : Str), ("spans" : Str)]⟩
def i62 : Ev.FI := ⟨"size", "Book.size", C8.fnArgs (sub 32 2), C8.fnBody (sub 32 2), C8.fnScope (sub 32 2), [("self" : Str)], [("self" : Str)]⟩
def i63 : Ev.FI := ⟨"words", "Book.words", C8.fnArgs (sub 32 3), C8.fnBody (sub 32 3), C8.fnScope (sub 32 3), [("self" : Str)], [("self" : Str)]⟩
def i64 : Ev.FI := ⟨"grants", "Book.grants", C8.fnArgs (sub 32 4), C8.fnBody (sub 32 4), C8.fnScope (sub 32 4), [("self" : Str)], [("self" : Str)]⟩
def i65 : Ev.FI := ⟨"__len__", "Book.__len__", C8.fnArgs (sub 32 5), C8.fnBody (sub 32 5), C8.fnScope (sub 32 5), [("self" : Str)], [("self" : Str)]⟩
def i66 : Ev.FI := ⟨"__eq__", "Book.__eq__", C8.fnArgs (sub 32 6), C8.fnBody (sub 32 6), C8.fnScope (sub 32 6), [("self" : Str), ("other" : Str)], [("self" : Str), ("other" : Str)]⟩
def i67 : Ev.FI := ⟨"__str__", "Book.__str__", C8.fnArgs (sub 32 7), C8.fnBody (sub 32 7), C8.fnScope (sub 32 7), [("self" : Str)], [("self" : Str)]⟩
def i68 : Ev.FI := ⟨"book", "Dated.book", C8.fnArgs (sub 54 2), C8.fnBody (sub 54 2), C8.fnScope (sub 54 2), [("self" : Str)], [("self" : Str)]⟩
def i69 : Ev.FI := ⟨"spans", "Dated.spans", C8.fnArgs (sub 54 3), C8.fnBody (sub 54 3), C8.fnScope (sub 54 3), [("self" : Str)], [("self" : Str)]⟩
def i70 : Ev.FI := ⟨"__len__", "Dated.__len__", C8.fnArgs (sub 54 4), C8.fnBody (sub 54 4), C8.fnScope (sub 54 4), [("self" : Str)], [("self" : Str)]⟩
def i71 : Ev.FI := ⟨"__eq__", "Dated.__eq__", C8.fnArgs (sub 54 5), C8.fnBody (sub 54 5), C8.fnScope (sub 54 5), [("self" : Str), ("other" : Str)], [("self" : Str), ("other" : Str)]⟩
def i72 : Ev.FI := ⟨"__str__", "Dated.__str__", C8.fnArgs (sub 54 6), C8.fnBody (sub 54 6), C8.fnScope (sub 54 6), [("self" : Str)], [("self" : Str)]⟩
def ck : Ev.Ck := ⟨[(("Book" : Str), GE.cls 0),
    (("Dated" : Str), GE.cls 1),
    (("GREAT" : Str), GE.int 1000000000000000000000000000000000000000000000000000000000000),
    (("InvalidBook" : Str), GE.xc 0),
    (("InvalidChanges" : Str), GE.xc 6),
    (("InvalidGrant" : Str), GE.xc 8),
    (("InvalidNumber" : Str), GE.xc 2),
    (("InvalidOperation" : Str), GE.xc 4),
    (("InvalidSpans" : Str), GE.xc 3),
    (("InvalidTable" : Str), GE.xc 7),
    (("KINDS" : Str), GE.tus [("all" : Str), ("both" : Str), ("of" : Str), ("one" : Str), ("some" : Str)]),
    (("LETTERS" : Str), GE.str "abcdefghijklmnopqrstuvwxyz"),
    (("MAX_GRANTS" : Str), GE.int 60),
    (("MAX_HOUSES" : Str), GE.int 12),
    (("MAX_LETTERS" : Str), GE.int 8),
    (("MAX_ROLES" : Str), GE.int 6),
    (("MAX_WORDS" : Str), GE.int 6),
    (("MOST_HOUR" : Str), GE.int 100),
    (("OUT" : Str), GE.str "out"),
    (("Refused" : Str), GE.xc 5),
    (("TooMany" : Str), GE.xc 9),
    (("UnknownName" : Str), GE.xc 1),
    (("_law_all" : Str), GE.fn 56),
    (("_law_bag" : Str), GE.fn 51),
    (("_law_draw" : Str), GE.fn 52),
    (("_law_made_right" : Str), GE.fn 58),
    (("_law_met" : Str), GE.fn 55),
    (("_law_one_of" : Str), GE.fn 53),
    (("_law_right" : Str), GE.fn 57),
    (("always_in" : Str), GE.fn 48),
    (("are_some_roles" : Str), GE.fn 7),
    (("are_spans" : Str), GE.fn 26),
    (("are_words_in" : Str), GE.fn 3),
    (("bits_of" : Str), GE.fn 16),
    (("book_at" : Str), GE.fn 42),
    (("book_fault" : Str), GE.fn 9),
    (("book_in" : Str), GE.fn 28),
    (("change_hours" : Str), GE.fn 43),
    (("closing" : Str), GE.fn 23),
    (("closing_numbers" : Str), GE.fn 22),
    (("empty" : Str), GE.fn 19),
    (("end_from" : Str), GE.fn 33),
    (("ever_in" : Str), GE.fn 47),
    (("grants_from" : Str), GE.fn 27),
    (("hours_in" : Str), GE.fn 44),
    (("is_all_along" : Str), GE.fn 37),
    (("is_grant_in" : Str), GE.fn 8),
    (("is_hour_of" : Str), GE.fn 24),
    (("is_in_by" : Str), GE.fn 29),
    (("is_in_from" : Str), GE.fn 30),
    (("is_name" : Str), GE.fn 6),
    (("is_person_of" : Str), GE.fn 14),
    (("is_rising" : Str), GE.fn 2),
    (("is_role_in" : Str), GE.fn 5),
    (("is_role_of" : Str), GE.fn 12),
    (("is_span" : Str), GE.fn 25),
    (("is_whole" : Str), GE.fn 0),
    (("is_within" : Str), GE.fn 1),
    (("law" : Str), GE.fn 59),
    (("least_span" : Str), GE.fn 49),
    (("let_in" : Str), GE.fn 21),
    (("let_in_some" : Str), GE.fn 20),
    (("one_end" : Str), GE.fn 34),
    (("place_in" : Str), GE.fn 4),
    (("require_asked" : Str), GE.fn 40),
    (("require_at" : Str), GE.fn 41),
    (("require_book" : Str), GE.fn 11),
    (("require_dated" : Str), GE.fn 38),
    (("require_hour" : Str), GE.fn 39),
    (("require_person" : Str), GE.fn 15),
    (("require_role" : Str), GE.fn 13),
    (("row_of" : Str), GE.fn 17),
    (("spans_needed" : Str), GE.fn 50),
    (("stretches" : Str), GE.fn 32),
    (("table_of" : Str), GE.fn 18),
    (("tables_at" : Str), GE.fn 35),
    (("turning_hours" : Str), GE.fn 31),
    (("until" : Str), GE.fn 45),
    (("until_by_one" : Str), GE.fn 46),
    (("with_grants" : Str), GE.fn 10),
    (("with_other" : Str), GE.fn 36)], [("abs" : Str), ("all" : Str), ("any" : Str), ("bool" : Str), ("enumerate" : Str), ("int" : Str), ("isinstance" : Str), ("len" : Str), ("list" : Str), ("max" : Str), ("min" : Str), ("range" : Str), ("repr" : Str), ("sorted" : Str), ("str" : Str), ("sum" : Str), ("tuple" : Str), ("zip" : Str)], [[("own_grants" : Str), ("own_size" : Str), ("own_words" : Str)], [("own_book" : Str), ("own_spans" : Str)]],
    [none, some ("wanted" : Str), some ("given" : Str), none, none, some ("reason" : Str), none, none, none, some ("limit" : Str)], [(55, i55)], [("_law_all" : Str), ("_law_right" : Str), ("_law_made_right" : Str), ("law" : Str)], [((.get "size"), 0, 62), ((.get "words"), 0, 63), ((.get "grants"), 0, 64), (.len, 0, 65), (.eq, 0, 66), (.ne, 0, 66), (.str, 0, 67), ((.get "book"), 1, 68), ((.get "spans"), 1, 69), (.len, 1, 70), (.eq, 1, 71), (.ne, 1, 71), (.str, 1, 72)], false⟩
def x1 : Ev.XD := ⟨.lkp, "__init__", "UnknownName.__init__", "self", "wanted", C8.fnArgs (sub 9 0), C8.fnBody (sub 9 0), C8.fnScope (sub 9 0)⟩
theorem xb1 : x1.bind := fun _ _ _ _ _ _ _ _ _ => rfl
theorem xs1 : x1.stB ("wanted" : Str) = true := by decide +kernel
def x2 : Ev.XD := ⟨.idx, "__init__", "InvalidNumber.__init__", "self", "given", C8.fnArgs (sub 8 0), C8.fnBody (sub 8 0), C8.fnScope (sub 8 0)⟩
theorem xb2 : x2.bind := fun _ _ _ _ _ _ _ _ _ => rfl
theorem xs2 : x2.stB ("given" : Str) = true := by decide +kernel
def x5 : Ev.XD := ⟨.ari, "__init__", "Refused.__init__", "self", "reason", C8.fnArgs (sub 11 0), C8.fnBody (sub 11 0), C8.fnScope (sub 11 0)⟩
theorem xb5 : x5.bind := fun _ _ _ _ _ _ _ _ _ => rfl
theorem xs5 : x5.stB ("reason" : Str) = true := by decide +kernel
def x9 : Ev.XD := ⟨.ovf, "__init__", "TooMany.__init__", "self", "limit", C8.fnArgs (sub 10 0), C8.fnBody (sub 10 0), C8.fnScope (sub 10 0)⟩
theorem xb9 : x9.bind := fun _ _ _ _ _ _ _ _ _ => rfl
theorem xs9 : x9.stB ("limit" : Str) = true := by decide +kernel
def pr : Ev.Prog := ⟨[f0, f1, f2, f3, f4, f5, f6, f7, f8, f9, f10, f11, f12, f13, f14, f15, f16, f17, f18, f19, f20, f21, f22, f23, f24, f25, f26, f27, f28, f29, f30, f31, f32, f33, f34, f35, f36, f37, f38, f39, f40, f41, f42, f43, f44, f45, f46, f47, f48, f49, f50, f51, f52, f53, f54, f55, f56, f57, f58, f59, f60, f61, f62, f63, f64, f65, f66, f67, f68, f69, f70, f71, f72], [(60, 3), (61, 2)], 4000⟩
def pd : Ev.PD := ⟨[i0, i1, i2, i3, i4, i5, i6, i7, i8, i9, i10, i11, i12, i13, i14, i15, i16, i17, i18, i19, i20, i21, i22, i23, i24, i25, i26, i27, i28, i29, i30, i31, i32, i33, i34, i35, i36, i37, i38, i39, i40, i41, i42, i43, i44, i45, i46, i47, i48, i49, i50, i51, i52, i53, i54, i55, i56, i57, i58, i59, i60, i61, i62, i63, i64, i65, i66, i67, i68, i69, i70, i71, i72], [.g ("is_whole" : Str), .g ("is_within" : Str), .g ("is_rising" : Str), .g ("are_words_in" : Str), .g ("place_in" : Str), .g ("is_role_in" : Str), .g ("is_name" : Str), .g ("are_some_roles" : Str), .g ("is_grant_in" : Str), .g ("book_fault" : Str), .g ("with_grants" : Str), .g ("require_book" : Str), .g ("is_role_of" : Str), .g ("require_role" : Str), .g ("is_person_of" : Str), .g ("require_person" : Str), .g ("bits_of" : Str), .g ("row_of" : Str), .g ("table_of" : Str), .g ("empty" : Str), .g ("let_in_some" : Str), .g ("let_in" : Str), .g ("closing_numbers" : Str), .g ("closing" : Str), .g ("is_hour_of" : Str), .g ("is_span" : Str), .g ("are_spans" : Str), .g ("grants_from" : Str), .g ("book_in" : Str), .g ("is_in_by" : Str), .g ("is_in_from" : Str), .g ("turning_hours" : Str), .g ("stretches" : Str), .g ("end_from" : Str), .g ("one_end" : Str), .g ("tables_at" : Str), .g ("with_other" : Str), .g ("is_all_along" : Str), .g ("require_dated" : Str), .g ("require_hour" : Str), .g ("require_asked" : Str), .g ("require_at" : Str), .g ("book_at" : Str), .g ("change_hours" : Str), .g ("hours_in" : Str), .g ("until" : Str), .g ("until_by_one" : Str), .g ("ever_in" : Str), .g ("always_in" : Str), .g ("least_span" : Str), .g ("spans_needed" : Str), .g ("_law_bag" : Str), .g ("_law_draw" : Str), .g ("_law_one_of" : Str), .g ("_law_mixed" : Str), .g ("_law_met" : Str), .g ("_law_all" : Str), .g ("_law_right" : Str), .g ("_law_made_right" : Str), .g ("law" : Str), .m ("Book" : Str) ("__init__" : Str), .m ("Dated" : Str) ("__init__" : Str), .p ("Book" : Str) ("size" : Str), .p ("Book" : Str) ("words" : Str), .p ("Book" : Str) ("grants" : Str), .m ("Book" : Str) ("__len__" : Str), .m ("Book" : Str) ("__eq__" : Str), .m ("Book" : Str) ("__str__" : Str), .p ("Dated" : Str) ("book" : Str), .p ("Dated" : Str) ("spans" : Str), .m ("Dated" : Str) ("__len__" : Str), .m ("Dated" : Str) ("__eq__" : Str), .m ("Dated" : Str) ("__str__" : Str)], pr, ck, [("Book" : Str), ("Dated" : Str)], [(("InvalidBook" : Str), none), (("UnknownName" : Str), some (("wanted" : Str), x1)), (("InvalidNumber" : Str), some (("given" : Str), x2)), (("InvalidSpans" : Str), none), (("InvalidOperation" : Str), none), (("Refused" : Str), some (("reason" : Str), x5)), (("InvalidChanges" : Str), none), (("InvalidTable" : Str), none), (("InvalidGrant" : Str), none), (("TooMany" : Str), some (("limit" : Str), x9))], PySem.Challenge.pw_letinprice_k49_errors_of_hours.main.file⟩
end K49a
end

section
set_option Elab.async false
set_option linter.all false
set_option maxRecDepth 100000
set_option maxHeartbeats 0
namespace K49a
open PySem PySem.Spec PyProof.Rows L2 Ev
def loose0 : List PySem.Str := [("GrantError" : PySem.Str), ("InvalidBook" : PySem.Str), ("InvalidGrant" : PySem.Str), ("InvalidChanges" : PySem.Str), ("InvalidSpans" : PySem.Str), ("InvalidTable" : PySem.Str), ("InvalidOperation" : PySem.Str), ("InvalidNumber" : PySem.Str), ("UnknownName" : PySem.Str), ("TooMany" : PySem.Str), ("Refused" : PySem.Str), ("MAX_LETTERS" : PySem.Str), ("MAX_WORDS" : PySem.Str), ("GREAT" : PySem.Str), ("LETTERS" : PySem.Str), ("is_whole" : PySem.Str), ("is_within" : PySem.Str), ("is_rising" : PySem.Str), ("are_words_in" : PySem.Str), ("place_in" : PySem.Str), ("is_role_in" : PySem.Str), ("is_name" : PySem.Str), ("MAX_HOUSES" : PySem.Str), ("MAX_GRANTS" : PySem.Str), ("MAX_ROLES" : PySem.Str), ("KINDS" : PySem.Str), ("are_some_roles" : PySem.Str), ("is_grant_in" : PySem.Str), ("book_fault" : PySem.Str), ("Book" : PySem.Str)]
def loose1 : List PySem.Str := [("with_grants" : PySem.Str), ("require_book" : PySem.Str), ("is_role_of" : PySem.Str), ("require_role" : PySem.Str), ("is_person_of" : PySem.Str), ("require_person" : PySem.Str), ("bits_of" : PySem.Str), ("row_of" : PySem.Str), ("table_of" : PySem.Str), ("empty" : PySem.Str), ("let_in_some" : PySem.Str), ("let_in" : PySem.Str), ("closing_numbers" : PySem.Str), ("closing" : PySem.Str), ("MOST_HOUR" : PySem.Str), ("OUT" : PySem.Str), ("is_hour_of" : PySem.Str), ("is_span" : PySem.Str), ("are_spans" : PySem.Str), ("Dated" : PySem.Str), ("grants_from" : PySem.Str), ("book_in" : PySem.Str), ("is_in_by" : PySem.Str), ("is_in_from" : PySem.Str), ("turning_hours" : PySem.Str), ("stretches" : PySem.Str), ("end_from" : PySem.Str), ("one_end" : PySem.Str), ("tables_at" : PySem.Str), ("with_other" : PySem.Str)]
def loose2 : List PySem.Str := [("is_all_along" : PySem.Str), ("require_dated" : PySem.Str), ("require_hour" : PySem.Str), ("require_asked" : PySem.Str), ("require_at" : PySem.Str), ("book_at" : PySem.Str), ("change_hours" : PySem.Str), ("hours_in" : PySem.Str), ("until" : PySem.Str), ("until_by_one" : PySem.Str), ("ever_in" : PySem.Str), ("always_in" : PySem.Str), ("least_span" : PySem.Str), ("spans_needed" : PySem.Str), ("_law_bag" : PySem.Str), ("_law_draw" : PySem.Str), ("_law_one_of" : PySem.Str), ("_law_mixed" : PySem.Str), ("_law_met" : PySem.Str)]
def loose : List PySem.Str := loose0 ++ loose1 ++ loose2
abbrev R : PySem.W.OpenRow := PySem.W.OpenLaw.row PySem.Challenge.rw_letinprice_k49_errors_of_hours
/-- every object below 900 but the empty tables -/
def obR (g : Addr → Option Obj) : AlE := obsE pd (He.frG g (([mainGlobals, cStatics] ++ (List.range 900).reverse).filter fun a => !isTab (g a)))
def hk : PySem.W.Hook where
  α := AlE
  obs := fun s => obR s.heap.get?
  val := fun _ => valE pd
  says := fun _ h => ∃ K : PySem.W.Frag, K.In h ∧ obsE pd K = valE pd
  of := fun _ _ e => ⟨_, He.frG_in, e⟩
  keeps := fun _ _ _ ⟨K, hK, c⟩ k => ⟨K, PySem.W.Frag.In.keeps hK k, c⟩
noncomputable def ob (s : PySem.W.SharedT) : AlE := obR (HandSHeadRun.getT s)
theorem ob_eq (s : PySem.W.SharedT) : ob s = hk.obs s.abs := by
  show obR (HandSHeadRun.getT s) = obR s.abs.heap.get?
  rw [show HandSHeadRun.getT s = s.abs.heap.get? from funext (HandSHeadRun.getT_eq s)]
noncomputable abbrev E0 (w : World) (os : OsState) : Option PySem.W.SharedT := HandSHeadRun.endF (HandSHeadRun.stepQ (HandSHeadRun.denQ HandSHeadRun.tabQ) R.prog w) 6000 R.prog w os
noncomputable abbrev V0 : Program := PySem.W.view R.prog [85, 86, 87, 88]
theorem map2 {α β γ : Type} {e : Option α} {f : α → β} {g : α → γ} {x : β} {y : γ} (h1 : e.map f = some x) (h2 : e.map g = some y) : e.map (fun s => (f s, g s)) = some (x, y) := by
  cases e with
  | none => cases h1
  | some s => cases h1; cases h2; rfl
theorem run1 (w : World) (os : OsState) : (E0 w os).map (fun s => HandSHeadRun.looksF R.prog (PySem.W.boot_heap w.params) s.abs) = some true := by kernel_rfl
theorem run2 (w : World) (os : OsState) : (E0 w os).map (fun s => HandSHeadRun.seenQ V0 loose (importedModules R.prog.main.body) (fun s => PySem.W.xlAt V0 [] s && PySem.W.recOk R.toRowW.records s) s.abs) = some (PySem.W.openGood V0 loose) := by kernel_rfl
noncomputable abbrev KR (s : PySem.W.SharedT) : PySem.W.Frag := He.frG (HandSHeadRun.getT s) (([mainGlobals, cStatics] ++ (List.range 900).reverse).filter fun a => !isTab (HandSHeadRun.getT s a))
theorem map_and {α : Type} {e : Option α} {f g : α → Bool} (h1 : e.map f = some true) (h2 : e.map g = some true) : e.map (fun s => f s && g s) = some true := by
  cases e with
  | none => cases h1
  | some s =>
    have q1 : f s = true := Option.some.inj h1
    have q2 : g s = true := Option.some.inj h2
    show some (f s && g s) = some true
    rw [q1, q2]; rfl
theorem run3a (w : World) (os : OsState) : (E0 w os).map (fun s => pd.exB (KR s)) = some true := by kernel_rfl
theorem run3b (w : World) (os : OsState) : (E0 w os).map (fun s => (pd.fn.take 50).all fun p => defB (KR s) (p.2.at_ (KR s)) p.1) = some true := by kernel_rfl
theorem run3c (w : World) (os : OsState) : (E0 w os).map (fun s => (pd.fn.drop 50).all fun p => defB (KR s) (p.2.at_ (KR s)) p.1) = some true := by kernel_rfl
theorem run3 (w : World) (os : OsState) : (E0 w os).map (fun s => (ob s).1) = some true := by
  have h := map_and (run3a w os) (map_and (run3b w os) (run3c w os))
  have e : (fun s => (ob s).1) = fun s => pd.exB (KR s) && (((pd.fn.take 50).all fun p => defB (KR s) (p.2.at_ (KR s)) p.1) && ((pd.fn.drop 50).all fun p => defB (KR s) (p.2.at_ (KR s)) p.1)) := funext fun s => by
    rw [← List.all_append, List.take_append_drop]
    rfl
  rw [e]
  exact h
theorem map_app {α β : Type} {e : Option α} {f g : α → List β} {x y : List β} (h1 : e.map f = some x) (h2 : e.map g = some y) : e.map (fun s => f s ++ g s) = some (x ++ y) := by
  cases e with
  | none => cases h1
  | some s => cases h1; cases h2; rfl
theorem run4a (w : World) (os : OsState) : (E0 w os).map (fun s => (pd.fn.take 50).map fun p => defA (KR s) (p.2.at_ (KR s))) = some ((pd.fn.take 50).map fun p => p.1.val) := by kernel_rfl
theorem run4b (w : World) (os : OsState) : (E0 w os).map (fun s => (pd.fn.drop 50).map fun p => defA (KR s) (p.2.at_ (KR s))) = some ((pd.fn.drop 50).map fun p => p.1.val) := by kernel_rfl
theorem run4 (w : World) (os : OsState) : (E0 w os).map (fun s => (ob s).2.1) = some (valE pd).2.1 := by
  have h := map_app (run4a w os) (run4b w os)
  have e : (fun s => (ob s).2.1) = fun s => ((pd.fn.take 50).map fun p => defA (KR s) (p.2.at_ (KR s))) ++ ((pd.fn.drop 50).map fun p => defA (KR s) (p.2.at_ (KR s))) := funext fun s => by
    rw [← List.map_append, List.take_append_drop]
    rfl
  have e2 : (valE pd).2.1 = ((pd.fn.take 50).map fun p => p.1.val) ++ ((pd.fn.drop 50).map fun p => p.1.val) := by
    rw [← List.map_append, List.take_append_drop]
    rfl
  rw [e, e2]
  exact h
theorem run5 (w : World) (os : OsState) : (E0 w os).map (fun s => (ob s).2.2) = some (valE pd).2.2 := by kernel_rfl
theorem run (w : World) : HandSHeadRun.RunEq R V0 hk ob 6000 loose w := fun os => map2 (run1 w os) (map2 (run2 w os) (map2 (run3 w os) (map2 (run4 w os) (run5 w os))))
end K49a
end

section
set_option Elab.async false
set_option linter.all false
set_option maxRecDepth 100000
set_option maxHeartbeats 0
namespace K49a
open PySem PySem.Spec PyProof.Rows L2 Ev
theorem b0 : Bn i0 := fun _ _ _ _ _ _ us hl => match us, hl with | [_], _ => rfl
theorem b1 : Bn i1 := fun _ _ _ _ _ _ us hl => match us, hl with | [_, _, _], _ => rfl
theorem b2 : Bn i2 := fun _ _ _ _ _ _ us hl => match us, hl with | [_], _ => rfl
theorem b3 : Bn i3 := fun _ _ _ _ _ _ us hl => match us, hl with | [_], _ => rfl
theorem b4 : Bn i4 := fun _ _ _ _ _ _ us hl => match us, hl with | [_, _], _ => rfl
theorem b5 : Bn i5 := fun _ _ _ _ _ _ us hl => match us, hl with | [_, _, _], _ => rfl
theorem b6 : Bn i6 := fun _ _ _ _ _ _ us hl => match us, hl with | [_], _ => rfl
theorem b7 : Bn i7 := fun _ _ _ _ _ _ us hl => match us, hl with | [_, _, _, _], _ => rfl
theorem b8 : Bn i8 := fun _ _ _ _ _ _ us hl => match us, hl with | [_, _, _], _ => rfl
theorem b9 : Bn i9 := fun _ _ _ _ _ _ us hl => match us, hl with | [_, _, _], _ => rfl
theorem b10 : Bn i10 := fun _ _ _ _ _ _ us hl => match us, hl with | [_, _], _ => rfl
theorem b11 : Bn i11 := fun _ _ _ _ _ _ us hl => match us, hl with | [_], _ => rfl
theorem b12 : Bn i12 := fun _ _ _ _ _ _ us hl => match us, hl with | [_, _], _ => rfl
theorem b13 : Bn i13 := fun _ _ _ _ _ _ us hl => match us, hl with | [_, _], _ => rfl
theorem b14 : Bn i14 := fun _ _ _ _ _ _ us hl => match us, hl with | [_, _], _ => rfl
theorem b15 : Bn i15 := fun _ _ _ _ _ _ us hl => match us, hl with | [_, _], _ => rfl
theorem b16 : Bn i16 := fun _ _ _ _ _ _ us hl => match us, hl with | [_], _ => rfl
theorem b17 : Bn i17 := fun _ _ _ _ _ _ us hl => match us, hl with | [_, _], _ => rfl
theorem b18 : Bn i18 := fun _ _ _ _ _ _ us hl => match us, hl with | [_, _], _ => rfl
theorem b19 : Bn i19 := fun _ _ _ _ _ _ us hl => match us, hl with | [_, _], _ => rfl
theorem b20 : Bn i20 := fun _ _ _ _ _ _ us hl => match us, hl with | [_, _, _, _], _ => rfl
theorem b21 : Bn i21 := fun _ _ _ _ _ _ us hl => match us, hl with | [_, _, _, _], _ => rfl
theorem b22 : Bn i22 := fun _ _ _ _ _ _ us hl => match us, hl with | [_, _, _, _], _ => rfl
theorem b23 : Bn i23 := fun _ _ _ _ _ _ us hl => match us, hl with | [_, _, _, _], _ => rfl
theorem b24 : Bn i24 := fun _ _ _ _ _ _ us hl => match us, hl with | [_], _ => rfl
theorem b25 : Bn i25 := fun _ _ _ _ _ _ us hl => match us, hl with | [_], _ => rfl
theorem b26 : Bn i26 := fun _ _ _ _ _ _ us hl => match us, hl with | [_, _], _ => rfl
theorem b27 : Bn i27 := fun _ _ _ _ _ _ us hl => match us, hl with | [_, _, _], _ => rfl
theorem b28 : Bn i28 := fun _ _ _ _ _ _ us hl => match us, hl with | [_, _], _ => rfl
theorem b29 : Bn i29 := fun _ _ _ _ _ _ us hl => match us, hl with | [_, _, _, _], _ => rfl
theorem b30 : Bn i30 := fun _ _ _ _ _ _ us hl => match us, hl with | [_, _, _, _], _ => rfl
theorem b31 : Bn i31 := fun _ _ _ _ _ _ us hl => match us, hl with | [_], _ => rfl
theorem b32 : Bn i32 := fun _ _ _ _ _ _ us hl => match us, hl with | [_, _], _ => rfl
theorem b33 : Bn i33 := fun _ _ _ _ _ _ us hl => match us, hl with | [_, _, _], _ => rfl
theorem b34 : Bn i34 := fun _ _ _ _ _ _ us hl => match us, hl with | [_, _, _], _ => rfl
theorem b35 : Bn i35 := fun _ _ _ _ _ _ us hl => match us, hl with | [_], _ => rfl
theorem b36 : Bn i36 := fun _ _ _ _ _ _ us hl => match us, hl with | [_, _, _, _], _ => rfl
theorem b37 : Bn i37 := fun _ _ _ _ _ _ us hl => match us, hl with | [_, _, _, _, _], _ => rfl
theorem b38 : Bn i38 := fun _ _ _ _ _ _ us hl => match us, hl with | [_], _ => rfl
theorem b39 : Bn i39 := fun _ _ _ _ _ _ us hl => match us, hl with | [_], _ => rfl
theorem b40 : Bn i40 := fun _ _ _ _ _ _ us hl => match us, hl with | [_, _, _], _ => rfl
theorem b41 : Bn i41 := fun _ _ _ _ _ _ us hl => match us, hl with | [_, _, _, _], _ => rfl
theorem b42 : Bn i42 := fun _ _ _ _ _ _ us hl => match us, hl with | [_, _], _ => rfl
theorem b43 : Bn i43 := fun _ _ _ _ _ _ us hl => match us, hl with | [_], _ => rfl
theorem b44 : Bn i44 := fun _ _ _ _ _ _ us hl => match us, hl with | [_, _, _], _ => rfl
theorem b45 : Bn i45 := fun _ _ _ _ _ _ us hl => match us, hl with | [_, _, _, _], _ => rfl
theorem b46 : Bn i46 := fun _ _ _ _ _ _ us hl => match us, hl with | [_, _, _, _], _ => rfl
theorem b47 : Bn i47 := fun _ _ _ _ _ _ us hl => match us, hl with | [_, _], _ => rfl
theorem b48 : Bn i48 := fun _ _ _ _ _ _ us hl => match us, hl with | [_, _], _ => rfl
theorem b49 : Bn i49 := fun _ _ _ _ _ _ us hl => match us, hl with | [_, _, _, _, _, _], _ => rfl
theorem b50 : Bn i50 := fun _ _ _ _ _ _ us hl => match us, hl with | [_, _, _, _, _], _ => rfl
theorem b51 : Bn i51 := fun _ _ _ _ _ _ us hl => match us, hl with | [_, _], _ => rfl
theorem b52 : Bn i52 := fun _ _ _ _ _ _ us hl => match us, hl with | [_, _], _ => rfl
theorem b53 : Bn i53 := fun _ _ _ _ _ _ us hl => match us, hl with | [_, _], _ => rfl
theorem b54 : Bn i54 := fun _ _ _ _ _ _ us hl => match us, hl with | [_, _], _ => rfl
theorem b55 : Bn i55 := fun _ _ _ _ _ _ us hl => match us, hl with | [_], _ => rfl
theorem b56 : Bn i56 := fun _ _ _ _ _ _ us hl => match us, hl with | [_, _, _, _, _], _ => rfl
theorem b57 : Bn i57 := fun _ _ _ _ _ _ us hl => match us, hl with | [_, _], _ => rfl
theorem b58 : Bn i58 := fun _ _ _ _ _ _ us hl => match us, hl with | [_], _ => rfl
theorem b59 : Bn i59 := fun _ _ _ _ _ _ us hl => match us, hl with | [_], _ => rfl
theorem b60 : Bn i60 := fun _ _ _ _ _ _ us hl => match us, hl with | [_, _, _, _], _ => rfl
theorem b61 : Bn i61 := fun _ _ _ _ _ _ us hl => match us, hl with | [_, _, _], _ => rfl
theorem b62 : Bn i62 := fun _ _ _ _ _ _ us hl => match us, hl with | [_], _ => rfl
theorem b63 : Bn i63 := fun _ _ _ _ _ _ us hl => match us, hl with | [_], _ => rfl
theorem b64 : Bn i64 := fun _ _ _ _ _ _ us hl => match us, hl with | [_], _ => rfl
theorem b65 : Bn i65 := fun _ _ _ _ _ _ us hl => match us, hl with | [_], _ => rfl
theorem b66 : Bn i66 := fun _ _ _ _ _ _ us hl => match us, hl with | [_, _], _ => rfl
theorem b67 : Bn i67 := fun _ _ _ _ _ _ us hl => match us, hl with | [_], _ => rfl
theorem b68 : Bn i68 := fun _ _ _ _ _ _ us hl => match us, hl with | [_], _ => rfl
theorem b69 : Bn i69 := fun _ _ _ _ _ _ us hl => match us, hl with | [_], _ => rfl
theorem b70 : Bn i70 := fun _ _ _ _ _ _ us hl => match us, hl with | [_], _ => rfl
theorem b71 : Bn i71 := fun _ _ _ _ _ _ us hl => match us, hl with | [_, _], _ => rfl
theorem b72 : Bn i72 := fun _ _ _ _ _ _ us hl => match us, hl with | [_], _ => rfl
theorem k0 : okFn ck i0 f0 = true := by decide +kernel
theorem k1 : okFn ck i1 f1 = true := by decide +kernel
theorem k2 : okFn ck i2 f2 = true := by decide +kernel
theorem k3 : okFn ck i3 f3 = true := by decide +kernel
theorem k4 : okFn ck i4 f4 = true := by decide +kernel
theorem k5 : okFn ck i5 f5 = true := by decide +kernel
theorem k6 : okFn ck i6 f6 = true := by decide +kernel
theorem k7 : okFn ck i7 f7 = true := by decide +kernel
theorem k8 : okFn ck i8 f8 = true := by decide +kernel
theorem k9 : okFn ck i9 f9 = true := by decide +kernel
theorem k10 : okFn ck i10 f10 = true := by decide +kernel
theorem k11 : okFn ck i11 f11 = true := by decide +kernel
theorem k12 : okFn ck i12 f12 = true := by decide +kernel
theorem k13 : okFn ck i13 f13 = true := by decide +kernel
theorem k14 : okFn ck i14 f14 = true := by decide +kernel
theorem k15 : okFn ck i15 f15 = true := by decide +kernel
theorem k16 : okFn ck i16 f16 = true := by decide +kernel
theorem k17 : okFn ck i17 f17 = true := by decide +kernel
theorem k18 : okFn ck i18 f18 = true := by decide +kernel
theorem k19 : okFn ck i19 f19 = true := by decide +kernel
theorem k20 : okFn ck i20 f20 = true := by decide +kernel
theorem k21 : okFn ck i21 f21 = true := by decide +kernel
theorem k22 : okFn ck i22 f22 = true := by decide +kernel
theorem k23 : okFn ck i23 f23 = true := by decide +kernel
theorem k24 : okFn ck i24 f24 = true := by decide +kernel
theorem k25 : okFn ck i25 f25 = true := by decide +kernel
theorem k26 : okFn ck i26 f26 = true := by decide +kernel
theorem k27 : okFn ck i27 f27 = true := by decide +kernel
theorem k28 : okFn ck i28 f28 = true := by decide +kernel
theorem k29 : okFn ck i29 f29 = true := by decide +kernel
theorem k30 : okFn ck i30 f30 = true := by decide +kernel
theorem k31 : okFn ck i31 f31 = true := by decide +kernel
theorem k32 : okFn ck i32 f32 = true := by decide +kernel
theorem k33 : okFn ck i33 f33 = true := by decide +kernel
theorem k34 : okFn ck i34 f34 = true := by decide +kernel
theorem k35 : okFn ck i35 f35 = true := by decide +kernel
theorem k36 : okFn ck i36 f36 = true := by decide +kernel
theorem k37 : okFn ck i37 f37 = true := by decide +kernel
theorem k38 : okFn ck i38 f38 = true := by decide +kernel
theorem k39 : okFn ck i39 f39 = true := by decide +kernel
theorem k40 : okFn ck i40 f40 = true := by decide +kernel
theorem k41 : okFn ck i41 f41 = true := by decide +kernel
theorem k42 : okFn ck i42 f42 = true := by decide +kernel
theorem k43 : okFn ck i43 f43 = true := by decide +kernel
theorem k44 : okFn ck i44 f44 = true := by decide +kernel
theorem k45 : okFn ck i45 f45 = true := by decide +kernel
theorem k46 : okFn ck i46 f46 = true := by decide +kernel
theorem k47 : okFn ck i47 f47 = true := by decide +kernel
theorem k48 : okFn ck i48 f48 = true := by decide +kernel
theorem k49 : okFn ck i49 f49 = true := by decide +kernel
theorem k50 : okFn ck i50 f50 = true := by decide +kernel
theorem k51 : okFn ck i51 f51 = true := by decide +kernel
theorem k52 : okFn ck i52 f52 = true := by decide +kernel
theorem k53 : okFn ck i53 f53 = true := by decide +kernel
theorem k54 : okFn ck i54 f54 = true := by decide +kernel
theorem k55 : okFn ck i55 f55 = true := by decide +kernel
theorem k56 : okFn ck i56 f56 = true := by decide +kernel
theorem k57 : okFn ck i57 f57 = true := by decide +kernel
theorem k58 : okFn ck i58 f58 = true := by decide +kernel
theorem k59 : okFn ck i59 f59 = true := by decide +kernel
theorem k60 : okFn ck i60 f60 = true := by decide +kernel
theorem k61 : okFn ck i61 f61 = true := by decide +kernel
theorem k62 : okFn ck i62 f62 = true := by decide +kernel
theorem k63 : okFn ck i63 f63 = true := by decide +kernel
theorem k64 : okFn ck i64 f64 = true := by decide +kernel
theorem k65 : okFn ck i65 f65 = true := by decide +kernel
theorem k66 : okFn ck i66 f66 = true := by decide +kernel
theorem k67 : okFn ck i67 f67 = true := by decide +kernel
theorem k68 : okFn ck i68 f68 = true := by decide +kernel
theorem k69 : okFn ck i69 f69 = true := by decide +kernel
theorem k70 : okFn ck i70 f70 = true := by decide +kernel
theorem k71 : okFn ck i71 f71 = true := by decide +kernel
theorem k72 : okFn ck i72 f72 = true := by decide +kernel
theorem okf : okFns ck pd.fis pr.fns = true := by
  show okFns ck [i0, i1, i2, i3, i4, i5, i6, i7, i8, i9, i10, i11, i12, i13, i14, i15, i16, i17, i18, i19, i20, i21, i22, i23, i24, i25, i26, i27, i28, i29, i30, i31, i32, i33, i34, i35, i36, i37, i38, i39, i40, i41, i42, i43, i44, i45, i46, i47, i48, i49, i50, i51, i52, i53, i54, i55, i56, i57, i58, i59, i60, i61, i62, i63, i64, i65, i66, i67, i68, i69, i70, i71, i72] [f0, f1, f2, f3, f4, f5, f6, f7, f8, f9, f10, f11, f12, f13, f14, f15, f16, f17, f18, f19, f20, f21, f22, f23, f24, f25, f26, f27, f28, f29, f30, f31, f32, f33, f34, f35, f36, f37, f38, f39, f40, f41, f42, f43, f44, f45, f46, f47, f48, f49, f50, f51, f52, f53, f54, f55, f56, f57, f58, f59, f60, f61, f62, f63, f64, f65, f66, f67, f68, f69, f70, f71, f72] = true
  simp only [okFns, k0, k1, k2, k3, k4, k5, k6, k7, k8, k9, k10, k11, k12, k13, k14, k15, k16, k17, k18, k19, k20, k21, k22, k23, k24, k25, k26, k27, k28, k29, k30, k31, k32, k33, k34, k35, k36, k37, k38, k39, k40, k41, k42, k43, k44, k45, k46, k47, k48, k49, k50, k51, k52, k53, k54, k55, k56, k57, k58, k59, k60, k61, k62, k63, k64, k65, k66, k67, k68, k69, k70, k71, k72, Bool.and_self]
theorem pd_bn : ∀ (f : Nat) (fi : FI), pd.fis[f]? = some fi → Bn fi := fun f fi h => by
  match f, h with
  | 0, h => cases h; exact b0
  | 1, h => cases h; exact b1
  | 2, h => cases h; exact b2
  | 3, h => cases h; exact b3
  | 4, h => cases h; exact b4
  | 5, h => cases h; exact b5
  | 6, h => cases h; exact b6
  | 7, h => cases h; exact b7
  | 8, h => cases h; exact b8
  | 9, h => cases h; exact b9
  | 10, h => cases h; exact b10
  | 11, h => cases h; exact b11
  | 12, h => cases h; exact b12
  | 13, h => cases h; exact b13
  | 14, h => cases h; exact b14
  | 15, h => cases h; exact b15
  | 16, h => cases h; exact b16
  | 17, h => cases h; exact b17
  | 18, h => cases h; exact b18
  | 19, h => cases h; exact b19
  | 20, h => cases h; exact b20
  | 21, h => cases h; exact b21
  | 22, h => cases h; exact b22
  | 23, h => cases h; exact b23
  | 24, h => cases h; exact b24
  | 25, h => cases h; exact b25
  | 26, h => cases h; exact b26
  | 27, h => cases h; exact b27
  | 28, h => cases h; exact b28
  | 29, h => cases h; exact b29
  | 30, h => cases h; exact b30
  | 31, h => cases h; exact b31
  | 32, h => cases h; exact b32
  | 33, h => cases h; exact b33
  | 34, h => cases h; exact b34
  | 35, h => cases h; exact b35
  | 36, h => cases h; exact b36
  | 37, h => cases h; exact b37
  | 38, h => cases h; exact b38
  | 39, h => cases h; exact b39
  | 40, h => cases h; exact b40
  | 41, h => cases h; exact b41
  | 42, h => cases h; exact b42
  | 43, h => cases h; exact b43
  | 44, h => cases h; exact b44
  | 45, h => cases h; exact b45
  | 46, h => cases h; exact b46
  | 47, h => cases h; exact b47
  | 48, h => cases h; exact b48
  | 49, h => cases h; exact b49
  | 50, h => cases h; exact b50
  | 51, h => cases h; exact b51
  | 52, h => cases h; exact b52
  | 53, h => cases h; exact b53
  | 54, h => cases h; exact b54
  | 55, h => cases h; exact b55
  | 56, h => cases h; exact b56
  | 57, h => cases h; exact b57
  | 58, h => cases h; exact b58
  | 59, h => cases h; exact b59
  | 60, h => cases h; exact b60
  | 61, h => cases h; exact b61
  | 62, h => cases h; exact b62
  | 63, h => cases h; exact b63
  | 64, h => cases h; exact b64
  | 65, h => cases h; exact b65
  | 66, h => cases h; exact b66
  | 67, h => cases h; exact b67
  | 68, h => cases h; exact b68
  | 69, h => cases h; exact b69
  | 70, h => cases h; exact b70
  | 71, h => cases h; exact b71
  | 72, h => cases h; exact b72
  | n + 73, h => simp [pd] at h
theorem pd_xb : ∀ (c : Nat) (x f : Str) (d : XD), pd.xs[c]? = some (x, some (f, d)) → d.bind ∧ d.stB f = true := fun c x f d h => by
  match c, h with
  | 0, h => cases h
  | 1, h => cases h; exact ⟨xb1, xs1⟩
  | 2, h => cases h; exact ⟨xb2, xs2⟩
  | 3, h => cases h
  | 4, h => cases h
  | 5, h => cases h; exact ⟨xb5, xs5⟩
  | 6, h => cases h
  | 7, h => cases h
  | 8, h => cases h
  | 9, h => cases h; exact ⟨xb9, xs9⟩
  | n + 10, h => simp [pd] at h
theorem pd_md : ∀ (i : Nat) (fi : FI), ck.md.lookup i = some fi → pd.fis[i]? = some fi := fun i fi h => by
  unfold ck at h
  simp only at h
  rw [List.lookup_cons] at h
  split at h
  · rename_i e; cases h; rw [eq_of_beq e]; rfl
  cases h
theorem pd_ga : ∀ (f : Nat) (fi : FI), pd.fis[f]? = some fi → fi.qual ∈ pd.C.lams → pd.ats[f]? = some (.g fi.qual) := fun f fi h m => by
  match f, h with
  | 0, h => cases h; rfl
  | 1, h => cases h; rfl
  | 2, h => cases h; rfl
  | 3, h => cases h; rfl
  | 4, h => cases h; rfl
  | 5, h => cases h; rfl
  | 6, h => cases h; rfl
  | 7, h => cases h; rfl
  | 8, h => cases h; rfl
  | 9, h => cases h; rfl
  | 10, h => cases h; rfl
  | 11, h => cases h; rfl
  | 12, h => cases h; rfl
  | 13, h => cases h; rfl
  | 14, h => cases h; rfl
  | 15, h => cases h; rfl
  | 16, h => cases h; rfl
  | 17, h => cases h; rfl
  | 18, h => cases h; rfl
  | 19, h => cases h; rfl
  | 20, h => cases h; rfl
  | 21, h => cases h; rfl
  | 22, h => cases h; rfl
  | 23, h => cases h; rfl
  | 24, h => cases h; rfl
  | 25, h => cases h; rfl
  | 26, h => cases h; rfl
  | 27, h => cases h; rfl
  | 28, h => cases h; rfl
  | 29, h => cases h; rfl
  | 30, h => cases h; rfl
  | 31, h => cases h; rfl
  | 32, h => cases h; rfl
  | 33, h => cases h; rfl
  | 34, h => cases h; rfl
  | 35, h => cases h; rfl
  | 36, h => cases h; rfl
  | 37, h => cases h; rfl
  | 38, h => cases h; rfl
  | 39, h => cases h; rfl
  | 40, h => cases h; rfl
  | 41, h => cases h; rfl
  | 42, h => cases h; rfl
  | 43, h => cases h; rfl
  | 44, h => cases h; rfl
  | 45, h => cases h; rfl
  | 46, h => cases h; rfl
  | 47, h => cases h; rfl
  | 48, h => cases h; rfl
  | 49, h => cases h; rfl
  | 50, h => cases h; rfl
  | 51, h => cases h; rfl
  | 52, h => cases h; rfl
  | 53, h => cases h; rfl
  | 54, h => cases h; rfl
  | 55, h => cases h; rfl
  | 56, h => cases h; rfl
  | 57, h => cases h; rfl
  | 58, h => cases h; rfl
  | 59, h => cases h; rfl
  | 60, h => cases h; exact absurd m (by decide +kernel)
  | 61, h => cases h; exact absurd m (by decide +kernel)
  | 62, h => cases h; exact absurd m (by decide +kernel)
  | 63, h => cases h; exact absurd m (by decide +kernel)
  | 64, h => cases h; exact absurd m (by decide +kernel)
  | 65, h => cases h; exact absurd m (by decide +kernel)
  | 66, h => cases h; exact absurd m (by decide +kernel)
  | 67, h => cases h; exact absurd m (by decide +kernel)
  | 68, h => cases h; exact absurd m (by decide +kernel)
  | 69, h => cases h; exact absurd m (by decide +kernel)
  | 70, h => cases h; exact absurd m (by decide +kernel)
  | 71, h => cases h; exact absurd m (by decide +kernel)
  | 72, h => cases h; exact absurd m (by decide +kernel)
  | n + 73, h => simp [pd] at h
theorem pd_ok : pd.Ok := ⟨okf, pd_bn, rfl, rfl, rfl, pd_xb, pd_md, pd_ga⟩
end K49a
end

section
set_option Elab.async false
set_option linter.all false
set_option maxRecDepth 100000
set_option maxHeartbeats 0
namespace K49a
open PySem PySem.Spec Ev
abbrev bg (a b c : Int) : Option Ob := some (.lst [.int a, .int b, .int c])
def nmr (x : PyData) : PyData := .tuple [.str "name", .str x.shown]
def nur (x : PyData) : PyData := .tuple [.str "number", .str x.shown]
abbrev nm (x : PyData) : PyData := .tuple [.str "name", x]
abbrev nu (x : PyData) : PyData := .tuple [.str "number", x]
abbrev wd (x : Str) : PyData := .tuple [.str x]
def bk : PyData := (encI 0 [.tuple [.tuple [.str "one", .tuple [.int 0, .str "in"], .int 1]], .int 2, .tuple [.str "in", .str "old"]])
def dt : PyData := encI 1 [bk, .tuple [.tuple [.int 0, .int 50]]]
def bk2 : PyData := (encI 0 [.tuple [.tuple [.str "one", .tuple [.int 0, .str "in"], .int 1], .tuple [.str "one", .tuple [.int 0, .str "in"], .int 0]], .int 2, .tuple [.str "in", .str "old"]])
def odd1 : PyData := .list [.none, .tuple [], .tuple [.tuple [.int 0, .int 1]], .list [.tuple [.int 0, .int 1], .tuple [.int 2, .int 3]], .tuple [.tuple [.int 0, .int 1], .tuple [.int 3, .int 2]], .tuple [.tuple [.int 0, .int 1], .tuple [.int 0, .int 101]], .tuple [.tuple [.int (-1), .int 1], .tuple [.int 0, .int 1]], .tuple [.tuple [.int 0, .bool true], .tuple [.int 0, .int 1]]]
def odd : PyData := .list [.none, .tuple [], .tuple [.tuple [.int 0, .int 1]], .list [.tuple [.int 0, .int 1], .tuple [.int 2, .int 3]], .tuple [.tuple [.int 0, .int 1], .tuple [.int 3, .int 2]], .tuple [.tuple [.int 0, .int 1], .tuple [.int 0, .int 101]], .tuple [.tuple [.int (-1), .int 1], .tuple [.int 0, .int 1]], .tuple [.tuple [.int 0, .bool true], .tuple [.int 0, .int 1]], .tuple [.tuple [.int 0, .int 1], .tuple [.int 0, .int 1], .tuple [.int 0, .int 1]], .tuple [.tuple [.int 0, .int 1], .list [.int 0, .int 1]], .tuple [.tuple [.int 0], .tuple [.int 1, .int 2]], .tuple [.tuple [.int 0, .none], .tuple [.int 1, .int 2]]]
def m_nob : List PyData := [.none, .str "dated", bk, .tuple [.tuple [.int 0, .int 1]], .int 7, .dict []]
def m_role : List PyData := [.tuple [.int 2, .str "in"], .tuple [.int 0, .str "on"], .tuple [.int (-1), .str "in"], .list [.int 0, .str "in"], .tuple [.bool true, .str "in"], .tuple [.int 0], .str "in", .none]
def m_person : List PyData := [.int 2, .int (-1), .none, .bool true, .str "1", .tuple [.int 0], .int 1000000000000000000000000000000000000000000000000000000000000]
def m_hour : List PyData := [.int (-1), .int 101, .none, .bool true, .str "5", .tuple [.int 5]]
def m_nob2 : List PyData := [.none, .str "book", .tuple [.int 2, .tuple [.str "in"], .tuple []], .int 7]
abbrev Rq0 : Sx := .set 2 (.call 53 [(.var 0), (.lst [(.con .none), (.con (.str "dated")), (.prop (.get "book") (.var 1) [(1, 68)]), (.tup [(.tup [(.con (.int 0)), (.con (.int 1))])]), (.con (.int 7)), (.dnew false)])])
abbrev Rq1 : Sx := .set 3 (.call 53 [(.var 0), (.lst [(.tup [(.con (.int 2)), (.con (.str "in"))]), (.tup [(.con (.int 0)), (.con (.str "on"))]), (.tup [(.un .neg (.con (.int 1))), (.con (.str "in"))]), (.lst [(.con (.int 0)), (.con (.str "in"))]), (.tup [(.con (.bool true)), (.con (.str "in"))]), (.tup [(.con (.int 0))]), (.con (.str "in")), (.con .none)])])
abbrev Rq2 : Sx := .par [(4, false), (5, false)] [(.call 53 [(.var 0), (.lst [(.con (.int 2)), (.un .neg (.con (.int 1))), (.con .none), (.con (.bool true)), (.con (.str "1")), (.tup [(.con (.int 0))]), (.bin .pow (.con (.int 10)) (.con (.int 60)))])]), (.call 53 [(.var 0), (.lst [(.un .neg (.con (.int 1))), (.con (.int 101)), (.con .none), (.con (.bool true)), (.con (.str "5")), (.tup [(.con (.int 5))])])])]
abbrev Rq3 : Sx := .ifs (.cmp .ne (.call 56 [(.var 2), (.var 3), (.var 4), (.var 5), (.var 5)]) (.bin .mul (.lst [(.tup [(.con (.str "spans"))])]) (.con (.int 10)))) [.ret (.con (.bool false))] []
abbrev Rq4 : Sx := .ifs (.cmp .ne (.bi .repr [(.call 56 [(.var 1), (.var 3), (.var 4), (.var 5), (.var 5)])]) (.bi .repr [(.bin .add (.bin .mul (.lst [(.tup [(.con (.str "name")), (.var 3)])]) (.con (.int 8))) (.lst [(.tup [(.con (.str "number")), (.var 5)]), (.tup [(.con (.str "fine"))])]))])) [.ret (.con (.bool false))] []
abbrev Rq5 : Sx := .ifs (.cmp .ne (.bi .repr [(.call 56 [(.var 1), (.tup [(.con (.int 0)), (.con (.str "in"))]), (.var 4), (.var 5), (.var 5)])]) (.bi .repr [(.bin .add (.bin .add (.bin .mul (.lst [(.tup [(.con (.str "number")), (.var 4)])]) (.con (.int 6))) (.bin .mul (.lst [(.tup [(.con (.str "fine"))])]) (.con (.int 2)))) (.lst [(.tup [(.con (.str "number")), (.var 5)]), (.tup [(.con (.str "fine"))])]))])) [.ret (.con (.bool false))] []
abbrev Rq6 : Sx := .set 6 (.bin .add (.call 56 [(.var 1), (.tup [(.con (.int 0)), (.con (.str "in"))]), (.con (.int 1)), (.var 5), (.con (.int 0))]) (.lst [(.met 55 m55 (.call 50 [(.var 1), (.tup [(.con (.int 0)), (.con (.str "in"))]), (.con (.int 1)), (.con (.int 3)), (.var 5)]))]))
abbrev Rq7 : Sx := .ret (.cmp .eq (.bi .repr [(.var 6)]) (.bi .repr [(.bin .add (.bin .add (.bin .mul (.lst [(.tup [(.con (.str "number")), (.var 5)])]) (.con (.int 5))) (.bin .mul (.lst [(.tup [(.con (.str "fine"))])]) (.con (.int 3)))) (.lst [(.tup [(.con (.str "number")), (.var 5)]), (.tup [(.con (.str "fine"))]), (.tup [(.con (.str "number")), (.var 5)])]))]))
theorem R0_0 (a b c : Int)  : evEs (callN pr 38) (newN pr 38) [(.var 0), (.lst [(.con .none), (.con (.str "dated")), (.prop (.get "book") (.var 1) [(1, 68)]), (.tup [(.tup [(.con (.int 0)), (.con (.int 1))])]), (.con (.int 7)), (.dnew false)])] [some (.ref 0), some (.d dt), none, none, none, none, none] [bg a b c] = .ok [.ref 0, .d (.list m_nob)] [bg a b c, none] := by
  kernel_rfl
theorem R0_1 (nob : PyData) (a b c : Int)  : evEs (callN pr 38) (newN pr 38) [(.var 0), (.lst [(.tup [(.con (.int 2)), (.con (.str "in"))]), (.tup [(.con (.int 0)), (.con (.str "on"))]), (.tup [(.un .neg (.con (.int 1))), (.con (.str "in"))]), (.lst [(.con (.int 0)), (.con (.str "in"))]), (.tup [(.con (.bool true)), (.con (.str "in"))]), (.tup [(.con (.int 0))]), (.con (.str "in")), (.con .none)])] [some (.ref 0), some (.d dt), some (.d nob), none, none, none, none] [bg a b c, none] = .ok [.ref 0, .d (.list m_role)] [bg a b c, none] := by
  kernel_rfl
theorem R0_2_0 (nob role : PyData) (a b c : Int)  : evEs (callN pr 38) (newN pr 38) [(.var 0), (.lst [(.con (.int 2)), (.un .neg (.con (.int 1))), (.con .none), (.con (.bool true)), (.con (.str "1")), (.tup [(.con (.int 0))]), (.bin .pow (.con (.int 10)) (.con (.int 60)))])] [some (.ref 0), some (.d dt), some (.d nob), some (.d role), none, none, none] [bg a b c, none] = .ok [.ref 0, .d (.list m_person)] [bg a b c, none] := by
  kernel_rfl
theorem R0_2_1 (nob role : PyData) (a b c : Int)  : evEs (callN pr 38) (newN pr 38) [(.var 0), (.lst [(.un .neg (.con (.int 1))), (.con (.int 101)), (.con .none), (.con (.bool true)), (.con (.str "5")), (.tup [(.con (.int 5))])])] [some (.ref 0), some (.d dt), some (.d nob), some (.d role), none, none, none] [bg a b c, none] = .ok [.ref 0, .d (.list m_hour)] [bg a b c, none] := by
  kernel_rfl
theorem R0_3_0 (nob role person hour : PyData) (a b c : Int) (h_nob : nob ∈ m_nob) : evE (callN pr 38) (newN pr 38) (.cmp .ne (.call 56 [(.var 2), (.var 3), (.var 4), (.var 5), (.var 5)]) (.bin .mul (.lst [(.tup [(.con (.str "spans"))])]) (.con (.int 10)))) [some (.ref 0), some (.d dt), some (.d nob), some (.d role), some (.d person), some (.d hour), none] [bg a b c, none] = .ok (.d (.bool false), false) [bg a b c, none] := by
  simp only [m_nob, List.mem_cons, List.not_mem_nil, or_false] at h_nob
  rcases h_nob with rfl | rfl | rfl | rfl | rfl | rfl <;> kernel_rfl
abbrev w56q0 : Sx := .thaw 5 (.lst [(.met 55 m55 (.call 45 [(.var 0), (.var 1), (.var 2), (.var 3)])), (.met 55 m55 (.call 46 [(.var 0), (.var 1), (.var 2), (.var 3)]))])
abbrev w56q1 : Sx := .ex (.mt .append (.var 5) [(.met 55 m55 (.call 49 [(.var 0), (.var 1), (.var 2), (.var 3), (.var 4), (.con (.int 0))]))])
abbrev w56q2 : Sx := .ex (.mt .append (.var 5) [(.met 55 m55 (.call 49 [(.var 0), (.var 1), (.var 2), (.con (.int 0)), (.var 3), (.con (.int 9))]))])
abbrev w56q3 : Sx := .ex (.mt .append (.var 5) [(.met 55 m55 (.call 50 [(.var 0), (.var 1), (.var 2), (.var 3), (.var 4)]))])
abbrev w56q4 : Sx := .ex (.mt .append (.var 5) [(.met 55 m55 (.call 44 [(.var 0), (.var 1), (.var 2)]))])
abbrev w56q5 : Sx := .ex (.mt .append (.var 5) [(.met 55 m55 (.call 47 [(.var 0), (.var 1)]))])
abbrev w56q6 : Sx := .ex (.mt .append (.var 5) [(.met 55 m55 (.call 48 [(.var 0), (.var 1)]))])
abbrev w56q7 : Sx := .ex (.mt .append (.var 5) [(.met 55 m55 (.call 42 [(.var 0), (.var 3)]))])
abbrev w56q8 : Sx := .ex (.mt .append (.var 5) [(.met 55 m55 (.call 43 [(.var 0)]))])
abbrev w56q9 : Sx := .ret (.var 5)
theorem R0_all0_0 (nob role person hour : PyData) (a b c : Int) (h_role : role ∈ m_role) : exS (callN pr 37) (newN pr 37) 4000 w56q0 [some (.d dt), some (.d role), some (.d person), some (.d hour), some (.d hour), none] [bg a b c, none] = .nx [some (.d dt), some (.d role), some (.d person), some (.d hour), some (.d hour), some (.ref 2)] [bg a b c, none, some (.lst [nm role, nm role])] := by
  simp only [m_role, List.mem_cons, List.not_mem_nil, or_false] at h_role
  rcases h_role with rfl | rfl | rfl | rfl | rfl | rfl | rfl | rfl <;> kernel_rfl
theorem R0_all0_1 (nob role person hour : PyData) (a b c : Int) (h_role : role ∈ m_role) : exS (callN pr 37) (newN pr 37) 4000 w56q1 [some (.d dt), some (.d role), some (.d person), some (.d hour), some (.d hour), some (.ref 2)] [bg a b c, none, some (.lst [nm role, nm role])] = .nx [some (.d dt), some (.d role), some (.d person), some (.d hour), some (.d hour), some (.ref 2)] [bg a b c, none, some (.lst [nm role, nm role, nm role])] := by
  simp only [m_role, List.mem_cons, List.not_mem_nil, or_false] at h_role
  rcases h_role with rfl | rfl | rfl | rfl | rfl | rfl | rfl | rfl <;> kernel_rfl
theorem R0_all0_2 (nob role person hour : PyData) (a b c : Int) (h_role : role ∈ m_role) : exS (callN pr 37) (newN pr 37) 4000 w56q2 [some (.d dt), some (.d role), some (.d person), some (.d hour), some (.d hour), some (.ref 2)] [bg a b c, none, some (.lst [nm role, nm role, nm role])] = .nx [some (.d dt), some (.d role), some (.d person), some (.d hour), some (.d hour), some (.ref 2)] [bg a b c, none, some (.lst [nm role, nm role, nm role, nm role])] := by
  simp only [m_role, List.mem_cons, List.not_mem_nil, or_false] at h_role
  rcases h_role with rfl | rfl | rfl | rfl | rfl | rfl | rfl | rfl <;> kernel_rfl
theorem R0_all0_3 (nob role person hour : PyData) (a b c : Int) (h_role : role ∈ m_role) : exS (callN pr 37) (newN pr 37) 4000 w56q3 [some (.d dt), some (.d role), some (.d person), some (.d hour), some (.d hour), some (.ref 2)] [bg a b c, none, some (.lst [nm role, nm role, nm role, nm role])] = .nx [some (.d dt), some (.d role), some (.d person), some (.d hour), some (.d hour), some (.ref 2)] [bg a b c, none, some (.lst [nm role, nm role, nm role, nm role, nm role])] := by
  simp only [m_role, List.mem_cons, List.not_mem_nil, or_false] at h_role
  rcases h_role with rfl | rfl | rfl | rfl | rfl | rfl | rfl | rfl <;> kernel_rfl
theorem R0_all0_4 (nob role person hour : PyData) (a b c : Int) (h_role : role ∈ m_role) : exS (callN pr 37) (newN pr 37) 4000 w56q4 [some (.d dt), some (.d role), some (.d person), some (.d hour), some (.d hour), some (.ref 2)] [bg a b c, none, some (.lst [nm role, nm role, nm role, nm role, nm role])] = .nx [some (.d dt), some (.d role), some (.d person), some (.d hour), some (.d hour), some (.ref 2)] [bg a b c, none, some (.lst [nm role, nm role, nm role, nm role, nm role, nm role])] := by
  simp only [m_role, List.mem_cons, List.not_mem_nil, or_false] at h_role
  rcases h_role with rfl | rfl | rfl | rfl | rfl | rfl | rfl | rfl <;> kernel_rfl
theorem R0_all0_5 (nob role person hour : PyData) (a b c : Int) (h_role : role ∈ m_role) : exS (callN pr 37) (newN pr 37) 4000 w56q5 [some (.d dt), some (.d role), some (.d person), some (.d hour), some (.d hour), some (.ref 2)] [bg a b c, none, some (.lst [nm role, nm role, nm role, nm role, nm role, nm role])] = .nx [some (.d dt), some (.d role), some (.d person), some (.d hour), some (.d hour), some (.ref 2)] [bg a b c, none, some (.lst [nm role, nm role, nm role, nm role, nm role, nm role, nm role])] := by
  simp only [m_role, List.mem_cons, List.not_mem_nil, or_false] at h_role
  rcases h_role with rfl | rfl | rfl | rfl | rfl | rfl | rfl | rfl <;> kernel_rfl
theorem R0_all0_6 (nob role person hour : PyData) (a b c : Int) (h_role : role ∈ m_role) : exS (callN pr 37) (newN pr 37) 4000 w56q6 [some (.d dt), some (.d role), some (.d person), some (.d hour), some (.d hour), some (.ref 2)] [bg a b c, none, some (.lst [nm role, nm role, nm role, nm role, nm role, nm role, nm role])] = .nx [some (.d dt), some (.d role), some (.d person), some (.d hour), some (.d hour), some (.ref 2)] [bg a b c, none, some (.lst [nm role, nm role, nm role, nm role, nm role, nm role, nm role, nm role])] := by
  simp only [m_role, List.mem_cons, List.not_mem_nil, or_false] at h_role
  rcases h_role with rfl | rfl | rfl | rfl | rfl | rfl | rfl | rfl <;> kernel_rfl
theorem R0_all0_7 (nob role person hour : PyData) (a b c : Int) (h_hour : hour ∈ m_hour) : exS (callN pr 37) (newN pr 37) 4000 w56q7 [some (.d dt), some (.d role), some (.d person), some (.d hour), some (.d hour), some (.ref 2)] [bg a b c, none, some (.lst [nm role, nm role, nm role, nm role, nm role, nm role, nm role, nm role])] = .nx [some (.d dt), some (.d role), some (.d person), some (.d hour), some (.d hour), some (.ref 2)] [bg a b c, none, some (.lst [nm role, nm role, nm role, nm role, nm role, nm role, nm role, nm role, nu hour])] := by
  simp only [m_hour, List.mem_cons, List.not_mem_nil, or_false] at h_hour
  rcases h_hour with rfl | rfl | rfl | rfl | rfl | rfl <;> kernel_rfl
theorem R0_all0_8 (nob role person hour : PyData) (a b c : Int)  : exS (callN pr 37) (newN pr 37) 4000 w56q8 [some (.d dt), some (.d role), some (.d person), some (.d hour), some (.d hour), some (.ref 2)] [bg a b c, none, some (.lst [nm role, nm role, nm role, nm role, nm role, nm role, nm role, nm role, nu hour])] = .nx [some (.d dt), some (.d role), some (.d person), some (.d hour), some (.d hour), some (.ref 2)] [bg a b c, none, some (.lst [nm role, nm role, nm role, nm role, nm role, nm role, nm role, nm role, nu hour, wd "fine"])] := by
  kernel_rfl
theorem R0_all0_9 (nob role person hour : PyData) (a b c : Int)  : exS (callN pr 37) (newN pr 37) 4000 w56q9 [some (.d dt), some (.d role), some (.d person), some (.d hour), some (.d hour), some (.ref 2)] [bg a b c, none, some (.lst [nm role, nm role, nm role, nm role, nm role, nm role, nm role, nm role, nu hour, wd "fine"])] = .ret (.ref 2) false [bg a b c, none, some (.lst [nm role, nm role, nm role, nm role, nm role, nm role, nm role, nm role, nu hour, wd "fine"])] := by
  kernel_rfl
theorem R0_all0 (nob role person hour : PyData) (a b c : Int) (h_role : role ∈ m_role) (h_hour : hour ∈ m_hour) : callN pr 38 56 [.d dt, .d role, .d person, .d hour, .d hour] [bg a b c, none] = .ok (.d (.list [nm role, nm role, nm role, nm role, nm role, nm role, nm role, nm role, nu hour, wd "fine"]), true) [bg a b c, none] := by
  have c0 : callN pr 38 56 [.d dt, .d role, .d person, .d hour, .d hour] [bg a b c, none] = endV 2 (exSs (callN pr 37) (newN pr 37) 4000 [w56q0, w56q1, w56q2, w56q3, w56q4, w56q5, w56q6, w56q7, w56q8, w56q9] [some (.d dt), some (.d role), some (.d person), some (.d hour), some (.d hour), none] [bg a b c, none]) := hn_call_eq (P := pr) (f := 56) (n := 37) (fn := f56) rfl ⟨rfl, by decide⟩
  rw [c0, hn_ss_nx (R0_all0_0 nob role person hour a b c h_role), hn_ss_nx (R0_all0_1 nob role person hour a b c h_role), hn_ss_nx (R0_all0_2 nob role person hour a b c h_role), hn_ss_nx (R0_all0_3 nob role person hour a b c h_role), hn_ss_nx (R0_all0_4 nob role person hour a b c h_role), hn_ss_nx (R0_all0_5 nob role person hour a b c h_role), hn_ss_nx (R0_all0_6 nob role person hour a b c h_role), hn_ss_nx (R0_all0_7 nob role person hour a b c h_hour), hn_ss_nx (R0_all0_8 nob role person hour a b c ), hn_ss_ret (R0_all0_9 nob role person hour a b c )]
  rfl
theorem R0_v1 (nob role person hour : PyData) (a b c : Int)  : evE (callN pr 38) (newN pr 38) (.bin .add (.bin .mul (.lst [(.tup [(.con (.str "name")), (.var 3)])]) (.con (.int 8))) (.lst [(.tup [(.con (.str "number")), (.var 5)]), (.tup [(.con (.str "fine"))])])) [some (.ref 0), some (.d dt), some (.d nob), some (.d role), some (.d person), some (.d hour), none] [bg a b c, none] = .ok (.d (.list [nm role, nm role, nm role, nm role, nm role, nm role, nm role, nm role, nu hour, wd "fine"]), true) [bg a b c, none] := by
  kernel_rfl
theorem ckv_hour_0 : m_hour.all (ckD 20 1000) = true := by decide +kernel
theorem ckv_hour {hour : PyData} (h_hour : hour ∈ m_hour) : ckD 20 1000 hour = true := List.all_eq_true.mp ckv_hour_0 _ h_hour
theorem ckv_role_0 : m_role.all (ckD 20 1000) = true := by decide +kernel
theorem ckv_role {role : PyData} (h_role : role ∈ m_role) : ckD 20 1000 role = true := List.all_eq_true.mp ckv_role_0 _ h_role
theorem chk1 {role hour : PyData} (h_role : role ∈ m_role) (h_hour : hour ∈ m_hour) : hn_chk (.list [nm role, nm role, nm role, nm role, nm role, nm role, nm role, nm role, nu hour, wd "fine"]) = true := ck_chk (ck_lst (ck_cons (k := 30) (n := 10000) (ck_pair (by decide +kernel) (ckv_role h_role)) (ck_cons (k := 30) (n := 10000) (ck_pair (by decide +kernel) (ckv_role h_role)) (ck_cons (k := 30) (n := 10000) (ck_pair (by decide +kernel) (ckv_role h_role)) (ck_cons (k := 30) (n := 10000) (ck_pair (by decide +kernel) (ckv_role h_role)) (ck_cons (k := 30) (n := 10000) (ck_pair (by decide +kernel) (ckv_role h_role)) (ck_cons (k := 30) (n := 10000) (ck_pair (by decide +kernel) (ckv_role h_role)) (ck_cons (k := 30) (n := 10000) (ck_pair (by decide +kernel) (ckv_role h_role)) (ck_cons (k := 30) (n := 10000) (ck_pair (by decide +kernel) (ckv_role h_role)) (ck_cons (k := 30) (n := 10000) (ck_pair (by decide +kernel) (ckv_hour h_hour)) (ck_cons (k := 30) (n := 10000) (by decide +kernel) (rfl)))))))))))) (by decide) (by show 2 + 10 * (10000 + 2) ≤ 16777216; omega)
theorem R0_all2_0 (nob role person hour : PyData) (a b c : Int) (h_person : person ∈ m_person) : exS (callN pr 37) (newN pr 37) 4000 w56q0 [some (.d dt), some (.d (.tuple [.int 0, .str "in"])), some (.d person), some (.d hour), some (.d hour), none] [bg a b c, none] = .nx [some (.d dt), some (.d (.tuple [.int 0, .str "in"])), some (.d person), some (.d hour), some (.d hour), some (.ref 2)] [bg a b c, none, some (.lst [nu person, nu person])] := by
  simp only [m_person, List.mem_cons, List.not_mem_nil, or_false] at h_person
  rcases h_person with rfl | rfl | rfl | rfl | rfl | rfl | rfl <;> kernel_rfl
theorem R0_all2_1 (nob role person hour : PyData) (a b c : Int) (h_person : person ∈ m_person) : exS (callN pr 37) (newN pr 37) 4000 w56q1 [some (.d dt), some (.d (.tuple [.int 0, .str "in"])), some (.d person), some (.d hour), some (.d hour), some (.ref 2)] [bg a b c, none, some (.lst [nu person, nu person])] = .nx [some (.d dt), some (.d (.tuple [.int 0, .str "in"])), some (.d person), some (.d hour), some (.d hour), some (.ref 2)] [bg a b c, none, some (.lst [nu person, nu person, nu person])] := by
  simp only [m_person, List.mem_cons, List.not_mem_nil, or_false] at h_person
  rcases h_person with rfl | rfl | rfl | rfl | rfl | rfl | rfl <;> kernel_rfl
theorem R0_all2_2 (nob role person hour : PyData) (a b c : Int) (h_person : person ∈ m_person) : exS (callN pr 37) (newN pr 37) 4000 w56q2 [some (.d dt), some (.d (.tuple [.int 0, .str "in"])), some (.d person), some (.d hour), some (.d hour), some (.ref 2)] [bg a b c, none, some (.lst [nu person, nu person, nu person])] = .nx [some (.d dt), some (.d (.tuple [.int 0, .str "in"])), some (.d person), some (.d hour), some (.d hour), some (.ref 2)] [bg a b c, none, some (.lst [nu person, nu person, nu person, nu person])] := by
  simp only [m_person, List.mem_cons, List.not_mem_nil, or_false] at h_person
  rcases h_person with rfl | rfl | rfl | rfl | rfl | rfl | rfl <;> kernel_rfl
theorem R0_all2_3 (nob role person hour : PyData) (a b c : Int) (h_person : person ∈ m_person) : exS (callN pr 37) (newN pr 37) 4000 w56q3 [some (.d dt), some (.d (.tuple [.int 0, .str "in"])), some (.d person), some (.d hour), some (.d hour), some (.ref 2)] [bg a b c, none, some (.lst [nu person, nu person, nu person, nu person])] = .nx [some (.d dt), some (.d (.tuple [.int 0, .str "in"])), some (.d person), some (.d hour), some (.d hour), some (.ref 2)] [bg a b c, none, some (.lst [nu person, nu person, nu person, nu person, nu person])] := by
  simp only [m_person, List.mem_cons, List.not_mem_nil, or_false] at h_person
  rcases h_person with rfl | rfl | rfl | rfl | rfl | rfl | rfl <;> kernel_rfl
theorem R0_all2_4 (nob role person hour : PyData) (a b c : Int) (h_person : person ∈ m_person) : exS (callN pr 37) (newN pr 37) 4000 w56q4 [some (.d dt), some (.d (.tuple [.int 0, .str "in"])), some (.d person), some (.d hour), some (.d hour), some (.ref 2)] [bg a b c, none, some (.lst [nu person, nu person, nu person, nu person, nu person])] = .nx [some (.d dt), some (.d (.tuple [.int 0, .str "in"])), some (.d person), some (.d hour), some (.d hour), some (.ref 2)] [bg a b c, none, some (.lst [nu person, nu person, nu person, nu person, nu person, nu person])] := by
  simp only [m_person, List.mem_cons, List.not_mem_nil, or_false] at h_person
  rcases h_person with rfl | rfl | rfl | rfl | rfl | rfl | rfl <;> kernel_rfl
theorem R0_all2_5 (nob role person hour : PyData) (a b c : Int)  : exS (callN pr 37) (newN pr 37) 4000 w56q5 [some (.d dt), some (.d (.tuple [.int 0, .str "in"])), some (.d person), some (.d hour), some (.d hour), some (.ref 2)] [bg a b c, none, some (.lst [nu person, nu person, nu person, nu person, nu person, nu person])] = .nx [some (.d dt), some (.d (.tuple [.int 0, .str "in"])), some (.d person), some (.d hour), some (.d hour), some (.ref 2)] [bg a b c, none, some (.lst [nu person, nu person, nu person, nu person, nu person, nu person, wd "fine"])] := by
  kernel_rfl
theorem R0_all2_6 (nob role person hour : PyData) (a b c : Int)  : exS (callN pr 37) (newN pr 37) 4000 w56q6 [some (.d dt), some (.d (.tuple [.int 0, .str "in"])), some (.d person), some (.d hour), some (.d hour), some (.ref 2)] [bg a b c, none, some (.lst [nu person, nu person, nu person, nu person, nu person, nu person, wd "fine"])] = .nx [some (.d dt), some (.d (.tuple [.int 0, .str "in"])), some (.d person), some (.d hour), some (.d hour), some (.ref 2)] [bg a b c, none, some (.lst [nu person, nu person, nu person, nu person, nu person, nu person, wd "fine", wd "fine"])] := by
  kernel_rfl
theorem R0_all2_7 (nob role person hour : PyData) (a b c : Int) (h_hour : hour ∈ m_hour) : exS (callN pr 37) (newN pr 37) 4000 w56q7 [some (.d dt), some (.d (.tuple [.int 0, .str "in"])), some (.d person), some (.d hour), some (.d hour), some (.ref 2)] [bg a b c, none, some (.lst [nu person, nu person, nu person, nu person, nu person, nu person, wd "fine", wd "fine"])] = .nx [some (.d dt), some (.d (.tuple [.int 0, .str "in"])), some (.d person), some (.d hour), some (.d hour), some (.ref 2)] [bg a b c, none, some (.lst [nu person, nu person, nu person, nu person, nu person, nu person, wd "fine", wd "fine", nu hour])] := by
  simp only [m_hour, List.mem_cons, List.not_mem_nil, or_false] at h_hour
  rcases h_hour with rfl | rfl | rfl | rfl | rfl | rfl <;> kernel_rfl
theorem R0_all2_8 (nob role person hour : PyData) (a b c : Int)  : exS (callN pr 37) (newN pr 37) 4000 w56q8 [some (.d dt), some (.d (.tuple [.int 0, .str "in"])), some (.d person), some (.d hour), some (.d hour), some (.ref 2)] [bg a b c, none, some (.lst [nu person, nu person, nu person, nu person, nu person, nu person, wd "fine", wd "fine", nu hour])] = .nx [some (.d dt), some (.d (.tuple [.int 0, .str "in"])), some (.d person), some (.d hour), some (.d hour), some (.ref 2)] [bg a b c, none, some (.lst [nu person, nu person, nu person, nu person, nu person, nu person, wd "fine", wd "fine", nu hour, wd "fine"])] := by
  kernel_rfl
theorem R0_all2_9 (nob role person hour : PyData) (a b c : Int)  : exS (callN pr 37) (newN pr 37) 4000 w56q9 [some (.d dt), some (.d (.tuple [.int 0, .str "in"])), some (.d person), some (.d hour), some (.d hour), some (.ref 2)] [bg a b c, none, some (.lst [nu person, nu person, nu person, nu person, nu person, nu person, wd "fine", wd "fine", nu hour, wd "fine"])] = .ret (.ref 2) false [bg a b c, none, some (.lst [nu person, nu person, nu person, nu person, nu person, nu person, wd "fine", wd "fine", nu hour, wd "fine"])] := by
  kernel_rfl
theorem R0_all2 (nob role person hour : PyData) (a b c : Int) (h_person : person ∈ m_person) (h_hour : hour ∈ m_hour) : callN pr 38 56 [.d dt, .d (.tuple [.int 0, .str "in"]), .d person, .d hour, .d hour] [bg a b c, none] = .ok (.d (.list [nu person, nu person, nu person, nu person, nu person, nu person, wd "fine", wd "fine", nu hour, wd "fine"]), true) [bg a b c, none] := by
  have c0 : callN pr 38 56 [.d dt, .d (.tuple [.int 0, .str "in"]), .d person, .d hour, .d hour] [bg a b c, none] = endV 2 (exSs (callN pr 37) (newN pr 37) 4000 [w56q0, w56q1, w56q2, w56q3, w56q4, w56q5, w56q6, w56q7, w56q8, w56q9] [some (.d dt), some (.d (.tuple [.int 0, .str "in"])), some (.d person), some (.d hour), some (.d hour), none] [bg a b c, none]) := hn_call_eq (P := pr) (f := 56) (n := 37) (fn := f56) rfl ⟨rfl, by decide⟩
  rw [c0, hn_ss_nx (R0_all2_0 nob role person hour a b c h_person), hn_ss_nx (R0_all2_1 nob role person hour a b c h_person), hn_ss_nx (R0_all2_2 nob role person hour a b c h_person), hn_ss_nx (R0_all2_3 nob role person hour a b c h_person), hn_ss_nx (R0_all2_4 nob role person hour a b c h_person), hn_ss_nx (R0_all2_5 nob role person hour a b c ), hn_ss_nx (R0_all2_6 nob role person hour a b c ), hn_ss_nx (R0_all2_7 nob role person hour a b c h_hour), hn_ss_nx (R0_all2_8 nob role person hour a b c ), hn_ss_ret (R0_all2_9 nob role person hour a b c )]
  rfl
theorem R0_v3 (nob role person hour : PyData) (a b c : Int)  : evE (callN pr 38) (newN pr 38) (.bin .add (.bin .add (.bin .mul (.lst [(.tup [(.con (.str "number")), (.var 4)])]) (.con (.int 6))) (.bin .mul (.lst [(.tup [(.con (.str "fine"))])]) (.con (.int 2)))) (.lst [(.tup [(.con (.str "number")), (.var 5)]), (.tup [(.con (.str "fine"))])])) [some (.ref 0), some (.d dt), some (.d nob), some (.d role), some (.d person), some (.d hour), none] [bg a b c, none] = .ok (.d (.list [nu person, nu person, nu person, nu person, nu person, nu person, wd "fine", wd "fine", nu hour, wd "fine"]), true) [bg a b c, none] := by
  kernel_rfl
theorem ckv_person_0 : m_person.all (ckD 20 1000) = true := by decide +kernel
theorem ckv_person {person : PyData} (h_person : person ∈ m_person) : ckD 20 1000 person = true := List.all_eq_true.mp ckv_person_0 _ h_person
theorem chk4 {person hour : PyData} (h_person : person ∈ m_person) (h_hour : hour ∈ m_hour) : hn_chk (.list [nu person, nu person, nu person, nu person, nu person, nu person, wd "fine", wd "fine", nu hour, wd "fine"]) = true := ck_chk (ck_lst (ck_cons (k := 30) (n := 10000) (ck_pair (by decide +kernel) (ckv_person h_person)) (ck_cons (k := 30) (n := 10000) (ck_pair (by decide +kernel) (ckv_person h_person)) (ck_cons (k := 30) (n := 10000) (ck_pair (by decide +kernel) (ckv_person h_person)) (ck_cons (k := 30) (n := 10000) (ck_pair (by decide +kernel) (ckv_person h_person)) (ck_cons (k := 30) (n := 10000) (ck_pair (by decide +kernel) (ckv_person h_person)) (ck_cons (k := 30) (n := 10000) (ck_pair (by decide +kernel) (ckv_person h_person)) (ck_cons (k := 30) (n := 10000) (by decide +kernel) (ck_cons (k := 30) (n := 10000) (by decide +kernel) (ck_cons (k := 30) (n := 10000) (ck_pair (by decide +kernel) (ckv_hour h_hour)) (ck_cons (k := 30) (n := 10000) (by decide +kernel) (rfl)))))))))))) (by decide) (by show 2 + 10 * (10000 + 2) ≤ 16777216; omega)
theorem R0_6 (nob role person hour : PyData) (a b c : Int) (h_hour : hour ∈ m_hour) : exS (callN pr 38) (newN pr 38) 4000 Rq6 [some (.ref 0), some (.d dt), some (.d nob), some (.d role), some (.d person), some (.d hour), none] [bg a b c, none] = .nx [some (.ref 0), some (.d dt), some (.d nob), some (.d role), some (.d person), some (.d hour), some (.d (.list [nu hour, nu hour, nu hour, nu hour, nu hour, wd "fine", wd "fine", wd "fine", nu hour, wd "fine", nu hour]))] [bg a b c, none] := by
  simp only [m_hour, List.mem_cons, List.not_mem_nil, or_false] at h_hour
  rcases h_hour with rfl | rfl | rfl | rfl | rfl | rfl <;> kernel_rfl
theorem R0_v4 (nob role person hour : PyData) (a b c : Int)  : evE (callN pr 38) (newN pr 38) (.var 6) [some (.ref 0), some (.d dt), some (.d nob), some (.d role), some (.d person), some (.d hour), some (.d (.list [nu hour, nu hour, nu hour, nu hour, nu hour, wd "fine", wd "fine", wd "fine", nu hour, wd "fine", nu hour]))] [bg a b c, none] = .ok (.d (.list [nu hour, nu hour, nu hour, nu hour, nu hour, wd "fine", wd "fine", wd "fine", nu hour, wd "fine", nu hour]), false) [bg a b c, none] := by
  kernel_rfl
theorem R0_v5 (nob role person hour : PyData) (a b c : Int)  : evE (callN pr 38) (newN pr 38) (.bin .add (.bin .add (.bin .mul (.lst [(.tup [(.con (.str "number")), (.var 5)])]) (.con (.int 5))) (.bin .mul (.lst [(.tup [(.con (.str "fine"))])]) (.con (.int 3)))) (.lst [(.tup [(.con (.str "number")), (.var 5)]), (.tup [(.con (.str "fine"))]), (.tup [(.con (.str "number")), (.var 5)])])) [some (.ref 0), some (.d dt), some (.d nob), some (.d role), some (.d person), some (.d hour), some (.d (.list [nu hour, nu hour, nu hour, nu hour, nu hour, wd "fine", wd "fine", wd "fine", nu hour, wd "fine", nu hour]))] [bg a b c, none] = .ok (.d (.list [nu hour, nu hour, nu hour, nu hour, nu hour, wd "fine", wd "fine", wd "fine", nu hour, wd "fine", nu hour]), true) [bg a b c, none] := by
  kernel_rfl
theorem chk6 {hour : PyData} (h_hour : hour ∈ m_hour) : hn_chk (.list [nu hour, nu hour, nu hour, nu hour, nu hour, wd "fine", wd "fine", wd "fine", nu hour, wd "fine", nu hour]) = true := ck_chk (ck_lst (ck_cons (k := 30) (n := 10000) (ck_pair (by decide +kernel) (ckv_hour h_hour)) (ck_cons (k := 30) (n := 10000) (ck_pair (by decide +kernel) (ckv_hour h_hour)) (ck_cons (k := 30) (n := 10000) (ck_pair (by decide +kernel) (ckv_hour h_hour)) (ck_cons (k := 30) (n := 10000) (ck_pair (by decide +kernel) (ckv_hour h_hour)) (ck_cons (k := 30) (n := 10000) (ck_pair (by decide +kernel) (ckv_hour h_hour)) (ck_cons (k := 30) (n := 10000) (by decide +kernel) (ck_cons (k := 30) (n := 10000) (by decide +kernel) (ck_cons (k := 30) (n := 10000) (by decide +kernel) (ck_cons (k := 30) (n := 10000) (ck_pair (by decide +kernel) (ckv_hour h_hour)) (ck_cons (k := 30) (n := 10000) (by decide +kernel) (ck_cons (k := 30) (n := 10000) (ck_pair (by decide +kernel) (ckv_hour h_hour)) (rfl))))))))))))) (by decide) (by show 2 + 11 * (10000 + 2) ≤ 16777216; omega)
theorem Rright0 {a b c : Int} {N : Nat} (hN : N < 900000) (g0 : GoodC (N + 0) a b c) : ∃ a' b' c', GoodC (N + 4) a' b' c' ∧ callN pr 39 57 [.ref 0, .d dt] [bg a b c] = .ok (.d (.bool true), false) [bg a' b' c'] := by
  have c0 : callN pr 39 57 [.ref 0, .d dt] [bg a b c] = endV 1 (exSs (callN pr 38) (newN pr 38) 4000 [Rq0, Rq1, Rq2, Rq3, Rq4, Rq5, Rq6, Rq7] [some (.ref 0), some (.d dt), none, none, none, none, none] [bg a b c]) := hn_call_eq (P := pr) (f := 57) (n := 38) (fn := f57) rfl ⟨rfl, by decide⟩
  rw [c0]
  obtain ⟨nob, h_nob, a1, b1, c1, g1, e1⟩ := oneB_ok (P := pr) (f := 52) (g := 53) (n := 36) (N := N + 0) rfl rfl (by omega) (st := [bg a b c, none]) (r := 0) (items := m_nob) rfl g0 (by first | decide | exact Nat.le_of_ble_eq_true rfl) (by first | decide | exact Nat.le_of_ble_eq_true rfl)
  have k1 : exS (callN pr 38) (newN pr 38) 4000 Rq0 [some (.ref 0), some (.d dt), none, none, none, none, none] [bg a b c] = .nx [some (.ref 0), some (.d dt), some (.d nob), none, none, none, none] [bg a1 b1 c1, none] := hn_s_call (R0_0  a b c ) e1
  rw [hn_ss_nx k1]
  obtain ⟨role, h_role, a2, b2, c2, g2, e2⟩ := oneB_ok (P := pr) (f := 52) (g := 53) (n := 36) (N := N + 1) rfl rfl (by omega) (st := [bg a1 b1 c1, none]) (r := 0) (items := m_role) rfl g1 (by first | decide | exact Nat.le_of_ble_eq_true rfl) (by first | decide | exact Nat.le_of_ble_eq_true rfl)
  have k2 : exS (callN pr 38) (newN pr 38) 4000 Rq1 [some (.ref 0), some (.d dt), some (.d nob), none, none, none, none] [bg a1 b1 c1, none] = .nx [some (.ref 0), some (.d dt), some (.d nob), some (.d role), none, none, none] [bg a2 b2 c2, none] := hn_s_call (R0_1 nob a1 b1 c1 ) e2
  rw [hn_ss_nx k2]
  obtain ⟨person, h_person, a3, b3, c3, g3, e3⟩ := oneB_ok (P := pr) (f := 52) (g := 53) (n := 36) (N := N + 2) rfl rfl (by omega) (st := [bg a2 b2 c2, none]) (r := 0) (items := m_person) rfl g2 (by first | decide | exact Nat.le_of_ble_eq_true rfl) (by first | decide | exact Nat.le_of_ble_eq_true rfl)
  have k3 : evE (callN pr 38) (newN pr 38) (.call 53 [(.var 0), (.lst [(.con (.int 2)), (.un .neg (.con (.int 1))), (.con .none), (.con (.bool true)), (.con (.str "1")), (.tup [(.con (.int 0))]), (.bin .pow (.con (.int 10)) (.con (.int 60)))])]) [some (.ref 0), some (.d dt), some (.d nob), some (.d role), none, none, none] [bg a2 b2 c2, none] = .ok (.d person, false) [bg a3 b3 c3, none] := hn_e_call (R0_2_0 nob role a2 b2 c2 ) e3
  obtain ⟨hour, h_hour, a4, b4, c4, g4, e4⟩ := oneB_ok (P := pr) (f := 52) (g := 53) (n := 36) (N := N + 3) rfl rfl (by omega) (st := [bg a3 b3 c3, none]) (r := 0) (items := m_hour) rfl g3 (by first | decide | exact Nat.le_of_ble_eq_true rfl) (by first | decide | exact Nat.le_of_ble_eq_true rfl)
  have k4 : evE (callN pr 38) (newN pr 38) (.call 53 [(.var 0), (.lst [(.un .neg (.con (.int 1))), (.con (.int 101)), (.con .none), (.con (.bool true)), (.con (.str "5")), (.tup [(.con (.int 5))])])]) [some (.ref 0), some (.d dt), some (.d nob), some (.d role), none, none, none] [bg a3 b3 c3, none] = .ok (.d hour, false) [bg a4 b4 c4, none] := hn_e_call (R0_2_1 nob role a3 b3 c3 ) e4
  have kp2 : exS (callN pr 38) (newN pr 38) 4000 Rq2 [some (.ref 0), some (.d dt), some (.d nob), some (.d role), none, none, none] [bg a2 b2 c2, none] = .nx [some (.ref 0), some (.d dt), some (.d nob), some (.d role), some (.d person), some (.d hour), none] [bg a4 b4 c4, none] := hn_par (hn_ts k3 (hn_ts k4 rfl))
  rw [hn_ss_nx kp2]
  have kt3 : exS (callN pr 38) (newN pr 38) 4000 Rq3 [some (.ref 0), some (.d dt), some (.d nob), some (.d role), some (.d person), some (.d hour), none] [bg a4 b4 c4, none] = .nx [some (.ref 0), some (.d dt), some (.d nob), some (.d role), some (.d person), some (.d hour), none] [bg a4 b4 c4, none] := hn_s_no (R0_3_0 nob role person hour a4 b4 c4 h_nob)
  rw [hn_ss_nx kt3]
  have kt4 : exS (callN pr 38) (newN pr 38) 4000 Rq4 [some (.ref 0), some (.d dt), some (.d nob), some (.d role), some (.d person), some (.d hour), none] [bg a4 b4 c4, none] = .nx [some (.ref 0), some (.d dt), some (.d nob), some (.d role), some (.d person), some (.d hour), none] [bg a4 b4 c4, none] := hn_s_no (hn_e_ne (hn_repr (u := .d (.list [nm role, nm role, nm role, nm role, nm role, nm role, nm role, nm role, nu hour, wd "fine"])) (b := true) (hn_e_call rfl (R0_all0 nob role person hour a4 b4 c4 h_role h_hour)) rfl (chk1 h_role h_hour)) (hn_repr (u := .d (.list [nm role, nm role, nm role, nm role, nm role, nm role, nm role, nm role, nu hour, wd "fine"])) (b := true) (R0_v1 nob role person hour a4 b4 c4 ) rfl (chk1 h_role h_hour)) hn_unlike)
  rw [hn_ss_nx kt4]
  have kt5 : exS (callN pr 38) (newN pr 38) 4000 Rq5 [some (.ref 0), some (.d dt), some (.d nob), some (.d role), some (.d person), some (.d hour), none] [bg a4 b4 c4, none] = .nx [some (.ref 0), some (.d dt), some (.d nob), some (.d role), some (.d person), some (.d hour), none] [bg a4 b4 c4, none] := hn_s_no (hn_e_ne (hn_repr (u := .d (.list [nu person, nu person, nu person, nu person, nu person, nu person, wd "fine", wd "fine", nu hour, wd "fine"])) (b := true) (hn_e_call rfl (R0_all2 nob role person hour a4 b4 c4 h_person h_hour)) rfl (chk4 h_person h_hour)) (hn_repr (u := .d (.list [nu person, nu person, nu person, nu person, nu person, nu person, wd "fine", wd "fine", nu hour, wd "fine"])) (b := true) (R0_v3 nob role person hour a4 b4 c4 ) rfl (chk4 h_person h_hour)) hn_unlike)
  rw [hn_ss_nx kt5]
  rw [hn_ss_nx (R0_6 nob role person hour a4 b4 c4 h_hour)]
  have kt7 : exS (callN pr 38) (newN pr 38) 4000 Rq7 [some (.ref 0), some (.d dt), some (.d nob), some (.d role), some (.d person), some (.d hour), some (.d (.list [nu hour, nu hour, nu hour, nu hour, nu hour, wd "fine", wd "fine", wd "fine", nu hour, wd "fine", nu hour]))] [bg a4 b4 c4, none] = .ret (.d (.bool true)) false [bg a4 b4 c4, none] := hn_ret (hn_eq (hn_repr (u := .d (.list [nu hour, nu hour, nu hour, nu hour, nu hour, wd "fine", wd "fine", wd "fine", nu hour, wd "fine", nu hour])) (b := false) (R0_v4 nob role person hour a4 b4 c4 ) rfl (chk6 h_hour)) (hn_repr (u := .d (.list [nu hour, nu hour, nu hour, nu hour, nu hour, wd "fine", wd "fine", wd "fine", nu hour, wd "fine", nu hour])) (b := true) (R0_v5 nob role person hour a4 b4 c4 ) rfl (chk6 h_hour)) hn_same)
  rw [hn_ss_ret kt7]
  exact ⟨a4, b4, c4, g4, rfl⟩
abbrev Mq0 : Sx := .set 1 (.new 0 [(.con (.int 2)), (.tup [(.con (.str "in")), (.con (.str "old"))]), (.tup [(.tup [(.con (.str "one")), (.tup [(.con (.int 0)), (.con (.str "in"))]), (.con (.int 1))]), (.tup [(.con (.str "one")), (.tup [(.con (.int 0)), (.con (.str "in"))]), (.con (.int 0))])])])
abbrev Mq1 : Sx := .set 2 (.lst [(.con .none), (.tup []), (.tup [(.tup [(.con (.int 0)), (.con (.int 1))])]), (.lst [(.tup [(.con (.int 0)), (.con (.int 1))]), (.tup [(.con (.int 2)), (.con (.int 3))])]), (.tup [(.tup [(.con (.int 0)), (.con (.int 1))]), (.tup [(.con (.int 3)), (.con (.int 2))])]), (.tup [(.tup [(.con (.int 0)), (.con (.int 1))]), (.tup [(.con (.int 0)), (.con (.int 101))])]), (.tup [(.tup [(.un .neg (.con (.int 1))), (.con (.int 1))]), (.tup [(.con (.int 0)), (.con (.int 1))])]), (.tup [(.tup [(.con (.int 0)), (.con (.bool true))]), (.tup [(.con (.int 0)), (.con (.int 1))])])])
abbrev Mq2 : Sx := .set 2 (.bin .add (.var 2) (.lst [(.tup [(.tup [(.con (.int 0)), (.con (.int 1))]), (.tup [(.con (.int 0)), (.con (.int 1))]), (.tup [(.con (.int 0)), (.con (.int 1))])]), (.tup [(.tup [(.con (.int 0)), (.con (.int 1))]), (.lst [(.con (.int 0)), (.con (.int 1))])]), (.tup [(.tup [(.con (.int 0))]), (.tup [(.con (.int 1)), (.con (.int 2))])]), (.tup [(.tup [(.con (.int 0)), (.con .none)]), (.tup [(.con (.int 1)), (.con (.int 2))])])]))
abbrev Mq3 : Sx := .set 3 (.call 53 [(.var 0), (.lst [(.con .none), (.con (.str "book")), (.tup [(.con (.int 2)), (.tup [(.con (.str "in"))]), (.tup [])]), (.con (.int 7))])])
abbrev Mq4 : Sx := .ifs (.cmp .ne (.comp (.con (.int 1)) (.nm 4) .over [(.var 2)] [(.cmp .ne (.met 55 m55 (.new 1 [(.var 1), (.var 4)])) (.tup [(.con (.str "spans"))]))]) (.lst [])) [.ret (.con (.bool false))] []
abbrev Mq5 : Sx := .ifs (.cmp .ne (.met 55 m55 (.new 1 [(.var 3), (.idx (.var 2) (.con (.int 0)))])) (.tup [(.con (.str "book"))])) [.ret (.con (.bool false))] []
abbrev Mq6 : Sx := .ret (.cmp .eq (.met 55 m55 (.new 1 [(.var 1), (.tup [(.tup [(.con (.int 0)), (.con (.int 100))]), (.tup [(.con (.int 7)), (.con (.int 7))])])])) (.tup [(.con (.str "fine"))]))
theorem M0_0 (a b c : Int)  : exS (callN pr 38) (newN pr 38) 4000 Mq0 [some (.ref 0), none, none, none, none] [bg a b c] = .nx [some (.ref 0), some (.d (bk2)), none, none, none] [bg a b c] := by
  kernel_rfl
theorem M0_1 (a b c : Int)  : exS (callN pr 38) (newN pr 38) 4000 Mq1 [some (.ref 0), some (.d (bk2)), none, none, none] [bg a b c] = .nx [some (.ref 0), some (.d (bk2)), some (.d (odd1)), none, none] [bg a b c] := by
  kernel_rfl
theorem M0_2 (a b c : Int)  : exS (callN pr 38) (newN pr 38) 4000 Mq2 [some (.ref 0), some (.d (bk2)), some (.d (odd1)), none, none] [bg a b c] = .nx [some (.ref 0), some (.d (bk2)), some (.d (odd)), none, none] [bg a b c] := by
  kernel_rfl
theorem M0_3 (a b c : Int)  : evEs (callN pr 38) (newN pr 38) [(.var 0), (.lst [(.con .none), (.con (.str "book")), (.tup [(.con (.int 2)), (.tup [(.con (.str "in"))]), (.tup [])]), (.con (.int 7))])] [some (.ref 0), some (.d (bk2)), some (.d (odd)), none, none] [bg a b c] = .ok [.ref 0, .d (.list m_nob2)] [bg a b c] := by
  kernel_rfl
theorem M0_4_0 (nob2 : PyData) (a b c : Int)  : evE (callN pr 38) (newN pr 38) (.cmp .ne (.comp (.con (.int 1)) (.nm 4) .over [(.var 2)] [(.cmp .ne (.met 55 m55 (.new 1 [(.var 1), (.var 4)])) (.tup [(.con (.str "spans"))]))]) (.lst [])) [some (.ref 0), some (.d (bk2)), some (.d (odd)), some (.d nob2), none] [bg a b c] = .ok (.d (.bool false), false) [bg a b c] := by
  kernel_rfl
theorem M0_5_0 (nob2 : PyData) (a b c : Int) (h_nob2 : nob2 ∈ m_nob2) : evE (callN pr 38) (newN pr 38) (.cmp .ne (.met 55 m55 (.new 1 [(.var 3), (.idx (.var 2) (.con (.int 0)))])) (.tup [(.con (.str "book"))])) [some (.ref 0), some (.d (bk2)), some (.d (odd)), some (.d nob2), none] [bg a b c] = .ok (.d (.bool false), false) [bg a b c] := by
  simp only [m_nob2, List.mem_cons, List.not_mem_nil, or_false] at h_nob2
  rcases h_nob2 with rfl | rfl | rfl | rfl <;> kernel_rfl
theorem M0_6_0 (nob2 : PyData) (a b c : Int)  : evE (callN pr 38) (newN pr 38) (.cmp .eq (.met 55 m55 (.new 1 [(.var 1), (.tup [(.tup [(.con (.int 0)), (.con (.int 100))]), (.tup [(.con (.int 7)), (.con (.int 7))])])])) (.tup [(.con (.str "fine"))])) [some (.ref 0), some (.d (bk2)), some (.d (odd)), some (.d nob2), none] [bg a b c] = .ok (.d (.bool true), false) [bg a b c] := by
  kernel_rfl
theorem Mright0 {a b c : Int} {N : Nat} (hN : N < 900000) (g0 : GoodC (N + 0) a b c) : ∃ a' b' c', GoodC (N + 1) a' b' c' ∧ callN pr 39 58 [.ref 0] [bg a b c] = .ok (.d (.bool true), false) [bg a' b' c'] := by
  have c0 : callN pr 39 58 [.ref 0] [bg a b c] = endV 1 (exSs (callN pr 38) (newN pr 38) 4000 [Mq0, Mq1, Mq2, Mq3, Mq4, Mq5, Mq6] [some (.ref 0), none, none, none, none] [bg a b c]) := hn_call_eq (P := pr) (f := 58) (n := 38) (fn := f58) rfl ⟨rfl, by decide⟩
  rw [c0]
  rw [hn_ss_nx (M0_0  a b c )]
  rw [hn_ss_nx (M0_1  a b c )]
  rw [hn_ss_nx (M0_2  a b c )]
  obtain ⟨nob2, h_nob2, a1, b1, c1, g1, e1⟩ := oneB_ok (P := pr) (f := 52) (g := 53) (n := 36) (N := N + 0) rfl rfl (by omega) (st := [bg a b c]) (r := 0) (items := m_nob2) rfl g0 (by first | decide | exact Nat.le_of_ble_eq_true rfl) (by first | decide | exact Nat.le_of_ble_eq_true rfl)
  have k1 : exS (callN pr 38) (newN pr 38) 4000 Mq3 [some (.ref 0), some (.d (bk2)), some (.d (odd)), none, none] [bg a b c] = .nx [some (.ref 0), some (.d (bk2)), some (.d (odd)), some (.d nob2), none] [bg a1 b1 c1] := hn_s_call (M0_3  a b c ) e1
  rw [hn_ss_nx k1]
  have kt4 : exS (callN pr 38) (newN pr 38) 4000 Mq4 [some (.ref 0), some (.d (bk2)), some (.d (odd)), some (.d nob2), none] [bg a1 b1 c1] = .nx [some (.ref 0), some (.d (bk2)), some (.d (odd)), some (.d nob2), none] [bg a1 b1 c1] := hn_s_no (M0_4_0 nob2 a1 b1 c1 )
  rw [hn_ss_nx kt4]
  have kt5 : exS (callN pr 38) (newN pr 38) 4000 Mq5 [some (.ref 0), some (.d (bk2)), some (.d (odd)), some (.d nob2), none] [bg a1 b1 c1] = .nx [some (.ref 0), some (.d (bk2)), some (.d (odd)), some (.d nob2), none] [bg a1 b1 c1] := hn_s_no (M0_5_0 nob2 a1 b1 c1 h_nob2)
  rw [hn_ss_nx kt5]
  have kt6 : exS (callN pr 38) (newN pr 38) 4000 Mq6 [some (.ref 0), some (.d (bk2)), some (.d (odd)), some (.d nob2), none] [bg a1 b1 c1] = .ret (.d (.bool true)) false [bg a1 b1 c1] := hn_ret (M0_6_0 nob2 a1 b1 c1 )
  rw [hn_ss_ret kt6]
  exact ⟨a1, b1, c1, g1, rfl⟩
theorem R1_0 (p0 : Option Ob) (a b c : Int)  : evEs (callN pr 38) (newN pr 38) [(.var 0), (.lst [(.con .none), (.con (.str "dated")), (.prop (.get "book") (.var 1) [(1, 68)]), (.tup [(.tup [(.con (.int 0)), (.con (.int 1))])]), (.con (.int 7)), (.dnew false)])] [some (.ref 1), some (.d dt), none, none, none, none, none] [p0, bg a b c] = .ok [.ref 1, .d (.list m_nob)] [p0, bg a b c, none] := by
  kernel_rfl
theorem R1_1 (p0 : Option Ob) (nob : PyData) (a b c : Int)  : evEs (callN pr 38) (newN pr 38) [(.var 0), (.lst [(.tup [(.con (.int 2)), (.con (.str "in"))]), (.tup [(.con (.int 0)), (.con (.str "on"))]), (.tup [(.un .neg (.con (.int 1))), (.con (.str "in"))]), (.lst [(.con (.int 0)), (.con (.str "in"))]), (.tup [(.con (.bool true)), (.con (.str "in"))]), (.tup [(.con (.int 0))]), (.con (.str "in")), (.con .none)])] [some (.ref 1), some (.d dt), some (.d nob), none, none, none, none] [p0, bg a b c, none] = .ok [.ref 1, .d (.list m_role)] [p0, bg a b c, none] := by
  kernel_rfl
theorem R1_2_0 (p0 : Option Ob) (nob role : PyData) (a b c : Int)  : evEs (callN pr 38) (newN pr 38) [(.var 0), (.lst [(.con (.int 2)), (.un .neg (.con (.int 1))), (.con .none), (.con (.bool true)), (.con (.str "1")), (.tup [(.con (.int 0))]), (.bin .pow (.con (.int 10)) (.con (.int 60)))])] [some (.ref 1), some (.d dt), some (.d nob), some (.d role), none, none, none] [p0, bg a b c, none] = .ok [.ref 1, .d (.list m_person)] [p0, bg a b c, none] := by
  kernel_rfl
theorem R1_2_1 (p0 : Option Ob) (nob role : PyData) (a b c : Int)  : evEs (callN pr 38) (newN pr 38) [(.var 0), (.lst [(.un .neg (.con (.int 1))), (.con (.int 101)), (.con .none), (.con (.bool true)), (.con (.str "5")), (.tup [(.con (.int 5))])])] [some (.ref 1), some (.d dt), some (.d nob), some (.d role), none, none, none] [p0, bg a b c, none] = .ok [.ref 1, .d (.list m_hour)] [p0, bg a b c, none] := by
  kernel_rfl
theorem R1_3_0 (p0 : Option Ob) (nob role person hour : PyData) (a b c : Int) (h_nob : nob ∈ m_nob) : evE (callN pr 38) (newN pr 38) (.cmp .ne (.call 56 [(.var 2), (.var 3), (.var 4), (.var 5), (.var 5)]) (.bin .mul (.lst [(.tup [(.con (.str "spans"))])]) (.con (.int 10)))) [some (.ref 1), some (.d dt), some (.d nob), some (.d role), some (.d person), some (.d hour), none] [p0, bg a b c, none] = .ok (.d (.bool false), false) [p0, bg a b c, none] := by
  simp only [m_nob, List.mem_cons, List.not_mem_nil, or_false] at h_nob
  rcases h_nob with rfl | rfl | rfl | rfl | rfl | rfl <;> kernel_rfl
theorem R1_all0_0 (p0 : Option Ob) (nob role person hour : PyData) (a b c : Int) (h_role : role ∈ m_role) : exS (callN pr 37) (newN pr 37) 4000 w56q0 [some (.d dt), some (.d role), some (.d person), some (.d hour), some (.d hour), none] [p0, bg a b c, none] = .nx [some (.d dt), some (.d role), some (.d person), some (.d hour), some (.d hour), some (.ref 3)] [p0, bg a b c, none, some (.lst [nm role, nm role])] := by
  simp only [m_role, List.mem_cons, List.not_mem_nil, or_false] at h_role
  rcases h_role with rfl | rfl | rfl | rfl | rfl | rfl | rfl | rfl <;> kernel_rfl
theorem R1_all0_1 (p0 : Option Ob) (nob role person hour : PyData) (a b c : Int) (h_role : role ∈ m_role) : exS (callN pr 37) (newN pr 37) 4000 w56q1 [some (.d dt), some (.d role), some (.d person), some (.d hour), some (.d hour), some (.ref 3)] [p0, bg a b c, none, some (.lst [nm role, nm role])] = .nx [some (.d dt), some (.d role), some (.d person), some (.d hour), some (.d hour), some (.ref 3)] [p0, bg a b c, none, some (.lst [nm role, nm role, nm role])] := by
  simp only [m_role, List.mem_cons, List.not_mem_nil, or_false] at h_role
  rcases h_role with rfl | rfl | rfl | rfl | rfl | rfl | rfl | rfl <;> kernel_rfl
theorem R1_all0_2 (p0 : Option Ob) (nob role person hour : PyData) (a b c : Int) (h_role : role ∈ m_role) : exS (callN pr 37) (newN pr 37) 4000 w56q2 [some (.d dt), some (.d role), some (.d person), some (.d hour), some (.d hour), some (.ref 3)] [p0, bg a b c, none, some (.lst [nm role, nm role, nm role])] = .nx [some (.d dt), some (.d role), some (.d person), some (.d hour), some (.d hour), some (.ref 3)] [p0, bg a b c, none, some (.lst [nm role, nm role, nm role, nm role])] := by
  simp only [m_role, List.mem_cons, List.not_mem_nil, or_false] at h_role
  rcases h_role with rfl | rfl | rfl | rfl | rfl | rfl | rfl | rfl <;> kernel_rfl
theorem R1_all0_3 (p0 : Option Ob) (nob role person hour : PyData) (a b c : Int) (h_role : role ∈ m_role) : exS (callN pr 37) (newN pr 37) 4000 w56q3 [some (.d dt), some (.d role), some (.d person), some (.d hour), some (.d hour), some (.ref 3)] [p0, bg a b c, none, some (.lst [nm role, nm role, nm role, nm role])] = .nx [some (.d dt), some (.d role), some (.d person), some (.d hour), some (.d hour), some (.ref 3)] [p0, bg a b c, none, some (.lst [nm role, nm role, nm role, nm role, nm role])] := by
  simp only [m_role, List.mem_cons, List.not_mem_nil, or_false] at h_role
  rcases h_role with rfl | rfl | rfl | rfl | rfl | rfl | rfl | rfl <;> kernel_rfl
theorem R1_all0_4 (p0 : Option Ob) (nob role person hour : PyData) (a b c : Int) (h_role : role ∈ m_role) : exS (callN pr 37) (newN pr 37) 4000 w56q4 [some (.d dt), some (.d role), some (.d person), some (.d hour), some (.d hour), some (.ref 3)] [p0, bg a b c, none, some (.lst [nm role, nm role, nm role, nm role, nm role])] = .nx [some (.d dt), some (.d role), some (.d person), some (.d hour), some (.d hour), some (.ref 3)] [p0, bg a b c, none, some (.lst [nm role, nm role, nm role, nm role, nm role, nm role])] := by
  simp only [m_role, List.mem_cons, List.not_mem_nil, or_false] at h_role
  rcases h_role with rfl | rfl | rfl | rfl | rfl | rfl | rfl | rfl <;> kernel_rfl
theorem R1_all0_5 (p0 : Option Ob) (nob role person hour : PyData) (a b c : Int) (h_role : role ∈ m_role) : exS (callN pr 37) (newN pr 37) 4000 w56q5 [some (.d dt), some (.d role), some (.d person), some (.d hour), some (.d hour), some (.ref 3)] [p0, bg a b c, none, some (.lst [nm role, nm role, nm role, nm role, nm role, nm role])] = .nx [some (.d dt), some (.d role), some (.d person), some (.d hour), some (.d hour), some (.ref 3)] [p0, bg a b c, none, some (.lst [nm role, nm role, nm role, nm role, nm role, nm role, nm role])] := by
  simp only [m_role, List.mem_cons, List.not_mem_nil, or_false] at h_role
  rcases h_role with rfl | rfl | rfl | rfl | rfl | rfl | rfl | rfl <;> kernel_rfl
theorem R1_all0_6 (p0 : Option Ob) (nob role person hour : PyData) (a b c : Int) (h_role : role ∈ m_role) : exS (callN pr 37) (newN pr 37) 4000 w56q6 [some (.d dt), some (.d role), some (.d person), some (.d hour), some (.d hour), some (.ref 3)] [p0, bg a b c, none, some (.lst [nm role, nm role, nm role, nm role, nm role, nm role, nm role])] = .nx [some (.d dt), some (.d role), some (.d person), some (.d hour), some (.d hour), some (.ref 3)] [p0, bg a b c, none, some (.lst [nm role, nm role, nm role, nm role, nm role, nm role, nm role, nm role])] := by
  simp only [m_role, List.mem_cons, List.not_mem_nil, or_false] at h_role
  rcases h_role with rfl | rfl | rfl | rfl | rfl | rfl | rfl | rfl <;> kernel_rfl
theorem R1_all0_7 (p0 : Option Ob) (nob role person hour : PyData) (a b c : Int) (h_hour : hour ∈ m_hour) : exS (callN pr 37) (newN pr 37) 4000 w56q7 [some (.d dt), some (.d role), some (.d person), some (.d hour), some (.d hour), some (.ref 3)] [p0, bg a b c, none, some (.lst [nm role, nm role, nm role, nm role, nm role, nm role, nm role, nm role])] = .nx [some (.d dt), some (.d role), some (.d person), some (.d hour), some (.d hour), some (.ref 3)] [p0, bg a b c, none, some (.lst [nm role, nm role, nm role, nm role, nm role, nm role, nm role, nm role, nu hour])] := by
  simp only [m_hour, List.mem_cons, List.not_mem_nil, or_false] at h_hour
  rcases h_hour with rfl | rfl | rfl | rfl | rfl | rfl <;> kernel_rfl
theorem R1_all0_8 (p0 : Option Ob) (nob role person hour : PyData) (a b c : Int)  : exS (callN pr 37) (newN pr 37) 4000 w56q8 [some (.d dt), some (.d role), some (.d person), some (.d hour), some (.d hour), some (.ref 3)] [p0, bg a b c, none, some (.lst [nm role, nm role, nm role, nm role, nm role, nm role, nm role, nm role, nu hour])] = .nx [some (.d dt), some (.d role), some (.d person), some (.d hour), some (.d hour), some (.ref 3)] [p0, bg a b c, none, some (.lst [nm role, nm role, nm role, nm role, nm role, nm role, nm role, nm role, nu hour, wd "fine"])] := by
  kernel_rfl
theorem R1_all0_9 (p0 : Option Ob) (nob role person hour : PyData) (a b c : Int)  : exS (callN pr 37) (newN pr 37) 4000 w56q9 [some (.d dt), some (.d role), some (.d person), some (.d hour), some (.d hour), some (.ref 3)] [p0, bg a b c, none, some (.lst [nm role, nm role, nm role, nm role, nm role, nm role, nm role, nm role, nu hour, wd "fine"])] = .ret (.ref 3) false [p0, bg a b c, none, some (.lst [nm role, nm role, nm role, nm role, nm role, nm role, nm role, nm role, nu hour, wd "fine"])] := by
  kernel_rfl
theorem R1_all0 (p0 : Option Ob) (nob role person hour : PyData) (a b c : Int) (h_role : role ∈ m_role) (h_hour : hour ∈ m_hour) : callN pr 38 56 [.d dt, .d role, .d person, .d hour, .d hour] [p0, bg a b c, none] = .ok (.d (.list [nm role, nm role, nm role, nm role, nm role, nm role, nm role, nm role, nu hour, wd "fine"]), true) [p0, bg a b c, none] := by
  have c0 : callN pr 38 56 [.d dt, .d role, .d person, .d hour, .d hour] [p0, bg a b c, none] = endV 3 (exSs (callN pr 37) (newN pr 37) 4000 [w56q0, w56q1, w56q2, w56q3, w56q4, w56q5, w56q6, w56q7, w56q8, w56q9] [some (.d dt), some (.d role), some (.d person), some (.d hour), some (.d hour), none] [p0, bg a b c, none]) := hn_call_eq (P := pr) (f := 56) (n := 37) (fn := f56) rfl ⟨rfl, by decide⟩
  rw [c0, hn_ss_nx (R1_all0_0 p0 nob role person hour a b c h_role), hn_ss_nx (R1_all0_1 p0 nob role person hour a b c h_role), hn_ss_nx (R1_all0_2 p0 nob role person hour a b c h_role), hn_ss_nx (R1_all0_3 p0 nob role person hour a b c h_role), hn_ss_nx (R1_all0_4 p0 nob role person hour a b c h_role), hn_ss_nx (R1_all0_5 p0 nob role person hour a b c h_role), hn_ss_nx (R1_all0_6 p0 nob role person hour a b c h_role), hn_ss_nx (R1_all0_7 p0 nob role person hour a b c h_hour), hn_ss_nx (R1_all0_8 p0 nob role person hour a b c ), hn_ss_ret (R1_all0_9 p0 nob role person hour a b c )]
  rfl
theorem R1_v1 (p0 : Option Ob) (nob role person hour : PyData) (a b c : Int)  : evE (callN pr 38) (newN pr 38) (.bin .add (.bin .mul (.lst [(.tup [(.con (.str "name")), (.var 3)])]) (.con (.int 8))) (.lst [(.tup [(.con (.str "number")), (.var 5)]), (.tup [(.con (.str "fine"))])])) [some (.ref 1), some (.d dt), some (.d nob), some (.d role), some (.d person), some (.d hour), none] [p0, bg a b c, none] = .ok (.d (.list [nm role, nm role, nm role, nm role, nm role, nm role, nm role, nm role, nu hour, wd "fine"]), true) [p0, bg a b c, none] := by
  kernel_rfl
theorem R1_all2_0 (p0 : Option Ob) (nob role person hour : PyData) (a b c : Int) (h_person : person ∈ m_person) : exS (callN pr 37) (newN pr 37) 4000 w56q0 [some (.d dt), some (.d (.tuple [.int 0, .str "in"])), some (.d person), some (.d hour), some (.d hour), none] [p0, bg a b c, none] = .nx [some (.d dt), some (.d (.tuple [.int 0, .str "in"])), some (.d person), some (.d hour), some (.d hour), some (.ref 3)] [p0, bg a b c, none, some (.lst [nu person, nu person])] := by
  simp only [m_person, List.mem_cons, List.not_mem_nil, or_false] at h_person
  rcases h_person with rfl | rfl | rfl | rfl | rfl | rfl | rfl <;> kernel_rfl
theorem R1_all2_1 (p0 : Option Ob) (nob role person hour : PyData) (a b c : Int) (h_person : person ∈ m_person) : exS (callN pr 37) (newN pr 37) 4000 w56q1 [some (.d dt), some (.d (.tuple [.int 0, .str "in"])), some (.d person), some (.d hour), some (.d hour), some (.ref 3)] [p0, bg a b c, none, some (.lst [nu person, nu person])] = .nx [some (.d dt), some (.d (.tuple [.int 0, .str "in"])), some (.d person), some (.d hour), some (.d hour), some (.ref 3)] [p0, bg a b c, none, some (.lst [nu person, nu person, nu person])] := by
  simp only [m_person, List.mem_cons, List.not_mem_nil, or_false] at h_person
  rcases h_person with rfl | rfl | rfl | rfl | rfl | rfl | rfl <;> kernel_rfl
theorem R1_all2_2 (p0 : Option Ob) (nob role person hour : PyData) (a b c : Int) (h_person : person ∈ m_person) : exS (callN pr 37) (newN pr 37) 4000 w56q2 [some (.d dt), some (.d (.tuple [.int 0, .str "in"])), some (.d person), some (.d hour), some (.d hour), some (.ref 3)] [p0, bg a b c, none, some (.lst [nu person, nu person, nu person])] = .nx [some (.d dt), some (.d (.tuple [.int 0, .str "in"])), some (.d person), some (.d hour), some (.d hour), some (.ref 3)] [p0, bg a b c, none, some (.lst [nu person, nu person, nu person, nu person])] := by
  simp only [m_person, List.mem_cons, List.not_mem_nil, or_false] at h_person
  rcases h_person with rfl | rfl | rfl | rfl | rfl | rfl | rfl <;> kernel_rfl
theorem R1_all2_3 (p0 : Option Ob) (nob role person hour : PyData) (a b c : Int) (h_person : person ∈ m_person) : exS (callN pr 37) (newN pr 37) 4000 w56q3 [some (.d dt), some (.d (.tuple [.int 0, .str "in"])), some (.d person), some (.d hour), some (.d hour), some (.ref 3)] [p0, bg a b c, none, some (.lst [nu person, nu person, nu person, nu person])] = .nx [some (.d dt), some (.d (.tuple [.int 0, .str "in"])), some (.d person), some (.d hour), some (.d hour), some (.ref 3)] [p0, bg a b c, none, some (.lst [nu person, nu person, nu person, nu person, nu person])] := by
  simp only [m_person, List.mem_cons, List.not_mem_nil, or_false] at h_person
  rcases h_person with rfl | rfl | rfl | rfl | rfl | rfl | rfl <;> kernel_rfl
theorem R1_all2_4 (p0 : Option Ob) (nob role person hour : PyData) (a b c : Int) (h_person : person ∈ m_person) : exS (callN pr 37) (newN pr 37) 4000 w56q4 [some (.d dt), some (.d (.tuple [.int 0, .str "in"])), some (.d person), some (.d hour), some (.d hour), some (.ref 3)] [p0, bg a b c, none, some (.lst [nu person, nu person, nu person, nu person, nu person])] = .nx [some (.d dt), some (.d (.tuple [.int 0, .str "in"])), some (.d person), some (.d hour), some (.d hour), some (.ref 3)] [p0, bg a b c, none, some (.lst [nu person, nu person, nu person, nu person, nu person, nu person])] := by
  simp only [m_person, List.mem_cons, List.not_mem_nil, or_false] at h_person
  rcases h_person with rfl | rfl | rfl | rfl | rfl | rfl | rfl <;> kernel_rfl
theorem R1_all2_5 (p0 : Option Ob) (nob role person hour : PyData) (a b c : Int)  : exS (callN pr 37) (newN pr 37) 4000 w56q5 [some (.d dt), some (.d (.tuple [.int 0, .str "in"])), some (.d person), some (.d hour), some (.d hour), some (.ref 3)] [p0, bg a b c, none, some (.lst [nu person, nu person, nu person, nu person, nu person, nu person])] = .nx [some (.d dt), some (.d (.tuple [.int 0, .str "in"])), some (.d person), some (.d hour), some (.d hour), some (.ref 3)] [p0, bg a b c, none, some (.lst [nu person, nu person, nu person, nu person, nu person, nu person, wd "fine"])] := by
  kernel_rfl
theorem R1_all2_6 (p0 : Option Ob) (nob role person hour : PyData) (a b c : Int)  : exS (callN pr 37) (newN pr 37) 4000 w56q6 [some (.d dt), some (.d (.tuple [.int 0, .str "in"])), some (.d person), some (.d hour), some (.d hour), some (.ref 3)] [p0, bg a b c, none, some (.lst [nu person, nu person, nu person, nu person, nu person, nu person, wd "fine"])] = .nx [some (.d dt), some (.d (.tuple [.int 0, .str "in"])), some (.d person), some (.d hour), some (.d hour), some (.ref 3)] [p0, bg a b c, none, some (.lst [nu person, nu person, nu person, nu person, nu person, nu person, wd "fine", wd "fine"])] := by
  kernel_rfl
theorem R1_all2_7 (p0 : Option Ob) (nob role person hour : PyData) (a b c : Int) (h_hour : hour ∈ m_hour) : exS (callN pr 37) (newN pr 37) 4000 w56q7 [some (.d dt), some (.d (.tuple [.int 0, .str "in"])), some (.d person), some (.d hour), some (.d hour), some (.ref 3)] [p0, bg a b c, none, some (.lst [nu person, nu person, nu person, nu person, nu person, nu person, wd "fine", wd "fine"])] = .nx [some (.d dt), some (.d (.tuple [.int 0, .str "in"])), some (.d person), some (.d hour), some (.d hour), some (.ref 3)] [p0, bg a b c, none, some (.lst [nu person, nu person, nu person, nu person, nu person, nu person, wd "fine", wd "fine", nu hour])] := by
  simp only [m_hour, List.mem_cons, List.not_mem_nil, or_false] at h_hour
  rcases h_hour with rfl | rfl | rfl | rfl | rfl | rfl <;> kernel_rfl
theorem R1_all2_8 (p0 : Option Ob) (nob role person hour : PyData) (a b c : Int)  : exS (callN pr 37) (newN pr 37) 4000 w56q8 [some (.d dt), some (.d (.tuple [.int 0, .str "in"])), some (.d person), some (.d hour), some (.d hour), some (.ref 3)] [p0, bg a b c, none, some (.lst [nu person, nu person, nu person, nu person, nu person, nu person, wd "fine", wd "fine", nu hour])] = .nx [some (.d dt), some (.d (.tuple [.int 0, .str "in"])), some (.d person), some (.d hour), some (.d hour), some (.ref 3)] [p0, bg a b c, none, some (.lst [nu person, nu person, nu person, nu person, nu person, nu person, wd "fine", wd "fine", nu hour, wd "fine"])] := by
  kernel_rfl
theorem R1_all2_9 (p0 : Option Ob) (nob role person hour : PyData) (a b c : Int)  : exS (callN pr 37) (newN pr 37) 4000 w56q9 [some (.d dt), some (.d (.tuple [.int 0, .str "in"])), some (.d person), some (.d hour), some (.d hour), some (.ref 3)] [p0, bg a b c, none, some (.lst [nu person, nu person, nu person, nu person, nu person, nu person, wd "fine", wd "fine", nu hour, wd "fine"])] = .ret (.ref 3) false [p0, bg a b c, none, some (.lst [nu person, nu person, nu person, nu person, nu person, nu person, wd "fine", wd "fine", nu hour, wd "fine"])] := by
  kernel_rfl
theorem R1_all2 (p0 : Option Ob) (nob role person hour : PyData) (a b c : Int) (h_person : person ∈ m_person) (h_hour : hour ∈ m_hour) : callN pr 38 56 [.d dt, .d (.tuple [.int 0, .str "in"]), .d person, .d hour, .d hour] [p0, bg a b c, none] = .ok (.d (.list [nu person, nu person, nu person, nu person, nu person, nu person, wd "fine", wd "fine", nu hour, wd "fine"]), true) [p0, bg a b c, none] := by
  have c0 : callN pr 38 56 [.d dt, .d (.tuple [.int 0, .str "in"]), .d person, .d hour, .d hour] [p0, bg a b c, none] = endV 3 (exSs (callN pr 37) (newN pr 37) 4000 [w56q0, w56q1, w56q2, w56q3, w56q4, w56q5, w56q6, w56q7, w56q8, w56q9] [some (.d dt), some (.d (.tuple [.int 0, .str "in"])), some (.d person), some (.d hour), some (.d hour), none] [p0, bg a b c, none]) := hn_call_eq (P := pr) (f := 56) (n := 37) (fn := f56) rfl ⟨rfl, by decide⟩
  rw [c0, hn_ss_nx (R1_all2_0 p0 nob role person hour a b c h_person), hn_ss_nx (R1_all2_1 p0 nob role person hour a b c h_person), hn_ss_nx (R1_all2_2 p0 nob role person hour a b c h_person), hn_ss_nx (R1_all2_3 p0 nob role person hour a b c h_person), hn_ss_nx (R1_all2_4 p0 nob role person hour a b c h_person), hn_ss_nx (R1_all2_5 p0 nob role person hour a b c ), hn_ss_nx (R1_all2_6 p0 nob role person hour a b c ), hn_ss_nx (R1_all2_7 p0 nob role person hour a b c h_hour), hn_ss_nx (R1_all2_8 p0 nob role person hour a b c ), hn_ss_ret (R1_all2_9 p0 nob role person hour a b c )]
  rfl
theorem R1_v3 (p0 : Option Ob) (nob role person hour : PyData) (a b c : Int)  : evE (callN pr 38) (newN pr 38) (.bin .add (.bin .add (.bin .mul (.lst [(.tup [(.con (.str "number")), (.var 4)])]) (.con (.int 6))) (.bin .mul (.lst [(.tup [(.con (.str "fine"))])]) (.con (.int 2)))) (.lst [(.tup [(.con (.str "number")), (.var 5)]), (.tup [(.con (.str "fine"))])])) [some (.ref 1), some (.d dt), some (.d nob), some (.d role), some (.d person), some (.d hour), none] [p0, bg a b c, none] = .ok (.d (.list [nu person, nu person, nu person, nu person, nu person, nu person, wd "fine", wd "fine", nu hour, wd "fine"]), true) [p0, bg a b c, none] := by
  kernel_rfl
theorem R1_6 (p0 : Option Ob) (nob role person hour : PyData) (a b c : Int) (h_hour : hour ∈ m_hour) : exS (callN pr 38) (newN pr 38) 4000 Rq6 [some (.ref 1), some (.d dt), some (.d nob), some (.d role), some (.d person), some (.d hour), none] [p0, bg a b c, none] = .nx [some (.ref 1), some (.d dt), some (.d nob), some (.d role), some (.d person), some (.d hour), some (.d (.list [nu hour, nu hour, nu hour, nu hour, nu hour, wd "fine", wd "fine", wd "fine", nu hour, wd "fine", nu hour]))] [p0, bg a b c, none] := by
  simp only [m_hour, List.mem_cons, List.not_mem_nil, or_false] at h_hour
  rcases h_hour with rfl | rfl | rfl | rfl | rfl | rfl <;> kernel_rfl
theorem R1_v4 (p0 : Option Ob) (nob role person hour : PyData) (a b c : Int)  : evE (callN pr 38) (newN pr 38) (.var 6) [some (.ref 1), some (.d dt), some (.d nob), some (.d role), some (.d person), some (.d hour), some (.d (.list [nu hour, nu hour, nu hour, nu hour, nu hour, wd "fine", wd "fine", wd "fine", nu hour, wd "fine", nu hour]))] [p0, bg a b c, none] = .ok (.d (.list [nu hour, nu hour, nu hour, nu hour, nu hour, wd "fine", wd "fine", wd "fine", nu hour, wd "fine", nu hour]), false) [p0, bg a b c, none] := by
  kernel_rfl
theorem R1_v5 (p0 : Option Ob) (nob role person hour : PyData) (a b c : Int)  : evE (callN pr 38) (newN pr 38) (.bin .add (.bin .add (.bin .mul (.lst [(.tup [(.con (.str "number")), (.var 5)])]) (.con (.int 5))) (.bin .mul (.lst [(.tup [(.con (.str "fine"))])]) (.con (.int 3)))) (.lst [(.tup [(.con (.str "number")), (.var 5)]), (.tup [(.con (.str "fine"))]), (.tup [(.con (.str "number")), (.var 5)])])) [some (.ref 1), some (.d dt), some (.d nob), some (.d role), some (.d person), some (.d hour), some (.d (.list [nu hour, nu hour, nu hour, nu hour, nu hour, wd "fine", wd "fine", wd "fine", nu hour, wd "fine", nu hour]))] [p0, bg a b c, none] = .ok (.d (.list [nu hour, nu hour, nu hour, nu hour, nu hour, wd "fine", wd "fine", wd "fine", nu hour, wd "fine", nu hour]), true) [p0, bg a b c, none] := by
  kernel_rfl
theorem Rright1 (p0 : Option Ob) {a b c : Int} {N : Nat} (hN : N < 900000) (g0 : GoodC (N + 0) a b c) : ∃ a' b' c', GoodC (N + 4) a' b' c' ∧ callN pr 39 57 [.ref 1, .d dt] [p0, bg a b c] = .ok (.d (.bool true), false) [p0, bg a' b' c'] := by
  have c0 : callN pr 39 57 [.ref 1, .d dt] [p0, bg a b c] = endV 2 (exSs (callN pr 38) (newN pr 38) 4000 [Rq0, Rq1, Rq2, Rq3, Rq4, Rq5, Rq6, Rq7] [some (.ref 1), some (.d dt), none, none, none, none, none] [p0, bg a b c]) := hn_call_eq (P := pr) (f := 57) (n := 38) (fn := f57) rfl ⟨rfl, by decide⟩
  rw [c0]
  obtain ⟨nob, h_nob, a1, b1, c1, g1, e1⟩ := oneB_ok (P := pr) (f := 52) (g := 53) (n := 36) (N := N + 0) rfl rfl (by omega) (st := [p0, bg a b c, none]) (r := 1) (items := m_nob) rfl g0 (by first | decide | exact Nat.le_of_ble_eq_true rfl) (by first | decide | exact Nat.le_of_ble_eq_true rfl)
  have k1 : exS (callN pr 38) (newN pr 38) 4000 Rq0 [some (.ref 1), some (.d dt), none, none, none, none, none] [p0, bg a b c] = .nx [some (.ref 1), some (.d dt), some (.d nob), none, none, none, none] [p0, bg a1 b1 c1, none] := hn_s_call (R1_0 p0  a b c ) e1
  rw [hn_ss_nx k1]
  obtain ⟨role, h_role, a2, b2, c2, g2, e2⟩ := oneB_ok (P := pr) (f := 52) (g := 53) (n := 36) (N := N + 1) rfl rfl (by omega) (st := [p0, bg a1 b1 c1, none]) (r := 1) (items := m_role) rfl g1 (by first | decide | exact Nat.le_of_ble_eq_true rfl) (by first | decide | exact Nat.le_of_ble_eq_true rfl)
  have k2 : exS (callN pr 38) (newN pr 38) 4000 Rq1 [some (.ref 1), some (.d dt), some (.d nob), none, none, none, none] [p0, bg a1 b1 c1, none] = .nx [some (.ref 1), some (.d dt), some (.d nob), some (.d role), none, none, none] [p0, bg a2 b2 c2, none] := hn_s_call (R1_1 p0 nob a1 b1 c1 ) e2
  rw [hn_ss_nx k2]
  obtain ⟨person, h_person, a3, b3, c3, g3, e3⟩ := oneB_ok (P := pr) (f := 52) (g := 53) (n := 36) (N := N + 2) rfl rfl (by omega) (st := [p0, bg a2 b2 c2, none]) (r := 1) (items := m_person) rfl g2 (by first | decide | exact Nat.le_of_ble_eq_true rfl) (by first | decide | exact Nat.le_of_ble_eq_true rfl)
  have k3 : evE (callN pr 38) (newN pr 38) (.call 53 [(.var 0), (.lst [(.con (.int 2)), (.un .neg (.con (.int 1))), (.con .none), (.con (.bool true)), (.con (.str "1")), (.tup [(.con (.int 0))]), (.bin .pow (.con (.int 10)) (.con (.int 60)))])]) [some (.ref 1), some (.d dt), some (.d nob), some (.d role), none, none, none] [p0, bg a2 b2 c2, none] = .ok (.d person, false) [p0, bg a3 b3 c3, none] := hn_e_call (R1_2_0 p0 nob role a2 b2 c2 ) e3
  obtain ⟨hour, h_hour, a4, b4, c4, g4, e4⟩ := oneB_ok (P := pr) (f := 52) (g := 53) (n := 36) (N := N + 3) rfl rfl (by omega) (st := [p0, bg a3 b3 c3, none]) (r := 1) (items := m_hour) rfl g3 (by first | decide | exact Nat.le_of_ble_eq_true rfl) (by first | decide | exact Nat.le_of_ble_eq_true rfl)
  have k4 : evE (callN pr 38) (newN pr 38) (.call 53 [(.var 0), (.lst [(.un .neg (.con (.int 1))), (.con (.int 101)), (.con .none), (.con (.bool true)), (.con (.str "5")), (.tup [(.con (.int 5))])])]) [some (.ref 1), some (.d dt), some (.d nob), some (.d role), none, none, none] [p0, bg a3 b3 c3, none] = .ok (.d hour, false) [p0, bg a4 b4 c4, none] := hn_e_call (R1_2_1 p0 nob role a3 b3 c3 ) e4
  have kp2 : exS (callN pr 38) (newN pr 38) 4000 Rq2 [some (.ref 1), some (.d dt), some (.d nob), some (.d role), none, none, none] [p0, bg a2 b2 c2, none] = .nx [some (.ref 1), some (.d dt), some (.d nob), some (.d role), some (.d person), some (.d hour), none] [p0, bg a4 b4 c4, none] := hn_par (hn_ts k3 (hn_ts k4 rfl))
  rw [hn_ss_nx kp2]
  have kt3 : exS (callN pr 38) (newN pr 38) 4000 Rq3 [some (.ref 1), some (.d dt), some (.d nob), some (.d role), some (.d person), some (.d hour), none] [p0, bg a4 b4 c4, none] = .nx [some (.ref 1), some (.d dt), some (.d nob), some (.d role), some (.d person), some (.d hour), none] [p0, bg a4 b4 c4, none] := hn_s_no (R1_3_0 p0 nob role person hour a4 b4 c4 h_nob)
  rw [hn_ss_nx kt3]
  have kt4 : exS (callN pr 38) (newN pr 38) 4000 Rq4 [some (.ref 1), some (.d dt), some (.d nob), some (.d role), some (.d person), some (.d hour), none] [p0, bg a4 b4 c4, none] = .nx [some (.ref 1), some (.d dt), some (.d nob), some (.d role), some (.d person), some (.d hour), none] [p0, bg a4 b4 c4, none] := hn_s_no (hn_e_ne (hn_repr (u := .d (.list [nm role, nm role, nm role, nm role, nm role, nm role, nm role, nm role, nu hour, wd "fine"])) (b := true) (hn_e_call rfl (R1_all0 p0 nob role person hour a4 b4 c4 h_role h_hour)) rfl (chk1 h_role h_hour)) (hn_repr (u := .d (.list [nm role, nm role, nm role, nm role, nm role, nm role, nm role, nm role, nu hour, wd "fine"])) (b := true) (R1_v1 p0 nob role person hour a4 b4 c4 ) rfl (chk1 h_role h_hour)) hn_unlike)
  rw [hn_ss_nx kt4]
  have kt5 : exS (callN pr 38) (newN pr 38) 4000 Rq5 [some (.ref 1), some (.d dt), some (.d nob), some (.d role), some (.d person), some (.d hour), none] [p0, bg a4 b4 c4, none] = .nx [some (.ref 1), some (.d dt), some (.d nob), some (.d role), some (.d person), some (.d hour), none] [p0, bg a4 b4 c4, none] := hn_s_no (hn_e_ne (hn_repr (u := .d (.list [nu person, nu person, nu person, nu person, nu person, nu person, wd "fine", wd "fine", nu hour, wd "fine"])) (b := true) (hn_e_call rfl (R1_all2 p0 nob role person hour a4 b4 c4 h_person h_hour)) rfl (chk4 h_person h_hour)) (hn_repr (u := .d (.list [nu person, nu person, nu person, nu person, nu person, nu person, wd "fine", wd "fine", nu hour, wd "fine"])) (b := true) (R1_v3 p0 nob role person hour a4 b4 c4 ) rfl (chk4 h_person h_hour)) hn_unlike)
  rw [hn_ss_nx kt5]
  rw [hn_ss_nx (R1_6 p0 nob role person hour a4 b4 c4 h_hour)]
  have kt7 : exS (callN pr 38) (newN pr 38) 4000 Rq7 [some (.ref 1), some (.d dt), some (.d nob), some (.d role), some (.d person), some (.d hour), some (.d (.list [nu hour, nu hour, nu hour, nu hour, nu hour, wd "fine", wd "fine", wd "fine", nu hour, wd "fine", nu hour]))] [p0, bg a4 b4 c4, none] = .ret (.d (.bool true)) false [p0, bg a4 b4 c4, none] := hn_ret (hn_eq (hn_repr (u := .d (.list [nu hour, nu hour, nu hour, nu hour, nu hour, wd "fine", wd "fine", wd "fine", nu hour, wd "fine", nu hour])) (b := false) (R1_v4 p0 nob role person hour a4 b4 c4 ) rfl (chk6 h_hour)) (hn_repr (u := .d (.list [nu hour, nu hour, nu hour, nu hour, nu hour, wd "fine", wd "fine", wd "fine", nu hour, wd "fine", nu hour])) (b := true) (R1_v5 p0 nob role person hour a4 b4 c4 ) rfl (chk6 h_hour)) hn_same)
  rw [hn_ss_ret kt7]
  exact ⟨a4, b4, c4, g4, rfl⟩
theorem M1_0 (p0 : Option Ob) (a b c : Int)  : exS (callN pr 38) (newN pr 38) 4000 Mq0 [some (.ref 1), none, none, none, none] [p0, bg a b c] = .nx [some (.ref 1), some (.d (bk2)), none, none, none] [p0, bg a b c] := by
  kernel_rfl
theorem M1_1 (p0 : Option Ob) (a b c : Int)  : exS (callN pr 38) (newN pr 38) 4000 Mq1 [some (.ref 1), some (.d (bk2)), none, none, none] [p0, bg a b c] = .nx [some (.ref 1), some (.d (bk2)), some (.d (odd1)), none, none] [p0, bg a b c] := by
  kernel_rfl
theorem M1_2 (p0 : Option Ob) (a b c : Int)  : exS (callN pr 38) (newN pr 38) 4000 Mq2 [some (.ref 1), some (.d (bk2)), some (.d (odd1)), none, none] [p0, bg a b c] = .nx [some (.ref 1), some (.d (bk2)), some (.d (odd)), none, none] [p0, bg a b c] := by
  kernel_rfl
theorem M1_3 (p0 : Option Ob) (a b c : Int)  : evEs (callN pr 38) (newN pr 38) [(.var 0), (.lst [(.con .none), (.con (.str "book")), (.tup [(.con (.int 2)), (.tup [(.con (.str "in"))]), (.tup [])]), (.con (.int 7))])] [some (.ref 1), some (.d (bk2)), some (.d (odd)), none, none] [p0, bg a b c] = .ok [.ref 1, .d (.list m_nob2)] [p0, bg a b c] := by
  kernel_rfl
theorem M1_4_0 (p0 : Option Ob) (nob2 : PyData) (a b c : Int)  : evE (callN pr 38) (newN pr 38) (.cmp .ne (.comp (.con (.int 1)) (.nm 4) .over [(.var 2)] [(.cmp .ne (.met 55 m55 (.new 1 [(.var 1), (.var 4)])) (.tup [(.con (.str "spans"))]))]) (.lst [])) [some (.ref 1), some (.d (bk2)), some (.d (odd)), some (.d nob2), none] [p0, bg a b c] = .ok (.d (.bool false), false) [p0, bg a b c] := by
  kernel_rfl
theorem M1_5_0 (p0 : Option Ob) (nob2 : PyData) (a b c : Int) (h_nob2 : nob2 ∈ m_nob2) : evE (callN pr 38) (newN pr 38) (.cmp .ne (.met 55 m55 (.new 1 [(.var 3), (.idx (.var 2) (.con (.int 0)))])) (.tup [(.con (.str "book"))])) [some (.ref 1), some (.d (bk2)), some (.d (odd)), some (.d nob2), none] [p0, bg a b c] = .ok (.d (.bool false), false) [p0, bg a b c] := by
  simp only [m_nob2, List.mem_cons, List.not_mem_nil, or_false] at h_nob2
  rcases h_nob2 with rfl | rfl | rfl | rfl <;> kernel_rfl
theorem M1_6_0 (p0 : Option Ob) (nob2 : PyData) (a b c : Int)  : evE (callN pr 38) (newN pr 38) (.cmp .eq (.met 55 m55 (.new 1 [(.var 1), (.tup [(.tup [(.con (.int 0)), (.con (.int 100))]), (.tup [(.con (.int 7)), (.con (.int 7))])])])) (.tup [(.con (.str "fine"))])) [some (.ref 1), some (.d (bk2)), some (.d (odd)), some (.d nob2), none] [p0, bg a b c] = .ok (.d (.bool true), false) [p0, bg a b c] := by
  kernel_rfl
theorem Mright1 (p0 : Option Ob) {a b c : Int} {N : Nat} (hN : N < 900000) (g0 : GoodC (N + 0) a b c) : ∃ a' b' c', GoodC (N + 1) a' b' c' ∧ callN pr 39 58 [.ref 1] [p0, bg a b c] = .ok (.d (.bool true), false) [p0, bg a' b' c'] := by
  have c0 : callN pr 39 58 [.ref 1] [p0, bg a b c] = endV 2 (exSs (callN pr 38) (newN pr 38) 4000 [Mq0, Mq1, Mq2, Mq3, Mq4, Mq5, Mq6] [some (.ref 1), none, none, none, none] [p0, bg a b c]) := hn_call_eq (P := pr) (f := 58) (n := 38) (fn := f58) rfl ⟨rfl, by decide⟩
  rw [c0]
  rw [hn_ss_nx (M1_0 p0  a b c )]
  rw [hn_ss_nx (M1_1 p0  a b c )]
  rw [hn_ss_nx (M1_2 p0  a b c )]
  obtain ⟨nob2, h_nob2, a1, b1, c1, g1, e1⟩ := oneB_ok (P := pr) (f := 52) (g := 53) (n := 36) (N := N + 0) rfl rfl (by omega) (st := [p0, bg a b c]) (r := 1) (items := m_nob2) rfl g0 (by first | decide | exact Nat.le_of_ble_eq_true rfl) (by first | decide | exact Nat.le_of_ble_eq_true rfl)
  have k1 : exS (callN pr 38) (newN pr 38) 4000 Mq3 [some (.ref 1), some (.d (bk2)), some (.d (odd)), none, none] [p0, bg a b c] = .nx [some (.ref 1), some (.d (bk2)), some (.d (odd)), some (.d nob2), none] [p0, bg a1 b1 c1] := hn_s_call (M1_3 p0  a b c ) e1
  rw [hn_ss_nx k1]
  have kt4 : exS (callN pr 38) (newN pr 38) 4000 Mq4 [some (.ref 1), some (.d (bk2)), some (.d (odd)), some (.d nob2), none] [p0, bg a1 b1 c1] = .nx [some (.ref 1), some (.d (bk2)), some (.d (odd)), some (.d nob2), none] [p0, bg a1 b1 c1] := hn_s_no (M1_4_0 p0 nob2 a1 b1 c1 )
  rw [hn_ss_nx kt4]
  have kt5 : exS (callN pr 38) (newN pr 38) 4000 Mq5 [some (.ref 1), some (.d (bk2)), some (.d (odd)), some (.d nob2), none] [p0, bg a1 b1 c1] = .nx [some (.ref 1), some (.d (bk2)), some (.d (odd)), some (.d nob2), none] [p0, bg a1 b1 c1] := hn_s_no (M1_5_0 p0 nob2 a1 b1 c1 h_nob2)
  rw [hn_ss_nx kt5]
  have kt6 : exS (callN pr 38) (newN pr 38) 4000 Mq6 [some (.ref 1), some (.d (bk2)), some (.d (odd)), some (.d nob2), none] [p0, bg a1 b1 c1] = .ret (.d (.bool true)) false [p0, bg a1 b1 c1] := hn_ret (M1_6_0 p0 nob2 a1 b1 c1 )
  rw [hn_ss_ret kt6]
  exact ⟨a1, b1, c1, g1, rfl⟩
abbrev t0 : Sx := .thaw 3 (.call 51 [(.var 0), (.var 2)])
abbrev t1 : Sx := .ifs (.or_ (.cmp .ne (.comp (.con (.int 1)) (.nm 4) .rng [(.con (.int 4))] [(.not_ (.call 57 [(.var 3), (.var 1)]))]) (.lst [])) (.not_ (.call 58 [(.var 3)]))) [.ret (.con (.bool false))] []
abbrev l0 : Sx := .set 1 (.new 1 [(.new 0 [(.con (.int 2)), (.tup [(.con (.str "in")), (.con (.str "old"))]), (.tup [(.tup [(.con (.str "one")), (.tup [(.con (.int 0)), (.con (.str "in"))]), (.con (.int 1))])])]), (.tup [(.tup [(.con (.int 0)), (.con (.int 50))])])])
abbrev l1 : Sx := .for_ (.nm 2) .rng [(.bi .max2 [(.con (.int 1)), (.bi .min2 [(.con (.int 2)), (.bi .len [(.var 0)])])])] [.thaw 3 (.call 51 [(.var 0), (.var 2)]), .ifs (.or_ (.cmp .ne (.comp (.con (.int 1)) (.nm 4) .rng [(.con (.int 4))] [(.not_ (.call 57 [(.var 3), (.var 1)]))]) (.lst [])) (.not_ (.call 58 [(.var 3)]))) [.ret (.con (.bool false))] []]
abbrev l2 : Sx := .thaw 5 (.lst [(.met 55 m55 (.call 50 [(.var 1), (.tup [(.con (.int 0)), (.con (.str "in"))]), (.con (.int 1)), (.con (.int 5)), (.con (.int 4))])), (.met 55 m55 (.call 50 [(.var 1), (.tup [(.con (.int 0)), (.con (.str "in"))]), (.con (.int 1)), (.con (.int 5)), (.con (.int 51))]))])
abbrev l3 : Sx := .ex (.mt .append (.var 5) [(.met 55 m55 (.call 50 [(.var 1), (.tup [(.con (.int 0)), (.con (.str "in"))]), (.con (.int 0)), (.con (.int 4)), (.con (.int 4))]))])
abbrev l4 : Sx := .ex (.mt .append (.var 5) [(.met 55 m55 (.call 49 [(.var 1), (.tup [(.con (.int 0)), (.con (.str "in"))]), (.con (.int 1)), (.con (.int 5)), (.con (.int 4)), (.con (.int 0))]))])
abbrev l5 : Sx := .ex (.mt .append (.var 5) [(.met 55 m55 (.call 49 [(.var 1), (.tup [(.con (.int 0)), (.con (.str "in"))]), (.con (.int 1)), (.con (.int 5)), (.con (.int 4)), (.con (.int 1))]))])
abbrev l6 : Sx := .for_ (.nm 6) .over [(.tup [(.un .neg (.con (.int 1))), (.con (.int 1)), (.con (.bool true)), (.con .none), (.con (.str "0"))])] [.ex (.mt .append (.var 5) [(.met 55 m55 (.call 49 [(.var 1), (.tup [(.con (.int 0)), (.con (.str "in"))]), (.con (.int 1)), (.con (.int 4)), (.con (.int 5)), (.var 6)]))])]
abbrev l7 : Sx := .set 7 (.lst [(.tup [(.con (.str "operation"))]), (.tup [(.con (.str "refused")), (.tup [(.con (.str "out"))])]), (.tup [(.con (.str "refused")), (.tup [(.con (.str "out"))])]), (.tup [(.con (.str "operation"))]), (.tup [(.con (.str "number")), (.con (.int 1))])])
abbrev l8 : Sx := .ret (.cmp .eq (.bi .repr [(.bin .add (.var 5) (.lst [(.glo "MOST_HOUR" (.int 100))]))]) (.bi .repr [(.bin .add (.bin .add (.var 7) (.comp (.tup [(.con (.str "number")), (.var 6)]) (.nm 6) .over [(.tup [(.un .neg (.con (.int 1))), (.con (.int 1)), (.con (.bool true)), (.con .none), (.con (.str "0"))])] [])) (.lst [(.con (.int 100))]))]))
def turnF : PyData → Ev.Env → Store → SR := fun x env st => match setT x env (.nm 2) with
  | some env' => exSs (callN pr 39) (newN pr 39) 4000 [t0, t1] env' st
  | none => .no
theorem turn0 (ns : List Int) : ∃ a b c, turnF (.int 0) [some (.scr ns), some (.d dt), none, none, none, none, none, none] [] = .nx [some (.scr ns), some (.d dt), some (.d (.int 0)), some (.ref 0), none, none, none, none] [bg a b c] := by
  obtain ⟨a, b, g, e⟩ := bagB_ok (P := pr) (f := 51) (n := 38) rfl (ns := ns) (k := 0) (by decide)
  have k0 : exS (callN pr 39) (newN pr 39) 4000 t0 [some (.scr ns), some (.d dt), some (.d (.int 0)), none, none, none, none, none] [] = .nx [some (.scr ns), some (.d dt), some (.d (.int 0)), some (.ref 0), none, none, none, none] [bg a b 0] := hn_thaw (hn_e_call (vs := [.scr ns, .d (.int 0)]) rfl (e []))
  obtain ⟨st', ⟨a', b', c', g2, rfl⟩, e2⟩ := hn_comp2 (cf := callN pr 39) (nf := newN pr 39) (env := [some (.scr ns), some (.d dt), some (.d (.int 0)), some (.ref 0), none, none, none, none]) (elt := (.con (.int 1))) (c := (.not_ (.call 57 [(.var 3), (.var 1)]))) (j := 4) (m := 4) (items := [.int 0, .int 1, .int 2, .int 3]) (st := [bg a b 0]) (J := fun k s => ∃ a b c, GoodC (k * 4) a b c ∧ s = [bg a b c]) (fun s => rfl) (by decide) (fun k x s hk hs => by
    obtain ⟨a, b, c, hg, rfl⟩ := hs
    obtain ⟨a_0, b_0, c_0, gg0, ee0⟩ := Rright0 (N := k * 4 + 0) (by omega) hg
    refine ⟨_, _, ⟨a_0, b_0, c_0, ?_, rfl⟩, (hn_not (hn_e_call (vs := [.ref 0, .d dt]) rfl ee0))⟩
    rw [show (k + 1) * 4 = k * 4 + 4 from by omega]
    exact gg0) ⟨a, b, 0, by rw [Nat.zero_mul]; exact g, rfl⟩
  obtain ⟨ao0, bo0, co0, go0, eo0⟩ := Mright0 (N := 4 * 4 + 0) (by decide) g2
  have k1 : exS (callN pr 39) (newN pr 39) 4000 t1 [some (.scr ns), some (.d dt), some (.d (.int 0)), some (.ref 0), none, none, none, none] [bg a b 0] = .nx [some (.scr ns), some (.d dt), some (.d (.int 0)), some (.ref 0), none, none, none, none] [bg ao0 bo0 co0] := hn_s_no (hn_e_or (hn_e_ne e2 (w := .d (.list [])) (b2 := true) rfl rfl) (hn_not (hn_e_call (vs := [.ref 0]) rfl eo0)))
  refine ⟨ao0, bo0, co0, ?_⟩
  show exSs (callN pr 39) (newN pr 39) 4000 [t0, t1] [some (.scr ns), some (.d dt), some (.d (.int 0)), none, none, none, none, none] [] = _
  rw [hn_ss_nx k0, hn_ss_nx k1]
  rfl
theorem tail1 (ns : List Int) (p0 : Option Ob) : ∃ fr, endV 0 (exSs (callN pr 39) (newN pr 39) 4000 [l2, l3, l4, l5, l6, l7, l8] [some (.scr ns), some (.d dt), some (.d (.int 0)), some (.ref 0), none, none, none, none] [p0]) = .ok (.d (.bool true), fr) [] := ⟨false, by kernel_rfl⟩
theorem turn1 (ns : List Int) (p0 : Option Ob) : ∃ a b c, turnF (.int 1) [some (.scr ns), some (.d dt), some (.d (.int 0)), some (.ref 0), none, none, none, none] [p0] = .nx [some (.scr ns), some (.d dt), some (.d (.int 1)), some (.ref 1), none, none, none, none] [p0, bg a b c] := by
  obtain ⟨a, b, g, e⟩ := bagB_ok (P := pr) (f := 51) (n := 38) rfl (ns := ns) (k := 1) (by decide)
  have k0 : exS (callN pr 39) (newN pr 39) 4000 t0 [some (.scr ns), some (.d dt), some (.d (.int 1)), some (.ref 0), none, none, none, none] [p0] = .nx [some (.scr ns), some (.d dt), some (.d (.int 1)), some (.ref 1), none, none, none, none] [p0, bg a b 0] := hn_thaw (hn_e_call (vs := [.scr ns, .d (.int 1)]) rfl (e [p0]))
  obtain ⟨st', ⟨a', b', c', g2, rfl⟩, e2⟩ := hn_comp2 (cf := callN pr 39) (nf := newN pr 39) (env := [some (.scr ns), some (.d dt), some (.d (.int 1)), some (.ref 1), none, none, none, none]) (elt := (.con (.int 1))) (c := (.not_ (.call 57 [(.var 3), (.var 1)]))) (j := 4) (m := 4) (items := [.int 0, .int 1, .int 2, .int 3]) (st := [p0, bg a b 0]) (J := fun k s => ∃ a b c, GoodC (k * 4) a b c ∧ s = [p0, bg a b c]) (fun s => rfl) (by decide) (fun k x s hk hs => by
    obtain ⟨a, b, c, hg, rfl⟩ := hs
    obtain ⟨a_0, b_0, c_0, gg0, ee0⟩ := Rright1 p0 (N := k * 4 + 0) (by omega) hg
    refine ⟨_, _, ⟨a_0, b_0, c_0, ?_, rfl⟩, (hn_not (hn_e_call (vs := [.ref 1, .d dt]) rfl ee0))⟩
    rw [show (k + 1) * 4 = k * 4 + 4 from by omega]
    exact gg0) ⟨a, b, 0, by rw [Nat.zero_mul]; exact g, rfl⟩
  obtain ⟨ao0, bo0, co0, go0, eo0⟩ := Mright1 p0 (N := 4 * 4 + 0) (by decide) g2
  have k1 : exS (callN pr 39) (newN pr 39) 4000 t1 [some (.scr ns), some (.d dt), some (.d (.int 1)), some (.ref 1), none, none, none, none] [p0, bg a b 0] = .nx [some (.scr ns), some (.d dt), some (.d (.int 1)), some (.ref 1), none, none, none, none] [p0, bg ao0 bo0 co0] := hn_s_no (hn_e_or (hn_e_ne e2 (w := .d (.list [])) (b2 := true) rfl rfl) (hn_not (hn_e_call (vs := [.ref 1]) rfl eo0)))
  refine ⟨ao0, bo0, co0, ?_⟩
  show exSs (callN pr 39) (newN pr 39) 4000 [t0, t1] [some (.scr ns), some (.d dt), some (.d (.int 1)), some (.ref 0), none, none, none, none] [p0] = _
  rw [hn_ss_nx k0, hn_ss_nx k1]
  rfl
theorem tail2 (ns : List Int) (p0 p1 : Option Ob) : ∃ fr, endV 0 (exSs (callN pr 39) (newN pr 39) 4000 [l2, l3, l4, l5, l6, l7, l8] [some (.scr ns), some (.d dt), some (.d (.int 1)), some (.ref 1), none, none, none, none] [p0, p1]) = .ok (.d (.bool true), fr) [] := ⟨false, by kernel_rfl⟩
theorem pre0 (ns : List Int) : exSs (callN pr 39) (newN pr 39) 4000 [l0] [some (.scr ns), none, none, none, none, none, none, none] [] = .nx [some (.scr ns), some (.d dt), none, none, none, none, none, none] [] := by kernel_rfl
theorem hev (ns : List Int) : ∃ fr st, callN pr 40 59 [.scr ns] [] = .ok (.d (.bool true), fr) st := by
  have c : callN pr 40 59 [.scr ns] [] = endV 0 (exSs (callN pr 39) (newN pr 39) 4000 [l0, l1, l2, l3, l4, l5, l6, l7, l8] [some (.scr ns), none, none, none, none, none, none, none] []) := hn_call_eq (P := pr) (f := 59) (n := 39) (fn := f59) rfl ⟨rfl, by decide⟩
  rw [c]
  rw [show [l0, l1, l2, l3, l4, l5, l6, l7, l8] = [l0] ++ [l1, l2, l3, l4, l5, l6, l7, l8] from rfl, hn_ss_pre (pre0 ns)]
  obtain ⟨k, hk, e⟩ := hn_cnt2 (cf := callN pr 39) (nf := newN pr 39) (ns := ns) (rest := [some (.d dt), none, none, none, none, none, none])
  have lp : ∀ items, walkV .rng [.d (.int k)] [] = some items → exS (callN pr 39) (newN pr 39) 4000 l1 [some (.scr ns), some (.d dt), none, none, none, none, none, none] [] = flp turnF items [some (.scr ns), some (.d dt), none, none, none, none, none, none] [] := fun items h => hn_for e h
  obtain ⟨ax0, bx0, cx0, e0⟩ := turn0 ns  
  rcases hk with rfl | ⟨rfl, hl⟩
  · have l : exS (callN pr 39) (newN pr 39) 4000 l1 [some (.scr ns), some (.d dt), none, none, none, none, none, none] [] = .nx [some (.scr ns), some (.d dt), some (.d (.int 0)), some (.ref 0), none, none, none, none] [bg ax0 bx0 cx0] := by
      rw [lp [.int 0] rfl, hn_flp e0]
      rfl
    obtain ⟨fr, z⟩ := tail1 ns (bg ax0 bx0 cx0)
    rw [hn_ss_nx l, z]
    exact ⟨_, _, rfl⟩
  · obtain ⟨ax1, bx1, cx1, e1⟩ := turn1 ns (bg ax0 bx0 cx0) 
    have l : exS (callN pr 39) (newN pr 39) 4000 l1 [some (.scr ns), some (.d dt), none, none, none, none, none, none] [] = .nx [some (.scr ns), some (.d dt), some (.d (.int 1)), some (.ref 1), none, none, none, none] [bg ax0 bx0 cx0, bg ax1 bx1 cx1] := by
      rw [lp [.int 0, .int 1] rfl, hn_flp e0, hn_flp e1]
      rfl
    obtain ⟨fr, z⟩ := tail2 ns (bg ax0 bx0 cx0) (bg ax1 bx1 cx1)
    rw [hn_ss_nx l, z]
    exact ⟨_, _, rfl⟩

end K49a
end

section
set_option Elab.async false
set_option linter.all false
set_option maxRecDepth 100000
set_option maxHeartbeats 0
open PySem PySem.W PySem.Calls PyProof.Rows
theorem K49_from (hev : ∀ ns : List Int, ns.length ≤ 63 → ∃ fr st, Ev.callN K49a.pr 40 59 [.scr ns] [] = .ok (.d (.bool true), fr) st) : PySem.Challenge.rw_letinprice_k49_errors_of_hours.Holds := by
  w_on; o_law
  refine HandSHeadRun.head_any (r := OpenLaw.row PySem.Challenge.rw_letinprice_k49_errors_of_hours) (q := view (OpenLaw.row PySem.Challenge.rw_letinprice_k49_errors_of_hours).prog [85, 86, 87, 88]) (H := K49a.hk) (ob := K49a.ob) (M := 6000) (loose := K49a.loose) (d := HandSHeadRun.topDef (OpenLaw.row PySem.Challenge.rw_letinprice_k49_errors_of_hours).prog 88) (kwd := []) K49a.ob_eq
    (by kernel_rfl) (fun s => by kernel_rfl) K49a.run (by kernel_rfl) (by kernel_rfl) (by kernel_rfl) (by rfl) (by first | assumption | decide +kernel) (by decide +kernel) ⟨rfl, rfl, rfl, rfl, rfl, by decide +kernel⟩ ?hw ?hc
  case hw => w_witness2
  case hc =>
    exact Ev.law_by (D := K49a.pd) (l := PySem.Challenge.rw_letinprice_k49_errors_of_hours) (n := 63) (k := 40) (lf := 59) (x := "script") K49a.pd_ok rfl (by decide) (by kernel_rfl) ⟨rfl, by decide, by decide⟩ rfl (by kernel_rfl) rfl (by decide +kernel) rfl (by kernel_rfl) hev
theorem K49_holds : PySem.Challenge.rw_letinprice_k49_errors_of_hours.Holds := K49_from fun ns _ => K49a.hev ns
end

theorem PySem.Challenge.cw_letinprice_k49_errors_of_hours_holds : PySem.Challenge.rw_letinprice_k49_errors_of_hours.Holds :=
  K49_holds
