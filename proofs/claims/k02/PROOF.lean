import PyProof.Rows.All
import Wide.All
import OpenK.AllK
import Wide.FinOn
import HandS.Conv
import HandS.Deep
import HandS.DictComp
import HandS.Evl
import HandS.ExcSuper
import HandS.Flow
import HandS.ForExc
import HandS.ForMost
import HandS.IsInst
import HandS.More
import HandS.NamedTupSort
import HandS.SortKw
import HandS.SortRule
import HandS.Style
import HandS.TryMany
import HandS.TupAny
import HandS.TupLe
import HandS.Zip
import KE.KExcSuper
import KE.KRevSl
import KE.KSuper
import KE.KSuperObj
import KE.KTupSum
import KE.SortKeyHeap
import PyProof.ListStr
import PySem.Challenge.RW_clausehold_k02_clauses_and_rows
set_option Elab.async false
set_option linter.all false
set_option maxRecDepth 100000
set_option maxHeartbeats 4000000
section
namespace CH
open PySem

/-- plain data -/
inductive D where
  | non | bl (b : Bool) | int (i : Int) | str (s : Str)
  | tup (xs : List D) | lst (xs : List D)
  /-- a list that may be read alone -/
  | flst (xs : List D)
  | ty (n : String) | fn (f : Nat)
  | obj (c : Nat) (ks : List Str) (vs : List D)
  /-- a dict that may be read alone: its keys and values in turn -/
  | dct (ds : List D)
  deriving Inhabited

/-- a tree whose nodes are owned by one name; its leaves are data that never change -/
inductive OT where
  | sh (d : D)
  | lst (ts : List OT)
  | obj (c : Nat) (ks : List Str) (ts : List OT)
  deriving Inhabited

mutual
def OT.toD : OT → D
  | .sh d => d
  | .lst ts => .lst (toDs ts)
  | .obj c ks ts => .obj c ks (toDs ts)
def toDs : List OT → List D
  | [] => []
  | t :: ts => t.toD :: toDs ts
end
/-- the leaves of a row of leaves -/
def leaves : List OT → Option (List D)
  | [] => some []
  | .sh d :: r => (leaves r).map (d :: ·)
  | _ :: _ => none
/-- the items of what is walked -/
def OT.items : OT → Option (List D)
  | .sh (.lst ds) => some ds
  | .sh (.flst ds) => some ds
  | .sh (.tup ds) => some ds
  | .lst ts => leaves ts
  | _ => none
/-- a slot: nothing known; a tree; a tree that may be read alone -/
inductive Sl where
  | no | ow (t : OT) | lk (t : OT)
  deriving Inhabited
abbrev Env := List Sl
def Env.tree (ρ : Env) (i : Nat) : Option OT := match ρ[i]? with
  | some (.ow t) => some t
  | some (.lk t) => some t
  | _ => none
def Env.own (ρ : Env) (i : Nat) : Option OT := match ρ[i]? with
  | some (.ow t) => some t
  | _ => none
def fldIx : List Str → Str → Option Nat
  | [], _ => none
  | k :: ks, f => if k = f then some 0 else (fldIx ks f).map (· + 1)
def OT.fld (f : Str) : OT → Option OT
  | .obj _ ks ts => (fldIx ks f).bind fun j => ts[j]?
  | .sh (.obj _ ks ds) => ((fldIx ks f).bind fun j => ds[j]?).map .sh
  | _ => none
/-- along attributes, the outermost first -/
def OT.getP (t : OT) : List Str → Option OT
  | [] => some t
  | f :: p => (t.getP p).bind fun u => u.fld f
def OT.setF (f : Str) (s : OT) : OT → Option OT
  | .obj c ks ts => (fldIx ks f).bind fun j => if j < ts.length then some (.obj c ks (ts.set j s)) else none
  | _ => none
def OT.putP (t : OT) : List Str → OT → Option OT
  | [], s => some s
  | f :: p, s => (t.getP p).bind fun u => (u.setF f s).bind fun u' => t.putP p u'

structure Exn where
  cls : Nat
  args : List D
inductive R (α : Type) where
  | ok (a : α) | ex (e : Exn) (ρ : Env) | no
def R.bind {α β : Type} (r : R α) (f : α → R β) : R β := match r with
  | .ok a => f a
  | .ex e ρ => .ex e ρ
  | .no => .no
def R.ofO {α : Type} : Option α → R α
  | some a => .ok a
  | none => .no

inductive Tg where
  | one (i : Nat) | tup (is : List Nat)
/-- comparisons -/
inductive Cm where
  | eq | ne | lt | le | gt | ge | is | isnot | in_ | notin
  deriving DecidableEq
inductive Bo where
  | add | sub | mul | mod | fdiv | pow
  deriving DecidableEq
/-- built-ins called by name -/
inductive Bi where
  | len | abs | int | bool | tuple | list | any | all | sum | sorted | max2 | min2 | max1 | min1 | repr
  deriving DecidableEq
/-- operations on values -/
inductive Op where
  | bin (b : Bo) | neg | cmp (c : Cm)
  | idx
  | fld (f : Str)
  | bi (f : Bi)
  | isi (tys : List String)
  | rng (n : Nat) (tuple : Bool)
  | meth (m : String)
  | kin (x : Str) (neg : Bool) (kvs : List (Str × Int))
  | kget (x : Str) (kvs : List (Str × Int))
  | rev | revT
  /-- a dict that may be read alone: is the key in it; its keys as a list -/
  | inK (neg : Bool) | listK
/-- what changes a list -/
inductive Mu where
  | append | extend | pop | popAt | insert | setIx | remove
  deriving DecidableEq

/-- what an except suite hands back: constants, names, the exception's fields -/
inductive At where
  | c (d : D) | v (i : Nat) | xf (j : Nat)
/-- an except clause: its class, the classes that it takes, the slot of its name; it returns a tuple, or one thing -/
structure Hd where
  c : Nat
  ms : List Nat
  i : Option Nat
  tup : Bool
  as : List At
mutual
inductive CE where
  | c (d : D) | v (i : Nat) | mv (i : Nat) | take (i : Nat)
  | op (o : Op) (as : COs)
  | slc (o : CO) (lo hi : CB)
  | tup (es : CEs) | lst (es : CEs)
  | and (es : CEs) | or (es : CEs) | not (e : CE) | ite (t : CT) (a b : CE)
  | chain (o1 o2 : Cm) (a b c : CE)
  | call (f : Nat) (as : CAs)
  | mu (m : Mu) (i : Nat) (p : List Str) (as : CEs)
  | fz (e : CE)
  | apX (i : Nat) (ix e : CE)
  | rank (x : Str) (e : CE)
  | dc (k v : CE) (tg : Tg) (it : CI) (cs : CTs)
  | lc (e : CE) (tg : Tg) (it : CI) (cs : CTs)
  | lc2 (e : CE) (tg : Tg) (it : CI) (cs : CTs) (tg1 : Tg) (it1 : CI) (cs1 : CTs)
inductive CEs where
  | nil | cons (e : CE) (es : CEs)
inductive CO where
  | e (e : CE) | bor (i : Nat) (p : List Str)
inductive CB where
  | no | at (e : CE)
inductive COs where
  | nil | cons (o : CO) (os : COs)
inductive CAs where
  | nil | val (e : CE) (r : CAs) | ref (i : Nat) (r : CAs)
inductive CT where
  | and (ts : CTs) | or (ts : CTs) | not (t : CT) | val (o : CO)
inductive CTs where
  | nil | cons (t : CT) (ts : CTs)
inductive CI where
  | seq (o : CO) | rng1 (e : CE) | rng2 (a b : CE) | enm (o : CO) | zip (a b : CO) | keys (e : CE)
end
mutual
inductive CS where
  | nop | brk | cont | retN
  | frz (i : Nat)
  | ex (e : CE) | set (i : Nat) (e : CE) | setT (is : List Nat) (e : CE)
  | setF (i c : Nat) (f : Str) (e : CE)
  | setX (i : Nat) (p : List Str) (ix : CE) (e : CE)
  | ret (e : CE)
  | ife (t : CT) (a b : CSs)
  | whl (t : CT) (b : CSs)
  | for_ (tg : Tg) (it : CI) (b : CSs)
  | raise (c n : Nat) (as : CEs)
  | tr (b : CSs) (hs : List Hd)
inductive CSs where
  | nil | cons (s : CS) (r : CSs)
end
end CH
end
section
namespace CH
open PySem

mutual
def D.toP : D → Option PyData
  | .non => some .none
  | .bl b => some (.bool b)
  | .int i => some (.int i)
  | .str s => some (.str s)
  | .tup ds => (toPs ds).map .tuple
  | .lst ds => (toPs ds).map .list
  | _ => none
def toPs : List D → Option (List PyData)
  | [] => some []
  | d :: r => d.toP.bind fun p => (toPs r).map fun q => p :: q
end
def big : Nat := 16777216
def eqD (a b : D) : Option Bool := a.toP.bind fun p => b.toP.bind fun q => if (SeqAt.shaped p && SeqAt.shaped q) = true then some (PyData.eqv p q) else none
def inD (x : D) (l : D) : Option Bool := x.toP.bind fun p => l.toP.bind fun q => match q with
  | .list ds => if (SeqAt.shaped p && SeqAt.shaped (.list ds)) = true then some (ds.any fun z => PyData.eqv z p) else none
  | .tuple ds => if (SeqAt.shaped p && SeqAt.shaped (.tuple ds)) = true then some (ds.any fun z => PyData.eqv z p) else none
  | .str s => match p with
    | .str y => some (!(Builtin.Str.occurrences s y 0 s.length 1).isEmpty)
    | _ => none
  | _ => none
def blsD : List D → Option (List Bool)
  | [] => some []
  | .bl b :: r => (blsD r).map (b :: ·)
  | _ => none
def intsD : List D → Option (List Int)
  | [] => some []
  | .int b :: r => (intsD r).map (b :: ·)
  | _ => none
def strsD : List D → Option (List Str)
  | [] => some []
  | .str b :: r => (strsD r).map (b :: ·)
  | _ => none
/-- the items of a list -/
def OT.litems : OT → Option (List D)
  | .sh (.lst ds) => some ds
  | .lst ts => leaves ts
  | _ => none
def mulOk (i j : Int) : Bool := decide (-(2 ^ 64) < i ∧ i < 2 ^ 64) || decide (-(2 ^ 64) < j ∧ j < 2 ^ 64)
def guard_ {α : Type} (b : Bool) (a : α) : Option α := if b = true then some a else none
def newL (ds : List D) : OT := .lst (ds.map .sh)
def addEv : OT → OT → Option OT
  | .sh (.int i), .sh (.int j) => some (.sh (.int (i + j)))
  | .sh (.str a), .sh (.str b) => guard_ (decide (a.length + b.length ≤ big)) (.sh (.str (a ++ b)))
  | .sh (.tup a), .sh (.tup b) => guard_ (decide (a.length + b.length ≤ big)) (.sh (.tup (a ++ b)))
  | s, t => s.litems.bind fun a => t.litems.bind fun b => guard_ (decide (a.length + b.length ≤ big)) (newL (a ++ b))
def subEv : OT → OT → Option OT
  | .sh (.int i), .sh (.int j) => some (.sh (.int (i - j)))
  | _, _ => none
def mulEv : OT → OT → Option OT
  | .sh (.int i), .sh (.int j) => guard_ (mulOk i j) (.sh (.int (i * j)))
  | s, .sh (.int k) => s.litems.bind fun a => guard_ (decide (-(2 ^ 63) ≤ k ∧ k < 2 ^ 63 ∧ a.length * k.toNat ≤ big)) (newL (List.replicate k.toNat a).flatten)
  | _, _ => none
def modEv : OT → OT → Option OT
  | .sh (.int i), .sh (.int j) => guard_ (decide (0 < j)) (.sh (.int (i % j)))
  | _, _ => none
def fdivEv : OT → OT → Option OT
  | .sh (.int i), .sh (.int j) => guard_ (decide (0 < j ∧ j < 1073741824)) (.sh (.int (i / j)))
  | _, _ => none
def powEv : OT → OT → Option OT
  | .sh (.int i), .sh (.int j) => guard_ (decide (0 ≤ j ∧ j ≤ 1000000 ∧ i.natAbs < 2 ^ 64)) (.sh (.int (i ^ j.toNat)))
  | _, _ => none
def binEv : Bo → OT → OT → Option OT
  | .add => addEv
  | .sub => subEv
  | .mul => mulEv
  | .mod => modEv
  | .fdiv => fdivEv
  | .pow => powEv
def negEv : OT → Option OT
  | .sh (.int i) => some (.sh (.int (-i)))
  | _ => none
def lexLtI : List Int → List Int → Bool := HT.lexLt
def eqEv : OT → OT → Option Bool
  | .sh (.str a), .sh (.str b) => some (a == b)
  | s, t => eqD s.toD t.toD
def neEv : OT → OT → Option Bool
  | .sh (.str a), .sh (.str b) => some (!(a == b))
  | s, t => (eqD s.toD t.toD).map (! ·)
def shapedD (d : D) : Bool := match d.toP with
  | some p => SeqAt.shaped p
  | none => false
/-- items that < may meet: two ints, two rows of ints -/
def cmp1 : D → D → Bool
  | .int _, .int _ => true
  | .tup a, .tup b => (intsD a).isSome && (intsD b).isSome && shapedD (.tup a) && shapedD (.tup b)
  | _, _ => false
def eq1 (x y : D) : Bool := match x.toP, y.toP with
  | some p, some q => PyData.eqv p q
  | _, _ => false
def lt1 : D → D → Bool
  | .int i, .int j => decide (i < j)
  | .tup a, .tup b => match intsD a, intsD b with
    | some m, some n => HT.lexLt m n
    | _, _ => false
  | _, _ => false
def cmps : List D → List D → Bool
  | x :: xs, y :: ys => cmp1 x y && cmps xs ys
  | _, _ => true
def ltW : List D → List D → Bool
  | [], [] => false
  | [], _ :: _ => true
  | _ :: _, [] => false
  | x :: xs, y :: ys => if eq1 x y = true then ltW xs ys else lt1 x y
def ltEv : OT → OT → Option Bool
  | .sh (.int i), .sh (.int j) => some (decide (i < j))
  | .sh (.tup a), .sh (.tup b) => match intsD a, intsD b with
    | some m, some n => some (HT.lexLt m n)
    | _, _ => if cmps a b = true then some (ltW a b) else none
  | _, _ => none
def leEv : OT → OT → Option Bool
  | .sh (.int i), .sh (.int j) => some (decide (i ≤ j))
  | _, _ => none
def gtEv : OT → OT → Option Bool
  | .sh (.int i), .sh (.int j) => some (decide (j < i))
  | _, _ => none
def geEv : OT → OT → Option Bool
  | .sh (.int i), .sh (.int j) => some (decide (j ≤ i))
  | _, _ => none
def OT.isNon : OT → Bool
  | .sh .non => true
  | _ => false
def isEv : OT → OT → Option Bool
  | .sh (.bl a), .sh (.bl b) => some (decide (a = b))
  | s, .sh .non => some s.isNon
  | _, _ => none
def isnotEv : OT → OT → Option Bool
  | .sh (.bl a), .sh (.bl b) => some (!decide (a = b))
  | s, .sh .non => some (!s.isNon)
  | _, _ => none
def inEv (s t : OT) : Option Bool := inD s.toD t.toD
def notinEv (s t : OT) : Option Bool := (inD s.toD t.toD).map (! ·)
def cmpEv : Cm → OT → OT → Option Bool
  | .eq => eqEv
  | .ne => neEv
  | .lt => ltEv
  | .le => leEv
  | .gt => gtEv
  | .ge => geEv
  | .is => isEv
  | .isnot => isnotEv
  | .in_ => inEv
  | .notin => notinEv
def D.tyName : D → Option String
  | .non => some "NoneType"
  | .bl _ => some "bool"
  | .int _ => some "int"
  | .str _ => some "str"
  | .tup _ => some "tuple"
  | .lst _ => some "list"
  | _ => none
/-- isinstance of a value of the built-in type a against the built-in type b -/
def isTy (a b : String) : Bool := (a == b) || (a == "bool" && b == "int")
def tys5 : List String := ["NoneType", "bool", "int", "str", "tuple", "list"]
def truEv : OT → Option Bool
  | .sh .non => some false
  | .sh (.bl b) => some b
  | .sh (.int i) => some (i != 0)
  | .sh (.str s) => guard_ (decide (s.length ≤ big)) ((s.length : Int) != 0)
  | .sh (.tup ds) => some (!ds.isEmpty)
  | .sh (.lst ds) => some (!ds.isEmpty)
  | .lst ts => some (!ts.isEmpty)
  | _ => none
def sortI (ns : List Int) : List Int := ns.mergeSort fun a b => decide (a ≤ b)
def lenEv : OT → Option OT
  | .sh (.str s) => guard_ (decide (s.length ≤ big)) (.sh (.int s.length))
  | .sh (.tup ds) => some (.sh (.int ds.length))
  | .sh (.lst ds) => some (.sh (.int ds.length))
  | .sh (.flst ds) => some (.sh (.int ds.length))
  | .lst ts => some (.sh (.int ts.length))
  | _ => none
def absEv : OT → Option OT
  | .sh (.int i) => some (.sh (.int (if i < 0 then -i else i)))
  | _ => none
def intEv : OT → Option OT
  | .sh (.int i) => some (.sh (.int i))
  | .sh (.bl b) => some (.sh (.int (if b then 1 else 0)))
  | _ => none
def boolEv : OT → Option OT
  | .sh (.int i) => some (.sh (.bl (i != 0)))
  | .sh (.bl b) => some (.sh (.bl b))
  | _ => none
def tupleEv : OT → Option OT
  | .sh (.tup ds) => some (.sh (.tup ds))
  | .sh (.flst ds) => some (.sh (.tup ds))
  | t => t.litems.map fun ds => .sh (.tup ds)
def listEv : OT → Option OT
  | .sh (.tup ds) => some (newL ds)
  | .sh (.flst ds) => some (newL ds)
  | .sh (.str s) => guard_ (decide (s.cps.size ≤ big)) (newL (s.cps.toList.map fun c => .str ⟨#[c]⟩))
  | t => t.litems.map newL
def anyEv (t : OT) : Option OT := t.litems.bind fun ds => (blsD ds).map fun bs => .sh (.bl (bs.any id))
def allEv (t : OT) : Option OT := t.litems.bind fun ds => (blsD ds).map fun bs => .sh (.bl (bs.all id))
def sumEv : OT → Option OT
  | .sh (.tup ds) => (intsD ds).map fun ns => .sh (.int ns.sum)
  | t => t.litems.bind fun ds => (intsD ds).map fun ns => .sh (.int ns.sum)
/-- a list, a tuple -/
def D.isRow : D → Bool
  | .tup _ => true
  | .lst _ => true
  | _ => false
/-- the text of a row of data -/
def reprEv (t : OT) : Option OT := if t.toD.isRow = true then t.toD.toP.bind fun p => guard_ (SeqAt.shaped p && p.showable && decide (p.shown.length ≤ big)) (.sh (.str p.shown)) else none
def revEv (t : OT) : Option OT := t.litems.map fun ds => newL ds.reverse
/-- pairs of an int and a row of ints -/
def pairK : D → Option (Int × List Int)
  | .tup [.int i, .tup ds] => (intsD ds).map fun ns => (i, ns)
  | _ => none
def pairKs : List D → Option (List (Int × List Int))
  | [] => some []
  | d :: r => (pairK d).bind fun p => (pairKs r).map fun ps => p :: ps
def pairD (p : Int × List Int) : D := .tup [.int p.1, .tup (p.2.map .int)]
def ltP (p q : Int × List Int) : Bool := if p.1 = q.1 then HT.lexLt p.2 q.2 else decide (p.1 < q.1)
def sortP (ps : List (Int × List Int)) : List (Int × List Int) := ps.mergeSort fun p q => !ltP q p
def sortedEv (t : OT) : Option OT := t.litems.bind fun ds => match intsD ds with
  | some ns => guard_ (decide (ns.length < 64)) (newL ((sortI ns).map .int))
  | none => (pairKs ds).bind fun ps => guard_ (ps.all fun p => SeqAt.shaped (.tuple (p.2.map .int))) (newL ((sortP ps).map pairD))
def max2Ev : OT → OT → Option OT
  | .sh (.int i), .sh (.int j) => some (.sh (.int (if j > i then j else i)))
  | _, _ => none
def min2Ev : OT → OT → Option OT
  | .sh (.int i), .sh (.int j) => some (.sh (.int (if j < i then j else i)))
  | _, _ => none
def maxI : List Int → Option Int
  | [] => none
  | n :: ns => some (ns.foldl max n)
def minI : List Int → Option Int
  | [] => none
  | n :: ns => some (ns.foldl min n)
def max1Ev (t : OT) : Option OT := t.litems.bind fun ds => (intsD ds).bind fun ns => (maxI ns).map fun m => .sh (.int m)
def min1Ev (t : OT) : Option OT := t.litems.bind fun ds => (intsD ds).bind fun ns => (minI ns).map fun m => .sh (.int m)
/-- literals by size, the positive one ahead -/
def leR (m n : Int) : Bool := decide (m.natAbs < n.natAbs) || (decide (m.natAbs = n.natAbs) && (decide (0 ≤ m) || decide (n < 0)))
def sortR (ns : List Int) : List Int := ns.mergeSort leR
def rankEv (t : OT) : Option OT := t.litems.bind fun ds => (intsD ds).bind fun ns => guard_ (decide (ns.length ≤ big)) (newL ((sortR ns).map .int))
/-- every second one -/
def evens {α : Type} : List α → List α
  | a :: _ :: r => a :: evens r
  | _ => []
def D.isInt (n : Int) : D → Bool
  | .int m => decide (m = n)
  | _ => false
def inKEv (neg : Bool) : OT → OT → Option OT
  | .sh (.int n), .sh (.dct ds) => some (.sh (.bl (neg != ((evens ds).any fun d => d.isInt n))))
  | _, _ => none
def listKEv : OT → Option OT
  | .sh (.dct ds) => some (newL (evens ds))
  | _ => none
def revTEv : OT → Option OT
  | .sh (.tup ds) => some (.sh (.tup ds.reverse))
  | _ => none
/-- a key's value put, in its place or at the end -/
def putIn (k : Int) (t : OT) : List OT → List OT
  | .sh (.int m) :: u :: r => if m = k then .sh (.int m) :: t :: putIn k t r else .sh (.int m) :: u :: putIn k t r
  | a :: u :: r => a :: u :: putIn k t r
  | l => l
/-- ints at the even places -/
def goodF : List OT → Bool
  | [] => true
  | .sh (.int _) :: .sh _ :: r => goodF r
  | _ => false
def goodD : List D → Bool
  | [] => true
  | .int _ :: _ :: r => goodD r
  | _ => false
def hasF (k : Int) (l : List OT) : Bool := (evens l).any fun t => match t with
  | .sh d => d.isInt k
  | _ => false
def putD (k : Int) (d : D) (l : List OT) : List OT := if hasF k l = true then putIn k (.sh d) l else l ++ [.sh (.int k), .sh d]
def biEv : Bi → List OT → Option OT
  | .len, [t] => lenEv t
  | .abs, [t] => absEv t
  | .int, [t] => intEv t
  | .bool, [t] => boolEv t
  | .tuple, [t] => tupleEv t
  | .list, [t] => listEv t
  | .any, [t] => anyEv t
  | .all, [t] => allEv t
  | .sum, [t] => sumEv t
  | .sorted, [t] => sortedEv t
  | .max2, [s, t] => max2Ev s t
  | .min2, [s, t] => min2Ev s t
  | .max1, [t] => max1Ev t
  | .min1, [t] => min1Ev t
  | .repr, [t] => reprEv t
  | _, _ => none
/-- the part of a row from lo to hi -/
def cutD {α : Type} (xs : List α) (lo hi : Option Int) : List α := (xs.drop (HT.sIx xs.length 0 lo)).take (HT.sIx xs.length xs.length hi - HT.sIx xs.length 0 lo)
def slcEv (lo hi : Option Int) : OT → Option OT
  | .sh (.tup ds) => some (.sh (.tup (cutD ds lo hi)))
  | .sh (.str s) => guard_ (decide (s.length ≤ big)) (.sh (.str (L2.cutS s lo hi)))
  | .sh (.flst ds) => some (newL (cutD ds lo hi))
  | t => t.litems.map fun ds => newL (cutD ds lo hi)
def idxEv : OT → Int → Option OT
  | .sh (.str s), i => if s.length ≤ big then (L2.atI s.cps.toList i).map fun c => .sh (.str ⟨#[c]⟩) else none
  | t, i => t.items.bind fun ds => (L2.atI ds i).map .sh
def rngEv (tuple : Bool) (a b : Int) : Option OT :=
  guard_ (decide (-(2 ^ 62) ≤ a ∧ a < 2 ^ 62 ∧ -(2 ^ 62) ≤ b ∧ b < 2 ^ 62 ∧ (b - a).toNat ≤ big)) (if tuple then .sh (.tup ((List.range (b - a).toNat).map fun i => .int (a + (i : Nat)))) else newL ((List.range (b - a).toNat).map fun i => .int (a + (i : Nat))))
def methEv (m : String) : OT → Option OT
  | .sh (.str s) => guard_ (decide (m = "upper") && decide (s.length ≤ 5592405)) (.sh (.str (Txt.upper s)))
  | _ => none
/-- a dict of the module: is the key in it -/
def kinEv (neg : Bool) (kvs : List (Str × Int)) : OT → Option OT
  | .sh (.str z) => some (.sh (.bl (neg != (kvs.lookup z).isSome)))
  | _ => none
def kgetEv (kvs : List (Str × Int)) : OT → Option OT
  | .sh (.str z) => (kvs.lookup z).map fun n => .sh (.int n)
  | _ => none
def Op.ev : Op → List OT → Option OT
  | .bin b, [s, t] => binEv b s t
  | .neg, [t] => negEv t
  | .cmp c, [s, t] => (cmpEv c s t).map fun b => .sh (.bl b)
  | .idx, [t, .sh (.int i)] => idxEv t i
  | .fld f, [t] => match t.fld f with
    | some (.sh d) => some (.sh d)
    | _ => none
  | .bi f, ts => biEv f ts
  | .isi tys, [t] => t.toD.tyName.map fun a => .sh (.bl (tys.any fun b => isTy a b))
  | .meth m, [t] => methEv m t
  | .kin _ ng kvs, [t] => kinEv ng kvs t
  | .kget _ kvs, [t] => kgetEv kvs t
  | .rev, [t] => revEv t
  | .revT, [t] => revTEv t
  | .inK ng, [s, t] => inKEv ng s t
  | .listK, [t] => listKEv t
  | .rng _ k, [.sh (.int j)] => rngEv k 0 j
  | .rng _ k, [.sh (.int i), .sh (.int j)] => rngEv k i j
  | _, _ => none
def muEv : Mu → List OT → List OT → Option (OT × List OT)
  | .extend, ts, [t] => t.litems.bind fun ds => guard_ (decide (ts.length + ds.length ≤ big)) (.sh .non, ts ++ ds.map .sh)
  | .append, ts, [t] => guard_ (decide (ts.length < big)) (.sh .non, ts ++ [t])
  | .pop, ts, [] => (ts[ts.length - 1]?).map fun t => (t, ts.dropLast)
  | .popAt, ts, [.sh (.int i)] => if -(2 ^ 63) ≤ i ∧ i < 2 ^ 63 then (seqIndex? i ts.length).bind fun k => (ts[k]?).map fun t => (t, ts.eraseIdx k) else none
  | .insert, ts, [.sh (.int i), t] => if 0 ≤ i ∧ i < 2 ^ 62 ∧ ts.length < big then some (.sh .non, ts.take i.toNat ++ [t] ++ ts.drop i.toNat) else none
  | .setIx, ts, [t, .sh (.int i)] => (L2.ixN ts.length i).map fun j => (.sh .non, ts.set j t)
  | _, _, _ => none

def getV (ρ : Env) (i : Nat) : R (OT × Env) := match ρ.tree i with
  | some (.sh d) => .ok (.sh d, ρ)
  | _ => .no
def set1 (pl : List Nat) (i : Nat) (d : D) (ρ : Env) : Option Env := match ρ[i]? with
  | some (.lk _) => none
  | some _ => if pl.contains i = true then none else some (ρ.set i (.ow (.sh d)))
  | none => none
def setGo (pl : List Nat) : List Nat → List D → Env → Option Env
  | [], _, ρ => some ρ
  | i :: is, d :: ds, ρ => (set1 pl i d ρ).bind fun ρ' => setGo pl is ds ρ'
  | _ :: _, [], _ => none
def D.tupI : D → Option (List D)
  | .tup ds => some ds
  | _ => none
def setTg (pl : List Nat) : Tg → D → Env → Option Env
  | .one i, d, ρ => set1 pl i d ρ
  | .tup is, d, ρ => d.tupI.bind fun ds => if is.length = ds.length then setGo pl is ds ρ else none
def Tg.slots : Tg → List Nat
  | .one i => [i]
  | .tup is => is
/-- a comprehension's own slots at its start -/
def wipeE (ρ : Env) : List Nat → Env
  | [] => ρ
  | v :: vs => (wipeE ρ vs).set v .no
/-- .. and their old content behind it -/
def patch (m : Nat → Bool) : Env → Env → Env
  | a :: as, b :: bs => (if m 0 = true then a else b) :: patch (fun j => m (j + 1)) as bs
  | _, _ => []
def backE (ρ0 ρ : Env) (vs : List Nat) : Env := patch (fun j => vs.contains j) ρ0 ρ
/-- the slot holds nothing that could be changed -/
def quietSl : Sl → Bool
  | .no => true
  | .ow (.sh _) => true
  | _ => false
/-- a comprehension's turns: step adds to what is gathered; the slots vs are cleared behind each turn -/
def lcG (cond : Env → R (Bool × Env)) (step : List OT → Env → R (List OT × Env)) (pl : List Nat) (tg : Tg) (vs : List Nat) : List D → List OT → Env → R (List OT × Env)
  | [], acc, ρ => .ok (acc, ρ)
  | d :: ds, acc, ρ => match setTg pl tg d ρ with
    | none => .no
    | some ρ1 => match cond ρ1 with
      | .ok (false, ρ2) => lcG cond step pl tg vs ds acc (wipeE ρ2 vs)
      | .ok (true, ρ2) => match step acc ρ2 with
        | .ok (acc', ρ3) => lcG cond step pl tg vs ds acc' (wipeE ρ3 vs)
        | _ => .no
      | _ => .no
def pushE (elt : Env → R (OT × Env)) (acc : List OT) (ρ : Env) : R (List OT × Env) := match elt ρ with
  | .ok (t, ρ3) => if acc.length < big then .ok (acc ++ [t], ρ3) else .no
  | _ => .no
def lcL (cond : Env → R (Bool × Env)) (elt : Env → R (OT × Env)) (pl : List Nat) (tg : Tg) : List D → List OT → Env → R (List OT × Env) := lcG cond (pushE elt) pl tg tg.slots
/-- a dict comprehension's turn: what is gathered are keys and values in turn -/
def putE (ek ev : Env → R (OT × Env)) (acc : List OT) (ρ : Env) : R (List OT × Env) := match ek ρ with
  | .ok (.sh (.int k), ρ1) => match ev ρ1 with
    | .ok (.sh d, ρ2) => if (decide (acc.length < big) && goodF acc) = true then .ok (putD k d acc, ρ2) else .no
    | _ => .no
  | _ => .no
def quietAll (ρ : Env) (vs : List Nat) : Bool := vs.all fun i => quietSl (ρ.getD i (.lk (.sh .non)))
/-- an inner clause's turns -/
def inner (it : Env → R (List D × Env)) (bk : Env → Env → Env) (cond : Env → R (Bool × Env)) (elt : Env → R (OT × Env)) (pl : List Nat) (tg : Tg) (acc : List OT) (ρ : Env) : R (List OT × Env) := match it ρ with
  | .ok (ds, ρ1) => if quietAll ρ1 tg.slots = true then match lcL cond elt pl tg ds acc (wipeE ρ1 tg.slots) with
      | .ok (acc', ρ2) => .ok (acc', bk ρ ρ2)
      | _ => .no
    else .no
  | _ => .no
inductive Fl where
  | nx | brk | ct | rt (t : OT)
def forL (body : Env → R (Fl × Env)) (pl : List Nat) (tg : Tg) : List D → Env → R (Fl × Env)
  | [], ρ => .ok (.nx, ρ)
  | d :: ds, ρ => match setTg pl tg d ρ with
    | none => .no
    | some ρ1 => (body ρ1).bind fun (f, ρ2) => match f with
      | .nx => forL body pl tg ds ρ2
      | .ct => forL body pl tg ds ρ2
      | .brk => .ok (.nx, ρ2)
      | .rt t => .ok (.rt t, ρ2)
def whlL (cond : Env → R (Bool × Env)) (body : Env → R (Fl × Env)) : Nat → Env → R (Fl × Env)
  | 0, _ => .no
  | n + 1, ρ => (cond ρ).bind fun (b, ρ1) => if b = true then (body ρ1).bind fun (f, ρ2) => match f with
      | .nx => whlL cond body n ρ2
      | .ct => whlL cond body n ρ2
      | .brk => .ok (.nx, ρ2)
      | .rt t => .ok (.rt t, ρ2)
    else .ok (.nx, ρ1)
/-- a name's own list -/
def Env.ownL (ρ : Env) (i : Nat) : Option (List OT) := match ρ[i]? with
  | some (.ow (.lst ts)) => some ts
  | _ => none
def lock (ρ : Env) (i : Nat) : Env := match ρ[i]? with
  | some (.ow t) => ρ.set i (.lk t)
  | _ => ρ
/-- behind a lock: the slot as it was -/
def unlock (ρ ρ' : Env) (i : Nat) : Env := match ρ[i]? with
  | some (.ow t) => ρ'.set i (.ow t)
  | _ => ρ'
def zipD : List D → List D → List D
  | a :: as, b :: bs => .tup [a, b] :: zipD as bs
  | _, _ => []
def enmD : Nat → List D → List D
  | _, [] => []
  | n, a :: as => .tup [.int n, a] :: enmD (n + 1) as
/-- two rows that never change, side by side -/
def zipEv : OT → OT → Option (List D)
  | .sh (.tup a), .sh (.tup b) => some (zipD a b)
  | .sh (.lst a), .sh (.lst b) => some (zipD a b)
  | .sh (.flst a), .sh (.flst b) => some (zipD a b)
  | .sh (.lst a), .sh (.flst b) => some (zipD a b)
  | .sh (.flst a), .sh (.lst b) => some (zipD a b)
  | _, _ => none
/-- a list that never changes, its items numbered -/
def enmEv : OT → Option (List D)
  | .sh (.lst a) => some (enmD 0 a)
  | .sh (.flst a) => some (enmD 0 a)
  | _ => none
def gas : Nat := 1000000000
/-- what a def gives: its value, the trees of its arguments behind it -/
abbrev Phi := Nat → List OT → R (OT × List OT)

def fillA : CAs → List D → Env → Option (List OT)
  | .nil, _, _ => some []
  | .val _ r, d :: ds, ρ => (fillA r ds ρ).map fun us => .sh d :: us
  | .val _ _, [], _ => none
  | .ref i r, ds, ρ => (ρ.own i).bind fun t => (fillA r ds (ρ.set i .no)).map fun us => t :: us
def backA : CAs → List OT → Env → Option Env
  | .nil, _, ρ => some ρ
  | .val _ r, _ :: ts, ρ => backA r ts ρ
  | .ref i r, t :: ts, ρ => (backA r ts ρ).map fun ρ' => ρ'.set i (.ow t)
  | _, [], _ => none
def goneA : CAs → Env → Env
  | .nil, ρ => ρ
  | .val _ r, ρ => goneA r ρ
  | .ref i r, ρ => goneA r (ρ.set i .no)
def backI : CI → Env → Env → Env
  | .seq (.bor i _), ρ, ρ' => unlock ρ ρ' i
  | _, _, ρ' => ρ'
/-- a name's own instance of the c-th class -/
def Env.ownO (ρ : Env) (i c : Nat) : Option (List Str × List OT) := match ρ[i]? with
  | some (.ow (.obj c' ks ts)) => if c' = c then some (ks, ts) else none
  | _ => none
/-- an attribute stored -/
def putO (f : Str) (t : OT) (ks : List Str) (ts : List OT) : Option (List Str × List OT) := match fldIx ks f with
  | some j => if j < ts.length then some (ks, ts.set j t) else none
  | none => some (ks ++ [f], ts ++ [t])
/-- the list that is the j-th item -/
def atL (ts : List OT) (j : Int) : Option (Nat × List OT) := (L2.ixN ts.length j).bind fun k => match ts[k]? with
  | some (.lst us) => some (k, us)
  | _ => none
def apR (ρ : Env) (i : Nat) (ts : List OT) (f g : Env → R (OT × Env)) : R (OT × Env) := match f (lock ρ i) with
  | .ok (.sh (.int j), ρ1) => match atL ts j with
    | none => .no
    | some (k, us) => match g ρ1 with
      | .ok (.sh d, ρ2) => if us.length < big then .ok (.sh .non, ρ2.set i (.ow (.lst (ts.set k (.lst (us ++ [.sh d])))))) else .no
      | .ok _ => .no
      | .ex e ρ2 => .ex e (unlock ρ ρ2 i)
      | .no => .no
  | .ok _ => .no
  | .ex e ρ2 => .ex e (unlock ρ ρ2 i)
  | .no => .no
/-- two bounds, one after the other -/
def b2 (f g : Env → R (Option Int × Env)) (ρ : Env) : R ((Option Int × Option Int) × Env) := (f ρ).bind fun p => (g p.2).bind fun q => .ok ((p.1, q.1), q.2)
section
variable (Φ : Phi) (pl : List Nat)
mutual
def evE : CE → Env → R (OT × Env)
  | .c d, ρ => .ok (.sh d, ρ)
  | .v i, ρ => getV ρ i
  | .mv i, ρ => match ρ.own i with
    | some t => .ok (.sh t.toD, ρ.set i (.ow (.sh t.toD)))
    | none => .no
  | .take i, ρ => match ρ.own i with
    | some t => .ok (t, ρ.set i .no)
    | none => .no
  | .op o as, ρ => (evOs as ρ).bind fun (ts, ρ1) => match o.ev ts with
    | some t => .ok (t, ρ1)
    | none => .no
  | .slc (.e e) lo hi, ρ => (evE e ρ).bind fun (t, ρ1) => (b2 (fun ρ => evB lo ρ) (fun ρ => evB hi ρ) ρ1).bind fun ((l, u), ρ2) => match slcEv l u t with
    | some w => .ok (w, ρ2)
    | none => .no
  | .slc (.bor i p) lo hi, ρ => match (ρ.tree i).bind fun r => r.getP p with
    | some t => match b2 (fun ρ => evB lo ρ) (fun ρ => evB hi ρ) (lock ρ i) with
      | .ok ((l, u), ρ2) => match slcEv l u t with
        | some w => .ok (w, unlock ρ ρ2 i)
        | none => .no
      | .ex e ρ2 => .ex e (unlock ρ ρ2 i)
      | .no => .no
    | none => .no
  | .tup es, ρ => (evEs es ρ).bind fun (ts, ρ1) => if ts.length ≤ big then .ok (.sh (.tup (toDs ts)), ρ1) else .no
  | .lst es, ρ => (evEs es ρ).bind fun (ts, ρ1) => if ts.length ≤ big then .ok (.lst ts, ρ1) else .no
  | .and es, ρ => evAnd es ρ
  | .or es, ρ => evOr es ρ
  | .not e, ρ => (evE e ρ).bind fun (t, ρ1) => match t with
    | .sh (.bl b) => .ok (.sh (.bl (!b)), ρ1)
    | _ => .no
  | .ite t a b, ρ => (evT t ρ).bind fun (k, ρ1) => if k = true then evE a ρ1 else evE b ρ1
  | .chain o1 o2 a b c, ρ => (evE a ρ).bind fun (ta, ρ1) => (evE b ρ1).bind fun (tb, ρ2) => match cmpEv o1 ta tb with
    | some true => (evE c ρ2).bind fun (tc, ρ3) => match cmpEv o2 tb tc with
      | some k => .ok (.sh (.bl k), ρ3)
      | none => .no
    | some false => .ok (.sh (.bl false), ρ2)
    | none => .no
  | .call f as, ρ => (evAs as ρ).bind fun (ts, ρ1) => match fillA as ts ρ1 with
    | none => .no
    | some us => match Φ f us with
      | .ok (t, ws) => match backA as ws (goneA as ρ1) with
        | some ρ2 => .ok (t, ρ2)
        | none => .no
      | .ex e _ => .ex e (goneA as ρ1)
      | .no => .no
  | .mu m i [] as, ρ => match ρ.ownL i with
    | none => .no
    | some _ => (evEs as ρ).bind fun (ts, ρ1) => match ρ1.ownL i with
      | none => .no
      | some us => match muEv m us ts with
        | some (t, us') => .ok (t, ρ1.set i (.ow (.lst us')))
        | none => .no
  | .mu _ _ (_ :: _) _, _ => .no
  | .fz e, ρ => (evE e ρ).bind fun (t, ρ1) => .ok (.sh t.toD, ρ1)
  | .apX i ix e, ρ => match ρ.ownL i with
    | none => .no
    | some ts => apR ρ i ts (fun ρ => evE ix ρ) (fun ρ => evE e ρ)
  | .rank _ e, ρ => (evE e ρ).bind fun (t, ρ1) => match rankEv t with
    | some w => .ok (w, ρ1)
    | none => .no
  | .dc ek ev tg it cs, ρ => (evI it ρ).bind fun (ds, ρ1) =>
      if quietAll ρ1 tg.slots = true then
        match lcG (fun ρ => evAll cs ρ) (putE (fun ρ => evE ek ρ) (fun ρ => evE ev ρ)) pl tg tg.slots ds [] (wipeE ρ1 tg.slots) with
        | .ok (ts, ρ2) => match leaves ts with
          | some es => if goodD es = true then .ok (.sh (.dct es), backI it ρ (backE ρ1 ρ2 tg.slots)) else .no
          | none => .no
        | _ => .no
      else .no
  | .lc e tg it cs, ρ => (evI it ρ).bind fun (ds, ρ1) =>
      if quietAll ρ1 tg.slots = true then
        match lcL (fun ρ => evAll cs ρ) (fun ρ => evE e ρ) pl tg ds [] (wipeE ρ1 tg.slots) with
        | .ok (ts, ρ2) => .ok (.lst ts, backI it ρ (backE ρ1 ρ2 tg.slots))
        | _ => .no
      else .no
  | .lc2 e tg it cs tg1 it1 cs1, ρ => (evI it ρ).bind fun (ds, ρ1) =>
      if quietAll ρ1 (tg.slots ++ tg1.slots) = true then
        match lcG (fun ρ => evAll cs ρ) (inner (fun ρ => evI it1 ρ) (fun ρ ρ' => backI it1 ρ ρ') (fun ρ => evAll cs1 ρ) (fun ρ => evE e ρ) pl tg1) pl tg (tg.slots ++ tg1.slots) ds [] (wipeE ρ1 (tg.slots ++ tg1.slots)) with
        | .ok (ts, ρ2) => .ok (.lst ts, backI it ρ (backE ρ1 ρ2 (tg.slots ++ tg1.slots)))
        | _ => .no
      else .no
/-- values joined by and, all but the last one bools -/
def evAnd : CEs → Env → R (OT × Env)
  | .nil, _ => .no
  | .cons e .nil, ρ => evE e ρ
  | .cons e r, ρ => (evE e ρ).bind fun (t, ρ1) => match t with
    | .sh (.bl true) => evAnd r ρ1
    | .sh (.bl false) => .ok (.sh (.bl false), ρ1)
    | _ => .no
def evOr : CEs → Env → R (OT × Env)
  | .nil, _ => .no
  | .cons e .nil, ρ => evE e ρ
  | .cons e r, ρ => (evE e ρ).bind fun (t, ρ1) => match t with
    | .sh (.bl false) => evOr r ρ1
    | .sh (.bl true) => .ok (.sh (.bl true), ρ1)
    | _ => .no
def evEs : CEs → Env → R (List OT × Env)
  | .nil, ρ => .ok ([], ρ)
  | .cons e r, ρ => (evE e ρ).bind fun (t, ρ1) => (evEs r ρ1).bind fun (ts, ρ2) => .ok (t :: ts, ρ2)
/-- an operand: its tree, and the environment for what comes behind it -/
def evO : CO → Env → R (OT × Env)
  | .e e, ρ => evE e ρ
  | .bor i p, ρ => match (ρ.tree i).bind fun r => r.getP p with
    | some t => .ok (t, ρ)
    | none => .no
def evOs : COs → Env → R (List OT × Env)
  | .nil, ρ => .ok ([], ρ)
  | .cons (.e e) r, ρ => (evE e ρ).bind fun (t, ρ1) => (evOs r ρ1).bind fun (ts, ρ2) => .ok (t :: ts, ρ2)
  | .cons (.bor i p) r, ρ => match (ρ.tree i).bind fun r => r.getP p with
    | some t => match evOs r (lock ρ i) with
      | .ok (ts, ρ2) => .ok (t :: ts, unlock ρ ρ2 i)
      | .ex e ρ2 => .ex e (unlock ρ ρ2 i)
      | .no => .no
    | none => .no
/-- the bounds of a cut -/
def evB : CB → Env → R (Option Int × Env)
  | .no, ρ => .ok (none, ρ)
  | .at e, ρ => (evE e ρ).bind fun (t, ρ1) => match t with
    | .sh (.int i) => .ok (some i, ρ1)
    | _ => .no
/-- arguments: the values (frozen) in order; those by reference come later -/
def evAs : CAs → Env → R (List D × Env)
  | .nil, ρ => .ok ([], ρ)
  | .val e r, ρ => (evE e ρ).bind fun (t, ρ1) => (evAs r ρ1).bind fun (ds, ρ2) => .ok (t.toD :: ds, ρ2)
  | .ref i r, ρ => if (ρ.tree i).isSome = true then evAs r ρ else .no
def evT : CT → Env → R (Bool × Env)
  | .and ts, ρ => evAll ts ρ
  | .or ts, ρ => evAny ts ρ
  | .not t, ρ => (evT t ρ).bind fun (b, ρ1) => .ok (!b, ρ1)
  | .val o, ρ => (evO o ρ).bind fun (t, ρ1) => match truEv t with
    | some b => .ok (b, ρ1)
    | none => .no
def evAll : CTs → Env → R (Bool × Env)
  | .nil, ρ => .ok (true, ρ)
  | .cons t r, ρ => (evT t ρ).bind fun (b, ρ1) => if b = true then evAll r ρ1 else .ok (false, ρ1)
def evAny : CTs → Env → R (Bool × Env)
  | .nil, ρ => .ok (false, ρ)
  | .cons t r, ρ => (evT t ρ).bind fun (b, ρ1) => if b = true then .ok (true, ρ1) else evAny r ρ1
/-- what is walked; where it is a name's own list, the name is locked -/
def evI : CI → Env → R (List D × Env)
  | .seq (.e e), ρ => (evE e ρ).bind fun (t, ρ1) => match t.items with
    | some ds => .ok (ds, ρ1)
    | none => .no
  | .seq (.bor i p), ρ => match ((ρ.tree i).bind fun r => r.getP p).bind OT.items with
    | some ds => .ok (ds, lock ρ i)
    | none => .no
  | .rng1 e, ρ => (evE e ρ).bind fun (t, ρ1) => match t with
    | .sh (.int j) => if -(2 ^ 62) ≤ j ∧ j < 2 ^ 62 then .ok ((List.range j.toNat).map fun i => .int (i : Nat), ρ1) else .no
    | _ => .no
  | .rng2 a b, ρ => (evE a ρ).bind fun (t, ρ1) => (evE b ρ1).bind fun (u, ρ2) => match t, u with
    | .sh (.int i), .sh (.int j) => if -(2 ^ 62) ≤ i ∧ i < 2 ^ 62 ∧ -(2 ^ 62) ≤ j ∧ j < 2 ^ 62 then .ok ((List.range (j - i).toNat).map fun k => .int (i + (k : Nat)), ρ2) else .no
    | _, _ => .no
  | .enm (.e a), ρ => (evE a ρ).bind fun (t, ρ1) => match enmEv t with
    | some ds => .ok (ds, ρ1)
    | none => .no
  | .enm (.bor _ _), _ => .no
  | .zip (.e a) (.e b), ρ => (evE a ρ).bind fun (t, ρ1) => (evE b ρ1).bind fun (u, ρ2) => match zipEv t u with
    | some ds => .ok (ds, ρ2)
    | none => .no
  | .zip _ _, _ => .no
  | .keys e, ρ => (evE e ρ).bind fun (t, ρ1) => match t with
    | .sh (.dct ds) => .ok (evens ds, ρ1)
    | _ => .no
end
def atEv (e : Exn) (ρ : Env) : At → Option D
  | .c d => some d
  | .v i => match ρ.tree i with
    | some (.sh d) => some d
    | _ => none
  | .xf j => e.args[j]?
def atsEv (e : Exn) (ρ : Env) : List At → Option (List D)
  | [] => some []
  | a :: r => (atEv e ρ a).bind fun d => (atsEv e ρ r).map fun ds => d :: ds
/-- the slot of a clause's name holds nothing -/
def bareI (ρ : Env) : Option Nat → Bool
  | none => true
  | some i => match ρ[i]? with
    | some .no => true
    | _ => false
def hdRet (tup : Bool) (ds : List D) (ρ : Env) : R (Fl × Env) := if tup = true then (if ds.length ≤ big then .ok (.rt (.sh (.tup ds)), ρ) else .no) else match ds with
  | [d] => .ok (.rt (.sh d), ρ)
  | _ => .no
def hdEv : List Hd → Exn → Env → R (Fl × Env)
  | [], e, ρ => .ex e ρ
  | h :: r, e, ρ => if h.ms.contains e.cls = true then
      (if bareI ρ h.i = true then match atsEv e ρ h.as with
        | some ds => hdRet h.tup ds ρ
        | none => .no
      else .no)
    else hdEv r e ρ
mutual
def evS : CS → Env → R (Fl × Env)
  | .nop, ρ => .ok (.nx, ρ)
  | .brk, ρ => .ok (.brk, ρ)
  | .cont, ρ => .ok (.ct, ρ)
  | .retN, ρ => .ok (.rt (.sh .non), ρ)
  | .frz i, ρ => match ρ.own i with
    | some t => .ok (.nx, ρ.set i (.ow (.sh t.toD)))
    | none => .no
  | .ex e, ρ => (evE Φ pl e ρ).bind fun (_, ρ1) => .ok (.nx, ρ1)
  | .set i e, ρ => (evE Φ pl e ρ).bind fun (t, ρ1) => match ρ1[i]? with
    | some (.lk _) => .no
    | some _ => if pl.contains i then .no else .ok (.nx, ρ1.set i (.ow t))
    | none => .no
  | .setT is e, ρ => (evE Φ pl e ρ).bind fun (t, ρ1) => match setTg pl (.tup is) t.toD ρ1 with
    | some ρ2 => .ok (.nx, ρ2)
    | none => .no
  | .setF i c f e, ρ => (evE Φ pl e ρ).bind fun (t, ρ1) => match ρ1.ownO i c with
    | none => .no
    | some (ks, ts) => if ks.length < 1000 then match putO f t ks ts with
        | some (ks', ts') => .ok (.nx, ρ1.set i (.ow (.obj c ks' ts')))
        | none => .no
      else .no
  | .setX i [] ix e, ρ => match ρ.ownL i with
    | none => .no
    | some _ => (evEs Φ pl (.cons e (.cons ix .nil)) ρ).bind fun (ts, ρ1) => match ρ1.ownL i with
      | none => .no
      | some us => match muEv .setIx us ts with
        | some (_, us') => .ok (.nx, ρ1.set i (.ow (.lst us')))
        | none => .no
  | .setX _ (_ :: _) _ _, _ => .no
  | .ret e, ρ => (evE Φ pl e ρ).bind fun (t, ρ1) => .ok (.rt t, ρ1)
  | .ife t a b, ρ => (evT Φ pl t ρ).bind fun (k, ρ1) => if k = true then evSs a ρ1 else evSs b ρ1
  | .whl t b, ρ => whlL (fun ρ => evT Φ pl t ρ) (fun ρ => evSs b ρ) gas ρ
  | .for_ tg it b, ρ => (evI Φ pl it ρ).bind fun (ds, ρ1) => match forL (fun ρ => evSs b ρ) pl tg ds ρ1 with
    | .ok (f, ρ2) => .ok (f, backI it ρ ρ2)
    | .ex e ρ2 => .ex e (backI it ρ ρ2)
    | .no => .no
  | .raise c n as, ρ => (evEs Φ pl as ρ).bind fun (ts, ρ1) => if ts.length = n then .ex ⟨c, toDs ts⟩ ρ1 else .no
  | .tr b hs, ρ => match evSs b ρ with
    | .ok p => .ok p
    | .ex e ρ1 => hdEv hs e ρ1
    | .no => .no
def evSs : CSs → Env → R (Fl × Env)
  | .nil, ρ => .ok (.nx, ρ)
  | .cons s r, ρ => (evS s ρ).bind fun (f, ρ1) => match f with
    | .nx => evSs r ρ1
    | f => .ok (f, ρ1)
end
end
/-- a def's body: its parameters' slots first -/
structure Fn where
  np : Nat
  nv : Nat
  pl : List Nat
  body : CSs
  /-- a class: which one, and its __init__ -/
  cls : Option (Nat × Nat)
/-- the trees of the arguments behind a call: those by reference as they are now; all others are data -/
def outs (pl : List Nat) (ρ : Env) : Nat → List OT → Option (List OT)
  | _, [] => some []
  | n, t :: r => (if pl.contains n = true then ρ.own n else match t with
    | .sh d => some (.sh d)
    | _ => none).bind fun u => (outs pl ρ (n + 1) r).map fun us => u :: us
def Fn.run0 (Φ : Phi) (fn : Fn) (ts : List OT) : R (OT × List OT) :=
  if ts.length = fn.np then
    match evSs Φ fn.pl fn.body (ts.map .ow ++ List.replicate (fn.nv - fn.np) .no) with
    | .ok (.nx, ρ) => R.ofO ((outs fn.pl ρ 0 ts).map fun us => (.sh .non, us))
    | .ok (.rt t, ρ) => R.ofO ((outs fn.pl ρ 0 ts).map fun us => (t, us))
    | .ex e _ => .ex e []
    | _ => .no
  else .no
/-- an instance made: what __init__ left of it -/
def mkR : R (OT × List OT) → R (OT × List OT)
  | .ok (.sh .non, w :: ws) => .ok (w, ws)
  | .ex e _ => .ex e []
  | _ => .no
def Fn.run (Φ : Phi) (fn : Fn) (ts : List OT) : R (OT × List OT) := match fn.cls with
  | some (c, i) => mkR (Φ i (.obj c [] [] :: ts))
  | none => fn.run0 Φ ts
def runD (tab : Nat → Option Fn) : Nat → Phi
  | 0 => fun _ _ => .no
  | k + 1 => fun f ts => match tab f with
    | some fn => fn.run (runD tab k) ts
    | none => .no
end CH
end
section
namespace CH
open PySem L2 Evl

/-- where the text's defs and classes stand -/
structure Tab where
  fnA : Nat → Option Addr
  clA : Nat → Option Addr
  exA : Nat → Option Addr
  exF : Nat → List Str
  name : Nat → Str
  exN : Nat → Str
  bn : List Str
/-- the class at C lets its instances' attributes ks be read plainly -/
structure CInf (K : PySem.W.Frag) (C : Addr) (ks : List Str) : Prop where
  cl : Cls K C
  na : ∀ k ∈ ks, NoAttr K C k
/-- keys and values in turn, as pairs -/
def prK : List V → List (Key × V)
  | .int k :: v :: r => (.inl k, v) :: prK r
  | _ => []
mutual
inductive Rp (K : PySem.W.Frag) (T : Tab) (H : Hp) : D → V → Prop
  | non : Rp K T H .non .non
  | bl (b : Bool) : Rp K T H (.bl b) (.bl b)
  | int (i : Int) : Rp K T H (.int i) (.int i)
  | str (s : Str) : Rp K T H (.str s) (.str s)
  | tup {a : Addr} {ds : List D} {vs : List V} : SqT K H a vs → Rps K T H ds vs → Rp K T H (.tup ds) (.ref a)
  | lst {a : Addr} {ds : List D} {vs : List V} : H a = some (.lst vs) → Rps K T H ds vs → Rp K T H (.lst ds) (.ref a)
  | flst {a : Addr} {ds : List D} {vs : List V} : SqL K H a vs → Rps K T H ds vs → Rp K T H (.flst ds) (.ref a)
  | ty (n : String) : Rp K T H (.ty n) (.ty n)
  | fn {f : Nat} {a : Addr} : T.fnA f = some a → Rp K T H (.fn f) (.ref a)
  | obj {c : Nat} {C a dx : Addr} {fs : List (Str × V)} {ds : List D} : H a = some (.ins C dx fs) → T.clA c = some C ∧ CInf K C (fs.map (·.1)) → Rps K T H ds (fs.map (·.2)) → Rp K T H (.obj c (fs.map (·.1)) ds) (.ref a)
  | dct {a : Addr} {o : Obj} {ds : List D} {vs : List V} : H a = some (.frz o (.dK (prK vs))) → goodD ds = true → Rps K T H ds vs → Rp K T H (.dct ds) (.ref a)
inductive Rps (K : PySem.W.Frag) (T : Tab) (H : Hp) : List D → List V → Prop
  | nil : Rps K T H [] []
  | cons {d : D} {v : V} {ds : List D} {vs : List V} : Rp K T H d v → Rps K T H ds vs → Rps K T H (d :: ds) (v :: vs)
end
mutual
inductive RpO (K : PySem.W.Frag) (T : Tab) (Hs H : Hp) : OT → V → List Addr → Prop
  | sh {d : D} {v : V} : Rp K T Hs d v → RpO K T Hs H (.sh d) v []
  | lst {a : Addr} {ts : List OT} {vs : List V} {f : List Addr} : H a = some (.lst vs) → RpOs K T Hs H ts vs f → RpO K T Hs H (.lst ts) (.ref a) (a :: f)
  | obj {c : Nat} {C a dx : Addr} {fs : List (Str × V)} {ts : List OT} {f : List Addr} : H a = some (.ins C dx fs) → T.clA c = some C ∧ CInf K C (fs.map (·.1)) → RpOs K T Hs H ts (fs.map (·.2)) f → RpO K T Hs H (.obj c (fs.map (·.1)) ts) (.ref a) (a :: f)
inductive RpOs (K : PySem.W.Frag) (T : Tab) (Hs H : Hp) : List OT → List V → List Addr → Prop
  | nil : RpOs K T Hs H [] [] []
  | cons {t : OT} {v : V} {f g : List Addr} {ts : List OT} {vs : List V} : RpO K T Hs H t v f → RpOs K T Hs H ts vs g → RpOs K T Hs H (t :: ts) (v :: vs) (f ++ g)
end

section
variable {K : PySem.W.Frag} {T : Tab} {H H' Hs Hs' : Hp}
mutual
theorem Rp.mono (e : Ex H H') : ∀ {d : D} {v : V}, Rp K T H d v → Rp K T H' d v
  | _, _, .non => .non
  | _, _, .bl b => .bl b
  | _, _, .int i => .int i
  | _, _, .str s => .str s
  | _, _, .tup h r => .tup (ex_t e h) (Rps.mono e r)
  | _, _, .lst h r => .lst (e _ _ h) (Rps.mono e r)
  | _, _, .flst h r => .flst (ex_l e h) (Rps.mono e r)
  | _, _, .ty n => .ty n
  | _, _, .fn h => .fn h
  | _, _, .obj h c r => .obj (e _ _ h) c (Rps.mono e r)
  | _, _, .dct h g r => .dct (e _ _ h) g (Rps.mono e r)
theorem Rps.mono (e : Ex H H') : ∀ {ds : List D} {vs : List V}, Rps K T H ds vs → Rps K T H' ds vs
  | _, _, .nil => .nil
  | _, _, .cons h r => .cons (Rp.mono e h) (Rps.mono e r)
end
theorem Rps.length : ∀ {ds : List D} {vs : List V}, Rps K T H ds vs → ds.length = vs.length
  | _, _, .nil => rfl
  | _, _, .cons _ r => by simp [r.length]
theorem RpOs.length : ∀ {ts : List OT} {vs : List V} {f : List Addr}, RpOs K T Hs H ts vs f → ts.length = vs.length
  | _, _, _, .nil => rfl
  | _, _, _, .cons _ r => by simp [RpOs.length r]
theorem Rps.get : ∀ {ds : List D} {vs : List V} {i : Nat} {d : D}, Rps K T H ds vs → ds[i]? = some d → ∃ v, vs[i]? = some v ∧ Rp K T H d v
  | _, _, _, _, .nil, e => by simp at e
  | _, _, 0, _, .cons h r, e => by simp at e; subst e; exact ⟨_, rfl, h⟩
  | _, _, i + 1, _, .cons h r, e => by
    obtain ⟨v, e1, h1⟩ := Rps.get (i := i) r (by simpa using e)
    exact ⟨v, by simpa using e1, h1⟩
theorem Rps.getV : ∀ {ds : List D} {vs : List V} {i : Nat} {v : V}, Rps K T H ds vs → vs[i]? = some v → ∃ d, ds[i]? = some d ∧ Rp K T H d v
  | _, _, _, _, .nil, e => by simp at e
  | _, _, 0, _, .cons h r, e => by simp at e; subst e; exact ⟨_, rfl, h⟩
  | _, _, i + 1, _, .cons h r, e => by
    obtain ⟨v, e1, h1⟩ := Rps.getV (i := i) r (by simpa using e)
    exact ⟨v, by simpa using e1, h1⟩
theorem Rps.append : ∀ {ds es : List D} {vs ws : List V}, Rps K T H ds vs → Rps K T H es ws → Rps K T H (ds ++ es) (vs ++ ws)
  | _, _, _, _, .nil, r => r
  | _, _, _, _, .cons h t, r => .cons h (t.append r)
theorem Rps.drop : ∀ {ds : List D} {vs : List V} (n : Nat), Rps K T H ds vs → Rps K T H (ds.drop n) (vs.drop n)
  | _, _, 0, r => r
  | _, _, _ + 1, .nil => .nil
  | _, _, n + 1, .cons _ t => t.drop n
theorem Rps.take : ∀ {ds : List D} {vs : List V} (n : Nat), Rps K T H ds vs → Rps K T H (ds.take n) (vs.take n)
  | _, _, 0, _ => .nil
  | _, _, _ + 1, .nil => .nil
  | _, _, n + 1, .cons h t => .cons h (t.take n)
theorem Rps.reverse : ∀ {ds : List D} {vs : List V}, Rps K T H ds vs → Rps K T H ds.reverse vs.reverse
  | _, _, .nil => .nil
  | _, _, .cons h t => by rw [List.reverse_cons, List.reverse_cons]; exact t.reverse.append (.cons h .nil)
theorem Rps.rep {ds : List D} {vs : List V} (r : Rps K T H ds vs) : ∀ n : Nat, Rps K T H (List.replicate n ds).flatten (List.replicate n vs).flatten
  | 0 => .nil
  | n + 1 => by rw [List.replicate_succ, List.replicate_succ, List.flatten_cons, List.flatten_cons]; exact r.append (r.rep n)

mutual
theorem RpO.toD (e : Ex Hs H) : ∀ {t : OT} {v : V} {f : List Addr}, RpO K T Hs H t v f → Rp K T H t.toD v
  | _, _, _, .sh h => by unfold OT.toD; exact h.mono e
  | _, _, _, .lst h r => by unfold OT.toD; exact .lst h (RpOs.toD e r)
  | _, _, _, .obj h c r => by unfold OT.toD; exact .obj h c (RpOs.toD e r)
theorem RpOs.toD (e : Ex Hs H) : ∀ {ts : List OT} {vs : List V} {f : List Addr}, RpOs K T Hs H ts vs f → Rps K T H (toDs ts) vs
  | _, _, _, .nil => by unfold toDs; exact .nil
  | _, _, _, .cons h r => by unfold toDs; exact .cons (RpO.toD e h) (RpOs.toD e r)
end
mutual
theorem RpO.step (e : Ex Hs Hs') : ∀ {t : OT} {v : V} {f : List Addr}, RpO K T Hs H t v f → (∀ a ∈ f, ∀ o, H a = some o → H' a = some o) → RpO K T Hs' H' t v f
  | _, _, _, .sh h, _ => .sh (h.mono e)
  | _, _, _, .lst h r, k => .lst (k _ (by simp) _ h) (RpOs.step e r fun a ha => k a (by simp [ha]))
  | _, _, _, .obj h c r, k => .obj (k _ (by simp) _ h) c (RpOs.step e r fun a ha => k a (by simp [ha]))
theorem RpOs.step (e : Ex Hs Hs') : ∀ {ts : List OT} {vs : List V} {f : List Addr}, RpOs K T Hs H ts vs f → (∀ a ∈ f, ∀ o, H a = some o → H' a = some o) → RpOs K T Hs' H' ts vs f
  | _, _, _, .nil, _ => .nil
  | _, _, _, .cons h r, k => .cons (RpO.step e h fun a ha => k a (by simp [ha])) (RpOs.step e r fun a ha => k a (by simp [ha]))
end
mutual
theorem RpO.tracked : ∀ {t : OT} {v : V} {f : List Addr}, RpO K T Hs H t v f → ∀ a ∈ f, ∃ o, H a = some o
  | _, _, _, .sh h, a, ha => by simp at ha
  | _, _, _, .lst h r, a, ha => by
    rcases List.mem_cons.mp ha with rfl | ha
    · exact ⟨_, h⟩
    · exact RpOs.tracked r a ha
  | _, _, _, .obj h c r, a, ha => by
    rcases List.mem_cons.mp ha with rfl | ha
    · exact ⟨_, h⟩
    · exact RpOs.tracked r a ha
theorem RpOs.tracked : ∀ {ts : List OT} {vs : List V} {f : List Addr}, RpOs K T Hs H ts vs f → ∀ a ∈ f, ∃ o, H a = some o
  | _, _, _, .nil, a, ha => by simp at ha
  | _, _, _, .cons h r, a, ha => by
    rcases List.mem_append.mp ha with ha | ha
    · exact RpO.tracked h a ha
    · exact RpOs.tracked r a ha
end
theorem RpOs.leaves : ∀ {ts : List OT} {vs : List V} {f : List Addr} {ds : List D}, RpOs K T Hs H ts vs f → leaves ts = some ds → Rps K T Hs ds vs ∧ f = []
  | _, _, _, _, .nil, e => by simp [CH.leaves] at e; subst e; exact ⟨.nil, rfl⟩
  | _, _, _, _, .cons (t := .sh d) h r, e => by
    simp only [CH.leaves, Option.map_eq_some_iff] at e
    obtain ⟨ds, e1, rfl⟩ := e
    obtain ⟨r1, rfl⟩ := r.leaves e1
    cases h with
    | sh h => exact ⟨.cons h r1, rfl⟩
  | _, _, _, _, .cons (t := .lst _) h r, e => by simp [CH.leaves] at e
  | _, _, _, _, .cons (t := .obj ..) h r, e => by simp [CH.leaves] at e
theorem RpOs.append : ∀ {ts us : List OT} {vs ws : List V} {f g : List Addr}, RpOs K T Hs H ts vs f → RpOs K T Hs H us ws g → RpOs K T Hs H (ts ++ us) (vs ++ ws) (f ++ g)
  | _, _, _, _, _, _, .nil, r => r
  | _, _, _, _, _, _, .cons h t, r => by rw [List.append_assoc]; exact .cons h (t.append r)
theorem RpOs.of : ∀ {ds : List D} {vs : List V}, Rps K T Hs ds vs → RpOs K T Hs H (ds.map .sh) vs []
  | _, _, .nil => .nil
  | _, _, .cons h r => RpOs.cons (f := []) (.sh h) (RpOs.of r)
theorem leaves_map : ∀ ds : List D, leaves (ds.map .sh) = some ds
  | [] => rfl
  | d :: ds => by simp [leaves, leaves_map ds]

/-- what is frozen -/
def frz (Hs H : Hp) (f : List Addr) : Hp := fun b => if b ∈ f then H b else Hs b
theorem frz_in {f : List Addr} {a : Addr} (h : a ∈ f) : frz Hs H f a = H a := if_pos h
theorem frz_out {f : List Addr} {a : Addr} (h : a ∉ f) : frz Hs H f a = Hs a := if_neg h
theorem frz_ex {f : List Addr} (nf : ∀ a ∈ f, Hs a = none) : Ex Hs (frz Hs H f) := fun a o e => by
  by_cases h : a ∈ f
  · rw [nf a h] at e; cases e
  · rw [frz_out h]; exact e
theorem frz_le {f : List Addr} (e : Ex Hs H) : Ex (frz Hs H f) H := fun a o q => by
  by_cases h : a ∈ f
  · rw [frz_in h] at q; exact q
  · rw [frz_out h] at q; exact e a o q
mutual
theorem RpO.frz {F : List Addr} (nf : ∀ a ∈ F, Hs a = none) : ∀ {t : OT} {v : V} {f : List Addr}, RpO K T Hs H t v f → (∀ a ∈ f, a ∈ F) → Rp K T (frz Hs H F) t.toD v
  | _, _, _, .sh h, _ => by unfold OT.toD; exact h.mono (frz_ex nf)
  | _, _, _, .lst h r, k => by unfold OT.toD; exact .lst (by rw [frz_in (k _ (by simp))]; exact h) (RpOs.frz nf r fun a ha => k a (by simp [ha]))
  | _, _, _, .obj h c r, k => by unfold OT.toD; exact .obj (by rw [frz_in (k _ (by simp))]; exact h) c (RpOs.frz nf r fun a ha => k a (by simp [ha]))
theorem RpOs.frz {F : List Addr} (nf : ∀ a ∈ F, Hs a = none) : ∀ {ts : List OT} {vs : List V} {f : List Addr}, RpOs K T Hs H ts vs f → (∀ a ∈ f, a ∈ F) → Rps K T (frz Hs H F) (toDs ts) vs
  | _, _, _, .nil, _ => by unfold toDs; exact .nil
  | _, _, _, .cons h r, k => by unfold toDs; exact .cons (RpO.frz nf h fun a ha => k a (by simp [ha])) (RpOs.frz nf r fun a ha => k a (by simp [ha]))
end

inductive RpS (K : PySem.W.Frag) (T : Tab) (Hs H : Hp) (L : List Addr) : Env → St → List Addr → Prop
  | nil : RpS K T Hs H L [] [] []
  | no {x : Option V} {ρ : Env} {σ : St} {fp : List Addr} : RpS K T Hs H L ρ σ fp → RpS K T Hs H L (.no :: ρ) (x :: σ) fp
  | ow {t : OT} {v : V} {f : List Addr} {ρ : Env} {σ : St} {fp : List Addr} : RpO K T Hs H t v f → RpS K T Hs H L ρ σ fp → RpS K T Hs H L (.ow t :: ρ) (some v :: σ) (f ++ fp)
  | lk {t : OT} {v : V} {f : List Addr} {ρ : Env} {σ : St} {fp : List Addr} : RpO K T Hs H t v f → (∀ a ∈ f, a ∈ L) → RpS K T Hs H L ρ σ fp → RpS K T Hs H L (.lk t :: ρ) (some v :: σ) fp
variable {L L' : List Addr}
theorem RpS.length : ∀ {ρ : Env} {σ : St} {fp : List Addr}, RpS K T Hs H L ρ σ fp → ρ.length = σ.length
  | _, _, _, .nil => rfl
  | _, _, _, .no r => by simp [r.length]
  | _, _, _, .ow _ r => by simp [r.length]
  | _, _, _, .lk _ _ r => by simp [r.length]
theorem RpS.tracked : ∀ {ρ : Env} {σ : St} {fp : List Addr}, RpS K T Hs H L ρ σ fp → ∀ a ∈ fp, ∃ o, H a = some o
  | _, _, _, .nil, a, ha => by simp at ha
  | _, _, _, .no r, a, ha => r.tracked a ha
  | _, _, _, .ow h r, a, ha => by
    rcases List.mem_append.mp ha with ha | ha
    · exact h.tracked a ha
    · exact r.tracked a ha
  | _, _, _, .lk _ _ r, a, ha => r.tracked a ha
theorem RpS.step (e : Ex Hs Hs') (hL : ∀ a ∈ L, a ∈ L') : ∀ {ρ : Env} {σ : St} {fp : List Addr}, RpS K T Hs H L ρ σ fp → (∀ a, a ∈ fp ∨ a ∈ L → ∀ o, H a = some o → H' a = some o) → RpS K T Hs' H' L' ρ σ fp
  | _, _, _, .nil, _ => .nil
  | _, _, _, .no r, k => .no (r.step e hL k)
  | _, _, _, .ow h r, k => .ow (h.step e fun a ha => k a (.inl (by simp [ha]))) (r.step e hL fun a ha => k a (ha.imp (fun q => by simp [q]) id))
  | _, _, _, .lk h l r, k => .lk (h.step e fun a ha => k a (.inr (l a ha))) (fun a ha => hL a (l a ha)) (r.step e hL k)
/-- a slot with a tree of its own -/
theorem RpS.takeOut : ∀ {ρ : Env} {σ : St} {fp : List Addr} {i : Nat} {t : OT}, RpS K T Hs H L ρ σ fp → ρ[i]? = some (.ow t) → ∃ v f fr, σ[i]? = some (some v) ∧ RpO K T Hs H t v f ∧ fp.Perm (f ++ fr) ∧ RpS K T Hs H L (ρ.set i .no) σ fr
  | _, _, _, i, t, .nil, e => by simp at e
  | _, _, _, 0, t, .no r, e => by simp at e
  | _, _, _, 0, t, .lk h l r, e => by simp at e
  | _, _, _, 0, t, .ow h r, e => by
    simp at e; subst e
    exact ⟨_, _, _, rfl, h, .refl _, .no r⟩
  | _, _, _, i + 1, t, .no r, e => by
    obtain ⟨v, f, fr, h1, h2, h3, h4⟩ := r.takeOut (i := i) (by simpa using e)
    exact ⟨v, f, fr, by simpa using h1, h2, h3, .no h4⟩
  | _, _, _, i + 1, t, .lk h l r, e => by
    obtain ⟨v, f, fr, h1, h2, h3, h4⟩ := r.takeOut (i := i) (by simpa using e)
    exact ⟨v, f, fr, by simpa using h1, h2, h3, .lk h l h4⟩
  | _, _, _, i + 1, t, .ow (f := g) h r, e => by
    obtain ⟨v, f, fr, h1, h2, h3, h4⟩ := r.takeOut (i := i) (by simpa using e)
    refine ⟨v, f, g ++ fr, by simpa using h1, h2, ?_, .ow h h4⟩
    exact (List.Perm.append_left g h3).trans (by rw [← List.append_assoc, ← List.append_assoc]; exact List.Perm.append_right fr List.perm_append_comm)
/-- a slot forgotten -/
theorem RpS.forget : ∀ {ρ : Env} {σ : St} {fp : List Addr} (i : Nat) (x : Option V), RpS K T Hs H L ρ σ fp → ∃ fr, RpS K T Hs H L (ρ.set i .no) (σ.set i x) fr ∧ fr.Sublist fp
  | _, _, _, i, x, .nil => ⟨[], .nil, .refl _⟩
  | _, _, _, 0, x, .no r => ⟨_, .no r, .refl _⟩
  | _, _, _, 0, x, .ow h r => ⟨_, .no r, List.sublist_append_right _ _⟩
  | _, _, _, 0, x, .lk h l r => ⟨_, .no r, .refl _⟩
  | _, _, _, i + 1, x, .no r => by
    obtain ⟨fr, h1, h2⟩ := r.forget i x
    exact ⟨fr, .no h1, h2⟩
  | _, _, _, i + 1, x, .ow (f := g) h r => by
    obtain ⟨fr, h1, h2⟩ := r.forget i x
    exact ⟨g ++ fr, .ow h h1, h2.append_left g⟩
  | _, _, _, i + 1, x, .lk h l r => by
    obtain ⟨fr, h1, h2⟩ := r.forget i x
    exact ⟨fr, .lk h l h1, h2⟩
theorem RpS.forget' {ρ : Env} {σ : St} {fp : List Addr} (i : Nat) (r : RpS K T Hs H L ρ σ fp) : ∃ fr, RpS K T Hs H L (ρ.set i .no) σ fr ∧ fr.Sublist fp := by
  by_cases hi : i < σ.length
  · obtain ⟨fr, h1, h2⟩ := r.forget i (σ[i])
    exact ⟨fr, by rw [List.set_getElem_self] at h1; exact h1, h2⟩
  · refine ⟨fp, ?_, .refl _⟩
    rw [List.set_eq_of_length_le (by rw [r.length]; omega)]
    exact r
/-- a tree laid into a slot -/
theorem RpS.put : ∀ {ρ : Env} {σ : St} {fp : List Addr} {i : Nat} {t : OT} {v : V} {f : List Addr}, RpS K T Hs H L ρ σ fp → i < ρ.length → ρ[i]? = some .no → RpO K T Hs H t v f → ∃ fp', RpS K T Hs H L (ρ.set i (.ow t)) (σ.set i (some v)) fp' ∧ fp'.Perm (f ++ fp)
  | _, _, _, i, t, v, f, .nil, hi, _, h => by simp at hi
  | _, _, _, 0, t, v, f, .no r, hi, _, h => ⟨_, .ow h r, .refl _⟩
  | _, _, _, 0, t, v, f, .ow g r, hi, e, h => by simp at e
  | _, _, _, 0, t, v, f, .lk g l r, hi, e, h => by simp at e
  | _, _, _, i + 1, t, v, f, .no r, hi, e, h => by
    obtain ⟨fp', h1, h2⟩ := r.put (i := i) (by simpa using hi) (by simpa using e) h
    exact ⟨fp', .no h1, h2⟩
  | _, _, _, i + 1, t, v, f, .lk g l r, hi, e, h => by
    obtain ⟨fp', h1, h2⟩ := r.put (i := i) (by simpa using hi) (by simpa using e) h
    exact ⟨fp', .lk g l h1, h2⟩
  | _, _, _, i + 1, t, v, f, .ow (f := g') g r, hi, e, h => by
    obtain ⟨fp', h1, h2⟩ := r.put (i := i) (by simpa using hi) (by simpa using e) h
    refine ⟨_, .ow g h1, ?_⟩
    exact (List.Perm.append_left g' h2).trans (by rw [← List.append_assoc, ← List.append_assoc]; exact List.Perm.append_right _ List.perm_append_comm)
theorem RpS.putLk : ∀ {ρ : Env} {σ : St} {fp : List Addr} {i : Nat} {t : OT} {v : V} {f : List Addr}, RpS K T Hs H L ρ σ fp → i < ρ.length → ρ[i]? = some .no → RpO K T Hs H t v f → (∀ a ∈ f, a ∈ L) → RpS K T Hs H L (ρ.set i (.lk t)) (σ.set i (some v)) fp
  | _, _, _, i, t, v, f, .nil, hi, _, h, _ => by simp at hi
  | _, _, _, 0, t, v, f, .no r, hi, _, h, l => .lk h l r
  | _, _, _, 0, t, v, f, .ow g r, hi, e, h, _ => by simp at e
  | _, _, _, 0, t, v, f, .lk g l r, hi, e, h, _ => by simp at e
  | _, _, _, i + 1, t, v, f, .no r, hi, e, h, l => .no (r.putLk (i := i) (by simpa using hi) (by simpa using e) h l)
  | _, _, _, i + 1, t, v, f, .lk g l' r, hi, e, h, l => .lk g l' (r.putLk (i := i) (by simpa using hi) (by simpa using e) h l)
  | _, _, _, i + 1, t, v, f, .ow g r, hi, e, h, l => .ow g (r.putLk (i := i) (by simpa using hi) (by simpa using e) h l)
/-- a slot that may be read -/
theorem RpS.read : ∀ {ρ : Env} {σ : St} {fp : List Addr} {i : Nat} {t : OT}, RpS K T Hs H L ρ σ fp → Env.tree ρ i = some t → ∃ v f, σ[i]? = some (some v) ∧ RpO K T Hs H t v f ∧ ∀ a ∈ f, a ∈ fp ∨ a ∈ L
  | _, _, _, i, t, .nil, e => by simp [Env.tree] at e
  | _, _, _, 0, t, .no r, e => by simp [Env.tree] at e
  | _, _, _, 0, t, .ow h r, e => by simp [Env.tree] at e; subst e; exact ⟨_, _, rfl, h, fun a ha => .inl (by simp [ha])⟩
  | _, _, _, 0, t, .lk h l r, e => by simp [Env.tree] at e; subst e; exact ⟨_, _, rfl, h, fun a ha => .inr (l a ha)⟩
  | _, _, _, i + 1, t, .no r, e => by
    obtain ⟨v, f, h1, h2, h3⟩ := r.read (i := i) (t := t) (by simpa [Env.tree] using e)
    exact ⟨v, f, by simpa using h1, h2, h3⟩
  | _, _, _, i + 1, t, .ow h r, e => by
    obtain ⟨v, f, h1, h2, h3⟩ := r.read (i := i) (t := t) (by simpa [Env.tree] using e)
    exact ⟨v, f, by simpa using h1, h2, fun a ha => (h3 a ha).imp (fun q => by simp [q]) id⟩
  | _, _, _, i + 1, t, .lk h l r, e => by
    obtain ⟨v, f, h1, h2, h3⟩ := r.read (i := i) (t := t) (by simpa [Env.tree] using e)
    exact ⟨v, f, by simpa using h1, h2, h3⟩

theorem RpS.readLk : ∀ {ρ : Env} {σ : St} {fp : List Addr} {i : Nat} {t : OT}, RpS K T Hs H L ρ σ fp → ρ[i]? = some (.lk t) → ∃ v f, σ[i]? = some (some v) ∧ RpO K T Hs H t v f ∧ ∀ a ∈ f, a ∈ L
  | _, _, _, i, t, .nil, e => by simp at e
  | _, _, _, 0, t, .no r, e => by simp at e
  | _, _, _, 0, t, .ow h r, e => by simp at e
  | _, _, _, 0, t, .lk h l r, e => by simp at e; subst e; exact ⟨_, _, rfl, h, l⟩
  | _, _, _, i + 1, t, .no r, e => by
    obtain ⟨v, f, h1, h2, h3⟩ := r.readLk (i := i) (t := t) (by simpa using e)
    exact ⟨v, f, by simpa using h1, h2, h3⟩
  | _, _, _, i + 1, t, .ow h r, e => by
    obtain ⟨v, f, h1, h2, h3⟩ := r.readLk (i := i) (t := t) (by simpa using e)
    exact ⟨v, f, by simpa using h1, h2, h3⟩
  | _, _, _, i + 1, t, .lk h l r, e => by
    obtain ⟨v, f, h1, h2, h3⟩ := r.readLk (i := i) (t := t) (by simpa using e)
    exact ⟨v, f, by simpa using h1, h2, h3⟩

structure StOk (K : PySem.W.Frag) (T : Tab) (L : List Addr) (Hs H : Hp) (ρ : Env) (σ : St) (fp : List Addr) : Prop where
  ex : Ex Hs H
  rs : RpS K T Hs H L ρ σ fp
  nd : fp.Nodup
  nf : ∀ a ∈ fp, Hs a = none
  lf : ∀ a ∈ L, a ∉ fp
  lt : ∀ a ∈ L, (∃ o, H a = some o) ∧ Hs a = none
/-- from a state to a later one: what is not owned stays -/
structure Stp (fp : List Addr) (H Hs : Hp) (fp' : List Addr) (H' Hs' : Hp) : Prop where
  ex : Ex Hs Hs'
  fr : ∀ a o, H a = some o → a ∉ fp → H' a = some o
  nw : ∀ a ∈ fp', a ∈ fp ∨ H a = none
  dm : ∀ a o, Hs' a = some o → Hs a = some o ∨ a ∈ fp ∨ H a = none
theorem Stp.refl (fp : List Addr) (H Hs : Hp) : Stp fp H Hs fp H Hs := ⟨Ex.refl _, fun _ _ e _ => e, fun _ h => .inl h, fun _ _ e => .inl e⟩
variable {fp fp1 fp2 : List Addr} {H1 H2 Hs1 Hs2 : Hp}
theorem Stp.trans (a : Stp fp H Hs fp1 H1 Hs1) (b : Stp fp1 H1 Hs1 fp2 H2 Hs2) : Stp fp H Hs fp2 H2 Hs2 := by
  have back : ∀ x, x ∈ fp1 ∨ H1 x = none → x ∈ fp ∨ H x = none := fun x hx => by
    rcases hx with hx | hx
    · exact a.nw x hx
    · by_cases q : x ∈ fp
      · exact .inl q
      · cases e : H x with
        | none => exact .inr rfl
        | some o => rw [a.fr x o e q] at hx; cases hx
  refine ⟨a.ex.trans b.ex, fun x o e n => b.fr x o (a.fr x o e n) fun q => ?_, fun x hx => back x (b.nw x hx), fun x o e => ?_⟩
  · rcases a.nw x q with z | z
    · exact n z
    · rw [e] at z; cases z
  · rcases b.dm x o e with z | z
    · exact a.dm x o z
    · exact .inr (back x z)
theorem Stp.sub (a : Stp fp H Hs fp1 H1 Hs1) (s : ∀ x ∈ fp2, x ∈ fp1) : Stp fp H Hs fp2 H1 Hs1 := ⟨a.ex, a.fr, fun x hx => a.nw x (s x hx), a.dm⟩
/-- what is seen from outside: a larger ground -/
theorem Stp.wider (a : Stp fp H Hs fp1 H1 Hs1) (s : ∀ x ∈ fp, x ∈ fp2) (F : List Addr) (hF : ∀ x ∈ F, x ∈ fp2) : Stp fp2 H Hs (F ++ fp1) H1 Hs1 :=
  ⟨a.ex, fun x o e n => a.fr x o e fun q => n (s x q), fun x hx => by
    rcases List.mem_append.mp hx with hx | hx
    · exact .inl (hF x hx)
    · exact (a.nw x hx).imp (s x) id, fun x o e => (a.dm x o e).imp id fun z => z.imp (s x) id⟩
/-- nothing but new objects -/
theorem Stp.grow (e : Ex H H') (n : ∀ a ∈ fp1, a ∈ fp ∨ H a = none) (e2 : Ex Hs Hs') (d : ∀ a o, Hs' a = some o → Hs a = some o ∨ a ∈ fp ∨ H a = none) : Stp fp H Hs fp1 H' Hs' := ⟨e2, fun a o q _ => e a o q, n, d⟩
/-- a tree beside the state -/
theorem RpO.keep {t : OT} {v : V} {f : List Addr} (r : RpO K T Hs H t v f) (d : ∀ a ∈ f, a ∉ fp) (s : Stp fp H Hs fp1 H1 Hs1) : RpO K T Hs1 H1 t v f := r.step s.ex fun a ha o e => s.fr a o e (d a ha)
theorem RpOs.keep {ts : List OT} {vs : List V} {f : List Addr} (r : RpOs K T Hs H ts vs f) (d : ∀ a ∈ f, a ∉ fp) (s : Stp fp H Hs fp1 H1 Hs1) : RpOs K T Hs1 H1 ts vs f := r.step s.ex fun a ha o e => s.fr a o e (d a ha)
theorem Stp.out (s : Stp fp H Hs fp1 H1 Hs1) {a : Addr} (h : ∃ o, H a = some o) (n : a ∉ fp) : a ∉ fp1 := fun q => by
  rcases s.nw a q with z | z
  · exact n z
  · obtain ⟨o, e⟩ := h; rw [e] at z; cases z
theorem Stp.outHs (s : Stp fp H Hs fp1 H1 Hs1) {a : Addr} (h : ∃ o, H a = some o) (n : a ∉ fp) (z : Hs a = none) : Hs1 a = none := by
  cases e : Hs1 a with
  | none => rfl
  | some o =>
    rcases s.dm a o e with q | q | q
    · rw [z] at q; cases q
    · exact absurd q n
    · obtain ⟨o', e'⟩ := h; rw [e'] at q; cases q
end
end CH
end
section
namespace CH
open PySem L2 Evl PyProof.Rows

def Opd (K : PySem.W.Frag) (T : Tab) (Hs H : Hp) (t : OT) (x : V) : Prop := ∃ f, RpO K T Hs H t x f
inductive Opds (K : PySem.W.Frag) (T : Tab) (Hs H : Hp) : List OT → List V → Prop
  | nil : Opds K T Hs H [] []
  | cons {t : OT} {x : V} {ts : List OT} {xs : List V} : Opd K T Hs H t x → Opds K T Hs H ts xs → Opds K T Hs H (t :: ts) (x :: xs)
/-- a new value -/
structure New (K : PySem.W.Frag) (T : Tab) (Hs H : Hp) (w : OT) (z : V) (H' Hs' : Hp) (ft : List Addr) : Prop where
  eH : Ex H H'
  eS : Ex Hs Hs'
  le : Ex Hs' H'
  rp : RpO K T Hs' H' w z ft
  nd : ft.Nodup
  fr : ∀ a ∈ ft, H a = none ∧ Hs' a = none
  dm : ∀ a o, Hs' a = some o → Hs a = some o ∨ H a = none
section
variable {K : PySem.W.Frag} {T : Tab} {H Hs : Hp}
theorem none_of_ex (e : Ex Hs H) {p : Addr} (h : H p = none) : Hs p = none := fresh_back e h
theorem New.val {d : D} {z : V} (e : Ex Hs H) (r : Rp K T Hs d z) : New K T Hs H (.sh d) z H Hs [] := ⟨Ex.refl _, Ex.refl _, e, .sh r, .nil, fun a h => absurd h (by simp), fun _ _ h => .inl h⟩
theorem ex_upd2 {p : Addr} {o : HO} (e : Ex Hs H) : Ex (upd Hs p o) (upd H p o) := fun a u q => by
  by_cases h : a = p
  · subst h; rw [upd_same] at q ⊢; exact q
  · rw [upd_ne h] at q ⊢; exact e a u q
theorem New.tup {ds : List D} {vs : List V} {p : Addr} (e : Ex Hs H) (h : H p = none) (r : Rps K T Hs ds vs) : New K T Hs H (.sh (.tup ds)) (.ref p) (upd H p (.tup vs)) (upd Hs p (.tup vs)) [] :=
  ⟨Ex.new h, Ex.new (none_of_ex e h), ex_upd2 e, .sh (.tup (SqT.of upd_same) (r.mono (Ex.new (none_of_ex e h)))), .nil, fun a h => absurd h (by simp), fun a o q => by
    by_cases z : a = p
    · subst z; exact .inr h
    · rw [upd_ne z] at q; exact .inl q⟩
theorem New.lst {ts : List OT} {vs : List V} {p : Addr} (e : Ex Hs H) (h : H p = none) (r : RpOs K T Hs H ts vs []) : New K T Hs H (.lst ts) (.ref p) (upd H p (.lst vs)) Hs [p] :=
  ⟨Ex.new h, Ex.refl _, fun a o q => by rw [upd_ne (ne_of_none (e a o q) h)]; exact e a o q, .lst upd_same (r.step (Ex.refl _) fun a ha => absurd ha (by simp)), by simp, fun a ha => by
    have : a = p := by simpa using ha
    subst this; exact ⟨h, none_of_ex e h⟩, fun _ _ q => .inl q⟩
theorem New.newL {ds : List D} {vs : List V} {p : Addr} (e : Ex Hs H) (h : H p = none) (r : Rps K T Hs ds vs) : New K T Hs H (newL ds) (.ref p) (upd H p (.lst vs)) Hs [p] := New.lst e h (.of r)

theorem opd_int {i : Int} {x : V} (h : Opd K T Hs H (.sh (.int i)) x) : x = .int i := by obtain ⟨_, h⟩ := h; cases h with | sh h => cases h; rfl
theorem opd_bl {b : Bool} {x : V} (h : Opd K T Hs H (.sh (.bl b)) x) : x = .bl b := by obtain ⟨_, h⟩ := h; cases h with | sh h => cases h; rfl
theorem opd_str {s : Str} {x : V} (h : Opd K T Hs H (.sh (.str s)) x) : x = .str s := by obtain ⟨_, h⟩ := h; cases h with | sh h => cases h; rfl
theorem opd_non {x : V} (h : Opd K T Hs H (.sh .non) x) : x = .non := by obtain ⟨_, h⟩ := h; cases h with | sh h => cases h; rfl
theorem opd_tup {ds : List D} {x : V} (h : Opd K T Hs H (.sh (.tup ds)) x) : ∃ a vs, x = .ref a ∧ SqT K Hs a vs ∧ Rps K T Hs ds vs := by obtain ⟨_, h⟩ := h; cases h with | sh h => cases h with | tup h r => exact ⟨_, _, rfl, h, r⟩
theorem opd_flst {ds : List D} {x : V} (h : Opd K T Hs H (.sh (.flst ds)) x) : ∃ a vs, x = .ref a ∧ SqL K Hs a vs ∧ Rps K T Hs ds vs := by obtain ⟨_, h⟩ := h; cases h with | sh h => cases h with | flst h r => exact ⟨_, _, rfl, h, r⟩
theorem opd_litems {t : OT} {ds : List D} {x : V} (e : Ex Hs H) (h : Opd K T Hs H t x) (hl : t.litems = some ds) : ∃ a vs, x = .ref a ∧ H a = some (.lst vs) ∧ Rps K T Hs ds vs := by
  obtain ⟨f, h⟩ := h
  cases h with
  | sh h =>
    cases h with
    | lst h r => simp only [OT.litems, Option.some.injEq] at hl; subst hl; exact ⟨_, _, rfl, e _ _ h, r⟩
    | _ => simp [OT.litems] at hl
  | lst h r =>
    obtain ⟨r1, rfl⟩ := r.leaves (show leaves _ = some ds from hl)
    exact ⟨_, _, rfl, h, r1⟩
  | obj h c r => simp [OT.litems] at hl
theorem opd_items {t : OT} {ds : List D} {x : V} (e : Ex Hs H) (h : Opd K T Hs H t x) (hl : t.items = some ds) : ∃ a vs, x = .ref a ∧ (SqL K H a vs ∨ SqT K H a vs) ∧ Rps K T Hs ds vs := by
  obtain ⟨f, h⟩ := h
  cases h with
  | sh h =>
    cases h with
    | lst h r => simp only [OT.items, Option.some.injEq] at hl; subst hl; exact ⟨_, _, rfl, .inl (sq_of (e _ _ h)), r⟩
    | flst h r => simp only [OT.items, Option.some.injEq] at hl; subst hl; exact ⟨_, _, rfl, .inl (ex_l e h), r⟩
    | tup h r => simp only [OT.items, Option.some.injEq] at hl; subst hl; exact ⟨_, _, rfl, .inr (ex_t e h), r⟩
    | _ => simp [OT.items] at hl
  | lst h r =>
    obtain ⟨r1, rfl⟩ := r.leaves (show leaves _ = some ds from hl)
    exact ⟨_, _, rfl, .inl (sq_of h), r1⟩
  | obj h c r => simp [OT.items] at hl
theorem opd_toD {t : OT} {x : V} (e : Ex Hs H) (h : Opd K T Hs H t x) : Rp K T H t.toD x := by obtain ⟨f, h⟩ := h; exact h.toD e
theorem line : big = sizeLine := by rw [sizeLine_eq]; rfl
theorem guard_eq {α : Type} {b : Bool} {a c : α} (h : guard_ b a = some c) : b = true ∧ a = c := by
  unfold guard_ at h
  split at h
  · exact ⟨by assumption, Option.some.inj h⟩
  · cases h
end

def rOpS (K : PySem.W.Frag) (T : Tab) (ev : OT → OT → Option OT) : R2 := fun x y H Q => ∃ Hs s t w, Ex Hs H ∧ Opd K T Hs H s x ∧ Opd K T Hs H t y ∧ ev s t = some w ∧ ∀ z H' Hs' ft, New K T Hs H w z H' Hs' ft → Q z H'
def rUnS (K : PySem.W.Frag) (T : Tab) (ev : OT → Option OT) : V → Hp → VK → Prop := fun x H Q => ∃ Hs s w, Ex Hs H ∧ Opd K T Hs H s x ∧ ev s = some w ∧ ∀ z H' Hs' ft, New K T Hs H w z H' Hs' ft → Q z H'
def rCS (K : PySem.W.Frag) (T : Tab) (ev : List OT → Option OT) : List V → Hp → VK → Prop := fun xs H Q => ∃ Hs ts w, Ex Hs H ∧ Opds K T Hs H ts xs ∧ ev ts = some w ∧ ∀ z H' Hs' ft, New K T Hs H w z H' Hs' ft → Q z H'
section
variable {X : Cx} {T : Tab}
theorem os_add : OpR X (binaryOp .Add) (rOpS X.K T addEv) := by
  intro pins s σ H x y v u Q I rx ry ⟨Hs, a, b, w, e, ha, hb, hev, q⟩
  have lists : ∀ {ds es : List D}, a.litems = some ds → b.litems = some es → guard_ (decide (ds.length + es.length ≤ big)) (newL (ds ++ es)) = some w → wpAny (model X.prog X.w) X.A (binaryOp .Add v u) (EP X pins σ Q) X.xe s := by
    intro ds es h1 h2 hg
    obtain ⟨p, vs, rfl, hp, rs⟩ := opd_litems e ha h1
    obtain ⟨p2, vs2, rfl, hp2, rs2⟩ := opd_litems e hb h2
    obtain ⟨hz, rfl⟩ := guard_eq hg
    refine op_cat pins s σ H _ _ v u Q I rx ry ⟨p, p2, vs, vs2, rfl, rfl, hp, hp2, ?_, fun p3 h3 => q _ _ _ _ (New.newL e h3 (rs.append rs2))⟩
    rw [← rs.length, ← rs2.length, ← line]; exact of_decide_eq_true hz
  have gen : (a.litems.bind fun ds => b.litems.bind fun es => guard_ (decide (ds.length + es.length ≤ big)) (newL (ds ++ es))) = some w → wpAny (model X.prog X.w) X.A (binaryOp .Add v u) (EP X pins σ Q) X.xe s := fun h => by
    obtain ⟨ds, h1, h⟩ := Option.bind_eq_some_iff.mp h
    obtain ⟨es, h2, h⟩ := Option.bind_eq_some_iff.mp h
    exact lists h1 h2 h
  unfold addEv at hev
  split at hev
  · cases Option.some.inj hev; cases opd_int ha; cases opd_int hb
    exact op_add pins s σ H _ _ v u Q I rx ry ⟨_, _, rfl, rfl, q _ _ _ _ (New.val e (.int _))⟩
  · obtain ⟨hz, rfl⟩ := guard_eq hev; cases opd_str ha; cases opd_str hb
    refine op_add_str pins s σ H _ _ v u Q I rx ry ⟨_, _, rfl, rfl, ?_, q _ _ _ _ (New.val e (.str _))⟩
    rw [← line]; exact of_decide_eq_true hz
  · obtain ⟨hz, rfl⟩ := guard_eq hev
    obtain ⟨p, vs, rfl, hp, rs⟩ := opd_tup ha
    obtain ⟨p2, vs2, rfl, hp2, rs2⟩ := opd_tup hb
    have hz' : vs.length + vs2.length ≤ sizeLine := by rw [← rs.length, ← rs2.length, ← line]; exact of_decide_eq_true hz
    refine op_catA pins s σ H _ _ v u Q I rx ry ⟨p, p2, vs, vs2, rfl, rfl, ex_t e hp, ex_t e hp2, hz', fun h0 => ?_, fun _ h0 => ?_, fun _ _ p3 h3 => q _ _ _ _ (New.tup e h3 (rs.append rs2))⟩
    · subst h0
      cases rs
      exact q _ _ _ _ (New.val e (.tup hp2 rs2))
    · subst h0
      cases rs2
      exact q _ _ _ _ (New.val e (.tup hp (by rw [List.append_nil]; exact rs)))
  · exact gen hev
/-- two ints -/
theorem os_int {f : Value → Value → Sem Value} {g : Int → Int → Int} {C : Int → Int → Prop} {ev : OT → OT → Option OT} (ho : OpR X f (rI C fun i j => .int (g i j)))
    (h : ∀ s t w, ev s t = some w → ∃ i j, s = .sh (.int i) ∧ t = .sh (.int j) ∧ C i j ∧ w = .sh (.int (g i j))) : OpR X f (rOpS X.K T ev) := by
  intro pins s σ H x y v u Q I rx ry ⟨Hs, a, b, w, e, ha, hb, hev, q⟩
  obtain ⟨i, j, rfl, rfl, hc, rfl⟩ := h _ _ _ hev
  cases opd_int ha
  cases opd_int hb
  exact ho pins s σ H _ _ v u Q I rx ry ⟨i, j, rfl, rfl, hc, q _ _ _ _ (New.val e (.int _))⟩
theorem rI_of {f : Value → Value → Sem Value} {g : Int → Int → V} (ho : OpR X f (rI0 g)) : OpR X f (rI (fun _ _ => True) g) := fun pins s σ H x y v u Q I rx ry ⟨i, j, h1, h2, _, q⟩ => ho pins s σ H x y v u Q I rx ry ⟨i, j, h1, h2, q⟩
theorem os_sub : OpR X (binaryOp .Sub) (rOpS X.K T subEv) := os_int (rI_of op_sub) fun s t w h => by
  unfold subEv at h
  split at h <;> first | (cases Option.some.inj h; exact ⟨_, _, rfl, rfl, trivial, rfl⟩) | cases h
theorem os_mod : OpR X (binaryOp .Mod) (rOpS X.K T modEv) := os_int op_mod fun s t w h => by
  unfold modEv at h
  split at h <;> first | (obtain ⟨z, rfl⟩ := guard_eq h; exact ⟨_, _, rfl, rfl, (have q := of_decide_eq_true z; q), rfl⟩) | cases h
theorem os_fdiv : OpR X (binaryOp .FloorDiv) (rOpS X.K T fdivEv) := os_int op_fdiv fun s t w h => by
  unfold fdivEv at h
  split at h <;> first | (obtain ⟨z, rfl⟩ := guard_eq h; exact ⟨_, _, rfl, rfl, (have q := of_decide_eq_true z; q), rfl⟩) | cases h
theorem os_pow : OpR X (binaryOp .Pow) (rOpS X.K T powEv) := os_int op_pow fun s t w h => by
  unfold powEv at h
  split at h <;> first | (obtain ⟨z, rfl⟩ := guard_eq h; exact ⟨_, _, rfl, rfl, (have q := of_decide_eq_true z; q), rfl⟩) | cases h
theorem mulOk_of {i j : Int} (h : mulOk i j = true) : CMul i j := by
  unfold mulOk at h
  rw [Bool.or_eq_true] at h
  exact h.imp of_decide_eq_true of_decide_eq_true
theorem os_mul : OpR X (binaryOp .Mult) (rOpS X.K T mulEv) := by
  intro pins s σ H x y v u Q I rx ry ⟨Hs, a, b, w, e, ha, hb, hev, q⟩
  unfold mulEv at hev
  split at hev
  · obtain ⟨z, rfl⟩ := guard_eq hev
    cases opd_int ha
    cases opd_int hb
    exact op_mul pins s σ H _ _ v u Q I rx ry ⟨_, _, rfl, rfl, mulOk_of z, q _ _ _ _ (New.val e (.int _))⟩
  · obtain ⟨ds, h1, h⟩ := Option.bind_eq_some_iff.mp hev
    obtain ⟨z, rfl⟩ := guard_eq h
    obtain ⟨p, vs, rfl, hp, rs⟩ := opd_litems e ha h1
    cases opd_int hb
    obtain ⟨z1, z2, z3⟩ := of_decide_eq_true z
    exact op_rep pins s σ H _ _ v u Q I rx ry ⟨p, _, vs, rfl, rfl, hp, z1, z2, by rw [← rs.length, ← line]; exact z3, fun p3 h3 => q _ _ _ _ (New.newL e h3 (rs.rep _))⟩
  · cases hev
theorem us_neg : UnR X (unaryOp .USub) (rUnS X.K T negEv) := by
  intro pins s σ H x v Q I rx ⟨Hs, a, w, e, ha, hev, q⟩
  unfold negEv at hev
  split at hev
  · cases Option.some.inj hev
    cases opd_int ha
    exact un_neg pins s σ H _ v Q I rx ⟨_, rfl, q _ _ _ _ (New.val e (.int _))⟩
  · cases hev
end

def rCmS (K : PySem.W.Frag) (T : Tab) (ev : OT → OT → Option Bool) : R2 := fun x y H Q => ∃ Hs s t b, Ex Hs H ∧ Opd K T Hs H s x ∧ Opd K T Hs H t y ∧ ev s t = some b ∧ Q (.bl b) H
section
variable {K : PySem.W.Frag} {T : Tab} {H Hs : Hp}
mutual
theorem Rp.dp : ∀ {d : D} {v : V} {p : PyData}, Rp K T H d v → d.toP = some p → Dp K H v p
  | _, _, _, .non, e => by simp only [D.toP, Option.some.injEq] at e; subst e; exact .non
  | _, _, _, .bl b, e => by simp only [D.toP, Option.some.injEq] at e; subst e; exact .bl b
  | _, _, _, .int i, e => by simp only [D.toP, Option.some.injEq] at e; subst e; exact .int i
  | _, _, _, .str i, e => by simp only [D.toP, Option.some.injEq] at e; subst e; exact .str i
  | _, _, _, .tup h r, e => by
    simp only [D.toP, Option.map_eq_some_iff] at e
    obtain ⟨ps, e, rfl⟩ := e
    exact .tup h (Rps.dp r e)
  | _, _, _, .lst h r, e => by
    simp only [D.toP, Option.map_eq_some_iff] at e
    obtain ⟨ps, e, rfl⟩ := e
    exact .lst (sq_of h) (Rps.dp r e)
  | _, _, _, .flst h r, e => by simp [D.toP] at e
  | _, _, _, .ty n, e => by simp [D.toP] at e
  | _, _, _, .fn h, e => by simp [D.toP] at e
  | _, _, _, .obj .., e => by simp [D.toP] at e
  | _, _, _, .dct .., e => by simp [D.toP] at e
theorem Rps.dp : ∀ {ds : List D} {vs : List V} {ps : List PyData}, Rps K T H ds vs → toPs ds = some ps → DpAll K H vs ps
  | _, _, _, .nil, e => by simp only [toPs, Option.some.injEq] at e; subst e; exact .nil
  | _, _, _, .cons h r, e => by
    simp only [toPs] at e
    obtain ⟨p, e1, e⟩ := Option.bind_eq_some_iff.mp e
    obtain ⟨ps, e2, rfl⟩ := Option.map_eq_some_iff.mp e
    exact .cons (Rp.dp h e1) (Rps.dp r e2)
end
theorem rps_ints : ∀ {ds : List D} {vs : List V} {ns : List Int}, Rps K T H ds vs → intsD ds = some ns → vs = ns.map V.int
  | _, _, _, .nil, e => by simp only [intsD, Option.some.injEq] at e; subst e; rfl
  | _, _, _, .cons h r, e => by
    cases h with
    | int i =>
      simp only [intsD, Option.map_eq_some_iff] at e
      obtain ⟨ns, e, rfl⟩ := e
      rw [rps_ints r e]; rfl
    | _ => simp [intsD] at e
theorem rps_bls : ∀ {ds : List D} {vs : List V} {ns : List Bool}, Rps K T H ds vs → blsD ds = some ns → vs = ns.map V.bl
  | _, _, _, .nil, e => by simp only [blsD, Option.some.injEq] at e; subst e; rfl
  | _, _, _, .cons h r, e => by
    cases h with
    | bl i =>
      simp only [blsD, Option.map_eq_some_iff] at e
      obtain ⟨ns, e, rfl⟩ := e
      rw [rps_bls r e]; rfl
    | _ => simp [blsD] at e
theorem intsD_map : ∀ ns : List Int, intsD (ns.map .int) = some ns
  | [] => rfl
  | n :: ns => by simp [intsD, intsD_map ns]
theorem rps_of_ints : ∀ ns : List Int, Rps K T H (ns.map .int) (ns.map V.int)
  | [] => .nil
  | n :: ns => .cons (.int n) (rps_of_ints ns)
end
section
variable {X : Cx} {T : Tab}
theorem dec_strV {a b : Str} : decide (V.str a = V.str b) = (a == b) := by
  rw [Bool.eq_iff_iff]
  simp
theorem cs_eq (hu : X.A.units + 64 < cLine) : OpR X (compareOp .Eq) (rCmS X.K T eqEv) := by
  intro pins s σ H x y v u Q I rx ry ⟨Hs, a, b, w, e, ha, hb, hev, q⟩
  unfold eqEv at hev
  split at hev
  · cases Option.some.inj hev
    cases opd_str ha
    cases opd_str hb
    exact L2.op_eq pins s σ H _ _ v u Q I rx ry ⟨rfl, by rw [dec_strV]; exact q⟩
  unfold eqD at hev
  obtain ⟨p1, e1, hev⟩ := Option.bind_eq_some_iff.mp hev
  obtain ⟨p2, e2, hev⟩ := Option.bind_eq_some_iff.mp hev
  split at hev
  · rename_i hz
    cases Option.some.inj hev
    rw [Bool.and_eq_true] at hz
    exact op_eqD hu pins s σ H x y v u Q I rx ry ⟨p1, p2, (opd_toD e ha).dp e1, (opd_toD e hb).dp e2, hz.1, hz.2, q⟩
  · cases hev
theorem cs_ne (hu : X.A.units + 64 < cLine) : OpR X (compareOp .NotEq) (rCmS X.K T neEv) := by
  intro pins s σ H x y v u Q I rx ry ⟨Hs, a, b, w, e, ha, hb, hev, q⟩
  unfold neEv at hev
  split at hev
  · cases Option.some.inj hev
    cases opd_str ha
    cases opd_str hb
    exact L2.op_ne pins s σ H _ _ v u Q I rx ry ⟨rfl, by rw [dec_strV]; exact q⟩
  unfold eqD at hev
  obtain ⟨k, hev2, hk⟩ := Option.map_eq_some_iff.mp hev
  clear hev
  subst hk
  have hev := hev2
  obtain ⟨p1, e1, hev⟩ := Option.bind_eq_some_iff.mp hev
  obtain ⟨p2, e2, hev⟩ := Option.bind_eq_some_iff.mp hev
  split at hev
  · rename_i hz
    cases Option.some.inj hev
    rw [Bool.and_eq_true] at hz
    exact op_neD hu pins s σ H x y v u Q I rx ry ⟨p1, p2, (opd_toD e ha).dp e1, (opd_toD e hb).dp e2, hz.1, hz.2, q⟩
  · cases hev
theorem cs_int {op : CmpOp} {g : Int → Int → Bool} {ev : OT → OT → Option Bool} (ho : OpR X (compareOp op) (rI0 fun i j => .bl (g i j)))
    (h : ∀ s t w, ev s t = some w → ∃ i j, s = .sh (.int i) ∧ t = .sh (.int j) ∧ w = g i j) : OpR X (compareOp op) (rCmS X.K T ev) := by
  intro pins s σ H x y v u Q I rx ry ⟨Hs, a, b, w, e, ha, hb, hev, q⟩
  obtain ⟨i, j, rfl, rfl, rfl⟩ := h _ _ _ hev
  cases opd_int ha
  cases opd_int hb
  exact ho pins s σ H _ _ v u Q I rx ry ⟨i, j, rfl, rfl, q⟩
theorem cs_le : OpR X (compareOp .LtE) (rCmS X.K T leEv) := cs_int op_le fun s t w h => by
  unfold leEv at h
  split at h <;> first | (cases Option.some.inj h; exact ⟨_, _, rfl, rfl, rfl⟩) | cases h
theorem cs_gt : OpR X (compareOp .Gt) (rCmS X.K T gtEv) := cs_int op_gt fun s t w h => by
  unfold gtEv at h
  split at h <;> first | (cases Option.some.inj h; exact ⟨_, _, rfl, rfl, rfl⟩) | cases h
theorem cs_ge : OpR X (compareOp .GtE) (rCmS X.K T geEv) := cs_int op_ge fun s t w h => by
  unfold geEv at h
  split at h <;> first | (cases Option.some.inj h; exact ⟨_, _, rfl, rfl, rfl⟩) | cases h
theorem vals_atR : ∀ {xs : List V} {us : List Value} {j : Nat} {u : Value}, Vals xs us → us[j]? = some u → ∃ x, xs[j]? = some x ∧ RelV x u
  | _, _, j, u, .nil, h => by simp at h
  | _, _, 0, u, .cons r t, h => by simp at h; subst h; exact ⟨_, rfl, r⟩
  | _, _, j + 1, u, .cons r t, h => by
    obtain ⟨x, h1, h2⟩ := vals_atR (j := j) t (by simpa using h)
    exact ⟨x, by simpa using h1, h2⟩
theorem lexAt_ltW {e r : Nat → Bool} : ∀ {xs ys : List D} {i : Nat}, (∀ (j : Nat) (x y : D), xs[j]? = some x → ys[j]? = some y → e (i + j) = eq1 x y ∧ r (i + j) = lt1 x y) → Ob.lexAt e r (decide (xs.length < ys.length)) i (min xs.length ys.length) = ltW xs ys
  | [], [], i, h => rfl
  | [], y :: ys, i, h => by simp [Ob.lexAt, ltW]
  | x :: xs, [], i, h => by simp [Ob.lexAt, ltW]
  | x :: xs, y :: ys, i, h => by
    have h0 := h 0 x y rfl rfl
    rw [Nat.add_zero] at h0
    rw [List.length_cons, List.length_cons, Nat.succ_min_succ, Ob.lexAt_succ, h0.1, h0.2]
    unfold ltW
    have ih := lexAt_ltW (e := e) (r := r) (xs := xs) (ys := ys) (i := i + 1) fun j x' y' h1 h2 => by
      rw [show i + 1 + j = i + (j + 1) by omega]
      exact h (j + 1) x' y' (by simpa using h1) (by simpa using h2)
    rw [← ih]
    simp only [Nat.add_lt_add_iff_right]
theorem cmps_get : ∀ {xs ys : List D} {j : Nat} {x y : D}, cmps xs ys = true → xs[j]? = some x → ys[j]? = some y → cmp1 x y = true
  | [], _, j, x, y, _, h1, _ => by simp at h1
  | _ :: _, [], j, x, y, _, _, h2 => by simp at h2
  | a :: xs, b :: ys, 0, x, y, h, h1, h2 => by
    simp at h1 h2
    subst h1 h2
    simp only [cmps, Bool.and_eq_true] at h
    exact h.1
  | a :: xs, b :: ys, j + 1, x, y, h, h1, h2 => by
    simp only [cmps, Bool.and_eq_true] at h
    exact cmps_get (j := j) h.2 (by simpa using h1) (by simpa using h2)
theorem shapedD_of {d : D} (h : shapedD d = true) : ∃ p, d.toP = some p ∧ SeqAt.shaped p = true := by
  unfold shapedD at h
  split at h
  · exact ⟨_, by assumption, h⟩
  · cases h
/-- two items: equal or not, and which comes first -/
theorem item_cmp {A : Around} {pins : List (Addr × Obj)} {s : Shared} {σ : L2.St} {H : Hp} {x y : D} {vx vy : V} {u v : Value} (I : Inv X pins σ H s) (hu : A.units + 64 < cLine) (hc : cmp1 x y = true) (rx : Rp X.K T H x vx) (ry : Rp X.K T H y vy) (qx : RelV vx u) (qy : RelV vy v) :
    SeqAt.EqAt A s u v (eq1 x y) ∧ Ob.RcOp .Lt A s u v (lt1 x y) := by
  unfold cmp1 at hc
  split at hc
  · rename_i i j
    cases rx
    cases ry
    obtain ⟨t, rfl⟩ := qx
    obtain ⟨t', rfl⟩ := qy
    have e : eq1 (.int i) (.int j) = (i == j) := rfl
    rw [e]
    exact ⟨SeqAt.EqAt.int_int i t j t', Ob.RcOp.lt_int i j t t'⟩
  · rename_i a b
    simp only [Bool.and_eq_true] at hc
    obtain ⟨⟨⟨h1, h2⟩, h3⟩, h4⟩ := hc
    obtain ⟨m, e1⟩ := Option.isSome_iff_exists.mp h1
    obtain ⟨n, e2⟩ := Option.isSome_iff_exists.mp h2
    obtain ⟨p, p1, p2⟩ := shapedD_of h3
    obtain ⟨q, q1, q2⟩ := shapedD_of h4
    obtain ⟨as, r1⟩ := Dp.reads I p vx u (rx.dp p1) qx
    obtain ⟨bs, r2⟩ := Dp.reads I q vy v (ry.dp q1) qy
    refine ⟨?_, ?_⟩
    · have e : eq1 (.tup a) (.tup b) = PyData.eqv p q := by unfold eq1; rw [p1, q1]
      rw [e]
      exact SeqAt.eqAt_reads p q A s u v as bs r1 r2 (SeqAt.canLay_of_shaped p2) (SeqAt.canLay_of_shaped q2) (by have := SeqAt.room_of_shaped (A := A) (da := p) (db := q) p2 hu; exact this)
    · have e : lt1 (.tup a) (.tup b) = HT.lexLt m n := by
        show (match intsD a, intsD b with
          | some m, some n => HT.lexLt m n
          | _, _ => false) = _
        rw [e1, e2]
      rw [e]
      cases rx with
      | tup hp rs =>
        cases ry with
        | tup hq rs2 =>
          have k1 := rps_ints rs e1
          have k2 := rps_ints rs2 e2
          subst k1 k2
          cases qx
          cases qy
          obtain ⟨i1, v1, t1, _⟩ := I.tuple hp
          obtain ⟨i2, v2, t2, _⟩ := I.tuple hq
          exact fun prog w E Q h => HT.lt_tupInts t1 t2 v1.ints v2.ints (by omega) h
  · cases hc
theorem cs_lt (hu : X.A.units + 65 < cLine) : OpR X (compareOp .Lt) (rCmS X.K T ltEv) := by
  intro pins s σ H x y v u Q I rx ry ⟨Hs, a, b, w, e, ha, hb, hev, q⟩
  unfold ltEv at hev
  split at hev
  · cases Option.some.inj hev
    cases opd_int ha
    cases opd_int hb
    exact op_lt pins s σ H _ _ v u Q I rx ry ⟨_, _, rfl, rfl, q⟩
  · rename_i a b
    obtain ⟨p, vs, rfl, hp, rs⟩ := opd_tup ha
    obtain ⟨p2, vs2, rfl, hp2, rs2⟩ := opd_tup hb
    split at hev
    · rename_i m n h1 h2
      cases Option.some.inj hev
      have k1 := rps_ints rs h1
      have k2 := rps_ints rs2 h2
      subst k1 k2
      exact op_ltT (by omega) pins s σ H _ _ v u Q I rx ry ⟨p, p2, m, n, rfl, rfl, ex_t e hp, ex_t e hp2, q⟩
    · split at hev
      · rename_i hc
        cases Option.some.inj hev
        cases rx
        cases ry
        obtain ⟨i1, v1, t1, _⟩ := I.tuple (ex_t e hp)
        obtain ⟨i2, v2, t2, _⟩ := I.tuple (ex_t e hp2)
        have rs := rs.mono e
        have rs2 := rs2.mono e
        have pair : ∀ (j : Nat) (h1 : j < i1.toArray.size) (h2 : j < i2.toArray.size), ∃ x y, a[j]? = some x ∧ b[j]? = some y ∧ SeqAt.EqAt X.A.in1 s i1.toArray[j] i2.toArray[j] (eq1 x y) ∧ Ob.RcOp .Lt X.A.in1 s i1.toArray[j] i2.toArray[j] (lt1 x y) := fun j h1 h2 => by
          have z1 : j < i1.length := by simpa using h1
          have z2 : j < i2.length := by simpa using h2
          obtain ⟨x1, y1, y2⟩ := vals_atR v1 (List.getElem?_eq_getElem z1)
          obtain ⟨x2, y3, y4⟩ := vals_atR v2 (List.getElem?_eq_getElem z2)
          obtain ⟨d1, w1, w2⟩ := rs.getV y1
          obtain ⟨d2, w3, w4⟩ := rs2.getV y3
          have := item_cmp (A := X.A.in1) I (by show X.A.units + 1 + 64 < cLine; omega) (cmps_get hc w1 w3) w2 w4 y2 y4
          exact ⟨d1, d2, w1, w3, by simpa using this.1, by simpa using this.2⟩
        let ee : Nat → Bool := fun j => match a[j]?, b[j]? with
          | some x, some y => eq1 x y
          | _, _ => false
        let rr : Nat → Bool := fun j => match a[j]?, b[j]? with
          | some x, some y => lt1 x y
          | _, _ => false
        have main := Ob.RcOp.tuples_lt (A := X.A) (s := s) (e := ee) (r := rr) t1 t2 (by omega) (fun j h1 h2 => by
          obtain ⟨x, y, w1, w2, w3, _⟩ := pair j h1 h2
          have : ee j = eq1 x y := by show (match a[j]?, b[j]? with | some x, some y => eq1 x y | _, _ => false) = _; rw [w1, w2]
          rw [this]; exact w3) (fun j h1 h2 _ => by
          obtain ⟨x, y, w1, w2, _, w3⟩ := pair j h1 h2
          have : rr j = lt1 x y := by show (match a[j]?, b[j]? with | some x, some y => lt1 x y | _, _ => false) = _; rw [w1, w2]
          rw [this]; exact w3)
        have fin : Ob.lexAt ee rr (decide (i1.toArray.size < i2.toArray.size)) 0 (min i1.toArray.size i2.toArray.size) = ltW a b := by
          have l1 : i1.toArray.size = a.length := by rw [List.size_toArray, ← v1.length, rs.length]
          have l2 : i2.toArray.size = b.length := by rw [List.size_toArray, ← v2.length, rs2.length]
          rw [l1, l2]
          refine lexAt_ltW fun j x y h1 h2 => ?_
          rw [Nat.zero_add]
          refine ⟨?_, ?_⟩
          · show (match a[j]?, b[j]? with | some x, some y => eq1 x y | _, _ => false) = _
            rw [h1, h2]
          · show (match a[j]?, b[j]? with | some x, some y => lt1 x y | _, _ => false) = _
            rw [h1, h2]
        rw [fin] at main
        exact main _ _ _ _ ⟨.bl _, H, I, rfl, q⟩
      · cases hev
  · cases hev
theorem isNon_of {Hs H : Hp} {t : OT} {x : V} {K : PySem.W.Frag} (h : Opd K T Hs H t x) : decide (x = .non) = t.isNon := by
  obtain ⟨f, h⟩ := h
  cases h with
  | sh h => cases h <;> rfl
  | lst => rfl
  | obj => rfl
theorem cs_is : OpR X (compareOp .Is) (rCmS X.K T isEv) := by
  intro pins s σ H x y v u Q I rx ry ⟨Hs, a, b, w, e, ha, hb, hev, q⟩
  unfold isEv at hev
  split at hev
  · cases Option.some.inj hev
    cases opd_bl ha
    cases opd_bl hb
    exact op_isBl pins s σ H _ _ v u Q I rx ry ⟨_, _, rfl, rfl, q⟩
  · cases Option.some.inj hev
    cases opd_non hb
    exact op_isN pins s σ H _ _ v u Q I rx ry ⟨rfl, by rw [isNon_of ha]; exact q⟩
  · cases hev
theorem cs_isnot : OpR X (compareOp .IsNot) (rCmS X.K T isnotEv) := by
  intro pins s σ H x y v u Q I rx ry ⟨Hs, a, b, w, e, ha, hb, hev, q⟩
  unfold isnotEv at hev
  split at hev
  · cases Option.some.inj hev
    cases opd_bl ha
    cases opd_bl hb
    exact op_notBl pins s σ H _ _ v u Q I rx ry ⟨_, _, rfl, rfl, q⟩
  · cases Option.some.inj hev
    cases opd_non hb
    exact op_notN pins s σ H _ _ v u Q I rx ry ⟨rfl, by rw [isNon_of ha]; exact q⟩
  · cases hev
/-- x in t, x not in t: a tuple of data -/
theorem op_inDT (hu : X.A.units + 65 < cLine) : OpR X (compareOp .In) (fun x y H Q => ∃ d ds, Dp X.K H x d ∧ Dp X.K H y (.tuple ds) ∧ SeqAt.shaped d = true ∧ SeqAt.shaped (.tuple ds) = true ∧ Q (.bl (ds.any fun z => PyData.eqv z d)) H) := by
  intro pins s σ H x y v u Q I rx ry h
  obtain ⟨d, ds, hd, he, sd, se, q⟩ := h
  obtain ⟨as, r1⟩ := Dp.reads I d x v hd rx
  obtain ⟨bs, r2⟩ := Dp.reads I (.tuple ds) y u he ry
  exact SeqAt.in_tuple_reads r2 r1 (SeqAt.canLay_of_shaped se) (SeqAt.canLay_of_shaped sd) (room_in_shaped sd hu) ⟨.bl _, H, I, rfl, q⟩
theorem op_notInDT (hu : X.A.units + 65 < cLine) : OpR X (compareOp .NotIn) (fun x y H Q => ∃ d ds, Dp X.K H x d ∧ Dp X.K H y (.tuple ds) ∧ SeqAt.shaped d = true ∧ SeqAt.shaped (.tuple ds) = true ∧ Q (.bl (!ds.any fun z => PyData.eqv z d)) H) := by
  intro pins s σ H x y v u Q I rx ry h
  obtain ⟨d, ds, hd, he, sd, se, q⟩ := h
  obtain ⟨as, r1⟩ := Dp.reads I d x v hd rx
  obtain ⟨bs, r2⟩ := Dp.reads I (.tuple ds) y u he ry
  exact SeqAt.notIn_tuple_reads r2 r1 (SeqAt.canLay_of_shaped se) (SeqAt.canLay_of_shaped sd) (room_in_shaped sd hu) ⟨.bl _, H, I, rfl, q⟩
theorem dp_str {K : PySem.W.Frag} {H : Hp} {v : V} {s : Str} (h : Dp K H v (.str s)) : v = .str s := by cases h; rfl
theorem cs_in (hu : X.A.units + 65 < cLine) : OpR X (compareOp .In) (rCmS X.K T inEv) := by
  intro pins s σ H x y v u Q I rx ry ⟨Hs, a, b, w, e, ha, hb, hev, q⟩
  unfold inEv inD at hev
  obtain ⟨p1, e1, hev⟩ := Option.bind_eq_some_iff.mp hev
  obtain ⟨p2, e2, hev⟩ := Option.bind_eq_some_iff.mp hev
  have d1 := (opd_toD e ha).dp e1
  have d2 := (opd_toD e hb).dp e2
  split at hev
  · split at hev
    · rename_i hz
      cases Option.some.inj hev
      rw [Bool.and_eq_true] at hz
      exact op_inD hu pins s σ H x y v u Q I rx ry ⟨p1, _, d1, d2, hz.1, hz.2, q⟩
    · cases hev
  · split at hev
    · rename_i hz
      cases Option.some.inj hev
      rw [Bool.and_eq_true] at hz
      exact op_inDT hu pins s σ H x y v u Q I rx ry ⟨p1, _, d1, d2, hz.1, hz.2, q⟩
    · cases hev
  · split at hev
    · cases Option.some.inj hev
      exact op_in_str pins s σ H x y v u Q I rx ry ⟨_, _, dp_str d1, dp_str d2, q⟩
    · cases hev
  · cases hev
theorem cs_notin (hu : X.A.units + 65 < cLine) : OpR X (compareOp .NotIn) (rCmS X.K T notinEv) := by
  intro pins s σ H x y v u Q I rx ry ⟨Hs, a, b, w, e, ha, hb, hev, q⟩
  unfold notinEv inD at hev
  obtain ⟨k, hev2, hk⟩ := Option.map_eq_some_iff.mp hev
  clear hev
  subst hk
  have hev := hev2
  obtain ⟨p1, e1, hev⟩ := Option.bind_eq_some_iff.mp hev
  obtain ⟨p2, e2, hev⟩ := Option.bind_eq_some_iff.mp hev
  have d1 := (opd_toD e ha).dp e1
  have d2 := (opd_toD e hb).dp e2
  split at hev
  · split at hev
    · rename_i hz
      cases Option.some.inj hev
      rw [Bool.and_eq_true] at hz
      exact op_notInD hu pins s σ H x y v u Q I rx ry ⟨p1, _, d1, d2, hz.1, hz.2, q⟩
    · cases hev
  · split at hev
    · rename_i hz
      cases Option.some.inj hev
      rw [Bool.and_eq_true] at hz
      exact op_notInDT hu pins s σ H x y v u Q I rx ry ⟨p1, _, d1, d2, hz.1, hz.2, q⟩
    · cases hev
  · split at hev
    · cases Option.some.inj hev
      exact op_notin_str pins s σ H x y v u Q I rx ry ⟨_, _, dp_str d1, dp_str d2, q⟩
    · cases hev
  · cases hev
end
end CH
end
section
namespace CH
open PySem L2 Evl PyProof.Rows
section
variable {K : PySem.W.Frag} {T : Tab} {H Hs : Hp}
theorem opds1 {t : OT} {xs : List V} (h : Opds K T Hs H [t] xs) : ∃ x, xs = [x] ∧ Opd K T Hs H t x := by
  cases h with
  | cons h r => cases r; exact ⟨_, rfl, h⟩
theorem opds2 {s t : OT} {xs : List V} (h : Opds K T Hs H [s, t] xs) : ∃ x y, xs = [x, y] ∧ Opd K T Hs H s x ∧ Opd K T Hs H t y := by
  cases h with
  | cons h r =>
    obtain ⟨y, rfl, h2⟩ := opds1 r
    exact ⟨_, _, rfl, h, h2⟩
end
section
variable {X : Cx} {T : Tab}
theorem bi1 {f : Value} {b : Bi} {ev : OT → Option OT} (hb : ∀ ts w, biEv b ts = some w → ∃ t, ts = [t] ∧ ev t = some w)
    (h : ∀ (pins : List (Addr × Obj)) (s : Shared) (σ : L2.St) (H Hs : Hp) (t w : OT) (x : V) (us : List Value) (Q : VK), Inv X pins σ H s → Vals [x] us → Ex Hs H → Opd X.K T Hs H t x → ev t = some w → (∀ z H' Hs' ft, New X.K T Hs H w z H' Hs' ft → Q z H') →
      wpAny (model X.prog X.w) X.A (call f us) (EP X pins σ Q) X.xe s) : CallR X f (rCS X.K T (biEv b)) := by
  intro pins s σ H xs us Q I r ⟨Hs, ts, w, e, ho, hev, q⟩
  obtain ⟨t, rfl, h1⟩ := hb ts w hev
  obtain ⟨x, rfl, o⟩ := opds1 ho
  exact h pins s σ H Hs t w x us Q I r e o h1 q
theorem bi_len : CallR X (.builtin "len") (rCS X.K T (biEv .len)) := bi1 (ev := lenEv) (fun ts w h => match ts, h with
  | [], h => absurd (show (none : Option OT) = some w from h) (by simp)
  | [t], h => ⟨t, rfl, h⟩
  | _ :: _ :: _, h => absurd (show (none : Option OT) = some w from h) (by simp)) fun pins s σ H Hs t w x us Q I r e o hev q => by
  unfold lenEv at hev
  split at hev
  · obtain ⟨hz, rfl⟩ := guard_eq hev
    cases opd_str o
    exact call_len_str pins s σ H _ us Q I r ⟨_, rfl, by rw [← line]; exact of_decide_eq_true hz, q _ _ _ _ (New.val e (.int _))⟩
  · cases Option.some.inj hev
    obtain ⟨a, vs, rfl, h1, h2⟩ := opd_tup o
    exact call_len_seq pins s σ H _ us Q I r ⟨a, vs, rfl, .inr (ex_t e h1), by rw [← h2.length]; exact q _ _ _ _ (New.val e (.int _))⟩
  · cases Option.some.inj hev
    obtain ⟨a, vs, rfl, h1, h2⟩ := opd_litems e o rfl
    exact call_len_seq pins s σ H _ us Q I r ⟨a, vs, rfl, .inl (sq_of h1), by rw [← h2.length]; exact q _ _ _ _ (New.val e (.int _))⟩
  · cases Option.some.inj hev
    obtain ⟨a, vs, rfl, h1, h2⟩ := opd_flst o
    exact call_len_seq pins s σ H _ us Q I r ⟨a, vs, rfl, .inl (ex_l e h1), by rw [← h2.length]; exact q _ _ _ _ (New.val e (.int _))⟩
  · cases Option.some.inj hev
    obtain ⟨f, h⟩ := o
    cases h with
    | lst h1 h2 => exact call_len_seq pins s σ H _ us Q I r ⟨_, _, rfl, .inl (sq_of h1), by rw [← h2.length]; exact q _ _ _ _ (New.val e (.int _))⟩
  · cases hev
theorem bi_abs : CallR X (.builtin "abs") (rCS X.K T (biEv .abs)) := bi1 (ev := absEv) (fun ts w h => match ts, h with
  | [], h => absurd (show (none : Option OT) = some w from h) (by simp)
  | [t], h => ⟨t, rfl, h⟩
  | _ :: _ :: _, h => absurd (show (none : Option OT) = some w from h) (by simp)) fun pins s σ H Hs t w x us Q I r e o hev q => by
  unfold absEv at hev
  split at hev
  · cases Option.some.inj hev
    cases opd_int o
    exact call_abs pins s σ H _ us Q I r ⟨_, rfl, q _ _ _ _ (New.val e (.int _))⟩
  · cases hev
theorem bi_int : CallR X (.type "int") (rCS X.K T (biEv .int)) := bi1 (ev := intEv) (fun ts w h => match ts, h with
  | [], h => absurd (show (none : Option OT) = some w from h) (by simp)
  | [t], h => ⟨t, rfl, h⟩
  | _ :: _ :: _, h => absurd (show (none : Option OT) = some w from h) (by simp)) fun pins s σ H Hs t w x us Q I r e o hev q => by
  unfold intEv at hev
  split at hev
  · cases Option.some.inj hev
    cases opd_int o
    exact call_int1 pins s σ H _ us Q I r (.inl ⟨_, rfl, q _ _ _ _ (New.val e (.int _))⟩)
  · cases Option.some.inj hev
    cases opd_bl o
    exact call_int1 pins s σ H _ us Q I r (.inr ⟨_, rfl, q _ _ _ _ (New.val e (.int _))⟩)
  · cases hev
theorem bi_bool : CallR X (.type "bool") (rCS X.K T (biEv .bool)) := bi1 (ev := boolEv) (fun ts w h => match ts, h with
  | [], h => absurd (show (none : Option OT) = some w from h) (by simp)
  | [t], h => ⟨t, rfl, h⟩
  | _ :: _ :: _, h => absurd (show (none : Option OT) = some w from h) (by simp)) fun pins s σ H Hs t w x us Q I r e o hev q => by
  unfold boolEv at hev
  split at hev
  · cases Option.some.inj hev
    cases opd_int o
    exact call_bool1 pins s σ H _ us Q I r (.inl ⟨_, rfl, q _ _ _ _ (New.val e (.bl _))⟩)
  · cases Option.some.inj hev
    cases opd_bl o
    exact call_bool1 pins s σ H _ us Q I r (.inr ⟨_, rfl, q _ _ _ _ (New.val e (.bl _))⟩)
  · cases hev
theorem bi_tuple : CallR X (.type "tuple") (rCS X.K T (biEv .tuple)) := bi1 (ev := tupleEv) (fun ts w h => match ts, h with
  | [], h => absurd (show (none : Option OT) = some w from h) (by simp)
  | [t], h => ⟨t, rfl, h⟩
  | _ :: _ :: _, h => absurd (show (none : Option OT) = some w from h) (by simp)) fun pins s σ H Hs t w x us Q I r e o hev q => by
  unfold tupleEv at hev
  split at hev
  · cases Option.some.inj hev
    obtain ⟨a, vs, rfl, h1, h2⟩ := opd_tup o
    exact call_tuple_of pins s σ H _ us Q I r ⟨a, vs, rfl, .inr ⟨ex_t e h1, q _ _ _ _ (New.val e (.tup h1 h2))⟩⟩
  · cases Option.some.inj hev
    obtain ⟨a, vs, rfl, h1, h2⟩ := opd_flst o
    exact call_tuple_of pins s σ H _ us Q I r ⟨a, vs, rfl, .inl ⟨ex_l e h1, fun p hp => q _ _ _ _ (New.tup e hp h2)⟩⟩
  · obtain ⟨ds, hl, rfl⟩ := Option.map_eq_some_iff.mp hev
    obtain ⟨a, vs, rfl, h1, h2⟩ := opd_litems e o hl
    exact call_tuple_of pins s σ H _ us Q I r ⟨a, vs, rfl, .inl ⟨sq_of h1, fun p hp => q _ _ _ _ (New.tup e hp h2)⟩⟩
theorem bi_list (hc : X.calm = true) : CallR X (.type "list") (rCS X.K T (biEv .list)) := bi1 (ev := listEv) (fun ts w h => match ts, h with
  | [], h => absurd (show (none : Option OT) = some w from h) (by simp)
  | [t], h => ⟨t, rfl, h⟩
  | _ :: _ :: _, h => absurd (show (none : Option OT) = some w from h) (by simp)) fun pins s σ H Hs t w x us Q I r e o hev q => by
  unfold listEv at hev
  split at hev
  · cases Option.some.inj hev
    obtain ⟨a, vs, rfl, h1, h2⟩ := opd_tup o
    exact call_list_of pins s σ H _ us Q I r ⟨a, vs, rfl, .inr (ex_t e h1), fun p hp => q _ _ _ _ (New.newL e hp h2)⟩
  · cases Option.some.inj hev
    obtain ⟨a, vs, rfl, h1, h2⟩ := opd_flst o
    exact call_list_of pins s σ H _ us Q I r ⟨a, vs, rfl, .inl (ex_l e h1), fun p hp => q _ _ _ _ (New.newL e hp h2)⟩
  · rename_i z
    obtain ⟨hz, rfl⟩ := guard_eq hev
    cases opd_str o
    cases r with
    | cons r1 r2 =>
      cases r2
      obtain ⟨t0, rfl⟩ := r1
      refine PySem.call_list_str (I.ok.hd hc) z t0 (fun h' tk acc c kp ho hi => ?_) (by rw [← line]; exact of_decide_eq_true hz)
      have hl : (z.cps.toList.map fun c => V.str ⟨#[c]⟩).length = acc.toList.length := by simp [hi.1]
      have rv : Vals (z.cps.toList.map fun c => V.str ⟨#[c]⟩) acc.toList := vals_of_at hl fun j x u h1 h2 => by
        obtain ⟨c, t, h3, rfl⟩ := hi.2 j u (by simpa using h2)
        rw [List.getElem?_map] at h1
        have h4 : z.cps.toList[j]? = some c := by simpa using h3
        rw [h4] at h1
        cases (Option.some.inj h1)
        exact ⟨t, rfl⟩
      have rp : Rps X.K T Hs (z.cps.toList.map fun c => D.str ⟨#[c]⟩) (z.cps.toList.map fun c => V.str ⟨#[c]⟩) := by
        generalize z.cps.toList = l
        induction l with
        | nil => exact .nil
        | cons c l ih => exact .cons (.str _) ih
      refine ⟨.ref s.heap.objs.size, _, I.laid (t' := tk) kp (Nat.le_refl _) (show ObjOk X.prog X.w _ h' _ (.lst (z.cps.toList.map fun c => V.str ⟨#[c]⟩)) from ⟨?_, acc.toList, c, rv, ?_⟩), rfl, q _ _ _ _ (New.newL e (I.hok.fresh (Nat.le_refl _)) rp)⟩
      · rw [List.length_map, Array.length_toList, ← line]; exact of_decide_eq_true hz
      · simpa using ho
  · obtain ⟨ds, hl, rfl⟩ := Option.map_eq_some_iff.mp hev
    obtain ⟨a, vs, rfl, h1, h2⟩ := opd_litems e o hl
    exact call_list_of pins s σ H _ us Q I r ⟨a, vs, rfl, .inl (sq_of h1), fun p hp => q _ _ _ _ (New.newL e hp h2)⟩
theorem bi_any (hc : X.calm = true) : CallR X (.builtin "any") (rCS X.K T (biEv .any)) := bi1 (ev := anyEv) (fun ts w h => match ts, h with
  | [], h => absurd (show (none : Option OT) = some w from h) (by simp)
  | [t], h => ⟨t, rfl, h⟩
  | _ :: _ :: _, h => absurd (show (none : Option OT) = some w from h) (by simp)) fun pins s σ H Hs t w x us Q I r e o hev q => by
  unfold anyEv at hev
  obtain ⟨ds, hl, hev⟩ := Option.bind_eq_some_iff.mp hev
  obtain ⟨bs, hb, rfl⟩ := Option.map_eq_some_iff.mp hev
  obtain ⟨a, vs, rfl, h1, h2⟩ := opd_litems e o hl
  have k := rps_bls h2 hb
  subst k
  exact cr_any hc pins s σ H _ us Q I r ⟨a, bs, rfl, sq_of h1, q _ _ _ _ (New.val e (.bl _))⟩
theorem bi_all (hc : X.calm = true) : CallR X (.builtin "all") (rCS X.K T (biEv .all)) := bi1 (ev := allEv) (fun ts w h => match ts, h with
  | [], h => absurd (show (none : Option OT) = some w from h) (by simp)
  | [t], h => ⟨t, rfl, h⟩
  | _ :: _ :: _, h => absurd (show (none : Option OT) = some w from h) (by simp)) fun pins s σ H Hs t w x us Q I r e o hev q => by
  unfold allEv at hev
  obtain ⟨ds, hl, hev⟩ := Option.bind_eq_some_iff.mp hev
  obtain ⟨bs, hb, rfl⟩ := Option.map_eq_some_iff.mp hev
  obtain ⟨a, vs, rfl, h1, h2⟩ := opd_litems e o hl
  have k := rps_bls h2 hb
  subst k
  exact cr_all hc pins s σ H _ us Q I r ⟨a, bs, rfl, sq_of h1, q _ _ _ _ (New.val e (.bl _))⟩
theorem bi_sum (hc : X.calm = true) : CallR X (.builtin "sum") (rCS X.K T (biEv .sum)) := bi1 (ev := sumEv) (fun ts w h => match ts, h with
  | [], h => absurd (show (none : Option OT) = some w from h) (by simp)
  | [t], h => ⟨t, rfl, h⟩
  | _ :: _ :: _, h => absurd (show (none : Option OT) = some w from h) (by simp)) fun pins s σ H Hs t w x us Q I r e o hev q => by
  unfold sumEv at hev
  split at hev
  · obtain ⟨ns, hb, rfl⟩ := Option.map_eq_some_iff.mp hev
    obtain ⟨a, vs, rfl, h1, h2⟩ := opd_tup o
    cases rps_ints h2 hb
    obtain ⟨its, rv, hl, _⟩ := I.tuple (ex_t e h1)
    rw [Vals.ref1 r]
    obtain ⟨xs, hx⟩ := rv.ints.allInts.items
    have hn : numsOf its.toArray.toList = ns := by rw [show its.toArray.toList = its from rfl, rv.ints.numsOf]
    have hl : s.heap.IsTuple a its.toArray := hl
    rw [hx] at hl hn
    rw [nums_intItems] at hn
    refine PySem.W.ktm_sumG (I.ok.hd hc) hl fun h' tk t' hk => ?_
    rw [preSum_eq, List.take_of_length_le (by simp), hn]
    exact ⟨.int _, H, I.kept hk, ⟨_, rfl⟩, q _ _ _ _ (New.val e (.int _))⟩
  · obtain ⟨ds, hl, hev⟩ := Option.bind_eq_some_iff.mp hev
    obtain ⟨bs, hb, rfl⟩ := Option.map_eq_some_iff.mp hev
    obtain ⟨a, vs, rfl, h1, h2⟩ := opd_litems e o hl
    have k := rps_ints h2 hb
    subst k
    exact cr_sum hc pins s σ H _ us Q I r ⟨a, bs, rfl, sq_of h1, q _ _ _ _ (New.val e (.int _))⟩
theorem bi_repr (gd : X.A.guards = some []) (hu : X.A.units + 66 < cLine) : CallR X (.builtin "repr") (rCS X.K T (biEv .repr)) := bi1 (ev := reprEv) (fun ts w h => match ts, h with
  | [], h => absurd (show (none : Option OT) = some w from h) (by simp)
  | [t], h => ⟨t, rfl, h⟩
  | _ :: _ :: _, h => absurd (show (none : Option OT) = some w from h) (by simp)) fun pins s σ H Hs t w x us Q I r e o hev q => by
  unfold reprEv at hev
  split at hev
  · rename_i hrow
    obtain ⟨p, hp, hev⟩ := Option.bind_eq_some_iff.mp hev
    obtain ⟨hz, rfl⟩ := guard_eq hev
    simp only [Bool.and_eq_true, decide_eq_true_eq] at hz
    obtain ⟨⟨h1, h2⟩, h3⟩ := hz
    have rp := opd_toD e o
    have ha : ∃ a, x = V.ref a := by
      unfold D.isRow at hrow
      split at hrow
      · rename_i ed; rw [ed] at rp; cases rp; exact ⟨_, rfl⟩
      · rename_i ed; rw [ed] at rp; cases rp; exact ⟨_, rfl⟩
      · cases hrow
    obtain ⟨a, rfl⟩ := ha
    rw [Vals.ref1 r]
    obtain ⟨as, rd⟩ := Dp.reads I p (.ref a) (.ref a) (rp.dp hp) rfl
    have hlay := SeqAt.canLay_of_shaped h1
    have hdep : p.depth ≤ 64 := by
      have h1 : (p.canLay0 && decide (p.depth ≤ 64)) = true := h1
      rw [Bool.and_eq_true] at h1
      exact of_decide_eq_true h1.2
    exact repr_of_reads' rd h2 (PyData.noDict_hsm (PyData.hasDict_of_canLay p hlay)) gd (by omega) (fun _ _ z => z) (fun h' u tk hk => ⟨.str _, H, I.kept hk, ⟨_, rfl⟩, q _ _ _ _ (New.val e (.str _))⟩) (by rw [← line]; exact h3)
  · cases hev
theorem sorted_uniq : ∀ {a b : List Int}, a.Perm b → a.Pairwise (· ≤ ·) → b.Pairwise (· ≤ ·) → a = b := fun {a b} h ha hb => h.eq_of_pairwise (le := (· ≤ ·)) (fun x y _ _ h1 h2 => Int.le_antisymm h1 h2) ha hb
theorem sortI_perm (ns : List Int) : (sortI ns).Perm ns := List.mergeSort_perm _ _
theorem sortI_sorted (ns : List Int) : (sortI ns).Pairwise (· ≤ ·) := by
  have h := List.pairwise_mergeSort (le := fun a b : Int => decide (a ≤ b)) (fun a b c h1 h2 => by simp only [decide_eq_true_eq] at *; omega) (fun a b => by simp only [Bool.or_eq_true, decide_eq_true_eq]; omega) ns
  exact h.imp fun q => of_decide_eq_true q
/-- a pair as it lies in the heap -/
def PairH (h : Heap) (v : Value) (p : Int × List Int) : Prop := ∃ (a b : Addr) (t : Tok) (its : List Value), v = .ref a ∧ IsTup h a #[.int p.1 t, .ref b] ∧ IsTup h b its.toArray ∧ IntsAre its p.2
theorem isTup_inj {h : Heap} {a : Addr} {xs ys : Array Value} (h1 : IsTup h a xs) (h2 : IsTup h a ys) : xs = ys := by
  obtain ⟨o, e, _, n, d⟩ := h1
  obtain ⟨o', e', _, n', d'⟩ := h2
  rw [e] at e'; cases e'
  rw [d] at d'
  injection d'
theorem ints_inj : ∀ {vs : List Value} {ns ms : List Int}, IntsAre vs ns → IntsAre vs ms → ns = ms := by
  intro vs ns ms h
  induction h generalizing ms with
  | nil => intro q; cases q; rfl
  | cons n t r ih => intro q; cases q with
    | cons _ _ r' => rw [ih r']
theorem PairH.inj {h : Heap} {v : Value} {p q : Int × List Int} (h1 : PairH h v p) (h2 : PairH h v q) : p = q := by
  obtain ⟨a, b, t, its, rfl, t1, t2, i1⟩ := h1
  obtain ⟨a', b', t', its', e, t3, t4, i2⟩ := h2
  cases e
  have := isTup_inj t1 t3
  simp only [Array.mk.injEq, List.cons.injEq, Value.int.injEq, Value.ref.injEq, and_true] at this
  obtain ⟨⟨e1, _⟩, e2⟩ := this
  subst e2
  have e3 : its = its' := by simpa using congrArg Array.toList (isTup_inj t2 t4)
  subst e3
  exact Prod.ext e1 (ints_inj i1 i2)
theorem PairH.keeps {h h' : Heap} {v : Value} {p : Int × List Int} (k : ∀ b o, h.get? b = some o → h'.get? b = some o) (q : PairH h v p) : PairH h' v p := by
  obtain ⟨a, b, t, its, e, ⟨o, q1, q2⟩, ⟨o2, q3, q4⟩, q5⟩ := q
  exact ⟨a, b, t, its, e, ⟨o, k _ _ q1, q2⟩, ⟨o2, k _ _ q3, q4⟩, q5⟩
theorem reads_ints {h : Heap} : ∀ {its : List Value} {ns : List Int}, IntsAre its ns → ∃ as, ReadsAll h its (ns.map .int) as
  | _, _, .nil => ⟨_, .nil⟩
  | _, _, .cons n t r => by
    obtain ⟨as, q⟩ := reads_ints r
    exact ⟨_, .cons (.int n t) q⟩
theorem lexLt_same : ∀ ns : List Int, HT.lexLt ns ns = false
  | [] => rfl
  | n :: ns => by rw [HT.lexLt_cons, if_pos rfl]; exact lexLt_same ns
theorem ltP_swo : SrtO.Swo ltP := by
  refine ⟨fun x y h => ?_, fun x y z h1 h2 => ?_⟩
  · unfold ltP at h ⊢
    by_cases e : x.1 = y.1
    · rw [if_pos e] at h
      rw [if_pos e.symm]
      exact NtL.lex_asym _ _ h
    · rw [if_neg e] at h
      rw [if_neg (Ne.symm e)]
      simp only [decide_eq_true_eq, decide_eq_false_iff_not] at *
      omega
  · unfold ltP at *
    by_cases e1 : x.1 = y.1 <;> by_cases e2 : y.1 = z.1
    · rw [if_pos e1.symm] at h1
      rw [if_pos e2.symm] at h2
      rw [if_pos (e1.trans e2).symm]
      exact NtL.lex_tr _ _ _ h1 h2
    · rw [if_neg (Ne.symm e2)] at h2
      rw [if_neg (by rw [e1]; exact Ne.symm e2)]
      simp only [decide_eq_false_iff_not] at *
      omega
    · rw [if_neg (Ne.symm e1)] at h1
      rw [if_neg (by rw [← e2]; exact Ne.symm e1)]
      simp only [decide_eq_false_iff_not] at *
      omega
    · rw [if_neg (Ne.symm e1)] at h1
      rw [if_neg (Ne.symm e2)] at h2
      simp only [decide_eq_false_iff_not] at h1 h2
      have : ¬ z.1 = x.1 := by omega
      rw [if_neg this]
      simp only [decide_eq_false_iff_not]
      omega
theorem eqv_ints : ∀ (ms ns : List Int), PyData.eqvAll (ms.map .int) (ns.map .int) = decide (ms = ns)
  | [], [] => rfl
  | [], n :: ns => rfl
  | m :: ms, [] => rfl
  | m :: ms, n :: ns => by
    show (PyData.eqv (.int m) (.int n) && PyData.eqvAll (ms.map .int) (ns.map .int)) = _
    rw [eqv_ints ms ns]
    show ((m == n) && decide (ms = ns)) = _
    by_cases e : m = n <;> by_cases e2 : ms = ns <;> simp [e, e2]
theorem pairs_cmp {prog : Program} {w : World} {A : Around} {s : Shared} {vs : List Value} {k : Value → Int × List Int} (hu : A.units + 64 < cLine) (hp : ∀ v ∈ vs, PairH s.heap v (k v)) (hsh : ∀ v ∈ vs, SeqAt.shaped (.tuple ((k v).2.map .int)) = true) : SrtO.Cmp prog w A s (PyProof.Rows.tuples' true) (fun p => p.1 ∈ vs) (SrtO.lt2 fun v u => ltP (k v) (k u)) := by
  intro p q hm hm'
  have h1 := hp _ hm
  have h2 := hp _ hm'
  have s1 := hsh _ hm
  have s2 := hsh _ hm'
  show wpAny (model prog w) A (PyProof.Rows.keyLt' (PyProof.Rows.tuples' true) p.1 q.1) (fun r s' => s' = s ∧ r = ltP (k p.1) (k q.1)) (fun _ _ => False) s
  unfold ltP
  generalize k p.1 = kp at h1 s1 ⊢
  generalize k q.1 = kq at h2 s2 ⊢
  obtain ⟨x, y⟩ := kp
  obtain ⟨x', y'⟩ := kq
  obtain ⟨a, b, t, its, e, ⟨o, ho, hc, n, hd⟩, tb, ib⟩ := h1
  obtain ⟨a', b', t', its', e', ⟨o', ho', hc', n', hd'⟩, tb', ib'⟩ := h2
  rw [e, e']
  obtain ⟨as, ra⟩ := reads_ints (h := s.heap) ib
  obtain ⟨bs, rb⟩ := reads_ints (h := s.heap) ib'
  obtain ⟨ob, hob, hcb, nb, hdb⟩ := id tb
  obtain ⟨ob', hob', hcb', nb', hdb'⟩ := id tb'
  have r1 : Reads s.heap (.ref b) (.tuple (y.map .int)) as := .tuple hob hcb hdb (by simpa using ra)
  have r2 : Reads s.heap (.ref b') (.tuple (y'.map .int)) bs := .tuple hob' hcb' hdb' (by simpa using rb)
  have eq2 := SeqAt.eqAt_reads _ _ A s _ _ as bs r1 r2 (SeqAt.canLay_of_shaped s1) (SeqAt.canLay_of_shaped s2) (SeqAt.room_of_shaped s1 hu)
  have ee : PyData.eqv (.tuple (y.map .int)) (.tuple (y'.map .int)) = decide (y = y') := eqv_ints y y'
  rw [ee] at eq2
  refine PySem.W.kat_lt ho hd ho' hd' ?_
  show PySem.W.KatLex prog w A true (decide (2 < 2)) _ [(.int x t, .int x' t'), (.ref b, .ref b')] 0 s
  refine PySem.W.kat_cons (SeqAt.EqAt.int_int x t x' t' prog w _ _ ?_)
  refine PySem.W.kat_go (fun e1 => ?_) (fun e1 => ?_)
  · have ex : x = x' := by simpa using e1
    rw [if_pos ex]
    refine PySem.W.kat_yes (PySem.W.kat_cons (eq2 prog w _ _ ?_))
    refine PySem.W.kat_go (fun e2 => ?_) (fun e2 => ?_)
    · have ey : y = y' := by simpa using e2
      refine PySem.W.kat_yes (PySem.W.kat_nil ⟨rfl, ?_⟩)
      rw [ey, lexLt_same]; rfl
    · exact PySem.W.kat_no (PySem.W.kat_one _ _ (HT.lt_tupInts tb tb' (by simpa using ib) (by simpa using ib') (by omega) ⟨rfl, rfl⟩))
  · have ex : ¬ x = x' := by simpa using e1
    rw [if_neg ex]
    exact PySem.W.kat_no (PyProof.Rows.oneLt_int ⟨rfl, rfl⟩)
inductive PPs (h : Heap) : List Value → List (Int × List Int) → Prop
  | nil : PPs h [] []
  | cons {u : Value} {p : Int × List Int} {us : List Value} {ps : List (Int × List Int)} : PairH h u p → PPs h us ps → PPs h (u :: us) (p :: ps)
theorem PPs.mem {h : Heap} {v : Value} : ∀ {us : List Value} {ps : List (Int × List Int)}, PPs h us ps → v ∈ us → ∃ p, PairH h v p
  | _, _, .nil, hv => absurd hv (by simp)
  | _, _, .cons q r, hv => by
    rcases List.mem_cons.mp hv with rfl | hv
    · exact ⟨_, q⟩
    · exact r.mem hv
theorem lexLt_tot : ∀ (xs ys : List Int), HT.lexLt xs ys = false → HT.lexLt ys xs = false → xs = ys
  | [], [], _, _ => rfl
  | [], y :: ys, h, _ => by rw [HT.lexLt_nil_cons] at h; cases h
  | x :: xs, [], _, h => by rw [HT.lexLt_nil_cons] at h; cases h
  | x :: xs, y :: ys, h1, h2 => by
    rw [HT.lexLt_cons] at h1 h2
    by_cases e : x = y
    · rw [if_pos e] at h1
      rw [if_pos e.symm] at h2
      rw [e, lexLt_tot xs ys h1 h2]
    · rw [if_neg e] at h1
      rw [if_neg (Ne.symm e)] at h2
      simp only [decide_eq_false_iff_not] at h1 h2
      omega
theorem ltP_tot {p q : Int × List Int} (h1 : ltP p q = false) (h2 : ltP q p = false) : p = q := by
  unfold ltP at h1 h2
  by_cases e : p.1 = q.1
  · rw [if_pos e] at h1
    rw [if_pos e.symm] at h2
    exact Prod.ext e (lexLt_tot _ _ h1 h2)
  · rw [if_neg e] at h1
    rw [if_neg (Ne.symm e)] at h2
    simp only [decide_eq_false_iff_not] at h1 h2
    omega
theorem sortP_uniq {a b : List (Int × List Int)} (h : a.Perm b) (ha : SrtO.Srtd ltP a) (hb : SrtO.Srtd ltP b) : a = b := h.eq_of_pairwise (le := fun x y => ltP y x = false) (fun x y _ _ h1 h2 => ltP_tot h2 h1) ha hb
theorem pair_firsts {h : Heap} : ∀ {vs : List Value}, (∀ v ∈ vs, ∃ p, PairH h v p) → ∃ fs : List Value, PySem.W.KatTups h vs fs ∧ fs.length = vs.length ∧ ∀ f ∈ fs, ∃ x t, f = Value.int x t
  | [], _ => ⟨[], PySem.W.KatTups.nil, rfl, fun _ hm => by simp at hm⟩
  | v :: vs, hp => by
    obtain ⟨fs, h1, h2, h3⟩ := pair_firsts (vs := vs) fun v' hm => hp v' (List.mem_cons_of_mem _ hm)
    obtain ⟨p, a, b, t, its, rfl, ⟨o, ho, hc, n, hd⟩, _⟩ := hp v (List.mem_cons_self ..)
    refine ⟨.int p.1 t :: fs, PySem.W.KatTups.cons ho hc hd rfl h1, by rw [List.length_cons, List.length_cons, h2], fun f hm => ?_⟩
    rcases List.mem_cons.mp hm with rfl | hm
    · exact ⟨p.1, t, rfl⟩
    · exact h3 f hm
theorem pairs_sort {prog : Program} {w : World} {A : Around} {s : Shared} {a : Addr} {vs : List Value} {k : Value → Int × List Int} (hu : A.units + 64 < cLine) (h0 : 0 < vs.length) (hp : ∀ h' : Heap, (∀ b o, b ≠ a → s.heap.get? b = some o → h'.get? b = some o) → ∀ v ∈ vs, PairH h' v (k v)) (hsh : ∀ v ∈ vs, SeqAt.shaped (.tuple ((k v).2.map .int)) = true) :
    SrtO.SortableO prog w A s a vs fun v u => ltP (k v) (k u) := by
  intro h' keep
  have hp' := hp h' keep
  obtain ⟨fs, h1, h2, h3⟩ := pair_firsts fun v hm => ⟨_, hp' v hm⟩
  refine ⟨PyProof.Rows.tuples' true, fun Q E hq => ?_, pairs_cmp (s := { s with heap := h' }) hu hp' hsh⟩
  refine PySem.W.kat_kind (T := .type "int") h1 (by omega) (fun f hm => ?_) (by rfl) ?_
  · obtain ⟨x, t, rfl⟩ := h3 f hm
    exact PySem.W.Looks.now
  · have e : (Value.type "int" != Value.type "tuple") = true := by first | decide +kernel | rfl | decide
    rw [e]
    exact hq
theorem pairKs_get : ∀ {ds : List D} {ps : List (Int × List Int)}, pairKs ds = some ps → ds = ps.map pairD
  | [], ps, h => by cases Option.some.inj (show some [] = some ps from h); rfl
  | d :: r, ps, h => by
    obtain ⟨p, h1, h2⟩ := Option.bind_eq_some_iff.mp (show ((pairK d).bind fun p => (pairKs r).map fun ps => p :: ps) = some ps from h)
    obtain ⟨qs, h3, rfl⟩ := Option.map_eq_some_iff.mp h2
    rw [List.map_cons, ← pairKs_get h3]
    congr 1
    unfold pairK at h1
    split at h1
    · rename_i i ds'
      obtain ⟨ns, h4, rfl⟩ := Option.map_eq_some_iff.mp h1
      have : ds' = ns.map .int := by
        clear h1 h2 h
        induction ds' generalizing ns with
        | nil => cases Option.some.inj (show some [] = some ns from h4); rfl
        | cons x xs ih =>
          cases x <;> first | (cases h4; done) | skip
          rename_i m
          obtain ⟨ms, h5, rfl⟩ := Option.map_eq_some_iff.mp (show (intsD xs).map (m :: ·) = some ns from h4)
          rw [ih ms h5]; rfl
      unfold pairD
      rw [this]
    · cases h1
theorem sortP_sorted (ps : List (Int × List Int)) : SrtO.Srtd ltP (sortP ps) := by
  have h := List.pairwise_mergeSort (le := fun p q => !ltP q p) (fun a b c h1 h2 => by
    simp only [Bool.not_eq_true'] at *
    exact ltP_swo.tr _ _ _ h1 h2) (fun a b => by
    cases h : ltP b a with
    | false => rfl
    | true => rw [ltP_swo.asym _ _ h]; rfl) ps
  exact h.imp fun q => by simpa using q
theorem bi_sorted (hu : X.A.units + 66 < cLine) : CallR X (.builtin "sorted") (rCS X.K T (biEv .sorted)) := bi1 (ev := sortedEv) (fun ts w h => match ts, h with
  | [], h => absurd (show (none : Option OT) = some w from h) (by simp)
  | [t], h => ⟨t, rfl, h⟩
  | _ :: _ :: _, h => absurd (show (none : Option OT) = some w from h) (by simp)) fun pins s σ H Hs t w x us Q I r e o hev q => by
  unfold sortedEv at hev
  obtain ⟨ds, hl, hev⟩ := Option.bind_eq_some_iff.mp hev
  obtain ⟨a, vs, rfl, h1, h2⟩ := opd_litems e o hl
  split at hev
  · rename_i ns hb
    obtain ⟨hz, rfl⟩ := guard_eq hev
    have k := rps_ints h2 hb
    subst k
    refine cr_sorted pins s σ H _ us Q I r ⟨a, ns, rfl, sq_of h1, of_decide_eq_true hz, fun ns' p hp hs hn => ?_⟩
    have k : ns' = sortI ns := sorted_uniq (hp.trans (sortI_perm ns).symm) hs (sortI_sorted ns)
    subst k
    exact q _ _ _ _ (New.newL e hn (rps_of_ints _))
  · obtain ⟨ps, hb, hev⟩ := Option.bind_eq_some_iff.mp hev
    obtain ⟨hz, rfl⟩ := guard_eq hev
    have hd := pairKs_get hb
    subst hd
    rw [List.all_eq_true] at hz
    -- the items as they lie
    obtain ⟨its, rv, hlst, hzz⟩ := I.list (sq_of (K := X.K) h1)
    have lay : ∀ (ps : List (Int × List Int)) (vs : List V) (us : List Value), Rps X.K T Hs (ps.map pairD) vs → Vals vs us → (∀ v ∈ us, ∃ a, v = Value.ref a) ∧ PPs s.heap us ps ∧ ∀ u ∈ us, ∀ p, PairH s.heap u p → Rp X.K T Hs (pairD p) (backV u) := by
      intro ps
      induction ps with
      | nil => intro vs us r1 r2; cases r1; cases r2; exact ⟨fun _ h => absurd h (by simp), .nil, fun _ h => absurd h (by simp)⟩
      | cons p ps ih =>
        intro vs us r1 r2
        rw [List.map_cons] at r1
        cases r1 with
        | cons r1 r1' =>
          cases r2 with
          | cons r2 r2' =>
            obtain ⟨k1, k2, k3⟩ := ih _ _ r1' r2'
            have r0 := r1
            unfold pairD at r1
            cases r1 with
            | tup hp rs =>
              cases rs with
              | cons ri rs =>
                cases rs with
                | cons rt rs =>
                  cases rs
                  cases ri
                  cases rt with
                  | tup hq rq =>
                    have kq := rps_ints rq (intsD_map p.2)
                    subst kq
                    cases r2
                    obtain ⟨i1, v1, t1, _⟩ := I.tuple (ex_t e hp)
                    obtain ⟨i2, v2, t2, _⟩ := I.tuple (ex_t e hq)
                    obtain ⟨u1, u2, rfl, ru1, ru2⟩ := vals2 v1
                    obtain ⟨t0, rfl⟩ := ru1
                    cases ru2
                    have ph : PairH s.heap (.ref _) p := ⟨_, _, t0, i2, rfl, t1, t2, v2.ints⟩
                    refine ⟨fun v hv => (List.mem_cons.mp hv).elim (fun z => ⟨_, z⟩) (k1 v), .cons ph k2, fun u hu p' hp' => ?_⟩
                    rcases List.mem_cons.mp hu with rfl | hu
                    · rw [hp'.inj ph]; exact r0
                    · exact k3 u hu p' hp'
    obtain ⟨lr, lp, lq⟩ := lay ps vs its h2 rv
    -- the pair of a value
    have cl : ∀ u, Decidable (∃ p, PairH s.heap u p) := fun u => Classical.propDecidable _
    let k : Value → Int × List Int := fun u => if h : ∃ p, PairH s.heap u p then h.choose else (0, [])
    have kh : ∀ {u p}, PairH s.heap u p → k u = p := fun {u p} hp => by
      have hx : ∃ p, PairH s.heap u p := ⟨p, hp⟩
      show (if h : ∃ p, PairH s.heap u p then h.choose else (0, [])) = p
      rw [dif_pos hx]
      exact hx.choose_spec.inj hp
    have km : ∀ (us : List Value) (ps : List (Int × List Int)), PPs s.heap us ps → us.map k = ps := by
      intro us ps h
      induction h with
      | nil => rfl
      | cons h _ ih => rw [List.map_cons, kh h, ih]
    have kp : ∀ v ∈ its, PairH s.heap v (k v) := fun v hv => by
      have : ∃ p, PairH s.heap v p := lp.mem hv
      obtain ⟨p, hp⟩ := this
      rw [kh hp]; exact hp
    have kps : its.map k = ps := km its ps lp
    have hsh : ∀ v ∈ its, SeqAt.shaped (.tuple ((k v).2.map .int)) = true := fun v hv => by
      have : k v ∈ ps := by rw [← kps]; exact List.mem_map.mpr ⟨v, hv, rfl⟩
      exact hz _ this
    have O : SrtO.Swo (fun v u => ltP (k v) (k u)) := ⟨fun x y h => ltP_swo.asym _ _ h, fun x y z h1 h2 => ltP_swo.tr _ _ _ h1 h2⟩
    cases r with
    | cons r1 r2 =>
      cases r2
      cases r1
      refine SrtO.sorted_ord (ltv := fun v u => ltP (k v) (k u)) O hlst.isList (by rw [← rv.length]; exact hzz) (fun h2' h₁ a' ha kk => ?_) fun out hs hb => ?_
      · exact pairs_sort (s := { s with heap := h₁ }) (by show X.A.units + 1 + 1 + 64 < cLine; omega) (by omega) (fun h' keep v hv => (kp v hv).keeps fun b o eo => keep b o (kk b o eo).1 (kk b o eo).2) hsh
      · obtain ⟨n, hn⟩ := PyProof.Rows.sortedAll_at s.heap its out.toArray
        have hperm : (out.map k).Perm ps := by rw [← kps]; exact hb.perm.map k
        have hsorted : out.map k = sortP ps := sortP_uniq (hperm.trans (List.mergeSort_perm _ _).symm) (SrtO.srtd_map hs) (sortP_sorted ps)
        have ho : ∀ u ∈ out, u ∈ its := fun u hu => hb.perm.mem_iff.mp hu
        have rp : ∀ out' : List Value, (∀ u ∈ out', u ∈ its) → Rps X.K T Hs ((out'.map k).map pairD) (out'.map backV) := by
          intro out'
          induction out' with
          | nil => intro _; exact .nil
          | cons u us ih => intro hm; exact .cons (lq u (hm u (by simp)) _ (kp u (hm u (by simp)))) (ih fun v hv => hm v (by simp [hv]))
        have rp := rp out ho
        rw [hsorted] at rp
        refine ⟨.ref (s.heap.objs.size + 1), upd H (s.heap.objs.size + 1) (.lst (out.map backV)), I.laid (t' := s.toks) (fun b o eo => PyProof.Rows.sortedAll_old eo) (Nat.le_succ _) ⟨?_, out, n, vals_back fun u hu => lr u (ho u hu), hn⟩, rfl, q _ _ _ _ (New.newL e (I.hok.fresh (Nat.le_succ _)) rp)⟩
        rw [List.length_map, hb.len, ← rv.length]
        exact hzz
theorem bi_max2 (hc : X.calm = true) : CallR X (.builtin "max") (rCS X.K T (biEv .max2)) := by
  intro pins s σ H xs us Q I r ⟨Hs, ts, w, e, ho, hev, q⟩
  obtain ⟨a, b, rfl, hev2⟩ : ∃ a b, ts = [a, b] ∧ max2Ev a b = some w := match ts, hev with
    | [], h => absurd (show (none : Option OT) = some w from h) (by simp)
    | [_], h => absurd (show (none : Option OT) = some w from h) (by simp)
    | [a, b], h => ⟨a, b, rfl, h⟩
    | _ :: _ :: _ :: _, h => absurd (show (none : Option OT) = some w from h) (by simp)
  obtain ⟨x, y, rfl, o1, o2⟩ := opds2 ho
  unfold max2Ev at hev2
  split at hev2
  · cases Option.some.inj hev2
    cases opd_int o1
    cases opd_int o2
    exact call_max2 hc pins s σ H _ us Q I r ⟨_, _, rfl, q _ _ _ _ (New.val e (.int _))⟩
  · cases hev2
theorem bi_min2 (hc : X.calm = true) : CallR X (.builtin "min") (rCS X.K T (biEv .min2)) := by
  intro pins s σ H xs us Q I r ⟨Hs, ts, w, e, ho, hev, q⟩
  obtain ⟨a, b, rfl, hev2⟩ : ∃ a b, ts = [a, b] ∧ min2Ev a b = some w := match ts, hev with
    | [], h => absurd (show (none : Option OT) = some w from h) (by simp)
    | [_], h => absurd (show (none : Option OT) = some w from h) (by simp)
    | [a, b], h => ⟨a, b, rfl, h⟩
    | _ :: _ :: _ :: _, h => absurd (show (none : Option OT) = some w from h) (by simp)
  obtain ⟨x, y, rfl, o1, o2⟩ := opds2 ho
  unfold min2Ev at hev2
  split at hev2
  · cases Option.some.inj hev2
    cases opd_int o1
    cases opd_int o2
    exact call_min2 hc pins s σ H _ us Q I r ⟨_, _, rfl, q _ _ _ _ (New.val e (.int _))⟩
  · cases hev2


theorem foldl_max : ∀ (ns : List Int) (n : Int), (ns.foldl max n = n ∨ ns.foldl max n ∈ ns) ∧ n ≤ ns.foldl max n ∧ ∀ y ∈ ns, y ≤ ns.foldl max n
  | [], n => ⟨.inl rfl, Int.le_refl _, fun y h => absurd h (by simp)⟩
  | m :: ns, n => by
    obtain ⟨h1, h2, h3⟩ := foldl_max ns (max n m)
    simp only [List.foldl_cons]
    have a1 : n ≤ max n m := by omega
    have a2 : m ≤ max n m := by omega
    refine ⟨?_, by omega, fun y hy => ?_⟩
    · rcases h1 with h1 | h1
      · rw [h1]
        by_cases h : n ≤ m
        · exact .inr (by rw [show max n m = m by omega]; simp)
        · exact .inl (by omega)
      · exact .inr (by simp [h1])
    · rcases List.mem_cons.mp hy with rfl | hy
      · omega
      · exact h3 y hy
theorem foldl_min : ∀ (ns : List Int) (n : Int), (ns.foldl min n = n ∨ ns.foldl min n ∈ ns) ∧ ns.foldl min n ≤ n ∧ ∀ y ∈ ns, ns.foldl min n ≤ y
  | [], n => ⟨.inl rfl, Int.le_refl _, fun y h => absurd h (by simp)⟩
  | m :: ns, n => by
    obtain ⟨h1, h2, h3⟩ := foldl_min ns (min n m)
    simp only [List.foldl_cons]
    have a1 : min n m ≤ n := by omega
    have a2 : min n m ≤ m := by omega
    refine ⟨?_, by omega, fun y hy => ?_⟩
    · rcases h1 with h1 | h1
      · rw [h1]
        by_cases h : n ≤ m
        · exact .inl (by omega)
        · exact .inr (by rw [show min n m = m by omega]; simp)
      · exact .inr (by simp [h1])
    · rcases List.mem_cons.mp hy with rfl | hy
      · omega
      · exact h3 y hy
theorem bi_max1 (hc : X.calm = true) : CallR X (.builtin "max") (rCS X.K T (biEv .max1)) := bi1 (ev := max1Ev) (fun ts w h => match ts, h with
  | [], h => absurd (show (none : Option OT) = some w from h) (by simp)
  | [t], h => ⟨t, rfl, h⟩
  | _ :: _ :: _, h => absurd (show (none : Option OT) = some w from h) (by simp)) fun pins s σ H Hs t w x us Q I r e o hev q => by
  unfold max1Ev at hev
  obtain ⟨ds, hl, hev⟩ := Option.bind_eq_some_iff.mp hev
  obtain ⟨ns, hb, hev⟩ := Option.bind_eq_some_iff.mp hev
  obtain ⟨M, hM, rfl⟩ := Option.map_eq_some_iff.mp hev
  obtain ⟨a, vs, rfl, h1, h2⟩ := opd_litems e o hl
  have k := rps_ints h2 hb
  subst k
  cases ns with
  | nil => cases hM
  | cons n ns =>
    cases Option.some.inj hM
    obtain ⟨f1, f2, f3⟩ := foldl_max ns n
    refine cr_max hc pins s σ H _ us Q I r ⟨a, n :: ns, rfl, sq_of h1, by simp, fun m hm hy => ?_⟩
    have e1 : m = ns.foldl max n := by
      have b1 : m ≤ ns.foldl max n := by
        rcases List.mem_cons.mp hm with rfl | hm
        · exact f2
        · exact f3 m hm
      have b2 : ns.foldl max n ≤ m := hy _ (by rcases f1 with f1 | f1 <;> simp [f1])
      omega
    rw [e1]
    exact q _ _ _ _ (New.val e (.int _))
theorem bi_min1 (hc : X.calm = true) : CallR X (.builtin "min") (rCS X.K T (biEv .min1)) := bi1 (ev := min1Ev) (fun ts w h => match ts, h with
  | [], h => absurd (show (none : Option OT) = some w from h) (by simp)
  | [t], h => ⟨t, rfl, h⟩
  | _ :: _ :: _, h => absurd (show (none : Option OT) = some w from h) (by simp)) fun pins s σ H Hs t w x us Q I r e o hev q => by
  unfold min1Ev at hev
  obtain ⟨ds, hl, hev⟩ := Option.bind_eq_some_iff.mp hev
  obtain ⟨ns, hb, hev⟩ := Option.bind_eq_some_iff.mp hev
  obtain ⟨M, hM, rfl⟩ := Option.map_eq_some_iff.mp hev
  obtain ⟨a, vs, rfl, h1, h2⟩ := opd_litems e o hl
  have k := rps_ints h2 hb
  subst k
  cases ns with
  | nil => cases hM
  | cons n ns =>
    cases Option.some.inj hM
    obtain ⟨f1, f2, f3⟩ := foldl_min ns n
    refine cr_min hc pins s σ H _ us Q I r ⟨a, n :: ns, rfl, sq_of h1, by simp, fun m hm hy => ?_⟩
    have e1 : m = ns.foldl min n := by
      have b1 : ns.foldl min n ≤ m := by
        rcases List.mem_cons.mp hm with rfl | hm
        · exact f2
        · exact f3 m hm
      have b2 : m ≤ ns.foldl min n := hy _ (by rcases f1 with f1 | f1 <;> simp [f1])
      omega
    rw [e1]
    exact q _ _ _ _ (New.val e (.int _))
theorem atI_rps {K : PySem.W.Frag} {H : Hp} {ds : List D} {vs : List V} {i : Int} {d : D} (r : Rps K T H ds vs) (h : atI ds i = some d) : ∃ v, atI vs i = some v ∧ Rp K T H d v := by
  unfold atI at h ⊢
  obtain ⟨j, h1, h2⟩ := Option.bind_eq_some_iff.mp h
  obtain ⟨v, h3, h4⟩ := r.get h2
  exact ⟨v, by rw [← r.length, h1]; exact h3, h4⟩
def idx2Ev (t u : OT) : Option OT := match u with
  | .sh (.int i) => idxEv t i
  | _ => none
theorem ixs : IxR X (rOpS X.K T idx2Ev) := by
  intro value slice pins s σ H x y v u Q I rx ry ⟨Hs, a, b, w, e, ha, hb, hev, q⟩ hs
  unfold idx2Ev at hev
  split at hev
  · cases opd_int hb
    unfold idxEv at hev
    split at hev
    · split at hev
      · rename_i hz
        obtain ⟨c, h1, rfl⟩ := Option.map_eq_some_iff.mp hev
        cases opd_str ha
        exact ix_str value slice pins s σ H _ _ v u Q I rx ry ⟨_, _, c, rfl, rfl, by rw [← line]; exact hz, h1, q _ _ _ _ (New.val e (.str _))⟩ hs
      · cases hev
    · obtain ⟨ds, h1, hev⟩ := Option.bind_eq_some_iff.mp hev
      obtain ⟨d, h2, rfl⟩ := Option.map_eq_some_iff.mp hev
      obtain ⟨p, vs, rfl, h3, h4⟩ := opd_items e ha h1
      obtain ⟨z, h5, h6⟩ := atI_rps h4 h2
      rcases h3 with h3 | h3
      · exact ix_list value slice pins s σ H _ _ v u Q I rx ry ⟨p, vs, _, z, rfl, rfl, h3, h5, q _ _ _ _ (New.val e h6)⟩ hs
      · exact ix_tup value slice pins s σ H _ _ v u Q I rx ry ⟨p, vs, _, z, rfl, rfl, h3, h5, q _ _ _ _ (New.val e h6)⟩ hs
  · cases hev
theorem cut_rps {K : PySem.W.Frag} {H : Hp} {ds : List D} {vs : List V} (lo hi : Option Int) (r : Rps K T H ds vs) : Rps K T H (cutD ds lo hi) (cutV vs lo hi) := by
  unfold cutD cutV
  rw [r.length]
  exact (r.drop _).take _
theorem cut_whole {ds : List D} {lo hi : Option Int} (h : HT.sIx ds.length 0 lo = 0 ∧ HT.sIx ds.length ds.length hi = ds.length) : cutD ds lo hi = ds := by
  unfold cutD
  rw [h.1, h.2, List.drop_zero, Nat.sub_zero, List.take_length]
def rSlcS (K : PySem.W.Frag) (T : Tab) : V → Option Int → Option Int → Hp → VK → Prop := fun x lo hi H Q => ∃ Hs t w, Ex Hs H ∧ Opd K T Hs H t x ∧ slcEv lo hi t = some w ∧ ∀ z H' Hs' ft, New K T Hs H w z H' Hs' ft → Q z H'
theorem sls : SlR X (rSlcS X.K T) := by
  intro pins s σ H x v vl vu lo hi sl Q I rx hs pl pu ⟨Hs, t, w, e, ho, hev, q⟩
  have lists : ∀ {ds : List D}, (∃ a vs, x = .ref a ∧ SqL X.K H a vs ∧ Rps X.K T Hs ds vs) → w = newL (cutD ds lo hi) → ∃ T id, typeLookup (.type T) "__getitem__" = pure (some (.builtin id)) ∧ s.TypeIs v T ∧ wpAny (model X.prog X.w) X.A (getItem v (.ref sl)) (EP X pins σ Q) X.xe s := fun {ds} h hw => by
    obtain ⟨a, vs, rfl, h1, h2⟩ := h
    subst hw
    exact sl_list pins s σ H _ v vl vu lo hi sl Q I rx hs pl pu ⟨a, vs, rfl, h1, fun p hp => q _ _ _ _ (New.newL e hp (cut_rps lo hi h2))⟩
  unfold slcEv at hev
  split at hev
  · cases Option.some.inj hev
    obtain ⟨a, vs, rfl, h1, h2⟩ := opd_tup ho
    refine sl_tupA pins s σ H _ v vl vu lo hi sl Q I rx hs pl pu ⟨a, vs, rfl, ex_t e h1, fun hw => ?_, fun _ p hp => q _ _ _ _ (New.tup e hp (cut_rps lo hi h2))⟩
    rw [← h2.length] at hw
    refine q _ _ _ _ (New.val e (.tup h1 ?_))
    rw [cut_whole hw]; exact h2
  · obtain ⟨hz, rfl⟩ := guard_eq hev
    cases opd_str ho
    exact sl_str pins s σ H _ v vl vu lo hi sl Q I rx hs pl pu ⟨_, rfl, by rw [← line]; exact of_decide_eq_true hz, q _ _ _ _ (New.val e (.str _))⟩
  · obtain ⟨a, vs, rfl, h1, h2⟩ := opd_flst ho
    exact lists ⟨a, vs, rfl, ex_l e h1, h2⟩ (Option.some.inj hev).symm
  · obtain ⟨ds, hl, rfl⟩ := Option.map_eq_some_iff.mp hev
    obtain ⟨a, vs, rfl, h1, h2⟩ := opd_litems e ho hl
    exact lists ⟨a, vs, rfl, sq_of h1, h2⟩ rfl

theorem tru_of {K : PySem.W.Frag} {H Hs : Hp} {t : OT} {x : V} {b : Bool} (e : Ex Hs H) (h : Opd K T Hs H t x) (hev : truEv t = some b) : TruV K x H b := by
  have em : ∀ {ds : List D} {vs : List V} {H : Hp}, Rps K T H ds vs → ds.isEmpty = vs.isEmpty := fun r => by cases r <;> rfl
  have em2 : ∀ {ts : List OT} {vs : List V} {f : List Addr}, RpOs K T Hs H ts vs f → ts.isEmpty = vs.isEmpty := fun r => by cases r <;> rfl
  unfold truEv at hev
  split at hev
  · cases Option.some.inj hev; cases opd_non h; rfl
  · cases Option.some.inj hev; cases opd_bl h; rfl
  · cases Option.some.inj hev; cases opd_int h; rfl
  · obtain ⟨hz, rfl⟩ := guard_eq hev; cases opd_str h
    exact ⟨by rw [← line]; exact of_decide_eq_true hz, rfl⟩
  · cases Option.some.inj hev
    obtain ⟨a, vs, rfl, h1, h2⟩ := opd_tup h
    exact .inr (.inl ⟨vs, ex_t e h1, by rw [em h2]⟩)
  · cases Option.some.inj hev
    obtain ⟨a, vs, rfl, h1, h2⟩ := opd_litems e h rfl
    exact .inl ⟨vs, sq_of h1, by rw [em h2]⟩
  · cases Option.some.inj hev
    obtain ⟨f, h⟩ := h
    cases h with
    | lst h1 h2 => exact .inl ⟨_, sq_of h1, by rw [em2 h2]⟩
  · cases hev

def tyB : List String := ["int", "bool", "str", "tuple", "list"]
theorem kit_all : (tys5.all fun a => tyB.all fun b => decide (kitB a b = some (isTy a b))) = true := by decide +kernel
theorem kit_one {K : PySem.W.Frag} {a b : String} (ha : a ∈ tys5) (hb : b ∈ tyB) : PySem.W.kitOne K (.type a) (.type b) = some (isTy a b) := by
  have h := kit_all
  rw [List.all_eq_true] at h
  have h := h a ha
  rw [List.all_eq_true] at h
  exact kit_ty (of_decide_eq_true (h b hb))
theorem ty_of {K : PySem.W.Frag} {H : Hp} {d : D} {v : V} {a : String} (r : Rp K T H d v) (h : d.tyName = some a) : TyX K H v (.type a) ∧ a ∈ tys5 := by
  cases r with
  | non => cases Option.some.inj h; exact ⟨.base .non, by simp [tys5]⟩
  | bl b => cases Option.some.inj h; exact ⟨.base (.bl b), by simp [tys5]⟩
  | int b => cases Option.some.inj h; exact ⟨.base (.int b), by simp [tys5]⟩
  | str b => cases Option.some.inj h; exact ⟨.base (.str b), by simp [tys5]⟩
  | tup hq hr =>
    cases Option.some.inj h
    refine ⟨?_, by simp [tys5]⟩
    rcases hq with (hq | ⟨o, hq⟩) | ⟨o, its, n, h1, h2, h3⟩
    · exact .base (.tup hq)
    · exact .fTuple hq
    · exact .kTuple h1 h2
  | lst hq hr => cases Option.some.inj h; exact ⟨.base (.lst hq), by simp [tys5]⟩
  | _ => cases h
theorem kit_any {K : PySem.W.Frag} {a : String} (ha : a ∈ tys5) : ∀ tys : List String, (∀ b ∈ tys, b ∈ tyB) → PySem.W.kitAny K (.type a) (tys.map Value.type) = some (tys.any fun b => isTy a b)
  | [], _ => rfl
  | b :: tys, hb => by
    have h1 := kit_one (K := K) ha (hb b (by simp))
    have h2 := kit_any (K := K) ha tys fun c hc => hb c (by simp [hc])
    cases h : isTy a b with
    | true => exact kitAny_cons (by rw [h1, h]) (fun z => by cases z) (fun _ => by simp [h])
    | false => exact kitAny_cons (by rw [h1, h]) (fun _ => by rw [h2]; simp [h]) (fun z => by cases z)
end
end CH
end
section
namespace CH
open PySem L2 Evl PyProof.Rows

def wE (X : Cx) (e : Expr) : TE := fun σ H Q => ∀ (pins : List (Addr × Obj)) (s : Shared), Inv X pins σ H s → wpAny (model X.prog X.w) X.A (eval e X.env) (EP X pins σ Q) X.xe s
def wT (X : Cx) (e : Expr) : TT := fun σ H Q => ∀ (pins : List (Addr × Obj)) (s : Shared), Inv X pins σ H s → wpAny (model X.prog X.w) X.A (isTrue e X.env (eval e X.env)) (TP X pins σ Q) X.xe s
def wS (X : Cx) (st : Stmt) : TS := fun D σ H => ∀ (pins : List (Addr × Obj)) (s : Shared), Inv X pins σ H s → wpAny (model X.prog X.w) X.A (exec st X.env) (SP X pins D) X.xe s
def wSs (X : Cx) (sts : List Stmt) : TS := fun D σ H => ∀ (pins : List (Addr × Obj)) (s : Shared), Inv X pins σ H s → wpAny (model X.prog X.w) X.A (execs sts X.env) (SP X pins D) X.xe s
theorem peW (X : Cx) (e : Expr) : PE X e (wE X e) := ⟨fun pins s σ H Q I h => h pins s I⟩
theorem ptW (X : Cx) (e : Expr) : PT X e (wT X e) := ⟨fun pins s σ H Q I h => h pins s I⟩
theorem psW (X : Cx) (e : Stmt) : PS X e (wS X e) := ⟨fun pins s σ H D I h => h pins s I⟩
theorem pssW (X : Cx) (e : List Stmt) : PSs X e (wSs X e) := ⟨fun pins s σ H D I h => h pins s I⟩
theorem wE_of {X : Cx} {e : Expr} {t : TE} (p : PE X e t) {σ : L2.St} {H : Hp} {Q : VK} (h : t σ H Q) : wE X e σ H Q := fun pins s I => p.run pins s σ H Q I h
theorem wT_of {X : Cx} {e : Expr} {t : TT} (p : PT X e t) {σ : L2.St} {H : Hp} {Q : Bool → Hp → Prop} (h : t σ H Q) : wT X e σ H Q := fun pins s I => p.run pins s σ H Q I h
theorem wS_of {X : Cx} {e : Stmt} {t : TS} (p : PS X e t) {D : Ends} {σ : L2.St} {H : Hp} (h : t D σ H) : wS X e D σ H := fun pins s I => p.run pins s σ H D I h
theorem wSs_of {X : Cx} {e : List Stmt} {t : TS} (p : PSs X e t) {D : Ends} {σ : L2.St} {H : Hp} (h : t D σ H) : wSs X e D σ H := fun pins s I => p.run pins s σ H D I h
/-- a row of expressions, from the left -/
def wEs (X : Cx) : List Expr → TA
  | [] => tNil
  | e :: es => tCons (wE X e) (wEs X es)
def isStar : Expr → Bool
  | .Starred .. => true
  | _ => false
theorem star_cons {e : Expr} {es : List Expr} {env : PySem.Env} (h : isStar e = false) : starEach (e :: es) env = (false, eval e env) :: starEach es env := by
  cases e <;> first | rfl | cases h
theorem star_any {es : List Expr} {env : PySem.Env} {pos : Pos} (h : es.all (fun e => !isStar e) = true) : (backTo pos (starEach es env)).any (·.1) = false := by
  induction es with
  | nil => rfl
  | cons e es ih =>
    simp only [List.all_cons, Bool.and_eq_true, Bool.not_eq_true'] at h
    rw [star_cons h.1]
    show (false || (backTo pos (starEach es env)).any (·.1)) = false
    rw [ih h.2]; rfl
theorem paW (X : Cx) : ∀ (es : List Expr), es.all (fun e => !isStar e) = true → PA X es (wEs X es)
  | [], _ => pa_nil
  | e :: es, h => by
    simp only [List.all_cons, Bool.and_eq_true, Bool.not_eq_true'] at h
    exact pa_cons (peW X e) (paW X es h.2) (star_cons h.1)

def lkOf : Sl → Option OT
  | .lk t => some t
  | _ => none
def lks (ρ : Env) : List (Option OT) := ρ.map lkOf
theorem lks_get {ρ : Env} {i : Nat} : (lks ρ)[i]? = (ρ[i]?).map lkOf := by unfold lks; rw [List.getElem?_map]
theorem lks_set {ρ : Env} {i : Nat} {x y : Sl} (h : ρ[i]? = some x) (e : lkOf x = lkOf y) : lks (ρ.set i y) = lks ρ := by
  unfold lks
  rw [List.map_set, ← e]
  apply List.ext_getElem?
  intro j
  by_cases hj : i = j
  · subst hj
    obtain ⟨hi, hx⟩ := List.getElem?_eq_some_iff.mp h
    rw [List.getElem?_set_self (by simpa using hi), List.getElem?_map, h]; rfl
  · rw [List.getElem?_set_ne hj]
theorem own_get {ρ : Env} {i : Nat} {t : OT} (h : Env.own ρ i = some t) : ρ[i]? = some (.ow t) := by
  unfold Env.own at h
  split at h
  · rename_i e; cases Option.some.inj h; exact e
  · cases h
theorem own_lt {ρ : Env} {i : Nat} {t : OT} (h : Env.own ρ i = some t) : i < ρ.length := (List.getElem?_eq_some_iff.mp (own_get h)).1
section
variable {K : PySem.W.Frag} {T : Tab} {H Hs H' Hs' : Hp} {L L' : List Addr}
theorem RpS.relock : ∀ {ρ ρ2 : Env} {σ σ2 : L2.St} {fp fp2 : List Addr}, RpS K T Hs H L ρ σ fp → RpS K T Hs' H' L' ρ2 σ2 fp2 → lks ρ = lks ρ2 → (∀ (i : Nat) (t : OT), ρ[i]? = some (Sl.lk t) → σ[i]? = σ2[i]?) → Ex Hs Hs' →
    (∀ a ∈ L, ∀ o, H a = some o → H' a = some o) → RpS K T Hs' H' L ρ2 σ2 fp2
  | _, _, _, _, _, _, r, .nil, _, _, _, _ => .nil
  | _, _, _, _, _, _, .nil, .no r2, e, _, _, _ => by simp [lks] at e
  | _, _, _, _, _, _, .no r, .no r2, e, v, x, k => .no (RpS.relock r r2 (by simpa [lks] using e) (fun i t h => v (i + 1) t (by simpa using h)) x k)
  | _, _, _, _, _, _, .ow _ r, .no r2, e, v, x, k => .no (RpS.relock r r2 (by simpa [lks, lkOf] using e) (fun i t h => v (i + 1) t (by simpa using h)) x k)
  | _, _, _, _, _, _, .lk _ _ r, .no r2, e, v, x, k => by simp [lks, lkOf] at e
  | _, _, _, _, _, _, .nil, .ow h r2, e, _, _, _ => by simp [lks] at e
  | _, _, _, _, _, _, .no r, .ow h r2, e, v, x, k => .ow h (RpS.relock r r2 (by simpa [lks, lkOf] using e) (fun i t h => v (i + 1) t (by simpa using h)) x k)
  | _, _, _, _, _, _, .ow _ r, .ow h r2, e, v, x, k => .ow h (RpS.relock r r2 (by simpa [lks, lkOf] using e) (fun i t h => v (i + 1) t (by simpa using h)) x k)
  | _, _, _, _, _, _, .lk _ _ r, .ow h r2, e, v, x, k => by simp [lks, lkOf] at e
  | _, _, _, _, _, _, .nil, .lk h l r2, e, _, _, _ => by simp [lks] at e
  | _, _, _, _, _, _, .no r, .lk h l r2, e, v, x, k => by simp [lks, lkOf] at e
  | _, _, _, _, _, _, .ow _ r, .lk h l r2, e, v, x, k => by simp [lks, lkOf] at e
  | _, _, _, _, _, _, .lk (t := t) (ρ := ra) h1 l1 r, .lk (t := t2) (ρ := rb) h l r2, e, v, x, k => by
    have e0 : t = t2 ∧ lks ra = lks rb := by simpa [lks, lkOf] using e
    obtain ⟨e1, e2⟩ := e0
    subst e1
    have ev := v 0 t (by simp)
    simp at ev
    subst ev
    exact .lk (h1.step x fun a ha => k a (l1 a ha)) l1 (RpS.relock r r2 e2 (fun i t h => v (i + 1) t (by simpa using h)) x k)

/-- what an evaluation leaves: from Hs, H, fp the value t at v, the rest of the state beside -/
structure Post (K : PySem.W.Frag) (T : Tab) (L : List Addr) (σ : L2.St) (Hs H : Hp) (fp : List Addr) (ρ : Env) (t : OT) (ρ' : Env) (v : V) (H' Hs' : Hp) (fp' ft : List Addr) : Prop where
  st : StOk K T L Hs' H' ρ' σ fp'
  rp : RpO K T Hs' H' t v ft
  nd : (ft ++ fp').Nodup
  nf : ∀ a ∈ ft, Hs' a = none
  lf : ∀ a ∈ L, a ∉ ft
  sp : Stp fp H Hs (ft ++ fp') H' Hs'
  lk : lks ρ' = lks ρ
/-- .. and where no value is left -/
structure Pst (K : PySem.W.Frag) (T : Tab) (L : List Addr) (σ : L2.St) (Hs H : Hp) (fp : List Addr) (ρ ρ' : Env) (H' Hs' : Hp) (fp' : List Addr) : Prop where
  st : StOk K T L Hs' H' ρ' σ fp'
  sp : Stp fp H Hs fp' H' Hs'
  lk : lks ρ' = lks ρ
variable {σ : L2.St} {fp fp1 fp' ft : List Addr} {ρ ρ1 ρ' : Env} {t w : OT} {v z : V} {H1 Hs1 : Hp}
theorem Post.pst (p : Post K T L σ Hs H fp ρ t ρ' v H' Hs' fp' ft) : Pst K T L σ Hs H fp ρ ρ' H' Hs' fp' := ⟨p.st, p.sp.sub fun a ha => by simp [ha], p.lk⟩
theorem Pst.refl (h : StOk K T L Hs H ρ σ fp) : Pst K T L σ Hs H fp ρ ρ H Hs fp := ⟨h, Stp.refl _ _ _, rfl⟩
theorem Pst.trans (a : Pst K T L σ Hs H fp ρ ρ1 H1 Hs1 fp1) (b : Pst K T L σ Hs1 H1 fp1 ρ1 ρ' H' Hs' fp') : Pst K T L σ Hs H fp ρ ρ' H' Hs' fp' := ⟨b.st, a.sp.trans b.sp, b.lk.trans a.lk⟩
theorem Pst.post (a : Pst K T L σ Hs H fp ρ ρ1 H1 Hs1 fp1) (b : Post K T L σ Hs1 H1 fp1 ρ1 t ρ' v H' Hs' fp' ft) : Post K T L σ Hs H fp ρ t ρ' v H' Hs' fp' ft := ⟨b.st, b.rp, b.nd, b.nf, b.lf, a.sp.trans b.sp, b.lk.trans a.lk⟩
/-- the state goes on where objects are only added -/
theorem StOk.grow (h : StOk K T L Hs H ρ σ fp) (e1 : Ex H H') (e2 : Ex Hs Hs') (le : Ex Hs' H') (dm : ∀ a o, Hs' a = some o → Hs a = some o ∨ H a = none) : StOk K T L Hs' H' ρ σ fp := by
  have no : ∀ a, (∃ o, H a = some o) → Hs a = none → Hs' a = none := fun a ⟨o, q⟩ n => by
    cases z : Hs' a with
    | none => rfl
    | some u =>
      rcases dm a u z with k | k
      · rw [n] at k; cases k
      · rw [q] at k; cases k
  exact ⟨le, h.rs.step e2 (fun _ q => q) fun a _ o q => e1 a o q, h.nd, fun a ha => no a (h.rs.tracked a ha) (h.nf a ha), h.lf, fun a ha => ⟨let ⟨o, q⟩ := (h.lt a ha).1; ⟨o, e1 a o q⟩, no a (h.lt a ha).1 (h.lt a ha).2⟩⟩
theorem New.post (h : StOk K T L Hs H ρ σ fp) (n : New K T Hs H w z H' Hs' ft) : Post K T L σ Hs H fp ρ w ρ z H' Hs' fp ft := by
  have s := h.grow n.eH n.eS n.le n.dm
  have fr : ∀ a ∈ ft, a ∉ fp := fun a ha hf => by
    obtain ⟨o, q⟩ := h.rs.tracked a hf
    rw [(n.fr a ha).1] at q; cases q
  refine ⟨s, n.rp, List.nodup_append.mpr ⟨n.nd, h.nd, fun a ha b hb e => fr a ha (e ▸ hb)⟩, fun a ha => (n.fr a ha).2, fun a ha hf => ?_, ⟨n.eS, fun a o q _ => n.eH a o q, fun a ha => ?_, fun a o q => (n.dm a o q).imp id .inr⟩, rfl⟩
  · obtain ⟨o, q⟩ := (h.lt a ha).1
    rw [(n.fr a hf).1] at q; cases q
  · rcases List.mem_append.mp ha with ha | ha
    · exact .inr (n.fr a ha).1
    · exact .inl ha
theorem Post.val {d : D} (h : StOk K T L Hs H ρ σ fp) (r : Rp K T Hs d z) : Post K T L σ Hs H fp ρ (.sh d) ρ z H Hs fp [] := New.post h (New.val h.ex r)
/-- a value beside a state that goes on -/
theorem Post.hold (p : Post K T L σ Hs H fp ρ t ρ1 v H1 Hs1 fp1 ft) (q : Pst K T L' σ Hs1 H1 fp1 ρ1 ρ' H' Hs' fp') : RpO K T Hs' H' t v ft ∧ (ft ++ fp').Nodup ∧ (∀ a ∈ ft, Hs' a = none) ∧ Stp fp H Hs (ft ++ fp') H' Hs' := by
  have d := List.nodup_append.mp p.nd
  have nin : ∀ a ∈ ft, a ∉ fp1 := fun a ha hf => d.2.2 a ha a hf rfl
  have tr := p.rp.tracked
  refine ⟨p.rp.keep nin q.sp, List.nodup_append.mpr ⟨d.1, q.st.nd, fun a ha b hb e => q.sp.out (tr a ha) (nin a ha) (e ▸ hb)⟩, fun a ha => q.sp.outHs (tr a ha) (nin a ha) (p.nf a ha), ?_⟩
  exact p.sp.trans (q.sp.wider (fun a ha => by simp [ha]) ft fun a ha => by simp [ha])
/-- the value beside the state is frozen -/
theorem Post.freeze (p : Post K T L σ Hs H fp ρ t ρ' v H' Hs' fp' ft) : Pst K T L σ Hs H fp ρ ρ' H' (frz Hs' H' ft) fp' ∧ Rp K T (frz Hs' H' ft) t.toD v := by
  have d := List.nodup_append.mp p.nd
  have nin : ∀ a ∈ fp', a ∉ ft := fun a ha hf => d.2.2 a hf a ha rfl
  refine ⟨⟨⟨frz_le p.st.ex, p.st.rs.step (frz_ex p.nf) (fun _ q => q) fun _ _ _ q => q, p.st.nd, fun a ha => by rw [frz_out (nin a ha)]; exact p.st.nf a ha, p.st.lf, fun a ha => ⟨(p.st.lt a ha).1, by rw [frz_out (p.lf a ha)]; exact (p.st.lt a ha).2⟩⟩, ⟨p.sp.ex.trans (frz_ex p.nf), p.sp.fr, fun a ha => p.sp.nw a (by simp [ha]), fun a o q => ?_⟩, p.lk⟩, p.rp.frz p.nf fun a ha => ha⟩
  by_cases h : a ∈ ft
  · exact .inr (p.sp.nw a (by simp [h]))
  · rw [frz_out h] at q; exact p.sp.dm a o q
/-- a name's tree is locked -/
theorem StOk.locked {i : Nat} (h : StOk K T L Hs H ρ σ fp) (e : ρ[i]? = some (.ow t)) : ∃ v f fr, σ[i]? = some (some v) ∧ RpO K T Hs H t v f ∧ fp.Perm (f ++ fr) ∧ StOk K T (f ++ L) Hs H (ρ.set i (.lk t)) σ fr := by
  obtain ⟨v, f, fr, h1, h2, h3, h4⟩ := h.rs.takeOut e
  have hi := (List.getElem?_eq_some_iff.mp e).1
  have nd := h3.nodup_iff.mp h.nd
  have d := List.nodup_append.mp nd
  have r := RpS.putLk (h4.step (L' := f ++ L) (Ex.refl _) (fun a ha => by simp [ha]) fun a _ o q => q) (i := i) (by simpa using hi) (by rw [List.getElem?_set_self hi]) h2 fun a ha => by simp [ha]
  rw [List.set_set] at r
  have hσ : σ.set i (some v) = σ := by
    obtain ⟨hi2, e2⟩ := List.getElem?_eq_some_iff.mp h1
    rw [← e2, List.set_getElem_self]
  rw [hσ] at r
  refine ⟨v, f, fr, h1, h2, h3, h.ex, r, d.2.1, fun a ha => h.nf a (h3.mem_iff.mpr (by simp [ha])), fun a ha hf => ?_, fun a ha => ?_⟩
  · rcases List.mem_append.mp ha with ha | ha
    · exact d.2.2 a ha a hf rfl
    · exact h.lf a ha (h3.mem_iff.mpr (by simp [hf]))
  · rcases List.mem_append.mp ha with ha | ha
    · exact ⟨h2.tracked a ha, h.nf a (h3.mem_iff.mpr (by simp [ha]))⟩
    · exact h.lt a ha
/-- .. and unlocked, behind what went on meanwhile -/
theorem Pst.unlocked {i : Nat} {f fr F : List Addr} {σ2 : L2.St} (h : StOk K T L Hs H ρ σ fp) (e : ρ[i]? = some (.ow t)) (h1 : σ[i]? = some (some v)) (h2 : RpO K T Hs H t v f) (h3 : fp.Perm (f ++ fr))
    (hl : StOk K T (f ++ L) Hs H (ρ.set i (.lk t)) σ fr) (st : StOk K T (f ++ L) Hs' H' ρ' σ2 fp') (sp : Stp (F ++ fr) H Hs fp' H' Hs') (hF : ∀ x ∈ F, x ∉ f ++ L) (lk : lks ρ' = lks (ρ.set i (.lk t)))
    (hσ2 : ∀ (j : Nat) (u : OT), ρ[j]? = some (Sl.lk u) → σ2[j]? = σ[j]?) (hσ3 : σ2[i]? = σ[i]?) :
    ∃ fp2, StOk K T L Hs' H' (ρ'.set i (.ow t)) σ2 fp2 ∧ Stp (F ++ fp) H Hs fp2 H' Hs' ∧ lks (ρ'.set i (.ow t)) = lks ρ ∧ ∀ a ∈ fp2, a ∈ f ∨ a ∈ fp' := by
  have hi := (List.getElem?_eq_some_iff.mp e).1
  have hlen : ρ'.length = ρ.length := by have := congrArg List.length lk; simpa [lks] using this
  have nd := List.nodup_append.mp (h3.nodup_iff.mp h.nd)
  have nin : ∀ a ∈ f, a ∉ F ++ fr := fun a ha hf => by
    rcases List.mem_append.mp hf with hf | hf
    · exact hF a hf (by simp [ha])
    · exact nd.2.2 a ha a hf rfl
  have ninL : ∀ a ∈ L, a ∉ F ++ fr := fun a ha hf => by
    rcases List.mem_append.mp hf with hf | hf
    · exact hF a hf (by simp [ha])
    · exact hl.lf a (by simp [ha]) hf
  have tr := h2.tracked
  obtain ⟨g, r1, sub⟩ := st.rs.forget' i
  -- the other locks as they were
  have lk0 : lks (ρ'.set i .no) = lks ρ := by
    unfold lks at lk ⊢
    rw [List.map_set, lk, List.map_set, List.set_set]
    apply List.ext_getElem?
    intro j
    by_cases hj : i = j
    · subst hj
      rw [List.getElem?_set_self (by simpa using hi), List.getElem?_map, e]; rfl
    · rw [List.getElem?_set_ne hj]
  have r2 : RpS K T Hs' H' L (ρ'.set i .no) σ2 g := RpS.relock h.rs r1 lk0.symm (fun j u q => (hσ2 j u q).symm) sp.ex fun a ha o q => sp.fr a o q (ninL a ha)
  have h2' : RpO K T Hs' H' t v f := h2.keep nin sp
  obtain ⟨fp2, r3, pm⟩ := r2.put (i := i) (by simpa [hlen] using hi) (by rw [List.getElem?_set_self (by rw [hlen]; exact hi)]) h2'
  rw [List.set_set] at r3
  have e2 : σ2.set i (some v) = σ2 := by
    obtain ⟨hi2, e2⟩ := List.getElem?_eq_some_iff.mp (hσ3.trans h1)
    rw [← e2, List.set_getElem_self]
  rw [e2] at r3
  have gsub : ∀ a ∈ g, a ∈ fp' := fun a ha => sub.subset ha
  have fng : ∀ a ∈ f, a ∉ g := fun a ha hg => sp.out (tr a ha) (nin a ha) (gsub a hg)
  refine ⟨fp2, ⟨st.ex, r3, pm.nodup_iff.mpr (List.nodup_append.mpr ⟨nd.1, st.nd.sublist sub, fun a ha b hb q => fng a ha (q ▸ hb)⟩), fun a ha => ?_, fun a ha hf => ?_, fun a ha => st.lt a (by simp [ha])⟩, ?_, ?_, fun a ha => (List.mem_append.mp (pm.mem_iff.mp ha)).imp id (gsub a)⟩
  · rcases List.mem_append.mp (pm.mem_iff.mp ha) with ha | ha
    · exact sp.outHs (tr a ha) (nin a ha) (h.nf a (h3.mem_iff.mpr (by simp [ha])))
    · exact st.nf a (gsub a ha)
  · rcases List.mem_append.mp (pm.mem_iff.mp hf) with hf | hf
    · exact h.lf a ha (h3.mem_iff.mpr (by simp [hf]))
    · exact st.lf a (by simp [ha]) (gsub a hf)
  · have up : ∀ a, a ∈ F ++ fr → a ∈ F ++ fp := fun a ha => (List.mem_append.mp ha).elim (fun z => by simp [z]) fun z => List.mem_append.mpr (.inr (h3.mem_iff.mpr (by simp [z])))
    refine ⟨sp.ex, fun a o q n => sp.fr a o q fun z => n (up a z), fun a ha => ?_, fun a o q => (sp.dm a o q).imp id fun z => z.imp (up a) id⟩
    rcases List.mem_append.mp (pm.mem_iff.mp ha) with ha | ha
    · exact .inl (List.mem_append.mpr (.inr (h3.mem_iff.mpr (by simp [ha]))))
    · exact (sp.nw a (gsub a ha)).imp (up a) id
  · rw [← lk0, show ρ'.set i (.ow t) = (ρ'.set i .no).set i (.ow t) by rw [List.set_set]]
    exact lks_set (x := .no) (by rw [List.getElem?_set_self (by rw [hlen]; exact hi)]) rfl
end
end CH
end
section
namespace CH
open PySem L2 Evl PyProof.Rows

def Cont {α : Type} (r : R α) (Ok : α → Prop) (Ex : Exn → Env → Prop) : Prop := match r with
  | .ok a => Ok a
  | .ex e ρ => Ex e ρ
  | .no => False
theorem cont_bind {α β : Type} {r : R α} {f : α → R β} {Ok : β → Prop} {Ex : Exn → Env → Prop} : Cont (r.bind f) Ok Ex = Cont r (fun a => Cont (f a) Ok Ex) Ex := by cases r <;> rfl
theorem Cont.imp {α : Type} {r : R α} {Ok Ok' : α → Prop} {Ex Ex' : Exn → Env → Prop} (h : Cont r Ok Ex) (h1 : ∀ a, Ok a → Ok' a) (h2 : ∀ e ρ, Ex e ρ → Ex' e ρ) : Cont r Ok' Ex' := by
  cases r with
  | ok a => exact h1 a h
  | ex e ρ => exact h2 e ρ h
  | no => exact h
/-- an exception's own dict -/
def ExRp (K : PySem.W.Frag) (T : Tab) (Hs H : Hp) (e : Exn) (C d : Addr) : Prop := T.exA e.cls = some C ∧ ∃ fs : List (Str × V), H d = some (.xd fs) ∧ fs.map (·.1) = T.exF e.cls ∧ Rps K T Hs e.args (fs.map (·.2))
structure Xst (K : PySem.W.Frag) (T : Tab) (L : List Addr) (σ : L2.St) (Hs H : Hp) (fp : List Addr) (ρ ρ' : Env) (e : Exn) (H' Hs' : Hp) (fp' : List Addr) (C d : Addr) : Prop where
  pst : Pst K T L σ Hs H fp ρ ρ' H' Hs' fp'
  ex : ExRp K T Hs' H' e C d
/-- what is wanted where an exception leaves -/
def XOk (K : PySem.W.Frag) (T : Tab) (L : List Addr) (σ : L2.St) (Hs H : Hp) (fp : List Addr) (ρ : Env) (W : WX) (e : Exn) (ρ' : Env) : Prop := ∀ H' Hs' fp' C d, Xst K T L σ Hs H fp ρ ρ' e H' Hs' fp' C d → W (.ref C) (some d) σ H'
section
variable {K : PySem.W.Frag} {T : Tab} {L : List Addr} {σ : L2.St} {Hs H Hs1 H1 : Hp} {fp fp1 : List Addr} {ρ ρ1 ρ' : Env} {W : WX} {e : Exn}
theorem XOk.later (x : XOk K T L σ Hs H fp ρ W e ρ') (p : Pst K T L σ Hs H fp ρ ρ1 H1 Hs1 fp1) : XOk K T L σ Hs1 H1 fp1 ρ1 W e ρ' := fun H' Hs' fp' C d q => x H' Hs' fp' C d ⟨p.trans q.pst, q.ex⟩
end

/-- an expression, a row of them, a row of operands, a test -/
def SE (X : Cx) (T : Tab) (W : WX) (e : Expr) (ρ : Env) (r : R (OT × Env)) : Prop := ∀ (L : List Addr) (σ : L2.St) (H Hs : Hp) (fp : List Addr) (Q : VK), StOk X.K T L Hs H ρ σ fp →
  Cont r (fun p => ∀ v H' Hs' fp' ft, Post X.K T L σ Hs H fp ρ p.1 p.2 v H' Hs' fp' ft → Q v H') (XOk X.K T L σ Hs H fp ρ W) → wE X e σ H Q
/-- values held beside the state -/
structure Posts (K : PySem.W.Frag) (T : Tab) (L : List Addr) (σ : L2.St) (Hs H : Hp) (fp : List Addr) (ρ : Env) (ts : List OT) (ρ' : Env) (vs : List V) (H' Hs' : Hp) (fp' ft : List Addr) : Prop where
  st : StOk K T L Hs' H' ρ' σ fp'
  rp : RpOs K T Hs' H' ts vs ft
  nd : (ft ++ fp').Nodup
  nf : ∀ a ∈ ft, Hs' a = none
  lf : ∀ a ∈ L, a ∉ ft
  sp : Stp fp H Hs (ft ++ fp') H' Hs'
  lk : lks ρ' = lks ρ
theorem Posts.pst {K : PySem.W.Frag} {T : Tab} {L : List Addr} {σ : L2.St} {Hs H H' Hs' : Hp} {fp fp' ft : List Addr} {ρ ρ' : Env} {ts : List OT} {vs : List V} (p : Posts K T L σ Hs H fp ρ ts ρ' vs H' Hs' fp' ft) : Pst K T L σ Hs H fp ρ ρ' H' Hs' fp' :=
  ⟨p.st, p.sp.sub fun a ha => by simp [ha], p.lk⟩
def SEs (X : Cx) (T : Tab) (W : WX) (es : List Expr) (ρ : Env) (r : R (List OT × Env)) : Prop := ∀ (L : List Addr) (σ : L2.St) (H Hs : Hp) (fp : List Addr) (Q : List V → Hp → Prop), StOk X.K T L Hs H ρ σ fp →
  Cont r (fun p => ∀ vs H' Hs' fp' ft, Posts X.K T L σ Hs H fp ρ p.1 p.2 vs H' Hs' fp' ft → Q vs H') (XOk X.K T L σ Hs H fp ρ W) → wEs X es σ H Q
def SOs (X : Cx) (T : Tab) (W : WX) (es : List Expr) (ρ : Env) (r : R (List OT × Env)) : Prop := ∀ (L : List Addr) (σ : L2.St) (H Hs : Hp) (fp : List Addr) (Q : List V → Hp → Prop), StOk X.K T L Hs H ρ σ fp →
  Cont r (fun p => ∀ vs H' Hs' fp', Pst X.K T L σ Hs H fp ρ p.2 H' Hs' fp' → Opds X.K T Hs' H' p.1 vs → Q vs H') (XOk X.K T L σ Hs H fp ρ W) → wEs X es σ H Q
def ST (X : Cx) (T : Tab) (W : WX) (e : Expr) (ρ : Env) (r : R (Bool × Env)) : Prop := ∀ (L : List Addr) (σ : L2.St) (H Hs : Hp) (fp : List Addr) (Q : Bool → Hp → Prop), StOk X.K T L Hs H ρ σ fp →
  Cont r (fun p => ∀ H' Hs' fp', Pst X.K T L σ Hs H fp ρ p.2 H' Hs' fp' → Q p.1 H') (XOk X.K T L σ Hs H fp ρ W) → wT X e σ H Q

section
variable {X : Cx} {T : Tab} {W : WX} {e : Expr} {es : List Expr} {ρ : Env}
theorem ses_nil : SEs X T W [] ρ (.ok ([], ρ)) := fun L σ H Hs fp Q h k => k [] H Hs fp [] ⟨h, .nil, h.nd, fun a ha => absurd ha (by simp), fun a _ ha => absurd ha (by simp), Stp.refl _ _ _, rfl⟩
theorem ses_cons {re : R (OT × Env)} {rs : Env → R (List OT × Env)} (he : SE X T W e ρ re) (hs : ∀ ρ1, SEs X T W es ρ1 (rs ρ1)) :
    SEs X T W (e :: es) ρ (re.bind fun p => (rs p.2).bind fun q => .ok (p.1 :: q.1, q.2)) := by
  intro L σ H Hs fp Q h k
  rw [cont_bind] at k
  refine he L σ H Hs fp _ h (k.imp (fun p k v H1 Hs1 fp1 ft p1 => ?_) fun _ _ x => x)
  rw [cont_bind] at k
  refine hs p.2 L σ H1 Hs1 fp1 _ p1.st (k.imp (fun q k vs H2 Hs2 fp2 fts p2 => ?_) fun ex ρ' x => x.later p1.pst)
  obtain ⟨r1, r2, r3, r4⟩ := p1.hold p2.pst
  have d2 := List.nodup_append.mp p2.nd
  have d1 := List.nodup_append.mp p1.nd
  have tr := p1.rp.tracked
  have nin : ∀ a ∈ ft, a ∉ fp1 := fun a ha hf => d1.2.2 a ha a hf rfl
  have ap : ∀ a ∈ ft, a ∉ fts ++ fp2 := fun a ha => p2.sp.out (tr a ha) (nin a ha)
  refine k (v :: vs) H2 Hs2 fp2 (ft ++ fts) ⟨p2.st, .cons r1 p2.rp, ?_, fun a ha => ?_, fun a ha hf => ?_, ?_, p2.lk.trans p1.lk⟩
  · rw [List.append_assoc]
    exact List.nodup_append.mpr ⟨d1.1, p2.nd, fun a ha b hb q => ap a ha (q ▸ hb)⟩
  · rcases List.mem_append.mp ha with ha | ha
    · exact r3 a ha
    · exact p2.nf a ha
  · rcases List.mem_append.mp hf with hf | hf
    · exact p1.lf a ha hf
    · exact p2.lf a ha hf
  · rw [List.append_assoc]
    exact p1.sp.trans (p2.sp.wider (fun a ha => by simp [ha]) ft fun a ha => by simp [ha])
/-- something reckoned behind a state: a in the language, b in the heap -/
def SG (X : Cx) (T : Tab) (W : WX) {α β : Type} (G : L2.St → Hp → (β → Hp → Prop) → Prop) (Rel : α → β → Hp → Hp → Prop) (ρ : Env) (r : R (α × Env)) : Prop := ∀ (L : List Addr) (σ : L2.St) (H Hs : Hp) (fp : List Addr) (Q : β → Hp → Prop), StOk X.K T L Hs H ρ σ fp →
  Cont r (fun p => ∀ b H' Hs' fp', Pst X.K T L σ Hs H fp ρ p.2 H' Hs' fp' → Rel p.1 b Hs' H' → Q b H') (XOk X.K T L σ Hs H fp ρ W) → G σ H Q
theorem sos_nil : SOs X T W [] ρ (.ok ([], ρ)) := fun L σ H Hs fp Q h k => k [] H Hs fp (Pst.refl h) .nil
/-- an operand that is a value, then the rest -/
theorem sg_e {α β : Type} {G : L2.St → Hp → (β → Hp → Prop) → Prop} {Rel : α → β → Hp → Hp → Prop} {re : R (OT × Env)} {rs : Env → R (α × Env)} (he : SE X T W e ρ re) (hs : ∀ ρ1, SG X T W G Rel ρ1 (rs ρ1)) :
    SG X T W (fun σ H (Q : V × β → Hp → Prop) => wE X e σ H fun x H1 => G σ H1 fun b H2 => Q (x, b) H2) (fun a b Hs H => Opd X.K T Hs H a.1 b.1 ∧ Rel a.2 b.2 Hs H) ρ (re.bind fun p => (rs p.2).bind fun q => .ok ((p.1, q.1), q.2)) := by
  intro L σ H Hs fp Q h k
  rw [cont_bind] at k
  refine he L σ H Hs fp _ h (k.imp (fun p k v H1 Hs1 fp1 ft p1 => ?_) fun _ _ x => x)
  rw [cont_bind] at k
  refine hs p.2 L σ H1 Hs1 fp1 _ p1.st (k.imp (fun q k b H2 Hs2 fp2 p2 o2 => ?_) fun ex ρ' x => x.later p1.pst)
  exact k (v, b) H2 Hs2 fp2 (p1.pst.trans p2) ⟨⟨ft, (p1.hold p2).1⟩, o2⟩

theorem fldIx_get : ∀ {ks : List Str} {f : Str} {j : Nat}, fldIx ks f = some j → ks[j]? = some f
  | [], f, j, h => by simp [fldIx] at h
  | k :: ks, f, j, h => by
    unfold fldIx at h
    split at h
    · rename_i e; cases Option.some.inj h; simp [e]
    · obtain ⟨i, h1, rfl⟩ := Option.map_eq_some_iff.mp h
      simpa using fldIx_get h1
theorem fldIx_lookup : ∀ {fs : List (Str × V)} {f : Str} {j : Nat} {v : V}, fldIx (fs.map (·.1)) f = some j → (fs.map (·.2))[j]? = some v → fs.lookup f = some v
  | [], f, j, v, h, _ => by simp [fldIx] at h
  | (k, x) :: fs, f, j, v, h, e => by
    simp only [List.map_cons, fldIx] at h
    split at h
    · rename_i q
      cases Option.some.inj h
      simp at e
      subst q e
      simp [List.lookup]
    · rename_i q
      obtain ⟨i, h1, rfl⟩ := Option.map_eq_some_iff.mp h
      have n : (f == k) = false := by simpa using fun z => q z.symm
      simp only [List.lookup, n]
      exact fldIx_lookup h1 (by simpa using e)
theorem RpOs.get {K : PySem.W.Frag} {Hs H : Hp} : ∀ {ts : List OT} {vs : List V} {f : List Addr} {j : Nat} {t : OT}, RpOs K T Hs H ts vs f → ts[j]? = some t → ∃ v g, vs[j]? = some v ∧ RpO K T Hs H t v g ∧ ∀ a ∈ g, a ∈ f
  | _, _, _, j, _, .nil, e => by simp at e
  | _, _, _, 0, _, .cons (f := f1) h r, e => by simp at e; subst e; exact ⟨_, f1, rfl, h, fun a ha => by simp [ha]⟩
  | _, _, _, j + 1, _, .cons h r, e => by
    obtain ⟨v, g, h1, h2, h3⟩ := RpOs.get (j := j) r (by simpa using e)
    exact ⟨v, g, by simpa using h1, h2, fun a ha => by simp [h3 a ha]⟩
/-- a field of an object -/
theorem fld_of {K : PySem.W.Frag} {Hs H : Hp} {t u : OT} {f : Str} {x : V} {g : List Addr} (e : Ex Hs H) (h : RpO K T Hs H t x g) (hf : t.fld f = some u) :
    ∃ a C dx fs v g', x = .ref a ∧ H a = some (.ins C dx fs) ∧ Cls K C ∧ NoAttr K C f ∧ fs.lookup f = some v ∧ RpO K T Hs H u v g' ∧ ∀ b ∈ g', b ∈ g := by
  cases h with
  | sh h =>
    cases h with
    | obj h1 h2 h3 =>
      simp only [OT.fld, Option.map_eq_some_iff] at hf
      obtain ⟨d, hf, rfl⟩ := hf
      obtain ⟨j, h4, h5⟩ := Option.bind_eq_some_iff.mp hf
      obtain ⟨v, h6, h7⟩ := h3.get h5
      exact ⟨_, _, _, _, v, [], rfl, e _ _ h1, h2.2.cl, h2.2.na f (List.mem_of_getElem? (fldIx_get h4)), fldIx_lookup h4 h6, .sh h7, fun b hb => absurd hb (by simp)⟩
    | _ => simp [OT.fld] at hf
  | lst => simp [OT.fld] at hf
  | obj h1 h2 h3 =>
    simp only [OT.fld] at hf
    obtain ⟨j, h4, h5⟩ := Option.bind_eq_some_iff.mp hf
    obtain ⟨v, g', h6, h7, h8⟩ := h3.get h5
    exact ⟨_, _, _, _, v, g', rfl, h1, h2.2.cl, h2.2.na f (List.mem_of_getElem? (fldIx_get h4)), fldIx_lookup h4 h6, h7, fun b hb => by simp [h8 b hb]⟩
/-- which slot a name is, along which attributes -/
def visB (sc : Scope) (x : Str) : Bool := match sc.names.lookup x with
  | some .local => true
  | some .cell => true
  | some .free => true
  | _ => false
def glB (sc : Scope) (x : Str) : Bool := match sc.names.lookup x with
  | some .globalImplicit => true
  | _ => false
def locB (sc : Scope) (x : Str) : Bool := match sc.names.lookup x with
  | some .local => true
  | some .cell => true
  | _ => false
def slotB (N : List Str) (sc : Scope) (i : Nat) : Expr → Bool
  | .Name x _ => decide (N[i]? = some x) && visB sc x && !(x == ("__debug__" : Str)) && !(x == ("__classdict__" : Str))
  | _ => false
def pathB (N : List Str) (sc : Scope) (i : Nat) : List Str → Expr → Bool
  | [], e => slotB N sc i e
  | f :: p, .Attribute o a _ => decide (a = f) && pathB N sc i p o
  | _ :: _, _ => false
theorem vis_of {X : Cx} {x : Str} {sc : Scope} (hs : X.env.scope = sc) (h : visB sc x = true) : Vis X.env.scope x := by
  rw [hs]
  unfold visB at h
  split at h
  · exact .inl (by assumption)
  · exact .inr (.inl (by assumption))
  · exact .inr (.inr (by assumption))
  · cases h
theorem gl_of {X : Cx} {x : Str} {sc : Scope} (hs : X.env.scope = sc) (h : glB sc x = true) : Gl X x := by
  unfold glB at h
  split at h
  · show X.env.scope.names.lookup x = _
    rw [hs]; assumption
  · cases h
theorem loc_of {X : Cx} {x : Str} {sc : Scope} (hs : X.env.scope = sc) (h : locB sc x = true) : Loc X.env.scope x := by
  rw [hs]
  unfold locB at h
  split at h
  · exact .inl (by assumption)
  · exact .inr (by assumption)
  · cases h
theorem slot_of {sc : Scope} {i : Nat} (hs : X.env.scope = sc) (h : slotB X.N sc i e = true) : PE X e (tVar i) := by
  cases e with
  | Name x pos =>
    simp only [slotB, Bool.and_eq_true, decide_eq_true_eq, Bool.not_eq_true'] at h
    obtain ⟨⟨⟨h1, h2⟩, h3⟩, h4⟩ := h
    exact pe_var h1 (vis_of hs h2) h3 h4
  | _ => cases h
/-- an attribute's base that is no call -/
def notCallB : Expr → Bool
  | .Call .. => false
  | _ => true
theorem base_of {o : Expr} {a : Str} {env : PySem.Env} (h : notCallB o = true) : attributeBase o a env (eval o env) = eval o env := by
  cases o <;> first | rfl | cases h
theorem path_notCall {N : List Str} {sc : Scope} {i : Nat} : ∀ {p : List Str} {e : Expr}, pathB N sc i p e = true → notCallB e = true
  | [], e, h => by cases e <;> first | rfl | (simp [pathB, slotB] at h)
  | f :: p, e, h => by cases e <;> first | rfl | (simp [pathB] at h)
/-- a path is read -/
theorem path_read {sc : Scope} {i : Nat} (hs : X.env.scope = sc) {Hs H : Hp} (ex : Ex Hs H) {σ : L2.St} {t : OT} {x : V} {f : List Addr} (hx : σ[i]? = some (some x)) (r : RpO X.K T Hs H t x f) :
    ∀ {p : List Str} {e : Expr} {u : OT}, pathB X.N sc i p e = true → t.getP p = some u → ∃ v g, RpO X.K T Hs H u v g ∧ (∀ a ∈ g, a ∈ f) ∧ (p = [] → v = x) ∧ ∀ Q : VK, Q v H → wE X e σ H Q
  | [], e, u, h, hu => by
    cases Option.some.inj hu
    refine ⟨x, f, r, fun a ha => ha, fun _ => rfl, fun Q q => wE_of (slot_of hs (by simpa [pathB] using h)) ⟨x, hx, q⟩⟩
  | a :: p, e, u, h, hu => by
    cases e with
    | Attribute o b pos =>
      simp only [pathB, Bool.and_eq_true, decide_eq_true_eq] at h
      obtain ⟨rfl, h⟩ := h
      obtain ⟨w, h1, h2⟩ := Option.bind_eq_some_iff.mp (show (t.getP p).bind (fun u => u.fld b) = some u from hu)
      obtain ⟨v, g, r1, r2, _, r3⟩ := path_read hs ex hx r h h1
      obtain ⟨a', C, dx, fs, v', g', rfl, k1, k2, k3, k4, k5, k6⟩ := fld_of ex r1 h2
      exact ⟨v', g', k5, fun b hb => r2 b (k6 b hb), fun z => (List.cons_ne_nil _ _ z).elim, fun Q q => wE_of (pe_fld (peW X o) (base_of (path_notCall h))) (r3 _ ⟨a', C, dx, fs, v', rfl, k1, k2, k3, k4, q⟩)⟩
    | _ => simp [pathB] at h
/-- an operand that is borrowed and locked while the rest is reckoned -/
theorem sg_bor {α β : Type} {G : L2.St → Hp → (β → Hp → Prop) → Prop} {Rel : α → β → Hp → Hp → Prop} {sc : Scope} {i : Nat} {p : List Str} {rs : Env → R (α × Env)} (hs : X.env.scope = sc) (hp : pathB X.N sc i p e = true) {t : OT} (ht : ((Env.tree ρ i).bind fun r => r.getP p) = some t)
    (hr : SG X T W G Rel (lock ρ i) (rs (lock ρ i))) :
    SG X T W (fun σ H (Q : V × β → Hp → Prop) => wE X e σ H fun x H1 => G σ H1 fun b H2 => Q (x, b) H2) (fun a b Hs H => Opd X.K T Hs H a.1 b.1 ∧ Rel a.2 b.2 Hs H) ρ (match rs (lock ρ i) with
      | .ok (a, ρ2) => .ok ((t, a), unlock ρ ρ2 i)
      | .ex e ρ2 => .ex e (unlock ρ ρ2 i)
      | .no => .no) := by
  intro L σ H Hs fp Q h k
  obtain ⟨r, h1, h2⟩ := Option.bind_eq_some_iff.mp ht
  unfold Env.tree at h1
  split at h1
  · -- an own tree
    rename_i r' e0
    cases Option.some.inj h1
    obtain ⟨x, f, fr, l1, l2, l3, l4⟩ := h.locked e0
    obtain ⟨v, g, r1, r2, _, r3⟩ := path_read hs h.ex l1 l2 hp h2
    have eL : lock ρ i = ρ.set i (.lk r) := by unfold lock; rw [e0]
    rw [eL] at hr k
    refine r3 _ (hr (f ++ L) σ H Hs fr _ l4 ?_)
    have un : ∀ {ρ2 : Env} {H' Hs' : Hp} {fp' : List Addr}, Pst X.K T (f ++ L) σ Hs H fr (ρ.set i (.lk r)) ρ2 H' Hs' fp' → ∃ fp2, Pst X.K T L σ Hs H fp ρ (unlock ρ ρ2 i) H' Hs' fp2 := fun {ρ2 H' Hs' fp'} p => by
      obtain ⟨fp2, u1, u2, u3, _⟩ := Pst.unlocked (F := []) h e0 l1 l2 l3 l4 p.st p.sp (fun x hx => absurd hx (by simp)) p.lk (fun _ _ _ => rfl) rfl
      have eU : unlock ρ ρ2 i = ρ2.set i (.ow r) := by unfold unlock; rw [e0]
      exact ⟨fp2, by rw [eU]; exact u1, u2, by rw [eU]; exact u3⟩
    cases hq : rs (ρ.set i (.lk r)) with
    | ok q =>
      rw [hq] at k
      intro b H' Hs' fp' p o
      obtain ⟨fp2, pu⟩ := un p
      exact k (v, b) H' Hs' fp2 pu ⟨⟨g, r1.step p.sp.ex fun a ha o q => p.sp.fr a o q (l4.lf a (by simp [r2 a ha]))⟩, o⟩
    | ex e0' ρ2 =>
      rw [hq] at k
      intro H' Hs' fp' C d p
      obtain ⟨fp2, pu⟩ := un p.pst
      exact k H' Hs' fp2 C d ⟨pu, p.ex⟩
    | no => rw [hq] at k; exact k
  · -- a locked one
    rename_i r' e0
    cases Option.some.inj h1
    have eL : lock ρ i = ρ := by unfold lock; rw [e0]
    rw [eL] at hr k
    obtain ⟨x, f, l1, l2, l3⟩ := h.rs.readLk e0
    obtain ⟨v, g, r1, r2, _, r3⟩ := path_read hs h.ex l1 l2 hp h2
    have lkf : ∀ a ∈ g, a ∉ fp := fun a ha => h.lf a (l3 a (r2 a ha))
    refine r3 _ (hr L σ H Hs fp _ h ?_)
    have eU : ∀ ρ2, unlock ρ ρ2 i = ρ2 := fun ρ2 => by unfold unlock; rw [e0]
    cases hq : rs ρ with
    | ok q =>
      rw [hq] at k
      intro b H' Hs' fp' p o
      simp only [eU] at k
      exact k (v, b) H' Hs' fp' p ⟨⟨g, r1.keep lkf p.sp⟩, o⟩
    | ex e0' ρ2 =>
      rw [hq] at k
      simp only [eU] at k
      exact k
    | no => rw [hq] at k; exact k
  · cases h1
/-- rows of operands -/
theorem sos_cons {r : R ((OT × List OT) × Env)} (h : SG X T W (fun σ H (Q : V × List V → Hp → Prop) => wE X e σ H fun x H1 => wEs X es σ H1 fun b H2 => Q (x, b) H2) (fun a b Hs H => Opd X.K T Hs H a.1 b.1 ∧ Opds X.K T Hs H a.2 b.2) ρ r) :
    SOs X T W (e :: es) ρ (r.bind fun p => .ok (p.1.1 :: p.1.2, p.2)) := by
  intro L σ H Hs fp Q h0 k
  rw [cont_bind] at k
  exact h L σ H Hs fp (fun b H => Q (b.1 :: b.2) H) h0 (k.imp (fun p k b H' Hs' fp' p1 o => k (b.1 :: b.2) H' Hs' fp' p1 (.cons o.1 o.2)) fun _ _ x => x)
end
end CH
end
section
namespace CH
open PySem L2 Evl PyProof.Rows

section
variable {K : PySem.W.Frag} {T : Tab} {Hs H : Hp}
theorem opd_dct {ds : List D} {x : V} (h : Opd K T Hs H (.sh (.dct ds)) x) : ∃ a o vs, x = .ref a ∧ Hs a = some (.frz o (.dK (prK vs))) ∧ goodD ds = true ∧ Rps K T Hs ds vs := by
  obtain ⟨_, h⟩ := h
  cases h with
  | sh h => cases h with | dct h g r => exact ⟨_, _, _, rfl, h, g, r⟩
theorem rps_int {ds : List D} {vs : List V} {i : Int} (r : Rps K T Hs (.int i :: ds) vs) : ∃ ws, vs = .int i :: ws ∧ Rps K T Hs ds ws := by
  cases r with
  | cons h r => cases h; exact ⟨_, rfl, r⟩
theorem prK_keys : ∀ {ds : List D} {vs : List V}, goodD ds = true → Rps K T Hs ds vs → (prK vs).length = (evens ds).length ∧ (∀ (i : Nat) (d : D), (evens ds)[i]? = some d → ∃ (k : Int) (v : V), (prK vs)[i]? = some (.inl k, v) ∧ d = .int k) ∧ Rps K T Hs (evens ds) ((prK vs).map fun kv => kV kv.1) ∧ ∀ n : Int, (valV (prK vs) (.inl n)).isSome = ((evens ds).any fun d => d.isInt n)
  | [], vs, _, r => by cases r; exact ⟨rfl, fun i d e => by simp [evens] at e, .nil, fun n => rfl⟩
  | .int k :: e :: ds, vs, g, r => by
    obtain ⟨ws0, rfl, r0⟩ := rps_int r
    clear r
    cases r0 with
    | @cons _ v _ ws he r2 =>
      obtain ⟨h1, h2, h3, h4⟩ := prK_keys (ds := ds) g r2
      refine ⟨by simp [prK, evens, h1], fun i d q => ?_, Rps.cons (.int k) h3, fun n => ?_⟩
      · cases i with
        | zero => exact ⟨k, v, rfl, by simpa [evens] using q.symm⟩
        | succ i => exact h2 i d (by simpa [evens] using q)
      · have := h4 n
        by_cases hk : k = n
        · subst hk
          simp [prK, evens, valV, D.isInt]
        · have hk' : ¬ (Sum.inl k : Key) = Sum.inl n := fun z => hk (Sum.inl.inj z)
          rw [show evens (D.int k :: e :: ds) = .int k :: evens ds from rfl, List.any_cons, ← this, show D.isInt n (.int k) = false from by simp [D.isInt, hk], Bool.false_or]
          show (valV ((Sum.inl k, v) :: prK ws) (Sum.inl n)).isSome = _
          unfold valV
          rw [List.find?_cons]
          simp [hk']
  | [.int k], _, g, _ => by simp [goodD] at g
  | .non :: _, _, g, _ | .bl _ :: _, _, g, _ | .str _ :: _, _, g, _ | .tup _ :: _, _, g, _ | .lst _ :: _, _, g, _ | .flst _ :: _, _, g, _ | .ty _ :: _, _, g, _ | .fn _ :: _, _, g, _ | .obj .. :: _, _, g, _ | .dct _ :: _, _, g, _ => by simp [goodD] at g
end
section
variable {X : Cx} {T : Tab}
theorem inK_get {Hs H : Hp} {ng : Bool} {s t w : OT} {x y : V} (ex : Ex Hs H) (o1 : Opd X.K T Hs H s x) (o2 : Opd X.K T Hs H t y) (hev : inKEv ng s t = some w) : ∃ a o, y = .ref a ∧ L2.DGet H a x o ∧ w = .sh (.bl (ng != o.isSome)) := by
  unfold inKEv at hev
  split at hev
  · rename_i n ds
    cases Option.some.inj hev
    cases opd_int o1
    obtain ⟨a, o, vs, rfl, h1, h2, h3⟩ := opd_dct o2
    obtain ⟨_, _, _, h4⟩ := prK_keys h2 h3
    refine ⟨a, _, rfl, .inl ⟨prK vs, .inl n, .inr ⟨o, ex _ _ h1⟩, rfl, rfl⟩, ?_⟩
    rw [h4 n]
  · cases hev
theorem os_inK (hu : X.A.units + 1 < cLine) : OpR X (compareOp .In) (rOpS X.K T (inKEv false)) := by
  intro pins s σ H x y v u Q I rx ry h
  obtain ⟨Hs, s1, t1, w, ex, o1, o2, hev, q⟩ := h
  obtain ⟨a, o, rfl, g, rfl⟩ := inK_get ex o1 o2 hev
  obtain rfl : u = Value.ref a := ry
  refine d_in hu I g rx fun s' I' => ⟨.bl o.isSome, H, I', rfl, ?_⟩
  have := q _ _ _ _ (New.val ex (.bl _))
  simpa using this
theorem os_notInK (hu : X.A.units + 1 < cLine) : OpR X (compareOp .NotIn) (rOpS X.K T (inKEv true)) := by
  intro pins s σ H x y v u Q I rx ry h
  obtain ⟨Hs, s1, t1, w, ex, o1, o2, hev, q⟩ := h
  obtain ⟨a, o, rfl, g, rfl⟩ := inK_get ex o1 o2 hev
  obtain rfl : u = Value.ref a := ry
  refine d_notIn hu I g rx fun s' I' => ⟨.bl (!o.isSome), H, I', rfl, ?_⟩
  have := q _ _ _ _ (New.val ex (.bl _))
  simpa using this
/-- list(d) -/
theorem bi_listK (hc : X.calm = true) : CallR X (.type "list") (rCS X.K T (Op.ev .listK)) := by
  intro pins s σ H xs us Q I r ⟨Hs, ts, w, e, ho, hev0, q⟩
  obtain ⟨t, rfl, hev⟩ : ∃ t, ts = [t] ∧ listKEv t = some w := match ts, hev0 with
    | [], h => absurd (show (none : Option OT) = some w from h) (by simp)
    | [t], h => ⟨t, rfl, h⟩
    | _ :: _ :: _, h => absurd (show (none : Option OT) = some w from h) (by simp)
  obtain ⟨x, rfl, o⟩ := opds1 ho
  unfold listKEv at hev
  split at hev
  · rename_i ds
    cases Option.some.inj hev
    obtain ⟨a, ob, vs, rfl, h1, h2, h3⟩ := opd_dct o
    obtain ⟨l1, _, rk2, _⟩ := prK_keys h2 h3
    obtain ⟨u, eu, rx⟩ := vals1 r
    subst eu
    obtain rfl : u = Value.ref a := rx
    have hk := e _ _ h1
    obtain ⟨_, z, _⟩ := I.hok a _ hk
    obtain ⟨lo, hg, hx, es, ep, vs2, hdt, hsz, rk, hat⟩ := I.frzK hk
    have hl : (prK vs).length = vs2.length := Paired.length rk
    refine PySem.W.kdl_call (PySem.W.kdl_dict (knd := mixKind X.prog X.w) (kvs := vs2) (ep := ep) lo) (I.ok.hd hc) hat (by rw [← hl]; exact z) fun h' tk acc' c' hkeep hS hacc => ?_
    refine ⟨.ref s.heap.objs.size, upd H s.heap.objs.size (.lst ((prK vs).map fun kv => kV kv.1)), I.laid hkeep (Nat.le_refl _) (show ObjOk X.prog X.w _ _ _ (.lst ((prK vs).map fun kv => kV kv.1)) from ⟨?_, acc'.toList, c', ?_, ?_⟩), rfl, q _ _ _ _ (New.newL e (I.hok.fresh (Nat.le_refl _)) rk2)⟩
    · rw [List.length_map]; exact z
    · have el : acc'.toList.length = acc'.size := by simp
      refine vals_of_at (by rw [List.length_map, el, hacc.1, hl]) fun j x w h1 h2 => ?_
      obtain ⟨k, y, hky, hi⟩ := hacc.2 j w (by rw [← Array.getElem?_toList]; exact h2)
      have e1 : ((prK vs).map (·.1))[j]? = some k := by rw [KV.keys rk, List.getElem?_map, hky] <;> rfl
      have e2 : ((prK vs).map fun kv => kV kv.1)[j]? = some (kV k) := by
        have e3 : ((prK vs).map fun kv => kV kv.1) = ((prK vs).map (·.1)).map kV := by rw [List.map_map] <;> rfl
        rw [e3, List.getElem?_map, e1] <;> rfl
      rw [e2] at h1
      cases h1
      exact keyIs_rel hi
    · rw [Array.toArray_toList]; exact hS
  · cases hev
/-- a tuple turned round -/
theorem rev_applied {prog : Program} {w : World} {A : Around} {E : Value → Shared → Prop} {s : Shared} {sl : Addr} {vs : Value} {n : Nat} {Q : Int × Int × Nat → Shared → Prop} (hs : s.heap.IsSliceOf sl .none .none vs) (ps : IsPart vs (some (-1)))
    (h : Q ((n : Int) - 1, -1, n) s) : wpAny (model prog w) A (Builtin.Slice.sliceApplied (.ref sl) (pure (n : Int))) Q E s := by
  obtain ⟨os, hos, hcs, hds⟩ := id hs
  unfold Builtin.Slice.sliceApplied Builtin.Slice.sliceFields
  refine wpAny_bind (wpAny_bind (wpAny_field hos hds (x := .none) rfl (wpAny_bind (wpAny_field hos hds (x := .none) rfl (wpAny_bind (wpAny_field hos hds (x := vs) rfl (wpAny_pure ?_)))))))
  refine wpAny_bind (HT.slicePart_ ps ?_)
  show wpAny _ _ (if ((-1 : Int) == 0) = true then _ else _) _ _ s
  rw [if_neg (by decide)]
  refine wpAny_bind (HT.slicePart_ .none (wpAny_bind (HT.slicePart_ .none (wpAny_bind (wpAny_pure ?_)))))
  have e : Builtin.Slice.sliceAdjust none none (-1) (n : Int) = ((n : Int) - 1, -1) := rfl
  have e2 : Builtin.Slice.slicePlaces ((n : Int) - 1) (-1) (-1) = n := by
    unfold Builtin.Slice.slicePlaces
    have h1 : ¬ ((-1 : Int) > 0) := by decide
    simp only [h1, if_false]
    split
    · have : ((n : Int) - 1 - -1 - 1) / (- -1) + 1 = (n : Int) := by
        rw [show (- -1 : Int) = 1 by decide, Int.ediv_one]; omega
      omega
    · omega
  show wpAny _ _ (match Builtin.Slice.sliceAdjust none none (-1) (n : Int) with | (lo, hi) => pure (lo, (-1 : Int), Builtin.Slice.slicePlaces lo hi (-1))) _ _ s
  rw [e]
  show wpAny _ _ (pure ((n : Int) - 1, (-1 : Int), Builtin.Slice.slicePlaces ((n : Int) - 1) (-1) (-1))) _ _ s
  rw [e2]
  exact wpAny_pure h
theorem rev_pick (xs : Array Value) : ((List.range xs.size).filterMap fun (m : Nat) => xs[(((xs.size : Int) - 1) + (m : Int) * (-1)).toNat]?).toArray = xs.toList.reverse.toArray := by
  rw [← PySem.W.krv_pick]
  unfold slicePick
  rw [PySem.W.krv_bounds]
  show _ = ((sliceRange ((xs.size : Int) - 1) (-1) (-1)).filterMap (xs[·]?)).toArray
  rw [PySem.W.krv_sliceRange, List.filterMap_map]
  have : ∀ l : List Nat, (∀ m ∈ l, m < xs.size) → (l.filterMap fun (m : Nat) => xs[(((xs.size : Int) - 1) + (m : Int) * (-1)).toNat]?) = l.filterMap ((fun x => xs[x]?) ∘ fun k => xs.size - 1 - k) := by
    intro l
    induction l with
    | nil => intro _; rfl
    | cons m l ih =>
      intro hm
      rw [List.filterMap_cons, List.filterMap_cons, ih fun k hk => hm k (List.mem_cons_of_mem _ hk)]
      have e : (((xs.size : Int) - 1) + (m : Int) * (-1)).toNat = xs.size - 1 - m := by have := hm m List.mem_cons_self; omega
      rw [e]
      rfl
  rw [this _ fun m hm => List.mem_range.mp hm]
theorem getItem_rev {prog : Program} {w : World} {A : Around} {E : Value → Shared → Prop} {s : Shared} {t sl : Addr} {items : Array Value} {vs : Value} {Q : Value → Shared → Prop} (ht : IsTup s.heap t items) (hs : s.heap.IsSliceOf sl .none .none vs) (ps : IsPart vs (some (-1)))
    (h : Q (.ref s.heap.objs.size) { s with heap := s.heap.push { cls := .type "tuple", data := .seq items.toList.reverse.toArray } })
    (hsz : items.size ≤ sizeLine) : wpAny (model prog w) A (getItem (.ref t) (.ref sl)) Q E s := by
  have htake : sizeOk (.seq items.toList.reverse.toArray) := by
    show items.toList.reverse.toArray.size ≤ sizeLine
    rw [List.size_toArray, List.length_reverse, Array.length_toList]
    exact hsz
  obtain ⟨os, hos, hcs, hds⟩ := id hs
  have hTs : s.TypeIs (.ref sl) "slice" := ⟨os, hos, hcs⟩
  unfold getItem
  try with_reducible refine wpAny_holding ?_
  first | refine wpAny_bind (wpAny_pure ?_) | skip
  refine wpAny_bind (wpAny_sequenceKey ht.typeIs (by decide) ?_)
  refine wpAny_bind (wpAny_callSpecial?_slot (name := Str.ofString "__getitem__") ht.typeIs PyProof.Rows.slot_tuple_getitem
    (wpAny_call_entry PyProof.Rows.slot_tuple_getitem ht.typeIs entry_tuple_getitem ?_ (args_tuple_getitem _ _)))
  show wpAny _ _ (Builtin.Tuple.tupleItemsOf (.ref t) >>= _) _ _ s
  refine wpAny_bind (tupleItemsOf_ ht ?_)
  refine wpAny_bind (wpAny_typeOf hTs ?_)
  rw [if_pos (by decide)]
  refine wpAny_bind (rev_applied hs ps ?_)
  show wpAny _ _ (if ((((items.size : Int) - 1) == 0 && (-1 : Int) == 1 && items.size == items.size) = true) then _ else _) _ _ s
  rw [if_neg (by simp), rev_pick]
  first
    | exact wpAny_bind (m := Builtin.Tuple.tupleExact _) (wpAny_newObj_type (wpAny_pure ⟨_, rfl, wpAny_pure h⟩) htake)
    | exact wpAny_bind (m := Builtin.Tuple.tupleExact _) (wpAny_newObj_type (wpAny_bind (wpAny_pure (wpAny_pure ⟨_, rfl, wpAny_pure h⟩))) htake)
    | exact wpAny_bind (wpAny_bind (m := Builtin.Tuple.tupleExact _) (wpAny_newObj_type (wpAny_pure (wpAny_pure ⟨_, rfl, wpAny_pure h⟩)) htake))
def tRevT (K : PySem.W.Frag) (te : TE) : TE := fun σ H Q => te σ H fun x H1 => ∃ a xs, x = .ref a ∧ SqT K H1 a xs ∧ ∀ p, H1 p = none → Q (.ref p) (upd H1 p (.tup xs.reverse))
theorem pe_revT {e : Expr} {te : TE} {k : Nat} {p1 p2 p3 pos : Pos} (he : PE X e te) : PE X (.Subscript e (.Slice none none (some (.UnaryOp .USub (.Constant (.int 1) k p1) p2)) p3) pos) (tRevT X.K te) := by
  refine ⟨fun pins s σ H Q I h => ?_⟩
  refine Subscript_ (thn (he.run pins s σ H _ I h) fun v s1 ⟨x, H1, I1, r1, q1⟩ => ?_)
  obtain ⟨a, xs, ex, hx, q⟩ := q1
  subst ex
  cases r1
  have hst : PO X (some (.UnaryOp .USub (.Constant (.int 1) k p1) p2)) (tPart (tUn (rU fun i => .int (-i)) (tC (.int 1)))) := po_some (pe_un un_neg pe_int)
  refine wpAny_Slice (thn (po_none.run pins s1 σ H1 (fun o H2 => o = none ∧ H2 = H1) I1 ⟨rfl, rfl⟩) fun vl s2 ⟨l, H2, I2, pl, el, e2⟩ => ?_)
  subst el e2
  refine thn (po_none.run pins s2 σ H2 (fun o H3 => o = none ∧ H3 = H2) I2 ⟨rfl, rfl⟩) fun vu s3 ⟨u, H3, I3, pu, eu, e3⟩ => ?_
  subst eu e3
  refine thn (hst.run pins s3 σ H3 (fun o H4 => o = some (-1) ∧ H4 = H3) I3 ⟨1, rfl, -1, rfl, rfl, rfl⟩) fun vs s4 ⟨o, H4, I4, ps, eo, e4⟩ => ?_
  subst eo e4
  cases pl
  cases pu
  have I5 : Inv X pins σ H4 { s4 with heap := s4.heap.push { cls := .type "slice", data := .fields #[.none, .none, vs] } } := I4.kept (t' := s4.toks) fun b ob q => Heap.get?_push_of_some _ q
  obtain ⟨its, r, ht, hz⟩ := I5.tuple hx
  have hlen := r.length
  show wpAny (model X.prog X.w) X.A (subscriptTail e (.Slice none none (some (.UnaryOp .USub (.Constant (.int 1) k p1) p2)) p3) (.ref a) (.ref s4.heap.objs.size)) (EP X pins σ Q) X.xe { s4 with heap := s4.heap.push { cls := .type "slice", data := .fields #[.none, .none, vs] } }
  refine tail_any (ops := [.ref a, .ref s4.heap.objs.size]) ht.typeIs (PyProof.Rows.slot_tuple_getitem.lookup) ?_ (by with_unfolding_all rfl)
  refine getItem_rev ht (Heap.IsSliceOf.new _ .none .none vs) ps ?_ (by rw [List.size_toArray]; omega)
  refine ⟨.ref _, _, I5.laid (t' := s4.toks) (o := .tup xs.reverse) (fun b ob q => Heap.get?_push_of_some _ q) (Nat.le_refl _) ?_, rfl, q _ (I5.hok.fresh (Nat.le_refl _))⟩
  exact ⟨by rw [List.length_reverse]; exact hz, _, r.reverse, IsTup.new _ _⟩
end
end CH
end
section
namespace CH
open PySem L2 Evl PyProof.Rows

theorem wE.mono {X : Cx} {e : Expr} {σ : L2.St} {H : Hp} {Q Q' : VK} (h : wE X e σ H Q) (k : ∀ v H, Q v H → Q' v H) : wE X e σ H Q' := fun pins s I =>
  thn (h pins s I) fun u s' ⟨v, H', I', r, q⟩ => ⟨v, H', I', r, k v H' q⟩
theorem wEs.mono {X : Cx} : ∀ {es : List Expr} {σ : L2.St} {H : Hp} {Q Q' : List V → Hp → Prop}, wEs X es σ H Q → (∀ v H, Q v H → Q' v H) → wEs X es σ H Q'
  | [], _, _, _, _, h, k => k _ _ h
  | e :: es, _, _, _, _, h, k => wE.mono (show wE X e _ _ _ from h) fun v H q => wEs.mono (es := es) q fun vs H q => k _ _ q
/-- the operands, then what the operation gives -/
def tRC (X : Cx) (T : Tab) (o : Op) (es : List Expr) : TE := fun σ H Q => wEs X es σ H fun vs H1 => rCS X.K T o.ev vs H1 Q

theorem wE1 {X : Cx} {a : Expr} {σ : L2.St} {H : Hp} {Q' : List V → Hp → Prop} {Q : V → Hp → Prop} (hw : wEs X [a] σ H Q') (k : ∀ x H, Q' [x] H → Q x H) : wE X a σ H Q := wE.mono (show wE X a σ H fun x H1 => Q' [x] H1 from hw) k
theorem wE2 {X : Cx} {a b : Expr} {σ : L2.St} {H : Hp} {Q' : List V → Hp → Prop} {Q : V → V → Hp → Prop} (hw : wEs X [a, b] σ H Q') (k : ∀ x y H, Q' [x, y] H → Q x y H) : wE X a σ H fun x H1 => wE X b σ H1 fun y H2 => Q x y H2 :=
  wE.mono (show wE X a σ H fun x H1 => wE X b σ H1 fun y H2 => Q' [x, y] H2 from hw) fun x H1 hw => wE.mono hw fun y H2 q => k x y H2 q
theorem wE3 {X : Cx} {a b c : Expr} {σ : L2.St} {H : Hp} {Q' : List V → Hp → Prop} {Q : V → V → V → Hp → Prop} (hw : wEs X [a, b, c] σ H Q') (k : ∀ x y z H, Q' [x, y, z] H → Q x y z H) : wE X a σ H fun x H1 => wE X b σ H1 fun y H2 => wE X c σ H2 fun z H3 => Q x y z H3 :=
  wE.mono (show wE X a σ H fun x H1 => wE X b σ H1 fun y H2 => wE X c σ H2 fun z H3 => Q' [x, y, z] H3 from hw) fun x H1 hw => wE.mono hw fun y H2 hw => wE.mono hw fun z H3 q => k x y z H3 q

def Bo.ast : Bo → Operator
  | .add => .Add | .sub => .Sub | .mul => .Mult | .mod => .Mod | .fdiv => .FloorDiv | .pow => .Pow
def Cm.ast : Cm → CmpOp
  | .eq => .Eq | .ne => .NotEq | .lt => .Lt | .le => .LtE | .gt => .Gt | .ge => .GtE | .is => .Is | .isnot => .IsNot | .in_ => .In | .notin => .NotIn
def Bi.nm : Bi → Str
  | .len => "len" | .abs => "abs" | .int => "int" | .bool => "bool" | .tuple => "tuple" | .list => "list" | .any => "any" | .all => "all" | .sum => "sum" | .sorted => "sorted" | .max2 => "max" | .min2 => "min" | .max1 => "max" | .min1 => "min" | .repr => "repr"
def Bi.id : Bi → String
  | .len => "len" | .abs => "abs" | .int => "int" | .bool => "bool" | .tuple => "tuple" | .list => "list" | .any => "any" | .all => "all" | .sum => "sum" | .sorted => "sorted" | .max2 => "max" | .min2 => "min" | .max1 => "max" | .min1 => "min" | .repr => "repr"
def tyNmB (tys : List String) (bn : List Str) (sc : Scope) : List Expr → Bool := fun es => match tys, es with
  | [], [] => true
  | n :: tys, .Name x _ :: es => decide (x = Str.ofString n) && glB sc x && bn.contains x && tyB.contains n && tyNmB tys bn sc es
  | _, _ => false
def plainIxB : Expr → Bool
  | .Slice .. => false
  | _ => true
def nostar (es : List Expr) : Bool := es.all fun e => !isStar e
def optL (k : Bool) (o : Option Expr) : Option (List Expr) := match k, o with
  | true, some e => some [e]
  | false, none => some []
  | _, _ => none
def opShape (bn : List Str) (sc : Scope) : Op → Expr → Option (List Expr)
  | .bin b, .BinOp l o r _ => guard_ (decide (o = b.ast)) [l, r]
  | .neg, .UnaryOp .USub x _ => some [x]
  | .cmp c, .Compare l [o] [r] _ => guard_ (decide (o = c.ast) && !behindInMarks o r) [l, r]
  | .idx, .Subscript a b _ => guard_ (plainIxB b) [a, b]
  | .fld f, .Attribute o a _ => guard_ (decide (a = f) && notCallB o) [o]
  | .bi b, .Call (.Name x _) args [] _ => guard_ (decide (x = b.nm) && glB sc x && bn.contains x && nostar args && !args.isEmpty) args
  | .isi [n], .Call (.Name x _) [v, .Name y q] [] _ => guard_ (decide (x = ("isinstance" : Str)) && glB sc x && bn.contains x && nostar [v] && tyNmB [n] bn sc [.Name y q]) [v]
  | .isi (n :: m :: tys), .Call (.Name x _) [v, .Tuple es _ _] [] _ => guard_ (decide (x = ("isinstance" : Str)) && glB sc x && bn.contains x && nostar [v] && tyNmB (n :: m :: tys) bn sc es && decide (es.length ≤ 1000)) [v]
  | .rng 1 false, .Call (.Name x _) [.Call (.Name y _) [a] [] _] [] _ => guard_ (decide (x = ("list" : Str)) && glB sc x && bn.contains x && decide (y = ("range" : Str)) && glB sc y && bn.contains y && nostar [a]) [a]
  | .rng 2 false, .Call (.Name x _) [.Call (.Name y _) [a, b] [] _] [] _ => guard_ (decide (x = ("list" : Str)) && glB sc x && bn.contains x && decide (y = ("range" : Str)) && glB sc y && bn.contains y && nostar [a, b]) [a, b]
  | .rng 1 true, .Call (.Name x _) [.Call (.Name y _) [a] [] _] [] _ => guard_ (decide (x = ("tuple" : Str)) && glB sc x && bn.contains x && decide (y = ("range" : Str)) && glB sc y && bn.contains y && nostar [a]) [a]
  | .rng 2 true, .Call (.Name x _) [.Call (.Name y _) [a, b] [] _] [] _ => guard_ (decide (x = ("tuple" : Str)) && glB sc x && bn.contains x && decide (y = ("range" : Str)) && glB sc y && bn.contains y && nostar [a, b]) [a, b]
  | .meth m, .Call (.Attribute o nm apos) [] [] cpos => guard_ (decide (m = "upper") && decide (nm = ("upper" : Str)) && notCallB o && (apos.endLine == cpos.line)) [o]
  | .kin x ng _, .Compare l [o] [.Name y _] _ => guard_ (decide (x = y) && glB sc y && !(y == ("__debug__" : Str)) && decide (o = if ng then .NotIn else .In)) [l]
  | .kget x _, .Subscript (.Name y _) b _ => guard_ (decide (x = y) && glB sc y && !(y == ("__debug__" : Str)) && plainIxB b) [b]
  | .rev, .Subscript o (.Slice none none (some (.UnaryOp .USub (.Constant (.int 1) _ _) _)) _) _ => some [o]
  | .revT, .Subscript o (.Slice none none (some (.UnaryOp .USub (.Constant (.int 1) _ _) _)) _) _ => some [o]
  | .inK ng, .Compare l [o] [r] _ => guard_ (decide (o = if ng then .NotIn else .In) && !behindInMarks o r) [l, r]
  | .listK, .Call (.Name x _) [a] [] _ => guard_ (decide (x = ("list" : Str)) && glB sc x && bn.contains x && !isStar a) [a]
  | _, _ => none
/-- a dict of the module, text keys, ints behind them -/
def DctK (K : PySem.W.Frag) (w : World) (mg : Str → Option Value) (x : Str) (kvs : List (Str × Int)) : Prop := ∃ (d : Addr) (es : Array DictEntry) (n : Nat), mg x = some (.ref d) ∧ KDict K w d es n ∧ (∀ z n, kvs.lookup z = some n → ∃ t, PySem.W.nsIn K d z = some (some (.int n t))) ∧ ∀ z, kvs.lookup z = none → PySem.W.nsIn K d z = some none
def DctOk (X : Cx) (x : Str) (kvs : List (Str × Int)) : Prop := DctK X.K X.w X.mg x kvs
def OpK (X : Cx) : Op → Prop
  | .kin x _ kvs => DctOk X x kvs
  | .kget x kvs => DctOk X x kvs
  | _ => True
section
variable {X : Cx} {T : Tab} {sc : Scope} {e : Expr} {es : List Expr}
theorem ev2 {o : Op} {f : OT → OT → Option OT} {ts : List OT} {w : OT} {x y : V} {Hs H : Hp} (h : ∀ ts w, o.ev ts = some w → ∃ s t, ts = [s, t] ∧ f s t = some w) (hev : o.ev ts = some w) (ho : Opds X.K T Hs H ts [x, y]) : ∃ s t, Opd X.K T Hs H s x ∧ Opd X.K T Hs H t y ∧ f s t = some w := by
  obtain ⟨s, t, rfl, h2⟩ := h ts w hev
  obtain ⟨x', y', e, o1, o2⟩ := opds2 ho
  cases e
  exact ⟨s, t, o1, o2, h2⟩
theorem ev1 {o : Op} {f : OT → Option OT} {ts : List OT} {w : OT} {x : V} {Hs H : Hp} (h : ∀ ts w, o.ev ts = some w → ∃ s, ts = [s] ∧ f s = some w) (hev : o.ev ts = some w) (ho : Opds X.K T Hs H ts [x]) : ∃ s, Opd X.K T Hs H s x ∧ f s = some w := by
  obtain ⟨s, rfl, h2⟩ := h ts w hev
  obtain ⟨x', e, o1⟩ := opds1 ho
  cases e
  exact ⟨s, o1, h2⟩
theorem two_ev {o : Op} {f : OT → OT → Option OT} (h2 : ∀ s t, o.ev [s, t] = f s t) (h0 : o.ev [] = none) (h1 : ∀ s, o.ev [s] = none) (h3 : ∀ s t u r, o.ev (s :: t :: u :: r) = none) : ∀ ts w, o.ev ts = some w → ∃ s t, ts = [s, t] ∧ f s t = some w
  | [], w, h => by rw [h0] at h; cases h
  | [s], w, h => by rw [h1] at h; cases h
  | [s, t], w, h => ⟨s, t, rfl, by rw [← h2]; exact h⟩
  | s :: t :: u :: r, w, h => by rw [h3] at h; cases h
theorem one_ev {o : Op} {f : OT → Option OT} (h1 : ∀ s, o.ev [s] = f s) (h0 : o.ev [] = none) (h2 : ∀ s t r, o.ev (s :: t :: r) = none) : ∀ ts w, o.ev ts = some w → ∃ s, ts = [s] ∧ f s = some w
  | [], w, h => by rw [h0] at h; cases h
  | [s], w, h => ⟨s, rfl, by rw [← h1]; exact h⟩
  | s :: t :: r, w, h => by rw [h2] at h; cases h
theorem sh_bin {b : Bo} (h : opShape T.bn sc (.bin b) e = some es) : PE X e (tRC X T (.bin b) es) := by
  cases e <;> first | (simp [opShape] at h; done) | skip
  rename_i l o r pos
  obtain ⟨h1, rfl⟩ := guard_eq (show guard_ (decide (o = b.ast)) [l, r] = some es from h)
  cases of_decide_eq_true h1
  have key : ∀ {rl : OpR X (binaryOp b.ast) (rOpS X.K T (binEv b))}, PE X (.BinOp l b.ast r pos) (tRC X T (.bin b) [l, r]) := fun {rl} => ⟨fun pins s σ H Q I hw =>
    (pe_op rl (peW X l) (peW X r)).run pins s σ H Q I (wE2 hw fun x y H1 ⟨Hs, ts, w, ex, o, hev, q⟩ => by
      obtain ⟨s1, t1, o1, o2, h2⟩ := ev2 (two_ev (fun _ _ => rfl) rfl (fun _ => rfl) (fun _ _ _ _ => rfl)) hev o
      exact ⟨Hs, s1, t1, w, ex, o1, o2, h2, q⟩)⟩
  cases b
  · exact key (rl := os_add)
  · exact key (rl := os_sub)
  · exact key (rl := os_mul)
  · exact key (rl := os_mod)
  · exact key (rl := os_fdiv)
  · exact key (rl := os_pow)
theorem sh_neg (h : opShape T.bn sc .neg e = some es) : PE X e (tRC X T .neg es) := by
  cases e <;> first | (simp [opShape] at h; done) | skip
  rename_i o x pos
  cases o <;> first | (simp [opShape] at h; done) | skip
  cases Option.some.inj (show some [x] = some es from h)
  exact ⟨fun pins s σ H Q I hw => (pe_un us_neg (peW X x)).run pins s σ H Q I (wE1 hw fun x H1 ⟨Hs, ts, w, ex, o, hev, q⟩ => by
    obtain ⟨s1, o1, h2⟩ := ev1 (one_ev (f := negEv) (fun _ => rfl) rfl (fun _ _ _ => rfl)) hev o
    exact ⟨Hs, s1, w, ex, o1, h2, q⟩)⟩
theorem bl_new {H Hs : Hp} {Q : VK} {b : Bool} (ex : Ex Hs H) (q : ∀ z H' Hs' ft, New X.K T Hs H (.sh (.bl b)) z H' Hs' ft → Q z H') : Q (.bl b) H := q _ _ _ _ (New.val ex (.bl b))
theorem sh_cmp {c : Cm} (hu : X.A.units + 66 < cLine) (h : opShape T.bn sc (.cmp c) e = some es) : PE X e (tRC X T (.cmp c) es) := by
  cases e <;> first | (simp [opShape] at h; done) | skip
  rename_i l ops rs pos
  match ops, rs, h with
  | [o], [r], h =>
    obtain ⟨h1, rfl⟩ := guard_eq (show guard_ (decide (o = c.ast) && !behindInMarks o r) [l, r] = some es from h)
    rw [Bool.and_eq_true, Bool.not_eq_true'] at h1
    obtain ⟨h1, h2⟩ := h1
    cases of_decide_eq_true h1
    have key : ∀ {rl : OpR X (compareOp c.ast) (rCmS X.K T (cmpEv c))}, PE X (.Compare l [c.ast] [r] pos) (tRC X T (.cmp c) [l, r]) := fun {rl} => ⟨fun pins s σ H Q I hw =>
      (pe_cmpR rl (peW X l) (peW X r) h2).run pins s σ H Q I (wE2 hw fun x y H1 ⟨Hs, ts, w, ex, o, hev, q⟩ => by
        obtain ⟨s1, t1, o1, o2, h2⟩ := ev2 (two_ev (f := fun s t => (cmpEv c s t).map fun b => .sh (.bl b)) (fun _ _ => rfl) rfl (fun _ => rfl) (fun _ _ _ _ => rfl)) hev o
        obtain ⟨b, h3, rfl⟩ := Option.map_eq_some_iff.mp h2
        exact ⟨Hs, s1, t1, b, ex, o1, o2, h3, bl_new ex q⟩)⟩
    cases c
    · exact key (rl := cs_eq (by omega))
    · exact key (rl := cs_ne (by omega))
    · exact key (rl := cs_lt (by omega))
    · exact key (rl := cs_le)
    · exact key (rl := cs_gt)
    · exact key (rl := cs_ge)
    · exact key (rl := cs_is)
    · exact key (rl := cs_isnot)
    · exact key (rl := cs_in (by omega))
    · exact key (rl := cs_notin (by omega))
  | [], _, h => simp [opShape] at h
  | _ :: _ :: _, _, h => simp [opShape] at h
  | [_], [], h => simp [opShape] at h
  | [_], _ :: _ :: _, h => simp [opShape] at h
theorem plainIx_of {b : Expr} (h : plainIxB b = true) : PlainIx b := by cases b <;> first | (exact fun _ _ => rfl) | cases h
theorem sh_idx (h : opShape T.bn sc .idx e = some es) : PE X e (tRC X T .idx es) := by
  cases e <;> first | (simp [opShape] at h; done) | skip
  rename_i a b pos
  obtain ⟨h1, rfl⟩ := guard_eq (show guard_ (plainIxB b) [a, b] = some es from h)
  exact ⟨fun pins s σ H Q I hw => (pe_ix ixs (peW X a) (peW X b) (plainIx_of h1)).run pins s σ H Q I (wE2 hw fun x y H1 ⟨Hs, ts, w, ex, o, hev, q⟩ => by
    obtain ⟨s1, t1, o1, o2, h2⟩ := ev2 (two_ev (o := .idx) (f := idx2Ev) (fun _ t => by cases t with
      | sh d => cases d <;> rfl
      | lst ts => rfl
      | obj => rfl) rfl (fun _ => rfl) (fun _ t _ _ => by cases t with
      | sh d => cases d <;> rfl
      | lst ts => rfl
      | obj => rfl)) hev o
    exact ⟨Hs, s1, t1, w, ex, o1, o2, h2, q⟩)⟩
theorem sh_fld {f : Str} (h : opShape T.bn sc (.fld f) e = some es) : PE X e (tRC X T (.fld f) es) := by
  cases e <;> first | (simp [opShape] at h; done) | skip
  rename_i o a pos
  obtain ⟨h1, rfl⟩ := guard_eq (show guard_ (decide (a = f) && notCallB o) [o] = some es from h)
  rw [Bool.and_eq_true] at h1
  cases of_decide_eq_true h1.1
  exact ⟨fun pins s σ H Q I hw => (pe_fld (peW X o) (base_of h1.2)).run pins s σ H Q I (wE1 hw fun x H1 ⟨Hs, ts, w, ex, o, hev, q⟩ => by
    obtain ⟨s1, o1, h2⟩ := ev1 (one_ev (o := .fld f) (f := fun t => match t.fld f with
      | some (.sh d) => some (.sh d)
      | _ => none) (fun _ => rfl) rfl (fun _ _ _ => rfl)) hev o
    obtain ⟨g, r⟩ := o1
    split at h2
    · rename_i d hd
      cases Option.some.inj h2
      obtain ⟨a', C, dx, fs, v, g', rfl, k1, k2, k3, k4, k5, _⟩ := fld_of ex r hd
      cases k5 with
      | sh k5 => exact ⟨a', C, dx, fs, v, rfl, k1, k2, k3, k4, q _ _ _ _ (New.val ex k5)⟩
    · cases h2)⟩
theorem New.up {K : PySem.W.Frag} {H Hs : Hp} {d : D} {z : V} {p : Addr} {o : HO} (e : Ex Hs H) (hp : H p = none) (r : Rp K T Hs d z) : New K T Hs H (.sh d) z (upd H p o) Hs [] :=
  ⟨Ex.new hp, Ex.refl _, e.trans (Ex.new hp), .sh r, .nil, fun a h => absurd h (by simp), fun _ _ h => .inl h⟩
theorem one_isi {tys : List String} : ∀ ts w, (Op.isi tys).ev ts = some w → ∃ s, ts = [s] ∧ (s.toD.tyName.map fun a => OT.sh (.bl (tys.any fun b => isTy a b))) = some w := one_ev (o := .isi tys) (fun _ => rfl) rfl (fun _ _ _ => rfl)
theorem bn_of (hb : ∀ x ∈ T.bn, X.mg x = none) {x : Str} (h : T.bn.contains x = true) : X.mg x = none := hb x (by simpa using h)
theorem boot_tyB : (tyB.all fun n => decide (bootBuiltins (Str.ofString n) = some (.type n)) && !(Str.ofString n == ("__name__" : Str)) && !(Str.ofString n == ("__debug__" : Str))) = true := by decide +kernel
theorem ty_pe (hs : X.env.scope = sc) (hb : ∀ x ∈ T.bn, X.mg x = none) {n : String} {x : Str} {p : Pos} (h1 : x = Str.ofString n) (h2 : glB sc x = true) (h3 : T.bn.contains x = true) (h4 : tyB.contains n = true) : PE X (.Name x p) (tC (.ty n)) := by
  have h := boot_tyB
  rw [List.all_eq_true] at h
  have h := h n (by simpa using h4)
  simp only [Bool.and_eq_true, Bool.not_eq_true', decide_eq_true_eq] at h
  subst h1
  exact pe_bltn (gl_of hs h2) (bn_of hb h3) h.1.1 rfl (fun e => by rw [e] at h; exact absurd h.1.2 (by decide)) h.2
/-- a row of built-in types by name -/
def tTys : List String → TA
  | [] => tNil
  | n :: r => tCons (tC (.ty n)) (tTys r)
theorem tTys_read : ∀ (tys : List String) (σ : L2.St) (H : Hp) (Q : List V → Hp → Prop), Q (tys.map V.ty) H → tTys tys σ H Q
  | [], _, _, _, q => q
  | n :: r, σ, H, Q, q => tTys_read r σ H _ q
theorem tys_pa (hs : X.env.scope = sc) (hb : ∀ x ∈ T.bn, X.mg x = none) : ∀ (tys : List String) (es : List Expr), tyNmB tys T.bn sc es = true → PA X es (tTys tys) ∧ (∀ n ∈ tys, n ∈ tyB) ∧ tys.length = es.length
  | [], [], _ => ⟨pa_nil, fun _ h => absurd h (by simp), rfl⟩
  | [], _ :: _, h => by simp [tyNmB] at h
  | _ :: _, [], h => by simp [tyNmB] at h
  | n :: r, e :: es, h => by
    unfold tyNmB at h
    split at h
    · contradiction
    · rename_i e1 e2
      cases e1
      cases e2
      simp only [Bool.and_eq_true, decide_eq_true_eq] at h
      obtain ⟨⟨⟨⟨h1, h2⟩, h3⟩, h4⟩, h5⟩ := h
      obtain ⟨q1, q2, q3⟩ := tys_pa hs hb r es h5
      exact ⟨pa_cons (ty_pe hs hb h1 h2 h3 h4) q1, fun m hm => by
        rcases List.mem_cons.mp hm with rfl | hm
        · simpa using h4
        · exact q2 m hm, by simp [q3]⟩
    · cases h
theorem paired_ty : ∀ tys : List String, Paired ClsV (tys.map V.ty) (tys.map Value.type)
  | [] => .nil
  | n :: r => .cons (.ty n) (paired_ty r)
theorem boot_isi : bootBuiltins ("isinstance" : Str) = some (.builtin "isinstance") := by decide +kernel
theorem sh_isi (hs : X.env.scope = sc) (hb : ∀ x ∈ T.bn, X.mg x = none) {tys : List String} (h : opShape T.bn sc (.isi tys) e = some es) : PE X e (tRC X T (.isi tys) es) := by
  unfold opShape at h
  split at h <;> first | contradiction | skip
  · rename_i n x px v y q pos heq
    cases heq
    obtain ⟨h1, rfl⟩ := guard_eq h
    simp only [Bool.and_eq_true] at h1
    obtain ⟨⟨⟨⟨k1, k2⟩, k3⟩, k4⟩, k5⟩ := h1
    cases of_decide_eq_true k1
    obtain ⟨q1, q2, _⟩ := tys_pa hs hb [n] [.Name y q] k5
    have kv : isStar v = false := by simpa [nostar] using k4
    refine ⟨fun pins s σ H Q I hw => (pe_callB call_isi (gl_of hs k2) (bn_of hb k3) boot_isi (pa_cons (peW X v) q1 (star_cons kv)) (by decide) (by decide) (star_cons kv) rfl).run pins s σ H Q I (wE1 hw fun x H1 ⟨Hs, ts, w, ex, o, hev, q⟩ => ?_)⟩
    obtain ⟨s1, o1, h2⟩ := ev1 one_isi hev o
    obtain ⟨a, h3, rfl⟩ := Option.map_eq_some_iff.mp h2
    obtain ⟨z1, z2⟩ := ty_of (opd_toD ex o1) h3
    exact ⟨x, .ty n, .type a, .type n, isTy a n, rfl, .ty n, z1, kit_one z2 (q2 n (by simp)), by
      have e1 : ([n].any fun b => isTy a b) = isTy a n := by simp
      rw [e1] at q
      exact bl_new ex q⟩
  · rename_i n m r x px v ts k pt pos heq
    cases heq
    obtain ⟨h1, rfl⟩ := guard_eq h
    simp only [Bool.and_eq_true] at h1
    obtain ⟨⟨⟨⟨⟨k1, k2⟩, k3⟩, k4⟩, k5⟩, k6⟩ := h1
    cases of_decide_eq_true k1
    obtain ⟨q1, q2, q3⟩ := tys_pa hs hb (n :: m :: r) ts k5
    have kv : isStar v = false := by simpa [nostar] using k4
    have hlen := of_decide_eq_true k6
    refine ⟨fun pins s σ H Q I hw => (pe_callB call_isiT (gl_of hs k2) (bn_of hb k3) boot_isi (pa_cons (peW X v) (pa_cons (pe_tup q1) pa_nil) (star_cons kv)) (by decide) (by decide) (star_cons kv) rfl).run pins s σ H Q I (wE1 hw fun x H1 ⟨Hs, ts, w, ex, o, hev, q⟩ => ?_)⟩
    obtain ⟨s1, o1, h2⟩ := ev1 one_isi hev o
    obtain ⟨a, h3, rfl⟩ := Option.map_eq_some_iff.mp h2
    refine tTys_read _ σ H1 _ ⟨Nat.le_of_lt (small1000 (by rw [List.length_map, q3]; exact hlen)), fun p hp => ?_⟩
    obtain ⟨z1, z2⟩ := ty_of ((opd_toD ex o1).mono (Ex.new (o := .tup ((n :: m :: r).map V.ty)) hp)) h3
    exact ⟨x, p, _, .type a, _, _, rfl, upd_same, paired_ty _, z1, kit_any z2 _ q2, q _ _ _ _ (New.up ex hp (.bl _))⟩
theorem boot_bi : ([Bi.len, .abs, .any, .all, .sum, .sorted, .max2, .min2, .max1, .min1, .repr].all fun b => decide (bootBuiltins b.nm = some (.builtin b.id)) && !(b.nm == ("__name__" : Str)) && !(b.nm == ("__debug__" : Str))) = true := by decide +kernel
theorem boot_bt : ([Bi.int, .bool, .tuple, .list].all fun b => decide (bootBuiltins b.nm = some (.type b.id)) && !(b.nm == ("__name__" : Str)) && !(b.nm == ("__debug__" : Str))) = true := by decide +kernel
theorem sh_bi {b : Bi} (gd : X.A.guards = some []) (hu : X.A.units + 66 < cLine) (hs : X.env.scope = sc) (hb : ∀ x ∈ T.bn, X.mg x = none) (hc : X.calm = true) (h : opShape T.bn sc (.bi b) e = some es) : PE X e (tRC X T (.bi b) es) := by
  unfold opShape at h
  split at h <;> first | contradiction | skip
  rename_i b' x px args pos heq
  cases heq
  obtain ⟨h1, rfl⟩ := guard_eq h
  simp only [Bool.and_eq_true] at h1
  obtain ⟨⟨⟨⟨k1, k2⟩, k3⟩, k4⟩, k5⟩ := h1
  cases of_decide_eq_true k1
  cases args with
  | nil => simp at k5
  | cons a as =>
    have ka : isStar a = false ∧ nostar as = true := by simpa [nostar] using k4
    have mk : ∀ {f : Bi}, f.nm = b.nm → bootBuiltins f.nm = some (.builtin f.id) → f.nm ≠ "__name__" → (f.nm == ("__debug__" : Str)) = false → CallR X (.builtin f.id) (rCS X.K T (biEv b)) → PE X (.Call (.Name b.nm px) (a :: as) [] pos) (tRC X T (.bi b) (a :: as)) := fun {f} e1 e2 e3 e4 rl => by
      rw [e1] at e2 e3 e4
      exact ⟨fun pins s σ H Q I hw => (pe_callB rl (gl_of hs k2) (bn_of hb k3) e2 (paW X (a :: as) k4) e3 e4 (star_cons ka.1) (star_any ka.2)).run pins s σ H Q I hw⟩
    have mt : ∀ {f : Bi}, f.nm = b.nm → bootBuiltins f.nm = some (.type f.id) → f.nm ≠ "__name__" → (f.nm == ("__debug__" : Str)) = false → CallR X (.type f.id) (rCS X.K T (biEv b)) → PE X (.Call (.Name b.nm px) (a :: as) [] pos) (tRC X T (.bi b) (a :: as)) := fun {f} e1 e2 e3 e4 rl => by
      rw [e1] at e2 e3 e4
      exact ⟨fun pins s σ H Q I hw => (pe_callTy rl (gl_of hs k2) (bn_of hb k3) e2 (paW X (a :: as) k4) e3 e4 (star_cons ka.1) (star_any ka.2)).run pins s σ H Q I hw⟩
    have bb : ∀ f ∈ [Bi.len, .abs, .any, .all, .sum, .sorted, .max2, .min2, .max1, .min1, .repr], bootBuiltins f.nm = some (.builtin f.id) ∧ f.nm ≠ "__name__" ∧ (f.nm == ("__debug__" : Str)) = false := fun f hf => by
      have h := boot_bi
      rw [List.all_eq_true] at h
      have h := h f hf
      simp only [Bool.and_eq_true, Bool.not_eq_true', decide_eq_true_eq] at h
      exact ⟨h.1.1, fun e => by rw [e] at h; exact absurd h.1.2 (by decide), h.2⟩
    have bt : ∀ f ∈ [Bi.int, .bool, .tuple, .list], bootBuiltins f.nm = some (.type f.id) ∧ f.nm ≠ "__name__" ∧ (f.nm == ("__debug__" : Str)) = false := fun f hf => by
      have h := boot_bt
      rw [List.all_eq_true] at h
      have h := h f hf
      simp only [Bool.and_eq_true, Bool.not_eq_true', decide_eq_true_eq] at h
      exact ⟨h.1.1, fun e => by rw [e] at h; exact absurd h.1.2 (by decide), h.2⟩
    cases b
    · obtain ⟨z1, z2, z3⟩ := bb .len (by simp); exact mk rfl z1 z2 z3 bi_len
    · obtain ⟨z1, z2, z3⟩ := bb .abs (by simp); exact mk rfl z1 z2 z3 bi_abs
    · obtain ⟨z1, z2, z3⟩ := bt .int (by simp); exact mt rfl z1 z2 z3 bi_int
    · obtain ⟨z1, z2, z3⟩ := bt .bool (by simp); exact mt rfl z1 z2 z3 bi_bool
    · obtain ⟨z1, z2, z3⟩ := bt .tuple (by simp); exact mt rfl z1 z2 z3 bi_tuple
    · obtain ⟨z1, z2, z3⟩ := bt .list (by simp); exact mt rfl z1 z2 z3 (bi_list hc)
    · obtain ⟨z1, z2, z3⟩ := bb .any (by simp); exact mk rfl z1 z2 z3 (bi_any hc)
    · obtain ⟨z1, z2, z3⟩ := bb .all (by simp); exact mk rfl z1 z2 z3 (bi_all hc)
    · obtain ⟨z1, z2, z3⟩ := bb .sum (by simp); exact mk rfl z1 z2 z3 (bi_sum hc)
    · obtain ⟨z1, z2, z3⟩ := bb .sorted (by simp); exact mk rfl z1 z2 z3 (bi_sorted hu)
    · obtain ⟨z1, z2, z3⟩ := bb .max2 (by simp); exact mk rfl z1 z2 z3 (bi_max2 hc)
    · obtain ⟨z1, z2, z3⟩ := bb .min2 (by simp); exact mk rfl z1 z2 z3 (bi_min2 hc)
    · obtain ⟨z1, z2, z3⟩ := bb .max1 (by simp); exact mk rfl z1 z2 z3 (bi_max1 hc)
    · obtain ⟨z1, z2, z3⟩ := bb .min1 (by simp); exact mk rfl z1 z2 z3 (bi_min1 hc)
    · obtain ⟨z1, z2, z3⟩ := bb .repr (by simp); exact mk rfl z1 z2 z3 (bi_repr gd hu)
theorem rps_rg {K : PySem.W.Frag} {H : Hp} (a b : Int) : Rps K T H ((List.range (b - a).toNat).map fun i => D.int (a + (i : Nat))) (rgV a b) := by
  unfold rgV
  generalize List.range (b - a).toNat = l
  induction l with
  | nil => exact .nil
  | cons n l ih => exact .cons (.int _) ih
theorem rng_of {H Hs : Hp} {Q : VK} {tu : Bool} {i j : Int} {w : OT} (ex : Ex Hs H) (hev : rngEv tu i j = some w) (q : ∀ z H' Hs' ft, New X.K T Hs H w z H' Hs' ft → Q z H') :
    RgOk i j ∧ ∀ p, H p = none → if tu = true then Q (.ref p) (upd H p (.tup (rgV i j))) else Q (.ref p) (upd H p (.lst (rgV i j))) := by
  unfold rngEv at hev
  obtain ⟨h1, rfl⟩ := guard_eq hev
  obtain ⟨a, b, c, d, e⟩ := of_decide_eq_true h1
  refine ⟨⟨a, b, c, d, by unfold big at e; omega⟩, fun p hp => ?_⟩
  cases tu with
  | true => exact q _ _ _ _ (New.tup ex hp (rps_rg i j))
  | false => exact q _ _ _ _ (New.newL ex hp (rps_rg i j))
theorem rng1_ev {n : Nat} {tu : Bool} {ts : List OT} {w : OT} {x : V} {Hs H : Hp} (hev : (Op.rng n tu).ev ts = some w) (o : Opds X.K T Hs H ts [x]) : ∃ j, x = .int j ∧ rngEv tu 0 j = some w := by
  cases o with
  | cons o r =>
    cases r
    rename_i t
    unfold Op.ev at hev
    split at hev <;> first | contradiction | skip
    · rename_i e1 e2
      cases e1; cases e2
      exact ⟨_, opd_int o, hev⟩
    · rename_i e1 e2
      cases e2
theorem rng2_ev {n : Nat} {tu : Bool} {ts : List OT} {w : OT} {x y : V} {Hs H : Hp} (hev : (Op.rng n tu).ev ts = some w) (o : Opds X.K T Hs H ts [x, y]) : ∃ i j, x = .int i ∧ y = .int j ∧ rngEv tu i j = some w := by
  cases o with
  | cons o r =>
    cases r with
    | cons o2 r =>
      cases r
      unfold Op.ev at hev
      split at hev <;> first | contradiction | skip
      · rename_i e1 e2
        cases e2
      · rename_i e1 e2
        cases e1; cases e2
        exact ⟨_, _, opd_int o, opd_int o2, hev⟩
theorem sh_rng {n : Nat} {tu : Bool} (hs : X.env.scope = sc) (hb : ∀ x ∈ T.bn, X.mg x = none) (hc : X.calm = true) (h : opShape T.bn sc (.rng n tu) e = some es) : PE X e (tRC X T (.rng n tu) es) := by
  unfold opShape at h
  split at h <;> first | contradiction | skip
  · rename_i x px y py a q1 q2 heq
    cases heq
    obtain ⟨h1, rfl⟩ := guard_eq h
    simp only [Bool.and_eq_true] at h1
    obtain ⟨⟨⟨⟨⟨⟨k1, k2⟩, k3⟩, k4⟩, k5⟩, k6⟩, k7⟩ := h1
    cases of_decide_eq_true k1
    cases of_decide_eq_true k4
    have ka : isStar a = false := by simpa [nostar] using k7
    refine ⟨fun pins s σ H Q I hw => (pe_listRg hc (gl_of hs k2) (bn_of hb k3) (prg_1 (gl_of hs k5) (bn_of hb k6) (peW X a) (star_cons ka)) rfl).run pins s σ H Q I (wE1 hw fun x H1 ⟨Hs, ts, w, ex, o, hev, q⟩ => ?_)⟩
    obtain ⟨j, rfl, hev⟩ := rng1_ev hev o
    obtain ⟨r1, r2⟩ := rng_of ex hev q
    exact ⟨j, rfl, r1, fun p hp => by simpa using r2 p hp⟩
  · rename_i x px y py a b q1 q2 heq
    cases heq
    obtain ⟨h1, rfl⟩ := guard_eq h
    simp only [Bool.and_eq_true] at h1
    obtain ⟨⟨⟨⟨⟨⟨k1, k2⟩, k3⟩, k4⟩, k5⟩, k6⟩, k7⟩ := h1
    cases of_decide_eq_true k1
    cases of_decide_eq_true k4
    have ka : isStar a = false ∧ isStar b = false := by simpa [nostar] using k7
    refine ⟨fun pins s σ H Q I hw => (pe_listRg hc (gl_of hs k2) (bn_of hb k3) (prg_2 (gl_of hs k5) (bn_of hb k6) (peW X a) (peW X b) (star_cons ka.1) (star_cons ka.2) (star_any (es := [b]) (by simp [ka.2]))) rfl).run pins s σ H Q I (wE2 hw fun x y H1 ⟨Hs, ts, w, ex, o, hev, q⟩ => ?_)⟩
    obtain ⟨i, j, rfl, rfl, hev⟩ := rng2_ev hev o
    obtain ⟨r1, r2⟩ := rng_of ex hev q
    exact ⟨i, j, rfl, rfl, r1, fun p hp => by simpa using r2 p hp⟩
  · rename_i x px y py a q1 q2 heq
    cases heq
    obtain ⟨h1, rfl⟩ := guard_eq h
    simp only [Bool.and_eq_true] at h1
    obtain ⟨⟨⟨⟨⟨⟨k1, k2⟩, k3⟩, k4⟩, k5⟩, k6⟩, k7⟩ := h1
    cases of_decide_eq_true k1
    cases of_decide_eq_true k4
    have ka : isStar a = false := by simpa [nostar] using k7
    refine ⟨fun pins s σ H Q I hw => (pe_tupRg hc (gl_of hs k2) (bn_of hb k3) (prg_1 (gl_of hs k5) (bn_of hb k6) (peW X a) (star_cons ka)) rfl).run pins s σ H Q I (wE1 hw fun x H1 ⟨Hs, ts, w, ex, o, hev, q⟩ => ?_)⟩
    obtain ⟨j, rfl, hev⟩ := rng1_ev hev o
    obtain ⟨r1, r2⟩ := rng_of ex hev q
    exact ⟨j, rfl, r1, fun p hp => by simpa using r2 p hp⟩
  · rename_i x px y py a b q1 q2 heq
    cases heq
    obtain ⟨h1, rfl⟩ := guard_eq h
    simp only [Bool.and_eq_true] at h1
    obtain ⟨⟨⟨⟨⟨⟨k1, k2⟩, k3⟩, k4⟩, k5⟩, k6⟩, k7⟩ := h1
    cases of_decide_eq_true k1
    cases of_decide_eq_true k4
    have ka : isStar a = false ∧ isStar b = false := by simpa [nostar] using k7
    refine ⟨fun pins s σ H Q I hw => (pe_tupRg hc (gl_of hs k2) (bn_of hb k3) (prg_2 (gl_of hs k5) (bn_of hb k6) (peW X a) (peW X b) (star_cons ka.1) (star_cons ka.2) (star_any (es := [b]) (by simp [ka.2]))) rfl).run pins s σ H Q I (wE2 hw fun x y H1 ⟨Hs, ts, w, ex, o, hev, q⟩ => ?_)⟩
    obtain ⟨i, j, rfl, rfl, hev⟩ := rng2_ev hev o
    obtain ⟨r1, r2⟩ := rng_of ex hev q
    exact ⟨i, j, rfl, rfl, r1, fun p hp => by simpa using r2 p hp⟩
theorem sh_meth {m : String} (h : opShape T.bn sc (.meth m) e = some es) : PE X e (tRC X T (.meth m) es) := by
  unfold opShape at h
  split at h <;> first | contradiction | skip
  rename_i m' o nm apos cpos heq
  cases heq
  obtain ⟨h1, rfl⟩ := guard_eq h
  simp only [Bool.and_eq_true] at h1
  obtain ⟨⟨⟨k1, k2⟩, k3⟩, k4⟩ := h1
  cases of_decide_eq_true k1
  cases of_decide_eq_true k2
  refine ⟨fun pins s σ H Q I hw => (pe_bm0 PySem.F.plainAttrs_str PySem.F.slot_str_upper PySem.F.type_str_upper mt_upper (peW X o) (base_of k3) k4).run pins s σ H Q I (wE1 hw fun x H1 ⟨Hs, ts, w, ex, o, hev, q⟩ => ?_)⟩
  obtain ⟨s1, o1, h2⟩ := ev1 (one_ev (o := .meth "upper") (f := methEv "upper") (fun _ => rfl) rfl (fun _ _ _ => rfl)) hev o
  unfold methEv at h2
  split at h2
  · obtain ⟨hz, rfl⟩ := guard_eq h2
    rw [Bool.and_eq_true] at hz
    cases opd_str o1
    exact ⟨rfl, _, rfl, rfl, of_decide_eq_true hz.2, q _ _ _ _ (New.val ex (.str _))⟩
  · cases h2
theorem sh_kin {x : Str} {ng : Bool} {kvs : List (Str × Int)} (hs : X.env.scope = sc) (hk : DctOk X x kvs) (h : opShape T.bn sc (.kin x ng kvs) e = some es) : PE X e (tRC X T (.kin x ng kvs) es) := by
  unfold opShape at h
  split at h <;> first | contradiction | skip
  rename_i x' ng' kv' l o y py pos heq
  cases heq
  obtain ⟨h1, rfl⟩ := guard_eq h
  simp only [Bool.and_eq_true, Bool.not_eq_true'] at h1
  obtain ⟨⟨⟨k1, k2⟩, k3⟩, k4⟩ := h1
  cases of_decide_eq_true k1
  obtain ⟨d, des, n, m1, m2, m3, m4⟩ := hk
  have pn : PE X (.Name x py) (tC (.ref d)) := pe_glob (gl_of hs k2) m1 rfl k3
  have nb : behindInMarks o (.Name x py) = false := rfl
  have key : ∀ {z : Str}, ∃ r, PySem.W.nsIn X.K d z = some r ∧ r.isSome = (kvs.lookup z).isSome := fun {z} => by
    cases hz : kvs.lookup z with
    | none => exact ⟨_, m4 z hz, rfl⟩
    | some n => obtain ⟨t, ht⟩ := m3 z n hz; exact ⟨_, ht, rfl⟩
  cases ng with
  | false =>
    cases of_decide_eq_true k4
    refine ⟨fun pins s σ H Q I hw => (pe_cmpR (op_in_kd m2) (peW X l) pn nb).run pins s σ H Q I (wE1 hw fun x H1 ⟨Hs, ts, w, ex, o, hev, q⟩ => ?_)⟩
    obtain ⟨s1, o1, h2⟩ := ev1 (one_ev (f := kinEv false kvs) (fun _ => rfl) rfl (fun _ _ _ => rfl)) hev o
    unfold kinEv at h2
    split at h2
    · cases Option.some.inj h2
      cases opd_str o1
      obtain ⟨r, r1, r2⟩ := key (z := _)
      refine ⟨_, r, rfl, rfl, r1, ?_⟩
      rw [r2]
      have := q _ _ _ _ (New.val ex (.bl _))
      simpa using this
    · cases h2
  | true =>
    cases of_decide_eq_true k4
    refine ⟨fun pins s σ H Q I hw => (pe_cmpR (op_notIn_kd m2) (peW X l) pn nb).run pins s σ H Q I (wE1 hw fun x H1 ⟨Hs, ts, w, ex, o, hev, q⟩ => ?_)⟩
    obtain ⟨s1, o1, h2⟩ := ev1 (one_ev (f := kinEv true kvs) (fun _ => rfl) rfl (fun _ _ _ => rfl)) hev o
    unfold kinEv at h2
    split at h2
    · cases Option.some.inj h2
      cases opd_str o1
      obtain ⟨r, r1, r2⟩ := key (z := _)
      refine ⟨_, r, rfl, rfl, r1, ?_⟩
      rw [r2]
      have := q _ _ _ _ (New.val ex (.bl _))
      simpa using this
    · cases h2
theorem sh_kinT {x : Str} {ng : Bool} {kvs : List (Str × Int)} (hs : X.env.scope = sc) (hk : DctOk X x kvs) (h : opShape T.bn sc (.kin x ng kvs) e = some es) : PT X e (fun σ H Q => tRC X T (.kin x ng kvs) es σ H fun z H' => ∃ k, z = .bl k ∧ Q k H') := by
  unfold opShape at h
  split at h <;> first | contradiction | skip
  rename_i x' ng' kv' l o y py pos heq
  cases heq
  obtain ⟨h1, rfl⟩ := guard_eq h
  simp only [Bool.and_eq_true, Bool.not_eq_true'] at h1
  obtain ⟨⟨⟨k1, k2⟩, k3⟩, k4⟩ := h1
  cases of_decide_eq_true k1
  obtain ⟨d, des, n, m1, m2, m3, m4⟩ := hk
  have pn : PE X (.Name x py) (tC (.ref d)) := pe_glob (gl_of hs k2) m1 rfl k3
  have nb : behindInMarks o (.Name x py) = false := rfl
  have key : ∀ {z : Str}, ∃ r, PySem.W.nsIn X.K d z = some r ∧ r.isSome = (kvs.lookup z).isSome := fun {z} => by
    cases hz : kvs.lookup z with
    | none => exact ⟨_, m4 z hz, rfl⟩
    | some n => obtain ⟨t, ht⟩ := m3 z n hz; exact ⟨_, ht, rfl⟩
  cases ng with
  | false =>
    cases of_decide_eq_true k4
    refine ⟨fun pins s σ H Q I hw => (pt_cmpR (op_in_kd m2) (peW X l) pn nb).run pins s σ H Q I (wE1 hw fun x H1 ⟨Hs, ts, w, ex, o, hev, q⟩ => ?_)⟩
    obtain ⟨s1, o1, h2⟩ := ev1 (one_ev (f := kinEv false kvs) (fun _ => rfl) rfl (fun _ _ _ => rfl)) hev o
    unfold kinEv at h2
    split at h2
    · cases Option.some.inj h2
      cases opd_str o1
      obtain ⟨r, r1, r2⟩ := key (z := _)
      refine ⟨_, r, rfl, rfl, r1, ?_⟩
      rw [r2]
      have := q _ _ _ _ (New.val ex (.bl _))
      simpa using this
    · cases h2
  | true =>
    cases of_decide_eq_true k4
    refine ⟨fun pins s σ H Q I hw => (pt_cmpR (op_notIn_kd m2) (peW X l) pn nb).run pins s σ H Q I (wE1 hw fun x H1 ⟨Hs, ts, w, ex, o, hev, q⟩ => ?_)⟩
    obtain ⟨s1, o1, h2⟩ := ev1 (one_ev (f := kinEv true kvs) (fun _ => rfl) rfl (fun _ _ _ => rfl)) hev o
    unfold kinEv at h2
    split at h2
    · cases Option.some.inj h2
      cases opd_str o1
      obtain ⟨r, r1, r2⟩ := key (z := _)
      refine ⟨_, r, rfl, rfl, r1, ?_⟩
      rw [r2]
      have := q _ _ _ _ (New.val ex (.bl _))
      simpa using this
    · cases h2
theorem sh_kget {x : Str} {kvs : List (Str × Int)} (hs : X.env.scope = sc) (hk : DctOk X x kvs) (h : opShape T.bn sc (.kget x kvs) e = some es) : PE X e (tRC X T (.kget x kvs) es) := by
  unfold opShape at h
  split at h <;> first | contradiction | skip
  rename_i x' kv' y py b pos heq
  cases heq
  obtain ⟨h1, rfl⟩ := guard_eq h
  simp only [Bool.and_eq_true, Bool.not_eq_true'] at h1
  obtain ⟨⟨⟨k1, k2⟩, k3⟩, k4⟩ := h1
  cases of_decide_eq_true k1
  obtain ⟨d, des, n, m1, m2, m3, m4⟩ := hk
  have pn : PE X (.Name x py) (tC (.ref d)) := pe_glob (gl_of hs k2) m1 rfl k3
  refine ⟨fun pins s σ H Q I hw => (pe_ix ix_kdict pn (peW X b) (plainIx_of k4)).run pins s σ H Q I (wE1 hw fun x H1 ⟨Hs, ts, w, ex, o, hev, q⟩ => ?_)⟩
  obtain ⟨s1, o1, h2⟩ := ev1 (one_ev (f := kgetEv kvs) (fun _ => rfl) rfl (fun _ _ _ => rfl)) hev o
  unfold kgetEv at h2
  split at h2
  · obtain ⟨n', e1, rfl⟩ := Option.map_eq_some_iff.mp h2
    cases opd_str o1
    obtain ⟨t, ht⟩ := m3 _ _ e1
    exact ⟨d, _, .int n', rfl, rfl, ⟨_, _, _, m2.at_, m2.lit, ht, ⟨t, rfl⟩⟩, q _ _ _ _ (New.val ex (.int _))⟩
  · cases h2
theorem sh_rev (h : opShape T.bn sc .rev e = some es) : PE X e (tRC X T .rev es) := by
  unfold opShape at h
  split at h <;> first | contradiction | skip
  rename_i o k p1 p2 p3 pos heq
  cases Option.some.inj h
  refine ⟨fun pins s σ H Q I hw => (pe_revL (peW X o)).run pins s σ H Q I (wE1 hw fun x H1 ⟨Hs, ts, w, ex, o, hev, q⟩ => ?_)⟩
  obtain ⟨s1, o1, h2⟩ := ev1 (one_ev (o := .rev) (f := revEv) (fun _ => rfl) rfl (fun _ _ _ => rfl)) hev o
  obtain ⟨ds, hl, rfl⟩ := Option.map_eq_some_iff.mp h2
  obtain ⟨a, vs, rfl, h3, h4⟩ := opd_litems ex o1 hl
  exact ⟨a, vs, rfl, sq_of h3, fun p hp => q _ _ _ _ (New.newL ex hp h4.reverse)⟩
theorem sh_revT (h : opShape T.bn sc .revT e = some es) : PE X e (tRC X T .revT es) := by
  unfold opShape at h
  split at h <;> first | contradiction | skip
  rename_i o k p1 p2 p3 pos heq
  cases Option.some.inj h
  refine ⟨fun pins s σ H Q I hw => (pe_revT (peW X o)).run pins s σ H Q I (wE1 hw fun x H1 ⟨Hs, ts, w, ex, o, hev, q⟩ => ?_)⟩
  obtain ⟨s1, o1, h2⟩ := ev1 (one_ev (o := .revT) (f := revTEv) (fun _ => rfl) rfl (fun _ _ _ => rfl)) hev o
  unfold revTEv at h2
  split at h2
  · cases Option.some.inj h2
    obtain ⟨a, vs, rfl, h3, h4⟩ := opd_tup o1
    exact ⟨a, vs, rfl, ex_t ex h3, fun p hp => q _ _ _ _ (New.tup ex hp h4.reverse)⟩
  · cases h2
theorem sh_inK {ng : Bool} (hu : X.A.units + 66 < cLine) (h : opShape T.bn sc (.inK ng) e = some es) : PE X e (tRC X T (.inK ng) es) := by
  unfold opShape at h
  split at h <;> first | contradiction | skip
  rename_i ng' l o r pos heq
  cases heq
  obtain ⟨h1, rfl⟩ := guard_eq h
  simp only [Bool.and_eq_true, Bool.not_eq_true', decide_eq_true_eq] at h1
  obtain ⟨k1, k2⟩ := h1
  subst k1
  cases ng with
  | false =>
    exact ⟨fun pins s σ H Q I hw => (pe_cmpR (os_inK (T := T) (by omega)) (peW X l) (peW X r) k2).run pins s σ H Q I (wE2 hw fun x y H1 ⟨Hs, ts, w, ex, o, hev, q⟩ => by
      obtain ⟨s1, t1, o1, o2, h2⟩ := ev2 (two_ev (f := inKEv false) (fun _ _ => rfl) rfl (fun _ => rfl) (fun _ _ _ _ => rfl)) hev o
      exact ⟨Hs, s1, t1, w, ex, o1, o2, h2, q⟩)⟩
  | true =>
    exact ⟨fun pins s σ H Q I hw => (pe_cmpR (os_notInK (T := T) (by omega)) (peW X l) (peW X r) k2).run pins s σ H Q I (wE2 hw fun x y H1 ⟨Hs, ts, w, ex, o, hev, q⟩ => by
      obtain ⟨s1, t1, o1, o2, h2⟩ := ev2 (two_ev (f := inKEv true) (fun _ _ => rfl) rfl (fun _ => rfl) (fun _ _ _ _ => rfl)) hev o
      exact ⟨Hs, s1, t1, w, ex, o1, o2, h2, q⟩)⟩
theorem sh_listK (hs : X.env.scope = sc) (hb : ∀ x ∈ T.bn, X.mg x = none) (hc : X.calm = true) (h : opShape T.bn sc .listK e = some es) : PE X e (tRC X T .listK es) := by
  unfold opShape at h
  split at h <;> first | contradiction | skip
  rename_i x px a pos heq
  obtain ⟨h1, rfl⟩ := guard_eq h
  simp only [Bool.and_eq_true, Bool.not_eq_true', decide_eq_true_eq] at h1
  obtain ⟨⟨⟨k1, k2⟩, k3⟩, k4⟩ := h1
  subst k1
  exact ⟨fun pins s σ H Q I hw => (pe_callTy (bi_listK (T := T) hc) (gl_of hs k2) (bn_of hb k3) rfl (paW X [a] (by simp [nostar, k4])) (by decide) (by decide) (star_cons k4) (star_any (by rfl))).run pins s σ H Q I hw⟩
/-- every operation -/
theorem sh_all {o : Op} (hk : OpK X o) (hs : X.env.scope = sc) (hb : ∀ x ∈ T.bn, X.mg x = none) (hc : X.calm = true) (gd : X.A.guards = some []) (hu : X.A.units + 66 < cLine) (h : opShape T.bn sc o e = some es) : PE X e (tRC X T o es) := by
  cases o with
  | bin b => exact sh_bin h
  | neg => exact sh_neg h
  | cmp c => exact sh_cmp hu h
  | idx => exact sh_idx h
  | fld f => exact sh_fld h
  | bi b => exact sh_bi gd hu hs hb hc h
  | isi tys => exact sh_isi hs hb h
  | rng n k => exact sh_rng hs hb hc h
  | meth m => exact sh_meth h
  | kin x ng kvs => exact sh_kin hs hk h
  | kget x kvs => exact sh_kget hs hk h
  | rev => exact sh_rev h
  | revT => exact sh_revT h
  | inK ng => exact sh_inK hu h
  | listK => exact sh_listK hs hb hc h
theorem se_op {W : WX} {ρ : Env} {o : Op} {r : R (List OT × Env)} (hk : OpK X o) (hs : X.env.scope = sc) (hb : ∀ x ∈ T.bn, X.mg x = none) (hc : X.calm = true) (gd : X.A.guards = some []) (hu : X.A.units + 66 < cLine) (h : opShape T.bn sc o e = some es) (ho : SOs X T W es ρ r) :
    SE X T W e ρ (r.bind fun p => match o.ev p.1 with
      | some t => .ok (t, p.2)
      | none => .no) := by
  intro L σ H Hs fp Q h0 k
  rw [cont_bind] at k
  refine wE_of (sh_all hk hs hb hc gd hu h) (ho L σ H Hs fp _ h0 (k.imp (fun p k vs H' Hs' fp' p1 o1 => ?_) fun _ _ x => x))
  cases hev : o.ev p.1 with
  | none => rw [hev] at k; exact k.elim
  | some t =>
    rw [hev] at k
    exact ⟨Hs', p.1, t, p1.st.ex, o1, hev, fun z H2 Hs2 ft n => k z H2 Hs2 fp' ft (p1.post (New.post p1.st n))⟩
end
end CH
end
section
namespace CH
open PySem L2 Evl PyProof.Rows

def gIs : List Nat → TGs
  | [] => gNil
  | i :: is => gCons (gName i) (gIs is)
def gT (K : PySem.W.Frag) : Tg → TG
  | .one i => gName i
  | .tup is => gTup K is.length (gIs is)
def tgNm (N : List Str) (sc : Scope) (fn : Str → Bool) (i : Nat) : Expr → Bool
  | .Name x _ => decide (N[i]? = some x) && locB sc x && (fn x || decide (sc.names.lookup x = some .local))
  | _ => false
def tgNms (N : List Str) (sc : Scope) (fn : Str → Bool) : List Nat → List Expr → Bool
  | [], [] => true
  | i :: is, e :: es => tgNm N sc fn i e && tgNms N sc fn is es
  | _, _ => false
def tgB (N : List Str) (sc : Scope) (fn : Str → Bool) : Tg → Expr → Bool
  | .one i, e => tgNm N sc fn i e
  | .tup is, .Tuple es _ _ => tgNms N sc fn is es
  | .tup _, _ => false
section
variable {X : Cx} {T : Tab} {sc : Scope}
theorem nm_pg {fn : Str → Bool} {i : Nat} {e : Expr} (nd : X.N.Nodup) (hs : X.env.scope = sc) (hf : X.fn = fn) (h : tgNm X.N sc fn i e = true) : PG X e (gName i) ∧ isStar e = false := by
  cases e with
  | Name x pos =>
    simp only [tgNm, Bool.and_eq_true, decide_eq_true_eq, Bool.or_eq_true] at h
    obtain ⟨⟨h1, h2⟩, h3⟩ := h
    refine ⟨pg_name nd h1 (loc_of hs h2) ?_, rfl⟩
    rcases h3 with h3 | h3
    · exact .inl (by rw [hf]; exact h3)
    · exact .inr (by rw [hs]; exact h3)
  | _ => cases h
theorem asg_cons {e : Expr} {es : List Expr} {env : PySem.Env} (h : isStar e = false) : assignEach (e :: es) env = (false, assign e env) :: assignEach es env := by
  cases e <;> first | rfl | cases h
theorem nms_pg {fn : Str → Bool} (nd : X.N.Nodup) (hs : X.env.scope = sc) (hf : X.fn = fn) : ∀ {is : List Nat} {es : List Expr}, tgNms X.N sc fn is es = true → PGs X es (gIs is) ∧ (assignEach es X.env).length = is.length ∧ (assignEach es X.env).findIdx? (·.1) = none
  | [], [], _ => ⟨pgs_nil, rfl, rfl⟩
  | i :: is, e :: es, h => by
    simp only [tgNms, Bool.and_eq_true] at h
    obtain ⟨h1, h2⟩ := nm_pg nd hs hf h.1
    obtain ⟨k1, k2, k3⟩ := nms_pg nd hs hf h.2
    have e1 := asg_cons (es := es) (env := X.env) h2
    refine ⟨pgs_cons h1 k1 (by rw [e1]; rfl), by rw [e1, List.length_cons, k2, List.length_cons], ?_⟩
    rw [e1, List.findIdx?_cons, k3]; rfl
  | [], _ :: _, h => by simp [tgNms] at h
  | _ :: _, [], h => by simp [tgNms] at h
theorem tg_pg {fn : Str → Bool} {tg : Tg} {e : Expr} (nd : X.N.Nodup) (hs : X.env.scope = sc) (hf : X.fn = fn) (hc : X.calm = true) (h : tgB X.N sc fn tg e = true) : PG X e (gT X.K tg) := by
  cases tg with
  | one i => exact (nm_pg nd hs hf h).1
  | tup is =>
    cases e with
    | Tuple es k pos =>
      obtain ⟨k1, k2, k3⟩ := nms_pg nd hs hf (show tgNms X.N sc fn is es = true from h)
      exact pg_tup hc k1 k2 k3
    | _ => cases h
end
section
variable {K : PySem.W.Frag} {T : Tab} {L : List Addr} {σ : L2.St} {Hs H : Hp} {fp : List Addr} {ρ ρ' : Env}
/-- a value stored at a slot -/
theorem StOk.store {i : Nat} {t : OT} {v : V} {f : List Addr} (h : StOk K T L Hs H ρ σ fp) (hi : i < ρ.length) (r : RpO K T Hs H t v f) (d : ∀ a ∈ f, a ∉ fp) (nd : f.Nodup) (nf : ∀ a ∈ f, Hs a = none) (lf : ∀ a ∈ L, a ∉ f) :
    ∃ fp', StOk K T L Hs H (ρ.set i (.ow t)) (σ.set i (some v)) fp' ∧ ∀ a ∈ fp', a ∈ f ∨ a ∈ fp := by
  obtain ⟨fr, r1, sub⟩ := h.rs.forget i none
  obtain ⟨fp', r2, pm⟩ := r1.put (i := i) (by simpa using hi) (by rw [List.getElem?_set_self hi]) r
  rw [List.set_set, List.set_set] at r2
  have mem : ∀ a ∈ fp', a ∈ f ∨ a ∈ fp := fun a ha => (List.mem_append.mp (pm.mem_iff.mp ha)).imp id fun z => sub.subset z
  exact ⟨fp', ⟨h.ex, r2, pm.nodup_iff.mpr (List.nodup_append.mpr ⟨nd, h.nd.sublist sub, fun a ha b hb e => d a ha (e ▸ sub.subset hb)⟩), fun a ha => (mem a ha).elim (nf a) (h.nf a), fun a ha hf => (mem a hf).elim (lf a ha) (h.lf a ha), h.lt⟩, mem⟩
theorem StOk.clear {i : Nat} (h : StOk K T L Hs H ρ σ fp) (x : Option V) : ∃ fp', StOk K T L Hs H (ρ.set i .no) (σ.set i x) fp' ∧ ∀ a ∈ fp', a ∈ fp := by
  obtain ⟨fr, r1, sub⟩ := h.rs.forget i x
  exact ⟨fr, ⟨h.ex, r1, h.nd.sublist sub, fun a ha => h.nf a (sub.subset ha), fun a ha hf => h.lf a ha (sub.subset hf), h.lt⟩, fun a ha => sub.subset ha⟩
theorem set1_ok {pl : List Nat} {i : Nat} {d : D} {x : V} (h : StOk K T L Hs H ρ σ fp) (r : Rp K T Hs d x) (hs : set1 pl i d ρ = some ρ') :
    ∃ fp', StOk K T L Hs H ρ' (σ.set i (some x)) fp' ∧ (∀ a ∈ fp', a ∈ fp) ∧ lks ρ' = lks ρ ∧ (∀ (t : OT), ρ[i]? ≠ some (.lk t)) ∧ i ∉ pl := by
  unfold set1 at hs
  split at hs
  · cases hs
  · rename_i s hn e
    split at hs
    · cases hs
    · rename_i hp
      cases Option.some.inj hs
      have hi := (List.getElem?_eq_some_iff.mp e).1
      obtain ⟨fp', k1, k2⟩ := h.store hi (.sh r) (fun a ha => absurd ha (by simp)) .nil (fun a ha => absurd ha (by simp)) (fun a _ ha => absurd ha (by simp))
      refine ⟨fp', k1, fun a ha => (k2 a ha).elim (fun z => absurd z (by simp)) id, lks_set e ?_, fun t q => ?_, by simpa using hp⟩
      · cases s with
        | lk t => exact (hn t rfl).elim
        | _ => rfl
      · rw [e] at q; cases q; exact hn t rfl
  · cases hs
theorem setgo_ok {pl : List Nat} : ∀ {is : List Nat} {ds : List D} {ρ ρ' : Env} {σ : L2.St} {fp : List Addr} {xs : List V}, StOk K T L Hs H ρ σ fp → Rps K T Hs ds xs → is.length = ds.length → setGo pl is ds ρ = some ρ' →
    ∃ σ' fp', StOk K T L Hs H ρ' σ' fp' ∧ (∀ a ∈ fp', a ∈ fp) ∧ lks ρ' = lks ρ ∧ (∀ j, j ∉ is → σ'[j]? = σ[j]?) ∧ (∀ j ∈ is, j ∉ pl ∧ ∀ (t : OT), ρ[j]? ≠ some (.lk t)) ∧ ∀ Q, Q σ' H → gIs is xs σ H Q
  | [], ds, ρ, ρ', σ, fp, xs, h, r, hl, hs => by
    have hd : ds = [] := List.length_eq_zero_iff.mp hl.symm
    subst hd
    cases r
    cases Option.some.inj (show some ρ = some ρ' from hs)
    exact ⟨σ, fp, h, fun a ha => ha, rfl, fun _ _ => rfl, fun j hj => absurd hj (by simp), fun Q q => ⟨rfl, q⟩⟩
  | i :: is, [], ρ, ρ', σ, fp, xs, h, r, hl, hs => by simp at hl
  | i :: is, d :: ds, ρ, ρ', σ, fp, _, h, .cons (v := x) (vs := xs) r rs, hl, hs => by
    obtain ⟨ρ1, h1, h2⟩ := Option.bind_eq_some_iff.mp (show ((set1 pl i d ρ).bind fun ρ' => setGo pl is ds ρ') = some ρ' from hs)
    obtain ⟨fp1, k1, k2, k3, k4, k5⟩ := set1_ok h r h1
    obtain ⟨σ', fp', m1, m2, m3, m4, m5, m6⟩ := setgo_ok (is := is) k1 rs (by simpa using hl) h2
    refine ⟨σ', fp', m1, fun a ha => k2 a (m2 a ha), m3.trans k3, fun j hj => ?_, fun j hj => ?_, fun Q q => ⟨x, xs, rfl, m6 Q q⟩⟩
    · rw [m4 j fun z => hj (by simp [z]), List.getElem?_set_ne fun z => hj (by simp [z])]
    · rcases List.mem_cons.mp hj with rfl | hj
      · exact ⟨k5, k4⟩
      · refine ⟨(m5 j hj).1, fun t q => ?_⟩
        have e1 : (lks ρ1)[j]? = (lks ρ)[j]? := by rw [k3]
        rw [lks_get, lks_get, q] at e1
        cases z : ρ1[j]? with
        | none => rw [z] at e1; simp at e1
        | some s =>
          rw [z] at e1
          cases s with
          | lk u => exact (m5 j hj).2 u z
          | _ => simp [lkOf] at e1
theorem setTg_ok {pl : List Nat} {tg : Tg} {d : D} {x : V} (h : StOk K T L Hs H ρ σ fp) (r : Rp K T Hs d x) (hs : setTg pl tg d ρ = some ρ') :
    ∃ σ' fp', StOk K T L Hs H ρ' σ' fp' ∧ (∀ a ∈ fp', a ∈ fp) ∧ lks ρ' = lks ρ ∧ (∀ j, j ∉ tg.slots → σ'[j]? = σ[j]?) ∧ (∀ j ∈ tg.slots, j ∉ pl ∧ ∀ (t : OT), ρ[j]? ≠ some (.lk t)) ∧ ∀ Q, Q σ' H → gT K tg x σ H Q := by
  cases tg with
  | one i =>
    obtain ⟨fp1, k1, k2, k3, k4, k5⟩ := set1_ok h r hs
    refine ⟨_, fp1, k1, k2, k3, fun j hj => List.getElem?_set_ne fun z => hj (by simp [Tg.slots, z]), fun j hj => ?_, fun Q q => q⟩
    have : j = i := by simpa [Tg.slots] using hj
    subst this
    exact ⟨k5, k4⟩
  | tup is =>
    obtain ⟨ds, h1, h2⟩ := Option.bind_eq_some_iff.mp (show (d.tupI.bind fun ds => if is.length = ds.length then setGo pl is ds ρ else none) = some ρ' from hs)
    split at h2
    · rename_i hl
      cases r with
      | tup hq rs =>
        cases Option.some.inj h1
        obtain ⟨σ', fp', m1, m2, m3, m4, m5, m6⟩ := setgo_ok h rs hl h2
        exact ⟨σ', fp', m1, m2, m3, m4, m5, fun Q q => ⟨_, _, rfl, ex_t h.ex hq, by rw [← rs.length, hl], m6 Q q⟩⟩
      | _ => cases h1
    · cases h2
/-- a comprehension's own slots are cleared -/
theorem wipe_ok : ∀ {vs : List Nat} {ρ : Env} {σ : L2.St} {fp : List Addr}, StOk K T L Hs H ρ σ fp → ∃ fp', StOk K T L Hs H (wipeE ρ vs) (wipe σ vs) fp' ∧ ∀ a ∈ fp', a ∈ fp
  | [], ρ, σ, fp, h => ⟨fp, h, fun _ ha => ha⟩
  | v :: vs, ρ, σ, fp, h => by
    obtain ⟨fp1, k1, k2⟩ := wipe_ok (vs := vs) h
    obtain ⟨fp2, k3, k4⟩ := k1.clear (i := v) none
    exact ⟨fp2, k3, fun a ha => k2 a (k4 a ha)⟩
theorem wipe_eq {σ σ' : L2.St} : ∀ {vs : List Nat}, σ.length = σ'.length → (∀ j, j ∉ vs → σ'[j]? = σ[j]?) → wipe σ' vs = wipe σ vs := by
  intro vs hl h
  apply List.ext_getElem?
  intro j
  by_cases hj : j ∈ vs
  · have g : ∀ (τ : L2.St) (vs : List Nat), j ∈ vs → j < τ.length → (wipe τ vs)[j]? = some none := by
      intro τ vs
      induction vs with
      | nil => intro h; exact absurd h (by simp)
      | cons v vs ih =>
        intro hm hlt
        unfold wipe
        by_cases e : v = j
        · subst e; rw [List.getElem?_set_self (by rw [wipe_length]; exact hlt)]
        · rw [List.getElem?_set_ne e]
          rcases List.mem_cons.mp hm with z | z
          · exact absurd z.symm e
          · exact ih z hlt
    by_cases hlt : j < σ.length
    · rw [g σ vs hj hlt, g σ' vs hj (by omega)]
    · rw [List.getElem?_eq_none (by rw [wipe_length]; omega), List.getElem?_eq_none (by rw [wipe_length]; omega)]
  · have g : ∀ (τ : L2.St) (vs : List Nat), j ∉ vs → (wipe τ vs)[j]? = τ[j]? := by
      intro τ vs
      induction vs with
      | nil => intro _; rfl
      | cons v vs ih =>
        intro hm
        unfold wipe
        rw [List.getElem?_set_ne fun z => hm (by simp [z])]
        exact ih fun z => hm (by simp [z])
    rw [g σ' vs hj, g σ vs hj, h j hj]
theorem wipe_out2 {σ : L2.St} {j : Nat} : ∀ {vs : List Nat}, j ∉ vs → (wipe σ vs)[j]? = σ[j]?
  | [], _ => rfl
  | v :: vs, hm => by
    unfold wipe
    rw [List.getElem?_set_ne fun z => hm (by simp [z])]
    exact wipe_out2 fun z => hm (by simp [z])
theorem lks_wipe : ∀ {vs : List Nat} {ρ : Env}, (∀ v ∈ vs, ∀ (t : OT), ρ[v]? ≠ some (.lk t)) → lks (wipeE ρ vs) = lks ρ
  | [], ρ, _ => rfl
  | v :: vs, ρ, h => by
    unfold wipeE
    have ih := lks_wipe (vs := vs) (ρ := ρ) fun w hw => h w (by simp [hw])
    rw [← ih]
    by_cases hv : v < (wipeE ρ vs).length
    · refine lks_set (x := (wipeE ρ vs)[v]) (List.getElem?_eq_getElem hv) ?_
      have e : (lks (wipeE ρ vs))[v]? = (lks ρ)[v]? := by rw [ih]
      rw [lks_get, lks_get, List.getElem?_eq_getElem hv] at e
      cases z : (wipeE ρ vs)[v] with
      | lk t =>
        rw [z] at e
        cases y : ρ[v]? with
        | none => rw [y] at e; simp at e
        | some s =>
          rw [y] at e
          cases s with
          | lk u => exact absurd y (h v (by simp) u)
          | _ => simp [lkOf] at e
      | _ => rfl
    · rw [List.set_eq_of_length_le (by omega)]
/-- what the own slots held ahead of the block is there again behind it -/
theorem patch_rs {Hs0 H0 : Hp} : ∀ {m : Nat → Bool} {ρ0 ρ : Env} {σ τ : L2.St} {fp0 fp : List Addr}, RpS K T Hs0 H0 L ρ0 σ fp0 → RpS K T Hs H L ρ τ fp → Ex Hs0 Hs → (∀ j, m j = true → ∀ s, ρ0[j]? = some s → quietSl s = true) → (∀ j, m j = true → ∀ s, ρ[j]? = some s → s = .no) →
    (∀ j, m j = false → τ[j]? = σ[j]?) → ρ.length = ρ0.length → RpS K T Hs H L (patch m ρ0 ρ) σ fp
  | m, _, _, _, _, _, _, .nil, .nil, _, _, _, _, _ => .nil
  | m, s0 :: ρ0, s :: ρ, x :: σ, y :: τ, _, _, r0, r, ex, hq, hn, hv, hl => by
    have tl : ∀ {σ0 : L2.St} {f0 f : List Addr}, RpS K T Hs0 H0 L ρ0 σ f0 → RpS K T Hs H L ρ τ f → RpS K T Hs H L (patch (fun j => m (j + 1)) ρ0 ρ) σ f := fun a b =>
      patch_rs a b ex (fun j h s e => hq (j + 1) h s (by simpa using e)) (fun j h s e => hn (j + 1) h s (by simpa using e)) (fun j h => by simpa using hv (j + 1) h) (by simpa using hl)
    unfold patch
    cases hm : m 0 with
    | true =>
      have e1 := hn 0 hm s (by simp)
      have e2 := hq 0 hm s0 (by simp)
      subst e1
      rw [if_pos rfl]
      cases r with
      | no r =>
        cases r0 with
        | no r0 => exact .no (tl (σ0 := σ) r0 r)
        | ow h0 r0 =>
          cases h0 with
          | sh h0 => exact RpS.ow (f := []) (.sh (h0.mono ex)) (tl (σ0 := σ) r0 r)
          | lst => cases e2
          | obj => cases e2
        | lk => cases e2
    | false =>
      have e1 : y = x := by simpa using hv 0 hm
      subst e1
      rw [if_neg (by simp)]
      have t0 : ∃ f0, RpS K T Hs0 H0 L ρ0 σ f0 := by
        cases r0 with
        | no r0 => exact ⟨_, r0⟩
        | ow h0 r0 => exact ⟨_, r0⟩
        | lk h0 l0 r0 => exact ⟨_, r0⟩
      obtain ⟨f0, t0⟩ := t0
      cases r with
      | no r => exact .no (tl (σ0 := σ) t0 r)
      | ow h r => exact .ow h (tl (σ0 := σ) t0 r)
      | lk h l r => exact .lk h l (tl (σ0 := σ) t0 r)
  | _, [], _ :: _, _, _, _, _, _, _, _, _, _, _, hl => by simp at hl
  | _, _ :: _, [], _, _, _, _, _, _, _, _, _, _, hl => by simp at hl
theorem lks_patch : ∀ {m : Nat → Bool} {ρ0 ρ : Env}, lks ρ = lks ρ0 → lks (patch m ρ0 ρ) = lks ρ0
  | m, [], [], _ => rfl
  | m, a :: as, b :: bs, h => by
    have h' : lkOf b = lkOf a ∧ lks bs = lks as := by simpa [lks] using h
    unfold patch
    show lkOf (if m 0 = true then a else b) :: lks (patch _ as bs) = lkOf a :: lks as
    rw [lks_patch h'.2]
    cases m 0 <;> simp [h'.1]
  | m, [], b :: bs, h => by simp [lks] at h
  | m, a :: as, [], h => by simp [lks] at h
theorem wipeE_get {ρ : Env} {j : Nat} : ∀ {vs : List Nat}, j ∈ vs → ∀ s, (wipeE ρ vs)[j]? = some s → s = .no
  | v :: vs, hj, s, e => by
    unfold wipeE at e
    by_cases hv : v = j
    · subst hv
      obtain ⟨hi, e2⟩ := List.getElem?_eq_some_iff.mp e
      rw [List.getElem_set_self] at e2
      exact e2.symm
    · rw [List.getElem?_set_ne hv] at e
      rcases List.mem_cons.mp hj with z | z
      · exact absurd z.symm hv
      · exact wipeE_get z s e
theorem wipeE_len {ρ : Env} : ∀ {vs : List Nat}, (wipeE ρ vs).length = ρ.length
  | [] => rfl
  | v :: vs => by unfold wipeE; rw [List.length_set, wipeE_len]
/-- a tracked object that no name owns is changed -/
theorem StOk.upd {D : Addr} {o : HO} (h : StOk K T L Hs H ρ σ fp) (n : D ∉ fp) (nl : D ∉ L) (ns : Hs D = none) : StOk K T L Hs (upd H D o) ρ σ fp :=
  ⟨h.ex.mut ns, h.rs.step (Ex.refl _) (fun _ q => q) fun a ha u q => by
    rw [upd_ne (fun z => by subst z; exact ha.elim n nl)]; exact q, h.nd, h.nf, h.lf, fun a ha => ⟨by
    obtain ⟨u, q⟩ := (h.lt a ha).1
    exact ⟨u, by rw [upd_ne (fun z => by subst z; exact nl ha)]; exact q⟩, (h.lt a ha).2⟩⟩
end

/-- J gives the items ds, while P holds -/
structure Walk (K : PySem.W.Frag) (T : Tab) (J : It) (ds : List D) (P : Hp → Hp → List Addr → Prop) : Prop where
  keep : ∀ {H Hs fp H' Hs' fp'}, P H Hs fp → Stp fp H Hs fp' H' Hs' → P H' Hs' fp'
  go : ∀ {i d H Hs fp}, P H Hs fp → Ex Hs H → ds[i]? = some d → J.go i H ∧ ∀ x H', J.yld i H x H' → ∃ Hs', New K T Hs H (.sh d) x H' Hs' []
  stop : ∀ {H Hs fp}, P H Hs fp → Ex Hs H → J.stop ds.length H
/-- the state in which a walk is done, and the way back from it -/
structure Opn (K : PySem.W.Frag) (T : Tab) (L : List Addr) (σ : L2.St) (Hs H : Hp) (fp : List Addr) (ρ : Env) (bk : Env → Env) (L' : List Addr) (ρ' : Env) (H' Hs' : Hp) (fp' : List Addr) : Prop where
  st : StOk K T L' Hs' H' ρ' σ fp'
  back : ∀ {ρ2 : Env} {σ2 : L2.St} {H2 Hs2 : Hp} {fp2 : List Addr} (F : List Addr), (∀ x ∈ F, x ∉ L') → StOk K T L' Hs2 H2 ρ2 σ2 fp2 → Stp (F ++ fp') H' Hs' fp2 H2 Hs2 → lks ρ2 = lks ρ' → (∀ (j : Nat) (u : OT), ρ'[j]? = some (.lk u) → σ2[j]? = σ[j]?) → ∃ fp3, StOk K T L Hs2 H2 (bk ρ2) σ2 fp3 ∧ Stp (F ++ fp) H Hs fp3 H2 Hs2 ∧ lks (bk ρ2) = lks ρ ∧ ∀ x ∈ fp3, x ∈ fp2 ∨ ((∃ o, H' x = some o) ∧ x ∉ fp' ∧ x ∈ L')
  nw : ∀ x, x ∈ fp' ∨ H' x = none → x ∈ fp ∨ H x = none
  nl : ∀ x ∈ L, x ∈ L'
  lw : ∀ x ∈ L', x ∈ L ∨ x ∈ fp
  lkp : ∀ (j : Nat) (u : OT), ρ[j]? = some (.lk u) → ρ'[j]? = some (.lk u)
  len : ρ'.length = ρ.length
/-- an iterable -/
def SI (X : Cx) (T : Tab) (W : WX) (wi : TI) (ρ : Env) (bk : Env → Env) (r : R (List D × Env)) : Prop := ∀ (L : List Addr) (σ : L2.St) (H Hs : Hp) (fp F : List Addr) (R : It → Hp → Prop), StOk X.K T L Hs H ρ σ fp → (∀ a ∈ F, (∃ o, H a = some o) ∧ a ∉ fp ∧ a ∉ L) →
  Cont r (fun p => ∀ J P L' H' Hs' fp', Walk X.K T J p.1 P → P H' Hs' (F ++ fp') → Opn X.K T L σ Hs H fp ρ bk L' p.2 H' Hs' fp' → R J H') (XOk X.K T L σ Hs H fp ρ W) → wi σ H R
section
variable {K : PySem.W.Frag} {T : Tab} {L : List Addr} {σ : L2.St} {Hs H H' Hs' : Hp} {fp fp' : List Addr} {ρ ρ' : Env}
theorem Stp.back (s : Stp fp H Hs fp' H' Hs') (x : Addr) (h : x ∈ fp' ∨ H' x = none) : x ∈ fp ∨ H x = none := by
  rcases h with h | h
  · exact s.nw x h
  · by_cases q : x ∈ fp
    · exact .inl q
    · cases e : H x with
      | none => exact .inr rfl
      | some o => rw [s.fr x o e q] at h; cases h
theorem lks_lk {ρ ρ' : Env} (h : lks ρ' = lks ρ) {j : Nat} {u : OT} (e : ρ[j]? = some (.lk u)) : ρ'[j]? = some (.lk u) := by
  have e1 : (lks ρ')[j]? = (lks ρ)[j]? := by rw [h]
  rw [lks_get, lks_get, e] at e1
  cases z : ρ'[j]? with
  | none => rw [z] at e1; simp at e1
  | some s =>
    rw [z] at e1
    cases s with
    | lk t => simp [lkOf] at e1; rw [e1]
    | _ => simp [lkOf] at e1
theorem lks_len {ρ ρ' : Env} (h : lks ρ' = lks ρ) : ρ'.length = ρ.length := by have := congrArg List.length h; simpa [lks] using this
theorem Pst.opn (p : Pst K T L σ Hs H fp ρ ρ' H' Hs' fp') : Opn K T L σ Hs H fp ρ id L ρ' H' Hs' fp' := ⟨p.st, fun {ρ2 σ2 H2 Hs2 fp2} F _ st sp lk _ => ⟨fp2, st, (p.sp.wider (fp2 := F ++ fp) (fun x hx => by simp [hx]) F fun x hx => by simp [hx]).trans sp, lk.trans p.lk, fun _ h => .inl h⟩, p.sp.back, fun _ h => h, fun _ h => .inl h, fun j u => lks_lk p.lk, lks_len p.lk⟩
/-- where items lie -/
def SrcP (K : PySem.W.Frag) (T : Tab) (t : OT) (a : Addr) (H Hs : Hp) (fp : List Addr) : Prop := ∃ f, RpO K T Hs H t (.ref a) f ∧ ∀ b ∈ f, b ∉ fp
theorem SrcP.keep {t : OT} {a : Addr} (h : SrcP K T t a H Hs fp) (s : Stp fp H Hs fp' H' Hs') : SrcP K T t a H' Hs' fp' := by
  obtain ⟨f, r, d⟩ := h
  exact ⟨f, r.keep d s, fun b hb => s.out (r.tracked b hb) (d b hb)⟩
def OT.isTup : OT → Bool
  | .sh (.tup _) => true
  | _ => false
theorem items_tup {t : OT} {ds : List D} {a : Addr} {f : List Addr} (e : Ex Hs H) (h : RpO K T Hs H t (.ref a) f) (hl : t.items = some ds) : (t.isTup = true → ∃ vs, SqT K H a vs ∧ Rps K T Hs ds vs) ∧ (t.isTup = false → ∃ vs, SqL K H a vs ∧ Rps K T Hs ds vs) := by
  cases h with
  | sh h =>
    cases h with
    | lst h r => cases Option.some.inj hl; exact ⟨fun z => (by cases z), fun _ => ⟨_, sq_of (e _ _ h), r⟩⟩
    | flst h r => cases Option.some.inj hl; exact ⟨fun z => (by cases z), fun _ => ⟨_, ex_l e h, r⟩⟩
    | tup h r => cases Option.some.inj hl; exact ⟨fun _ => ⟨_, ex_t e h, r⟩, fun z => (by cases z)⟩
    | _ => simp [OT.items] at hl
  | lst h r =>
    obtain ⟨r1, rfl⟩ := r.leaves (show leaves _ = some ds from hl)
    exact ⟨fun z => (by cases z), fun _ => ⟨_, sq_of h, r1⟩⟩
  | obj h c r => simp [OT.items] at hl
theorem walk_list {t : OT} {ds : List D} {a : Addr} (hl : t.items = some ds) (hk : t.isTup = false) : Walk K T (Itl K a) ds (SrcP K T t a) where
  keep := fun h s => h.keep s
  go := by
    intro i d H Hs fp ⟨f, r, _⟩ e hd
    obtain ⟨vs, q1, q2⟩ := (items_tup e r hl).2 hk
    obtain ⟨v, h1, h2⟩ := q2.get hd
    refine ⟨⟨vs, v, q1, h1⟩, fun x H' y => ?_⟩
    obtain ⟨rfl, y⟩ := y
    have := y vs q1
    rw [h1] at this
    cases this
    exact ⟨Hs, New.val e h2⟩
  stop := by
    intro H Hs fp ⟨f, r, _⟩ e
    obtain ⟨vs, q1, q2⟩ := (items_tup e r hl).2 hk
    exact ⟨vs, q1, by rw [q2.length]; exact Nat.le_refl _⟩
theorem walk_tup {t : OT} {ds : List D} {a : Addr} (hl : t.items = some ds) (hk : t.isTup = true) : Walk K T (Itt K a) ds (SrcP K T t a) where
  keep := fun h s => h.keep s
  go := by
    intro i d H Hs fp ⟨f, r, _⟩ e hd
    obtain ⟨vs, q1, q2⟩ := (items_tup e r hl).1 hk
    obtain ⟨v, h1, h2⟩ := q2.get hd
    refine ⟨⟨vs, v, q1, h1⟩, fun x H' y => ?_⟩
    obtain ⟨rfl, y⟩ := y
    have := y vs q1
    rw [h1] at this
    cases this
    exact ⟨Hs, New.val e h2⟩
  stop := by
    intro H Hs fp ⟨f, r, _⟩ e
    obtain ⟨vs, q1, q2⟩ := (items_tup e r hl).1 hk
    exact ⟨vs, q1, by rw [q2.length]; exact Nat.le_refl _⟩
theorem walk_rng {lo : Int} {n : Nat} : Walk K T (Itr lo n) ((List.range n).map fun i => .int (lo + (i : Nat))) (fun _ _ _ => True) where
  keep := fun _ _ => trivial
  go := by
    intro i d H Hs fp _ e hd
    obtain ⟨j, h1, rfl⟩ := by rw [List.getElem?_map] at hd; exact Option.map_eq_some_iff.mp hd
    obtain ⟨h3, h2⟩ := List.getElem?_eq_some_iff.mp h1
    rw [List.getElem_range] at h2
    subst h2
    rw [List.length_range] at h3
    clear h1
    have h1 := h3
    refine ⟨h1, fun x H' y => ?_⟩
    obtain ⟨rfl, rfl⟩ := y
    exact ⟨Hs, New.val e (.int _)⟩
  stop := by
    intro H Hs fp _ e
    show n ≤ _
    simp
end
section
variable {X : Cx} {T : Tab} {W : WX} {sc : Scope} {tg e : Expr}
/-- a list or a tuple -/
def iSeq (X : Cx) (e : Expr) : TI := fun σ H R => wE X e σ H fun x H1 => ∃ a, x = .ref a ∧ ((∃ xs, SqL X.K H1 a xs) ∧ R (Itl X.K a) H1 ∨ (∃ xs, SqT X.K H1 a xs) ∧ R (Itt X.K a) H1)
theorem pi_seq : PI X tg e (iSeq X e) := by
  refine ⟨fun pins s σ H R I h => ?_⟩
  refine thn (h pins s I) fun v s1 ⟨x, H1, I1, r1, q1⟩ => ?_
  obtain ⟨a, ex, q⟩ := q1
  subst ex
  cases r1
  rcases q with ⟨⟨xs, hq⟩, q⟩ | ⟨⟨xs, hq⟩, q⟩
  · obtain ⟨its, rv, p, hz⟩ := I1.list hq
    refine wpAny_pyIter_list p.isList ?_
    refine ⟨s1.heap.objs.size, [s1.heap.objs.size], _, _, H1, rfl, I1.kept (t' := s1.toks) fun b o e => Heap.get?_push_of_some _ e, turn_list a _, ⟨_, Heap.get?_push_size _ rfl, rfl, rfl⟩, fun b hb => ?_, q⟩
    have e : b = s1.heap.objs.size := by simpa using hb
    subst e
    exact I1.fpOk (Nat.le_refl _) (I1.hok.fresh (Nat.le_refl _))
  · obtain ⟨its, rv, p, hz⟩ := I1.tuple hq
    refine wpAny_pyIter_tuple (show s1.heap.IsTuple a its.toArray from p) ?_
    refine ⟨s1.heap.objs.size, [s1.heap.objs.size], _, _, H1, rfl, I1.kept (t' := s1.toks) fun b o e => Heap.get?_push_of_some _ e, turn_tuple a _, ⟨_, Heap.get?_push_size _ rfl, rfl, rfl⟩, fun b hb => ?_, q⟩
    have e : b = s1.heap.objs.size := by simpa using hb
    subst e
    exact I1.fpOk (Nat.le_refl _) (I1.hok.fresh (Nat.le_refl _))
theorem src_walk {J : It → Hp → Prop} {t : OT} {ds : List D} {x : V} {f : List Addr} {H Hs : Hp} {fp : List Addr} (ex : Ex Hs H) (r : RpO X.K T Hs H t x f) (d : ∀ a ∈ f, a ∉ fp) (hl : t.items = some ds) (k : ∀ J' P, Walk X.K T J' ds P → P H Hs fp → J J' H) :
    ∃ a, x = .ref a ∧ ((∃ xs, SqL X.K H a xs) ∧ J (Itl X.K a) H ∨ (∃ xs, SqT X.K H a xs) ∧ J (Itt X.K a) H) := by
  obtain ⟨a, vs, rfl, _⟩ := opd_items ex ⟨f, r⟩ hl
  refine ⟨a, rfl, ?_⟩
  cases hk : t.isTup with
  | false =>
    obtain ⟨vs, q1, q2⟩ := (items_tup ex r hl).2 hk
    exact .inl ⟨⟨vs, q1⟩, k _ _ (walk_list hl hk) ⟨f, r, d⟩⟩
  | true =>
    obtain ⟨vs, q1, q2⟩ := (items_tup ex r hl).1 hk
    exact .inr ⟨⟨vs, q1⟩, k _ _ (walk_tup hl hk) ⟨f, r, d⟩⟩
theorem si_e {ρ : Env} {r : R (OT × Env)} (he : SE X T W e ρ r) : SI X T W (iSeq X e) ρ id (r.bind fun p => match p.1.items with
    | some ds => .ok (ds, p.2)
    | none => .no) := by
  intro L σ H Hs fp F R h hF k
  rw [cont_bind] at k
  refine he L σ H Hs fp _ h (k.imp (fun p k v H1 Hs1 fp1 ft p1 => ?_) fun _ _ x => x)
  cases hl : p.1.items with
  | none => rw [hl] at k; exact k.elim
  | some ds =>
    rw [hl] at k
    have d := List.nodup_append.mp p1.nd
    exact src_walk (J := R) (fp := F ++ fp1) p1.st.ex p1.rp (fun a ha hf => by
      rcases List.mem_append.mp hf with hf | hf
      · rcases p1.sp.nw a (by simp [ha]) with z | z
        · exact (hF a hf).2.1 z
        · obtain ⟨o, q⟩ := (hF a hf).1; rw [q] at z; cases z
      · exact d.2.2 a ha a hf rfl) hl fun J P w hp => k J P L H1 Hs1 fp1 w hp p1.pst.opn
theorem walk_keys {K : PySem.W.Frag} {T : Tab} {ds : List D} {vs : List V} {a : Addr} {o : Obj} (hl : (prK vs).length = (evens ds).length) (hk : ∀ (i : Nat) (d : D), (evens ds)[i]? = some d → ∃ (k : Int) (v : V), (prK vs)[i]? = some (.inl k, v) ∧ d = .int k) :
    Walk K T (Itk a o (prK vs)) (evens ds) (fun _ Hs _ => Hs a = some (.frz o (.dK (prK vs)))) where
  keep := fun h s => s.ex _ _ h
  go := by
    intro i d H Hs fp h e hd
    obtain ⟨k, v, h1, rfl⟩ := hk i d hd
    refine ⟨⟨e _ _ h, (List.getElem?_eq_some_iff.mp h1).1⟩, fun x H' y => ?_⟩
    obtain ⟨rfl, k', v', y1, rfl⟩ := y
    rw [h1] at y1
    cases y1
    exact ⟨Hs, New.val e (.int _)⟩
  stop := fun h e => ⟨e _ _ h, Nat.le_of_eq hl⟩
theorem si_keys {ρ : Env} {r : R (OT × Env)} (he : SE X T W e ρ r) : SI X T W (iKeys (wE X e)) ρ id (r.bind fun p => match p.1 with
    | .sh (.dct ds) => .ok (evens ds, p.2)
    | _ => .no) := by
  intro L σ H Hs fp F R h hF k
  rw [cont_bind] at k
  refine he L σ H Hs fp _ h (k.imp (fun p k v H1 Hs1 fp1 ft p1 => ?_) fun _ _ x => x)
  split at k
  · rename_i ds hp
    obtain ⟨a, o, vs, rfl, h1, h2, h3⟩ := opd_dct ⟨_, hp ▸ p1.rp⟩
    obtain ⟨l1, l2, _, _⟩ := prK_keys h2 h3
    exact ⟨a, o, rfl, .inl ⟨prK vs, p1.st.ex _ _ h1, k _ _ L H1 Hs1 fp1 (walk_keys l1 l2) h1 p1.pst.opn⟩⟩
  · exact k.elim
theorem si_bor {ρ : Env} {i : Nat} {p : List Str} (hs : X.env.scope = sc) (hp : pathB X.N sc i p e = true) : SI X T W (iSeq X e) ρ (fun ρ2 => unlock ρ ρ2 i) (match ((ρ.tree i).bind fun r => r.getP p).bind OT.items with
    | some ds => .ok (ds, lock ρ i)
    | none => .no) := by
  intro L σ H Hs fp F R h hF k
  cases hq : ((Env.tree ρ i).bind fun r => r.getP p).bind OT.items with
  | none => rw [hq] at k; exact k.elim
  | some ds =>
    rw [hq] at k
    obtain ⟨t, ht, hl⟩ := Option.bind_eq_some_iff.mp hq
    obtain ⟨r, h1, h2⟩ := Option.bind_eq_some_iff.mp ht
    unfold Env.tree at h1
    split at h1
    · rename_i r' e0
      cases Option.some.inj h1
      obtain ⟨x, f, fr, l1, l2, l3, l4⟩ := h.locked e0
      obtain ⟨v, g, r1, r2, _, r3⟩ := path_read hs h.ex l1 l2 hp h2
      have eL : lock ρ i = ρ.set i (.lk r) := by unfold lock; rw [e0]
      have hi := (List.getElem?_eq_some_iff.mp e0).1
      refine r3 _ (src_walk (J := R) (fp := F ++ fr) h.ex r1 (fun a ha hf => by
        rcases List.mem_append.mp hf with hf | hf
        · exact (hF a hf).2.1 (l3.mem_iff.mpr (by simp [r2 a ha]))
        · exact l4.lf a (by simp [r2 a ha]) hf) hl fun J P w hp => k J P (f ++ L) H Hs fr w hp ?_)
      show Opn X.K T L σ Hs H fp ρ (fun ρ2 => unlock ρ ρ2 i) (f ++ L) (lock ρ i) H Hs fr
      rw [eL]
      refine ⟨l4, fun {ρ2 σ2 H2 Hs2 fp2} F hF st sp lk hv => ?_, fun x hx => hx.imp (fun z => l3.mem_iff.mpr (by simp [z])) id, fun x hx => by simp [hx], fun x hx => (List.mem_append.mp hx).symm.imp id fun z => l3.mem_iff.mpr (by simp [z]), fun j u q => by rw [List.getElem?_set_ne fun z => by subst z; rw [e0] at q; cases q]; exact q, by simp⟩
      have eU : unlock ρ ρ2 i = ρ2.set i (.ow r) := by unfold unlock; rw [e0]
      rw [eU]
      obtain ⟨fp3, u1, u2, u3, u4⟩ := Pst.unlocked (F := F) h e0 l1 l2 l3 l4 st sp hF lk (fun j u q => by
        refine hv j u ?_
        rw [List.getElem?_set_ne fun z => by subst z; rw [e0] at q; cases q]
        exact q) (hv i r (by rw [List.getElem?_set_self hi]))
      have nd := List.nodup_append.mp (l3.nodup_iff.mp h.nd)
      exact ⟨fp3, u1, u2, u3, fun x hx => (u4 x hx).symm.imp id fun z => ⟨l2.tracked x z, fun w => nd.2.2 x z x w rfl, by simp [z]⟩⟩
    · rename_i r' e0
      cases Option.some.inj h1
      have eL : lock ρ i = ρ := by unfold lock; rw [e0]
      obtain ⟨x, f, l1, l2, l3⟩ := h.rs.readLk e0
      obtain ⟨v, g, r1, r2, _, r3⟩ := path_read hs h.ex l1 l2 hp h2
      refine r3 _ (src_walk (J := R) (fp := F ++ fp) h.ex r1 (fun a ha hf => by
        rcases List.mem_append.mp hf with hf | hf
        · exact (hF a hf).2.2 (l3 a (r2 a ha))
        · exact h.lf a (l3 a (r2 a ha)) hf) hl fun J P w hp => k J P L H Hs fp w hp ?_)
      show Opn X.K T L σ Hs H fp ρ (fun ρ2 => unlock ρ ρ2 i) L (lock ρ i) H Hs fp
      rw [eL]
      have eU : ∀ ρ2, unlock ρ ρ2 i = ρ2 := fun ρ2 => by unfold unlock; rw [e0]
      exact ⟨h, fun {ρ2 σ2 H2 Hs2 fp2} F hF st sp lk hv => ⟨fp2, by rw [eU]; exact st, sp, by rw [eU]; exact lk, fun _ h => .inl h⟩, fun x hx => hx, fun _ h => h, fun _ h => .inl h, fun _ _ q => q, rfl⟩
    · cases h1
end
end CH
end
section
namespace CH
open PySem L2 Evl PyProof.Rows

theorem Stp.updD {F : List Addr} {H Hs : Hp} {D : Addr} {o : HO} (hD : D ∈ F) : Stp F H Hs F (upd H D o) Hs := ⟨Ex.refl _, fun a u q n => by rw [upd_ne (fun z => by subst z; exact n hD)]; exact q, fun _ h => .inl h, fun _ _ q => .inl q⟩
/-- what is gathered at D beside a state; from H1, Hs1, fp1 -/
structure Acc (mk : List V → HO) (K : PySem.W.Frag) (T : Tab) (P : Hp → Hp → List Addr → Prop) (L : List Addr) (H1 Hs1 : Hp) (fp1 : List Addr) (D : Addr) (σ : L2.St) (ρ : Env) (H Hs : Hp) (fp : List Addr) (acc : List OT) (vs : List V) (ft : List Addr) : Prop where
  st : StOk K T L Hs H ρ σ fp
  hp : P H Hs (D :: (ft ++ fp))
  hD : H D = some (mk vs)
  ra : RpOs K T Hs H acc vs ft
  nd : (D :: (ft ++ fp)).Nodup
  nf : ∀ a ∈ D :: ft, Hs a = none
  nl : ∀ a ∈ L, a ∉ D :: ft
  sp : Stp fp1 H1 Hs1 (D :: (ft ++ fp)) H Hs
section
variable {K : PySem.W.Frag} {T : Tab} {P : Hp → Hp → List Addr → Prop} {L : List Addr} {H1 Hs1 : Hp} {fp1 : List Addr} {D : Addr} {σ σ' : L2.St} {ρ ρ' : Env} {H Hs H' Hs' : Hp} {fp fp' : List Addr} {acc : List OT} {vs : List V} {ft : List Addr} {mk : List V → HO}
theorem Acc.held (a : Acc mk K T P L H1 Hs1 fp1 D σ ρ H Hs fp acc vs ft) : ∀ b ∈ D :: ft, (∃ o, H b = some o) ∧ b ∉ fp := fun b hb => by
  have d := List.nodup_append.mp (show ((D :: ft) ++ fp).Nodup from a.nd)
  refine ⟨?_, fun hf => d.2.2 b hb b hf rfl⟩
  rcases List.mem_cons.mp hb with rfl | hb
  · exact ⟨_, a.hD⟩
  · exact a.ra.tracked b hb
theorem Acc.next (keep : ∀ {H Hs fp H' Hs' fp'}, P H Hs fp → Stp fp H Hs fp' H' Hs' → P H' Hs' fp') (a : Acc mk K T P L H1 Hs1 fp1 D σ ρ H Hs fp acc vs ft) (st : StOk K T L Hs' H' ρ' σ' fp') (s : Stp fp H Hs fp' H' Hs') : Acc mk K T P L H1 Hs1 fp1 D σ' ρ' H' Hs' fp' acc vs ft := by
  have hh := a.held
  have w : Stp (D :: (ft ++ fp)) H Hs (D :: (ft ++ fp')) H' Hs' := s.wider (fp2 := D :: (ft ++ fp)) (fun x hx => by simp [hx]) (D :: ft) (fun x hx => by
    rcases List.mem_cons.mp hx with rfl | hx
    · simp
    · simp [hx])
  have d := List.nodup_append.mp (show ((D :: ft) ++ fp).Nodup from a.nd)
  refine ⟨st, keep a.hp w, s.fr D _ a.hD (hh D (by simp)).2, a.ra.keep (fun b hb => (hh b (by simp [hb])).2) s, ?_, fun b hb => s.outHs (hh b hb).1 (hh b hb).2 (a.nf b hb), a.nl, a.sp.trans w⟩
  show ((D :: ft) ++ fp').Nodup
  exact List.nodup_append.mpr ⟨d.1, st.nd, fun b hb c hc e => s.out (hh b hb).1 (hh b hb).2 (e ▸ hc)⟩
theorem Acc.push {t : OT} {y : V} {gt : List Addr} {H2 Hs2 : Hp} {fp2 : List Addr} {ρ2 : Env} (keep : ∀ {H Hs fp H' Hs' fp'}, P H Hs fp → Stp fp H Hs fp' H' Hs' → P H' Hs' fp') (a : Acc .lst K T P L H1 Hs1 fp1 D σ ρ H Hs fp acc vs ft) (p : Post K T L σ Hs H fp ρ t ρ2 y H2 Hs2 fp2 gt) :
    Acc .lst K T P L H1 Hs1 fp1 D σ ρ2 (upd H2 D (.lst (vs ++ [y]))) Hs2 fp2 (acc ++ [t]) (vs ++ [y]) (ft ++ gt) ∧ H2 D = some (.lst vs) := by
  have b := Acc.next (mk := .lst) (P := P) keep a p.st p.pst.sp
  have hh := a.held
  have hb := b.held
  have pd := List.nodup_append.mp p.nd
  have gn : ∀ x ∈ gt, x ∉ D :: ft := fun x hx hf => by
    rcases p.sp.nw x (by simp [hx]) with z | z
    · exact (hh x hf).2 z
    · obtain ⟨o, q⟩ := (hh x hf).1; rw [q] at z; cases z
  have gD : ∀ x ∈ gt, x ≠ D := fun x hx e => gn x hx (by simp [e])
  have dn := List.nodup_append.mp (show ((D :: ft) ++ fp2).Nodup from b.nd)
  have fD : D ∉ fp2 := (hb D (by simp)).2
  have nd2 : (D :: ((ft ++ gt) ++ fp2)).Nodup := by
    have e : (D :: ((ft ++ gt) ++ fp2)) = (D :: ft) ++ (gt ++ fp2) := by simp
    rw [e]
    exact List.nodup_append.mpr ⟨dn.1, p.nd, fun x hx y hy q => by
      subst q
      rcases List.mem_append.mp hy with hy | hy
      · exact gn x hy hx
      · exact (hb x hx).2 hy⟩
  have w : Stp (D :: (ft ++ fp)) H Hs (D :: (ft ++ gt ++ fp2)) H2 Hs2 := by
    have w0 := p.sp.wider (fp2 := D :: (ft ++ fp)) (fun x hx => by simp [hx]) (D :: ft) (fun x hx => by
      rcases List.mem_cons.mp hx with rfl | hx
      · simp
      · simp [hx])
    refine w0.sub fun x hx => ?_
    simp only [List.mem_cons, List.mem_append] at hx ⊢
    rcases hx with hx | (hx | hx) | hx
    · exact .inl (.inl hx)
    · exact .inl (.inr hx)
    · exact .inr (.inl hx)
    · exact .inr (.inr hx)
  have w2 := w.trans (Stp.updD (D := D) (o := .lst (vs ++ [y])) (F := D :: (ft ++ gt ++ fp2)) (by simp))
  refine ⟨⟨p.st.upd fD (fun h => b.nl D h (by simp)) (b.nf D (by simp)), keep a.hp w2, upd_same, ?_, nd2, fun x hx => ?_, fun x hx hm => ?_, a.sp.trans w2⟩, b.hD⟩
  · have r1 : RpOs K T Hs2 (upd H2 D (.lst (vs ++ [y]))) acc vs ft := b.ra.step (Ex.refl _) fun x hx o q => by
      rw [upd_ne (fun z => by subst z; exact (List.nodup_cons.mp dn.1).1 hx)]; exact q
    have r2 : RpO K T Hs2 (upd H2 D (.lst (vs ++ [y]))) t y gt := p.rp.step (Ex.refl _) fun x hx o q => by rw [upd_ne (gD x hx)]; exact q
    have r3 : RpOs K T Hs2 (upd H2 D (.lst (vs ++ [y]))) [t] [y] gt := by have := RpOs.cons r2 RpOs.nil; rw [List.append_nil] at this; exact this
    exact r1.append r3
  · rcases List.mem_cons.mp hx with rfl | hx
    · exact b.nf x (by simp)
    · rcases List.mem_append.mp hx with hx | hx
      · exact b.nf x (by simp [hx])
      · exact p.nf x hx
  · rcases List.mem_cons.mp hm with rfl | hm
    · exact b.nl x hx (by simp)
    · rcases List.mem_append.mp hm with hm | hm
      · exact b.nl x hx (by simp [hm])
      · exact p.lf x hx hm
/-- where no names own less than before -/
theorem Acc.less (a : Acc mk K T P L H1 Hs1 fp1 D σ ρ H Hs fp acc vs ft) (keep : ∀ {H Hs fp H' Hs' fp'}, P H Hs fp → Stp fp H Hs fp' H' Hs' → P H' Hs' fp') (st : StOk K T L Hs H ρ' σ' fp') (s : ∀ x ∈ fp', x ∈ fp) : Acc mk K T P L H1 Hs1 fp1 D σ' ρ' H Hs fp' acc vs ft :=
  Acc.next (P := P) keep a st ((Stp.refl fp H Hs).sub s)
end

/-- a clause's tests -/
def wTs (X : Cx) : List Expr → TT
  | [] => tYes
  | c :: _ => wT X c
def oneTest : List Expr → Bool
  | [] => true
  | [_] => true
  | _ => false
def STs (X : Cx) (T : Tab) (W : WX) (ifs : List Expr) (ρ : Env) (r : R (Bool × Env)) : Prop := ∀ (L : List Addr) (σ : L2.St) (H Hs : Hp) (fp : List Addr) (Q : Bool → Hp → Prop), StOk X.K T L Hs H ρ σ fp →
  Cont r (fun p => ∀ H' Hs' fp', Pst X.K T L σ Hs H fp ρ p.2 H' Hs' fp' → Q p.1 H') (XOk X.K T L σ Hs H fp ρ W) → wTs X ifs σ H Q
abbrev blkC' (X : Cx) (s : Shared) (H : Hp) (scope : Scope) (C : Addr) (cl : List (Str × Addr)) (fp : List Addr) : Cx := X.blk s H scope (compEnvC scope cl C X.env) fp
def tIfs (X : Cx) (scope : Scope) (ifs : List Expr) : TT := fun σ H Q => ∀ (s : Shared) (H0 : Hp) (C : Addr) (cl : List (Str × Addr)) (fp : List Addr), wTs (blkC' X s H0 scope C cl fp) ifs σ H Q
def tElt (X : Cx) (scope : Scope) (elt : Expr) : TE := fun σ H Q => ∀ (s : Shared) (H0 : Hp) (C : Addr) (cl : List (Str × Addr)) (fp : List Addr), wE (blkC' X s H0 scope C cl fp) elt σ H Q
section
variable {X : Cx} {T : Tab} {scope : Scope}
theorem pts_w {ifs : List Expr} (h1 : oneTest ifs = true) (s : Shared) (H : Hp) (C : Addr) (cl : List (Str × Addr)) (fp : List Addr) : PTs (blkC' X s H scope C cl fp) ifs (tIfs X scope ifs) := by
  match ifs, h1 with
  | [], _ => exact ⟨fun pins s1 σ H1 Q I h => pts_nil.run pins s1 σ H1 Q I (h s H C cl fp)⟩
  | [c], _ => exact ⟨fun pins s1 σ H1 Q I h => (pts_one (ptW _ c)).run pins s1 σ H1 Q I (h s H C cl fp)⟩
theorem pe_elt {elt : Expr} (s : Shared) (H : Hp) (C : Addr) (cl : List (Str × Addr)) (fp : List Addr) : PE (blkC' X s H scope C cl fp) elt (tElt X scope elt) := ⟨fun pins s1 σ H1 Q I h => h s H C cl fp pins s1 I⟩
abbrev W0 : WX := fun _ _ _ _ => False
/-- a comprehension's turns, whatever a turn adds -/
theorem loop_core {mk : List V → HO} {K : PySem.W.Frag} {P : Hp → Hp → List Addr → Prop} {J : It} {ds : List D} {tg : Tg} {vs : List Nat} {cond : Env → R (Bool × Env)} {step : List OT → Env → R (List OT × Env)} {pl : List Nat} {L : List Addr} {σ : L2.St} {H0 Hs0 H1 Hs1 : Hp} {fp0 fp1 : List Addr} {D : Addr} {ρ0 ρ1 ρ2 : Env} {acc0 ts : List OT} {ys0 : List V} {ft0 : List Addr}
    {tt : TT} {rd : L2.St → Hp → (Hp → Prop) → Prop} {Fin : Hp → Prop}
    (wk : Walk K T J ds P) (sub : ∀ j ∈ tg.slots, j ∈ vs) (nlk : ∀ v ∈ vs, ∀ (t : OT), ρ1[v]? ≠ some (.lk t))
    (ht : ∀ (σ3 : L2.St) (H Hs : Hp) (fp : List Addr) (ρ3 : Env) (b : Bool) (ρ4 : Env) (Q : Bool → Hp → Prop), StOk K T L Hs H ρ3 σ3 fp → cond ρ3 = .ok (b, ρ4) → (∀ H' Hs' fp', Pst K T L σ3 Hs H fp ρ3 ρ4 H' Hs' fp' → Q b H') → tt σ3 H Q)
    (hst : ∀ (σ3 : L2.St) (H Hs : Hp) (fp : List Addr) (ρ4 ρ5 : Env) (acc acc' : List OT) (ys : List V) (ft : List Addr) (Nx : Hp → Prop), Acc mk K T P L H1 Hs1 fp1 D σ3 ρ4 H Hs fp acc ys ft → step acc ρ4 = .ok (acc', ρ5) →
      (∀ σ5 H' Hs' fp' ys' ft', wipe σ5 vs = wipe σ3 vs → Acc mk K T P L H1 Hs1 fp1 D σ5 ρ5 H' Hs' fp' acc' ys' ft' → lks ρ5 = lks ρ4 → Nx H') → rd σ3 H Nx)
    (a0 : Acc mk K T P L H1 Hs1 fp1 D (wipe σ vs) ρ0 H0 Hs0 fp0 acc0 ys0 ft0) (lk0 : lks ρ0 = lks ρ1) (wn0 : ∀ j ∈ vs, ∀ s, ρ0[j]? = some s → s = .no) (hres : lcG cond step pl tg vs ds acc0 ρ0 = .ok (ts, ρ2))
    (fin : ∀ H' Hs' fp' ys' ft', Acc mk K T P L H1 Hs1 fp1 D (wipe σ vs) ρ2 H' Hs' fp' ts ys' ft' → lks ρ2 = lks ρ1 → (∀ j ∈ vs, ∀ s, ρ2[j]? = some s → s = .no) → Fin H') :
    ∃ W : Nat → Nat → Hp → Prop, (∃ m, W 0 m H0) ∧ ∀ i m H, W i m H → (J.stop i H ∧ Fin H) ∨ (J.go i H ∧ ∃ Nx : Hp → Prop, (∀ H', Nx H' → ∃ m', m' < m ∧ W (i + 1) m' H') ∧ ∀ x H', J.yld i H x H' → gT K tg x (wipe σ vs) H' fun σ2 H2 => wipe σ2 vs = wipe σ vs ∧ tt σ2 H2 fun b H3 =>
      if b = true then rd σ2 H3 Nx else Nx H3) := by
  have hlen : ρ1.length = σ.length := by rw [← lks_len lk0, a0.st.rs.length, wipe_length]
  refine ⟨fun i m H' => m = ds.length - i ∧ i ≤ ds.length ∧ ∃ Hs' ρi fpi acc ys ft, Acc mk K T P L H1 Hs1 fp1 D (wipe σ vs) ρi H' Hs' fpi acc ys ft ∧ lks ρi = lks ρ1 ∧ (∀ j ∈ vs, ∀ s, ρi[j]? = some s → s = .no) ∧ lcG cond step pl tg vs (ds.drop i) acc ρi = .ok (ts, ρ2),
    ⟨ds.length, by simp, Nat.zero_le _, Hs0, _, fp0, acc0, ys0, ft0, a0, lk0, wn0, by simpa using hres⟩, ?_⟩
  rintro i m H' ⟨rfl, hi, Hs', ρi, fpi, acc, ys, ft, a, lk, wn, ev⟩
  have ilen : ρi.length = σ.length := by rw [a.st.rs.length, wipe_length]
  by_cases hlt : i < ds.length
  · refine .inr ?_
    have hd : ds[i]? = some ds[i] := List.getElem?_eq_getElem hlt
    obtain ⟨g1, g2⟩ := wk.go a.hp a.st.ex hd
    refine ⟨g1, fun H'' => ∃ Hs' ρi fpi acc ys ft, Acc mk K T P L H1 Hs1 fp1 D (wipe σ vs) ρi H'' Hs' fpi acc ys ft ∧ lks ρi = lks ρ1 ∧ (∀ j ∈ vs, ∀ s, ρi[j]? = some s → s = .no) ∧ lcG cond step pl tg vs (ds.drop (i + 1)) acc ρi = .ok (ts, ρ2),
      fun H'' hx => ⟨ds.length - (i + 1), by omega, rfl, by omega, hx⟩, fun x H2 hy => ?_⟩
    obtain ⟨Hs2, n⟩ := g2 x H2 hy
    have st2 := a.st.grow n.eH n.eS n.le n.dm
    have a2 : Acc mk K T P L H1 Hs1 fp1 D (wipe σ vs) ρi H2 Hs2 fpi acc ys ft := Acc.next (P := P) wk.keep a st2 ⟨n.eS, fun b o q _ => n.eH b o q, fun _ hb => .inl hb, fun b o q => (n.dm b o q).imp id .inr⟩
    have rx : Rp K T Hs2 ds[i] x := by have := n.rp; cases this with | sh r => exact r
    rw [show ds.drop i = ds[i] :: ds.drop (i + 1) from List.drop_eq_getElem_cons hlt] at ev
    unfold lcG at ev
    split at ev
    · cases ev
    · rename_i ρ3 hset
      obtain ⟨σ3, fp3, k1, k2, k3, k4, k5, k6⟩ := setTg_ok st2 rx hset
      have a3 : Acc mk K T P L H1 Hs1 fp1 D σ3 ρ3 H2 Hs2 fp3 acc ys ft := Acc.less (P := P) a2 wk.keep k1 k2
      have l3 : σ3.length = σ.length := by
        have e1 : ρ3.length = ρi.length := lks_len k3
        rw [← k1.rs.length, e1, ilen]
      have eww : wipe (wipe σ vs) vs = wipe σ vs := wipe_eq (by rw [wipe_length]) fun j hj => wipe_out2 hj
      have ew : wipe σ3 vs = wipe σ vs := by
        rw [← eww]
        exact wipe_eq (by rw [wipe_length, l3]) fun j hj => k4 j fun z => hj (sub j z)
      refine k6 _ ⟨ew, ?_⟩
      -- behind a turn: the slots cleared
      have again : ∀ {σ5 : L2.St} {H5 Hs5 : Hp} {ρ5 : Env} {fp5 : List Addr} {acc5 : List OT} {ys5 : List V} {ft5 : List Addr}, wipe σ5 vs = wipe σ3 vs → Acc mk K T P L H1 Hs1 fp1 D σ5 ρ5 H5 Hs5 fp5 acc5 ys5 ft5 → lks ρ5 = lks ρ3 → lcG cond step pl tg vs (ds.drop (i + 1)) acc5 (wipeE ρ5 vs) = .ok (ts, ρ2) →
          ∃ Hs' ρi fpi acc ys ft, Acc mk K T P L H1 Hs1 fp1 D (wipe σ vs) ρi H5 Hs' fpi acc ys ft ∧ lks ρi = lks ρ1 ∧ (∀ j ∈ vs, ∀ s, ρi[j]? = some s → s = .no) ∧ lcG cond step pl tg vs (ds.drop (i + 1)) acc ρi = .ok (ts, ρ2) := fun {σ5 H5 Hs5 ρ5 fp5 acc5 ys5 ft5} e0 a5 l5 e5 => by
        obtain ⟨fp6, w5, w6⟩ := wipe_ok (vs := vs) a5.st
        have a6 := Acc.less (P := P) a5 wk.keep w5 w6
        rw [e0, ew] at a6
        refine ⟨Hs5, _, fp6, acc5, ys5, ft5, a6, ?_, fun j hj s e => wipeE_get hj s e, e5⟩
        have lall : lks ρ5 = lks ρ1 := by rw [l5, k3, lk]
        rw [lks_wipe, lall]
        intro v hv t q
        exact nlk v hv t (lks_lk lall.symm q)
      cases hc : cond ρ3 with
      | no => rw [hc] at ev; cases ev
      | ex e' ρ' => rw [hc] at ev; cases ev
      | ok cb =>
        obtain ⟨b, ρ4⟩ := cb
        rw [hc] at ev
        refine ht σ3 H2 Hs2 fp3 ρ3 b ρ4 _ k1 hc fun H3 Hs3 fp4 p3 => ?_
        have a4 : Acc mk K T P L H1 Hs1 fp1 D σ3 ρ4 H3 Hs3 fp4 acc ys ft := Acc.next (P := P) wk.keep a3 p3.st p3.sp
        cases b with
        | false =>
          show (if false = true then _ else _)
          rw [if_neg (by simp)]
          exact again rfl a4 p3.lk ev
        | true =>
          show (if true = true then _ else _)
          rw [if_pos rfl]
          cases hel : step acc ρ4 with
          | no => simp only [hel] at ev; cases ev
          | ex e' ρ' => simp only [hel] at ev; cases ev
          | ok te =>
            obtain ⟨acc', ρ5⟩ := te
            simp only [hel] at ev
            exact hst σ3 H3 Hs3 fp4 ρ4 ρ5 acc acc' ys ft _ a4 hel fun σ5 H' Hs' fp' ys' ft' e5 a5 l5 => again e5 a5 (l5.trans p3.lk) ev
  · have e : i = ds.length := by omega
    subst e
    rw [List.drop_length] at ev
    cases ev
    exact .inl ⟨wk.stop a.hp a.st.ex, fin _ _ _ _ _ a lk wn⟩
/-- one item added -/
theorem push_step {P : Hp → Hp → List Addr → Prop} {J : It} {ds : List D} {elt : Expr} {el : Env → R (OT × Env)} {L : List Addr} {H1 Hs1 : Hp} {fp1 : List Addr} {D : Addr} {vs : List Nat} (wk : Walk X.K T J ds P) (he : ∀ s H C cl fp ρ, SE (blkC' X s H scope C cl fp) T W0 elt ρ (el ρ))
    (σ3 : L2.St) (H Hs : Hp) (fp : List Addr) (ρ4 ρ5 : Env) (acc acc' : List OT) (ys : List V) (ft : List Addr) (Nx : Hp → Prop) (a4 : Acc .lst X.K T P L H1 Hs1 fp1 D σ3 ρ4 H Hs fp acc ys ft) (hs : pushE el acc ρ4 = .ok (acc', ρ5))
    (k : ∀ σ5 H' Hs' fp' ys' ft', wipe σ5 vs = wipe σ3 vs → Acc .lst X.K T P L H1 Hs1 fp1 D σ5 ρ5 H' Hs' fp' acc' ys' ft' → lks ρ5 = lks ρ4 → Nx H') :
    tElt X scope elt σ3 H fun y H4 => ∃ acc, H4 D = some (.lst acc) ∧ acc.length < sizeLine ∧ Nx (upd H4 D (.lst (acc ++ [y]))) := by
  intro s2 H02 C2 cl2 fpb2
  refine he s2 H02 C2 cl2 fpb2 ρ4 L σ3 H Hs fp _ a4.st ?_
  unfold pushE at hs
  cases hel : el ρ4 with
  | no => simp only [hel] at hs; cases hs
  | ex e' ρ' => simp only [hel] at hs; cases hs
  | ok te =>
    obtain ⟨t, ρ6⟩ := te
    simp only [hel] at hs
    intro y H4 Hs4 fp5 ft5 p4
    obtain ⟨a5, hD4⟩ := Acc.push (P := P) wk.keep a4 p4
    split at hs
    · rename_i hz
      cases hs
      exact ⟨ys, hD4, by rw [← a4.ra.length, ← line]; exact hz, k σ3 _ _ _ _ _ rfl a5 p4.lk⟩
    · cases hs
theorem quiet_nlk {ρ : Env} {vs : List Nat} (h : quietAll ρ vs = true) : ∀ v ∈ vs, ∀ (t : OT), ρ[v]? ≠ some (.lk t) := fun v hv t e => by
  unfold quietAll at h
  rw [List.all_eq_true] at h
  have := h v hv
  rw [List.getD_eq_getElem?_getD, e] at this
  cases this
theorem quiet_get {ρ : Env} {vs : List Nat} (h : quietAll ρ vs = true) {j : Nat} (hj : j ∈ vs) {s : Sl} (e : ρ[j]? = some s) : quietSl s = true := by
  unfold quietAll at h
  rw [List.all_eq_true] at h
  have := h j hj
  rw [List.getD_eq_getElem?_getD, e] at this
  exact this
/-- the start of a comprehension: a new list, the slots cleared -/
theorem acc_start {P : Hp → Hp → List Addr → Prop} {J : It} {ds : List D} {L : List Addr} {σ : L2.St} {H1 Hs1 : Hp} {fp1 : List Addr} {ρ1 : Env} {D : Addr} {vs : List Nat} (wk : Walk X.K T J ds P) (hp : P H1 Hs1 fp1) (st : StOk X.K T L Hs1 H1 ρ1 σ fp1) (hD : H1 D = none) :
    ∃ fpw, Acc .lst X.K T P L H1 Hs1 fp1 D (wipe σ vs) (wipeE ρ1 vs) (upd H1 D (.lst [])) Hs1 fpw [] [] [] := by
  obtain ⟨fpw, w1, w2⟩ := wipe_ok (vs := vs) st
  have hDf : ∀ x, (∃ o, H1 x = some o) → x ≠ D := fun x ⟨o, q⟩ e => by subst e; rw [hD] at q; cases q
  have hDs : Hs1 D = none := none_of_ex st.ex hD
  have s0 : Stp fp1 H1 Hs1 (D :: ([] ++ fpw)) (upd H1 D (.lst [])) Hs1 := ⟨Ex.refl _, fun a o q _ => by rw [upd_ne (hDf a ⟨o, q⟩)]; exact q, fun a ha => by
    rcases List.mem_cons.mp ha with rfl | ha
    · exact .inr hD
    · exact .inl (w2 a (by simpa using ha)), fun _ _ q => .inl q⟩
  exact ⟨fpw, w1.upd (fun hf => hDf D (w1.rs.tracked D hf) rfl) (fun hl => hDf D (st.lt D hl).1 rfl) hDs, wk.keep hp s0, upd_same, .nil, List.nodup_cons.mpr ⟨fun hf => hDf D (w1.rs.tracked D (by simpa using hf)) rfl, by simpa using w1.nd⟩,
    fun a ha => by have : a = D := by simpa using ha
                   subst this; exact hDs, fun a ha hm => by have : a = D := by simpa using hm
                                                            subst this; exact hDf a (st.lt a ha).1 rfl, s0⟩
/-- .. and its end -/
theorem acc_end {P : Hp → Hp → List Addr → Prop} {bk : Env → Env} {L L' : List Addr} {σ : L2.St} {H Hs H1 Hs1 H' Hs' : Hp} {fp fp1 fpi : List Addr} {ρ ρ1 ρ2 : Env} {D : Addr} {vs : List Nat} {ts : List OT} {ys : List V} {ft : List Addr} (op : Opn X.K T L σ Hs H fp ρ bk L' ρ1 H1 Hs1 fp1) (hq : quietAll ρ1 vs = true)
    (a : Acc .lst X.K T P L' H1 Hs1 fp1 D (wipe σ vs) ρ2 H' Hs' fpi ts ys ft) (lk : lks ρ2 = lks ρ1) (wn : ∀ j ∈ vs, ∀ s, ρ2[j]? = some s → s = .no) :
    ∃ fp3, Post X.K T L σ Hs H fp ρ (.lst ts) (bk (backE ρ1 ρ2 vs)) (.ref D) H' Hs' fp3 (D :: ft) := by
  have hlen : ρ1.length = σ.length := op.st.rs.length
  have ilen : ρ2.length = σ.length := by rw [a.st.rs.length, wipe_length]
  have dn := List.nodup_append.mp (show ((D :: ft) ++ fpi).Nodup from a.nd)
  have lkp : lks (backE ρ1 ρ2 vs) = lks ρ1 := lks_patch lk
  have rs : RpS X.K T Hs' H' L' (backE ρ1 ρ2 vs) σ fpi := patch_rs op.st.rs a.st.rs a.sp.ex (fun j hj s e => quiet_get hq (by simpa using hj) e) (fun j hj s e => wn j (by simpa using hj) s e) (fun j hj => wipe_out2 fun z => by simp [z] at hj) (by rw [ilen, hlen])
  have stb : StOk X.K T L' Hs' H' (backE ρ1 ρ2 vs) σ fpi := ⟨a.st.ex, rs, a.st.nd, a.st.nf, a.st.lf, a.st.lt⟩
  have spb : Stp fp1 H1 Hs1 fpi H' Hs' := a.sp.sub fun x hx => by simp [hx]
  obtain ⟨fp3, b1, b2, b3, b4⟩ := op.back [] (fun x hx => absurd hx (by simp)) stb spb lkp fun _ _ _ => rfl
  have hh := a.held
  have nw : ∀ x ∈ D :: ft, x ∈ fp1 ∨ H1 x = none := fun x hx => a.sp.nw x (by
    rcases List.mem_cons.mp hx with rfl | hx
    · simp
    · simp [hx])
  have out : ∀ x ∈ D :: ft, x ∉ fp3 := fun x hx hf => by
    rcases b4 x hf with z | ⟨⟨o, z⟩, z2, _⟩
    · exact (hh x hx).2 z
    · rcases nw x hx with w | w
      · exact z2 w
      · rw [z] at w; cases w
  refine ⟨fp3, b1, .lst a.hD a.ra, List.nodup_append.mpr ⟨dn.1, b1.nd, fun x hx y hy e => out x hx (e ▸ hy)⟩, a.nf, fun x hx => a.nl x (op.nl x hx), ⟨b2.ex, b2.fr, fun x hx => ?_, b2.dm⟩, b3⟩
  rcases List.mem_append.mp hx with hx | hx
  · exact op.nw x (nw x hx)
  · exact b2.nw x hx
/-- the tests of a clause, as the loop wants them -/
theorem tests_ok {ifs : List Expr} {cond : Env → R (Bool × Env)} {L : List Addr} (ht : ∀ s H C cl fp ρ, STs (blkC' X s H scope C cl fp) T W0 ifs ρ (cond ρ)) (σ3 : L2.St) (H Hs : Hp) (fp : List Addr) (ρ3 : Env) (b : Bool) (ρ4 : Env) (Q : Bool → Hp → Prop) (st : StOk X.K T L Hs H ρ3 σ3 fp) (hc : cond ρ3 = .ok (b, ρ4))
    (k : ∀ H' Hs' fp', Pst X.K T L σ3 Hs H fp ρ3 ρ4 H' Hs' fp' → Q b H') : tIfs X scope ifs σ3 H Q := by
  intro s H0 C cl fpb
  refine ht s H0 C cl fpb ρ3 L σ3 H Hs fp _ st ?_
  rw [hc]
  exact k
/-- the reading of a comprehension -/
theorem lc_read {wi : TI} {ρ : Env} {bk : Env → Env} {rI : R (List D × Env)} {tg : Tg} {ifs : List Expr} {elt : Expr} {cond : Env → R (Bool × Env)} {el : Env → R (OT × Env)} {pl : List Nat} {W : WX} (si : SI X T W wi ρ bk rI)
    (ht : ∀ s H C cl fp ρ, STs (blkC' X s H scope C cl fp) T W0 ifs ρ (cond ρ)) (he : ∀ s H C cl fp ρ, SE (blkC' X s H scope C cl fp) T W0 elt ρ (el ρ))
    {L : List Addr} {σ : L2.St} {H Hs : Hp} {fp : List Addr} {Q : VK} (h : StOk X.K T L Hs H ρ σ fp)
    (k : Cont (rI.bind fun p => if quietAll p.2 tg.slots = true then
        match lcL cond el pl tg p.1 [] (wipeE p.2 tg.slots) with
        | .ok (ts, ρ2) => .ok (OT.lst ts, bk (backE p.2 ρ2 tg.slots))
        | _ => .no
      else .no) (fun p => ∀ v H' Hs' fp' ft, Post X.K T L σ Hs H fp ρ p.1 p.2 v H' Hs' fp' ft → Q v H') (XOk X.K T L σ Hs H fp ρ W)) :
    tLc wi (gT X.K tg) (tIfs X scope ifs) (tElt X scope elt) tg.slots σ H Q := by
  rw [cont_bind] at k
  refine si L σ H Hs fp [] _ h (fun a ha => absurd ha (by simp)) (k.imp (fun p k J P L' H1 Hs1 fp1 wk hp op => ?_) fun _ _ x => x)
  intro D hD
  obtain ⟨ds, ρ1⟩ := p
  simp only at k wk op
  split at k
  · rename_i hq
    cases hres : lcL cond el pl tg ds [] (wipeE ρ1 tg.slots) with
    | no => rw [hres] at k; exact k.elim
    | ex e' ρ' => rw [hres] at k; exact k.elim
    | ok res =>
      obtain ⟨ts, ρ2⟩ := res
      rw [hres] at k
      obtain ⟨fpw, a0⟩ := acc_start (X := X) (vs := tg.slots) wk (by simpa using hp) op.st hD
      refine loop_core (pl := pl) wk (fun j hj => hj) (quiet_nlk hq) (tests_ok ht) (push_step wk he) a0 (lks_wipe (quiet_nlk hq)) (fun j hj s e => wipeE_get hj s e) hres fun H' Hs' fp' ys' ft' a lk wn => ?_
      obtain ⟨fp3, po⟩ := acc_end op hq a lk wn
      exact k _ _ _ _ _ po
  · exact k.elim
/-- an inner clause -/
def tIn (X : Cx) (scope : Scope) (wi1 : TI) (tg1 : Tg) (ifs1 : List Expr) (elt : Expr) (D : Addr) (σ2 : L2.St) (H3 : Hp) (Nx : Hp → Prop) : Prop := wi1 σ2 H3 fun J1 H4 => ∃ W1 : Nat → Nat → Hp → Prop, (∃ m, W1 0 m H4) ∧ ∀ j k H, W1 j k H →
      (J1.stop j H ∧ Nx H) ∨ (J1.go j H ∧ ∃ Nx1 : Hp → Prop, (∀ H', Nx1 H' → ∃ k', k' < k ∧ W1 (j + 1) k' H') ∧ ∀ x H', J1.yld j H x H' → gT X.K tg1 x (wipe σ2 tg1.slots) H' fun σ3 H5 => wipe σ3 tg1.slots = wipe σ2 tg1.slots ∧ tIfs X scope ifs1 σ3 H5 fun b H6 =>
        if b = true then tElt X scope elt σ3 H6 fun y H7 => ∃ acc, H7 D = some (.lst acc) ∧ acc.length < sizeLine ∧ Nx1 (upd H7 D (.lst (acc ++ [y]))) else Nx1 H6)
/-- the readings of an iterable in a block -/
def tIt (X : Cx) (scope : Scope) (iter : Expr) (wi : Cx → TI) : TI := fun σ H R => ∀ (s : Shared) (H0 : Hp) (C : Addr) (cl : List (Str × Addr)) (fp : List Addr), wi (blkC' X s H0 scope C cl fp) σ H R
theorem inner_step {P : Hp → Hp → List Addr → Prop} {J : It} {ds : List D} {elt : Expr} {el : Env → R (OT × Env)} {ifs1 : List Expr} {cond1 : Env → R (Bool × Env)} {it1 : Env → R (List D × Env)} {bk1 : Env → Env → Env} {wi1 : TI} {tg1 : Tg} {pl : List Nat} {L : List Addr} {H1 Hs1 : Hp} {fp1 : List Addr} {D : Addr} {vs : List Nat} (wk : Walk X.K T J ds P) (sub1 : ∀ j ∈ tg1.slots, j ∈ vs)
    (si : ∀ ρ, SI X T W0 wi1 ρ (bk1 ρ) (it1 ρ)) (ht : ∀ s H C cl fp ρ, STs (blkC' X s H scope C cl fp) T W0 ifs1 ρ (cond1 ρ)) (he : ∀ s H C cl fp ρ, SE (blkC' X s H scope C cl fp) T W0 elt ρ (el ρ))
    (σ3 : L2.St) (H Hs : Hp) (fp : List Addr) (ρ4 ρ5 : Env) (acc acc' : List OT) (ys : List V) (ft : List Addr) (Nx : Hp → Prop) (a4 : Acc .lst X.K T P L H1 Hs1 fp1 D σ3 ρ4 H Hs fp acc ys ft) (hs : inner it1 bk1 cond1 el pl tg1 acc ρ4 = .ok (acc', ρ5))
    (k : ∀ σ5 H' Hs' fp' ys' ft', wipe σ5 vs = wipe σ3 vs → Acc .lst X.K T P L H1 Hs1 fp1 D σ5 ρ5 H' Hs' fp' acc' ys' ft' → lks ρ5 = lks ρ4 → Nx H') : tIn X scope wi1 tg1 ifs1 elt D σ3 H Nx := by
  have hh := a4.held
  unfold inner at hs
  refine si ρ4 L σ3 H Hs fp (D :: ft) _ a4.st (fun x hx => ⟨(hh x hx).1, (hh x hx).2, fun hl => a4.nl x hl hx⟩) ?_
  cases hit : it1 ρ4 with
  | no => rw [hit] at hs; cases hs
  | ex => rw [hit] at hs; cases hs
  | ok p =>
    obtain ⟨es, ρ6⟩ := p
    rw [hit] at hs
    simp only at hs
    split at hs
    · rename_i hq
      cases hres : lcL cond1 el pl tg1 es acc (wipeE ρ6 tg1.slots) with
      | no => rw [hres] at hs; cases hs
      | ex => rw [hres] at hs; cases hs
      | ok res =>
        obtain ⟨ts, ρ7⟩ := res
        rw [hres] at hs
        cases hs
        intro J1 P1 L1 H4 Hs4 fp5 wk1 hp1 op1
        -- what is gathered lies beside the new state too
        have nl1 : ∀ x ∈ L1, x ∉ D :: ft := fun x hx hf => (op1.lw x hx).elim (fun z => a4.nl x z hf) (hh x hf).2
        obtain ⟨fpb, _, s0, _, _⟩ := op1.back [] (fun x hx => absurd hx (by simp)) op1.st (Stp.refl _ _ _) rfl fun _ _ _ => rfl
        have s0 : Stp fp H Hs fpb H4 Hs4 := s0
        have n5 : ∀ x ∈ D :: ft, x ∉ fp5 := fun x hx hf => by
          rcases op1.nw x (.inl hf) with z | z
          · exact (hh x hx).2 z
          · obtain ⟨o, q⟩ := (hh x hx).1; rw [q] at z; cases z
        obtain ⟨fpw, w1, w2⟩ := wipe_ok (vs := tg1.slots) op1.st
        have dn := List.nodup_append.mp (show ((D :: ft) ++ fp).Nodup from a4.nd)
        have a1 : Acc .lst X.K T P1 L1 H4 Hs4 (D :: (ft ++ fp5)) D (wipe σ3 tg1.slots) (wipeE ρ6 tg1.slots) H4 Hs4 fpw acc ys ft := by
          have rs : Stp (D :: (ft ++ fp5)) H4 Hs4 (D :: (ft ++ fpw)) H4 Hs4 := (Stp.refl _ _ _).sub fun x hx => by
            simp only [List.mem_cons, List.mem_append] at hx ⊢
            exact hx.imp id fun z => z.imp id (w2 x)
          refine ⟨w1, wk1.keep hp1 rs, s0.fr D _ a4.hD (hh D (by simp)).2, a4.ra.keep (fun x hx => (hh x (by simp [hx])).2) s0, ?_, fun x hx => s0.outHs (hh x hx).1 (hh x hx).2 (a4.nf x hx), nl1, rs⟩
          show ((D :: ft) ++ fpw).Nodup
          exact List.nodup_append.mpr ⟨dn.1, w1.nd, fun x hx y hy e => n5 x hx (w2 x (e ▸ hy))⟩
        refine loop_core (pl := pl) wk1 (fun j hj => hj) (quiet_nlk hq) (tests_ok ht) (push_step wk1 he) a1 (lks_wipe (quiet_nlk hq)) (fun j hj s e => wipeE_get hj s e) hres fun H' Hs' fp' ys' ft' aF lk wn => ?_
        have nwF : ∀ x, x ∈ D :: (ft' ++ fp') → x ∈ D :: (ft ++ fp) ∨ H x = none := fun x hx => by
          rcases aF.sp.nw x hx with z | z
          · rcases List.mem_append.mp (show x ∈ (D :: ft) ++ fp5 from z) with z | z
            · exact .inl (List.mem_append.mpr (.inl z) : x ∈ (D :: ft) ++ fp)
            · exact (op1.nw x (.inl z)).imp (fun y => (List.mem_append.mpr (.inr y) : x ∈ (D :: ft) ++ fp)) id
          · exact (op1.nw x (.inr z)).imp (fun y => (List.mem_append.mpr (.inr y) : x ∈ (D :: ft) ++ fp)) id
        obtain ⟨fp3, b1, b2, b3, b4⟩ := op1.back (D :: ft) (fun x hx hl => nl1 x hl hx) aF.st (aF.sp.sub fun x hx => by simp [hx]) lk fun j u e => wipe_out2 fun hj => quiet_nlk hq j hj u e
        have out : ∀ x ∈ D :: ft', x ∉ fp3 := fun x hx hf => by
          have dF := List.nodup_append.mp (show ((D :: ft') ++ fp').Nodup from aF.nd)
          rcases b4 x hf with z | ⟨_, _, z⟩
          · exact dF.2.2 x hx x z rfl
          · exact aF.nl x z hx
        have sp2 : Stp (D :: (ft ++ fp)) H Hs (D :: (ft' ++ fp3)) H' Hs' := by
          have b2 : Stp (D :: (ft ++ fp)) H Hs fp3 H' Hs' := b2
          refine ⟨b2.ex, b2.fr, fun x hx => ?_, b2.dm⟩
          rcases List.mem_append.mp (show x ∈ (D :: ft') ++ fp3 from hx) with z | z
          · exact nwF x (List.mem_append.mpr (.inl z) : x ∈ (D :: ft') ++ fp')
          · exact b2.nw x z
        have dF := List.nodup_append.mp (show ((D :: ft') ++ fp').Nodup from aF.nd)
        refine k (wipe σ3 tg1.slots) H' Hs' fp3 ys' ft' ?_ ⟨b1, wk.keep a4.hp sp2, aF.hD, aF.ra, ?_, aF.nf, fun x hx => aF.nl x (op1.nl x hx), a4.sp.trans sp2⟩ b3
        · exact wipe_eq (by rw [wipe_length]) fun j hj => wipe_out2 fun z => hj (sub1 j z)
        · show ((D :: ft') ++ fp3).Nodup
          exact List.nodup_append.mpr ⟨dF.1, b1.nd, fun x hx y hy e => out x hx (e ▸ hy)⟩
    · cases hs
/-- the reading of a comprehension of two clauses -/
theorem lc2_read {wi wi1 : TI} {ρ : Env} {bk : Env → Env} {bk1 : Env → Env → Env} {rI : R (List D × Env)} {it1 : Env → R (List D × Env)} {tg tg1 : Tg} {ifs ifs1 : List Expr} {elt : Expr} {cond cond1 : Env → R (Bool × Env)} {el : Env → R (OT × Env)} {pl : List Nat} {W : WX} (si : SI X T W wi ρ bk rI)
    (ht : ∀ s H C cl fp ρ, STs (blkC' X s H scope C cl fp) T W0 ifs ρ (cond ρ)) (si1 : ∀ ρ, SI X T W0 wi1 ρ (bk1 ρ) (it1 ρ)) (ht1 : ∀ s H C cl fp ρ, STs (blkC' X s H scope C cl fp) T W0 ifs1 ρ (cond1 ρ)) (he : ∀ s H C cl fp ρ, SE (blkC' X s H scope C cl fp) T W0 elt ρ (el ρ))
    {L : List Addr} {σ : L2.St} {H Hs : Hp} {fp : List Addr} {Q : VK} (h : StOk X.K T L Hs H ρ σ fp)
    (k : Cont (rI.bind fun p => if quietAll p.2 (tg.slots ++ tg1.slots) = true then
        match lcG cond (inner it1 bk1 cond1 el pl tg1) pl tg (tg.slots ++ tg1.slots) p.1 [] (wipeE p.2 (tg.slots ++ tg1.slots)) with
        | .ok (ts, ρ2) => .ok (OT.lst ts, bk (backE p.2 ρ2 (tg.slots ++ tg1.slots)))
        | _ => .no
      else .no) (fun p => ∀ v H' Hs' fp' ft, Post X.K T L σ Hs H fp ρ p.1 p.2 v H' Hs' fp' ft → Q v H') (XOk X.K T L σ Hs H fp ρ W)) :
    tLc2 wi (gT X.K tg) (tIfs X scope ifs) wi1 (gT X.K tg1) (tIfs X scope ifs1) (tElt X scope elt) (tg.slots ++ tg1.slots) tg1.slots σ H Q := by
  rw [cont_bind] at k
  refine si L σ H Hs fp [] _ h (fun a ha => absurd ha (by simp)) (k.imp (fun p k J P L' H1 Hs1 fp1 wk hp op => ?_) fun _ _ x => x)
  intro D hD
  obtain ⟨ds, ρ1⟩ := p
  simp only at k wk op
  split at k
  · rename_i hq
    cases hres : lcG cond (inner it1 bk1 cond1 el pl tg1) pl tg (tg.slots ++ tg1.slots) ds [] (wipeE ρ1 (tg.slots ++ tg1.slots)) with
    | no => rw [hres] at k; exact k.elim
    | ex e' ρ' => rw [hres] at k; exact k.elim
    | ok res =>
      obtain ⟨ts, ρ2⟩ := res
      rw [hres] at k
      obtain ⟨fpw, a0⟩ := acc_start (X := X) (vs := tg.slots ++ tg1.slots) wk (by simpa using hp) op.st hD
      refine loop_core (pl := pl) (rd := tIn X scope wi1 tg1 ifs1 elt D) wk (fun j hj => by simp [hj]) (quiet_nlk hq) (tests_ok ht) (inner_step wk (fun j hj => by simp [hj]) si1 ht1 he) a0 (lks_wipe (quiet_nlk hq)) (fun j hj s e => wipeE_get hj s e) hres fun H' Hs' fp' ys' ft' a lk wn => ?_
      obtain ⟨fp3, po⟩ := acc_end op hq a lk wn
      exact k _ _ _ _ _ po
  · exact k.elim
end
end CH
end
section
namespace CH
open PySem L2 Evl PyProof.Rows

/-- what a def of the text promises: the arguments' trees us at vs; behind it the value and the trees as Φ says -/
def spF (K : PySem.W.Frag) (T : Tab) (r : List OT → R (OT × List OT)) (n : Nat) : Sp := fun vs H Q E => vs.length = n ∧ ∃ us Hs fc, StOk K T [] Hs H (us.map .ow) (vs.map some) fc ∧
  Cont (r us) (fun p => ∀ v H' Hs' fc' ft, StOk K T [] Hs' H' (p.2.map .ow) (vs.map some) fc' → RpO K T Hs' H' p.1 v ft → (ft ++ fc').Nodup → (∀ a ∈ ft, Hs' a = none) → Stp fc H Hs (ft ++ fc') H' Hs' → Q v H')
    (fun e _ => ∀ H' Hs' C d, Ex Hs' H' → Stp fc H Hs [] H' Hs' → ExRp K T Hs' H' e C d → E (.ref C) (some d) H')
/-- a class's promise, from its __init__'s -/
theorem cls_sp {K : PySem.W.Frag} {T : Tab} {φ : List OT → R (OT × List OT)} {c n : Nat} {C : Addr} {vs : List V} {H : Hp} {Q : VK} {E : XK} (hc : T.clA c = some C) (cl : Cls K C) (h : spF K T (fun us => mkR (φ (.obj c [] [] :: us))) n vs H Q E) :
    vs.length = n ∧ ∀ x dx, H x = none → H dx = none → dx ≠ x → spF K T φ (n + 1) (.ref x :: vs) (L2.upd (L2.upd H dx (.own x)) x (.ins C dx [])) (fun v H2 => v = .non ∧ Q (.ref x) H2) E := by
  obtain ⟨hl, us, Hs, fc, st, k⟩ := h
  refine ⟨hl, fun x dx hx hdx hne => ?_⟩
  have up : ∀ a o, H a = some o → (L2.upd (L2.upd H dx (.own x)) x (.ins C dx [])) a = some o := fun a o q => by
    have n1 : a ≠ x := fun e => by subst e; rw [hx] at q; cases q
    have n2 : a ≠ dx := fun e => by subst e; rw [hdx] at q; cases q
    rw [upd_ne n1, upd_ne n2]
    exact q
  have upx : (L2.upd (L2.upd H dx (.own x)) x (.ins C dx [])) x = some (.ins C dx []) := upd_same
  generalize hH2 : L2.upd (L2.upd H dx (.own x)) x (.ins C dx []) = H2 at up upx ⊢
  have xn : x ∉ fc := fun m => by
    obtain ⟨o, q⟩ := st.rs.tracked x m
    rw [hx] at q
    cases q
  have hsx : Hs x = none := by
    cases e : Hs x with
    | none => rfl
    | some o => have := st.ex x o e; rw [hx] at this; cases this
  have back : ∀ a, a ∈ x :: fc ∨ H2 a = none → a ∈ fc ∨ H a = none := fun a ha => by
    rcases ha with ha | ha
    · rcases List.mem_cons.mp ha with rfl | ha
      · exact .inr hx
      · exact .inl ha
    · cases e : H a with
      | none => exact .inr rfl
      | some o => rw [up a o e] at ha; cases ha
  refine ⟨by simp [hl], .obj c [] [] :: us, Hs, x :: fc, ⟨fun a o q => up a o (st.ex a o q), ?_, List.nodup_cons.mpr ⟨xn, st.nd⟩, fun a ha => ?_, fun a ha => absurd ha (by simp), fun a ha => absurd ha (by simp)⟩, ?_⟩
  · exact RpS.ow (f := [x]) (RpO.obj (fs := []) (f := []) upx ⟨hc, ⟨cl, fun k hk => absurd hk (by simp)⟩⟩ .nil) (st.rs.step (Ex.refl _) (fun _ z => z) fun a _ o q => up a o q)
  · rcases List.mem_cons.mp ha with rfl | ha
    · exact hsx
    · exact st.nf a ha
  · cases hr : φ (.obj c [] [] :: us) with
    | no => simp only [hr, mkR] at k; exact k.elim
    | ex e ρ =>
      simp only [hr, mkR] at k
      intro H' Hs' C' d ex sp xr
      refine k H' Hs' C' d ex ⟨sp.ex, fun a o q hn => ?_, fun a ha => absurd ha (by simp), fun a o q => ?_⟩ xr
      · exact sp.fr a o (up a o q) fun m => (List.mem_cons.mp m).elim (fun e => by subst e; rw [hx] at q; cases q) hn
      · exact (sp.dm a o q).imp id (back a)
    | ok p =>
      obtain ⟨t, ws⟩ := p
      intro v H' Hs' fc' ft st' rp nd nf sp
      simp only at st' rp
      cases ws with
      | nil => cases st'.rs
      | cons w ws =>
        have et : t = .sh .non := by
          rcases t with d | _ | _
          · cases d <;> first | rfl | (simp only [hr, mkR] at k; exact k.elim)
          · simp only [hr, mkR] at k; exact k.elim
          · simp only [hr, mkR] at k; exact k.elim
        subst et
        simp only [hr, mkR] at k
        cases rp with
        | sh rp =>
          cases rp
          refine ⟨rfl, ?_⟩
          have rs := st'.rs
          cases rs with
          | @ow _ _ f _ _ fr hw rs =>
            have nd1 := st'.nd
            have nd2 := List.nodup_append.mp nd1
            refine k (.ref x) H' Hs' fr f ⟨st'.ex, rs, nd2.2.1, fun a ha => st'.nf a (by simp [ha]), fun a ha => absurd ha (by simp), fun a ha => absurd ha (by simp)⟩ hw nd1 (fun a ha => st'.nf a (by simp [ha])) ⟨sp.ex, fun a o q hn => ?_, fun a ha => ?_, fun a o q => ?_⟩
            · exact sp.fr a o (up a o q) fun m => (List.mem_cons.mp m).elim (fun e => by subst e; rw [hx] at q; cases q) hn
            · exact back a (sp.nw a (by simpa using ha))
            · exact (sp.dm a o q).imp id (back a)
/-- the arguments' values -/
inductive ArgV (K : PySem.W.Frag) (T : Tab) (Hs : Hp) (σ : L2.St) : CAs → List D → List V → Prop
  | nil : ArgV K T Hs σ .nil [] []
  | val {e : CE} {r : CAs} {d : D} {ds : List D} {v : V} {vs : List V} : Rp K T Hs d v → ArgV K T Hs σ r ds vs → ArgV K T Hs σ (.val e r) (d :: ds) (v :: vs)
  | ref {i : Nat} {r : CAs} {ds : List D} {v : V} {vs : List V} : σ[i]? = some (some v) → ArgV K T Hs σ r ds vs → ArgV K T Hs σ (.ref i r) ds (v :: vs)
section
variable {K : PySem.W.Frag} {T : Tab} {Hs H Hs' H' : Hp} {L : List Addr} {σ : L2.St}
theorem ArgV.mono (e : Ex Hs Hs') : ∀ {as : CAs} {ds : List D} {vs : List V}, ArgV K T Hs σ as ds vs → ArgV K T Hs' σ as ds vs
  | _, _, _, .nil => .nil
  | _, _, _, .val h r => .val (h.mono e) (r.mono e)
  | _, _, _, .ref h r => .ref h (r.mono e)
/-- the arguments' trees are taken out of the state -/
theorem fill_ok : ∀ {as : CAs} {ds : List D} {vs : List V} {ρ : Env} {us : List OT} {fp : List Addr}, ArgV K T Hs σ as ds vs → fillA as ds ρ = some us → RpS K T Hs H L ρ σ fp →
    ∃ fc fr, RpS K T Hs H [] (us.map .ow) (vs.map some) fc ∧ RpS K T Hs H L (goneA as ρ) σ fr ∧ fp.Perm (fc ++ fr)
  | _, _, _, ρ, us, fp, .nil, h, r => by
    cases Option.some.inj (show some [] = some us from h)
    exact ⟨[], fp, .nil, r, .refl _⟩
  | .val e as, d :: ds, v :: vs, ρ, us, fp, .val hv ha, h, r => by
    obtain ⟨us', h1, rfl⟩ := Option.map_eq_some_iff.mp (show (fillA as ds ρ).map (fun us => OT.sh d :: us) = some us from h)
    obtain ⟨fc, fr, k1, k2, k3⟩ := fill_ok ha h1 r
    exact ⟨fc, fr, RpS.ow (f := []) (.sh hv) k1, k2, k3⟩
  | .ref i as, ds, v :: vs, ρ, us, fp, .ref hv ha, h, r => by
    obtain ⟨t, h1, h2⟩ := Option.bind_eq_some_iff.mp (show ((Env.own ρ i).bind fun t => (fillA as ds (ρ.set i .no)).map fun us => t :: us) = some us from h)
    obtain ⟨us', h3, rfl⟩ := Option.map_eq_some_iff.mp h2
    obtain ⟨v', f, fr, q1, q2, q3, q4⟩ := r.takeOut (own_get h1)
    rw [hv] at q1
    cases q1
    obtain ⟨fc, fr', k1, k2, k3⟩ := fill_ok ha h3 q4
    refine ⟨f ++ fc, fr', .ow q2 k1, k2, q3.trans ?_⟩
    rw [List.append_assoc]
    exact List.Perm.append_left f k3
theorem gone_no : ∀ {as : CAs} {ρ : Env} {i : Nat}, ρ[i]? = some .no → (goneA as ρ)[i]? = some .no
  | .nil, ρ, i, h => h
  | .val _ r, ρ, i, h => gone_no (as := r) h
  | .ref j r, ρ, i, h => gone_no (as := r) (by
    by_cases e : j = i
    · subst e
      rw [List.getElem?_set_self (List.getElem?_eq_some_iff.mp h).1]
    · rw [List.getElem?_set_ne e]; exact h)
theorem gone_len : ∀ {as : CAs} {ρ : Env}, (goneA as ρ).length = ρ.length
  | .nil, ρ => rfl
  | .val _ r, ρ => gone_len (as := r)
  | .ref j r, ρ => by unfold goneA; rw [gone_len (as := r), List.length_set]
theorem back_no : ∀ {as : CAs} {ds : List D} {ρ τ τ' : Env} {us ws : List OT} {i : Nat}, fillA as ds ρ = some us → ρ[i]? = some .no → τ[i]? = some .no → backA as ws τ = some τ' → τ'[i]? = some .no
  | .nil, ds, ρ, τ, τ', us, ws, i, h, e, et, b => by cases Option.some.inj (show some τ = some τ' from b); exact et
  | .val _ r, d :: ds, ρ, τ, τ', us, w :: ws, i, h, e, et, b => by
    obtain ⟨us', h1, rfl⟩ := Option.map_eq_some_iff.mp (show (fillA r ds ρ).map (fun us => OT.sh d :: us) = some us from h)
    exact back_no h1 e et b
  | .ref j r, ds, ρ, τ, τ', us, w :: ws, i, h, e, et, b => by
    obtain ⟨t, h1, h2⟩ := Option.bind_eq_some_iff.mp (show ((Env.own ρ j).bind fun t => (fillA r ds (ρ.set j .no)).map fun us => t :: us) = some us from h)
    obtain ⟨us', h3, rfl⟩ := Option.map_eq_some_iff.mp h2
    obtain ⟨τ1, b1, rfl⟩ := Option.map_eq_some_iff.mp (show (backA r ws τ).map (fun ρ' => ρ'.set j (Sl.ow w)) = some τ' from b)
    have hji : j ≠ i := fun z => by subst z; rw [own_get h1] at e; cases e
    rw [List.getElem?_set_ne hji]
    exact back_no h3 (by rw [List.getElem?_set_ne hji]; exact e) et b1
  | .val _ r, [], ρ, τ, τ', us, ws, i, h, e, et, b => by cases h
  | .val _ r, d :: ds, ρ, τ, τ', us, [], i, h, e, et, b => by cases b
  | .ref j r, ds, ρ, τ, τ', us, [], i, h, e, et, b => by cases b
theorem back_len : ∀ {as : CAs} {τ τ' : Env} {ws : List OT}, backA as ws τ = some τ' → τ'.length = τ.length
  | .nil, τ, τ', ws, b => by cases Option.some.inj (show some τ = some τ' from b); rfl
  | .val _ r, τ, τ', w :: ws, b => back_len (as := r) b
  | .ref j r, τ, τ', w :: ws, b => by
    obtain ⟨τ1, b1, rfl⟩ := Option.map_eq_some_iff.mp (show (backA r ws τ).map (fun ρ' => ρ'.set j (Sl.ow w)) = some τ' from b)
    rw [List.length_set, back_len b1]
  | .val _ r, τ, τ', [], b => by cases b
  | .ref j r, τ, τ', [], b => by cases b
/-- .. and laid back behind the call -/
theorem back_ok : ∀ {as : CAs} {ds : List D} {vs : List V} {ρ τ' : Env} {us ws : List OT} {fr fc : List Addr}, ArgV K T Hs σ as ds vs → fillA as ds ρ = some us → RpS K T Hs' H' L (goneA as ρ) σ fr → RpS K T Hs' H' [] (ws.map .ow) (vs.map some) fc → backA as ws (goneA as ρ) = some τ' →
    ∃ fp', RpS K T Hs' H' L τ' σ fp' ∧ ∃ fq, fp'.Perm (fq ++ fr) ∧ fq.Sublist fc
  | .nil, ds, vs, ρ, τ', us, ws, fr, fc, _, h, r, rc, b => by
    cases Option.some.inj (show some (goneA .nil ρ) = some τ' from b)
    exact ⟨fr, r, [], .refl _, List.nil_sublist _⟩
  | .val e as, d :: ds, v :: vs, ρ, τ', us, w :: ws, fr, fc, .val hv ha, h, r, rc, b => by
    obtain ⟨us', h1, rfl⟩ := Option.map_eq_some_iff.mp (show (fillA as ds ρ).map (fun us => OT.sh d :: us) = some us from h)
    cases rc with
    | ow hw rc =>
      obtain ⟨fp', k1, fq, k2, k3⟩ := back_ok ha h1 r rc b
      exact ⟨fp', k1, fq, k2, k3.trans (List.sublist_append_right _ _)⟩
  | .ref j as, ds, v :: vs, ρ, τ', us, w :: ws, fr, fc, .ref hv ha, h, r, rc, b => by
    obtain ⟨t, h1, h2⟩ := Option.bind_eq_some_iff.mp (show ((Env.own ρ j).bind fun t => (fillA as ds (ρ.set j .no)).map fun us => t :: us) = some us from h)
    obtain ⟨us', h3, rfl⟩ := Option.map_eq_some_iff.mp h2
    obtain ⟨τ1, b1, rfl⟩ := Option.map_eq_some_iff.mp (show (backA as ws (goneA as (ρ.set j .no))).map (fun ρ' => ρ'.set j (Sl.ow w)) = some τ' from b)
    cases rc with
    | @ow _ _ f _ _ fc' hw rc =>
      obtain ⟨fp', k1, fq, k2, k3⟩ := back_ok ha h3 r rc b1
      have hj := own_lt h1
      have e0 : (ρ.set j .no)[j]? = some .no := List.getElem?_set_self hj
      have ej := back_no h3 e0 (gone_no (as := as) e0) b1
      have hl : j < τ1.length := by rw [back_len b1, gone_len, List.length_set]; exact hj
      obtain ⟨fp2, m1, m2⟩ := k1.put hl ej hw
      have eσ : σ.set j (some v) = σ := by
        obtain ⟨hi2, e2⟩ := List.getElem?_eq_some_iff.mp hv
        rw [← e2, List.set_getElem_self]
      rw [eσ] at m1
      refine ⟨fp2, m1, f ++ fq, m2.trans ?_, k3.append_left f⟩
      rw [List.append_assoc]
      exact List.Perm.append_left f k2
  | .val _ r, d :: ds, v :: vs, ρ, τ', us, [], fr, fc, _, h, _, _, b => by cases b
  | .ref j r, ds, v :: vs, ρ, τ', us, [], fr, fc, _, h, _, _, b => by cases b
theorem lks_gone : ∀ {as : CAs} {ds : List D} {ρ : Env} {us : List OT}, fillA as ds ρ = some us → lks (goneA as ρ) = lks ρ
  | .nil, _, _, _, _ => rfl
  | .val _ r, d :: ds, ρ, us, h => by
    obtain ⟨us', h1, rfl⟩ := Option.map_eq_some_iff.mp (show (fillA r ds ρ).map (fun us => OT.sh d :: us) = some us from h)
    exact lks_gone (as := r) h1
  | .val _ r, [], ρ, us, h => by cases h
  | .ref j r, ds, ρ, us, h => by
    obtain ⟨t, h1, h2⟩ := Option.bind_eq_some_iff.mp (show ((Env.own ρ j).bind fun t => (fillA r ds (ρ.set j .no)).map fun us => t :: us) = some us from h)
    obtain ⟨us', h3, rfl⟩ := Option.map_eq_some_iff.mp h2
    show lks (goneA r (ρ.set j .no)) = lks ρ
    rw [lks_gone (as := r) h3]
    exact lks_set (own_get h1) rfl
theorem lks_back : ∀ {as : CAs} {ds : List D} {ρ τ τ' : Env} {us ws : List OT}, fillA as ds ρ = some us → (∀ i, ∀ (t : OT), Env.own ρ i = some t → τ[i]? = some .no ∨ ∃ u, τ[i]? = some (.ow u)) → backA as ws τ = some τ' → lks τ' = lks τ
  | .nil, _, _, τ, τ', _, ws, _, _, b => by cases Option.some.inj (show some τ = some τ' from b); rfl
  | .val _ r, d :: ds, ρ, τ, τ', us, w :: ws, h, g, b => by
    obtain ⟨us', h1, rfl⟩ := Option.map_eq_some_iff.mp (show (fillA r ds ρ).map (fun us => OT.sh d :: us) = some us from h)
    exact lks_back h1 g b
  | .val _ r, [], _, _, _, _, _, h, _, _ => by cases h
  | .val _ r, _ :: _, _, _, _, _, [], h, _, b => by cases b
  | .ref j r, _, _, _, _, _, [], h, _, b => by cases b
  | .ref j r, ds, ρ, τ, τ', us, w :: ws, h, g, b => by
    obtain ⟨t, h1, h2⟩ := Option.bind_eq_some_iff.mp (show ((Env.own ρ j).bind fun t => (fillA r ds (ρ.set j .no)).map fun us => t :: us) = some us from h)
    obtain ⟨us', h3, rfl⟩ := Option.map_eq_some_iff.mp h2
    obtain ⟨τ1, b1, rfl⟩ := Option.map_eq_some_iff.mp (show (backA r ws τ).map (fun ρ' => ρ'.set j (Sl.ow w)) = some τ' from b)
    have own' : ∀ i, ∀ (t : OT), Env.own (ρ.set j .no) i = some t → Env.own ρ i = some t := fun i t e => by
      have := own_get e
      by_cases hji : j = i
      · subst hji
        rw [List.getElem?_set_self (own_lt h1)] at this; cases this
      · rw [List.getElem?_set_ne hji] at this
        unfold Env.own; rw [this]
    have ih := lks_back h3 (fun i t e => g i t (own' i t e)) b1
    have hj : j < τ1.length := by
      have e1 := back_len b1
      rcases g j t h1 with z | ⟨u, z⟩
      · rw [e1]; exact (List.getElem?_eq_some_iff.mp z).1
      · rw [e1]; exact (List.getElem?_eq_some_iff.mp z).1
    have e2 : lkOf τ1[j] = none := by
      have e3 : (lks τ1)[j]? = (lks τ)[j]? := by rw [ih]
      rw [lks_get, lks_get, List.getElem?_eq_getElem hj] at e3
      rcases g j t h1 with z | ⟨u, z⟩ <;> (rw [z] at e3; simpa [lkOf] using e3)
    rw [← ih]
    exact lks_set (List.getElem?_eq_getElem hj) (by rw [e2]; rfl)
end
end CH
end
section
namespace CH
open PySem L2 Evl PyProof.Rows

/-- the promise of FnOk, asked only where no guarded built-in is under way -/
structure FnG (P : Program) (w : World) (K : PySem.W.Frag) (mg : Str → Option Value) (base : Heap) (k : Nat) (f : Addr) (fd : FuncData) (ps : List Str) (sp : Sp) : Prop where
  many : ∀ {vs : List V} {H : Hp} {Q : VK} {E : XK}, sp vs H Q E → vs.length = ps.length
  runs : ∀ {A : Around} {below : List PySem.Env} {s : Shared} {H : Hp} {us : List Value} {vs : List V} {Q : VK} {E : XK} {args : Args}, A.guards = some [] → Room k A → Env0 P w K mg base A below s H → Vals vs us → BindsTo s fd args (ps.zip us) → sp vs H Q E →
    codeAny (model P w) A (.call (.ref f) args) (CR (L2.CX P w) below P w H s Q E) s
/-- what may be called by its address: a def, a class -/
structure FnR (P : Program) (w : World) (K : PySem.W.Frag) (mg : Str → Option Value) (base : Heap) (k : Nat) (f : Addr) (n : Nat) (sp : Sp) : Prop where
  many : ∀ {vs : List V} {H : Hp} {Q : VK} {E : XK}, sp vs H Q E → vs.length = n
  runs : ∀ (X : Cx) (W : WX) {pins : List (Addr × Obj)} {σ : L2.St} {H : Hp} {s : Shared} {Q : VK} {us : List Value} {vs : List V}, X.prog = P → X.w = w → X.K = K → X.mg = mg → X.base = base → X.A.guards = some [] → Takes X W → Room k X.A → Inv X pins σ H s → Vals vs us → sp vs H Q (WE W σ) →
    wpAny (model X.prog X.w) X.A (call (.ref f) us) (EP X pins σ Q) X.xe s
theorem FnG.r {P : Program} {w : World} {K : PySem.W.Frag} {mg : Str → Option Value} {base : Heap} {k : Nat} {f : Addr} {fd : FuncData} {ps : List Str} {sp : Sp} (F : FnG P w K mg base k f fd ps sp) (hb : Binds K fd ps []) : FnR P w K mg base k f ps.length sp := by
  refine ⟨F.many, ?_⟩
  rintro X W pins σ H s Q us vs rfl rfl rfl rfl rfl gd tk room I rv q
  have hl := rv.length.symm.trans (F.many q)
  have bd := hb s us I.kIn ((congrArg List.length (List.append_nil us)).trans hl)
  rw [List.append_nil] at bd
  refine wpAny_call (codeAny_mono (F.runs gd room I.env0 rv bd q) fun r s' z => ?_)
  match r, z with
  | .error u, z => exact passAt tk σ pins H s u s' I z
  | .ok (.ret u), z => exact I.after z
  | .ok .next, z => exact z.elim
  | .ok .brk, z => exact z.elim
  | .ok .cont, z => exact z.elim
/-- all parameters given by name, in order -/
def BindsW (K : PySem.W.Frag) (fd : FuncData) (ps : List Str) : Prop := ∀ (s : Shared) (us : List Value), K.In s.heap → us.length = ps.length → BindsTo s fd ⟨[], ps.zip us⟩ (ps.zip us)
theorem BindsW.all {K : PySem.W.Frag} {fd : FuncData} {ps : List Str} (h : ∀ us : List Value, us.length = ps.length → bindArgs fd ⟨[], ps.zip us⟩ = pure (ps.zip us)) : BindsW K fd ps := fun s us _ hl => .of_eq (h us hl)
/-- what may be called with all its parameters by name -/
structure FnW (P : Program) (w : World) (K : PySem.W.Frag) (mg : Str → Option Value) (base : Heap) (k : Nat) (f : Addr) (ps : List Str) (sp : Sp) : Prop where
  many : ∀ {vs : List V} {H : Hp} {Q : VK} {E : XK}, sp vs H Q E → vs.length = ps.length
  runs : ∀ (X : Cx) (W : WX) {pins : List (Addr × Obj)} {σ : L2.St} {H : Hp} {s : Shared} {Q : VK} {us : List Value} {vs : List V}, X.prog = P → X.w = w → X.K = K → X.mg = mg → X.base = base → X.A.guards = some [] → Takes X W → Room k X.A → Inv X pins σ H s → Vals vs us → sp vs H Q (WE W σ) →
    wpAny (model X.prog X.w) X.A (call (.ref f) [] (ps.zip us)) (EP X pins σ Q) X.xe s
theorem FnG.w {P : Program} {w : World} {K : PySem.W.Frag} {mg : Str → Option Value} {base : Heap} {k : Nat} {f : Addr} {fd : FuncData} {ps : List Str} {sp : Sp} (F : FnG P w K mg base k f fd ps sp) (hb : BindsW K fd ps) : FnW P w K mg base k f ps sp := by
  refine ⟨F.many, ?_⟩
  rintro X W pins σ H s Q us vs rfl rfl rfl rfl rfl gd tk room I rv q
  have hl := rv.length.symm.trans (F.many q)
  have bd := hb s us I.kIn hl
  refine wpAny_call (codeAny_mono (F.runs gd room I.env0 rv bd q) fun r s' z => ?_)
  match r, z with
  | .error u, z => exact passAt tk σ pins H s u s' I z
  | .ok (.ret u), z => exact I.after z
  | .ok .next, z => exact z.elim
  | .ok .brk, z => exact z.elim
  | .ok .cont, z => exact z.elim
/-- a class whose __init__ is such a def -/
theorem FnG.ofClass {P : Program} {w : World} {K : PySem.W.Frag} {mg : Str → Option Value} {base : Heap} {k n : Nat} {f C : Addr} {fd : FuncData} {ps : List Str} {sp spC : Sp} (F : FnG P w K mg base k f fd ps sp) (hb : Binds K fd ps []) (M : Mk K C f)
    (h : ∀ {vs : List V} {H : Hp} {Q : VK} {E : XK}, spC vs H Q E → vs.length = n ∧ ∀ x dx, H x = none → H dx = none → dx ≠ x → sp (.ref x :: vs) (L2.upd (L2.upd H dx (.own x)) x (.ins C dx [])) (fun v H2 => v = .non ∧ Q (.ref x) H2) E) : FnR P w K mg base (k + 1) C n spC := by
  refine ⟨fun q => (h q).1, ?_⟩
  rintro X W pins σ H s Q us vs rfl rfl rfl rfl rfl gd tk room I rv q
  have hq := (h q).2 (s.heap.objs.size + 1) s.heap.objs.size (I.hok.fresh (Nat.le_succ _)) (I.hok.fresh (Nat.le_refl _)) (Nat.ne_of_lt (Nat.lt_succ_self _))
  have I2 := Inv.made (C := C) I
  have r2 : Vals (V.ref (s.heap.objs.size + 1) :: vs) (Value.ref (s.heap.objs.size + 1) :: us) := .cons rfl rv
  have hl := r2.length.symm.trans (F.many hq)
  have bd := hb _ (Value.ref (s.heap.objs.size + 1) :: us) I2.kIn ((congrArg List.length (List.append_nil _)).trans hl)
  rw [List.append_nil] at bd
  refine wpAny_call (make_map (f := f) I.kIn M.makes M.init (beq_iff_eq.mp M.fn) (codeAny_mono (F.runs (A := X.A.under (.builtin "type.__call__" ⟨.ref C :: us, []⟩)) (by first | exact gd | (show pushGuards _ _ = _; rw [gd]; rfl)) (room.make C us []) (I2.env0.make C us []) r2 bd hq) fun r s' z => ?_))
  match r, z with
  | .error u, z => exact passAt tk σ pins _ _ u s' I2 z
  | .ok (.ret u), z =>
    obtain ⟨v, H', I3, rv, ev, q3⟩ := I2.after z
    subst ev
    exact ⟨rv, ⟨V.ref (s.heap.objs.size + 1), H', I3, rfl, q3⟩⟩
  | .ok .next, z => exact z.elim
  | .ok .brk, z => exact z.elim
  | .ok .cont, z => exact z.elim
section
variable {X : Cx} {k n : Nat} {f : Addr} {sp : Sp} {W : WX} {x : Str} {p pos : Pos} {e : Expr} {es : List Expr} {t : TA}
theorem kw_names {pos : Pos} {env : PySem.Env} : ∀ {kws : List Keyword} {ps : List Str}, kws.map (·.arg) = ps.map some → (backToKw pos (keywordEach kws env)).filterMap (·.1) = ps ∧ (backToKw pos (keywordEach kws env)).all (·.1.isSome) = true ∧ (backToKw pos (keywordEach kws env)).any (·.1.isNone) = false
  | [], [], _ => ⟨rfl, rfl, rfl⟩
  | [], _ :: _, h => by simp at h
  | _ :: _, [], h => by simp at h
  | ⟨a, e, kp⟩ :: kws, p :: ps, h => by
    simp only [List.map_cons, List.cons.injEq] at h
    obtain ⟨rfl, h⟩ := h
    obtain ⟨h1, h2, h3⟩ := kw_names (pos := pos) (env := env) h
    refine ⟨?_, ?_, ?_⟩
    · show p :: (backToKw pos (keywordEach kws env)).filterMap (·.1) = _
      rw [h1]
    · show (true && (backToKw pos (keywordEach kws env)).all (·.1.isSome)) = true
      rw [h2]; rfl
    · show (false || (backToKw pos (keywordEach kws env)).any (·.1.isNone)) = false
      rw [h3]; rfl
theorem pkW {X : Cx} : ∀ kws : List Keyword, PK X kws (wEs X (kws.map (·.value)))
  | [] => pk_nil
  | ⟨a, e, kp⟩ :: kws => pk_cons (peW X e) (pkW kws)
/-- the call f(k = e, ..), every parameter by its name -/
theorem pe_callW {ps : List Str} {kws : List Keyword} (gd : X.A.guards = some []) (tk : Takes X W) (F : FnW X.prog X.w X.K X.mg X.base k f ps sp) (room : Room k X.A) (hg : Gl X x) (hm : X.mg x = some (.ref f)) (hk : PySem.W.keepIn X.K (.ref f) = true) (hx : (x == ("__debug__" : Str)) = false)
    (hn : kws.map (·.arg) = ps.map some) : PE X (.Call (.Name x p) [] kws pos) (tCallS sp (WE W) (wEs X (kws.map (·.value)))) := by
  refine ⟨fun pins s σ H Q I h => ?_⟩
  obtain ⟨h1, h2, h3⟩ := kw_names (pos := pos) (env := X.env) hn
  refine wpAny_Call_Name_kw (ld_glob I hg hm ?_ hx)
  refine PySem.W.callWith_KW0 (h₀ := X.base) I.ok.mod.kin hk h2 ?_ (by rw [h3]; rfl)
  refine thn ((pkW kws).run pos pins s σ H _ I h) fun us s1 ⟨vs, H1, I1, rv, q⟩ => ⟨I1.kIn, ?_⟩
  rw [h1]
  exact F.runs X W rfl rfl rfl rfl rfl gd tk room I1 rv q
/-- the call f(e, ..) -/
theorem pe_callG (gd : X.A.guards = some []) (tk : Takes X W) (F : FnR X.prog X.w X.K X.mg X.base k f n sp) (room : Room k X.A) (hg : Gl X x) (hm : X.mg x = some (.ref f)) (hk : PySem.W.keepIn X.K (.ref f) = true) (hx : (x == ("__debug__" : Str)) = false)
    (ha : PA X (e :: es) t) (h1 : starEach (e :: es) X.env = (false, eval e X.env) :: starEach es X.env) (h2 : (backTo pos (starEach es X.env)).any (·.1) = false) : PE X (.Call (.Name x p) (e :: es) [] pos) (tCallS sp (WE W) t) :=
  ⟨fun pins s σ H Q I h => wpAny_Call_Name_kw (ld_glob I hg hm (PySem.W.callWith_K (h₀ := X.base) I.ok.mod.kin hk (thn (ha.run pos pins s σ H _ I h) fun us s1 ⟨vs, H1, I1, rv, q⟩ => ⟨I1.kIn,
    F.runs X W rfl rfl rfl rfl rfl gd tk room I1 rv q⟩) h1 h2) hx)⟩
end
section
variable {P : Program} {w : World} {K : PySem.W.Frag} {mg : Str → Option Value} {base : Heap}
/-- a def of the text, by its body -/
theorem fun_G {x qual : Str} {st : Stmt} {f : Addr} {fd : FuncData} {N ps : List Str} {k : Nat} {sp : Sp} (F : Fun K x qual st f fd) (S : FnScope N ps (defScope st)) (len : ∀ vs H Q E, sp vs H Q E → vs.length = ps.length)
    (body : ∀ (cdv : Value) (A : Around) (below : List PySem.Env) (s : Shared) (H : Hp) (vs : List V) (Q : VK) (E : XK), A.guards = some [] → Room k (A.deeper (envOfC qual (defScope st) s.heap.objs.size f cdv)) → sp vs H Q E →
      ∃ t, PSs (cxOf (L2.CX P w) P w K mg base N qual (defScope st) f cdv A below s H E) (defBody st) t ∧ t { nx := fun _ H' => Q .non H', rt := Q } (L2.start N vs) H) : FnG P w K mg base (k + 1) f fd ps sp := by
  obtain ⟨oc, od, kV, doc, pm, an, cdv, ct, osl, rfl, lk, hcd⟩ := F.ex
  refine ⟨len _ _ _ _, fun {A below s H us vs Q E args} gd room e0 rv bd q => ?_⟩
  have inK : K.In s.heap := e0.mod.kin.keeps fun b o z => (e0.bs b o z).1
  have kinds : ∀ y ∈ ps.zip us, (defScope st).names.lookup y.1 = some .local ∨ ((defScope st).names.lookup y.1 = some .cell ∧ ((cellsFrom (s.heap.objs.size + 1) (defScope st).names []).lookup y.1).isSome = true) := fun y hy =>
    (S.par y.1 (List.of_mem_zip (a := y.1) (b := y.2) hy).1).imp id fun z => ⟨z, PySem.W.cellsFrom_some _ _ _ (.inl z)⟩
  refine codeAny_call_function room.depth (inK _ _ lk) rfl S.co S.gen rfl (PySem.W.codeRec_of inK hcd) (bd _ _ _ _ (wpAny_newFunctionEnv_cells S.kind kinds fun env he s1 ic => ?_))
  subst he
  refine ⟨(e0.mod.nolimit.keeps fun b o z => (e0.bs b o z).1).keeps ic.toInCall.keep, codeAny_func ?_⟩
  obtain ⟨t, ht, hq⟩ := body cdv A below s H vs Q E gd (room.deeper _) q
  refine wpAny_mono (ht.run [] s1 (L2.start N vs) H _ (inv_start S room.hd e0 (len _ _ _ _ q) rv ic) hq) (fun fl s' z => ?_) fun _ _ z => z
  have done : ∀ {σ' : L2.St} {H' : Hp} {v : V} {u : Value}, Inv (cxOf (L2.CX P w) P w K mg base N qual (defScope st) f cdv A below s H E) [] σ' H' s' → RelV v u → Q v H' → L2.CE below P w H s Q u s' := fun {σ' H' v u} J a b => ⟨v, H', J.os, J.bare, J.base, J.hok, a, b⟩
  match fl, z with
  | .ret _, ⟨_, _, _, J, a, b⟩ => exact done J a b
  | .next, ⟨_, _, J, b⟩ => exact done (v := .non) (u := .none) J rfl b
  | .brk, ⟨_, _, _, b⟩ => exact b.elim
  | .cont, ⟨_, _, _, b⟩ => exact b.elim
end
/-- the law's def, called with the script by the claim's caller, from a heap in which the script alone may be tracked -/
theorem law_at {P : Program} {w : World} {K : PySem.W.Frag} {mg mb : Str → Option Value} {k : Nat} {fa a : Addr} {fd : FuncData} {x : Str} {sp : Sp} {s : Shared} {vs : List Value} {H : Hp} {ob : Obj} (only : L2.Only H) (at_ : ∀ b u, H b = some u → b = a ∧ K.lookup a = none)
    (KX : K.In s.heap) (hns : s.heap.Ns mainGlobals mg) (hb : s.heap.Ns builtinsNs mb) (hbb : ∀ x : Str, x ≠ "__name__" → mb x = bootBuiltins x) (hlim : s.heap.NoLimit) (hg : s.gens = #[]) (oa : s.heap.get? a = some ob) (nd : ∀ es ep, ob.data ≠ .dict es ep) (hok : HOk P w H s.heap) (hr : Room k callerA)
    (F : ∀ base : Heap, K.In base → base.Ns mainGlobals mg → FnG P w K mg base k fa fd [x] sp) (bind : BindsTo s fd ⟨[.ref a], []⟩ [(x, .ref a)]) (hsp : sp [.ref a] H (fun v _ => v = .bl true) fun _ _ _ => False)
    (hCX : ∀ e s', L2.CX P w [] H s (fun _ _ _ => False) e s' → False) :
    codeAny (model P w) callerA (.call (.ref fa) ⟨[.ref a], []⟩) (fun r s' => r = .ok (.ret (.bool true)) ∧ OldK s.heap s'.heap ∧ s'.os = s.os ∧ AllBare s'.gens) s := by
  have free : ∀ {b : Addr}, (H b ≠ none → False) → H b = none := fun {b} z => by
    cases q : H b with
    | none => rfl
    | some u => exact (z (by rw [q]; simp)).elim
  have ns : ∀ {b : Addr} {m : Str → Option Value}, s.heap.Ns b m → (L2.hidT s.heap H).Ns b m := fun {b m} ⟨o, es, ep, q, d, r⟩ => ⟨o, es, ep, L2.hidT_get q (free fun z => by
    obtain ⟨u, hu⟩ := Option.ne_none_iff_exists'.mp z
    have := (at_ b u hu).1
    subst this
    rw [oa] at q
    cases q
    exact nd _ _ d), d, r⟩
  have kin : K.In (L2.hidT s.heap H) := fun b o q => L2.hidT_get (KX b o q) (free fun z => by
    obtain ⟨u, hu⟩ := Option.ne_none_iff_exists'.mp z
    have := at_ b u hu
    rw [this.1, this.2] at q
    cases q)
  have e0 : Env0 P w K mg (L2.hidT s.heap H) callerA [] s H := ⟨rfl, ⟨kin, ns hns, ⟨mb, ns hb, hbb⟩, (let ⟨mc, h1, h2⟩ := hlim; ⟨mc, ns h1, h2⟩)⟩, fun _ _ q => L2.of_hidT q, Nat.le_of_eq (L2.hidT_size _ _), trivial, fun _ z => (List.not_mem_nil z).elim, hok, .of_eq hg⟩
  refine codeAny_mono ((F _ kin (ns hns)).runs rfl hr e0 (us := [.ref a]) (.cons (show L2.RelV (.ref a) (.ref a) from rfl) .nil) bind hsp) fun r s' z => ?_
  match r, z with
  | .error e, z => exact (hCX e s' z).elim
  | .ok .next, z => exact z.elim
  | .ok .brk, z => exact z.elim
  | .ok .cont, z => exact z.elim
  | .ok (.ret u), ⟨v, H', os, bare, un, hok', rel, q⟩ =>
    cases (show v = .bl true from q)
    cases (show u = Value.bool true from rel)
    refine ⟨rfl, .of_keep fun b o q => ?_, os, bare⟩
    rcases only b with z | ⟨oz, xs, z⟩
    · exact un.keep b o q z (fun z => (List.not_mem_nil z).elim) (fun z => (List.not_mem_nil z).elim)
    · have q1 := (hok b _ z).1
      rw [q] at q1
      cases q1
      exact (hok' b _ (un.frzs b _ _ z)).1
/-- the goal that k_head leaves, from the promise of the law's def -/
theorem walk_G {l : PySem.W.OpenLaw} {n k : Nat} {q : Program} {loose : List Str} {XP : (Str → Option Value) → Heap → Prop} {YP : World → Heap → Prop} {d : DefRec} {K : Params → PySem.W.Frag} {sp : World → Sp} {x : Str} (hn : l.most = some n) (hn2 : n ≤ sizeLine) (hdf : d.params.defaults = []) (hr : Room k callerA)
    (hY : ∀ (w : World) (h : Heap), YP w h → (K w.params).In h)
    (F : ∀ (w : World) (mg : Str → Option Value) (fa : Addr) (h : Heap), (K w.params).In h → h.Ns mainGlobals mg → mg d.name = some (.ref fa) →
      ∃ fd : FuncData, (∀ (s : Shared) (u : Value), BindsTo s fd ⟨[u], []⟩ [(x, u)]) ∧ ∀ base : Heap, (K w.params).In base → base.Ns mainGlobals mg → FnG l.prog w (K w.params) mg base k fa fd [x] (sp w))
    (hsp : ∀ (w : World) (H : Hp) (a : Addr) (ns : List Int), ns.length ≤ n → SqL (K w.params) H a (ns.map V.int) → sp w [.ref a] H (fun v _ => v = .bl true) fun _ _ _ => False)
    (hCX : ∀ (w : World) (H : Hp) (s : Shared) (e : Value) (s' : Shared), L2.CX l.prog w [] H s (fun _ _ _ => False) e s' → False) :
    PySem.W.WalkO q loose XP YP l.row.toRowW d [] (fun f vs => PySem.call f vs) := by
  refine Att.attach_call hn hdf fun w s₀ s mg mb fa o pm cd doc a vs ns G Y ho hd hcd hmg hobj hints hlen hg => ?_
  have KX := hY w _ Y
  obtain ⟨fd, hb, hF⟩ := F w mg fa _ KX G.T.g hmg
  have rv := vals_ints hints
  have hsz : ns.length ≤ sizeLine := Nat.le_trans hlen hn2
  have nd : ∀ es ep, ({ cls := .type "list", data := .seq vs.toArray } : Obj).data ≠ .dict es ep := fun es ep z => by cases (show Data.seq vs.toArray _ = Data.dict es ep from z)
  cases hk : (K w.params).lookup a with
  | some o' =>
    have z := KX a o' hk
    rw [hobj] at z
    cases z
    exact law_at (vs := vs) (H := fun _ => none) (fun _ => .inl rfl) (fun b u z => by cases z) KX G.T.g G.T.b G.T.builtins G.T.nolimit hg hobj nd (fun b u z => by cases (show (none : Option HO) = some u from z)) hr hF (hb _ _)
      (hsp w _ a ns hlen (.inr ⟨_, vs.toArray, _, hk, rfl, rfl, rfl, by rw [List.size_toArray, hints.length]; exact hsz, by simpa using rv⟩)) fun e s' => hCX w _ s e s'
  | none =>
    have hH : ∀ b u, (if b = a then some (HO.frz { cls := .type "list", data := .seq vs.toArray } (.lst (ns.map V.int))) else none) = some u → b = a ∧ u = .frz { cls := .type "list", data := .seq vs.toArray } (.lst (ns.map V.int)) := fun b u z => by
      by_cases e : b = a
      · rw [if_pos e] at z; exact ⟨e, (Option.some.inj z).symm⟩
      · rw [if_neg e] at z; cases z
    exact law_at (vs := vs) (H := fun b => if b = a then some (.frz { cls := .type "list", data := .seq vs.toArray } (.lst (ns.map V.int))) else none) (fun b => by
        by_cases e : b = a
        · exact .inr ⟨_, _, if_pos e⟩
        · exact .inl (if_neg e)) (fun b u z => ⟨(hH b u z).1, hk⟩) KX G.T.g G.T.b G.T.builtins G.T.nolimit hg hobj nd (fun b u z => by
        obtain ⟨e1, e2⟩ := hH b u z
        subst e1 e2
        exact ⟨hobj, by rw [List.length_map]; exact hsz, vs, _, rv, hobj⟩) hr hF (hb _ _)
      (hsp w _ a ns hlen (.inl (.inr ⟨_, if_pos rfl⟩))) fun e s' => hCX w _ s e s'
end CH
end
section
namespace CH
open PySem L2 Evl PyProof.Rows

def SAs (X : Cx) (T : Tab) (W : WX) (as : CAs) (es : List Expr) (ρ : Env) (r : R (List D × Env)) : Prop := ∀ (L : List Addr) (σ : L2.St) (H Hs : Hp) (fp : List Addr) (Q : List V → Hp → Prop), StOk X.K T L Hs H ρ σ fp →
  Cont r (fun p => ∀ vs H' Hs' fp', Pst X.K T L σ Hs H fp ρ p.2 H' Hs' fp' → ArgV X.K T Hs' σ as p.1 vs → Q vs H') (XOk X.K T L σ Hs H fp ρ W) → wEs X es σ H Q
section
variable {X : Cx} {T : Tab} {W : WX} {sc : Scope} {e : Expr} {es : List Expr} {ρ : Env}
theorem sas_nil : SAs X T W .nil [] ρ (.ok ([], ρ)) := fun L σ H Hs fp Q h k => k [] H Hs fp (Pst.refl h) .nil
theorem sas_val {c : CE} {as : CAs} {re : R (OT × Env)} {rs : Env → R (List D × Env)} (he : SE X T W e ρ re) (hs : ∀ ρ1, SAs X T W as es ρ1 (rs ρ1)) :
    SAs X T W (.val c as) (e :: es) ρ (re.bind fun p => (rs p.2).bind fun q => .ok (p.1.toD :: q.1, q.2)) := by
  intro L σ H Hs fp Q h k
  rw [cont_bind] at k
  refine he L σ H Hs fp _ h (k.imp (fun p k v H1 Hs1 fp1 ft p1 => ?_) fun _ _ x => x)
  rw [cont_bind] at k
  obtain ⟨f1, f2⟩ := p1.freeze
  refine hs p.2 L σ H1 _ fp1 _ f1.st (k.imp (fun q k vs H2 Hs2 fp2 p2 a2 => ?_) fun ex ρ' x => x.later f1)
  exact k (v :: vs) H2 Hs2 fp2 (f1.trans p2) (.val (f2.mono p2.sp.ex) a2)
theorem slot_val {i : Nat} (hs : X.env.scope = sc) (h : slotB X.N sc i e = true) {σ : L2.St} {v : V} (hv : σ[i]? = some (some v)) {H : Hp} {Q : VK} (q : Q v H) : wE X e σ H Q := wE_of (slot_of hs h) ⟨v, hv, q⟩
/-- an argument by reference; its slot holds a value -/
theorem sas_ref {i : Nat} {as : CAs} {r : R (List D × Env)} (hs : X.env.scope = sc) (hp : slotB X.N sc i e = true) (hi : ∃ t, Env.tree ρ i = some t) (hr : SAs X T W as es ρ r) : SAs X T W (.ref i as) (e :: es) ρ r := by
  intro L σ H Hs fp Q h k
  obtain ⟨t, ht⟩ := hi
  obtain ⟨v, f, h1, h2, h3⟩ := h.rs.read ht
  exact slot_val hs hp h1 (hr L σ H Hs fp (fun vs H => Q (v :: vs) H) h (k.imp (fun q k vs H2 Hs2 fp2 p2 a2 => k (v :: vs) H2 Hs2 fp2 p2 (.ref h1 a2)) fun _ _ x => x))
/-- the call of a def -/
theorem se_call {f : Nat} {a : Addr} {n : Nat} {k : Nat} {x : Str} {p pos : Pos} {Φ : Phi} {as : CAs} {r : R (List D × Env)} (tk : Takes X W)
    (gd : X.A.guards = some []) (F : FnR X.prog X.w X.K X.mg X.base k a n (spF X.K T (Φ f) n)) (hr : Room k X.A) (hg : Gl X x) (hm : X.mg x = some (.ref a)) (hk : PySem.W.keepIn X.K (.ref a) = true) (hn : ∀ us, Φ f us ≠ .no → us.length = n)
    (hne : es ≠ []) (hst : nostar es = true) (hdb : (x == ("__debug__" : Str)) = false) (ha : SAs X T W as es ρ r) :
    SE X T W (.Call (.Name x p) es [] pos) ρ (r.bind fun q => match fillA as q.1 q.2 with
      | none => .no
      | some us => match Φ f us with
        | .ok (t, ws) => match backA as ws (goneA as q.2) with
          | some ρ2 => .ok (t, ρ2)
          | none => .no
        | .ex e _ => .ex e (goneA as q.2)
        | .no => .no) := by
  intro L σ H Hs fp Q h kk
  cases es with
  | nil => exact absurd rfl hne
  | cons e es =>
    have ke : isStar e = false ∧ nostar es = true := by simpa [nostar] using hst
    refine wE_of (pe_callG gd tk F hr hg hm hk hdb (paW X (e :: es) hst) (star_cons ke.1) (star_any ke.2)) ?_
    rw [cont_bind] at kk
    refine ha L σ H Hs fp _ h (kk.imp (fun q kk vs H1 Hs1 fp1 p1 av => ?_) fun _ _ x => x)
    obtain ⟨ds, ρ1⟩ := q
    simp only at kk
    split at kk
    · exact kk.elim
    · rename_i us hus
      have n0 : Φ f us ≠ .no := fun z => by rw [z] at kk; exact kk.elim
      obtain ⟨fc, fr, g1, g2, g3⟩ := fill_ok av hus p1.st.rs
      have nd := g3.nodup_iff.mp p1.st.nd
      have d := List.nodup_append.mp nd
      have sub : ∀ x ∈ fc, x ∈ fp1 := fun x hx => g3.mem_iff.mpr (by simp [hx])
      have subr : ∀ x ∈ fr, x ∈ fp1 := fun x hx => g3.mem_iff.mpr (by simp [hx])
      have rn : ∀ x ∈ fr, x ∉ fc := fun x hx hf => d.2.2 x hf x hx rfl
      have ln : ∀ x ∈ L, x ∉ fc := fun x hx hf => p1.st.lf x hx (sub x hf)
      refine ⟨by have e1 := g1.length; simp at e1; rw [← e1]; exact hn us n0, us, Hs1, fc, ⟨p1.st.ex, g1, d.1, fun x hx => p1.st.nf x (sub x hx), fun x hx => absurd hx (by simp), fun x hx => absurd hx (by simp)⟩, ?_⟩
      cases hΦ : Φ f us with
      | no => exact absurd hΦ n0
      | ok tw =>
        obtain ⟨t, ws⟩ := tw
        rw [hΦ] at kk
        intro v H2 Hs2 fc' ft st rp ndf nf sp
        simp only at kk st
        split at kk
        · rename_i ρ2 hb2
          have fr2 : RpS X.K T Hs2 H2 L (goneA as ρ1) σ fr := g2.step sp.ex (fun _ z => z) fun x hx o q => sp.fr x o q (hx.elim (rn x) (ln x))
          obtain ⟨fp2, m1, fq, m2, m3⟩ := back_ok av hus fr2 st.rs hb2
          have dfc := List.nodup_append.mp ndf
          have tr : ∀ x ∈ fr, ∃ o, H1 x = some o := fun x hx => p1.st.rs.tracked x (subr x hx)
          have out : ∀ x ∈ fr, x ∉ ft ++ fc' := fun x hx => sp.out (tr x hx) (rn x hx)
          have outL : ∀ x ∈ L, x ∉ ft ++ fc' := fun x hx => sp.out (p1.st.lt x hx).1 (ln x hx)
          have mem : ∀ x ∈ fp2, x ∈ fc' ∨ x ∈ fr := fun x hx => (List.mem_append.mp (m2.mem_iff.mp hx)).imp (fun z => m3.subset z) id
          refine kk v H2 Hs2 fp2 ft ⟨⟨st.ex, m1, m2.nodup_iff.mpr (List.nodup_append.mpr ⟨dfc.2.1.sublist m3, d.2.1, fun x hx y hy e => by
              subst e; exact out x hy (by simp [m3.subset hx])⟩), fun x hx => ?_, fun x hx hf => ?_, fun x hx => ⟨?_, sp.outHs (p1.st.lt x hx).1 (ln x hx) (p1.st.lt x hx).2⟩⟩, rp, List.nodup_append.mpr ⟨dfc.1, ?_, fun x hx y hy e => ?_⟩, nf, fun x hx hf => outL x hx (by simp [hf]), ?_, ?_⟩
          · rcases mem x hx with z | z
            · exact st.nf x z
            · exact sp.outHs (tr x z) (rn x z) (p1.st.nf x (subr x z))
          · rcases mem x hf with z | z
            · exact outL x hx (by simp [z])
            · exact p1.st.lf x hx (subr x z)
          · obtain ⟨o, q⟩ := (p1.st.lt x hx).1
            exact ⟨o, sp.fr x o q (ln x hx)⟩
          · exact m2.nodup_iff.mpr (List.nodup_append.mpr ⟨dfc.2.1.sublist m3, d.2.1, fun x hx y hy e => by subst e; exact out x hy (by simp [m3.subset hx])⟩)
          · subst e
            rcases mem x hy with z | z
            · exact dfc.2.2 x hx x z rfl
            · exact out x z (by simp [hx])
          · have w := p1.sp.trans (sp.wider (fp2 := fp1) sub fr subr)
            refine w.sub fun x hx => ?_
            rcases List.mem_append.mp hx with z | z
            · simp [z]
            · rcases mem x z with z | z <;> simp [z]
          · have l1 := lks_gone (as := as) hus
            rw [lks_back hus (fun i t ht => ?_) hb2, l1, p1.lk]
            have e2 : (lks (goneA as ρ1))[i]? = (lks ρ1)[i]? := by rw [l1]
            rw [lks_get, lks_get, own_get ht] at e2
            cases z : (goneA as ρ1)[i]? with
            | none => rw [z] at e2; simp at e2
            | some s =>
              rw [z] at e2
              cases s with
              | no => exact .inl rfl
              | ow u => exact .inr ⟨u, rfl⟩
              | lk u => simp [lkOf] at e2
        · exact kk.elim
      | ex e' ρ' =>
        rw [hΦ] at kk
        intro H2 Hs2 C d' ex sp xr
        simp only at kk
        have tr : ∀ x ∈ fr, ∃ o, H1 x = some o := fun x hx => p1.st.rs.tracked x (subr x hx)
        refine kk H2 Hs2 fr C d' ⟨⟨⟨ex, g2.step sp.ex (fun _ z => z) fun x hx o q => sp.fr x o q (hx.elim (rn x) (ln x)), d.2.1, fun x hx => sp.outHs (tr x hx) (rn x hx) (p1.st.nf x (subr x hx)), fun x hx hf => p1.st.lf x hx (subr x hf), fun x hx => ⟨?_, sp.outHs (p1.st.lt x hx).1 (ln x hx) (p1.st.lt x hx).2⟩⟩, ?_, ?_⟩, xr⟩
        · obtain ⟨o, q⟩ := (p1.st.lt x hx).1
          exact ⟨o, sp.fr x o q (ln x hx)⟩
        · have w := p1.sp.trans (sp.wider (fp2 := fp1) sub fr subr)
          exact w.sub fun x hx => by simp [hx]
        · rw [lks_gone (as := as) hus, p1.lk]
theorem se_callW {f : Nat} {a : Addr} {n : Nat} {k : Nat} {x : Str} {p pos : Pos} {Φ : Phi} {as : CAs} {r : R (List D × Env)} (tk : Takes X W)
    (gd : X.A.guards = some []) {ps : List Str} {kws : List Keyword} (hnl : ps.length = n) (F : FnW X.prog X.w X.K X.mg X.base k a ps (spF X.K T (Φ f) n)) (hr : Room k X.A) (hg : Gl X x) (hm : X.mg x = some (.ref a)) (hk : PySem.W.keepIn X.K (.ref a) = true) (hn : ∀ us, Φ f us ≠ .no → us.length = n)
    (hkw : kws.map (·.arg) = ps.map some) (hdb : (x == ("__debug__" : Str)) = false) (ha : SAs X T W as (kws.map (·.value)) ρ r) :
    SE X T W (.Call (.Name x p) [] kws pos) ρ (r.bind fun q => match fillA as q.1 q.2 with
      | none => .no
      | some us => match Φ f us with
        | .ok (t, ws) => match backA as ws (goneA as q.2) with
          | some ρ2 => .ok (t, ρ2)
          | none => .no
        | .ex e _ => .ex e (goneA as q.2)
        | .no => .no) := by
  intro L σ H Hs fp Q h kk
  refine wE_of (pe_callW gd tk F hr hg hm hk hdb hkw) ?_
  rw [cont_bind] at kk
  refine ha L σ H Hs fp _ h (kk.imp (fun q kk vs H1 Hs1 fp1 p1 av => ?_) fun _ _ x => x)
  obtain ⟨ds, ρ1⟩ := q
  simp only at kk
  split at kk
  · exact kk.elim
  · rename_i us hus
    have n0 : Φ f us ≠ .no := fun z => by rw [z] at kk; exact kk.elim
    obtain ⟨fc, fr, g1, g2, g3⟩ := fill_ok av hus p1.st.rs
    have nd := g3.nodup_iff.mp p1.st.nd
    have d := List.nodup_append.mp nd
    have sub : ∀ x ∈ fc, x ∈ fp1 := fun x hx => g3.mem_iff.mpr (by simp [hx])
    have subr : ∀ x ∈ fr, x ∈ fp1 := fun x hx => g3.mem_iff.mpr (by simp [hx])
    have rn : ∀ x ∈ fr, x ∉ fc := fun x hx hf => d.2.2 x hf x hx rfl
    have ln : ∀ x ∈ L, x ∉ fc := fun x hx hf => p1.st.lf x hx (sub x hf)
    refine ⟨by have e1 := g1.length; simp at e1; rw [← e1]; exact hn us n0, us, Hs1, fc, ⟨p1.st.ex, g1, d.1, fun x hx => p1.st.nf x (sub x hx), fun x hx => absurd hx (by simp), fun x hx => absurd hx (by simp)⟩, ?_⟩
    cases hΦ : Φ f us with
    | no => exact absurd hΦ n0
    | ok tw =>
      obtain ⟨t, ws⟩ := tw
      rw [hΦ] at kk
      intro v H2 Hs2 fc' ft st rp ndf nf sp
      simp only at kk st
      split at kk
      · rename_i ρ2 hb2
        have fr2 : RpS X.K T Hs2 H2 L (goneA as ρ1) σ fr := g2.step sp.ex (fun _ z => z) fun x hx o q => sp.fr x o q (hx.elim (rn x) (ln x))
        obtain ⟨fp2, m1, fq, m2, m3⟩ := back_ok av hus fr2 st.rs hb2
        have dfc := List.nodup_append.mp ndf
        have tr : ∀ x ∈ fr, ∃ o, H1 x = some o := fun x hx => p1.st.rs.tracked x (subr x hx)
        have out : ∀ x ∈ fr, x ∉ ft ++ fc' := fun x hx => sp.out (tr x hx) (rn x hx)
        have outL : ∀ x ∈ L, x ∉ ft ++ fc' := fun x hx => sp.out (p1.st.lt x hx).1 (ln x hx)
        have mem : ∀ x ∈ fp2, x ∈ fc' ∨ x ∈ fr := fun x hx => (List.mem_append.mp (m2.mem_iff.mp hx)).imp (fun z => m3.subset z) id
        refine kk v H2 Hs2 fp2 ft ⟨⟨st.ex, m1, m2.nodup_iff.mpr (List.nodup_append.mpr ⟨dfc.2.1.sublist m3, d.2.1, fun x hx y hy e => by
            subst e; exact out x hy (by simp [m3.subset hx])⟩), fun x hx => ?_, fun x hx hf => ?_, fun x hx => ⟨?_, sp.outHs (p1.st.lt x hx).1 (ln x hx) (p1.st.lt x hx).2⟩⟩, rp, List.nodup_append.mpr ⟨dfc.1, ?_, fun x hx y hy e => ?_⟩, nf, fun x hx hf => outL x hx (by simp [hf]), ?_, ?_⟩
        · rcases mem x hx with z | z
          · exact st.nf x z
          · exact sp.outHs (tr x z) (rn x z) (p1.st.nf x (subr x z))
        · rcases mem x hf with z | z
          · exact outL x hx (by simp [z])
          · exact p1.st.lf x hx (subr x z)
        · obtain ⟨o, q⟩ := (p1.st.lt x hx).1
          exact ⟨o, sp.fr x o q (ln x hx)⟩
        · exact m2.nodup_iff.mpr (List.nodup_append.mpr ⟨dfc.2.1.sublist m3, d.2.1, fun x hx y hy e => by subst e; exact out x hy (by simp [m3.subset hx])⟩)
        · subst e
          rcases mem x hy with z | z
          · exact dfc.2.2 x hx x z rfl
          · exact out x z (by simp [hx])
        · have w := p1.sp.trans (sp.wider (fp2 := fp1) sub fr subr)
          refine w.sub fun x hx => ?_
          rcases List.mem_append.mp hx with z | z
          · simp [z]
          · rcases mem x z with z | z <;> simp [z]
        · have l1 := lks_gone (as := as) hus
          rw [lks_back hus (fun i t ht => ?_) hb2, l1, p1.lk]
          have e2 : (lks (goneA as ρ1))[i]? = (lks ρ1)[i]? := by rw [l1]
          rw [lks_get, lks_get, own_get ht] at e2
          cases z : (goneA as ρ1)[i]? with
          | none => rw [z] at e2; simp at e2
          | some s =>
            rw [z] at e2
            cases s with
            | no => exact .inl rfl
            | ow u => exact .inr ⟨u, rfl⟩
            | lk u => simp [lkOf] at e2
      · exact kk.elim
    | ex e' ρ' =>
      rw [hΦ] at kk
      intro H2 Hs2 C d' ex sp xr
      simp only at kk
      have tr : ∀ x ∈ fr, ∃ o, H1 x = some o := fun x hx => p1.st.rs.tracked x (subr x hx)
      refine kk H2 Hs2 fr C d' ⟨⟨⟨ex, g2.step sp.ex (fun _ z => z) fun x hx o q => sp.fr x o q (hx.elim (rn x) (ln x)), d.2.1, fun x hx => sp.outHs (tr x hx) (rn x hx) (p1.st.nf x (subr x hx)), fun x hx hf => p1.st.lf x hx (subr x hf), fun x hx => ⟨?_, sp.outHs (p1.st.lt x hx).1 (ln x hx) (p1.st.lt x hx).2⟩⟩, ?_, ?_⟩, xr⟩
      · obtain ⟨o, q⟩ := (p1.st.lt x hx).1
        exact ⟨o, sp.fr x o q (ln x hx)⟩
      · have w := p1.sp.trans (sp.wider (fp2 := fp1) sub fr subr)
        exact w.sub fun x hx => by simp [hx]
      · rw [lks_gone (as := as) hus, p1.lk]
end

section
variable {K : PySem.W.Frag} {T : Tab} {Hs H Hs' H' : Hp} {L : List Addr} {σ : L2.St} {ρ ρ' : Env} {fp fp' : List Addr}
theorem RpOs.split : ∀ {ts : List OT} {vs : List V} {g : List Addr} {k : Nat} {t : OT}, RpOs K T Hs H ts vs g → ts[k]? = some t → ∃ v f g', vs[k]? = some v ∧ RpO K T Hs H t v f ∧ RpOs K T Hs H (ts.eraseIdx k) (vs.eraseIdx k) g' ∧ g.Perm (f ++ g')
  | _, _, _, k, _, .nil, e => by simp at e
  | _, _, _, 0, _, .cons h r, e => by simp at e; subst e; exact ⟨_, _, _, rfl, h, r, .refl _⟩
  | _, _, _, k + 1, _, .cons (f := f1) h r, e => by
    obtain ⟨v, f, g', h1, h2, h3, h4⟩ := RpOs.split (k := k) r (by simpa using e)
    refine ⟨v, f, f1 ++ g', by simpa using h1, h2, .cons h h3, ?_⟩
    exact (List.Perm.append_left f1 h4).trans (by rw [← List.append_assoc, ← List.append_assoc]; exact List.Perm.append_right g' List.perm_append_comm)
theorem RpOs.cut : ∀ {ts : List OT} {vs : List V} {g : List Addr} (n : Nat), RpOs K T Hs H ts vs g → ∃ g1 g2, RpOs K T Hs H (ts.take n) (vs.take n) g1 ∧ RpOs K T Hs H (ts.drop n) (vs.drop n) g2 ∧ g.Perm (g1 ++ g2)
  | _, _, g, 0, r => ⟨[], g, .nil, r, .refl _⟩
  | _, _, _, _ + 1, .nil => ⟨[], [], .nil, .nil, .refl _⟩
  | _, _, _, n + 1, .cons (f := f1) h r => by
    obtain ⟨g1, g2, r1, r2, p⟩ := r.cut n
    exact ⟨f1 ++ g1, g2, .cons h r1, r2, by rw [List.append_assoc]; exact List.Perm.append_left f1 p⟩
theorem RpOs.replace : ∀ {ts : List OT} {vs : List V} {g : List Addr} {j : Nat} {t : OT} {v : V} {f : List Addr}, RpOs K T Hs H ts vs g → j < ts.length → RpO K T Hs H t v f → ∃ g' rest, RpOs K T Hs H (ts.set j t) (vs.set j v) g' ∧ (g ++ f).Perm (g' ++ rest)
  | _, _, _, j, t, v, f, .nil, e, h => by simp at e
  | _, _, _, 0, t, v, f, .cons (f := f1) (g := g1) h0 r, e, h => ⟨f ++ g1, f1, .cons h r, by
      rw [List.append_assoc]
      exact (List.perm_append_comm).trans (List.Perm.append_right f1 List.perm_append_comm)⟩
  | _, _, _, j + 1, t, v, f, .cons (f := f1) (g := g1) h0 r, e, h => by
    obtain ⟨g', rest, h1, h2⟩ := RpOs.replace (j := j) r (by simpa using e) h
    exact ⟨f1 ++ g', rest, .cons h0 h1, by rw [List.append_assoc, List.append_assoc]; exact List.Perm.append_left f1 h2⟩
/-- what a change gives: the value t at y, the new items; the rest is dropped -/
structure MuOk (K : PySem.W.Frag) (T : Tab) (Hs H : Hp) (g : List Addr) (t : OT) (y : V) (us' : List OT) (ws : List V) : Prop where
  out : ∃ g' ft rest, RpO K T Hs H t y ft ∧ RpOs K T Hs H us' ws g' ∧ g.Perm ((ft ++ g') ++ rest)
/-- a name's own list in the state -/
theorem StOk.ownList {i : Nat} {us : List OT} (h : StOk K T L Hs H ρ σ fp) (e : ρ.ownL i = some us) : ∃ a vs g fr, σ[i]? = some (some (.ref a)) ∧ H a = some (.lst vs) ∧ RpOs K T Hs H us vs g ∧ fp.Perm (a :: g ++ fr) ∧ RpS K T Hs H L (ρ.set i .no) σ fr ∧ i < ρ.length ∧ ρ[i]? = some (.ow (.lst us)) := by
  have e0 : ρ[i]? = some (.ow (.lst us)) := by
    unfold Env.ownL at e
    split at e
    · rename_i e1; cases Option.some.inj e; exact e1
    · cases e
  obtain ⟨v, f, fr, h1, h2, h3, h4⟩ := h.rs.takeOut e0
  cases h2 with
  | lst q1 q2 => exact ⟨_, _, _, fr, h1, q1, q2, h3, h4, (List.getElem?_eq_some_iff.mp e0).1, e0⟩
/-- the list at a slot replaced -/
theorem mu_state {i : Nat} {us us' ts : List OT} {ws ys : List V} {a : Addr} {vs : List V} {g fr ft : List Addr} {t : OT} {y : V} {Hs0 H0 : Hp} {fp0 : List Addr} {ρ0 : Env} (ps : Posts K T L σ Hs0 H0 fp0 ρ0 ts ρ ys H Hs fp ft) (hσ : σ[i]? = some (some (.ref a))) (ha : H a = some (.lst vs)) (hu : RpOs K T Hs H us vs g)
    (pm : fp.Perm (a :: g ++ fr)) (hr : RpS K T Hs H L (ρ.set i .no) σ fr) (hi : i < ρ.length) (e0 : ρ[i]? = some (.ow (.lst us))) (m : MuOk K T Hs H (g ++ ft) t y us' ws) :
    ∃ fp' gt, Post K T L σ Hs0 H0 fp0 ρ0 t (ρ.set i (.ow (.lst us'))) y (L2.upd H a (.lst ws)) Hs fp' gt := by
  obtain ⟨g', gt, rest, r1, r2, p2⟩ := m.out
  have nd0 : (ft ++ (a :: g ++ fr)).Nodup := (List.Perm.append_left ft pm).nodup_iff.mp ps.nd
  -- all addresses in one row
  have all : (ft ++ fp).Perm (a :: (gt ++ g' ++ rest) ++ fr) := by
    have z1 : (ft ++ fp).Perm (ft ++ (a :: g ++ fr)) := List.Perm.append_left ft pm
    have z2 : (ft ++ (a :: g ++ fr)).Perm (a :: (g ++ ft) ++ fr) := by
      have : (ft ++ (a :: g ++ fr)) = (ft ++ (a :: g)) ++ fr := by simp
      rw [this]
      refine List.Perm.append_right fr ?_
      exact (List.perm_append_comm).trans (by simp)
    exact (z1.trans z2).trans (List.Perm.append_right fr (List.Perm.cons a p2))
  have ndA : (a :: (gt ++ g' ++ rest) ++ fr).Nodup := all.nodup_iff.mp ps.nd
  have mem : ∀ x, x = a ∨ x ∈ gt ∨ x ∈ g' ∨ x ∈ rest ∨ x ∈ fr → x ∈ ft ++ fp := fun x hx => all.mem_iff.mpr (by
    simp only [List.mem_append, List.mem_cons]
    rcases hx with h | h | h | h | h <;> simp [h])
  have nfA : ∀ x ∈ ft ++ fp, Hs x = none := fun x hx => (List.mem_append.mp hx).elim (ps.nf x) (ps.st.nf x)
  have aN : ∀ x, x ∈ gt ∨ x ∈ g' ∨ x ∈ fr → x ≠ a := fun x hx e => by
    subst e
    have := (List.nodup_cons.mp (show (x :: ((gt ++ g' ++ rest) ++ fr)).Nodup from ndA)).1
    exact this (by simp only [List.mem_append]; rcases hx with h | h | h <;> simp [h])
  have aL : a ∉ L := fun h => (by
    rcases List.mem_append.mp (mem a (.inl rfl)) with z | z
    · exact ps.lf a h z
    · exact ps.st.lf a h z)
  have keep : ∀ x, x ≠ a → ∀ o, H x = some o → (L2.upd H a (.lst ws)) x = some o := fun x hx o q => by rw [upd_ne hx]; exact q
  have k1 : RpOs K T Hs (L2.upd H a (.lst ws)) us' ws g' := r2.step (Ex.refl _) fun x hx => keep x (aN x (.inr (.inl hx)))
  have k2 : RpO K T Hs (L2.upd H a (.lst ws)) t y gt := r1.step (Ex.refl _) fun x hx => keep x (aN x (.inl hx))
  have k3 : RpS K T Hs (L2.upd H a (.lst ws)) L (ρ.set i .no) σ fr := hr.step (Ex.refl _) (fun _ z => z) fun x hx => keep x (by
    rcases hx with hx | hx
    · exact aN x (.inr (.inr hx))
    · exact fun e => aL (e ▸ hx))
  obtain ⟨fp', m1, m2⟩ := k3.put (i := i) (by simpa using hi) (by rw [List.getElem?_set_self hi]) (RpO.lst (upd_same (H := H) (a := a) (o := .lst ws)) k1)
  rw [List.set_set] at m1
  have eσ : σ.set i (some (.ref a)) = σ := by
    obtain ⟨hi2, e2⟩ := List.getElem?_eq_some_iff.mp hσ
    rw [← e2, List.set_getElem_self]
  rw [eσ] at m1
  have sub : ∀ x ∈ fp', x ∈ ft ++ fp := fun x hx => mem x (by
    have := m2.mem_iff.mp hx
    simp only [List.cons_append, List.mem_cons, List.mem_append] at this
    rcases this with h | h | h <;> simp [h])
  have subt : ∀ x ∈ gt, x ∈ ft ++ fp := fun x hx => mem x (.inr (.inl hx))
  have ndn : (gt ++ fp').Nodup := by
    have z : (a :: (gt ++ g') ++ fr).Nodup := by
      refine List.Nodup.sublist ?_ ndA
      simp
    have z2 : (gt ++ (a :: g' ++ fr)).Nodup := by
      refine List.Perm.nodup_iff ?_ |>.mp z
      have : (a :: (gt ++ g') ++ fr) = a :: (gt ++ (g' ++ fr)) := by simp
      rw [this]
      refine List.Perm.symm ?_
      have : (gt ++ (a :: g' ++ fr)) = gt ++ a :: (g' ++ fr) := by simp
      rw [this]
      exact List.perm_middle
    exact (List.Perm.append_left gt m2.symm).nodup_iff.mp z2
  have lt2 : ∀ x ∈ L, x ∉ ft ++ fp := fun x hx hf => (List.mem_append.mp hf).elim (ps.lf x hx) (ps.st.lf x hx)
  refine ⟨fp', gt, ⟨ps.st.ex.mut (nfA a (mem a (.inl rfl))), m1, (List.nodup_append.mp ndn).2.1, fun x hx => nfA x (sub x hx), fun x hx hf => lt2 x hx (sub x hf), fun x hx => ⟨?_, (ps.st.lt x hx).2⟩⟩, k2, ndn, fun x hx => nfA x (subt x hx), fun x hx hf => lt2 x hx (subt x hf), ?_, ?_⟩
  · obtain ⟨o, q⟩ := (ps.st.lt x hx).1
    exact ⟨o, keep x (fun e => aL (e ▸ hx)) o q⟩
  · have w : Stp (ft ++ fp) H Hs (ft ++ fp) (L2.upd H a (.lst ws)) Hs := Stp.updD (D := a) (mem a (.inl rfl))
    exact (ps.sp.trans w).sub fun x hx => (List.mem_append.mp hx).elim (subt x) (sub x)
  · rw [← ps.lk]
    exact lks_set e0 rfl
end
/-- xs.insert(i, y) -/
def rInsert : V → List V → Hp → VK → Prop := fun x vs H Q => ∃ (l : Addr) (xs : List V) (i : Int) (y : V), x = .ref l ∧ vs = [.int i, y] ∧ H l = some (.lst xs) ∧ xs.length < sizeLine ∧ 0 ≤ i ∧ i < 2 ^ 63 ∧ Q .non (L2.upd H l (.lst (xs.take i.toNat ++ [y] ++ xs.drop i.toNat)))
def Mu.nm : Mu → Str
  | .append => "append" | .extend => "extend" | .pop => "pop" | .popAt => "pop" | .insert => "insert" | .setIx => "__setitem__" | .remove => "remove"
section
variable {X : Cx} {T : Tab} {W : WX} {sc : Scope} {e : Expr} {es : List Expr} {ρ : Env}
theorem perm_nil {α : Type} (l : List α) : l.Perm (([] ++ l) ++ []) := by rw [List.append_nil, List.nil_append]
theorem mu_popAt {us ts : List OT} {r : OT × List OT} (h : muEv .popAt us ts = some r) : ∃ i, ts = [.sh (.int i)] ∧ (if -(2 ^ 63) ≤ i ∧ i < 2 ^ 63 then (seqIndex? i us.length).bind fun k => (us[k]?).map fun t => (t, us.eraseIdx k) else none) = some r := by
  unfold muEv at h
  split at h <;> first | contradiction | skip
  all_goals first | (rename_i z _ _ _; cases z; done) | exact ⟨_, rfl, h⟩
theorem mu_setIx {us ts : List OT} {r : OT × List OT} (h : muEv .setIx us ts = some r) : ∃ t i, ts = [t, .sh (.int i)] ∧ ((ixN us.length i).map fun j => (OT.sh .non, us.set j t)) = some r := by
  unfold muEv at h
  split at h <;> first | contradiction | skip
  all_goals exact ⟨_, _, rfl, h⟩
theorem mu_insert {us ts : List OT} {r : OT × List OT} (h : muEv .insert us ts = some r) : ∃ i t, ts = [.sh (.int i), t] ∧ (0 ≤ i ∧ i < 2 ^ 62 ∧ us.length < big) ∧ (OT.sh .non, us.take i.toNat ++ [t] ++ us.drop i.toNat) = r := by
  unfold muEv at h
  split at h <;> first | contradiction | skip
  all_goals
    split at h
    · rename_i hb
      exact ⟨_, _, rfl, hb, Option.some.inj h⟩
    · cases h
def MuR (X : Cx) (m : Mu) (H : Hp) (a : Addr) (ys vs : List V) (y : V) (ws : List V) : Prop := match m with
  | .append => ∀ Q : VK, Q y (L2.upd H a (.lst ws)) → rAppend (.ref a) ys H Q
  | .extend => ∀ Q : VK, Q y (L2.upd H a (.lst ws)) → rExtend (.ref a) ys H Q
  | .pop => ys = [] ∧ ∀ Q : VK, Q y (L2.upd H a (.lst ws)) → rPop (.ref a) [] H Q
  | .popAt => ∀ Q : VK, Q y (L2.upd H a (.lst ws)) → rPopAt (.ref a) ys H Q
  | .insert => ∀ Q : VK, Q y (L2.upd H a (.lst ws)) → rInsert (.ref a) ys H Q
  | .setIx => ∃ v k j, ys = [v, .int k] ∧ L2.ixN vs.length k = some j ∧ ws = vs.set j v
  | _ => False
/-- each change, by the layer's rule -/
theorem mu_rule {m : Mu} {Hs H : Hp} {us us' ts : List OT} {t : OT} {a : Addr} {vs ys : List V} {g ft : List Addr} (ex : Ex Hs H) (ha : H a = some (.lst vs)) (hu : RpOs X.K T Hs H us vs g) (hts : RpOs X.K T Hs H ts ys ft) (hev : muEv m us ts = some (t, us')) :
    ∃ y ws, MuOk X.K T Hs H (g ++ ft) t y us' ws ∧ MuR X m H a ys vs y ws := by
  cases m with
  | append =>
    match ts, hts, hev with
    | [t0], .cons (v := y0) (f := f0) h0 .nil, hev =>
      obtain ⟨hz, e1⟩ := guard_eq (show guard_ (decide (us.length < big)) (OT.sh .non, us ++ [t0]) = some (t, us') from hev)
      cases e1
      refine ⟨.non, vs ++ [y0], ⟨g ++ (f0 ++ []), [], [], .sh .non, hu.append (.cons h0 .nil), by simp⟩, fun Q q => ⟨a, vs, y0, rfl, rfl, ha, ?_, q⟩⟩
      rw [← hu.length, ← line]; exact of_decide_eq_true hz
    | [], _, hev => cases hev
    | _ :: _ :: _, _, hev => cases hev
  | extend =>
    match ts, hts, hev with
    | [t0], .cons (v := y0) (f := f0) h0 .nil, hev =>
      obtain ⟨ds, h1, h2⟩ := Option.bind_eq_some_iff.mp (show (t0.litems.bind fun ds => guard_ (decide (us.length + ds.length ≤ big)) (OT.sh .non, us ++ ds.map OT.sh)) = some (t, us') from hev)
      obtain ⟨hz, e1⟩ := guard_eq h2
      cases e1
      obtain ⟨b, zs, rfl, hb, rs⟩ := opd_litems ex ⟨_, h0⟩ h1
      refine ⟨.non, vs ++ zs, ⟨g ++ [], [], f0, .sh .non, hu.append (.of rs), by simp⟩, fun Q q => ⟨a, b, vs, zs, rfl, rfl, ha, hb, ?_, q⟩⟩
      rw [← hu.length, ← rs.length, ← line]; exact of_decide_eq_true hz
    | [], _, hev => cases hev
    | _ :: _ :: _, _, hev => cases hev
  | pop =>
    match ts, hts, hev with
    | [], .nil, hev =>
      obtain ⟨t0, h1, e1⟩ := Option.map_eq_some_iff.mp (show (us[us.length - 1]?).map (fun t => (t, us.dropLast)) = some (t, us') from hev)
      cases e1
      obtain ⟨v, f, g', h2, h3, h4, h5⟩ := hu.split h1
      have d1 : us.eraseIdx (us.length - 1) = us.dropLast := by rw [List.dropLast_eq_take, List.eraseIdx_eq_take_drop_succ]; simp; omega
      have d2 : vs.eraseIdx (us.length - 1) = vs.dropLast := by rw [hu.length, List.dropLast_eq_take, List.eraseIdx_eq_take_drop_succ]; simp; omega
      rw [d1, d2] at h4
      exact ⟨v, vs.dropLast, ⟨g', f, [], h3, h4, by simpa using h5⟩, rfl, fun Q q => ⟨a, vs, v, rfl, rfl, ha, by rw [← hu.length]; exact h2, q⟩⟩
    | _ :: _, _, hev => cases hev
  | popAt =>
    obtain ⟨i, e0, hv⟩ := mu_popAt hev
    clear hev
    subst e0
    match hts with
    | .cons h0 .nil =>
      split at hv
      · rename_i hb
        obtain ⟨k, h1, h2⟩ := Option.bind_eq_some_iff.mp hv
        obtain ⟨t0, h3, e1⟩ := Option.map_eq_some_iff.mp h2
        cases e1
        obtain ⟨v, f, g', k2, k3, k4, k5⟩ := hu.split h3
        cases h0 with
        | sh h0 =>
          cases h0
          exact ⟨v, _, ⟨g', f, [], k3, k4, by simpa using k5⟩, fun Q q => ⟨a, vs, i, k, v, rfl, rfl, ha, hb.1, hb.2, by rw [← hu.length]; exact h1, k2, q⟩⟩
      · cases hv
  | setIx =>
    obtain ⟨t0, i, e0, hv⟩ := mu_setIx hev
    clear hev
    subst e0
    obtain ⟨j, h1, e1⟩ := Option.map_eq_some_iff.mp hv
    cases e1
    match hts with
    | .cons (v := v0) (f := f0) h0 (.cons (f := f1) h1' .nil) =>
      cases h1' with
      | sh h2 =>
        cases h2
        have hj : j < us.length := by
          have := (ixN_seq h1).2.1
          exact this
        obtain ⟨g', rest, r1, r2⟩ := hu.replace (j := j) hj h0
        exact ⟨.non, vs.set j v0, ⟨g', [], rest, .sh .non, r1, by simpa using r2⟩, v0, i, j, rfl, by rw [← hu.length]; exact h1, rfl⟩
  | insert =>
    obtain ⟨i, t0, e0, ⟨b1, b2, b3⟩, e1⟩ := mu_insert hev
    clear hev
    subst e0
    cases e1
    match hts with
    | .cons h0 (.cons (v := v0) (f := f0) h1 .nil) =>
      cases h0 with
      | sh h0 =>
        cases h0
        obtain ⟨g1, g2, r1, r2, pm⟩ := hu.cut i.toNat
        refine ⟨.non, vs.take i.toNat ++ [v0] ++ vs.drop i.toNat, ⟨g1 ++ f0 ++ g2, [], [], .sh .non, ?_, ?_⟩, fun Q q => ⟨a, vs, i, v0, rfl, rfl, ha, by rw [← hu.length, ← line]; exact b3, b1, by omega, q⟩⟩
        · have r3 : RpOs X.K T Hs H [t0] [v0] f0 := by have := RpOs.cons h1 RpOs.nil; rw [List.append_nil] at this; exact this
          exact (r1.append r3).append r2
        · have p1 : (g1 ++ f0 ++ g2).Perm (g1 ++ g2 ++ f0) := by
            rw [List.append_assoc, List.append_assoc]
            exact List.Perm.append_left g1 List.perm_append_comm
          have p2 : (g ++ f0).Perm (g1 ++ g2 ++ f0) := List.Perm.append_right f0 pm
          simpa using p2.trans p1.symm
  | remove => cases ts <;> cases hev
end
end CH
end
section
namespace CH
open PySem L2 Evl PyProof.Rows

theorem Posts.freeze {K : PySem.W.Frag} {T : Tab} {L : List Addr} {σ : L2.St} {Hs H H' Hs' : Hp} {fp fp' ft : List Addr} {ρ ρ' : Env} {ts : List OT} {vs : List V} (p : Posts K T L σ Hs H fp ρ ts ρ' vs H' Hs' fp' ft) : Pst K T L σ Hs H fp ρ ρ' H' (frz Hs' H' ft) fp' ∧ Rps K T (frz Hs' H' ft) (toDs ts) vs := by
  have d := List.nodup_append.mp p.nd
  have nin : ∀ a ∈ fp', a ∉ ft := fun a ha hf => d.2.2 a hf a ha rfl
  refine ⟨⟨⟨frz_le p.st.ex, p.st.rs.step (frz_ex p.nf) (fun _ q => q) fun _ _ _ q => q, p.st.nd, fun a ha => by rw [frz_out (nin a ha)]; exact p.st.nf a ha, p.st.lf, fun a ha => ⟨(p.st.lt a ha).1, by rw [frz_out (p.lf a ha)]; exact (p.st.lt a ha).2⟩⟩, ⟨p.sp.ex.trans (frz_ex p.nf), p.sp.fr, fun a ha => p.sp.nw a (by simp [ha]), fun a o q => ?_⟩, p.lk⟩, p.rp.frz p.nf fun a ha => ha⟩
  by_cases h : a ∈ ft
  · exact .inr (p.sp.nw a (by simp [h]))
  · rw [frz_out h] at q; exact p.sp.dm a o q
section
variable {X : Cx} {T : Tab} {W : WX} {sc : Scope} {e : Expr} {es : List Expr} {ρ : Env} {pos : Pos}
theorem wT.mono {σ : L2.St} {H : Hp} {Q Q' : Bool → Hp → Prop} (h : wT X e σ H Q) (k : ∀ v H, Q v H → Q' v H) : wT X e σ H Q' := fun pins s I =>
  thn (h pins s I) fun u s' ⟨H', I', q⟩ => ⟨H', I', k u H' q⟩
theorem se_val {d : D} {z : V} (p : PE X e (tC z)) (r : ∀ Hs, Rp X.K T Hs d z) : SE X T W e ρ (.ok (.sh d, ρ)) := fun L σ H Hs fp Q h k => wE_of p (k z H Hs fp [] (Post.val h (r Hs)))
theorem se_v {i : Nat} (hs : X.env.scope = sc) (hp : slotB X.N sc i e = true) : SE X T W e ρ (getV ρ i) := by
  intro L σ H Hs fp Q h k
  unfold getV at k
  split at k
  · rename_i d e0
    obtain ⟨v, f, h1, h2, h3⟩ := h.rs.read e0
    cases h2 with
    | sh h2 => exact slot_val hs hp h1 (k v H Hs fp [] (Post.val h h2))
  · exact k.elim
theorem take_post {L : List Addr} {σ : L2.St} {H Hs : Hp} {fp : List Addr} {i : Nat} {t : OT} (h : StOk X.K T L Hs H ρ σ fp) (ht : Env.own ρ i = some t) : ∃ v f fr, σ[i]? = some (some v) ∧ Post X.K T L σ Hs H fp ρ t (ρ.set i .no) v H Hs fr f := by
  obtain ⟨v, f, fr, h1, h2, h3, h4⟩ := h.rs.takeOut (own_get ht)
  have nd := h3.nodup_iff.mp h.nd
  have d := List.nodup_append.mp nd
  have m : ∀ x, x ∈ f ∨ x ∈ fr → x ∈ fp := fun x hx => h3.mem_iff.mpr (List.mem_append.mpr hx)
  exact ⟨v, f, fr, h1, ⟨h.ex, h4, d.2.1, fun x hx => h.nf x (m x (.inr hx)), fun x hx hf => h.lf x hx (m x (.inr hf)), h.lt⟩, h2, nd, fun x hx => h.nf x (m x (.inl hx)), fun x hx hf => h.lf x hx (m x (.inl hf)), (Stp.refl _ _ _).sub fun x hx => m x (List.mem_append.mp hx), lks_set (own_get ht) rfl⟩
theorem se_take {i : Nat} (hs : X.env.scope = sc) (hp : slotB X.N sc i e = true) : SE X T W e ρ (match ρ.own i with
    | some t => .ok (t, ρ.set i .no)
    | none => .no) := by
  intro L σ H Hs fp Q h k
  cases ht : Env.own ρ i with
  | none => rw [ht] at k; exact k.elim
  | some t =>
    rw [ht] at k
    obtain ⟨v, f, fr, h1, p⟩ := take_post h ht
    exact slot_val hs hp h1 (k v H Hs fr f p)
theorem same_set {σ : L2.St} {i : Nat} {v : V} (h1 : σ[i]? = some (some v)) : σ.set i (some v) = σ := by
  obtain ⟨hi2, e2⟩ := List.getElem?_eq_some_iff.mp h1
  rw [← e2, List.set_getElem_self]
/-- a name's tree is frozen where it is -/
theorem frz_slot {L : List Addr} {σ : L2.St} {H Hs : Hp} {fp : List Addr} {i : Nat} {t : OT} (h : StOk X.K T L Hs H ρ σ fp) (ht : Env.own ρ i = some t) : ∃ v Hs' fp', σ[i]? = some (some v) ∧ Pst X.K T L σ Hs H fp ρ (ρ.set i (.ow (.sh t.toD))) H Hs' fp' ∧ Rp X.K T Hs' t.toD v := by
  obtain ⟨v, f, fr, h1, p⟩ := take_post h ht
  obtain ⟨p1, r1⟩ := p.freeze
  obtain ⟨fp', s1, s2⟩ := p1.st.store (i := i) (by simpa using own_lt ht) (.sh r1) (fun a ha => absurd ha (by simp)) .nil (fun a ha => absurd ha (by simp)) (fun a _ ha => absurd ha (by simp))
  rw [List.set_set, same_set h1] at s1
  exact ⟨v, _, fp', h1, ⟨s1, p1.sp.sub fun a ha => (s2 a ha).elim (fun z => absurd z (by simp)) id, lks_set (own_get ht) rfl⟩, r1⟩
theorem se_mv {i : Nat} (hs : X.env.scope = sc) (hp : slotB X.N sc i e = true) : SE X T W e ρ (match ρ.own i with
    | some t => .ok (.sh t.toD, ρ.set i (.ow (.sh t.toD)))
    | none => .no) := by
  intro L σ H Hs fp Q h k
  cases ht : Env.own ρ i with
  | none => rw [ht] at k; exact k.elim
  | some t =>
    rw [ht] at k
    obtain ⟨v, Hs', fp', h1, p, r⟩ := frz_slot h ht
    exact slot_val hs hp h1 (k v H Hs' fp' [] (p.post (Post.val p.st r)))
/-- a tuple, a list of written items -/
theorem se_tup {x1} {r : R (List OT × Env)} (hn : nostar es = true) (hr : SEs X T W es ρ r) : SE X T W (.Tuple es x1 pos) ρ (r.bind fun p => if p.1.length ≤ big then .ok (.sh (.tup (toDs p.1)), p.2) else .no) := by
  intro L σ H Hs fp Q h k
  rw [cont_bind] at k
  refine wE_of (pe_tup (paW X es hn)) (hr L σ H Hs fp _ h (k.imp (fun p k vs H1 Hs1 fp1 ft p1 => ?_) fun _ _ x => x))
  split at k
  · rename_i hl
    refine ⟨by rw [← p1.rp.length, ← line]; exact hl, fun a ha => ?_⟩
    obtain ⟨f1, f2⟩ := p1.freeze
    exact k _ _ _ _ _ (f1.post (New.post f1.st (New.tup f1.st.ex ha f2)))
  · exact k.elim
theorem se_lst {r : R (List OT × Env)} (hn : nostar es = true) (hr : SEs X T W es ρ r) : SE X T W (.List es pos) ρ (r.bind fun p => if p.1.length ≤ big then .ok (.lst p.1, p.2) else .no) := by
  intro L σ H Hs fp Q h k
  rw [cont_bind] at k
  refine wE_of (pe_lst (paW X es hn)) (hr L σ H Hs fp _ h (k.imp (fun p k vs H1 Hs1 fp1 ft p1 => ?_) fun _ _ x => x))
  split at k
  · rename_i hl
    refine ⟨by rw [← p1.rp.length, ← line]; exact hl, fun a ha => ?_⟩
    have tr : ∀ x ∈ ft ++ fp1, ∃ o, H1 x = some o := fun x hx => (List.mem_append.mp hx).elim (p1.rp.tracked x) (p1.st.rs.tracked x)
    have na : ∀ x, (∃ o, H1 x = some o) → x ≠ a := fun x ⟨o, q⟩ z => by subst z; rw [ha] at q; cases q
    refine k (.ref a) (L2.upd H1 a (.lst vs)) Hs1 fp1 (a :: ft) ⟨p1.st.grow (Ex.new ha) (Ex.refl _) (p1.st.ex.trans (Ex.new ha)) (fun _ _ q => .inl q), .lst upd_same (p1.rp.step (Ex.refl _) fun x hx o q => Ex.new ha x o q), ?_, fun x hx => ?_, fun x hx hf => ?_, ⟨p1.sp.ex, fun x o q n => Ex.new ha x o (p1.sp.fr x o q n), fun x hx => ?_, p1.sp.dm⟩, p1.lk⟩
    · exact List.nodup_cons.mpr ⟨fun hx => na a (tr a hx) rfl, p1.nd⟩
    · rcases List.mem_cons.mp hx with rfl | hx
      · exact none_of_ex p1.st.ex ha
      · exact p1.nf x hx
    · rcases List.mem_cons.mp hf with rfl | hf
      · exact na x (p1.st.lt x hx).1 rfl
      · exact p1.lf x hx hf
    · rcases List.mem_cons.mp hx with rfl | hx
      · exact p1.sp.back x (.inr ha)
      · exact p1.sp.nw x hx
  · exact k.elim
theorem se_one {op : BoolOp} {r : R (OT × Env)} (he : SE X T W e ρ r) : SE X T W (.BoolOp op [e] pos) ρ r := fun L σ H Hs fp Q h k => wE_of (pe_one (peW X e)) (he L σ H Hs fp Q h k)
theorem SE.later {L : List Addr} {σ : L2.St} {H Hs H1 Hs1 : Hp} {fp fp1 : List Addr} {ρ1 : Env} {r : R (OT × Env)} {Q : VK} (he : SE X T W e ρ1 r) (p : Pst X.K T L σ Hs H fp ρ ρ1 H1 Hs1 fp1)
    (k : Cont r (fun p => ∀ v H' Hs' fp' ft, Post X.K T L σ Hs H fp ρ p.1 p.2 v H' Hs' fp' ft → Q v H') (XOk X.K T L σ Hs H fp ρ W)) : wE X e σ H1 Q :=
  he L σ H1 Hs1 fp1 Q p.st (k.imp (fun q k v2 H2 Hs2 fp2 ft2 p2 => k _ _ _ _ _ (p.post p2)) fun ex ρ' x => x.later p)
theorem se_and {a b : Expr} {rest : List Expr} {ra : R (OT × Env)} {rb : Env → R (OT × Env)} (ha : SE X T W a ρ ra) (hb : ∀ ρ1, SE X T W (.BoolOp .And (b :: rest) pos) ρ1 (rb ρ1)) : SE X T W (.BoolOp .And (a :: b :: rest) pos) ρ (ra.bind fun p => match p.1 with
    | .sh (.bl true) => rb p.2
    | .sh (.bl false) => .ok (.sh (.bl false), p.2)
    | _ => .no) := by
  intro L σ H Hs fp Q h k
  rw [cont_bind] at k
  refine wE_of (pe_and (peW X a) (peW X _)) (ha L σ H Hs fp _ h (k.imp (fun p k v H1 Hs1 fp1 ft p1 => ?_) fun _ _ x => x))
  obtain ⟨t, ρ1⟩ := p
  simp only at k p1
  split at k
  · cases opd_bl ⟨_, p1.rp⟩
    exact ⟨true, rfl, (hb ρ1).later p1.pst k⟩
  · cases opd_bl ⟨_, p1.rp⟩
    exact ⟨false, rfl, k (.bl false) H1 Hs1 fp1 [] (p1.pst.post (Post.val p1.st (.bl false)))⟩
  · exact k.elim
theorem se_or {a b : Expr} {rest : List Expr} {ra : R (OT × Env)} {rb : Env → R (OT × Env)} (ha : SE X T W a ρ ra) (hb : ∀ ρ1, SE X T W (.BoolOp .Or (b :: rest) pos) ρ1 (rb ρ1)) : SE X T W (.BoolOp .Or (a :: b :: rest) pos) ρ (ra.bind fun p => match p.1 with
    | .sh (.bl false) => rb p.2
    | .sh (.bl true) => .ok (.sh (.bl true), p.2)
    | _ => .no) := by
  intro L σ H Hs fp Q h k
  rw [cont_bind] at k
  refine wE_of (pe_or (peW X a) (peW X _)) (ha L σ H Hs fp _ h (k.imp (fun p k v H1 Hs1 fp1 ft p1 => ?_) fun _ _ x => x))
  obtain ⟨t, ρ1⟩ := p
  simp only at k p1
  split at k
  · cases opd_bl ⟨_, p1.rp⟩
    exact ⟨false, rfl, (hb ρ1).later p1.pst k⟩
  · cases opd_bl ⟨_, p1.rp⟩
    exact ⟨true, rfl, k (.bl true) H1 Hs1 fp1 [] (p1.pst.post (Post.val p1.st (.bl true)))⟩
  · exact k.elim
theorem se_not {ra : R (OT × Env)} (ha : SE X T W e ρ ra) : SE X T W (.UnaryOp .Not e pos) ρ (ra.bind fun p => match p.1 with
    | .sh (.bl b) => .ok (.sh (.bl (!b)), p.2)
    | _ => .no) := by
  intro L σ H Hs fp Q h k
  rw [cont_bind] at k
  refine wE_of (pe_not (peW X e)) (ha L σ H Hs fp _ h (k.imp (fun p k v H1 Hs1 fp1 ft p1 => ?_) fun _ _ x => x))
  obtain ⟨t, ρ1⟩ := p
  simp only at k p1
  split at k
  · rename_i b
    cases opd_bl ⟨_, p1.rp⟩
    exact ⟨b, rfl, k _ H1 Hs1 fp1 [] (p1.pst.post (Post.val p1.st (.bl _)))⟩
  · exact k.elim
theorem se_ite {c a b : Expr} {rc : R (Bool × Env)} {ra rb : Env → R (OT × Env)} (hc : ST X T W c ρ rc) (ha : ∀ ρ1, SE X T W a ρ1 (ra ρ1)) (hb : ∀ ρ1, SE X T W b ρ1 (rb ρ1)) : SE X T W (.IfExp c a b pos) ρ (rc.bind fun p => if p.1 = true then ra p.2 else rb p.2) := by
  intro L σ H Hs fp Q h k
  rw [cont_bind] at k
  refine wE_of (pe_ifExp (ptW X c) (peW X a) (peW X b)) (hc L σ H Hs fp _ h (k.imp (fun p k H1 Hs1 fp1 p1 => ?_) fun _ _ x => x))
  obtain ⟨t, ρ1⟩ := p
  cases t with
  | true => exact (ha ρ1).later p1 k
  | false => exact (hb ρ1).later p1 k
theorem cm_rule (c : Cm) (hu : X.A.units + 66 < cLine) : OpR X (compareOp c.ast) (rCmS X.K T (cmpEv c)) := by
  cases c
  · exact cs_eq (by omega)
  · exact cs_ne (by omega)
  · exact cs_lt (by omega)
  · exact cs_le
  · exact cs_gt
  · exact cs_ge
  · exact cs_is
  · exact cs_isnot
  · exact cs_in (by omega)
  · exact cs_notin (by omega)
def chainR (o1 o2 : Cm) (ra : R (OT × Env)) (rb rc : Env → R (OT × Env)) : R (OT × Env) := ra.bind fun p => (rb p.2).bind fun q => match cmpEv o1 p.1 q.1 with
    | some true => (rc q.2).bind fun r => match cmpEv o2 q.1 r.1 with
      | some k => .ok (.sh (.bl k), r.2)
      | none => .no
    | some false => .ok (.sh (.bl false), q.2)
    | none => .no
theorem chain_read {o1 o2 : Cm} {a b c : Expr} {ra : R (OT × Env)} {rb rc : Env → R (OT × Env)} (ha : SE X T W a ρ ra) (hb : ∀ ρ1, SE X T W b ρ1 (rb ρ1)) (hc : ∀ ρ1, SE X T W c ρ1 (rc ρ1))
    {L : List Addr} {σ : L2.St} {H Hs : Hp} {fp : List Addr} {Q : VK} (h : StOk X.K T L Hs H ρ σ fp) (k : Cont (chainR o1 o2 ra rb rc) (fun p => ∀ b H' Hs' fp', p.1 = .sh (.bl b) → Pst X.K T L σ Hs H fp ρ p.2 H' Hs' fp' → Q (.bl b) H') (XOk X.K T L σ Hs H fp ρ W)) :
    tChain (rCmS X.K T (cmpEv o1)) (rCmS X.K T (cmpEv o2)) (wE X a) (wE X b) (wE X c) σ H Q := by
  unfold chainR at k
  rw [cont_bind] at k
  refine ha L σ H Hs fp _ h (k.imp (fun p k v H1 Hs1 fp1 ft p1 => ?_) fun _ _ x => x)
  rw [cont_bind] at k
  refine hb p.2 L σ H1 Hs1 fp1 _ p1.st (k.imp (fun q k y H2 Hs2 fp2 ft2 p2 => ?_) fun ex ρ' x => x.later p1.pst)
  have r1 := (p1.hold p2.pst).1
  have p12 := p1.pst.trans p2.pst
  cases hv : cmpEv o1 p.1 q.1 with
  | none => rw [hv] at k; exact k.elim
  | some d =>
    rw [hv] at k
    refine ⟨Hs2, p.1, q.1, d, p2.st.ex, ⟨_, r1⟩, ⟨_, p2.rp⟩, hv, d, rfl, ?_⟩
    cases d with
    | false => exact k false H2 Hs2 fp2 rfl p12
    | true =>
      have k : Cont ((rc q.2).bind fun r => match cmpEv o2 q.1 r.1 with
        | some k => .ok (OT.sh (.bl k), r.2)
        | none => .no) _ _ := k
      rw [cont_bind] at k
      refine hc q.2 L σ H2 Hs2 fp2 _ p2.st (k.imp (fun r k z H3 Hs3 fp3 ft3 p3 => ?_) fun ex ρ' x => x.later p12)
      have r2 := (p2.hold p3.pst).1
      cases hv2 : cmpEv o2 q.1 r.1 with
      | none => rw [hv2] at k; exact k.elim
      | some d2 =>
        rw [hv2] at k
        exact ⟨Hs3, q.1, r.1, d2, p3.st.ex, ⟨_, r2⟩, ⟨_, p3.rp⟩, hv2, k d2 H3 Hs3 fp3 rfl (p12.trans p3.pst)⟩
theorem se_chain {o1 o2 : Cm} {a b c : Expr} {ra : R (OT × Env)} {rb rc : Env → R (OT × Env)} (hu : X.A.units + 66 < cLine) (hm : lastMarks [o1.ast, o2.ast] [b, c] = false) (ha : SE X T W a ρ ra) (hb : ∀ ρ1, SE X T W b ρ1 (rb ρ1)) (hc : ∀ ρ1, SE X T W c ρ1 (rc ρ1)) :
    SE X T W (.Compare a [o1.ast, o2.ast] [b, c] pos) ρ (chainR o1 o2 ra rb rc) := fun L σ H Hs fp Q h k =>
  wE_of (pe_chain (cm_rule o1 hu) (cm_rule o2 hu) (peW X a) (peW X b) (peW X c) hm) (chain_read ha hb hc h (k.imp (fun p k b H' Hs' fp' e p1 => k (.bl b) H' Hs' fp' [] (p1.post (by rw [e]; exact Post.val p1.st (.bl b)))) fun _ _ x => x))
def truR (r : R (OT × Env)) : R (Bool × Env) := r.bind fun p => match truEv p.1 with
  | some b => .ok (b, p.2)
  | none => .no
theorem st_chain {o1 o2 : Cm} {a b c : Expr} {ra : R (OT × Env)} {rb rc : Env → R (OT × Env)} (hu : X.A.units + 66 < cLine) (hm : lastMarks [o1.ast, o2.ast] [b, c] = false) (ha : SE X T W a ρ ra) (hb : ∀ ρ1, SE X T W b ρ1 (rb ρ1)) (hc : ∀ ρ1, SE X T W c ρ1 (rc ρ1)) :
    ST X T W (.Compare a [o1.ast, o2.ast] [b, c] pos) ρ (truR (chainR o1 o2 ra rb rc)) := fun L σ H Hs fp Q h k => by
  unfold truR at k
  rw [cont_bind] at k
  exact wT_of (pt_chain (cm_rule o1 hu) (cm_rule o2 hu) (peW X a) (peW X b) (peW X c) hm) (chain_read ha hb hc h (k.imp (fun p k b H' Hs' fp' e p1 => ⟨b, rfl, by
    rw [e] at k
    exact k H' Hs' fp' p1⟩) fun _ _ x => x))
theorem st_cmp {c : Cm} {r : R (List OT × Env)} (hu : X.A.units + 66 < cLine) (h : opShape T.bn sc (.cmp c) e = some es) (ho : SOs X T W es ρ r) :
    ST X T W e ρ (truR (r.bind fun p => match (Op.cmp c).ev p.1 with
      | some t => .ok (t, p.2)
      | none => .no)) := by
  cases e <;> first | (simp [opShape] at h; done) | skip
  rename_i l ops rs pos
  match ops, rs, h with
  | [o], [rr], h =>
    obtain ⟨h1, rfl⟩ := guard_eq (show guard_ (decide (o = c.ast) && !behindInMarks o rr) [l, rr] = some es from h)
    rw [Bool.and_eq_true, Bool.not_eq_true'] at h1
    obtain ⟨h1, h2⟩ := h1
    cases of_decide_eq_true h1
    intro L σ H Hs fp Q h0 k
    unfold truR at k
    rw [cont_bind, cont_bind] at k
    refine wT_of (pt_cmpR (cm_rule (T := T) c hu) (peW X l) (peW X rr) h2) ?_
    refine wE2 (ho L σ H Hs fp (fun vs H1 => ∀ x y, vs = [x, y] → rCmS X.K T (cmpEv c) x y H1 fun z H' => ∃ k, z = .bl k ∧ Q k H') h0 (k.imp (fun p k vs H' Hs' fp' p1 o1 => ?_) fun _ _ x => x)) fun x y H1 q => q x y rfl
    rintro x y rfl
    cases hev : (Op.cmp c).ev p.1 with
    | none => rw [hev] at k; exact k.elim
    | some t =>
      rw [hev] at k
      obtain ⟨s1, t1, z1, z2, z3⟩ := ev2 (two_ev (f := fun s t => (cmpEv c s t).map fun b => .sh (.bl b)) (fun _ _ => rfl) rfl (fun _ => rfl) (fun _ _ _ _ => rfl)) hev o1
      obtain ⟨b, h3, rfl⟩ := Option.map_eq_some_iff.mp z3
      exact ⟨Hs', s1, t1, b, p1.st.ex, z1, z2, h3, b, rfl, k H' Hs' fp' p1⟩
  | [], _, h => simp [opShape] at h
  | _ :: _ :: _, _, h => simp [opShape] at h
  | [_], [], h => simp [opShape] at h
  | [_], _ :: _ :: _, h => simp [opShape] at h
theorem st_kin {x : Str} {ng : Bool} {kvs : List (Str × Int)} {r : R (List OT × Env)} (hs : X.env.scope = sc) (hk : DctOk X x kvs) (h : opShape T.bn sc (.kin x ng kvs) e = some es) (ho : SOs X T W es ρ r) :
    ST X T W e ρ (truR (r.bind fun p => match (Op.kin x ng kvs).ev p.1 with
      | some t => .ok (t, p.2)
      | none => .no)) := by
  intro L σ H Hs fp Q h0 k
  unfold truR at k
  rw [cont_bind, cont_bind] at k
  refine wT_of (sh_kinT hs hk h) (ho L σ H Hs fp _ h0 (k.imp (fun p k vs H' Hs' fp' p1 o1 => ?_) fun _ _ x => x))
  cases hev : (Op.kin x ng kvs).ev p.1 with
  | none => rw [hev] at k; exact k.elim
  | some t =>
    rw [hev] at k
    refine ⟨Hs', p.1, t, p1.st.ex, o1, hev, fun z H2 Hs2 ft n => ?_⟩
    have pp := p1.post (New.post p1.st n)
    have k : Cont (match truEv t with
      | some b => CH.R.ok (b, p.2)
      | none => .no) _ _ := k
    cases hb : truEv t with
    | none => rw [hb] at k; exact k.elim
    | some b =>
      rw [hb] at k
      obtain ⟨s1, _, h2⟩ := one_ev (f := kinEv ng kvs) (fun _ => rfl) rfl (fun _ _ _ => rfl) _ _ hev
      unfold kinEv at h2
      split at h2
      · cases Option.some.inj h2
        cases Option.some.inj (show some _ = some b from hb)
        have := n.rp
        cases this with
        | sh this => cases this; exact ⟨_, rfl, k H2 Hs2 fp' pp.pst⟩
      · cases h2
/-- an operand alone -/
def SO (X : Cx) (T : Tab) (W : WX) (e : Expr) (ρ : Env) (r : R (OT × Env)) : Prop := ∀ (L : List Addr) (σ : L2.St) (H Hs : Hp) (fp : List Addr) (Q : VK), StOk X.K T L Hs H ρ σ fp →
  Cont r (fun p => ∀ v H' Hs' fp', Pst X.K T L σ Hs H fp ρ p.2 H' Hs' fp' → Opd X.K T Hs' H' p.1 v → Q v H') (XOk X.K T L σ Hs H fp ρ W) → wE X e σ H Q
theorem so_e {r : R (OT × Env)} (he : SE X T W e ρ r) : SO X T W e ρ r := fun L σ H Hs fp Q h k => he L σ H Hs fp Q h (k.imp (fun p k v H' Hs' fp' ft p1 => k v H' Hs' fp' p1.pst ⟨ft, p1.rp⟩) fun _ _ x => x)
theorem so_bor {i : Nat} {p : List Str} (hs : X.env.scope = sc) (hp : pathB X.N sc i p e = true) : SO X T W e ρ (match (ρ.tree i).bind fun r => r.getP p with
    | some t => .ok (t, ρ)
    | none => .no) := by
  intro L σ H Hs fp Q h k
  cases ht : (Env.tree ρ i).bind fun r => r.getP p with
  | none => rw [ht] at k; exact k.elim
  | some t =>
    rw [ht] at k
    obtain ⟨r, h1, h2⟩ := Option.bind_eq_some_iff.mp ht
    obtain ⟨x, f, l1, l2, _⟩ := h.rs.read h1
    obtain ⟨v, g, r1, _, _, r3⟩ := path_read hs h.ex l1 l2 hp h2
    exact r3 _ (k v H Hs fp (Pst.refl h) ⟨g, r1⟩)
def plainTest : Expr → Bool
  | .UnaryOp .Not _ _ => false
  | .BoolOp .. => false
  | .IfExp .. => false
  | .Compare .. => false
  | _ => true
theorem plain_test {a : Expr} {env : PySem.Env} (h : plainTest a = true) : ∀ whole, isTrue a env whole = (do let v ← whole; standAt a.pos; holding [v] (truthy v)) := by
  intro whole
  cases a with
  | UnaryOp op x p => cases op <;> first | rfl | cases h
  | BoolOp => cases h
  | IfExp => cases h
  | Compare => cases h
  | _ => rfl
theorem st_val {r : R (OT × Env)} (hp : plainTest e = true) (ho : SO X T W e ρ r) : ST X T W e ρ (truR r) := by
  intro L σ H Hs fp Q h k
  unfold truR at k
  rw [cont_bind] at k
  refine wT_of (pt_truth (peW X e) (plain_test hp)) (ho L σ H Hs fp _ h (k.imp (fun p k v H' Hs' fp' p1 o1 => ?_) fun _ _ x => x))
  cases hv : truEv p.1 with
  | none => rw [hv] at k; exact k.elim
  | some b =>
    rw [hv] at k
    exact ⟨b, tru_of p1.st.ex o1 hv, k H' Hs' fp' p1⟩
theorem st_not {r : R (Bool × Env)} (h : ST X T W e ρ r) : ST X T W (.UnaryOp .Not e pos) ρ (r.bind fun p => .ok (!p.1, p.2)) := by
  intro L σ H Hs fp Q h0 k
  rw [cont_bind] at k
  exact wT_of (pt_not (ptW X e)) (h L σ H Hs fp _ h0 k)
/-- tests joined -/
def wAll (X : Cx) : List Expr → TT
  | [] => fun _ H Q => Q true H
  | e :: es => fun σ H Q => wT X e σ H fun c H1 => if c = true then wAll X es σ H1 Q else Q false H1
def wAny (X : Cx) : List Expr → TT
  | [] => fun _ H Q => Q false H
  | e :: es => fun σ H Q => wT X e σ H fun c H1 => if c = true then Q true H1 else wAny X es σ H1 Q
theorem pw_all : ∀ {es : List Expr}, es ≠ [] → PW X (.BoolOp .And es pos) (wAll X es)
  | [], h => absurd rfl h
  | [e], _ => ⟨fun wh pins s σ H Q I h => (pw_and1 (ptW X e)).run wh pins s σ H Q I (wT.mono h fun c H1 q => by
    cases c with
    | true => exact q
    | false => exact q)⟩
  | e :: f :: es, _ => pw_and (ptW X e) (pw_all (es := f :: es) (by simp))
theorem pw_any : ∀ {es : List Expr}, es ≠ [] → PW X (.BoolOp .Or es pos) (wAny X es)
  | [], h => absurd rfl h
  | [e], _ => ⟨fun wh pins s σ H Q I h => (pw_or1 (ptW X e)).run wh pins s σ H Q I (wT.mono h fun c H1 q => by
    cases c with
    | true => exact q
    | false => exact q)⟩
  | e :: f :: es, _ => pw_or (ptW X e) (pw_any (es := f :: es) (by simp))
def SAl (X : Cx) (T : Tab) (W : WX) (wl : List Expr → TT) (es : List Expr) (ρ : Env) (r : R (Bool × Env)) : Prop := ∀ (L : List Addr) (σ : L2.St) (H Hs : Hp) (fp : List Addr) (Q : Bool → Hp → Prop), StOk X.K T L Hs H ρ σ fp →
  Cont r (fun p => ∀ H' Hs' fp', Pst X.K T L σ Hs H fp ρ p.2 H' Hs' fp' → Q p.1 H') (XOk X.K T L σ Hs H fp ρ W) → wl es σ H Q
theorem sal_nil : SAl X T W (wAll X) [] ρ (.ok (true, ρ)) := fun L σ H Hs fp Q h k => k H Hs fp (Pst.refl h)
theorem say_nil : SAl X T W (wAny X) [] ρ (.ok (false, ρ)) := fun L σ H Hs fp Q h k => k H Hs fp (Pst.refl h)
theorem sal_cons {r : R (Bool × Env)} {rs : Env → R (Bool × Env)} (he : ST X T W e ρ r) (hs : ∀ ρ1, SAl X T W (wAll X) es ρ1 (rs ρ1)) : SAl X T W (wAll X) (e :: es) ρ (r.bind fun p => if p.1 = true then rs p.2 else .ok (false, p.2)) := by
  intro L σ H Hs fp Q h k
  rw [cont_bind] at k
  refine he L σ H Hs fp _ h (k.imp (fun p k H1 Hs1 fp1 p1 => ?_) fun _ _ x => x)
  obtain ⟨b, ρ1⟩ := p
  cases b with
  | true => exact hs ρ1 L σ H1 Hs1 fp1 Q p1.st (k.imp (fun q k H2 Hs2 fp2 p2 => k _ _ _ (p1.trans p2)) fun ex ρ' x => x.later p1)
  | false => exact k H1 Hs1 fp1 p1
theorem say_cons {r : R (Bool × Env)} {rs : Env → R (Bool × Env)} (he : ST X T W e ρ r) (hs : ∀ ρ1, SAl X T W (wAny X) es ρ1 (rs ρ1)) : SAl X T W (wAny X) (e :: es) ρ (r.bind fun p => if p.1 = true then .ok (true, p.2) else rs p.2) := by
  intro L σ H Hs fp Q h k
  rw [cont_bind] at k
  refine he L σ H Hs fp _ h (k.imp (fun p k H1 Hs1 fp1 p1 => ?_) fun _ _ x => x)
  obtain ⟨b, ρ1⟩ := p
  cases b with
  | false => exact hs ρ1 L σ H1 Hs1 fp1 Q p1.st (k.imp (fun q k H2 Hs2 fp2 p2 => k _ _ _ (p1.trans p2)) fun ex ρ' x => x.later p1)
  | true => exact k H1 Hs1 fp1 p1
theorem st_all {r : R (Bool × Env)} (hn : es ≠ []) (h : SAl X T W (wAll X) es ρ r) : ST X T W (.BoolOp .And es pos) ρ r := fun L σ H Hs fp Q h0 k => wT_of (pw_all hn).pt (h L σ H Hs fp Q h0 k)
theorem st_any {r : R (Bool × Env)} (hn : es ≠ []) (h : SAl X T W (wAny X) es ρ r) : ST X T W (.BoolOp .Or es pos) ρ r := fun L σ H Hs fp Q h0 k => wT_of (pw_any hn).pt (h L σ H Hs fp Q h0 k)
/-- a comprehension's tests: none, one -/
theorem sts_nil : STs X T W [] ρ (.ok (true, ρ)) := fun L σ H Hs fp Q h k => k H Hs fp (Pst.refl h)
theorem sts_one {r : R (Bool × Env)} (he : ST X T W e ρ r) : STs X T W [e] ρ (r.bind fun p => if p.1 = true then .ok (true, p.2) else .ok (false, p.2)) := fun L σ H Hs fp Q h k => by
  rw [cont_bind] at k
  exact he L σ H Hs fp Q h (k.imp (fun p k => by
    obtain ⟨b, ρ1⟩ := p
    cases b <;> exact k) fun _ _ x => x)
end
end CH
end
section
namespace CH
open PySem L2 Evl PyProof.Rows
section
variable {X : Cx} {T : Tab} {W : WX} {sc : Scope} {e : Expr} {es : List Expr} {ρ : Env} {pos : Pos}
theorem few_of {es : List Expr} {env : PySem.Env} {cpos : Pos} (hn : nostar es = true) (hl : es.length < 30) : ((backTo cpos (starEach es env)).all (fun x => !x.1) && (backToKw cpos (keywordEach [] env)).all (fun x => x.1.isSome)
      && decide (es.length + ([] : List Keyword).length + (if ([] : List Keyword).isEmpty then 0 else 1) < 30)) = true := by
  have h1 : (backTo cpos (starEach es env)).all (fun x => !x.1) = true := by
    have h := star_any (es := es) (env := env) (pos := cpos) hn
    rw [List.all_eq_not_any_not]
    simpa using h
  rw [h1]
  have h2 : decide (es.length + ([] : List Keyword).length + (if ([] : List Keyword).isEmpty then 0 else 1) < 30) = true := decide_eq_true (by simpa using hl)
  rw [h2]
  rfl
def muShape (m : Mu) : Expr → Option (Expr × List Expr)
  | .Call (.Attribute o name apos) es [] cpos => guard_ (decide (name = m.nm) && notCallB o && (apos.endLine == cpos.line) && nostar es && decide (es.length < 30) && (match m with
    | .append => decide (es.length = 1)
    | .extend => decide (es.length = 1)
    | .pop => es.isEmpty
    | .popAt => decide (es.length = 1)
    | .insert => decide (es.length = 2)
    | _ => false)) (o, es)
  | _ => none
/-- the reading of a change -/
def tMu (X : Cx) (m : Mu) (o : Expr) (es : List Expr) : TE := fun σ H Q => wE X o σ H fun x H1 => tyV X.K "list" x H1 ∧ wEs X es σ H1 fun ys H2 => ∃ a vs y ws, x = .ref a ∧ H2 a = some (.lst vs) ∧ (∀ Q : VK, Q y (L2.upd H2 a (.lst ws)) → match m with
    | .append => rAppend (.ref a) ys H2 Q
    | .extend => rExtend (.ref a) ys H2 Q
    | .pop => ys = [] ∧ rPop (.ref a) [] H2 Q
    | .popAt => rPopAt (.ref a) ys H2 Q
    | .insert => rInsert (.ref a) ys H2 Q
    | _ => False) ∧ Q y (L2.upd H2 a (.lst ws))
theorem sh_mu {m : Mu} {o : Expr} (h : muShape m e = some (o, es)) : PE X e (tMu X m o es) := by
  unfold muShape at h
  split at h <;> first | contradiction | skip
  rename_i o' name apos es' cpos
  obtain ⟨h1, h2⟩ := guard_eq h
  cases h2
  simp only [Bool.and_eq_true] at h1
  obtain ⟨⟨⟨⟨⟨k1, k2⟩, k3⟩, k4⟩, k5⟩, k6⟩ := h1
  have key : ∀ {id : String} {r : V → List V → Hp → VK → Prop}, Slot "list" m.nm id → typeOf (.builtin id) = pure (.type "method_descriptor") → MtR X id r → es ≠ [] → (∀ a ys H Q, (∀ y ws, (∀ Q : VK, Q y (L2.upd H a (.lst ws)) → match (generalizing := false) m with
      | .append => rAppend (.ref a) ys H Q
      | .extend => rExtend (.ref a) ys H Q
      | .pop => ys = [] ∧ rPop (.ref a) [] H Q
      | .popAt => rPopAt (.ref a) ys H Q
      | .insert => rInsert (.ref a) ys H Q
      | _ => False) → Q y (L2.upd H a (.lst ws)) → r (.ref a) ys H Q)) → PE X (.Call (.Attribute o name apos) es [] cpos) (tMu X m o es) := fun {id r} hs ht hm hne hr => by
    cases of_decide_eq_true k1
    cases es with
    | nil => exact absurd rfl hne
    | cons a as =>
      have ka : isStar a = false ∧ nostar as = true := by simpa [nostar] using k4
      refine ⟨fun pins s σ H Q I hw => (pe_bm PySem.F.plainAttrs_list hs ht hm (peW X o) (paW X (a :: as) k4) (base_of k2) (few_of k4 (of_decide_eq_true k5)) k3 (star_cons ka.1) (star_any ka.2)).run pins s σ H Q I (wE.mono hw fun x H1 ⟨ty, q⟩ => ⟨ty, wEs.mono q fun ys H2 ⟨p, vs, y, ws, e1, e2, e3, e4⟩ => ?_⟩)⟩
      subst e1
      exact hr p ys H2 Q y ws e3 e4
  cases m with
  | append =>
    exact key PySem.F.slot_list_append PySem.F.type_list_append mt_append (fun z => by subst z; simp at k6) fun a ys H Q y ws q w => q Q w
  | extend =>
    exact key PySem.F.slot_list_extend PySem.F.type_list_extend mt_extend (fun z => by subst z; simp at k6) fun a ys H Q y ws q w => q Q w
  | popAt =>
    exact key PySem.F.slot_list_pop PySem.F.type_list_pop mt_popAt (fun z => by subst z; simp at k6) fun a ys H Q y ws q w => q Q w
  | pop =>
    have e0 : es = [] := by simpa using k6
    subst e0
    cases of_decide_eq_true k1
    refine ⟨fun pins s σ H Q I hw => (pe_bm0 PySem.F.plainAttrs_list PySem.F.slot_list_pop PySem.F.type_list_pop mt_pop (peW X o) (base_of k2) k3).run pins s σ H Q I (wE.mono hw fun x H1 ⟨ty, q⟩ => ⟨ty, ?_⟩)⟩
    obtain ⟨p, vs, y, ws, e1, e2, e3, e4⟩ := (show (∃ a vs y ws, x = .ref a ∧ H1 a = some (.lst vs) ∧ (∀ Q : VK, Q y (L2.upd H1 a (.lst ws)) → ([] : List V) = [] ∧ rPop (.ref a) [] H1 Q) ∧ Q y (L2.upd H1 a (.lst ws))) from q)
    subst e1
    exact (e3 Q e4).2
  | insert =>
    exact key PySem.F.slot_list_insert PySem.F.type_list_insert mt_insert (fun z => by subst z; simp at k6) fun a ys H Q y ws q w => q Q w
  | setIx => cases k6
  | remove => cases k6
theorem ownL_get {ρ : Env} {i : Nat} {us : List OT} (e : ρ.ownL i = some us) : ρ[i]? = some (.ow (.lst us)) := by
  unfold Env.ownL at e
  split at e
  · rename_i e1; cases Option.some.inj e; exact e1
  · cases e
theorem se_mu {m : Mu} {o : Expr} {i : Nat} {r : R (List OT × Env)} (hs : X.env.scope = sc) (h : muShape m e = some (o, es)) (hp : slotB X.N sc i o = true) (hr : SEs X T W es ρ r) : SE X T W e ρ (match ρ.ownL i with
    | none => .no
    | some _ => r.bind fun p => match p.2.ownL i with
      | none => .no
      | some us => match muEv m us p.1 with
        | some (t, us') => .ok (t, p.2.set i (.ow (.lst us')))
        | none => .no) := by
  intro L σ H Hs fp Q h0 k
  refine wE_of (sh_mu h) ?_
  cases hl : ρ.ownL i with
  | none => rw [hl] at k; exact k.elim
  | some us0 =>
    rw [hl] at k
    obtain ⟨a, vs0, g0, fr0, h1, h2, _⟩ := h0.ownList hl
    refine slot_val hs hp h1 ⟨.inl ⟨rfl, _, SqL.of h2⟩, ?_⟩
    have k : Cont (r.bind fun p => match p.2.ownL i with
      | none => .no
      | some us => match muEv m us p.1 with
        | some (t, us') => .ok (t, p.2.set i (.ow (.lst us')))
        | none => .no) _ _ := k
    rw [cont_bind] at k
    refine hr L σ H Hs fp _ h0 (k.imp (fun p k ys H1 Hs1 fp1 ft p1 => ?_) fun _ _ x => x)
    cases hl1 : p.2.ownL i with
    | none => rw [hl1] at k; exact k.elim
    | some us =>
      rw [hl1] at k
      cases hev : muEv m us p.1 with
      | none => simp only [hev] at k; exact k.elim
      | some tu =>
        obtain ⟨t, us'⟩ := tu
        simp only [hev] at k
        obtain ⟨a2, vs, g, fr, q1, q2, q3, q4, q5, q6, q7⟩ := p1.st.ownList hl1
        rw [h1] at q1
        cases q1
        obtain ⟨y, ws, mo, mr⟩ := mu_rule p1.st.ex q2 q3 p1.rp hev
        obtain ⟨fp2, gt, po⟩ := mu_state p1 h1 q2 q3 q4 q5 q6 q7 mo
        refine ⟨a, vs, y, ws, rfl, q2, fun Q q => ?_, k y _ Hs1 fp2 gt po⟩
        cases m with
        | append => exact mr Q q
        | extend => exact mr Q q
        | pop => exact ⟨mr.1, mr.2 Q q⟩
        | popAt => exact mr Q q
        | setIx =>
          unfold muShape at h
          split at h <;> first | contradiction | skip
          obtain ⟨z, _⟩ := guard_eq h
          simp at z
        | insert => exact mr Q q
        | remove => exact mr
def wB (X : Cx) : Option Expr → TO
  | none => tNoPart
  | some e => tPart (wE X e)
theorem poW (X : Cx) : ∀ o : Option Expr, PO X o (wB X o)
  | none => po_none
  | some e => po_some (peW X e)
def SB (X : Cx) (T : Tab) (W : WX) (o : Option Expr) (ρ : Env) (r : R (Option Int × Env)) : Prop := ∀ (L : List Addr) (σ : L2.St) (H Hs : Hp) (fp : List Addr) (Q : Option Int → Hp → Prop), StOk X.K T L Hs H ρ σ fp →
  Cont r (fun p => ∀ H' Hs' fp', Pst X.K T L σ Hs H fp ρ p.2 H' Hs' fp' → Q p.1 H') (XOk X.K T L σ Hs H fp ρ W) → wB X o σ H Q
theorem sb_no : SB X T W none ρ (.ok (none, ρ)) := fun L σ H Hs fp Q h k => k H Hs fp (Pst.refl h)
theorem sb_at {r : R (OT × Env)} (he : SE X T W e ρ r) : SB X T W (some e) ρ (r.bind fun p => match p.1 with
    | .sh (.int i) => .ok (some i, p.2)
    | _ => .no) := by
  intro L σ H Hs fp Q h k
  rw [cont_bind] at k
  refine he L σ H Hs fp _ h (k.imp (fun p k v H1 Hs1 fp1 ft p1 => ?_) fun _ _ x => x)
  obtain ⟨t, ρ1⟩ := p
  simp only at k p1
  split at k
  · rename_i i
    exact ⟨i, opd_int ⟨_, p1.rp⟩, k H1 Hs1 fp1 p1.pst⟩
  · exact k.elim
def gB (X : Cx) (lo hi : Option Expr) : L2.St → Hp → ((Option Int × Option Int) → Hp → Prop) → Prop := fun σ H Q => wB X lo σ H fun l H1 => wB X hi σ H1 fun u H2 => Q (l, u) H2
theorem sg_b2 {lo hi : Option Expr} {f g : Env → R (Option Int × Env)} (hl : ∀ ρ, SB X T W lo ρ (f ρ)) (hh : ∀ ρ, SB X T W hi ρ (g ρ)) : SG X T W (gB X lo hi) (fun a b _ _ => a = b) ρ (b2 f g ρ) := by
  intro L σ H Hs fp Q h k
  unfold b2 at k
  rw [cont_bind] at k
  refine hl ρ L σ H Hs fp _ h (k.imp (fun p k H1 Hs1 fp1 p1 => ?_) fun _ _ x => x)
  rw [cont_bind] at k
  exact hh p.2 L σ H1 Hs1 fp1 _ p1.st (k.imp (fun q k H2 Hs2 fp2 p2 => k (p.1, q.1) H2 Hs2 fp2 (p1.trans p2) rfl) fun ex ρ' x => x.later p1)
def slcR (r : R ((OT × (Option Int × Option Int)) × Env)) : R (OT × Env) := r.bind fun p => match slcEv p.1.2.1 p.1.2.2 p.1.1 with
  | some w => .ok (w, p.2)
  | none => .no
theorem se_slc {lo hi : Option Expr} {p2 : Pos} {r : R ((OT × (Option Int × Option Int)) × Env)} (hr : SG X T W (fun σ H (Q : V × (Option Int × Option Int) → Hp → Prop) => wE X e σ H fun x H1 => gB X lo hi σ H1 fun b H2 => Q (x, b) H2) (fun a b Hs H => Opd X.K T Hs H a.1 b.1 ∧ a.2 = b.2) ρ r) :
    SE X T W (.Subscript e (.Slice lo hi none p2) pos) ρ (slcR r) := by
  intro L σ H Hs fp Q h k
  unfold slcR at k
  rw [cont_bind] at k
  refine wE_of (pe_slice sls (peW X e) (poW X lo) (poW X hi)) (hr L σ H Hs fp (fun b H => rSlcS X.K T b.1 b.2.1 b.2.2 H Q) h (k.imp (fun p k b H' Hs' fp' p1 o => ?_) fun _ _ x => x))
  obtain ⟨o1, o2⟩ := o
  cases hv : slcEv p.1.2.1 p.1.2.2 p.1.1 with
  | none => rw [hv] at k; exact k.elim
  | some w =>
    rw [hv] at k
    exact ⟨Hs', p.1.1, w, p1.st.ex, o1, by rw [← o2]; exact hv, fun z H2 Hs2 ft n => k z H2 Hs2 fp' ft (p1.post (New.post p1.st n))⟩
theorem si_rng1 {a : Expr} {r : R (OT × Env)} (ha : SE X T W a ρ r) : SI X T W (iRng1 (wEs X [a])) ρ id (r.bind fun p => match p.1 with
    | .sh (.int j) => if -(2 ^ 62) ≤ j ∧ j < 2 ^ 62 then .ok ((List.range j.toNat).map fun i => .int (i : Nat), p.2) else .no
    | _ => .no) := by
  intro L σ H Hs fp F R h hF k
  rw [cont_bind] at k
  refine ha L σ H Hs fp _ h (k.imp (fun p k v H1 Hs1 fp1 ft p1 => ?_) fun _ _ x => x)
  obtain ⟨t, ρ1⟩ := p
  simp only at k p1
  split at k
  · rename_i j
    cases opd_int ⟨_, p1.rp⟩
    split at k
    · rename_i hb
      refine ⟨j, rfl, hb.1, hb.2, k (Itr 0 j.toNat) (fun _ _ _ => True) L H1 Hs1 fp1 ?_ trivial p1.pst.opn⟩
      have := walk_rng (K := X.K) (T := T) (lo := 0) (n := j.toNat)
      simpa only [Int.zero_add] using this
    · exact k.elim
  · exact k.elim
theorem si_rng2 {a b : Expr} {ra : R (OT × Env)} {rb : Env → R (OT × Env)} (ha : SE X T W a ρ ra) (hb : ∀ ρ1, SE X T W b ρ1 (rb ρ1)) : SI X T W (iRng2 (wEs X [a, b])) ρ id (ra.bind fun p => (rb p.2).bind fun q => match p.1, q.1 with
    | .sh (.int i), .sh (.int j) => if -(2 ^ 62) ≤ i ∧ i < 2 ^ 62 ∧ -(2 ^ 62) ≤ j ∧ j < 2 ^ 62 then .ok ((List.range (j - i).toNat).map fun k => .int (i + (k : Nat)), q.2) else .no
    | _, _ => .no) := by
  intro L σ H Hs fp F R h hF k
  rw [cont_bind] at k
  refine ha L σ H Hs fp _ h (k.imp (fun p k v H1 Hs1 fp1 ft p1 => ?_) fun _ _ x => x)
  rw [cont_bind] at k
  refine hb p.2 L σ H1 Hs1 fp1 _ p1.st (k.imp (fun q k v2 H2 Hs2 fp2 ft2 p2 => ?_) fun ex ρ' x => x.later p1.pst)
  have p12 := p1.pst.trans p2.pst
  obtain ⟨t, ρ1⟩ := p
  obtain ⟨u, ρ2⟩ := q
  simp only at k p1 p2 p12
  split at k
  · cases opd_int ⟨_, p1.rp⟩
    cases opd_int ⟨_, p2.rp⟩
    split at k
    · rename_i hb
      exact ⟨_, _, rfl, hb, k (Itr _ _) (fun _ _ _ => True) L H2 Hs2 fp2 walk_rng trivial p12.opn⟩
    · exact k.elim
  · exact k.elim
theorem zipD_get : ∀ {xs ys : List D} {i : Nat} {d : D}, (zipD xs ys)[i]? = some d → ∃ x y, xs[i]? = some x ∧ ys[i]? = some y ∧ d = .tup [x, y]
  | a :: as, b :: bs, 0, d, h => by simp [zipD] at h; exact ⟨a, b, rfl, rfl, h.symm⟩
  | a :: as, b :: bs, i + 1, d, h => by
    obtain ⟨x, y, h1, h2, h3⟩ := zipD_get (xs := as) (ys := bs) (i := i) (d := d) (by simpa [zipD] using h)
    exact ⟨x, y, by simpa using h1, by simpa using h2, h3⟩
  | [], _, _, _, h => by simp [zipD] at h
  | _ :: _, [], _, _, h => by simp [zipD] at h
theorem zipD_len : ∀ xs ys : List D, xs.length ≤ (zipD xs ys).length ∨ ys.length ≤ (zipD xs ys).length
  | a :: as, b :: bs => by
    have := zipD_len as bs
    simp only [zipD, List.length_cons]
    omega
  | [], _ => .inl (Nat.zero_le _)
  | _ :: _, [] => .inr (Nat.zero_le _)
theorem enmD_get : ∀ {xs : List D} {n i : Nat} {d : D}, (enmD n xs)[i]? = some d → ∃ x, xs[i]? = some x ∧ d = .tup [.int ((n + i : Nat) : Int), x]
  | a :: as, n, 0, d, h => by simp [enmD] at h; exact ⟨a, rfl, h.symm⟩
  | a :: as, n, i + 1, d, h => by
    obtain ⟨x, h1, h2⟩ := enmD_get (xs := as) (n := n + 1) (i := i) (d := d) (by simpa [enmD] using h)
    exact ⟨x, by simpa using h1, by rw [h2]; congr 3; omega⟩
  | [], _, _, _, h => by simp [enmD] at h
theorem enmD_len : ∀ (xs : List D) (n : Nat), (enmD n xs).length = xs.length
  | [], _ => rfl
  | a :: as, n => by simp [enmD, enmD_len as]
/-- a list at an address of which nothing changes -/
def LstAt (K : PySem.W.Frag) (T : Tab) (a : Addr) (ds : List D) (Hs : Hp) : Prop := ∃ vs, SqL K Hs a vs ∧ Rps K T Hs ds vs
def TupAt (K : PySem.W.Frag) (T : Tab) (a : Addr) (ds : List D) (Hs : Hp) : Prop := ∃ vs, SqT K Hs a vs ∧ Rps K T Hs ds vs
theorem LstAt.mono {K : PySem.W.Frag} {a : Addr} {ds : List D} {Hs Hs' : Hp} (e : Ex Hs Hs') (h : LstAt K T a ds Hs) : LstAt K T a ds Hs' := let ⟨vs, h1, h2⟩ := h; ⟨vs, ex_l e h1, h2.mono e⟩
theorem TupAt.mono {K : PySem.W.Frag} {a : Addr} {ds : List D} {Hs Hs' : Hp} (e : Ex Hs Hs') (h : TupAt K T a ds Hs) : TupAt K T a ds Hs' := let ⟨vs, h1, h2⟩ := h; ⟨vs, ex_t e h1, h2.mono e⟩
theorem walk_zL {K : PySem.W.Frag} {a b : Addr} {xs ys : List D} : Walk K T (Itz K a b) (zipD xs ys) (fun _ Hs _ => LstAt K T a xs Hs ∧ LstAt K T b ys Hs) where
  keep := fun h s => ⟨h.1.mono s.ex, h.2.mono s.ex⟩
  go := by
    intro i d H Hs fp ⟨⟨vs, h1, h2⟩, ⟨us, h3, h4⟩⟩ e hd
    obtain ⟨x, y, e1, e2, rfl⟩ := zipD_get hd
    obtain ⟨v, q1, q2⟩ := h2.get e1
    obtain ⟨u, q3, q4⟩ := h4.get e2
    refine ⟨⟨vs, us, v, u, ex_l e h1, ex_l e h3, q1, q3⟩, fun z H' ⟨p, v', u', e3, e4, e5, e6, e7⟩ => ?_⟩
    have k1 := e6 vs (ex_l e h1)
    have k2 := e7 us (ex_l e h3)
    rw [q1] at k1
    rw [q3] at k2
    cases k1
    cases k2
    subst e3 e5
    exact ⟨_, New.tup e e4 (.cons q2 (.cons q4 .nil))⟩
  stop := by
    intro H Hs fp ⟨⟨vs, h1, h2⟩, ⟨us, h3, h4⟩⟩ e
    exact ⟨vs, us, ex_l e h1, ex_l e h3, by rw [← h2.length, ← h4.length]; exact zipD_len xs ys⟩
theorem walk_zT {K : PySem.W.Frag} {a b : Addr} {xs ys : List D} : Walk K T (RZ.ItzT K a b) (zipD xs ys) (fun _ Hs _ => TupAt K T a xs Hs ∧ TupAt K T b ys Hs) where
  keep := fun h s => ⟨h.1.mono s.ex, h.2.mono s.ex⟩
  go := by
    intro i d H Hs fp ⟨⟨vs, h1, h2⟩, ⟨us, h3, h4⟩⟩ e hd
    obtain ⟨x, y, e1, e2, rfl⟩ := zipD_get hd
    obtain ⟨v, q1, q2⟩ := h2.get e1
    obtain ⟨u, q3, q4⟩ := h4.get e2
    refine ⟨⟨vs, us, v, u, ex_t e h1, ex_t e h3, q1, q3⟩, fun z H' ⟨p, v', u', e3, e4, e5, e6, e7⟩ => ?_⟩
    have k1 := e6 vs (ex_t e h1)
    have k2 := e7 us (ex_t e h3)
    rw [q1] at k1
    rw [q3] at k2
    cases k1
    cases k2
    subst e3 e5
    exact ⟨_, New.tup e e4 (.cons q2 (.cons q4 .nil))⟩
  stop := by
    intro H Hs fp ⟨⟨vs, h1, h2⟩, ⟨us, h3, h4⟩⟩ e
    exact ⟨vs, us, ex_t e h1, ex_t e h3, by rw [← h2.length, ← h4.length]; exact zipD_len xs ys⟩
theorem walk_en {K : PySem.W.Frag} {a : Addr} {xs : List D} : Walk K T (Ite K a) (enmD 0 xs) (fun _ Hs _ => LstAt K T a xs Hs) where
  keep := fun h s => h.mono s.ex
  go := by
    intro i d H Hs fp ⟨vs, h1, h2⟩ e hd
    obtain ⟨x, e1, rfl⟩ := enmD_get hd
    obtain ⟨v, q1, q2⟩ := h2.get e1
    refine ⟨⟨vs, v, ex_l e h1, q1⟩, fun z H' ⟨p, v', e3, e4, e5, e6⟩ => ?_⟩
    have k1 := e6 vs (ex_l e h1)
    rw [q1] at k1
    cases k1
    subst e3 e5
    rw [Nat.zero_add]
    exact ⟨_, New.tup e e4 (.cons (.int _) (.cons q2 .nil))⟩
  stop := by
    intro H Hs fp ⟨vs, h1, h2⟩ e
    exact ⟨vs, ex_l e h1, by rw [enmD_len, h2.length]; exact Nat.le_refl _⟩
theorem lst_at {K : PySem.W.Frag} {Hs H : Hp} {d : D} {ds : List D} {v : V} {f : List Addr} (r : RpO K T Hs H (.sh d) v f) (h : d = .lst ds ∨ d = .flst ds) : ∃ a, v = .ref a ∧ LstAt K T a ds Hs := by
  cases r with
  | sh r =>
    rcases h with rfl | rfl
    · cases r with
      | lst h1 h2 => exact ⟨_, rfl, _, sq_of h1, h2⟩
    · cases r with
      | flst h1 h2 => exact ⟨_, rfl, _, h1, h2⟩
theorem tup_at {K : PySem.W.Frag} {Hs H : Hp} {ds : List D} {v : V} {f : List Addr} (r : RpO K T Hs H (.sh (.tup ds)) v f) : ∃ a, v = .ref a ∧ TupAt K T a ds Hs := by
  cases r with
  | sh r => cases r with
    | tup h1 h2 => exact ⟨_, rfl, _, h1, h2⟩
theorem zip_parts {t u : OT} {ds : List D} (h : zipEv t u = some ds) : (∃ xs ys, t = .sh (.tup xs) ∧ u = .sh (.tup ys) ∧ ds = zipD xs ys) ∨ ∃ d1 d2 xs ys, t = .sh d1 ∧ u = .sh d2 ∧ (d1 = .lst xs ∨ d1 = .flst xs) ∧ (d2 = .lst ys ∨ d2 = .flst ys) ∧ ds = zipD xs ys := by
  unfold zipEv at h
  split at h
  · exact .inl ⟨_, _, rfl, rfl, (Option.some.inj h).symm⟩
  · exact .inr ⟨_, _, _, _, rfl, rfl, .inl rfl, .inl rfl, (Option.some.inj h).symm⟩
  · exact .inr ⟨_, _, _, _, rfl, rfl, .inr rfl, .inr rfl, (Option.some.inj h).symm⟩
  · exact .inr ⟨_, _, _, _, rfl, rfl, .inl rfl, .inr rfl, (Option.some.inj h).symm⟩
  · exact .inr ⟨_, _, _, _, rfl, rfl, .inr rfl, .inl rfl, (Option.some.inj h).symm⟩
  · cases h
theorem si_zip {a b : Expr} {ra : R (OT × Env)} {rb : Env → R (OT × Env)} (ha : SE X T W a ρ ra) (hb : ∀ ρ1, SE X T W b ρ1 (rb ρ1)) : SI X T W (RZ.iZipA X.K (wEs X [a, b])) ρ id (ra.bind fun p => (rb p.2).bind fun q => match zipEv p.1 q.1 with
    | some ds => .ok (ds, q.2)
    | none => .no) := by
  intro L σ H Hs fp F R h hF k
  rw [cont_bind] at k
  refine ha L σ H Hs fp _ h (k.imp (fun p k v H1 Hs1 fp1 ft p1 => ?_) fun _ _ x => x)
  rw [cont_bind] at k
  refine hb p.2 L σ H1 Hs1 fp1 _ p1.st (k.imp (fun q k v2 H2 Hs2 fp2 ft2 p2 => ?_) fun ex ρ' x => x.later p1.pst)
  have p12 := p1.pst.trans p2.pst
  cases hz : zipEv p.1 q.1 with
  | none => rw [hz] at k; exact k.elim
  | some ds =>
    rw [hz] at k
    have eS := p2.pst.sp.ex
    rcases zip_parts hz with ⟨xs, ys, e1, e2, rfl⟩ | ⟨d1, d2, xs, ys, e1, e2, f1, f2, rfl⟩
    · obtain ⟨a, rfl, t1⟩ := tup_at (e1 ▸ p1.rp)
      obtain ⟨b, rfl, t2⟩ := tup_at (e2 ▸ p2.rp)
      have t1 := t1.mono eS
      obtain ⟨vs, z1, z2⟩ := id t1
      obtain ⟨us, z3, z4⟩ := id t2
      exact ⟨a, b, vs, us, rfl, .inr ⟨ex_t p2.st.ex z1, ex_t p2.st.ex z3, k _ _ L H2 Hs2 fp2 walk_zT ⟨t1, t2⟩ p12.opn⟩⟩
    · obtain ⟨a, rfl, t1⟩ := lst_at (e1 ▸ p1.rp) f1
      obtain ⟨b, rfl, t2⟩ := lst_at (e2 ▸ p2.rp) f2
      have t1 := t1.mono eS
      obtain ⟨vs, z1, z2⟩ := id t1
      obtain ⟨us, z3, z4⟩ := id t2
      exact ⟨a, b, vs, us, rfl, .inl ⟨ex_l p2.st.ex z1, ex_l p2.st.ex z3, k _ _ L H2 Hs2 fp2 walk_zL ⟨t1, t2⟩ p12.opn⟩⟩
theorem si_enm {a : Expr} {ra : R (OT × Env)} (ha : SE X T W a ρ ra) : SI X T W (iEnum X.K (wEs X [a])) ρ id (ra.bind fun p => match enmEv p.1 with
    | some ds => .ok (ds, p.2)
    | none => .no) := by
  intro L σ H Hs fp F R h hF k
  rw [cont_bind] at k
  refine ha L σ H Hs fp _ h (k.imp (fun p k v H1 Hs1 fp1 ft p1 => ?_) fun _ _ x => x)
  cases hz : enmEv p.1 with
  | none => rw [hz] at k; exact k.elim
  | some ds =>
    rw [hz] at k
    have : ∃ d xs, p.1 = .sh d ∧ (d = .lst xs ∨ d = .flst xs) ∧ ds = enmD 0 xs := by
      unfold enmEv at hz
      split at hz
      · rename_i e1; exact ⟨_, _, e1, .inl rfl, (Option.some.inj hz).symm⟩
      · rename_i e1; exact ⟨_, _, e1, .inr rfl, (Option.some.inj hz).symm⟩
      · cases hz
    obtain ⟨d, xs, e1, f1, rfl⟩ := this
    obtain ⟨a, rfl, t1⟩ := lst_at (e1 ▸ p1.rp) f1
    obtain ⟨vs, z1, z2⟩ := id t1
    exact ⟨a, vs, rfl, ex_l p1.st.ex z1, k _ _ L H1 Hs1 fp1 walk_en t1 p1.pst.opn⟩
theorem blk_scope {s : Shared} {H : Hp} {scope : Scope} {C : Addr} {cl : List (Str × Addr)} {fp : List Addr} (hs : X.env.scope = sc) : (blkC' X s H scope C cl fp).env.scope = relS scope sc := by subst hs; rfl
def notSetB : Expr → Bool
  | .Set .. => false
  | _ => true
theorem notSet {e : Expr} {env : PySem.Env} (h : notSetB e = true) : ∀ x, foldedSetIterable e env x = pure x := by
  intro x
  cases e <;> first | rfl | cases h
theorem se_lc {wi : TI} {bk : Env → Env} {rI : R (List D × Env)} {tg : Tg} {tgE iter elt : Expr} {ifs : List Expr} {scope : Scope} {own : List (Str × Nat)} {cond : Env → R (Bool × Env)} {el : Env → R (OT × Env)} {pl : List Nat}
    (nd : X.N.Nodup) (hs : X.env.scope = sc) (hc : X.calm = true) (hi : PI X tgE iter wi) (hset : notSetB iter = true) (si : SI X T W wi ρ bk rI) (ok : BlkOk X.N sc scope own) (ho : own.map (·.2) = tg.slots)
    (htg : tgB X.N (relS scope sc) (fun x => scope.names.lookup x == some .cell) tg tgE = true) (h1 : oneTest ifs = true)
    (ht : ∀ s H C cl fp ρ, STs (blkC' X s H scope C cl fp) T W0 ifs ρ (cond ρ)) (he : ∀ s H C cl fp ρ, SE (blkC' X s H scope C cl fp) T W0 elt ρ (el ρ)) :
    SE X T W (.ListComp elt [⟨tgE, iter, ifs, 0⟩] scope pos) ρ (rI.bind fun p => if quietAll p.2 tg.slots = true then
        match lcL cond el pl tg p.1 [] (wipeE p.2 tg.slots) with
        | .ok (ts, ρ2) => .ok (OT.lst ts, bk (backE p.2 ρ2 tg.slots))
        | _ => .no
      else .no) := fun L σ H Hs fp Q h k =>
  wE_of (pe_lc hc nd hi (by rw [hs]; exact ok) (fun s H C cl fp => tg_pg (X := blkC' X s H scope C cl fp) nd (blk_scope hs) rfl hc htg) (fun s H C cl fp => pts_w h1 s H C cl fp) (fun s H C cl fp => pe_elt s H C cl fp) (notSet hset)) (by
    rw [ho]
    exact lc_read si ht he h k)
/-- how an iterable is read -/
def wiI (X : Cx) : CI → Expr → TI
  | .rng1 _, .Call _ [y] _ _ => iRng1 (wEs X [y])
  | .rng2 _ _, .Call _ [y, z] _ _ => iRng2 (wEs X [y, z])
  | .zip _ _, .Call _ [y, z] _ _ => RZ.iZipA X.K (wEs X [y, z])
  | .enm _, .Call _ [y] _ _ => iEnum X.K (wEs X [y])
  | .keys _, e => iKeys (wE X e)
  | _, e => iSeq X e
/-- zip and enumerate fill a tuple of names -/
def isTupE : Expr → Bool
  | .Tuple _ _ _ => true
  | _ => false
theorem isTup_of {e : Expr} (h : isTupE e = true) : ∃ es k p, e = .Tuple es k p := by
  unfold isTupE at h
  split at h
  · exact ⟨_, _, _, rfl⟩
  · cases h
def tgFits (c : CI) (e : Expr) : Bool := match c with
  | .zip _ _ => isTupE e
  | .enm _ => isTupE e
  | _ => true
/-- .. in a block -/
def wiB (X : Cx) (scope : Scope) (c : CI) (e : Expr) : TI := fun σ H R => ∀ (s : Shared) (H0 : Hp) (C : Addr) (cl : List (Str × Addr)) (fp : List Addr), wiI (blkC' X s H0 scope C cl fp) c e σ H R
theorem se_lc2 {wi : TI} {c1 : CI} {bk : Env → Env} {bk1 : Env → Env → Env} {rI : R (List D × Env)} {it1 : Env → R (List D × Env)} {tg tg1 : Tg} {tgE iter tgE1 iter1 elt : Expr} {ifs ifs1 : List Expr} {scope : Scope} {own : List (Str × Nat)} {cond cond1 : Env → R (Bool × Env)} {el : Env → R (OT × Env)} {pl : List Nat}
    (nd : X.N.Nodup) (hs : X.env.scope = sc) (hc : X.calm = true) (hi : PI X tgE iter wi) (hset : notSetB iter = true) (hset1 : notSetB iter1 = true) (si : SI X T W wi ρ bk rI) (ok : BlkOk X.N sc scope own) (ho : own.map (·.2) = tg.slots ++ tg1.slots)
    (htg : tgB X.N (relS scope sc) (fun x => scope.names.lookup x == some .cell) tg tgE = true) (htg1 : tgB X.N (relS scope sc) (fun x => scope.names.lookup x == some .cell) tg1 tgE1 = true) (h1 : oneTest ifs = true) (h2 : oneTest ifs1 = true)
    (hi1 : ∀ s H C cl fp, PI (blkC' X s H scope C cl fp) tgE1 iter1 (wiI (blkC' X s H scope C cl fp) c1 iter1)) (si1 : ∀ s H C cl fp ρ, SI (blkC' X s H scope C cl fp) T W0 (wiI (blkC' X s H scope C cl fp) c1 iter1) ρ (bk1 ρ) (it1 ρ))
    (ht : ∀ s H C cl fp ρ, STs (blkC' X s H scope C cl fp) T W0 ifs ρ (cond ρ)) (ht1 : ∀ s H C cl fp ρ, STs (blkC' X s H scope C cl fp) T W0 ifs1 ρ (cond1 ρ)) (he : ∀ s H C cl fp ρ, SE (blkC' X s H scope C cl fp) T W0 elt ρ (el ρ)) :
    ∃ t, PE X (.ListComp elt [⟨tgE, iter, ifs, 0⟩, ⟨tgE1, iter1, ifs1, 0⟩] scope pos) t ∧ (∀ {i : Nat} {y : Str} {py spos : Pos}, X.N[i]? = some y → X.env.scope.names.lookup y = some .local → swapsWith (.ListComp elt [⟨tgE, iter, ifs, 0⟩, ⟨tgE1, iter1, ifs1, 0⟩] scope pos) (some (.Name y py)) spos.line X.env = pure true → PS X (.Assign [.Name y py] (.ListComp elt [⟨tgE, iter, ifs, 0⟩, ⟨tgE1, iter1, ifs1, 0⟩] scope pos) spos) (tAsg t (gName i))) ∧
      ∀ (L : List Addr) (σ : L2.St) (H Hs : Hp) (fp : List Addr) (Q : VK), StOk X.K T L Hs H ρ σ fp →
      Cont (rI.bind fun p => if quietAll p.2 (tg.slots ++ tg1.slots) = true then
        match lcG cond (inner it1 bk1 cond1 el pl tg1) pl tg (tg.slots ++ tg1.slots) p.1 [] (wipeE p.2 (tg.slots ++ tg1.slots)) with
        | .ok (ts, ρ2) => .ok (OT.lst ts, bk (backE p.2 ρ2 (tg.slots ++ tg1.slots)))
        | _ => .no
      else .no) (fun p => ∀ v H' Hs' fp' ft, Post X.K T L σ Hs H fp ρ p.1 p.2 v H' Hs' fp' ft → Q v H') (XOk X.K T L σ Hs H fp ρ W) → t σ H Q := by
  have ok' : BlkOk X.N X.env.scope scope own := by rw [hs]; exact ok
  have hv : ∀ i ∈ tg1.slots, i ∈ own.map (·.2) := fun i hi => by rw [ho]; simp [hi]
  have g0 : ∀ s H C cl fp, PG (X.blk s H scope (compEnvC scope cl C X.env) fp) tgE (gT X.K tg) := fun s H C cl fp => tg_pg (X := blkC' X s H scope C cl fp) nd (blk_scope hs) rfl hc htg
  have g1 : ∀ s H C cl fp, PG (X.blk s H scope (compEnvC scope cl C X.env) fp) tgE1 (gT X.K tg1) := fun s H C cl fp => tg_pg (X := blkC' X s H scope C cl fp) nd (blk_scope hs) rfl hc htg1
  have hi1' : ∀ s H C cl fp, PI (X.blk s H scope (compEnvC scope cl C X.env) fp) tgE1 iter1 (wiB X scope c1 iter1) := fun s H C cl fp => ⟨fun pins s1 σ H1 R I h => (hi1 s H C cl fp).run pins s1 σ H1 R I (h s H C cl fp)⟩
  have si1' : ∀ ρ, SI X T W0 (wiB X scope c1 iter1) ρ (bk1 ρ) (it1 ρ) := fun ρ L σ H Hs fp F R h hF k s H0 C cl fpb => si1 s H0 C cl fpb ρ L σ H Hs fp F R h hF k
  refine ⟨tLc2 wi (gT X.K tg) (tIfs X scope ifs) (wiB X scope c1 iter1) (gT X.K tg1) (tIfs X scope ifs1) (tElt X scope elt) (own.map (·.2)) tg1.slots,
    pe_lc2 hc nd hi ok' hv g0 (fun s H C cl fp => pts_w h1 s H C cl fp) hi1' g1 (fun s H C cl fp => pts_w h2 s H C cl fp) (fun s H C cl fp => pe_elt s H C cl fp) (notSet hset) (fun env => notSet hset1),
    fun {i y py spos} hy hyl hsw => ps_setLc2 hc nd hy hyl hsw hi ok' hv g0 (fun s H C cl fp => pts_w h1 s H C cl fp) hi1' g1 (fun s H C cl fp => pts_w h2 s H C cl fp) (fun s H C cl fp => pe_elt s H C cl fp) (notSet hset) (fun env => notSet hset1), fun L σ H Hs fp Q h k => ?_⟩
  rw [ho]
  exact lc2_read si ht si1' ht1 he h k
end
end CH
end
section
namespace CH
open PySem L2 Evl PyProof.Rows
section
variable {K : PySem.W.Frag} {T : Tab} {Hs H Hs' H' : Hp} {L : List Addr} {σ : L2.St} {ρ ρ' : Env} {fp fp' : List Addr}
theorem own_state {i : Nat} {t0 tn t : OT} {ts : List OT} {ys : List V} {x y : V} {b : Addr} {o : HO} {f f' fr ft gt rest : List Addr} {Hs0 H0 : Hp} {fp0 : List Addr} {ρ0 : Env} (ps : Posts K T L σ Hs0 H0 fp0 ρ0 ts ρ ys H Hs fp ft) (hσ : σ[i]? = some (some x)) (pm : fp.Perm (f ++ fr)) (hr : RpS K T Hs H L (ρ.set i .no) σ fr) (hi : i < ρ.length) (e0 : ρ[i]? = some (.ow t0)) (hb : b ∈ f) (r1 : RpO K T Hs H t y gt) (hbg : b ∉ gt)
    (r2 : ∀ H2 : Hp, H2 b = some o → (∀ z ∈ f', z ≠ b → ∀ q, H z = some q → H2 z = some q) → RpO K T Hs H2 tn x f') (p2 : (f ++ ft).Perm (gt ++ f' ++ rest)) :
    ∃ fp', Post K T L σ Hs0 H0 fp0 ρ0 t (ρ.set i (.ow tn)) y (L2.upd H b o) Hs fp' gt := by
  have all : (ft ++ fp).Perm ((gt ++ f' ++ rest) ++ fr) := by
    have z1 : (ft ++ fp).Perm (ft ++ (f ++ fr)) := List.Perm.append_left ft pm
    have z2 : (ft ++ (f ++ fr)).Perm ((f ++ ft) ++ fr) := by
      rw [← List.append_assoc]
      exact List.Perm.append_right fr List.perm_append_comm
    exact (z1.trans z2).trans (List.Perm.append_right fr p2)
  have ndA : ((gt ++ f' ++ rest) ++ fr).Nodup := all.nodup_iff.mp ps.nd
  have mem : ∀ x, x ∈ gt ∨ x ∈ f' ∨ x ∈ rest ∨ x ∈ fr → x ∈ ft ++ fp := fun x hx => all.mem_iff.mpr (by
    simp only [List.mem_append]
    rcases hx with h | h | h | h <;> simp [h])
  have bfp : b ∈ fp := pm.mem_iff.mpr (by simp [hb])
  have nfA : ∀ x ∈ ft ++ fp, Hs x = none := fun x hx => (List.mem_append.mp hx).elim (ps.nf x) (ps.st.nf x)
  have bfr : b ∉ fr := fun h => (List.nodup_append.mp (pm.nodup_iff.mp ps.st.nd)).2.2 b hb b h rfl
  have bL : b ∉ L := fun h => ps.st.lf b h bfp
  have keep : ∀ x, x ≠ b → ∀ q, H x = some q → (L2.upd H b o) x = some q := fun x hx q hq => by rw [upd_ne hx]; exact hq
  have k1 := r2 (L2.upd H b o) upd_same fun z hz hne => keep z hne
  have k2 : RpO K T Hs (L2.upd H b o) t y gt := r1.step (Ex.refl _) fun x hx => keep x fun e => hbg (e ▸ hx)
  have k3 : RpS K T Hs (L2.upd H b o) L (ρ.set i .no) σ fr := hr.step (Ex.refl _) (fun _ z => z) fun x hx => keep x (by
    rcases hx with hx | hx
    · exact fun e => bfr (e ▸ hx)
    · exact fun e => bL (e ▸ hx))
  obtain ⟨fp', m1, m2⟩ := k3.put (i := i) (by simpa using hi) (by rw [List.getElem?_set_self hi]) k1
  rw [List.set_set] at m1
  have eσ : σ.set i (some x) = σ := by
    obtain ⟨hi2, e2⟩ := List.getElem?_eq_some_iff.mp hσ
    rw [← e2, List.set_getElem_self]
  rw [eσ] at m1
  have sub : ∀ x ∈ fp', x ∈ ft ++ fp := fun x hx => mem x (by
    have := m2.mem_iff.mp hx
    simp only [List.mem_append] at this
    rcases this with h | h <;> simp [h])
  have subt : ∀ x ∈ gt, x ∈ ft ++ fp := fun x hx => mem x (.inl hx)
  have ndn : (gt ++ fp').Nodup := by
    have z : ((gt ++ f') ++ fr).Nodup := List.Nodup.sublist (List.Sublist.append (List.sublist_append_left _ _) (List.Sublist.refl _)) ndA
    rw [List.append_assoc] at z
    exact (List.Perm.append_left gt m2.symm).nodup_iff.mp z
  have lt2 : ∀ x ∈ L, x ∉ ft ++ fp := fun x hx hf => (List.mem_append.mp hf).elim (ps.lf x hx) (ps.st.lf x hx)
  refine ⟨fp', ⟨ps.st.ex.mut (nfA b (by simp [bfp])), m1, (List.nodup_append.mp ndn).2.1, fun x hx => nfA x (sub x hx), fun x hx hf => lt2 x hx (sub x hf), fun x hx => ⟨?_, (ps.st.lt x hx).2⟩⟩, k2, ndn, fun x hx => nfA x (subt x hx), fun x hx hf => lt2 x hx (subt x hf), ?_, ?_⟩
  · obtain ⟨o', q⟩ := (ps.st.lt x hx).1
    exact ⟨o', keep x (fun e => bL (e ▸ hx)) o' q⟩
  · have w : Stp (ft ++ fp) H Hs (ft ++ fp) (L2.upd H b o) Hs := Stp.updD (D := b) (by simp [bfp])
    exact (ps.sp.trans w).sub fun x hx => (List.mem_append.mp hx).elim (subt x) (sub x)
  · rw [← ps.lk]
    exact lks_set e0 rfl
/-- one tree of a row replaced at its own places -/
theorem RpOs.updAt : ∀ {ts : List OT} {vs : List V} {g : List Addr} {k : Nat} {t : OT}, RpOs K T Hs H ts vs g → g.Nodup → ts[k]? = some t →
    ∃ v f, vs[k]? = some v ∧ RpO K T Hs H t v f ∧ f.Nodup ∧ (∀ z ∈ f, z ∈ g) ∧ ∀ (H2 : Hp) (t' : OT), RpO K T Hs H2 t' v f → (∀ z ∈ g, z ∉ f → ∀ q, H z = some q → H2 z = some q) → RpOs K T Hs H2 (ts.set k t') vs g
  | _, _, _, k, _, .nil, _, e => by simp at e
  | _, _, _, 0, _, .cons h r, nd, e => by
    simp at e
    subst e
    have nd := List.nodup_append.mp nd
    exact ⟨_, _, rfl, h, nd.1, fun z hz => by simp [hz], fun H2 t' h' kp => .cons h' (r.step (Ex.refl _) fun z hz q hq => kp z (by simp [hz]) (fun hf => nd.2.2 z hf z hz rfl) q hq)⟩
  | _, _, _, k + 1, _, .cons h r, nd, e => by
    have nd := List.nodup_append.mp nd
    obtain ⟨v, f, e1, h1, nf, sub, up⟩ := RpOs.updAt (k := k) r nd.2.1 (by simpa using e)
    exact ⟨v, f, by simpa using e1, h1, nf, fun z hz => by simp [sub z hz], fun H2 t' h' kp => .cons (h.step (Ex.refl _) fun z hz q hq => kp z (by simp [hz]) (fun hf => nd.2.2 z hz z (sub z hf) rfl) q hq) (up H2 t' h' fun z hz hn => kp z (by simp [hz]) hn)⟩
theorem atL_get {ts : List OT} {j : Int} {k : Nat} {us : List OT} (h : atL ts j = some (k, us)) : L2.ixN ts.length j = some k ∧ ts[k]? = some (.lst us) := by
  obtain ⟨k', h1, h2⟩ := Option.bind_eq_some_iff.mp h
  split at h2
  · rename_i us' e
    cases h2
    exact ⟨h1, e⟩
  · cases h2
end
section
variable {X : Cx} {T : Tab} {W : WX} {sc : Scope} {e : Expr} {es : List Expr} {ρ : Env}
theorem se_apX {i : Nat} {x ix e1 : Expr} {spos : Pos} {f g : Env → R (OT × Env)} (hs : X.env.scope = sc) (h : muShape .append e = some (.Subscript x ix spos, [e1])) (hp : slotB X.N sc i x = true) (hix : plainIxB ix = true)
    (h1 : ∀ ρ, SE X T W ix ρ (f ρ)) (h2 : ∀ ρ, SE X T W e1 ρ (g ρ)) : SE X T W e ρ (match ρ.ownL i with
      | none => .no
      | some ts => apR ρ i ts f g) := by
  intro L σ H Hs fp Q h0 k
  refine wE_of (sh_mu h) ?_
  cases hl : ρ.ownL i with
  | none => rw [hl] at k; exact k.elim
  | some ts =>
    rw [hl] at k
    have e0 := ownL_get hl
    obtain ⟨v, fo, fr, l1, l2, l3, l4⟩ := h0.locked e0
    have eL : lock ρ i = ρ.set i (.lk (.lst ts)) := by unfold lock; rw [e0]
    have k : Cont (apR ρ i ts f g) _ _ := k
    unfold apR at k
    rw [eL] at k
    have un : ∀ {ρ2 : Env} {H' Hs' : Hp} {fp' : List Addr}, Pst X.K T (fo ++ L) σ Hs H fr (ρ.set i (.lk (.lst ts))) ρ2 H' Hs' fp' → ∃ fp2, Pst X.K T L σ Hs H fp ρ (ρ2.set i (.ow (.lst ts))) H' Hs' fp2 := fun {ρ2 H' Hs' fp'} p => by
      obtain ⟨fp2, u1, u2, u3, _⟩ := Pst.unlocked (F := []) h0 e0 l1 l2 l3 l4 p.st p.sp (fun x hx => absurd hx (by simp)) p.lk (fun _ _ _ => rfl) rfl
      exact ⟨fp2, u1, u2, u3⟩
    have eU : ∀ ρ2, unlock ρ ρ2 i = ρ2.set i (.ow (.lst ts)) := fun ρ2 => by unfold unlock; rw [e0]
    have lenρ : i < ρ.length := (List.getElem?_eq_some_iff.mp e0).1
    cases l2 with
    | @lst a _ vs gg q1 q2 =>
      show wE X (.Subscript x ix spos) σ H _
      refine wE_of (pe_ix ix_list (slot_of hs hp) (peW X ix) (plainIx_of hix)) ?_
      refine ⟨.ref a, l1, ?_⟩
      refine h1 _ (a :: gg ++ L) σ H Hs fr _ l4 ?_
      cases hf : f (ρ.set i (.lk (.lst ts))) with
      | no => rw [hf] at k; exact k.elim
      | ex e' ρ' =>
        rw [hf] at k
        intro H' Hs' fp' C d p
        obtain ⟨fp2, pu⟩ := un p.pst
        have k : XOk X.K T L σ Hs H fp ρ W e' (unlock ρ ρ' i) := k
        rw [eU] at k
        exact k H' Hs' fp2 C d ⟨pu, p.ex⟩
      | ok p =>
        obtain ⟨u, ρ1⟩ := p
        rw [hf] at k
        intro y H1 Hs1 fp1 ft1 p1
        simp only at k p1
        have ku : ∃ j, u = .sh (.int j) := by
          rcases u with d | _ | _
          · cases d <;> first | exact ⟨_, rfl⟩ | exact k.elim
          · exact k.elim
          · exact k.elim
        obtain ⟨j, rfl⟩ := ku
        · simp only at k
          cases ha : atL ts j with
          | none => rw [ha] at k; exact k.elim
          | some ku =>
            obtain ⟨kk, us⟩ := ku
            rw [ha] at k
            simp only at k
            obtain ⟨z1, z2⟩ := atL_get ha
            have key : ∀ x ∈ a :: gg, x ∉ fr := fun x hx => l4.lf x (by simp only [List.cons_append, List.mem_cons, List.mem_append]; rcases List.mem_cons.mp hx with h | h <;> simp [h])
            have a1 : H1 a = some (.lst vs) := p1.sp.fr a _ q1 (key a (by simp))
            obtain ⟨w, gw, w1, w2, w3⟩ := q2.get z2
            have hy : y = .int j := by
              cases p1.rp with
              | sh r => cases r; rfl
            subst hy
            cases w2 with
            | @lst b _ ws gb b1 b2 =>
              have hb1 : H1 b = some (.lst ws) := p1.sp.fr b _ b1 (key b (by simp [w3 b (by simp)]))
              refine ⟨a, vs, j, .ref b, rfl, rfl, SqL.of a1, ?_, ?_⟩
              · unfold atI
                rw [← q2.length, z1]
                exact w1
              refine ⟨.inl ⟨rfl, _, SqL.of hb1⟩, ?_⟩
              refine h2 ρ1 (a :: gg ++ L) σ H1 Hs1 fp1 _ p1.st ?_
              cases hg : g ρ1 with
              | no => rw [hg] at k; exact k.elim
              | ex e' ρ' =>
                rw [hg] at k
                intro H' Hs' fp' C d p
                obtain ⟨fp2, pu⟩ := un (p1.pst.trans p.pst)
                have k : XOk X.K T L σ Hs H fp ρ W e' (unlock ρ ρ' i) := k
                rw [eU] at k
                exact k H' Hs' fp2 C d ⟨pu, p.ex⟩
              | ok q =>
                obtain ⟨t2, ρ2⟩ := q
                rw [hg] at k
                intro z H2 Hs2 fp2 ft2 p2
                simp only at k p2
                have kd : ∃ d, t2 = .sh d := by
                  cases t2 <;> first | exact ⟨_, rfl⟩ | exact k.elim
                obtain ⟨d, rfl⟩ := kd
                · simp only at k
                  split at k
                  · rename_i hbig
                    have rz : Rp X.K T Hs2 d z := by
                      cases p2.rp with
                      | sh r => exact r
                    obtain ⟨fp3, pu⟩ := un (p1.pst.trans p2.pst)
                    have a2 : H2 a = some (.lst vs) := p2.sp.fr a _ a1 (p1.st.lf a (by simp))
                    have hlen : i < ρ2.length := by
                      have e1 := congrArg List.length (p1.pst.trans p2.pst).lk
                      simp only [lks, List.length_map, List.length_set] at e1
                      rw [e1]; exact lenρ
                    have e3 : Env.ownL (ρ2.set i (.ow (.lst ts))) i = some ts := by unfold Env.ownL; rw [List.getElem?_set_self hlen]
                    obtain ⟨a3, vs3, g3, fr3, s1, s2, s3, s4, s5, s6, s7⟩ := pu.st.ownList e3
                    rw [l1] at s1
                    cases s1
                    rw [a2] at s2
                    cases s2
                    have nd3 : (a :: g3 ++ fr3).Nodup := s4.nodup_iff.mp pu.st.nd
                    have nd4 : (a :: g3).Nodup := (List.nodup_append.mp nd3).1
                    obtain ⟨v3, f3, c1, c2, nf3, c3, c4⟩ := s3.updAt (List.nodup_cons.mp nd4).2 z2
                    rw [w1] at c1
                    cases c1
                    cases c2 with
                    | @lst _ _ ws2 gb2 d1 d2 =>
                      have ab : b ∈ g3 := c3 b (by simp)
                      have nab : a ≠ b := fun e => (List.nodup_cons.mp nd4).1 (e ▸ ab)
                      have nbg : b ∉ gb2 := (List.nodup_cons.mp nf3).1
                      obtain ⟨fp4, po⟩ := own_state (t := .sh .non) (y := .non) (b := b) (o := .lst (ws2 ++ [z])) (f := a :: g3) (f' := a :: g3) (gt := []) (rest := []) (tn := .lst (ts.set kk (.lst (us ++ [.sh d])))) (x := .ref a)
                        (Posts.mk pu.st .nil pu.st.nd (fun x hx => absurd hx (by simp)) (fun x _ hx => absurd hx (by simp)) pu.sp pu.lk) l1 s4 s5 s6 s7 (by simp [ab]) (.sh .non) (by simp)
                        (fun H3 hb3 kp => .lst (kp a (by simp) nab _ a2) (c4 H3 _ (by
                          have r3 : RpOs X.K T Hs2 H3 (us ++ [.sh d]) (ws2 ++ [z]) (gb2 ++ []) := (d2.step (Ex.refl _) fun x hx q hq => kp x (by simp [c3 x (by simp [hx])]) (fun e => nbg (e ▸ hx)) q hq).append (RpOs.cons (f := []) (g := []) (.sh rz) .nil)
                          rw [List.append_nil] at r3
                          exact .lst hb3 r3) fun x hx hn q hq => kp x (by simp [hx]) (fun e => hn (by simp [e])) q hq)) (by simp)
                      rw [List.set_set] at po
                      exact ⟨b, ws2, .non, ws2 ++ [z], rfl, d1, fun Q q => ⟨b, ws2, z, rfl, rfl, d1, by rw [← d2.length, ← line]; exact hbig, q⟩, k .non _ Hs2 fp4 [] po⟩
                  · exact k.elim
end
end CH
end
section
namespace CH
open PySem L2 Evl PyProof.Rows

theorem leaves_eq : ∀ {ts : List OT} {ds : List D}, leaves ts = some ds → ts = ds.map .sh
  | [], ds, h => by cases Option.some.inj (show some [] = some ds from h); rfl
  | .sh d :: r, ds, h => by
    obtain ⟨es, h1, rfl⟩ := Option.map_eq_some_iff.mp (show (leaves r).map (d :: ·) = some ds from h)
    rw [leaves_eq h1]; rfl
  | .lst _ :: r, ds, h => by cases (show (none : Option (List D)) = some ds from h)
  | .obj .. :: r, ds, h => by cases (show (none : Option (List D)) = some ds from h)
/-- a dict, its keys and values in turn -/
def mkD (vs : List V) : HO := .dK (prK vs)
theorem goodF_of : ∀ {acc : List OT}, goodF acc = true → ∃ ds : List D, acc = ds.map .sh ∧ goodD ds = true
  | [], _ => ⟨[], rfl, rfl⟩
  | .sh (.int k) :: .sh d :: r, h => by
    obtain ⟨ds, rfl, g⟩ := goodF_of (acc := r) h
    exact ⟨.int k :: d :: ds, rfl, g⟩
  | .sh (.int k) :: .lst _ :: r, h | .sh (.int k) :: .obj .. :: r, h | [.sh (.int k)], h => by simp [goodF] at h
  | .sh .non :: _, h | .sh (.bl _) :: _, h | .sh (.str _) :: _, h | .sh (.tup _) :: _, h | .sh (.lst _) :: _, h | .sh (.flst _) :: _, h | .sh (.ty _) :: _, h | .sh (.fn _) :: _, h | .sh (.obj ..) :: _, h | .sh (.dct _) :: _, h | .lst _ :: _, h | .obj .. :: _, h => by simp [goodF] at h
section
variable {K : PySem.W.Frag} {T : Tab} {Hs : Hp}
theorem good_cases {ds : List D} (g : goodD ds = true) : ds = [] ∨ ∃ k e r, ds = .int k :: e :: r ∧ goodD r = true := by
  match ds, g with
  | [], _ => exact .inl rfl
  | .int k :: e :: r, g => exact .inr ⟨k, e, r, rfl, g⟩
theorem put_in (k : Int) (d : D) (z : V) : ∀ (n : Nat) {ds : List D} {vs : List V}, ds.length ≤ n → goodD ds = true → Rps K T Hs ds vs → Rp K T Hs d z →
    ∃ ds' vs', putIn k (.sh d) (ds.map .sh) = ds'.map .sh ∧ Rps K T Hs ds' vs' ∧ prK vs' = (prK vs).map fun kv => if kv.1 = .inl k then (kv.1, z) else kv
  | 0, ds, vs, hl, g, r, rd => by
    have : ds = [] := List.length_eq_zero_iff.mp (by omega)
    subst this
    cases r
    exact ⟨[], [], rfl, .nil, rfl⟩
  | n + 1, ds, vs, hl, g, r, rd => by
    rcases good_cases g with rfl | ⟨m, e, rs, rfl, g'⟩
    · cases r
      exact ⟨[], [], rfl, .nil, rfl⟩
    · obtain ⟨ws0, rfl, r0⟩ := rps_int r
      clear r
      cases r0 with
      | @cons _ v _ ws he r2 =>
        obtain ⟨ds', vs', h1, h2, h3⟩ := put_in k d z n (by simp at hl; omega) g' r2 rd
        by_cases hm : m = k
        · subst hm
          refine ⟨.int m :: d :: ds', .int m :: z :: vs', ?_, .cons (.int m) (.cons rd h2), ?_⟩
          · simp only [List.map_cons, putIn, if_true, h1]
          · simp only [prK, List.map_cons, if_true, h3]
        · refine ⟨.int m :: e :: ds', .int m :: v :: vs', ?_, .cons (.int m) (.cons he h2), ?_⟩
          · simp only [List.map_cons, putIn, if_neg hm, h1]
          · have hm' : ¬ (Sum.inl m : Key) = Sum.inl k := fun q => hm (Sum.inl.inj q)
            simp only [prK, List.map_cons, if_neg hm', h3]
theorem put_at (k : Int) (z : V) : ∀ (n : Nat) {ds : List D} {vs : List V}, ds.length ≤ n → goodD ds = true → Rps K T Hs ds vs → prK (vs ++ [.int k, z]) = prK vs ++ [(.inl k, z)] ∧ (hasF k (ds.map .sh) = (prK vs).any fun kv => decide (kv.1 = .inl k)) ∧ 2 * (prK vs).length = vs.length
  | 0, ds, vs, hl, g, r => by
    have : ds = [] := List.length_eq_zero_iff.mp (by omega)
    subst this
    cases r
    exact ⟨rfl, rfl, rfl⟩
  | n + 1, ds, vs, hl, g, r => by
    rcases good_cases g with rfl | ⟨m, e, rs, rfl, g'⟩
    · cases r
      exact ⟨rfl, rfl, rfl⟩
    · obtain ⟨ws0, rfl, r0⟩ := rps_int r
      clear r
      cases r0 with
      | @cons _ v _ ws he r2 =>
        obtain ⟨h1, h2, h3⟩ := put_at k z n (by simp at hl; omega) g' r2
        refine ⟨?_, ?_, ?_⟩
        · simp only [List.cons_append, prK, h1]
        · have e1 : hasF k ((D.int m :: e :: rs).map .sh) = (decide (m = k) || hasF k (rs.map .sh)) := rfl
          rw [e1, h2]
          simp only [prK, List.any_cons]
          congr 1
          by_cases hm : m = k
          · subst hm; simp
          · have hm' : ¬ (Sum.inl m : Key) = Sum.inl k := fun q => hm (Sum.inl.inj q)
            simp [hm, hm']
        · simp only [prK, List.length_cons]; omega
theorem put_ok {k : Int} {d : D} {z : V} {ds : List D} {vs : List V} (g : goodD ds = true) (r : Rps K T Hs ds vs) (rd : Rp K T Hs d z) :
    ∃ ds' vs', putD k d (ds.map .sh) = ds'.map .sh ∧ Rps K T Hs ds' vs' ∧ prK vs' = putK (prK vs) (.inl k) z ∧ 2 * (prK vs).length = vs.length := by
  obtain ⟨a1, a2, a3⟩ := put_at k z ds.length (Nat.le_refl _) g r
  unfold putD putK
  rw [a2]
  by_cases h : ((prK vs).any fun kv => decide (kv.1 = .inl k)) = true
  · rw [if_pos h, if_pos h]
    obtain ⟨ds', vs', b1, b2, b3⟩ := put_in k d z ds.length (Nat.le_refl _) g r rd
    exact ⟨ds', vs', b1, b2, b3, a3⟩
  · rw [if_neg h, if_neg h]
    exact ⟨ds ++ [.int k, d], vs ++ [.int k, z], by simp, r.append (.cons (.int k) (.cons rd .nil)), a1, a3⟩
end
section
variable {K : PySem.W.Frag} {T : Tab} {P : Hp → Hp → List Addr → Prop} {L : List Addr} {H1 Hs1 : Hp} {fp1 : List Addr} {D : Addr} {σ σ' : L2.St} {ρ ρ' : Env} {H Hs H' Hs' : Hp} {fp fp' : List Addr} {acc : List OT} {vs : List V} {ft : List Addr} {mk : List V → HO}
theorem Acc.put (keep : ∀ {H Hs fp H' Hs' fp'}, P H Hs fp → Stp fp H Hs fp' H' Hs' → P H' Hs' fp') (a : Acc mk K T P L H1 Hs1 fp1 D σ ρ H Hs fp acc vs []) {ds : List CH.D} {ws : List V} (r : Rps K T Hs ds ws) :
    Acc mk K T P L H1 Hs1 fp1 D σ ρ (upd H D (mk ws)) Hs fp (ds.map .sh) ws [] := by
  have w : Stp (D :: ([] ++ fp)) H Hs (D :: ([] ++ fp)) (upd H D (mk ws)) Hs := Stp.updD (by simp)
  exact ⟨a.st.upd (a.held D (by simp)).2 (fun h => a.nl D h (by simp)) (a.nf D (by simp)), keep a.hp w, upd_same, RpOs.of r, a.nd, a.nf, a.nl, a.sp.trans w⟩
end
section
variable {X : Cx} {T : Tab} {scope : Scope}
theorem dc_step {P : Hp → Hp → List Addr → Prop} {J : It} {ds : List D} {kx vx : Expr} {ek ev : Env → R (OT × Env)} {L : List Addr} {H1 Hs1 : Hp} {fp1 : List Addr} {D : Addr} {vs : List Nat} (wk : Walk X.K T J ds P) (hk : ∀ s H C cl fp ρ, SE (blkC' X s H scope C cl fp) T W0 kx ρ (ek ρ)) (hv : ∀ s H C cl fp ρ, SE (blkC' X s H scope C cl fp) T W0 vx ρ (ev ρ))
    (σ3 : L2.St) (H Hs : Hp) (fp : List Addr) (ρ4 ρ5 : Env) (acc acc' : List OT) (ys : List V) (ft : List Addr) (Nx : Hp → Prop) (a4 : Acc mkD X.K T P L H1 Hs1 fp1 D σ3 ρ4 H Hs fp acc ys ft) (hs : putE ek ev acc ρ4 = .ok (acc', ρ5))
    (k : ∀ σ5 H' Hs' fp' ys' ft', wipe σ5 vs = wipe σ3 vs → Acc mkD X.K T P L H1 Hs1 fp1 D σ5 ρ5 H' Hs' fp' acc' ys' ft' → lks ρ5 = lks ρ4 → Nx H') :
    tElt X scope kx σ3 H fun y H4 => tElt X scope vx σ3 H4 fun z H5 => ∃ kvs k, y = kV k ∧ H5 D = some (.dK kvs) ∧ kvs.length < sizeLine ∧ Nx (upd H5 D (.dK (putK kvs k z))) := by
  intro s2 H02 C2 cl2 fpb2
  refine hk s2 H02 C2 cl2 fpb2 ρ4 L σ3 H Hs fp _ a4.st ?_
  unfold putE at hs
  split at hs
  · rename_i n ρ6 hek
    rw [hek]
    intro y H4 Hs4 fp5 ft5 p4
    have rk := p4.rp
    cases rk with
    | sh rk =>
    cases rk
    have a5 := Acc.next (P := P) wk.keep a4 p4.st p4.pst.sp
    intro s3 H03 C3 cl3 fpb3
    refine hv s3 H03 C3 cl3 fpb3 ρ6 L σ3 H4 Hs4 fp5 _ p4.st ?_
    split at hs
    · rename_i d ρ7 hev
      rw [hev]
      intro z H5 Hs5 fp6 ft6 p5
      have rv := p5.rp
      cases rv with
      | sh rv =>
      have a6 := Acc.next (P := P) wk.keep a5 p5.st p5.pst.sp
      split at hs
      · rename_i hz
        cases hs
        simp only [Bool.and_eq_true, decide_eq_true_eq] at hz
        obtain ⟨ds0, rfl, g⟩ := goodF_of hz.2
        obtain ⟨r6, ef⟩ := a6.ra.leaves (leaves_map ds0)
        subst ef
        obtain ⟨ds', vs', q1, q2, q3, q4⟩ := put_ok (k := n) g r6 rv
        have a7 := Acc.put (P := P) wk.keep a6 q2
        rw [q1] at k
        refine ⟨prK ys, .inl n, rfl, a6.hD, ?_, ?_⟩
        · have h1 := hz.1
          rw [List.length_map, r6.length] at h1
          rw [← line]
          omega
        · have := k σ3 _ _ _ _ _ rfl a7 (p5.lk.trans p4.lk)
          unfold mkD at this
          rw [q3] at this
          exact this
      · cases hs
    · cases hs
  · cases hs
theorem acc_startD {P : Hp → Hp → List Addr → Prop} {J : It} {ds : List D} {L : List Addr} {σ : L2.St} {H1 Hs1 : Hp} {fp1 : List Addr} {ρ1 : Env} {D : Addr} {vs : List Nat} (wk : Walk X.K T J ds P) (hp : P H1 Hs1 fp1) (st : StOk X.K T L Hs1 H1 ρ1 σ fp1) (hD : H1 D = none) :
    ∃ fpw, Acc mkD X.K T P L H1 Hs1 fp1 D (wipe σ vs) (wipeE ρ1 vs) (upd H1 D (.dK [])) Hs1 fpw [] [] [] := by
  obtain ⟨fpw, w1, w2⟩ := wipe_ok (vs := vs) st
  have hDf : ∀ x, (∃ o, H1 x = some o) → x ≠ D := fun x ⟨o, q⟩ e => by subst e; rw [hD] at q; cases q
  have hDs : Hs1 D = none := none_of_ex st.ex hD
  have s0 : Stp fp1 H1 Hs1 (D :: ([] ++ fpw)) (upd H1 D (.dK [])) Hs1 := ⟨Ex.refl _, fun a o q _ => by rw [upd_ne (hDf a ⟨o, q⟩)]; exact q, fun a ha => by
    rcases List.mem_cons.mp ha with rfl | ha
    · exact .inr hD
    · exact .inl (w2 a (by simpa using ha)), fun _ _ q => .inl q⟩
  exact ⟨fpw, w1.upd (fun hf => hDf D (w1.rs.tracked D hf) rfl) (fun hl => hDf D (st.lt D hl).1 rfl) hDs, wk.keep hp s0, upd_same, .nil, List.nodup_cons.mpr ⟨fun hf => hDf D (w1.rs.tracked D (by simpa using hf)) rfl, by simpa using w1.nd⟩,
    fun a ha => by have : a = D := by simpa using ha
                   subst this; exact hDs, fun a ha hm => by have : a = D := by simpa using hm
                                                            subst this; exact hDf a (st.lt a ha).1 rfl, s0⟩
/-- the dict, made, is locked for good -/
theorem acc_endD {P : Hp → Hp → List Addr → Prop} {bk : Env → Env} {L L' : List Addr} {σ : L2.St} {H Hs H1 Hs1 H' Hs' : Hp} {fp fp1 fpi : List Addr} {ρ ρ1 ρ2 : Env} {D : Addr} {vs : List Nat} {ds : List CH.D} {ys : List V} {ft : List Addr} (o : Obj) (op : Opn X.K T L σ Hs H fp ρ bk L' ρ1 H1 Hs1 fp1) (hq : quietAll ρ1 vs = true)
    (a : Acc mkD X.K T P L' H1 Hs1 fp1 D (wipe σ vs) ρ2 H' Hs' fpi (ds.map .sh) ys ft) (g : goodD ds = true) (lk : lks ρ2 = lks ρ1) (wn : ∀ j ∈ vs, ∀ s, ρ2[j]? = some s → s = .no) :
    ∃ fp3, Post X.K T L σ Hs H fp ρ (.sh (.dct ds)) (bk (backE ρ1 ρ2 vs)) (.ref D) (upd H' D (.frz o (.dK (prK ys)))) (upd Hs' D (.frz o (.dK (prK ys)))) fp3 [] := by
  have hlen : ρ1.length = σ.length := op.st.rs.length
  have ilen : ρ2.length = σ.length := by rw [a.st.rs.length, wipe_length]
  have lkp : lks (backE ρ1 ρ2 vs) = lks ρ1 := lks_patch lk
  obtain ⟨rd, ef⟩ := a.ra.leaves (leaves_map ds)
  subst ef
  have nD : D ∉ fpi := (a.held D (by simp)).2
  have nL : D ∉ L' := fun h => a.nl D h (by simp)
  have nS : Hs' D = none := a.nf D (by simp)
  have eS : Ex Hs' (upd Hs' D (.frz o (.dK (prK ys)))) := fun b u q => by rw [upd_ne (fun z => by subst z; rw [nS] at q; cases q)]; exact q
  have st1 := a.st.upd (o := .frz o (.dK (prK ys))) nD nL nS
  have le : Ex (upd Hs' D (.frz o (.dK (prK ys)))) (upd H' D (.frz o (.dK (prK ys)))) := fun b u q => by
    by_cases e : b = D
    · subst e; rw [upd_same] at q ⊢; exact q
    · rw [upd_ne e] at q ⊢; exact a.st.ex b u q
  have st2 : StOk X.K T L' (upd Hs' D (.frz o (.dK (prK ys)))) (upd H' D (.frz o (.dK (prK ys)))) ρ2 (wipe σ vs) fpi :=
    ⟨le, st1.rs.step eS (fun _ z => z) fun b _ u q => q, st1.nd, fun b hb => by rw [upd_ne (fun z => by subst z; exact nD hb)]; exact st1.nf b hb, st1.lf, fun b hb => ⟨(st1.lt b hb).1, by rw [upd_ne (fun z => by subst z; exact nL hb)]; exact (st1.lt b hb).2⟩⟩
  have sp2 : Stp (D :: ([] ++ fpi)) H' Hs' fpi (upd H' D (.frz o (.dK (prK ys)))) (upd Hs' D (.frz o (.dK (prK ys)))) :=
    ⟨eS, fun b u q hn => by rw [upd_ne (fun z => by subst z; exact hn (by simp))]; exact q, fun b hb => .inl (by simp [hb]), fun b u q => by
      by_cases e : b = D
      · subst e; exact .inr (.inl (by simp))
      · rw [upd_ne e] at q; exact .inl q⟩
  have sp := a.sp.trans sp2
  have rs : RpS X.K T _ _ L' (backE ρ1 ρ2 vs) σ fpi := patch_rs op.st.rs st2.rs sp.ex (fun j hj s e => quiet_get hq (by simpa using hj) e) (fun j hj s e => wn j (by simpa using hj) s e) (fun j hj => wipe_out2 fun z => by simp [z] at hj) (by rw [ilen, hlen])
  have stb : StOk X.K T L' _ _ (backE ρ1 ρ2 vs) σ fpi := ⟨st2.ex, rs, st2.nd, st2.nf, st2.lf, st2.lt⟩
  obtain ⟨fp3, b1, b2, b3, b4⟩ := op.back [] (fun x hx => absurd hx (by simp)) stb sp lkp fun _ _ _ => rfl
  exact ⟨fp3, b1, .sh (.dct upd_same g (rd.mono eS)), by simpa using b1.nd, fun x hx => absurd hx (by simp), fun x _ hx => absurd hx (by simp), b2, b3⟩
/-- the reading of a dict comprehension -/
theorem dc_read {wi : TI} {ρ : Env} {bk : Env → Env} {rI : R (List D × Env)} {tg : Tg} {ifs : List Expr} {kx vx : Expr} {cond : Env → R (Bool × Env)} {ek ev : Env → R (OT × Env)} {pl : List Nat} {W : WX} (si : SI X T W wi ρ bk rI)
    (ht : ∀ s H C cl fp ρ, STs (blkC' X s H scope C cl fp) T W0 ifs ρ (cond ρ)) (hk : ∀ s H C cl fp ρ, SE (blkC' X s H scope C cl fp) T W0 kx ρ (ek ρ)) (hv : ∀ s H C cl fp ρ, SE (blkC' X s H scope C cl fp) T W0 vx ρ (ev ρ))
    {L : List Addr} {σ : L2.St} {H Hs : Hp} {fp : List Addr} {Q : VK} (h : StOk X.K T L Hs H ρ σ fp)
    (k : Cont (rI.bind fun p => if quietAll p.2 tg.slots = true then
        match lcG cond (putE ek ev) pl tg tg.slots p.1 [] (wipeE p.2 tg.slots) with
        | .ok (ts, ρ2) => match leaves ts with
          | some es => if goodD es = true then .ok (OT.sh (.dct es), bk (backE p.2 ρ2 tg.slots)) else .no
          | none => .no
        | _ => .no
      else .no) (fun p => ∀ v H' Hs' fp' ft, Post X.K T L σ Hs H fp ρ p.1 p.2 v H' Hs' fp' ft → Q v H') (XOk X.K T L σ Hs H fp ρ W)) :
    tDc wi (gT X.K tg) (tIfs X scope ifs) (tElt X scope kx) (tElt X scope vx) tg.slots σ H (fun v H' => ∃ D kvs, v = .ref D ∧ H' D = some (.dK kvs) ∧ ∀ o, Q v (upd H' D (.frz o (.dK kvs)))) := by
  rw [cont_bind] at k
  refine si L σ H Hs fp [] _ h (fun a ha => absurd ha (by simp)) (k.imp (fun p k J P L' H1 Hs1 fp1 wk hp op => ?_) fun _ _ x => x)
  intro D hD
  obtain ⟨ds, ρ1⟩ := p
  simp only at k wk op
  split at k
  · rename_i hq
    cases hres : lcG cond (putE ek ev) pl tg tg.slots ds [] (wipeE ρ1 tg.slots) with
    | no => rw [hres] at k; exact k.elim
    | ex e' ρ' => rw [hres] at k; exact k.elim
    | ok res =>
      obtain ⟨ts, ρ2⟩ := res
      rw [hres] at k
      simp only at k
      cases hlv : leaves ts with
      | none => rw [hlv] at k; exact k.elim
      | some es =>
        rw [hlv] at k
        simp only at k
        split at k
        · rename_i hg
          have ets : ts = es.map .sh := leaves_eq hlv
          subst ets
          obtain ⟨fpw, a0⟩ := acc_startD (X := X) (vs := tg.slots) wk (by simpa using hp) op.st hD
          refine loop_core (pl := pl) wk (fun j hj => hj) (quiet_nlk hq) (tests_ok ht) (rd := fun σ H Nx => tElt X scope kx σ H fun y H4 => tElt X scope vx σ H4 fun z H5 => ∃ kvs k, y = kV k ∧ H5 D = some (.dK kvs) ∧ kvs.length < sizeLine ∧ Nx (upd H5 D (.dK (putK kvs k z)))) (dc_step wk hk hv) a0 (lks_wipe (quiet_nlk hq)) (fun j hj s e => wipeE_get hj s e) hres fun H' Hs' fp' ys' ft' a lk wn => ?_
          refine ⟨D, prK ys', rfl, a.hD, fun o => ?_⟩
          obtain ⟨fp3, po⟩ := acc_endD o op hq a hg lk wn
          exact k _ _ _ _ _ po
        · exact k.elim
  · exact k.elim
theorem se_dc {W : WX} {sc : Scope} {ρ : Env} {pos : Pos} {wi : TI} {bk : Env → Env} {rI : R (List D × Env)} {tg : Tg} {tgE iter kx vx : Expr} {ifs : List Expr} {scope : Scope} {own : List (Str × Nat)} {cond : Env → R (Bool × Env)} {ek ev : Env → R (OT × Env)} {pl : List Nat}
    (nd : X.N.Nodup) (hs : X.env.scope = sc) (hc : X.calm = true) (hi : PI X tgE iter wi) (hset : notSetB iter = true) (si : SI X T W wi ρ bk rI) (ok : BlkOk X.N sc scope own) (ho : own.map (·.2) = tg.slots)
    (htg : tgB X.N (relS scope sc) (fun x => scope.names.lookup x == some .cell) tg tgE = true) (h1 : oneTest ifs = true)
    (ht : ∀ s H C cl fp ρ, STs (blkC' X s H scope C cl fp) T W0 ifs ρ (cond ρ)) (hk : ∀ s H C cl fp ρ, SE (blkC' X s H scope C cl fp) T W0 kx ρ (ek ρ)) (hv : ∀ s H C cl fp ρ, SE (blkC' X s H scope C cl fp) T W0 vx ρ (ev ρ)) :
    SE X T W (.DictComp kx vx [⟨tgE, iter, ifs, 0⟩] scope pos) ρ (rI.bind fun p => if quietAll p.2 tg.slots = true then
        match lcG cond (putE ek ev) pl tg tg.slots p.1 [] (wipeE p.2 tg.slots) with
        | .ok (ts, ρ2) => match leaves ts with
          | some es => if goodD es = true then .ok (OT.sh (.dct es), bk (backE p.2 ρ2 tg.slots)) else .no
          | none => .no
        | _ => .no
      else .no) := fun L σ H Hs fp Q h k => by
  have rd := dc_read (scope := scope) si ht hk hv h k
  rw [← ho] at rd
  intro pins s I
  refine thn ((pe_dc hc nd hi (by rw [hs]; exact ok) (fun s H C cl fp => tg_pg (X := blkC' X s H scope C cl fp) nd (blk_scope hs) rfl hc htg) (fun s H C cl fp => pts_w h1 s H C cl fp) (fun s H C cl fp => pe_elt s H C cl fp) (fun s H C cl fp => pe_elt s H C cl fp) (notSet hset)).run pins s σ H _ I rd) ?_
  rintro u s' ⟨v, H', I', r, D, kvs, rfl, hD, q⟩
  obtain ⟨o, I2⟩ := I'.lock hD trivial
  exact ⟨_, _, I2, r, q o⟩
/-- a dict comprehension, its dict locked for good -/
def tDcL (wi : TI) (g : TG) (tt : TT) (tk tv : TE) (vs : List Nat) : TE := fun σ H Q => tDc wi g tt tk tv vs σ H (fun v H' => ∃ D kvs, v = .ref D ∧ H' D = some (.dK kvs) ∧ ∀ o, Q v (upd H' D (.frz o (.dK kvs))))
/-- name = {..} on one line, the name a local -/
theorem ps_setDc {i : Nat} {y : Str} {py : Pos} {kx vx tg iter : Expr} {ifs : List Expr} {scope : Scope} {own : List (Str × Nat)} {pos spos : Pos} {wi : TI} {g : TG} {tt : TT} {tk tv : TE} (hc : X.calm = true) (hN : X.N.Nodup) (hy : X.N[i]? = some y) (hyl : X.env.scope.names.lookup y = some .local)
    (hsw : swapsWith (.DictComp kx vx [⟨tg, iter, ifs, 0⟩] scope pos) (some (.Name y py)) spos.line X.env = pure true) (hi : PI X tg iter wi) (ok : BlkOk X.N X.env.scope scope own)
    (hg : ∀ (s : Shared) (H : Hp) (C : Addr) (cl : List (Str × Addr)) (fp : List Addr), PG (X.blk s H scope (compEnvC scope cl C X.env) fp) tg g) (ht : ∀ (s : Shared) (H : Hp) (C : Addr) (cl : List (Str × Addr)) (fp : List Addr), PTs (X.blk s H scope (compEnvC scope cl C X.env) fp) ifs tt)
    (hk : ∀ (s : Shared) (H : Hp) (C : Addr) (cl : List (Str × Addr)) (fp : List Addr), PE (X.blk s H scope (compEnvC scope cl C X.env) fp) kx tk)
    (hv : ∀ (s : Shared) (H : Hp) (C : Addr) (cl : List (Str × Addr)) (fp : List Addr), PE (X.blk s H scope (compEnvC scope cl C X.env) fp) vx tv) (hs : ∀ x, foldedSetIterable iter X.env x = pure x) :
    PS X (.Assign [.Name y py] (.DictComp kx vx [⟨tg, iter, ifs, 0⟩] scope pos) spos) (tAsg (tDcL wi g tt tk tv (own.map (·.2))) (gName i)) := by
  refine ⟨fun pins s σ H D I h => ?_⟩
  rw [exec_Assign_Name_used _ _ _ _ hsw]
  refine wpAny_bind (wpAny_standAt (wpAny_bind ?_))
  show wpAny _ X.A (do let _ ← comprehension (.DictComp kx vx [⟨tg, iter, ifs, 0⟩] scope pos) scope X.env (firstIterPos [⟨tg, iter, ifs, 0⟩] pos) newDict false (eval iter X.env) (some (assign (.Name y py) X.env))) _ _ s
  have h : tDc wi g tt tk tv (own.map (·.2)) σ H (fun v H' => ∃ F kvs, v = .ref F ∧ H' F = some (.dK kvs) ∧ ∀ o, gName i v σ (upd H' F (.frz o (.dK kvs))) D.nx) := h
  refine wpAny_bind (thn (dc_core (Qf := fun _ s' => SP X pins D .next s') hc hN I hi ok hg ht hk hv hs h fun L C s' m H' I' q hn f => ?_) fun _ s' hq => wpAny_pure (wpAny_pure hq))
  obtain ⟨F, kvs, eF, hF, q⟩ := q
  cases eF
  show wpAny _ _ (assign (.Name y py) X.env (.ref L)) _ _ _
  refine wpAny_assign_Name (store_ok2 (v := V.ref L) I' hN hy (.inl hyl) rfl (fun s2 I2 ⟨a, sb, ha⟩ => ?_) (.inr hyl))
  obtain ⟨f0, f1, f2, f3, f4, f5⟩ := f
  have haC : C ≠ a := by
    rcases ha with z | z
    · rw [z]; exact f1
    · exact fun e => f4 y a z e.symm
  refine ⟨m, hn.sameBut sb haC, fun h3 sb3 => ?_⟩
  have I4 := I2.turned (t' := s2.toks) (h' := h3) (fun b o hb e => (sb3.2 b hb).trans e) f0 f1 f3 f4 f5
  obtain ⟨o, I5⟩ := I4.lock hF trivial
  exact ⟨_, _, I5, q o⟩
theorem sw_trueD {kx vx : Expr} {gs : List Comprehension} {scope : Scope} {pos py : Pos} {y : Str} {l : Nat} {env : PySem.Env} (hk : env.scope.kind = .function) (hy : env.scope.names.lookup y = some .local) (hl : (py.line == pos.line) = true)
    (ha : (scope.names.any fun (n, k) => n == y && (k == .local || k == .cell)) = false) : swapsWith (.DictComp kx vx gs scope pos) (some (.Name y py)) l env = pure true := by
  have ky : env.kindOf y = some .local := hy
  have hb : env.blockKind = .function := by unfold PySem.Env.blockKind; rw [hk]; rfl
  unfold swapsWith
  simp only [hb, ky, ha, Expr.pos, hl]
  rfl
end
end CH
end
section
namespace CH
open PySem L2 Evl PyProof.Rows

/-- return (abs(x), x < 0) -/
def rankBody : List Stmt → Option (Str × Str × Str × Str)
  | [.Return (some (.Tuple [.Call (.Name f _) [.Name x _] [] _, .Compare (.Name y _) [.Lt] [.Constant (.int 0) _ _] _] _ _)) _] => some (f, x, y, y)
  | _ => none
def rankB (st : Stmt) (p : Str) : Bool := match rankBody (defBody st) with
  | some (f, x, y, _) => decide (f = ("abs" : Str)) && decide (x = p) && decide (y = p) && !(p == ("__debug__" : Str)) && decide ((defScope st).names.lookup ("abs" : Str) = some .globalImplicit) && decide ((defScope st).names.lookup p = some .local) &&
    ((defScope st).names.all fun y => !decide (y.2 = .cell)) && decide ((defScope st).kind = .function) && !(defScope st).isCoroutine && !(defScope st).isGenerator
  | none => false
/-- such a def, of the module -/
def RankK (K : PySem.W.Frag) (mg : Str → Option Value) (x : Str) : Prop := mg "abs" = none ∧ ∃ st a fd p, Fun K x x st a fd ∧ mg x = some (.ref a) ∧ Binds K fd [p] [] ∧ rankB st p = true
theorem ld_l {M : Model} {s : Shared} {env : PySem.Env} {m : Str → Option Value} {x : Str} {pos : Pos} {v : Value} {Q : Value → Shared → Prop} {A : Around} {E : Value → Shared → Prop} (hk : env.scope.kind = .function) (hl : env.kindOf x = some .local) (hd : (x == ("__debug__" : Str)) = false) (hn : s.heap.Ns env.locals m) (hv : m x = some v) (h : Q v s) :
    wpAny M A (eval (.Name x pos) env) Q E s := wpAny_Name (PySem.wpAny_loadName_local hk hl hn hv h) hd
theorem rank_pure {P : Program} {w : World} {A : Around} {K : PySem.W.Frag} {mg : Str → Option Value} {s : Shared} {x p : Str} {st : Stmt} {a : Addr} {fd : FuncData} (F : Fun K x x st a fd) (B : Binds K fd [p] []) (hr : rankB st p = true) (M : L2.Mod K mg s.heap) (hm : mg "abs" = none) (room : A.depth < recursionLimit) {n : Int} {t : Tok} :
    wpAny (model P w) A (call (.ref a) [.int n t]) (PySem.W.KeyPure (.tuple [.int (if n < 0 then -n else n), .bool (decide (n < 0))]) s) (fun _ _ => False) s := by
  obtain ⟨oc, od, kV, doc, pm, an, cdv, ct, osl, rfl, lk, hcd⟩ := F.ex
  unfold rankB at hr
  split at hr
  · rename_i f0 x0 y0 z0 hb
    simp only [Bool.and_eq_true, decide_eq_true_eq, Bool.not_eq_true', List.all_eq_true] at hr
    obtain ⟨⟨⟨⟨⟨⟨⟨⟨⟨e1, e2⟩, e3⟩, hdb⟩, hab⟩, hp⟩, hcell⟩, hkd⟩, hco⟩, hgen⟩ := hr
    unfold rankBody at hb
    split at hb
    · rename_i f1 p1 x1 p2 p3 y1 p4 kk p5 p6 k7 p7 p8 hbody
      cases hb
      subst e1
      rw [e2, e3] at hbody
      clear e2 e3
      obtain ⟨hp0, g, d, tk, os⟩ := s
      have bd := B ⟨hp0, g, d, tk, os⟩ [.int n t] M.kin (by simp)
      rw [List.append_nil] at bd
      refine wpAny_call (PySem.ks_codeAny_call_defAt (body := defBody st) (binds := [(p, .int n t)]) room (M.kin _ _ lk) rfl M.nolimit (PySem.W.codeRec_of M.kin hcd) rfl bd (fun y hy => by simpa using hcell y hy) (fun y hy => by
        have : y = (p, .int n t) := by simpa using hy
        rw [this]; exact hp) (fun h₁ hns k₁ => ?_) hco hgen hkd)
      rw [hbody]
      obtain ⟨mb, hb1, hb2⟩ := M.blt
      have hv : ([(p, Value.int n t)] : List (Str × Value)).reverse.lookup p = some (.int n t) := by simp [List.lookup]
      generalize ([(p, Value.int n t)] : List (Str × Value)).reverse = rb at hns hv
      generalize hen : PySem.callEnv _ _ _ = env
      have k1 : env.scope.kind = .function := by rw [← hen]; exact hkd
      have k2 : env.kindOf p = some .local := by rw [← hen]; exact hp
      have k3 : env.kindOf "abs" = some .globalImplicit := by rw [← hen]; exact hab
      have k4 : env.locals = hp0.objs.size := by rw [← hen]; rfl
      have k5 : env.globals = mainGlobals := by rw [← hen]; rfl
      have k6 : env.builtins = builtinsNs := by rw [← hen]; rfl
      refine PySem.wpAt_of_wpAny ?_
      refine wpAny_execs_cons (wpAny_Return_some ?_)
      refine wpAny_Tuple ?_
      refine spliced_more (wpAny_Call_Name_kw (wpAny_Name (PySem.W.ks_loadName_global k1 k3 (Calls.loadGlobal_builtin (by rw [k5]; exact M.glob.keeps k₁) hm (by rw [k6]; exact hb1.keeps k₁) ((hb2 _ (by decide)).trans rfl) ?_)) (by decide)))
      refine Calls.callWith_builtin (by rfl) (Calls.evalArgs_plain (spliced_more (ld_l k1 k2 hdb (by rw [k4]; exact hns) hv (spliced_none ?_))))
      refine PyProof.Rows.call_abs_int fun u tk2 => ?_
      refine spliced_more (wpAny_Compare1 (ld_l k1 k2 hdb (by rw [k4]; exact hns) hv (wpAny_Constant_int (wpAny_lt_int ?_))))
      refine spliced_none ⟨by rw [sizeLine_eq]; exact (by decide : 2 ≤ 16777216), ?_⟩
      refine ⟨_, _, rfl, fun b o e => Heap.get?_push_of_some _ (k₁ b o e), ?_⟩
      exact .tuple (Heap.get?_push_size _ rfl) rfl rfl (ReadsAll.cons (as := []) (bs := []) (.int _ _) (ReadsAll.cons (as := []) (bs := []) (.bool _) .nil))
    · cases hb
  · cases hr
theorem ints_of {K : PySem.W.Frag} {T : Tab} {Hs : Hp} : ∀ {ds : List D} {vs : List V} {ns : List Int}, Rps K T Hs ds vs → intsD ds = some ns → ds = ns.map .int ∧ vs = ns.map .int
  | [], vs, ns, r, e => by cases r; cases Option.some.inj (show some [] = some ns from e); exact ⟨rfl, rfl⟩
  | .int i :: ds, vs, ns, r, e => by
    obtain ⟨ws, rfl, r2⟩ := rps_int r
    obtain ⟨ms, h1, rfl⟩ := Option.map_eq_some_iff.mp (show (intsD ds).map (i :: ·) = some ns from e)
    obtain ⟨rfl, rfl⟩ := ints_of r2 h1
    exact ⟨rfl, rfl⟩
  | .non :: _, _, _, _, e | .bl _ :: _, _, _, _, e | .str _ :: _, _, _, _, e | .tup _ :: _, _, _, _, e | .lst _ :: _, _, _, _, e | .flst _ :: _, _, _, _, e | .ty _ :: _, _, _, _, e | .fn _ :: _, _, _, _, e | .obj .. :: _, _, _, _, e | .dct _ :: _, _, _, _, e => by simp [intsD] at e
def rkKey (n : Int) : PyData := .tuple [.int (if n < 0 then -n else n), .bool (decide (n < 0))]
theorem leR_eq : PySem.W.dataLe false rkKey = leR := by
  have e1 : PySem.W.dataLe false rkKey = PySem.W.dataLe false fun n : Int => .tuple [.int (if n < 0 then -n else n), .int (if n < 0 then 1 else 0)] := by
    funext m n
    unfold PySem.W.dataLe rkKey
    have : ∀ n : Int, PySem.W.keyToks (.tuple [.int (if n < 0 then -n else n), .bool (decide (n < 0))]) = PySem.W.keyToks (.tuple [.int (if n < 0 then -n else n), .int (if n < 0 then 1 else 0)]) := fun n => by
      by_cases h : n < 0 <;> simp [PySem.W.keyToks, PySem.W.keyToksAll, h]
    simp only [this]
  rw [e1, PySem.W.dataLe_ii]
  funext m n
  unfold leR
  rw [Bool.eq_iff_iff]
  simp only [decide_eq_true_eq, Bool.or_eq_true, Bool.and_eq_true]
  split <;> split <;> omega
theorem vals_ints_map : ∀ {ns : List Int} {us : List Value}, Vals (ns.map V.int) us → PySem.W.EachIs (fun (v : Value) (n : Int) => ∃ t, v = .int n t) us ns
  | [], _, r => by cases r; exact .nil
  | n :: ns, _, r => by
    cases r with
    | cons h r =>
      exact .cons h (vals_ints_map r)
theorem each_vals : ∀ {ns : List Int} {us : List Value}, PySem.W.EachIs (fun (v : Value) (n : Int) => ∃ t, v = .int n t) us ns → Vals (ns.map V.int) us
  | [], _, r => by cases r; exact .nil
  | n :: ns, _, r => by
    cases r with
    | cons h r => exact .cons h (each_vals r)
theorem sortR_len (ns : List Int) : (sortR ns).length = ns.length := by unfold sortR; exact List.length_mergeSort ns
section
variable {X : Cx} {T : Tab}
/-- sorted(xs, key=f) -/
theorem cr_rank {x p : Str} {st : Stmt} {a : Addr} {fd : FuncData} (F : Fun X.K x x st a fd) (B : Binds X.K fd [p] []) (hr : rankB st p = true) (hm : X.mg "abs" = none) (rm : X.A.depth < recursionLimit) (hu : X.A.units + 66 < cLine) :
    CallRK X (.builtin "sorted") [Str.ofString "key"] (fun vs zs H Q => zs = [V.ref a] ∧ rCS X.K T (fun ts => match ts with
      | [t] => rankEv t
      | _ => none) vs H Q) := by
  intro pins s σ H xs zs us ws Q I rx rz ⟨ez, Hs, ts, w, ex, ho, hev, q⟩
  subst ez
  obtain ⟨wv, rfl, rw1⟩ := vals1 rz
  obtain rfl : wv = Value.ref a := rw1
  obtain ⟨t, rfl, hev⟩ : ∃ t, ts = [t] ∧ rankEv t = some w := by
    match ts, hev with
    | [t], h => exact ⟨t, rfl, h⟩
    | [], h => cases h
    | _ :: _ :: _, h => cases h
  obtain ⟨x0, rfl, o⟩ := opds1 ho
  unfold rankEv at hev
  obtain ⟨ds, hl, hev⟩ := Option.bind_eq_some_iff.mp hev
  obtain ⟨ns, hn, hev⟩ := Option.bind_eq_some_iff.mp hev
  obtain ⟨hz0, rfl⟩ := guard_eq hev
  have hz := of_decide_eq_true hz0
  obtain ⟨l, vs, rfl, h1, h2⟩ := opd_litems ex o hl
  obtain ⟨rfl, rfl⟩ := ints_of h2 hn
  obtain ⟨u, rfl, ru⟩ := vals1 rx
  obtain rfl : u = Value.ref l := ru
  obtain ⟨its, rv, hl2, _⟩ := I.list (sq_of h1)
  have nsz : ns.length ≤ sizeLine := by rw [← line]; exact hz
  have each := vals_ints_map rv
  refine PySem.W.sorted_key_data (b := false) (bs := ns) rkKey hl2.isList each (PySem.W.AllAlike.of fun _ _ => by simp [rkKey, PySem.W.alike, PySem.W.alikeAll]) (PySem.W.Sortable.tuples fun _ => ⟨_, _, rfl⟩) nsz (fun n _ => ?_) (ksk_s1 _ _) (fun _ => ksk_l1 _ _) (fun _ => ksk_t1 _ _)
    (fun v n ⟨t, e⟩ _ h tk kp => ?_) fun out c h' tk kp _ hD ol eo => ?_
  · have hd : (rkKey n).depth = 1 := by simp [rkKey, PyData.depth, PyData.depthAll]
    omega
  · subst e
    have kk : ∀ b o, X.base.get? b = some o → h.get? b = some o := fun b o e => kp b o (I.bk b o e)
    exact rank_pure (s := { s with heap := h, toks := tk }) F B hr ⟨I.ok.mod.kin.keeps kk, I.ok.mod.glob.keeps kk, (let ⟨mb, h1, h2⟩ := I.ok.mod.blt; ⟨mb, h1.keeps kk, h2⟩), I.ok.mod.nolimit.keeps kk⟩ hm (A := X.A.in1.in1) rm
  · rw [leR_eq] at eo
    exact ⟨.ref _, upd H (s.heap.objs.size + 1) (.lst ((sortR ns).map V.int)), I.laid (t' := tk) kp (Nat.le_succ _) ⟨by rw [List.length_map, sortR_len]; exact nsz, out, c, each_vals eo, hD⟩, rfl, q _ _ _ _ (New.newL ex (I.hok.fresh (Nat.le_succ _)) (rps_of_ints _))⟩
theorem se_rank {W : WX} {sc : Scope} {ρ : Env} {r : R (OT × Env)} {x : Str} {y : Expr} {p pz kp pos : Pos} (hs : X.env.scope = sc) (hb : ∀ x ∈ T.bn, X.mg x = none) (Rk : RankK X.K X.mg x) (rm : X.A.depth < recursionLimit) (hu : X.A.units + 66 < cLine)
    (h1 : glB sc "sorted" = true) (h2 : T.bn.contains "sorted" = true) (h3 : glB sc x = true) (h4 : (x == ("__debug__" : Str)) = false) (h5 : isStar y = false) (he : SE X T W y ρ r) :
    SE X T W (.Call (.Name "sorted" p) [y] [⟨some "key", .Name x pz, kp⟩] pos) ρ (r.bind fun q => match rankEv q.1 with
      | some w => .ok (w, q.2)
      | none => .no) := by
  obtain ⟨hm, st, a, fd, pp, F, mx, B, hr⟩ := Rk
  intro L σ H Hs fp Q h k
  rw [cont_bind] at k
  have pe := pe_callBK (p := p) (pos := pos) (x := "sorted") (cr_rank (T := T) F B hr hm rm hu) (gl_of hs h1) (bn_of hb h2) rfl (paW X [y] (by simp [nostar, h5])) (pk_cons (nm := some (Str.ofString "key")) (kpos := kp) (pe_glob (pos := pz) (gl_of hs h3) mx (show RelV (.ref a) (.ref a) from rfl) h4) pk_nil) (by decide) (by decide) (by rw [star_cons h5]; rfl) (star_any (by simp [h5]))
  refine wE_of pe (he L σ H Hs fp _ h (k.imp (fun q k v H1 Hs1 fp1 ft p1 => ?_) fun _ _ z => z))
  cases hev : rankEv q.1 with
  | none => rw [hev] at k; exact k.elim
  | some w =>
    rw [hev] at k
    exact ⟨rfl, Hs1, [q.1], w, p1.st.ex, .cons ⟨_, p1.rp⟩ .nil, hev, fun z H2 Hs2 ft2 n => k z H2 Hs2 fp1 ft2 (p1.pst.post (New.post p1.st n))⟩
end
end CH
end
section
namespace CH
open PySem PySem.W PySem.Calls PyProof.Rows PySem.HandSPX
/-- self.f = f, one behind the other -/
inductive Stores : List Str → List Stmt → Prop
  | nil : Stores [] []
  | cons {f : Str} {fs : List Str} {r : List Stmt} {q1 q2 q3 q4 : Pos} : Stores fs r → Stores (f :: fs) (.Assign [.Attribute (.Name "self" q1) f q2] (.Name f q3) q4 :: r)
/-- the text of such an __init__ -/
inductive InitIs (fs : List Str) : List Stmt → Prop
  | mk {p0 p1 p2 p3 p4 p5 : Pos} {msg : Str} {k : Nat} {rest : List Stmt} : Stores fs rest → (p2.endLine == p4.line) = true → InitIs fs (.Expr (.Call (.Attribute (.Call (.Name "super" p0) [] [] p1) "__init__" p2) [.Constant (.str msg) k p3] [] p4) p5 :: rest)
/-- what the written part says of such a class, at C, and of its __init__, at fI -/
structure ExTxt (prog : Program) (K : Frag) (mg : Str → Option Value) (C fI : Addr) (fs : List Str) : Prop where
  cls : ∃ nm q N bs bm sn sub ab col dd k0 k1 k2 k3 k5, K.lookup C = some (excClassObj nm q C N bs bm true sn sub ab col dd k0 k1 k2 k3 k5 "ValueError.__new__") ∧ refsVE bm = true
  sa : findIn K (.ref C) "__setattr__" = some (some (.builtin "object.__setattr__"))
  ga : findIn K (.ref C) "__getattribute__" = some (some (.builtin "BaseException.__getattribute__"))
  gg : findIn K (.ref C) "__getattr__" = some none
  noN : ∀ f ∈ fs, findIn K (.ref C) f = some none
  iC : findIn K (.ref C) "__init__" = some (some (.ref fI))
  tC : typeIn K (.ref fI) = some (.type "function")
  kC : keepIn K (.ref C) = true
  exC : subIn K (.ref C) (.type "BaseException") = some true
  veC : subIn K (.ref C) (.type "ValueError") = some true
  tyC : typeIn K (.ref C) = some (.type "type")
  hdC : hasDictIn K C = true
  sup : ks_superIn K C C "__init__" = some (some (.builtin "ValueError.__init__"))
  meC : mroIn K C (.ref C) = some true
  noS : mg "super" = none
  opq : nsIn K cStatics "thirdparty.any" = some none
  top : (prog.main.scope.names.lookup ("super" : Str)).isSome = false
  fld : ∀ f ∈ fs, (f == ("__debug__" : Str)) = false ∧ f ≠ ("self" : Str)
  nd : fs.Nodup
  few : fs.length ≤ 8
  fn : ∃ (oc : Value) (od : Option Addr) (doc pm : Value) (an : Option Addr) (cda cc : Addr) (ct : Value) (osl : Array (Option Value)) (qual : Str) (params : Arguments) (body : List Stmt) (scope : Scope),
    K.lookup fI = some ⟨oc, od, .func (ksFn "__init__" qual params body scope .none .none doc pm an (.ref cda) ct cc), osl⟩ ∧ codeIn K (.ref cda) qual = true ∧
    (∃ (ccl : Value) (cdd : Option Addr) (vs : Array Value) (ccs : Array (Option Value)) (file : Str) (tf : Tok), K.lookup cda = some ⟨ccl, cdd, .fields vs, ccs⟩ ∧ vs[2]? = some (.str file tf) ∧ ((prog.main.file : Str) == file) = true) ∧
    (∃ (cl : Value) (cld : Option Addr) (csl : Array (Option Value)), K.lookup cc = some ⟨cl, cld, .cell (some (.ref C)), csl⟩) ∧
    (∃ ar : Arg, (params.posonlyargs ++ params.args).head? = some ar ∧ ar.arg = "self") ∧
    (∀ (s : Shared) (u : Value) (vs : List Value), vs.length = fs.length → BindsTo s (ksFn "__init__" qual params body scope .none .none doc pm an (.ref cda) ct cc) ⟨u :: vs, []⟩ (("self", u) :: fs.zip vs)) ∧
    scope.names.lookup ("super" : Str) = some .globalImplicit ∧ scope.names.lookup ("__class__" : Str) = some .free ∧ scope.names.lookup ("self" : Str) = some .local ∧ (∀ f ∈ fs, scope.names.lookup f = some .local) ∧
    (∀ x ∈ scope.names, x.2 ≠ .cell) ∧ scope.isCoroutine = false ∧ scope.isGenerator = false ∧ scope.kind = .function ∧ InitIs fs body
theorem kept_but {K : Frag} {h h' : Heap} {x : Addr} (X : K.In h) (hx : K.lookup x = none) (k : ∀ b o, b ≠ x → h.get? b = some o → h'.get? b = some o) : K.In h' := fun a o e =>
  k a o (fun z => by rw [z, hx] at e; cases e) (X a o e)
/-- the fields of a fresh exception's dict -/
def fldF (l : List (Str × Value)) : Str → Option Value := fun y => l.lookup y
section
variable {prog : Program} {w : World} {A : Around} {E : Value → Shared → Prop} {R : Result → Shared → Prop} {hp : Heap} {g : Array GenState} {d : Drawn} {t : Nat} {os : OsState}
/-- self.f = v where the exception has its dict -/
theorem osa_more {K : Frag} {name : Str} {tk : Tok} {v : Value} {x C dx : Addr} {fv : Array Value} {cd : ClassData} {m0 : Str → Option Value} {nl : List Str}
    (X : K.In hp) (hx : hp.get? x = some { cls := .ref C, dict := some dx, data := .fields fv }) (hns : hp.Ns1 dx m0) (hw : Within m0 nl) (hz : nl.length ≤ 1000) (hcd : clsIn K C = some cd) (hm : refsVE cd.mro = true) (hh : cd.hasDict = true)
    (ha : findIn K (.ref C) name = some none)
    (hq : ∀ h' tk', (∀ b o, b ≠ dx → hp.get? b = some o → h'.get? b = some o) → h'.Ns1 dx (fun y => if y = name then some v else m0 y) → R (.ok (.ret .none)) ⟨h', g, d, tk', os⟩) :
    codeAny (model prog w) A (.call (.builtin "object.__setattr__") ⟨[.ref x, .str name tk, v], []⟩) R ⟨hp, g, d, t, os⟩ := by
  obtain ⟨oD, esD, epD, hoD, hdD, _⟩ := hns.count hw
  have I : InstAt hp x { cls := .ref C, dict := some dx, data := .fields fv } C (some oD) := ⟨hx, rfl, rfl, hoD⟩
  have SF := F.store_object
  have ne := refsVE_ne hm
  have hob : cd.mro.contains (.type "object") = true := (refsVE_contains "object" _ hm).trans (by decide +kernel)
  have sub : Looks (model prog w) hp (isInstance (.ref x) (.type "object")) true := I.type.andThen (looks_mroIn X (by unfold mroIn; rw [hcd, Option.bind_some, if_neg (by rw [ne]; decide), hob]))
  refine codeAny_call_builtin SF.slot.plain SF.entry (@check_slot (model prog w) _ _ ⟨hp, g, d, t, os⟩ "object.__setattr__" "object" "__setattr__" (.ref x) [.str name tk, v] [] _ SF.kind SF.split sub (SF.args (.ref x) (.str name tk) v) ?_)
  have hmr : Looks (model prog w) hp (mroOf (.ref C)) cd.mro := (looks_clsIn X hcd).andThen .now
  have L3 : Looks (model prog w) hp (Builtin.ObjectAttr.storeTaker? none) none := .now
  rw [osa_eq, refuse_eq]
  refine wpAny_bind (wpAny_bind (I.type.at (wpAny_bind (hmr.at ?_))))
  rw [refsVE_pass _ _ hm]
  refine wpAny_pure (wpAny_bind (I.type.at (wpAny_bind ((looks_findIn X ha).at (wpAny_bind (L3.at ?_))))))
  have hcls : Looks (model prog w) hp (classData C) cd := looks_clsIn X hcd
  obtain ⟨nm, bs, mro, ns, qn, hd, sn, sb, ab, col, del⟩ := cd
  dsimp only at hh
  subst hh
  unfold Builtin.ObjectAttr.storeInOwnDict Builtin.ObjectAttr.ownDictForStores
  repeat (first | with_reducible refine ESX.store_in_old hns hw hz ?_ | with_reducible refine wpAny_loadPart_at hx ?_ | with_reducible refine hcls.at ?_ | wp_step)
  intro h' tk' hn' hs
  exact hq h' tk' (fun b o hb ho => (hs.2 b hb).trans ho) hn'
end
end CH
end
section
namespace CH
open PySem PySem.W PySem.Calls PyProof.Rows PySem.HandSPX
def stF (m0 : Str → Option Value) : List (Str × Value) → Str → Option Value
  | [] => m0
  | (f, v) :: r => stF (fun y => if y = f then some v else m0 y) r
abbrev excD (C t dx : Addr) : Obj := { cls := .ref C, dict := some dx, data := .fields #[.ref t, .none, .none, .none, .bool false, .none] }
section
variable {prog : Program} {w : World} {A : Around} {E : Value → Shared → Prop} {R : Result → Shared → Prop} {g : Array GenState} {d : Drawn} {os : OsState} {K : Frag} {mg : Str → Option Value} {C fI : Addr}
theorem ld_loc {M : Model} {s : Shared} {env : PySem.Env} {m : Str → Option Value} {x : Str} {pos : Pos} {v : Value} {Q : Value → Shared → Prop} {A : Around} {E : Value → Shared → Prop} (hk : env.scope.kind = .function) (hl : env.kindOf x = some .local) (hd : (x == ("__debug__" : Str)) = false) (hn : s.heap.Ns env.locals m) (hv : m x = some v) (h : Q v s) :
    wpAny M A (eval (.Name x pos) env) Q E s := wpAny_Name (wpAny_loadName_local hk hl hn hv h) hd
theorem stores_more {env : PySem.Env} {m : Str → Option Value} {cd : ClassData} {x dx t1 : Addr} {Q : Flow → Shared → Prop} (hk : env.scope.kind = .function) (hks : env.kindOf "self" = some .local) (hself : m "self" = some (.ref x)) (hL : env.locals ≠ dx) (hxd : x ≠ dx) (hnd : K.lookup dx = none)
    (sa : findIn K (.ref C) "__setattr__" = some (some (.builtin "object.__setattr__"))) (hcd : clsIn K C = some cd) (hm : refsVE cd.mro = true) (hh : cd.hasDict = true) :
    ∀ {fs : List Str} {rest : List Stmt}, Stores fs rest → ∀ (vs : List Value) (h : Heap) (t : Nat) (m0 : Str → Option Value) (nl : List Str), vs.length = fs.length → h.Ns env.locals m → (∀ p ∈ fs.zip vs, m p.1 = some p.2) → (∀ f ∈ fs, env.kindOf f = some .local ∧ (f == ("__debug__" : Str)) = false ∧ findIn K (.ref C) f = some none) →
      K.In h → h.get? x = some (excD C t1 dx) → h.Ns1 dx m0 → Within m0 nl → nl.length + fs.length ≤ 1000 →
      (∀ h' tk, (∀ b o, b ≠ dx → h.get? b = some o → h'.get? b = some o) → h'.Ns1 dx (stF m0 (fs.zip vs)) → Q .next ⟨h', g, d, tk, os⟩) →
      wpAny (model prog w) A (execs rest env) Q E ⟨h, g, d, t, os⟩
  | _, _, .nil, vs, h, t, m0, nl, hl, _, _, _, _, _, hns, _, _, hq => wpAny_execs_nil (hq h t (fun _ _ _ e => e) (by simpa [stF] using hns))
  | _, _, @Stores.cons f fs r q1 q2 q3 q4 S, v :: vs, h, t, m0, nl, hl, hn, hm', hf, X, hx, hns, hw, hz, hq => by
    obtain ⟨hkf, hdf, hnf⟩ := hf f (by simp)
    obtain ⟨oD, esD, epD, hoD, hdD, _⟩ := hns.count hw
    refine wpAny_execs_cons (plainObj_wpAny_Assign_Attribute ?_)
    refine ld_loc hk hkf hdf hn (hm' (f, v) (by simp)) (ld_loc hk hks (by decide) hn hself ?_)
    refine set_plain X (ox := excD C t1 dx) (od := some oD) ⟨hx, rfl, rfl, hoD⟩ sa ?_
    refine osa_more X hx hns hw (by simp only [List.length_cons] at hz; omega) hcd hm hh hnf (fun h' tk k hns' => ?_)
    refine stores_more hk hks hself hL hxd hnd sa hcd hm hh S vs h' tk _ (f :: nl) (by simpa using hl) (hn.at fun o e => k _ o hL e) (fun p hp => hm' p (by simp [hp])) (fun f hf' => hf f (by simp [hf'])) (kept_but X hnd k) (k _ _ hxd hx) hns' (Within.cons f v hw) (by simp only [List.length_cons] at hz ⊢; omega) ?_
    intro h'' tk' k' hns''
    exact hq h'' tk' (fun b o hb e => k' b o hb (k b o hb e)) hns''
end
end CH
end
section
namespace CH
open PySem PySem.W PySem.Calls PyProof.Rows PySem.HandSPX
section
variable {prog : Program} {w : World} {A : Around} {E : Value → Shared → Prop} {h : Heap} {g : Array GenState} {d : Drawn} {t : Nat} {os : OsState}
variable {nm q : Str} {C N : Addr} {bs bm : List Value} {hdct : Bool} {sn : List Str} {sub : List Value} {ab : Bool} {col : Option Bool} {dd : Option Addr} {k0 k1 k2 k3 k5 : Option Value}
/-- ValueError.__init__ bound to the exception, called -/
theorem call_veb {u e t0 : Addr} {rest : List Value} {Q : Value → Shared → Prop}
    (hC : h.get? C = some (excClassObj nm q C N bs bm hdct sn sub ab col dd k0 k1 k2 k3 k5 "ValueError.__new__")) (he : h.get? e = some (excO C t0)) (hu : h.get? u = some (kxs_mw "ValueError.__init__" e)) (hrest : rest.length ≤ sizeLine)
    (hq : ∀ h' t1, (∀ b o, b ≠ e → h.get? b = some o → h'.get? b = some o) → h'.get? e = some (excO C t1) → Q .none ⟨h', g, d, t, os⟩) :
    wpAny (model prog w) A (call (.ref u) rest) Q E ⟨h, g, d, t, os⟩ := by
  refine wpAny_call (codeAny_of_tree ?_)
  show wpAny _ A.in1 (callAny (.ref u) ⟨rest, []⟩) _ _ _
  simp only [callAny]
  refine wpAny_bind (wpAny_load hu ?_)
  simp only [kxs_mw, show (Value.type "method-wrapper" == Value.type "method" || Value.type "method-wrapper" == Value.type "builtin_function_or_method" || Value.type "method-wrapper" == Value.type "method-wrapper") = true by decide, if_true]
  refine KFB.if_so (by decide) ?_
  refine wpAny_bind (check_bound_init F.excBase_ValueError.toExcCallFacts hC he rfl ?_)
  refine wpAny_bind (wpAny_pure (wpAny_pure ?_))
  refine ⟨plainId_quiet F.excBase_ValueError.init.plain _, codeAny_builtin F.excBase_ValueError.initEntry ?_⟩
  rw [Around.under_plainId F.excBase_ValueError.init.plain _]
  wp_walk
  refine hq _ h.objs.size (fun b o hb ho => ?_) ?_
  · rw [Heap.get?_update_other _ _ (Ne.symm hb)]
    exact Heap.get?_push_of_some _ ho
  · rw [Heap.get?_update_self _ (Heap.get?_push_of_some _ he) rfl]
    rfl
end
section
variable {prog : Program} {w : World} {A : Around} {R : Result → Shared → Prop} {s : Shared} {K : Frag} {mg : Str → Option Value} {C fI : Addr} {fs : List Str}
theorem boot_super : bootBuiltins "super" = some (.type "super") := by decide +kernel
def plO (o : Expr) (env : PySem.Env) : Sem Bool := do return (← importBound o env).getD true
theorem he_super {env : PySem.Env} {o : Expr} {name : Str} {p2 p3 p4 : Pos} {c : Const} {km : Nat} (hline : (p2.endLine == p4.line) = true) : eval (.Call (.Attribute o name p2) [.Constant c km p3] [] p4) env = (do
      let ov ← attributeBase o name env (eval o env)
      standAt p2.atName
      let (f, first) ← holding [ov] (getMethod ov name (plO o env))
      callWith p4 f first (backTo p4 (starEach [.Constant c km p3] env)) []) := by
  show (do
    let ov ← attributeBase o name env (eval o env)
    standAt p2.atName
    methodCall o name p2 p4 env ov 1 (backTo p4 (starEach [.Constant c km p3] env)) []) = _
  have h1 : ∀ ov, calleeOf (methodCallForm 1 (backTo p4 (starEach [.Constant c km p3] env)) []) o env ov name = getMethod ov name (plO o env) := fun ov => rfl
  have h2 : methodCallPos (methodCallForm 1 (backTo p4 (starEach [.Constant c km p3] env)) []) o env p2 p4 = pure p4 := by
    unfold methodCallPos
    rw [hline, Bool.or_true, if_pos rfl]
  unfold methodCall
  simp only [h1, h2, pure_bind]
theorem rev_lookup {α : Type} : ∀ (l : List (Str × α)), (l.map (·.1)).Nodup → ∀ p ∈ l, l.reverse.lookup p.1 = some p.2 := by
  intro l
  induction l with
  | nil => intro _ p hp; cases hp
  | cons a l ih =>
    intro hn p hp
    rw [List.map_cons, List.nodup_cons] at hn
    rw [List.reverse_cons, List.lookup_append]
    rcases List.mem_cons.mp hp with rfl | hp
    · have : l.reverse.lookup p.1 = none := by
        rw [List.lookup_eq_none_iff]
        intro q hq
        have hq := List.mem_reverse.mp hq
        have : p.1 ≠ q.1 := fun e => hn.1 (e ▸ List.mem_map_of_mem hq)
        simpa using this
      rw [this]
      simp [List.lookup]
    · rw [ih hn.2 p hp]; rfl
theorem zip_keys {α : Type} : ∀ {fs : List Str} (vs : List α), fs.Nodup → ((fs.zip vs).map (·.1)).Nodup ∧ ∀ p ∈ fs.zip vs, p.1 ∈ fs
  | [], vs, _ => ⟨by simp, by simp⟩
  | f :: fs, [], _ => ⟨by simp, by simp⟩
  | f :: fs, v :: vs, h => by
    rw [List.nodup_cons] at h
    obtain ⟨h1, h2⟩ := zip_keys (fs := fs) vs h.2
    refine ⟨?_, ?_⟩
    · rw [List.zip_cons_cons, List.map_cons, List.nodup_cons]
      refine ⟨fun hm => ?_, h1⟩
      obtain ⟨p, hp, e⟩ := List.mem_map.mp hm
      have := h2 p hp
      rw [e] at this
      exact h.1 this
    · intro p hp
      rw [List.zip_cons_cons] at hp
      rcases List.mem_cons.mp hp with rfl | hp
      · simp
      · exact List.mem_cons_of_mem _ (h2 p hp)
theorem ex_init (T : ExTxt prog K mg C fI fs) (hne : fs ≠ []) {x t0 : Addr} {vs : List Value} (hl : vs.length = fs.length) (M : L2.Mod K mg s.heap) (hx : s.heap.get? x = some (excO C t0)) (hnx : K.lookup x = none) (hroom : A.depth < recursionLimit)
    (hq : ∀ h' tk t1 dx, (∀ b o, b ≠ x → s.heap.get? b = some o → h'.get? b = some o) → s.heap.objs.size ≤ dx → dx ≠ x → h'.get? x = some (excD C t1 dx) → h'.Ns1 dx (stF (fun _ => none) (fs.zip vs)) → R (.ok (.ret .none)) { s with heap := h', toks := tk }) :
    codeAny (model prog w) A (.call (.ref fI) ⟨.ref x :: vs, []⟩) R s := by
  obtain ⟨oc, od, doc, pm, an, cda, cc, ct, osl, qual, params, body, scope, ho, hcd, ⟨ccl, cdd, vs0, ccs, file, tf, hcode, hvs, hfile⟩, ⟨cl, cld, csl, hcell⟩, ⟨ar, har, harn⟩, hbind, hsup, hcls, hself, hfl, hnc, hco, hgen, hkd, hb⟩ := T.fn
  obtain ⟨nm, q, N, bs, bm, sn, sub, ab, col, dd, k0, k1, k2, k3, k5, hC, hbm⟩ := T.cls
  have hcl : clsIn K C = some { name := nm, bases := bs, mro := .ref C :: bm, ns := N, qualname := q, hasDict := true, slotNames := sn, subclasses := sub, abstract := ab, collection := col, hasDel := false } := by unfold clsIn; rw [hC] <;> rfl
  obtain ⟨hp, g, d, tk, os⟩ := s
  refine ks_codeAny_call_defAt (fd := ksFn "__init__" qual params body scope .none .none doc pm an (.ref cda) ct cc) (body := body) (binds := ("self", .ref x) :: fs.zip vs) hroom (M.kin _ _ ho) rfl M.nolimit (codeRec_of M.kin hcd) rfl (hbind _ _ _ hl) hnc ?_ (fun h₁ hns k₁ => ?_) hco hgen hkd
  · intro y hy
    rcases List.mem_cons.mp hy with rfl | hy
    · exact hself
    · exact hfl _ (List.of_mem_zip hy).1
  have X₁ : K.In h₁ := M.kin.keeps k₁
  have hx₁ := k₁ _ _ hx
  have hxC : x ≠ C := fun e => by rw [e, hC] at hnx; cases hnx
  have hlx : hp.objs.size ≠ x := Nat.ne_of_gt (Heap.lt_size hx)
  obtain ⟨arn, aan, app⟩ := ar
  simp only at harn
  subst harn
  obtain ⟨zk, zm⟩ := zip_keys vs T.nd
  have keys : (((("self" : Str), Value.ref x) :: fs.zip vs).map (·.1)).Nodup := by
    rw [List.map_cons, List.nodup_cons]
    refine ⟨fun h => ?_, zk⟩
    obtain ⟨p, hp, e⟩ := List.mem_map.mp h
    exact (T.fld _ (zm p hp)).2 e
  have look := rev_lookup _ keys
  have hselfv := look ((("self" : Str), Value.ref x)) (by simp)
  have hfv : ∀ p ∈ fs.zip vs, ((("self" : Str), Value.ref x) :: fs.zip vs).reverse.lookup p.1 = some p.2 := fun p hp => look p (List.mem_cons_of_mem _ hp)
  generalize ((("self" : Str), Value.ref x) :: fs.zip vs).reverse = rb at hns hselfv hfv ⊢
  obtain ⟨mb, hb1, hb2⟩ := M.blt
  have hC₁ := X₁ _ _ hC
  cases hb with
  | @mk p0 p1 p2 p3 p4 p5 msg km rest S hline =>
    show PySem.wpAt (model prog w) (A.deeper (ksEnv qual scope hp.objs.size fI (.ref cda) cc)) (.func _ (ksEnv qual scope hp.objs.size fI (.ref cda) cc)) (execs _ (ksEnv qual scope hp.objs.size fI (.ref cda) cc)) _ _ _
    refine ks_wpAt_execs_cons (ks_wpAt_Expr_any ?_ (by show (scope.kind == .module && _) = false; rw [hkd]; rfl))
    refine ks_wpAt_MethodCall (pl := plO (.Call (.Name "super" p0) [] [] p1) (ksEnv qual scope hp.objs.size fI (.ref cda) cc)) ?_ (he_super hline)
    refine ks_wpAt_super_base (env := ksEnv qual scope hp.objs.size fI (.ref cda) cc) hsup hcls rfl rfl (X₁ _ _ ho) rfl har rfl (X₁ _ _ hcode) rfl hvs hfile T.top ?_
    refine ks_loadName_global hkd hsup (loadGlobal_builtin (env := ksEnv qual scope hp.objs.size fI (.ref cda) cc) (M.glob.keeps k₁) T.noS (hb1.keeps k₁) ((hb2 _ (by decide)).trans boot_super) ⟨rfl, ?_⟩)
    refine wpAny_loadName_free hkd hcls rfl ⟨_, X₁ _ _ hcell, rfl⟩ ?_
    refine wpAny_loadName_local hkd hself hns hselfv ?_
    refine ks_wpAny_isType_cls hC₁ rfl ⟨rfl, ?_⟩
    refine ks_wpAny_call_super hC₁ rfl hx₁ rfl (fun c e => by cases e) (looks_mroIn X₁ T.meC) (fun h₂ e₂ k₂ => ?_)
    have X₂ := X₁.keeps k₂
    have hx₂ := k₂ _ _ hx₁
    have hC₂ := k₂ _ _ hC₁
    have hsp := T.sup
    unfold ks_superIn at hsp
    rw [hcl] at hsp
    have I₂ : InstAt h₂ x (excO C t0) C none := ⟨hx₂, rfl, rfl, trivial⟩
    have hmro : Looks (model prog w) h₂ (mroOf (.ref C)) (.ref C :: bm) := (looks_clsIn X₂ hcl).andThen .now
    refine kxs_getMethod kxs_ValueError e₂ (looks_opaque X₂ T.opq) hmro rfl X₂ hsp (I₂.type.andThen (looks_subIn X₂ T.veC)) hxC rfl ?_
    have X₃ : K.In (h₂.push (kxs_mw "ValueError.__init__" x)) := X₂.keeps fun b o e => Heap.get?_push_of_some _ e
    have k₃ : ∀ b o, hp.get? b = some o → (h₂.push (kxs_mw "ValueError.__init__" x)).get? b = some o := fun b o e => Heap.get?_push_of_some _ (k₂ b o (k₁ b o e))
    have hx₃ := k₃ _ _ hx
    have hC₃ := X₃ _ _ hC
    have hu : (h₂.push (kxs_mw "ValueError.__init__" x)).get? h₂.objs.size = some (kxs_mw "ValueError.__init__" x) := Heap.get?_push_at rfl rfl
    show wpAny (model prog w) _ (callWith p4 (.ref h₂.objs.size) [] (backTo p4 (starEach (.Constant (.str msg) km p3 :: []) (ksEnv qual scope hp.objs.size fI (.ref cda) cc))) []) _ _ _
    refine kxs_callWith (i := "ValueError.__init__") (x := x) rfl ?_
    refine evalArgs_plain ?_
    refine spliced_more (wpAny_Constant_str (spliced_none ⟨hu, ?_⟩))
    refine call_veb hC₃ hx₃ hu (by rw [sizeLine_eq]; exact (by decide : 1 ≤ 16777216)) (fun h₄ t1 k₄ hx₄ => ?_)
    have X₄ : K.In h₄ := kept_but X₃ hnx k₄
    have L₃ : (h₂.push (kxs_mw "ValueError.__init__" x)).Ns hp.objs.size (fun y => List.lookup y rb) := (hns.keeps k₂).keeps fun b o e => Heap.get?_push_of_some _ e
    have L₄ : h₄.Ns hp.objs.size (fun y => List.lookup y rb) := L₃.at fun o e => k₄ _ o hlx e
    cases S with
    | nil => exact absurd rfl hne
    | @cons f fs r q1 q2 q3 q4 S =>
      cases vs with
      | nil => cases hl
      | cons v vs =>
        have few := T.few
        have fld := T.fld
        have noN := T.noN
        refine PySem.wpAt_of_wpAny ?_
        refine wpAny_execs_cons (plainObj_wpAny_Assign_Attribute ?_)
        refine ld_loc (env := ksEnv qual scope hp.objs.size fI (.ref cda) cc) hkd (hfl f List.mem_cons_self) (fld f List.mem_cons_self).1 L₄ (hfv (f, v) (show (f, v) ∈ (f, v) :: fs.zip vs from List.mem_cons_self)) (ld_loc (env := ksEnv qual scope hp.objs.size fI (.ref cda) cc) hkd hself (by decide) L₄ hselfv ?_)
        refine set_plain X₄ (ox := excO C t1) (od := none) ⟨hx₄, rfl, rfl, trivial⟩ T.sa ?_
        refine exc_osa X₄ hx₄ hcl (show refsVE (.ref C :: bm) = true from hbm) rfl (noN f List.mem_cons_self) (fun h₅ tk₅ dx k₅ dn dne hx₅ hn₅ => ?_)
        have z : hp.objs.size < h₁.objs.size := hns.lt
        have z2 : hp.objs.size < h₄.objs.size := L₄.lt
        have hnd : K.lookup dx = none := by
          cases e : K.lookup dx with
          | none => rfl
          | some o => exact absurd (Heap.lt_size (X₄ _ _ e)) (Nat.not_lt.mpr dn)
        have X₅ : K.In h₅ := kept_but X₄ hnx k₅
        refine stores_more (env := ksEnv qual scope hp.objs.size fI (.ref cda) cc) (m := fun y => List.lookup y rb) (x := x) (dx := dx) (t1 := t1) hkd hself hselfv (Nat.ne_of_lt (Nat.lt_of_lt_of_le z2 dn)) (Ne.symm dne) hnd T.sa hcl (show refsVE (.ref C :: bm) = true from hbm) rfl S vs h₅ tk₅ _ [f] (by simpa using hl) (L₄.at fun o e => k₅ _ o hlx e) (fun p hp => hfv p (show p ∈ (f, v) :: fs.zip vs from List.mem_cons_of_mem _ hp)) (fun f' hf' => ⟨hfl f' (List.mem_cons_of_mem _ hf'), (fld f' (List.mem_cons_of_mem _ hf')).1, noN f' (List.mem_cons_of_mem _ hf')⟩) X₅ hx₅ hn₅ ?_ (by simp only [List.length_cons, List.length_nil] at few ⊢; omega) ?_
        · intro y e
          by_cases hy : y = f
          · simp [hy]
          · exact absurd (if_neg hy) e
        · intro h₆ tk₆ k₆ hn₆
          refine hq h₆ tk₆ t1 dx (fun b o hb e => ?_) (Nat.le_of_lt (Nat.lt_of_lt_of_le z2 dn)) dne (k₆ _ _ (Ne.symm dne) hx₅) hn₆
          have e4 := k₅ b o hb (k₄ b o hb (k₃ b o e))
          have : b ≠ dx := fun q => by
            have := Heap.lt_size (k₄ b o hb (k₃ b o e))
            rw [q] at this
            exact absurd this (Nat.not_lt.mpr dn)
          exact k₆ b o this e4
end
end CH
end
section
namespace CH
open PySem PySem.W PySem.Calls PyProof.Rows PySem.HandSPX
/-- a made exception -/
structure ExMade (h h' : Heap) (e C d : Addr) (l : List (Str × Value)) : Prop where
  keep : ∀ b o, h.get? b = some o → h'.get? b = some o
  new : h.objs.size ≤ e
  obj : ∃ t1, h'.get? e = some (excD C t1 d)
  dbig : h.objs.size ≤ d
  dne : d ≠ e
  ns : h'.Ns1 d (stF (fun _ => none) l)
section
variable {prog : Program} {w : World} {A : Around} {R : Result → Shared → Prop} {s : Shared} {K : Frag} {mg : Str → Option Value} {C fI : Addr} {fs : List Str}
theorem ex_made (T : ExTxt prog K mg C fI fs) (hne : fs ≠ []) {vs : List Value} (hl : vs.length = fs.length) (M : L2.Mod K mg s.heap) (hroom : A.depth + 1 < recursionLimit)
    (hq : ∀ h' tk e d, ExMade s.heap h' e C d (fs.zip vs) → R (.ok (.ret (.ref e))) { s with heap := h', toks := tk }) :
    codeAny (model prog w) A (.call (.ref C) ⟨vs, []⟩) R s := by
  obtain ⟨nm, q, N, bs, bm, sn, sub, ab, col, dd, k0, k1, k2, k3, k5, hC, hbm⟩ := T.cls
  obtain ⟨hp, g, dr, tk, os⟩ := s
  have k : ∀ b o, hp.get? b = some o → ((hp.push (kdv_tup vs)).push (excO C hp.objs.size)).get? b = some o := fun b o e => Heap.get?_push_of_some _ (Heap.get?_push_of_some _ e)
  have hget : ((hp.push (kdv_tup vs)).push (excO C hp.objs.size)).get? (hp.objs.size + 1) = some (excO C hp.objs.size) := by heap_get
  have hnx : K.lookup (hp.objs.size + 1) = none := by
    cases e : K.lookup (hp.objs.size + 1) with
    | none => rfl
    | some o =>
      have z : hp.get? (hp.objs.size + 1) = some o := M.kin _ _ e
      exact absurd (Nat.lt_of_succ_lt (Heap.lt_size z)) (Nat.lt_irrefl _)
  have few := T.few
  refine call_own F.excBase_ValueError (fun X => refsVE_contains X bm hbm) (M.kin _ _ hC) (looks_findIn M.kin T.iC) (fun self => bind_fn M.kin self T.tC) (by rw [sizeLine_eq, hl]; exact Nat.le_trans few (by decide)) ?_
  have M' : L2.Mod K mg ((hp.push (kdv_tup vs)).push (excO C hp.objs.size)) := by
    obtain ⟨mb, b1, b2⟩ := M.blt
    exact ⟨M.kin.keeps k, M.glob.keeps k, ⟨mb, b1.keeps k, b2⟩, M.nolimit.keeps k⟩
  refine ex_init (s := ⟨(hp.push (kdv_tup vs)).push (excO C hp.objs.size), g, dr, tk, os⟩) T hne hl M' hget hnx ?_ fun h' tk' t1 dx k' dn dne hx hns => ?_
  · show A.depth + 1 < recursionLimit
    exact hroom
  · have old : ∀ b o, hp.get? b = some o → h'.get? b = some o := fun b o e => k' b o (Nat.ne_of_lt (Nat.lt_succ_of_lt (Heap.lt_size e))) (k b o e)
    have z : hp.objs.size + 1 + 1 ≤ dx := by
      first
        | (simpa only [Heap.size_push] using dn)
        | exact dn
        | (have q := dn; rw [Heap.size_push, Heap.size_push] at q; exact q)
    exact ⟨rfl, hq h' tk' (hp.objs.size + 1) dx ⟨old, Nat.le_succ _, ⟨t1, hx⟩, Nat.le_trans (Nat.le_trans (Nat.le_succ _) (Nat.le_succ _)) z, dne, hns⟩⟩
end
open L2
section
variable {X : L2.Cx} {C fI : Addr} {fs : List Str}
/-- the fields, as the layer tells them -/
theorem relO_st : ∀ {fs : List Str} {vs : List V} {us : List Value} {m0 : Str → Option Value} {l0 : List (Str × V)}, fs.Nodup → vs.length = fs.length → Vals vs us → (∀ f, RelO (l0.lookup f) (m0 f)) → (∀ f ∈ fs, l0.lookup f = none) →
    ∀ f, RelO ((l0 ++ fs.zip vs).lookup f) (stF m0 (fs.zip us) f)
  | [], vs, us, m0, l0, _, hl, r, h0, _, f => by simpa [stF] using h0 f
  | g :: fs, v :: vs, u :: us, m0, l0, nd, hl, r, h0, hno, f => by
    rw [List.nodup_cons] at nd
    cases r with
    | cons rv r =>
      have e : l0 ++ (g :: fs).zip (v :: vs) = (l0 ++ [(g, v)]) ++ fs.zip vs := by simp
      rw [e]
      refine relO_st (m0 := fun y => if y = g then some u else m0 y) nd.2 (by simpa using hl) r ?_ ?_ f
      · intro f
        rw [List.lookup_append]
        by_cases hf : f = g
        · subst hf
          rw [hno f (by simp), if_pos rfl]
          have : List.lookup f [(f, v)] = some v := by simp [List.lookup]
          rw [this]
          exact rv
        · rw [if_neg hf]
          have : List.lookup f [(g, v)] = none := by
            have : (f == g) = false := by simpa using hf
            simp [List.lookup, this]
          rw [this, Option.or_none]
          exact h0 f
      · intro f hf
        rw [List.lookup_append, hno f (by simp [hf])]
        have : f ≠ g := fun e => nd.1 (e ▸ hf)
        have : (f == g) = false := by simpa using this
        simp [List.lookup, this]
  | g :: fs, v :: vs, [], m0, l0, nd, hl, r, h0, hno, f => by cases r
  | g :: fs, [], us, m0, l0, nd, hl, r, h0, hno, f => by cases hl
end
end CH
end
section
namespace CH
open PySem L2 Evl PyProof.Rows
/-- a clause: its class, the slot of its name, its suite's reading -/
structure Cls where
  c : Value
  i : Option Nat
  ts : Addr → Value → Option Addr → TS
/-- the ends of a suite whose name is in a slot -/
def endsOf (D : Ends) : Option Nat → Ends
  | none => D
  | some i => { nx := fun σ H => D.nx (σ.set i none) H, rt := D.rt, bk := fun σ H => D.bk (σ.set i none) H, ct := fun σ H => D.ct (σ.set i none) H }
def stOf (σ : L2.St) (a : Addr) : Option Nat → L2.St
  | none => σ
  | some i => σ.set i (some (.ref a))
def wMix (K : PySem.W.Frag) (Wout : WX) (D : Ends) : List Cls → WX
  | [] => Wout
  | k :: r => fun cls d σ H => ∃ b, PySem.W.exmOne K cls k.c = some b ∧ (b = true → ∀ a, H a = none → k.ts a cls d (endsOf D k.i) (stOf σ a k.i) H) ∧ (b = false → wMix K Wout D r cls d σ H)
/-- the name a clause gives -/
def NmOk (X : Cx) : Option Str → Option Nat → Prop
  | none, none => True
  | some n, some i => X.N[i]? = some n ∧ X.env.kindOf n = some .local
  | _, _ => False
inductive MixOk (X : Cx) : List ExceptHandler → List Cls → Prop
  | nil : MixOk X [] []
  | cons {x : Str} {k : Cls} {n : Option Str} {b₀ : Stmt} {su : List Stmt} {np p' : Pos} {hds : List ExceptHandler} {l : List Cls} (hc : Names X x k.c) (hn : NmOk X n k.i)
      (hsu : ∀ (a : Addr) (oe : Obj) (cls : Value) (d : Option Addr) (pn : List (Addr × Obj)), Zc cls d oe → (∃ vs, oe.data = .fields vs) → PSs (X.suite a ((a, oe) :: pn)) (b₀ :: su) (k.ts a cls d)) (r : MixOk X hds l) :
      MixOk X (.ExceptHandler (some (.Name x np)) n (b₀ :: su) p' :: hds) (k :: l)
section
variable {X : Cx} {body : List Stmt} {h₀ : ExceptHandler} {hds : List ExceptHandler} {l : List Cls} {pos : Pos} {tb : WX → TS} {Wout : WX}
theorem ps_mix (hs : X.stack = X.env :: X.outer) (hf : X.env.frame = some X.env.locals) (hN : X.N.Nodup) (tk : Takes X Wout)
    (hb : ∀ (W : WX) (pn : List (Addr × Obj)) (xe : Value → Shared → Prop), Takes (X.tr pn xe) W → PassesOwn (model X.prog X.w) X.A X.env xe → PSs (X.tr pn xe) body (tb W))
    (hh : MixOk X (h₀ :: hds) l) : PS X (.Try body (h₀ :: hds) [] [] pos) (fun D σ H => tb (wMix X.K Wout D l) D σ H) := by
  constructor
  intro pins s σ H D I red
  have okX := I.ok
  have frames : X.A.frames = some (X.env :: X.outer) := hs ▸ okX.frames
  refine wpAny_Try_except (wpAny_mono ((hb _ (X.pn ++ pins) (fun e s₁ => wpAny (model X.prog X.w) X.A (noteFrame e X.env) (fun _ s₂ => wpAny (model X.prog X.w) X.A (setFlight e none) (fun _ s₃ => wpAny (model X.prog X.w) X.A (handleBy e X.env (h₀ :: hds)) (SP X pins D) X.xe s₃) X.xe s₂) X.xe s₁)
    ?caught PassesOwn.looking).run [] s σ H D (I.toTry _) red) ?through fun _ _ z => z)
  case through =>
    intro f s1 q
    cases f with
    | next =>
      obtain ⟨_, _, J, z⟩ := q
      exact wpAny_execs_nil ⟨_, _, J.ofTry okX, z⟩
    | brk => obtain ⟨_, _, J, z⟩ := q; exact ⟨_, _, J.ofTry okX, z⟩
    | cont => obtain ⟨_, _, J, z⟩ := q; exact ⟨_, _, J.ofTry okX, z⟩
    | ret u => obtain ⟨_, _, _, J, r, z⟩ := q; exact ⟨_, _, _, J.ofTry okX, r, z⟩
  case caught =>
    rintro u s' ⟨a, B, sI, pins', σ1, H1, cls, d, rfl, Jt, nb, up, sky, na, os, ag, wish⟩
    have J := Jt.ofTry okX
    show wpAny (model X.prog X.w) X.A (noteFrame (.ref a) X.env) _ _ _
    refine Sky.land Zc.steady frames hf (hs ▸ sky) fun g fl upg => ?_
    have Jg : Inv X pins σ1 H1 { s' with heap := g } := J.landed nb fl.1 (up.trans upg) os ag
    obtain ⟨o1, v1, at1, zc1, dt1⟩ := fl.there
    have nofr : a ∉ frs (X.env :: X.outer) := fun hm => by
      obtain ⟨_, o2, at2, nf2⟩ := (fl.2.2.1).mem hm
      rw [at1] at at2
      cases at2
      exact nf2 _ dt1
    have nl : a ≠ X.env.locals := fun z => nofr (List.mem_filterMap.mpr ⟨X.env, by simp, by rw [hf, z]⟩)
    have nfs : a ∉ X.fs := fun hm => by
      obtain ⟨e, he, q⟩ := List.mem_filterMap.mp hm
      exact nofr (List.mem_filterMap.mpr ⟨e, by simp [he], q⟩)
    have suiteI := Jg.suite at1 dt1 na nl nfs
    have tyA : PySem.W.Looks (model X.prog X.w) g (typeOf (.ref a)) cls := fun A Q E t k q => wpAny_typeOf_ref (k _ _ at1) (zc1.1.symm ▸ q)
    have run : ∀ {hl : List ExceptHandler} {cl : List Cls}, MixOk X hl cl → wMix X.K Wout D cl cls d σ1 H1 → wpAny (model X.prog X.w) X.A (handleBy (.ref a) X.env hl) (SP X pins D) X.xe { s' with heap := g } := by
      intro hl cl hm
      induction hm with
      | nil =>
        intro out
        refine wpAny_handleBy_nil ?_
        obtain ⟨_, _, _, o3, v3, T3, oT3, ts3, at3, z3, dt3, i3, hr3⟩ := id fl
        unfold PySem.passOn
        refine wpAny_bind (wpAny_field at3 dt3 i3 ?_)
        rw [if_neg (by simp : ¬ ((Value.ref T3 == Value.none) = true))]
        have leave : wpAny (model X.prog X.w) X.A (setFlight (.ref a) X.env.frame) (fun _ s4 => wpAny (model X.prog X.w) X.A (throw (.ref a) : Sem Flow) (SP X pins D) X.xe s4) X.xe { s' with heap := g } := by
          rw [hf]
          refine HandSPX.setFlight_upZ fl fun g2 hg2 up2 => wpAny_throw (tk _ _ ⟨a, B, sI, pins, σ1, H1, cls, d, rfl, J, nb, (up.trans upg).trans up2, ?_, na, os, ag, out⟩)
          exact .inr (.inr (by rw [hs]; exact hg2))
        first
          | exact wpAny_bind (wpAny_pure (wpAny_bind leave))
          | exact wpAny_bind leave
      | @cons x k n b₀ su np p' hl2 cl2 hc hn hsu r ih =>
        rintro ⟨b, exm, yes, no⟩
        refine wpAny_handleBy_cons (codeAny_handlers_test ?_) (by intro q; cases q)
        have matches_ := PySem.W.exm_one (M := model X.prog X.w) Jg.kIn tyA exm
        have nameOf : ∀ {Q : Value → Shared → Prop} {E : Value → Shared → Prop}, Q k.c { s' with heap := g } → wpAny (model X.prog X.w) (X.A.mark (some (.ref a))) (eval (.Name x np) X.env) Q E { s' with heap := g } := fun {Q E} q => by
          obtain ⟨hg, hdbg, hm | ⟨hm, hv, hnn⟩⟩ := hc
          · exact ld_glob (X := X.suite a ((a, o1) :: (X.pn ++ pins))) suiteI hg hm q hdbg
          · exact ld_blt (X := X.suite a ((a, o1) :: (X.pn ++ pins))) suiteI hg hm hv q hnn hdbg
        refine nameOf (matches_.here ?_)
        cases b with
        | false =>
          show wpAny _ X.A (handleBy (.ref a) X.env hl2) _ _ _
          exact ih (no rfl)
        | true =>
          match n, k, hn, hsu, yes with
          | none, ⟨c, none, ts⟩, _, hsu, yes =>
            refine codeAny_handlers_suite (HandSPX.lands_againZ fl fun g2 fl2 up2 => ?_)
            have J2 : Inv X pins σ1 H1 { s' with heap := g2 } := J.landed nb fl2.1 ((up.trans upg).trans up2) os ag
            obtain ⟨o2, v2, at2, zc2, dt2⟩ := fl2.there
            refine wpAny_mono ((hsu a o2 cls d (X.pn ++ pins) zc2 ⟨_, dt2⟩).run [] _ _ H1 _ (J2.suite at2 dt2 na nl nfs) (yes rfl a na)) (fun f s6 q => ?_) fun _ _ z => z.elim
            cases f with
            | next => obtain ⟨_, _, S, z⟩ := q; exact ⟨_, _, S.unsuite okX, z⟩
            | brk => obtain ⟨_, _, S, z⟩ := q; exact ⟨_, _, S.unsuite okX, z⟩
            | cont => obtain ⟨_, _, S, z⟩ := q; exact ⟨_, _, S.unsuite okX, z⟩
            | ret u => obtain ⟨_, _, _, S, r6, z⟩ := q; exact ⟨_, _, _, S.unsuite okX, r6, z⟩
          | some n, ⟨c, some i, ts⟩, hn, hsu, yes =>
            obtain ⟨hi, hln⟩ := hn
            refine codeAny_handlers_suite_as (HandSPX.lands_againZ fl fun g2 fl2 up2 => ?_)
            have J2 : Inv X pins σ1 H1 { s' with heap := g2 } := J.landed nb fl2.1 ((up.trans upg).trans up2) os ag
            obtain ⟨o2, v2, at2, zc2, dt2⟩ := fl2.there
            refine store_ok (X := X.suite a ((a, o2) :: (X.pn ++ pins))) (v := .ref a) (J2.suite at2 dt2 na nl nfs) hN hi (.inl hln) rfl (fun s5 S5 => ?_) (.inr hln)
            refine wpAny_mono ((hsu a o2 cls d (X.pn ++ pins) zc2 ⟨_, dt2⟩).run [] s5 _ H1 _ S5 (yes rfl a na)) (fun f s6 q => ?_) fun _ _ z => z.elim
            have gone : ∀ {σ6 : L2.St} {H6 : Hp} {Q : Shared → Prop}, Inv (X.suite a ((a, o2) :: (X.pn ++ pins))) [] σ6 H6 s6 → (∀ s7, Inv X pins (σ6.set i none) H6 s7 → Q s7) →
                wpAny (model X.prog X.w) X.A (do bindName X.env n .none; unbindBehindTheSuite X.env n p') (fun _ s7 => Q s7) X.xe s6 := fun {σ6 H6 Q} S6 hq => gone_ok (S6.unsuite okX) hN hi hln hq
            cases f with
            | next => obtain ⟨_, _, S, z⟩ := q; exact gone S fun s7 J7 => ⟨_, _, J7, z⟩
            | brk => obtain ⟨_, _, S, z⟩ := q; exact gone S fun s7 J7 => ⟨_, _, J7, z⟩
            | cont => obtain ⟨_, _, S, z⟩ := q; exact gone S fun s7 J7 => ⟨_, _, J7, z⟩
            | ret u => obtain ⟨_, _, _, S, r6, z⟩ := q; exact gone S fun s7 J7 => ⟨_, _, _, J7, r6, z⟩
    exact run hh wish
end
end CH
end
section
namespace CH
open PySem PySem.Spec PyProof.Rows L2
section
variable {X : L2.Cx} {C fI : Addr} {fs : List Str}
/-- C(e, ..) -/
def tMkEx (C : Addr) (fs : List Str) (ta : TA) : L2.St → Hp → XK → Prop := fun σ H Q => ta σ H fun vs H1 => vs.length = fs.length ∧ ∀ d, H1 d = none → Q (.ref C) (some d) (upd H1 d (.xd (fs.zip vs)))
theorem pmk_ex {x : Str} {a : Expr} {es : List Expr} {ta : TA} {p pos : Pos} {k : Nat} (T : ExTxt X.prog X.K X.mg C fI fs) (hne : fs ≠ []) (hr : Room k X.A) (ha : PA X (a :: es) ta) (hg : Gl X x) (hm : X.mg x = some (.ref C)) (hdb : (x == ("__debug__" : Str)) = false)
    (he : starEach (a :: es) X.env = (false, eval a X.env) :: starEach es X.env) (hpl : (backTo pos (starEach es X.env)).any (·.1) = false) :
    PMk X (.Call (.Name x p) (a :: es) [] pos) (tMkEx C fs ta) := by
  intro pins s σ H Q I h
  refine wpAny_Call_Name_kw (ld_glob I hg hm (hd := hdb) ?_)
  refine PySem.W.callWith_K (h₀ := X.base) I.ok.mod.kin T.kC (thn (ha.run pos pins s σ H _ I h) fun us s1 hh => ?_) he hpl
  obtain ⟨vs, H1, I1, r1, hl, q1⟩ := hh
  refine ⟨I1.kIn, ?_⟩
  show wpAny _ _ (call (.ref C) us) _ _ _
  have hlim := I1.nolimit
  have lus : us.length = fs.length := r1.length.symm.trans hl
  have M : L2.Mod X.K X.mg s1.heap := by
    obtain ⟨mb, b1, b2⟩ := I1.mod.blt
    exact ⟨I1.kIn, I1.mod.glob.keeps I1.bk, ⟨mb, b1.keeps I1.bk, b2⟩, hlim⟩
  obtain ⟨hp, g, dr, tk, os⟩ := s1
  refine wpAny_call (ex_made T hne lus M (by have := hr.dp; omega) fun h' tk' e d Mk => ?_)
  show MkP X pins σ Q (.ref e) ⟨h', g, dr, tk', os⟩
  obtain ⟨t1, hoe⟩ := Mk.obj
  have hns := Mk.ns
  obtain ⟨G', g1, g2⟩ := restrict h' fun b => decide (b ≠ e)
  have gk : ∀ b, b ≠ e → G'.get? b = h'.get? b := fun b hb => g1 b (decide_eq_true hb)
  have ge : G'.get? e = none := g2 e (by simp)
  have old : ∀ b o, hp.get? b = some o → G'.get? b = some o := fun b o q => (gk b (Nat.ne_of_lt (Nat.lt_of_lt_of_le (Heap.lt_size q) Mk.new))).trans (Mk.keep b o q)
  have rel : ∀ f, RelO ((fs.zip vs).lookup f) (stF (fun _ => none) (fs.zip us) f) := by
    have := relO_st (l0 := []) (m0 := fun _ => none) T.nd hl r1 (fun _ => trivial) (fun _ _ => rfl)
    simpa using this
  have ob : ObjOk X.prog X.w (upd H1 d (.xd (fs.zip vs))) G' d (.xd (fs.zip vs)) := ⟨_, hns.at (fun o q => (gk d Mk.dne).trans q), rel⟩
  have J : Inv X pins σ (upd H1 d (.xd (fs.zip vs))) ⟨G', g, dr, tk', os⟩ := I1.laid (t' := tk') old Mk.dbig ob
  refine ⟨e, _, _, ⟨G', g, dr, tk', os⟩, _, .ref C, some d, rfl, J, fun b o q => ?_, ge, hoe, ⟨rfl, rfl⟩, rfl, rfl, ?_, rfl, I1.bare, raises_own T.exC T.tyC, q1 d (I1.hok.fresh Mk.dbig)⟩
  · by_cases hb : b = e
    · have q' : G'.get? b = some o := q
      rw [hb, ge] at q'; cases q'
    · exact (gk b hb).symm.trans q
  · rw [upd_ne (Ne.symm Mk.dne)]
    exact I1.hok.fresh Mk.new
/-- e.f, e the exception that the suite holds (at a; its class cls, its dict d) -/
def tByEx (C : Addr) (f : Str) (a : Addr) (cls : Value) (d : Option Addr) (te : TE) : TE := fun σ H Q => te σ H fun x H1 => x = .ref a ∧ cls = .ref C ∧ ∃ (dd : Addr) (fl : List (Str × V)) (v : V), d = some dd ∧ H1 dd = some (.xd fl) ∧ fl.lookup f = some v ∧ Q v H1
theorem pe_byEx {a : Addr} {oe : Obj} {cls : Value} {d : Option Addr} {pn : List (Addr × Obj)} {e : Expr} {te : TE} {pos : Pos} {f : Str} (T : ExTxt X.prog X.K X.mg C fI fs) (hf : f ∈ fs) (hz : Zc cls d oe) (hfd : ∃ vs, oe.data = .fields vs) (he : PE (X.suite a ((a, oe) :: pn)) e te)
    (hb : attributeBase e f X.env (eval e X.env) = eval e X.env) :
    PE (X.suite a ((a, oe) :: pn)) (.Attribute e f pos) (tByEx C f a cls d te) := by
  refine ⟨fun pins s σ H Q I h => ?_⟩
  refine attr_of hb (thn (he.run pins s σ H _ I h) fun u s1 hh => ?_)
  obtain ⟨x, H1, I1, rx, ex, ec, dd, fl, v, ed, ea, el, q⟩ := hh
  subst ex
  obtain rfl : u = Value.ref a := rx
  subst ec
  subst ed
  obtain ⟨ha, _⟩ := I1.pin (a, oe) (List.mem_append_left _ List.mem_cons_self)
  obtain ⟨vs, hd⟩ := hfd
  have hx : ObjOk X.prog X.w H1 s1.heap dd (.xd fl) := I1.hok dd _ ea
  obtain ⟨mA, hns, hr⟩ := hx
  obtain ⟨od, ho, hl⟩ := lookIn_ns hns
  obtain ⟨u, hu, ru⟩ := RelO.some_of (v := v) (o := mA f) (by rw [← el]; exact hr f)
  have J : PySem.W.InstAt s1.heap a oe C (some od) := ⟨ha, hz.1, by unfold PySem.W.notCls; rw [hd] <;> rfl, by rw [hz.2]; exact ho⟩
  exact HandSPX.exc_get I1.kIn J T.ga T.gg T.exC (PySem.W.findObj_own T.hdC (T.noN f hf) rfl (by rw [hl, hu])) (handed_of ru) ⟨v, H1, I1.tok _, ru, q⟩
end
end CH
end
section
namespace CH
open PySem L2 Evl PyProof.Rows

/-- what the checker knows of a place in the text -/
structure Sg where
  N : List Str
  sc : Scope
  fn : Str → Bool
  bn : List Str
  name : Nat → Str
  ar : Nat → Option Nat
  dcs : List (Str × List (Str × Int))
  exs : List (Str × List Str × List Nat)
  cls : List (Str × List Str)
  /-- a def's parameters' names; which names are defs that rank literals -/
  kw : Nat → Option (List Str)
  rk : Str → Bool
def Sg.blk (g : Sg) (scope : Scope) : Sg := { g with sc := relS scope g.sc, fn := fun x => scope.names.lookup x == some .cell }
def constB : D → Expr → Bool
  | .int i, .Constant (.int j) _ _ => decide (i = j)
  | .bl i, .Constant (.bool j) _ _ => i == j
  | .str i, .Constant (.str j) _ _ => decide (i = j)
  | .non, .Constant .none _ _ => true
  | _, _ => false
def ownOf (N : List Str) (vs : List Nat) : List (Str × Nat) := vs.map fun i => (N.getD i "", i)
def blkB (N : List Str) (sc scope : Scope) (own : List (Str × Nat)) : Bool :=
  decide (scope.kind = .function) && (scope.names.all fun y => decide (scope.names.lookup y.1 = some y.2)) && (own.all fun p => decide (N[p.2]? = some p.1)) &&
  (scope.names.all fun y => !decide (y.2 = .free) || (decide (sc.names.lookup y.1 = some .cell) || decide (sc.names.lookup y.1 = some .free))) &&
  (scope.names.all fun y => !(decide (y.2 = .local) || decide (y.2 = .cell)) || ((own.map (·.1)).contains y.1 || !N.contains y.1))
theorem blk_ok {N : List Str} {sc scope : Scope} {own : List (Str × Nat)} (h : blkB N sc scope own = true) : BlkOk N sc scope own := by
  unfold blkB at h
  simp only [Bool.and_eq_true, List.all_eq_true] at h
  obtain ⟨⟨⟨⟨h1, h2⟩, h3⟩, h4⟩, h5⟩ := h
  refine ⟨of_decide_eq_true h1, fun y hy => of_decide_eq_true (h2 y hy), fun p hp => of_decide_eq_true (h3 p hp), fun y hy e => ?_, fun y hy e => ?_⟩
  · have := h4 y hy
    simpa [e] using this
  · have := h5 y hy
    simp only [Bool.or_eq_true, Bool.not_eq_true', Bool.or_eq_false_iff, decide_eq_false_iff_not, List.contains_iff_mem] at this
    rcases this with ⟨z1, z2⟩ | z | z
    · rcases e with e | e
      · exact absurd e z1
      · exact absurd e z2
    · exact .inl z
    · exact .inr (by simpa using z)
def notBlkB : Expr → Bool
  | .Starred .. => false
  | _ => true
def kSlc (f : Expr → Bool) (p q : Option Expr → Bool) : Expr → Bool
  | .Subscript x (.Slice l u none _) _ => f x && p l && q u
  | _ => false
def kTup (f : List Expr → Bool) : Expr → Bool
  | .Tuple es _ _ => nostar es && f es
  | _ => false
def kLst (f : List Expr → Bool) : Expr → Bool
  | .List es _ => nostar es && f es
  | _ => false
def kAnd (f : List Expr → Bool) : Expr → Bool
  | .BoolOp .And es _ => f es
  | _ => false
def kOr (f : List Expr → Bool) : Expr → Bool
  | .BoolOp .Or es _ => f es
  | _ => false
def kNot (f : Expr → Bool) : Expr → Bool
  | .UnaryOp .Not x _ => f x
  | _ => false
def kIte (t a b : Expr → Bool) : Expr → Bool
  | .IfExp c x y _ => t c && a x && b y
  | _ => false
def kChain (o1 o2 : Cm) (a b c : Expr → Bool) : Expr → Bool
  | .Compare x [p, q] [y, z] _ => decide (p = o1.ast) && decide (q = o2.ast) && !lastMarks [p, q] [y, z] && a x && b y && c z
  | _ => false
def argsOf : List Keyword → List (Option Str) := fun kws => kws.map (·.arg)
def kCall (g : Sg) (f : Nat) (as : List Expr → Bool) : Expr → Bool
  | .Call (.Name x _) [] kws _ => decide (x = g.name f) && glB g.sc x && !(x == ("__debug__" : Str)) && decide ((g.kw f).map (·.map some) = some (kws.map (·.arg))) && as (kws.map (·.value))
  | .Call (.Name x _) es [] _ => decide (x = g.name f) && glB g.sc x && !(x == ("__debug__" : Str)) && !es.isEmpty && nostar es && decide (g.ar f = some es.length) && as es
  | _ => false
def kRank (g : Sg) (x : Str) (f : Expr → Bool) : Expr → Bool
  | .Call (.Name s _) [y] [⟨some kn, .Name z _, _⟩] _ => decide (s = ("sorted" : Str)) && glB g.sc s && g.bn.contains s && !isStar y && decide (kn = ("key" : Str)) && decide (z = x) && glB g.sc x && !(x == ("__debug__" : Str)) && g.rk x && f y
  | _ => false
def kDc (g : Sg) (tg : Tg) (it : Expr → Expr → Bool) (cs : Scope → List Expr → Bool) (ek ev : Scope → Expr → Bool) : Expr → Bool
  | .DictComp kx vx [⟨tgE, iter, ifs, 0⟩] scope _ => notSetB iter && blkB g.N g.sc scope (ownOf g.N tg.slots) && tgB g.N (relS scope g.sc) (fun x => scope.names.lookup x == some .cell) tg tgE && oneTest ifs && it tgE iter && cs scope ifs && ek scope kx && ev scope vx
  | _ => false
def kMu (g : Sg) (m : Mu) (i : Nat) (p : List Str) (as : List Expr → Bool) (e : Expr) : Bool := match p, muShape m e with
  | [], some (o, es) => slotB g.N g.sc i o && as es
  | _, _ => false
def kLc (g : Sg) (tg : Tg) (it : Expr → Expr → Bool) (cs : Scope → List Expr → Bool) (el : Scope → Expr → Bool) : Expr → Bool
  | .ListComp x [⟨tgE, iter, ifs, 0⟩] scope _ => notSetB iter && blkB g.N g.sc scope (ownOf g.N tg.slots) && tgB g.N (relS scope g.sc) (fun x => scope.names.lookup x == some .cell) tg tgE && oneTest ifs && it tgE iter && cs scope ifs && el scope x
  | _ => false
def kLc2 (g : Sg) (tg tg1 : Tg) (it : Expr → Expr → Bool) (cs : Scope → List Expr → Bool) (it1 : Scope → Expr → Expr → Bool) (cs1 : Scope → List Expr → Bool) (el : Scope → Expr → Bool) : Expr → Bool
  | .ListComp x [⟨tgE, iter, ifs, 0⟩, ⟨tgE1, iter1, ifs1, 0⟩] scope _ => notSetB iter && notSetB iter1 && blkB g.N g.sc scope (ownOf g.N (tg.slots ++ tg1.slots)) && tgB g.N (relS scope g.sc) (fun x => scope.names.lookup x == some .cell) tg tgE && tgB g.N (relS scope g.sc) (fun x => scope.names.lookup x == some .cell) tg1 tgE1 && oneTest ifs && oneTest ifs1 && it tgE iter && cs scope ifs && it1 scope tgE1 iter1 && cs1 scope ifs1 && el scope x
  | _ => false
def kRng1 (g : Sg) (a : Expr → Bool) : Expr → Bool
  | .Call (.Name x _) [y] [] _ => decide (x = ("range" : Str)) && glB g.sc x && g.bn.contains x && !isStar y && a y
  | _ => false
def kRng2 (g : Sg) (a b : Expr → Bool) : Expr → Bool
  | .Call (.Name x _) [y, z] [] _ => decide (x = ("range" : Str)) && glB g.sc x && g.bn.contains x && !isStar y && !isStar z && a y && b z
  | _ => false
def kZip (g : Sg) (a b : Expr → Bool) : Expr → Bool
  | .Call (.Name x _) [y, z] [] _ => decide (x = ("zip" : Str)) && glB g.sc x && g.bn.contains x && !isStar y && !isStar z && a y && b z
  | _ => false
def kEnm (g : Sg) (a : Expr → Bool) : Expr → Bool
  | .Call (.Name x _) [y] [] _ => decide (x = ("enumerate" : Str)) && glB g.sc x && g.bn.contains x && !isStar y && a y
  | _ => false
def opKB (dcs : List (Str × List (Str × Int))) : Op → Bool
  | .kin x _ kvs => decide (dcs.lookup x = some kvs)
  | .kget x kvs => decide (dcs.lookup x = some kvs)
  | _ => true
def kOp (g : Sg) (o : Op) (f : List Expr → Bool) (e : Expr) : Bool := match opShape g.bn g.sc o e with
  | some es => opKB g.dcs o && f es
  | none => false
def kApX (g : Sg) (i : Nat) (a b : Expr → Bool) (e : Expr) : Bool := match muShape .append e with
  | some (.Subscript x ix _, [e1]) => slotB g.N g.sc i x && plainIxB ix && a ix && b e1
  | _ => false
def isCmp : CE → Bool
  | .op (.cmp _) _ => true
  | .op (.kin ..) _ => true
  | .chain .. => true
  | _ => false
mutual
def chkE (g : Sg) : CE → Expr → Bool
  | .c d, e => constB d e
  | .v i, e => slotB g.N g.sc i e
  | .mv i, e => slotB g.N g.sc i e
  | .take i, e => slotB g.N g.sc i e
  | .op o as, e => kOp g o (fun es => chkOs g as es) e
  | .slc o lo hi, e => kSlc (fun x => chkO g o x) (fun l => chkB g lo l) (fun u => chkB g hi u) e
  | .tup cs, e => kTup (fun es => chkEs g cs es) e
  | .lst cs, e => kLst (fun es => chkEs g cs es) e
  | .and cs, e => kAnd (fun es => chkEs g cs es) e
  | .or cs, e => kOr (fun es => chkEs g cs es) e
  | .not c, e => kNot (fun x => chkE g c x) e
  | .ite t a b, e => kIte (fun x => chkT g t x) (fun x => chkE g a x) (fun x => chkE g b x) e
  | .chain o1 o2 a b c, e => kChain o1 o2 (fun x => chkE g a x) (fun x => chkE g b x) (fun x => chkE g c x) e
  | .call f as, e => kCall g f (fun es => chkAs g as es) e
  | .mu m i p as, e => kMu g m i p (fun es => chkEs g as es) e
  | .fz c, e => chkE g c e
  | .apX i ix a, e => kApX g i (fun x => chkE g ix x) (fun x => chkE g a x) e
  | .rank x c, e => kRank g x (fun y => chkE g c y) e
  | .dc ek ev tg it cs, e => kDc g tg (fun t x => tgFits it t && chkI g it x) (fun sc es => chkTs (g.blk sc) cs es) (fun sc x => chkE (g.blk sc) ek x) (fun sc x => chkE (g.blk sc) ev x) e
  | .lc elt tg it cs, e => kLc g tg (fun t x => tgFits it t && chkI g it x) (fun sc es => chkTs (g.blk sc) cs es) (fun sc x => chkE (g.blk sc) elt x) e
  | .lc2 elt tg it cs tg1 it1 cs1, e => kLc2 g tg tg1 (fun t x => tgFits it t && chkI g it x) (fun sc es => chkTs (g.blk sc) cs es) (fun sc t x => tgFits it1 t && chkI (g.blk sc) it1 x) (fun sc es => chkTs (g.blk sc) cs1 es) (fun sc x => chkE (g.blk sc) elt x) e
def chkEs (g : Sg) : CEs → List Expr → Bool
  | .nil, [] => true
  | .cons c r, e :: es => chkE g c e && chkEs g r es
  | _, _ => false
def chkO (g : Sg) : CO → Expr → Bool
  | .e c, e => chkE g c e
  | .bor i p, e => pathB g.N g.sc i p e
def chkOs (g : Sg) : COs → List Expr → Bool
  | .nil, [] => true
  | .cons c r, e :: es => chkO g c e && chkOs g r es
  | _, _ => false
def chkB (g : Sg) : CB → Option Expr → Bool
  | .no, none => true
  | .at c, some e => chkE g c e
  | _, _ => false
def chkAs (g : Sg) : CAs → List Expr → Bool
  | .nil, [] => true
  | .val c r, e :: es => chkE g c e && chkAs g r es
  | .ref i r, e :: es => slotB g.N g.sc i e && chkAs g r es
  | _, _ => false
def chkT (g : Sg) : CT → Expr → Bool
  | .and ts, e => kAnd (fun es => !es.isEmpty && chkTs g ts es) e
  | .or ts, e => kOr (fun es => !es.isEmpty && chkTs g ts es) e
  | .not t, e => kNot (fun x => chkT g t x) e
  | .val (.bor i p), e => pathB g.N g.sc i p e
  | .val (.e c), e => chkE g c e && (plainTest e || isCmp c)
def chkTs (g : Sg) : CTs → List Expr → Bool
  | .nil, [] => true
  | .cons c r, e :: es => chkT g c e && chkTs g r es
  | _, _ => false
def chkI (g : Sg) : CI → Expr → Bool
  | .seq o, e => chkO g o e
  | .rng1 a, e => kRng1 g (fun x => chkE g a x) e
  | .rng2 a b, e => kRng2 g (fun x => chkE g a x) (fun x => chkE g b x) e
  | .enm (.e a), e => kEnm g (fun x => chkE g a x) e
  | .enm (.bor _ _), _ => false
  | .zip (.e a) (.e b), e => kZip g (fun x => chkE g a x) (fun x => chkE g b x) e
  | .zip _ _, _ => false
  | .keys a, e => chkE g a e
end
/-- an exception class of the text: its name, its fields, the classes that it stands under -/
abbrev ExC := Str × List Str × List Nat
def ExOk (prog : Program) (K : PySem.W.Frag) (mg : Str → Option Value) (T : Tab) (exs : List ExC) (c : Nat) (k : ExC) : Prop := ∃ C, T.exA c = some C ∧ T.exF c = k.2.1 ∧ mg k.1 = some (.ref C) ∧ (k.2.1 ≠ [] → ∃ fI, ExTxt prog K mg C fI k.2.1) ∧
  ∀ c' k', exs[c']? = some k' → ∃ C', T.exA c' = some C' ∧ PySem.W.exmOne K (.ref C') (.ref C) = some (k'.2.2.contains c)
/-- a place in a running body -/
structure Fits (g : Sg) (X : Cx) (T : Tab) (Φ : Phi) (W : WX) (k : Nat) : Prop where
  n : X.N = g.N
  nd : X.N.Nodup
  sc : X.env.scope = g.sc
  fn : X.fn = g.fn
  calm : X.calm = true
  room : Room k X.A
  gd : X.A.guards = some []
  bt : T.bn = g.bn
  bn : ∀ x ∈ T.bn, X.mg x = none
  tk : Takes X W
  dk : ∀ x kvs, g.dcs.lookup x = some kvs → DctOk X x kvs
  ex : ∀ c k, g.exs[c]? = some k → ExOk X.prog X.K X.mg T g.exs c k
  exR : ∀ c C, T.exA c = some C → ∃ k, g.exs[c]? = some k
  cl : ∀ c C, T.clA c = some C → ∃ k, g.cls[c]? = some k ∧ L2.Cls X.K C ∧ ∀ f ∈ k.2, NoAttr X.K C f
  fs : ∀ f n, g.ar f = some n → ∃ a, FnR X.prog X.w X.K X.mg X.base k a n (spF X.K T (Φ f) n) ∧ X.mg (g.name f) = some (.ref a) ∧ PySem.W.keepIn X.K (.ref a) = true ∧ ∀ us, Φ f us ≠ .no → us.length = n
  fk : ∀ f ps, g.kw f = some ps → ∃ a, FnW X.prog X.w X.K X.mg X.base k a ps (spF X.K T (Φ f) ps.length) ∧ X.mg (g.name f) = some (.ref a) ∧ PySem.W.keepIn X.K (.ref a) = true ∧ ∀ us, Φ f us ≠ .no → us.length = ps.length
  rk : ∀ x, g.rk x = true → RankK X.K X.mg x
theorem no_takes {X : Cx} : Takes X W0 := fun u s' ⟨_, _, _, _, _, _, _, _, _, _, _, _, _, _, _, _, w⟩ => False.elim w
theorem Fits.blk {g : Sg} {X : Cx} {T : Tab} {Φ : Phi} {W : WX} {k : Nat} (F : Fits g X T Φ W k) (s : Shared) (H : Hp) (scope : Scope) (C : Addr) (cl : List (Str × Addr)) (fp : List Addr) : Fits (g.blk scope) (blkC' X s H scope C cl fp) T Φ W0 k :=
  ⟨F.n, F.nd, blk_scope F.sc, rfl, F.calm, F.room, F.gd, F.bt, F.bn, no_takes, F.dk, F.ex, F.exR, F.cl, F.fs, F.fk, F.rk⟩
theorem Fits.opK {g : Sg} {X : Cx} {T : Tab} {Φ : Phi} {W : WX} {k : Nat} (F : Fits g X T Φ W k) {o : Op} (h : opKB g.dcs o = true) : OpK X o := by
  cases o <;> first | trivial | exact F.dk _ _ (of_decide_eq_true h)
theorem Fits.hu {g : Sg} {X : Cx} {T : Tab} {Φ : Phi} {W : WX} {k : Nat} (F : Fits g X T Φ W k) : X.A.units + 66 < cLine := by
  have := F.room.un
  omega
end CH
end
section
namespace CH
open PySem L2 Evl PyProof.Rows

section
variable {X : Cx} {T : Tab} {W : WX} {e : Expr} {es : List Expr} {ρ : Env}
theorem se_c {d : D} (h : constB d e = true) : SE X T W e ρ (.ok (.sh d, ρ)) := by
  unfold constB at h
  split at h <;> first | contradiction | skip
  · cases of_decide_eq_true h; exact se_val pe_int fun _ => .int _
  · cases eq_of_beq h; exact se_val pe_bl fun _ => .bl _
  · cases of_decide_eq_true h; exact se_val pe_str fun _ => .str _
  · exact se_val pe_non fun _ => .non
theorem se_fz {re : R (OT × Env)} (h : SE X T W e ρ re) : SE X T W e ρ (re.bind fun p => .ok (.sh p.1.toD, p.2)) := fun L σ H Hs fp Q hs k => by
  rw [cont_bind] at k
  refine h L σ H Hs fp Q hs (k.imp (fun p k v H1 Hs1 fp1 ft p1 => ?_) fun _ _ x => x)
  obtain ⟨q, r⟩ := p1.freeze
  exact k v H1 (frz Hs1 H1 ft) fp1 [] (Pst.post q (Post.val q.st r))
theorem se_no : SE X T W e ρ .no := fun _ _ _ _ _ _ _ k => k.elim
theorem own_snd (N : List Str) (vs : List Nat) : (ownOf N vs).map (·.2) = vs := by
  unfold ownOf
  rw [List.map_map]
  exact List.map_id _
theorem bind_eq2 {α β γ : Type} {r : R α} {f g : α → R γ} (h : ∀ a, f a = g a) : r.bind f = r.bind g := by cases r <;> simp [R.bind, h]
end
theorem and_b {a b : Bool} (h : (a && b) = true) : a = true ∧ b = true := by simpa using h
theorem call_fin {X : Cx} {T : Tab} {W : WX} {e : Expr} {ρ : Env} {r r' : R (OT × Env)} (h : SE X T W e ρ r) (q : r = r') : SE X T W e ρ r' := q ▸ h
theorem sos_fin {X : Cx} {T : Tab} {W : WX} {es : List Expr} {ρ : Env} {r r' : R (List OT × Env)} (h : SOs X T W es ρ r) (q : r = r') : SOs X T W es ρ r' := q ▸ h
variable {T : Tab} {Φ : Phi} {pl : List Nat}
mutual
theorem snE : ∀ (c : CE) {g : Sg} {X : Cx} {W : WX} {k : Nat} {e : Expr} {ρ : Env}, Fits g X T Φ W k → chkE g c e = true → SE X T W e ρ (evE Φ pl c ρ)
  | .c d, g, X, W, k, e, ρ, F, h => by rw [evE]; exact se_c (by simpa [chkE] using h)
  | .v i, g, X, W, k, e, ρ, F, h => by rw [evE]; exact se_v F.sc (by rw [F.n]; simpa [chkE] using h)
  | .mv i, g, X, W, k, e, ρ, F, h => by rw [evE]; exact se_mv F.sc (by rw [F.n]; simpa [chkE] using h)
  | .take i, g, X, W, k, e, ρ, F, h => by rw [evE]; exact se_take F.sc (by rw [F.n]; simpa [chkE] using h)
  | .op o as, g, X, W, k, e, ρ, F, h => by
    rw [evE]
    simp only [chkE] at h
    unfold kOp at h
    split at h
    · rename_i es hq
      have h1 := and_b h
      exact se_op (F.opK h1.1) F.sc F.bn F.calm F.gd F.hu (by rw [F.bt]; exact hq) (snOs as F h1.2)
    · cases h
  | .fz c, g, X, W, k, e, ρ, F, h => by rw [evE]; exact se_fz (snE c F (by simpa [chkE] using h))
  | .slc (.e x) lo hi, g, X, W, k, e, ρ, F, h => by
    rw [evE]
    simp only [chkE] at h
    unfold kSlc at h
    split at h
    · have h1 := and_b h
      have h2 := and_b h1.1
      refine call_fin (se_slc (sg_e (snE x F (by simpa [chkO] using h2.1)) fun ρ1 => sg_b2 (fun ρ => snB lo F h2.2) (fun ρ => snB hi F h1.2))) ?_
      unfold slcR
      cases evE Φ pl x ρ with
      | ok p => simp only [R.bind]; cases b2 (fun ρ => evB Φ pl lo ρ) (fun ρ => evB Φ pl hi ρ) p.2 <;> rfl
      | ex => rfl
      | no => rfl
    · cases h
  | .slc (.bor i p) lo hi, g, X, W, k, e, ρ, F, h => by
    rw [evE]
    simp only [chkE] at h
    unfold kSlc at h
    split at h
    · have h1 := and_b h
      have h2 := and_b h1.1
      split
      · rename_i t ht
        refine call_fin (se_slc (sg_bor F.sc (by rw [F.n]; simpa [chkO] using h2.1) ht (sg_b2 (fun ρ => snB lo F h2.2) (fun ρ => snB hi F h1.2)))) ?_
        unfold slcR
        cases b2 (fun ρ => evB Φ pl lo ρ) (fun ρ => evB Φ pl hi ρ) (lock ρ i) <;> rfl
      · exact se_no
    · cases h
  | .tup cs, g, X, W, k, e, ρ, F, h => by
    rw [evE]
    simp only [chkE] at h
    unfold kTup at h
    split at h
    · have h1 := and_b h
      exact se_tup h1.1 (snEs cs F h1.2)
    · cases h
  | .lst cs, g, X, W, k, e, ρ, F, h => by
    rw [evE]
    simp only [chkE] at h
    unfold kLst at h
    split at h
    · have h1 := and_b h
      exact se_lst h1.1 (snEs cs F h1.2)
    · cases h
  | .and cs, g, X, W, k, e, ρ, F, h => by
    rw [evE]
    simp only [chkE] at h
    unfold kAnd at h
    split at h
    · exact snAnd cs F h
    · cases h
  | .or cs, g, X, W, k, e, ρ, F, h => by
    rw [evE]
    simp only [chkE] at h
    unfold kOr at h
    split at h
    · exact snOr cs F h
    · cases h
  | .not c, g, X, W, k, e, ρ, F, h => by
    rw [evE]
    simp only [chkE] at h
    unfold kNot at h
    split at h
    · exact se_not (snE c F h)
    · cases h
  | .ite t a b, g, X, W, k, e, ρ, F, h => by
    rw [evE]
    simp only [chkE] at h
    unfold kIte at h
    split at h
    · have h1 := and_b h
      have h2 := and_b h1.1
      exact se_ite (snT t F h2.1) (fun ρ1 => snE a F h2.2) (fun ρ1 => snE b F h1.2)
    · cases h
  | .chain o1 o2 a b c, g, X, W, k, e, ρ, F, h => by
    rw [evE]
    simp only [chkE] at h
    unfold kChain at h
    split at h
    · have h1 := and_b h
      have h2 := and_b h1.1
      have h3 := and_b h2.1
      have h4 := and_b h3.1
      have h5 := and_b h4.1
      cases of_decide_eq_true h5.1
      cases of_decide_eq_true h5.2
      exact se_chain F.hu (by simpa using h4.2) (snE a F h3.2) (fun ρ1 => snE b F h2.2) (fun ρ1 => snE c F h1.2)
    · cases h
  | .call f as, g, X, W, k, e, ρ, F, h => by
    rw [evE]
    simp only [chkE] at h
    unfold kCall at h
    split at h
    · have h1 := and_b h
      have h2 := and_b h1.1
      have h3 := and_b h2.1
      have h4 := and_b h3.1
      obtain ⟨ps, p1, p2⟩ := Option.map_eq_some_iff.mp (of_decide_eq_true h2.2)
      obtain ⟨a, q2, q3, q4, q6⟩ := F.fk f ps p1
      cases of_decide_eq_true h4.1
      exact se_callW (ρ := ρ) F.tk F.gd rfl q2 F.room (gl_of F.sc h4.2) q3 q4 q6 p2.symm (by simpa using h3.2) (snAs as F h1.2)
    · have h1 := and_b h
      have h2 := and_b h1.1
      have h3 := and_b h2.1
      have h4 := and_b h3.1
      have h5 := and_b h4.1
      have h6 := and_b h5.1
      obtain ⟨a, q2, q3, q4, q6⟩ := F.fs f _ (of_decide_eq_true h2.2)
      cases of_decide_eq_true h6.1
      refine se_call (ρ := ρ) F.tk F.gd q2 F.room (gl_of F.sc h6.2) q3 q4 q6 (by simpa using h4.2) h3.2 (by simpa using h5.2) (snAs as F h1.2)
    · cases h
  | .rank x c, g, X, W, k, e, ρ, F, h => by
    rw [evE]
    simp only [chkE] at h
    unfold kRank at h
    split at h
    · simp only [Bool.and_eq_true, Bool.not_eq_true', decide_eq_true_eq] at h
      obtain ⟨⟨⟨⟨⟨⟨⟨⟨⟨h1, h2⟩, h3⟩, h4⟩, h5⟩, h6⟩, h7⟩, h8⟩, h9⟩, h10⟩ := h
      subst h1 h5 h6
      exact se_rank F.sc (by rw [← F.bt] at *; exact F.bn) (F.rk _ h9) (by have := F.room.dp; omega) F.hu h2 (by rw [F.bt]; exact h3) h7 h8 h4 (snE c F h10)
    · cases h
  | .dc ek ev tg it cs, g, X, W, k, e, ρ, F, h => by
    rw [evE]
    simp only [chkE] at h
    unfold kDc at h
    split at h
    · have h0 := and_b h
      have h1 := and_b h0.1
      have h2 := and_b h1.1
      have h3 := and_b h2.1
      have h4 := and_b h3.1
      have h5 := and_b h4.1
      have h6 := and_b h5.1
      have h33 := and_b h3.2
      obtain ⟨w0, w2⟩ := snI it F h33.2
      have w1 := w0 _ h33.1
      exact se_dc (bk := backI it ρ) (pl := pl) F.nd F.sc F.calm w1 h6.1 (w2 ρ) (by rw [F.n]; exact blk_ok h6.2) (by rw [own_snd]) (by rw [F.n]; exact h5.2) h4.2
        (fun s H C cl fp ρ => snTs cs (F.blk s H _ C cl fp) h4.2 h2.2) (fun s H C cl fp ρ => snE ek (F.blk s H _ C cl fp) h1.2) (fun s H C cl fp ρ => snE ev (F.blk s H _ C cl fp) h0.2)
    · cases h
  | .apX i ix e1, g, X, W, k, e, ρ, F, h => by
    rw [evE]
    simp only [chkE] at h
    unfold kApX at h
    split at h
    · rename_i x ixE spos e1E hq
      have h1 := and_b h
      have h2 := and_b h1.1
      have h3 := and_b h2.1
      exact se_apX F.sc hq (by rw [F.n]; exact h3.1) h3.2 (fun ρ => snE ix F h2.2) (fun ρ => snE e1 F h1.2)
    · cases h
  | .mu m i [] as, g, X, W, k, e, ρ, F, h => by
    rw [evE]
    simp only [chkE] at h
    unfold kMu at h
    split at h
    · rename_i o es hq
      have h1 := and_b h
      exact se_mu F.sc hq (by rw [F.n]; exact h1.1) (snEs as F h1.2)
    · cases h
  | .mu m i (_ :: _) as, g, X, W, k, e, ρ, F, h => by rw [evE]; exact se_no
  | .lc elt tg it cs, g, X, W, k, e, ρ, F, h => by
    rw [evE]
    simp only [chkE] at h
    unfold kLc at h
    split at h
    · have h1 := and_b h
      have h2 := and_b h1.1
      have h3 := and_b h2.1
      have h4 := and_b h3.1
      have h5 := and_b h4.1
      have h6 := and_b h5.1
      have h33 := and_b h3.2
      obtain ⟨w0, w2⟩ := snI it F h33.2
      have w1 := w0 _ h33.1
      refine se_lc (bk := backI it ρ) (pl := pl) F.nd F.sc F.calm w1 h6.1 (w2 ρ) (by rw [F.n]; exact blk_ok h6.2) (by rw [own_snd]) (by rw [F.n]; exact h5.2) h4.2
        (fun s H C cl fp ρ => snTs cs (F.blk s H _ C cl fp) h4.2 h2.2) (fun s H C cl fp ρ => snE elt (F.blk s H _ C cl fp) h1.2)
    · cases h
  | .lc2 elt tg it cs tg1 it1 cs1, g, X, W, k, e, ρ, F, h => by
    simp only [chkE] at h
    unfold kLc2 at h
    split at h
    · simp only [Bool.and_eq_true] at h
      obtain ⟨⟨⟨⟨⟨⟨⟨⟨⟨⟨⟨h1, h2⟩, h3⟩, h4⟩, h5⟩, h6⟩, h7⟩, h8⟩, h9⟩, h10⟩, h11⟩, h12⟩ := h
      have h88 := h8
      have h100 := h10
      obtain ⟨w0, w2⟩ := snI it F h88.2
      have w1 := w0 _ h88.1
      obtain ⟨t, t1, _, t3⟩ := se_lc2 (ρ := ρ) (T := T) (W := W) (c1 := it1) (bk := backI it ρ) (bk1 := fun ρ ρ' => backI it1 ρ ρ') (pl := pl) F.nd F.sc F.calm w1 h1 h2 (w2 ρ) (by rw [F.n]; exact blk_ok h3) (by rw [own_snd]) (by rw [F.n]; exact h4) (by rw [F.n]; exact h5) h6 h7
        (fun s H C cl fp => (snI it1 (F.blk s H _ C cl fp) h100.2).1 _ h100.1) (fun s H C cl fp ρ => (snI it1 (F.blk s H _ C cl fp) h100.2).2 ρ) (fun s H C cl fp ρ => snTs cs (F.blk s H _ C cl fp) h6 h9) (fun s H C cl fp ρ => snTs cs1 (F.blk s H _ C cl fp) h7 h11) (fun s H C cl fp ρ => snE elt (F.blk s H _ C cl fp) h12)
      rw [evE]
      exact fun L σ H Hs fp Q h k => wE_of t1 (t3 L σ H Hs fp Q h k)
    · cases h
theorem snAnd : ∀ (c : CEs) {g : Sg} {X : Cx} {W : WX} {k : Nat} {es : List Expr} {pos : Pos} {ρ : Env}, Fits g X T Φ W k → chkEs g c es = true → SE X T W (.BoolOp .And es pos) ρ (evAnd Φ pl c ρ)
  | .nil, g, X, W, k, es, pos, ρ, F, h => by rw [evAnd]; exact se_no
  | .cons c .nil, g, X, W, k, es, pos, ρ, F, h => by
    rw [evAnd]
    cases es with
    | nil => simp [chkEs] at h
    | cons e es =>
      rw [chkEs] at h
      have h1 := and_b h
      cases es with
      | nil => exact se_one (snE c F h1.1)
      | cons => simp [chkEs] at h1
  | .cons c (.cons d r), g, X, W, k, es, pos, ρ, F, h => by
    rw [evAnd]
    · cases es with
      | nil => simp [chkEs] at h
      | cons e es =>
        rw [chkEs] at h
        have h1 := and_b h
        cases es with
        | nil => simp [chkEs] at h1
        | cons f es => exact se_and (snE c F h1.1) fun ρ1 => snAnd (.cons d r) F h1.2
    · exact fun z => CEs.noConfusion z
theorem snOr : ∀ (c : CEs) {g : Sg} {X : Cx} {W : WX} {k : Nat} {es : List Expr} {pos : Pos} {ρ : Env}, Fits g X T Φ W k → chkEs g c es = true → SE X T W (.BoolOp .Or es pos) ρ (evOr Φ pl c ρ)
  | .nil, g, X, W, k, es, pos, ρ, F, h => by rw [evOr]; exact se_no
  | .cons c .nil, g, X, W, k, es, pos, ρ, F, h => by
    rw [evOr]
    cases es with
    | nil => simp [chkEs] at h
    | cons e es =>
      rw [chkEs] at h
      have h1 := and_b h
      cases es with
      | nil => exact se_one (snE c F h1.1)
      | cons => simp [chkEs] at h1
  | .cons c (.cons d r), g, X, W, k, es, pos, ρ, F, h => by
    rw [evOr]
    · cases es with
      | nil => simp [chkEs] at h
      | cons e es =>
        rw [chkEs] at h
        have h1 := and_b h
        cases es with
        | nil => simp [chkEs] at h1
        | cons f es => exact se_or (snE c F h1.1) fun ρ1 => snOr (.cons d r) F h1.2
    · exact fun z => CEs.noConfusion z
theorem snEs : ∀ (c : CEs) {g : Sg} {X : Cx} {W : WX} {k : Nat} {es : List Expr} {ρ : Env}, Fits g X T Φ W k → chkEs g c es = true → SEs X T W es ρ (evEs Φ pl c ρ)
  | .nil, g, X, W, k, es, ρ, F, h => by
    rw [evEs]
    cases es with
    | nil => exact ses_nil
    | cons => simp [chkEs] at h
  | .cons c r, g, X, W, k, es, ρ, F, h => by
    rw [evEs]
    cases es with
    | nil => simp [chkEs] at h
    | cons e es =>
      rw [chkEs] at h
      have h1 := and_b h
      exact ses_cons (snE c F h1.1) fun ρ1 => snEs r F h1.2
theorem snO : ∀ (c : CO) {g : Sg} {X : Cx} {W : WX} {k : Nat} {e : Expr} {ρ : Env}, Fits g X T Φ W k → chkO g c e = true → SO X T W e ρ (evO Φ pl c ρ)
  | .e c, g, X, W, k, e, ρ, F, h => by rw [evO]; exact so_e (snE c F (by simpa [chkO] using h))
  | .bor i p, g, X, W, k, e, ρ, F, h => by rw [evO]; exact so_bor F.sc (by rw [F.n]; simpa [chkO] using h)
theorem snOs : ∀ (c : COs) {g : Sg} {X : Cx} {W : WX} {k : Nat} {es : List Expr} {ρ : Env}, Fits g X T Φ W k → chkOs g c es = true → SOs X T W es ρ (evOs Φ pl c ρ)
  | .nil, g, X, W, k, es, ρ, F, h => by
    rw [evOs]
    cases es with
    | nil => exact sos_nil
    | cons => simp [chkOs] at h
  | .cons (.e c) r, g, X, W, k, es, ρ, F, h => by
    rw [evOs]
    cases es with
    | nil => simp [chkOs] at h
    | cons e es =>
      rw [chkOs] at h
      have h1 := and_b h
      have := sos_cons (sg_e (snE c (ρ := ρ) F (by simpa [chkO] using h1.1)) fun ρ1 => show SG X T W (fun σ H Q => wEs X es σ H Q) (fun a b Hs H => Opds X.K T Hs H a b) ρ1 (evOs Φ pl r ρ1) from snOs r F h1.2)
      have q : (((evE Φ pl c ρ).bind fun p => (evOs Φ pl r p.2).bind fun q => CH.R.ok ((p.1, q.1), q.2)).bind fun p => CH.R.ok (p.1.1 :: p.1.2, p.2)) = ((evE Φ pl c ρ).bind fun (t, ρ1) => (evOs Φ pl r ρ1).bind fun (ts, ρ2) => .ok (t :: ts, ρ2)) := by
        cases evE Φ pl c ρ with
        | ok p => simp only [R.bind]; cases evOs Φ pl r p.2 <;> rfl
        | ex => rfl
        | no => rfl
      rw [← q]
      exact this
  | .cons (.bor i p) r, g, X, W, k, es, ρ, F, h => by
    rw [evOs]
    cases es with
    | nil => simp [chkOs] at h
    | cons e es =>
      rw [chkOs] at h
      have h1 := and_b h
      split
      · rename_i t ht
        have := sos_cons (sg_bor (W := W) F.sc (by rw [F.n]; simpa [chkO] using h1.1) ht (show SG X T W (fun σ H Q => wEs X es σ H Q) (fun a b Hs H => Opds X.K T Hs H a b) (lock ρ i) (evOs Φ pl r (lock ρ i)) from snOs r F h1.2))
        refine sos_fin this ?_
        cases evOs Φ pl r (lock ρ i) <;> rfl
      · exact fun _ _ _ _ _ _ _ k => k.elim
theorem snB : ∀ (c : CB) {g : Sg} {X : Cx} {W : WX} {k : Nat} {e : Option Expr} {ρ : Env}, Fits g X T Φ W k → chkB g c e = true → SB X T W e ρ (evB Φ pl c ρ)
  | .no, g, X, W, k, e, ρ, F, h => by
    rw [evB]
    cases e with
    | none => exact sb_no
    | some => simp [chkB] at h
  | .at c, g, X, W, k, e, ρ, F, h => by
    rw [evB]
    cases e with
    | none => simp [chkB] at h
    | some e => exact sb_at (snE c F (by simpa [chkB] using h))
theorem snAs : ∀ (c : CAs) {g : Sg} {X : Cx} {W : WX} {k : Nat} {es : List Expr} {ρ : Env}, Fits g X T Φ W k → chkAs g c es = true → SAs X T W c es ρ (evAs Φ pl c ρ)
  | .nil, g, X, W, k, es, ρ, F, h => by
    rw [evAs]
    cases es with
    | nil => exact sas_nil
    | cons => simp [chkAs] at h
  | .val c r, g, X, W, k, es, ρ, F, h => by
    rw [evAs]
    cases es with
    | nil => simp [chkAs] at h
    | cons e es =>
      rw [chkAs] at h
      have h1 := and_b h
      exact sas_val (snE c F h1.1) fun ρ1 => snAs r F h1.2
  | .ref i r, g, X, W, k, es, ρ, F, h => by
    rw [evAs]
    cases es with
    | nil => simp [chkAs] at h
    | cons e es =>
      rw [chkAs] at h
      have h1 := and_b h
      split
      · rename_i hq
        exact sas_ref F.sc (by rw [F.n]; exact h1.1) (Option.isSome_iff_exists.mp hq) (snAs r F h1.2)
      · exact fun _ _ _ _ _ _ _ k => k.elim
theorem snT : ∀ (c : CT) {g : Sg} {X : Cx} {W : WX} {k : Nat} {e : Expr} {ρ : Env}, Fits g X T Φ W k → chkT g c e = true → ST X T W e ρ (evT Φ pl c ρ)
  | .and ts, g, X, W, k, e, ρ, F, h => by
    rw [evT]
    simp only [chkT] at h
    unfold kAnd at h
    split at h
    · have h1 := and_b h
      exact st_all (by simpa using h1.1) (snAll ts F h1.2)
    · cases h
  | .or ts, g, X, W, k, e, ρ, F, h => by
    rw [evT]
    simp only [chkT] at h
    unfold kOr at h
    split at h
    · have h1 := and_b h
      exact st_any (by simpa using h1.1) (snAny ts F h1.2)
    · cases h
  | .not t, g, X, W, k, e, ρ, F, h => by
    rw [evT]
    simp only [chkT] at h
    unfold kNot at h
    split at h
    · exact st_not (snT t F h)
    · cases h
  | .val (.bor i p), g, X, W, k, e, ρ, F, h => by
    rw [evT]
    rw [chkT] at h
    have hp : plainTest e = true := by
      have := path_notCall h
      cases p with
      | nil => cases e <;> first | rfl | (simp [pathB, slotB] at h)
      | cons f p => cases e <;> first | rfl | (simp [pathB] at h)
    exact st_val hp (snO (.bor i p) F (by simpa [chkO] using h))
  | .val (.e c), g, X, W, k, e, ρ, F, h => by
    rw [evT]
    rw [chkT] at h
    have h1 := and_b h
    rw [Bool.or_eq_true] at h1
    rcases h1.2 with hp | hp
    · exact st_val hp (snO (.e c) F (by simpa [chkO] using h1.1))
    · cases c with
      | op o as =>
        cases o with
        | cmp cm =>
          have h2 := h1.1
          simp only [chkE] at h2
          unfold kOp at h2
          split at h2
          · rename_i es hq
            rw [evO, evE]
            exact st_cmp F.hu (by rw [F.bt]; exact hq) (snOs as F (and_b h2).2)
          · cases h2
        | kin x ng kvs =>
          have h2 := h1.1
          simp only [chkE] at h2
          unfold kOp at h2
          split at h2
          · rename_i es hq
            rw [evO, evE]
            exact st_kin F.sc (F.opK (o := .kin x ng kvs) (and_b h2).1) (by rw [F.bt]; exact hq) (snOs as F (and_b h2).2)
          · cases h2
        | _ => cases hp
      | chain o1 o2 a b c =>
        have h2 := h1.1
        simp only [chkE] at h2
        unfold kChain at h2
        rw [evO, evE]
        split at h2
        · have h1 := and_b h2
          have h2 := and_b h1.1
          have h3 := and_b h2.1
          have h4 := and_b h3.1
          have h5 := and_b h4.1
          cases of_decide_eq_true h5.1
          cases of_decide_eq_true h5.2
          exact st_chain F.hu (by simpa using h4.2) (snE a F h3.2) (fun ρ1 => snE b F h2.2) (fun ρ1 => snE c F h1.2)
        · cases h2
      | _ => cases hp
theorem snAll : ∀ (c : CTs) {g : Sg} {X : Cx} {W : WX} {k : Nat} {es : List Expr} {ρ : Env}, Fits g X T Φ W k → chkTs g c es = true → SAl X T W (wAll X) es ρ (evAll Φ pl c ρ)
  | .nil, g, X, W, k, es, ρ, F, h => by
    rw [evAll]
    cases es with
    | nil => exact sal_nil
    | cons => simp [chkTs] at h
  | .cons c r, g, X, W, k, es, ρ, F, h => by
    rw [evAll]
    cases es with
    | nil => simp [chkTs] at h
    | cons e es =>
      rw [chkTs] at h
      have h1 := and_b h
      exact sal_cons (snT c F h1.1) fun ρ1 => snAll r F h1.2
theorem snAny : ∀ (c : CTs) {g : Sg} {X : Cx} {W : WX} {k : Nat} {es : List Expr} {ρ : Env}, Fits g X T Φ W k → chkTs g c es = true → SAl X T W (wAny X) es ρ (evAny Φ pl c ρ)
  | .nil, g, X, W, k, es, ρ, F, h => by
    rw [evAny]
    cases es with
    | nil => exact say_nil
    | cons => simp [chkTs] at h
  | .cons c r, g, X, W, k, es, ρ, F, h => by
    rw [evAny]
    cases es with
    | nil => simp [chkTs] at h
    | cons e es =>
      rw [chkTs] at h
      have h1 := and_b h
      exact say_cons (snT c F h1.1) fun ρ1 => snAny r F h1.2
theorem snTs : ∀ (c : CTs) {g : Sg} {X : Cx} {W : WX} {k : Nat} {es : List Expr} {ρ : Env}, Fits g X T Φ W k → oneTest es = true → chkTs g c es = true → STs X T W es ρ (evAll Φ pl c ρ)
  | .nil, g, X, W, k, es, ρ, F, h1, h => by
    rw [evAll]
    cases es with
    | nil => exact sts_nil
    | cons => simp [chkTs] at h
  | .cons c .nil, g, X, W, k, es, ρ, F, h1, h => by
    rw [evAll]
    cases es with
    | nil => simp [chkTs] at h
    | cons e es =>
      rw [chkTs] at h
      have h1 := and_b h
      cases es with
      | nil =>
        have := sts_one (snT c (ρ := ρ) F h1.1)
        simp only [evAll]
        exact this
      | cons => simp [chkTs] at h1
  | .cons c (.cons d r), g, X, W, k, es, ρ, F, h1, h => by
    cases es with
    | nil => simp [chkTs] at h
    | cons e es =>
      cases es with
      | nil => simp [chkTs] at h
      | cons => simp [oneTest] at h1
theorem snI : ∀ (c : CI) {g : Sg} {X : Cx} {W : WX} {k : Nat} {e : Expr}, Fits g X T Φ W k → chkI g c e = true → (∀ tg, tgFits c tg = true → PI X tg e (wiI X c e)) ∧ ∀ ρ, SI X T W (wiI X c e) ρ (backI c ρ) (evI Φ pl c ρ)
  | .seq (.e c), g, X, W, k, e, F, h => ⟨fun tg _ => pi_seq, fun ρ => by
    rw [evI]
    exact si_e (snE c F (by simpa [chkI, chkO] using h))⟩
  | .seq (.bor i p), g, X, W, k, e, F, h => ⟨fun tg _ => pi_seq, fun ρ => by
    rw [evI]
    exact si_bor F.sc (by rw [F.n]; simpa [chkI, chkO] using h)⟩
  | .rng1 a, g, X, W, k, e, F, h => by
    simp only [chkI] at h
    unfold kRng1 at h
    split at h
    · have h1 := and_b h
      have h2 := and_b h1.1
      have h3 := and_b h2.1
      have h4 := and_b h3.1
      cases of_decide_eq_true h4.1
      refine ⟨fun tg _ => pi_range1 (gl_of F.sc h4.2) (bn_of F.bn (by rw [F.bt]; exact h3.2)) (paW X [_] (by simpa using h2.2)) (star_cons (by simpa using h2.2)), fun ρ => ?_⟩
      rw [evI]
      exact si_rng1 (snE a F h1.2)
    · cases h
  | .rng2 a b, g, X, W, k, e, F, h => by
    simp only [chkI] at h
    unfold kRng2 at h
    split at h
    · rename_i x px y z pos
      have h1 := and_b h
      have h2 := and_b h1.1
      have h3 := and_b h2.1
      have h4 := and_b h3.1
      have h5 := and_b h4.1
      have h6 := and_b h5.1
      cases of_decide_eq_true h6.1
      have ha : isStar y = false := by simpa using h4.2
      have hb : isStar z = false := by simpa using h3.2
      refine ⟨fun tg _ => pi_range2 (gl_of F.sc h6.2) (bn_of F.bn (by rw [F.bt]; exact h5.2)) (paW X [y, z] (by simp [ha, hb])) (by rw [star_cons ha, star_cons hb]; rfl) (star_cons hb), fun ρ => ?_⟩
      rw [evI]
      exact si_rng2 (snE a F h2.2) fun ρ1 => snE b F h1.2
    · cases h
  | .enm (.e a), g, X, W, k, e, F, h => by
    simp only [chkI] at h
    unfold kEnm at h
    split at h
    · have h1 := and_b h
      have h2 := and_b h1.1
      have h3 := and_b h2.1
      have h4 := and_b h3.1
      cases of_decide_eq_true h4.1
      refine ⟨fun tg ht => ?_, fun ρ => ?_⟩
      · obtain ⟨es, kk, tp, rfl⟩ := isTup_of ht
        exact pi_enum (gl_of F.sc h4.2) (bn_of F.bn (by rw [F.bt]; exact h3.2)) (paW X [_] (by simpa using h2.2)) (star_cons (by simpa using h2.2))
      · rw [evI]
        exact si_enm (snE a F h1.2)
    · cases h
  | .enm (.bor _ _), g, X, W, k, e, F, h => by simp [chkI] at h
  | .zip (.e a) (.e b), g, X, W, k, e, F, h => by
    simp only [chkI] at h
    unfold kZip at h
    split at h
    · rename_i x px y z pos
      have h1 := and_b h
      have h2 := and_b h1.1
      have h3 := and_b h2.1
      have h4 := and_b h3.1
      have h5 := and_b h4.1
      have h6 := and_b h5.1
      cases of_decide_eq_true h6.1
      have ha : isStar y = false := by simpa using h4.2
      have hb : isStar z = false := by simpa using h3.2
      refine ⟨fun tg ht => ?_, fun ρ => ?_⟩
      · obtain ⟨es, kk, tp, rfl⟩ := isTup_of ht
        exact RZ.pi_zipA (gl_of F.sc h6.2) (bn_of F.bn (by rw [F.bt]; exact h5.2)) (paW X [y, z] (by simp [ha, hb])) (star_cons ha) (by rw [star_cons hb]; rfl)
      · rw [evI]
        exact si_zip (snE a F h2.2) fun ρ1 => snE b F h1.2
    · cases h
  | .zip (.e _) (.bor _ _), g, X, W, k, e, F, h => by simp [chkI] at h
  | .zip (.bor _ _) _, g, X, W, k, e, F, h => by simp [chkI] at h
  | .keys a, g, X, W, k, e, F, h => ⟨fun tg _ => pi_keys (peW X e), fun ρ => by
    rw [evI]
    exact si_keys (snE a F (by simpa [chkI] using h))⟩
end
end CH
end
section
namespace CH
open PySem L2 Evl PyProof.Rows

/-- from a state of a body to a later one -/
structure Pts (pl : List Nat) (K : PySem.W.Frag) (T : Tab) (L : List Addr) (σ : L2.St) (Hs H : Hp) (fp : List Addr) (ρ : Env) (σ' : L2.St) (ρ' : Env) (H' Hs' : Hp) (fp' : List Addr) : Prop where
  st : StOk K T L Hs' H' ρ' σ' fp'
  sp : Stp fp H Hs fp' H' Hs'
  lk : lks ρ' = lks ρ
  lv : ∀ (j : Nat) (u : OT), ρ[j]? = some (.lk u) → σ'[j]? = σ[j]?
  pv : ∀ j ∈ pl, σ'[j]? = σ[j]?
/-- .. with a value that is handed back -/
structure PtsR (pl : List Nat) (K : PySem.W.Frag) (T : Tab) (L : List Addr) (σ : L2.St) (Hs H : Hp) (fp : List Addr) (ρ : Env) (t : OT) (σ' : L2.St) (ρ' : Env) (v : V) (H' Hs' : Hp) (fp' ft : List Addr) : Prop where
  st : StOk K T L Hs' H' ρ' σ' fp'
  rp : RpO K T Hs' H' t v ft
  nd : (ft ++ fp').Nodup
  nf : ∀ a ∈ ft, Hs' a = none
  lf : ∀ a ∈ L, a ∉ ft
  sp : Stp fp H Hs (ft ++ fp') H' Hs'
  lk : lks ρ' = lks ρ
  lv : ∀ (j : Nat) (u : OT), ρ[j]? = some (.lk u) → σ'[j]? = σ[j]?
  pv : ∀ j ∈ pl, σ'[j]? = σ[j]?
def FlOk (pl : List Nat) (K : PySem.W.Frag) (T : Tab) (L : List Addr) (σ : L2.St) (Hs H : Hp) (fp : List Addr) (ρ : Env) (D : Ends) (p : Fl × Env) : Prop := match p.1 with
  | .nx => ∀ σ' H' Hs' fp', Pts pl K T L σ Hs H fp ρ σ' p.2 H' Hs' fp' → D.nx σ' H'
  | .brk => ∀ σ' H' Hs' fp', Pts pl K T L σ Hs H fp ρ σ' p.2 H' Hs' fp' → D.bk σ' H'
  | .ct => ∀ σ' H' Hs' fp', Pts pl K T L σ Hs H fp ρ σ' p.2 H' Hs' fp' → D.ct σ' H'
  | .rt t => ∀ σ' v H' Hs' fp' ft, PtsR pl K T L σ Hs H fp ρ t σ' p.2 v H' Hs' fp' ft → D.rt v H'
def XSOk (pl : List Nat) (K : PySem.W.Frag) (T : Tab) (L : List Addr) (σ : L2.St) (Hs H : Hp) (fp : List Addr) (ρ : Env) (W : WX) (e : Exn) (ρ' : Env) : Prop := ∀ σ' H' Hs' fp' C d, Pts pl K T L σ Hs H fp ρ σ' ρ' H' Hs' fp' → ExRp K T Hs' H' e C d → W (.ref C) (some d) σ' H'
section
variable {pl : List Nat} {K : PySem.W.Frag} {T : Tab} {L : List Addr} {σ σ1 σ' : L2.St} {Hs H Hs1 H1 Hs' H' : Hp} {fp fp1 fp' ft : List Addr} {ρ ρ1 ρ' : Env} {t : OT} {v : V} {D : Ends} {W : WX} {e : Exn}
theorem Pst.pts (p : Pst K T L σ Hs H fp ρ ρ1 H1 Hs1 fp1) : Pts pl K T L σ Hs H fp ρ σ ρ1 H1 Hs1 fp1 := ⟨p.st, p.sp, p.lk, fun _ _ _ => rfl, fun _ _ => rfl⟩
theorem Pts.refl (h : StOk K T L Hs H ρ σ fp) : Pts pl K T L σ Hs H fp ρ σ ρ H Hs fp := (Pst.refl h).pts
theorem Pts.trans (a : Pts pl K T L σ Hs H fp ρ σ1 ρ1 H1 Hs1 fp1) (b : Pts pl K T L σ1 Hs1 H1 fp1 ρ1 σ' ρ' H' Hs' fp') : Pts pl K T L σ Hs H fp ρ σ' ρ' H' Hs' fp' :=
  ⟨b.st, a.sp.trans b.sp, b.lk.trans a.lk, fun j u q => (b.lv j u (lks_lk a.lk q)).trans (a.lv j u q), fun j hj => (b.pv j hj).trans (a.pv j hj)⟩
theorem Pts.ret (a : Pts pl K T L σ Hs H fp ρ σ1 ρ1 H1 Hs1 fp1) (b : PtsR pl K T L σ1 Hs1 H1 fp1 ρ1 t σ' ρ' v H' Hs' fp' ft) : PtsR pl K T L σ Hs H fp ρ t σ' ρ' v H' Hs' fp' ft :=
  ⟨b.st, b.rp, b.nd, b.nf, b.lf, a.sp.trans b.sp, b.lk.trans a.lk, fun j u q => (b.lv j u (lks_lk a.lk q)).trans (a.lv j u q), fun j hj => (b.pv j hj).trans (a.pv j hj)⟩
theorem Post.ptsR (p : Post K T L σ Hs H fp ρ t ρ1 v H1 Hs1 fp1 ft) : PtsR pl K T L σ Hs H fp ρ t σ ρ1 v H1 Hs1 fp1 ft := ⟨p.st, p.rp, p.nd, p.nf, p.lf, p.sp, p.lk, fun _ _ _ => rfl, fun _ _ => rfl⟩
theorem FlOk.later {p : Fl × Env} (k : FlOk pl K T L σ Hs H fp ρ D p) (a : Pts pl K T L σ Hs H fp ρ σ1 ρ1 H1 Hs1 fp1) : FlOk pl K T L σ1 Hs1 H1 fp1 ρ1 D p := by
  unfold FlOk at k ⊢
  split at k
  · exact fun σ' H' Hs' fp' q => k σ' H' Hs' fp' (a.trans q)
  · exact fun σ' H' Hs' fp' q => k σ' H' Hs' fp' (a.trans q)
  · exact fun σ' H' Hs' fp' q => k σ' H' Hs' fp' (a.trans q)
  · exact fun σ' v H' Hs' fp' ft q => k σ' v H' Hs' fp' ft (a.ret q)
theorem XSOk.later (k : XSOk pl K T L σ Hs H fp ρ W e ρ') (a : Pts pl K T L σ Hs H fp ρ σ1 ρ1 H1 Hs1 fp1) : XSOk pl K T L σ1 Hs1 H1 fp1 ρ1 W e ρ' := fun σ' H' Hs' fp' C d q x => k σ' H' Hs' fp' C d (a.trans q) x
theorem XSOk.x (k : XSOk pl K T L σ Hs H fp ρ W e ρ') : XOk K T L σ Hs H fp ρ W e ρ' := fun H' Hs' fp' C d q => k σ H' Hs' fp' C d q.pst.pts q.ex
theorem later_cont {r : R (Fl × Env)} (k : Cont r (FlOk pl K T L σ Hs H fp ρ D) (XSOk pl K T L σ Hs H fp ρ W)) (a : Pts pl K T L σ Hs H fp ρ σ1 ρ1 H1 Hs1 fp1) : Cont r (FlOk pl K T L σ1 Hs1 H1 fp1 ρ1 D) (XSOk pl K T L σ1 Hs1 H1 fp1 ρ1 W) :=
  k.imp (fun p q => q.later a) fun e ρ' q => q.later a
/-- a value stored in a slot of one's own -/
theorem Post.store {i : Nat} (p : Post K T L σ Hs H fp ρ t ρ1 v H1 Hs1 fp1 ft) (hi : ∃ s, ρ1[i]? = some s) (hl : ∀ u, ρ1[i]? ≠ some (.lk u)) (hp : i ∉ pl) : ∃ fp2, Pts pl K T L σ Hs H fp ρ (σ.set i (some v)) (ρ1.set i (.ow t)) H1 Hs1 fp2 := by
  obtain ⟨s, e⟩ := hi
  have d := List.nodup_append.mp p.nd
  obtain ⟨fp2, s1, s2⟩ := p.st.store (i := i) (List.getElem?_eq_some_iff.mp e).1 p.rp (fun a ha hf => d.2.2 a ha a hf rfl) d.1 p.nf p.lf
  refine ⟨fp2, s1, p.sp.sub fun a ha => List.mem_append.mpr (s2 a ha), ?_, fun j u q => List.getElem?_set_ne fun z => ?_, fun j hj => List.getElem?_set_ne fun z => by subst z; exact hp hj⟩
  · rw [← p.lk]
    refine lks_set e ?_
    cases s with
    | lk u => exact absurd e (hl u)
    | _ => rfl
  · subst z
    exact hl u (lks_lk p.lk q)
end
def SS (X : Cx) (T : Tab) (W : WX) (pl : List Nat) (st : Stmt) (ρ : Env) (r : R (Fl × Env)) : Prop := ∀ (L : List Addr) (σ : L2.St) (H Hs : Hp) (fp : List Addr) (D : Ends), StOk X.K T L Hs H ρ σ fp →
  Cont r (FlOk pl X.K T L σ Hs H fp ρ D) (XSOk pl X.K T L σ Hs H fp ρ W) → wS X st D σ H
def SSs (X : Cx) (T : Tab) (W : WX) (pl : List Nat) (sts : List Stmt) (ρ : Env) (r : R (Fl × Env)) : Prop := ∀ (L : List Addr) (σ : L2.St) (H Hs : Hp) (fp : List Addr) (D : Ends), StOk X.K T L Hs H ρ σ fp →
  Cont r (FlOk pl X.K T L σ Hs H fp ρ D) (XSOk pl X.K T L σ Hs H fp ρ W) → wSs X sts D σ H
/-- a reading that is sound -/
def SR (X : Cx) (T : Tab) (W : WX) (t : TE) (ρ : Env) (r : R (OT × Env)) : Prop := ∀ (L : List Addr) (σ : L2.St) (H Hs : Hp) (fp : List Addr) (Q : VK), StOk X.K T L Hs H ρ σ fp →
  Cont r (fun p => ∀ v H' Hs' fp' ft, Post X.K T L σ Hs H fp ρ p.1 p.2 v H' Hs' fp' ft → Q v H') (XOk X.K T L σ Hs H fp ρ W) → t σ H Q
section
variable {X : Cx} {T : Tab} {W : WX} {pl : List Nat} {sc : Scope} {e : Expr} {st : Stmt} {sts : List Stmt} {ρ : Env} {pos : Pos}
theorem sss_nil : SSs X T W pl [] ρ (.ok (.nx, ρ)) := fun L σ H Hs fp D h k => wSs_of pss_nil (k σ H Hs fp (Pts.refl h))
theorem sss_cons {r : R (Fl × Env)} {rs : Env → R (Fl × Env)} (h1 : SS X T W pl st ρ r) (h2 : ∀ ρ1, SSs X T W pl sts ρ1 (rs ρ1)) : SSs X T W pl (st :: sts) ρ (r.bind fun p => match p.1 with
    | .nx => rs p.2
    | f => .ok (f, p.2)) := by
  intro L σ H Hs fp D h k
  rw [cont_bind] at k
  refine wSs_of (pss_cons (psW X st) (pssW X sts)) (h1 L σ H Hs fp { D with nx := wSs X sts D } h (k.imp (fun p k => ?_) fun _ _ x => x))
  obtain ⟨f, ρ1⟩ := p
  cases f with
  | nx => exact fun σ1 H1 Hs1 fp1 q => h2 ρ1 L σ1 H1 Hs1 fp1 D q.st (later_cont k q)
  | brk => exact k
  | ct => exact k
  | rt t => exact k
/-- a name's tree frozen between two statements -/
theorem sss_frz {i : Nat} {rs : Env → R (Fl × Env)} (h2 : ∀ ρ1, SSs X T W pl sts ρ1 (rs ρ1)) : SSs X T W pl sts ρ (match ρ.own i with
    | some t => rs (ρ.set i (.ow (.sh t.toD)))
    | none => .no) := by
  intro L σ H Hs fp D h k
  cases ht : Env.own ρ i with
  | none => rw [ht] at k; exact k.elim
  | some t =>
    rw [ht] at k
    obtain ⟨v, Hs', fp', h1, p, r⟩ := frz_slot h ht
    exact h2 _ L σ H Hs' fp' D p.st (later_cont k p.pts)
theorem ss_nop (hp : PS X st tNext) : SS X T W pl st ρ (.ok (.nx, ρ)) := fun L σ H Hs fp D h k => wS_of hp (k σ H Hs fp (Pts.refl h))
theorem ss_brk : SS X T W pl (.Break pos) ρ (.ok (.brk, ρ)) := fun L σ H Hs fp D h k => wS_of ps_break (k σ H Hs fp (Pts.refl h))
theorem ss_cont : SS X T W pl (.Continue pos) ρ (.ok (.ct, ρ)) := fun L σ H Hs fp D h k => wS_of ps_continue (k σ H Hs fp (Pts.refl h))
theorem ss_retN : SS X T W pl (.Return none pos) ρ (.ok (.rt (.sh .non), ρ)) := fun L σ H Hs fp D h k => wS_of ps_retN (k σ .non H Hs fp [] (Post.val h .non).ptsR)
theorem ss_ex {r : R (OT × Env)} (hs : swapsWith e none pos.line X.env = pure false) (he : SE X T W e ρ r) : SS X T W pl (.Expr e pos) ρ (r.bind fun p => .ok (.nx, p.2)) := by
  intro L σ H Hs fp D h k
  rw [cont_bind] at k
  exact wS_of (ps_expr (peW X e) hs) (he L σ H Hs fp _ h (k.imp (fun p k v H1 Hs1 fp1 ft p1 => k σ H1 Hs1 fp1 p1.pst.pts) fun _ _ x => x.x))
theorem ss_ret {r : R (OT × Env)} (he : SE X T W e ρ r) : SS X T W pl (.Return (some e) pos) ρ (r.bind fun p => .ok (.rt p.1, p.2)) := by
  intro L σ H Hs fp D h k
  rw [cont_bind] at k
  exact wS_of (ps_ret (peW X e)) (he L σ H Hs fp _ h (k.imp (fun p k v H1 Hs1 fp1 ft p1 => k σ v H1 Hs1 fp1 ft p1.ptsR) fun _ _ x => x.x))
theorem ss_ife {c : Expr} {a b : List Stmt} {rc : R (Bool × Env)} {ra rb : Env → R (Fl × Env)} (hc : ST X T W c ρ rc) (ha : ∀ ρ1, SSs X T W pl a ρ1 (ra ρ1)) (hb : ∀ ρ1, SSs X T W pl b ρ1 (rb ρ1)) : SS X T W pl (.If c a b pos) ρ (rc.bind fun p => if p.1 = true then ra p.2 else rb p.2) := by
  intro L σ H Hs fp D h k
  rw [cont_bind] at k
  refine wS_of (ps_if (ptW X c) (pssW X a) (pssW X b)) (hc L σ H Hs fp _ h (k.imp (fun p k H1 Hs1 fp1 p1 => ?_) fun _ _ x => x.x))
  obtain ⟨t, ρ1⟩ := p
  cases t with
  | true => exact ha ρ1 L σ H1 Hs1 fp1 D p1.st (later_cont k p1.pts)
  | false => exact hb ρ1 L σ H1 Hs1 fp1 D p1.st (later_cont k p1.pts)
/-- name = value -/
theorem ss_set {i : Nat} {t : TE} {r : R (OT × Env)} (hp : PS X st (tAsg t (gName i))) (he : SR X T W t ρ r) : SS X T W pl st ρ (r.bind fun p => match p.2[i]? with
    | some (.lk _) => .no
    | some _ => if pl.contains i then .no else .ok (.nx, p.2.set i (.ow p.1))
    | none => .no) := by
  intro L σ H Hs fp D h k
  rw [cont_bind] at k
  refine wS_of hp (he L σ H Hs fp (fun x H1 => gName i x σ H1 D.nx) h (k.imp (fun p k v H1 Hs1 fp1 ft p1 => ?_) fun _ _ x => x.x))
  obtain ⟨u, ρ1⟩ := p
  simp only at k p1
  split at k
  · exact k.elim
  · rename_i s hn e0
    split at k
    · exact k.elim
    · rename_i hpl
      obtain ⟨fp2, q⟩ := p1.store (pl := pl) ⟨s, e0⟩ (fun w z => by rw [e0] at z; cases z; exact hn w rfl) (by simpa using hpl)
      exact k _ H1 Hs1 fp2 q
  · exact k.elim
/-- names = value -/
theorem ss_setT {tg : Tg} {r : R (OT × Env)} (hp : PS X st (tAsg (wE X e) (gT X.K tg))) (he : SE X T W e ρ r) : SS X T W pl st ρ (r.bind fun p => match setTg pl tg p.1.toD p.2 with
    | some ρ2 => .ok (.nx, ρ2)
    | none => .no) := by
  intro L σ H Hs fp D h k
  rw [cont_bind] at k
  refine wS_of hp (he L σ H Hs fp (fun x H1 => gT X.K tg x σ H1 D.nx) h (k.imp (fun p k v H1 Hs1 fp1 ft p1 => ?_) fun _ _ x => x.x))
  cases hs : setTg pl tg p.1.toD p.2 with
  | none => rw [hs] at k; exact k.elim
  | some ρ2 =>
    rw [hs] at k
    obtain ⟨f1, f2⟩ := p1.freeze
    obtain ⟨σ', fp', m1, m2, m3, m4, m5, m6⟩ := setTg_ok f1.st f2 hs
    refine m6 _ (k σ' H1 _ fp' ⟨m1, f1.sp.sub m2, m3.trans f1.lk, fun j u q => m4 j fun z => (m5 j z).2 u (lks_lk f1.lk q), fun j hj => m4 j fun z => (m5 j z).1 hj⟩)
/-- name[i] = value -/
theorem plain_asg {o i : Expr} {env : PySem.Env} (h : plainIxB i = true) : ∀ v, assign (.Subscript o i pos) env v = (do
      let ov ← holding [v] (eval o env)
      let iv ← holding [v, ov] (eval i env)
      standAt pos
      holding [v, ov, iv] (setItem ov iv v)
      release [v, ov, iv] []) := by
  intro v
  cases i <;> first | rfl | cases h
theorem ss_setX {i : Nat} {o ix : Expr} {tpos : Pos} {r : R (List OT × Env)} (hs : X.env.scope = sc) (hp : slotB X.N sc i o = true) (hx : plainIxB ix = true) (hsw : swapsWithSole [.Subscript o ix tpos] e pos.line X.env = pure false) (hw : swappedStores [.Subscript o ix tpos] e X.env = pure none) (hr : SEs X T W [e, ix] ρ r) :
    SS X T W pl (.Assign [.Subscript o ix tpos] e pos) ρ (match ρ.ownL i with
      | none => .no
      | some _ => r.bind fun p => match p.2.ownL i with
        | none => .no
        | some us => match muEv .setIx us p.1 with
          | some (_, us') => .ok (.nx, p.2.set i (.ow (.lst us')))
          | none => .no) := by
  intro L σ H Hs fp D h0 k
  refine wS_of (ps_asg (peW X e) (pg_sub (peW X o) (peW X ix) set_list (plain_asg hx)) hsw hw rfl) ?_
  cases hl : ρ.ownL i with
  | none => rw [hl] at k; exact k.elim
  | some us0 =>
    rw [hl] at k
    obtain ⟨a, vs0, g0, fr0, h1, h2, _⟩ := h0.ownList hl
    have k : Cont (r.bind fun p => match p.2.ownL i with
      | none => .no
      | some us => match muEv .setIx us p.1 with
        | some (_, us') => .ok (Fl.nx, p.2.set i (.ow (.lst us')))
        | none => .no) _ _ := k
    rw [cont_bind] at k
    have main : wEs X [e, ix] σ H fun ys H1 => ∀ x y, ys = [x, y] → rSetL (.ref a) y x H1 fun H3 => D.nx σ H3 := by
      refine hr L σ H Hs fp _ h0 (k.imp (fun p k ys H1 Hs1 fp1 ft p1 => ?_) fun _ _ x => x.x)
      rintro x y rfl
      cases hl1 : p.2.ownL i with
      | none => rw [hl1] at k; exact k.elim
      | some us =>
        rw [hl1] at k
        cases hev : muEv .setIx us p.1 with
        | none => simp only [hev] at k; exact k.elim
        | some tu =>
          obtain ⟨t, us'⟩ := tu
          simp only [hev] at k
          obtain ⟨a2, vs, g, fr, q1, q2, q3, q4, q5, q6, q7⟩ := p1.st.ownList hl1
          rw [h1] at q1
          cases q1
          obtain ⟨y', ws, mo, mr⟩ := mu_rule p1.st.ex q2 q3 p1.rp hev
          obtain ⟨fp2, gt, po⟩ := mu_state p1 h1 q2 q3 q4 q5 q6 q7 mo
          obtain ⟨v, kk, j, z1, z2, z3⟩ := mr
          cases z1
          subst z3
          exact ⟨a, vs, kk, j, rfl, rfl, q2, z2, k σ _ Hs1 fp2 po.pst.pts⟩
    exact wE.mono (show wE X e σ H fun x H1 => wE X ix σ H1 fun y H2 => ∀ x' y', [x, y] = [x', y'] → rSetL (.ref a) y' x' H2 fun H3 => D.nx σ H3 from main) fun x H1 q => slot_val hs hp h1 (wE.mono q fun y H2 q => q x y rfl)
theorem ownO_get {ρ : Env} {i c : Nat} {ks : List Str} {ts : List OT} (h : ρ.ownO i c = some (ks, ts)) : ρ[i]? = some (.ow (.obj c ks ts)) := by
  unfold Env.ownO at h
  split at h
  · rename_i c' ks' ts' e
    split at h
    · rename_i hc; cases h; subst hc; exact e
    · cases h
  · cases h
theorem fldIx_none : ∀ {fs : List (Str × V)} {f : Str} {v : V}, fldIx (fs.map (·.1)) f = none → putF f v fs = fs ++ [(f, v)]
  | [], f, v, _ => rfl
  | (g, x) :: r, f, v, h => by
    simp only [List.map_cons, fldIx] at h
    split at h
    · cases h
    · rename_i hn
      have h1 : fldIx (r.map (·.1)) f = none := by
        cases e : fldIx (r.map (·.1)) f with
        | none => rfl
        | some j => rw [e] at h; cases h
      unfold putF
      rw [if_neg hn, fldIx_none h1]
      rfl
theorem fldIx_some : ∀ {fs : List (Str × V)} {f : Str} {v : V} {j : Nat}, fldIx (fs.map (·.1)) f = some j → (putF f v fs).map (·.1) = fs.map (·.1) ∧ (putF f v fs).map (·.2) = (fs.map (·.2)).set j v
  | [], f, v, j, h => by cases h
  | (g, x) :: r, f, v, j, h => by
    simp only [List.map_cons, fldIx] at h
    unfold putF
    split at h
    · rename_i hg
      cases Option.some.inj h
      rw [if_pos hg]
      exact ⟨rfl, rfl⟩
    · rename_i hg
      obtain ⟨i, h1, rfl⟩ := Option.map_eq_some_iff.mp h
      obtain ⟨k1, k2⟩ := fldIx_some (v := v) h1
      rw [if_neg hg]
      exact ⟨by rw [List.map_cons, k1]; rfl, by rw [List.map_cons, k2]; rfl⟩
theorem putO_ok {K : PySem.W.Frag} {Hs H : Hp} {f : Str} {t : OT} {fs : List (Str × V)} {ts ts' : List OT} {ks' : List Str} {g ft : List Addr} {v : V} (h : putO f t (fs.map (·.1)) ts = some (ks', ts')) (r : RpOs K T Hs H ts (fs.map (·.2)) g) (rt : RpO K T Hs H t v ft) :
    ks' = (putF f v fs).map (·.1) ∧ (∀ x ∈ ks', x ∈ fs.map (·.1) ∨ x = f) ∧ ∃ g' rest, RpOs K T Hs H ts' ((putF f v fs).map (·.2)) g' ∧ (g ++ ft).Perm (g' ++ rest) := by
  unfold putO at h
  cases e : fldIx (fs.map (·.1)) f with
  | none =>
    rw [e] at h
    cases h
    rw [fldIx_none (v := v) e]
    refine ⟨by simp, fun x hx => by simpa using hx, g ++ ft, [], ?_, by simp⟩
    rw [List.map_append]
    have := r.append (RpOs.cons rt .nil)
    rw [List.append_nil] at this
    exact this
  | some j =>
    rw [e] at h
    simp only at h
    split at h
    · rename_i hj
      cases h
      obtain ⟨k1, k2⟩ := fldIx_some (v := v) e
      rw [k1, k2]
      exact ⟨rfl, fun x hx => .inl hx, r.replace hj rt⟩
    · cases h
/-- name.f = value -/
theorem ss_setF {i c : Nat} {f : Str} {o : Expr} {apos : Pos} {r : R (OT × Env)} (hs : X.env.scope = sc) (hp : slotB X.N sc i o = true) (hcl : ∀ C, T.clA c = some C → L2.Cls X.K C ∧ NoAttr X.K C f) (he : SE X T W e ρ r) :
    SS X T W pl (.Assign [.Attribute o f apos] e pos) ρ (r.bind fun p => match p.2.ownO i c with
      | none => .no
      | some (ks, ts) => if ks.length < 1000 then match putO f p.1 ks ts with
          | some (ks', ts') => .ok (.nx, p.2.set i (.ow (.obj c ks' ts')))
          | none => .no
        else .no) := by
  intro L σ H Hs fp D h k
  rw [cont_bind] at k
  refine wS_of (ps_fld (slot_of hs hp) (peW X e) (by cases e <;> rfl)) ?_
  refine he L σ H Hs fp _ h (k.imp (fun p k v H1 Hs1 fp1 ft p1 => ?_) fun _ _ x => x.x)
  obtain ⟨t, ρ1⟩ := p
  simp only at k p1
  cases ho : ρ1.ownO i c with
  | none => rw [ho] at k; exact k.elim
  | some kt =>
    obtain ⟨ks, ts⟩ := kt
    rw [ho] at k
    simp only at k
    split at k
    · rename_i hlen
      cases hpo : putO f t ks ts with
      | none => rw [hpo] at k; exact k.elim
      | some kt2 =>
        obtain ⟨ks', ts'⟩ := kt2
        rw [hpo] at k
        have e0 := ownO_get ho
        obtain ⟨x, fo, fr, l1, l2, l3, l4⟩ := p1.st.rs.takeOut e0
        cases l2 with
        | @obj _ C a dx fs _ g q1 q2 q3 =>
          obtain ⟨cl, na⟩ := hcl C q2.1
          obtain ⟨z1, z2, g', rest, z3, z4⟩ := putO_ok hpo q3 p1.rp
          have ndA : ((a :: g) ++ ft).Nodup := by
            have y1 := p1.nd
            have y2 : (ft ++ ((a :: g) ++ fr)).Nodup := (List.Perm.append_left ft l3).nodup_iff.mp y1
            have y3 : (ft ++ (a :: g)).Nodup := by
              rw [← List.append_assoc] at y2
              exact (List.nodup_append.mp y2).1
            exact (List.perm_append_comm).nodup_iff.mp y3
          have pm2 : ((a :: g) ++ ft).Perm ([] ++ (a :: g') ++ rest) := by
            show (a :: (g ++ ft)).Perm (a :: (g' ++ rest))
            exact List.Perm.cons a z4
          have nag : a ∉ g' := fun m => by
            have y := pm2.nodup_iff.mp ndA
            exact (List.nodup_cons.mp (show (a :: (g' ++ rest)).Nodup from y)).1 (by simp [m])
          obtain ⟨fp4, po⟩ := own_state (ts := [t]) (ys := [v]) (t := .sh .non) (y := .non) (b := a) (o := .ins C dx (putF f v fs)) (f := a :: g) (f' := a :: g') (gt := []) (rest := rest) (tn := .obj c ks' ts') (x := .ref a)
            (Posts.mk p1.st (by have := RpOs.cons p1.rp RpOs.nil; rw [List.append_nil] at this; exact this) p1.nd p1.nf p1.lf p1.sp p1.lk) l1 l3 l4 (List.getElem?_eq_some_iff.mp e0).1 e0 (by simp) (.sh .non) (by simp)
            (fun H3 h3 kp => by
              subst z1
              exact RpO.obj h3 ⟨q2.1, ⟨cl, fun k hk => (z2 k hk).elim (q2.2.na k) fun e => e ▸ na⟩⟩ (z3.step (Ex.refl _) fun x hx q hq => kp x (by simp [hx]) (fun e => nag (e ▸ hx)) q hq)) pm2
          exact ⟨.ref a, l1, a, C, dx, fs, rfl, q1, cl, na, by simpa using hlen, k σ _ Hs1 fp4 po.pst.pts⟩
    · exact k.elim
end
end CH
end
section
namespace CH
open PySem L2 Evl PyProof.Rows
section
variable {X : Cx} {T : Tab} {W : WX} {pl : List Nat} {sc : Scope} {ρ : Env} {pos : Pos}
/-- behind a walk, seen from ahead of it -/
theorem Opn.pts {K : PySem.W.Frag} {L L' : List Addr} {σ σ2 : L2.St} {Hs H Hs1 H1 Hs2 H2 : Hp} {fp fp1 fp2 : List Addr} {ρ1 ρ2 : Env} {bk : Env → Env} (op : Opn K T L σ Hs H fp ρ bk L' ρ1 H1 Hs1 fp1) (q : Pts pl K T L' σ Hs1 H1 fp1 ρ1 σ2 ρ2 H2 Hs2 fp2) :
    ∃ fp3, Pts pl K T L σ Hs H fp ρ σ2 (bk ρ2) H2 Hs2 fp3 := by
  obtain ⟨fp3, b1, b2, b3, b4⟩ := op.back [] (fun x hx => absurd hx (by simp)) q.st q.sp q.lk q.lv
  exact ⟨fp3, b1, b2, b3, fun j u z => q.lv j u (op.lkp j u z), q.pv⟩
theorem Opn.ptsR {K : PySem.W.Frag} {L L' : List Addr} {σ σ2 : L2.St} {Hs H Hs1 H1 Hs2 H2 : Hp} {fp fp1 fp2 ft : List Addr} {ρ1 ρ2 : Env} {bk : Env → Env} {t : OT} {v : V} (op : Opn K T L σ Hs H fp ρ bk L' ρ1 H1 Hs1 fp1) (q : PtsR pl K T L' σ Hs1 H1 fp1 ρ1 t σ2 ρ2 v H2 Hs2 fp2 ft) :
    ∃ fp3, PtsR pl K T L σ Hs H fp ρ t σ2 (bk ρ2) v H2 Hs2 fp3 ft := by
  have sp0 : Stp fp1 H1 Hs1 fp2 H2 Hs2 := q.sp.sub fun x hx => by simp [hx]
  obtain ⟨fp3, b1, b2, b3, b4⟩ := op.back [] (fun x hx => absurd hx (by simp)) q.st sp0 q.lk q.lv
  have d := List.nodup_append.mp q.nd
  have nw : ∀ x ∈ ft, x ∈ fp1 ∨ H1 x = none := fun x hx => q.sp.nw x (by simp [hx])
  have out : ∀ x ∈ ft, x ∉ fp3 := fun x hx hf => by
    rcases b4 x hf with z | ⟨⟨o, z⟩, z2, _⟩
    · exact d.2.2 x hx x z rfl
    · rcases nw x hx with w | w
      · exact z2 w
      · rw [z] at w; cases w
  refine ⟨fp3, b1, q.rp, List.nodup_append.mpr ⟨d.1, b1.nd, fun x hx y hy e => out x hx (e ▸ hy)⟩, q.nf, fun x hx => q.lf x (op.nl x hx), ⟨b2.ex, b2.fr, fun x hx => ?_, b2.dm⟩, b3, fun j u z => q.lv j u (op.lkp j u z), q.pv⟩
  rcases List.mem_append.mp hx with hx | hx
  · exact op.nw x (nw x hx)
  · exact b2.nw x hx
theorem ss_for {tgE iter : Expr} {body : List Stmt} {wi : TI} {bk : Env → Env} {rI : R (List D × Env)} {rb : Env → R (Fl × Env)} {tg : Tg} (hpo : PassesOwn (model X.prog X.w) X.A X.env X.xe) (hc : X.calm = true) (hi : PI X tgE iter wi) (hg : PG X tgE (gT X.K tg)) (hset : notSetB iter = true)
    (si : SI X T W wi ρ bk rI) (hb : ∀ ρ1, SSs X T W pl body ρ1 (rb ρ1)) : SS X T W pl (.For tgE iter body [] pos) ρ (rI.bind fun p => match forL rb pl tg p.1 p.2 with
      | .ok (f, ρ2) => .ok (f, bk ρ2)
      | .ex e ρ2 => .ex e (bk ρ2)
      | .no => .no) := by
  intro L σ H Hs fp D h k
  rw [cont_bind] at k
  refine wS_of (ps_for hpo hc hi hg (pssW X body) (notSet hset)) (si L σ H Hs fp [] _ h (fun a ha => absurd ha (by simp)) (k.imp (fun p k J P L' H1 Hs1 fp1 wk hp op => ?_) fun _ _ x => x.x))
  obtain ⟨ds, ρ1⟩ := p
  simp only at k wk op
  refine ⟨fun i m σ' H' => m = ds.length - i ∧ i ≤ ds.length ∧ ∃ ρi Hs' fpi, P H' Hs' fpi ∧ Pts pl X.K T L' σ Hs1 H1 fp1 ρ1 σ' ρi H' Hs' fpi ∧ forL rb pl tg (ds.drop i) ρi = forL rb pl tg ds ρ1, ⟨ds.length, by simp, Nat.zero_le _, ρ1, Hs1, fp1, hp, Pts.refl op.st, by simp⟩, ?_⟩
  rintro i m σ' H' ⟨rfl, hle, ρi, Hs', fpi, hP, q, ev⟩
  by_cases hlt : i < ds.length
  · rw [List.drop_eq_getElem_cons hlt] at ev
    simp only [forL] at ev
    obtain ⟨go, yld⟩ := wk.go hP q.st.ex (List.getElem?_eq_getElem hlt)
    refine .inr ⟨go, _, fun σ' H' z => z, fun x H2 y => ?_⟩
    obtain ⟨Hs2, nw⟩ := yld x H2 y
    have p2 := New.post q.st nw
    have r : Rp X.K T Hs2 ds[i] x := by
      cases nw.rp with
      | sh r => exact r
    cases hs : setTg pl tg ds[i] ρi with
    | none => rw [hs] at ev; rw [← ev] at k; exact k.elim
    | some ρ' =>
      rw [hs] at ev
      obtain ⟨σ3, fp3, m1, m2, m3, m4, m5, m6⟩ := setTg_ok p2.st r hs
      refine m6 _ ?_
      have q23 : Pts pl X.K T L' σ' Hs' H' fpi ρi σ3 ρ' H2 Hs2 fp3 := ⟨m1, p2.pst.sp.sub m2, m3, fun j u z => m4 j fun w => (m5 j w).2 u z, fun j hj => m4 j fun w => (m5 j w).1 hj⟩
      have q3 := q.trans q23
      have hP3 : P H2 Hs2 fp3 := wk.keep hP q23.sp
      refine hb ρ' L' σ3 H2 Hs2 fp3 _ m1 ?_
      cases hr : rb ρ' with
      | no => simp only [hr, R.bind] at ev; rw [← ev] at k; exact k.elim
      | ex e ρ2 =>
        simp only [hr, R.bind] at ev
        rw [← ev] at k
        intro σ4 H4 Hs4 fp4 C d q4 xr
        obtain ⟨fp5, z⟩ := op.pts (q3.trans q4)
        exact k σ4 H4 Hs4 fp5 C d z xr
      | ok fr =>
        obtain ⟨f, ρ2⟩ := fr
        simp only [hr, R.bind] at ev
        cases f with
        | nx => exact fun σ4 H4 Hs4 fp4 q4 => ⟨ds.length - (i + 1), by omega, rfl, hlt, ρ2, Hs4, fp4, wk.keep hP3 q4.sp, q3.trans q4, ev⟩
        | ct => exact fun σ4 H4 Hs4 fp4 q4 => ⟨ds.length - (i + 1), by omega, rfl, hlt, ρ2, Hs4, fp4, wk.keep hP3 q4.sp, q3.trans q4, ev⟩
        | brk =>
          simp only at ev
          rw [← ev] at k
          intro σ4 H4 Hs4 fp4 q4
          obtain ⟨fp5, z⟩ := op.pts (q3.trans q4)
          exact k σ4 H4 Hs4 fp5 z
        | rt t =>
          simp only at ev
          rw [← ev] at k
          intro σ4 v H4 Hs4 fp4 ft q4
          obtain ⟨fp5, z⟩ := op.ptsR (q3.ret q4)
          exact k σ4 v H4 Hs4 fp5 ft z
  · have e : i = ds.length := by omega
    subst e
    rw [List.drop_length] at ev
    simp only [forL] at ev
    rw [← ev] at k
    obtain ⟨fp5, z⟩ := op.pts q
    exact .inl ⟨wk.stop hP q.st.ex, k σ' H' Hs' fp5 z⟩
theorem ss_whl {c : Expr} {body : List Stmt} {rc : Env → R (Bool × Env)} {rb : Env → R (Fl × Env)} {n : Nat} (hpo : PassesOwn (model X.prog X.w) X.A X.env X.xe) (hc : ∀ ρ1, ST X T W c ρ1 (rc ρ1)) (hb : ∀ ρ1, SSs X T W pl body ρ1 (rb ρ1)) : SS X T W pl (.While c body [] pos) ρ (whlL rc rb n ρ) := by
  intro L σ H Hs fp D h k
  refine wS_of (ps_while hpo (ptW X c) (pssW X body)) ?_
  refine ⟨fun m σ' H' => ∃ ρi Hs' fpi, Pts pl X.K T L σ Hs H fp ρ σ' ρi H' Hs' fpi ∧ whlL rc rb m ρi = whlL rc rb n ρ, ⟨n, ρ, Hs, fp, Pts.refl h, rfl⟩, ?_⟩
  rintro m σ' H' ⟨ρi, Hs', fpi, q, ev⟩
  cases m with
  | zero => simp only [whlL] at ev; rw [← ev] at k; exact k.elim
  | succ m =>
    simp only [whlL] at ev
    refine hc ρi L σ' H' Hs' fpi _ q.st ?_
    cases hr : rc ρi with
    | no => simp only [hr, R.bind] at ev; rw [← ev] at k; exact k.elim
    | ex e ρ2 =>
      simp only [hr, R.bind] at ev
      rw [← ev] at k
      exact (XSOk.later k q).x
    | ok br =>
      obtain ⟨b, ρ1⟩ := br
      simp only [hr, R.bind] at ev
      intro H2 Hs2 fp2 p2
      have q2 := q.trans p2.pts
      cases b with
      | false =>
        simp only [Bool.false_eq_true, if_false] at ev ⊢
        rw [← ev] at k
        exact k σ' H2 Hs2 fp2 q2
      | true =>
        simp only [if_true] at ev ⊢
        refine ⟨_, fun σ' H' z => z, ?_⟩
        refine hb ρ1 L σ' H2 Hs2 fp2 _ q2.st ?_
        cases hr2 : rb ρ1 with
        | no => simp only [hr2] at ev; rw [← ev] at k; exact k.elim
        | ex e ρ2 =>
          simp only [hr2] at ev
          rw [← ev] at k
          exact XSOk.later k q2
        | ok fr =>
          obtain ⟨f, ρ2⟩ := fr
          simp only [hr2] at ev
          cases f with
          | nx => exact fun σ4 H4 Hs4 fp4 q4 => ⟨m, by omega, ρ2, Hs4, fp4, q2.trans q4, ev⟩
          | ct => exact fun σ4 H4 Hs4 fp4 q4 => ⟨m, by omega, ρ2, Hs4, fp4, q2.trans q4, ev⟩
          | brk =>
            simp only at ev
            rw [← ev] at k
            exact fun σ4 H4 Hs4 fp4 q4 => k σ4 H4 Hs4 fp4 (q2.trans q4)
          | rt t =>
            simp only at ev
            rw [← ev] at k
            exact fun σ4 v H4 Hs4 fp4 ft q4 => k σ4 v H4 Hs4 fp4 ft (q2.ret q4)
end
def notCompB : Expr → Bool
  | .ListComp .. => false
  | .SetComp .. => false
  | .DictComp .. => false
  | _ => true
def notSwapB : Expr → Bool
  | .ListComp .. => false
  | .SetComp .. => false
  | .DictComp .. => false
  | .Tuple .. => false
  | _ => true
/-- name = value is plainly stored -/
def plainSetB (sc : Scope) (y : Str) (py : Pos) : Expr → Bool
  | .ListComp _ _ _ p => !(py.line == p.line) || !decide (sc.names.lookup y = some .local)
  | .SetComp .. => false
  | .DictComp _ _ _ _ p => !(py.line == p.line) || !decide (sc.names.lookup y = some .local)
  | _ => true
def swapSetB (sc : Scope) (y : Str) (py : Pos) : Expr → Bool
  | .ListComp _ _ scope p => decide (sc.kind = .function) && decide (sc.names.lookup y = some .local) && (py.line == p.line) && !(scope.names.any fun (n, k) => n == y && (k == .local || k == .cell))
  | .DictComp _ _ _ scope p => decide (sc.kind = .function) && decide (sc.names.lookup y = some .local) && (py.line == p.line) && !(scope.names.any fun (n, k) => n == y && (k == .local || k == .cell))
  | _ => false
theorem drop_sw {e : Expr} {l : Nat} {env : PySem.Env} (h : notCompB e = true) : swapsWith e none l env = pure false := by
  cases e <;> first | rfl | cases h
theorem plain_sw {sc : Scope} {y : Str} {py : Pos} {e : Expr} {l : Nat} {env : PySem.Env} (hs : env.scope = sc) (h : plainSetB sc y py e = true) : swapsWith e (some (.Name y py)) l env = pure false := by
  cases e with
  | ListComp a b scope p =>
    have h : (py.line == p.line) = false ∨ (env.kindOf y == some .local) = false := by
      simp only [plainSetB, Bool.or_eq_true, Bool.not_eq_true', decide_eq_false_iff_not] at h
      refine h.imp id fun z => ?_
      have e1 : env.kindOf y = sc.names.lookup y := by rw [← hs]; rfl
      rw [e1]
      simpa using z
    unfold swapsWith
    rcases h with h | h
    · simp only [Expr.pos, h, Bool.and_false, Bool.false_and]
    · simp only [h, Bool.and_false, Bool.false_and]
  | DictComp a a2 b scope p =>
    have h : (py.line == p.line) = false ∨ (env.kindOf y == some .local) = false := by
      simp only [plainSetB, Bool.or_eq_true, Bool.not_eq_true', decide_eq_false_iff_not] at h
      refine h.imp id fun z => ?_
      have e1 : env.kindOf y = sc.names.lookup y := by rw [← hs]; rfl
      rw [e1]
      simpa using z
    unfold swapsWith
    rcases h with h | h
    · simp only [Expr.pos, h, Bool.and_false, Bool.false_and]
    · simp only [h, Bool.and_false, Bool.false_and]
  | SetComp => cases h
  | _ => rfl
theorem tup_sw {e tg : Expr} {l : Nat} {env : PySem.Env} (h : notSwapB e = true) : swapsWithSole [tg] e l env = pure false ∧ swappedStores [tg] e env = pure none := by
  refine ⟨?_, ?_⟩
  · cases e <;> first | rfl | cases h
  · unfold swappedStores
    cases e <;> first | (cases tg <;> rfl) | (cases h; done)
theorem sub_sw {o i e : Expr} {p : Pos} {l : Nat} {env : PySem.Env} : swapsWithSole [.Subscript o i p] e l env = pure false ∧ swappedStores [.Subscript o i p] e env = pure none := by
  refine ⟨?_, ?_⟩
  · cases e <;> rfl
  · unfold swappedStores
    cases e <;> rfl
def nopB : Stmt → Bool
  | .Pass _ => true
  | .Expr (.Constant (.str _) _ _) _ => true
  | .Global _ _ => true
  | _ => false
def brkB : Stmt → Bool
  | .Break _ => true
  | _ => false
def contB : Stmt → Bool
  | .Continue _ => true
  | _ => false
def retNB : Stmt → Bool
  | .Return none _ => true
  | _ => false
def isLc : CE → Bool
  | .lc .. => true
  | .lc2 .. => true
  | .dc .. => true
  | _ => false
def kEx (f : Expr → Bool) : Stmt → Bool
  | .Expr e _ => notCompB e && f e
  | _ => false
def kSet (g : Sg) (i : Nat) (lc : Bool) (f : Expr → Bool) : Stmt → Bool
  | .Assign [.Name y py] x _ => tgNm g.N g.sc g.fn i (.Name y py) && f x && (plainSetB g.sc y py x || (lc && swapSetB g.sc y py x))
  | _ => false
def kSetT (g : Sg) (is : List Nat) (f : Expr → Bool) : Stmt → Bool
  | .Assign [tg] x _ => tgB g.N g.sc g.fn (.tup is) tg && notSwapB x && f x && !isStar tg
  | _ => false
def kSetX (g : Sg) (i : Nat) (p : List Str) (f : List Expr → Bool) : Stmt → Bool
  | .Assign [.Subscript o ix _] x _ => p.isEmpty && slotB g.N g.sc i o && plainIxB ix && f [x, ix]
  | _ => false
def fldB (cls : List (Str × List Str)) (c : Nat) (f : Str) : Bool := match cls[c]? with
  | some k => k.2.contains f
  | none => false
def kSetF (g : Sg) (i c : Nat) (f : Str) (p : Expr → Bool) : Stmt → Bool
  | .Assign [.Attribute o a _] x _ => decide (a = f) && slotB g.N g.sc i o && fldB g.cls c f && p x
  | _ => false
def kRet (f : Expr → Bool) : Stmt → Bool
  | .Return (some e) _ => f e
  | _ => false
def kIf (t : Expr → Bool) (a b : List Stmt → Bool) : Stmt → Bool
  | .If c x y _ => t c && a x && b y
  | _ => false
def kWhl (t : Expr → Bool) (a : List Stmt → Bool) : Stmt → Bool
  | .While c x [] _ => t c && a x
  | _ => false
def kFor (g : Sg) (tg : Tg) (it : Expr → Expr → Bool) (a : List Stmt → Bool) : Stmt → Bool
  | .For tgE iter x [] _ => tgB g.N g.sc g.fn tg tgE && notSetB iter && it tgE iter && a x
  | _ => false
def isFrz : CS → Bool
  | .frz _ => true
  | _ => false
def kSs (b : Bool) (f : Stmt → Bool) (h : List Stmt → Bool) : List Stmt → Bool
  | ss => if b = true then h ss else match ss with
    | st :: r => f st && h r
    | [] => false
/-- raise C(..) -/
def kRaise (g : Sg) (c n : Nat) (f : List Expr → Bool) : Stmt → Bool
  | .Raise (some (.Call (.Name x _) es [] _)) none _ => (match g.exs[c]? with
    | some k => decide (x = k.1) && decide (k.2.1.length = n) && !k.2.1.isEmpty
    | none => false) && glB g.sc x && !(x == ("__debug__" : Str)) && !es.isEmpty && nostar es && f es
  | _ => false
/-- what a suite hands back -/
def kAt (g : Sg) (h : Hd) : At → Expr → Bool
  | .c d, e => constB d e
  | .v j, e => slotB g.N g.sc j e && !(h.i == some j)
  | .xf j, .Attribute (.Name y p) f _ => (match h.i with
    | some i => slotB g.N g.sc i (.Name y p)
    | none => false) && h.ms.all fun c => match g.exs[c]? with
      | some k => decide (k.2.1[j]? = some f)
      | none => false
  | _, _ => false
def kAts (g : Sg) (h : Hd) : List At → List Expr → Bool
  | [], [] => true
  | a :: r, e :: es => kAt g h a e && kAts g h r es
  | _, _ => false
def kSu (g : Sg) (h : Hd) : List Stmt → Bool
  | [.Return (some e) _] => if h.tup = true then (match e with
    | .Tuple es _ _ => nostar es && kAts g h h.as es
    | _ => false) else (match h.as with
    | [a] => kAt g h a e
    | _ => false)
  | _ => false
def kNm (g : Sg) : Option Str → Option Nat → Bool
  | none, none => true
  | some n, some i => decide (g.N[i]? = some n) && decide (g.sc.names.lookup n = some .local)
  | _, _ => false
def kMs (g : Sg) (h : Hd) : Bool := (List.range g.exs.length).all fun c => h.ms.contains c == (match g.exs[c]? with
  | some k => k.2.2.contains h.c
  | none => false)
def kHds (g : Sg) : List Hd → List ExceptHandler → Bool
  | [], [] => true
  | h :: hs, .ExceptHandler (some (.Name x _)) n su _ :: hds => (match g.exs[h.c]? with
    | some k => decide (x = k.1)
    | none => false) && glB g.sc x && !(x == ("__debug__" : Str)) && kNm g n h.i && kMs g h && kSu g h su && kHds g hs hds
  | _, _ => false
def kTry (g : Sg) (hs : List Hd) (f : List Stmt → Bool) : Stmt → Bool
  | .Try b hds [] [] _ => !hds.isEmpty && kHds g hs hds && f b
  | _ => false
mutual
def chkS (g : Sg) : CS → Stmt → Bool
  | .nop, s => nopB s
  | .brk, s => brkB s
  | .cont, s => contB s
  | .retN, s => retNB s
  | .frz _, _ => false
  | .ex e, s => kEx (fun x => chkE g e x) s
  | .set i e, s => kSet g i (isLc e) (fun x => chkE g e x) s
  | .setT is e, s => kSetT g is (fun x => chkE g e x) s
  | .setF i c f e, s => kSetF g i c f (fun x => chkE g e x) s
  | .setX i p ix e, s => kSetX g i p (fun es => chkEs g (.cons e (.cons ix .nil)) es) s
  | .ret e, s => kRet (fun x => chkE g e x) s
  | .ife t a b, s => kIf (fun x => chkT g t x) (fun x => chkSs g a x) (fun x => chkSs g b x) s
  | .whl t a, s => kWhl (fun x => chkT g t x) (fun x => chkSs g a x) s
  | .for_ tg it a, s => kFor g tg (fun t x => tgFits it t && chkI g it x) (fun x => chkSs g a x) s
  | .raise c n as, s => kRaise g c n (fun es => chkEs g as es) s
  | .tr b hs, s => kTry g hs (fun x => chkSs g b x) s
def chkSs (g : Sg) : CSs → List Stmt → Bool
  | .nil, ss => ss.isEmpty
  | .cons s r, ss => kSs (isFrz s) (fun x => chkS g s x) (fun x => chkSs g r x) ss
end
structure FitsS (g : Sg) (X : Cx) (T : Tab) (Φ : Phi) (W : WX) (k : Nat) : Prop extends Fits g X T Φ W k where
  po : PassesOwn (model X.prog X.w) X.A X.env X.xe
  sk : X.stack = X.env :: X.outer
  fr : X.env.frame = some X.env.locals
variable {T : Tab} {Φ : Phi} {pl : List Nat}
/-- the reading of a comprehension -/
theorem sr_lc {elt : CE} {tg : Tg} {it : CI} {cs : CTs} {g : Sg} {X : Cx} {W : WX} {k : Nat} {x : Expr} (F : Fits g X T Φ W k) (h : chkE g (.lc elt tg it cs) x = true) :
    ∃ t, (∀ ρ, SR X T W t ρ (evE Φ pl (.lc elt tg it cs) ρ)) ∧ ∀ {i : Nat} {y : Str} {py spos : Pos}, X.N[i]? = some y → X.env.scope.names.lookup y = some .local → swapsWith x (some (.Name y py)) spos.line X.env = pure true → PS X (.Assign [.Name y py] x spos) (tAsg t (gName i)) := by
  simp only [chkE] at h
  unfold kLc at h
  split at h
  · have h1 := and_b h
    have h2 := and_b h1.1
    have h3 := and_b h2.1
    have h4 := and_b h3.1
    have h5 := and_b h4.1
    have h6 := and_b h5.1
    have h33 := and_b h3.2
    obtain ⟨w0, w2⟩ := snI (pl := pl) it F h33.2
    have w1 := w0 _ h33.1
    have ok := blk_ok h6.2
    have nd := F.nd
    rename_i xE tgE iter ifs scope lpos
    have ok' : BlkOk X.N X.env.scope scope (ownOf g.N tg.slots) := by rw [F.n, F.sc]; exact ok
    refine ⟨tLc (wiI X it iter) (gT X.K tg) (tIfs X scope ifs) (tElt X scope xE) ((ownOf g.N tg.slots).map (·.2)), fun ρ => ?_, fun {i y py spos} hy hyl hsw => ?_⟩
    · rw [evE, own_snd]
      intro L σ H Hs fp Q h k
      exact lc_read (bk := backI it ρ) (pl := pl) (w2 ρ) (fun s H C cl fp ρ => snTs cs (F.blk s H scope C cl fp) h4.2 h2.2) (fun s H C cl fp ρ => snE elt (F.blk s H scope C cl fp) h1.2) h k
    · exact ps_setLc F.calm nd hy hyl hsw w1 ok' (fun s H C cl fp => tg_pg (X := blkC' X s H scope C cl fp) nd (blk_scope F.sc) rfl F.calm (by show tgB X.N _ _ tg tgE = true; rw [F.n]; exact h5.2)) (fun s H C cl fp => pts_w h4.2 s H C cl fp) (fun s H C cl fp => pe_elt s H C cl fp) (notSet h6.1)
  · cases h
theorem sr_dc {ek ev : CE} {tg : Tg} {it : CI} {cs : CTs} {g : Sg} {X : Cx} {W : WX} {k : Nat} {x : Expr} (F : Fits g X T Φ W k) (h : chkE g (.dc ek ev tg it cs) x = true) :
    (∃ kx vx gs sc p, x = .DictComp kx vx gs sc p) ∧ ∃ t, (∀ ρ, SR X T W t ρ (evE Φ pl (.dc ek ev tg it cs) ρ)) ∧ ∀ {i : Nat} {y : Str} {py spos : Pos}, X.N[i]? = some y → X.env.scope.names.lookup y = some .local → swapsWith x (some (.Name y py)) spos.line X.env = pure true → PS X (.Assign [.Name y py] x spos) (tAsg t (gName i)) := by
  simp only [chkE] at h
  unfold kDc at h
  split at h
  · have h0 := and_b h
    have h1 := and_b h0.1
    have h2 := and_b h1.1
    have h3 := and_b h2.1
    have h4 := and_b h3.1
    have h5 := and_b h4.1
    have h6 := and_b h5.1
    have h33 := and_b h3.2
    obtain ⟨w0, w2⟩ := snI (pl := pl) it F h33.2
    have w1 := w0 _ h33.1
    have ok := blk_ok h6.2
    have nd := F.nd
    rename_i kx vx tgE iter ifs scope lpos
    have ok' : BlkOk X.N X.env.scope scope (ownOf g.N tg.slots) := by rw [F.n, F.sc]; exact ok
    refine ⟨⟨_, _, _, _, _, rfl⟩, tDcL (wiI X it iter) (gT X.K tg) (tIfs X scope ifs) (tElt X scope kx) (tElt X scope vx) ((ownOf g.N tg.slots).map (·.2)), fun ρ => ?_, fun {i y py spos} hy hyl hsw => ?_⟩
    · rw [evE, own_snd]
      intro L σ H Hs fp Q h k
      exact dc_read (bk := backI it ρ) (pl := pl) (w2 ρ) (fun s H C cl fp ρ => snTs cs (F.blk s H scope C cl fp) h4.2 h2.2) (fun s H C cl fp ρ => snE ek (F.blk s H scope C cl fp) h1.2) (fun s H C cl fp ρ => snE ev (F.blk s H scope C cl fp) h0.2) h k
    · exact ps_setDc F.calm nd hy hyl hsw w1 ok' (fun s H C cl fp => tg_pg (X := blkC' X s H scope C cl fp) nd (blk_scope F.sc) rfl F.calm (by show tgB X.N _ _ tg tgE = true; rw [F.n]; exact h5.2)) (fun s H C cl fp => pts_w h4.2 s H C cl fp) (fun s H C cl fp => pe_elt s H C cl fp) (fun s H C cl fp => pe_elt s H C cl fp) (notSet h6.1)
  · cases h
theorem sr_lc2 {elt : CE} {tg tg1 : Tg} {it it1 : CI} {cs cs1 : CTs} {g : Sg} {X : Cx} {W : WX} {k : Nat} {x : Expr} {ρ : Env} (F : Fits g X T Φ W k) (h : chkE g (.lc2 elt tg it cs tg1 it1 cs1) x = true) :
    ∃ t, SR X T W t ρ (evE Φ pl (.lc2 elt tg it cs tg1 it1 cs1) ρ) ∧ ∀ {i : Nat} {y : Str} {py spos : Pos}, X.N[i]? = some y → X.env.scope.names.lookup y = some .local → swapsWith x (some (.Name y py)) spos.line X.env = pure true → PS X (.Assign [.Name y py] x spos) (tAsg t (gName i)) := by
  simp only [chkE] at h
  unfold kLc2 at h
  split at h
  · simp only [Bool.and_eq_true] at h
    obtain ⟨⟨⟨⟨⟨⟨⟨⟨⟨⟨⟨h1, h2⟩, h3⟩, h4⟩, h5⟩, h6⟩, h7⟩, h8⟩, h9⟩, h10⟩, h11⟩, h12⟩ := h
    have h88 := h8
    have h100 := h10
    obtain ⟨w0, w2⟩ := snI (pl := pl) it F h88.2
    have w1 := w0 _ h88.1
    obtain ⟨t, _, t2, t3⟩ := se_lc2 (ρ := ρ) (T := T) (W := W) (c1 := it1) (bk := backI it ρ) (bk1 := fun ρ ρ' => backI it1 ρ ρ') (pl := pl) F.nd F.sc F.calm w1 h1 h2 (w2 ρ) (by rw [F.n]; exact blk_ok h3) (by rw [own_snd]) (by rw [F.n]; exact h4) (by rw [F.n]; exact h5) h6 h7
      (fun s H C cl fp => (snI (pl := pl) it1 (F.blk s H _ C cl fp) h100.2).1 _ h100.1) (fun s H C cl fp ρ => (snI (pl := pl) it1 (F.blk s H _ C cl fp) h100.2).2 ρ) (fun s H C cl fp ρ => snTs cs (F.blk s H _ C cl fp) h6 h9) (fun s H C cl fp ρ => snTs cs1 (F.blk s H _ C cl fp) h7 h11) (fun s H C cl fp ρ => snE elt (F.blk s H _ C cl fp) h12)
    refine ⟨t, ?_, t2⟩
    rw [evE]
    exact t3
  · cases h
end CH
end
section
namespace CH
open PySem L2 Evl PyProof.Rows
section
variable {X : Cx} {T : Tab} {Φ : Phi} {W : WX} {pl : List Nat} {g : Sg} {k : Nat} {ρ : Env}
theorem ss_raise {c n : Nat} {x : Str} {es : List Expr} {p pos pos2 : Pos} {kx : ExC} {r : R (List OT × Env)} (F : FitsS g X T Φ W k) (hk : g.exs[c]? = some kx) (hx : x = kx.1) (hn : kx.2.1.length = n) (hne : kx.2.1 ≠ []) (hg : Gl X x) (hdb : (x == ("__debug__" : Str)) = false)
    (hes : es ≠ []) (hst : nostar es = true) (hs : SEs X T W es ρ r) : SS X T W pl (.Raise (some (.Call (.Name x p) es [] pos)) none pos2) ρ (r.bind fun q => if q.1.length = n then .ex ⟨c, toDs q.1⟩ q.2 else .no) := by
  intro L σ H Hs fp D h kk
  obtain ⟨C, hA, hF, hm, hI, _⟩ := F.ex c kx hk
  obtain ⟨fI, Tx⟩ := hI hne
  cases es with
  | nil => exact absurd rfl hes
  | cons e es =>
    have ke : isStar e = false ∧ nostar es = true := by simpa [nostar] using hst
    refine wS_of (ps_raise F.calm F.tk (pmk_ex Tx hne F.room (paW X (e :: es) hst) hg (hx ▸ hm) hdb (star_cons ke.1) (star_any ke.2))) ?_
    rw [cont_bind] at kk
    refine hs L σ H Hs fp _ h (kk.imp (fun q kk vs H1 Hs1 fp1 ft p1 => ?_) fun _ _ x => x.x)
    obtain ⟨ts, ρ1⟩ := q
    simp only at kk p1
    have hlen := p1.rp.length
    split at kk
    · rename_i hl
      have lv : vs.length = kx.2.1.length := by rw [← hlen, hl, hn]
      refine ⟨lv, fun d hd => ?_⟩
      obtain ⟨f1, f2⟩ := p1.freeze
      have eH : Ex H1 (upd H1 d (.xd (kx.2.1.zip vs))) := Ex.new hd
      have st : StOk X.K T L (frz Hs1 H1 ft) (upd H1 d (.xd (kx.2.1.zip vs))) ρ1 σ fp1 := f1.st.grow eH (Ex.refl _) (f1.st.ex.trans eH) fun a o q => .inl q
      have sp : Stp fp H Hs fp1 (upd H1 d (.xd (kx.2.1.zip vs))) (frz Hs1 H1 ft) := ⟨f1.sp.ex, fun a o q hq => eH a o (f1.sp.fr a o q hq), f1.sp.nw, f1.sp.dm⟩
      refine kk σ _ _ fp1 C d ⟨st, sp, f1.lk, fun _ _ _ => rfl, fun _ _ => rfl⟩ ⟨hA, kx.2.1.zip vs, upd_same, ?_, ?_⟩
      · rw [hF, List.map_fst_zip (by omega)]
      · rw [List.map_snd_zip (by omega)]
        exact f2
    · exact kk.elim
/-- the name's slot holds nothing: the state stands where it is stored to -/
theorem slot_ne {σ : L2.St} {a : Addr} {j : Nat} {i : Option Nat} (h : i ≠ some j) : (stOf σ a i)[j]? = σ[j]? := by
  cases i with
  | none => rfl
  | some i => exact List.getElem?_set_ne fun z => h (by rw [z])
theorem zip_at {fl : List (Str × V)} {j : Nat} {f : Str} {v : V} (nd : (fl.map (·.1)).Nodup) (h1 : (fl.map (·.1))[j]? = some f) (h2 : (fl.map (·.2))[j]? = some v) : fl.lookup f = some v := by
  induction fl generalizing j with
  | nil => simp at h1
  | cons p fl ih =>
    rw [List.map_cons, List.nodup_cons] at nd
    cases j with
    | zero =>
      simp only [List.map_cons, List.getElem?_cons_zero, Option.some.injEq] at h1 h2
      subst h1 h2
      obtain ⟨a, b⟩ := p
      simp [List.lookup]
    | succ j =>
      simp only [List.map_cons, List.getElem?_cons_succ] at h1 h2
      have ne : p.1 ≠ f := fun e => nd.1 (e ▸ List.mem_of_getElem? h1)
      obtain ⟨a, b⟩ := p
      have : (f == a) = false := by simpa using Ne.symm ne
      rw [List.lookup_cons, this]
      exact ih nd.2 h1 h2
theorem at_ok {h : Hd} {a0 : At} {e : Expr} {L : List Addr} {σ : L2.St} {H Hs : Hp} {fp : List Addr} {ex : Exn} {C d a : Addr} {oe : Obj} {pn : List (Addr × Obj)} {dv : D} (F : FitsS g X T Φ W k) (st : StOk X.K T L Hs H ρ σ fp) (xr : ExRp X.K T Hs H ex C d) (hm : h.ms.contains ex.cls = true)
    (hb : bareI ρ h.i = true) (z : Zc (.ref C) (some d) oe) (zd : ∃ vs, oe.data = .fields vs) (hk : kAt g h a0 e = true) (hv : atEv ex ρ a0 = some dv) :
    ∃ v, Rp X.K T Hs dv v ∧ ∀ Q, Q v H → wE (X.suite a ((a, oe) :: pn)) e (stOf σ a h.i) H Q := by
  cases a0 with
  | c d0 =>
    cases Option.some.inj (show some d0 = some dv from hv)
    simp only [kAt] at hk
    unfold constB at hk
    split at hk <;> first | contradiction | skip
    · cases of_decide_eq_true hk; exact ⟨_, .int _, fun Q q => wE_of pe_int q⟩
    · cases eq_of_beq hk; exact ⟨_, .bl _, fun Q q => wE_of pe_bl q⟩
    · cases of_decide_eq_true hk; exact ⟨_, .str _, fun Q q => wE_of pe_str q⟩
    · exact ⟨_, .non, fun Q q => wE_of pe_non q⟩
  | v j =>
    simp only [kAt, Bool.and_eq_true, Bool.not_eq_true', beq_eq_false_iff_ne, ne_eq] at hk
    simp only [atEv] at hv
    cases ht : Env.tree ρ j with
    | none => rw [ht] at hv; cases hv
    | some t =>
      rw [ht] at hv
      cases t with
      | sh d0 =>
        cases Option.some.inj (show some d0 = some dv from hv)
        obtain ⟨v, f, e1, r1, _⟩ := st.rs.read ht
        cases r1 with
        | sh r1 =>
          refine ⟨v, r1, fun Q q => ?_⟩
          exact slot_val (X := X.suite a ((a, oe) :: pn)) (sc := g.sc) F.sc (by show slotB X.N g.sc j e = true; rw [F.n]; exact hk.1) (by rw [slot_ne hk.2]; exact e1) q
      | _ => cases hv
  | xf j =>
    obtain ⟨hA, fl, hd, hfl, hrp⟩ := xr
    unfold kAt at hk
    split at hk <;> first | contradiction | skip
    · rename_i j' y p f ps e1
      cases e1
      have h1 := and_b hk
      cases hi : h.i with
      | none => rw [hi] at h1; exact absurd h1.1 (by simp)
      | some i =>
        rw [hi] at h1 hb
        simp only at h1
        have hfs := List.all_eq_true.mp h1.2 ex.cls (by simpa using hm)
        obtain ⟨kx, hkx⟩ := F.exR _ _ hA
        rw [hkx] at hfs
        have hfj : kx.2.1[j]? = some f := of_decide_eq_true hfs
        obtain ⟨C', hA', hF, _, hI, _⟩ := F.ex _ _ hkx
        rw [hA] at hA'
        cases hA'
        have hne : kx.2.1 ≠ [] := fun z => by rw [z] at hfj; simp at hfj
        obtain ⟨fI, Tx⟩ := hI hne
        have hargs : ex.args[j]? = some dv := hv
        obtain ⟨v, hv2, rv⟩ := hrp.get hargs
        rw [hF] at hfl
        have hlook := zip_at (by rw [hfl]; exact Tx.nd) (by rw [hfl]; exact hfj) hv2
        refine ⟨v, rv, fun Q q => ?_⟩
        have hlt : i < σ.length := by
          have hle := st.rs.length
          simp only [bareI] at hb
          cases hz : ρ[i]? with
          | none => rw [hz] at hb; cases hb
          | some s => have := (List.getElem?_eq_some_iff.mp hz).1; omega
        have hsl : (stOf σ a (some i))[i]? = some (some (.ref a)) := List.getElem?_set_self hlt
        exact wE_of (pe_byEx (X := X) Tx (List.mem_of_getElem? hfj) z zd (slot_of (X := X.suite a ((a, oe) :: pn)) (sc := g.sc) F.sc (by show slotB X.N g.sc i (.Name y p) = true; rw [F.n]; exact h1.1)) (base_of rfl))
          ⟨.ref a, hsl, rfl, rfl, d, fl, v, rfl, hd, hlook, q⟩
theorem ats_ok {h : Hd} {L : List Addr} {σ : L2.St} {H Hs : Hp} {fp : List Addr} {ex : Exn} {C d a : Addr} {oe : Obj} {pn : List (Addr × Obj)} (F : FitsS g X T Φ W k) (st : StOk X.K T L Hs H ρ σ fp) (xr : ExRp X.K T Hs H ex C d) (hm : h.ms.contains ex.cls = true)
    (hb : bareI ρ h.i = true) (z : Zc (.ref C) (some d) oe) (zd : ∃ vs, oe.data = .fields vs) : ∀ {as : List At} {es : List Expr} {ds : List D}, kAts g h as es = true → atsEv ex ρ as = some ds →
    ∃ vs, Rps X.K T Hs ds vs ∧ ∀ Q, Q vs H → wEs (X.suite a ((a, oe) :: pn)) es (stOf σ a h.i) H Q
  | [], [], ds, _, hv => by
    cases Option.some.inj (show some [] = some ds from hv)
    exact ⟨[], .nil, fun Q q => q⟩
  | [], _ :: _, _, hk, _ => by simp [kAts] at hk
  | _ :: _, [], _, hk, _ => by simp [kAts] at hk
  | a0 :: as, e :: es, ds, hk, hv => by
    have h1 := and_b (show (kAt g h a0 e && kAts g h as es) = true from hk)
    obtain ⟨dv, e1, e2⟩ := Option.bind_eq_some_iff.mp (show ((atEv ex ρ a0).bind fun d => (atsEv ex ρ as).map fun ds => d :: ds) = some ds from hv)
    obtain ⟨ds', e3, rfl⟩ := Option.map_eq_some_iff.mp e2
    obtain ⟨v, r1, q1⟩ := at_ok (a := a) (oe := oe) (pn := pn) F st xr hm hb z zd h1.1 e1
    obtain ⟨vs, r2, q2⟩ := ats_ok (a := a) (oe := oe) (pn := pn) F st xr hm hb z zd h1.2 e3
    exact ⟨v :: vs, .cons r1 r2, fun Q q => q1 _ (q2 _ q)⟩
/-- the suite of a clause that takes the exception -/
theorem suite_ok {h : Hd} {su : List Stmt} {L : List Addr} {σ : L2.St} {H Hs : Hp} {fp : List Addr} {ex : Exn} {C d a : Addr} {oe : Obj} {pn : List (Addr × Obj)} {D : Ends} (F : FitsS g X T Φ W k) (st : StOk X.K T L Hs H ρ σ fp) (xr : ExRp X.K T Hs H ex C d) (hm : h.ms.contains ex.cls = true)
    (z : Zc (.ref C) (some d) oe) (zd : ∃ vs, oe.data = .fields vs) (hk : kSu g h su = true) (hb : bareI ρ h.i = true) {ds : List CH.D} (hv : atsEv ex ρ h.as = some ds)
    (kk : Cont (hdRet h.tup ds ρ) (FlOk pl X.K T L σ Hs H fp ρ D) (fun _ _ => True)) : wSs (X.suite a ((a, oe) :: pn)) su (endsOf D h.i) (stOf σ a h.i) H := by
  have ert : (endsOf D h.i).rt = D.rt := by cases h.i <;> rfl
  unfold kSu at hk
  split at hk
  · rename_i e pos
    refine wSs_of (pss_one (ps_ret (peW (X.suite a ((a, oe) :: pn)) e))) ?_
    show wE (X.suite a ((a, oe) :: pn)) e (stOf σ a h.i) H fun v H' => (endsOf D h.i).rt v H'
    rw [ert]
    unfold hdRet at kk
    by_cases ht : h.tup = true
    · rw [if_pos ht] at hk kk
      split at hk
      · rename_i es x1 ps
        have h1 := and_b hk
        obtain ⟨vs, r, q⟩ := ats_ok (a := a) (oe := oe) (pn := pn) F st xr hm hb z zd h1.2 hv
        split at kk
        · rename_i hl
          refine wE_of (pe_tup (paW (X.suite a ((a, oe) :: pn)) es h1.1)) (q _ ⟨by rw [← r.length, ← line]; exact hl, fun t hn => ?_⟩)
          exact kk σ _ _ _ fp [] (New.post st (New.tup st.ex hn r)).ptsR
        · exact kk.elim
      · cases hk
    · rw [if_neg ht] at hk kk
      cases hds : h.as with
      | nil => rw [hds] at hk; cases hk
      | cons a0 as =>
        cases as with
        | cons => rw [hds] at hk; cases hk
        | nil =>
          rw [hds] at hk hv
          obtain ⟨dv, e1, e2⟩ := Option.bind_eq_some_iff.mp (show ((atEv ex ρ a0).bind fun d => (atsEv ex ρ []).map fun ds => d :: ds) = some ds from hv)
          cases Option.some.inj (show some [dv] = some ds from e2)
          obtain ⟨v, r, q⟩ := at_ok (a := a) (oe := oe) (pn := pn) F st xr hm hb z zd hk e1
          exact q _ (kk σ v H Hs fp [] (Post.val st r).ptsR)
  · cases hk
/-- the clauses, one after the other -/
theorem hds_ok {D : Ends} (F : FitsS g X T Φ W k) : ∀ {hs : List Hd} {hds : List ExceptHandler}, kHds g hs hds = true → ∃ l : List Cls, MixOk X hds l ∧
    ∀ {L : List Addr} {σ : L2.St} {H Hs : Hp} {fp : List Addr} {ρ : Env} {ex : Exn} {C d : Addr}, StOk X.K T L Hs H ρ σ fp → ExRp X.K T Hs H ex C d → Cont (hdEv hs ex ρ) (FlOk pl X.K T L σ Hs H fp ρ D) (XSOk pl X.K T L σ Hs H fp ρ W) → wMix X.K W D l (.ref C) (some d) σ H
  | [], [], _ => ⟨[], .nil, fun st xr kk => kk _ _ _ _ _ _ (Pts.refl st) xr⟩
  | [], _ :: _, h => by simp [kHds] at h
  | _ :: _, [], h => by simp [kHds] at h
  | h :: hs, hd :: hds, hk => by
    unfold kHds at hk
    split at hk
    · rename_i e1 e2; cases e1
    · rename_i h' hs' x np n su p' hds' e1 e2
      cases e1
      cases e2
      simp only [Bool.and_eq_true, Bool.not_eq_true'] at hk
      obtain ⟨⟨⟨⟨⟨⟨h1, h2⟩, h3⟩, h4⟩, h5⟩, h6⟩, h7⟩ := hk
      obtain ⟨l, m1, m2⟩ := hds_ok F h7
      cases hx : g.exs[h.c]? with
      | none => rw [hx] at h1; cases h1
      | some kx =>
        rw [hx] at h1
        have hxn : x = kx.1 := of_decide_eq_true h1
        obtain ⟨Ch, hA, hF, hm, hI, _⟩ := F.ex _ _ hx
        have hsu : ∃ b₀ su', su = b₀ :: su' := by
          unfold kSu at h6
          split at h6
          · exact ⟨_, _, rfl⟩
          · cases h6
        obtain ⟨b₀, su', rfl⟩ := hsu
        have nm : NmOk X n h.i := by
          cases n with
          | none =>
            cases hi : h.i with
            | none => trivial
            | some i => rw [hi] at h4; cases h4
          | some n =>
            cases hi : h.i with
            | none => rw [hi] at h4; cases h4
            | some i =>
              rw [hi] at h4
              have h8 := and_b (show (decide (g.N[i]? = some n) && decide (g.sc.names.lookup n = some .local)) = true from h4)
              refine ⟨by rw [F.n]; exact of_decide_eq_true h8.1, ?_⟩
              show X.env.scope.names.lookup _ = _
              rw [F.sc]
              exact of_decide_eq_true h8.2
        refine ⟨⟨.ref Ch, h.i, fun a cls d D σ H => ∀ (oe : Obj) (pn : List (Addr × Obj)), Zc cls d oe → (∃ vs, oe.data = .fields vs) → wSs (X.suite a ((a, oe) :: pn)) (b₀ :: su') D σ H⟩ :: l, .cons ⟨gl_of F.sc h2, h3, .inl (hxn ▸ hm)⟩ nm ?_ m1, ?_⟩
        · intro a oe cls d pn z zd
          exact ⟨fun pins s σ H D I hh => hh oe pn z zd pins s I⟩
        · intro L σ H Hs fp ρ ex C d st xr kk
          obtain ⟨ky, hy⟩ := F.exR _ _ xr.1
          have hmt : PySem.W.exmOne X.K (.ref C) (.ref Ch) = some (h.ms.contains ex.cls) := by
            obtain ⟨_, hA2, _, _, _, all⟩ := F.ex _ _ hx
            rw [hA] at hA2
            cases hA2
            obtain ⟨C', hc', hexm⟩ := all ex.cls ky hy
            rw [xr.1] at hc'
            cases hc'
            have hms := List.all_eq_true.mp h5 ex.cls (List.mem_range.mpr (List.getElem?_eq_some_iff.mp hy).1)
            rw [hy] at hms
            rw [hexm, eq_of_beq hms]
          refine ⟨h.ms.contains ex.cls, hmt, fun hb a ha oe pn z zd => ?_, fun hb => ?_⟩
          · unfold hdEv at kk
            rw [if_pos hb] at kk
            by_cases hbare : bareI ρ h.i = true
            · rw [if_pos hbare] at kk
              cases hv : atsEv ex ρ h.as with
              | none => rw [hv] at kk; exact kk.elim
              | some ds =>
                rw [hv] at kk
                exact suite_ok (pl := pl) F st xr hb z zd h6 hbare hv (kk.imp (fun _ q => q) fun _ _ _ => trivial)
            · rw [if_neg hbare] at kk
              exact kk.elim
          · unfold hdEv at kk
            rw [if_neg (by rw [hb]; simp)] at kk
            exact m2 st xr kk
    · cases hk
def tryR (hs : List Hd) : R (Fl × Env) → R (Fl × Env)
  | .ok p => .ok p
  | .ex e ρ1 => hdEv hs e ρ1
  | .no => .no
theorem ss_try {b : List Stmt} {hs : List Hd} {hds : List ExceptHandler} {pos : Pos} {r : R (Fl × Env)} (F : FitsS g X T Φ W k) (hne : hds ≠ []) (hk : kHds g hs hds = true)
    (hb : ∀ (W' : WX) (pn : List (Addr × Obj)) (xe : Value → Shared → Prop), FitsS g (X.tr pn xe) T Φ W' k → SSs (X.tr pn xe) T W' pl b ρ r) :
    SS X T W pl (.Try b hds [] [] pos) ρ (tryR hs r) := by
  intro L σ H Hs fp D h kk
  obtain ⟨l, m1, m2⟩ := hds_ok (pl := pl) (D := D) F hk
  cases hds with
  | nil => exact absurd rfl hne
  | cons h0 hds =>
    refine wS_of (ps_mix (tb := fun W' D σ H => ∀ (pn : List (Addr × Obj)) (xe : Value → Shared → Prop), Takes (X.tr pn xe) W' → PassesOwn (model X.prog X.w) X.A X.env xe → wSs (X.tr pn xe) b D σ H) F.sk F.fr F.nd F.tk (fun W' pn xe tk po => ⟨fun pins s σ H D I hh => hh pn xe tk po pins s I⟩) m1) ?_
    intro pn xe tk po
    have F' : FitsS g (X.tr pn xe) T Φ (wMix X.K W D l) k := ⟨⟨F.n, F.nd, F.sc, F.fn, F.calm, F.room, F.gd, F.bt, F.bn, tk, F.dk, F.ex, F.exR, F.cl, F.fs, F.fk, F.rk⟩, po, F.sk, F.fr⟩
    refine hb _ pn xe F' L σ H Hs fp D h ?_
    cases r with
    | no => exact kk.elim
    | ok p => exact kk
    | ex e ρ1 =>
      intro σ' H' Hs' fp' C d q xr
      exact m2 q.st xr (later_cont kk q)
end
end CH
end
section
namespace CH
open PySem L2 Evl PyProof.Rows
variable {T : Tab} {Φ : Phi} {pl : List Nat}
theorem ss_fin {X : Cx} {W : WX} {st : Stmt} {ρ : Env} {r r' : R (Fl × Env)} (h : SS X T W pl st ρ r) (q : r = r') : SS X T W pl st ρ r' := q ▸ h
theorem sss_fin {X : Cx} {W : WX} {st : List Stmt} {ρ : Env} {r r' : R (Fl × Env)} (h : SSs X T W pl st ρ r) (q : r = r') : SSs X T W pl st ρ r' := q ▸ h
theorem ss_no {X : Cx} {W : WX} {st : Stmt} {ρ : Env} : SS X T W pl st ρ .no := fun _ _ _ _ _ _ _ k => k.elim
theorem nm_parts {X : Cx} {g : Sg} {W : WX} {k : Nat} (F : Fits g X T Φ W k) {i : Nat} {y : Str} {py : Pos} (h : tgNm g.N g.sc g.fn i (.Name y py) = true) : X.N[i]? = some y ∧ Loc X.env.scope y ∧ (X.fn y = true ∨ X.env.scope.names.lookup y = some .local) := by
  simp only [tgNm, Bool.and_eq_true, decide_eq_true_eq, Bool.or_eq_true] at h
  obtain ⟨⟨h1, h2⟩, h3⟩ := h
  refine ⟨by rw [F.n]; exact h1, loc_of F.sc h2, ?_⟩
  rcases h3 with h3 | h3
  · exact .inl (by rw [F.fn]; exact h3)
  · exact .inr (by rw [F.sc]; exact h3)
mutual
theorem snS : ∀ (s : CS) {g : Sg} {X : Cx} {W : WX} {k : Nat} {st : Stmt} {ρ : Env}, FitsS g X T Φ W k → chkS g s st = true → SS X T W pl st ρ (evS Φ pl s ρ)
  | .nop, g, X, W, k, st, ρ, F, h => by
    rw [evS]
    simp only [chkS] at h
    unfold nopB at h
    split at h
    · exact ss_nop ps_pass
    · exact ss_nop ps_doc
    · exact ss_nop ps_global
    · cases h
  | .brk, g, X, W, k, st, ρ, F, h => by
    rw [evS]
    simp only [chkS] at h
    unfold brkB at h
    split at h
    · exact ss_brk
    · cases h
  | .cont, g, X, W, k, st, ρ, F, h => by
    rw [evS]
    simp only [chkS] at h
    unfold contB at h
    split at h
    · exact ss_cont
    · cases h
  | .retN, g, X, W, k, st, ρ, F, h => by
    rw [evS]
    simp only [chkS] at h
    unfold retNB at h
    split at h
    · exact ss_retN
    · cases h
  | .frz i, g, X, W, k, st, ρ, F, h => by simp [chkS] at h
  | .ex e, g, X, W, k, st, ρ, F, h => by
    rw [evS]
    simp only [chkS] at h
    unfold kEx at h
    split at h
    · have h1 := and_b h
      exact ss_ex (drop_sw h1.1) (snE e F.toFits h1.2)
    · cases h
  | .set i e, g, X, W, k, st, ρ, F, h => by
    rw [evS]
    simp only [chkS] at h
    unfold kSet at h
    split at h
    · rename_i y py x pos
      have h1 := and_b h
      have h2 := and_b h1.1
      obtain ⟨z1, z2, z3⟩ := nm_parts F.toFits h2.1
      have h3 : plainSetB g.sc y py x = true ∨ (isLc e && swapSetB g.sc y py x) = true := by rw [← Bool.or_eq_true]; exact h1.2
      rcases h3 with h3 | h3
      · exact ss_set (ps_set F.nd z1 z2 (peW X x) (plain_sw F.sc h3) z3) (snE e F.toFits h2.2)
      · have h4 := and_b h3
        cases e with
        | lc elt tg it cs =>
          obtain ⟨t, t1, t2⟩ := sr_lc (pl := pl) F.toFits h2.2
          have h22 := h2.2
          simp only [chkE] at h22
          have h5 := h4.2
          unfold swapSetB at h5
          split at h5
          · have q1 := and_b h5
            have q2 := and_b q1.1
            have q3 := and_b q2.1
            have l1 : X.env.scope.names.lookup y = some .local := by rw [F.sc]; exact of_decide_eq_true q3.2
            refine ss_set (t2 z1 l1 (sw_true (by rw [F.sc]; exact of_decide_eq_true q3.1) l1 q2.2 ?_)) (t1 ρ)
            simpa using q1.2
          · unfold kLc at h22; cases h22
          · cases h5
        | lc2 elt tg it cs tg1 it1 cs1 =>
          obtain ⟨t, t1, t2⟩ := sr_lc2 (ρ := ρ) (pl := pl) F.toFits h2.2
          have h22 := h2.2
          simp only [chkE] at h22
          have h5 := h4.2
          unfold swapSetB at h5
          split at h5
          · have q1 := and_b h5
            have q2 := and_b q1.1
            have q3 := and_b q2.1
            have l1 : X.env.scope.names.lookup y = some .local := by rw [F.sc]; exact of_decide_eq_true q3.2
            refine ss_set (t2 z1 l1 (sw_true (by rw [F.sc]; exact of_decide_eq_true q3.1) l1 q2.2 ?_)) t1
            simpa using q1.2
          · unfold kLc2 at h22; cases h22
          · cases h5
        | dc ek ev tg it cs =>
          obtain ⟨⟨kx, vx, gs, scx, px, rfl⟩, t, t1, t2⟩ := sr_dc (pl := pl) F.toFits h2.2
          have h5 := h4.2
          unfold swapSetB at h5
          have q1 := and_b h5
          have q2 := and_b q1.1
          have q3 := and_b q2.1
          have l1 : X.env.scope.names.lookup y = some .local := by rw [F.sc]; exact of_decide_eq_true q3.2
          refine ss_set (t2 z1 l1 (sw_trueD (by rw [F.sc]; exact of_decide_eq_true q3.1) l1 q2.2 ?_)) (t1 ρ)
          simpa using q1.2
        | _ => simp [isLc] at h4
    · cases h
  | .setT is e, g, X, W, k, st, ρ, F, h => by
    rw [evS]
    simp only [chkS] at h
    unfold kSetT at h
    split at h
    · have h1 := and_b h
      have h2 := and_b h1.1
      have h3 := and_b h2.1
      obtain ⟨q1, q2⟩ := tup_sw (l := _) (env := X.env) h3.2
      exact ss_setT (tg := .tup is) (ps_asg (peW X _) (tg_pg F.nd F.sc F.fn F.calm (by rw [F.n]; exact h3.1)) q1 q2 (by rw [asg_cons (by simpa using h1.2)]; rfl)) (snE e F.toFits h2.2)
    · cases h
  | .setF i c f e, g, X, W, k, st, ρ, F, h => by
    rw [evS]
    simp only [chkS] at h
    unfold kSetF at h
    split at h
    · have h1 := and_b h
      have h2 := and_b h1.1
      have h3 := and_b h2.1
      cases of_decide_eq_true h3.1
      refine ss_setF F.sc (by rw [F.n]; exact h3.2) (fun C hC => ?_) (snE e F.toFits h1.2)
      obtain ⟨kx, y1, y2, y3⟩ := F.cl c C hC
      have h4 := h2.2
      unfold fldB at h4
      rw [y1] at h4
      exact ⟨y2, y3 _ (by simpa using h4)⟩
    · cases h
  | .setX i p ix e, g, X, W, k, st, ρ, F, h => by
    simp only [chkS] at h
    unfold kSetX at h
    split at h
    · have h1 := and_b h
      have h2 := and_b h1.1
      have h3 := and_b h2.1
      cases p with
      | nil =>
        rw [evS]
        obtain ⟨q1, q2⟩ := sub_sw (l := _) (env := X.env)
        exact ss_setX F.sc (by rw [F.n]; exact h3.2) h2.2 q1 q2 (snEs (.cons e (.cons ix .nil)) F.toFits h1.2)
      | cons => simp at h3
    · cases h
  | .ret e, g, X, W, k, st, ρ, F, h => by
    rw [evS]
    simp only [chkS] at h
    unfold kRet at h
    split at h
    · exact ss_ret (snE e F.toFits h)
    · cases h
  | .ife t a b, g, X, W, k, st, ρ, F, h => by
    rw [evS]
    simp only [chkS] at h
    unfold kIf at h
    split at h
    · have h1 := and_b h
      have h2 := and_b h1.1
      exact ss_ife (snT t F.toFits h2.1) (fun ρ1 => snSs a F h2.2) (fun ρ1 => snSs b F h1.2)
    · cases h
  | .whl t a, g, X, W, k, st, ρ, F, h => by
    rw [evS]
    simp only [chkS] at h
    unfold kWhl at h
    split at h
    · have h1 := and_b h
      exact ss_whl F.po (fun ρ1 => snT t F.toFits h1.1) (fun ρ1 => snSs a F h1.2)
    · cases h
  | .for_ tg it a, g, X, W, k, st, ρ, F, h => by
    rw [evS]
    simp only [chkS] at h
    unfold kFor at h
    split at h
    · have h1 := and_b h
      have h2 := and_b h1.1
      have h3 := and_b h2.1
      have h22 := and_b h2.2
      obtain ⟨w0, w2⟩ := snI (pl := pl) it F.toFits h22.2
      have w1 := w0 _ h22.1
      exact ss_for (bk := backI it ρ) F.po F.calm w1 (tg_pg F.nd F.sc F.fn F.calm (by rw [F.n]; exact h3.1)) h3.2 (w2 ρ) fun ρ1 => snSs a F h1.2
    · cases h
  | .raise c n as, g, X, W, k, st, ρ, F, h => by
    rw [evS]
    simp only [chkS] at h
    unfold kRaise at h
    split at h
    · rename_i x p es pos p2
      simp only [Bool.and_eq_true, Bool.not_eq_true'] at h
      obtain ⟨⟨⟨⟨⟨h1, h2⟩, h3⟩, h4⟩, h5⟩, h6⟩ := h
      cases hx : g.exs[c]? with
      | none => rw [hx] at h1; cases h1
      | some kx =>
        rw [hx] at h1
        simp only [Bool.and_eq_true, decide_eq_true_eq, Bool.not_eq_true', List.isEmpty_eq_false_iff] at h1
        exact ss_raise F hx h1.1.1 h1.1.2 h1.2 (gl_of F.sc h2) h3 (by simpa using h4) h5 (snEs as F.toFits h6)
    · cases h
  | .tr b hs, g, X, W, k, st, ρ, F, h => by
    rw [evS]
    simp only [chkS] at h
    unfold kTry at h
    split at h
    · rename_i tb th tpos
      simp only [Bool.and_eq_true, Bool.not_eq_true'] at h
      obtain ⟨⟨h1, h2⟩, h3⟩ := h
      have q := ss_try (pos := tpos) (ρ := ρ) F (by simpa using h1) h2 fun W' pn xe F' => snSs b F' h3
      have e : tryR hs (evSs Φ pl b ρ) = (match evSs Φ pl b ρ with
        | .ok p => .ok p
        | .ex e ρ1 => hdEv hs e ρ1
        | .no => .no) := by cases evSs Φ pl b ρ <;> rfl
      rw [e] at q
      exact q
    · cases h
theorem snSs : ∀ (s : CSs) {g : Sg} {X : Cx} {W : WX} {k : Nat} {st : List Stmt} {ρ : Env}, FitsS g X T Φ W k → chkSs g s st = true → SSs X T W pl st ρ (evSs Φ pl s ρ)
  | .nil, g, X, W, k, st, ρ, F, h => by
    rw [evSs]
    simp only [chkSs] at h
    cases st with
    | nil => exact sss_nil
    | cons => simp at h
  | .cons s r, g, X, W, k, st, ρ, F, h => by
    rw [evSs]
    simp only [chkSs] at h
    unfold kSs at h
    by_cases hz : isFrz s = true
    · rw [if_pos hz] at h
      cases s with
      | frz i =>
        refine sss_fin (sss_frz (i := i) fun ρ1 => snSs r F h) ?_
        rw [evS]
        cases Env.own ρ i <;> rfl
      | _ => cases hz
    · rw [if_neg hz] at h
      cases st with
      | nil => cases h
      | cons st sts =>
        have h1 := and_b h
        refine sss_fin (sss_cons (snS s F h1.1) fun ρ1 => snSs r F h1.2) ?_
        cases evS Φ pl s ρ with
        | ok p => obtain ⟨f, ρ1⟩ := p; cases f <;> rfl
        | ex => rfl
        | no => rfl
end
section
variable {K : PySem.W.Frag} {Hs H Hs' H' : Hp} {L : List Addr}
theorem RpS.pad : ∀ {ρ : Env} {σ : L2.St} {fp : List Addr} (n : Nat), RpS K T Hs H L ρ σ fp → RpS K T Hs H L (ρ ++ List.replicate n .no) (σ ++ List.replicate n none) fp
  | _, _, _, 0, .nil => by simpa using RpS.nil
  | _, _, _, n + 1, .nil => by
    rw [List.nil_append, List.nil_append, List.replicate_succ, List.replicate_succ]
    exact .no (by simpa using RpS.pad n (RpS.nil : RpS K T Hs H L [] [] []))
  | _, _, _, n, .no r => .no (r.pad n)
  | _, _, _, n, .ow h r => .ow h (r.pad n)
  | _, _, _, n, .lk h l r => .lk h l (r.pad n)
theorem outs_set {pl : List Nat} {ρ : Env} {n : Nat} {s : Sl} : ∀ {ts : List OT} {m : Nat}, n < m → outs pl (ρ.set n s) m ts = outs pl ρ m ts
  | [], m, h => rfl
  | t :: ts, m, h => by
    unfold outs
    rw [outs_set (ts := ts) (m := m + 1) (by omega)]
    have e : Env.own (ρ.set n s) m = Env.own ρ m := by unfold Env.own; rw [List.getElem?_set_ne (by omega)]
    rw [e]
theorem outs_ok {pl : List Nat} {Hs0 H0 : Hp} {σ : L2.St} : ∀ {ts ws : List OT} {n : Nat} {vs : List V} {ρ : Env} {f0 fp : List Addr}, outs pl ρ n ts = some ws → RpS K T Hs0 H0 [] (ts.map .ow) (vs.map some) f0 → Ex Hs0 Hs →
    (∀ i v, vs[i]? = some v → n + i ∈ pl → σ[n + i]? = some (some v)) → RpS K T Hs H [] ρ σ fp → ∃ fc fr ρ', RpS K T Hs H [] (ws.map .ow) (vs.map some) fc ∧ RpS K T Hs H [] ρ' σ fr ∧ fp.Perm (fc ++ fr)
  | [], ws, n, vs, ρ, f0, fp, h, r0, ex, hv, r => by
    cases Option.some.inj (show some [] = some ws from h)
    cases vs with
    | nil => exact ⟨[], fp, ρ, .nil, r, .refl _⟩
    | cons => cases r0
  | t :: ts, ws, n, [], ρ, f0, fp, h, r0, ex, hv, r => by cases r0
  | t :: ts, ws, n, v :: vs, ρ, f0, fp, h, r0, ex, hv, r => by
    obtain ⟨u, h1, h2⟩ := Option.bind_eq_some_iff.mp h
    obtain ⟨us, h3, rfl⟩ := Option.map_eq_some_iff.mp h2
    have hv' : ∀ i w, vs[i]? = some w → n + 1 + i ∈ pl → σ[n + 1 + i]? = some (some w) := fun i w e m => by
      have := hv (i + 1) w (by simpa using e) (by rw [show n + (i + 1) = n + 1 + i by omega]; exact m)
      rwa [show n + (i + 1) = n + 1 + i by omega] at this
    cases r0 with
    | ow h0 r0 =>
      split at h1
      · rename_i hp
        have hp : n ∈ pl := by simpa using hp
        obtain ⟨v', f, fr, q1, q2, q3, q4⟩ := r.takeOut (own_get h1)
        have e0 := hv 0 v rfl (by simpa using hp)
        simp only [Nat.add_zero] at e0
        rw [e0] at q1
        cases q1
        obtain ⟨fc, fr', ρ', k1, k2, k3⟩ := outs_ok (by rw [outs_set (by omega)]; exact h3) r0 ex hv' q4
        refine ⟨f ++ fc, fr', ρ', .ow q2 k1, k2, q3.trans ?_⟩
        rw [List.append_assoc]
        exact List.Perm.append_left f k3
      · split at h1
        · rename_i d
          cases Option.some.inj h1
          cases h0 with
          | sh h0 =>
            obtain ⟨fc, fr', ρ', k1, k2, k3⟩ := outs_ok h3 r0 ex hv' r
            exact ⟨fc, fr', ρ', RpS.ow (f := []) (.sh (h0.mono ex)) k1, k2, k3⟩
        · cases h1
end
/-- the slots by reference come first -/
def plOk (pl : List Nat) (np : Nat) : Bool := pl.all fun j => decide (j < np)
theorem start_get {N : List Str} {vs : List V} {j : Nat} {v : V} (h : vs[j]? = some v) : (L2.start N vs)[j]? = some (some v) := by
  unfold L2.start
  have hj : j < vs.length := (List.getElem?_eq_some_iff.mp h).1
  rw [List.getElem?_append_left (by simpa using hj), List.getElem?_map, h]; rfl
/-- a def; an __init__ of the named class; a class (which one, the place of its __init__) -/
inductive Kd where
  | fn | ini (cn : Str) | cls (c i : Nat)
  deriving DecidableEq
structure Ent where
  name : Str
  st : Stmt
  N : List Str
  ps : List Str
  fn : Fn
  kd : Kd
/-- what else the checker knows of the defs -/
structure Xt where
  kw : Nat → Option (List Str)
  rk : Str → Bool
def Ent.sg (e : Ent) (bn : List Str) (name : Nat → Str) (ar : Nat → Option Nat) (xt : Xt) (dcs : List (Str × List (Str × Int))) (exs : List ExC) (cls : List (Str × List Str)) : Sg := ⟨e.N, defScope e.st, fun _ => true, bn, name, ar, dcs, exs, cls, xt.kw, xt.rk⟩
def scopeB (N P : List Str) (sc : Scope) : Bool := decide (sc.kind = .function) && !sc.isCoroutine && !sc.isGenerator && decide N.Nodup && decide (N.take P.length = P) && (P.all fun x => decide (sc.names.lookup x = some .local) || decide (sc.names.lookup x = some .cell)) && (sc.names.all fun y => !decide (y.2 = .free))
theorem scope_ok {N P : List Str} {sc : Scope} (h : scopeB N P sc = true) : FnScope N P sc := by
  unfold scopeB at h
  simp only [Bool.and_eq_true, List.all_eq_true, Bool.not_eq_true', decide_eq_true_eq, Bool.or_eq_true, decide_eq_false_iff_not] at h
  obtain ⟨⟨⟨⟨⟨⟨h1, h2⟩, h3⟩, h4⟩, h5⟩, h6⟩, h7⟩ := h
  exact ⟨h1, h2, h3, h4, h5, h6, h7⟩
def Ent.ok (e : Ent) (bn : List Str) (name : Nat → Str) (ar : Nat → Option Nat) (xt : Xt) (dcs : List (Str × List (Str × Int))) (exs : List ExC) (cls : List (Str × List Str)) : Bool := scopeB e.N e.ps (defScope e.st) && decide (e.fn.np = e.ps.length) && decide (e.fn.nv = e.N.length) && plOk e.fn.pl e.fn.np && decide (e.fn.cls = none) && chkSs (e.sg bn name ar xt dcs exs cls) e.fn.body (defBody e.st)
section
variable {P : Program} {w : World} {K : PySem.W.Frag} {mg : Str → Option Value} {base : Heap}
theorem fn_ok {x qual : Str} {e : Ent} {f : Addr} {fd : FuncData} {k : Nat} {name : Nat → Str} {ar : Nat → Option Nat} {xt : Xt} {dcs : List (Str × List (Str × Int))} {exs : List ExC} {cls : List (Str × List Str)} (F : Fun K x qual e.st f fd) (h : e.ok T.bn name ar xt dcs exs cls = true) (hx : ∀ c k, exs[c]? = some k → ExOk P K mg T exs c k) (hxR : ∀ c C, T.exA c = some C → ∃ k, exs[c]? = some k) (hd : ∀ x kvs, dcs.lookup x = some kvs → DctK K w mg x kvs) (hb : ∀ x ∈ T.bn, mg x = none) (hcl : ∀ c C, T.clA c = some C → ∃ k, cls[c]? = some k ∧ L2.Cls K C ∧ ∀ f ∈ k.2, NoAttr K C f)
    (fs : ∀ f n, ar f = some n → ∃ a, FnR P w K mg base k a n (spF K T (Φ f) n) ∧ mg (name f) = some (.ref a) ∧ PySem.W.keepIn K (.ref a) = true ∧ ∀ us, Φ f us ≠ .no → us.length = n)
    (fk : ∀ f ps, xt.kw f = some ps → ∃ a, FnW P w K mg base k a ps (spF K T (Φ f) ps.length) ∧ mg (name f) = some (.ref a) ∧ PySem.W.keepIn K (.ref a) = true ∧ ∀ us, Φ f us ≠ .no → us.length = ps.length) (hrk : ∀ x, xt.rk x = true → RankK K mg x) :
    FnG P w K mg base (k + 1) f fd e.ps (spF K T (e.fn.run Φ) e.ps.length) := by
  unfold Ent.ok at h
  simp only [Bool.and_eq_true, decide_eq_true_eq] at h
  obtain ⟨⟨⟨⟨⟨h1, h2⟩, h3⟩, h4⟩, hcn⟩, h5⟩ := h
  have S := scope_ok h1
  refine fun_G F S (fun vs H Q E q => q.1) fun cdv A outer s H vs Q E gd hr q => ⟨_, pssW _ _, ?_⟩
  obtain ⟨hl, us, Hs, fc, st, kk⟩ := q
  generalize hX : cxOf (L2.CX P w) P w K mg base e.N qual (defScope e.st) f cdv A outer s H E = X
  have FS : FitsS (e.sg T.bn name ar xt dcs exs cls) X T Φ (fun cls d _ H => E cls d H) k := by
    subst hX
    exact ⟨⟨rfl, S.nd, rfl, rfl, rfl, hr, gd, rfl, hb, takes_of rfl rfl rfl rfl, hd, hx, hxR, hcl, fs, fk, hrk⟩, passes_of rfl, rfl, rfl⟩
  have hXK : X.K = K := by subst hX; rfl
  have lus : us.length = vs.length := by have := st.rs.length; simpa using this
  have pl_lt : ∀ j ∈ e.fn.pl, j < vs.length := fun j hj => by
    unfold plOk at h4
    rw [List.all_eq_true] at h4
    have := of_decide_eq_true (h4 j hj)
    omega
  have st0 : StOk X.K T [] Hs H (us.map .ow ++ List.replicate (e.fn.nv - e.fn.np) .no) (L2.start e.N vs) fc := by
    rw [hXK]
    refine ⟨st.ex, ?_, st.nd, st.nf, fun a ha => absurd ha (by simp), fun a ha => absurd ha (by simp)⟩
    have := st.rs.pad (e.fn.nv - e.fn.np)
    rw [show L2.start e.N vs = vs.map some ++ List.replicate (e.fn.nv - e.fn.np) none by unfold L2.start; rw [h3, h2, hl]]
    exact this
  refine snSs (pl := e.fn.pl) e.fn.body FS h5 [] (L2.start e.N vs) H Hs fc _ st0 ?_
  have hpv : ∀ {σ' : L2.St}, (∀ j ∈ e.fn.pl, σ'[j]? = (L2.start e.N vs)[j]?) → ∀ i v, vs[i]? = some v → 0 + i ∈ e.fn.pl → σ'[0 + i]? = some (some v) := fun {σ'} hσ i v e1 hi => by
    rw [Nat.zero_add] at hi ⊢
    rw [hσ i hi]
    exact start_get e1
  have k := kk
  unfold Fn.run at k
  rw [hcn] at k
  simp only at k
  unfold Fn.run0 at k
  rw [if_pos (by omega)] at k
  cases hev : evSs Φ e.fn.pl e.fn.body (us.map .ow ++ List.replicate (e.fn.nv - e.fn.np) .no) with
  | no => rw [hev] at k; exact k.elim
  | ex ee ρ' =>
    rw [hev] at k
    intro σ' H' Hs' fp' C d q xr
    rw [hXK] at q xr
    exact k H' Hs' C d q.st.ex (q.sp.sub fun a ha => absurd ha (by simp)) xr
  | ok fr =>
    obtain ⟨fl, ρ'⟩ := fr
    rw [hev] at k
    cases fl with
    | brk => exact k.elim
    | ct => exact k.elim
    | nx =>
      intro σ' H' Hs' fp' q
      rw [hXK] at q
      have k : Cont (R.ofO ((outs e.fn.pl ρ' 0 us).map fun us => (OT.sh .non, us))) _ _ := k
      cases ho : outs e.fn.pl ρ' 0 us with
      | none => rw [ho] at k; exact k.elim
      | some ws =>
        rw [ho] at k
        obtain ⟨fc', fr', ρ2, k1, k2, k3⟩ := outs_ok ho st.rs q.sp.ex (hpv q.pv) q.st.rs
        have d := List.nodup_append.mp (k3.nodup_iff.mp q.st.nd)
        have m : ∀ a ∈ fc', a ∈ fp' := fun a ha => k3.mem_iff.mpr (by simp [ha])
        exact k .non H' Hs' fc' [] ⟨q.st.ex, k1, d.1, fun a ha => q.st.nf a (m a ha), fun a ha => absurd ha (by simp), fun a ha => absurd ha (by simp)⟩ (.sh .non) (by simpa using d.1) (fun a ha => absurd ha (by simp)) (q.sp.sub fun a ha => m a (by simpa using ha))
    | rt t =>
      intro σ' v H' Hs' fp' ft q
      rw [hXK] at q
      have k : Cont (R.ofO ((outs e.fn.pl ρ' 0 us).map fun us => (t, us))) _ _ := k
      cases ho : outs e.fn.pl ρ' 0 us with
      | none => rw [ho] at k; exact k.elim
      | some ws =>
        rw [ho] at k
        obtain ⟨fc', fr', ρ2, k1, k2, k3⟩ := outs_ok ho st.rs q.sp.ex (hpv q.pv) q.st.rs
        have d := List.nodup_append.mp (k3.nodup_iff.mp q.st.nd)
        have m : ∀ a ∈ fc', a ∈ fp' := fun a ha => k3.mem_iff.mpr (by simp [ha])
        have dn := List.nodup_append.mp q.nd
        exact k v H' Hs' fc' ft ⟨q.st.ex, k1, d.1, fun a ha => q.st.nf a (m a ha), fun a ha => absurd ha (by simp), fun a ha => absurd ha (by simp)⟩ q.rp (List.nodup_append.mpr ⟨dn.1, d.1, fun a ha b hb => dn.2.2 a ha b (m b hb)⟩) q.nf (q.sp.sub fun a ha => (List.mem_append.mp ha).elim (fun z => by simp [z]) fun z => by simp [m a z])
end
end CH
end
section
namespace CH
open PySem L2 Evl PyProof.Rows
/-- where a class of the text stands -/
def clsAt (K : PySem.W.Frag) (x : Str) : Option Addr := match PySem.W.nsIn K mainGlobals x with
  | some (some (.ref C)) => some C
  | _ => none
theorem clsAt_of {K : PySem.W.Frag} {x : Str} {C : Addr} (n : PySem.W.nsIn K mainGlobals x = some (some (.ref C))) : clsAt K x = some C := by unfold clsAt; rw [n]
/-- a def, an __init__, a class as it stands behind the top -/
def Here (K : PySem.W.Frag) (mg : Str → Option Value) (e : Ent) (a : Addr) (fd : FuncData) : Prop := match e.kd with
  | .fn => Fun K e.name e.name e.st a fd ∧ mg e.name = some (.ref a) ∧ Binds K fd e.ps [] ∧ BindsW K fd e.ps
  | .ini cn => Fun K "__init__" e.name e.st a fd ∧ Binds K fd e.ps [] ∧ ∃ C, clsAt K cn = some C ∧ PySem.W.findIn K (.ref C) "__init__" = some (some (.ref a))
  | .cls _ _ => mg e.name = some (.ref a) ∧ clsAt K e.name = some a ∧ ∃ fI, Mk K a fI
theorem fun_bindsW {K : PySem.W.Frag} {x qual : Str} {st : Stmt} {f : Addr} {fd : FuncData} {ps : List Str} (F : Fun K x qual st f fd) (h : ∀ (kV doc pm : Value) (an : Option Addr) (cdv ct : Value) (us : List Value), us.length = ps.length → bindArgs (PySem.W.fnOf x qual (defArgs st) (defBody st) (defScope st) .none kV doc pm an cdv ct) ⟨[], ps.zip us⟩ = pure (ps.zip us)) : BindsW K fd ps := by
  obtain ⟨oc, od, kV, doc, pm, an, cdv, ct, osl, rfl, _⟩ := F.ex
  exact BindsW.all (h kV doc pm an cdv ct)
theorem here_mk {e : Ent} {K : PySem.W.Frag} {h : Heap} {mg : Str → Option Value} (hk : e.kd = .fn) (X : K.In h) (G : h.Ns mainGlobals mg) {a : Addr} {oc kV doc pm cdv ct : Value} {od an : Option Addr} {osl : Array (Option Value)} (n : PySem.W.nsIn K mainGlobals e.name = some (some (.ref a)))
    (l : K.lookup a = some ⟨oc, od, .func (PySem.W.fnOf e.name e.name (defArgs e.st) (defBody e.st) (defScope e.st) .none kV doc pm an cdv ct), osl⟩) (c : PySem.W.codeIn K cdv e.name = true) (k : PySem.W.keepIn K (.ref a) = true)
    (hb : ∀ (kV doc pm : Value) (an : Option Addr) (cdv ct : Value) (us : List Value), us.length = e.ps.length → bindArgs (PySem.W.fnOf e.name e.name (defArgs e.st) (defBody e.st) (defScope e.st) .none kV doc pm an cdv ct) ⟨us, []⟩ = pure (e.ps.zip us))
    (hw : ∀ (kV doc pm : Value) (an : Option Addr) (cdv ct : Value) (us : List Value), us.length = e.ps.length → bindArgs (PySem.W.fnOf e.name e.name (defArgs e.st) (defBody e.st) (defScope e.st) .none kV doc pm an cdv ct) ⟨[], e.ps.zip us⟩ = pure (e.ps.zip us)) :
    ∃ a fd, Here K mg e a fd := by
  have F := fun_mk (st := e.st) l c k
  exact ⟨a, _, by unfold Here; rw [hk]; exact ⟨F, PySem.W.mg_of X G n, F.binds hb, fun_bindsW F hw⟩⟩
theorem here_ini {e : Ent} {cn : Str} {K : PySem.W.Frag} {mg : Str → Option Value} (hk : e.kd = .ini cn) {a C : Addr} {oc kV doc pm cdv ct : Value} {od an : Option Addr} {osl : Array (Option Value)} (n : PySem.W.nsIn K mainGlobals cn = some (some (.ref C))) (i : PySem.W.findIn K (.ref C) "__init__" = some (some (.ref a)))
    (l : K.lookup a = some ⟨oc, od, .func (PySem.W.fnOf "__init__" e.name (defArgs e.st) (defBody e.st) (defScope e.st) .none kV doc pm an cdv ct), osl⟩) (c : PySem.W.codeIn K cdv e.name = true) (k : PySem.W.keepIn K (.ref a) = true)
    (hb : ∀ (kV doc pm : Value) (an : Option Addr) (cdv ct : Value) (us : List Value), us.length = e.ps.length → bindArgs (PySem.W.fnOf "__init__" e.name (defArgs e.st) (defBody e.st) (defScope e.st) .none kV doc pm an cdv ct) ⟨us, []⟩ = pure (e.ps.zip us)) :
    ∃ a fd, Here K mg e a fd := by
  have F := fun_mk (st := e.st) l c k
  exact ⟨a, _, by unfold Here; rw [hk]; exact ⟨F, F.binds hb, C, clsAt_of n, i⟩⟩
theorem here_cls {e : Ent} {c i : Nat} {K : PySem.W.Frag} {h : Heap} {mg : Str → Option Value} (hk : e.kd = .cls c i) (X : K.In h) (G : h.Ns mainGlobals mg) {a C : Addr} (n : PySem.W.nsIn K mainGlobals e.name = some (some (.ref C))) (mk : PySem.W.makesIn K C = true) (i : PySem.W.findIn K (.ref C) "__init__" = some (some (.ref a)))
    (fn : PySem.W.isFn K (.ref a) = true) (kp : PySem.W.keepIn K (.ref C) = true) : ∃ a fd, Here K mg e a fd :=
  ⟨C, PySem.W.fnOf "" "" (defArgs (.Pass ⟨0, 0, 0, 0⟩)) [] (defScope (.Pass ⟨0, 0, 0, 0⟩)) .none .none .none .none none .none .none, by unfold Here; rw [hk]; exact ⟨PySem.W.mg_of X G n, clsAt_of n, a, mk, i, fn, kp⟩⟩
def nmOf (ents : List Ent) (f : Nat) : Str := match ents[f]? with
  | some e => e.name
  | none => ""
def Ent.ar (e : Ent) : Option Nat := match e.kd with
  | .ini _ => none
  | _ => some e.ps.length
def arOf (ents : List Ent) (f : Nat) : Option Nat := (ents[f]?).bind Ent.ar
def Ent.kwn (e : Ent) : Option (List Str) := match e.kd with
  | .fn => some e.ps
  | _ => none
def Ent.rkb (e : Ent) : Bool := match e.kd, e.ps with
  | .fn, [p] => rankB e.st p
  | _, _ => false
def xtOf (bn : List Str) (ents : List Ent) : Xt := ⟨fun f => (ents[f]?).bind Ent.kwn, fun x => bn.contains "abs" && ents.any fun e => decide (e.name = x) && e.rkb⟩
def tbOf (ents : List Ent) (f : Nat) : Option Fn := (ents[f]?).map (·.fn)
/-- what the checker says of an entry -/
def Ent.good (e : Ent) (ents : List Ent) (bn : List Str) (dcs : List (Str × List (Str × Int))) (exs : List ExC) (cls : List (Str × List Str)) : Bool := match e.kd with
  | .cls c i => decide (e.fn.cls = some (c, i)) && (match cls[c]? with
    | some k => decide (k.1 = e.name)
    | none => false) && (match ents[i]? with
    | some e' => decide (e'.kd = .ini e.name) && decide (e'.ps.length = e.ps.length + 1)
    | none => false)
  | _ => e.ok bn (nmOf ents) (arOf ents) (xtOf bn ents) dcs exs cls
theorem pick {K : PySem.W.Frag} {mg : Str → Option Value} : ∀ {ents : List Ent}, (∀ e ∈ ents, ∃ a fd, Here K mg e a fd) → ∃ (A : Nat → Addr) (FD : Nat → FuncData), ∀ i e, ents[i]? = some e → Here K mg e (A i) (FD i)
  | [], _ => ⟨fun _ => 0, fun _ => (PySem.W.fnOf "" "" (defArgs (.Pass ⟨0, 0, 0, 0⟩)) [] (defScope (.Pass ⟨0, 0, 0, 0⟩)) .none .none .none .none none .none .none), fun i e h => by simp at h⟩
  | e0 :: r, h => by
    obtain ⟨a, fd, h0⟩ := h e0 (by simp)
    obtain ⟨A, FD, h1⟩ := pick (ents := r) fun e he => h e (by simp [he])
    refine ⟨fun i => match i with
      | 0 => a
      | i + 1 => A i, fun i => match i with
      | 0 => fd
      | i + 1 => FD i, fun i e q => ?_⟩
    cases i with
    | zero => cases (Option.some.inj (show some e0 = some e from q)); exact h0
    | succ i => exact h1 i e (by simpa using q)
/-- what is said of a class that makes instances: its name, its attributes -/
def ClK (K : PySem.W.Frag) (k : Str × List Str) : Prop := ∃ C, clsAt K k.1 = some C ∧ L2.Cls K C ∧ ∀ f ∈ k.2, NoAttr K C f
theorem clk_mk {K : PySem.W.Frag} {k : Str × List Str} {C : Addr} (n : PySem.W.nsIn K mainGlobals k.1 = some (some (.ref C))) (pg : PySem.W.plainGet K C Str.empty = true) (hd : PySem.W.hasDictIn K C = true) (po : PySem.W.plainOver K C = true) (sa : PySem.W.findIn K (.ref C) "__setattr__" = some (some (.builtin "object.__setattr__")))
    (na : ∀ f ∈ k.2, PySem.W.findIn K (.ref C) f = some none) : ClK K k := ⟨C, clsAt_of n, ⟨pg, hd, po, sa⟩, na⟩
def tabOf (K : PySem.W.Frag) (bn : List Str) (exs : List ExC) (cls : List (Str × List Str)) : Tab := ⟨fun _ => none, fun c => (cls[c]?).bind fun k => clsAt K k.1, fun c => (exs[c]?).bind fun k => clsAt K k.1, fun c => match exs[c]? with
  | some k => k.2.1
  | none => [], fun _ => "", fun _ => "", bn⟩
/-- what is said of a class of the text -/
def ExK (prog : Program) (K : PySem.W.Frag) (mg : Str → Option Value) (exs : List ExC) (c : Nat) (k : ExC) : Prop := ∃ C, clsAt K k.1 = some C ∧ mg k.1 = some (.ref C) ∧ (k.2.1 ≠ [] → ∃ fI, ExTxt prog K mg C fI k.2.1) ∧
  ∀ (c' : Nat) (k' : ExC), exs[c']? = some k' → ∃ C', clsAt K k'.1 = some C' ∧ PySem.W.exmOne K (.ref C') (.ref C) = some (k'.2.2.contains c)
/-- the classes of a text beside one of them -/
def ExmAll (K : PySem.W.Frag) (C : Addr) (c : Nat) : List ExC → Prop
  | [] => True
  | k :: r => (∃ C', clsAt K k.1 = some C' ∧ PySem.W.exmOne K (.ref C') (.ref C) = some (k.2.2.contains c)) ∧ ExmAll K C c r
theorem exmAll_get {K : PySem.W.Frag} {C : Addr} {c : Nat} : ∀ {l : List ExC} {c' : Nat} {k' : ExC}, ExmAll K C c l → l[c']? = some k' → ∃ C', clsAt K k'.1 = some C' ∧ PySem.W.exmOne K (.ref C') (.ref C) = some (k'.2.2.contains c)
  | k :: r, 0, k', h, e => by cases (Option.some.inj (show some k = some k' from e)); exact h.1
  | k :: r, c' + 1, k', h, e => exmAll_get h.2 (by simpa using e)
  | [], _, _, _, e => by simp at e
theorem exk_mk {prog : Program} {K : PySem.W.Frag} {mg : Str → Option Value} {h : Heap} {exs : List ExC} {c : Nat} {k : ExC} {C : Addr} (X : K.In h) (G : h.Ns mainGlobals mg) (n : PySem.W.nsIn K mainGlobals k.1 = some (some (.ref C))) (t : k.2.1 ≠ [] → ∃ fI, ExTxt prog K mg C fI k.2.1) (m : ExmAll K C c exs) : ExK prog K mg exs c k :=
  ⟨C, clsAt_of n, PySem.W.mg_of X G n, t, fun _ _ e => exmAll_get m e⟩
/-- the text of a class over ValueError whose __init__ says super().__init__('..') and stores its parameters, from the facts one by one -/
theorem ext_mk {prog : Program} {K : PySem.W.Frag} {mg : Str → Option Value} {h : Heap} {C fI : Addr} {fs : List Str} (X : K.In h) (G : h.Ns mainGlobals mg)
    {nm q : Str} {N : Addr} {bs bm : List Value} {sn : List Str} {sub : List Value} {ab : Bool} {col : Option Bool} {dd : Option Addr} {k0 k1 k2 k3 k5 : Option Value}
    (cl : K.lookup C = some (excClassObj nm q C N bs bm true sn sub ab col dd k0 k1 k2 k3 k5 "ValueError.__new__")) (rv : PySem.HandSPX.refsVE bm = true)
    (sa : PySem.W.findIn K (.ref C) "__setattr__" = some (some (.builtin "object.__setattr__"))) (ga : PySem.W.findIn K (.ref C) "__getattribute__" = some (some (.builtin "BaseException.__getattribute__"))) (gg : PySem.W.findIn K (.ref C) "__getattr__" = some none)
    (noN : ∀ f ∈ fs, PySem.W.findIn K (.ref C) f = some none) (iC : PySem.W.findIn K (.ref C) "__init__" = some (some (.ref fI))) (tC : PySem.W.typeIn K (.ref fI) = some (.type "function")) (kC : PySem.W.keepIn K (.ref C) = true)
    (exC : PySem.W.subIn K (.ref C) (.type "BaseException") = some true) (veC : PySem.W.subIn K (.ref C) (.type "ValueError") = some true) (tyC : PySem.W.typeIn K (.ref C) = some (.type "type")) (hdC : PySem.W.hasDictIn K C = true)
    (sup : PySem.W.ks_superIn K C C "__init__" = some (some (.builtin "ValueError.__init__"))) (meC : PySem.W.mroIn K C (.ref C) = some true) (noS : PySem.W.nsIn K mainGlobals "super" = some none) (opq : PySem.W.nsIn K cStatics "thirdparty.any" = some none)
    (top : (prog.main.scope.names.lookup ("super" : Str)).isSome = false) (fld : ∀ f ∈ fs, (f == ("__debug__" : Str)) = false ∧ f ≠ ("self" : Str)) (nd : fs.Nodup) (few : fs.length ≤ 8)
    {oc : Value} {od : Option Addr} {doc pm : Value} {an : Option Addr} {cda cc : Addr} {ct : Value} {osl : Array (Option Value)} {qual : Str} {params : Arguments} {body : List Stmt} {scope : Scope}
    (lf : K.lookup fI = some ⟨oc, od, .func (PySem.W.ksFn "__init__" qual params body scope .none .none doc pm an (.ref cda) ct cc), osl⟩) (cd : PySem.W.codeIn K (.ref cda) qual = true)
    {ccl : Value} {cdd : Option Addr} {vs : Array Value} {ccs : Array (Option Value)} {file : Str} {tf : Tok} (lc : K.lookup cda = some ⟨ccl, cdd, .fields vs, ccs⟩) (v2 : vs[2]? = some (.str file tf)) (fl : ((prog.main.file : Str) == file) = true)
    {cl' : Value} {cld : Option Addr} {csl : Array (Option Value)} (lcc : K.lookup cc = some ⟨cl', cld, .cell (some (.ref C)), csl⟩)
    (sf : ∃ ar : Arg, (params.posonlyargs ++ params.args).head? = some ar ∧ ar.arg = "self")
    (bd : ∀ (s : Shared) (u : Value) (vs : List Value), vs.length = fs.length → BindsTo s (PySem.W.ksFn "__init__" qual params body scope .none .none doc pm an (.ref cda) ct cc) ⟨u :: vs, []⟩ (("self", u) :: fs.zip vs))
    (sc : scope.names.lookup ("super" : Str) = some .globalImplicit ∧ scope.names.lookup ("__class__" : Str) = some .free ∧ scope.names.lookup ("self" : Str) = some .local ∧ (∀ f ∈ fs, scope.names.lookup f = some .local) ∧ (∀ x ∈ scope.names, x.2 ≠ .cell) ∧ scope.isCoroutine = false ∧ scope.isGenerator = false ∧ scope.kind = .function)
    (ini : InitIs fs body) : fs ≠ [] → ∃ fI, ExTxt prog K mg C fI fs := fun _ =>
  ⟨fI, ⟨_, _, _, _, _, _, _, _, _, _, _, _, _, _, _, cl, rv⟩, sa, ga, gg, noN, iC, tC, kC, exC, veC, tyC, hdC, sup, meC, PySem.W.mg_none_of X G noS, opq, top, fld, nd, few,
    _, _, _, _, _, _, _, _, _, _, _, _, _, lf, cd, ⟨_, _, _, _, _, _, lc, v2, fl⟩, ⟨_, _, _, lcc⟩, sf, bd, sc.1, sc.2.1, sc.2.2.1, sc.2.2.2.1, sc.2.2.2.2.1, sc.2.2.2.2.2.1, sc.2.2.2.2.2.2.1, sc.2.2.2.2.2.2.2, ini⟩
theorem exs_nil {prog : Program} {K : PySem.W.Frag} {mg : Str → Option Value} : ∀ (c : Nat) (k : ExC), ([] : List ExC)[c]? = some k → ExK prog K mg [] c k := fun c k e => by simp at e
/-- class by class -/
def ExAll (prog : Program) (K : PySem.W.Frag) (mg : Str → Option Value) (exs : List ExC) : Nat → List ExC → Prop
  | _, [] => True
  | c, k :: r => ExK prog K mg exs c k ∧ ExAll prog K mg exs (c + 1) r
theorem exAll_get {prog : Program} {K : PySem.W.Frag} {mg : Str → Option Value} {exs : List ExC} : ∀ {l : List ExC} {n c : Nat} {k : ExC}, ExAll prog K mg exs n l → l[c]? = some k → ExK prog K mg exs (n + c) k
  | k :: r, n, 0, k', h, e => by cases (Option.some.inj (show some k = some k' from e)); exact h.1
  | k :: r, n, c + 1, k', h, e => by
    have := exAll_get (n := n + 1) (c := c) h.2 (by simpa using e)
    rw [show n + (c + 1) = n + 1 + c by omega]; exact this
  | [], _, _, _, _, e => by simp at e
theorem exs_all {prog : Program} {K : PySem.W.Frag} {mg : Str → Option Value} {exs : List ExC} (h : ExAll prog K mg exs 0 exs) : ∀ (c : Nat) (k : ExC), exs[c]? = some k → ExK prog K mg exs c k := fun c k e => by
  have := exAll_get h e
  rwa [Nat.zero_add] at this
theorem exk_ok {prog : Program} {K : PySem.W.Frag} {mg : Str → Option Value} {bn : List Str} {exs : List ExC} {cls : List (Str × List Str)} (h : ∀ c k, exs[c]? = some k → ExK prog K mg exs c k) : (∀ c k, exs[c]? = some k → ExOk prog K mg (tabOf K bn exs cls) exs c k) ∧ ∀ c C, (tabOf K bn exs cls).exA c = some C → ∃ k, exs[c]? = some k := by
  refine ⟨fun c k e => ?_, fun c C e => ?_⟩
  · obtain ⟨C, h1, h2, h3, h4⟩ := h c k e
    refine ⟨C, ?_, ?_, h2, h3, fun c' k' e' => ?_⟩
    · show (exs[c]?).bind _ = _
      rw [e]; exact h1
    · show (match exs[c]? with
        | some k => k.2.1
        | none => []) = _
      rw [e]
    · obtain ⟨C', q1, q2⟩ := h4 c' k' e'
      refine ⟨C', ?_, q2⟩
      show (exs[c']?).bind _ = _
      rw [e']; exact q1
  · obtain ⟨k, h1, _⟩ := Option.bind_eq_some_iff.mp (show ((exs[c]?).bind fun k => clsAt K k.1) = some C from e)
    exact ⟨k, h1⟩
section
variable {P : Program} {w : World} {K : PySem.W.Frag} {mg : Str → Option Value} {base : Heap}
theorem len_of {ents : List Ent} {bn : List Str} {dcs : List (Str × List (Str × Int))} {exs : List ExC} {cls : List (Str × List Str)} (hok : ∀ e ∈ ents, e.good ents bn dcs exs cls = true) : ∀ (k i : Nat) (e : Ent) (us : List OT), ents[i]? = some e → runD (tbOf ents) k i us ≠ .no → us.length = e.ps.length
  | 0, i, e, us, h, hne => absurd rfl hne
  | k + 1, i, e, us, h, hne => by
    have q' : runD (tbOf ents) (k + 1) i us = e.fn.run (runD (tbOf ents) k) us := by simp only [runD, tbOf, h, Option.map_some]
    rw [q'] at hne
    have ok := hok e (List.mem_of_getElem? h)
    have fnc : e.ok bn (nmOf ents) (arOf ents) (xtOf bn ents) dcs exs cls = true → us.length = e.ps.length := fun ok => by
      unfold Ent.ok at ok
      simp only [Bool.and_eq_true, decide_eq_true_eq] at ok
      unfold Fn.run at hne
      rw [ok.1.2] at hne
      simp only at hne
      unfold Fn.run0 at hne
      split at hne
      · rename_i hl; rw [hl, ok.1.1.1.1.2]
      · exact absurd rfl hne
    unfold Ent.good at ok
    split at ok
    · rename_i c j hk
      simp only [Bool.and_eq_true, decide_eq_true_eq] at ok
      obtain ⟨⟨o1, o2⟩, o3⟩ := ok
      cases hj : ents[j]? with
      | none => rw [hj] at o3; cases o3
      | some e' =>
        rw [hj] at o3
        simp only [Bool.and_eq_true, decide_eq_true_eq] at o3
        unfold Fn.run at hne
        rw [o1] at hne
        have hne2 : runD (tbOf ents) k j (.obj c [] [] :: us) ≠ .no := fun z => hne (by simp only [z, mkR])
        have := len_of hok k j e' _ hj hne2
        simp only [List.length_cons] at this
        omega
    · exact fnc ok
theorem run_ok {T : Tab} {ents : List Ent} {dcs : List (Str × List (Str × Int))} {exs : List ExC} {cls : List (Str × List Str)} {A : Nat → Addr} {FD : Nat → FuncData} (hs : ∀ i e, ents[i]? = some e → Here K mg e (A i) (FD i)) (hok : ∀ e ∈ ents, e.good ents T.bn dcs exs cls = true) (hd : ∀ x kvs, dcs.lookup x = some kvs → DctK K w mg x kvs) (hb : ∀ x ∈ T.bn, mg x = none) (hx : ∀ c k, exs[c]? = some k → ExOk P K mg T exs c k) (hxR : ∀ c C, T.exA c = some C → ∃ k, exs[c]? = some k)
    (hT : ∀ c, T.clA c = (cls[c]?).bind fun k => clsAt K k.1) (hc : ∀ k ∈ cls, ClK K k) :
    ∀ k i e, ents[i]? = some e → ((∃ c j, e.kd = .cls c j) → FnR P w K mg base k (A i) e.ps.length (spF K T (runD (tbOf ents) k i) e.ps.length)) ∧ ((∀ c j, e.kd ≠ .cls c j) → FnG P w K mg base k (A i) (FD i) e.ps (spF K T (runD (tbOf ents) k i) e.ps.length))
  | 0, i, e, h => ⟨fun _ => ⟨fun q => q.1, fun X W {pins σ H s Q us vs} _ _ _ _ _ _ _ _ _ _ q => by
    obtain ⟨_, us, Hs, fc, st, k⟩ := q
    exact k.elim⟩, fun _ => ⟨fun q => q.1, fun gd hr e0 hv hbi q => by
    obtain ⟨_, us, Hs, fc, st, k⟩ := q
    exact k.elim⟩⟩
  | k + 1, i, e, h => by
    have hcl : ∀ c C, T.clA c = some C → ∃ k, cls[c]? = some k ∧ L2.Cls K C ∧ ∀ f ∈ k.2, NoAttr K C f := fun c C q => by
      rw [hT] at q
      obtain ⟨kx, q1, q2⟩ := Option.bind_eq_some_iff.mp q
      obtain ⟨C', y1, y2, y3⟩ := hc kx (List.mem_of_getElem? q1)
      rw [y1] at q2
      cases q2
      exact ⟨kx, q1, y2, y3⟩
    have q : runD (tbOf ents) (k + 1) i = e.fn.run (runD (tbOf ents) k) := by
      funext ts
      simp only [runD, tbOf, h, Option.map_some]
    rw [q]
    have hh := hs i e h
    have ok := hok e (List.mem_of_getElem? h)
    refine ⟨fun ⟨c, j, hk⟩ => ?_, fun hk => ?_⟩
    · unfold Here at hh
      rw [hk] at hh
      obtain ⟨h1, h2, fI, M⟩ := hh
      unfold Ent.good at ok
      rw [hk] at ok
      simp only [Bool.and_eq_true, decide_eq_true_eq] at ok
      obtain ⟨⟨o1, o2⟩, o3⟩ := ok
      cases hj : ents[j]? with
      | none => rw [hj] at o3; cases o3
      | some e' =>
        rw [hj] at o3
        simp only [Bool.and_eq_true, decide_eq_true_eq] at o3
        cases hcx : cls[c]? with
        | none => rw [hcx] at o2; cases o2
        | some kx =>
          rw [hcx] at o2
          simp only [decide_eq_true_eq] at o2
          have hh' := hs j e' hj
          unfold Here at hh'
          rw [o3.1] at hh'
          obtain ⟨F, b, C, g1, g2⟩ := hh'
          rw [h2] at g1
          cases g1
          have := M.init
          rw [g2] at this
          cases this
          have G := (run_ok hs hok hd hb hx hxR hT hc k j e' hj).2 (fun c' j' z => by rw [o3.1] at z; cases z)
          have hA : T.clA c = some (A i) := by rw [hT, hcx]; show clsAt K kx.1 = _; rw [o2]; exact h2
          obtain ⟨_, _, y2, _⟩ := hcl c _ hA
          have e1 : e.fn.run (runD (tbOf ents) k) = fun us => mkR (runD (tbOf ents) k j (.obj c [] [] :: us)) := by
            funext us
            unfold Fn.run
            rw [o1]
          rw [e1]
          rw [o3.2] at G
          exact G.ofClass b M fun z => cls_sp hA y2 z
    · have F : ∃ x, Fun K x e.name e.st (A i) (FD i) := by
        unfold Here at hh
        split at hh
        · exact ⟨_, hh.1⟩
        · exact ⟨_, hh.1⟩
        · rename_i c j z; exact absurd z (hk c j)
      obtain ⟨x, F⟩ := F
      have ok' : e.ok T.bn (nmOf ents) (arOf ents) (xtOf T.bn ents) dcs exs cls = true := by
        unfold Ent.good at ok
        split at ok
        · rename_i c j z; exact absurd z (hk c j)
        · exact ok
      refine fn_ok F ok' hx hxR hd hb hcl (fun f n hf => ?_) (fun f ps hf => ?_) (fun x hf => ?_)
      rotate_left
      · obtain ⟨e', h1, h2⟩ := Option.bind_eq_some_iff.mp (show (ents[f]?).bind Ent.kwn = some ps from hf)
        have hh' := hs f e' h1
        have nm : nmOf ents f = e'.name := by unfold nmOf; rw [h1]
        rw [nm]
        have IH := run_ok hs hok hd hb hx hxR hT hc k f e' h1
        unfold Here at hh'
        unfold Ent.kwn at h2
        cases hk' : e'.kd with
        | fn =>
          rw [hk'] at hh' h2
          cases h2
          exact ⟨A f, (IH.2 fun c j z => by rw [hk'] at z; cases z).w hh'.2.2.2, hh'.2.1, hh'.1.kp, fun us hne => len_of hok k f e' us h1 hne⟩
        | ini cn => rw [hk'] at h2; cases h2
        | cls c j => rw [hk'] at h2; cases h2
      · simp only [xtOf, Bool.and_eq_true, List.any_eq_true, decide_eq_true_eq] at hf
        obtain ⟨hab, e', hm, rfl, hr⟩ := hf
        obtain ⟨j, hj⟩ := List.mem_iff_getElem?.mp hm
        have hh' := hs j e' hj
        unfold Here at hh'
        unfold Ent.rkb at hr
        split at hr
        · rename_i p hk' hps
          rw [hk'] at hh'
          exact ⟨hb _ (by simpa using hab), e'.st, A j, FD j, p, hh'.1, hh'.2.1, by rw [← hps]; exact hh'.2.2.1, hr⟩
        · cases hr
      obtain ⟨e', h1, h2⟩ := Option.bind_eq_some_iff.mp hf
      have hh' := hs f e' h1
      have nm : nmOf ents f = e'.name := by unfold nmOf; rw [h1]
      rw [nm]
      unfold Ent.ar at h2
      have IH := run_ok hs hok hd hb hx hxR hT hc k f e' h1
      unfold Here at hh'
      have nn : e'.ps.length = n := by
        split at h2
        · cases h2
        · exact Option.some.inj h2
      subst nn
      refine ⟨A f, ?_⟩
      cases hk' : e'.kd with
      | fn =>
        rw [hk'] at hh'
        exact ⟨(IH.2 fun c j z => by rw [hk'] at z; cases z).r hh'.2.2.1, hh'.2.1, hh'.1.kp, fun us hne => len_of hok k f e' us h1 hne⟩
      | ini cn => rw [hk'] at h2; cases h2
      | cls c j =>
        rw [hk'] at hh'
        obtain ⟨y1, y2, fI, M⟩ := hh'
        exact ⟨IH.1 ⟨c, j, hk'⟩, y1, M.kp, fun us hne => len_of hok k f e' us h1 hne⟩
end
/-- a dict of the module as it is written -/
def EsOk : List DictEntry → List (Str × Int) → Prop
  | [], [] => True
  | e :: r, kv :: kvs => (∃ t, e.key = .str kv.1 t) ∧ (∃ t, e.val = .int kv.2 t) ∧ EsOk r kvs
  | _, _ => False
theorem es_find : ∀ {es : List DictEntry} {kvs : List (Str × Int)} {z : Str}, EsOk es kvs → (es.any (·.refKey)) = false ∧ (∀ n, kvs.lookup z = some n → ∃ e t, es.find? (·.key.isStr z) = some e ∧ e.val = .int n t) ∧ (kvs.lookup z = none → es.find? (·.key.isStr z) = none)
  | [], [], z, _ => ⟨rfl, fun n h => by simp at h, fun _ => rfl⟩
  | [], _ :: _, z, h => h.elim
  | _ :: _, [], z, h => h.elim
  | e :: r, (k, v) :: kvs, z, h => by
    obtain ⟨⟨t, h1⟩, ⟨t', h2⟩, h3⟩ := h
    obtain ⟨i1, i2, i3⟩ := es_find (z := z) h3
    have k1 : e.key.isStr z = (z == k) := by
      rw [h1]
      show (k == z) = (z == k)
      exact Bool.eq_iff_iff.mpr (by simp only [beq_iff_eq]; exact eq_comm)
    have k2 : e.refKey = false := by unfold DictEntry.refKey; rw [h1]
    refine ⟨by rw [List.any_cons, k2, i1]; rfl, fun n hn => ?_, fun hn => ?_⟩
    · rw [List.lookup_cons] at hn
      rw [List.find?_cons, k1]
      cases hz : z == k with
      | true => rw [hz] at hn; cases Option.some.inj hn; exact ⟨e, t', rfl, h2⟩
      | false => rw [hz] at hn; exact i2 n hn
    · rw [List.lookup_cons] at hn
      rw [List.find?_cons, k1]
      cases hz : z == k with
      | true => rw [hz] at hn; cases hn
      | false => rw [hz] at hn; exact i3 hn
theorem dct_mk {K : PySem.W.Frag} {w : World} {mg : Str → Option Value} {h : Heap} {x : Str} {kvs : List (Str × Int)} {d : Addr} {es : Array DictEntry} {n : Nat} (X : K.In h) (G : h.Ns mainGlobals mg) (m : PySem.W.nsIn K mainGlobals x = some (some (.ref d))) (l : K.lookup d = some ⟨.type "dict", none, .dict es n, #[]⟩)
    (lit : PySem.W.KeysLit w.params es.toList) (low : (d == sysModules) = false) (h : EsOk es.toList kvs) : DctK K w mg x kvs := by
  refine ⟨d, es, n, PySem.W.mg_of X G m, ⟨l, lit, low⟩, fun z n hz => ?_, fun z hz => ?_⟩
  · obtain ⟨_, i2, _⟩ := es_find (z := z) h
    obtain ⟨e, t, h1, h2⟩ := i2 n hz
    refine ⟨t, ?_⟩
    unfold PySem.W.nsIn
    rw [l]
    dsimp only
    rw [h1]
    dsimp only
    rw [h2]
  · obtain ⟨i1, _, i3⟩ := es_find (z := z) h
    unfold PySem.W.nsIn
    rw [l]
    dsimp only
    rw [i3 hz, i1]
    rfl
theorem dcs_one {K : PySem.W.Frag} {w : World} {mg : Str → Option Value} {y : Str} {kv : List (Str × Int)} {r : List (Str × List (Str × Int))} (h : DctK K w mg y kv) (hr : ∀ x kvs, r.lookup x = some kvs → DctK K w mg x kvs) : ∀ x kvs, List.lookup x ((y, kv) :: r) = some kvs → DctK K w mg x kvs := fun x kvs e => by
  rw [List.lookup_cons] at e
  cases hz : x == y with
  | true => rw [hz] at e; cases Option.some.inj e; rw [eq_of_beq hz]; exact h
  | false => rw [hz] at e; exact hr x kvs e
/-- the goal that k_head leaves -/
theorem walkL {l : PySem.W.OpenLaw} {q : Program} {loose : List Str} {XP : (Str → Option Value) → Heap → Prop} {YP : World → Heap → Prop} {d : DefRec} {K : Params → PySem.W.Frag} {ents : List Ent} {bn : List Str} {dcs : List (Str × List (Str × Int))} {exs : List ExC} {cls : List (Str × List Str)} {li k : Nat} {e : Ent} {x : Str} (hn : l.most = some 63) (hdf : d.params.defaults = [])
    (hY : ∀ (w : World) (h : Heap), YP w h → (K w.params).In h) (hr : Room k callerA) (hle : ents[li]? = some e) (hps : e.ps = [x]) (hkd : e.kd = .fn) (hnm : d.name = e.name) (hok : ∀ e ∈ ents, e.good ents bn dcs exs cls = true)
    (hrun : ∀ ns : List Int, ns.length ≤ 63 → ∃ ws, runD (tbOf ents) k li [.sh (.flst (ns.map .int))] = .ok (.sh (.bl true), ws))
    (hbd : ∀ (kV doc pm : Value) (an : Option Addr) (cdv ct : Value) (s : Shared) (u : Value), BindsTo s (PySem.W.fnOf e.name e.name (defArgs e.st) (defBody e.st) (defScope e.st) .none kV doc pm an cdv ct) ⟨[u], []⟩ [(x, u)])
    (F : ∀ (w : World) (mg : Str → Option Value) (h : Heap), (K w.params).In h → h.Ns mainGlobals mg → (∀ e ∈ ents, ∃ a fd, Here (K w.params) mg e a fd) ∧ (∀ x ∈ bn, mg x = none) ∧ (∀ x kvs, dcs.lookup x = some kvs → DctK (K w.params) w mg x kvs) ∧ (∀ c k, exs[c]? = some k → ExK l.prog (K w.params) mg exs c k) ∧ ∀ k ∈ cls, ClK (K w.params) k) :
    PySem.W.WalkO q loose XP YP l.row.toRowW d [] (fun f vs => PySem.call f vs) := by
  refine walk_G (n := 63) (k := k) (x := x) (sp := fun w => spF (K w.params) (tabOf (K w.params) bn exs cls) (runD (tbOf ents) k li) 1) hn (by decide) hdf hr hY ?_ ?_ ?_
  · intro w mg fa h KX G hmg
    obtain ⟨hs, hb, hd, hx, hcl⟩ := F w mg h KX G
    obtain ⟨hx1, hx2⟩ := exk_ok (bn := bn) (cls := cls) hx
    obtain ⟨A, FD, hAF⟩ := pick hs
    have H0 := hAF li e hle
    unfold Here at H0
    rw [hkd] at H0
    obtain ⟨HF, Hm, Hb, _⟩ := H0
    have ea : fa = A li := by
      rw [hnm, Hm] at hmg
      cases hmg
      rfl
    subst ea
    refine ⟨FD li, fun s u => ?_, fun base _ _ => ?_⟩
    · obtain ⟨oc, od, kV, doc, pm, an, cdv, ct, osl, h1, _, _⟩ := HF.ex
      rw [h1]
      exact hbd kV doc pm an cdv ct s u
    · have := (run_ok (P := l.prog) (w := w) (base := base) (T := tabOf (K w.params) bn exs cls) hAF hok hd hb hx1 hx2 (fun _ => rfl) hcl k li e hle).2 (fun c j z => by rw [hkd] at z; cases z)
      rw [hps] at this
      exact this
  · intro w H a ns hl hS
    refine ⟨rfl, [.sh (.flst (ns.map .int))], H, [], ⟨Ex.refl _, RpS.ow (f := []) (.sh (.flst hS (rps_of_ints ns))) .nil, .nil, fun a ha => absurd ha (by simp), fun a ha => absurd ha (by simp), fun a ha => absurd ha (by simp)⟩, ?_⟩
    obtain ⟨ws, e⟩ := hrun ns hl
    rw [e]
    intro v H' Hs' fc' ft _ rp _ _ _
    cases rp with
    | sh r => cases r; rfl
  · intro w H s u s' h
    obtain ⟨_, _, _, _, _, _, _, _, _, _, _, _, z⟩ := h
    exact z
end CH
end
section
namespace CH
open PySem L2 Evl PyProof.Rows
abbrev iT (i : Int) : OT := .sh (.int i)
theorem ev_eq_ii (a b : Int) : Op.ev (.cmp .eq) [.sh (.int a), .sh (.int b)] = some (.sh (.bl (decide (a = b)))) := rfl
theorem ev_ne_ii (a b : Int) : Op.ev (.cmp .ne) [.sh (.int a), .sh (.int b)] = some (.sh (.bl (!decide (a = b)))) := rfl
theorem ev_lt_ii (a b : Int) : Op.ev (.cmp .lt) [.sh (.int a), .sh (.int b)] = some (.sh (.bl (decide (a < b)))) := rfl
theorem ev_le_ii (a b : Int) : Op.ev (.cmp .le) [.sh (.int a), .sh (.int b)] = some (.sh (.bl (decide (a ≤ b)))) := rfl
theorem ev_gt_ii (a b : Int) : Op.ev (.cmp .gt) [.sh (.int a), .sh (.int b)] = some (.sh (.bl (decide (b < a)))) := rfl
theorem ev_ge_ii (a b : Int) : Op.ev (.cmp .ge) [.sh (.int a), .sh (.int b)] = some (.sh (.bl (decide (b ≤ a)))) := rfl
theorem ev_add_ii (a b : Int) : Op.ev (.bin .add) [.sh (.int a), .sh (.int b)] = some (.sh (.int (a + b))) := rfl
theorem ev_sub_ii (a b : Int) : Op.ev (.bin .sub) [.sh (.int a), .sh (.int b)] = some (.sh (.int (a - b))) := rfl
theorem ev_mul_ii (a b : Int) (h : mulOk a b = true) : Op.ev (.bin .mul) [.sh (.int a), .sh (.int b)] = some (.sh (.int (a * b))) := by
  show guard_ (mulOk a b) _ = _; rw [h]; rfl
theorem mulOk_r (a b : Int) (h : -(2 ^ 64) < b ∧ b < 2 ^ 64) : mulOk a b = true := by unfold mulOk; rw [decide_eq_true h, Bool.or_true]
theorem mulOk_l (a b : Int) (h : -(2 ^ 64) < a ∧ a < 2 ^ 64) : mulOk a b = true := by unfold mulOk; rw [decide_eq_true h, Bool.true_or]
theorem ev_mod_ii (a b : Int) (h : 0 < b) : Op.ev (.bin .mod) [.sh (.int a), .sh (.int b)] = some (.sh (.int (a % b))) := by
  show guard_ (decide (0 < b)) _ = _; rw [decide_eq_true h]; rfl
theorem ev_fdiv_ii (a b : Int) (h : 0 < b ∧ b < 1073741824) : Op.ev (.bin .fdiv) [.sh (.int a), .sh (.int b)] = some (.sh (.int (a / b))) := by
  show guard_ (decide (0 < b ∧ b < 1073741824)) _ = _; rw [decide_eq_true h]; rfl
theorem ev_pow_10 (n : Nat) (h : n ≤ 1000000) : Op.ev (.bin .pow) [.sh (.int 10), .sh (.int (n : Int))] = some (.sh (.int (10 ^ n))) := by
  show guard_ (decide (0 ≤ (n : Int) ∧ (n : Int) ≤ 1000000 ∧ (10 : Int).natAbs < 2 ^ 64)) (OT.sh (.int (10 ^ (n : Int).toNat))) = _
  rw [decide_eq_true ⟨by omega, by omega, by decide⟩]; rfl
theorem ev_neg_i (a : Int) : Op.ev .neg [.sh (.int a)] = some (.sh (.int (-a))) := rfl
theorem ev_int_i (a : Int) : Op.ev (.bi .int) [.sh (.int a)] = some (.sh (.int a)) := rfl
theorem ev_abs_i (a : Int) : Op.ev (.bi .abs) [.sh (.int a)] = some (.sh (.int (if a < 0 then -a else a))) := rfl
theorem ev_len_l (ts : List OT) : Op.ev (.bi .len) [.lst ts] = some (.sh (.int ts.length)) := rfl
theorem ev_len_t (ds : List D) : Op.ev (.bi .len) [.sh (.tup ds)] = some (.sh (.int ds.length)) := rfl
theorem ev_len_f (ds : List D) : Op.ev (.bi .len) [.sh (.flst ds)] = some (.sh (.int ds.length)) := rfl
theorem ev_idx (t : OT) (i : Int) : Op.ev .idx [t, .sh (.int i)] = idxEv t i := rfl
theorem tru_b (b : Bool) : truEv (.sh (.bl b)) = some b := rfl
def poolL (a b c : Int) (r : List Int) : List OT := iT a :: iT b :: iT c :: r.map iT
theorem pool_len (a b c : Int) (r : List Int) : (poolL a b c r).length = 3 + r.length := by unfold poolL; simp; omega
theorem leaves_i (l : List Int) : leaves (l.map iT) = some (l.map .int) := by
  induction l with
  | nil => rfl
  | cons a l ih => show (leaves (l.map iT)).map (D.int a :: ·) = _; rw [ih]; rfl
theorem pool_items (a b c : Int) (r : List Int) : OT.items (.lst (poolL a b c r)) = some ((a :: b :: c :: r).map .int) := leaves_i (a :: b :: c :: r)
theorem pool_0 (a b c : Int) (r : List Int) : idxEv (.lst (poolL a b c r)) 0 = some (.sh (.int a)) := by
  show (OT.items (.lst (poolL a b c r))).bind _ = _
  rw [pool_items]
  show (atI ((a :: b :: c :: r).map D.int) ((0 : Nat) : Int)).map OT.sh = _
  rw [atI_nat (v := D.int a) rfl]; rfl
theorem pool_1 (a b c : Int) (r : List Int) : idxEv (.lst (poolL a b c r)) 1 = some (.sh (.int b)) := by
  show (OT.items (.lst (poolL a b c r))).bind _ = _
  rw [pool_items]
  show (atI ((a :: b :: c :: r).map D.int) ((1 : Nat) : Int)).map OT.sh = _
  rw [atI_nat (v := D.int b) rfl]; rfl
theorem pool_2 (a b c : Int) (r : List Int) : idxEv (.lst (poolL a b c r)) 2 = some (.sh (.int c)) := by
  show (OT.items (.lst (poolL a b c r))).bind _ = _
  rw [pool_items]
  show (atI ((a :: b :: c :: r).map D.int) ((2 : Nat) : Int)).map OT.sh = _
  rw [atI_nat (v := D.int c) rfl]; rfl
def cellP (a b c : Int) (r : List Int) (i : Int) : Int := (a :: b :: c :: r).getD i.toNat 0
theorem pool_c (a b c : Int) (r : List Int) (i : Int) (h0 : 0 ≤ i) (h1 : i < 3 + (r.length : Int)) : idxEv (.lst (poolL a b c r)) i = some (.sh (.int (cellP a b c r i))) := by
  show (OT.items (.lst (poolL a b c r))).bind _ = _
  rw [pool_items]
  obtain ⟨n, rfl⟩ : ∃ n : Nat, i = n := ⟨i.toNat, by omega⟩
  have hn : n < (a :: b :: c :: r).length := by simp; omega
  show (atI ((a :: b :: c :: r).map D.int) (n : Int)).map OT.sh = _
  rw [atI_nat (v := D.int ((a :: b :: c :: r)[n])) (by rw [List.getElem?_map, List.getElem?_eq_getElem hn]; rfl)]
  show some (OT.sh (D.int _)) = _
  unfold cellP
  rw [List.getD_eq_getElem?_getD, Int.toNat_natCast, List.getElem?_eq_getElem hn]; rfl
theorem pool_s0 (a b c x : Int) (r : List Int) : muEv .setIx (poolL a b c r) [.sh (.int x), .sh (.int 0)] = some (.sh .non, poolL x b c r) := by
  show (ixN (poolL a b c r).length ((0 : Nat) : Int)).map _ = _
  rw [ixN_nat (by rw [pool_len]; omega)]; rfl
theorem pool_s1 (a b c x : Int) (r : List Int) : muEv .setIx (poolL a b c r) [.sh (.int x), .sh (.int 1)] = some (.sh .non, poolL a x c r) := by
  show (ixN (poolL a b c r).length ((1 : Nat) : Int)).map _ = _
  rw [ixN_nat (by rw [pool_len]; omega)]; rfl
theorem pool_s2 (a b c x : Int) (r : List Int) : muEv .setIx (poolL a b c r) [.sh (.int x), .sh (.int 2)] = some (.sh .non, poolL a b x r) := by
  show (ixN (poolL a b c r).length ((2 : Nat) : Int)).map _ = _
  rw [ixN_nat (by rw [pool_len]; omega)]; rfl
theorem forL_ret {body : Env → R (Fl × Env)} {pl : List Nat} {tg : Tg} {I : Nat → Env → Prop} {Rt : OT → Env → Prop} : ∀ (ds : List D) (n : Nat) (ρ : Env), I n ρ →
    (∀ i d ρ, ds[i]? = some d → I (n + i) ρ → ∃ ρ1 ρ2, setTg pl tg d ρ = some ρ1 ∧ (((body ρ1 = .ok (.nx, ρ2) ∨ body ρ1 = .ok (.ct, ρ2)) ∧ I (n + i + 1) ρ2) ∨ ∃ t, body ρ1 = .ok (.rt t, ρ2) ∧ Rt t ρ2)) →
    (∃ ρ', forL body pl tg ds ρ = .ok (.nx, ρ') ∧ I (n + ds.length) ρ') ∨ ∃ t ρ', forL body pl tg ds ρ = .ok (.rt t, ρ') ∧ Rt t ρ'
  | [], n, ρ, h, _ => .inl ⟨ρ, rfl, h⟩
  | d :: ds, n, ρ, h, st => by
    obtain ⟨ρ1, ρ2, h1, h2⟩ := st 0 d ρ rfl h
    have tail : I (n + 0 + 1) ρ2 → (∃ ρ', forL body pl tg ds ρ2 = .ok (.nx, ρ') ∧ I (n + (d :: ds).length) ρ') ∨ ∃ t ρ', forL body pl tg ds ρ2 = .ok (.rt t, ρ') ∧ Rt t ρ' := fun hI => by
      have := forL_ret ds (n + 1) ρ2 hI fun i d' ρ e hi => by
        have := st (i + 1) d' ρ (by simpa using e) (by rw [show n + (i + 1) = n + 1 + i by omega]; exact hi)
        rw [show n + (i + 1) + 1 = n + 1 + i + 1 by omega] at this
        exact this
      rw [show n + (d :: ds).length = n + 1 + ds.length by simp; omega]
      exact this
    unfold forL
    rw [h1]
    simp only
    rcases h2 with ⟨h2 | h2, h3⟩ | ⟨t, h2, h3⟩
    · rw [h2]; exact tail h3
    · rw [h2]; exact tail h3
    · rw [h2]; exact .inr ⟨t, ρ2, rfl, h3⟩
theorem forL_inv {body : Env → R (Fl × Env)} {pl : List Nat} {tg : Tg} {I : Nat → Env → Prop} (ds : List D) (ρ : Env) (h : I 0 ρ)
    (st : ∀ i d ρ, ds[i]? = some d → I i ρ → ∃ ρ1 ρ2, setTg pl tg d ρ = some ρ1 ∧ body ρ1 = .ok (.nx, ρ2) ∧ I (i + 1) ρ2) : ∃ ρ', forL body pl tg ds ρ = .ok (.nx, ρ') ∧ I ds.length ρ' := by
  rcases forL_ret (I := I) (Rt := fun _ _ => False) (body := body) (pl := pl) (tg := tg) ds 0 ρ h (fun i d ρ e hi => by
    rw [Nat.zero_add] at hi ⊢
    obtain ⟨ρ1, ρ2, h1, h2, h3⟩ := st i d ρ e hi
    exact ⟨ρ1, ρ2, h1, .inl ⟨.inl h2, h3⟩⟩) with ⟨ρ', h1, h2⟩ | ⟨_, _, _, h⟩
  · exact ⟨ρ', h1, by simpa using h2⟩
  · exact h.elim
theorem lcL_inv {cond : Env → R (Bool × Env)} {elt : Env → R (OT × Env)} {pl : List Nat} {tg : Tg} {I : Nat → List OT → Env → Prop} : ∀ (ds : List D) (n : Nat) (acc : List OT) (ρ : Env), I n acc ρ →
    (∀ i d acc ρ, ds[i]? = some d → I (n + i) acc ρ → ∃ ρ1 b ρ2, setTg pl tg d ρ = some ρ1 ∧ cond ρ1 = .ok (b, ρ2) ∧ if b = true then ∃ t ρ3, elt ρ2 = .ok (t, ρ3) ∧ acc.length < big ∧ I (n + i + 1) (acc ++ [t]) (wipeE ρ3 tg.slots) else I (n + i + 1) acc (wipeE ρ2 tg.slots)) →
    ∃ ts ρ', lcL cond elt pl tg ds acc ρ = .ok (ts, ρ') ∧ I (n + ds.length) ts ρ'
  | [], n, acc, ρ, h, _ => ⟨acc, ρ, rfl, h⟩
  | d :: ds, n, acc, ρ, h, st => by
    obtain ⟨ρ1, b, ρ2, h1, h2, h3⟩ := st 0 d acc ρ rfl h
    have tail : ∀ acc' ρ', I (n + 0 + 1) acc' ρ' → ∃ ts ρ2, lcL cond elt pl tg ds acc' ρ' = .ok (ts, ρ2) ∧ I (n + (d :: ds).length) ts ρ2 := fun acc' ρ' hI => by
      have := lcL_inv ds (n + 1) acc' ρ' hI fun i d' acc ρ e hi => by
        have := st (i + 1) d' acc ρ (by simpa using e) (by rw [show n + (i + 1) = n + 1 + i by omega]; exact hi)
        rw [show n + (i + 1) + 1 = n + 1 + i + 1 by omega] at this
        exact this
      rw [show n + (d :: ds).length = n + 1 + ds.length by simp; omega]
      exact this
    unfold lcL at tail ⊢
    unfold lcG
    rw [h1]
    simp only
    rw [h2]
    cases b with
    | false => exact tail _ _ h3
    | true =>
      obtain ⟨t, ρ3, h4, h5, h6⟩ := h3
      have : pushE elt acc ρ2 = .ok (acc ++ [t], ρ3) := by
        unfold pushE
        rw [h4]
        simp only
        rw [if_pos h5]
      simp only
      rw [this]
      exact tail _ _ h6
/-- over items that change nothing -/
theorem lcL_pure {cond : Env → R (Bool × Env)} {elt : Env → R (OT × Env)} {pl : List Nat} {i : Nat} {ρ : Env} {p : D → Bool} {g : D → D} (hi : ρ[i]? = some .no) (hp : i ∉ pl) : ∀ (ds : List D) (acc : List D), acc.length + ds.length ≤ big →
    (∀ d ∈ ds, cond (ρ.set i (.ow (.sh d))) = .ok (p d, ρ.set i (.ow (.sh d))) ∧ (p d = true → elt (ρ.set i (.ow (.sh d))) = .ok (.sh (g d), ρ.set i (.ow (.sh d))))) →
    lcL cond elt pl (.one i) ds (acc.map .sh) ρ = .ok ((acc ++ (ds.filter p).map g).map .sh, ρ)
  | [], acc, _, _ => by simp [lcL, lcG]
  | d :: ds, acc, hl, h => by
    obtain ⟨h1, h2⟩ := h d (by simp)
    have ih := fun acc hl => lcL_pure (cond := cond) (elt := elt) hi hp ds acc hl fun d' hd => h d' (by simp [hd])
    have s1 : setTg pl (.one i) d ρ = some (ρ.set i (.ow (.sh d))) := by
      show set1 pl i d ρ = _
      unfold set1
      rw [hi]
      simp [hp]
    have w1 : wipeE (ρ.set i (.ow (.sh d))) (Tg.slots (.one i)) = ρ := by
      show (ρ.set i (.ow (.sh d))).set i .no = ρ
      rw [List.set_set]
      obtain ⟨hlt, e⟩ := List.getElem?_eq_some_iff.mp hi
      rw [← e, List.set_getElem_self]
    unfold lcL at ih ⊢
    unfold lcG
    rw [s1]
    simp only
    rw [h1]
    simp only [List.length_cons] at hl
    cases hp' : p d with
    | false =>
      simp only
      rw [w1, ih acc (by omega), List.filter_cons_of_neg (by simp [hp'])]
    | true =>
      simp only
      have : pushE elt (acc.map .sh) (ρ.set i (.ow (.sh d))) = .ok ((acc ++ [g d]).map .sh, ρ.set i (.ow (.sh d))) := by
        unfold pushE
        rw [h2 hp']
        simp only
        rw [if_pos (by rw [List.length_map]; omega)]
        simp
      rw [this]
      simp only
      rw [w1, ih (acc ++ [g d]) (by simp; omega), List.filter_cons_of_pos hp']
      simp
/-- .. each of which gives a value -/
theorem lcL_map {α : Type} {cond : Env → R (Bool × Env)} {elt : Env → R (OT × Env)} {pl : List Nat} {i : Nat} {ρ : Env} {mk g : α → D} (hi : ρ[i]? = some .no) (hp : i ∉ pl) (xs : List α) (hl : xs.length ≤ big)
    (hc : ∀ ρ, cond ρ = .ok (true, ρ)) (h : ∀ x ∈ xs, elt (ρ.set i (.ow (.sh (mk x)))) = .ok (.sh (g x), ρ.set i (.ow (.sh (mk x))))) :
    lcL cond elt pl (.one i) (xs.map mk) [] ρ = .ok (xs.map fun x => .sh (g x), ρ) := by
  have key : ∀ (xs : List α) (acc : List OT), acc.length + xs.length ≤ big → (∀ x ∈ xs, elt (ρ.set i (.ow (.sh (mk x)))) = .ok (.sh (g x), ρ.set i (.ow (.sh (mk x))))) → lcL cond elt pl (.one i) (xs.map mk) acc ρ = .ok (acc ++ xs.map fun x => .sh (g x), ρ) := by
    intro xs
    induction xs with
    | nil => intro acc _ _; simp [lcL, lcG]
    | cons x xs ih =>
      intro acc hl h
      have s1 : setTg pl (.one i) (mk x) ρ = some (ρ.set i (.ow (.sh (mk x)))) := by
        show set1 pl i (mk x) ρ = _
        unfold set1
        rw [hi]
        simp [hp]
      have w1 : wipeE (ρ.set i (.ow (.sh (mk x)))) (Tg.slots (.one i)) = ρ := by
        show (ρ.set i (.ow (.sh (mk x)))).set i .no = ρ
        rw [List.set_set]
        obtain ⟨hlt, e⟩ := List.getElem?_eq_some_iff.mp hi
        rw [← e, List.set_getElem_self]
      rw [List.map_cons]
      unfold lcL at ih ⊢
      unfold lcG
      rw [s1]
      simp only
      rw [hc]
      simp only
      simp only [List.length_cons] at hl
      have : pushE elt acc (ρ.set i (.ow (.sh (mk x)))) = .ok (acc ++ [.sh (g x)], ρ.set i (.ow (.sh (mk x)))) := by
        unfold pushE
        rw [h x (by simp)]
        simp only
        rw [if_pos (by omega)]
      rw [this]
      simp only
      rw [w1, ih _ (by simp; omega) fun y hy => h y (by simp [hy])]
      simp
  simpa using key xs [] (by simpa using hl) h
theorem litems_sh (ds : List D) : OT.litems (.lst (ds.map .sh)) = some ds := leaves_map ds
theorem blsD_map (l : List Bool) : blsD (l.map .bl) = some l := by
  induction l with
  | nil => rfl
  | cons a l ih => show (blsD (l.map D.bl)).map (a :: ·) = _; rw [ih]; rfl
theorem ev_all {α : Type} (xs : List α) (f : α → Bool) : Op.ev (.bi .all) [.lst (xs.map fun x => .sh (.bl (f x)))] = some (.sh (.bl (xs.all f))) := by
  have e1 : (xs.map fun x => OT.sh (.bl (f x))) = ((xs.map f).map D.bl).map OT.sh := by rw [List.map_map, List.map_map]; rfl
  rw [e1]
  show (OT.litems _).bind _ = _
  rw [litems_sh]
  show (blsD ((xs.map f).map D.bl)).map _ = _
  rw [blsD_map]
  show some (OT.sh (D.bl ((xs.map f).all id))) = _
  rw [List.all_map]; rfl
theorem cm_le_ii (a b : Int) : cmpEv .le (.sh (.int a)) (.sh (.int b)) = some (decide (a ≤ b)) := rfl
theorem cm_lt_ii (a b : Int) : cmpEv .lt (.sh (.int a)) (.sh (.int b)) = some (decide (a < b)) := rfl
theorem toDs_map {α : Type} (xs : List α) (g : α → D) : toDs (xs.map fun x => .sh (g x)) = xs.map g := by
  induction xs with
  | nil => rfl
  | cons a l ih => show OT.toD (.sh (g a)) :: toDs (l.map fun x => .sh (g x)) = _; rw [ih]; rfl
theorem all_ints {ds : List D} {p : D → Bool} (hp : ∀ d, p d = true → ∃ i, d = .int i) (h : ds.all p = true) : ∃ ns : List Int, ds = ns.map .int := by
  induction ds with
  | nil => exact ⟨[], rfl⟩
  | cons d ds ih =>
    rw [List.all_cons, Bool.and_eq_true] at h
    obtain ⟨i, rfl⟩ := hp d h.1
    obtain ⟨ns, rfl⟩ := ih h.2
    exact ⟨i :: ns, rfl⟩
theorem ev_isi_t (tys : List String) (d : D) : Op.ev (.isi tys) [.sh d] = d.tyName.map fun a => .sh (.bl (tys.any fun b => isTy a b)) := rfl
theorem ss_next {Φ : Phi} {pl : List Nat} {s : CS} {r : CSs} {ρ ρ1 : Env} (h : evS Φ pl s ρ = .ok (.nx, ρ1)) : evSs Φ pl (.cons s r) ρ = evSs Φ pl r ρ1 := by rw [evSs, h]; rfl
theorem ss_stop {Φ : Phi} {pl : List Nat} {s : CS} {r : CSs} {ρ ρ1 : Env} {t : OT} (h : evS Φ pl s ρ = .ok (.rt t, ρ1)) : evSs Φ pl (.cons s r) ρ = .ok (.rt t, ρ1) := by rw [evSs, h]; rfl
theorem ife_t {Φ : Phi} {pl : List Nat} {t : CT} {a b : CSs} {ρ ρ1 : Env} (h : evT Φ pl t ρ = .ok (true, ρ1)) : evS Φ pl (.ife t a b) ρ = evSs Φ pl a ρ1 := by rw [evS, h]; rfl
theorem ife_f {Φ : Phi} {pl : List Nat} {t : CT} {a b : CSs} {ρ ρ1 : Env} (h : evT Φ pl t ρ = .ok (false, ρ1)) : evS Φ pl (.ife t a b) ρ = evSs Φ pl b ρ1 := by rw [evS, h]; rfl
theorem ss_end {Φ : Phi} {pl : List Nat} {s : CS} {ρ : Env} : evSs Φ pl (.cons s .nil) ρ = evS Φ pl s ρ := by
  rw [evSs]
  cases evS Φ pl s ρ with
  | ok p =>
    obtain ⟨f, ρ1⟩ := p
    cases f <;> simp [CH.R.bind, evSs]
  | ex e ρ1 => rfl
  | no => rfl
theorem run_rt {Φ : Phi} {fn : Fn} {ts us : List OT} {ρ : Env} {t : OT} (hl : ts.length = fn.np) (h : evSs Φ fn.pl fn.body (ts.map .ow ++ List.replicate (fn.nv - fn.np) .no) = .ok (.rt t, ρ)) (ho : outs fn.pl ρ 0 ts = some us) (hc : fn.cls = none := by rfl) : fn.run Φ ts = .ok (t, us) := by
  unfold Fn.run
  rw [hc]
  simp only
  unfold Fn.run0
  rw [if_pos hl, h]
  simp only [ho]
  rfl
end CH
end
section
namespace CH
open PySem L2 Evl PyProof.Rows
theorem patch_same (m : Nat → Bool) : ∀ ρ : Env, patch m ρ ρ = ρ
  | [] => rfl
  | a :: as => by
    show (if m 0 = true then a else a) :: patch (fun j => m (j + 1)) as as = _
    rw [patch_same (fun j => m (j + 1)) as, ite_self]
theorem backE_same (ρ : Env) (vs : List Nat) : backE ρ ρ vs = ρ := patch_same _ ρ
theorem set_no {ρ : Env} {i : Nat} (h : ρ[i]? = some .no) : ρ.set i .no = ρ := by
  obtain ⟨hlt, e⟩ := List.getElem?_eq_some_iff.mp h
  rw [← e, List.set_getElem_self]
theorem wipe_one {ρ : Env} {i : Nat} (h : ρ[i]? = some .no) : wipeE ρ (Tg.slots (.one i)) = ρ := set_no h
theorem quiet_one {ρ : Env} {i : Nat} (h : ρ[i]? = some .no) : quietAll ρ (Tg.slots (.one i)) = true := by
  show ([i].all fun i => quietSl (ρ.getD i (.lk (.sh .non)))) = true
  rw [List.all_cons, List.getD_eq_getElem?_getD, h]; rfl
/-- a comprehension over one name that changes nothing: its values -/
theorem evE_lc {Φ : Phi} {pl : List Nat} {e : CE} {i : Nat} {it : CI} {cs : CTs} {ρ ρ1 : Env} {α : Type} {xs : List α} {mk g : α → D}
    (hI : evI Φ pl it ρ = .ok (xs.map mk, ρ1)) (hn : ρ1[i]? = some .no) (hp : i ∉ pl) (hl : xs.length ≤ big)
    (hc : ∀ ρ, evAll Φ pl cs ρ = .ok (true, ρ)) (h : ∀ x ∈ xs, evE Φ pl e (ρ1.set i (.ow (.sh (mk x)))) = .ok (.sh (g x), ρ1.set i (.ow (.sh (mk x))))) :
    evE Φ pl (.lc e (.one i) it cs) ρ = .ok (.lst (xs.map fun x => .sh (g x)), backI it ρ ρ1) := by
  have lc := lcL_map (cond := fun ρ => evAll Φ pl cs ρ) (elt := fun ρ => evE Φ pl e ρ) (pl := pl) hn hp xs hl hc h
  rw [evE, hI]
  simp only [CH.R.bind]
  rw [if_pos (quiet_one hn), wipe_one hn, lc]
  simp only
  rw [backE_same]
/-- all( .. ) over one -/
theorem evE_all {Φ : Phi} {pl : List Nat} {e : CE} {i : Nat} {it : CI} {cs : CTs} {ρ ρ1 : Env} {α : Type} {xs : List α} {mk : α → D} {f : α → Bool}
    (hI : evI Φ pl it ρ = .ok (xs.map mk, ρ1)) (hn : ρ1[i]? = some .no) (hp : i ∉ pl) (hl : xs.length ≤ big)
    (hc : ∀ ρ, evAll Φ pl cs ρ = .ok (true, ρ)) (h : ∀ x ∈ xs, evE Φ pl e (ρ1.set i (.ow (.sh (mk x)))) = .ok (.sh (.bl (f x)), ρ1.set i (.ow (.sh (mk x))))) :
    evE Φ pl (.op (.bi .all) (.cons (.e (.lc e (.one i) it cs)) .nil)) ρ = .ok (.sh (.bl (xs.all f)), backI it ρ ρ1) := by
  have lc := evE_lc (g := fun x => .bl (f x)) hI hn hp hl hc h
  rw [evE, evOs, lc]
  simp only [CH.R.bind, evOs]
  rw [ev_all]
theorem evE_ret {Φ : Phi} {pl : List Nat} {e : CE} {ρ ρ1 : Env} {t : OT} (h : evE Φ pl e ρ = .ok (t, ρ1)) : evS Φ pl (.ret e) ρ = .ok (.rt t, ρ1) := by
  rw [evS, h]; rfl
theorem evS_set {Φ : Phi} {pl : List Nat} {i : Nat} {e : CE} {ρ ρ1 : Env} {t u : OT} (h : evE Φ pl e ρ = .ok (t, ρ1)) (hi : ρ1[i]? = some .no ∨ ρ1[i]? = some (.ow u)) (hp : pl.contains i = false) : evS Φ pl (.set i e) ρ = .ok (.nx, ρ1.set i (.ow t)) := by
  rw [evS, h]
  simp only [CH.R.bind]
  rcases hi with hi | hi <;> rw [hi] <;> simp only [hp] <;> rfl
theorem range_val {Φ : Phi} {pl : List Nat} {a b : CE} {ρ ρ1 ρ2 : Env} {i j : Int} (h1 : evE Φ pl a ρ = .ok (.sh (.int i), ρ1)) (h2 : evE Φ pl b ρ1 = .ok (.sh (.int j), ρ2)) (hb : -4611686018427387904 ≤ i ∧ i < 4611686018427387904 ∧ -4611686018427387904 ≤ j ∧ j < 4611686018427387904) : evI Φ pl (.rng2 a b) ρ = .ok ((List.range (j - i).toNat).map fun k => .int (i + (k : Nat)), ρ2) := by
  rw [evI, h1]
  show (evE Φ pl b ρ1).bind _ = _
  rw [h2]
  exact if_pos hb
theorem range1_val {Φ : Phi} {pl : List Nat} {b : CE} {ρ ρ2 : Env} {j : Int} (h2 : evE Φ pl b ρ = .ok (.sh (.int j), ρ2)) (hb : -4611686018427387904 ≤ j ∧ j < 4611686018427387904) : evI Φ pl (.rng1 b) ρ = .ok ((List.range j.toNat).map fun k => .int (k : Nat), ρ2) := by
  rw [evI, h2]
  exact if_pos hb
theorem evE_op1 {Φ : Phi} {pl : List Nat} {o : Op} {e : CE} {ρ ρ1 : Env} {t u : OT} (h : evE Φ pl e ρ = .ok (t, ρ1)) (ho : o.ev [t] = some u) : evE Φ pl (.op o (.cons (.e e) .nil)) ρ = .ok (u, ρ1) := by
  rw [evE, evOs, h]
  simp only [CH.R.bind, evOs]
  rw [ho]
theorem evE_op2 {Φ : Phi} {pl : List Nat} {o : Op} {e e' : CE} {ρ ρ1 ρ2 : Env} {t t' u : OT} (h : evE Φ pl e ρ = .ok (t, ρ1)) (h' : evE Φ pl e' ρ1 = .ok (t', ρ2)) (ho : o.ev [t, t'] = some u) : evE Φ pl (.op o (.cons (.e e) (.cons (.e e') .nil))) ρ = .ok (u, ρ2) := by
  rw [evE, evOs, h]
  simp only [CH.R.bind]
  rw [evOs, h']
  simp only [CH.R.bind, evOs]
  rw [ho]
theorem lcL_acc {α : Type} {cond : Env → R (Bool × Env)} {elt : Env → R (OT × Env)} {pl : List Nat} {i : Nat} {ρ : Env} {mk g : α → D} (hi : ρ[i]? = some .no) (hp : i ∉ pl) :
    ∀ (xs : List α) (acc : List OT), acc.length + xs.length ≤ big → (∀ ρ, cond ρ = .ok (true, ρ)) → (∀ x ∈ xs, elt (ρ.set i (.ow (.sh (mk x)))) = .ok (.sh (g x), ρ.set i (.ow (.sh (mk x))))) → lcL cond elt pl (.one i) (xs.map mk) acc ρ = .ok (acc ++ xs.map fun x => .sh (g x), ρ)
  | [], acc, _, _, _ => by simp [lcL, lcG]
  | x :: xs, acc, hl, hc, h => by
    have s1 : setTg pl (.one i) (mk x) ρ = some (ρ.set i (.ow (.sh (mk x)))) := by
      show set1 pl i (mk x) ρ = _
      unfold set1
      rw [hi]
      simp [hp]
    have w1 : wipeE (ρ.set i (.ow (.sh (mk x)))) (Tg.slots (.one i)) = ρ := by
      show (ρ.set i (.ow (.sh (mk x)))).set i .no = ρ
      rw [List.set_set, set_no hi]
    have ih := lcL_acc hi hp xs (acc ++ [.sh (g x)]) (by simp only [List.length_append, List.length_cons, List.length_nil] at hl ⊢; omega) hc fun y hy => h y (by simp [hy])
    rw [List.map_cons]
    unfold lcL at ih ⊢
    unfold lcG
    rw [s1]
    simp only
    rw [hc]
    simp only
    simp only [List.length_cons] at hl
    have : pushE elt acc (ρ.set i (.ow (.sh (mk x)))) = .ok (acc ++ [.sh (g x)], ρ.set i (.ow (.sh (mk x)))) := by
      unfold pushE
      rw [h x (by simp)]
      simp only
      rw [if_pos (by omega)]
    rw [this]
    simp only
    rw [w1, ih]
    simp
theorem inner_val {it : Env → R (List D × Env)} {bk : Env → Env → Env} {cond : Env → R (Bool × Env)} {elt : Env → R (OT × Env)} {pl : List Nat} {tg : Tg} {acc acc' : List OT} {ρ ρ1 ρ2 : Env} {ds : List D}
    (h1 : it ρ = .ok (ds, ρ1)) (hq : quietAll ρ1 tg.slots = true) (h2 : lcL cond elt pl tg ds acc (wipeE ρ1 tg.slots) = .ok (acc', ρ2)) : inner it bk cond elt pl tg acc ρ = .ok (acc', bk ρ ρ2) := by
  unfold inner
  rw [h1]
  simp only
  rw [if_pos hq, h2]
theorem run_ex {Φ : Phi} {fn : Fn} {ts us : List OT} {t : OT} (hl : ts.length = fn.np) (ho : ∀ ρ, outs fn.pl ρ 0 ts = some us) (h : ∃ ρ, evSs Φ fn.pl fn.body (ts.map .ow ++ List.replicate (fn.nv - fn.np) .no) = .ok (.rt t, ρ)) (hc : fn.cls = none := by rfl) : fn.run Φ ts = .ok (t, us) := by
  obtain ⟨ρ, h⟩ := h
  exact run_rt hl h (ho ρ) hc
theorem lcG_flat {α : Type} {cond : Env → R (Bool × Env)} {step : List OT → Env → R (List OT × Env)} {pl : List Nat} {tg : Tg} {vs : List Nat} {ρ : Env} {mk : α → D} {g : α → List OT} :
    ∀ (xs : List α) (acc : List OT), acc.length + (xs.flatMap g).length ≤ big → (∀ x ∈ xs, ∃ ρ1 ρ2, setTg pl tg (mk x) ρ = some ρ1 ∧ cond ρ1 = .ok (true, ρ1) ∧ (∀ acc, acc.length + (g x).length ≤ big → step acc ρ1 = .ok (acc ++ g x, ρ2)) ∧ wipeE ρ2 vs = ρ) →
      lcG cond step pl tg vs (xs.map mk) acc ρ = .ok (acc ++ xs.flatMap g, ρ)
  | [], acc, _, _ => by simp [lcG]
  | x :: xs, acc, hl, h => by
    obtain ⟨ρ1, ρ2, h1, h2, h3, h4⟩ := h x (by simp)
    simp only [List.flatMap_cons, List.length_append] at hl
    have ih := lcG_flat (cond := cond) (step := step) (pl := pl) (tg := tg) (vs := vs) (ρ := ρ) xs (acc ++ g x) (by simp only [List.length_append]; omega) fun y hy => h y (by simp [hy])
    rw [List.map_cons]
    unfold lcG
    rw [h1]
    simp only
    rw [h2]
    simp only
    rw [h3 acc (by omega)]
    simp only
    rw [h4, ih]
    simp
end CH
end
section
namespace CH
open PySem L2 Evl PyProof.Rows
mutual
/-- plain data nested at most n deep -/
def D.ok : Nat → D → Bool
  | _, .non => true
  | _, .bl _ => true
  | _, .int _ => true
  | _, .str s => PyData.strOk s
  | n + 1, .tup ds => oks n ds
  | n + 1, .lst ds => oks n ds
  | _, _ => false
def oks : Nat → List D → Bool
  | _, [] => true
  | n, d :: ds => d.ok n && oks n ds
end
mutual
theorem ok_toP : ∀ {n : Nat} {d : D}, d.ok n = true → ∃ p, d.toP = some p ∧ p.canLay0 = true ∧ p.depth ≤ n
  | _, .non, _ => ⟨_, rfl, rfl, Nat.zero_le _⟩
  | _, .bl _, _ => ⟨_, rfl, rfl, Nat.zero_le _⟩
  | _, .int _, _ => ⟨_, rfl, rfl, Nat.zero_le _⟩
  | _, .str s, h => ⟨_, rfl, by simpa [D.ok, PyData.canLay0] using h, Nat.zero_le _⟩
  | n + 1, .tup ds, h => by
    obtain ⟨ps, e, h1, h2⟩ := oks_toPs (n := n) (ds := ds) (by simpa [D.ok] using h)
    exact ⟨.tuple ps, by simp [D.toP, e], by simpa [PyData.canLay0] using h1, by simp only [PyData.depth]; omega⟩
  | n + 1, .lst ds, h => by
    obtain ⟨ps, e, h1, h2⟩ := oks_toPs (n := n) (ds := ds) (by simpa [D.ok] using h)
    exact ⟨.list ps, by simp [D.toP, e], by simpa [PyData.canLay0] using h1, by simp only [PyData.depth]; omega⟩
  | 0, .tup _, h => by simp [D.ok] at h
  | 0, .lst _, h => by simp [D.ok] at h
  | _, .flst _, h => by simp [D.ok] at h
  | _, .ty _, h => by simp [D.ok] at h
  | _, .fn _, h => by simp [D.ok] at h
  | _, .obj .., h => by simp [D.ok] at h
theorem oks_toPs : ∀ {n : Nat} {ds : List D}, oks n ds = true → ∃ ps, toPs ds = some ps ∧ PyData.canLayAll0 ps = true ∧ PyData.depthAll ps ≤ n
  | _, [], _ => ⟨[], rfl, rfl, Nat.zero_le _⟩
  | n, d :: ds, h => by
    have h := Bool.and_eq_true_iff.mp (by simpa [oks] using h)
    obtain ⟨p, e1, h1, h2⟩ := ok_toP h.1
    obtain ⟨ps, e3, h3, h4⟩ := oks_toPs h.2
    exact ⟨p :: ps, by simp [toPs, e1, e3], by simp [PyData.canLayAll0, h1, h3], by simp only [PyData.depthAll]; omega⟩
end
theorem shaped_of_ok {d : D} {p : PyData} {n : Nat} (h : d.ok n = true) (hn : n ≤ 64) (e : d.toP = some p) : SeqAt.shaped p = true := by
  obtain ⟨q, e1, h1, h2⟩ := ok_toP h
  rw [e] at e1
  cases e1
  show (p.canLay0 && decide (p.depth ≤ 64)) = true
  rw [h1, decide_eq_true (by omega)]; rfl
theorem eqD_ok {a b : D} {n : Nat} (ha : a.ok n = true) (hb : b.ok n = true) (hn : n ≤ 64) : eqD a b = some (eq1 a b) := by
  obtain ⟨p, e1, _⟩ := ok_toP ha
  obtain ⟨q, e2, _⟩ := ok_toP hb
  unfold eqD eq1
  rw [e1, e2]
  show (if (SeqAt.shaped p && SeqAt.shaped q) = true then some (PyData.eqv p q) else none) = _
  rw [shaped_of_ok ha hn e1, shaped_of_ok hb hn e2]; rfl
/-- rows, item by item -/
def eqs1 : List D → List D → Bool
  | [], [] => true
  | a :: as, b :: bs => eq1 a b && eqs1 as bs
  | _, _ => false
theorem eqs_ok {n : Nat} : ∀ {as bs : List D} {ps qs : List PyData}, toPs as = some ps → toPs bs = some qs → PyData.eqvAll ps qs = eqs1 as bs
  | [], [], _, _, h, k => by cases h; cases k; rfl
  | [], b :: bs, _, qs, h, k => by
    cases h
    obtain ⟨q, _, k⟩ := Option.bind_eq_some_iff.mp (show (b.toP.bind fun p => (toPs bs).map fun q => p :: q) = some qs from k)
    obtain ⟨qs', _, rfl⟩ := Option.map_eq_some_iff.mp k
    rfl
  | a :: as, [], ps, _, h, k => by
    cases k
    obtain ⟨q, _, h⟩ := Option.bind_eq_some_iff.mp (show (a.toP.bind fun p => (toPs as).map fun q => p :: q) = some ps from h)
    obtain ⟨qs', _, rfl⟩ := Option.map_eq_some_iff.mp h
    rfl
  | a :: as, b :: bs, ps, qs, h, k => by
    obtain ⟨p, h1, h⟩ := Option.bind_eq_some_iff.mp (show (a.toP.bind fun p => (toPs as).map fun q => p :: q) = some ps from h)
    obtain ⟨ps', h2, rfl⟩ := Option.map_eq_some_iff.mp h
    obtain ⟨q, k1, k⟩ := Option.bind_eq_some_iff.mp (show (b.toP.bind fun p => (toPs bs).map fun q => p :: q) = some qs from k)
    obtain ⟨qs', k2, rfl⟩ := Option.map_eq_some_iff.mp k
    simp only [PyData.eqvAll, eqs1, eqs_ok (n := n) h2 k2]
    unfold eq1
    rw [h1, k1]
theorem eq1_tup {n : Nat} {as bs : List D} (ha : oks n as = true) (hb : oks n bs = true) : eq1 (.tup as) (.tup bs) = eqs1 as bs := by
  obtain ⟨ps, e1, _⟩ := oks_toPs ha
  obtain ⟨qs, e2, _⟩ := oks_toPs hb
  unfold eq1
  simp only [D.toP, e1, e2, Option.map_some, PyData.eqv, eqs_ok (n := n) e1 e2]
theorem eq1_lst {n : Nat} {as bs : List D} (ha : oks n as = true) (hb : oks n bs = true) : eq1 (.lst as) (.lst bs) = eqs1 as bs := by
  obtain ⟨ps, e1, _⟩ := oks_toPs ha
  obtain ⟨qs, e2, _⟩ := oks_toPs hb
  unfold eq1
  simp only [D.toP, e1, e2, Option.map_some, PyData.eqv, eqs_ok (n := n) e1 e2]
theorem eq1_int (a b : Int) : eq1 (.int a) (.int b) = decide (a = b) := by
  show (a == b) = _
  exact (Bool.eq_iff_iff).mpr (by simp)
theorem oks_ints (n : Nat) : ∀ ns : List Int, oks n (ns.map .int) = true
  | [] => rfl
  | m :: ns => by simp [oks, D.ok, oks_ints n ns]
theorem oks_map {α : Type} {n : Nat} {f : α → D} (h : ∀ a, (f a).ok n = true) : ∀ xs : List α, oks n (xs.map f) = true
  | [] => rfl
  | x :: xs => by simp [oks, h x, oks_map h xs]
theorem eqs_ints : ∀ as bs : List Int, eqs1 (as.map .int) (bs.map .int) = decide (as = bs)
  | [], [] => rfl
  | [], _ :: _ => rfl
  | _ :: _, [] => rfl
  | a :: as, b :: bs => by
    simp only [List.map_cons, eqs1, eq1_int, eqs_ints as bs, List.cons.injEq, Bool.decide_and]
theorem eqs_len {as bs : List D} (h : as.length ≠ bs.length) : eqs1 as bs = false := by
  induction as generalizing bs with
  | nil => cases bs with
    | nil => exact absurd rfl h
    | cons => rfl
  | cons a as ih => cases bs with
    | nil => rfl
    | cons b bs =>
      rw [eqs1, ih (bs := bs) (fun e => h (by simp [e])), Bool.and_false]
theorem toDs_sh : ∀ ds : List D, toDs (ds.map .sh) = ds
  | [] => rfl
  | d :: ds => by show OT.toD (.sh d) :: toDs (ds.map .sh) = _; rw [toDs_sh ds]; rfl
/-- xs == [] of a list of data -/
theorem ev_eq_nil {n : Nat} {ds : List D} (h : oks n ds = true) (hn : n + 1 ≤ 64) : Op.ev (.cmp .eq) [.lst (ds.map .sh), .lst []] = some (.sh (.bl ds.isEmpty)) := by
  show (eqD (OT.toD (.lst (ds.map .sh))) (OT.toD (.lst []))).map _ = _
  rw [show OT.toD (.lst (ds.map .sh)) = .lst ds by unfold OT.toD; rw [toDs_sh], show OT.toD (.lst []) = .lst [] from rfl, eqD_ok (n := n + 1) (by simpa [D.ok] using h) (by simp [D.ok, oks]) hn, eq1_lst h rfl]
  cases ds <;> rfl
/-- x in a tuple, a list -/
theorem inD_tup {n : Nat} {x : D} {ds : List D} (hx : x.ok n = true) (hd : oks n ds = true) (hn : n + 1 ≤ 64) : inD x (.tup ds) = some (ds.any fun z => eq1 z x) := by
  obtain ⟨p, e1, _⟩ := ok_toP hx
  obtain ⟨qs, e2, hq⟩ := oks_toPs hd
  clear hq
  have sx := shaped_of_ok hx (by omega) e1
  have sd := shaped_of_ok (d := .tup ds) (n := n + 1) (by simpa [D.ok] using hd) hn (p := .tuple qs) (by simp [D.toP, e2])
  unfold inD
  rw [e1]
  simp only [D.toP, e2, Option.map_some, Option.bind_some, sx, sd, Bool.and_self, if_true]
  congr 1
  clear sd
  induction ds generalizing qs with
  | nil => cases e2; rfl
  | cons d ds ih =>
    obtain ⟨q, h1, h⟩ := Option.bind_eq_some_iff.mp (show (d.toP.bind fun p => (toPs ds).map fun q => p :: q) = some qs from e2)
    obtain ⟨qs', h2, rfl⟩ := Option.map_eq_some_iff.mp h
    simp only [List.any_cons]
    rw [ih (by simp [oks] at hd; exact hd.2) qs' h2]
    congr 1
    unfold eq1
    rw [h1, e1]
theorem inD_ints (x : Int) (ns : List Int) : inD (.int x) (.tup (ns.map .int)) = some (decide (x ∈ ns)) := by
  rw [inD_tup (n := 1) rfl (oks_ints 1 ns) (by decide), List.any_map]
  congr 1
  rw [Bool.eq_iff_iff]
  simp [eq1_int, Function.comp]
theorem ev_in_it (x : Int) (ns : List Int) : Op.ev (.cmp .in_) [.sh (.int x), .sh (.tup (ns.map .int))] = some (.sh (.bl (decide (x ∈ ns)))) := by
  show (inD (.int x) (.tup (ns.map .int))).map _ = _
  rw [inD_ints]; rfl

/-- a comprehension over one name with a test -/
theorem lcL_fm {α : Type} {cond : CH.Env → R (Bool × CH.Env)} {elt : CH.Env → R (OT × CH.Env)} {pl : List Nat} {i : Nat} {ρ : CH.Env} {mk g : α → D} {p : α → Bool} (hi : ρ[i]? = some .no) (hp : i ∉ pl) :
    ∀ (xs : List α) (acc : List OT), acc.length + xs.length ≤ big → (∀ x ∈ xs, cond (ρ.set i (.ow (.sh (mk x)))) = .ok (p x, ρ.set i (.ow (.sh (mk x)))) ∧ (p x = true → elt (ρ.set i (.ow (.sh (mk x)))) = .ok (.sh (g x), ρ.set i (.ow (.sh (mk x)))))) →
      lcL cond elt pl (.one i) (xs.map mk) acc ρ = .ok (acc ++ (xs.filter p).map fun x => .sh (g x), ρ)
  | [], acc, _, _ => by simp [lcL, lcG]
  | x :: xs, acc, hl, h => by
    have s1 : setTg pl (.one i) (mk x) ρ = some (ρ.set i (.ow (.sh (mk x)))) := by
      show set1 pl i (mk x) ρ = _
      unfold set1
      rw [hi]
      simp [hp]
    have w1 : wipeE (ρ.set i (.ow (.sh (mk x)))) (Tg.slots (.one i)) = ρ := by
      show (ρ.set i (.ow (.sh (mk x)))).set i .no = ρ
      rw [List.set_set, set_no hi]
    obtain ⟨h1, h2⟩ := h x (by simp)
    have ih := fun acc hl => lcL_fm (cond := cond) (elt := elt) hi hp xs acc hl fun y hy => h y (by simp [hy])
    simp only [List.length_cons] at hl
    rw [List.map_cons]
    unfold lcL at ih ⊢
    unfold lcG
    rw [s1]
    simp only
    rw [h1]
    cases hq : p x with
    | false =>
      simp only
      rw [w1, ih acc (by omega), List.filter_cons_of_neg (by simp [hq])]
    | true =>
      have : pushE elt acc (ρ.set i (.ow (.sh (mk x)))) = .ok (acc ++ [.sh (g x)], ρ.set i (.ow (.sh (mk x)))) := by
        unfold pushE
        rw [h2 hq]
        simp only
        rw [if_pos (by omega)]
      simp only
      rw [this]
      simp only
      rw [w1, ih _ (by simp; omega), List.filter_cons_of_pos hq]
      simp
theorem evE_lcf {Φ : Phi} {pl : List Nat} {e : CH.CE} {i : Nat} {it : CI} {cs : CTs} {ρ ρ1 : CH.Env} {α : Type} {xs : List α} {mk g : α → D} {p : α → Bool}
    (hI : evI Φ pl it ρ = .ok (xs.map mk, ρ1)) (hn : ρ1[i]? = some .no) (hp : i ∉ pl) (hl : xs.length ≤ big)
    (h : ∀ x ∈ xs, evAll Φ pl cs (ρ1.set i (.ow (.sh (mk x)))) = .ok (p x, ρ1.set i (.ow (.sh (mk x)))) ∧ (p x = true → evE Φ pl e (ρ1.set i (.ow (.sh (mk x)))) = .ok (.sh (g x), ρ1.set i (.ow (.sh (mk x)))))) :
    evE Φ pl (.lc e (.one i) it cs) ρ = .ok (.lst ((xs.filter p).map fun x => .sh (g x)), backI it ρ ρ1) := by
  have lc := lcL_fm (cond := fun ρ => evAll Φ pl cs ρ) (elt := fun ρ => evE Φ pl e ρ) (pl := pl) hn hp xs [] (by simpa using hl) h
  rw [evE, hI]
  simp only [CH.R.bind]
  rw [if_pos (quiet_one hn), wipe_one hn, lc]
  simp only
  rw [backE_same]
  simp
theorem cut_map {α β : Type} (f : α → β) (xs : List α) (lo hi : Option Int) : CH.cutD (xs.map f) lo hi = (CH.cutD xs lo hi).map f := by
  unfold CH.cutD; rw [List.length_map, List.map_take, List.map_drop]
mutual
/-- how heavy -/
def D.wt : D → Nat
  | .str s => s.length
  | .int _ => 40
  | .tup ds => wts ds
  | .lst ds => wts ds
  | _ => 1
def wts : List D → Nat
  | [] => 0
  | d :: ds => d.wt + 1 + wts ds
end
mutual
/-- numbers of at most twelve figures -/
def D.small : D → Bool
  | .int i => decide (i.natAbs < 1000000000000)
  | .tup ds => smalls ds
  | .lst ds => smalls ds
  | _ => true
def smalls : List D → Bool
  | [] => true
  | d :: ds => d.small && smalls ds
end
theorem log2_small {n : Nat} (h : n < 1000000000000) : n.log2 < 40 := by
  by_cases h0 : n = 0
  · subst h0; decide
  · exact (Nat.log2_lt h0).mpr (Nat.lt_of_lt_of_le h (by decide))
theorem short_int {i : Int} (h : i.natAbs < 1000000000000) : (PyData.shown (.int i)).length ≤ 13 := by
  show (Str.ofString (toString i)).length ≤ 13
  rw [PyProof.Rows.ofString_len]
  exact int_text_length_le10 (k := 12) (by decide) (by simpa using h)
mutual
theorem D.shows : ∀ {n : Nat} {d : D} {p : PyData}, d.ok n = true → d.small = true → d.toP = some p → p.showable = true ∧ p.leavesShort 13 = true ∧ p.weight ≤ d.wt
  | _, .non, _, _, _, e => by cases e; exact ⟨rfl, rfl, by simp [PyData.weight, D.wt]⟩
  | _, .bl b, _, _, _, e => by cases e; exact ⟨rfl, rfl, by simp [PyData.weight, D.wt]⟩
  | _, .int i, _, _, hs, e => by
    cases e
    have h : i.natAbs < 1000000000000 := by simpa [D.small] using hs
    exact ⟨by simp only [PyData.showable, decide_eq_true_eq]; have := log2_small h; omega, by simp only [PyData.leavesShort, decide_eq_true_eq]; exact short_int h, by
      have := log2_small h
      simp only [PyData.weight, D.wt]
      split <;> omega⟩
  | _, .str s, _, ho, _, e => by
    cases e
    have ho : PyData.strOk s = true := by simpa [D.ok] using ho
    refine ⟨rfl, ?_, by simp [PyData.weight, D.wt]; exact Nat.le_refl _⟩
    simp only [PyData.leavesShort, List.all_eq_true, decide_eq_true_eq]
    intro c hc
    have : (s.cps.all (· < 0x110000)) = true := ho
    rw [Array.all_eq_true'] at this
    have := this c (by simpa using hc)
    have := of_decide_eq_true this
    exact Nat.lt_trans this (by decide)
  | 0, .tup _, _, h, _, _ => by simp [D.ok] at h
  | 0, .lst _, _, h, _, _ => by simp [D.ok] at h
  | n + 1, .tup ds, p, ho, hs, e => by
    obtain ⟨ps, e1, rfl⟩ := Option.map_eq_some_iff.mp (show (toPs ds).map PyData.tuple = some p from e)
    obtain ⟨h1, h2, h3⟩ := D.showsAll (n := n) (ds := ds) (by simpa [D.ok] using ho) (by simpa [D.small] using hs) e1
    exact ⟨by simpa [PyData.showable] using h1, by simpa [PyData.leavesShort] using h2, by simpa [PyData.weight, D.wt] using h3⟩
  | n + 1, .lst ds, p, ho, hs, e => by
    obtain ⟨ps, e1, rfl⟩ := Option.map_eq_some_iff.mp (show (toPs ds).map PyData.list = some p from e)
    obtain ⟨h1, h2, h3⟩ := D.showsAll (n := n) (ds := ds) (by simpa [D.ok] using ho) (by simpa [D.small] using hs) e1
    exact ⟨by simpa [PyData.showable] using h1, by simpa [PyData.leavesShort] using h2, by simpa [PyData.weight, D.wt] using h3⟩
  | _, .flst _, _, h, _, _ => by simp [D.ok] at h
  | _, .ty _, _, h, _, _ => by simp [D.ok] at h
  | _, .fn _, _, h, _, _ => by simp [D.ok] at h
  | _, .obj .., _, h, _, _ => by simp [D.ok] at h
theorem D.showsAll : ∀ {n : Nat} {ds : List D} {ps : List PyData}, oks n ds = true → smalls ds = true → toPs ds = some ps → PyData.showableAll ps = true ∧ PyData.leavesShortAll 13 ps = true ∧ PyData.weightAll ps ≤ wts ds
  | _, [], _, _, _, e => by cases e; exact ⟨rfl, rfl, Nat.le_refl _⟩
  | n, d :: ds, ps, ho, hs, e => by
    obtain ⟨q, k1, k⟩ := Option.bind_eq_some_iff.mp (show (d.toP.bind fun p => (toPs ds).map fun q => p :: q) = some ps from e)
    obtain ⟨qs', k2, rfl⟩ := Option.map_eq_some_iff.mp k
    have ho := Bool.and_eq_true_iff.mp (by simpa [oks] using ho)
    have hs := Bool.and_eq_true_iff.mp (by simpa [smalls] using hs)
    obtain ⟨a1, a2, a3⟩ := D.shows ho.1 hs.1 k1
    obtain ⟨b1, b2, b3⟩ := D.showsAll ho.2 hs.2 k2
    exact ⟨by simp [PyData.showableAll, a1, b1], by simp [PyData.leavesShortAll, a2, b2], by simp only [PyData.weightAll, wts]; omega⟩
end
/-- the text that repr gives a row of data -/
theorem repr_ok {d : D} {n : Nat} (ho : d.ok n = true) (hn : n ≤ 64) (hs : d.small = true) (hw : d.wt ≤ 1048576) (hr : d.isRow = true) : ∃ z, ∀ t : OT, t.toD = d → Op.ev (.bi .repr) [t] = some (.sh (.str z)) := by
  obtain ⟨p, e, h1, h2⟩ := ok_toP ho
  obtain ⟨a1, a2, a3⟩ := D.shows ho hs e
  have hz := PyData.shown_fits (by decide) (by decide) a2 (by rw [show 2 ^ 20 = 1048576 from rfl]; omega)
  rw [← line] at hz
  refine ⟨p.shown, fun t ht => ?_⟩
  show reprEv t = _
  unfold reprEv
  rw [ht, if_pos hr, e]
  show guard_ (SeqAt.shaped p && p.showable && decide (p.shown.length ≤ big)) _ = _
  rw [shaped_of_ok ho hn e, a1, decide_eq_true hz]; rfl
theorem ev_ne_ss (a : Str) : Op.ev (.cmp .ne) [.sh (.str a), .sh (.str a)] = some (.sh (.bl false)) := by
  show some (OT.sh (D.bl (!(a == a)))) = _
  rw [beq_self_eq_true]; rfl
theorem ev_eq_ss (a : Str) : Op.ev (.cmp .eq) [.sh (.str a), .sh (.str a)] = some (.sh (.bl true)) := by
  show some (OT.sh (D.bl (a == a))) = _
  rw [beq_self_eq_true]
end CH
end
section
namespace K02
open PySem CH
def st0 : Stmt := PySem.Challenge.pw_clausehold_k02_clauses_and_rows.main.body.getD 1 (.Pass ⟨0, 0, 0, 0⟩)
def q0_0 : CS := (.ret (.and (.cons (.op (.isi ["int"]) (.cons (.bor 0 []) .nil)) (.cons (.not (.op (.isi ["bool"]) (.cons (.bor 0 []) .nil))) .nil))))
def b0 : CSs := (.cons q0_0 .nil)
def f0 : Fn := ⟨1, 1, [], b0, none⟩
def e0 : Ent := ⟨"is_integer", st0, ["value"], ["value"], f0, .fn⟩
def st1 : Stmt := PySem.Challenge.pw_clausehold_k02_clauses_and_rows.main.body.getD 2 (.Pass ⟨0, 0, 0, 0⟩)
def q1_0 : CS := (.ret (.tup (.cons (.op (.bi .abs) (.cons (.bor 0 []) .nil)) (.cons (.op (.cmp .lt) (.cons (.bor 0 []) (.cons (.e (.c (.int 0))) .nil))) .nil))))
def b1 : CSs := (.cons q1_0 .nil)
def f1 : Fn := ⟨1, 1, [], b1, none⟩
def e1 : Ent := ⟨"literal_rank", st1, ["literal"], ["literal"], f1, .fn⟩
def st2 : Stmt := PySem.Challenge.pw_clausehold_k02_clauses_and_rows.main.body.getD 3 (.Pass ⟨0, 0, 0, 0⟩)
def q2_0 : CS := (.ret (.op (.bi .tuple) (.cons (.e (.rank "literal_rank" (.v 0))) .nil)))
def b2 : CSs := (.cons q2_0 .nil)
def f2 : Fn := ⟨1, 1, [], b2, none⟩
def e2 : Ent := ⟨"in_order", st2, ["literals"], ["literals"], f2, .fn⟩
def st3 : Stmt := PySem.Challenge.pw_clausehold_k02_clauses_and_rows.main.body.getD 8 (.Pass ⟨0, 0, 0, 0⟩)
def p3_0 : CS := (.ife (.or (.cons (.not (.val (.e (.call 0 (.val (.v 3) .nil))))) (.cons (.not (.val (.e (.chain .lt .le (.v 2) (.op (.bi .abs) (.cons (.bor 3 []) .nil)) (.v 1))))) .nil))) (.cons (.ret (.c (.bl false))) .nil) .nil)
def p3_1 : CS := (.set 2 (.op (.bi .abs) (.cons (.bor 3 []) .nil)))
def p3_2 : CSs := (.cons p3_0 (.cons p3_1 .nil))
def q3_0 : CS := (.ife (.not (.val (.e (.op (.isi ["tuple"]) (.cons (.bor 0 []) .nil))))) (.cons (.ret (.c (.bl false))) .nil) .nil)
def q3_1 : CS := (.set 2 (.c (.int 0)))
def q3_2 : CS := (.for_ (.one 3) (.seq (.bor 0 [])) p3_2)
def q3_3 : CS := (.ret (.c (.bl true)))
def b3 : CSs := (.cons q3_0 (.cons q3_1 (.cons q3_2 (.cons q3_3 .nil))))
def f3 : Fn := ⟨2, 4, [], b3, none⟩
def e3 : Ent := ⟨"is_clause", st3, ["value", "n", "ahead", "literal"], ["value", "n"], f3, .fn⟩
def st4 : Stmt := PySem.Challenge.pw_clausehold_k02_clauses_and_rows.main.body.getD 9 (.Pass ⟨0, 0, 0, 0⟩)
def p4_0 : CE := (.and (.cons (.call 0 (.val (.v 3) .nil)) (.cons (.op (.cmp .ne) (.cons (.bor 3 []) (.cons (.e (.c (.int 0))) .nil))) .nil)))
def p4_1 : CTs := .nil
def p4_2 : CE := (.v 2)
def p4_3 : CE := (.c (.bl true))
def p4_4 : CTs := .nil
def p4_5 : CE := (.op (.inK false) (.cons (.e (.op .neg (.cons (.bor 2 []) .nil))) (.cons (.bor 1 []) .nil)))
def p4_6 : CTs := .nil
def q4_0 : CS := (.ife (.or (.cons (.not (.val (.e (.op (.isi ["list", "tuple"]) (.cons (.bor 0 []) .nil))))) (.cons (.not (.val (.e (.op (.bi .all) (.cons (.e (.lc p4_0 (.one 3) (.seq (.bor 0 [])) p4_1)) .nil))))) .nil))) (.cons (.raise 0 1 (.cons (.v 0) .nil)) .nil) .nil)
def q4_1 : CS := (.set 1 (.dc p4_2 p4_3 (.one 2) (.seq (.bor 0 [])) p4_4))
def q4_2 : CS := (.ife (.val (.e (.op (.bi .any) (.cons (.e (.lc p4_5 (.one 2) (.keys (.v 1)) p4_6)) .nil)))) (.cons (.ret (.c .non)) .nil) .nil)
def q4_3 : CS := (.ret (.call 2 (.val (.op .listK (.cons (.bor 1 []) .nil)) .nil)))
def b4 : CSs := (.cons q4_0 (.cons q4_1 (.cons q4_2 (.cons q4_3 .nil))))
def f4 : Fn := ⟨1, 4, [], b4, none⟩
def e4 : Ent := ⟨"clause_of", st4, ["literals", "found", "literal", "one"], ["literals"], f4, .fn⟩
def st5 : Stmt := PySem.Challenge.pw_clausehold_k02_clauses_and_rows.main.body.getD 10 (.Pass ⟨0, 0, 0, 0⟩)
def p5_0 : CE := (.op (.cmp .in_) (.cons (.bor 2 []) (.cons (.bor 1 []) .nil)))
def p5_1 : CTs := .nil
def q5_0 : CS := (.ret (.op (.bi .all) (.cons (.e (.lc p5_0 (.one 2) (.seq (.bor 0 [])) p5_1)) .nil)))
def b5 : CSs := (.cons q5_0 .nil)
def f5 : Fn := ⟨2, 3, [], b5, none⟩
def e5 : Ent := ⟨"agrees", st5, ["literals", "model", "literal"], ["literals", "model"], f5, .fn⟩
def st6 : Stmt := PySem.Challenge.pw_clausehold_k02_clauses_and_rows.main.body.getD 12 (.Pass ⟨0, 0, 0, 0⟩)
def p6_0 : CS := (.set 3 (.op (.bi .int) (.cons (.e (.op .idx (.cons (.bor 0 []) (.cons (.bor 1 []) .nil)))) .nil)))
def p6_1 : CS := (.set 4 (.op (.bi .max2) (.cons (.e (.c (.int 0))) (.cons (.e (.op (.bin .sub) (.cons (.bor 3 []) (.cons (.e (.op (.bin .pow) (.cons (.e (.c (.int 10))) (.cons (.e (.c (.int 18))) .nil)))) .nil)))) .nil))))
def p6_2 : CS := (.ex (.mu .append 5 [] (.cons (.op (.bin .mod) (.cons (.e (.op (.bi .int) (.cons (.bor 4 []) .nil))) (.cons (.e (.op .idx (.cons (.bor 2 []) (.cons (.bor 6 []) .nil)))) .nil))) .nil)))
def p6_3 : CS := (.set 4 (.op (.bin .fdiv) (.cons (.bor 4 []) (.cons (.e (.op .idx (.cons (.bor 2 []) (.cons (.bor 6 []) .nil)))) .nil))))
def p6_4 : CS := (.set 7 (.op (.bin .mod) (.cons (.e (.op (.bi .int) (.cons (.e (.op (.bin .add) (.cons (.e (.op (.bin .add) (.cons (.e (.op (.bin .add) (.cons (.e (.op (.bin .mul) (.cons (.bor 3 []) (.cons (.e (.c (.int 48271))) .nil)))) (.cons (.e (.op (.bin .mul) (.cons (.bor 1 []) (.cons (.e (.c (.int 69621))) .nil)))) .nil)))) (.cons (.e (.op (.bin .mul) (.cons (.bor 6 []) (.cons (.e (.c (.int 40692))) .nil)))) .nil)))) (.cons (.e (.c (.int 12345))) .nil)))) .nil))) (.cons (.e (.c (.int 2147483647))) .nil))))
def p6_5 : CS := (.set 7 (.op (.bin .mod) (.cons (.e (.op (.bi .int) (.cons (.e (.op (.bin .add) (.cons (.e (.op (.bin .add) (.cons (.e (.op (.bin .mul) (.cons (.bor 7 []) (.cons (.bor 7 []) .nil)))) (.cons (.e (.op (.bin .mul) (.cons (.bor 6 []) (.cons (.e (.c (.int 16807))) .nil)))) .nil)))) (.cons (.e (.c (.int 271))) .nil)))) .nil))) (.cons (.e (.c (.int 2147483563))) .nil))))
def p6_6 : CS := (.set 7 (.op (.bin .mod) (.cons (.e (.op (.bi .int) (.cons (.e (.op (.bin .add) (.cons (.e (.op (.bin .add) (.cons (.e (.op (.bin .mul) (.cons (.bor 7 []) (.cons (.bor 7 []) .nil)))) (.cons (.e (.op (.bin .mul) (.cons (.bor 7 []) (.cons (.e (.c (.int 39373))) .nil)))) .nil)))) (.cons (.e (.c (.int 7))) .nil)))) .nil))) (.cons (.e (.c (.int 2147483399))) .nil))))
def p6_7 : CS := (.ex (.mu .append 5 [] (.cons (.op (.bin .mod) (.cons (.e (.op (.bin .fdiv) (.cons (.bor 7 []) (.cons (.e (.c (.int 16))) .nil)))) (.cons (.e (.op .idx (.cons (.bor 2 []) (.cons (.bor 6 []) .nil)))) .nil))) .nil)))
def p6_8 : CSs := (.cons (.ife (.val (.e (.op (.cmp .gt) (.cons (.bor 4 []) (.cons (.e (.c (.int 0))) .nil))))) (.cons p6_2 (.cons p6_3 .nil)) (.cons p6_4 (.cons p6_5 (.cons p6_6 (.cons p6_7 .nil))))) .nil)
def q6_0 : CS := (.set 3 (.c (.int 0)))
def q6_1 : CS := (.set 4 (.c (.int 0)))
def q6_2 : CS := (.ife (.val (.e (.op (.cmp .lt) (.cons (.bor 1 []) (.cons (.e (.op (.bi .len) (.cons (.bor 0 []) .nil))) .nil))))) (.cons p6_0 (.cons p6_1 .nil)) (.cons (.ife (.val (.e (.op (.cmp .gt) (.cons (.e (.op (.bi .len) (.cons (.bor 0 []) .nil))) (.cons (.e (.c (.int 0))) .nil))))) (.cons (.set 3 (.op (.bi .int) (.cons (.e (.op .idx (.cons (.bor 0 []) (.cons (.e (.op (.bin .mod) (.cons (.e (.op (.bi .int) (.cons (.bor 1 []) .nil))) (.cons (.e (.op (.bi .len) (.cons (.bor 0 []) .nil))) .nil)))) .nil)))) .nil))) .nil) .nil) .nil))
def q6_3 : CS := (.set 5 (.lst .nil))
def q6_4 : CS := (.for_ (.one 6) (.rng1 (.op (.bi .len) (.cons (.bor 2 []) .nil))) p6_8)
def q6_5 : CS := (.ret (.take 5))
def b6 : CSs := (.cons q6_0 (.cons q6_1 (.cons q6_2 (.cons q6_3 (.cons q6_4 (.cons q6_5 .nil))))))
def f6 : Fn := ⟨3, 8, [], b6, none⟩
def e6 : Ent := ⟨"_law_draws", st6, ["_law_script", "_law_k", "_law_bounds", "_law_cell", "_law_rest", "_law_drawn", "_law_j", "_law_mixed"], ["_law_script", "_law_k", "_law_bounds"], f6, .fn⟩
def st7 : Stmt := PySem.Challenge.pw_clausehold_k02_clauses_and_rows.main.body.getD 13 (.Pass ⟨0, 0, 0, 0⟩)
def p7_0 : CSs := (.cons (.ife (.not (.val (.e (.call 7 (.val (.op .idx (.cons (.bor 0 []) (.cons (.bor 2 []) .nil))) (.val (.op .idx (.cons (.bor 1 []) (.cons (.bor 2 []) .nil))) .nil)))))) (.cons (.ret (.c (.bl false))) .nil) .nil) .nil)
def q7_0 : CS := (.ife (.val (.e (.op (.cmp .is) (.cons (.bor 1 []) (.cons (.e (.c .non)) .nil))))) (.cons (.ret (.op (.cmp .is) (.cons (.bor 0 []) (.cons (.e (.c .non)) .nil)))) .nil) .nil)
def q7_1 : CS := (.ife (.val (.e (.op (.isi ["bool"]) (.cons (.bor 1 []) .nil)))) (.cons (.ret (.and (.cons (.op (.isi ["bool"]) (.cons (.bor 0 []) .nil)) (.cons (.op (.cmp .eq) (.cons (.bor 0 []) (.cons (.bor 1 []) .nil))) .nil)))) .nil) .nil)
def q7_2 : CS := (.ife (.val (.e (.op (.isi ["int"]) (.cons (.bor 1 []) .nil)))) (.cons (.ret (.and (.cons (.op (.isi ["int"]) (.cons (.bor 0 []) .nil)) (.cons (.not (.op (.isi ["bool"]) (.cons (.bor 0 []) .nil))) (.cons (.op (.cmp .eq) (.cons (.bor 0 []) (.cons (.bor 1 []) .nil))) .nil))))) .nil) .nil)
def q7_3 : CS := (.ife (.val (.e (.op (.isi ["str"]) (.cons (.bor 1 []) .nil)))) (.cons (.ret (.and (.cons (.op (.isi ["str"]) (.cons (.bor 0 []) .nil)) (.cons (.op (.cmp .eq) (.cons (.bor 0 []) (.cons (.bor 1 []) .nil))) .nil)))) .nil) .nil)
def q7_4 : CS := (.ife (.or (.cons (.not (.val (.e (.op (.isi ["tuple"]) (.cons (.bor 0 []) .nil))))) (.cons (.val (.e (.op (.cmp .ne) (.cons (.e (.op (.bi .len) (.cons (.bor 0 []) .nil))) (.cons (.e (.op (.bi .len) (.cons (.bor 1 []) .nil))) .nil))))) .nil))) (.cons (.ret (.c (.bl false))) .nil) .nil)
def q7_5 : CS := (.for_ (.one 2) (.rng1 (.op (.bi .len) (.cons (.bor 1 []) .nil))) p7_0)
def q7_6 : CS := (.ret (.c (.bl true)))
def b7 : CSs := (.cons q7_0 (.cons q7_1 (.cons q7_2 (.cons q7_3 (.cons q7_4 (.cons q7_5 (.cons q7_6 .nil)))))))
def f7 : Fn := ⟨2, 3, [], b7, none⟩
def e7 : Ent := ⟨"_law_equal", st7, ["_law_actual", "_law_expected", "_law_k"], ["_law_actual", "_law_expected"], f7, .fn⟩
def st8 : Stmt := PySem.Challenge.pw_clausehold_k02_clauses_and_rows.main.body.getD 14 (.Pass ⟨0, 0, 0, 0⟩)
def p8_0 : CS := (.ife (.or (.cons (.not (.val (.e (.op (.isi ["int"]) (.cons (.bor 3 []) .nil))))) (.cons (.val (.e (.op (.isi ["bool"]) (.cons (.bor 3 []) .nil)))) (.cons (.val (.e (.op (.cmp .le) (.cons (.e (.op (.bi .abs) (.cons (.bor 3 []) .nil))) (.cons (.bor 2 []) .nil))))) (.cons (.val (.e (.op (.cmp .gt) (.cons (.e (.op (.bi .abs) (.cons (.bor 3 []) .nil))) (.cons (.bor 1 []) .nil))))) .nil))))) (.cons (.ret (.c (.bl false))) .nil) .nil)
def p8_1 : CS := (.set 2 (.op (.bi .abs) (.cons (.bor 3 []) .nil)))
def p8_2 : CSs := (.cons p8_0 (.cons p8_1 .nil))
def q8_0 : CS := (.ife (.not (.val (.e (.op (.isi ["tuple"]) (.cons (.bor 0 []) .nil))))) (.cons (.ret (.c (.bl false))) .nil) .nil)
def q8_1 : CS := (.set 2 (.c (.int 0)))
def q8_2 : CS := (.for_ (.one 3) (.seq (.bor 0 [])) p8_2)
def q8_3 : CS := (.ret (.c (.bl true)))
def b8 : CSs := (.cons q8_0 (.cons q8_1 (.cons q8_2 (.cons q8_3 .nil))))
def f8 : Fn := ⟨2, 4, [], b8, none⟩
def e8 : Ent := ⟨"_law_is_clause", st8, ["_law_value", "_law_n", "_law_before", "_law_literal"], ["_law_value", "_law_n"], f8, .fn⟩
def st9 : Stmt := PySem.Challenge.pw_clausehold_k02_clauses_and_rows.main.body.getD 15 (.Pass ⟨0, 0, 0, 0⟩)
def p9_0 : CS := (.set 7 (.op (.bin .mod) (.cons (.e (.op (.bi .int) (.cons (.bor 4 []) .nil))) (.cons (.e (.c (.int 3))) .nil))))
def p9_1 : CS := (.set 4 (.op (.bin .fdiv) (.cons (.bor 4 []) (.cons (.e (.c (.int 3))) .nil))))
def p9_2 : CS := (.ife (.and (.cons (.val (.e (.op (.cmp .gt) (.cons (.bor 7 []) (.cons (.e (.c (.int 0))) .nil))))) (.cons (.or (.cons (.val (.e (.op (.cmp .gt) (.cons (.e (.op .idx (.cons (.bor 3 []) (.cons (.e (.c (.int 1))) .nil)))) (.cons (.e (.c (.int 0))) .nil))))) (.cons (.val (.e (.op (.cmp .lt) (.cons (.e (.op (.bi .len) (.cons (.bor 5 []) .nil))) (.cons (.e (.c (.int 3))) .nil))))) .nil))) .nil))) (.cons (.ex (.mu .append 5 [] (.cons (.op (.bin .mul) (.cons (.bor 6 []) (.cons (.e (.op (.bin .sub) (.cons (.e (.c (.int 3))) (.cons (.e (.op (.bin .mul) (.cons (.e (.c (.int 2))) (.cons (.bor 7 []) .nil)))) .nil)))) .nil))) .nil))) .nil) .nil)
def p9_3 : CSs := (.cons p9_0 (.cons p9_1 (.cons p9_2 .nil)))
def q9_0 : CS := (.set 3 (.call 6 (.val (.v 0) (.val (.v 1) (.val (.lst (.cons (.c (.int 59049)) (.cons (.c (.int 4)) .nil))) .nil)))))
def q9_1 : CS := (.set 4 (.op .idx (.cons (.bor 3 []) (.cons (.e (.c (.int 0))) .nil))))
def q9_2 : CS := (.set 5 (.lst .nil))
def q9_3 : CS := (.for_ (.one 6) (.rng2 (.c (.int 1)) (.op (.bin .add) (.cons (.bor 2 []) (.cons (.e (.c (.int 1))) .nil)))) p9_3)
def q9_4 : CS := (.ret (.op (.bi .tuple) (.cons (.bor 5 []) .nil)))
def b9 : CSs := (.cons q9_0 (.cons q9_1 (.cons q9_2 (.cons q9_3 (.cons q9_4 .nil)))))
def f9 : Fn := ⟨3, 8, [], b9, none⟩
def e9 : Ent := ⟨"_law_row", st9, ["_law_script", "_law_k", "_law_n", "_law_drawn", "_law_number", "_law_row_here", "_law_v", "_law_digit"], ["_law_script", "_law_k", "_law_n"], f9, .fn⟩
def st10 : Stmt := PySem.Challenge.pw_clausehold_k02_clauses_and_rows.main.body.getD 16 (.Pass ⟨0, 0, 0, 0⟩)
def p10_0 : CS := (.set 5 (.op (.bin .mod) (.cons (.e (.op (.bi .int) (.cons (.e (.op .idx (.cons (.bor 4 []) (.cons (.e (.c (.int 1))) .nil)))) .nil))) (.cons (.e (.op (.bi .len) (.cons (.bor 2 []) .nil))) .nil))))
def p10_1 : CS := (.set 6 (.op .idx (.cons (.e (.lst (.cons (.op .idx (.cons (.bor 2 []) (.cons (.bor 5 []) .nil))) (.cons (.op (.bin .sub) (.cons (.e (.c (.int 0))) (.cons (.e (.op .idx (.cons (.bor 2 []) (.cons (.bor 5 []) .nil)))) .nil))) (.cons (.tup (.cons (.op .idx (.cons (.bor 2 []) (.cons (.bor 5 []) .nil))) .nil)) (.cons (.op (.bin .add) (.cons (.e (.op .idx (.cons (.bor 2 []) (.cons (.bor 5 []) .nil)))) (.cons (.e (.c (.int 1))) .nil))) .nil)))))) (.cons (.e (.op (.bin .sub) (.cons (.e (.op .idx (.cons (.bor 4 []) (.cons (.e (.c (.int 0))) .nil)))) (.cons (.e (.c (.int 6))) .nil)))) .nil))))
def p10_2 : CS := (.ret (.op (.bin .add) (.cons (.e (.op (.bin .add) (.cons (.e (.slc (.bor 2 []) .no (.at (.op (.bin .add) (.cons (.bor 5 []) (.cons (.e (.c (.int 1))) .nil)))))) (.cons (.e (.tup (.cons (.mv 6) .nil))) .nil)))) (.cons (.e (.slc (.bor 2 []) (.at (.op (.bin .add) (.cons (.bor 5 []) (.cons (.e (.c (.int 1))) .nil)))) .no)) .nil))))
def q10_0 : CS := (.set 4 (.call 6 (.val (.v 0) (.val (.v 1) (.val (.lst (.cons (.c (.int 16)) (.cons (.c (.int 11)) (.cons (.c (.int 90)) .nil)))) .nil)))))
def q10_1 : CS := (.set 5 (.op (.bin .mod) (.cons (.e (.op (.bi .int) (.cons (.e (.op .idx (.cons (.bor 4 []) (.cons (.e (.c (.int 1))) .nil)))) .nil))) (.cons (.e (.op (.bin .add) (.cons (.e (.c (.int 1))) (.cons (.e (.op (.bi .len) (.cons (.bor 2 []) .nil))) .nil)))) .nil))))
def q10_2 : CS := (.ife (.val (.e (.op (.cmp .lt) (.cons (.e (.op .idx (.cons (.bor 4 []) (.cons (.e (.c (.int 0))) .nil)))) (.cons (.e (.c (.int 6))) .nil))))) (.cons (.ret (.op (.bin .add) (.cons (.e (.op (.bin .add) (.cons (.e (.slc (.bor 2 []) .no (.at (.v 5)))) (.cons (.e (.tup (.cons (.op .idx (.cons (.e (.lst (.cons (.c (.int 0)) (.cons (.op (.bin .add) (.cons (.e (.op (.bin .add) (.cons (.bor 3 []) (.cons (.e (.c (.int 1))) .nil)))) (.cons (.e (.op .idx (.cons (.bor 4 []) (.cons (.e (.c (.int 2))) .nil)))) .nil))) (.cons (.op (.bin .sub) (.cons (.e (.op (.bin .sub) (.cons (.e (.op (.bin .sub) (.cons (.e (.c (.int 0))) (.cons (.bor 3 []) .nil)))) (.cons (.e (.c (.int 1))) .nil)))) (.cons (.e (.op .idx (.cons (.bor 4 []) (.cons (.e (.c (.int 2))) .nil)))) .nil))) (.cons (.c (.bl true)) (.cons (.c .non) (.cons (.c (.str "1")) .nil)))))))) (.cons (.e (.op .idx (.cons (.bor 4 []) (.cons (.e (.c (.int 0))) .nil)))) .nil))) .nil))) .nil)))) (.cons (.e (.slc (.bor 2 []) (.at (.v 5)) .no)) .nil)))) .nil) .nil)
def q10_3 : CS := (.ife (.and (.cons (.val (.e (.op (.cmp .lt) (.cons (.e (.op .idx (.cons (.bor 4 []) (.cons (.e (.c (.int 0))) .nil)))) (.cons (.e (.c (.int 10))) .nil))))) (.cons (.val (.e (.op (.cmp .gt) (.cons (.e (.op (.bi .len) (.cons (.bor 2 []) .nil))) (.cons (.e (.c (.int 0))) .nil))))) .nil))) (.cons p10_0 (.cons p10_1 (.cons p10_2 .nil))) .nil)
def q10_4 : CS := (.ife (.val (.e (.op (.cmp .eq) (.cons (.e (.op .idx (.cons (.bor 4 []) (.cons (.e (.c (.int 0))) .nil)))) (.cons (.e (.c (.int 10))) .nil))))) (.cons (.ret (.op .revT (.cons (.bor 2 []) .nil))) .nil) .nil)
def q10_5 : CS := (.ife (.val (.e (.op (.cmp .eq) (.cons (.e (.op .idx (.cons (.bor 4 []) (.cons (.e (.c (.int 0))) .nil)))) (.cons (.e (.c (.int 11))) .nil))))) (.cons (.ret (.op (.bin .add) (.cons (.e (.op (.bin .add) (.cons (.e (.op (.bin .add) (.cons (.e (.slc (.bor 2 []) .no (.at (.v 5)))) (.cons (.e (.slc (.bor 2 []) (.at (.op (.bin .add) (.cons (.bor 5 []) (.cons (.e (.c (.int 1))) .nil)))) (.at (.op (.bin .add) (.cons (.bor 5 []) (.cons (.e (.c (.int 2))) .nil)))))) .nil)))) (.cons (.e (.slc (.bor 2 []) (.at (.v 5)) (.at (.op (.bin .add) (.cons (.bor 5 []) (.cons (.e (.c (.int 1))) .nil)))))) .nil)))) (.cons (.e (.slc (.bor 2 []) (.at (.op (.bin .add) (.cons (.bor 5 []) (.cons (.e (.c (.int 2))) .nil)))) .no)) .nil)))) .nil) .nil)
def q10_6 : CS := (.ret (.op .idx (.cons (.e (.fz (.lst (.cons (.op (.bi .list) (.cons (.bor 2 []) .nil)) (.cons (.c .non) (.cons (.c (.int 1)) (.cons (.c (.str "12")) .nil))))))) (.cons (.e (.op (.bin .mod) (.cons (.e (.op (.bi .int) (.cons (.e (.op .idx (.cons (.bor 4 []) (.cons (.e (.c (.int 0))) .nil)))) .nil))) (.cons (.e (.c (.int 4))) .nil)))) .nil))))
def b10 : CSs := (.cons q10_0 (.cons q10_1 (.cons q10_2 (.cons q10_3 (.cons q10_4 (.cons q10_5 (.cons q10_6 .nil)))))))
def f10 : Fn := ⟨4, 7, [], b10, none⟩
def e10 : Ent := ⟨"_law_changed", st10, ["_law_script", "_law_k", "_law_row_here", "_law_n", "_law_drawn", "_law_at", "_law_new"], ["_law_script", "_law_k", "_law_row_here", "_law_n"], f10, .fn⟩
def st11 : Stmt := PySem.Challenge.pw_clausehold_k02_clauses_and_rows.main.body.getD 17 (.Pass ⟨0, 0, 0, 0⟩)
def p11_0 : CS := (.set 5 (.slc (.bor 2 []) (.at (.op (.bin .add) (.cons (.e (.c (.int 1))) (.cons (.e (.op (.bin .mul) (.cons (.e (.c (.int 4))) (.cons (.bor 4 []) .nil)))) .nil)))) (.at (.op (.bin .add) (.cons (.e (.c (.int 5))) (.cons (.e (.op (.bin .mul) (.cons (.e (.c (.int 4))) (.cons (.bor 4 []) .nil)))) .nil))))))
def p11_1 : CS := (.set 6 (.op (.bin .add) (.cons (.e (.c (.int 1))) (.cons (.e (.op .idx (.cons (.bor 5 []) (.cons (.e (.c (.int 0))) .nil)))) .nil))))
def p11_2 : CS := (.ife (.val (.e (.op (.cmp .eq) (.cons (.e (.op .idx (.cons (.bor 5 []) (.cons (.e (.c (.int 2))) .nil)))) (.cons (.e (.c (.int 0))) .nil))))) (.cons (.set 6 (.op (.bin .add) (.cons (.e (.c (.int 10))) (.cons (.e (.op .idx (.cons (.bor 5 []) (.cons (.e (.c (.int 3))) .nil)))) .nil)))) .nil) .nil)
def p11_3 : CS := (.ife (.and (.cons (.val (.e (.op (.cmp .gt) (.cons (.e (.op (.bi .len) (.cons (.bor 3 []) .nil))) (.cons (.e (.c (.int 0))) .nil))))) (.cons (.val (.e (.op (.cmp .eq) (.cons (.e (.op .idx (.cons (.bor 5 []) (.cons (.e (.c (.int 2))) .nil)))) (.cons (.e (.c (.int 1))) .nil))))) .nil))) (.cons (.set 6 (.op (.bi .abs) (.cons (.e (.op .idx (.cons (.bor 3 []) (.cons (.e (.c (.int 0))) .nil)))) .nil))) .nil) .nil)
def p11_4 : CS := (.set 7 (.op .idx (.cons (.bor 5 []) (.cons (.e (.c (.int 1))) .nil))))
def p11_5 : CS := (.ife (.val (.e (.op (.cmp .gt) (.cons (.e (.op .idx (.cons (.bor 5 []) (.cons (.e (.c (.int 2))) .nil)))) (.cons (.e (.c (.int 5))) .nil))))) (.cons (.set 7 (.op (.bin .mod) (.cons (.e (.op (.bi .int) (.cons (.bor 6 []) .nil))) (.cons (.e (.c (.int 2))) .nil)))) .nil) .nil)
def p11_6 : CS := (.ex (.mu .append 3 [] (.cons (.op (.bin .mul) (.cons (.bor 6 []) (.cons (.e (.op (.bin .sub) (.cons (.e (.c (.int 1))) (.cons (.e (.op (.bin .mul) (.cons (.e (.c (.int 2))) (.cons (.bor 7 []) .nil)))) .nil)))) .nil))) .nil)))
def p11_7 : CSs := (.cons p11_0 (.cons p11_1 (.cons p11_2 (.cons p11_3 (.cons p11_4 (.cons p11_5 (.cons p11_6 .nil)))))))
def q11_0 : CS := (.set 2 (.call 6 (.val (.v 0) (.val (.v 1) (.val (.op (.bin .add) (.cons (.e (.lst (.cons (.c (.int 9)) .nil))) (.cons (.e (.op (.bin .mul) (.cons (.e (.lst (.cons (.c (.int 12)) (.cons (.c (.int 2)) (.cons (.c (.int 12)) (.cons (.c (.int 90)) .nil)))))) (.cons (.e (.c (.int 8))) .nil)))) .nil))) .nil)))))
def q11_1 : CS := (.set 3 (.lst .nil))
def q11_2 : CS := (.for_ (.one 4) (.rng1 (.op .idx (.cons (.bor 2 []) (.cons (.e (.c (.int 0))) .nil)))) p11_7)
def q11_3 : CS := (.ret (.take 3))
def b11 : CSs := (.cons q11_0 (.cons q11_1 (.cons q11_2 (.cons q11_3 .nil))))
def f11 : Fn := ⟨2, 8, [], b11, none⟩
def e11 : Ent := ⟨"_law_numbers", st11, ["_law_script", "_law_k", "_law_drawn", "_law_numbers_here", "_law_j", "_law_row_here", "_law_number", "_law_sign"], ["_law_script", "_law_k"], f11, .fn⟩
def st12 : Stmt := PySem.Challenge.pw_clausehold_k02_clauses_and_rows.main.body.getD 18 (.Pass ⟨0, 0, 0, 0⟩)
def p12_0 : CE := (.op (.bi .int) (.cons (.e (.op (.bi .abs) (.cons (.bor 3 []) .nil))) .nil))
def p12_1 : CTs := .nil
def p12_2 : CS := (.ife (.and (.cons (.val (.e (.op (.cmp .in_) (.cons (.bor 2 []) (.cons (.bor 0 []) .nil))))) (.cons (.val (.e (.op (.cmp .in_) (.cons (.e (.op (.bin .sub) (.cons (.e (.c (.int 0))) (.cons (.bor 2 []) .nil)))) (.cons (.bor 0 []) .nil))))) .nil))) (.cons (.ret (.c .non)) .nil) .nil)
def p12_3 : CS := (.ife (.and (.cons (.val (.e (.op (.cmp .in_) (.cons (.bor 2 []) (.cons (.bor 0 []) .nil))))) (.cons (.val (.e (.op (.cmp .notin) (.cons (.bor 2 []) (.cons (.bor 1 []) .nil))))) .nil))) (.cons (.ex (.mu .append 1 [] (.cons (.v 2) .nil))) .nil) .nil)
def p12_4 : CS := (.ife (.and (.cons (.val (.e (.op (.cmp .notin) (.cons (.bor 2 []) (.cons (.bor 0 []) .nil))))) (.cons (.val (.e (.op (.cmp .notin) (.cons (.e (.op (.bin .sub) (.cons (.e (.c (.int 0))) (.cons (.bor 2 []) .nil)))) (.cons (.bor 1 []) .nil))))) .nil))) (.cons (.ex (.mu .append 1 [] (.cons (.op (.bin .sub) (.cons (.e (.c (.int 0))) (.cons (.bor 2 []) .nil))) .nil))) .nil) .nil)
def p12_5 : CSs := (.cons p12_2 (.cons p12_3 (.cons p12_4 .nil)))
def q12_0 : CS := (.set 1 (.lst .nil))
def q12_1 : CS := (.for_ (.one 2) (.seq (.e (.op (.bi .sorted) (.cons (.e (.lc p12_0 (.one 3) (.seq (.bor 0 [])) p12_1)) .nil)))) p12_5)
def q12_2 : CS := (.ret (.op (.bi .tuple) (.cons (.bor 1 []) .nil)))
def b12 : CSs := (.cons q12_0 (.cons q12_1 (.cons q12_2 .nil)))
def f12 : Fn := ⟨1, 4, [], b12, none⟩
def e12 : Ent := ⟨"_law_clause_of", st12, ["_law_numbers_here", "_law_clause", "_law_v", "_law_number"], ["_law_numbers_here"], f12, .fn⟩
def st13 : Stmt := PySem.Challenge.pw_clausehold_k02_clauses_and_rows.main.body.getD 19 (.Pass ⟨0, 0, 0, 0⟩)
def p13_0 : CSs := (.cons (.ret (.tup (.cons (.c (.str "value")) (.cons (.call 4 (.val (.v 0) .nil)) .nil)))) .nil)
def q13_0 : CS := (.tr p13_0 [⟨0, [0], (some 1), true, [(.c (.str "literals")), (.xf 0)]⟩])
def b13 : CSs := (.cons q13_0 .nil)
def f13 : Fn := ⟨1, 2, [], b13, none⟩
def e13 : Ent := ⟨"_law_told", st13, ["_law_numbers_here", "literals_error"], ["_law_numbers_here"], f13, .fn⟩
def st14 : Stmt := PySem.Challenge.pw_clausehold_k02_clauses_and_rows.main.body.getD 20 (.Pass ⟨0, 0, 0, 0⟩)
def q14_0 : CS := (.set 1 (.call 13 (.val (.v 0) .nil)))
def q14_1 : CS := (.ife (.val (.e (.op (.isi ["list"]) (.cons (.bor 0 []) .nil)))) (.cons (.ret (.and (.cons (.op (.cmp .eq) (.cons (.e (.op .idx (.cons (.bor 1 []) (.cons (.e (.c (.int 0))) .nil)))) (.cons (.e (.c (.str "literals"))) .nil))) (.cons (.op (.cmp .eq) (.cons (.e (.op .idx (.cons (.bor 1 []) (.cons (.e (.c (.int 1))) .nil)))) (.cons (.bor 0 []) .nil))) .nil)))) .nil) .nil)
def q14_2 : CS := (.ret (.call 7 (.val (.mv 1) (.val (.tup (.cons (.c (.str "literals")) (.cons (.v 0) .nil))) .nil))))
def b14 : CSs := (.cons q14_0 (.cons q14_1 (.cons q14_2 .nil)))
def f14 : Fn := ⟨1, 2, [], b14, none⟩
def e14 : Ent := ⟨"_law_refused", st14, ["_law_value", "_law_told_here"], ["_law_value"], f14, .fn⟩
def st15 : Stmt := PySem.Challenge.pw_clausehold_k02_clauses_and_rows.main.body.getD 21 (.Pass ⟨0, 0, 0, 0⟩)
def p15_0 : CSs := (.cons (.ife (.not (.val (.e (.call 7 (.val (.call 3 (.val (.v 4) (.val (.v 11) .nil))) (.val (.call 8 (.val (.v 4) (.val (.v 11) .nil))) .nil)))))) (.cons (.ret (.c (.bl false))) .nil) .nil) .nil)
def p15_1 : CSs := (.cons (.for_ (.one 11) (.seq (.e (.lst (.cons (.mv 2) (.cons (.op .idx (.cons (.bor 1 []) (.cons (.e (.c (.int 1))) .nil))) (.cons (.mv 2) .nil)))))) p15_0) .nil)
def p15_2 : CSs := (.cons (.ife (.or (.cons (.not (.val (.e (.call 7 (.val (.call 13 (.val (.v 4) .nil)) (.val (.tup (.cons (.c (.str "value")) (.cons (.call 12 (.val (.mv 5) .nil)) .nil))) .nil)))))) (.cons (.val (.e (.op (.cmp .ne) (.cons (.bor 6 []) (.cons (.bor 5 []) .nil))))) .nil))) (.cons (.ret (.c (.bl false))) .nil) .nil) .nil)
def p15_3 : CSs := (.cons (.ife (.not (.val (.e (.call 14 (.val (.v 4) .nil))))) (.cons (.ret (.c (.bl false))) .nil) .nil) .nil)
def p15_4 : CS := (.set 12 (.call 13 (.val (.v 4) .nil)))
def p15_5 : CS := (.ife (.or (.cons (.val (.e (.op (.cmp .ne) (.cons (.e (.op .idx (.cons (.bor 12 []) (.cons (.e (.c (.int 0))) .nil)))) (.cons (.e (.c (.str "literals"))) .nil))))) (.cons (.val (.e (.op (.cmp .ne) (.cons (.e (.op .idx (.cons (.bor 12 []) (.cons (.e (.c (.int 1))) .nil)))) (.cons (.bor 4 []) .nil))))) .nil))) (.cons (.ret (.c (.bl false))) .nil) .nil)
def p15_6 : CSs := (.cons p15_4 (.cons p15_5 .nil))
def p15_7 : CE := (.v 14)
def p15_8 : CTs := (.cons (.val (.e (.op (.cmp .notin) (.cons (.bor 14 []) (.cons (.e (.op .idx (.cons (.bor 10 []) (.cons (.e (.c (.int 1))) .nil)))) .nil))))) .nil)
def p15_9 : CS := (.set 13 (.op (.cmp .eq) (.cons (.e (.op (.bi .len) (.cons (.e (.lc p15_7 (.one 14) (.seq (.e (.op .idx (.cons (.bor 10 []) (.cons (.e (.c (.int 0))) .nil))))) p15_8)) .nil))) (.cons (.e (.c (.int 0))) .nil))))
def p15_10 : CS := (.ife (.and (.cons (.val (.e (.call 8 (.val (.op .idx (.cons (.bor 10 []) (.cons (.e (.c (.int 1))) .nil))) (.val (.mv 2) .nil))))) (.cons (.not (.val (.e (.call 7 (.val (.call 5 (.val (.op .idx (.cons (.bor 10 []) (.cons (.e (.c (.int 0))) .nil))) (.val (.op .idx (.cons (.bor 10 []) (.cons (.e (.c (.int 1))) .nil))) .nil))) (.val (.v 13) .nil)))))) .nil))) (.cons (.ret (.c (.bl false))) .nil) .nil)
def p15_11 : CSs := (.cons p15_9 (.cons p15_10 .nil))
def q15_0 : CS := (.set 1 (.call 6 (.val (.v 0) (.val (.c (.int 0)) (.val (.lst (.cons (.c (.int 11)) (.cons (.c (.int 11)) (.cons (.c (.int 9)) (.cons (.c (.int 4)) .nil))))) .nil)))))
def q15_1 : CS := (.set 2 (.op .idx (.cons (.bor 1 []) (.cons (.e (.c (.int 0))) .nil))))
def q15_2 : CS := (.set 3 (.call 9 (.val (.v 0) (.val (.c (.int 1)) (.val (.mv 2) .nil)))))
def q15_3 : CS := (.for_ (.one 4) (.seq (.e (.lst (.cons (.mv 3) (.cons (.call 10 (.val (.v 0) (.val (.c (.int 2)) (.val (.mv 3) (.val (.mv 2) .nil))))) (.cons (.call 10 (.val (.v 0) (.val (.c (.int 3)) (.val (.mv 3) (.val (.mv 2) .nil))))) (.cons (.tup .nil) (.cons (.slc (.bor 3 []) (.at (.c (.int 1))) .no) .nil)))))))) p15_1)
def q15_4 : CS := (.set 5 (.call 11 (.val (.v 0) (.val (.c (.int 4)) .nil))))
def q15_5 : CS := (.set 6 (.op (.bi .list) (.cons (.bor 5 []) .nil)))
def q15_6 : CS := (.for_ (.one 4) (.seq (.e (.lst (.cons (.mv 6) (.cons (.op (.bi .tuple) (.cons (.bor 5 []) .nil)) (.cons (.mv 6) .nil)))))) p15_2)
def q15_7 : CS := (.set 7 (.op (.bin .mod) (.cons (.e (.op (.bi .int) (.cons (.e (.op .idx (.cons (.bor 1 []) (.cons (.e (.c (.int 2))) .nil)))) .nil))) (.cons (.e (.op (.bin .add) (.cons (.e (.c (.int 1))) (.cons (.e (.op (.bi .len) (.cons (.bor 5 []) .nil))) .nil)))) .nil))))
def q15_8 : CS := (.set 8 (.op (.bin .add) (.cons (.e (.op (.bin .add) (.cons (.e (.slc (.bor 5 []) .no (.at (.v 7)))) (.cons (.e (.lst (.cons (.op .idx (.cons (.e (.lst (.cons (.c (.int 0)) (.cons (.c (.bl true)) (.cons (.c .non) (.cons (.c (.str "1")) .nil)))))) (.cons (.e (.op .idx (.cons (.bor 1 []) (.cons (.e (.c (.int 3))) .nil)))) .nil))) .nil))) .nil)))) (.cons (.e (.slc (.bor 5 []) (.at (.v 7)) .no)) .nil))))
def q15_9 : CS := (.for_ (.one 4) (.seq (.e (.lst (.cons (.op (.bi .tuple) (.cons (.bor 8 []) .nil)) (.cons (.mv 8) (.cons (.c .non) (.cons (.c (.int 5)) (.cons (.c (.str "12")) .nil)))))))) p15_3)
def q15_10 : CS := (.for_ (.one 4) (.seq (.e (.lst (.cons (.tup (.cons (.lst (.cons (.c (.int 1)) .nil)) (.cons (.c (.int 2)) .nil))) (.cons (.tup (.cons (.c (.int 2)) (.cons (.lst (.cons (.c (.int 1)) .nil)) .nil))) (.cons (.tup (.cons (.tup (.cons (.c (.int 1)) .nil)) (.cons (.c (.int 2)) .nil))) .nil)))))) p15_6)
def q15_11 : CS := (.set 9 (.call 9 (.val (.v 0) (.val (.c (.int 5)) (.val (.mv 2) .nil)))))
def q15_12 : CS := (.for_ (.one 10) (.seq (.e (.lst (.cons (.tup (.cons (.mv 3) (.cons (.mv 9) .nil))) (.cons (.tup (.cons (.mv 9) (.cons (.mv 3) .nil))) (.cons (.tup (.cons (.slc (.bor 3 []) (.at (.c (.int 1))) .no) (.cons (.mv 3) .nil))) (.cons (.tup (.cons (.mv 3) (.cons (.mv 3) .nil))) (.cons (.tup (.cons (.tup .nil) (.cons (.mv 9) .nil))) (.cons (.tup (.cons (.slc (.bor 3 []) .no (.at (.c (.int 2)))) (.cons (.op (.bin .add) (.cons (.bor 9 []) (.cons (.e (.slc (.bor 3 []) (.at (.c (.int 2))) .no)) .nil))) .nil))) .nil))))))))) p15_11)
def q15_13 : CS := (.ret (.c (.bl true)))
def b15 : CSs := (.cons q15_0 (.cons q15_1 (.cons q15_2 (.cons q15_3 (.cons q15_4 (.cons q15_5 (.cons q15_6 (.cons q15_7 (.cons q15_8 (.cons q15_9 (.cons q15_10 (.cons q15_11 (.cons q15_12 (.cons q15_13 .nil))))))))))))))
def f15 : Fn := ⟨1, 15, [], b15, none⟩
def e15 : Ent := ⟨"law", st15, ["_law_script", "_law_drawn", "_law_n", "_law_row_here", "_law_value", "_law_numbers_here", "_law_handed", "_law_at", "_law_bad", "_law_other", "_law_pair", "_law_size", "_law_told_here", "_law_due", "_law_literal"], ["_law_script"], f15, .fn⟩
def cls : List (Str × List Str) := []
def dcs : List (Str × List (Str × Int)) := []
def exs : List ExC := [("InvalidLiterals", ["value"], [0])]
def ents : List Ent := [e0, e1, e2, e3, e4, e5, e6, e7, e8, e9, e10, e11, e12, e13, e14, e15]
def bns : List Str := ["abs", "all", "any", "bool", "int", "isinstance", "len", "list", "max", "range", "sorted", "str", "tuple"]
end K02
end
section
namespace K02
open PySem L2 Evl PyProof.Rows CH
def P (k f : Nat) (ts : List OT) : R (OT × List OT) := runD (tbOf ents) k f ts
theorem step (k f : Nat) (ts : List OT) (fn : Fn) (h : tbOf ents f = some fn) : P (k + 1) f ts = fn.run (P k) ts := by
  unfold P; simp only [runD, h]
theorem t0 : tbOf ents 0 = some f0 := rfl
theorem t1 : tbOf ents 1 = some f1 := rfl
theorem t2 : tbOf ents 2 = some f2 := rfl
theorem t3 : tbOf ents 3 = some f3 := rfl
theorem t4 : tbOf ents 4 = some f4 := rfl
theorem t5 : tbOf ents 5 = some f5 := rfl
theorem t6 : tbOf ents 6 = some f6 := rfl
theorem t7 : tbOf ents 7 = some f7 := rfl
theorem t8 : tbOf ents 8 = some f8 := rfl
theorem t9 : tbOf ents 9 = some f9 := rfl
theorem t10 : tbOf ents 10 = some f10 := rfl
theorem t11 : tbOf ents 11 = some f11 := rfl
theorem t12 : tbOf ents 12 = some f12 := rfl
theorem t13 : tbOf ents 13 = some f13 := rfl
theorem t14 : tbOf ents 14 = some f14 := rfl
theorem t15 : tbOf ents 15 = some f15 := rfl
theorem pow18 : Op.ev (.bin .pow) [.sh (.int 10), .sh (.int 18)] = some (.sh (.int 1000000000000000000)) := ev_pow_10 18 (by decide)
/-- the items of the lists that stand for numbers -/
theorem idx_sl (ns : List Int) (j : Nat) (h : j < ns.length) : idxEv (.sh (.lst (ns.map .int))) (j : Int) = some (.sh (.int (ns.getD j 0))) := by
  have e2 : atI (ns.map D.int) (j : Int) = some (.int (ns.getD j 0)) := atI_nat (by rw [List.getElem?_map, List.getElem?_eq_getElem h, List.getD_eq_getElem?_getD, List.getElem?_eq_getElem h]; rfl)
  show (atI (ns.map D.int) (j : Int)).map OT.sh = _
  rw [e2]; rfl
theorem idx_st (ns : List Int) (j : Nat) (h : j < ns.length) : idxEv (.sh (.tup (ns.map .int))) (j : Int) = some (.sh (.int (ns.getD j 0))) := idx_sl ns j h
theorem idx_sf (ns : List Int) (j : Nat) (h : j < ns.length) : idxEv (.sh (.flst (ns.map .int))) (j : Int) = some (.sh (.int (ns.getD j 0))) := idx_sl ns j h
theorem idx_ow (ns : List Int) (j : Nat) (h : j < ns.length) : idxEv (.lst (ns.map iT)) (j : Int) = some (.sh (.int (ns.getD j 0))) := by
  show (OT.items (.lst (ns.map iT))).bind _ = _
  rw [show OT.items (.lst (ns.map iT)) = some (ns.map .int) from leaves_i ns]
  exact idx_sl ns j h
/-- what a cell's draws are: as many as limits, each below its limit -/
def Within (xs ms : List Int) : Prop := xs.length = ms.length ∧ ∀ i, i < ms.length → 0 ≤ xs.getD i 0 ∧ xs.getD i 0 < ms.getD i 0
theorem ap_i (xs : List Int) (y : Int) (h : xs.length < 1000000) : muEv .append (xs.map iT) [.sh (.int y)] = some (.sh .non, (xs ++ [y]).map iT) := by
  show guard_ (decide ((xs.map iT).length < big)) _ = _
  rw [decide_eq_true (by rw [List.length_map]; simp only [big]; omega)]
  simp [guard_]
abbrev Rho (sc : D) (n : Int) (ms xs : List Int) (c r : Int) (u v : Sl) : CH.Env := [.ow (.sh sc), .ow (.sh (.int n)), .ow (.sh (.lst (ms.map .int))), .ow (.sh (.int c)), .ow (.sh (.int r)), .ow (.lst (xs.map iT)), u, v]
def mixA (c n i : Int) : Int := (c * 48271 + n * 69621 + i * 40692 + 12345) % 2147483647
def mixB (c n i : Int) : Int := (mixA c n i * mixA c n i + i * 16807 + 271) % 2147483563
def mixC (c n i : Int) : Int := (mixB c n i * mixB c n i + mixB c n i * 39373 + 7) % 2147483399
section
variable (k : Nat) (sc : D) (n : Int) (ms xs : List Int) (c r M : Int) (i : Int) (v : Sl)
theorem turn_t (ix : idxEv (.sh (.lst (ms.map .int))) i = some (.sh (.int M))) (hM : 0 < M ∧ M < 1073741824) (hx : xs.length < 1000000) (hr : 0 < r) :
    evSs (P k) [] p6_8 (Rho sc n ms xs c r (.ow (.sh (.int i))) v) = .ok (.nx, Rho sc n ms (xs ++ [r % M]) c (r / M) (.ow (.sh (.int i))) v) := by
  have m1 := fun x : Int => ev_mod_ii x M hM.1
  have d1 := fun x : Int => ev_fdiv_ii x M hM
  have ap := ap_i xs (r % M) hx
  unfold p6_8
  rw [ss_end, ife_t (ρ1 := Rho sc n ms xs c r (.ow (.sh (.int i))) v) (by simp [D.tyName, ev_isi_t, isTy, fillA, backA, goneA, cm_le_ii, cm_lt_ii, getV, Fn.run, Fn.run0, evSs, evS, evT, evAll, evAny, evO, evE, evOs, evEs, evAs, evB, evAnd, evOr, CH.R.bind, R.ofO, CH.Env.tree, CH.Env.own, CH.Env.ownL, OT.getP, lock, unlock, outs, tru_b, ev_eq_ii, ev_ne_ii, ev_lt_ii, ev_le_ii, ev_gt_ii, ev_ge_ii, ev_add_ii, ev_sub_ii, ev_neg_i, ev_int_i, ev_abs_i, ev_len_l, ev_len_t, ev_len_f, ev_idx, mulOk_r, ev_mul_ii, OT.toD, hr])]
  rw [ss_next (ρ1 := Rho sc n ms (xs ++ [r % M]) c r (.ow (.sh (.int i))) v) (by simp [p6_2, D.tyName, ev_isi_t, isTy, fillA, backA, goneA, cm_le_ii, cm_lt_ii, getV, Fn.run, Fn.run0, evSs, evS, evT, evAll, evAny, evO, evE, evOs, evEs, evAs, evB, evAnd, evOr, CH.R.bind, R.ofO, CH.Env.tree, CH.Env.own, CH.Env.ownL, OT.getP, lock, unlock, outs, tru_b, ev_eq_ii, ev_ne_ii, ev_lt_ii, ev_le_ii, ev_gt_ii, ev_ge_ii, ev_add_ii, ev_sub_ii, ev_neg_i, ev_int_i, ev_abs_i, ev_len_l, ev_len_t, ev_len_f, ev_idx, mulOk_r, ev_mul_ii, OT.toD, ix, m1, ap])]
  rw [ss_end]
  simp [p6_3, D.tyName, ev_isi_t, isTy, fillA, backA, goneA, cm_le_ii, cm_lt_ii, getV, Fn.run, Fn.run0, evSs, evS, evT, evAll, evAny, evO, evE, evOs, evEs, evAs, evB, evAnd, evOr, CH.R.bind, R.ofO, CH.Env.tree, CH.Env.own, CH.Env.ownL, OT.getP, lock, unlock, outs, tru_b, ev_eq_ii, ev_ne_ii, ev_lt_ii, ev_le_ii, ev_gt_ii, ev_ge_ii, ev_add_ii, ev_sub_ii, ev_neg_i, ev_int_i, ev_abs_i, ev_len_l, ev_len_t, ev_len_f, ev_idx, mulOk_r, ev_mul_ii, OT.toD, ix, d1]
theorem turn_f1 (hv : v = .no ∨ ∃ x, v = .ow (.sh (.int x))) : evS (P k) [] p6_4 (Rho sc n ms xs c r (.ow (.sh (.int i))) v) = .ok (.nx, Rho sc n ms xs c r (.ow (.sh (.int i))) (.ow (.sh (.int (mixA c n i))))) := by
  have m2 := fun x : Int => ev_mod_ii x 2147483647 (by omega)
  unfold mixA
  rcases hv with rfl | ⟨x, rfl⟩ <;> simp [p6_4, D.tyName, ev_isi_t, isTy, fillA, backA, goneA, cm_le_ii, cm_lt_ii, getV, Fn.run, Fn.run0, evSs, evS, evT, evAll, evAny, evO, evE, evOs, evEs, evAs, evB, evAnd, evOr, CH.R.bind, R.ofO, CH.Env.tree, CH.Env.own, CH.Env.ownL, OT.getP, lock, unlock, outs, tru_b, ev_eq_ii, ev_ne_ii, ev_lt_ii, ev_le_ii, ev_gt_ii, ev_ge_ii, ev_add_ii, ev_sub_ii, ev_neg_i, ev_int_i, ev_abs_i, ev_len_l, ev_len_t, ev_len_f, ev_idx, mulOk_r, ev_mul_ii, OT.toD, m2]
theorem turn_f2 (a : Int) (ha : 0 ≤ a ∧ a < 2147483647) : evS (P k) [] p6_5 (Rho sc n ms xs c r (.ow (.sh (.int i))) (.ow (.sh (.int a)))) = .ok (.nx, Rho sc n ms xs c r (.ow (.sh (.int i))) (.ow (.sh (.int ((a * a + i * 16807 + 271) % 2147483563))))) := by
  have m3 := fun x : Int => ev_mod_ii x 2147483563 (by omega)
  have mo : mulOk a a = true := mulOk_r _ _ (by omega)
  have e1 := ev_mul_ii a a mo
  simp [p6_5, D.tyName, ev_isi_t, isTy, fillA, backA, goneA, cm_le_ii, cm_lt_ii, getV, Fn.run, Fn.run0, evSs, evS, evT, evAll, evAny, evO, evE, evOs, evEs, evAs, evB, evAnd, evOr, CH.R.bind, R.ofO, CH.Env.tree, CH.Env.own, CH.Env.ownL, OT.getP, lock, unlock, outs, tru_b, ev_eq_ii, ev_ne_ii, ev_lt_ii, ev_le_ii, ev_gt_ii, ev_ge_ii, ev_add_ii, ev_sub_ii, ev_neg_i, ev_int_i, ev_abs_i, ev_len_l, ev_len_t, ev_len_f, ev_idx, mulOk_r, ev_mul_ii, OT.toD, m3, e1, mo]
theorem turn_f3 (a : Int) (ha : 0 ≤ a ∧ a < 2147483647) : evS (P k) [] p6_6 (Rho sc n ms xs c r (.ow (.sh (.int i))) (.ow (.sh (.int a)))) = .ok (.nx, Rho sc n ms xs c r (.ow (.sh (.int i))) (.ow (.sh (.int ((a * a + a * 39373 + 7) % 2147483399))))) := by
  have m3 := fun x : Int => ev_mod_ii x 2147483399 (by omega)
  have mo : mulOk a a = true := mulOk_r _ _ (by omega)
  have e1 := ev_mul_ii a a mo
  simp [p6_6, D.tyName, ev_isi_t, isTy, fillA, backA, goneA, cm_le_ii, cm_lt_ii, getV, Fn.run, Fn.run0, evSs, evS, evT, evAll, evAny, evO, evE, evOs, evEs, evAs, evB, evAnd, evOr, CH.R.bind, R.ofO, CH.Env.tree, CH.Env.own, CH.Env.ownL, OT.getP, lock, unlock, outs, tru_b, ev_eq_ii, ev_ne_ii, ev_lt_ii, ev_le_ii, ev_gt_ii, ev_ge_ii, ev_add_ii, ev_sub_ii, ev_neg_i, ev_int_i, ev_abs_i, ev_len_l, ev_len_t, ev_len_f, ev_idx, mulOk_r, ev_mul_ii, OT.toD, m3, e1, mo]
theorem turn_f4 (a : Int) (ix : idxEv (.sh (.lst (ms.map .int))) i = some (.sh (.int M))) (hM : 0 < M ∧ M < 1073741824) (hx : xs.length < 1000000) : evS (P k) [] p6_7 (Rho sc n ms xs c r (.ow (.sh (.int i))) (.ow (.sh (.int a)))) = .ok (.nx, Rho sc n ms (xs ++ [a / 16 % M]) c r (.ow (.sh (.int i))) (.ow (.sh (.int a)))) := by
  have m1 := fun x : Int => ev_mod_ii x M hM.1
  have d3 := fun x : Int => ev_fdiv_ii x 16 (by omega)
  have ap := ap_i xs (a / 16 % M) hx
  simp [p6_7, D.tyName, ev_isi_t, isTy, fillA, backA, goneA, cm_le_ii, cm_lt_ii, getV, Fn.run, Fn.run0, evSs, evS, evT, evAll, evAny, evO, evE, evOs, evEs, evAs, evB, evAnd, evOr, CH.R.bind, R.ofO, CH.Env.tree, CH.Env.own, CH.Env.ownL, OT.getP, lock, unlock, outs, tru_b, ev_eq_ii, ev_ne_ii, ev_lt_ii, ev_le_ii, ev_gt_ii, ev_ge_ii, ev_add_ii, ev_sub_ii, ev_neg_i, ev_int_i, ev_abs_i, ev_len_l, ev_len_t, ev_len_f, ev_idx, mulOk_r, ev_mul_ii, OT.toD, ix, m1, d3, ap]
theorem turn_f (hv : v = .no ∨ ∃ x, v = .ow (.sh (.int x))) (ix : idxEv (.sh (.lst (ms.map .int))) i = some (.sh (.int M))) (hM : 0 < M ∧ M < 1073741824) (hx : xs.length < 1000000) (hr : ¬ 0 < r) :
    evSs (P k) [] p6_8 (Rho sc n ms xs c r (.ow (.sh (.int i))) v) = .ok (.nx, Rho sc n ms (xs ++ [mixC c n i / 16 % M]) c r (.ow (.sh (.int i))) (.ow (.sh (.int (mixC c n i))))) := by
  have h1 : 0 ≤ mixA c n i ∧ mixA c n i < 2147483647 := by unfold mixA; omega
  have h2 : 0 ≤ mixB c n i ∧ mixB c n i < 2147483647 := by unfold mixB; omega
  unfold p6_8
  rw [ss_end, ife_f (ρ1 := Rho sc n ms xs c r (.ow (.sh (.int i))) v) (by simp [D.tyName, ev_isi_t, isTy, fillA, backA, goneA, cm_le_ii, cm_lt_ii, getV, Fn.run, Fn.run0, evSs, evS, evT, evAll, evAny, evO, evE, evOs, evEs, evAs, evB, evAnd, evOr, CH.R.bind, R.ofO, CH.Env.tree, CH.Env.own, CH.Env.ownL, OT.getP, lock, unlock, outs, tru_b, ev_eq_ii, ev_ne_ii, ev_lt_ii, ev_le_ii, ev_gt_ii, ev_ge_ii, ev_add_ii, ev_sub_ii, ev_neg_i, ev_int_i, ev_abs_i, ev_len_l, ev_len_t, ev_len_f, ev_idx, mulOk_r, ev_mul_ii, OT.toD, hr])]
  have g2 : evS (P k) [] p6_5 (Rho sc n ms xs c r (.ow (.sh (.int i))) (.ow (.sh (.int (mixA c n i))))) = .ok (.nx, Rho sc n ms xs c r (.ow (.sh (.int i))) (.ow (.sh (.int (mixB c n i))))) := turn_f2 k sc n ms xs c r i _ h1
  have g3 : evS (P k) [] p6_6 (Rho sc n ms xs c r (.ow (.sh (.int i))) (.ow (.sh (.int (mixB c n i))))) = .ok (.nx, Rho sc n ms xs c r (.ow (.sh (.int i))) (.ow (.sh (.int (mixC c n i))))) := turn_f3 k sc n ms xs c r i _ h2
  rw [ss_next (turn_f1 k sc n ms xs c r i v hv), ss_next g2, ss_next g3, ss_end]
  exact turn_f4 k sc n ms xs c r M i (mixC c n i) ix hM hx
end
theorem loop_eq (k : Nat) (sc : D) (n c : Int) (ms : List Int) (hm : ∀ m ∈ ms, 0 < m ∧ m < 1073741824) (hl : ms.length < 1000) (r0 : Int) :
    ∃ xs ρ', Within xs ms ∧ forL (fun ρ => evSs (P k) [] p6_8 ρ) [] (.one 6) ((List.range ms.length).map fun k => .int (k : Nat)) (Rho sc n ms [] c r0 .no .no) = .ok (.nx, ρ') ∧
      ∃ r u v, ρ' = Rho sc n ms xs c r u v := by
  obtain ⟨ρ', h1, h2⟩ := forL_inv (body := fun ρ => evSs (P k) [] p6_8 ρ) (pl := []) (tg := .one 6)
    (I := fun i ρ => ∃ (xs : List Int) (r : Int) (u v : Sl), ρ = Rho sc n ms xs c r u v ∧ (u = .no ∨ ∃ x, u = .ow (.sh (.int x))) ∧ (v = .no ∨ ∃ x, v = .ow (.sh (.int x))) ∧ xs.length = i ∧ ∀ j, j < i → 0 ≤ xs.getD j 0 ∧ xs.getD j 0 < ms.getD j 0)
    ((List.range ms.length).map fun k => .int (k : Nat)) (Rho sc n ms [] c r0 .no .no) ⟨[], r0, .no, .no, rfl, .inl rfl, .inl rfl, rfl, fun j h => absurd h (Nat.not_lt_zero j)⟩
    (fun i d ρ e hI => by
      obtain ⟨xs, r, u, v, rfl, hu, hv, hx, hin⟩ := hI
      obtain ⟨i', e1, rfl⟩ := by rw [List.getElem?_map] at e; exact Option.map_eq_some_iff.mp e
      obtain ⟨hi, e1⟩ := List.getElem?_eq_some_iff.mp e1
      rw [List.getElem_range] at e1
      subst e1
      rw [List.length_range] at hi
      have ix := idx_sl ms i hi
      have hmi : 0 < ms.getD i 0 ∧ ms.getD i 0 < 1073741824 := hm _ (by rw [List.getD_eq_getElem?_getD, List.getElem?_eq_getElem hi]; exact List.getElem_mem hi)
      generalize hM : ms.getD i 0 = M at ix hmi
      have ext : ∀ y : Int, 0 ≤ y → y < M → (xs ++ [y]).length = i + 1 ∧ ∀ j, j < i + 1 → 0 ≤ (xs ++ [y]).getD j 0 ∧ (xs ++ [y]).getD j 0 < ms.getD j 0 := fun y h0 h1 => by
        refine ⟨by simp [hx], fun j hj => ?_⟩
        by_cases hji : j < i
        · rw [List.getD_eq_getElem?_getD, List.getElem?_append_left (by omega), ← List.getD_eq_getElem?_getD]
          exact hin j hji
        · have : j = i := by omega
          subst this
          rw [List.getD_eq_getElem?_getD, List.getElem?_append_right (by omega), hx, hM]
          simp [h0, h1]
      have s1 : setTg [] (.one 6) (.int (i : Nat)) (Rho sc n ms xs c r u v) = some (Rho sc n ms xs c r (.ow (.sh (.int i))) v) := by
        rcases hu with rfl | ⟨x, rfl⟩ <;> rfl
      by_cases hr : 0 < r
      · obtain ⟨q1, q2⟩ := ext (r % M) (Int.emod_nonneg _ (by omega)) (Int.emod_lt_of_pos _ hmi.1)
        exact ⟨_, _, s1, turn_t k sc n ms xs c r M i v ix hmi (by omega) hr, _, _, _, _, rfl, .inr ⟨_, rfl⟩, hv, q1, q2⟩
      · obtain ⟨q1, q2⟩ := ext (mixC c n i / 16 % M) (Int.emod_nonneg _ (by omega)) (Int.emod_lt_of_pos _ hmi.1)
        exact ⟨_, _, s1, turn_f k sc n ms xs c r M i v hv ix hmi (by omega) hr, _, _, _, _, rfl, .inr ⟨_, rfl⟩, .inr ⟨_, rfl⟩, q1, q2⟩)
  obtain ⟨xs, r, u, v, rfl, _, _, hx, hin⟩ := h2
  rw [List.length_map, List.length_range] at hx hin
  exact ⟨xs, _, ⟨hx, hin⟩, h1, _, _, _, rfl⟩
theorem max0 (a : Int) : Op.ev (.bi .max2) [.sh (.int 0), .sh (.int a)] = some (.sh (.int (if a > 0 then a else 0))) := rfl
abbrev R0 (sc : D) (n : Int) (ms : List Int) (c r : Int) : CH.Env := [.ow (.sh sc), .ow (.sh (.int n)), .ow (.sh (.lst (ms.map .int))), .ow (.sh (.int c)), .ow (.sh (.int r)), .no, .no, .no]
theorem first_eq (k : Nat) (ns ms : List Int) (n : Int) (hn : 0 ≤ n ∧ n < 1000) (hl : ns.length ≤ 63) : ∃ c r, evS (P k) [] q6_2 (R0 (.flst (ns.map .int)) n ms 0 0) = .ok (.nx, R0 (.flst (ns.map .int)) n ms c r) := by
  have ln : Op.ev (.bi .len) [.sh (.flst (ns.map .int))] = some (.sh (.int ns.length)) := by show some (OT.sh (D.int ((ns.map D.int).length : Nat))) = _; rw [List.length_map]
  generalize hL : (ns.length : Int) = L at ln
  have ix : ∀ j : Int, 0 ≤ j → j < L → idxEv (.sh (.flst (ns.map .int))) j = some (.sh (.int (ns.getD j.toNat 0))) := fun j h0 h1 => by
    have := idx_sf ns j.toNat (by omega)
    rwa [Int.toNat_of_nonneg h0] at this
  unfold q6_2
  by_cases h1 : n < L
  · rw [ife_t (ρ1 := R0 (.flst (ns.map .int)) n ms 0 0) (by simp [D.tyName, ev_isi_t, isTy, fillA, backA, goneA, cm_le_ii, cm_lt_ii, getV, Fn.run, Fn.run0, evSs, evS, evT, evAll, evAny, evO, evE, evOs, evEs, evAs, evB, evAnd, evOr, CH.R.bind, R.ofO, CH.Env.tree, CH.Env.own, CH.Env.ownL, OT.getP, lock, unlock, outs, tru_b, ev_eq_ii, ev_ne_ii, ev_lt_ii, ev_le_ii, ev_gt_ii, ev_ge_ii, ev_add_ii, ev_sub_ii, ev_neg_i, ev_int_i, ev_abs_i, ev_len_l, ev_len_t, ev_len_f, ev_idx, mulOk_r, ev_mul_ii, OT.toD, ln, h1])]
    have e1 := ix n hn.1 h1
    generalize ns.getD n.toNat 0 = c at e1
    rw [ss_next (ρ1 := R0 (.flst (ns.map .int)) n ms c 0) (by simp [p6_0, D.tyName, ev_isi_t, isTy, fillA, backA, goneA, cm_le_ii, cm_lt_ii, getV, Fn.run, Fn.run0, evSs, evS, evT, evAll, evAny, evO, evE, evOs, evEs, evAs, evB, evAnd, evOr, CH.R.bind, R.ofO, CH.Env.tree, CH.Env.own, CH.Env.ownL, OT.getP, lock, unlock, outs, tru_b, ev_eq_ii, ev_ne_ii, ev_lt_ii, ev_le_ii, ev_gt_ii, ev_ge_ii, ev_add_ii, ev_sub_ii, ev_neg_i, ev_int_i, ev_abs_i, ev_len_l, ev_len_t, ev_len_f, ev_idx, mulOk_r, ev_mul_ii, OT.toD, e1]), ss_end]
    exact ⟨c, _, by simp [p6_1, D.tyName, ev_isi_t, isTy, fillA, backA, goneA, cm_le_ii, cm_lt_ii, getV, Fn.run, Fn.run0, evSs, evS, evT, evAll, evAny, evO, evE, evOs, evEs, evAs, evB, evAnd, evOr, CH.R.bind, R.ofO, CH.Env.tree, CH.Env.own, CH.Env.ownL, OT.getP, lock, unlock, outs, tru_b, ev_eq_ii, ev_ne_ii, ev_lt_ii, ev_le_ii, ev_gt_ii, ev_ge_ii, ev_add_ii, ev_sub_ii, ev_neg_i, ev_int_i, ev_abs_i, ev_len_l, ev_len_t, ev_len_f, ev_idx, mulOk_r, ev_mul_ii, OT.toD, pow18, max0]; rfl⟩
  · rw [ife_f (ρ1 := R0 (.flst (ns.map .int)) n ms 0 0) (by simp [D.tyName, ev_isi_t, isTy, fillA, backA, goneA, cm_le_ii, cm_lt_ii, getV, Fn.run, Fn.run0, evSs, evS, evT, evAll, evAny, evO, evE, evOs, evEs, evAs, evB, evAnd, evOr, CH.R.bind, R.ofO, CH.Env.tree, CH.Env.own, CH.Env.ownL, OT.getP, lock, unlock, outs, tru_b, ev_eq_ii, ev_ne_ii, ev_lt_ii, ev_le_ii, ev_gt_ii, ev_ge_ii, ev_add_ii, ev_sub_ii, ev_neg_i, ev_int_i, ev_abs_i, ev_len_l, ev_len_t, ev_len_f, ev_idx, mulOk_r, ev_mul_ii, OT.toD, ln, h1]), ss_end]
    by_cases h2 : 0 < L
    · have e1 := ix (n % L) (Int.emod_nonneg _ (by omega)) (Int.emod_lt_of_pos _ h2)
      have m1 := ev_mod_ii n L h2
      rw [ife_t (ρ1 := R0 (.flst (ns.map .int)) n ms 0 0) (by simp [D.tyName, ev_isi_t, isTy, fillA, backA, goneA, cm_le_ii, cm_lt_ii, getV, Fn.run, Fn.run0, evSs, evS, evT, evAll, evAny, evO, evE, evOs, evEs, evAs, evB, evAnd, evOr, CH.R.bind, R.ofO, CH.Env.tree, CH.Env.own, CH.Env.ownL, OT.getP, lock, unlock, outs, tru_b, ev_eq_ii, ev_ne_ii, ev_lt_ii, ev_le_ii, ev_gt_ii, ev_ge_ii, ev_add_ii, ev_sub_ii, ev_neg_i, ev_int_i, ev_abs_i, ev_len_l, ev_len_t, ev_len_f, ev_idx, mulOk_r, ev_mul_ii, OT.toD, ln, h2]), ss_end]
      generalize ns.getD (n % L).toNat 0 = c at e1
      exact ⟨c, 0, by simp [D.tyName, ev_isi_t, isTy, fillA, backA, goneA, cm_le_ii, cm_lt_ii, getV, Fn.run, Fn.run0, evSs, evS, evT, evAll, evAny, evO, evE, evOs, evEs, evAs, evB, evAnd, evOr, CH.R.bind, R.ofO, CH.Env.tree, CH.Env.own, CH.Env.ownL, OT.getP, lock, unlock, outs, tru_b, ev_eq_ii, ev_ne_ii, ev_lt_ii, ev_le_ii, ev_gt_ii, ev_ge_ii, ev_add_ii, ev_sub_ii, ev_neg_i, ev_int_i, ev_abs_i, ev_len_l, ev_len_t, ev_len_f, ev_idx, mulOk_r, ev_mul_ii, OT.toD, ln, m1, e1]⟩
    · rw [ife_f (ρ1 := R0 (.flst (ns.map .int)) n ms 0 0) (by simp [D.tyName, ev_isi_t, isTy, fillA, backA, goneA, cm_le_ii, cm_lt_ii, getV, Fn.run, Fn.run0, evSs, evS, evT, evAll, evAny, evO, evE, evOs, evEs, evAs, evB, evAnd, evOr, CH.R.bind, R.ofO, CH.Env.tree, CH.Env.own, CH.Env.ownL, OT.getP, lock, unlock, outs, tru_b, ev_eq_ii, ev_ne_ii, ev_lt_ii, ev_le_ii, ev_gt_ii, ev_ge_ii, ev_add_ii, ev_sub_ii, ev_neg_i, ev_int_i, ev_abs_i, ev_len_l, ev_len_t, ev_len_f, ev_idx, mulOk_r, ev_mul_ii, OT.toD, ln, h2])]
      exact ⟨0, 0, by simp [D.tyName, ev_isi_t, isTy, fillA, backA, goneA, cm_le_ii, cm_lt_ii, getV, Fn.run, Fn.run0, evSs, evS, evT, evAll, evAny, evO, evE, evOs, evEs, evAs, evB, evAnd, evOr, CH.R.bind, R.ofO, CH.Env.tree, CH.Env.own, CH.Env.ownL, OT.getP, lock, unlock, outs, tru_b, ev_eq_ii, ev_ne_ii, ev_lt_ii, ev_le_ii, ev_gt_ii, ev_ge_ii, ev_add_ii, ev_sub_ii, ev_neg_i, ev_int_i, ev_abs_i, ev_len_l, ev_len_t, ev_len_f, ev_idx, mulOk_r, ev_mul_ii, OT.toD]⟩
theorem draws_eq (k : Nat) (ns ms : List Int) (n : Int) (hn : 0 ≤ n ∧ n < 1000) (hs : ns.length ≤ 63) (hm : ∀ m ∈ ms, 0 < m ∧ m < 1073741824) (hl : ms.length < 1000) :
    ∃ xs, Within xs ms ∧ P (k + 1) 6 [.sh (.flst (ns.map .int)), .sh (.int n), .sh (.lst (ms.map .int))] = .ok (.lst (xs.map iT), [.sh (.flst (ns.map .int)), .sh (.int n), .sh (.lst (ms.map .int))]) := by
  rw [step k 6 _ f6 t6]
  obtain ⟨c, r, h1⟩ := first_eq k ns ms n hn hs
  obtain ⟨xs, ρ', hw, hf, r2, u, v, rfl⟩ := loop_eq k (.flst (ns.map .int)) n c ms hm hl r
  refine ⟨xs, hw, run_rt rfl (ρ := [.ow (.sh (.flst (ns.map .int))), .ow (.sh (.int n)), .ow (.sh (.lst (ms.map .int))), .ow (.sh (.int c)), .ow (.sh (.int r2)), .no, u, v]) ?_ rfl⟩
  have ln : Op.ev (.bi .len) [.sh (.lst (ms.map .int))] = some (.sh (.int ms.length)) := by show some (OT.sh (D.int ((ms.map D.int).length : Nat))) = _; rw [List.length_map]
  have hI : evI (P k) [] (.rng1 (.op (.bi .len) (.cons (.bor 2 []) .nil))) (Rho (.flst (ns.map .int)) n ms [] c r .no .no) = .ok ((List.range ms.length).map fun k => .int (k : Nat), Rho (.flst (ns.map .int)) n ms [] c r .no .no) := by
    have := range1_val (Φ := P k) (pl := []) (b := .op (.bi .len) (.cons (.bor 2 []) .nil)) (ρ := Rho (.flst (ns.map .int)) n ms [] c r .no .no) (ρ2 := Rho (.flst (ns.map .int)) n ms [] c r .no .no) (j := (ms.length : Int)) (by simp [D.tyName, ev_isi_t, isTy, fillA, backA, goneA, cm_le_ii, cm_lt_ii, getV, Fn.run, Fn.run0, evSs, evS, evT, evAll, evAny, evO, evE, evOs, evEs, evAs, evB, evAnd, evOr, CH.R.bind, R.ofO, CH.Env.tree, CH.Env.own, CH.Env.ownL, OT.getP, lock, unlock, outs, tru_b, ev_eq_ii, ev_ne_ii, ev_lt_ii, ev_le_ii, ev_gt_ii, ev_ge_ii, ev_add_ii, ev_sub_ii, ev_neg_i, ev_int_i, ev_abs_i, ev_len_l, ev_len_t, ev_len_f, ev_idx, mulOk_r, ev_mul_ii, OT.toD, ln]) (by omega)
    rw [this, Int.toNat_natCast]
  show evSs (P k) [] b6 [.ow (.sh (.flst (ns.map .int))), .ow (.sh (.int n)), .ow (.sh (.lst (ms.map .int))), .no, .no, .no, .no, .no] = _
  unfold b6
  rw [ss_next (ρ1 := [.ow (.sh (.flst (ns.map .int))), .ow (.sh (.int n)), .ow (.sh (.lst (ms.map .int))), .ow (.sh (.int 0)), .no, .no, .no, .no]) (by simp [q6_0, D.tyName, ev_isi_t, isTy, fillA, backA, goneA, cm_le_ii, cm_lt_ii, getV, Fn.run, Fn.run0, evSs, evS, evT, evAll, evAny, evO, evE, evOs, evEs, evAs, evB, evAnd, evOr, CH.R.bind, R.ofO, CH.Env.tree, CH.Env.own, CH.Env.ownL, OT.getP, lock, unlock, outs, tru_b, ev_eq_ii, ev_ne_ii, ev_lt_ii, ev_le_ii, ev_gt_ii, ev_ge_ii, ev_add_ii, ev_sub_ii, ev_neg_i, ev_int_i, ev_abs_i, ev_len_l, ev_len_t, ev_len_f, ev_idx, mulOk_r, ev_mul_ii, OT.toD])]
  rw [ss_next (ρ1 := R0 (.flst (ns.map .int)) n ms 0 0) (by simp [q6_1, D.tyName, ev_isi_t, isTy, fillA, backA, goneA, cm_le_ii, cm_lt_ii, getV, Fn.run, Fn.run0, evSs, evS, evT, evAll, evAny, evO, evE, evOs, evEs, evAs, evB, evAnd, evOr, CH.R.bind, R.ofO, CH.Env.tree, CH.Env.own, CH.Env.ownL, OT.getP, lock, unlock, outs, tru_b, ev_eq_ii, ev_ne_ii, ev_lt_ii, ev_le_ii, ev_gt_ii, ev_ge_ii, ev_add_ii, ev_sub_ii, ev_neg_i, ev_int_i, ev_abs_i, ev_len_l, ev_len_t, ev_len_f, ev_idx, mulOk_r, ev_mul_ii, OT.toD]), ss_next h1]
  rw [ss_next (ρ1 := Rho (.flst (ns.map .int)) n ms [] c r .no .no) (by simp [q6_3, D.tyName, ev_isi_t, isTy, fillA, backA, goneA, cm_le_ii, cm_lt_ii, getV, Fn.run, Fn.run0, evSs, evS, evT, evAll, evAny, evO, evE, evOs, evEs, evAs, evB, evAnd, evOr, CH.R.bind, R.ofO, CH.Env.tree, CH.Env.own, CH.Env.ownL, OT.getP, lock, unlock, outs, tru_b, ev_eq_ii, ev_ne_ii, ev_lt_ii, ev_le_ii, ev_gt_ii, ev_ge_ii, ev_add_ii, ev_sub_ii, ev_neg_i, ev_int_i, ev_abs_i, ev_len_l, ev_len_t, ev_len_f, ev_idx, mulOk_r, ev_mul_ii, OT.toD])]
  rw [ss_next (s := q6_4) (ρ1 := Rho (.flst (ns.map .int)) n ms xs c r2 u v) (by unfold q6_4; rw [evS, hI]; simp only [CH.R.bind, backI]; rw [hf])]
  rw [ss_end]
  simp [q6_5, D.tyName, ev_isi_t, isTy, fillA, backA, goneA, cm_le_ii, cm_lt_ii, getV, Fn.run, Fn.run0, evSs, evS, evT, evAll, evAny, evO, evE, evOs, evEs, evAs, evB, evAnd, evOr, CH.R.bind, R.ofO, CH.Env.tree, CH.Env.own, CH.Env.ownL, OT.getP, lock, unlock, outs, tru_b, ev_eq_ii, ev_ne_ii, ev_lt_ii, ev_le_ii, ev_gt_ii, ev_ge_ii, ev_add_ii, ev_sub_ii, ev_neg_i, ev_int_i, ev_abs_i, ev_len_l, ev_len_t, ev_len_f, ev_idx, mulOk_r, ev_mul_ii, OT.toD]
end K02
end
section
namespace K02
open PySem L2 Evl PyProof.Rows CH
def absI (i : Int) : Int := if i < 0 then -i else i
def seqOf (l : Bool) (ds : List D) : D := if l = true then .lst ds else .tup ds
def bI (j : Nat) (ns : List Int) : Bool := decide (ns.getD j 0 < ns.getD (j + 1) 0)
def rising (ns : List Int) : Bool := (List.range (ns.length - 1)).all fun j => bI j ns
theorem idx_seq (l : Bool) (ns : List Int) (j : Nat) (h : j < ns.length) : idxEv (.sh (seqOf l (ns.map .int))) (j : Int) = some (.sh (.int (ns.getD j 0))) := by
  have e : (OT.sh (seqOf l (ns.map .int))).items = some (ns.map .int) := by cases l <;> rfl
  have e2 : atI (ns.map D.int) (j : Int) = some (.int (ns.getD j 0)) := atI_nat (by rw [List.getElem?_map, List.getElem?_eq_getElem h, List.getD_eq_getElem?_getD, List.getElem?_eq_getElem h]; rfl)
  cases l
  · show ((OT.items (.sh (.tup (ns.map .int)))).bind fun ds => (atI ds (j : Int)).map OT.sh) = _
    rw [show OT.items (.sh (.tup (ns.map .int))) = some (ns.map .int) from rfl]
    show (atI (ns.map D.int) (j : Int)).map OT.sh = _
    rw [e2]; rfl
  · show ((OT.items (.sh (.lst (ns.map .int)))).bind fun ds => (atI ds (j : Int)).map OT.sh) = _
    rw [show OT.items (.sh (.lst (ns.map .int))) = some (ns.map .int) from rfl]
    show (atI (ns.map D.int) (j : Int)).map OT.sh = _
    rw [e2]; rfl
theorem len_seq (l : Bool) (ds : List D) : Op.ev (.bi .len) [.sh (seqOf l ds)] = some (.sh (.int ds.length)) := by cases l <;> rfl
/-- plain data -/
inductive Pl : D → Prop
  | non : Pl .non
  | bl (b : Bool) : Pl (.bl b)
  | int (i : Int) : Pl (.int i)
  | str {s : Str} : PyData.strOk s = true → Pl (.str s)
  | tup {ds : List D} : ds.length < 1000000 → (∀ d ∈ ds, Pl d) → Pl (.tup ds)
  | lst {ds : List D} : ds.length < 1000000 → (∀ d ∈ ds, Pl d) → Pl (.lst ds)
def isI : D → Bool
  | .int _ => true
  | _ => false
theorem int_run (k : Nat) {v : D} (h : Pl v) : P (k + 1) 0 [.sh v] = .ok (.sh (.bl (isI v)), [.sh v]) := by
  cases h <;> rfl
theorem isI_int {d : D} (h : isI d = true) : ∃ i, d = .int i := by cases d <;> first | exact ⟨_, rfl⟩ | cases h
def absD : D → Int
  | .int i => absI i
  | _ => 0
def numD : D → Int
  | .int i => i
  | _ => 0
theorem numD_map (ns : List Int) : (ns.map D.int).map numD = ns := by rw [List.map_map]; exact List.map_id _
theorem absD_map (ns : List Int) : (ns.map D.int).map absD = ns.map absI := by rw [List.map_map]; rfl
theorem lay_ints : ∀ ns : List Int, PyData.canLayAll0 (ns.map .int) = true
  | [] => rfl
  | n :: ns => by show (true && PyData.canLayAll0 (ns.map .int)) = true; rw [lay_ints ns]; rfl
theorem depth_ints : ∀ ns : List Int, PyData.depthAll (ns.map .int) = 0
  | [] => rfl
  | n :: ns => by show max 0 (PyData.depthAll (ns.map .int)) = 0; rw [depth_ints ns]; rfl
theorem toPs_ints : ∀ ns : List Int, toPs (ns.map .int) = some (ns.map .int)
  | [] => rfl
  | n :: ns => by show ((D.int n).toP.bind fun p => (toPs (ns.map .int)).map fun q => p :: q) = _; rw [toPs_ints ns]; rfl
theorem shaped_ints (ns : List Int) : SeqAt.shaped (.tuple (ns.map .int)) = true := by
  unfold SeqAt.shaped
  rw [show PyData.canLay0 (.tuple (ns.map .int)) = PyData.canLayAll0 (ns.map .int) from rfl, lay_ints, show PyData.depth (.tuple (ns.map .int)) = PyData.depthAll (ns.map .int) + 1 from rfl, depth_ints]
  rfl
theorem toP_ints (ns : List Int) : (D.tup (ns.map .int)).toP = some (.tuple (ns.map .int)) := by
  show (toPs (ns.map .int)).map _ = _
  rw [toPs_ints]; rfl
theorem shapedD_ints (ns : List Int) : shapedD (.tup (ns.map .int)) = true := by
  unfold shapedD
  rw [toP_ints]
  exact shaped_ints ns
/-- a clause: literals rising by size -/
def clGo (n : Int) : Int → List D → Bool
  | _, [] => true
  | a, .int i :: ds => if a < absI i ∧ absI i ≤ n then clGo n (absI i) ds else false
  | _, _ :: _ => false
def isCl (n : Int) : D → Bool
  | .tup ds => clGo n 0 ds
  | _ => false
theorem cl_loop (k : Nat) (n : Int) (v : D) : ∀ (ds : List D) (a : Int) (s : Sl), (s = .no ∨ ∃ d, s = .ow (.sh d)) → (∀ d ∈ ds, Pl d) → 
    ∃ ρ', (forL (fun ρ => evSs (P (k + 1)) [] p3_2 ρ) [] (.one 3) ds [.lk (.sh v), .ow (.sh (.int n)), .ow (.sh (.int a)), s] = .ok (if clGo n a ds = true then .nx else .rt (.sh (.bl false)), ρ')) ∧ ρ'[0]? = some (.lk (.sh v)) ∧ ρ'[1]? = some (.ow (.sh (.int n))) ∧ ρ'.length = 4
  | [], a, s, _, _ => ⟨_, rfl, rfl, rfl, rfl⟩
  | d :: ds, a, s, hs, hd => by
    have hp := hd d (by simp)
    have r := int_run k hp
    have st : setTg [] (.one 3) d [.lk (.sh v), .ow (.sh (.int n)), .ow (.sh (.int a)), s] = some [.lk (.sh v), .ow (.sh (.int n)), .ow (.sh (.int a)), .ow (.sh d)] := by
      rcases hs with rfl | ⟨e, rfl⟩ <;> rfl
    unfold forL
    rw [st]
    simp only
    cases hI : isI d with
    | true =>
      obtain ⟨i, rfl⟩ := isI_int hI
      by_cases h1 : a < absI i
      · by_cases h2 : absI i ≤ n
        · have h1' := h1; have h2' := h2; unfold absI at h1' h2'
          obtain ⟨ρ', e, e1, e2, e3⟩ := cl_loop k n v ds (absI i) (.ow (.sh (.int i))) (.inr ⟨_, rfl⟩) fun d hm => hd d (by simp [hm])
          refine ⟨ρ', ?_, e1, e2, e3⟩
          have hb : evSs (P (k + 1)) [] p3_2 [.lk (.sh v), .ow (.sh (.int n)), .ow (.sh (.int a)), .ow (.sh (.int i))] = .ok (.nx, [.lk (.sh v), .ow (.sh (.int n)), .ow (.sh (.int (absI i))), .ow (.sh (.int i))]) := by
            simp [p3_2, p3_1, p3_0, D.tyName, ev_isi_t, isTy, fillA, backA, goneA, cm_le_ii, cm_lt_ii, getV, Fn.run, Fn.run0, evSs, evS, evT, evAll, evAny, evO, evE, evOs, evEs, evAs, evB, evAnd, evOr, CH.R.bind, R.ofO, CH.Env.tree, CH.Env.own, CH.Env.ownL, OT.getP, lock, unlock, outs, tru_b, ev_eq_ii, ev_ne_ii, ev_lt_ii, ev_le_ii, ev_gt_ii, ev_ge_ii, ev_add_ii, ev_sub_ii, ev_neg_i, ev_int_i, ev_abs_i, ev_len_l, ev_len_t, ev_len_f, ev_idx, mulOk_r, ev_mul_ii, OT.toD, r, isI, h1', h2', absI]
          rw [hb]
          simp only [CH.R.bind]
          rw [e]
          simp [clGo, h1, h2]
        · have h1' := h1; have h2' := h2; unfold absI at h1' h2'
          refine ⟨[.lk (.sh v), .ow (.sh (.int n)), .ow (.sh (.int a)), .ow (.sh (.int i))], ?_, rfl, rfl, rfl⟩
          simp [p3_2, p3_1, p3_0, D.tyName, ev_isi_t, isTy, fillA, backA, goneA, cm_le_ii, cm_lt_ii, getV, Fn.run, Fn.run0, evSs, evS, evT, evAll, evAny, evO, evE, evOs, evEs, evAs, evB, evAnd, evOr, CH.R.bind, R.ofO, CH.Env.tree, CH.Env.own, CH.Env.ownL, OT.getP, lock, unlock, outs, tru_b, ev_eq_ii, ev_ne_ii, ev_lt_ii, ev_le_ii, ev_gt_ii, ev_ge_ii, ev_add_ii, ev_sub_ii, ev_neg_i, ev_int_i, ev_abs_i, ev_len_l, ev_len_t, ev_len_f, ev_idx, mulOk_r, ev_mul_ii, OT.toD, r, isI, h1', h2', clGo, h1, h2]
      · have h1' := h1; unfold absI at h1'
        refine ⟨[.lk (.sh v), .ow (.sh (.int n)), .ow (.sh (.int a)), .ow (.sh (.int i))], ?_, rfl, rfl, rfl⟩
        simp [p3_2, p3_1, p3_0, D.tyName, ev_isi_t, isTy, fillA, backA, goneA, cm_le_ii, cm_lt_ii, getV, Fn.run, Fn.run0, evSs, evS, evT, evAll, evAny, evO, evE, evOs, evEs, evAs, evB, evAnd, evOr, CH.R.bind, R.ofO, CH.Env.tree, CH.Env.own, CH.Env.ownL, OT.getP, lock, unlock, outs, tru_b, ev_eq_ii, ev_ne_ii, ev_lt_ii, ev_le_ii, ev_gt_ii, ev_ge_ii, ev_add_ii, ev_sub_ii, ev_neg_i, ev_int_i, ev_abs_i, ev_len_l, ev_len_t, ev_len_f, ev_idx, mulOk_r, ev_mul_ii, OT.toD, r, isI, h1', clGo, h1]
    | false =>
      have cg : clGo n a (d :: ds) = false := by cases d <;> first | rfl | cases hI
      refine ⟨[.lk (.sh v), .ow (.sh (.int n)), .ow (.sh (.int a)), .ow (.sh d)], ?_, rfl, rfl, rfl⟩
      simp [p3_2, p3_1, p3_0, D.tyName, ev_isi_t, isTy, fillA, backA, goneA, cm_le_ii, cm_lt_ii, getV, Fn.run, Fn.run0, evSs, evS, evT, evAll, evAny, evO, evE, evOs, evEs, evAs, evB, evAnd, evOr, CH.R.bind, R.ofO, CH.Env.tree, CH.Env.own, CH.Env.ownL, OT.getP, lock, unlock, outs, tru_b, ev_eq_ii, ev_ne_ii, ev_lt_ii, ev_le_ii, ev_gt_ii, ev_ge_ii, ev_add_ii, ev_sub_ii, ev_neg_i, ev_int_i, ev_abs_i, ev_len_l, ev_len_t, ev_len_f, ev_idx, mulOk_r, ev_mul_ii, OT.toD, r, hI, cg]
theorem cl_run (k : Nat) {v : D} (n : Int) (h : Pl v) : P (k + 2) 3 [.sh v, .sh (.int n)] = .ok (.sh (.bl (isCl n v)), [.sh v, .sh (.int n)]) := by
  rw [step (k + 1) 3 _ f3 t3]
  cases h with
  | @tup ds hz hd =>
    obtain ⟨ρ', e, e1, e2, e3⟩ := cl_loop k n (.tup ds) ds 0 .no (.inl rfl) hd
    match ρ', e1, e2, e3 with
    | [s0, s1, s2, s3], e1, e2, _ =>
      simp at e1 e2
      subst e1 e2
      by_cases hc : clGo n 0 ds = true
      · rw [if_pos hc] at e
        simp [f3, b3, q3_0, q3_1, q3_2, q3_3, D.tyName, ev_isi_t, isTy, fillA, backA, goneA, cm_le_ii, cm_lt_ii, getV, Fn.run, Fn.run0, evSs, evS, evT, evAll, evAny, evO, evE, evOs, evEs, evAs, evB, evAnd, evOr, CH.R.bind, R.ofO, CH.Env.tree, CH.Env.own, CH.Env.ownL, OT.getP, lock, unlock, outs, tru_b, ev_eq_ii, ev_ne_ii, ev_lt_ii, ev_le_ii, ev_gt_ii, ev_ge_ii, ev_add_ii, ev_sub_ii, ev_neg_i, ev_int_i, ev_abs_i, ev_len_l, ev_len_t, ev_len_f, ev_idx, mulOk_r, ev_mul_ii, OT.toD, evI, backI, wipeE, backE, patch, quietAll, quietSl, Tg.slots, OT.items, e, isCl, hc]
      · rw [if_neg hc] at e
        have hc : clGo n 0 ds = false := by simpa using hc
        simp [f3, b3, q3_0, q3_1, q3_2, q3_3, D.tyName, ev_isi_t, isTy, fillA, backA, goneA, cm_le_ii, cm_lt_ii, getV, Fn.run, Fn.run0, evSs, evS, evT, evAll, evAny, evO, evE, evOs, evEs, evAs, evB, evAnd, evOr, CH.R.bind, R.ofO, CH.Env.tree, CH.Env.own, CH.Env.ownL, OT.getP, lock, unlock, outs, tru_b, ev_eq_ii, ev_ne_ii, ev_lt_ii, ev_le_ii, ev_gt_ii, ev_ge_ii, ev_add_ii, ev_sub_ii, ev_neg_i, ev_int_i, ev_abs_i, ev_len_l, ev_len_t, ev_len_f, ev_idx, mulOk_r, ev_mul_ii, OT.toD, evI, backI, wipeE, backE, patch, quietAll, quietSl, Tg.slots, OT.items, e, isCl, hc]
  | _ => simp [f3, b3, q3_0, q3_1, q3_2, q3_3, D.tyName, ev_isi_t, isTy, fillA, backA, goneA, cm_le_ii, cm_lt_ii, getV, Fn.run, Fn.run0, evSs, evS, evT, evAll, evAny, evO, evE, evOs, evEs, evAs, evB, evAnd, evOr, CH.R.bind, R.ofO, CH.Env.tree, CH.Env.own, CH.Env.ownL, OT.getP, lock, unlock, outs, tru_b, ev_eq_ii, ev_ne_ii, ev_lt_ii, ev_le_ii, ev_gt_ii, ev_ge_ii, ev_add_ii, ev_sub_ii, ev_neg_i, ev_int_i, ev_abs_i, ev_len_l, ev_len_t, ev_len_f, ev_idx, mulOk_r, ev_mul_ii, OT.toD, isCl]
theorem lcl_loop (k : Nat) (n : Int) (v : D) : ∀ (ds : List D) (a : Int) (s : Sl), (s = .no ∨ ∃ d, s = .ow (.sh d)) → (∀ d ∈ ds, Pl d) → 
    ∃ ρ', (forL (fun ρ => evSs (P k) [] p8_2 ρ) [] (.one 3) ds [.lk (.sh v), .ow (.sh (.int n)), .ow (.sh (.int a)), s] = .ok (if clGo n a ds = true then .nx else .rt (.sh (.bl false)), ρ')) ∧ ρ'[0]? = some (.lk (.sh v)) ∧ ρ'[1]? = some (.ow (.sh (.int n))) ∧ ρ'.length = 4
  | [], a, s, _, _ => ⟨_, rfl, rfl, rfl, rfl⟩
  | d :: ds, a, s, hs, hd => by
    have hp := hd d (by simp)
    have st : setTg [] (.one 3) d [.lk (.sh v), .ow (.sh (.int n)), .ow (.sh (.int a)), s] = some [.lk (.sh v), .ow (.sh (.int n)), .ow (.sh (.int a)), .ow (.sh d)] := by
      rcases hs with rfl | ⟨e, rfl⟩ <;> rfl
    unfold forL
    rw [st]
    simp only
    cases hI : isI d with
    | true =>
      obtain ⟨i, rfl⟩ := isI_int hI
      by_cases h1 : a < absI i
      · by_cases h2 : absI i ≤ n
        · have h1' := h1; have h2' := h2; unfold absI at h1' h2'
          have h3' := Int.not_le.mpr h1'
          have h4' := Int.not_lt.mpr h2'
          obtain ⟨ρ', e, e1, e2, e3⟩ := lcl_loop k n v ds (absI i) (.ow (.sh (.int i))) (.inr ⟨_, rfl⟩) fun d hm => hd d (by simp [hm])
          refine ⟨ρ', ?_, e1, e2, e3⟩
          have hb : evSs (P k) [] p8_2 [.lk (.sh v), .ow (.sh (.int n)), .ow (.sh (.int a)), .ow (.sh (.int i))] = .ok (.nx, [.lk (.sh v), .ow (.sh (.int n)), .ow (.sh (.int (absI i))), .ow (.sh (.int i))]) := by
            simp [p8_2, p8_1, p8_0, D.tyName, ev_isi_t, isTy, fillA, backA, goneA, cm_le_ii, cm_lt_ii, getV, Fn.run, Fn.run0, evSs, evS, evT, evAll, evAny, evO, evE, evOs, evEs, evAs, evB, evAnd, evOr, CH.R.bind, R.ofO, CH.Env.tree, CH.Env.own, CH.Env.ownL, OT.getP, lock, unlock, outs, tru_b, ev_eq_ii, ev_ne_ii, ev_lt_ii, ev_le_ii, ev_gt_ii, ev_ge_ii, ev_add_ii, ev_sub_ii, ev_neg_i, ev_int_i, ev_abs_i, ev_len_l, ev_len_t, ev_len_f, ev_idx, mulOk_r, ev_mul_ii, OT.toD, h3', h4', absI]
          rw [hb]
          simp only [CH.R.bind]
          rw [e]
          simp [clGo, h1, h2]
        · have h1' := h1; have h2' := h2; unfold absI at h1' h2'
          have h3' := Int.not_le.mpr h1'
          have h4' := Int.not_le.mp h2'
          refine ⟨[.lk (.sh v), .ow (.sh (.int n)), .ow (.sh (.int a)), .ow (.sh (.int i))], ?_, rfl, rfl, rfl⟩
          simp [p8_2, p8_1, p8_0, D.tyName, ev_isi_t, isTy, fillA, backA, goneA, cm_le_ii, cm_lt_ii, getV, Fn.run, Fn.run0, evSs, evS, evT, evAll, evAny, evO, evE, evOs, evEs, evAs, evB, evAnd, evOr, CH.R.bind, R.ofO, CH.Env.tree, CH.Env.own, CH.Env.ownL, OT.getP, lock, unlock, outs, tru_b, ev_eq_ii, ev_ne_ii, ev_lt_ii, ev_le_ii, ev_gt_ii, ev_ge_ii, ev_add_ii, ev_sub_ii, ev_neg_i, ev_int_i, ev_abs_i, ev_len_l, ev_len_t, ev_len_f, ev_idx, mulOk_r, ev_mul_ii, OT.toD, h3', h4', clGo, h1, h2]
      · have h1' := h1; unfold absI at h1'
        have h3' := Int.not_lt.mp h1'
        refine ⟨[.lk (.sh v), .ow (.sh (.int n)), .ow (.sh (.int a)), .ow (.sh (.int i))], ?_, rfl, rfl, rfl⟩
        simp [p8_2, p8_1, p8_0, D.tyName, ev_isi_t, isTy, fillA, backA, goneA, cm_le_ii, cm_lt_ii, getV, Fn.run, Fn.run0, evSs, evS, evT, evAll, evAny, evO, evE, evOs, evEs, evAs, evB, evAnd, evOr, CH.R.bind, R.ofO, CH.Env.tree, CH.Env.own, CH.Env.ownL, OT.getP, lock, unlock, outs, tru_b, ev_eq_ii, ev_ne_ii, ev_lt_ii, ev_le_ii, ev_gt_ii, ev_ge_ii, ev_add_ii, ev_sub_ii, ev_neg_i, ev_int_i, ev_abs_i, ev_len_l, ev_len_t, ev_len_f, ev_idx, mulOk_r, ev_mul_ii, OT.toD, h3', clGo, h1]
    | false =>
      have cg : clGo n a (d :: ds) = false := by cases d <;> first | rfl | cases hI
      refine ⟨[.lk (.sh v), .ow (.sh (.int n)), .ow (.sh (.int a)), .ow (.sh d)], ?_, rfl, rfl, rfl⟩
      cases hp <;> first | (simp [isI] at hI; done) | simp [p8_2, p8_1, p8_0, D.tyName, ev_isi_t, isTy, fillA, backA, goneA, cm_le_ii, cm_lt_ii, getV, Fn.run, Fn.run0, evSs, evS, evT, evAll, evAny, evO, evE, evOs, evEs, evAs, evB, evAnd, evOr, CH.R.bind, R.ofO, CH.Env.tree, CH.Env.own, CH.Env.ownL, OT.getP, lock, unlock, outs, tru_b, ev_eq_ii, ev_ne_ii, ev_lt_ii, ev_le_ii, ev_gt_ii, ev_ge_ii, ev_add_ii, ev_sub_ii, ev_neg_i, ev_int_i, ev_abs_i, ev_len_l, ev_len_t, ev_len_f, ev_idx, mulOk_r, ev_mul_ii, OT.toD, cg]
theorem lcl_run (k : Nat) {v : D} (n : Int) (h : Pl v) : P (k + 1) 8 [.sh v, .sh (.int n)] = .ok (.sh (.bl (isCl n v)), [.sh v, .sh (.int n)]) := by
  rw [step k 8 _ f8 t8]
  cases h with
  | @tup ds hz hd =>
    obtain ⟨ρ', e, e1, e2, e3⟩ := lcl_loop k n (.tup ds) ds 0 .no (.inl rfl) hd
    match ρ', e1, e2, e3 with
    | [s0, s1, s2, s3], e1, e2, _ =>
      simp at e1 e2
      subst e1 e2
      by_cases hc : clGo n 0 ds = true
      · rw [if_pos hc] at e
        simp [f8, b8, q8_0, q8_1, q8_2, q8_3, D.tyName, ev_isi_t, isTy, fillA, backA, goneA, cm_le_ii, cm_lt_ii, getV, Fn.run, Fn.run0, evSs, evS, evT, evAll, evAny, evO, evE, evOs, evEs, evAs, evB, evAnd, evOr, CH.R.bind, R.ofO, CH.Env.tree, CH.Env.own, CH.Env.ownL, OT.getP, lock, unlock, outs, tru_b, ev_eq_ii, ev_ne_ii, ev_lt_ii, ev_le_ii, ev_gt_ii, ev_ge_ii, ev_add_ii, ev_sub_ii, ev_neg_i, ev_int_i, ev_abs_i, ev_len_l, ev_len_t, ev_len_f, ev_idx, mulOk_r, ev_mul_ii, OT.toD, evI, backI, wipeE, backE, patch, quietAll, quietSl, Tg.slots, OT.items, e, isCl, hc]
      · rw [if_neg hc] at e
        have hc : clGo n 0 ds = false := by simpa using hc
        simp [f8, b8, q8_0, q8_1, q8_2, q8_3, D.tyName, ev_isi_t, isTy, fillA, backA, goneA, cm_le_ii, cm_lt_ii, getV, Fn.run, Fn.run0, evSs, evS, evT, evAll, evAny, evO, evE, evOs, evEs, evAs, evB, evAnd, evOr, CH.R.bind, R.ofO, CH.Env.tree, CH.Env.own, CH.Env.ownL, OT.getP, lock, unlock, outs, tru_b, ev_eq_ii, ev_ne_ii, ev_lt_ii, ev_le_ii, ev_gt_ii, ev_ge_ii, ev_add_ii, ev_sub_ii, ev_neg_i, ev_int_i, ev_abs_i, ev_len_l, ev_len_t, ev_len_f, ev_idx, mulOk_r, ev_mul_ii, OT.toD, evI, backI, wipeE, backE, patch, quietAll, quietSl, Tg.slots, OT.items, e, isCl, hc]
  | _ => simp [f8, b8, q8_0, q8_1, q8_2, q8_3, D.tyName, ev_isi_t, isTy, fillA, backA, goneA, cm_le_ii, cm_lt_ii, getV, Fn.run, Fn.run0, evSs, evS, evT, evAll, evAny, evO, evE, evOs, evEs, evAs, evB, evAnd, evOr, CH.R.bind, R.ofO, CH.Env.tree, CH.Env.own, CH.Env.ownL, OT.getP, lock, unlock, outs, tru_b, ev_eq_ii, ev_ne_ii, ev_lt_ii, ev_le_ii, ev_gt_ii, ev_ge_ii, ev_add_ii, ev_sub_ii, ev_neg_i, ev_int_i, ev_abs_i, ev_len_l, ev_len_t, ev_len_f, ev_idx, mulOk_r, ev_mul_ii, OT.toD, isCl]
end K02
end
section
namespace K02
open PySem L2 Evl PyProof.Rows CH
theorem ord_run (k : Nat) (ns : List Int) (h : ns.length ≤ 1000) : P (k + 1) 2 [.sh (.lst (ns.map .int))] = .ok (.sh (.tup ((sortR ns).map .int)), [.sh (.lst (ns.map .int))]) := by
  rw [step k 2 _ f2 t2]
  have r : rankEv (.sh (.lst (ns.map .int))) = some (newL ((sortR ns).map .int)) := by
    show ((some (ns.map D.int)).bind fun ds => (intsD ds).bind fun ns => guard_ (decide (ns.length ≤ big)) (newL ((sortR ns).map .int))) = _
    have : intsD (ns.map .int) = some ns := by
      clear h
      induction ns with
      | nil => rfl
      | cons n ns ih => show (intsD (ns.map .int)).map (n :: ·) = _; rw [ih]; rfl
    simp only [Option.bind_some, this]
    rw [decide_eq_true (by simp only [big]; omega)]
    rfl
  have tp : Op.ev (.bi .tuple) [newL ((sortR ns).map .int)] = some (.sh (.tup ((sortR ns).map .int))) := by
    show ((OT.litems (newL ((sortR ns).map .int))).map fun ds => OT.sh (.tup ds)) = _
    unfold newL
    rw [litems_sh]; rfl
  simp [f2, b2, q2_0, D.tyName, ev_isi_t, isTy, fillA, backA, goneA, cm_le_ii, cm_lt_ii, getV, Fn.run, Fn.run0, evSs, evS, evT, evAll, evAny, evO, evE, evOs, evEs, evAs, evB, evAnd, evOr, CH.R.bind, R.ofO, CH.Env.tree, CH.Env.own, CH.Env.ownL, OT.getP, lock, unlock, outs, tru_b, ev_eq_ii, ev_ne_ii, ev_lt_ii, ev_le_ii, ev_gt_ii, ev_ge_ii, ev_add_ii, ev_sub_ii, ev_neg_i, ev_int_i, ev_abs_i, ev_len_l, ev_len_t, ev_len_f, ev_idx, mulOk_r, ev_mul_ii, OT.toD, r, tp]
def okL : D → Bool
  | .int i => !decide (i = 0)
  | _ => false
theorem all_fact (k : Nat) (v : D) (ds : List D) (hi : (OT.sh v).items = some ds) (hl : ds.length < 1000000) (hd : ∀ d ∈ ds, Pl d) :
    evE (P (k + 1)) [] (.op (.bi .all) (.cons (.e (.lc p4_0 (.one 3) (.seq (.bor 0 [])) p4_1)) .nil)) [.ow (.sh v), .no, .no, .no] = .ok (.sh (.bl (ds.all okL)), [.ow (.sh v), .no, .no, .no]) := by
  have := evE_all (Φ := P (k + 1)) (pl := []) (e := p4_0) (i := 3) (it := .seq (.bor 0 [])) (cs := p4_1) (ρ := [.ow (.sh v), .no, .no, .no]) (ρ1 := [.lk (.sh v), .no, .no, .no]) (xs := ds) (mk := id) (f := okL)
    (by simp [evI, CH.Env.tree, OT.getP, hi, lock]) rfl (by simp) (by simp only [big]; omega) (fun ρ => by simp [p4_1, evAll]) (fun x hx => by
      have r := int_run k (hd x hx)
      have hp := hd x hx
      cases hI : isI x with
      | true =>
        obtain ⟨i, rfl⟩ := isI_int hI
        simp [p4_0, D.tyName, ev_isi_t, isTy, fillA, backA, goneA, cm_le_ii, cm_lt_ii, getV, Fn.run, Fn.run0, evSs, evS, evT, evAll, evAny, evO, evE, evOs, evEs, evAs, evB, evAnd, evOr, CH.R.bind, R.ofO, CH.Env.tree, CH.Env.own, CH.Env.ownL, OT.getP, lock, unlock, outs, tru_b, ev_eq_ii, ev_ne_ii, ev_lt_ii, ev_le_ii, ev_gt_ii, ev_ge_ii, ev_add_ii, ev_sub_ii, ev_neg_i, ev_int_i, ev_abs_i, ev_len_l, ev_len_t, ev_len_f, ev_idx, mulOk_r, ev_mul_ii, OT.toD, r, isI, okL]
      | false =>
        have : okL x = false := by cases x <;> first | rfl | cases hI
        simp [p4_0, D.tyName, ev_isi_t, isTy, fillA, backA, goneA, cm_le_ii, cm_lt_ii, getV, Fn.run, Fn.run0, evSs, evS, evT, evAll, evAny, evO, evE, evOs, evEs, evAs, evB, evAnd, evOr, CH.R.bind, R.ofO, CH.Env.tree, CH.Env.own, CH.Env.ownL, OT.getP, lock, unlock, outs, tru_b, ev_eq_ii, ev_ne_ii, ev_lt_ii, ev_le_ii, ev_gt_ii, ev_ge_ii, ev_add_ii, ev_sub_ii, ev_neg_i, ev_int_i, ev_abs_i, ev_len_l, ev_len_t, ev_len_f, ev_idx, mulOk_r, ev_mul_ii, OT.toD, r, hI, this])
  rw [this]
  rfl
/-- keys and values in turn -/
def flat : List Int → List D
  | [] => []
  | m :: ms => .int m :: .bl true :: flat ms
theorem flat_app : ∀ (a b : List Int), flat (a ++ b) = flat a ++ flat b
  | [], b => rfl
  | m :: a, b => by simp [flat, flat_app a b]
theorem flat_good : ∀ ms : List Int, goodD (flat ms) = true
  | [] => rfl
  | m :: ms => flat_good ms
theorem flat_goodF : ∀ ms : List Int, goodF ((flat ms).map .sh) = true
  | [] => rfl
  | m :: ms => flat_goodF ms
theorem flat_evens : ∀ ms : List Int, evens (flat ms) = ms.map .int
  | [] => rfl
  | m :: ms => by show D.int m :: evens (flat ms) = _; rw [flat_evens ms]; rfl
theorem flat_has (n : Int) : ∀ ms : List Int, hasF n ((flat ms).map .sh) = decide (n ∈ ms)
  | [] => rfl
  | m :: ms => by
    have e : hasF n ((flat (m :: ms)).map .sh) = (decide (m = n) || hasF n ((flat ms).map .sh)) := rfl
    rw [e, flat_has n ms]
    by_cases h : m = n
    · subst h; simp
    · have h' : ¬ n = m := fun e => h e.symm
      simp [h, h']
theorem flat_put (n : Int) : ∀ ms : List Int, putIn n (.sh (.bl true)) ((flat ms).map .sh) = (flat ms).map .sh
  | [] => rfl
  | m :: ms => by
    show (if m = n then OT.sh (.int m) :: OT.sh (.bl true) :: putIn n (.sh (.bl true)) ((flat ms).map .sh) else OT.sh (.int m) :: OT.sh (.bl true) :: putIn n (.sh (.bl true)) ((flat ms).map .sh)) = _
    rw [flat_put n ms]
    split <;> rfl
theorem flat_len : ∀ ms : List Int, (flat ms).length = 2 * ms.length
  | [] => rfl
  | m :: ms => by simp [flat, flat_len ms]; omega
def ins (acc : List Int) (n : Int) : List Int := if n ∈ acc then acc else acc ++ [n]
def uniq (ns : List Int) : List Int := ns.foldl ins []
theorem put_ins (n : Int) (acc : List Int) : putD n (.bl true) ((flat acc).map .sh) = (flat (ins acc n)).map .sh := by
  unfold putD ins
  rw [flat_has]
  by_cases h : n ∈ acc
  · simp [h, flat_put]
  · simp [h, flat_app, flat]
theorem ins_len (acc : List Int) (n : Int) : (ins acc n).length ≤ acc.length + 1 := by
  unfold ins; split <;> simp
theorem fold_len : ∀ (ns acc : List Int), (ns.foldl ins acc).length ≤ acc.length + ns.length
  | [], acc => by simp
  | n :: ns, acc => by
    have h1 := fold_len ns (ins acc n)
    have h2 := ins_len acc n
    simp only [List.foldl_cons, List.length_cons]; omega
theorem dc_loop (k : Nat) (v : D) : ∀ (ns acc : List Int), acc.length + ns.length ≤ 1000 →
    lcG (fun ρ => evAll (P k) [] p4_4 ρ) (putE (fun ρ => evE (P k) [] p4_2 ρ) (fun ρ => evE (P k) [] p4_3 ρ)) [] (.one 2) [2] (ns.map .int) ((flat acc).map .sh) [.lk (.sh v), .no, .no, .no] = .ok ((flat (ns.foldl ins acc)).map .sh, [.lk (.sh v), .no, .no, .no])
  | [], acc, _ => rfl
  | n :: ns, acc, hl => by
    have h2 := ins_len acc n
    simp only [List.length_cons] at hl
    have ih := dc_loop k v ns (ins acc n) (by omega)
    have sp : putE (fun ρ => evE (P k) [] p4_2 ρ) (fun ρ => evE (P k) [] p4_3 ρ) ((flat acc).map .sh) [.lk (.sh v), .no, .ow (.sh (.int n)), .no] = .ok ((flat (ins acc n)).map .sh, [.lk (.sh v), .no, .ow (.sh (.int n)), .no]) := by
      unfold putE
      have e1 : evE (P k) [] p4_2 [.lk (.sh v), .no, .ow (.sh (.int n)), .no] = .ok (.sh (.int n), [.lk (.sh v), .no, .ow (.sh (.int n)), .no]) := rfl
      have e2 : evE (P k) [] p4_3 [.lk (.sh v), .no, .ow (.sh (.int n)), .no] = .ok (.sh (.bl true), [.lk (.sh v), .no, .ow (.sh (.int n)), .no]) := rfl
      simp only [e1, e2]
      have e3 : (decide (((flat acc).map OT.sh).length < big) && goodF ((flat acc).map .sh)) = true := by
        rw [flat_goodF, List.length_map, flat_len, decide_eq_true (by simp only [big]; omega)]; rfl
      rw [if_pos e3, put_ins]
    have s1 : setTg [] (.one 2) (.int n) [.lk (.sh v), .no, .no, .no] = some [.lk (.sh v), .no, .ow (.sh (.int n)), .no] := rfl
    have s2 : evAll (P k) [] p4_4 [.lk (.sh v), .no, .ow (.sh (.int n)), .no] = .ok (true, [.lk (.sh v), .no, .ow (.sh (.int n)), .no]) := rfl
    rw [List.map_cons]
    unfold lcG
    rw [s1]
    simp only [s2, sp]
    exact ih
theorem leaves_flat (ms : List Int) : leaves ((flat ms).map .sh) = some (flat ms) := leaves_map _
/-- a clause of the integers, or none -/
def co (ns : List Int) : D := if (uniq ns).any (fun n => decide (-n ∈ uniq ns)) = true then .non else .tup ((sortR (uniq ns)).map .int)
theorem inK_ev (n : Int) (ms : List Int) : Op.ev (.inK false) [.sh (.int n), .sh (.dct (flat ms))] = some (.sh (.bl (decide (n ∈ ms)))) := by
  show some (OT.sh (D.bl (false != ((evens (flat ms)).any fun d => d.isInt n)))) = _
  rw [flat_evens]
  congr 3
  induction ms with
  | nil => rfl
  | cons m ms ih =>
    have e : ((m :: ms).map D.int).any (fun d => d.isInt n) = (decide (m = n) || (ms.map D.int).any fun d => d.isInt n) := rfl
    rw [e]
    simp only [Bool.false_bne] at ih ⊢
    rw [ih]
    by_cases h : m = n
    · subst h; simp
    · have h' : ¬ n = m := fun e => h e.symm
      simp [h, h']
theorem any_fact (k : Nat) (v : D) (ms : List Int) (hl : ms.length ≤ 1000) :
    evE (P k) [] (.op (.bi .any) (.cons (.e (.lc p4_5 (.one 2) (.keys (.v 1)) p4_6)) .nil)) [.ow (.sh v), .ow (.sh (.dct (flat ms))), .no, .no] = .ok (.sh (.bl (ms.any fun n => decide (-n ∈ ms))), [.ow (.sh v), .ow (.sh (.dct (flat ms))), .no, .no]) := by
  have lc := evE_lc (Φ := P k) (pl := []) (e := p4_5) (i := 2) (it := .keys (.v 1)) (cs := p4_6) (ρ := [.ow (.sh v), .ow (.sh (.dct (flat ms))), .no, .no]) (ρ1 := [.ow (.sh v), .ow (.sh (.dct (flat ms))), .no, .no]) (xs := ms) (mk := .int) (g := fun n => .bl (decide (-n ∈ ms)))
    (by simp [evI, D.tyName, ev_isi_t, isTy, fillA, backA, goneA, cm_le_ii, cm_lt_ii, getV, Fn.run, Fn.run0, evSs, evS, evT, evAll, evAny, evO, evE, evOs, evEs, evAs, evB, evAnd, evOr, CH.R.bind, R.ofO, CH.Env.tree, CH.Env.own, CH.Env.ownL, OT.getP, lock, unlock, outs, tru_b, ev_eq_ii, ev_ne_ii, ev_lt_ii, ev_le_ii, ev_gt_ii, ev_ge_ii, ev_add_ii, ev_sub_ii, ev_neg_i, ev_int_i, ev_abs_i, ev_len_l, ev_len_t, ev_len_f, ev_idx, mulOk_r, ev_mul_ii, OT.toD, flat_evens]) rfl (by simp) (by simp only [big]; omega) (fun ρ => by simp [p4_6, evAll]) (fun x hx => by simp [p4_5, D.tyName, ev_isi_t, isTy, fillA, backA, goneA, cm_le_ii, cm_lt_ii, getV, Fn.run, Fn.run0, evSs, evS, evT, evAll, evAny, evO, evE, evOs, evEs, evAs, evB, evAnd, evOr, CH.R.bind, R.ofO, CH.Env.tree, CH.Env.own, CH.Env.ownL, OT.getP, lock, unlock, outs, tru_b, ev_eq_ii, ev_ne_ii, ev_lt_ii, ev_le_ii, ev_gt_ii, ev_ge_ii, ev_add_ii, ev_sub_ii, ev_neg_i, ev_int_i, ev_abs_i, ev_len_l, ev_len_t, ev_len_f, ev_idx, mulOk_r, ev_mul_ii, OT.toD, inK_ev])
  rw [evE, evOs, lc]
  have ea : Op.ev (.bi .any) [.lst (ms.map fun x => .sh (.bl (decide (-x ∈ ms))))] = some (.sh (.bl (ms.any fun n => decide (-n ∈ ms)))) := by
    show ((leaves (ms.map fun x => OT.sh (.bl (decide (-x ∈ ms))))).bind fun ds => (blsD ds).map fun bs => OT.sh (.bl (bs.any id))) = _
    have e1 : (ms.map fun x => OT.sh (.bl (decide (-x ∈ ms)))) = ((ms.map fun x => decide (-x ∈ ms)).map D.bl).map OT.sh := by simp [List.map_map]
    rw [e1, leaves_map]
    simp only [Option.bind_some]
    rw [blsD_map]
    simp [List.any_map]
  simp only [CH.R.bind, evOs, backI]
  rw [ea]
theorem co_ok (k : Nat) (l : Bool) (ns : List Int) (h0 : ∀ n ∈ ns, n ≠ 0) (hl : ns.length ≤ 500) : P (k + 2) 4 [.sh (seqOf l (ns.map .int))] = .ok (.sh (co ns), [.sh (seqOf l (ns.map .int))]) := by
  rw [step (k + 1) 4 _ f4 t4]
  have hi : (OT.sh (seqOf l (ns.map .int))).items = some (ns.map .int) := by cases l <;> rfl
  have hty : (seqOf l (ns.map .int)).tyName = some "list" ∨ (seqOf l (ns.map .int)).tyName = some "tuple" := by cases l; exact .inr rfl; exact .inl rfl
  generalize hv : seqOf l (ns.map .int) = v at hi hty
  have af := all_fact k v (ns.map .int) hi (by rw [List.length_map]; omega) (fun d hd => by obtain ⟨n, _, rfl⟩ := List.mem_map.mp hd; exact .int n)
  have e1 : (ns.map D.int).all okL = true := by
    rw [List.all_eq_true]
    intro d hd
    obtain ⟨n, hn, rfl⟩ := List.mem_map.mp hd
    simp [okL, h0 n hn]
  rw [e1] at af
  have g0 : evS (P (k + 1)) [] q4_0 [.ow (.sh v), .no, .no, .no] = .ok (.nx, [.ow (.sh v), .no, .no, .no]) := by
    have is_ : evE (P (k + 1)) [] (.op (.isi ["list", "tuple"]) (.cons (.bor 0 []) .nil)) [.ow (.sh v), .no, .no, .no] = .ok (.sh (.bl true), [.ow (.sh v), .no, .no, .no]) := by
      rcases hty with h | h <;> simp [evE, evOs, CH.Env.tree, OT.getP, lock, unlock, CH.R.bind, ev_isi_t, h, isTy]
    unfold q4_0
    rw [ife_f (ρ1 := [.ow (.sh v), .no, .no, .no]) (by simp [evT, evAny, evO, ↓is_, ↓af, CH.R.bind, tru_b])]
    rfl
  have g1 : evS (P (k + 1)) [] q4_1 [.ow (.sh v), .no, .no, .no] = .ok (.nx, [.ow (.sh v), .ow (.sh (.dct (flat (uniq ns)))), .no, .no]) := by
    have lp := dc_loop (k + 1) v ns [] (by simp; omega)
    have hI : evI (P (k + 1)) [] (.seq (.bor 0 [])) [.ow (.sh v), .no, .no, .no] = .ok (ns.map .int, [.lk (.sh v), .no, .no, .no]) := by simp [evI, CH.Env.tree, OT.getP, hi, lock]
    have hd : evE (P (k + 1)) [] (.dc p4_2 p4_3 (.one 2) (.seq (.bor 0 [])) p4_4) [.ow (.sh v), .no, .no, .no] = .ok (.sh (.dct (flat (uniq ns))), [.ow (.sh v), .no, .no, .no]) := by
      rw [evE, hI]
      simp only [CH.R.bind]
      rw [if_pos (by rfl), show wipeE [Sl.lk (.sh v), .no, .no, .no] (Tg.slots (.one 2)) = [.lk (.sh v), .no, .no, .no] from rfl, show Tg.slots (.one 2) = [2] from rfl]
      rw [show ([] : List OT) = (flat []).map .sh from rfl, lp]
      simp only [leaves_flat]
      rw [if_pos (flat_good _)]
      rfl
    unfold q4_1
    rw [evS, hd]
    rfl
  have ul : (uniq ns).length ≤ 1000 := by have := fold_len ns []; unfold uniq; simp at this; omega
  have an := any_fact (k + 1) v (uniq ns) ul
  have fin : ∃ ρ', evSs (P (k + 1)) [] b4 [.ow (.sh v), .no, .no, .no] = .ok (.rt (.sh (co ns)), ρ') ∧ outs [] ρ' 0 [OT.sh v] = some [.sh v] := by
    unfold b4
    rw [ss_next g0, ss_next g1]
    unfold co
    cases hu : (uniq ns).any (fun n => decide (-n ∈ uniq ns)) with
    | true =>
      rw [hu] at an
      refine ⟨[.ow (.sh v), .ow (.sh (.dct (flat (uniq ns)))), .no, .no], ss_stop ?_, rfl⟩
      unfold q4_2
      rw [ife_t (ρ1 := [.ow (.sh v), .ow (.sh (.dct (flat (uniq ns)))), .no, .no]) (by simp [evT, evO, ↓an, CH.R.bind, tru_b]), ss_end]
      simp [D.tyName, ev_isi_t, isTy, fillA, backA, goneA, cm_le_ii, cm_lt_ii, getV, Fn.run, Fn.run0, evSs, evS, evT, evAll, evAny, evO, evE, evOs, evEs, evAs, evB, evAnd, evOr, CH.R.bind, R.ofO, CH.Env.tree, CH.Env.own, CH.Env.ownL, OT.getP, lock, unlock, outs, tru_b, ev_eq_ii, ev_ne_ii, ev_lt_ii, ev_le_ii, ev_gt_ii, ev_ge_ii, ev_add_ii, ev_sub_ii, ev_neg_i, ev_int_i, ev_abs_i, ev_len_l, ev_len_t, ev_len_f, ev_idx, mulOk_r, ev_mul_ii, OT.toD]
    | false =>
      rw [hu] at an
      have g2 : evS (P (k + 1)) [] q4_2 [.ow (.sh v), .ow (.sh (.dct (flat (uniq ns)))), .no, .no] = .ok (.nx, [.ow (.sh v), .ow (.sh (.dct (flat (uniq ns)))), .no, .no]) := by
        unfold q4_2
        rw [ife_f (ρ1 := [.ow (.sh v), .ow (.sh (.dct (flat (uniq ns)))), .no, .no]) (by simp [evT, evO, ↓an, CH.R.bind, tru_b])]
        rfl
      rw [ss_next g2, ss_end]
      have lk : Op.ev .listK [.sh (.dct (flat (uniq ns)))] = some (newL ((uniq ns).map .int)) := by
        show some (newL (evens (flat (uniq ns)))) = _
        rw [flat_evens]
      have od := ord_run k (uniq ns) ul
      have td : (newL ((uniq ns).map .int)).toD = .lst ((uniq ns).map .int) := by
        unfold newL OT.toD
        rw [toDs_sh]
      refine ⟨[.ow (.sh v), .ow (.sh (.dct (flat (uniq ns)))), .no, .no], ?_, rfl⟩
      simp [q4_3, getV, evSs, evS, evT, evAll, evAny, evO, evOs, evEs, evAs, evB, CH.R.bind, R.ofO, CH.Env.tree, CH.Env.own, CH.Env.ownL, OT.getP, lock, unlock, backI, tru_b, ev_isi_t, D.tyName, isTy, ev_eq_ii, ev_ne_ii, ev_lt_ii, ev_le_ii, ev_gt_ii, ev_ge_ii, ev_len_t, ev_len_l, ev_len_f, evE, fillA, backA, goneA, lk, td, od, R.ofO]
  obtain ⟨ρ', h1, h2⟩ := fin
  exact run_rt rfl h1 h2
end K02
end
section
namespace K02
open PySem L2 Evl PyProof.Rows CH
theorem run_exn {Φ : Phi} {fn : Fn} {ts : List OT} {x : Exn} {ρ : CH.Env} (hl : ts.length = fn.np) (h : evSs Φ fn.pl fn.body (ts.map .ow ++ List.replicate (fn.nv - fn.np) .no) = .ex x ρ) (hc : fn.cls = none := by rfl) : fn.run Φ ts = .ex x [] := by
  unfold Fn.run
  rw [hc]
  simp only
  unfold Fn.run0
  rw [if_pos hl, h]
theorem ss_ex {Φ : Phi} {pl : List Nat} {s : CS} {r : CSs} {ρ ρ1 : CH.Env} {x : Exn} (h : evS Φ pl s ρ = .ex x ρ1) : evSs Φ pl (.cons s r) ρ = .ex x ρ1 := by rw [evSs, h]; rfl
theorem call1x {Φ : Phi} {pl : List Nat} {f : Nat} {e : CH.CE} {ρ ρ1 : CH.Env} {d : D} {u : OT} {x : Exn} {ws : CH.Env} (he : evE Φ pl e ρ = .ok (u, ρ1)) (hu : u.toD = d) (h : Φ f [.sh d] = .ex x ws) : evE Φ pl (.call f (.val e .nil)) ρ = .ex x ρ1 := by
  rw [evE, evAs, he]
  simp only [CH.R.bind, evAs, hu, fillA, Option.map, h, goneA]
theorem call1 {Φ : Phi} {pl : List Nat} {f : Nat} {e : CH.CE} {ρ ρ1 : CH.Env} {d : D} {u t w : OT} (he : evE Φ pl e ρ = .ok (u, ρ1)) (hu : u.toD = d) (h : Φ f [.sh d] = .ok (t, [w])) : evE Φ pl (.call f (.val e .nil)) ρ = .ok (t, ρ1) := by
  rw [evE, evAs, he]
  simp only [CH.R.bind, evAs, hu, fillA, Option.map, h, goneA, backA]
theorem call2 {Φ : Phi} {pl : List Nat} {f : Nat} {e e' : CH.CE} {ρ ρ1 ρ2 : CH.Env} {d d' : D} {u u' t w w' : OT} (he : evE Φ pl e ρ = .ok (u, ρ1)) (hu : u.toD = d) (he' : evE Φ pl e' ρ1 = .ok (u', ρ2)) (hu' : u'.toD = d') (h : Φ f [.sh d, .sh d'] = .ok (t, [w, w'])) : evE Φ pl (.call f (.val e (.val e' .nil))) ρ = .ok (t, ρ2) := by
  rw [evE, evAs, he]
  simp only [CH.R.bind]
  rw [evAs, he']
  simp only [CH.R.bind, evAs, hu, hu', fillA, Option.map, h, goneA, backA]
/-- what is no row of integers unlike 0 -/
def badR : D → Bool
  | .lst ds => !ds.all okL
  | .tup ds => !ds.all okL
  | _ => true
theorem co_bad (k : Nat) {v : D} (h : Pl v) (hb : badR v = true) : P (k + 2) 4 [.sh v] = .ex ⟨0, [v]⟩ [] := by
  rw [step (k + 1) 4 _ f4 t4]
  refine run_exn rfl (ρ := [.ow (.sh v), .no, .no, .no]) (ss_ex ?_)
  show evS (P (k + 1)) [] q4_0 [.ow (.sh v), .no, .no, .no] = _
  have row : ∀ ds : List D, (OT.sh v).items = some ds → v.tyName = some "list" ∨ v.tyName = some "tuple" → ds.length < 1000000 → (∀ d ∈ ds, Pl d) → ds.all okL = false → evS (P (k + 1)) [] q4_0 [.ow (.sh v), .no, .no, .no] = .ex ⟨0, [v]⟩ [.ow (.sh v), .no, .no, .no] := by
    intro ds hi hty hl hd hz
    have af := all_fact k v ds hi hl hd
    rw [hz] at af
    have is_ : evE (P (k + 1)) [] (.op (.isi ["list", "tuple"]) (.cons (.bor 0 []) .nil)) [.ow (.sh v), .no, .no, .no] = .ok (.sh (.bl true), [.ow (.sh v), .no, .no, .no]) := by
      rcases hty with h | h <;> simp [evE, evOs, CH.Env.tree, OT.getP, lock, unlock, CH.R.bind, ev_isi_t, h, isTy]
    unfold q4_0
    rw [ife_t (ρ1 := [.ow (.sh v), .no, .no, .no]) (by simp [evT, evAny, evO, ↓is_, ↓af, CH.R.bind, tru_b]), ss_end]
    rfl
  have nr : ∀ w : D, evE (P (k + 1)) [] (.op (.isi ["list", "tuple"]) (.cons (.bor 0 []) .nil)) [.ow (.sh w), .no, .no, .no] = .ok (.sh (.bl false), [.ow (.sh w), .no, .no, .no]) → evS (P (k + 1)) [] q4_0 [.ow (.sh w), .no, .no, .no] = .ex ⟨0, [w]⟩ [.ow (.sh w), .no, .no, .no] := by
    intro w is_
    unfold q4_0
    rw [ife_t (ρ1 := [.ow (.sh w), .no, .no, .no]) (by simp [evT, evAny, evO, ↓is_, CH.R.bind, tru_b]), ss_end]
    rfl
  cases h with
  | @tup ds hz hd => exact row ds rfl (.inr rfl) hz hd (by simpa [badR] using hb)
  | @lst ds hz hd => exact row ds rfl (.inl rfl) hz hd (by simpa [badR] using hb)
  | non => exact nr .non rfl
  | bl b => exact nr (.bl b) rfl
  | int i => exact nr (.int i) rfl
  | @str z hz => exact nr (.str z) rfl
theorem told_ok (k : Nat) (l : Bool) (ns : List Int) (h0 : ∀ n ∈ ns, n ≠ 0) (hl : ns.length ≤ 500) : P (k + 3) 13 [.sh (seqOf l (ns.map .int))] = .ok (.sh (.tup [.str "value", co ns]), [.sh (seqOf l (ns.map .int))]) := by
  have c := co_ok k l ns h0 hl
  generalize seqOf l (ns.map .int) = v at c
  rw [step (k + 2) 13 _ f13 t13]
  refine run_rt (ρ := [.ow (.sh v), .no]) rfl (ss_stop ?_) rfl
  show evS (P (k + 2)) [] q13_0 [.ow (.sh v), .no] = _
  have e1 := call1 (Φ := P (k + 2)) (pl := []) (f := 4) (e := .v 0) (ρ := [.ow (.sh v), .no]) (ρ1 := [.ow (.sh v), .no]) rfl rfl c
  have b : evSs (P (k + 2)) [] p13_0 [.ow (.sh v), .no] = .ok (.rt (.sh (.tup [.str "value", co ns])), [.ow (.sh v), .no]) := by
    unfold p13_0
    rw [ss_end, evS, evE, evEs, show evE (P (k + 2)) [] (.c (.str "value")) [.ow (.sh v), .no] = .ok (.sh (.str "value"), [.ow (.sh v), .no]) from rfl]
    simp only [CH.R.bind]
    rw [evEs, e1]
    simp only [CH.R.bind, evEs]
    rfl
  unfold q13_0
  rw [evS, b]
theorem told_bad (k : Nat) {v : D} (h : Pl v) (hb : badR v = true) : P (k + 3) 13 [.sh v] = .ok (.sh (.tup [.str "literals", v]), [.sh v]) := by
  have c := co_bad k h hb
  rw [step (k + 2) 13 _ f13 t13]
  refine run_rt (ρ := [.ow (.sh v), .no]) rfl (ss_stop ?_) rfl
  show evS (P (k + 2)) [] q13_0 [.ow (.sh v), .no] = _
  have e1 := call1x (Φ := P (k + 2)) (pl := []) (f := 4) (e := .v 0) (ρ := [.ow (.sh v), .no]) (ρ1 := [.ow (.sh v), .no]) rfl rfl c
  have b : evSs (P (k + 2)) [] p13_0 [.ow (.sh v), .no] = .ex ⟨0, [v]⟩ [.ow (.sh v), .no] := by
    unfold p13_0
    rw [ss_end, evS, evE, evEs, show evE (P (k + 2)) [] (.c (.str "value")) [.ow (.sh v), .no] = .ok (.sh (.str "value"), [.ow (.sh v), .no]) from rfl]
    simp only [CH.R.bind]
    rw [evEs, e1]
    rfl
  unfold q13_0
  rw [evS, b]
  rfl
/-- list-free data, so deep -/
inductive Nl : Nat → D → Prop
  | non {n : Nat} : Nl n .non
  | bl {n : Nat} (b : Bool) : Nl n (.bl b)
  | int {n : Nat} (i : Int) : Nl n (.int i)
  | str {n : Nat} (s : Str) : Nl n (.str s)
  | tup {n : Nat} {ds : List D} : ds.length < 1000000 → (∀ d ∈ ds, Nl n d) → Nl (n + 1) (.tup ds)
theorem eq_loop (k : Nat) (ds : List D) (hl : ds.length < 1000000) (h : ∀ d ∈ ds, P k 7 [.sh d, .sh d] = .ok (.sh (.bl true), [.sh d, .sh d])) :
    ∃ u, forL (fun ρ => evSs (P k) [] p7_0 ρ) [] (.one 2) ((List.range ds.length).map fun k => .int (k : Nat)) [.ow (.sh (.tup ds)), .ow (.sh (.tup ds)), .no] = .ok (.nx, [.ow (.sh (.tup ds)), .ow (.sh (.tup ds)), u]) := by
  obtain ⟨ρ', h1, h2⟩ := forL_inv (body := fun ρ => evSs (P k) [] p7_0 ρ) (pl := []) (tg := .one 2)
    (I := fun i ρ => ∃ (u : Sl), ρ = [.ow (.sh (.tup ds)), .ow (.sh (.tup ds)), u] ∧ (u = .no ∨ ∃ x, u = .ow (.sh (.int x))))
    ((List.range ds.length).map fun k => .int (k : Nat)) [.ow (.sh (.tup ds)), .ow (.sh (.tup ds)), .no] ⟨.no, rfl, .inl rfl⟩
    (fun i d ρ e hI => by
      obtain ⟨u, rfl, hu⟩ := hI
      obtain ⟨i', e1, rfl⟩ := by rw [List.getElem?_map] at e; exact Option.map_eq_some_iff.mp e
      obtain ⟨hi, e1⟩ := List.getElem?_eq_some_iff.mp e1
      rw [List.getElem_range] at e1
      subst e1
      rw [List.length_range] at hi
      have s1 : setTg [] (.one 2) (.int (i : Nat)) [.ow (.sh (.tup ds)), .ow (.sh (.tup ds)), u] = some [.ow (.sh (.tup ds)), .ow (.sh (.tup ds)), .ow (.sh (.int (i : Nat)))] := by
        rcases hu with rfl | ⟨x, rfl⟩ <;> rfl
      have ix : idxEv (.sh (.tup ds)) ((i : Nat) : Int) = some (.sh ds[i]) := by
        show (atI ds ((i : Nat) : Int)).map OT.sh = _
        rw [atI_nat (List.getElem?_eq_getElem hi)]; rfl
      have c := h ds[i] (List.getElem_mem hi)
      generalize hd : ds[i] = d at ix c
      generalize ((i : Nat) : Int) = j at s1 ix
      have e0 : ∀ q, q = 0 ∨ q = 1 → evE (P k) [] (.op .idx (.cons (.bor q []) (.cons (.bor 2 []) .nil))) [.ow (.sh (.tup ds)), .ow (.sh (.tup ds)), .ow (.sh (.int j))] = .ok (.sh d, [.ow (.sh (.tup ds)), .ow (.sh (.tup ds)), .ow (.sh (.int j))]) := by
        rintro q (rfl | rfl) <;> simp [getV, evSs, evS, evT, evAll, evAny, evO, evOs, evEs, evAs, evB, CH.R.bind, R.ofO, CH.Env.tree, CH.Env.own, CH.Env.ownL, OT.getP, lock, unlock, backI, tru_b, ev_isi_t, D.tyName, isTy, ev_eq_ii, ev_ne_ii, ev_lt_ii, ev_le_ii, ev_gt_ii, ev_ge_ii, ev_len_t, ev_len_l, ev_len_f, evE, ev_idx, ix]
      have cc := call2 (Φ := P k) (pl := []) (f := 7) (e0 0 (.inl rfl)) rfl (e0 1 (.inr rfl)) rfl c
      refine ⟨_, [.ow (.sh (.tup ds)), .ow (.sh (.tup ds)), .ow (.sh (.int j))], s1, ?_, _, rfl, .inr ⟨_, rfl⟩⟩
      unfold p7_0
      rw [ss_end, ife_f (ρ1 := [.ow (.sh (.tup ds)), .ow (.sh (.tup ds)), .ow (.sh (.int j))]) (by simp [evT, evO, ↓cc, CH.R.bind, tru_b])]
      rfl)
  obtain ⟨u, rfl, _⟩ := h2
  exact ⟨u, h1⟩
theorem is_non (t : OT) : Op.ev (.cmp .is) [t, .sh .non] = some (.sh (.bl t.isNon)) := by
  have : isEv t (.sh .non) = some t.isNon := by
    cases t with
    | sh d => cases d <;> rfl
    | lst _ => rfl
    | obj _ _ _ => rfl
  show (isEv t (.sh .non)).map _ = _
  rw [this]; rfl
theorem eq_int (k : Nat) (i : Int) : P (k + 1) 7 [.sh (.int i), .sh (.int i)] = .ok (.sh (.bl true), [.sh (.int i), .sh (.int i)]) := by
  rw [step k 7 _ f7 t7]
  simp [f7, b7, q7_0, q7_1, q7_2, q7_3, q7_4, q7_5, q7_6, D.tyName, ev_isi_t, isTy, fillA, backA, goneA, cm_le_ii, cm_lt_ii, getV, Fn.run, Fn.run0, evSs, evS, evT, evAll, evAny, evO, evE, evOs, evEs, evAs, evB, evAnd, evOr, CH.R.bind, R.ofO, CH.Env.tree, CH.Env.own, CH.Env.ownL, OT.getP, lock, unlock, outs, tru_b, ev_eq_ii, ev_ne_ii, ev_lt_ii, ev_le_ii, ev_gt_ii, ev_ge_ii, ev_add_ii, ev_sub_ii, ev_neg_i, ev_int_i, ev_abs_i, ev_len_l, ev_len_t, ev_len_f, ev_idx, mulOk_r, ev_mul_ii, OT.toD, is_non, OT.isNon]
theorem eq_bl (k : Nat) (b : Bool) : P (k + 1) 7 [.sh (.bl b), .sh (.bl b)] = .ok (.sh (.bl true), [.sh (.bl b), .sh (.bl b)]) := by
  rw [step k 7 _ f7 t7]
  have e : Op.ev (.cmp .eq) [.sh (.bl b), .sh (.bl b)] = some (.sh (.bl true)) := by cases b <;> rfl
  simp [f7, b7, q7_0, q7_1, q7_2, q7_3, q7_4, q7_5, q7_6, D.tyName, ev_isi_t, isTy, fillA, backA, goneA, cm_le_ii, cm_lt_ii, getV, Fn.run, Fn.run0, evSs, evS, evT, evAll, evAny, evO, evE, evOs, evEs, evAs, evB, evAnd, evOr, CH.R.bind, R.ofO, CH.Env.tree, CH.Env.own, CH.Env.ownL, OT.getP, lock, unlock, outs, tru_b, ev_eq_ii, ev_ne_ii, ev_lt_ii, ev_le_ii, ev_gt_ii, ev_ge_ii, ev_add_ii, ev_sub_ii, ev_neg_i, ev_int_i, ev_abs_i, ev_len_l, ev_len_t, ev_len_f, ev_idx, mulOk_r, ev_mul_ii, OT.toD, is_non, OT.isNon, e]
theorem eq_str (k : Nat) (z : Str) : P (k + 1) 7 [.sh (.str z), .sh (.str z)] = .ok (.sh (.bl true), [.sh (.str z), .sh (.str z)]) := by
  rw [step k 7 _ f7 t7]
  simp [f7, b7, q7_0, q7_1, q7_2, q7_3, q7_4, q7_5, q7_6, D.tyName, ev_isi_t, isTy, fillA, backA, goneA, cm_le_ii, cm_lt_ii, getV, Fn.run, Fn.run0, evSs, evS, evT, evAll, evAny, evO, evE, evOs, evEs, evAs, evB, evAnd, evOr, CH.R.bind, R.ofO, CH.Env.tree, CH.Env.own, CH.Env.ownL, OT.getP, lock, unlock, outs, tru_b, ev_eq_ii, ev_ne_ii, ev_lt_ii, ev_le_ii, ev_gt_ii, ev_ge_ii, ev_add_ii, ev_sub_ii, ev_neg_i, ev_int_i, ev_abs_i, ev_len_l, ev_len_t, ev_len_f, ev_idx, mulOk_r, ev_mul_ii, OT.toD, is_non, OT.isNon, ev_eq_ss]
theorem eq_tup (k : Nat) (ds : List D) (hl : ds.length < 1000000) (h : ∀ d ∈ ds, P k 7 [.sh d, .sh d] = .ok (.sh (.bl true), [.sh d, .sh d])) : P (k + 1) 7 [.sh (.tup ds), .sh (.tup ds)] = .ok (.sh (.bl true), [.sh (.tup ds), .sh (.tup ds)]) := by
  obtain ⟨u, lp⟩ := eq_loop k ds hl h
  rw [step k 7 _ f7 t7]
  have hI : evI (P k) [] (.rng1 (.op (.bi .len) (.cons (.bor 1 []) .nil))) [.ow (.sh (.tup ds)), .ow (.sh (.tup ds)), .no] = .ok ((List.range ds.length).map fun k => .int (k : Nat), [.ow (.sh (.tup ds)), .ow (.sh (.tup ds)), .no]) := by
    have := range1_val (Φ := P k) (pl := []) (b := .op (.bi .len) (.cons (.bor 1 []) .nil)) (ρ := [.ow (.sh (.tup ds)), .ow (.sh (.tup ds)), .no]) (ρ2 := [.ow (.sh (.tup ds)), .ow (.sh (.tup ds)), .no]) (j := (ds.length : Int)) (by simp [D.tyName, ev_isi_t, isTy, fillA, backA, goneA, cm_le_ii, cm_lt_ii, getV, Fn.run, Fn.run0, evSs, evS, evT, evAll, evAny, evO, evE, evOs, evEs, evAs, evB, evAnd, evOr, CH.R.bind, R.ofO, CH.Env.tree, CH.Env.own, CH.Env.ownL, OT.getP, lock, unlock, outs, tru_b, ev_eq_ii, ev_ne_ii, ev_lt_ii, ev_le_ii, ev_gt_ii, ev_ge_ii, ev_add_ii, ev_sub_ii, ev_neg_i, ev_int_i, ev_abs_i, ev_len_l, ev_len_t, ev_len_f, ev_idx, mulOk_r, ev_mul_ii, OT.toD]) (by omega)
    rw [this, Int.toNat_natCast]
  refine run_rt (ρ := [.ow (.sh (.tup ds)), .ow (.sh (.tup ds)), u]) rfl ?_ rfl
  show evSs (P k) [] b7 [.ow (.sh (.tup ds)), .ow (.sh (.tup ds)), .no] = _
  unfold b7
  rw [ss_next (s := q7_0) (ρ1 := [.ow (.sh (.tup ds)), .ow (.sh (.tup ds)), .no]) (by simp [q7_0, D.tyName, ev_isi_t, isTy, fillA, backA, goneA, cm_le_ii, cm_lt_ii, getV, Fn.run, Fn.run0, evSs, evS, evT, evAll, evAny, evO, evE, evOs, evEs, evAs, evB, evAnd, evOr, CH.R.bind, R.ofO, CH.Env.tree, CH.Env.own, CH.Env.ownL, OT.getP, lock, unlock, outs, tru_b, ev_eq_ii, ev_ne_ii, ev_lt_ii, ev_le_ii, ev_gt_ii, ev_ge_ii, ev_add_ii, ev_sub_ii, ev_neg_i, ev_int_i, ev_abs_i, ev_len_l, ev_len_t, ev_len_f, ev_idx, mulOk_r, ev_mul_ii, OT.toD, is_non, OT.isNon])]
  rw [ss_next (s := q7_1) (ρ1 := [.ow (.sh (.tup ds)), .ow (.sh (.tup ds)), .no]) (by simp [q7_1, D.tyName, ev_isi_t, isTy, fillA, backA, goneA, cm_le_ii, cm_lt_ii, getV, Fn.run, Fn.run0, evSs, evS, evT, evAll, evAny, evO, evE, evOs, evEs, evAs, evB, evAnd, evOr, CH.R.bind, R.ofO, CH.Env.tree, CH.Env.own, CH.Env.ownL, OT.getP, lock, unlock, outs, tru_b, ev_eq_ii, ev_ne_ii, ev_lt_ii, ev_le_ii, ev_gt_ii, ev_ge_ii, ev_add_ii, ev_sub_ii, ev_neg_i, ev_int_i, ev_abs_i, ev_len_l, ev_len_t, ev_len_f, ev_idx, mulOk_r, ev_mul_ii, OT.toD])]
  rw [ss_next (s := q7_2) (ρ1 := [.ow (.sh (.tup ds)), .ow (.sh (.tup ds)), .no]) (by simp [q7_2, D.tyName, ev_isi_t, isTy, fillA, backA, goneA, cm_le_ii, cm_lt_ii, getV, Fn.run, Fn.run0, evSs, evS, evT, evAll, evAny, evO, evE, evOs, evEs, evAs, evB, evAnd, evOr, CH.R.bind, R.ofO, CH.Env.tree, CH.Env.own, CH.Env.ownL, OT.getP, lock, unlock, outs, tru_b, ev_eq_ii, ev_ne_ii, ev_lt_ii, ev_le_ii, ev_gt_ii, ev_ge_ii, ev_add_ii, ev_sub_ii, ev_neg_i, ev_int_i, ev_abs_i, ev_len_l, ev_len_t, ev_len_f, ev_idx, mulOk_r, ev_mul_ii, OT.toD])]
  rw [ss_next (s := q7_3) (ρ1 := [.ow (.sh (.tup ds)), .ow (.sh (.tup ds)), .no]) (by simp [q7_3, D.tyName, ev_isi_t, isTy, fillA, backA, goneA, cm_le_ii, cm_lt_ii, getV, Fn.run, Fn.run0, evSs, evS, evT, evAll, evAny, evO, evE, evOs, evEs, evAs, evB, evAnd, evOr, CH.R.bind, R.ofO, CH.Env.tree, CH.Env.own, CH.Env.ownL, OT.getP, lock, unlock, outs, tru_b, ev_eq_ii, ev_ne_ii, ev_lt_ii, ev_le_ii, ev_gt_ii, ev_ge_ii, ev_add_ii, ev_sub_ii, ev_neg_i, ev_int_i, ev_abs_i, ev_len_l, ev_len_t, ev_len_f, ev_idx, mulOk_r, ev_mul_ii, OT.toD])]
  rw [ss_next (s := q7_4) (ρ1 := [.ow (.sh (.tup ds)), .ow (.sh (.tup ds)), .no]) (by simp [q7_4, D.tyName, ev_isi_t, isTy, fillA, backA, goneA, cm_le_ii, cm_lt_ii, getV, Fn.run, Fn.run0, evSs, evS, evT, evAll, evAny, evO, evE, evOs, evEs, evAs, evB, evAnd, evOr, CH.R.bind, R.ofO, CH.Env.tree, CH.Env.own, CH.Env.ownL, OT.getP, lock, unlock, outs, tru_b, ev_eq_ii, ev_ne_ii, ev_lt_ii, ev_le_ii, ev_gt_ii, ev_ge_ii, ev_add_ii, ev_sub_ii, ev_neg_i, ev_int_i, ev_abs_i, ev_len_l, ev_len_t, ev_len_f, ev_idx, mulOk_r, ev_mul_ii, OT.toD])]
  rw [ss_next (s := q7_5) (ρ1 := [.ow (.sh (.tup ds)), .ow (.sh (.tup ds)), u]) (by unfold q7_5; rw [evS, hI]; simp only [CH.R.bind, backI]; rw [lp])]
  rw [ss_end]
  simp [q7_6, D.tyName, ev_isi_t, isTy, fillA, backA, goneA, cm_le_ii, cm_lt_ii, getV, Fn.run, Fn.run0, evSs, evS, evT, evAll, evAny, evO, evE, evOs, evEs, evAs, evB, evAnd, evOr, CH.R.bind, R.ofO, CH.Env.tree, CH.Env.own, CH.Env.ownL, OT.getP, lock, unlock, outs, tru_b, ev_eq_ii, ev_ne_ii, ev_lt_ii, ev_le_ii, ev_gt_ii, ev_ge_ii, ev_add_ii, ev_sub_ii, ev_neg_i, ev_int_i, ev_abs_i, ev_len_l, ev_len_t, ev_len_f, ev_idx, mulOk_r, ev_mul_ii, OT.toD]
theorem eq_refl : ∀ (n k : Nat) {v : D}, Nl n v → P (k + n + 1) 7 [.sh v, .sh v] = .ok (.sh (.bl true), [.sh v, .sh v])
  | n, k, _, .non => by rw [step (k + n) 7 _ f7 t7]; rfl
  | n, k, _, .bl b => eq_bl _ b
  | n, k, _, .int i => eq_int _ i
  | n, k, _, .str z => eq_str _ z
  | n + 1, k, _, @Nl.tup _ ds hl hd => eq_tup (k + n + 1) ds hl fun d hm => eq_refl n k (hd d hm)
end K02
end
section
namespace K02
open PySem L2 Evl PyProof.Rows CH
theorem ins_mem (acc : List Int) (n a : Int) : a ∈ ins acc n ↔ a ∈ acc ∨ a = n := by
  unfold ins
  split
  · rename_i h; constructor
    · exact .inl
    · rintro (q | rfl); exact q; exact h
  · simp
theorem fold_mem (a : Int) : ∀ (ns acc : List Int), a ∈ ns.foldl ins acc ↔ a ∈ acc ∨ a ∈ ns
  | [], acc => by simp
  | n :: ns, acc => by
    rw [List.foldl_cons, fold_mem a ns, ins_mem]
    simp [or_assoc]
theorem uniq_mem (a : Int) (ns : List Int) : a ∈ uniq ns ↔ a ∈ ns := by unfold uniq; rw [fold_mem]; simp
theorem ins_nd {acc : List Int} (n : Int) (h : acc.Nodup) : (ins acc n).Nodup := by
  unfold ins
  split
  · exact h
  · rename_i q
    rw [List.nodup_append]
    exact ⟨h, by simp, fun a ha b hb => by
      have : b = n := by simpa using hb
      subst this
      exact fun e => q (e ▸ ha)⟩
theorem fold_nd : ∀ (ns acc : List Int), acc.Nodup → (ns.foldl ins acc).Nodup
  | [], acc, h => h
  | n :: ns, acc, h => fold_nd ns (ins acc n) (ins_nd n h)
theorem uniq_nd (ns : List Int) : (uniq ns).Nodup := fold_nd ns [] .nil
theorem absI_nat (i : Int) : absI i = (i.natAbs : Int) := by unfold absI; split <;> omega
def sgn (ns : List Int) (v : Int) : Int := if v ∈ ns then v else -v
def lcStep (ns acc : List Int) (v : Int) : List Int := if sgn ns v ∈ acc then acc else acc ++ [sgn ns v]
def lcGo (ns : List Int) : List Int → List Int → Option (List Int)
  | acc, [] => some acc
  | acc, v :: vs => if v ∈ ns ∧ -v ∈ ns then none else lcGo ns (lcStep ns acc v) vs
theorem lcGo_none (ns : List Int) : ∀ (vs acc : List Int), (∃ v ∈ vs, v ∈ ns ∧ -v ∈ ns) → lcGo ns acc vs = none
  | [], acc, h => by obtain ⟨v, h, _⟩ := h; simp at h
  | v :: vs, acc, h => by
    unfold lcGo
    split
    · rfl
    · rename_i q
      obtain ⟨w, hw, h1⟩ := h
      rcases List.mem_cons.mp hw with rfl | hw
      · exact absurd h1 q
      · exact lcGo_none ns vs _ ⟨w, hw, h1⟩
theorem lcGo_some (ns : List Int) (hc : ∀ v, ¬ (v ∈ ns ∧ -v ∈ ns)) : ∀ (vs acc : List Int), lcGo ns acc vs = some (vs.foldl (lcStep ns) acc)
  | [], acc => rfl
  | v :: vs, acc => by
    unfold lcGo
    rw [if_neg (hc v), lcGo_some ns hc vs]
    rfl
theorem go_inv (ns : List Int) (hc : ∀ v, ¬ (v ∈ ns ∧ -v ∈ ns)) : ∀ (vs acc : List Int), vs.Pairwise (· ≤ ·) → (∀ v ∈ vs, 0 < v ∧ (v ∈ ns ∨ -v ∈ ns)) → acc.Pairwise (fun a b => a.natAbs < b.natAbs) → (∀ a ∈ acc, a ∈ ns ∧ ∀ v ∈ vs, (a.natAbs : Int) ≤ v) →
    (vs.foldl (lcStep ns) acc).Pairwise (fun a b => a.natAbs < b.natAbs) ∧ ∀ a, a ∈ vs.foldl (lcStep ns) acc ↔ a ∈ acc ∨ ∃ v ∈ vs, a = sgn ns v
  | [], acc, _, _, h3, _ => ⟨h3, fun a => by simp⟩
  | v :: vs, acc, h1, h2, h3, h4 => by
    obtain ⟨p1, p2⟩ := List.pairwise_cons.mp h1
    obtain ⟨v0, vn⟩ := h2 v (by simp)
    have sn : sgn ns v ∈ ns ∧ (sgn ns v).natAbs = v.natAbs := by
      unfold sgn
      split
      · rename_i q; exact ⟨q, rfl⟩
      · rename_i q; exact ⟨vn.resolve_left q, by omega⟩
    have lt : sgn ns v ∉ acc → ∀ a ∈ acc, a.natAbs < v.natAbs := fun hs a ha => by
      obtain ⟨q1, q2⟩ := h4 a ha
      have q3 := q2 v (by simp)
      by_cases e : a.natAbs = v.natAbs
      · exfalso
        have : a = v ∨ a = -v := by omega
        rcases this with rfl | rfl
        · apply hs; unfold sgn; rw [if_pos q1]; exact ha
        · by_cases hv : v ∈ ns
          · exact hc v ⟨hv, q1⟩
          · apply hs; unfold sgn; rw [if_neg hv]; exact ha
      · omega
    have st : (lcStep ns acc v).Pairwise (fun a b => a.natAbs < b.natAbs) ∧ (∀ a ∈ lcStep ns acc v, a ∈ ns ∧ ∀ w ∈ vs, (a.natAbs : Int) ≤ w) ∧ ∀ a, a ∈ lcStep ns acc v ↔ a ∈ acc ∨ a = sgn ns v := by
      unfold lcStep
      split
      · rename_i q
        exact ⟨h3, fun a ha => ⟨(h4 a ha).1, fun w hw => (h4 a ha).2 w (by simp [hw])⟩, fun a => ⟨.inl, fun h => h.elim id fun e => e ▸ q⟩⟩
      · rename_i q
        refine ⟨?_, fun a ha => ?_, fun a => by simp⟩
        · rw [List.pairwise_append]
          refine ⟨h3, by simp, fun a ha b hb => ?_⟩
          have : b = sgn ns v := by simpa using hb
          subst this
          rw [sn.2]
          exact lt q a ha
        · rcases List.mem_append.mp ha with ha | ha
          · exact ⟨(h4 a ha).1, fun w hw => (h4 a ha).2 w (by simp [hw])⟩
          · have : a = sgn ns v := by simpa using ha
            subst this
            refine ⟨sn.1, fun w hw => ?_⟩
            have := p1 w hw
            rw [sn.2]
            omega
    obtain ⟨r1, r2⟩ := go_inv ns hc vs (lcStep ns acc v) p2 (fun w hw => h2 w (by simp [hw])) st.1 st.2.1
    refine ⟨r1, fun a => ?_⟩
    rw [List.foldl_cons, r2 a, st.2.2 a]
    constructor
    · rintro ((h | h) | ⟨w, hw, h⟩)
      · exact .inl h
      · exact .inr ⟨v, by simp, h⟩
      · exact .inr ⟨w, by simp [hw], h⟩
    · rintro (h | ⟨w, hw, h⟩)
      · exact .inl (.inl h)
      · rcases List.mem_cons.mp hw with rfl | hw
        · exact .inl (.inr h)
        · exact .inr ⟨w, hw, h⟩
theorem leR_trans (a b c : Int) (h1 : leR a b = true) (h2 : leR b c = true) : leR a c = true := by
  unfold leR at *
  simp only [Bool.or_eq_true, Bool.and_eq_true, decide_eq_true_eq] at *
  omega
theorem leR_total (a b : Int) : (leR a b || leR b a) = true := by
  unfold leR
  simp only [Bool.or_eq_true, Bool.and_eq_true, decide_eq_true_eq]
  omega
def lcD : Option (List Int) → D
  | none => .non
  | some l => .tup (l.map .int)
theorem lc_eq (ns : List Int) (h0 : ∀ n ∈ ns, n ≠ 0) : lcD (lcGo ns [] (sortI (ns.map absI))) = co ns := by
  have sm : ∀ v, v ∈ sortI (ns.map absI) ↔ ∃ n ∈ ns, absI n = v := fun v => by
    unfold sortI
    rw [List.mem_mergeSort, List.mem_map]
  unfold co
  by_cases hx : ∃ n ∈ ns, -n ∈ ns
  · have e1 : (uniq ns).any (fun n => decide (-n ∈ uniq ns)) = true := by
      obtain ⟨n, h1, h2⟩ := hx
      rw [List.any_eq_true]
      exact ⟨n, (uniq_mem n ns).mpr h1, by simpa using (uniq_mem (-n) ns).mpr h2⟩
    rw [if_pos e1, lcGo_none]
    · rfl
    · obtain ⟨n, h1, h2⟩ := hx
      refine ⟨absI n, (sm _).mpr ⟨n, h1, rfl⟩, ?_⟩
      unfold absI
      split
      · exact ⟨h2, by rw [Int.neg_neg]; exact h1⟩
      · exact ⟨h1, h2⟩
  · have hc : ∀ v, ¬ (v ∈ ns ∧ -v ∈ ns) := fun v h => hx ⟨v, h.1, h.2⟩
    have e1 : ¬ ((uniq ns).any (fun n => decide (-n ∈ uniq ns)) = true) := by
      intro h
      obtain ⟨n, h1, h2⟩ := List.any_eq_true.mp h
      exact hx ⟨n, (uniq_mem n ns).mp h1, (uniq_mem (-n) ns).mp (by simpa using h2)⟩
    rw [if_neg e1, lcGo_some ns hc]
    have so : (sortI (ns.map absI)).Pairwise (· ≤ ·) := by
      have := List.pairwise_mergeSort (le := fun a b : Int => decide (a ≤ b)) (fun a b c h1 h2 => by simp at *; omega) (fun a b => by simp; omega) (ns.map absI)
      unfold sortI
      exact this.imp fun h => by simpa using h
    obtain ⟨r1, r2⟩ := go_inv ns hc (sortI (ns.map absI)) [] so (fun v hv => by
      obtain ⟨n, h1, rfl⟩ := (sm v).mp hv
      have := h0 n h1
      unfold absI
      split
      · exact ⟨by omega, .inr (by rw [Int.neg_neg]; exact h1)⟩
      · exact ⟨by omega, .inl h1⟩) .nil (fun a ha => by simp at ha)
    generalize (sortI (ns.map absI)).foldl (lcStep ns) [] = F at r1 r2
    show D.tup (F.map .int) = _
    congr 2
    have mem : ∀ a, a ∈ F ↔ a ∈ ns := fun a => by
      rw [r2 a]
      constructor
      · rintro (h | ⟨v, hv, rfl⟩)
        · simp at h
        · obtain ⟨n, h1, rfl⟩ := (sm v).mp hv
          unfold sgn
          split
          · assumption
          · rename_i q
            unfold absI at q ⊢
            split at q
            · rename_i hn; rw [if_pos hn, Int.neg_neg]; exact h1
            · exact absurd h1 q
      · intro h
        refine .inr ⟨absI a, (sm _).mpr ⟨a, h, rfl⟩, ?_⟩
        unfold sgn absI
        split
        · rename_i ha
          rw [if_neg fun q => hc a ⟨h, q⟩, Int.neg_neg]
        · first | rfl | rw [if_pos h]
    have nd : F.Nodup := r1.imp fun h e => by subst e; omega
    have pm : F.Perm (sortR (uniq ns)) := by
      have p1 : F.Perm (uniq ns) := (List.perm_ext_iff_of_nodup nd (uniq_nd ns)).mpr fun a => by rw [mem a, uniq_mem]
      exact p1.trans (List.mergeSort_perm _ _).symm
    refine List.Perm.eq_of_pairwise (le := fun a b => leR a b = true) (fun a b _ _ h1 h2 => ?_) (r1.imp fun h => ?_) (List.pairwise_mergeSort leR_trans leR_total _) pm
    · unfold leR at h1 h2
      simp only [Bool.or_eq_true, Bool.and_eq_true, decide_eq_true_eq] at h1 h2
      omega
    · unfold leR
      simp only [Bool.or_eq_true, Bool.and_eq_true, decide_eq_true_eq]
      exact .inl h
end K02
end
section
namespace K02
open PySem L2 Evl PyProof.Rows CH
theorem toPl_ints (ns : List Int) : (D.lst (ns.map .int)).toP = some (.list (ns.map .int)) := by
  show (toPs (ns.map .int)).map _ = _
  rw [toPs_ints]; rfl
theorem lshaped_ints (ns : List Int) : SeqAt.shaped (.list (ns.map .int)) = true := by
  unfold SeqAt.shaped
  rw [show PyData.canLay0 (.list (ns.map .int)) = PyData.canLayAll0 (ns.map .int) from rfl, lay_ints, show PyData.depth (.list (ns.map .int)) = PyData.depthAll (ns.map .int) + 1 from rfl, depth_ints]
  rfl
theorem inD_lints (x : Int) (ns : List Int) : inD (.int x) (.lst (ns.map .int)) = some (decide (x ∈ ns)) := by
  have h := inD_ints x ns
  unfold inD at h ⊢
  rw [toP_ints] at h
  rw [toPl_ints]
  have h : (if (SeqAt.shaped (.int x) && SeqAt.shaped (.tuple (ns.map .int))) = true then some ((ns.map PyData.int).any fun z => PyData.eqv z (.int x)) else none) = some (decide (x ∈ ns)) := h
  show (if (SeqAt.shaped (.int x) && SeqAt.shaped (.list (ns.map .int))) = true then some ((ns.map PyData.int).any fun z => PyData.eqv z (.int x)) else none) = _
  rw [shaped_ints] at h
  rw [lshaped_ints]
  exact h
theorem in_l (x : Int) (ns : List Int) : Op.ev (.cmp .in_) [.sh (.int x), .sh (.lst (ns.map .int))] = some (.sh (.bl (decide (x ∈ ns)))) := by
  show (inD (.int x) (.lst (ns.map .int))).map _ = _
  rw [inD_lints]; rfl
theorem ni_l (x : Int) (ns : List Int) : Op.ev (.cmp .notin) [.sh (.int x), .sh (.lst (ns.map .int))] = some (.sh (.bl (!decide (x ∈ ns)))) := by
  show ((inD (.int x) (.lst (ns.map .int))).map (! ·)).map _ = _
  rw [inD_lints]; rfl
theorem ni_o (x : Int) (ns : List Int) : Op.ev (.cmp .notin) [.sh (.int x), .lst (ns.map iT)] = some (.sh (.bl (!decide (x ∈ ns)))) := by
  show ((inD (.int x) (.lst (toDs (ns.map iT)))).map (! ·)).map _ = _
  rw [toDs_map ns D.int, inD_lints]; rfl
abbrev Rc (ns acc : List Int) (u : Sl) : CH.Env := [.ow (.sh (.lst (ns.map .int))), .ow (.lst (acc.map iT)), u, .no]
section
variable (k : Nat) (ns acc : List Int) (v : Int)
theorem c_1 : evS (P k) [] p12_2 (Rc ns acc (.ow (.sh (.int v)))) = if v ∈ ns ∧ -v ∈ ns then .ok (.rt (.sh .non), Rc ns acc (.ow (.sh (.int v)))) else .ok (.nx, Rc ns acc (.ow (.sh (.int v)))) := by
  have i1 := fun x => in_l x ns
  have z : (0 : Int) - v = -v := by omega
  unfold p12_2
  by_cases h1 : v ∈ ns
  · by_cases h2 : -v ∈ ns
    · rw [ife_t (ρ1 := Rc ns acc (.ow (.sh (.int v)))) (by simp [D.tyName, ev_isi_t, isTy, fillA, backA, goneA, cm_le_ii, cm_lt_ii, getV, Fn.run, Fn.run0, evSs, evS, evT, evAll, evAny, evO, evE, evOs, evEs, evAs, evB, evAnd, evOr, CH.R.bind, R.ofO, CH.Env.tree, CH.Env.own, CH.Env.ownL, OT.getP, lock, unlock, outs, tru_b, ev_eq_ii, ev_ne_ii, ev_lt_ii, ev_le_ii, ev_gt_ii, ev_ge_ii, ev_add_ii, ev_sub_ii, ev_neg_i, ev_int_i, ev_abs_i, ev_len_l, ev_len_t, ev_len_f, ev_idx, mulOk_r, ev_mul_ii, OT.toD, i1, h1, h2, z]), if_pos ⟨h1, h2⟩, ss_end]
      simp [D.tyName, ev_isi_t, isTy, fillA, backA, goneA, cm_le_ii, cm_lt_ii, getV, Fn.run, Fn.run0, evSs, evS, evT, evAll, evAny, evO, evE, evOs, evEs, evAs, evB, evAnd, evOr, CH.R.bind, R.ofO, CH.Env.tree, CH.Env.own, CH.Env.ownL, OT.getP, lock, unlock, outs, tru_b, ev_eq_ii, ev_ne_ii, ev_lt_ii, ev_le_ii, ev_gt_ii, ev_ge_ii, ev_add_ii, ev_sub_ii, ev_neg_i, ev_int_i, ev_abs_i, ev_len_l, ev_len_t, ev_len_f, ev_idx, mulOk_r, ev_mul_ii, OT.toD]
    · rw [ife_f (ρ1 := Rc ns acc (.ow (.sh (.int v)))) (by simp [D.tyName, ev_isi_t, isTy, fillA, backA, goneA, cm_le_ii, cm_lt_ii, getV, Fn.run, Fn.run0, evSs, evS, evT, evAll, evAny, evO, evE, evOs, evEs, evAs, evB, evAnd, evOr, CH.R.bind, R.ofO, CH.Env.tree, CH.Env.own, CH.Env.ownL, OT.getP, lock, unlock, outs, tru_b, ev_eq_ii, ev_ne_ii, ev_lt_ii, ev_le_ii, ev_gt_ii, ev_ge_ii, ev_add_ii, ev_sub_ii, ev_neg_i, ev_int_i, ev_abs_i, ev_len_l, ev_len_t, ev_len_f, ev_idx, mulOk_r, ev_mul_ii, OT.toD, i1, h1, h2, z]), if_neg (fun h => h2 h.2)]
      rfl
  · rw [ife_f (ρ1 := Rc ns acc (.ow (.sh (.int v)))) (by simp [D.tyName, ev_isi_t, isTy, fillA, backA, goneA, cm_le_ii, cm_lt_ii, getV, Fn.run, Fn.run0, evSs, evS, evT, evAll, evAny, evO, evE, evOs, evEs, evAs, evB, evAnd, evOr, CH.R.bind, R.ofO, CH.Env.tree, CH.Env.own, CH.Env.ownL, OT.getP, lock, unlock, outs, tru_b, ev_eq_ii, ev_ne_ii, ev_lt_ii, ev_le_ii, ev_gt_ii, ev_ge_ii, ev_add_ii, ev_sub_ii, ev_neg_i, ev_int_i, ev_abs_i, ev_len_l, ev_len_t, ev_len_f, ev_idx, mulOk_r, ev_mul_ii, OT.toD, i1, h1, z]), if_neg (fun h => h1 h.1)]
    rfl
def ac1 : List Int := if v ∈ ns ∧ v ∉ acc then acc ++ [v] else acc
theorem c_2 (hl : acc.length < 100000) : evS (P k) [] p12_3 (Rc ns acc (.ow (.sh (.int v)))) = .ok (.nx, Rc ns (ac1 ns acc v) (.ow (.sh (.int v)))) := by
  have i1 := fun x => in_l x ns
  have i2 := fun x => ni_o x acc
  have ap := ap_i acc v (by omega)
  unfold p12_3 ac1
  by_cases h1 : v ∈ ns
  · by_cases h2 : v ∈ acc
    · rw [ife_f (ρ1 := Rc ns acc (.ow (.sh (.int v)))) (by simp [D.tyName, ev_isi_t, isTy, fillA, backA, goneA, cm_le_ii, cm_lt_ii, getV, Fn.run, Fn.run0, evSs, evS, evT, evAll, evAny, evO, evE, evOs, evEs, evAs, evB, evAnd, evOr, CH.R.bind, R.ofO, CH.Env.tree, CH.Env.own, CH.Env.ownL, OT.getP, lock, unlock, outs, tru_b, ev_eq_ii, ev_ne_ii, ev_lt_ii, ev_le_ii, ev_gt_ii, ev_ge_ii, ev_add_ii, ev_sub_ii, ev_neg_i, ev_int_i, ev_abs_i, ev_len_l, ev_len_t, ev_len_f, ev_idx, mulOk_r, ev_mul_ii, OT.toD, i1, i2, h1, h2]), if_neg (fun h => h.2 h2)]
      rfl
    · rw [ife_t (ρ1 := Rc ns acc (.ow (.sh (.int v)))) (by simp [D.tyName, ev_isi_t, isTy, fillA, backA, goneA, cm_le_ii, cm_lt_ii, getV, Fn.run, Fn.run0, evSs, evS, evT, evAll, evAny, evO, evE, evOs, evEs, evAs, evB, evAnd, evOr, CH.R.bind, R.ofO, CH.Env.tree, CH.Env.own, CH.Env.ownL, OT.getP, lock, unlock, outs, tru_b, ev_eq_ii, ev_ne_ii, ev_lt_ii, ev_le_ii, ev_gt_ii, ev_ge_ii, ev_add_ii, ev_sub_ii, ev_neg_i, ev_int_i, ev_abs_i, ev_len_l, ev_len_t, ev_len_f, ev_idx, mulOk_r, ev_mul_ii, OT.toD, i1, i2, h1, h2]), if_pos ⟨h1, h2⟩, ss_end]
      simp [D.tyName, ev_isi_t, isTy, fillA, backA, goneA, cm_le_ii, cm_lt_ii, getV, Fn.run, Fn.run0, evSs, evS, evT, evAll, evAny, evO, evE, evOs, evEs, evAs, evB, evAnd, evOr, CH.R.bind, R.ofO, CH.Env.tree, CH.Env.own, CH.Env.ownL, OT.getP, lock, unlock, outs, tru_b, ev_eq_ii, ev_ne_ii, ev_lt_ii, ev_le_ii, ev_gt_ii, ev_ge_ii, ev_add_ii, ev_sub_ii, ev_neg_i, ev_int_i, ev_abs_i, ev_len_l, ev_len_t, ev_len_f, ev_idx, mulOk_r, ev_mul_ii, OT.toD, ap]
  · rw [ife_f (ρ1 := Rc ns acc (.ow (.sh (.int v)))) (by simp [D.tyName, ev_isi_t, isTy, fillA, backA, goneA, cm_le_ii, cm_lt_ii, getV, Fn.run, Fn.run0, evSs, evS, evT, evAll, evAny, evO, evE, evOs, evEs, evAs, evB, evAnd, evOr, CH.R.bind, R.ofO, CH.Env.tree, CH.Env.own, CH.Env.ownL, OT.getP, lock, unlock, outs, tru_b, ev_eq_ii, ev_ne_ii, ev_lt_ii, ev_le_ii, ev_gt_ii, ev_ge_ii, ev_add_ii, ev_sub_ii, ev_neg_i, ev_int_i, ev_abs_i, ev_len_l, ev_len_t, ev_len_f, ev_idx, mulOk_r, ev_mul_ii, OT.toD, i1, h1]), if_neg (fun h => h1 h.1)]
    rfl
def ac2 : List Int := if v ∉ ns ∧ -v ∉ acc then acc ++ [-v] else acc
theorem c_3 (hl : acc.length < 100000) : evS (P k) [] p12_4 (Rc ns acc (.ow (.sh (.int v)))) = .ok (.nx, Rc ns (ac2 ns acc v) (.ow (.sh (.int v)))) := by
  have i1 := fun x => ni_l x ns
  have i2 := fun x => ni_o x acc
  have ap := ap_i acc (-v) (by omega)
  have z : (0 : Int) - v = -v := by omega
  unfold p12_4 ac2
  by_cases h1 : v ∈ ns
  · rw [ife_f (ρ1 := Rc ns acc (.ow (.sh (.int v)))) (by simp [D.tyName, ev_isi_t, isTy, fillA, backA, goneA, cm_le_ii, cm_lt_ii, getV, Fn.run, Fn.run0, evSs, evS, evT, evAll, evAny, evO, evE, evOs, evEs, evAs, evB, evAnd, evOr, CH.R.bind, R.ofO, CH.Env.tree, CH.Env.own, CH.Env.ownL, OT.getP, lock, unlock, outs, tru_b, ev_eq_ii, ev_ne_ii, ev_lt_ii, ev_le_ii, ev_gt_ii, ev_ge_ii, ev_add_ii, ev_sub_ii, ev_neg_i, ev_int_i, ev_abs_i, ev_len_l, ev_len_t, ev_len_f, ev_idx, mulOk_r, ev_mul_ii, OT.toD, i1, h1]), if_neg (fun h => h.1 h1)]
    rfl
  · by_cases h2 : -v ∈ acc
    · rw [ife_f (ρ1 := Rc ns acc (.ow (.sh (.int v)))) (by simp [D.tyName, ev_isi_t, isTy, fillA, backA, goneA, cm_le_ii, cm_lt_ii, getV, Fn.run, Fn.run0, evSs, evS, evT, evAll, evAny, evO, evE, evOs, evEs, evAs, evB, evAnd, evOr, CH.R.bind, R.ofO, CH.Env.tree, CH.Env.own, CH.Env.ownL, OT.getP, lock, unlock, outs, tru_b, ev_eq_ii, ev_ne_ii, ev_lt_ii, ev_le_ii, ev_gt_ii, ev_ge_ii, ev_add_ii, ev_sub_ii, ev_neg_i, ev_int_i, ev_abs_i, ev_len_l, ev_len_t, ev_len_f, ev_idx, mulOk_r, ev_mul_ii, OT.toD, i1, i2, h1, h2, z]), if_neg (fun h => h.2 h2)]
      rfl
    · rw [ife_t (ρ1 := Rc ns acc (.ow (.sh (.int v)))) (by simp [D.tyName, ev_isi_t, isTy, fillA, backA, goneA, cm_le_ii, cm_lt_ii, getV, Fn.run, Fn.run0, evSs, evS, evT, evAll, evAny, evO, evE, evOs, evEs, evAs, evB, evAnd, evOr, CH.R.bind, R.ofO, CH.Env.tree, CH.Env.own, CH.Env.ownL, OT.getP, lock, unlock, outs, tru_b, ev_eq_ii, ev_ne_ii, ev_lt_ii, ev_le_ii, ev_gt_ii, ev_ge_ii, ev_add_ii, ev_sub_ii, ev_neg_i, ev_int_i, ev_abs_i, ev_len_l, ev_len_t, ev_len_f, ev_idx, mulOk_r, ev_mul_ii, OT.toD, i1, i2, h1, h2, z]), if_pos ⟨h1, h2⟩, ss_end]
      simp [D.tyName, ev_isi_t, isTy, fillA, backA, goneA, cm_le_ii, cm_lt_ii, getV, Fn.run, Fn.run0, evSs, evS, evT, evAll, evAny, evO, evE, evOs, evEs, evAs, evB, evAnd, evOr, CH.R.bind, R.ofO, CH.Env.tree, CH.Env.own, CH.Env.ownL, OT.getP, lock, unlock, outs, tru_b, ev_eq_ii, ev_ne_ii, ev_lt_ii, ev_le_ii, ev_gt_ii, ev_ge_ii, ev_add_ii, ev_sub_ii, ev_neg_i, ev_int_i, ev_abs_i, ev_len_l, ev_len_t, ev_len_f, ev_idx, mulOk_r, ev_mul_ii, OT.toD, ap, z]
theorem ac_eq : ac2 ns (ac1 ns acc v) v = lcStep ns acc v := by
  unfold ac2 ac1 lcStep sgn
  by_cases h1 : v ∈ ns
  · by_cases h2 : v ∈ acc <;> simp [h1, h2]
  · by_cases h2 : -v ∈ acc <;> simp [h1, h2]
theorem ac1_len : (ac1 ns acc v).length ≤ acc.length + 1 := by unfold ac1; split <;> simp
theorem c_turn (hl : acc.length < 1000) : evSs (P k) [] p12_5 (Rc ns acc (.ow (.sh (.int v)))) = if v ∈ ns ∧ -v ∈ ns then .ok (.rt (.sh .non), Rc ns acc (.ow (.sh (.int v)))) else .ok (.nx, Rc ns (lcStep ns acc v) (.ow (.sh (.int v)))) := by
  have c1 := c_1 k ns acc v
  unfold p12_5
  by_cases h : v ∈ ns ∧ -v ∈ ns
  · rw [if_pos h] at c1 ⊢
    exact ss_stop c1
  · rw [if_neg h] at c1 ⊢
    have := ac1_len ns acc v
    rw [ss_next c1, ss_next (c_2 k ns acc v (by omega)), ss_end, c_3 k ns _ v (by omega), ac_eq]
end
theorem step_len (ns acc : List Int) (v : Int) : (lcStep ns acc v).length ≤ acc.length + 1 := by unfold lcStep; split <;> simp
theorem c_loop (k : Nat) (ns : List Int) : ∀ (vs acc : List Int) (u : Sl), (u = .no ∨ ∃ x, u = .ow (.sh (.int x))) → acc.length + vs.length < 1000 →
    (∀ l, lcGo ns acc vs = some l → ∃ u', forL (fun ρ => evSs (P k) [] p12_5 ρ) [] (.one 2) (vs.map .int) (Rc ns acc u) = .ok (.nx, Rc ns l u')) ∧
    (lcGo ns acc vs = none → ∃ a u', forL (fun ρ => evSs (P k) [] p12_5 ρ) [] (.one 2) (vs.map .int) (Rc ns acc u) = .ok (.rt (.sh .non), Rc ns a u'))
  | [], acc, u, _, _ => ⟨fun l h => (by cases h; exact ⟨u, rfl⟩), fun h => (by cases h)⟩
  | v :: vs, acc, u, hu, hl => by
    have s1 : setTg [] (.one 2) (.int v) (Rc ns acc u) = some (Rc ns acc (.ow (.sh (.int v)))) := by
      rcases hu with rfl | ⟨x, rfl⟩ <;> rfl
    have t := c_turn k ns acc v (by omega)
    have sl := step_len ns acc v
    simp only [List.length_cons] at hl
    obtain ⟨i1, i2⟩ := c_loop k ns vs (lcStep ns acc v) (.ow (.sh (.int v))) (.inr ⟨_, rfl⟩) (by omega)
    rw [List.map_cons]
    unfold forL lcGo
    rw [s1]
    simp only
    by_cases h : v ∈ ns ∧ -v ∈ ns
    · rw [if_pos h] at t ⊢
      rw [t]
      exact ⟨fun l h => (by cases h), fun _ => ⟨acc, _, rfl⟩⟩
    · rw [if_neg h] at t ⊢
      rw [t]
      exact ⟨fun l h => i1 l h, fun h => i2 h⟩
theorem lc_run (k : Nat) (ns : List Int) (hl : ns.length < 60) : P (k + 1) 12 [.sh (.lst (ns.map .int))] = .ok (.sh (lcD (lcGo ns [] (sortI (ns.map absI)))), [.sh (.lst (ns.map .int))]) := by
  rw [step k 12 _ f12 t12]
  have lc := evE_lc (Φ := P k) (pl := []) (e := p12_0) (i := 3) (it := .seq (.bor 0 [])) (cs := p12_1) (ρ := Rc ns [] .no) (ρ1 := [.lk (.sh (.lst (ns.map .int))), .ow (.lst []), .no, .no]) (xs := ns) (mk := .int) (g := fun n => .int (absI n))
    (by simp [evI, CH.Env.tree, OT.getP, OT.items, lock]) rfl (by simp) (by simp only [big]; omega) (fun ρ => by simp [p12_1, evAll]) (fun x hx => by simp [p12_0, D.tyName, ev_isi_t, isTy, fillA, backA, goneA, cm_le_ii, cm_lt_ii, getV, Fn.run, Fn.run0, evSs, evS, evT, evAll, evAny, evO, evE, evOs, evEs, evAs, evB, evAnd, evOr, CH.R.bind, R.ofO, CH.Env.tree, CH.Env.own, CH.Env.ownL, OT.getP, lock, unlock, outs, tru_b, ev_eq_ii, ev_ne_ii, ev_lt_ii, ev_le_ii, ev_gt_ii, ev_ge_ii, ev_add_ii, ev_sub_ii, ev_neg_i, ev_int_i, ev_abs_i, ev_len_l, ev_len_t, ev_len_f, ev_idx, mulOk_r, ev_mul_ii, OT.toD, absI])
  have bk : backI (.seq (.bor 0 [])) (Rc ns [] .no) [.lk (.sh (.lst (ns.map .int))), .ow (.lst []), .no, .no] = Rc ns [] .no := rfl
  rw [bk] at lc
  have sl : (sortI (ns.map absI)).length = ns.length := by unfold sortI; rw [List.length_mergeSort, List.length_map]
  have so : Op.ev (.bi .sorted) [.lst (ns.map fun x => .sh (.int (absI x)))] = some (newL ((sortI (ns.map absI)).map .int)) := by
    have e1 : (ns.map fun x => OT.sh (.int (absI x))) = ((ns.map absI).map D.int).map OT.sh := by simp [List.map_map]
    rw [e1]
    show sortedEv (.lst (((ns.map absI).map D.int).map OT.sh)) = _
    unfold sortedEv
    rw [litems_sh]
    have ii : ∀ l : List Int, intsD (l.map .int) = some l := fun l => by
      induction l with
      | nil => rfl
      | cons n l ih => show (intsD (l.map .int)).map (n :: ·) = _; rw [ih]; rfl
    simp only [Option.bind_some, ii]
    rw [decide_eq_true (by rw [List.length_map]; omega)]
    rfl
  have hI : evI (P k) [] (.seq (.e (.op (.bi .sorted) (.cons (.e (.lc p12_0 (.one 3) (.seq (.bor 0 [])) p12_1)) .nil)))) (Rc ns [] .no) = .ok ((sortI (ns.map absI)).map .int, Rc ns [] .no) := by
    have := evE_op1 (Φ := P k) (pl := []) lc so
    rw [evI, this]
    simp only [CH.R.bind]
    have : (newL ((sortI (ns.map absI)).map .int)).items = some ((sortI (ns.map absI)).map .int) := litems_sh _
    rw [this]
  obtain ⟨l1, l2⟩ := c_loop k ns (sortI (ns.map absI)) [] .no (.inl rfl) (by rw [sl]; simp; omega)
  have g0 : evS (P k) [] q12_0 [.ow (.sh (.lst (ns.map .int))), .no, .no, .no] = .ok (.nx, Rc ns [] .no) := by simp [q12_0, D.tyName, ev_isi_t, isTy, fillA, backA, goneA, cm_le_ii, cm_lt_ii, getV, Fn.run, Fn.run0, evSs, evS, evT, evAll, evAny, evO, evE, evOs, evEs, evAs, evB, evAnd, evOr, CH.R.bind, R.ofO, CH.Env.tree, CH.Env.own, CH.Env.ownL, OT.getP, lock, unlock, outs, tru_b, ev_eq_ii, ev_ne_ii, ev_lt_ii, ev_le_ii, ev_gt_ii, ev_ge_ii, ev_add_ii, ev_sub_ii, ev_neg_i, ev_int_i, ev_abs_i, ev_len_l, ev_len_t, ev_len_f, ev_idx, mulOk_r, ev_mul_ii, OT.toD]
  cases hg : lcGo ns [] (sortI (ns.map absI)) with
  | none =>
    obtain ⟨a, u', e⟩ := l2 hg
    refine run_rt (ρ := Rc ns a u') rfl ?_ rfl
    show evSs (P k) [] b12 [.ow (.sh (.lst (ns.map .int))), .no, .no, .no] = _
    unfold b12
    rw [ss_next g0]
    refine ss_stop ?_
    unfold q12_1
    rw [evS, hI]
    simp only [CH.R.bind, backI]
    rw [e]
    rfl
  | some l =>
    obtain ⟨u', e⟩ := l1 l hg
    refine run_rt (ρ := Rc ns l u') rfl ?_ rfl
    show evSs (P k) [] b12 [.ow (.sh (.lst (ns.map .int))), .no, .no, .no] = _
    unfold b12
    rw [ss_next g0, ss_next (s := q12_1) (ρ1 := Rc ns l u') (by unfold q12_1; rw [evS, hI]; simp only [CH.R.bind, backI]; rw [e]), ss_end]
    have tp : Op.ev (.bi .tuple) [.lst (l.map iT)] = some (.sh (.tup (l.map .int))) := by
      show ((leaves (l.map iT)).map fun ds => OT.sh (.tup ds)) = _
      rw [leaves_i]; rfl
    simp [q12_2, D.tyName, ev_isi_t, isTy, fillA, backA, goneA, cm_le_ii, cm_lt_ii, getV, Fn.run, Fn.run0, evSs, evS, evT, evAll, evAny, evO, evE, evOs, evEs, evAs, evB, evAnd, evOr, CH.R.bind, R.ofO, CH.Env.tree, CH.Env.own, CH.Env.ownL, OT.getP, lock, unlock, outs, tru_b, ev_eq_ii, ev_ne_ii, ev_lt_ii, ev_le_ii, ev_gt_ii, ev_ge_ii, ev_add_ii, ev_sub_ii, ev_neg_i, ev_int_i, ev_abs_i, ev_len_l, ev_len_t, ev_len_f, ev_idx, mulOk_r, ev_mul_ii, OT.toD, tp, lcD]
end K02
end
section
namespace K02
open PySem L2 Evl PyProof.Rows CH
theorem agrees_run (k : Nat) (as bs : List Int) (hl : as.length < 100000) : P (k + 1) 5 [.sh (.tup (as.map .int)), .sh (.tup (bs.map .int))] = .ok (.sh (.bl (as.all fun a => decide (a ∈ bs))), [.sh (.tup (as.map .int)), .sh (.tup (bs.map .int))]) := by
  rw [step k 5 _ f5 t5]
  have af := evE_all (Φ := P k) (pl := []) (e := p5_0) (i := 2) (it := .seq (.bor 0 [])) (cs := p5_1) (ρ := [.ow (.sh (.tup (as.map .int))), .ow (.sh (.tup (bs.map .int))), .no]) (ρ1 := [.lk (.sh (.tup (as.map .int))), .ow (.sh (.tup (bs.map .int))), .no]) (xs := as) (mk := .int) (f := fun a => decide (a ∈ bs))
    (by simp [evI, CH.Env.tree, OT.getP, OT.items, lock]) rfl (by simp) (by simp only [big]; omega) (fun ρ => by simp [p5_1, evAll]) (fun x hx => by simp [p5_0, D.tyName, ev_isi_t, isTy, fillA, backA, goneA, cm_le_ii, cm_lt_ii, getV, Fn.run, Fn.run0, evSs, evS, evT, evAll, evAny, evO, evE, evOs, evEs, evAs, evB, evAnd, evOr, CH.R.bind, R.ofO, CH.Env.tree, CH.Env.own, CH.Env.ownL, OT.getP, lock, unlock, outs, tru_b, ev_eq_ii, ev_ne_ii, ev_lt_ii, ev_le_ii, ev_gt_ii, ev_ge_ii, ev_add_ii, ev_sub_ii, ev_neg_i, ev_int_i, ev_abs_i, ev_len_l, ev_len_t, ev_len_f, ev_idx, mulOk_r, ev_mul_ii, OT.toD, ev_in_it])
  refine run_rt (ρ := [.ow (.sh (.tup (as.map .int))), .ow (.sh (.tup (bs.map .int))), .no]) rfl (ss_stop ?_) rfl
  show evS (P k) [] q5_0 [.ow (.sh (.tup (as.map .int))), .ow (.sh (.tup (bs.map .int))), .no] = _
  unfold q5_0
  rw [evS, af]
  rfl
theorem two {xs : List Int} {a b : Int} (h : Within xs [a, b]) : ∃ x y, xs = [x, y] ∧ 0 ≤ x ∧ x < a ∧ 0 ≤ y ∧ y < b := by
  obtain ⟨h1, h2⟩ := h
  match xs, h1 with
  | [x, y], _ =>
    have p0 := h2 0 (by simp)
    have p1 := h2 1 (by simp)
    simp at p0 p1
    exact ⟨x, y, rfl, p0.1, p0.2, p1.1, p1.2⟩
abbrev Rw (sc : D) (k n a b num : Int) (r : List Int) (u w : Sl) : CH.Env := [.ow (.sh sc), .ow (.sh (.int k)), .ow (.sh (.int n)), .ow (.lst [iT a, iT b]), .ow (.sh (.int num)), .ow (.lst (r.map iT)), u, w]
theorem ix2 (a b : Int) : idxEv (.lst [iT a, iT b]) 0 = some (.sh (.int a)) ∧ idxEv (.lst [iT a, iT b]) 1 = some (.sh (.int b)) := ⟨idx_ow [a, b] 0 (by simp), idx_ow [a, b] 1 (by simp)⟩
theorem row_turn (K : Nat) (sc : D) (k n a b num v : Int) (r : List Int) (w : Sl) (hw : w = .no ∨ ∃ x, w = .ow (.sh (.int x))) (hr : r.length < 1000) :
    ∃ r' num', r'.length ≤ r.length + 1 ∧ evSs (P K) [] p9_3 (Rw sc k n a b num r (.ow (.sh (.int v))) w) = .ok (.nx, Rw sc k n a b num' r' (.ow (.sh (.int v))) (.ow (.sh (.int (num % 3))))) := by
  have m1 := fun x : Int => ev_mod_ii x 3 (by omega)
  have d1 := fun x : Int => ev_fdiv_ii x 3 (by omega)
  have i1 := (ix2 a b).2
  have ln : Op.ev (.bi .len) [.lst (r.map iT)] = some (.sh (.int r.length)) := by show some (OT.sh (D.int ((r.map iT).length : Nat))) = _; rw [List.length_map]
  have g0 : evS (P K) [] p9_0 (Rw sc k n a b num r (.ow (.sh (.int v))) w) = .ok (.nx, Rw sc k n a b num r (.ow (.sh (.int v))) (.ow (.sh (.int (num % 3))))) := by
    rcases hw with rfl | ⟨x, rfl⟩ <;> simp [p9_0, D.tyName, ev_isi_t, isTy, fillA, backA, goneA, cm_le_ii, cm_lt_ii, getV, Fn.run, Fn.run0, evSs, evS, evT, evAll, evAny, evO, evE, evOs, evEs, evAs, evB, evAnd, evOr, CH.R.bind, R.ofO, CH.Env.tree, CH.Env.own, CH.Env.ownL, OT.getP, lock, unlock, outs, tru_b, ev_eq_ii, ev_ne_ii, ev_lt_ii, ev_le_ii, ev_gt_ii, ev_ge_ii, ev_add_ii, ev_sub_ii, ev_neg_i, ev_int_i, ev_abs_i, ev_len_l, ev_len_t, ev_len_f, ev_idx, mulOk_r, ev_mul_ii, OT.toD, m1]
  have hd : 0 ≤ num % 3 ∧ num % 3 < 3 := by omega
  generalize num % 3 = d at g0 hd
  have g1 : evS (P K) [] p9_1 (Rw sc k n a b num r (.ow (.sh (.int v))) (.ow (.sh (.int d)))) = .ok (.nx, Rw sc k n a b (num / 3) r (.ow (.sh (.int v))) (.ow (.sh (.int d)))) := by simp [p9_1, D.tyName, ev_isi_t, isTy, fillA, backA, goneA, cm_le_ii, cm_lt_ii, getV, Fn.run, Fn.run0, evSs, evS, evT, evAll, evAny, evO, evE, evOs, evEs, evAs, evB, evAnd, evOr, CH.R.bind, R.ofO, CH.Env.tree, CH.Env.own, CH.Env.ownL, OT.getP, lock, unlock, outs, tru_b, ev_eq_ii, ev_ne_ii, ev_lt_ii, ev_le_ii, ev_gt_ii, ev_ge_ii, ev_add_ii, ev_sub_ii, ev_neg_i, ev_int_i, ev_abs_i, ev_len_l, ev_len_t, ev_len_f, ev_idx, mulOk_r, ev_mul_ii, OT.toD, d1]
  unfold p9_3
  rw [ss_next g0, ss_next g1, ss_end]
  generalize num / 3 = q
  unfold p9_2
  generalize hL : (r.length : Int) = L at ln
  have ap := fun y => ap_i r y (by omega)
  have mo : ∀ y : Int, mulOk y (3 - 2 * d) = true := fun y => mulOk_r _ _ (by omega)
  have e1 := ev_mul_ii 2 d (mulOk_r _ _ (by omega))
  have e2 := fun y : Int => ev_mul_ii y (3 - 2 * d) (mo y)
  by_cases h1 : 0 < d
  · by_cases h2 : 0 < b
    · refine ⟨r ++ [v * (3 - 2 * d)], q, by simp, ?_⟩
      rw [ife_t (ρ1 := Rw sc k n a b q r (.ow (.sh (.int v))) (.ow (.sh (.int d)))) (by simp [D.tyName, ev_isi_t, isTy, fillA, backA, goneA, cm_le_ii, cm_lt_ii, getV, Fn.run, Fn.run0, evSs, evS, evT, evAll, evAny, evO, evE, evOs, evEs, evAs, evB, evAnd, evOr, CH.R.bind, R.ofO, CH.Env.tree, CH.Env.own, CH.Env.ownL, OT.getP, lock, unlock, outs, tru_b, ev_eq_ii, ev_ne_ii, ev_lt_ii, ev_le_ii, ev_gt_ii, ev_ge_ii, ev_add_ii, ev_sub_ii, ev_neg_i, ev_int_i, ev_abs_i, ev_len_l, ev_len_t, ev_len_f, ev_idx, mulOk_r, ev_mul_ii, OT.toD, i1, h1, h2]), ss_end]
      simp [D.tyName, ev_isi_t, isTy, fillA, backA, goneA, cm_le_ii, cm_lt_ii, getV, Fn.run, Fn.run0, evSs, evS, evT, evAll, evAny, evO, evE, evOs, evEs, evAs, evB, evAnd, evOr, CH.R.bind, R.ofO, CH.Env.tree, CH.Env.own, CH.Env.ownL, OT.getP, lock, unlock, outs, tru_b, ev_eq_ii, ev_ne_ii, ev_lt_ii, ev_le_ii, ev_gt_ii, ev_ge_ii, ev_add_ii, ev_sub_ii, ev_neg_i, ev_int_i, ev_abs_i, ev_len_l, ev_len_t, ev_len_f, ev_idx, mulOk_r, ev_mul_ii, OT.toD, e1, e2, ap]
    · by_cases h3 : L < 3
      · refine ⟨r ++ [v * (3 - 2 * d)], q, by simp, ?_⟩
        rw [ife_t (ρ1 := Rw sc k n a b q r (.ow (.sh (.int v))) (.ow (.sh (.int d)))) (by simp [D.tyName, ev_isi_t, isTy, fillA, backA, goneA, cm_le_ii, cm_lt_ii, getV, Fn.run, Fn.run0, evSs, evS, evT, evAll, evAny, evO, evE, evOs, evEs, evAs, evB, evAnd, evOr, CH.R.bind, R.ofO, CH.Env.tree, CH.Env.own, CH.Env.ownL, OT.getP, lock, unlock, outs, tru_b, ev_eq_ii, ev_ne_ii, ev_lt_ii, ev_le_ii, ev_gt_ii, ev_ge_ii, ev_add_ii, ev_sub_ii, ev_neg_i, ev_int_i, ev_abs_i, ev_len_l, ev_len_t, ev_len_f, ev_idx, mulOk_r, ev_mul_ii, OT.toD, i1, h1, h2, ln, h3]), ss_end]
        simp [D.tyName, ev_isi_t, isTy, fillA, backA, goneA, cm_le_ii, cm_lt_ii, getV, Fn.run, Fn.run0, evSs, evS, evT, evAll, evAny, evO, evE, evOs, evEs, evAs, evB, evAnd, evOr, CH.R.bind, R.ofO, CH.Env.tree, CH.Env.own, CH.Env.ownL, OT.getP, lock, unlock, outs, tru_b, ev_eq_ii, ev_ne_ii, ev_lt_ii, ev_le_ii, ev_gt_ii, ev_ge_ii, ev_add_ii, ev_sub_ii, ev_neg_i, ev_int_i, ev_abs_i, ev_len_l, ev_len_t, ev_len_f, ev_idx, mulOk_r, ev_mul_ii, OT.toD, e1, e2, ap]
      · refine ⟨r, q, by simp, ?_⟩
        rw [ife_f (ρ1 := Rw sc k n a b q r (.ow (.sh (.int v))) (.ow (.sh (.int d)))) (by simp [D.tyName, ev_isi_t, isTy, fillA, backA, goneA, cm_le_ii, cm_lt_ii, getV, Fn.run, Fn.run0, evSs, evS, evT, evAll, evAny, evO, evE, evOs, evEs, evAs, evB, evAnd, evOr, CH.R.bind, R.ofO, CH.Env.tree, CH.Env.own, CH.Env.ownL, OT.getP, lock, unlock, outs, tru_b, ev_eq_ii, ev_ne_ii, ev_lt_ii, ev_le_ii, ev_gt_ii, ev_ge_ii, ev_add_ii, ev_sub_ii, ev_neg_i, ev_int_i, ev_abs_i, ev_len_l, ev_len_t, ev_len_f, ev_idx, mulOk_r, ev_mul_ii, OT.toD, i1, h1, h2, ln, h3])]
        rfl
  · refine ⟨r, q, by simp, ?_⟩
    rw [ife_f (ρ1 := Rw sc k n a b q r (.ow (.sh (.int v))) (.ow (.sh (.int d)))) (by simp [D.tyName, ev_isi_t, isTy, fillA, backA, goneA, cm_le_ii, cm_lt_ii, getV, Fn.run, Fn.run0, evSs, evS, evT, evAll, evAny, evO, evE, evOs, evEs, evAs, evB, evAnd, evOr, CH.R.bind, R.ofO, CH.Env.tree, CH.Env.own, CH.Env.ownL, OT.getP, lock, unlock, outs, tru_b, ev_eq_ii, ev_ne_ii, ev_lt_ii, ev_le_ii, ev_gt_ii, ev_ge_ii, ev_add_ii, ev_sub_ii, ev_neg_i, ev_int_i, ev_abs_i, ev_len_l, ev_len_t, ev_len_f, ev_idx, mulOk_r, ev_mul_ii, OT.toD, h1])]
    rfl
theorem row_run (K : Nat) (ns : List Int) (k n : Int) (hs : ns.length ≤ 63) (hk : 0 ≤ k ∧ k < 1000) (hn : 0 ≤ n ∧ n ≤ 10) :
    ∃ r : List Int, r.length ≤ 10 ∧ P (K + 2) 9 [.sh (.flst (ns.map .int)), .sh (.int k), .sh (.int n)] = .ok (.sh (.tup (r.map .int)), [.sh (.flst (ns.map .int)), .sh (.int k), .sh (.int n)]) := by
  obtain ⟨xs, hw, hd⟩ := draws_eq K ns [59049, 4] k hk hs (by simp) (by simp)
  obtain ⟨a, b, rfl, ha, _⟩ := two hw
  generalize D.flst (ns.map .int) = sc at hd
  rw [step (K + 1) 9 _ f9 t9]
  obtain ⟨ρ', h1, h2⟩ := forL_inv (body := fun ρ => evSs (P (K + 1)) [] p9_3 ρ) (pl := []) (tg := .one 6)
    (I := fun i ρ => ∃ (r : List Int) (num : Int) (u w : Sl), ρ = Rw sc k n a b num r u w ∧ (u = .no ∨ ∃ x, u = .ow (.sh (.int x))) ∧ (w = .no ∨ ∃ x, w = .ow (.sh (.int x))) ∧ r.length ≤ i)
    ((List.range (n + 1 - 1).toNat).map fun i => .int (1 + (i : Nat))) (Rw sc k n a b a [] .no .no) ⟨[], a, .no, .no, rfl, .inl rfl, .inl rfl, by simp⟩
    (fun i d ρ e hI => by
      obtain ⟨r, num, u, w, rfl, hu, hw, hr⟩ := hI
      obtain ⟨i', e1, rfl⟩ := by rw [List.getElem?_map] at e; exact Option.map_eq_some_iff.mp e
      obtain ⟨hi, e1⟩ := List.getElem?_eq_some_iff.mp e1
      rw [List.length_range] at hi
      generalize (1 + ((i' : Nat) : Int)) = v
      have s1 : setTg [] (.one 6) (.int v) (Rw sc k n a b num r u w) = some (Rw sc k n a b num r (.ow (.sh (.int v))) w) := by
        rcases hu with rfl | ⟨x, rfl⟩ <;> rfl
      obtain ⟨r', num', hl, t⟩ := row_turn (K + 1) sc k n a b num v r w hw (by omega)
      exact ⟨_, _, s1, t, r', num', _, _, rfl, .inr ⟨_, rfl⟩, .inr ⟨_, rfl⟩, by omega⟩)
  obtain ⟨r, num, u, w, rfl, _, _, hr⟩ := h2
  rw [List.length_map, List.length_range] at hr
  refine ⟨r, by omega, run_rt (ρ := Rw sc k n a b num r u w) rfl ?_ rfl⟩
  show evSs (P (K + 1)) [] b9 [.ow (.sh sc), .ow (.sh (.int k)), .ow (.sh (.int n)), .no, .no, .no, .no, .no] = _
  unfold b9
  have g0 : evS (P (K + 1)) [] q9_0 [.ow (.sh sc), .ow (.sh (.int k)), .ow (.sh (.int n)), .no, .no, .no, .no, .no] = .ok (.nx, [.ow (.sh sc), .ow (.sh (.int k)), .ow (.sh (.int n)), .ow (.lst [iT a, iT b]), .no, .no, .no, .no]) := by
    have hd' : P (K + 1) 6 [.sh sc, .sh (.int k), .sh (.lst [.int 59049, .int 4])] = .ok (.lst [iT a, iT b], [.sh sc, .sh (.int k), .sh (.lst [.int 59049, .int 4])]) := hd
    simp [q9_0, D.tyName, ev_isi_t, isTy, fillA, backA, goneA, cm_le_ii, cm_lt_ii, getV, Fn.run, Fn.run0, evSs, evS, evT, evAll, evAny, evO, evE, evOs, evEs, evAs, evB, evAnd, evOr, CH.R.bind, R.ofO, CH.Env.tree, CH.Env.own, CH.Env.ownL, OT.getP, lock, unlock, outs, tru_b, ev_eq_ii, ev_ne_ii, ev_lt_ii, ev_le_ii, ev_gt_ii, ev_ge_ii, ev_add_ii, ev_sub_ii, ev_neg_i, ev_int_i, ev_abs_i, ev_len_l, ev_len_t, ev_len_f, ev_idx, mulOk_r, ev_mul_ii, OT.toD, hd', toDs, big]
  rw [ss_next g0]
  rw [ss_next (s := q9_1) (ρ1 := [.ow (.sh sc), .ow (.sh (.int k)), .ow (.sh (.int n)), .ow (.lst [iT a, iT b]), .ow (.sh (.int a)), .no, .no, .no]) (by simp [q9_1, D.tyName, ev_isi_t, isTy, fillA, backA, goneA, cm_le_ii, cm_lt_ii, getV, Fn.run, Fn.run0, evSs, evS, evT, evAll, evAny, evO, evE, evOs, evEs, evAs, evB, evAnd, evOr, CH.R.bind, R.ofO, CH.Env.tree, CH.Env.own, CH.Env.ownL, OT.getP, lock, unlock, outs, tru_b, ev_eq_ii, ev_ne_ii, ev_lt_ii, ev_le_ii, ev_gt_ii, ev_ge_ii, ev_add_ii, ev_sub_ii, ev_neg_i, ev_int_i, ev_abs_i, ev_len_l, ev_len_t, ev_len_f, ev_idx, mulOk_r, ev_mul_ii, OT.toD, (ix2 a b).1])]
  rw [ss_next (s := q9_2) (ρ1 := Rw sc k n a b a [] .no .no) (by simp [q9_2, D.tyName, ev_isi_t, isTy, fillA, backA, goneA, cm_le_ii, cm_lt_ii, getV, Fn.run, Fn.run0, evSs, evS, evT, evAll, evAny, evO, evE, evOs, evEs, evAs, evB, evAnd, evOr, CH.R.bind, R.ofO, CH.Env.tree, CH.Env.own, CH.Env.ownL, OT.getP, lock, unlock, outs, tru_b, ev_eq_ii, ev_ne_ii, ev_lt_ii, ev_le_ii, ev_gt_ii, ev_ge_ii, ev_add_ii, ev_sub_ii, ev_neg_i, ev_int_i, ev_abs_i, ev_len_l, ev_len_t, ev_len_f, ev_idx, mulOk_r, ev_mul_ii, OT.toD])]
  have hI : evI (P (K + 1)) [] (.rng2 (.c (.int 1)) (.op (.bin .add) (.cons (.bor 2 []) (.cons (.e (.c (.int 1))) .nil)))) (Rw sc k n a b a [] .no .no) = .ok ((List.range (n + 1 - 1).toNat).map fun i => .int (1 + (i : Nat)), Rw sc k n a b a [] .no .no) :=
    range_val (Φ := P (K + 1)) (pl := []) (i := 1) (j := n + 1) (ρ1 := Rw sc k n a b a [] .no .no) (ρ2 := Rw sc k n a b a [] .no .no) (by simp [D.tyName, ev_isi_t, isTy, fillA, backA, goneA, cm_le_ii, cm_lt_ii, getV, Fn.run, Fn.run0, evSs, evS, evT, evAll, evAny, evO, evE, evOs, evEs, evAs, evB, evAnd, evOr, CH.R.bind, R.ofO, CH.Env.tree, CH.Env.own, CH.Env.ownL, OT.getP, lock, unlock, outs, tru_b, ev_eq_ii, ev_ne_ii, ev_lt_ii, ev_le_ii, ev_gt_ii, ev_ge_ii, ev_add_ii, ev_sub_ii, ev_neg_i, ev_int_i, ev_abs_i, ev_len_l, ev_len_t, ev_len_f, ev_idx, mulOk_r, ev_mul_ii, OT.toD]) (by simp [D.tyName, ev_isi_t, isTy, fillA, backA, goneA, cm_le_ii, cm_lt_ii, getV, Fn.run, Fn.run0, evSs, evS, evT, evAll, evAny, evO, evE, evOs, evEs, evAs, evB, evAnd, evOr, CH.R.bind, R.ofO, CH.Env.tree, CH.Env.own, CH.Env.ownL, OT.getP, lock, unlock, outs, tru_b, ev_eq_ii, ev_ne_ii, ev_lt_ii, ev_le_ii, ev_gt_ii, ev_ge_ii, ev_add_ii, ev_sub_ii, ev_neg_i, ev_int_i, ev_abs_i, ev_len_l, ev_len_t, ev_len_f, ev_idx, mulOk_r, ev_mul_ii, OT.toD]) (by omega)
  rw [ss_next (s := q9_3) (ρ1 := Rw sc k n a b num r u w) (by unfold q9_3; rw [evS, hI]; simp only [CH.R.bind, backI]; rw [h1]), ss_end]
  have tp : Op.ev (.bi .tuple) [.lst (r.map iT)] = some (.sh (.tup (r.map .int))) := by
    show ((leaves (r.map iT)).map fun ds => OT.sh (.tup ds)) = _
    rw [leaves_i]; rfl
  simp [q9_4, D.tyName, ev_isi_t, isTy, fillA, backA, goneA, cm_le_ii, cm_lt_ii, getV, Fn.run, Fn.run0, evSs, evS, evT, evAll, evAny, evO, evE, evOs, evEs, evAs, evB, evAnd, evOr, CH.R.bind, R.ofO, CH.Env.tree, CH.Env.own, CH.Env.ownL, OT.getP, lock, unlock, outs, tru_b, ev_eq_ii, ev_ne_ii, ev_lt_ii, ev_le_ii, ev_gt_ii, ev_ge_ii, ev_add_ii, ev_sub_ii, ev_neg_i, ev_int_i, ev_abs_i, ev_len_l, ev_len_t, ev_len_f, ev_idx, mulOk_r, ev_mul_ii, OT.toD, tp]
end K02
end
section
namespace K02
open PySem L2 Evl PyProof.Rows CH
def msN : List Int := 9 :: (List.replicate 8 [12, 2, 12, 90]).flatten
theorem cut4 (xs : List Int) (h : xs.length = 33) (j : Nat) (hj : j < 8) : CH.cutD (xs.map D.int) (some (1 + 4 * (j : Int))) (some (5 + 4 * (j : Int))) = [.int (xs.getD (1 + 4 * j) 0), .int (xs.getD (2 + 4 * j) 0), .int (xs.getD (3 + 4 * j) 0), .int (xs.getD (4 + 4 * j) 0)] := by
  match xs, h with
  | x0 :: x1 :: x2 :: x3 :: x4 :: x5 :: x6 :: x7 :: x8 :: x9 :: x10 :: x11 :: x12 :: x13 :: x14 :: x15 :: x16 :: x17 :: x18 :: x19 :: x20 :: x21 :: x22 :: x23 :: x24 :: x25 :: x26 :: x27 :: x28 :: x29 :: x30 :: x31 :: x32 :: [], _ =>
    have : j = 0 ∨ j = 1 ∨ j = 2 ∨ j = 3 ∨ j = 4 ∨ j = 5 ∨ j = 6 ∨ j = 7 := by omega
    rcases this with rfl | rfl | rfl | rfl | rfl | rfl | rfl | rfl <;> rfl
theorem ms_get (j : Nat) (hj : j < 8) : msN.getD (1 + 4 * j) 0 = 12 ∧ msN.getD (2 + 4 * j) 0 = 2 ∧ msN.getD (3 + 4 * j) 0 = 12 ∧ msN.getD (4 + 4 * j) 0 = 90 := by
  have : j = 0 ∨ j = 1 ∨ j = 2 ∨ j = 3 ∨ j = 4 ∨ j = 5 ∨ j = 6 ∨ j = 7 := by omega
  rcases this with rfl | rfl | rfl | rfl | rfl | rfl | rfl | rfl <;> exact ⟨rfl, rfl, rfl, rfl⟩
abbrev Rn (sc : D) (k : Int) (xs acc : List Int) (u v w z : Sl) : CH.Env := [.ow (.sh sc), .ow (.sh (.int k)), .ow (.lst (xs.map iT)), .ow (.lst (acc.map iT)), u, v, w, z]
abbrev r4 (a b c d : Int) : Sl := .ow (.lst [iT a, iT b, iT c, iT d])
abbrev iS (i : Int) : Sl := .ow (.sh (.int i))
theorem ix4 (a b c d : Int) : idxEv (.lst [iT a, iT b, iT c, iT d]) 0 = some (.sh (.int a)) ∧ idxEv (.lst [iT a, iT b, iT c, iT d]) 1 = some (.sh (.int b)) ∧ idxEv (.lst [iT a, iT b, iT c, iT d]) 2 = some (.sh (.int c)) ∧ idxEv (.lst [iT a, iT b, iT c, iT d]) 3 = some (.sh (.int d)) :=
  ⟨idx_ow [a, b, c, d] 0 (by simp), idx_ow [a, b, c, d] 1 (by simp), idx_ow [a, b, c, d] 2 (by simp), idx_ow [a, b, c, d] 3 (by simp)⟩
section
variable (K : Nat) (sc : D) (k : Int) (xs acc : List Int) (j a b c d : Int)
theorem n_2 (m : Int) (hm : 0 < m) (hd : 0 ≤ d) (z : Sl) : ∃ m', 0 < m' ∧ evS (P K) [] p11_2 (Rn sc k xs acc (iS j) (r4 a b c d) (iS m) z) = .ok (.nx, Rn sc k xs acc (iS j) (r4 a b c d) (iS m') z) := by
  obtain ⟨i0, i1, i2, i3⟩ := ix4 a b c d
  unfold p11_2
  by_cases h : c = 0
  · subst h
    refine ⟨10 + d, by omega, ?_⟩
    rw [ife_t (ρ1 := Rn sc k xs acc (iS j) (r4 a b 0 d) (iS m) z) (by simp [D.tyName, ev_isi_t, isTy, fillA, backA, goneA, cm_le_ii, cm_lt_ii, getV, Fn.run, Fn.run0, evSs, evS, evT, evAll, evAny, evO, evE, evOs, evEs, evAs, evB, evAnd, evOr, CH.R.bind, R.ofO, CH.Env.tree, CH.Env.own, CH.Env.ownL, OT.getP, lock, unlock, outs, tru_b, ev_eq_ii, ev_ne_ii, ev_lt_ii, ev_le_ii, ev_gt_ii, ev_ge_ii, ev_add_ii, ev_sub_ii, ev_neg_i, ev_int_i, ev_abs_i, ev_len_l, ev_len_t, ev_len_f, ev_idx, mulOk_r, ev_mul_ii, OT.toD, i2]), ss_end]
    simp [D.tyName, ev_isi_t, isTy, fillA, backA, goneA, cm_le_ii, cm_lt_ii, getV, Fn.run, Fn.run0, evSs, evS, evT, evAll, evAny, evO, evE, evOs, evEs, evAs, evB, evAnd, evOr, CH.R.bind, R.ofO, CH.Env.tree, CH.Env.own, CH.Env.ownL, OT.getP, lock, unlock, outs, tru_b, ev_eq_ii, ev_ne_ii, ev_lt_ii, ev_le_ii, ev_gt_ii, ev_ge_ii, ev_add_ii, ev_sub_ii, ev_neg_i, ev_int_i, ev_abs_i, ev_len_l, ev_len_t, ev_len_f, ev_idx, mulOk_r, ev_mul_ii, OT.toD, i3]
  · refine ⟨m, hm, ?_⟩
    rw [ife_f (ρ1 := Rn sc k xs acc (iS j) (r4 a b c d) (iS m) z) (by simp [D.tyName, ev_isi_t, isTy, fillA, backA, goneA, cm_le_ii, cm_lt_ii, getV, Fn.run, Fn.run0, evSs, evS, evT, evAll, evAny, evO, evE, evOs, evEs, evAs, evB, evAnd, evOr, CH.R.bind, R.ofO, CH.Env.tree, CH.Env.own, CH.Env.ownL, OT.getP, lock, unlock, outs, tru_b, ev_eq_ii, ev_ne_ii, ev_lt_ii, ev_le_ii, ev_gt_ii, ev_ge_ii, ev_add_ii, ev_sub_ii, ev_neg_i, ev_int_i, ev_abs_i, ev_len_l, ev_len_t, ev_len_f, ev_idx, mulOk_r, ev_mul_ii, OT.toD, i2, h])]
    rfl
theorem n_3 (m : Int) (hm : 0 < m) (ha : ∀ x ∈ acc, x ≠ 0) (z : Sl) : ∃ m', 0 < m' ∧ evS (P K) [] p11_3 (Rn sc k xs acc (iS j) (r4 a b c d) (iS m) z) = .ok (.nx, Rn sc k xs acc (iS j) (r4 a b c d) (iS m') z) := by
  obtain ⟨i0, i1, i2, i3⟩ := ix4 a b c d
  unfold p11_3
  cases acc with
  | nil =>
    refine ⟨m, hm, ?_⟩
    rw [ife_f (ρ1 := Rn sc k xs [] (iS j) (r4 a b c d) (iS m) z) (by simp [D.tyName, ev_isi_t, isTy, fillA, backA, goneA, cm_le_ii, cm_lt_ii, getV, Fn.run, Fn.run0, evSs, evS, evT, evAll, evAny, evO, evE, evOs, evEs, evAs, evB, evAnd, evOr, CH.R.bind, R.ofO, CH.Env.tree, CH.Env.own, CH.Env.ownL, OT.getP, lock, unlock, outs, tru_b, ev_eq_ii, ev_ne_ii, ev_lt_ii, ev_le_ii, ev_gt_ii, ev_ge_ii, ev_add_ii, ev_sub_ii, ev_neg_i, ev_int_i, ev_abs_i, ev_len_l, ev_len_t, ev_len_f, ev_idx, mulOk_r, ev_mul_ii, OT.toD])]
    rfl
  | cons x r =>
    have ln : Op.ev (.bi .len) [.lst ((x :: r).map iT)] = some (.sh (.int (r.length + 1))) := by show some (OT.sh (D.int (((x :: r).map iT).length : Nat))) = _; simp
    have ix := idx_ow (x :: r) 0 (by simp)
    have ix : idxEv (.lst ((x :: r).map iT)) 0 = some (.sh (.int x)) := ix
    have hL : 0 < (r.length : Int) + 1 := by omega
    have x0 := ha x (by simp)
    generalize hv : (x :: r).map iT = ts at ln ix
    generalize (r.length : Int) + 1 = L at ln hL
    by_cases h : c = 1
    · subst h
      refine ⟨if x < 0 then -x else x, by split <;> omega, ?_⟩
      simp only [Rn, hv]
      rw [ife_t (ρ1 := [.ow (.sh sc), .ow (.sh (.int k)), .ow (.lst (xs.map iT)), .ow (.lst ts), iS j, r4 a b 1 d, iS m, z]) (by simp [D.tyName, ev_isi_t, isTy, fillA, backA, goneA, cm_le_ii, cm_lt_ii, getV, Fn.run, Fn.run0, evSs, evS, evT, evAll, evAny, evO, evE, evOs, evEs, evAs, evB, evAnd, evOr, CH.R.bind, R.ofO, CH.Env.tree, CH.Env.own, CH.Env.ownL, OT.getP, lock, unlock, outs, tru_b, ev_eq_ii, ev_ne_ii, ev_lt_ii, ev_le_ii, ev_gt_ii, ev_ge_ii, ev_add_ii, ev_sub_ii, ev_neg_i, ev_int_i, ev_abs_i, ev_len_l, ev_len_t, ev_len_f, ev_idx, mulOk_r, ev_mul_ii, OT.toD, i2, ln, hL]), ss_end]
      simp [D.tyName, ev_isi_t, isTy, fillA, backA, goneA, cm_le_ii, cm_lt_ii, getV, Fn.run, Fn.run0, evSs, evS, evT, evAll, evAny, evO, evE, evOs, evEs, evAs, evB, evAnd, evOr, CH.R.bind, R.ofO, CH.Env.tree, CH.Env.own, CH.Env.ownL, OT.getP, lock, unlock, outs, tru_b, ev_eq_ii, ev_ne_ii, ev_lt_ii, ev_le_ii, ev_gt_ii, ev_ge_ii, ev_add_ii, ev_sub_ii, ev_neg_i, ev_int_i, ev_abs_i, ev_len_l, ev_len_t, ev_len_f, ev_idx, mulOk_r, ev_mul_ii, OT.toD, ix]
    · refine ⟨m, hm, ?_⟩
      simp only [Rn, hv]
      rw [ife_f (ρ1 := [.ow (.sh sc), .ow (.sh (.int k)), .ow (.lst (xs.map iT)), .ow (.lst ts), iS j, r4 a b c d, iS m, z]) (by simp [D.tyName, ev_isi_t, isTy, fillA, backA, goneA, cm_le_ii, cm_lt_ii, getV, Fn.run, Fn.run0, evSs, evS, evT, evAll, evAny, evO, evE, evOs, evEs, evAs, evB, evAnd, evOr, CH.R.bind, R.ofO, CH.Env.tree, CH.Env.own, CH.Env.ownL, OT.getP, lock, unlock, outs, tru_b, ev_eq_ii, ev_ne_ii, ev_lt_ii, ev_le_ii, ev_gt_ii, ev_ge_ii, ev_add_ii, ev_sub_ii, ev_neg_i, ev_int_i, ev_abs_i, ev_len_l, ev_len_t, ev_len_f, ev_idx, mulOk_r, ev_mul_ii, OT.toD, i2, h, ln, hL])]
      rfl
theorem n_5 (m s : Int) (hs : 0 ≤ s ∧ s < 2) : ∃ s', 0 ≤ s' ∧ s' < 2 ∧ evS (P K) [] p11_5 (Rn sc k xs acc (iS j) (r4 a b c d) (iS m) (iS s)) = .ok (.nx, Rn sc k xs acc (iS j) (r4 a b c d) (iS m) (iS s')) := by
  obtain ⟨i0, i1, i2, i3⟩ := ix4 a b c d
  have m1 := ev_mod_ii m 2 (by omega)
  unfold p11_5
  by_cases h : 5 < c
  · refine ⟨m % 2, by omega, by omega, ?_⟩
    rw [ife_t (ρ1 := Rn sc k xs acc (iS j) (r4 a b c d) (iS m) (iS s)) (by simp [D.tyName, ev_isi_t, isTy, fillA, backA, goneA, cm_le_ii, cm_lt_ii, getV, Fn.run, Fn.run0, evSs, evS, evT, evAll, evAny, evO, evE, evOs, evEs, evAs, evB, evAnd, evOr, CH.R.bind, R.ofO, CH.Env.tree, CH.Env.own, CH.Env.ownL, OT.getP, lock, unlock, outs, tru_b, ev_eq_ii, ev_ne_ii, ev_lt_ii, ev_le_ii, ev_gt_ii, ev_ge_ii, ev_add_ii, ev_sub_ii, ev_neg_i, ev_int_i, ev_abs_i, ev_len_l, ev_len_t, ev_len_f, ev_idx, mulOk_r, ev_mul_ii, OT.toD, i2, h]), ss_end]
    simp [D.tyName, ev_isi_t, isTy, fillA, backA, goneA, cm_le_ii, cm_lt_ii, getV, Fn.run, Fn.run0, evSs, evS, evT, evAll, evAny, evO, evE, evOs, evEs, evAs, evB, evAnd, evOr, CH.R.bind, R.ofO, CH.Env.tree, CH.Env.own, CH.Env.ownL, OT.getP, lock, unlock, outs, tru_b, ev_eq_ii, ev_ne_ii, ev_lt_ii, ev_le_ii, ev_gt_ii, ev_ge_ii, ev_add_ii, ev_sub_ii, ev_neg_i, ev_int_i, ev_abs_i, ev_len_l, ev_len_t, ev_len_f, ev_idx, mulOk_r, ev_mul_ii, OT.toD, m1]
  · refine ⟨s, hs.1, hs.2, ?_⟩
    rw [ife_f (ρ1 := Rn sc k xs acc (iS j) (r4 a b c d) (iS m) (iS s)) (by simp [D.tyName, ev_isi_t, isTy, fillA, backA, goneA, cm_le_ii, cm_lt_ii, getV, Fn.run, Fn.run0, evSs, evS, evT, evAll, evAny, evO, evE, evOs, evEs, evAs, evB, evAnd, evOr, CH.R.bind, R.ofO, CH.Env.tree, CH.Env.own, CH.Env.ownL, OT.getP, lock, unlock, outs, tru_b, ev_eq_ii, ev_ne_ii, ev_lt_ii, ev_le_ii, ev_gt_ii, ev_ge_ii, ev_add_ii, ev_sub_ii, ev_neg_i, ev_int_i, ev_abs_i, ev_len_l, ev_len_t, ev_len_f, ev_idx, mulOk_r, ev_mul_ii, OT.toD, i2, h])]
    rfl
theorem n_6 (m s : Int) (hs : 0 ≤ s ∧ s < 2) (hl : acc.length < 1000) : evS (P K) [] p11_6 (Rn sc k xs acc (iS j) (r4 a b c d) (iS m) (iS s)) = .ok (.nx, Rn sc k xs (acc ++ [m * (1 - 2 * s)]) (iS j) (r4 a b c d) (iS m) (iS s)) := by
  have e1 := ev_mul_ii 2 s (mulOk_r _ _ (by omega))
  have e2 := ev_mul_ii m (1 - 2 * s) (mulOk_r _ _ (by omega))
  have ap := ap_i acc (m * (1 - 2 * s)) (by omega)
  simp [p11_6, D.tyName, ev_isi_t, isTy, fillA, backA, goneA, cm_le_ii, cm_lt_ii, getV, Fn.run, Fn.run0, evSs, evS, evT, evAll, evAny, evO, evE, evOs, evEs, evAs, evB, evAnd, evOr, CH.R.bind, R.ofO, CH.Env.tree, CH.Env.own, CH.Env.ownL, OT.getP, lock, unlock, outs, tru_b, ev_eq_ii, ev_ne_ii, ev_lt_ii, ev_le_ii, ev_gt_ii, ev_ge_ii, ev_add_ii, ev_sub_ii, ev_neg_i, ev_int_i, ev_abs_i, ev_len_l, ev_len_t, ev_len_f, ev_idx, mulOk_r, ev_mul_ii, OT.toD, e1, e2, ap]
end
theorem n_turn (K : Nat) (sc : D) (k : Int) (xs acc : List Int) (j : Nat) (hj : j < 8) (hw : Within xs msN) (ha : ∀ x ∈ acc, x ≠ 0) (hl : acc.length < 1000) (v w z : Sl) (hw5 : v = .no ∨ ∃ t, v = .ow t) (hw6 : w = .no ∨ ∃ x, w = iS x) (hw7 : z = .no ∨ ∃ x, z = iS x) :
    ∃ y v' w' z', y ≠ 0 ∧ (∃ t, v' = .ow t) ∧ (∃ x, w' = iS x) ∧ (∃ x, z' = iS x) ∧ evSs (P K) [] p11_7 (Rn sc k xs acc (iS (j : Int)) v w z) = .ok (.nx, Rn sc k xs (acc ++ [y]) (iS (j : Int)) v' w' z') := by
  have hlen : xs.length = 33 := hw.1
  have q := cut4 xs hlen j hj
  obtain ⟨m1, m2, m3, m4⟩ := ms_get j hj
  have b1 := hw.2 (1 + 4 * j) (by show _ < 33; omega)
  have b2 := hw.2 (2 + 4 * j) (by show _ < 33; omega)
  have b4 := hw.2 (4 + 4 * j) (by show _ < 33; omega)
  rw [m1] at b1; rw [m2] at b2; rw [m4] at b4
  generalize xs.getD (1 + 4 * j) 0 = a at q b1
  generalize xs.getD (2 + 4 * j) 0 = b at q b2
  generalize xs.getD (3 + 4 * j) 0 = c at q
  generalize xs.getD (4 + 4 * j) 0 = d at q b4
  generalize ((j : Nat) : Int) = J at q
  have sl : slcEv (some (1 + 4 * J)) (some (5 + 4 * J)) (.lst (xs.map iT)) = some (.lst [iT a, iT b, iT c, iT d]) := by
    show ((leaves (xs.map iT)).map fun ds => newL (CH.cutD ds _ _)) = _
    rw [leaves_i]
    simp only [Option.map_some]
    rw [q]; rfl
  have e1 := ev_mul_ii 4 J (mulOk_l _ _ (by omega))
  obtain ⟨i0, i1, i2, i3⟩ := ix4 a b c d
  have g0 : evS (P K) [] p11_0 (Rn sc k xs acc (iS J) v w z) = .ok (.nx, Rn sc k xs acc (iS J) (r4 a b c d) w z) := by
    rcases hw5 with rfl | ⟨t, rfl⟩ <;> simp [p11_0, D.tyName, ev_isi_t, isTy, fillA, backA, goneA, cm_le_ii, cm_lt_ii, getV, Fn.run, Fn.run0, evSs, evS, evT, evAll, evAny, evO, evE, evOs, evEs, evAs, evB, evAnd, evOr, CH.R.bind, R.ofO, CH.Env.tree, CH.Env.own, CH.Env.ownL, OT.getP, lock, unlock, outs, tru_b, ev_eq_ii, ev_ne_ii, ev_lt_ii, ev_le_ii, ev_gt_ii, ev_ge_ii, ev_add_ii, ev_sub_ii, ev_neg_i, ev_int_i, ev_abs_i, ev_len_l, ev_len_t, ev_len_f, ev_idx, mulOk_r, ev_mul_ii, OT.toD, e1, CH.b2, sl]
  have g1 : evS (P K) [] p11_1 (Rn sc k xs acc (iS J) (r4 a b c d) w z) = .ok (.nx, Rn sc k xs acc (iS J) (r4 a b c d) (iS (1 + a)) z) := by
    rcases hw6 with rfl | ⟨x, rfl⟩ <;> simp [p11_1, D.tyName, ev_isi_t, isTy, fillA, backA, goneA, cm_le_ii, cm_lt_ii, getV, Fn.run, Fn.run0, evSs, evS, evT, evAll, evAny, evO, evE, evOs, evEs, evAs, evB, evAnd, evOr, CH.R.bind, R.ofO, CH.Env.tree, CH.Env.own, CH.Env.ownL, OT.getP, lock, unlock, outs, tru_b, ev_eq_ii, ev_ne_ii, ev_lt_ii, ev_le_ii, ev_gt_ii, ev_ge_ii, ev_add_ii, ev_sub_ii, ev_neg_i, ev_int_i, ev_abs_i, ev_len_l, ev_len_t, ev_len_f, ev_idx, mulOk_r, ev_mul_ii, OT.toD, i0]
  obtain ⟨n2, p2, g2⟩ := n_2 K sc k xs acc J a b c d (1 + a) (by omega) b4.1 z
  obtain ⟨n3, p3, g3⟩ := n_3 K sc k xs acc J a b c d n2 p2 ha z
  have g4 : evS (P K) [] p11_4 (Rn sc k xs acc (iS J) (r4 a b c d) (iS n3) z) = .ok (.nx, Rn sc k xs acc (iS J) (r4 a b c d) (iS n3) (iS b)) := by
    rcases hw7 with rfl | ⟨x, rfl⟩ <;> simp [p11_4, D.tyName, ev_isi_t, isTy, fillA, backA, goneA, cm_le_ii, cm_lt_ii, getV, Fn.run, Fn.run0, evSs, evS, evT, evAll, evAny, evO, evE, evOs, evEs, evAs, evB, evAnd, evOr, CH.R.bind, R.ofO, CH.Env.tree, CH.Env.own, CH.Env.ownL, OT.getP, lock, unlock, outs, tru_b, ev_eq_ii, ev_ne_ii, ev_lt_ii, ev_le_ii, ev_gt_ii, ev_ge_ii, ev_add_ii, ev_sub_ii, ev_neg_i, ev_int_i, ev_abs_i, ev_len_l, ev_len_t, ev_len_f, ev_idx, mulOk_r, ev_mul_ii, OT.toD, i1]
  obtain ⟨s, s0, s1, g5⟩ := n_5 K sc k xs acc J a b c d n3 b b2
  have g6 := n_6 K sc k xs acc J a b c d n3 s ⟨s0, s1⟩ hl
  refine ⟨n3 * (1 - 2 * s), r4 a b c d, iS n3, iS s, ?_, ⟨_, rfl⟩, ⟨_, rfl⟩, ⟨_, rfl⟩, ?_⟩
  · have : s = 0 ∨ s = 1 := by omega
    rcases this with rfl | rfl <;> omega
  · unfold p11_7
    rw [ss_next g0, ss_next g1, ss_next g2, ss_next g3, ss_next g4, ss_next g5, ss_end, g6]
def bE : CE := .op (.bin .add) (.cons (.e (.lst (.cons (.c (.int 9)) .nil))) (.cons (.e (.op (.bin .mul) (.cons (.e (.lst (.cons (.c (.int 12)) (.cons (.c (.int 2)) (.cons (.c (.int 12)) (.cons (.c (.int 90)) .nil)))))) (.cons (.e (.c (.int 8))) .nil)))) .nil))
theorem bE_ev (Φ : Phi) (ρ : CH.Env) : evE Φ [] bE ρ = .ok (newL (msN.map .int), ρ) := by kernel_rfl
theorem call3 {Φ : Phi} {pl : List Nat} {f : Nat} {e e' e2 : CH.CE} {ρ ρ1 ρ2 ρ3 : CH.Env} {d d' d2 : D} {u u' u2 t w w' w2 : OT} (he : evE Φ pl e ρ = .ok (u, ρ1)) (hu : u.toD = d) (he' : evE Φ pl e' ρ1 = .ok (u', ρ2)) (hu' : u'.toD = d') (he2 : evE Φ pl e2 ρ2 = .ok (u2, ρ3)) (hu2 : u2.toD = d2) (h : Φ f [.sh d, .sh d', .sh d2] = .ok (t, [w, w', w2])) : evE Φ pl (.call f (.val e (.val e' (.val e2 .nil)))) ρ = .ok (t, ρ3) := by
  rw [evE, evAs, he]
  simp only [CH.R.bind]
  rw [evAs, he']
  simp only [CH.R.bind]
  rw [evAs, he2]
  simp only [CH.R.bind, evAs, hu, hu', hu2, fillA, Option.map, h, goneA, backA]
theorem numbers_run (K : Nat) (ns : List Int) (k : Int) (hs : ns.length ≤ 63) (hk : 0 ≤ k ∧ k < 1000) :
    ∃ m : List Int, m.length ≤ 8 ∧ (∀ x ∈ m, x ≠ 0) ∧ P (K + 2) 11 [.sh (.flst (ns.map .int)), .sh (.int k)] = .ok (.lst (m.map iT), [.sh (.flst (ns.map .int)), .sh (.int k)]) := by
  obtain ⟨xs, hw, hd⟩ := draws_eq K ns msN k hk hs (by decide) (by decide)
  generalize D.flst (ns.map .int) = sc at hd
  rw [step (K + 1) 11 _ f11 t11]
  have g0 : evS (P (K + 1)) [] q11_0 [.ow (.sh sc), .ow (.sh (.int k)), .no, .no, .no, .no, .no, .no] = .ok (.nx, [.ow (.sh sc), .ow (.sh (.int k)), .ow (.lst (xs.map iT)), .no, .no, .no, .no, .no]) := by
    have c := call3 (Φ := P (K + 1)) (pl := []) (f := 6) (e := .v 0) (e' := .v 1) (e2 := bE) (ρ := [.ow (.sh sc), .ow (.sh (.int k)), .no, .no, .no, .no, .no, .no]) (ρ1 := [.ow (.sh sc), .ow (.sh (.int k)), .no, .no, .no, .no, .no, .no]) (ρ2 := [.ow (.sh sc), .ow (.sh (.int k)), .no, .no, .no, .no, .no, .no]) rfl rfl rfl rfl (bE_ev _ _) (show (newL (msN.map .int)).toD = .lst (msN.map .int) by unfold newL OT.toD; rw [toDs_sh]) hd
    show evS (P (K + 1)) [] (.set 2 (.call 6 (.val (.v 0) (.val (.v 1) (.val bE .nil))))) _ = _
    rw [evS, c]
    rfl
  have hx0 := hw.2 0 (by decide)
  have hlen : xs.length = 33 := hw.1
  have i0 : idxEv (.lst (xs.map iT)) 0 = some (.sh (.int (xs.getD 0 0))) := idx_ow xs 0 (by omega)
  have hx : 0 ≤ xs.getD 0 0 ∧ xs.getD 0 0 < 9 := hx0
  generalize xs.getD 0 0 = n at i0 hx
  obtain ⟨ρ', h1, h2⟩ := forL_inv (body := fun ρ => evSs (P (K + 1)) [] p11_7 ρ) (pl := []) (tg := .one 4)
    (I := fun i ρ => ∃ (m : List Int) (u v w z : Sl), ρ = Rn sc k xs m u v w z ∧ (u = .no ∨ ∃ x, u = iS x) ∧ (v = .no ∨ ∃ t, v = .ow t) ∧ (w = .no ∨ ∃ x, w = iS x) ∧ (z = .no ∨ ∃ x, z = iS x) ∧ m.length = i ∧ ∀ x ∈ m, x ≠ 0)
    ((List.range n.toNat).map fun i => .int (i : Nat)) (Rn sc k xs [] .no .no .no .no) ⟨[], .no, .no, .no, .no, rfl, .inl rfl, .inl rfl, .inl rfl, .inl rfl, rfl, fun x h => absurd h (by simp)⟩
    (fun i d ρ e hI => by
      obtain ⟨m, u, v, w, z, rfl, hu, hv, hw6, hz, hl, hm⟩ := hI
      obtain ⟨i', e1, rfl⟩ := by rw [List.getElem?_map] at e; exact Option.map_eq_some_iff.mp e
      obtain ⟨hi, e1⟩ := List.getElem?_eq_some_iff.mp e1
      rw [List.getElem_range] at e1
      subst e1
      rw [List.length_range] at hi
      have s1 : setTg [] (.one 4) (.int (i : Nat)) (Rn sc k xs m u v w z) = some (Rn sc k xs m (iS (i : Nat)) v w z) := by
        rcases hu with rfl | ⟨x, rfl⟩ <;> rfl
      obtain ⟨y, v', w', z', y0, q1, q2, q3, t⟩ := n_turn (K + 1) sc k xs m i (by omega) hw hm (by omega) v w z hv hw6 hz
      exact ⟨_, _, s1, t, m ++ [y], _, _, _, _, rfl, .inr ⟨_, rfl⟩, .inr q1, .inr q2, .inr q3, by simp [hl], fun x hx => by
        rcases List.mem_append.mp hx with hx | hx
        · exact hm x hx
        · have : x = y := by simpa using hx
          subst this; exact y0⟩)
  obtain ⟨m, u, v, w, z, rfl, _, _, _, _, hl, hm⟩ := h2
  rw [List.length_map, List.length_range] at hl
  refine ⟨m, by omega, hm, run_rt (ρ := [.ow (.sh sc), .ow (.sh (.int k)), .ow (.lst (xs.map iT)), .no, u, v, w, z]) rfl ?_ rfl⟩
  show evSs (P (K + 1)) [] b11 [.ow (.sh sc), .ow (.sh (.int k)), .no, .no, .no, .no, .no, .no] = _
  unfold b11
  rw [ss_next g0, ss_next (s := q11_1) (ρ1 := Rn sc k xs [] .no .no .no .no) (by simp [q11_1, D.tyName, ev_isi_t, isTy, fillA, backA, goneA, cm_le_ii, cm_lt_ii, getV, Fn.run, Fn.run0, evSs, evS, evT, evAll, evAny, evO, evE, evOs, evEs, evAs, evB, evAnd, evOr, CH.R.bind, R.ofO, CH.Env.tree, CH.Env.own, CH.Env.ownL, OT.getP, lock, unlock, outs, tru_b, ev_eq_ii, ev_ne_ii, ev_lt_ii, ev_le_ii, ev_gt_ii, ev_ge_ii, ev_add_ii, ev_sub_ii, ev_neg_i, ev_int_i, ev_abs_i, ev_len_l, ev_len_t, ev_len_f, ev_idx, mulOk_r, ev_mul_ii, OT.toD])]
  have hI : evI (P (K + 1)) [] (.rng1 (.op .idx (.cons (.bor 2 []) (.cons (.e (.c (.int 0))) .nil)))) (Rn sc k xs [] .no .no .no .no) = .ok ((List.range n.toNat).map fun i => .int (i : Nat), Rn sc k xs [] .no .no .no .no) :=
    range1_val (Φ := P (K + 1)) (pl := []) (j := n) (ρ2 := Rn sc k xs [] .no .no .no .no) (by simp [D.tyName, ev_isi_t, isTy, fillA, backA, goneA, cm_le_ii, cm_lt_ii, getV, Fn.run, Fn.run0, evSs, evS, evT, evAll, evAny, evO, evE, evOs, evEs, evAs, evB, evAnd, evOr, CH.R.bind, R.ofO, CH.Env.tree, CH.Env.own, CH.Env.ownL, OT.getP, lock, unlock, outs, tru_b, ev_eq_ii, ev_ne_ii, ev_lt_ii, ev_le_ii, ev_gt_ii, ev_ge_ii, ev_add_ii, ev_sub_ii, ev_neg_i, ev_int_i, ev_abs_i, ev_len_l, ev_len_t, ev_len_f, ev_idx, mulOk_r, ev_mul_ii, OT.toD, i0]) (by omega)
  rw [ss_next (s := q11_2) (ρ1 := Rn sc k xs m u v w z) (by unfold q11_2; rw [evS, hI]; simp only [CH.R.bind, backI]; rw [h1]), ss_end]
  simp [q11_3, D.tyName, ev_isi_t, isTy, fillA, backA, goneA, cm_le_ii, cm_lt_ii, getV, Fn.run, Fn.run0, evSs, evS, evT, evAll, evAny, evO, evE, evOs, evEs, evAs, evB, evAnd, evOr, CH.R.bind, R.ofO, CH.Env.tree, CH.Env.own, CH.Env.ownL, OT.getP, lock, unlock, outs, tru_b, ev_eq_ii, ev_ne_ii, ev_lt_ii, ev_le_ii, ev_gt_ii, ev_ge_ii, ev_add_ii, ev_sub_ii, ev_neg_i, ev_int_i, ev_abs_i, ev_len_l, ev_len_t, ev_len_f, ev_idx, mulOk_r, ev_mul_ii, OT.toD]
end K02
end
section
namespace K02
open PySem L2 Evl PyProof.Rows CH
theorem addT (a b : List D) (h : a.length + b.length ≤ 1000) : Op.ev (.bin .add) [.sh (.tup a), .sh (.tup b)] = some (.sh (.tup (a ++ b))) := by
  show guard_ (decide (a.length + b.length ≤ big)) _ = _
  rw [decide_eq_true (by simp only [big]; omega)]; rfl
theorem cut_mem {ds : List D} {lo hi : Option Int} {d : D} (h : d ∈ CH.cutD ds lo hi) : d ∈ ds := List.mem_of_mem_drop (List.mem_of_mem_take h)
theorem cut_len (ds : List D) (lo hi : Option Int) : (CH.cutD ds lo hi).length ≤ ds.length := by
  unfold CH.cutD
  rw [List.length_take, List.length_drop]
  omega
theorem slcT (ds : List D) (lo hi : Option Int) : slcEv lo hi (.sh (.tup ds)) = some (.sh (.tup (CH.cutD ds lo hi))) := rfl
theorem three {xs : List Int} {a b c : Int} (h : Within xs [a, b, c]) : ∃ x y z, xs = [x, y, z] ∧ (0 ≤ x ∧ x < a) ∧ (0 ≤ y ∧ y < b) ∧ 0 ≤ z ∧ z < c := by
  obtain ⟨h1, h2⟩ := h
  match xs, h1 with
  | [x, y, z], _ =>
    have p0 := h2 0 (by simp)
    have p1 := h2 1 (by simp)
    have p2 := h2 2 (by simp)
    simp at p0 p1 p2
    exact ⟨x, y, z, rfl, p0, p1, p2⟩
theorem ix3 (a b c : Int) : idxEv (.lst [iT a, iT b, iT c]) 0 = some (.sh (.int a)) ∧ idxEv (.lst [iT a, iT b, iT c]) 1 = some (.sh (.int b)) ∧ idxEv (.lst [iT a, iT b, iT c]) 2 = some (.sh (.int c)) := ⟨idx_ow [a, b, c] 0 (by simp), idx_ow [a, b, c] 1 (by simp), idx_ow [a, b, c] 2 (by simp)⟩
/-- a short row of plain data -/
def Sm (N : Nat) (ds : List D) : Prop := ds.length ≤ N ∧ ∀ d ∈ ds, Pl d
theorem Sm.cut {N : Nat} {ds : List D} (h : Sm N ds) (lo hi : Option Int) : Sm N (CH.cutD ds lo hi) := ⟨Nat.le_trans (cut_len ds lo hi) h.1, fun d hd => h.2 d (cut_mem hd)⟩
theorem Sm.app {N M : Nat} {a b : List D} (h : Sm N a) (g : Sm M b) : Sm (N + M) (a ++ b) := ⟨by rw [List.length_append]; have := h.1; have := g.1; omega, fun d hd => (List.mem_append.mp hd).elim (h.2 d) (g.2 d)⟩
theorem Sm.one {d : D} (h : Pl d) : Sm 1 [d] := ⟨by simp, fun e he => by
  have : e = d := by simpa using he
  subst this; exact h⟩
theorem Sm.pl {N : Nat} {ds : List D} (h : Sm N ds) (hN : N < 1000) : Pl (.tup ds) := .tup (by have := h.1; omega) h.2
theorem Sm.ints {r : List Int} (h : r.length ≤ 10) : Sm 10 (r.map .int) := ⟨by rw [List.length_map]; exact h, fun d hd => by obtain ⟨n, _, rfl⟩ := List.mem_map.mp hd; exact .int n⟩
abbrev Rx (sc : D) (k : Int) (Q : List D) (n x y z : Int) (u v : Sl) : CH.Env := [.ow (.sh sc), .ow (.sh (.int k)), .ow (.sh (.tup Q)), .ow (.sh (.int n)), .ow (.lst [iT x, iT y, iT z]), u, v]
section
variable (K : Nat) (sc : D) (k n x y z A : Int) (Q : List D)
theorem ch_2 (hx : 0 ≤ x ∧ x < 6) (hR : Sm 10 Q) (v : Sl) : ∃ w, Pl w ∧ evS (P K) [] q10_2 (Rx sc k Q n x y z (iS A) v) = .ok (.rt (.sh w), Rx sc k Q n x y z (iS A) v) := by
  obtain ⟨i0, i1, i2⟩ := ix3 x y z
  have s1 : ∃ e, Pl e ∧ idxEv (.lst [.sh (.int 0), .sh (.int (n + 1 + z)), .sh (.int (-n - 1 - z)), .sh (.bl true), .sh .non, .sh (.str "1")]) x = some (.sh e) := by
    have : x = 0 ∨ x = 1 ∨ x = 2 ∨ x = 3 ∨ x = 4 ∨ x = 5 := by omega
    rcases this with rfl | rfl | rfl | rfl | rfl | rfl
    · exact ⟨_, .int _, rfl⟩
    · exact ⟨_, .int _, rfl⟩
    · exact ⟨_, .int _, rfl⟩
    · exact ⟨_, .bl _, rfl⟩
    · exact ⟨_, .non, rfl⟩
    · exact ⟨_, .str (by decide +kernel), rfl⟩
  obtain ⟨e, he, ie⟩ := s1
  have a0 := hR.cut none (some A)
  have a1 := hR.cut (some A) none
  have p1 := a0.app (Sm.one he)
  have p2 := p1.app a1
  have ad1 := addT _ [e] (show (CH.cutD Q none (some A)).length + [e].length ≤ 1000 by have := a0.1; simp; omega)
  have ad2 := addT (CH.cutD Q none (some A) ++ [e]) (CH.cutD Q (some A) none) (by have := p1.1; have := a1.1; omega)
  refine ⟨_, p2.pl (by decide), ?_⟩
  unfold q10_2
  have h6 : x < 6 := hx.2
  rw [ife_t (ρ1 := Rx sc k Q n x y z (iS A) v) (by simp [D.tyName, ev_isi_t, isTy, fillA, backA, goneA, cm_le_ii, cm_lt_ii, getV, Fn.run, Fn.run0, evSs, evS, evT, evAll, evAny, evO, evE, evOs, evEs, evAs, evB, evAnd, evOr, CH.R.bind, R.ofO, CH.Env.tree, CH.Env.own, CH.Env.ownL, OT.getP, lock, unlock, outs, tru_b, ev_eq_ii, ev_ne_ii, ev_lt_ii, ev_le_ii, ev_gt_ii, ev_ge_ii, ev_add_ii, ev_sub_ii, ev_neg_i, ev_int_i, ev_abs_i, ev_len_l, ev_len_t, ev_len_f, ev_idx, mulOk_r, ev_mul_ii, OT.toD, i0, h6]), ss_end]
  simp [D.tyName, ev_isi_t, isTy, fillA, backA, goneA, cm_le_ii, cm_lt_ii, getV, Fn.run, Fn.run0, evSs, evS, evT, evAll, evAny, evO, evE, evOs, evEs, evAs, evB, evAnd, evOr, CH.R.bind, R.ofO, CH.Env.tree, CH.Env.own, CH.Env.ownL, OT.getP, lock, unlock, outs, tru_b, ev_eq_ii, ev_ne_ii, ev_lt_ii, ev_le_ii, ev_gt_ii, ev_ge_ii, ev_add_ii, ev_sub_ii, ev_neg_i, ev_int_i, ev_abs_i, ev_len_l, ev_len_t, ev_len_f, ev_idx, mulOk_r, ev_mul_ii, OT.toD, CH.b2, slcT, i0, i2, ie, ad1, ad2, big, toDs]
theorem ch_2f (hx : ¬ x < 6) (u v : Sl) : evS (P K) [] q10_2 (Rx sc k Q n x y z u v) = .ok (.nx, Rx sc k Q n x y z u v) := by
  obtain ⟨i0, i1, i2⟩ := ix3 x y z
  unfold q10_2
  rw [ife_f (ρ1 := Rx sc k Q n x y z u v) (by simp [D.tyName, ev_isi_t, isTy, fillA, backA, goneA, cm_le_ii, cm_lt_ii, getV, Fn.run, Fn.run0, evSs, evS, evT, evAll, evAny, evO, evE, evOs, evEs, evAs, evB, evAnd, evOr, CH.R.bind, R.ofO, CH.Env.tree, CH.Env.own, CH.Env.ownL, OT.getP, lock, unlock, outs, tru_b, ev_eq_ii, ev_ne_ii, ev_lt_ii, ev_le_ii, ev_gt_ii, ev_ge_ii, ev_add_ii, ev_sub_ii, ev_neg_i, ev_int_i, ev_abs_i, ev_len_l, ev_len_t, ev_len_f, ev_idx, mulOk_r, ev_mul_ii, OT.toD, i0, hx])]
  rfl
end
end K02
end
section
namespace K02
open PySem L2 Evl PyProof.Rows CH
section
variable (K : Nat) (sc : D) (k n x y z A L : Int) (Q : List D)
theorem ch_3 (hx : 6 ≤ x ∧ x < 10) (hQ : Sm 10 Q) (hL : (Q.length : Int) = L) (h0 : 0 < L) (e : Int) (ie : idxEv (.sh (.tup Q)) (y % L) = some (.sh (.int e))) : ∃ w ρ', Pl w ∧ evS (P K) [] q10_3 (Rx sc k Q n x y z (iS A) .no) = .ok (.rt (.sh w), ρ') ∧ outs [] ρ' 0 [OT.sh sc, .sh (.int k), .sh (.tup Q), .sh (.int n)] = some [.sh sc, .sh (.int k), .sh (.tup Q), .sh (.int n)] := by
  obtain ⟨i0, i1, i2⟩ := ix3 x y z
  have ln : Op.ev (.bi .len) [.sh (.tup Q)] = some (.sh (.int L)) := by show some (OT.sh (D.int (Q.length : Nat))) = _; rw [hL]
  have m1 := ev_mod_ii y L h0
  have s1 : ∃ e', Pl e' ∧ idxEv (.lst [.sh (.int e), .sh (.int (-e)), .sh (.tup [.int e]), .sh (.int (e + 1))]) (x - 6) = some (.sh e') := by
    have : x = 6 ∨ x = 7 ∨ x = 8 ∨ x = 9 := by omega
    rcases this with rfl | rfl | rfl | rfl
    · exact ⟨_, .int _, rfl⟩
    · exact ⟨_, .int _, rfl⟩
    · exact ⟨_, .tup (by simp) (fun d hd => by
        have : d = .int e := by simpa using hd
        subst this; exact .int e), rfl⟩
    · exact ⟨_, .int _, rfl⟩
  obtain ⟨e', he', ix⟩ := s1
  have h10 := hx.2
  generalize hB : y % L = B at ie m1
  have a0 := hQ.cut none (some (B + 1))
  have a1 := hQ.cut (some (B + 1)) none
  have p1 := a0.app (Sm.one he')
  have p2 := p1.app a1
  have ad1 := addT _ [e'] (show (CH.cutD Q none (some (B + 1))).length + [e'].length ≤ 1000 by have := a0.1; simp; omega)
  have ad2 := addT (CH.cutD Q none (some (B + 1)) ++ [e']) (CH.cutD Q (some (B + 1)) none) (by have := p1.1; have := a1.1; omega)
  refine ⟨_, Rx sc k Q n x y z (iS B) (.ow (.sh e')), p2.pl (by decide), ?_, rfl⟩
  unfold q10_3
  rw [ife_t (ρ1 := Rx sc k Q n x y z (iS A) .no) (by simp [D.tyName, ev_isi_t, isTy, fillA, backA, goneA, cm_le_ii, cm_lt_ii, getV, Fn.run, Fn.run0, evSs, evS, evT, evAll, evAny, evO, evE, evOs, evEs, evAs, evB, evAnd, evOr, CH.R.bind, R.ofO, CH.Env.tree, CH.Env.own, CH.Env.ownL, OT.getP, lock, unlock, outs, tru_b, ev_eq_ii, ev_ne_ii, ev_lt_ii, ev_le_ii, ev_gt_ii, ev_ge_ii, ev_add_ii, ev_sub_ii, ev_neg_i, ev_int_i, ev_abs_i, ev_len_l, ev_len_t, ev_len_f, ev_idx, mulOk_r, ev_mul_ii, OT.toD, i0, h10, ln, h0])]
  rw [ss_next (ρ1 := Rx sc k Q n x y z (iS B) .no) (by simp [p10_0, D.tyName, ev_isi_t, isTy, fillA, backA, goneA, cm_le_ii, cm_lt_ii, getV, Fn.run, Fn.run0, evSs, evS, evT, evAll, evAny, evO, evE, evOs, evEs, evAs, evB, evAnd, evOr, CH.R.bind, R.ofO, CH.Env.tree, CH.Env.own, CH.Env.ownL, OT.getP, lock, unlock, outs, tru_b, ev_eq_ii, ev_ne_ii, ev_lt_ii, ev_le_ii, ev_gt_ii, ev_ge_ii, ev_add_ii, ev_sub_ii, ev_neg_i, ev_int_i, ev_abs_i, ev_len_l, ev_len_t, ev_len_f, ev_idx, mulOk_r, ev_mul_ii, OT.toD, i1, ln, m1])]
  rw [ss_next (ρ1 := Rx sc k Q n x y z (iS B) (.ow (.sh e'))) (by simp [p10_1, D.tyName, ev_isi_t, isTy, fillA, backA, goneA, cm_le_ii, cm_lt_ii, getV, Fn.run, Fn.run0, evSs, evS, evT, evAll, evAny, evO, evE, evOs, evEs, evAs, evB, evAnd, evOr, CH.R.bind, R.ofO, CH.Env.tree, CH.Env.own, CH.Env.ownL, OT.getP, lock, unlock, outs, tru_b, ev_eq_ii, ev_ne_ii, ev_lt_ii, ev_le_ii, ev_gt_ii, ev_ge_ii, ev_add_ii, ev_sub_ii, ev_neg_i, ev_int_i, ev_abs_i, ev_len_l, ev_len_t, ev_len_f, ev_idx, mulOk_r, ev_mul_ii, OT.toD, i0, ie, ix, big, toDs])]
  rw [ss_end]
  simp [p10_2, D.tyName, ev_isi_t, isTy, fillA, backA, goneA, cm_le_ii, cm_lt_ii, getV, Fn.run, Fn.run0, evSs, evS, evT, evAll, evAny, evO, evE, evOs, evEs, evAs, evB, evAnd, evOr, CH.R.bind, R.ofO, CH.Env.tree, CH.Env.own, CH.Env.ownL, OT.getP, lock, unlock, outs, tru_b, ev_eq_ii, ev_ne_ii, ev_lt_ii, ev_le_ii, ev_gt_ii, ev_ge_ii, ev_add_ii, ev_sub_ii, ev_neg_i, ev_int_i, ev_abs_i, ev_len_l, ev_len_t, ev_len_f, ev_idx, mulOk_r, ev_mul_ii, OT.toD, CH.b2, slcT, ad1, ad2, big, toDs]
theorem ch_3f (h : ¬ x < 10 ∨ (Q.length : Int) = 0) (u : Sl) : evS (P K) [] q10_3 (Rx sc k Q n x y z u .no) = .ok (.nx, Rx sc k Q n x y z u .no) := by
  obtain ⟨i0, i1, i2⟩ := ix3 x y z
  unfold q10_3
  by_cases hx : x < 10
  · have h := h.resolve_left (fun q => q hx)
    have ln : Op.ev (.bi .len) [.sh (.tup Q)] = some (.sh (.int 0)) := by show some (OT.sh (D.int (Q.length : Nat))) = _; rw [h]
    rw [ife_f (ρ1 := Rx sc k Q n x y z u .no) (by simp [D.tyName, ev_isi_t, isTy, fillA, backA, goneA, cm_le_ii, cm_lt_ii, getV, Fn.run, Fn.run0, evSs, evS, evT, evAll, evAny, evO, evE, evOs, evEs, evAs, evB, evAnd, evOr, CH.R.bind, R.ofO, CH.Env.tree, CH.Env.own, CH.Env.ownL, OT.getP, lock, unlock, outs, tru_b, ev_eq_ii, ev_ne_ii, ev_lt_ii, ev_le_ii, ev_gt_ii, ev_ge_ii, ev_add_ii, ev_sub_ii, ev_neg_i, ev_int_i, ev_abs_i, ev_len_l, ev_len_t, ev_len_f, ev_idx, mulOk_r, ev_mul_ii, OT.toD, i0, hx, ln, -ev_len_t])]
    rfl
  · rw [ife_f (ρ1 := Rx sc k Q n x y z u .no) (by simp [D.tyName, ev_isi_t, isTy, fillA, backA, goneA, cm_le_ii, cm_lt_ii, getV, Fn.run, Fn.run0, evSs, evS, evT, evAll, evAny, evO, evE, evOs, evEs, evAs, evB, evAnd, evOr, CH.R.bind, R.ofO, CH.Env.tree, CH.Env.own, CH.Env.ownL, OT.getP, lock, unlock, outs, tru_b, ev_eq_ii, ev_ne_ii, ev_lt_ii, ev_le_ii, ev_gt_ii, ev_ge_ii, ev_add_ii, ev_sub_ii, ev_neg_i, ev_int_i, ev_abs_i, ev_len_l, ev_len_t, ev_len_f, ev_idx, mulOk_r, ev_mul_ii, OT.toD, i0, hx])]
    rfl
theorem ch_4 (hQ : Sm 10 Q) (u v : Sl) : ∃ w, Pl w ∧ evS (P K) [] q10_4 (Rx sc k Q n 10 y z u v) = .ok (.rt (.sh w), Rx sc k Q n 10 y z u v) := by
  obtain ⟨i0, i1, i2⟩ := ix3 10 y z
  refine ⟨.tup Q.reverse, .tup (by rw [List.length_reverse]; have := hQ.1; omega) (fun d hd => hQ.2 d (List.mem_reverse.mp hd)), ?_⟩
  have rv : Op.ev .revT [.sh (.tup Q)] = some (.sh (.tup Q.reverse)) := rfl
  unfold q10_4
  rw [ife_t (ρ1 := Rx sc k Q n 10 y z u v) (by simp [D.tyName, ev_isi_t, isTy, fillA, backA, goneA, cm_le_ii, cm_lt_ii, getV, Fn.run, Fn.run0, evSs, evS, evT, evAll, evAny, evO, evE, evOs, evEs, evAs, evB, evAnd, evOr, CH.R.bind, R.ofO, CH.Env.tree, CH.Env.own, CH.Env.ownL, OT.getP, lock, unlock, outs, tru_b, ev_eq_ii, ev_ne_ii, ev_lt_ii, ev_le_ii, ev_gt_ii, ev_ge_ii, ev_add_ii, ev_sub_ii, ev_neg_i, ev_int_i, ev_abs_i, ev_len_l, ev_len_t, ev_len_f, ev_idx, mulOk_r, ev_mul_ii, OT.toD, i0]), ss_end]
  simp [D.tyName, ev_isi_t, isTy, fillA, backA, goneA, cm_le_ii, cm_lt_ii, getV, Fn.run, Fn.run0, evSs, evS, evT, evAll, evAny, evO, evE, evOs, evEs, evAs, evB, evAnd, evOr, CH.R.bind, R.ofO, CH.Env.tree, CH.Env.own, CH.Env.ownL, OT.getP, lock, unlock, outs, tru_b, ev_eq_ii, ev_ne_ii, ev_lt_ii, ev_le_ii, ev_gt_ii, ev_ge_ii, ev_add_ii, ev_sub_ii, ev_neg_i, ev_int_i, ev_abs_i, ev_len_l, ev_len_t, ev_len_f, ev_idx, mulOk_r, ev_mul_ii, OT.toD, rv]
theorem ch_4f (h : ¬ x = 10) (u v : Sl) : evS (P K) [] q10_4 (Rx sc k Q n x y z u v) = .ok (.nx, Rx sc k Q n x y z u v) := by
  obtain ⟨i0, i1, i2⟩ := ix3 x y z
  unfold q10_4
  rw [ife_f (ρ1 := Rx sc k Q n x y z u v) (by simp [D.tyName, ev_isi_t, isTy, fillA, backA, goneA, cm_le_ii, cm_lt_ii, getV, Fn.run, Fn.run0, evSs, evS, evT, evAll, evAny, evO, evE, evOs, evEs, evAs, evB, evAnd, evOr, CH.R.bind, R.ofO, CH.Env.tree, CH.Env.own, CH.Env.ownL, OT.getP, lock, unlock, outs, tru_b, ev_eq_ii, ev_ne_ii, ev_lt_ii, ev_le_ii, ev_gt_ii, ev_ge_ii, ev_add_ii, ev_sub_ii, ev_neg_i, ev_int_i, ev_abs_i, ev_len_l, ev_len_t, ev_len_f, ev_idx, mulOk_r, ev_mul_ii, OT.toD, i0, h])]
  rfl
theorem ch_5 (hQ : Sm 10 Q) (v : Sl) : ∃ w, Pl w ∧ evS (P K) [] q10_5 (Rx sc k Q n 11 y z (iS A) v) = .ok (.rt (.sh w), Rx sc k Q n 11 y z (iS A) v) := by
  obtain ⟨i0, i1, i2⟩ := ix3 11 y z
  have a0 := hQ.cut none (some A)
  have a1 := hQ.cut (some (A + 1)) (some (A + 2))
  have a2 := hQ.cut (some A) (some (A + 1))
  have a3 := hQ.cut (some (A + 2)) none
  have p1 := a0.app a1
  have p2 := p1.app a2
  have p3 := p2.app a3
  have ad1 := addT (CH.cutD Q none (some A)) (CH.cutD Q (some (A + 1)) (some (A + 2))) (by have := a0.1; have := a1.1; omega)
  have ad2 := addT _ (CH.cutD Q (some A) (some (A + 1))) (show (CH.cutD Q none (some A) ++ CH.cutD Q (some (A + 1)) (some (A + 2))).length + _ ≤ 1000 by have := p1.1; have := a2.1; omega)
  have ad3 := addT _ (CH.cutD Q (some (A + 2)) none) (show (CH.cutD Q none (some A) ++ CH.cutD Q (some (A + 1)) (some (A + 2)) ++ CH.cutD Q (some A) (some (A + 1))).length + _ ≤ 1000 by have := p2.1; have := a3.1; omega)
  refine ⟨_, p3.pl (by decide), ?_⟩
  unfold q10_5
  rw [ife_t (ρ1 := Rx sc k Q n 11 y z (iS A) v) (by simp [D.tyName, ev_isi_t, isTy, fillA, backA, goneA, cm_le_ii, cm_lt_ii, getV, Fn.run, Fn.run0, evSs, evS, evT, evAll, evAny, evO, evE, evOs, evEs, evAs, evB, evAnd, evOr, CH.R.bind, R.ofO, CH.Env.tree, CH.Env.own, CH.Env.ownL, OT.getP, lock, unlock, outs, tru_b, ev_eq_ii, ev_ne_ii, ev_lt_ii, ev_le_ii, ev_gt_ii, ev_ge_ii, ev_add_ii, ev_sub_ii, ev_neg_i, ev_int_i, ev_abs_i, ev_len_l, ev_len_t, ev_len_f, ev_idx, mulOk_r, ev_mul_ii, OT.toD, i0]), ss_end]
  simp only [List.append_assoc] at ad1 ad2 ad3
  simp [D.tyName, ev_isi_t, isTy, fillA, backA, goneA, cm_le_ii, cm_lt_ii, getV, Fn.run, Fn.run0, evSs, evS, evT, evAll, evAny, evO, evE, evOs, evEs, evAs, evB, evAnd, evOr, CH.R.bind, R.ofO, CH.Env.tree, CH.Env.own, CH.Env.ownL, OT.getP, lock, unlock, outs, tru_b, ev_eq_ii, ev_ne_ii, ev_lt_ii, ev_le_ii, ev_gt_ii, ev_ge_ii, ev_add_ii, ev_sub_ii, ev_neg_i, ev_int_i, ev_abs_i, ev_len_l, ev_len_t, ev_len_f, ev_idx, mulOk_r, ev_mul_ii, OT.toD, CH.b2, slcT, ad1, ad2, ad3]
theorem ch_5f (h : ¬ x = 11) (u v : Sl) : evS (P K) [] q10_5 (Rx sc k Q n x y z u v) = .ok (.nx, Rx sc k Q n x y z u v) := by
  obtain ⟨i0, i1, i2⟩ := ix3 x y z
  unfold q10_5
  rw [ife_f (ρ1 := Rx sc k Q n x y z u v) (by simp [D.tyName, ev_isi_t, isTy, fillA, backA, goneA, cm_le_ii, cm_lt_ii, getV, Fn.run, Fn.run0, evSs, evS, evT, evAll, evAny, evO, evE, evOs, evEs, evAs, evB, evAnd, evOr, CH.R.bind, R.ofO, CH.Env.tree, CH.Env.own, CH.Env.ownL, OT.getP, lock, unlock, outs, tru_b, ev_eq_ii, ev_ne_ii, ev_lt_ii, ev_le_ii, ev_gt_ii, ev_ge_ii, ev_add_ii, ev_sub_ii, ev_neg_i, ev_int_i, ev_abs_i, ev_len_l, ev_len_t, ev_len_f, ev_idx, mulOk_r, ev_mul_ii, OT.toD, i0, h])]
  rfl
theorem ch_6 (hQ : Sm 10 Q) (u v : Sl) : ∃ w, Pl w ∧ evS (P K) [] q10_6 (Rx sc k Q n x y z u v) = .ok (.rt (.sh w), Rx sc k Q n x y z u v) := by
  obtain ⟨i0, i1, i2⟩ := ix3 x y z
  have m1 := ev_mod_ii x 4 (by omega)
  have ls : Op.ev (.bi .list) [.sh (.tup Q)] = some (newL Q) := rfl
  have td : (newL Q).toD = .lst Q := by unfold newL OT.toD; rw [toDs_sh]
  have s1 : ∃ e, Pl e ∧ idxEv (.sh (.lst [.lst Q, .non, .int 1, .str "12"])) (x % 4) = some (.sh e) := by
    have : x % 4 = 0 ∨ x % 4 = 1 ∨ x % 4 = 2 ∨ x % 4 = 3 := by omega
    rcases this with h | h | h | h <;> rw [h]
    · exact ⟨_, .lst (by have := hQ.1; omega) hQ.2, rfl⟩
    · exact ⟨_, .non, rfl⟩
    · exact ⟨_, .int _, rfl⟩
    · exact ⟨_, .str (by decide +kernel), rfl⟩
  obtain ⟨e, he, ie⟩ := s1
  refine ⟨e, he, ?_⟩
  have tl : OT.toD (.lst [newL Q, .sh .non, .sh (.int 1), .sh (.str "12")]) = .lst [.lst Q, .non, .int 1, .str "12"] := by
    show D.lst [(newL Q).toD, .non, .int 1, .str "12"] = _
    rw [td]
  generalize newL Q = N at ls tl
  simp [q10_6, evS, evE, evOs, evEs, CH.R.bind, CH.Env.tree, OT.getP, lock, unlock, ls, big, tl, ev_idx, i0, ev_int_i, m1, ie]
end
end K02
end
section
namespace K02
open PySem L2 Evl PyProof.Rows CH
theorem changed_run (K : Nat) (ns r : List Int) (k n : Int) (hs : ns.length ≤ 63) (hk : 0 ≤ k ∧ k < 1000) (hr : r.length ≤ 10) :
    ∃ v, Pl v ∧ P (K + 2) 10 [.sh (.flst (ns.map .int)), .sh (.int k), .sh (.tup (r.map .int)), .sh (.int n)] = .ok (.sh v, [.sh (.flst (ns.map .int)), .sh (.int k), .sh (.tup (r.map .int)), .sh (.int n)]) := by
  obtain ⟨xs, hw, hd⟩ := draws_eq K ns [16, 11, 90] k hk hs (by decide) (by decide)
  obtain ⟨x, y, z, rfl, hx, hy, hz⟩ := three hw
  generalize D.flst (ns.map .int) = sc at hd
  have hQ := Sm.ints hr
  have ixr : ∀ j : Int, 0 ≤ j → j < r.length → ∃ e, idxEv (.sh (.tup (r.map .int))) j = some (.sh (.int e)) := fun j h0 h1 => by
    have := idx_st r j.toNat (by omega)
    rw [Int.toNat_of_nonneg h0] at this
    exact ⟨_, this⟩
  have hL : ((r.map D.int).length : Int) = (r.length : Int) := by rw [List.length_map]
  generalize (r.length : Int) = L at ixr hL
  generalize r.map D.int = Q at hQ ixr hL
  have hL0 : 0 ≤ L := by omega
  rw [step (K + 1) 10 _ f10 t10]
  have ln : Op.ev (.bi .len) [.sh (.tup Q)] = some (.sh (.int L)) := by show some (OT.sh (D.int (Q.length : Nat))) = _; rw [hL]
  have g0 : evS (P (K + 1)) [] q10_0 [.ow (.sh sc), .ow (.sh (.int k)), .ow (.sh (.tup Q)), .ow (.sh (.int n)), .no, .no, .no] = .ok (.nx, Rx sc k Q n x y z .no .no) := by
    have hd' : P (K + 1) 6 [.sh sc, .sh (.int k), .sh (.lst [.int 16, .int 11, .int 90])] = .ok (.lst [iT x, iT y, iT z], [.sh sc, .sh (.int k), .sh (.lst [.int 16, .int 11, .int 90])]) := hd
    simp [q10_0, D.tyName, ev_isi_t, isTy, fillA, backA, goneA, cm_le_ii, cm_lt_ii, getV, Fn.run, Fn.run0, evSs, evS, evT, evAll, evAny, evO, evE, evOs, evEs, evAs, evB, evAnd, evOr, CH.R.bind, R.ofO, CH.Env.tree, CH.Env.own, CH.Env.ownL, OT.getP, lock, unlock, outs, tru_b, ev_eq_ii, ev_ne_ii, ev_lt_ii, ev_le_ii, ev_gt_ii, ev_ge_ii, ev_add_ii, ev_sub_ii, ev_neg_i, ev_int_i, ev_abs_i, ev_len_l, ev_len_t, ev_len_f, ev_idx, mulOk_r, ev_mul_ii, OT.toD, hd', toDs, big]
  obtain ⟨i0, i1, i2⟩ := ix3 x y z
  have m1 := ev_mod_ii y (1 + L) (by omega)
  have g1 : evS (P (K + 1)) [] q10_1 (Rx sc k Q n x y z .no .no) = .ok (.nx, Rx sc k Q n x y z (iS (y % (1 + L))) .no) := by
    simp [q10_1, evS, evE, evOs, CH.R.bind, CH.Env.tree, OT.getP, lock, unlock, ln, ev_idx, i1, ev_int_i, ev_add_ii, m1]
  generalize y % (1 + L) = A at g1
  have fin : ∃ w ρ', Pl w ∧ evSs (P (K + 1)) [] b10 [.ow (.sh sc), .ow (.sh (.int k)), .ow (.sh (.tup Q)), .ow (.sh (.int n)), .no, .no, .no] = .ok (.rt (.sh w), ρ') ∧ outs [] ρ' 0 [OT.sh sc, .sh (.int k), .sh (.tup Q), .sh (.int n)] = some [.sh sc, .sh (.int k), .sh (.tup Q), .sh (.int n)] := by
    unfold b10
    rw [ss_next g0, ss_next g1]
    by_cases h1 : x < 6
    · obtain ⟨w, hw, e⟩ := ch_2 (K + 1) sc k n x y z A Q ⟨hx.1, h1⟩ hQ .no
      exact ⟨w, _, hw, ss_stop e, rfl⟩
    · rw [ss_next (ch_2f (K + 1) sc k n x y z Q h1 _ _)]
      by_cases h2 : x < 10 ∧ 0 < L
      · obtain ⟨e, ie⟩ := ixr (y % L) (Int.emod_nonneg _ (by omega)) (Int.emod_lt_of_pos _ h2.2)
        obtain ⟨w, ρ', hw, e1, e2⟩ := ch_3 (K + 1) sc k n x y z A L Q ⟨by omega, h2.1⟩ hQ hL h2.2 e ie
        exact ⟨w, ρ', hw, ss_stop e1, e2⟩
      · rw [ss_next (ch_3f (K + 1) sc k n x y z Q (by omega) _)]
        by_cases h3 : x = 10
        · subst h3
          obtain ⟨w, hw, e⟩ := ch_4 (K + 1) sc k n y z Q hQ (iS A) .no
          exact ⟨w, _, hw, ss_stop e, rfl⟩
        · rw [ss_next (ch_4f (K + 1) sc k n x y z Q h3 _ _)]
          by_cases h4 : x = 11
          · subst h4
            obtain ⟨w, hw, e⟩ := ch_5 (K + 1) sc k n y z A Q hQ .no
            exact ⟨w, _, hw, ss_stop e, rfl⟩
          · rw [ss_next (ch_5f (K + 1) sc k n x y z Q h4 _ _), ss_end]
            obtain ⟨w, hw, e⟩ := ch_6 (K + 1) sc k n x y z Q hQ (iS A) .no
            exact ⟨w, _, hw, e, rfl⟩
  obtain ⟨w, ρ', hw, h1, h2⟩ := fin
  exact ⟨w, hw, run_rt rfl h1 h2⟩
theorem refused_l (K : Nat) (ds : List D) (h : Pl (.lst ds)) (hb : badR (.lst ds) = true) (he : Op.ev (.cmp .eq) [.sh (.lst ds), .sh (.lst ds)] = some (.sh (.bl true))) : P (K + 4) 14 [.sh (.lst ds)] = .ok (.sh (.bl true), [.sh (.lst ds)]) := by
  have t := told_bad K h hb
  rw [step (K + 3) 14 _ f14 t14]
  have ix0 : idxEv (.sh (.tup [.str "literals", .lst ds])) 0 = some (.sh (.str "literals")) := rfl
  have ix1 : idxEv (.sh (.tup [.str "literals", .lst ds])) 1 = some (.sh (.lst ds)) := rfl
  simp [f14, b14, q14_0, q14_1, q14_2, D.tyName, ev_isi_t, isTy, fillA, backA, goneA, cm_le_ii, cm_lt_ii, getV, Fn.run, Fn.run0, evSs, evS, evT, evAll, evAny, evO, evE, evOs, evEs, evAs, evB, evAnd, evOr, CH.R.bind, R.ofO, CH.Env.tree, CH.Env.own, CH.Env.ownL, OT.getP, lock, unlock, outs, tru_b, ev_eq_ii, ev_ne_ii, ev_lt_ii, ev_le_ii, ev_gt_ii, ev_ge_ii, ev_add_ii, ev_sub_ii, ev_neg_i, ev_int_i, ev_abs_i, ev_len_l, ev_len_t, ev_len_f, ev_idx, mulOk_r, ev_mul_ii, OT.toD, t, ix0, ix1, ev_eq_ss, he]
theorem refused_n (K : Nat) (n : Nat) {v : D} (h : Pl v) (hn : Nl n v) (hnl : ∀ ds, v ≠ .lst ds) (hb : badR v = true) : P (K + n + 4) 14 [.sh v] = .ok (.sh (.bl true), [.sh v]) := by
  have t := told_bad (K + n) h hb
  have e := eq_refl (n + 1) (K + 1) (v := .tup [.str "literals", v]) (.tup (by simp) (fun d hd => by
    rcases List.mem_cons.mp hd with rfl | hd
    · exact .str _
    · have : d = v := by simpa using hd
      subst this; exact hn))
  rw [show K + 1 + (n + 1) + 1 = K + n + 3 by omega] at e
  rw [show K + n + 4 = (K + n + 3) + 1 by omega, step (K + n + 3) 14 _ f14 t14]
  cases h with
  | lst _ _ => exact absurd rfl (hnl _)
  | _ => simp [f14, b14, q14_0, q14_1, q14_2, D.tyName, ev_isi_t, isTy, fillA, backA, goneA, cm_le_ii, cm_lt_ii, getV, Fn.run, Fn.run0, evSs, evS, evT, evAll, evAny, evO, evE, evOs, evEs, evAs, evB, evAnd, evOr, CH.R.bind, R.ofO, CH.Env.tree, CH.Env.own, CH.Env.ownL, OT.getP, lock, unlock, outs, tru_b, ev_eq_ii, ev_ne_ii, ev_lt_ii, ev_le_ii, ev_gt_ii, ev_ge_ii, ev_add_ii, ev_sub_ii, ev_neg_i, ev_int_i, ev_abs_i, ev_len_l, ev_len_t, ev_len_f, ev_idx, mulOk_r, ev_mul_ii, OT.toD, t, e, toDs, big]
end K02
end
section
namespace K02
open PySem L2 Evl PyProof.Rows CH
def qS (s : Sl) : Prop := s = .no ∨ ∃ d, s = .ow (.sh d)
theorem forL_keep {body : CH.Env → CH.R (Fl × CH.Env)} {pl : List Nat} {i : Nat} (E : Sl → Sl → CH.Env) (q : Sl → Prop) (hset : ∀ s t d, qS s → q t → setTg pl (.one i) d (E s t) = some (E (.ow (.sh d)) t)) :
    ∀ (ds : List D), (∀ d ∈ ds, ∀ t, q t → ∃ t', q t' ∧ body (E (.ow (.sh d)) t) = .ok (.nx, E (.ow (.sh d)) t')) → ∀ s t, qS s → q t → ∃ s' t', qS s' ∧ q t' ∧ forL body pl (.one i) ds (E s t) = .ok (.nx, E s' t')
  | [], _, s, t, hs, ht => ⟨s, t, hs, ht, rfl⟩
  | d :: ds, hb, s, t, hs, ht => by
    obtain ⟨t1, h1, e1⟩ := hb d (by simp) t ht
    obtain ⟨s2, t2, h2, h3, e2⟩ := forL_keep E q hset ds (fun d' hd => hb d' (by simp [hd])) (.ow (.sh d)) t1 (.inr ⟨_, rfl⟩) h1
    refine ⟨s2, t2, h2, h3, ?_⟩
    unfold forL
    rw [hset s t d hs ht]
    simp only
    rw [e1]
    exact e2
abbrev E1 (sc : D) (dr : List OT) (n : Int) (row : D) (s t : Sl) : CH.Env := [.ow (.sh sc), .ow (.lst dr), .ow (.sh (.int n)), .ow (.sh row), s, .no, .no, .no, .no, .no, .no, t, .no, .no, .no]
section
variable (Φ : Phi) (sc : D) (dr : List OT) (n : Int) (row : D)
theorem eqb (h : ∀ b : Bool, Φ 7 [.sh (.bl b), .sh (.bl b)] = .ok (.sh (.bl true), [.sh (.bl b), .sh (.bl b)])) {e e' : CE} {ρ ρ1 ρ2 : CH.Env} {b : Bool} (h1 : evE Φ [] e ρ = .ok (.sh (.bl b), ρ1)) (h2 : evE Φ [] e' ρ1 = .ok (.sh (.bl b), ρ2)) : evE Φ [] (.call 7 (.val e (.val e' .nil))) ρ = .ok (.sh (.bl true), ρ2) := call2 h1 rfl h2 rfl (h b)
theorem l1_body (v : D) (m : Int) (hv : Pl v) (h3 : Φ 3 [.sh v, .sh (.int m)] = .ok (.sh (.bl (isCl m v)), [.sh v, .sh (.int m)])) (h8 : Φ 8 [.sh v, .sh (.int m)] = .ok (.sh (.bl (isCl m v)), [.sh v, .sh (.int m)])) (h7 : ∀ b : Bool, Φ 7 [.sh (.bl b), .sh (.bl b)] = .ok (.sh (.bl true), [.sh (.bl b), .sh (.bl b)])) :
    evSs Φ [] p15_0 (E1 sc dr n row (.ow (.sh v)) (.ow (.sh (.int m)))) = .ok (.nx, E1 sc dr n row (.ow (.sh v)) (.ow (.sh (.int m)))) := by
  have c3 := call2 (Φ := Φ) (pl := []) (f := 3) (e := .v 4) (e' := .v 11) (ρ := E1 sc dr n row (.ow (.sh v)) (.ow (.sh (.int m)))) rfl rfl rfl rfl h3
  have c8 := call2 (Φ := Φ) (pl := []) (f := 8) (e := .v 4) (e' := .v 11) (ρ := E1 sc dr n row (.ow (.sh v)) (.ow (.sh (.int m)))) rfl rfl rfl rfl h8
  have c := eqb Φ h7 c3 c8
  unfold p15_0
  rw [ss_end, ife_f (ρ1 := E1 sc dr n row (.ow (.sh v)) (.ow (.sh (.int m)))) (by simp [evT, evO, ↓c, CH.R.bind, tru_b])]
  rfl
theorem l1_loop (d1 : Int) (hdr : idxEv (.lst dr) 1 = some (.sh (.int d1))) (vs : List D) (hv : ∀ v ∈ vs, Pl v)
    (h3 : ∀ v m, Pl v → Φ 3 [.sh v, .sh (.int m)] = .ok (.sh (.bl (isCl m v)), [.sh v, .sh (.int m)])) (h8 : ∀ v m, Pl v → Φ 8 [.sh v, .sh (.int m)] = .ok (.sh (.bl (isCl m v)), [.sh v, .sh (.int m)])) (h7 : ∀ b : Bool, Φ 7 [.sh (.bl b), .sh (.bl b)] = .ok (.sh (.bl true), [.sh (.bl b), .sh (.bl b)])) :
    ∃ s t, qS s ∧ qS t ∧ forL (fun ρ => evSs Φ [] p15_1 ρ) [] (.one 4) vs (E1 sc dr n row .no .no) = .ok (.nx, E1 sc dr n row s t) := by
  refine forL_keep (E1 sc dr n row) qS (fun s t d hs ht => by rcases hs with rfl | ⟨_, rfl⟩ <;> rfl) vs (fun v hm t ht => ?_) .no .no (.inl rfl) (.inl rfl)
  have in_ : ∃ t', qS t' ∧ forL (fun ρ => evSs Φ [] p15_0 ρ) [] (.one 11) [.int n, .int d1, .int n] (E1 sc dr n row (.ow (.sh v)) t) = .ok (.nx, E1 sc dr n row (.ow (.sh v)) t') := by
    have key : ∀ (m : Int) (t : Sl), qS t → setTg [] (.one 11) (.int m) (E1 sc dr n row (.ow (.sh v)) t) = some (E1 sc dr n row (.ow (.sh v)) (.ow (.sh (.int m)))) := fun m t ht => by rcases ht with rfl | ⟨_, rfl⟩ <;> rfl
    have b := fun m => l1_body Φ sc dr n row v m (hv v hm) (h3 v m (hv v hm)) (h8 v m (hv v hm)) h7
    refine ⟨.ow (.sh (.int n)), .inr ⟨_, rfl⟩, ?_⟩
    unfold forL
    rw [key n t ht]
    simp only
    rw [b]
    simp only [CH.R.bind]
    unfold forL
    rw [key d1 _ (.inr ⟨_, rfl⟩)]
    simp only
    rw [b]
    simp only [CH.R.bind]
    unfold forL
    rw [key n _ (.inr ⟨_, rfl⟩)]
    simp only
    rw [b]
    rfl
  obtain ⟨t', q', e⟩ := in_
  refine ⟨t', q', ?_⟩
  have hI : evI Φ [] (.seq (.e (.lst (.cons (.mv 2) (.cons (.op .idx (.cons (.bor 1 []) (.cons (.e (.c (.int 1))) .nil))) (.cons (.mv 2) .nil)))))) (E1 sc dr n row (.ow (.sh v)) t) = .ok ([.int n, .int d1, .int n], E1 sc dr n row (.ow (.sh v)) t) := by
    simp [evI, D.tyName, ev_isi_t, isTy, fillA, backA, goneA, cm_le_ii, cm_lt_ii, getV, Fn.run, Fn.run0, evSs, evS, evT, evAll, evAny, evO, evE, evOs, evEs, evAs, evB, evAnd, evOr, CH.R.bind, R.ofO, CH.Env.tree, CH.Env.own, CH.Env.ownL, OT.getP, lock, unlock, outs, tru_b, ev_eq_ii, ev_ne_ii, ev_lt_ii, ev_le_ii, ev_gt_ii, ev_ge_ii, ev_add_ii, ev_sub_ii, ev_neg_i, ev_int_i, ev_abs_i, ev_len_l, ev_len_t, ev_len_f, ev_idx, mulOk_r, ev_mul_ii, OT.toD, hdr, big, OT.items, leaves]
  show evSs Φ [] p15_1 _ = _
  unfold p15_1
  rw [ss_end, evS, hI]
  simp only [CH.R.bind, backI]
  rw [e]
end
theorem eq_ll (m : List Int) : Op.ev (.cmp .eq) [.sh (.lst (m.map .int)), .sh (.lst (m.map .int))] = some (.sh (.bl true)) ∧ Op.ev (.cmp .ne) [.sh (.lst (m.map .int)), .sh (.lst (m.map .int))] = some (.sh (.bl false)) := by
  have e : eqD (.lst (m.map .int)) (.lst (m.map .int)) = some true := by
    rw [eqD_ok (n := 2) (show D.ok 2 (.lst (m.map .int)) = true from oks_ints 1 m) (show D.ok 2 (.lst (m.map .int)) = true from oks_ints 1 m) (by decide), eq1_lst (n := 1) (oks_ints 1 m) (oks_ints 1 m), eqs_ints]
    simp
  constructor
  · show (eqD (.lst (m.map .int)) (.lst (m.map .int))).map _ = _
    rw [e]; rfl
  · show ((eqD (.lst (m.map .int)) (.lst (m.map .int))).map (! ·)).map _ = _
    rw [e]; rfl
abbrev E2 (sc : D) (dr : List OT) (n : Int) (row : D) (m : List Int) (u : Sl) (s t : Sl) : CH.Env := [.ow (.sh sc), .ow (.lst dr), .ow (.sh (.int n)), .ow (.sh row), s, t, .ow (.sh (.lst (m.map .int))), .no, .no, .no, .no, u, .no, .no, .no]
def qM (m : List Int) (t : Sl) : Prop := t = .ow (.lst (m.map iT)) ∨ t = .ow (.sh (.lst (m.map .int)))
section
variable (Φ : Phi) (sc : D) (dr : List OT) (n : Int) (row : D) (m : List Int) (u : Sl)
theorem l2_body (l : Bool) (t : Sl) (ht : qM m t) (h13 : Φ 13 [.sh (seqOf l (m.map .int))] = .ok (.sh (.tup [.str "value", co m]), [.sh (seqOf l (m.map .int))])) (h12 : Φ 12 [.sh (.lst (m.map .int))] = .ok (.sh (co m), [.sh (.lst (m.map .int))]))
    (h7 : Φ 7 [.sh (.tup [.str "value", co m]), .sh (.tup [.str "value", co m])] = .ok (.sh (.bl true), [.sh (.tup [.str "value", co m]), .sh (.tup [.str "value", co m])])) :
    evSs Φ [] p15_2 (E2 sc dr n row m u (.ow (.sh (seqOf l (m.map .int)))) t) = .ok (.nx, E2 sc dr n row m u (.ow (.sh (seqOf l (m.map .int)))) (.ow (.sh (.lst (m.map .int))))) := by
  generalize seqOf l (m.map .int) = v at h13
  have c13 := call1 (Φ := Φ) (pl := []) (f := 13) (e := .v 4) (ρ := E2 sc dr n row m u (.ow (.sh v)) t) rfl rfl h13
  have mv : ∃ w, evE Φ [] (.mv 5) (E2 sc dr n row m u (.ow (.sh v)) t) = .ok (.sh (.lst (m.map .int)), E2 sc dr n row m u (.ow (.sh v)) (.ow (.sh (.lst (m.map .int))))) ∧ w = t := by
    refine ⟨t, ?_, rfl⟩
    rcases ht with rfl | rfl
    · have td : OT.toD (.lst (m.map iT)) = .lst (m.map .int) := by show D.lst (toDs (m.map iT)) = _; rw [toDs_map m D.int]
      show (CH.R.ok (OT.sh (OT.toD (.lst (m.map iT))), _) : CH.R (OT × CH.Env)) = _
      rw [td]; rfl
    · rfl
  obtain ⟨_, mv, _⟩ := mv
  have c12 := call1 (Φ := Φ) (pl := []) (f := 12) mv rfl h12
  have tp : evE Φ [] (.tup (.cons (.c (.str "value")) (.cons (.call 12 (.val (.mv 5) .nil)) .nil))) (E2 sc dr n row m u (.ow (.sh v)) t) = .ok (.sh (.tup [.str "value", co m]), E2 sc dr n row m u (.ow (.sh v)) (.ow (.sh (.lst (m.map .int))))) := by
    rw [evE, evEs, show evE Φ [] (.c (.str "value")) (E2 sc dr n row m u (.ow (.sh v)) t) = .ok (.sh (.str "value"), E2 sc dr n row m u (.ow (.sh v)) t) from rfl]
    simp only [CH.R.bind]
    rw [evEs, c12]
    rfl
  have c7 := call2 (Φ := Φ) (pl := []) (f := 7) c13 rfl tp rfl h7
  have ne := (eq_ll m).2
  unfold p15_2
  rw [ss_end, ife_f (ρ1 := E2 sc dr n row m u (.ow (.sh v)) (.ow (.sh (.lst (m.map .int))))) (by simp [evT, evAny, evO, ↓c7, CH.R.bind, tru_b, evE, evOs, CH.Env.tree, OT.getP, lock, unlock, ne])]
  rfl
theorem l2_loop (h13 : ∀ l, Φ 13 [.sh (seqOf l (m.map .int))] = .ok (.sh (.tup [.str "value", co m]), [.sh (seqOf l (m.map .int))])) (h12 : Φ 12 [.sh (.lst (m.map .int))] = .ok (.sh (co m), [.sh (.lst (m.map .int))]))
    (h7 : Φ 7 [.sh (.tup [.str "value", co m]), .sh (.tup [.str "value", co m])] = .ok (.sh (.bl true), [.sh (.tup [.str "value", co m]), .sh (.tup [.str "value", co m])])) (s : Sl) (hs : qS s) :
    ∃ s', qS s' ∧ forL (fun ρ => evSs Φ [] p15_2 ρ) [] (.one 4) [.lst (m.map .int), .tup (m.map .int), .lst (m.map .int)] (E2 sc dr n row m u s (.ow (.lst (m.map iT)))) = .ok (.nx, E2 sc dr n row m u s' (.ow (.sh (.lst (m.map .int))))) := by
  have key : ∀ (d : D) (s t : Sl), qS s → qM m t → setTg [] (.one 4) d (E2 sc dr n row m u s t) = some (E2 sc dr n row m u (.ow (.sh d)) t) := fun d s t hs ht => by rcases hs with rfl | ⟨_, rfl⟩ <;> rfl
  have bt := fun t ht => l2_body Φ sc dr n row m u true t ht (h13 true) h12 h7
  have bf := fun t ht => l2_body Φ sc dr n row m u false t ht (h13 false) h12 h7
  have bt : ∀ t, qM m t → evSs Φ [] p15_2 (E2 sc dr n row m u (.ow (.sh (.lst (m.map .int)))) t) = .ok (.nx, E2 sc dr n row m u (.ow (.sh (.lst (m.map .int)))) (.ow (.sh (.lst (m.map .int))))) := bt
  have bf : ∀ t, qM m t → evSs Φ [] p15_2 (E2 sc dr n row m u (.ow (.sh (.tup (m.map .int)))) t) = .ok (.nx, E2 sc dr n row m u (.ow (.sh (.tup (m.map .int)))) (.ow (.sh (.lst (m.map .int))))) := bf
  refine ⟨.ow (.sh (.lst (m.map .int))), .inr ⟨_, rfl⟩, ?_⟩
  unfold forL
  rw [key _ s _ hs (.inl rfl)]
  simp only
  rw [bt _ (.inl rfl)]
  simp only [CH.R.bind]
  unfold forL
  rw [key _ _ _ (.inr ⟨_, rfl⟩) (.inr rfl)]
  simp only
  rw [bf _ (.inr rfl)]
  simp only [CH.R.bind]
  unfold forL
  rw [key _ _ _ (.inr ⟨_, rfl⟩) (.inr rfl)]
  simp only
  rw [bt _ (.inr rfl)]
  rfl
end
end K02
end
section
namespace K02
open PySem L2 Evl PyProof.Rows CH
abbrev E3 (sc : D) (dr : List OT) (n : Int) (row : D) (L : D) (at_ : Int) (B : D) (u : Sl) (s t : Sl) : CH.Env := [.ow (.sh sc), .ow (.lst dr), .ow (.sh (.int n)), .ow (.sh row), s, .ow (.sh L), .ow (.sh L), .ow (.sh (.int at_)), .ow (.sh B), .no, .no, u, t, .no, .no]
section
variable (Φ : Phi) (sc : D) (dr : List OT) (n : Int) (row L : D) (A : Int) (B : D) (u : Sl)
theorem l3_loop (vs : List D) (h : ∀ v ∈ vs, Φ 14 [.sh v] = .ok (.sh (.bl true), [.sh v])) (s : Sl) (hs : qS s) :
    ∃ s' t', qS s' ∧ t' = .no ∧ forL (fun ρ => evSs Φ [] p15_3 ρ) [] (.one 4) vs (E3 sc dr n row L A B u s .no) = .ok (.nx, E3 sc dr n row L A B u s' t') := by
  refine forL_keep (E3 sc dr n row L A B u) (fun t => t = .no) (fun s t d hs ht => by rcases hs with rfl | ⟨_, rfl⟩ <;> rfl) vs (fun v hm t ht => ?_) s .no hs rfl
  subst ht
  have c := call1 (Φ := Φ) (pl := []) (f := 14) (e := .v 4) (ρ := E3 sc dr n row L A B u (.ow (.sh v)) .no) rfl rfl (h v hm)
  refine ⟨.no, rfl, ?_⟩
  unfold p15_3
  rw [ss_end, ife_f (ρ1 := E3 sc dr n row L A B u (.ow (.sh v)) .no) (by simp [evT, evO, ↓c, CH.R.bind, tru_b])]
  rfl
theorem l4_loop (vs : List D) (h : ∀ v ∈ vs, Φ 13 [.sh v] = .ok (.sh (.tup [.str "literals", v]), [.sh v]) ∧ Op.ev (.cmp .ne) [.sh v, .sh v] = some (.sh (.bl false))) (s : Sl) (hs : qS s) :
    ∃ s' t', qS s' ∧ qS t' ∧ forL (fun ρ => evSs Φ [] p15_6 ρ) [] (.one 4) vs (E3 sc dr n row L A B u s .no) = .ok (.nx, E3 sc dr n row L A B u s' t') := by
  refine forL_keep (E3 sc dr n row L A B u) qS (fun s t d hs ht => by rcases hs with rfl | ⟨_, rfl⟩ <;> rfl) vs (fun v hm t ht => ?_) s .no hs (.inl rfl)
  obtain ⟨h1, h2⟩ := h v hm
  have c := call1 (Φ := Φ) (pl := []) (f := 13) (e := .v 4) (ρ := E3 sc dr n row L A B u (.ow (.sh v)) t) rfl rfl h1
  refine ⟨.ow (.sh (.tup [.str "literals", v])), .inr ⟨_, rfl⟩, ?_⟩
  have g0 : evS Φ [] p15_4 (E3 sc dr n row L A B u (.ow (.sh v)) t) = .ok (.nx, E3 sc dr n row L A B u (.ow (.sh v)) (.ow (.sh (.tup [.str "literals", v])))) := by
    unfold p15_4
    rw [evS, c]
    rcases ht with rfl | ⟨_, rfl⟩ <;> rfl
  have ix0 : idxEv (.sh (.tup [.str "literals", v])) 0 = some (.sh (.str "literals")) := rfl
  have ix1 : idxEv (.sh (.tup [.str "literals", v])) 1 = some (.sh v) := rfl
  unfold p15_6
  rw [ss_next g0, ss_end]
  unfold p15_5
  rw [ife_f (ρ1 := E3 sc dr n row L A B u (.ow (.sh v)) (.ow (.sh (.tup [.str "literals", v])))) (by simp [D.tyName, ev_isi_t, isTy, fillA, backA, goneA, cm_le_ii, cm_lt_ii, getV, Fn.run, Fn.run0, evSs, evS, evT, evAll, evAny, evO, evE, evOs, evEs, evAs, evB, evAnd, evOr, CH.R.bind, R.ofO, CH.Env.tree, CH.Env.own, CH.Env.ownL, OT.getP, lock, unlock, outs, tru_b, ev_eq_ii, ev_ne_ii, ev_lt_ii, ev_le_ii, ev_gt_ii, ev_ge_ii, ev_add_ii, ev_sub_ii, ev_neg_i, ev_int_i, ev_abs_i, ev_len_l, ev_len_t, ev_len_f, ev_idx, mulOk_r, ev_mul_ii, OT.toD, ix0, ix1, ev_ne_ss, h2])]
  rfl
end
abbrev E5 (sc : D) (dr : List OT) (n : Int) (row L : D) (A : Int) (B o : D) (u v4 t12 : Sl) (s t : Sl) : CH.Env := [.ow (.sh sc), .ow (.lst dr), .ow (.sh (.int n)), .ow (.sh row), v4, .ow (.sh L), .ow (.sh L), .ow (.sh (.int A)), .ow (.sh B), .ow (.sh o), s, u, t12, t, .no]
section
variable (Φ : Phi) (sc : D) (dr : List OT) (n : Int) (row L : D) (A : Int) (B o : D) (u v4 t12 : Sl)
theorem l5_body (a b : List Int) (hl : a.length < 100000) (h5 : Φ 5 [.sh (.tup (a.map .int)), .sh (.tup (b.map .int))] = .ok (.sh (.bl (a.all fun x => decide (x ∈ b))), [.sh (.tup (a.map .int)), .sh (.tup (b.map .int))]))
    (h8 : ∃ c : Bool, Φ 8 [.sh (.tup (b.map .int)), .sh (.int n)] = .ok (.sh (.bl c), [.sh (.tup (b.map .int)), .sh (.int n)])) (h7 : ∀ b : Bool, Φ 7 [.sh (.bl b), .sh (.bl b)] = .ok (.sh (.bl true), [.sh (.bl b), .sh (.bl b)])) (t : Sl) (ht : qS t) :
    ∃ t', qS t' ∧ evSs Φ [] p15_11 (E5 sc dr n row L A B o u v4 t12 (.ow (.sh (.tup [.tup (a.map .int), .tup (b.map .int)]))) t) = .ok (.nx, E5 sc dr n row L A B o u v4 t12 (.ow (.sh (.tup [.tup (a.map .int), .tup (b.map .int)]))) t') := by
  generalize hp : D.tup [.tup (a.map .int), .tup (b.map .int)] = p
  have ix0 : idxEv (.sh p) 0 = some (.sh (.tup (a.map .int))) := by rw [← hp]; rfl
  have ix1 : idxEv (.sh p) 1 = some (.sh (.tup (b.map .int))) := by rw [← hp]; rfl
  have ni : ∀ x : Int, Op.ev (.cmp .notin) [.sh (.int x), .sh (.tup (b.map .int))] = some (.sh (.bl (!decide (x ∈ b)))) := fun x => by
    show ((inD (.int x) (.tup (b.map .int))).map (! ·)).map _ = _
    rw [inD_ints]; rfl
  have i0 : evE Φ [] (.op .idx (.cons (.bor 10 []) (.cons (.e (.c (.int 0))) .nil))) (E5 sc dr n row L A B o u v4 t12 (.ow (.sh p)) t) = .ok (.sh (.tup (a.map .int)), E5 sc dr n row L A B o u v4 t12 (.ow (.sh p)) t) := by simp [D.tyName, ev_isi_t, isTy, fillA, backA, goneA, cm_le_ii, cm_lt_ii, getV, Fn.run, Fn.run0, evSs, evS, evT, evAll, evAny, evO, evE, evOs, evEs, evAs, evB, evAnd, evOr, CH.R.bind, R.ofO, CH.Env.tree, CH.Env.own, CH.Env.ownL, OT.getP, lock, unlock, outs, tru_b, ev_eq_ii, ev_ne_ii, ev_lt_ii, ev_le_ii, ev_gt_ii, ev_ge_ii, ev_add_ii, ev_sub_ii, ev_neg_i, ev_int_i, ev_abs_i, ev_len_l, ev_len_t, ev_len_f, ev_idx, mulOk_r, ev_mul_ii, OT.toD, ix0]
  have lc := evE_lcf (Φ := Φ) (pl := []) (e := p15_7) (i := 14) (it := .seq (.e (.op .idx (.cons (.bor 10 []) (.cons (.e (.c (.int 0))) .nil))))) (cs := p15_8) (ρ := E5 sc dr n row L A B o u v4 t12 (.ow (.sh p)) t) (ρ1 := E5 sc dr n row L A B o u v4 t12 (.ow (.sh p)) t) (xs := a) (mk := .int) (g := .int) (p := fun x => !decide (x ∈ b))
    (by rw [evI, i0]; rfl) rfl (by simp) (by simp only [big]; omega) (fun x hx => ⟨by by_cases hb : x ∈ b <;> simp [p15_8, D.tyName, ev_isi_t, isTy, fillA, backA, goneA, cm_le_ii, cm_lt_ii, getV, Fn.run, Fn.run0, evSs, evS, evT, evAll, evAny, evO, evE, evOs, evEs, evAs, evB, evAnd, evOr, CH.R.bind, R.ofO, CH.Env.tree, CH.Env.own, CH.Env.ownL, OT.getP, lock, unlock, outs, tru_b, ev_eq_ii, ev_ne_ii, ev_lt_ii, ev_le_ii, ev_gt_ii, ev_ge_ii, ev_add_ii, ev_sub_ii, ev_neg_i, ev_int_i, ev_abs_i, ev_len_l, ev_len_t, ev_len_f, ev_idx, mulOk_r, ev_mul_ii, OT.toD, ix1, ni, hb], fun _ => by simp [p15_7, D.tyName, ev_isi_t, isTy, fillA, backA, goneA, cm_le_ii, cm_lt_ii, getV, Fn.run, Fn.run0, evSs, evS, evT, evAll, evAny, evO, evE, evOs, evEs, evAs, evB, evAnd, evOr, CH.R.bind, R.ofO, CH.Env.tree, CH.Env.own, CH.Env.ownL, OT.getP, lock, unlock, outs, tru_b, ev_eq_ii, ev_ne_ii, ev_lt_ii, ev_le_ii, ev_gt_ii, ev_ge_ii, ev_add_ii, ev_sub_ii, ev_neg_i, ev_int_i, ev_abs_i, ev_len_l, ev_len_t, ev_len_f, ev_idx, mulOk_r, ev_mul_ii, OT.toD]⟩)
  have due : decide (((a.filter fun x => !decide (x ∈ b)).length : Int) = 0) = a.all fun x => decide (x ∈ b) := by
    rw [Bool.eq_iff_iff]
    simp only [decide_eq_true_eq, List.all_eq_true]
    constructor
    · intro h x hx
      have h0 : (a.filter fun x => !decide (x ∈ b)) = [] := List.length_eq_zero_iff.mp (by omega)
      have := List.filter_eq_nil_iff.mp h0 x hx
      simpa using this
    · intro h
      have h0 : (a.filter fun x => !decide (x ∈ b)) = [] := List.filter_eq_nil_iff.mpr fun x hx => by simpa using h x hx
      rw [h0]; rfl
  have g0 : evS Φ [] p15_9 (E5 sc dr n row L A B o u v4 t12 (.ow (.sh p)) t) = .ok (.nx, E5 sc dr n row L A B o u v4 t12 (.ow (.sh p)) (.ow (.sh (.bl (a.all fun x => decide (x ∈ b)))))) := by
    have ln := evE_op1 (Φ := Φ) (pl := []) lc (show Op.ev (.bi .len) _ = _ from ev_len_l _)
    rw [List.length_map] at ln
    have cm := evE_op2 (Φ := Φ) (pl := []) (e' := .c (.int 0)) ln rfl (show Op.ev (.cmp .eq) _ = _ from ev_eq_ii _ 0)
    rw [due] at cm
    show evS Φ [] p15_9 _ = _
    unfold p15_9
    rw [evS, cm]
    rcases ht with rfl | ⟨_, rfl⟩ <;> rfl
  refine ⟨.ow (.sh (.bl (a.all fun x => decide (x ∈ b)))), .inr ⟨_, rfl⟩, ?_⟩
  clear lc due
  generalize (a.all fun x => decide (x ∈ b)) = q at h5 g0 ⊢
  unfold p15_11
  rw [ss_next g0, ss_end]
  have i0' : evE Φ [] (.op .idx (.cons (.bor 10 []) (.cons (.e (.c (.int 0))) .nil))) (E5 sc dr n row L A B o u v4 t12 (.ow (.sh p)) (.ow (.sh (.bl q)))) = .ok (.sh (.tup (a.map .int)), E5 sc dr n row L A B o u v4 t12 (.ow (.sh p)) (.ow (.sh (.bl q)))) := by simp [D.tyName, ev_isi_t, isTy, fillA, backA, goneA, cm_le_ii, cm_lt_ii, getV, Fn.run, Fn.run0, evSs, evS, evT, evAll, evAny, evO, evE, evOs, evEs, evAs, evB, evAnd, evOr, CH.R.bind, R.ofO, CH.Env.tree, CH.Env.own, CH.Env.ownL, OT.getP, lock, unlock, outs, tru_b, ev_eq_ii, ev_ne_ii, ev_lt_ii, ev_le_ii, ev_gt_ii, ev_ge_ii, ev_add_ii, ev_sub_ii, ev_neg_i, ev_int_i, ev_abs_i, ev_len_l, ev_len_t, ev_len_f, ev_idx, mulOk_r, ev_mul_ii, OT.toD, ix0]
  have i1' : evE Φ [] (.op .idx (.cons (.bor 10 []) (.cons (.e (.c (.int 1))) .nil))) (E5 sc dr n row L A B o u v4 t12 (.ow (.sh p)) (.ow (.sh (.bl q)))) = .ok (.sh (.tup (b.map .int)), E5 sc dr n row L A B o u v4 t12 (.ow (.sh p)) (.ow (.sh (.bl q)))) := by simp [D.tyName, ev_isi_t, isTy, fillA, backA, goneA, cm_le_ii, cm_lt_ii, getV, Fn.run, Fn.run0, evSs, evS, evT, evAll, evAny, evO, evE, evOs, evEs, evAs, evB, evAnd, evOr, CH.R.bind, R.ofO, CH.Env.tree, CH.Env.own, CH.Env.ownL, OT.getP, lock, unlock, outs, tru_b, ev_eq_ii, ev_ne_ii, ev_lt_ii, ev_le_ii, ev_gt_ii, ev_ge_ii, ev_add_ii, ev_sub_ii, ev_neg_i, ev_int_i, ev_abs_i, ev_len_l, ev_len_t, ev_len_f, ev_idx, mulOk_r, ev_mul_ii, OT.toD, ix1]
  obtain ⟨c, h8⟩ := h8
  have c8 := call2 (Φ := Φ) (pl := []) (f := 8) (e' := .mv 2) i1' rfl (show evE Φ [] (.mv 2) _ = .ok (.sh (.int n), E5 sc dr n row L A B o u v4 t12 (.ow (.sh p)) (.ow (.sh (.bl q)))) from rfl) rfl h8
  have c5 := call2 (Φ := Φ) (pl := []) (f := 5) i0' rfl i1' rfl h5
  have c7 := call2 (Φ := Φ) (pl := []) (f := 7) (e' := .v 13) c5 rfl (show evE Φ [] (.v 13) _ = .ok (.sh (.bl q), E5 sc dr n row L A B o u v4 t12 (.ow (.sh p)) (.ow (.sh (.bl q)))) from rfl) rfl (h7 q)
  unfold p15_10
  rw [ife_f (ρ1 := E5 sc dr n row L A B o u v4 t12 (.ow (.sh p)) (.ow (.sh (.bl q)))) (by cases c <;> simp [evT, evAll, evO, ↓c8, ↓c7, CH.R.bind, tru_b])]
  rfl
theorem l5_loop (ps : List (List Int × List Int)) (hl : ∀ p ∈ ps, p.1.length < 100000) (h5 : ∀ a b : List Int, a.length < 100000 → Φ 5 [.sh (.tup (a.map .int)), .sh (.tup (b.map .int))] = .ok (.sh (.bl (a.all fun x => decide (x ∈ b))), [.sh (.tup (a.map .int)), .sh (.tup (b.map .int))]))
    (h8 : ∀ p ∈ ps, ∃ c : Bool, Φ 8 [.sh (.tup (p.2.map .int)), .sh (.int n)] = .ok (.sh (.bl c), [.sh (.tup (p.2.map .int)), .sh (.int n)])) (h7 : ∀ b : Bool, Φ 7 [.sh (.bl b), .sh (.bl b)] = .ok (.sh (.bl true), [.sh (.bl b), .sh (.bl b)])) :
    ∃ s' t', qS s' ∧ qS t' ∧ forL (fun ρ => evSs Φ [] p15_11 ρ) [] (.one 10) (ps.map fun p => .tup [.tup (p.1.map .int), .tup (p.2.map .int)]) (E5 sc dr n row L A B o u v4 t12 .no .no) = .ok (.nx, E5 sc dr n row L A B o u v4 t12 s' t') := by
  refine forL_keep (E5 sc dr n row L A B o u v4 t12) qS (fun s t d hs ht => by rcases hs with rfl | ⟨_, rfl⟩ <;> rfl) _ (fun v hm t ht => ?_) .no .no (.inl rfl) (.inl rfl)
  obtain ⟨p, hp, rfl⟩ := List.mem_map.mp hm
  exact l5_body Φ sc dr n row L A B o u v4 t12 p.1 p.2 (hl p hp) (h5 _ _ (hl p hp)) (h8 p hp) h7 t ht
end
end K02
end
section
namespace K02
open PySem L2 Evl PyProof.Rows CH
theorem four {xs : List Int} {a b c d : Int} (h : Within xs [a, b, c, d]) : ∃ x y z w, xs = [x, y, z, w] ∧ (0 ≤ x ∧ x < a) ∧ (0 ≤ y ∧ y < b) ∧ (0 ≤ z ∧ z < c) ∧ 0 ≤ w ∧ w < d := by
  obtain ⟨h1, h2⟩ := h
  match xs, h1 with
  | [x, y, z, w], _ =>
    have p0 := h2 0 (by simp)
    have p1 := h2 1 (by simp)
    have p2 := h2 2 (by simp)
    have p3 := h2 3 (by simp)
    simp at p0 p1 p2 p3
    exact ⟨x, y, z, w, rfl, p0, p1, p2, p3⟩
/-- the first part of the law: the values, the rows -/
theorem law_a (K : Nat) (ns : List Int) (hl : ns.length ≤ 63) : ∃ (dr : List OT) (n a1 a2 a3 : Int) (r : List Int) (s t : Sl), dr = [iT n, iT a1, iT a2, iT a3] ∧ (0 ≤ n ∧ n ≤ 10) ∧ (0 ≤ a2 ∧ a2 < 9) ∧ (0 ≤ a3 ∧ a3 < 4) ∧ r.length ≤ 10 ∧ qS s ∧ qS t ∧
    evSs (P (K + 5)) [] b15 [.ow (.sh (.flst (ns.map .int))), .no, .no, .no, .no, .no, .no, .no, .no, .no, .no, .no, .no, .no, .no] =
      evSs (P (K + 5)) [] (.cons q15_4 (.cons q15_5 (.cons q15_6 (.cons q15_7 (.cons q15_8 (.cons q15_9 (.cons q15_10 (.cons q15_11 (.cons q15_12 (.cons q15_13 .nil)))))))))) (E1 (.flst (ns.map .int)) dr n (.tup (r.map .int)) s t) := by
  obtain ⟨xs, hw, hd⟩ := draws_eq (K + 4) ns [11, 11, 9, 4] 0 (by omega) hl (by decide) (by decide)
  obtain ⟨n, a1, a2, a3, rfl, h0, h1, h2, h3⟩ := four hw
  obtain ⟨r, hr, hr2⟩ := row_run (K + 3) ns 1 n hl (by omega) (by omega)
  obtain ⟨v2, p2, c2⟩ := changed_run (K + 3) ns r 2 n hl (by omega) hr
  obtain ⟨v3, p3, c3⟩ := changed_run (K + 3) ns r 3 n hl (by omega) hr
  generalize D.flst (ns.map .int) = sc at hd hr2 c2 c3
  have hd' : P (K + 5) 6 [.sh sc, .sh (.int 0), .sh (.lst [.int 11, .int 11, .int 9, .int 4])] = .ok (.lst [iT n, iT a1, iT a2, iT a3], [.sh sc, .sh (.int 0), .sh (.lst [.int 11, .int 11, .int 9, .int 4])]) := hd
  have i0 : idxEv (.lst [iT n, iT a1, iT a2, iT a3]) 0 = some (.sh (.int n)) := idx_ow [n, a1, a2, a3] 0 (by simp)
  have i1 : idxEv (.lst [iT n, iT a1, iT a2, iT a3]) 1 = some (.sh (.int a1)) := idx_ow [n, a1, a2, a3] 1 (by simp)
  have pr : Pl (.tup (r.map .int)) := (Sm.ints hr).pl (by decide)
  have pc : Pl (.tup (CH.cutD (r.map D.int) (some 1) none)) := ((Sm.ints hr).cut (some 1) none).pl (by decide)
  obtain ⟨s, t, hs, ht, lp⟩ := l1_loop (P (K + 5)) sc [iT n, iT a1, iT a2, iT a3] n (.tup (r.map .int)) a1 i1 [.tup (r.map .int), v2, v3, .tup [], .tup (CH.cutD (r.map D.int) (some 1) none)] (fun v hv => by
    simp only [List.mem_cons, List.not_mem_nil, or_false] at hv
    rcases hv with rfl | rfl | rfl | rfl | rfl
    · exact pr
    · exact p2
    · exact p3
    · exact .tup (by simp) (fun d hd => by simp at hd)
    · exact pc) (fun v m h => cl_run (K + 3) m h) (fun v m h => lcl_run (K + 4) m h) (fun b => eq_bl (K + 4) b)
  refine ⟨_, n, a1, a2, a3, r, s, t, rfl, by omega, h2, h3, hr, hs, ht, ?_⟩
  have g0 : evS (P (K + 5)) [] q15_0 [.ow (.sh sc), .no, .no, .no, .no, .no, .no, .no, .no, .no, .no, .no, .no, .no, .no] = .ok (.nx, [.ow (.sh sc), .ow (.lst [iT n, iT a1, iT a2, iT a3]), .no, .no, .no, .no, .no, .no, .no, .no, .no, .no, .no, .no, .no]) := by
    simp [q15_0, D.tyName, ev_isi_t, isTy, fillA, backA, goneA, cm_le_ii, cm_lt_ii, getV, Fn.run, Fn.run0, evSs, evS, evT, evAll, evAny, evO, evE, evOs, evEs, evAs, evB, evAnd, evOr, CH.R.bind, R.ofO, CH.Env.tree, CH.Env.own, CH.Env.ownL, OT.getP, lock, unlock, outs, tru_b, ev_eq_ii, ev_ne_ii, ev_lt_ii, ev_le_ii, ev_gt_ii, ev_ge_ii, ev_add_ii, ev_sub_ii, ev_neg_i, ev_int_i, ev_abs_i, ev_len_l, ev_len_t, ev_len_f, ev_idx, mulOk_r, ev_mul_ii, OT.toD, hd', toDs, big]
  have g1 : evS (P (K + 5)) [] q15_1 [.ow (.sh sc), .ow (.lst [iT n, iT a1, iT a2, iT a3]), .no, .no, .no, .no, .no, .no, .no, .no, .no, .no, .no, .no, .no] = .ok (.nx, [.ow (.sh sc), .ow (.lst [iT n, iT a1, iT a2, iT a3]), .ow (.sh (.int n)), .no, .no, .no, .no, .no, .no, .no, .no, .no, .no, .no, .no]) := by
    simp [q15_1, D.tyName, ev_isi_t, isTy, fillA, backA, goneA, cm_le_ii, cm_lt_ii, getV, Fn.run, Fn.run0, evSs, evS, evT, evAll, evAny, evO, evE, evOs, evEs, evAs, evB, evAnd, evOr, CH.R.bind, R.ofO, CH.Env.tree, CH.Env.own, CH.Env.ownL, OT.getP, lock, unlock, outs, tru_b, ev_eq_ii, ev_ne_ii, ev_lt_ii, ev_le_ii, ev_gt_ii, ev_ge_ii, ev_add_ii, ev_sub_ii, ev_neg_i, ev_int_i, ev_abs_i, ev_len_l, ev_len_t, ev_len_f, ev_idx, mulOk_r, ev_mul_ii, OT.toD, i0]
  have g2 : evS (P (K + 5)) [] q15_2 [.ow (.sh sc), .ow (.lst [iT n, iT a1, iT a2, iT a3]), .ow (.sh (.int n)), .no, .no, .no, .no, .no, .no, .no, .no, .no, .no, .no, .no] = .ok (.nx, E1 sc [iT n, iT a1, iT a2, iT a3] n (.tup (r.map .int)) .no .no) := by
    simp [q15_2, D.tyName, ev_isi_t, isTy, fillA, backA, goneA, cm_le_ii, cm_lt_ii, getV, Fn.run, Fn.run0, evSs, evS, evT, evAll, evAny, evO, evE, evOs, evEs, evAs, evB, evAnd, evOr, CH.R.bind, R.ofO, CH.Env.tree, CH.Env.own, CH.Env.ownL, OT.getP, lock, unlock, outs, tru_b, ev_eq_ii, ev_ne_ii, ev_lt_ii, ev_le_ii, ev_gt_ii, ev_ge_ii, ev_add_ii, ev_sub_ii, ev_neg_i, ev_int_i, ev_abs_i, ev_len_l, ev_len_t, ev_len_f, ev_idx, mulOk_r, ev_mul_ii, OT.toD, hr2]
  generalize hrow : D.tup (r.map .int) = row at lp g2 c2 c3
  have sl : slcEv (some 1) none (.sh row) = some (.sh (.tup (CH.cutD (r.map D.int) (some 1) none))) := by rw [← hrow]; rfl
  generalize D.tup (CH.cutD (r.map D.int) (some 1) none) = cut at sl lp
  have hI : evI (P (K + 5)) [] (.seq (.e (.lst (.cons (.mv 3) (.cons (.call 10 (.val (.v 0) (.val (.c (.int 2)) (.val (.mv 3) (.val (.mv 2) .nil))))) (.cons (.call 10 (.val (.v 0) (.val (.c (.int 3)) (.val (.mv 3) (.val (.mv 2) .nil))))) (.cons (.tup .nil) (.cons (.slc (.bor 3 []) (.at (.c (.int 1))) .no) .nil)))))))) (E1 sc [iT n, iT a1, iT a2, iT a3] n row .no .no) = .ok ([row, v2, v3, .tup [], cut], E1 sc [iT n, iT a1, iT a2, iT a3] n row .no .no) := by
    simp [evI, D.tyName, ev_isi_t, isTy, fillA, backA, goneA, cm_le_ii, cm_lt_ii, getV, Fn.run, Fn.run0, evSs, evS, evT, evAll, evAny, evO, evE, evOs, evEs, evAs, evB, evAnd, evOr, CH.R.bind, R.ofO, CH.Env.tree, CH.Env.own, CH.Env.ownL, OT.getP, lock, unlock, outs, tru_b, ev_eq_ii, ev_ne_ii, ev_lt_ii, ev_le_ii, ev_gt_ii, ev_ge_ii, ev_add_ii, ev_sub_ii, ev_neg_i, ev_int_i, ev_abs_i, ev_len_l, ev_len_t, ev_len_f, ev_idx, mulOk_r, ev_mul_ii, OT.toD, CH.b2, sl, c2, c3, big, toDs, OT.items, leaves]
  unfold b15
  rw [ss_next g0, ss_next g1, ss_next g2]
  rw [ss_next (s := q15_3) (ρ1 := E1 sc [iT n, iT a1, iT a2, iT a3] n row s t) (by unfold q15_3; rw [evS, hI]; simp only [CH.R.bind, backI]; rw [lp])]
end K02
end
section
namespace K02
open PySem L2 Evl PyProof.Rows CH
theorem law_b (K : Nat) (ns : List Int) (hl : ns.length ≤ 63) (dr : List OT) (n : Int) (row : D) (s t : Sl) (hs : qS s) (rest : CSs) : ∃ (m : List Int) (s' : Sl), m.length ≤ 8 ∧ qS s' ∧
    evSs (P (K + 5)) [] (.cons q15_4 (.cons q15_5 (.cons q15_6 rest))) (E1 (.flst (ns.map .int)) dr n row s t) = evSs (P (K + 5)) [] rest (E2 (.flst (ns.map .int)) dr n row m t s' (.ow (.sh (.lst (m.map .int))))) := by
  obtain ⟨m, hm, h0, hn⟩ := numbers_run (K + 3) ns 4 hl (by omega)
  generalize D.flst (ns.map .int) = sc at hn
  have h13 : ∀ l, P (K + 5) 13 [.sh (seqOf l (m.map .int))] = .ok (.sh (.tup [.str "value", co m]), [.sh (seqOf l (m.map .int))]) := fun l => told_ok (K + 2) l m h0 (by omega)
  have h12 := lc_run (K + 4) m (by omega)
  rw [lc_eq m h0] at h12
  have nco : Nl 1 (co m) := by
    unfold co
    split
    · exact .non
    · refine .tup ?_ (fun d hd => ?_)
      · rw [List.length_map, sortR_len]
        have := fold_len m []
        unfold uniq
        simp at this; omega
      · obtain ⟨i, _, rfl⟩ := List.mem_map.mp hd; exact .int i
  have h7 := eq_refl 2 (K + 2) (v := .tup [.str "value", co m]) (.tup (by simp) (fun d hd => by
    rcases List.mem_cons.mp hd with rfl | hd
    · exact .str _
    · have : d = co m := by simpa using hd
      subst this; exact nco))
  obtain ⟨s', q', lp⟩ := l2_loop (P (K + 5)) sc dr n row m t h13 h12 h7 s hs
  refine ⟨m, s', hm, q', ?_⟩
  have g4 : evS (P (K + 5)) [] q15_4 (E1 sc dr n row s t) = .ok (.nx, [.ow (.sh sc), .ow (.lst dr), .ow (.sh (.int n)), .ow (.sh row), s, .ow (.lst (m.map iT)), .no, .no, .no, .no, .no, t, .no, .no, .no]) := by
    simp [q15_4, D.tyName, ev_isi_t, isTy, fillA, backA, goneA, cm_le_ii, cm_lt_ii, getV, Fn.run, Fn.run0, evSs, evS, evT, evAll, evAny, evO, evE, evOs, evEs, evAs, evB, evAnd, evOr, CH.R.bind, R.ofO, CH.Env.tree, CH.Env.own, CH.Env.ownL, OT.getP, lock, unlock, outs, tru_b, ev_eq_ii, ev_ne_ii, ev_lt_ii, ev_le_ii, ev_gt_ii, ev_ge_ii, ev_add_ii, ev_sub_ii, ev_neg_i, ev_int_i, ev_abs_i, ev_len_l, ev_len_t, ev_len_f, ev_idx, mulOk_r, ev_mul_ii, OT.toD, hn]
  have ls : Op.ev (.bi .list) [.lst (m.map iT)] = some (newL (m.map .int)) := by
    show ((leaves (m.map iT)).map newL) = _
    rw [leaves_i]; rfl
  have g5 : evS (P (K + 5)) [] q15_5 [.ow (.sh sc), .ow (.lst dr), .ow (.sh (.int n)), .ow (.sh row), s, .ow (.lst (m.map iT)), .no, .no, .no, .no, .no, t, .no, .no, .no] = .ok (.nx, [.ow (.sh sc), .ow (.lst dr), .ow (.sh (.int n)), .ow (.sh row), s, .ow (.lst (m.map iT)), .ow (newL (m.map .int)), .no, .no, .no, .no, t, .no, .no, .no]) := by
    simp [q15_5, D.tyName, ev_isi_t, isTy, fillA, backA, goneA, cm_le_ii, cm_lt_ii, getV, Fn.run, Fn.run0, evSs, evS, evT, evAll, evAny, evO, evE, evOs, evEs, evAs, evB, evAnd, evOr, CH.R.bind, R.ofO, CH.Env.tree, CH.Env.own, CH.Env.ownL, OT.getP, lock, unlock, outs, tru_b, ev_eq_ii, ev_ne_ii, ev_lt_ii, ev_le_ii, ev_gt_ii, ev_ge_ii, ev_add_ii, ev_sub_ii, ev_neg_i, ev_int_i, ev_abs_i, ev_len_l, ev_len_t, ev_len_f, ev_idx, mulOk_r, ev_mul_ii, OT.toD, ls]
  have tp : Op.ev (.bi .tuple) [.lst (m.map iT)] = some (.sh (.tup (m.map .int))) := by
    show ((leaves (m.map iT)).map fun ds => OT.sh (.tup ds)) = _
    rw [leaves_i]; rfl
  have td : (newL (m.map .int)).toD = .lst (m.map .int) := by unfold newL OT.toD; rw [toDs_sh]
  have hI : evI (P (K + 5)) [] (.seq (.e (.lst (.cons (.mv 6) (.cons (.op (.bi .tuple) (.cons (.bor 5 []) .nil)) (.cons (.mv 6) .nil)))))) [.ow (.sh sc), .ow (.lst dr), .ow (.sh (.int n)), .ow (.sh row), s, .ow (.lst (m.map iT)), .ow (newL (m.map .int)), .no, .no, .no, .no, t, .no, .no, .no] = .ok ([.lst (m.map .int), .tup (m.map .int), .lst (m.map .int)], E2 sc dr n row m t s (.ow (.lst (m.map iT)))) := by
    generalize newL (m.map .int) = N at td
    simp [evI, evE, evEs, evOs, CH.R.bind, CH.Env.own, CH.Env.tree, OT.getP, lock, unlock, td, tp, big, OT.items, leaves]
    simp [OT.toD]
  rw [ss_next g4, ss_next g5]
  rw [ss_next (s := q15_6) (ρ1 := E2 sc dr n row m t s' (.ow (.sh (.lst (m.map .int))))) (by unfold q15_6; rw [evS, hI]; simp only [CH.R.bind, backI]; rw [lp])]
end K02
end
section
namespace K02
open PySem L2 Evl PyProof.Rows CH
theorem eqs_refl : ∀ ds : List D, (∀ d ∈ ds, eq1 d d = true) → eqs1 ds ds = true
  | [], _ => rfl
  | d :: ds, h => by
    show (eq1 d d && eqs1 ds ds) = true
    rw [h d (by simp), eqs_refl ds fun e he => h e (by simp [he])]; rfl
theorem oks_all : ∀ (ds : List D), (∀ d ∈ ds, d.ok 1 = true) → oks 1 ds = true
  | [], _ => rfl
  | d :: ds, h => by
    show (d.ok 1 && oks 1 ds) = true
    rw [h d (by simp), oks_all ds fun e he => h e (by simp [he])]; rfl
/-- a leaf of the bad row -/
def Lf (d : D) : Prop := Pl d ∧ Nl 0 d ∧ eq1 d d = true ∧ d.ok 1 = true
theorem Lf.int (i : Int) : Lf (.int i) := ⟨.int i, .int i, by rw [eq1_int]; simp, rfl⟩
theorem law_c (K : Nat) (sc : D) (n a1 a2 a3 : Int) (h2 : 0 ≤ a2 ∧ a2 < 9) (h3 : 0 ≤ a3 ∧ a3 < 4) (row : D) (m : List Int) (hm : m.length ≤ 8) (t s : Sl) (hs : qS s) (rest : CSs) : ∃ (A : Int) (B : D) (s' : Sl), qS s' ∧
    evSs (P (K + 5)) [] (.cons q15_7 (.cons q15_8 (.cons q15_9 rest))) (E2 sc [iT n, iT a1, iT a2, iT a3] n row m t s (.ow (.sh (.lst (m.map .int))))) = evSs (P (K + 5)) [] rest (E3 sc [iT n, iT a1, iT a2, iT a3] n row (.lst (m.map .int)) A B t s' .no) := by
  unfold E2
  have i2 : idxEv (.lst [iT n, iT a1, iT a2, iT a3]) 2 = some (.sh (.int a2)) := idx_ow [n, a1, a2, a3] 2 (by simp)
  have i3 : idxEv (.lst [iT n, iT a1, iT a2, iT a3]) 3 = some (.sh (.int a3)) := idx_ow [n, a1, a2, a3] 3 (by simp)
  have lf : ∀ d ∈ m.map D.int, Lf d := fun d hd => by obtain ⟨i, _, rfl⟩ := List.mem_map.mp hd; exact Lf.int i
  have hq : (m.map D.int).length ≤ 8 := by rw [List.length_map]; exact hm
  generalize m.map D.int = Q at lf hq
  have ln : Op.ev (.bi .len) [.sh (.lst Q)] = some (.sh (.int Q.length)) := rfl
  have m1 := ev_mod_ii a2 (1 + (Q.length : Int)) (by omega)
  generalize (Q.length : Int) = L at ln m1
  have g7 : evS (P (K + 5)) [] q15_7 [.ow (.sh sc), .ow (.lst [iT n, iT a1, iT a2, iT a3]), .ow (.sh (.int n)), .ow (.sh row), s, .ow (.sh (.lst Q)), .ow (.sh (.lst Q)), .no, .no, .no, .no, t, .no, .no, .no] = .ok (.nx, [.ow (.sh sc), .ow (.lst [iT n, iT a1, iT a2, iT a3]), .ow (.sh (.int n)), .ow (.sh row), s, .ow (.sh (.lst Q)), .ow (.sh (.lst Q)), .ow (.sh (.int (a2 % (1 + L)))), .no, .no, .no, t, .no, .no, .no]) := by
    simp [q15_7, evS, evE, evOs, CH.R.bind, CH.Env.tree, OT.getP, lock, unlock, ln, ev_idx, i2, ev_int_i, ev_add_ii, m1]
  generalize a2 % (1 + L) = A at g7
  have ex : ∃ e, Lf e ∧ okL e = false ∧ idxEv (.lst [.sh (.int 0), .sh (.bl true), .sh .non, .sh (.str "1")]) a3 = some (.sh e) := by
    have : a3 = 0 ∨ a3 = 1 ∨ a3 = 2 ∨ a3 = 3 := by omega
    rcases this with rfl | rfl | rfl | rfl
    · exact ⟨_, Lf.int 0, rfl, rfl⟩
    · exact ⟨_, ⟨.bl true, .bl true, rfl, rfl⟩, rfl, rfl⟩
    · exact ⟨_, ⟨.non, .non, rfl, rfl⟩, rfl, rfl⟩
    · exact ⟨_, ⟨.str (by decide +kernel), .str _, by decide +kernel, by decide +kernel⟩, rfl, rfl⟩
  obtain ⟨e, le, oe, ie⟩ := ex
  have sl1 : slcEv none (some A) (.sh (.lst Q)) = some (newL (CH.cutD Q none (some A))) := rfl
  have sl2 : slcEv (some A) none (.sh (.lst Q)) = some (newL (CH.cutD Q (some A) none)) := rfl
  have c1 := cut_len Q none (some A)
  have c2 := cut_len Q (some A) none
  have ad : ∀ X Y : List D, X.length + Y.length ≤ 1000 → Op.ev (.bin .add) [newL X, newL Y] = some (newL (X ++ Y)) := fun X Y h => by
    show ((OT.litems (newL X)).bind fun a => (OT.litems (newL Y)).bind fun b => guard_ (decide (a.length + b.length ≤ big)) (newL (a ++ b))) = _
    unfold newL
    rw [litems_sh, litems_sh]
    simp only [Option.bind_some]
    rw [decide_eq_true (by simp only [big]; omega)]
    rfl
  have ad1 := ad (CH.cutD Q none (some A)) [e] (by simp; omega)
  have ad2 := ad (CH.cutD Q none (some A) ++ [e]) (CH.cutD Q (some A) none) (by simp; omega)
  have lB : ∀ d ∈ CH.cutD Q none (some A) ++ [e] ++ CH.cutD Q (some A) none, Lf d := fun d hd => by
    rcases List.mem_append.mp hd with hd | hd
    · rcases List.mem_append.mp hd with hd | hd
      · exact lf d (cut_mem hd)
      · have : d = e := by simpa using hd
        subst this; exact le
    · exact lf d (cut_mem hd)
  have eB : e ∈ CH.cutD Q none (some A) ++ [e] ++ CH.cutD Q (some A) none := by simp
  have nB : (CH.cutD Q none (some A) ++ [e] ++ CH.cutD Q (some A) none).length < 1000 := by simp; omega
  generalize CH.cutD Q (some A) none = Y at sl2 ad2 lB eB nB
  generalize CH.cutD Q none (some A) = X at sl1 ad1 ad2 lB eB nB
  generalize hBs : X ++ [e] ++ Y = Bs at ad2 lB eB nB
  have g8 : evS (P (K + 5)) [] q15_8 [.ow (.sh sc), .ow (.lst [iT n, iT a1, iT a2, iT a3]), .ow (.sh (.int n)), .ow (.sh row), s, .ow (.sh (.lst Q)), .ow (.sh (.lst Q)), .ow (.sh (.int A)), .no, .no, .no, t, .no, .no, .no] = .ok (.nx, [.ow (.sh sc), .ow (.lst [iT n, iT a1, iT a2, iT a3]), .ow (.sh (.int n)), .ow (.sh row), s, .ow (.sh (.lst Q)), .ow (.sh (.lst Q)), .ow (.sh (.int A)), .ow (newL Bs), .no, .no, t, .no, .no, .no]) := by
    have ad1' : Op.ev (.bin .add) [newL X, .lst [.sh e]] = some (newL (X ++ [e])) := ad1
    generalize newL Bs = NB at ad2
    generalize newL (X ++ [e]) = N1 at ad1' ad2
    generalize newL X = NX at ad1' sl1
    generalize newL Y = NY at ad2 sl2
    simp [q15_8, evS, evE, evEs, evOs, evB, getV, CH.b2, CH.R.bind, CH.Env.tree, OT.getP, lock, unlock, sl1, sl2, ev_idx, i3, ie, ad1', ad2, big]
  have bd : badR (.lst Bs) = true ∧ badR (.tup Bs) = true := by
    have : Bs.all okL = false := by
      rw [List.all_eq_false]
      exact ⟨e, eB, by simp [oe]⟩
    exact ⟨by simp [badR, this], by simp [badR, this]⟩
  have pB : ∀ d ∈ Bs, Pl d := fun d hd => (lB d hd).1
  have ok1 : oks 1 Bs = true := oks_all Bs fun d hd => (lB d hd).2.2.2
  have he : Op.ev (.cmp .eq) [.sh (.lst Bs), .sh (.lst Bs)] = some (.sh (.bl true)) := by
    show (eqD (.lst Bs) (.lst Bs)).map _ = _
    rw [eqD_ok (n := 2) (show D.ok 2 (.lst Bs) = true from ok1) (show D.ok 2 (.lst Bs) = true from ok1) (by decide), eq1_lst (n := 1) ok1 ok1, eqs_refl Bs fun d hd => (lB d hd).2.2.1]
    rfl
  obtain ⟨s', t', q1, q2, lp⟩ := l3_loop (P (K + 5)) sc [iT n, iT a1, iT a2, iT a3] n row (.lst Q) A (.lst Bs) t [.tup Bs, .lst Bs, .non, .int 5, .str "12"] (fun v hv => by
    simp only [List.mem_cons, List.not_mem_nil, or_false] at hv
    rcases hv with rfl | rfl | rfl | rfl | rfl
    · exact refused_n K 1 (.tup (by omega) pB) (.tup (by omega) fun d hd => (lB d hd).2.1) (fun ds h => by cases h) bd.2
    · exact refused_l (K + 1) Bs (.lst (by omega) pB) bd.1 he
    · exact refused_n K 1 .non .non (fun ds h => by cases h) rfl
    · exact refused_n K 1 (.int 5) (.int 5) (fun ds h => by cases h) rfl
    · exact refused_n K 1 (.str (by decide +kernel)) (.str _) (fun ds h => by cases h) rfl) s hs
  subst q2
  refine ⟨A, .lst Bs, s', q1, ?_⟩
  have tp : Op.ev (.bi .tuple) [newL Bs] = some (.sh (.tup Bs)) := by
    show ((OT.litems (newL Bs)).map fun ds => OT.sh (.tup ds)) = _
    unfold newL
    rw [litems_sh]; rfl
  have td : (newL Bs).toD = .lst Bs := by unfold newL OT.toD; rw [toDs_sh]
  have hI : evI (P (K + 5)) [] (.seq (.e (.lst (.cons (.op (.bi .tuple) (.cons (.bor 8 []) .nil)) (.cons (.mv 8) (.cons (.c .non) (.cons (.c (.int 5)) (.cons (.c (.str "12")) .nil)))))))) [.ow (.sh sc), .ow (.lst [iT n, iT a1, iT a2, iT a3]), .ow (.sh (.int n)), .ow (.sh row), s, .ow (.sh (.lst Q)), .ow (.sh (.lst Q)), .ow (.sh (.int A)), .ow (newL Bs), .no, .no, t, .no, .no, .no] = .ok ([.tup Bs, .lst Bs, .non, .int 5, .str "12"], E3 sc [iT n, iT a1, iT a2, iT a3] n row (.lst Q) A (.lst Bs) t s .no) := by
    generalize newL Bs = NB at tp td
    simp [evI, evE, evEs, evOs, CH.R.bind, CH.Env.own, CH.Env.tree, OT.getP, lock, unlock, td, tp, big, OT.items, leaves]
  show evSs (P (K + 5)) [] _ [.ow (.sh sc), .ow (.lst [iT n, iT a1, iT a2, iT a3]), .ow (.sh (.int n)), .ow (.sh row), s, .ow (.sh (.lst Q)), .ow (.sh (.lst Q)), .no, .no, .no, .no, t, .no, .no, .no] = _
  rw [ss_next g7, ss_next g8]
  rw [ss_next (s := q15_9) (ρ1 := E3 sc [iT n, iT a1, iT a2, iT a3] n row (.lst Q) A (.lst Bs) t s' .no) (by unfold q15_9; rw [evS, hI]; simp only [CH.R.bind, backI]; rw [lp])]
end K02
end
section
namespace K02
open PySem L2 Evl PyProof.Rows CH
theorem law_d (K : Nat) (ns : List Int) (hl : ns.length ≤ 63) (dr : List OT) (n : Int) (hn : 0 ≤ n ∧ n ≤ 10) (r : List Int) (hr : r.length ≤ 10) (L : D) (A : Int) (B : D) (u s : Sl) (hs : qS s) :
    ∃ ρ', evSs (P (K + 5)) [] (.cons q15_10 (.cons q15_11 (.cons q15_12 (.cons q15_13 .nil)))) (E3 (.flst (ns.map .int)) dr n (.tup (r.map .int)) L A B u s .no) = .ok (.rt (.sh (.bl true)), ρ') := by
  obtain ⟨o, ho, ho2⟩ := row_run (K + 3) ns 5 n hl (by omega) hn
  generalize D.flst (ns.map .int) = sc at ho2
  have p1 : Pl (.int 1) := .int 1
  have p2 : Pl (.int 2) := .int 2
  have pl1 : Pl (.lst [.int 1]) := .lst (by simp) (fun d hd => by have : d = .int 1 := by simpa using hd
                                                                  subst this; exact p1)
  have pt1 : Pl (.tup [.int 1]) := .tup (by simp) (fun d hd => by have : d = .int 1 := by simpa using hd
                                                                  subst this; exact p1)
  have pair : ∀ a b : D, Pl a → Pl b → Pl (.tup [a, b]) := fun a b ha hb => .tup (by simp) (fun d hd => by
    simp only [List.mem_cons, List.not_mem_nil, or_false] at hd
    rcases hd with rfl | rfl
    · exact ha
    · exact hb)
  obtain ⟨s', t', q1, q2, lp⟩ := l4_loop (P (K + 5)) sc dr n (.tup (r.map .int)) L A B u [.tup [.lst [.int 1], .int 2], .tup [.int 2, .lst [.int 1]], .tup [.tup [.int 1], .int 2]] (fun v hv => by
    simp only [List.mem_cons, List.not_mem_nil, or_false] at hv
    rcases hv with rfl | rfl | rfl
    · exact ⟨told_bad (K + 2) (pair _ _ pl1 p2) rfl, by kernel_rfl⟩
    · exact ⟨told_bad (K + 2) (pair _ _ p2 pl1) rfl, by kernel_rfl⟩
    · exact ⟨told_bad (K + 2) (pair _ _ pt1 p2) rfl, by kernel_rfl⟩) s hs
  have hI4 : evI (P (K + 5)) [] (.seq (.e (.lst (.cons (.tup (.cons (.lst (.cons (.c (.int 1)) .nil)) (.cons (.c (.int 2)) .nil))) (.cons (.tup (.cons (.c (.int 2)) (.cons (.lst (.cons (.c (.int 1)) .nil)) .nil))) (.cons (.tup (.cons (.tup (.cons (.c (.int 1)) .nil)) (.cons (.c (.int 2)) .nil))) .nil)))))) (E3 sc dr n (.tup (r.map .int)) L A B u s .no) = .ok ([.tup [.lst [.int 1], .int 2], .tup [.int 2, .lst [.int 1]], .tup [.tup [.int 1], .int 2]], E3 sc dr n (.tup (r.map .int)) L A B u s .no) := by
    simp [evI, evE, evEs, CH.R.bind, big, toDs, OT.toD, OT.items, leaves]
  have g11 : evS (P (K + 5)) [] q15_11 (E3 sc dr n (.tup (r.map .int)) L A B u s' t') = .ok (.nx, E5 sc dr n (.tup (r.map .int)) L A B (.tup (o.map .int)) u s' t' .no .no) := by
    simp [q15_11, D.tyName, ev_isi_t, isTy, fillA, backA, goneA, cm_le_ii, cm_lt_ii, getV, Fn.run, Fn.run0, evSs, evS, evT, evAll, evAny, evO, evE, evOs, evEs, evAs, evB, evAnd, evOr, CH.R.bind, R.ofO, CH.Env.tree, CH.Env.own, CH.Env.ownL, OT.getP, lock, unlock, outs, tru_b, ev_eq_ii, ev_ne_ii, ev_lt_ii, ev_le_ii, ev_gt_ii, ev_ge_ii, ev_add_ii, ev_sub_ii, ev_neg_i, ev_int_i, ev_abs_i, ev_len_l, ev_len_t, ev_len_f, ev_idx, mulOk_r, ev_mul_ii, OT.toD, ho2]
  have cl : ∀ (lo hi : Option Int) (xs : List Int), (CH.cutD xs lo hi).length ≤ xs.length := fun lo hi xs => by
    unfold CH.cutD; rw [List.length_take, List.length_drop]; omega
  have ps5 : ∀ p ∈ [(r, o), (o, r), (CH.cutD r (some 1) none, r), (r, r), ([], o), (CH.cutD r none (some 2), o ++ CH.cutD r (some 2) none)], p.1.length < 100000 ∧ p.2.length < 1000 := fun p hp => by
    have k1 := cl (some 1) none r
    have k2 := cl none (some 2) r
    have k3 := cl (some 2) none r
    simp only [List.mem_cons, List.not_mem_nil, or_false] at hp
    rcases hp with rfl | rfl | rfl | rfl | rfl | rfl <;> constructor <;> simp <;> omega
  obtain ⟨s5, t5, _, _, lp5⟩ := l5_loop (P (K + 5)) sc dr n (.tup (r.map .int)) L A B (.tup (o.map .int)) u s' t' [(r, o), (o, r), (CH.cutD r (some 1) none, r), (r, r), ([], o), (CH.cutD r none (some 2), o ++ CH.cutD r (some 2) none)]
    (fun p hp => (ps5 p hp).1) (fun a b h => agrees_run (K + 4) a b h) (fun p hp => ⟨_, lcl_run (K + 4) n (.tup (by rw [List.length_map]; have := (ps5 p hp).2; omega) (fun d hd => by obtain ⟨i, _, rfl⟩ := List.mem_map.mp hd; exact .int i))⟩) (fun b => eq_bl (K + 4) b)
  have x1 : slcEv (some 1) none (.sh (.tup (r.map .int))) = some (.sh (.tup ((CH.cutD r (some 1) none).map .int))) := by rw [← cut_map]; rfl
  have x2 : slcEv none (some 2) (.sh (.tup (r.map .int))) = some (.sh (.tup ((CH.cutD r none (some 2)).map .int))) := by rw [← cut_map]; rfl
  have x3 : slcEv (some 2) none (.sh (.tup (r.map .int))) = some (.sh (.tup ((CH.cutD r (some 2) none).map .int))) := by rw [← cut_map]; rfl
  have ad := addT (o.map .int) ((CH.cutD r (some 2) none).map .int) (by rw [List.length_map, List.length_map]; have := cl (some 2) none r; omega)
  rw [← List.map_append] at ad
  simp only [List.map_cons, List.map_nil] at lp5
  have hI5 : evI (P (K + 5)) [] (.seq (.e (.lst (.cons (.tup (.cons (.mv 3) (.cons (.mv 9) .nil))) (.cons (.tup (.cons (.mv 9) (.cons (.mv 3) .nil))) (.cons (.tup (.cons (.slc (.bor 3 []) (.at (.c (.int 1))) .no) (.cons (.mv 3) .nil))) (.cons (.tup (.cons (.mv 3) (.cons (.mv 3) .nil))) (.cons (.tup (.cons (.tup .nil) (.cons (.mv 9) .nil))) (.cons (.tup (.cons (.slc (.bor 3 []) .no (.at (.c (.int 2)))) (.cons (.op (.bin .add) (.cons (.bor 9 []) (.cons (.e (.slc (.bor 3 []) (.at (.c (.int 2))) .no)) .nil))) .nil))) .nil))))))))) (E5 sc dr n (.tup (r.map .int)) L A B (.tup (o.map .int)) u s' t' .no .no) =
      .ok ([.tup [.tup (r.map .int), .tup (o.map .int)], .tup [.tup (o.map .int), .tup (r.map .int)], .tup [.tup ((CH.cutD r (some 1) none).map .int), .tup (r.map .int)], .tup [.tup (r.map .int), .tup (r.map .int)], .tup [.tup [], .tup (o.map .int)], .tup [.tup ((CH.cutD r none (some 2)).map .int), .tup ((o ++ CH.cutD r (some 2) none).map .int)]], E5 sc dr n (.tup (r.map .int)) L A B (.tup (o.map .int)) u s' t' .no .no) := by
    generalize D.tup ((o ++ CH.cutD r (some 2) none).map .int) = d6 at ad ⊢
    generalize D.tup ((CH.cutD r (some 2) none).map .int) = d5 at ad x3
    generalize D.tup ((CH.cutD r none (some 2)).map .int) = d4 at x2 ⊢
    generalize D.tup ((CH.cutD r (some 1) none).map .int) = d3 at x1 ⊢
    generalize D.tup (r.map .int) = d1 at x1 x2 x3 ⊢
    generalize D.tup (o.map .int) = d2 at ad ⊢
    simp [evI, evE, evEs, evOs, evB, CH.b2, CH.R.bind, CH.Env.own, CH.Env.tree, OT.getP, lock, unlock, x1, x2, x3, ad, big, toDs, OT.toD, OT.items, leaves]
  refine ⟨E5 sc dr n (.tup (r.map .int)) L A B (.tup (o.map .int)) u s' t' s5 t5, ?_⟩
  rw [ss_next (s := q15_10) (ρ1 := E3 sc dr n (.tup (r.map .int)) L A B u s' t') (by unfold q15_10; rw [evS, hI4]; simp only [CH.R.bind, backI]; rw [lp]), ss_next g11]
  rw [ss_next (s := q15_12) (ρ1 := E5 sc dr n (.tup (r.map .int)) L A B (.tup (o.map .int)) u s' t' s5 t5) (by unfold q15_12; rw [evS, hI5]; simp only [CH.R.bind, backI]; rw [lp5]), ss_end]
  simp [q15_13, D.tyName, ev_isi_t, isTy, fillA, backA, goneA, cm_le_ii, cm_lt_ii, getV, Fn.run, Fn.run0, evSs, evS, evT, evAll, evAny, evO, evE, evOs, evEs, evAs, evB, evAnd, evOr, CH.R.bind, R.ofO, CH.Env.tree, CH.Env.own, CH.Env.ownL, OT.getP, lock, unlock, outs, tru_b, ev_eq_ii, ev_ne_ii, ev_lt_ii, ev_le_ii, ev_gt_ii, ev_ge_ii, ev_add_ii, ev_sub_ii, ev_neg_i, ev_int_i, ev_abs_i, ev_len_l, ev_len_t, ev_len_f, ev_idx, mulOk_r, ev_mul_ii, OT.toD]
theorem hrun : ∀ ns : List Int, ns.length ≤ 63 → ∃ ws, runD (tbOf ents) 6 15 [.sh (.flst (ns.map .int))] = .ok (.sh (.bl true), ws) := by
  intro ns hl
  obtain ⟨dr, n, a1, a2, a3, r, s, t, rfl, hn, h2, h3, hr, hs, ht, ea⟩ := law_a 0 ns hl
  obtain ⟨m, s1, hm, q1, eb⟩ := law_b 0 ns hl [iT n, iT a1, iT a2, iT a3] n (.tup (r.map .int)) s t hs (.cons q15_7 (.cons q15_8 (.cons q15_9 (.cons q15_10 (.cons q15_11 (.cons q15_12 (.cons q15_13 .nil)))))))
  obtain ⟨A, B, s2, q2, ec⟩ := law_c 0 (.flst (ns.map .int)) n a1 a2 a3 h2 h3 (.tup (r.map .int)) m hm t s1 q1 (.cons q15_10 (.cons q15_11 (.cons q15_12 (.cons q15_13 .nil))))
  obtain ⟨ρ', ed⟩ := law_d 0 ns hl [iT n, iT a1, iT a2, iT a3] n hn r hr (.lst (m.map .int)) A B t s2 q2
  rw [eb, ec, ed] at ea
  show ∃ ws, P 6 15 _ = _
  rw [step 5 15 _ f15 t15]
  exact ⟨_, run_rt (fn := f15) (ts := [.sh (.flst (ns.map .int))]) rfl ea rfl⟩
end K02
end
namespace K02
section
open PySem L2 Evl PyProof.Rows CH
theorem ok0 : e0.good ents bns dcs exs cls = true := by decide +kernel
theorem ok1 : e1.good ents bns dcs exs cls = true := by decide +kernel
theorem ok2 : e2.good ents bns dcs exs cls = true := by decide +kernel
theorem ok3 : e3.good ents bns dcs exs cls = true := by decide +kernel
theorem ok4 : e4.good ents bns dcs exs cls = true := by decide +kernel
theorem ok5 : e5.good ents bns dcs exs cls = true := by decide +kernel
theorem ok6 : e6.good ents bns dcs exs cls = true := by decide +kernel
theorem ok7 : e7.good ents bns dcs exs cls = true := by decide +kernel
theorem ok8 : e8.good ents bns dcs exs cls = true := by decide +kernel
theorem ok9 : e9.good ents bns dcs exs cls = true := by decide +kernel
theorem ok10 : e10.good ents bns dcs exs cls = true := by decide +kernel
theorem ok11 : e11.good ents bns dcs exs cls = true := by decide +kernel
theorem ok12 : e12.good ents bns dcs exs cls = true := by decide +kernel
theorem ok13 : e13.good ents bns dcs exs cls = true := by decide +kernel
theorem ok14 : e14.good ents bns dcs exs cls = true := by decide +kernel
theorem ok15 : e15.good ents bns dcs exs cls = true := by decide +kernel
theorem oks : ∀ e ∈ ents, e.good ents bns dcs exs cls = true := by
  have h : ∀ e, e ∈ ents ↔ e ∈ [e0, e1, e2, e3, e4, e5, e6, e7, e8, e9, e10, e11, e12, e13, e14, e15] := fun e => Iff.rfl
  intro e he
  rw [h] at he
  simp only [List.mem_cons, List.not_mem_nil, or_false] at he
  rcases he with rfl | rfl | rfl | rfl | rfl | rfl | rfl | rfl | rfl | rfl | rfl | rfl | rfl | rfl | rfl | rfl
  · exact ok0
  · exact ok1
  · exact ok2
  · exact ok3
  · exact ok4
  · exact ok5
  · exact ok6
  · exact ok7
  · exact ok8
  · exact ok9
  · exact ok10
  · exact ok11
  · exact ok12
  · exact ok13
  · exact ok14
  · exact ok15
theorem top_mk {K : PySem.W.Frag} {w : World} {h : Heap} {mg : Str → Option Value} (X : K.In h) (G : h.Ns mainGlobals mg)
    {g0 : Addr} {od0 an0 : Option Addr} {sl0 : Array (Option Value)} {oc0 kV0 dc0 pm0 cd0 ct0 : Value}
    {g1 : Addr} {od1 an1 : Option Addr} {sl1 : Array (Option Value)} {oc1 kV1 dc1 pm1 cd1 ct1 : Value}
    {g2 : Addr} {od2 an2 : Option Addr} {sl2 : Array (Option Value)} {oc2 kV2 dc2 pm2 cd2 ct2 : Value}
    {g3 : Addr} {od3 an3 : Option Addr} {sl3 : Array (Option Value)} {oc3 kV3 dc3 pm3 cd3 ct3 : Value}
    {g4 : Addr} {od4 an4 : Option Addr} {sl4 : Array (Option Value)} {oc4 kV4 dc4 pm4 cd4 ct4 : Value}
    {g5 : Addr} {od5 an5 : Option Addr} {sl5 : Array (Option Value)} {oc5 kV5 dc5 pm5 cd5 ct5 : Value}
    {g6 : Addr} {od6 an6 : Option Addr} {sl6 : Array (Option Value)} {oc6 kV6 dc6 pm6 cd6 ct6 : Value}
    {g7 : Addr} {od7 an7 : Option Addr} {sl7 : Array (Option Value)} {oc7 kV7 dc7 pm7 cd7 ct7 : Value}
    {g8 : Addr} {od8 an8 : Option Addr} {sl8 : Array (Option Value)} {oc8 kV8 dc8 pm8 cd8 ct8 : Value}
    {g9 : Addr} {od9 an9 : Option Addr} {sl9 : Array (Option Value)} {oc9 kV9 dc9 pm9 cd9 ct9 : Value}
    {g10 : Addr} {od10 an10 : Option Addr} {sl10 : Array (Option Value)} {oc10 kV10 dc10 pm10 cd10 ct10 : Value}
    {g11 : Addr} {od11 an11 : Option Addr} {sl11 : Array (Option Value)} {oc11 kV11 dc11 pm11 cd11 ct11 : Value}
    {g12 : Addr} {od12 an12 : Option Addr} {sl12 : Array (Option Value)} {oc12 kV12 dc12 pm12 cd12 ct12 : Value}
    {g13 : Addr} {od13 an13 : Option Addr} {sl13 : Array (Option Value)} {oc13 kV13 dc13 pm13 cd13 ct13 : Value}
    {g14 : Addr} {od14 an14 : Option Addr} {sl14 : Array (Option Value)} {oc14 kV14 dc14 pm14 cd14 ct14 : Value}
    {g15 : Addr} {od15 an15 : Option Addr} {sl15 : Array (Option Value)} {oc15 kV15 dc15 pm15 cd15 ct15 : Value}
    (a0 : PySem.W.nsIn K mainGlobals e0.name = some (some (.ref g0))) (l0 : K.lookup g0 = some ⟨oc0, od0, .func (PySem.W.fnOf e0.name e0.name (defArgs e0.st) (defBody e0.st) (defScope e0.st) .none kV0 dc0 pm0 an0 cd0 ct0), sl0⟩) (c0 : PySem.W.codeIn K cd0 e0.name = true) (k0 : PySem.W.keepIn K (.ref g0) = true)
    (a1 : PySem.W.nsIn K mainGlobals e1.name = some (some (.ref g1))) (l1 : K.lookup g1 = some ⟨oc1, od1, .func (PySem.W.fnOf e1.name e1.name (defArgs e1.st) (defBody e1.st) (defScope e1.st) .none kV1 dc1 pm1 an1 cd1 ct1), sl1⟩) (c1 : PySem.W.codeIn K cd1 e1.name = true) (k1 : PySem.W.keepIn K (.ref g1) = true)
    (a2 : PySem.W.nsIn K mainGlobals e2.name = some (some (.ref g2))) (l2 : K.lookup g2 = some ⟨oc2, od2, .func (PySem.W.fnOf e2.name e2.name (defArgs e2.st) (defBody e2.st) (defScope e2.st) .none kV2 dc2 pm2 an2 cd2 ct2), sl2⟩) (c2 : PySem.W.codeIn K cd2 e2.name = true) (k2 : PySem.W.keepIn K (.ref g2) = true)
    (a3 : PySem.W.nsIn K mainGlobals e3.name = some (some (.ref g3))) (l3 : K.lookup g3 = some ⟨oc3, od3, .func (PySem.W.fnOf e3.name e3.name (defArgs e3.st) (defBody e3.st) (defScope e3.st) .none kV3 dc3 pm3 an3 cd3 ct3), sl3⟩) (c3 : PySem.W.codeIn K cd3 e3.name = true) (k3 : PySem.W.keepIn K (.ref g3) = true)
    (a4 : PySem.W.nsIn K mainGlobals e4.name = some (some (.ref g4))) (l4 : K.lookup g4 = some ⟨oc4, od4, .func (PySem.W.fnOf e4.name e4.name (defArgs e4.st) (defBody e4.st) (defScope e4.st) .none kV4 dc4 pm4 an4 cd4 ct4), sl4⟩) (c4 : PySem.W.codeIn K cd4 e4.name = true) (k4 : PySem.W.keepIn K (.ref g4) = true)
    (a5 : PySem.W.nsIn K mainGlobals e5.name = some (some (.ref g5))) (l5 : K.lookup g5 = some ⟨oc5, od5, .func (PySem.W.fnOf e5.name e5.name (defArgs e5.st) (defBody e5.st) (defScope e5.st) .none kV5 dc5 pm5 an5 cd5 ct5), sl5⟩) (c5 : PySem.W.codeIn K cd5 e5.name = true) (k5 : PySem.W.keepIn K (.ref g5) = true)
    (a6 : PySem.W.nsIn K mainGlobals e6.name = some (some (.ref g6))) (l6 : K.lookup g6 = some ⟨oc6, od6, .func (PySem.W.fnOf e6.name e6.name (defArgs e6.st) (defBody e6.st) (defScope e6.st) .none kV6 dc6 pm6 an6 cd6 ct6), sl6⟩) (c6 : PySem.W.codeIn K cd6 e6.name = true) (k6 : PySem.W.keepIn K (.ref g6) = true)
    (a7 : PySem.W.nsIn K mainGlobals e7.name = some (some (.ref g7))) (l7 : K.lookup g7 = some ⟨oc7, od7, .func (PySem.W.fnOf e7.name e7.name (defArgs e7.st) (defBody e7.st) (defScope e7.st) .none kV7 dc7 pm7 an7 cd7 ct7), sl7⟩) (c7 : PySem.W.codeIn K cd7 e7.name = true) (k7 : PySem.W.keepIn K (.ref g7) = true)
    (a8 : PySem.W.nsIn K mainGlobals e8.name = some (some (.ref g8))) (l8 : K.lookup g8 = some ⟨oc8, od8, .func (PySem.W.fnOf e8.name e8.name (defArgs e8.st) (defBody e8.st) (defScope e8.st) .none kV8 dc8 pm8 an8 cd8 ct8), sl8⟩) (c8 : PySem.W.codeIn K cd8 e8.name = true) (k8 : PySem.W.keepIn K (.ref g8) = true)
    (a9 : PySem.W.nsIn K mainGlobals e9.name = some (some (.ref g9))) (l9 : K.lookup g9 = some ⟨oc9, od9, .func (PySem.W.fnOf e9.name e9.name (defArgs e9.st) (defBody e9.st) (defScope e9.st) .none kV9 dc9 pm9 an9 cd9 ct9), sl9⟩) (c9 : PySem.W.codeIn K cd9 e9.name = true) (k9 : PySem.W.keepIn K (.ref g9) = true)
    (a10 : PySem.W.nsIn K mainGlobals e10.name = some (some (.ref g10))) (l10 : K.lookup g10 = some ⟨oc10, od10, .func (PySem.W.fnOf e10.name e10.name (defArgs e10.st) (defBody e10.st) (defScope e10.st) .none kV10 dc10 pm10 an10 cd10 ct10), sl10⟩) (c10 : PySem.W.codeIn K cd10 e10.name = true) (k10 : PySem.W.keepIn K (.ref g10) = true)
    (a11 : PySem.W.nsIn K mainGlobals e11.name = some (some (.ref g11))) (l11 : K.lookup g11 = some ⟨oc11, od11, .func (PySem.W.fnOf e11.name e11.name (defArgs e11.st) (defBody e11.st) (defScope e11.st) .none kV11 dc11 pm11 an11 cd11 ct11), sl11⟩) (c11 : PySem.W.codeIn K cd11 e11.name = true) (k11 : PySem.W.keepIn K (.ref g11) = true)
    (a12 : PySem.W.nsIn K mainGlobals e12.name = some (some (.ref g12))) (l12 : K.lookup g12 = some ⟨oc12, od12, .func (PySem.W.fnOf e12.name e12.name (defArgs e12.st) (defBody e12.st) (defScope e12.st) .none kV12 dc12 pm12 an12 cd12 ct12), sl12⟩) (c12 : PySem.W.codeIn K cd12 e12.name = true) (k12 : PySem.W.keepIn K (.ref g12) = true)
    (a13 : PySem.W.nsIn K mainGlobals e13.name = some (some (.ref g13))) (l13 : K.lookup g13 = some ⟨oc13, od13, .func (PySem.W.fnOf e13.name e13.name (defArgs e13.st) (defBody e13.st) (defScope e13.st) .none kV13 dc13 pm13 an13 cd13 ct13), sl13⟩) (c13 : PySem.W.codeIn K cd13 e13.name = true) (k13 : PySem.W.keepIn K (.ref g13) = true)
    (a14 : PySem.W.nsIn K mainGlobals e14.name = some (some (.ref g14))) (l14 : K.lookup g14 = some ⟨oc14, od14, .func (PySem.W.fnOf e14.name e14.name (defArgs e14.st) (defBody e14.st) (defScope e14.st) .none kV14 dc14 pm14 an14 cd14 ct14), sl14⟩) (c14 : PySem.W.codeIn K cd14 e14.name = true) (k14 : PySem.W.keepIn K (.ref g14) = true)
    (a15 : PySem.W.nsIn K mainGlobals e15.name = some (some (.ref g15))) (l15 : K.lookup g15 = some ⟨oc15, od15, .func (PySem.W.fnOf e15.name e15.name (defArgs e15.st) (defBody e15.st) (defScope e15.st) .none kV15 dc15 pm15 an15 cd15 ct15), sl15⟩) (c15 : PySem.W.codeIn K cd15 e15.name = true) (k15 : PySem.W.keepIn K (.ref g15) = true)
    (z0 : PySem.W.nsIn K mainGlobals "abs" = some none)
    (z1 : PySem.W.nsIn K mainGlobals "all" = some none)
    (z2 : PySem.W.nsIn K mainGlobals "any" = some none)
    (z3 : PySem.W.nsIn K mainGlobals "bool" = some none)
    (z4 : PySem.W.nsIn K mainGlobals "int" = some none)
    (z5 : PySem.W.nsIn K mainGlobals "isinstance" = some none)
    (z6 : PySem.W.nsIn K mainGlobals "len" = some none)
    (z7 : PySem.W.nsIn K mainGlobals "list" = some none)
    (z8 : PySem.W.nsIn K mainGlobals "max" = some none)
    (z9 : PySem.W.nsIn K mainGlobals "range" = some none)
    (z10 : PySem.W.nsIn K mainGlobals "sorted" = some none)
    (z11 : PySem.W.nsIn K mainGlobals "str" = some none)
    (z12 : PySem.W.nsIn K mainGlobals "tuple" = some none)
    (noS : PySem.W.nsIn K mainGlobals "super" = some none) (opq : PySem.W.nsIn K cStatics "thirdparty.any" = some none)
    {C0 fI0 : Addr} (n_0 : PySem.W.nsIn K mainGlobals "InvalidLiterals" = some (some (.ref C0)))
    {nm0 q0 : Str} {N0 : Addr} {bs0 bm0 : List Value} {sn0 : List Str} {sub0 : List Value} {ab0 : Bool} {col0 : Option Bool} {dd0 : Option Addr} {ka0 kb0 kc0 kd0 ke0 : Option Value}
    (cl0 : K.lookup C0 = some (excClassObj nm0 q0 C0 N0 bs0 bm0 true sn0 sub0 ab0 col0 dd0 ka0 kb0 kc0 kd0 ke0 "ValueError.__new__")) (rv0 : PySem.HandSPX.refsVE bm0 = true)
    (sa0 : PySem.W.findIn K (.ref C0) "__setattr__" = some (some (.builtin "object.__setattr__"))) (ga0 : PySem.W.findIn K (.ref C0) "__getattribute__" = some (some (.builtin "BaseException.__getattribute__"))) (gg0 : PySem.W.findIn K (.ref C0) "__getattr__" = some none)
    (no0_0 : PySem.W.findIn K (.ref C0) "value" = some none)
    (iC0 : PySem.W.findIn K (.ref C0) "__init__" = some (some (.ref fI0))) (tC0 : PySem.W.typeIn K (.ref fI0) = some (.type "function")) (kC0 : PySem.W.keepIn K (.ref C0) = true)
    (exC0 : PySem.W.subIn K (.ref C0) (.type "BaseException") = some true) (veC0 : PySem.W.subIn K (.ref C0) (.type "ValueError") = some true) (tyC0 : PySem.W.typeIn K (.ref C0) = some (.type "type")) (hdC0 : PySem.W.hasDictIn K C0 = true)
    (sup0 : PySem.W.ks_superIn K C0 C0 "__init__" = some (some (.builtin "ValueError.__init__"))) (meC0 : PySem.W.mroIn K C0 (.ref C0) = some true)
    {oc_0 : Value} {od_0 : Option Addr} {doc0 pm_0 : Value} {an_0 : Option Addr} {cda0 cc0 : Addr} {ct_0 : Value} {osl0 : Array (Option Value)} {qual0 : Str} {params0 : Arguments} {body0 : List Stmt} {scope0 : Scope}
    (lf0 : K.lookup fI0 = some ⟨oc_0, od_0, .func (PySem.W.ksFn "__init__" qual0 params0 body0 scope0 .none .none doc0 pm_0 an_0 (.ref cda0) ct_0 cc0), osl0⟩) (cd_0 : PySem.W.codeIn K (.ref cda0) qual0 = true)
    {ccl0 : Value} {cdd0 : Option Addr} {vs0 : Array Value} {ccs0 : Array (Option Value)} {file0 : Str} {tf0 : Tok} (lc0 : K.lookup cda0 = some ⟨ccl0, cdd0, .fields vs0, ccs0⟩) (v20 : vs0[2]? = some (.str file0 tf0)) (fl0 : ((PySem.Challenge.pw_clausehold_k02_clauses_and_rows.main.file : Str) == file0) = true)
    {cl_0 : Value} {cld0 : Option Addr} {csl0 : Array (Option Value)} (lcc0 : K.lookup cc0 = some ⟨cl_0, cld0, .cell (some (.ref C0)), csl0⟩)
    (sf0 : ∃ ar : Arg, (params0.posonlyargs ++ params0.args).head? = some ar ∧ ar.arg = "self")
    (bd0 : ∀ (s : Shared) (u : Value) (vs : List Value), vs.length = 1 → BindsTo s (PySem.W.ksFn "__init__" qual0 params0 body0 scope0 .none .none doc0 pm_0 an_0 (.ref cda0) ct_0 cc0) ⟨u :: vs, []⟩ (("self", u) :: List.zip ["value"] vs))
    (sc0 : scope0.names.lookup ("super" : Str) = some .globalImplicit ∧ scope0.names.lookup ("__class__" : Str) = some .free ∧ scope0.names.lookup ("self" : Str) = some .local ∧ (∀ f ∈ (["value"] : List Str), scope0.names.lookup f = some .local) ∧ (∀ x ∈ scope0.names, x.2 ≠ .cell) ∧ scope0.isCoroutine = false ∧ scope0.isGenerator = false ∧ scope0.kind = .function)
    (ini0 : InitIs ["value"] body0)
    (m0_0 : PySem.W.exmOne K (.ref C0) (.ref C0) = some true)
    : (∀ e ∈ ents, ∃ a fd, Here K mg e a fd) ∧ (∀ x ∈ bns, mg x = none) ∧ (∀ x kvs, dcs.lookup x = some kvs → DctK K w mg x kvs) ∧ (∀ c k, exs[c]? = some k → ExK PySem.Challenge.pw_clausehold_k02_clauses_and_rows K mg exs c k) ∧ ∀ k ∈ cls, ClK K k := by
  refine ⟨?_, ?_, ?_, exs_all ⟨exk_mk (c := 0) (k := ("InvalidLiterals", ["value"], [0])) X G n_0 (ext_mk X G cl0 rv0 sa0 ga0 gg0 (by simp only [List.forall_mem_cons]; exact ⟨no0_0, fun _ h => absurd h (by simp)⟩) iC0 tC0 kC0 exC0 veC0 tyC0 hdC0 sup0 meC0 noS opq (by decide +kernel) (by decide +kernel) (by decide +kernel) (by decide) lf0 cd_0 lc0 v20 fl0 lcc0 sf0 bd0 sc0 ini0) ⟨⟨C0, clsAt_of n_0, m0_0⟩, trivial⟩, trivial⟩, ?_⟩
  · unfold ents
    simp only [List.forall_mem_cons]
    exact ⟨here_mk rfl X G a0 l0 c0 k0 (fun _ _ _ _ _ _ us hl => match us, hl with | [_], _ => rfl) (fun _ _ _ _ _ _ us hl => match us, hl with | [_], _ => rfl), here_mk rfl X G a1 l1 c1 k1 (fun _ _ _ _ _ _ us hl => match us, hl with | [_], _ => rfl) (fun _ _ _ _ _ _ us hl => match us, hl with | [_], _ => rfl), here_mk rfl X G a2 l2 c2 k2 (fun _ _ _ _ _ _ us hl => match us, hl with | [_], _ => rfl) (fun _ _ _ _ _ _ us hl => match us, hl with | [_], _ => rfl), here_mk rfl X G a3 l3 c3 k3 (fun _ _ _ _ _ _ us hl => match us, hl with | [_, _], _ => rfl) (fun _ _ _ _ _ _ us hl => match us, hl with | [_, _], _ => rfl), here_mk rfl X G a4 l4 c4 k4 (fun _ _ _ _ _ _ us hl => match us, hl with | [_], _ => rfl) (fun _ _ _ _ _ _ us hl => match us, hl with | [_], _ => rfl), here_mk rfl X G a5 l5 c5 k5 (fun _ _ _ _ _ _ us hl => match us, hl with | [_, _], _ => rfl) (fun _ _ _ _ _ _ us hl => match us, hl with | [_, _], _ => rfl), here_mk rfl X G a6 l6 c6 k6 (fun _ _ _ _ _ _ us hl => match us, hl with | [_, _, _], _ => rfl) (fun _ _ _ _ _ _ us hl => match us, hl with | [_, _, _], _ => rfl), here_mk rfl X G a7 l7 c7 k7 (fun _ _ _ _ _ _ us hl => match us, hl with | [_, _], _ => rfl) (fun _ _ _ _ _ _ us hl => match us, hl with | [_, _], _ => rfl), here_mk rfl X G a8 l8 c8 k8 (fun _ _ _ _ _ _ us hl => match us, hl with | [_, _], _ => rfl) (fun _ _ _ _ _ _ us hl => match us, hl with | [_, _], _ => rfl), here_mk rfl X G a9 l9 c9 k9 (fun _ _ _ _ _ _ us hl => match us, hl with | [_, _, _], _ => rfl) (fun _ _ _ _ _ _ us hl => match us, hl with | [_, _, _], _ => rfl), here_mk rfl X G a10 l10 c10 k10 (fun _ _ _ _ _ _ us hl => match us, hl with | [_, _, _, _], _ => rfl) (fun _ _ _ _ _ _ us hl => match us, hl with | [_, _, _, _], _ => rfl), here_mk rfl X G a11 l11 c11 k11 (fun _ _ _ _ _ _ us hl => match us, hl with | [_, _], _ => rfl) (fun _ _ _ _ _ _ us hl => match us, hl with | [_, _], _ => rfl), here_mk rfl X G a12 l12 c12 k12 (fun _ _ _ _ _ _ us hl => match us, hl with | [_], _ => rfl) (fun _ _ _ _ _ _ us hl => match us, hl with | [_], _ => rfl), here_mk rfl X G a13 l13 c13 k13 (fun _ _ _ _ _ _ us hl => match us, hl with | [_], _ => rfl) (fun _ _ _ _ _ _ us hl => match us, hl with | [_], _ => rfl), here_mk rfl X G a14 l14 c14 k14 (fun _ _ _ _ _ _ us hl => match us, hl with | [_], _ => rfl) (fun _ _ _ _ _ _ us hl => match us, hl with | [_], _ => rfl), here_mk rfl X G a15 l15 c15 k15 (fun _ _ _ _ _ _ us hl => match us, hl with | [_], _ => rfl) (fun _ _ _ _ _ _ us hl => match us, hl with | [_], _ => rfl), fun _ h => absurd h (by simp)⟩
  · unfold bns
    simp only [List.forall_mem_cons]
    exact ⟨PySem.W.mg_none_of X G z0, PySem.W.mg_none_of X G z1, PySem.W.mg_none_of X G z2, PySem.W.mg_none_of X G z3, PySem.W.mg_none_of X G z4, PySem.W.mg_none_of X G z5, PySem.W.mg_none_of X G z6, PySem.W.mg_none_of X G z7, PySem.W.mg_none_of X G z8, PySem.W.mg_none_of X G z9, PySem.W.mg_none_of X G z10, PySem.W.mg_none_of X G z11, PySem.W.mg_none_of X G z12, fun _ h => absurd h (by simp)⟩
  · exact fun x kvs h => by simp [dcs] at h
  · intro k hk
    simp [cls] at hk
end
end K02
open PySem PySem.W PyProof.Rows
set_option maxRecDepth 100000 in
set_option maxHeartbeats 0 in
theorem PySem.Challenge.cw_clausehold_k02_clauses_and_rows_holds : PySem.Challenge.rw_clausehold_k02_clauses_and_rows.Holds := by
  w_on; o_law; k_head; (case hw => w_witness2)
  k_fill
  refine CH.walkL (li := 15) (k := 6) (bn := K02.bns) (ents := K02.ents) (dcs := K02.dcs) (exs := K02.exs) (cls := K02.cls) (l := PySem.Challenge.rw_clausehold_k02_clauses_and_rows) (e := K02.e15) (x := "_law_script") rfl rfl (fun w h Y => PySem.W.kIn_of Y) ⟨rfl, by decide, by decide⟩ rfl rfl rfl rfl K02.oks K02.hrun (fun _ _ _ _ _ _ _ _ => .of_eq rfl) ?F
  case F =>
    intro w mg h KX G
    refine' K02.top_mk KX G ?a0 ?l0 ?c0 ?k0 ?a1 ?l1 ?c1 ?k1 ?a2 ?l2 ?c2 ?k2 ?a3 ?l3 ?c3 ?k3 ?a4 ?l4 ?c4 ?k4 ?a5 ?l5 ?c5 ?k5 ?a6 ?l6 ?c6 ?k6 ?a7 ?l7 ?c7 ?k7 ?a8 ?l8 ?c8 ?k8 ?a9 ?l9 ?c9 ?k9 ?a10 ?l10 ?c10 ?k10 ?a11 ?l11 ?c11 ?k11 ?a12 ?l12 ?c12 ?k12 ?a13 ?l13 ?c13 ?k13 ?a14 ?l14 ?c14 ?k14 ?a15 ?l15 ?c15 ?k15 ?z0 ?z1 ?z2 ?z3 ?z4 ?z5 ?z6 ?z7 ?z8 ?z9 ?z10 ?z11 ?z12  ?noS ?opq ?n_0 ?cl0 ?rv0 ?sa0 ?ga0 ?gg0 ?no0_0 ?iC0 ?tC0 ?kC0 ?exC0 ?veC0 ?tyC0 ?hdC0 ?sup0 ?meC0 ?lf0 ?cd_0 ?lc0 ?v20 ?fl0 ?lcc0 ?sf0 ?bd0 ?sc0 ?ini0 ?m0_0
    (case noS => k_is); (case opq => k_is)
    (case n_0 => k_is)
    (case cl0 => k_is)
    (case rv0 => decide +kernel)
    (case sa0 => k_is)
    (case ga0 => k_is)
    (case gg0 => k_is)
    (case no0_0 => k_is)
    (case iC0 => k_is)
    (case tC0 => k_is)
    (case kC0 => k_is)
    (case exC0 => k_is)
    (case veC0 => k_is)
    (case tyC0 => k_is)
    (case hdC0 => k_is)
    (case sup0 => ks_is); (case meC0 => k_is); (case lf0 => k_is); (case cd_0 => k_is); (case lc0 => k_is); (case v20 => rfl); (case fl0 => decide +kernel); (case lcc0 => k_is)
    (case sf0 => exact ⟨_, rfl, rfl⟩); (case bd0 => exact fun s u vs hl => match vs, hl with | [_], _ => .of_eq rfl); (case sc0 => decide +kernel)
    (case ini0 => exact .mk (.cons .nil) rfl)
    (case m0_0 => kernel_rfl)
    (case a0 => k_is); (case l0 => k_is); (case c0 => k_is); (case k0 => k_is)
    (case a1 => k_is); (case l1 => k_is); (case c1 => k_is); (case k1 => k_is)
    (case a2 => k_is); (case l2 => k_is); (case c2 => k_is); (case k2 => k_is)
    (case a3 => k_is); (case l3 => k_is); (case c3 => k_is); (case k3 => k_is)
    (case a4 => k_is); (case l4 => k_is); (case c4 => k_is); (case k4 => k_is)
    (case a5 => k_is); (case l5 => k_is); (case c5 => k_is); (case k5 => k_is)
    (case a6 => k_is); (case l6 => k_is); (case c6 => k_is); (case k6 => k_is)
    (case a7 => k_is); (case l7 => k_is); (case c7 => k_is); (case k7 => k_is)
    (case a8 => k_is); (case l8 => k_is); (case c8 => k_is); (case k8 => k_is)
    (case a9 => k_is); (case l9 => k_is); (case c9 => k_is); (case k9 => k_is)
    (case a10 => k_is); (case l10 => k_is); (case c10 => k_is); (case k10 => k_is)
    (case a11 => k_is); (case l11 => k_is); (case c11 => k_is); (case k11 => k_is)
    (case a12 => k_is); (case l12 => k_is); (case c12 => k_is); (case k12 => k_is)
    (case a13 => k_is); (case l13 => k_is); (case c13 => k_is); (case k13 => k_is)
    (case a14 => k_is); (case l14 => k_is); (case c14 => k_is); (case k14 => k_is)
    (case a15 => k_is); (case l15 => k_is); (case c15 => k_is); (case k15 => k_is)
    (case z0 => k_is)
    (case z1 => k_is)
    (case z2 => k_is)
    (case z3 => k_is)
    (case z4 => k_is)
    (case z5 => k_is)
    (case z6 => k_is)
    (case z7 => k_is)
    (case z8 => k_is)
    (case z9 => k_is)
    (case z10 => k_is)
    (case z11 => k_is)
    (case z12 => k_is)

