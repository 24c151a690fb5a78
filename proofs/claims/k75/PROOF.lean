import PyProof.Rows.All
import Wide.All
import OpenK.AllK
import Wide.FinOn
import HandS.Conv
import HandS.Deep
import HandS.Evl
import HandS.ExcSuper
import HandS.Flow
import HandS.ForExc
import HandS.ForMost
import HandS.IsInst
import HandS.More
import HandS.NamedTupSort
import HandS.SortRule
import HandS.Style
import HandS.TryMany
import HandS.TupAny
import HandS.TupLe
import HandS.Zip
import KE.KExcSuper
import KE.KTupSum
import PyProof.ListStr
import PySem.Challenge.RW_clausehold_k75_ways_to_meet
set_option Elab.async false
set_option linter.all false
set_option maxRecDepth 100000
set_option maxHeartbeats 4000000
section
namespace CH
open PySem

/-- plain data -/
inductive D where
  | non | bl (b : Bool) | int (i : Int) | str (s : Str)
  | tup (xs : List D) | lst (xs : List D)
  /-- a list that may be read alone -/
  | flst (xs : List D)
  | ty (n : String) | fn (f : Nat)
  | obj (c : Nat) (ks : List Str) (vs : List D)
  deriving Inhabited

/-- a tree whose nodes are owned by one name; its leaves are data that never change -/
inductive OT where
  | sh (d : D)
  | lst (ts : List OT)
  | obj (c : Nat) (ks : List Str) (ts : List OT)
  deriving Inhabited

mutual
def OT.toD : OT → D
  | .sh d => d
  | .lst ts => .lst (toDs ts)
  | .obj c ks ts => .obj c ks (toDs ts)
def toDs : List OT → List D
  | [] => []
  | t :: ts => t.toD :: toDs ts
end
/-- the leaves of a row of leaves -/
def leaves : List OT → Option (List D)
  | [] => some []
  | .sh d :: r => (leaves r).map (d :: ·)
  | _ :: _ => none
/-- the items of what is walked -/
def OT.items : OT → Option (List D)
  | .sh (.lst ds) => some ds
  | .sh (.flst ds) => some ds
  | .sh (.tup ds) => some ds
  | .lst ts => leaves ts
  | _ => none
/-- a slot: nothing known; a tree; a tree that may be read alone -/
inductive Sl where
  | no | ow (t : OT) | lk (t : OT)
  deriving Inhabited
abbrev Env := List Sl
def Env.tree (ρ : Env) (i : Nat) : Option OT := match ρ[i]? with
  | some (.ow t) => some t
  | some (.lk t) => some t
  | _ => none
def Env.own (ρ : Env) (i : Nat) : Option OT := match ρ[i]? with
  | some (.ow t) => some t
  | _ => none
def fldIx : List Str → Str → Option Nat
  | [], _ => none
  | k :: ks, f => if k = f then some 0 else (fldIx ks f).map (· + 1)
def OT.fld (f : Str) : OT → Option OT
  | .obj _ ks ts => (fldIx ks f).bind fun j => ts[j]?
  | .sh (.obj _ ks ds) => ((fldIx ks f).bind fun j => ds[j]?).map .sh
  | _ => none
/-- along attributes, the outermost first -/
def OT.getP (t : OT) : List Str → Option OT
  | [] => some t
  | f :: p => (t.getP p).bind fun u => u.fld f
def OT.setF (f : Str) (s : OT) : OT → Option OT
  | .obj c ks ts => (fldIx ks f).bind fun j => if j < ts.length then some (.obj c ks (ts.set j s)) else none
  | _ => none
def OT.putP (t : OT) : List Str → OT → Option OT
  | [], s => some s
  | f :: p, s => (t.getP p).bind fun u => (u.setF f s).bind fun u' => t.putP p u'

structure Exn where
  cls : Nat
  args : List D
inductive R (α : Type) where
  | ok (a : α) | ex (e : Exn) (ρ : Env) | no
def R.bind {α β : Type} (r : R α) (f : α → R β) : R β := match r with
  | .ok a => f a
  | .ex e ρ => .ex e ρ
  | .no => .no
def R.ofO {α : Type} : Option α → R α
  | some a => .ok a
  | none => .no

inductive Tg where
  | one (i : Nat) | tup (is : List Nat)
/-- comparisons -/
inductive Cm where
  | eq | ne | lt | le | gt | ge | is | isnot | in_ | notin
  deriving DecidableEq
inductive Bo where
  | add | sub | mul | mod | fdiv | pow
  deriving DecidableEq
/-- built-ins called by name -/
inductive Bi where
  | len | abs | int | bool | tuple | list | any | all | sum | sorted | max2 | min2 | max1 | min1 | repr
  deriving DecidableEq
/-- operations on values -/
inductive Op where
  | bin (b : Bo) | neg | cmp (c : Cm)
  | idx
  | fld (f : Str)
  | bi (f : Bi)
  | isi (tys : List String)
  | rng (n : Nat) (tuple : Bool)
  | meth (m : String)
  | kin (x : Str) (neg : Bool) (kvs : List (Str × Int))
  | kget (x : Str) (kvs : List (Str × Int))
  | rev
/-- what changes a list -/
inductive Mu where
  | append | extend | pop | popAt | insert | setIx | remove
  deriving DecidableEq

/-- what an except suite hands back: constants, names, the exception's fields -/
inductive At where
  | c (d : D) | v (i : Nat) | xf (j : Nat)
/-- an except clause: its class, the classes that it takes, the slot of its name; it returns a tuple, or one thing -/
structure Hd where
  c : Nat
  ms : List Nat
  i : Option Nat
  tup : Bool
  as : List At
mutual
inductive CE where
  | c (d : D) | v (i : Nat) | mv (i : Nat) | take (i : Nat)
  | op (o : Op) (as : COs)
  | slc (o : CO) (lo hi : CB)
  | tup (es : CEs) | lst (es : CEs)
  | and (es : CEs) | or (es : CEs) | not (e : CE) | ite (t : CT) (a b : CE)
  | chain (o1 o2 : Cm) (a b c : CE)
  | call (f : Nat) (as : CAs)
  | mu (m : Mu) (i : Nat) (p : List Str) (as : CEs)
  | fz (e : CE)
  | apX (i : Nat) (ix e : CE)
  | lc (e : CE) (tg : Tg) (it : CI) (cs : CTs)
  | lc2 (e : CE) (tg : Tg) (it : CI) (cs : CTs) (tg1 : Tg) (it1 : CI) (cs1 : CTs)
inductive CEs where
  | nil | cons (e : CE) (es : CEs)
inductive CO where
  | e (e : CE) | bor (i : Nat) (p : List Str)
inductive CB where
  | no | at (e : CE)
inductive COs where
  | nil | cons (o : CO) (os : COs)
inductive CAs where
  | nil | val (e : CE) (r : CAs) | ref (i : Nat) (r : CAs)
inductive CT where
  | and (ts : CTs) | or (ts : CTs) | not (t : CT) | val (o : CO)
inductive CTs where
  | nil | cons (t : CT) (ts : CTs)
inductive CI where
  | seq (o : CO) | rng1 (e : CE) | rng2 (a b : CE) | enm (o : CO) | zip (a b : CO)
end
mutual
inductive CS where
  | nop | brk | cont | retN
  | frz (i : Nat)
  | ex (e : CE) | set (i : Nat) (e : CE) | setT (is : List Nat) (e : CE)
  | setF (i c : Nat) (f : Str) (e : CE)
  | setX (i : Nat) (p : List Str) (ix : CE) (e : CE)
  | ret (e : CE)
  | ife (t : CT) (a b : CSs)
  | whl (t : CT) (b : CSs)
  | for_ (tg : Tg) (it : CI) (b : CSs)
  | raise (c n : Nat) (as : CEs)
  | tr (b : CSs) (hs : List Hd)
inductive CSs where
  | nil | cons (s : CS) (r : CSs)
end
end CH
end
section
namespace CH
open PySem

mutual
def D.toP : D → Option PyData
  | .non => some .none
  | .bl b => some (.bool b)
  | .int i => some (.int i)
  | .str s => some (.str s)
  | .tup ds => (toPs ds).map .tuple
  | .lst ds => (toPs ds).map .list
  | _ => none
def toPs : List D → Option (List PyData)
  | [] => some []
  | d :: r => d.toP.bind fun p => (toPs r).map fun q => p :: q
end
def big : Nat := 16777216
def eqD (a b : D) : Option Bool := a.toP.bind fun p => b.toP.bind fun q => if (SeqAt.shaped p && SeqAt.shaped q) = true then some (PyData.eqv p q) else none
def inD (x : D) (l : D) : Option Bool := x.toP.bind fun p => l.toP.bind fun q => match q with
  | .list ds => if (SeqAt.shaped p && SeqAt.shaped (.list ds)) = true then some (ds.any fun z => PyData.eqv z p) else none
  | .tuple ds => if (SeqAt.shaped p && SeqAt.shaped (.tuple ds)) = true then some (ds.any fun z => PyData.eqv z p) else none
  | .str s => match p with
    | .str y => some (!(Builtin.Str.occurrences s y 0 s.length 1).isEmpty)
    | _ => none
  | _ => none
def blsD : List D → Option (List Bool)
  | [] => some []
  | .bl b :: r => (blsD r).map (b :: ·)
  | _ => none
def intsD : List D → Option (List Int)
  | [] => some []
  | .int b :: r => (intsD r).map (b :: ·)
  | _ => none
def strsD : List D → Option (List Str)
  | [] => some []
  | .str b :: r => (strsD r).map (b :: ·)
  | _ => none
/-- the items of a list -/
def OT.litems : OT → Option (List D)
  | .sh (.lst ds) => some ds
  | .lst ts => leaves ts
  | _ => none
def mulOk (i j : Int) : Bool := decide (-(2 ^ 64) < i ∧ i < 2 ^ 64) || decide (-(2 ^ 64) < j ∧ j < 2 ^ 64)
def guard_ {α : Type} (b : Bool) (a : α) : Option α := if b = true then some a else none
def newL (ds : List D) : OT := .lst (ds.map .sh)
def addEv : OT → OT → Option OT
  | .sh (.int i), .sh (.int j) => some (.sh (.int (i + j)))
  | .sh (.str a), .sh (.str b) => guard_ (decide (a.length + b.length ≤ big)) (.sh (.str (a ++ b)))
  | .sh (.tup a), .sh (.tup b) => guard_ (decide (a.length + b.length ≤ big)) (.sh (.tup (a ++ b)))
  | s, t => s.litems.bind fun a => t.litems.bind fun b => guard_ (decide (a.length + b.length ≤ big)) (newL (a ++ b))
def subEv : OT → OT → Option OT
  | .sh (.int i), .sh (.int j) => some (.sh (.int (i - j)))
  | _, _ => none
def mulEv : OT → OT → Option OT
  | .sh (.int i), .sh (.int j) => guard_ (mulOk i j) (.sh (.int (i * j)))
  | s, .sh (.int k) => s.litems.bind fun a => guard_ (decide (-(2 ^ 63) ≤ k ∧ k < 2 ^ 63 ∧ a.length * k.toNat ≤ big)) (newL (List.replicate k.toNat a).flatten)
  | _, _ => none
def modEv : OT → OT → Option OT
  | .sh (.int i), .sh (.int j) => guard_ (decide (0 < j)) (.sh (.int (i % j)))
  | _, _ => none
def fdivEv : OT → OT → Option OT
  | .sh (.int i), .sh (.int j) => guard_ (decide (0 < j ∧ j < 1073741824)) (.sh (.int (i / j)))
  | _, _ => none
def powEv : OT → OT → Option OT
  | .sh (.int i), .sh (.int j) => guard_ (decide (0 ≤ j ∧ j ≤ 1000000 ∧ i.natAbs < 2 ^ 64)) (.sh (.int (i ^ j.toNat)))
  | _, _ => none
def binEv : Bo → OT → OT → Option OT
  | .add => addEv
  | .sub => subEv
  | .mul => mulEv
  | .mod => modEv
  | .fdiv => fdivEv
  | .pow => powEv
def negEv : OT → Option OT
  | .sh (.int i) => some (.sh (.int (-i)))
  | _ => none
def lexLtI : List Int → List Int → Bool := HT.lexLt
def eqEv : OT → OT → Option Bool
  | .sh (.str a), .sh (.str b) => some (a == b)
  | s, t => eqD s.toD t.toD
def neEv : OT → OT → Option Bool
  | .sh (.str a), .sh (.str b) => some (!(a == b))
  | s, t => (eqD s.toD t.toD).map (! ·)
def shapedD (d : D) : Bool := match d.toP with
  | some p => SeqAt.shaped p
  | none => false
/-- items that < may meet: two ints, two rows of ints -/
def cmp1 : D → D → Bool
  | .int _, .int _ => true
  | .tup a, .tup b => (intsD a).isSome && (intsD b).isSome && shapedD (.tup a) && shapedD (.tup b)
  | _, _ => false
def eq1 (x y : D) : Bool := match x.toP, y.toP with
  | some p, some q => PyData.eqv p q
  | _, _ => false
def lt1 : D → D → Bool
  | .int i, .int j => decide (i < j)
  | .tup a, .tup b => match intsD a, intsD b with
    | some m, some n => HT.lexLt m n
    | _, _ => false
  | _, _ => false
def cmps : List D → List D → Bool
  | x :: xs, y :: ys => cmp1 x y && cmps xs ys
  | _, _ => true
def ltW : List D → List D → Bool
  | [], [] => false
  | [], _ :: _ => true
  | _ :: _, [] => false
  | x :: xs, y :: ys => if eq1 x y = true then ltW xs ys else lt1 x y
def ltEv : OT → OT → Option Bool
  | .sh (.int i), .sh (.int j) => some (decide (i < j))
  | .sh (.tup a), .sh (.tup b) => match intsD a, intsD b with
    | some m, some n => some (HT.lexLt m n)
    | _, _ => if cmps a b = true then some (ltW a b) else none
  | _, _ => none
def leEv : OT → OT → Option Bool
  | .sh (.int i), .sh (.int j) => some (decide (i ≤ j))
  | _, _ => none
def gtEv : OT → OT → Option Bool
  | .sh (.int i), .sh (.int j) => some (decide (j < i))
  | _, _ => none
def geEv : OT → OT → Option Bool
  | .sh (.int i), .sh (.int j) => some (decide (j ≤ i))
  | _, _ => none
def OT.isNon : OT → Bool
  | .sh .non => true
  | _ => false
def isEv : OT → OT → Option Bool
  | .sh (.bl a), .sh (.bl b) => some (decide (a = b))
  | s, .sh .non => some s.isNon
  | _, _ => none
def isnotEv : OT → OT → Option Bool
  | .sh (.bl a), .sh (.bl b) => some (!decide (a = b))
  | s, .sh .non => some (!s.isNon)
  | _, _ => none
def inEv (s t : OT) : Option Bool := inD s.toD t.toD
def notinEv (s t : OT) : Option Bool := (inD s.toD t.toD).map (! ·)
def cmpEv : Cm → OT → OT → Option Bool
  | .eq => eqEv
  | .ne => neEv
  | .lt => ltEv
  | .le => leEv
  | .gt => gtEv
  | .ge => geEv
  | .is => isEv
  | .isnot => isnotEv
  | .in_ => inEv
  | .notin => notinEv
def D.tyName : D → Option String
  | .non => some "NoneType"
  | .bl _ => some "bool"
  | .int _ => some "int"
  | .str _ => some "str"
  | .tup _ => some "tuple"
  | .lst _ => some "list"
  | _ => none
/-- isinstance of a value of the built-in type a against the built-in type b -/
def isTy (a b : String) : Bool := (a == b) || (a == "bool" && b == "int")
def tys5 : List String := ["NoneType", "bool", "int", "str", "tuple", "list"]
def truEv : OT → Option Bool
  | .sh .non => some false
  | .sh (.bl b) => some b
  | .sh (.int i) => some (i != 0)
  | .sh (.str s) => guard_ (decide (s.length ≤ big)) ((s.length : Int) != 0)
  | .sh (.tup ds) => some (!ds.isEmpty)
  | .sh (.lst ds) => some (!ds.isEmpty)
  | .lst ts => some (!ts.isEmpty)
  | _ => none
def sortI (ns : List Int) : List Int := ns.mergeSort fun a b => decide (a ≤ b)
def lenEv : OT → Option OT
  | .sh (.str s) => guard_ (decide (s.length ≤ big)) (.sh (.int s.length))
  | .sh (.tup ds) => some (.sh (.int ds.length))
  | .sh (.lst ds) => some (.sh (.int ds.length))
  | .sh (.flst ds) => some (.sh (.int ds.length))
  | .lst ts => some (.sh (.int ts.length))
  | _ => none
def absEv : OT → Option OT
  | .sh (.int i) => some (.sh (.int (if i < 0 then -i else i)))
  | _ => none
def intEv : OT → Option OT
  | .sh (.int i) => some (.sh (.int i))
  | .sh (.bl b) => some (.sh (.int (if b then 1 else 0)))
  | _ => none
def boolEv : OT → Option OT
  | .sh (.int i) => some (.sh (.bl (i != 0)))
  | .sh (.bl b) => some (.sh (.bl b))
  | _ => none
def tupleEv : OT → Option OT
  | .sh (.tup ds) => some (.sh (.tup ds))
  | .sh (.flst ds) => some (.sh (.tup ds))
  | t => t.litems.map fun ds => .sh (.tup ds)
def listEv : OT → Option OT
  | .sh (.tup ds) => some (newL ds)
  | .sh (.flst ds) => some (newL ds)
  | .sh (.str s) => guard_ (decide (s.cps.size ≤ big)) (newL (s.cps.toList.map fun c => .str ⟨#[c]⟩))
  | t => t.litems.map newL
def anyEv (t : OT) : Option OT := t.litems.bind fun ds => (blsD ds).map fun bs => .sh (.bl (bs.any id))
def allEv (t : OT) : Option OT := t.litems.bind fun ds => (blsD ds).map fun bs => .sh (.bl (bs.all id))
def sumEv : OT → Option OT
  | .sh (.tup ds) => (intsD ds).map fun ns => .sh (.int ns.sum)
  | t => t.litems.bind fun ds => (intsD ds).map fun ns => .sh (.int ns.sum)
/-- a list, a tuple -/
def D.isRow : D → Bool
  | .tup _ => true
  | .lst _ => true
  | _ => false
/-- the text of a row of data -/
def reprEv (t : OT) : Option OT := if t.toD.isRow = true then t.toD.toP.bind fun p => guard_ (SeqAt.shaped p && p.showable && decide (p.shown.length ≤ big)) (.sh (.str p.shown)) else none
def revEv (t : OT) : Option OT := t.litems.map fun ds => newL ds.reverse
/-- pairs of an int and a row of ints -/
def pairK : D → Option (Int × List Int)
  | .tup [.int i, .tup ds] => (intsD ds).map fun ns => (i, ns)
  | _ => none
def pairKs : List D → Option (List (Int × List Int))
  | [] => some []
  | d :: r => (pairK d).bind fun p => (pairKs r).map fun ps => p :: ps
def pairD (p : Int × List Int) : D := .tup [.int p.1, .tup (p.2.map .int)]
def ltP (p q : Int × List Int) : Bool := if p.1 = q.1 then HT.lexLt p.2 q.2 else decide (p.1 < q.1)
def sortP (ps : List (Int × List Int)) : List (Int × List Int) := ps.mergeSort fun p q => !ltP q p
def sortedEv (t : OT) : Option OT := t.litems.bind fun ds => match intsD ds with
  | some ns => guard_ (decide (ns.length < 64)) (newL ((sortI ns).map .int))
  | none => (pairKs ds).bind fun ps => guard_ (ps.all fun p => SeqAt.shaped (.tuple (p.2.map .int))) (newL ((sortP ps).map pairD))
def max2Ev : OT → OT → Option OT
  | .sh (.int i), .sh (.int j) => some (.sh (.int (if j > i then j else i)))
  | _, _ => none
def min2Ev : OT → OT → Option OT
  | .sh (.int i), .sh (.int j) => some (.sh (.int (if j < i then j else i)))
  | _, _ => none
def maxI : List Int → Option Int
  | [] => none
  | n :: ns => some (ns.foldl max n)
def minI : List Int → Option Int
  | [] => none
  | n :: ns => some (ns.foldl min n)
def max1Ev (t : OT) : Option OT := t.litems.bind fun ds => (intsD ds).bind fun ns => (maxI ns).map fun m => .sh (.int m)
def min1Ev (t : OT) : Option OT := t.litems.bind fun ds => (intsD ds).bind fun ns => (minI ns).map fun m => .sh (.int m)
def biEv : Bi → List OT → Option OT
  | .len, [t] => lenEv t
  | .abs, [t] => absEv t
  | .int, [t] => intEv t
  | .bool, [t] => boolEv t
  | .tuple, [t] => tupleEv t
  | .list, [t] => listEv t
  | .any, [t] => anyEv t
  | .all, [t] => allEv t
  | .sum, [t] => sumEv t
  | .sorted, [t] => sortedEv t
  | .max2, [s, t] => max2Ev s t
  | .min2, [s, t] => min2Ev s t
  | .max1, [t] => max1Ev t
  | .min1, [t] => min1Ev t
  | .repr, [t] => reprEv t
  | _, _ => none
/-- the part of a row from lo to hi -/
def cutD {α : Type} (xs : List α) (lo hi : Option Int) : List α := (xs.drop (HT.sIx xs.length 0 lo)).take (HT.sIx xs.length xs.length hi - HT.sIx xs.length 0 lo)
def slcEv (lo hi : Option Int) : OT → Option OT
  | .sh (.tup ds) => some (.sh (.tup (cutD ds lo hi)))
  | .sh (.str s) => guard_ (decide (s.length ≤ big)) (.sh (.str (L2.cutS s lo hi)))
  | .sh (.flst ds) => some (newL (cutD ds lo hi))
  | t => t.litems.map fun ds => newL (cutD ds lo hi)
def idxEv : OT → Int → Option OT
  | .sh (.str s), i => if s.length ≤ big then (L2.atI s.cps.toList i).map fun c => .sh (.str ⟨#[c]⟩) else none
  | t, i => t.items.bind fun ds => (L2.atI ds i).map .sh
def rngEv (tuple : Bool) (a b : Int) : Option OT :=
  guard_ (decide (-(2 ^ 62) ≤ a ∧ a < 2 ^ 62 ∧ -(2 ^ 62) ≤ b ∧ b < 2 ^ 62 ∧ (b - a).toNat ≤ big)) (if tuple then .sh (.tup ((List.range (b - a).toNat).map fun i => .int (a + (i : Nat)))) else newL ((List.range (b - a).toNat).map fun i => .int (a + (i : Nat))))
def methEv (m : String) : OT → Option OT
  | .sh (.str s) => guard_ (decide (m = "upper") && decide (s.length ≤ 5592405)) (.sh (.str (Txt.upper s)))
  | _ => none
/-- a dict of the module: is the key in it -/
def kinEv (neg : Bool) (kvs : List (Str × Int)) : OT → Option OT
  | .sh (.str z) => some (.sh (.bl (neg != (kvs.lookup z).isSome)))
  | _ => none
def kgetEv (kvs : List (Str × Int)) : OT → Option OT
  | .sh (.str z) => (kvs.lookup z).map fun n => .sh (.int n)
  | _ => none
def Op.ev : Op → List OT → Option OT
  | .bin b, [s, t] => binEv b s t
  | .neg, [t] => negEv t
  | .cmp c, [s, t] => (cmpEv c s t).map fun b => .sh (.bl b)
  | .idx, [t, .sh (.int i)] => idxEv t i
  | .fld f, [t] => match t.fld f with
    | some (.sh d) => some (.sh d)
    | _ => none
  | .bi f, ts => biEv f ts
  | .isi tys, [t] => t.toD.tyName.map fun a => .sh (.bl (tys.any fun b => isTy a b))
  | .meth m, [t] => methEv m t
  | .kin _ ng kvs, [t] => kinEv ng kvs t
  | .kget _ kvs, [t] => kgetEv kvs t
  | .rev, [t] => revEv t
  | .rng _ k, [.sh (.int j)] => rngEv k 0 j
  | .rng _ k, [.sh (.int i), .sh (.int j)] => rngEv k i j
  | _, _ => none
def muEv : Mu → List OT → List OT → Option (OT × List OT)
  | .extend, ts, [t] => t.litems.bind fun ds => guard_ (decide (ts.length + ds.length ≤ big)) (.sh .non, ts ++ ds.map .sh)
  | .append, ts, [t] => guard_ (decide (ts.length < big)) (.sh .non, ts ++ [t])
  | .pop, ts, [] => (ts[ts.length - 1]?).map fun t => (t, ts.dropLast)
  | .popAt, ts, [.sh (.int i)] => if -(2 ^ 63) ≤ i ∧ i < 2 ^ 63 then (seqIndex? i ts.length).bind fun k => (ts[k]?).map fun t => (t, ts.eraseIdx k) else none
  | .insert, ts, [.sh (.int i), t] => if 0 ≤ i ∧ i < 2 ^ 62 ∧ ts.length < big then some (.sh .non, ts.take i.toNat ++ [t] ++ ts.drop i.toNat) else none
  | .setIx, ts, [t, .sh (.int i)] => (L2.ixN ts.length i).map fun j => (.sh .non, ts.set j t)
  | _, _, _ => none

def getV (ρ : Env) (i : Nat) : R (OT × Env) := match ρ.tree i with
  | some (.sh d) => .ok (.sh d, ρ)
  | _ => .no
def set1 (pl : List Nat) (i : Nat) (d : D) (ρ : Env) : Option Env := match ρ[i]? with
  | some (.lk _) => none
  | some _ => if pl.contains i = true then none else some (ρ.set i (.ow (.sh d)))
  | none => none
def setGo (pl : List Nat) : List Nat → List D → Env → Option Env
  | [], _, ρ => some ρ
  | i :: is, d :: ds, ρ => (set1 pl i d ρ).bind fun ρ' => setGo pl is ds ρ'
  | _ :: _, [], _ => none
def D.tupI : D → Option (List D)
  | .tup ds => some ds
  | _ => none
def setTg (pl : List Nat) : Tg → D → Env → Option Env
  | .one i, d, ρ => set1 pl i d ρ
  | .tup is, d, ρ => d.tupI.bind fun ds => if is.length = ds.length then setGo pl is ds ρ else none
def Tg.slots : Tg → List Nat
  | .one i => [i]
  | .tup is => is
/-- a comprehension's own slots at its start -/
def wipeE (ρ : Env) : List Nat → Env
  | [] => ρ
  | v :: vs => (wipeE ρ vs).set v .no
/-- .. and their old content behind it -/
def patch (m : Nat → Bool) : Env → Env → Env
  | a :: as, b :: bs => (if m 0 = true then a else b) :: patch (fun j => m (j + 1)) as bs
  | _, _ => []
def backE (ρ0 ρ : Env) (vs : List Nat) : Env := patch (fun j => vs.contains j) ρ0 ρ
/-- the slot holds nothing that could be changed -/
def quietSl : Sl → Bool
  | .no => true
  | .ow (.sh _) => true
  | _ => false
/-- a comprehension's turns: step adds to what is gathered; the slots vs are cleared behind each turn -/
def lcG (cond : Env → R (Bool × Env)) (step : List OT → Env → R (List OT × Env)) (pl : List Nat) (tg : Tg) (vs : List Nat) : List D → List OT → Env → R (List OT × Env)
  | [], acc, ρ => .ok (acc, ρ)
  | d :: ds, acc, ρ => match setTg pl tg d ρ with
    | none => .no
    | some ρ1 => match cond ρ1 with
      | .ok (false, ρ2) => lcG cond step pl tg vs ds acc (wipeE ρ2 vs)
      | .ok (true, ρ2) => match step acc ρ2 with
        | .ok (acc', ρ3) => lcG cond step pl tg vs ds acc' (wipeE ρ3 vs)
        | _ => .no
      | _ => .no
def pushE (elt : Env → R (OT × Env)) (acc : List OT) (ρ : Env) : R (List OT × Env) := match elt ρ with
  | .ok (t, ρ3) => if acc.length < big then .ok (acc ++ [t], ρ3) else .no
  | _ => .no
def lcL (cond : Env → R (Bool × Env)) (elt : Env → R (OT × Env)) (pl : List Nat) (tg : Tg) : List D → List OT → Env → R (List OT × Env) := lcG cond (pushE elt) pl tg tg.slots
def quietAll (ρ : Env) (vs : List Nat) : Bool := vs.all fun i => quietSl (ρ.getD i (.lk (.sh .non)))
/-- an inner clause's turns -/
def inner (it : Env → R (List D × Env)) (bk : Env → Env → Env) (cond : Env → R (Bool × Env)) (elt : Env → R (OT × Env)) (pl : List Nat) (tg : Tg) (acc : List OT) (ρ : Env) : R (List OT × Env) := match it ρ with
  | .ok (ds, ρ1) => if quietAll ρ1 tg.slots = true then match lcL cond elt pl tg ds acc (wipeE ρ1 tg.slots) with
      | .ok (acc', ρ2) => .ok (acc', bk ρ ρ2)
      | _ => .no
    else .no
  | _ => .no
inductive Fl where
  | nx | brk | ct | rt (t : OT)
def forL (body : Env → R (Fl × Env)) (pl : List Nat) (tg : Tg) : List D → Env → R (Fl × Env)
  | [], ρ => .ok (.nx, ρ)
  | d :: ds, ρ => match setTg pl tg d ρ with
    | none => .no
    | some ρ1 => (body ρ1).bind fun (f, ρ2) => match f with
      | .nx => forL body pl tg ds ρ2
      | .ct => forL body pl tg ds ρ2
      | .brk => .ok (.nx, ρ2)
      | .rt t => .ok (.rt t, ρ2)
def whlL (cond : Env → R (Bool × Env)) (body : Env → R (Fl × Env)) : Nat → Env → R (Fl × Env)
  | 0, _ => .no
  | n + 1, ρ => (cond ρ).bind fun (b, ρ1) => if b = true then (body ρ1).bind fun (f, ρ2) => match f with
      | .nx => whlL cond body n ρ2
      | .ct => whlL cond body n ρ2
      | .brk => .ok (.nx, ρ2)
      | .rt t => .ok (.rt t, ρ2)
    else .ok (.nx, ρ1)
/-- a name's own list -/
def Env.ownL (ρ : Env) (i : Nat) : Option (List OT) := match ρ[i]? with
  | some (.ow (.lst ts)) => some ts
  | _ => none
def lock (ρ : Env) (i : Nat) : Env := match ρ[i]? with
  | some (.ow t) => ρ.set i (.lk t)
  | _ => ρ
/-- behind a lock: the slot as it was -/
def unlock (ρ ρ' : Env) (i : Nat) : Env := match ρ[i]? with
  | some (.ow t) => ρ'.set i (.ow t)
  | _ => ρ'
def zipD : List D → List D → List D
  | a :: as, b :: bs => .tup [a, b] :: zipD as bs
  | _, _ => []
def enmD : Nat → List D → List D
  | _, [] => []
  | n, a :: as => .tup [.int n, a] :: enmD (n + 1) as
/-- two rows that never change, side by side -/
def zipEv : OT → OT → Option (List D)
  | .sh (.tup a), .sh (.tup b) => some (zipD a b)
  | .sh (.lst a), .sh (.lst b) => some (zipD a b)
  | .sh (.flst a), .sh (.flst b) => some (zipD a b)
  | .sh (.lst a), .sh (.flst b) => some (zipD a b)
  | .sh (.flst a), .sh (.lst b) => some (zipD a b)
  | _, _ => none
/-- a list that never changes, its items numbered -/
def enmEv : OT → Option (List D)
  | .sh (.lst a) => some (enmD 0 a)
  | .sh (.flst a) => some (enmD 0 a)
  | _ => none
def gas : Nat := 1000000000
/-- what a def gives: its value, the trees of its arguments behind it -/
abbrev Phi := Nat → List OT → R (OT × List OT)

def fillA : CAs → List D → Env → Option (List OT)
  | .nil, _, _ => some []
  | .val _ r, d :: ds, ρ => (fillA r ds ρ).map fun us => .sh d :: us
  | .val _ _, [], _ => none
  | .ref i r, ds, ρ => (ρ.own i).bind fun t => (fillA r ds (ρ.set i .no)).map fun us => t :: us
def backA : CAs → List OT → Env → Option Env
  | .nil, _, ρ => some ρ
  | .val _ r, _ :: ts, ρ => backA r ts ρ
  | .ref i r, t :: ts, ρ => (backA r ts ρ).map fun ρ' => ρ'.set i (.ow t)
  | _, [], _ => none
def goneA : CAs → Env → Env
  | .nil, ρ => ρ
  | .val _ r, ρ => goneA r ρ
  | .ref i r, ρ => goneA r (ρ.set i .no)
def backI : CI → Env → Env → Env
  | .seq (.bor i _), ρ, ρ' => unlock ρ ρ' i
  | _, _, ρ' => ρ'
/-- a name's own instance of the c-th class -/
def Env.ownO (ρ : Env) (i c : Nat) : Option (List Str × List OT) := match ρ[i]? with
  | some (.ow (.obj c' ks ts)) => if c' = c then some (ks, ts) else none
  | _ => none
/-- an attribute stored -/
def putO (f : Str) (t : OT) (ks : List Str) (ts : List OT) : Option (List Str × List OT) := match fldIx ks f with
  | some j => if j < ts.length then some (ks, ts.set j t) else none
  | none => some (ks ++ [f], ts ++ [t])
/-- the list that is the j-th item -/
def atL (ts : List OT) (j : Int) : Option (Nat × List OT) := (L2.ixN ts.length j).bind fun k => match ts[k]? with
  | some (.lst us) => some (k, us)
  | _ => none
def apR (ρ : Env) (i : Nat) (ts : List OT) (f g : Env → R (OT × Env)) : R (OT × Env) := match f (lock ρ i) with
  | .ok (.sh (.int j), ρ1) => match atL ts j with
    | none => .no
    | some (k, us) => match g ρ1 with
      | .ok (.sh d, ρ2) => if us.length < big then .ok (.sh .non, ρ2.set i (.ow (.lst (ts.set k (.lst (us ++ [.sh d])))))) else .no
      | .ok _ => .no
      | .ex e ρ2 => .ex e (unlock ρ ρ2 i)
      | .no => .no
  | .ok _ => .no
  | .ex e ρ2 => .ex e (unlock ρ ρ2 i)
  | .no => .no
/-- two bounds, one after the other -/
def b2 (f g : Env → R (Option Int × Env)) (ρ : Env) : R ((Option Int × Option Int) × Env) := (f ρ).bind fun p => (g p.2).bind fun q => .ok ((p.1, q.1), q.2)
section
variable (Φ : Phi) (pl : List Nat)
mutual
def evE : CE → Env → R (OT × Env)
  | .c d, ρ => .ok (.sh d, ρ)
  | .v i, ρ => getV ρ i
  | .mv i, ρ => match ρ.own i with
    | some t => .ok (.sh t.toD, ρ.set i (.ow (.sh t.toD)))
    | none => .no
  | .take i, ρ => match ρ.own i with
    | some t => .ok (t, ρ.set i .no)
    | none => .no
  | .op o as, ρ => (evOs as ρ).bind fun (ts, ρ1) => match o.ev ts with
    | some t => .ok (t, ρ1)
    | none => .no
  | .slc (.e e) lo hi, ρ => (evE e ρ).bind fun (t, ρ1) => (b2 (fun ρ => evB lo ρ) (fun ρ => evB hi ρ) ρ1).bind fun ((l, u), ρ2) => match slcEv l u t with
    | some w => .ok (w, ρ2)
    | none => .no
  | .slc (.bor i p) lo hi, ρ => match (ρ.tree i).bind fun r => r.getP p with
    | some t => match b2 (fun ρ => evB lo ρ) (fun ρ => evB hi ρ) (lock ρ i) with
      | .ok ((l, u), ρ2) => match slcEv l u t with
        | some w => .ok (w, unlock ρ ρ2 i)
        | none => .no
      | .ex e ρ2 => .ex e (unlock ρ ρ2 i)
      | .no => .no
    | none => .no
  | .tup es, ρ => (evEs es ρ).bind fun (ts, ρ1) => if ts.length ≤ big then .ok (.sh (.tup (toDs ts)), ρ1) else .no
  | .lst es, ρ => (evEs es ρ).bind fun (ts, ρ1) => if ts.length ≤ big then .ok (.lst ts, ρ1) else .no
  | .and es, ρ => evAnd es ρ
  | .or es, ρ => evOr es ρ
  | .not e, ρ => (evE e ρ).bind fun (t, ρ1) => match t with
    | .sh (.bl b) => .ok (.sh (.bl (!b)), ρ1)
    | _ => .no
  | .ite t a b, ρ => (evT t ρ).bind fun (k, ρ1) => if k = true then evE a ρ1 else evE b ρ1
  | .chain o1 o2 a b c, ρ => (evE a ρ).bind fun (ta, ρ1) => (evE b ρ1).bind fun (tb, ρ2) => match cmpEv o1 ta tb with
    | some true => (evE c ρ2).bind fun (tc, ρ3) => match cmpEv o2 tb tc with
      | some k => .ok (.sh (.bl k), ρ3)
      | none => .no
    | some false => .ok (.sh (.bl false), ρ2)
    | none => .no
  | .call f as, ρ => (evAs as ρ).bind fun (ts, ρ1) => match fillA as ts ρ1 with
    | none => .no
    | some us => match Φ f us with
      | .ok (t, ws) => match backA as ws (goneA as ρ1) with
        | some ρ2 => .ok (t, ρ2)
        | none => .no
      | .ex e _ => .ex e (goneA as ρ1)
      | .no => .no
  | .mu m i [] as, ρ => match ρ.ownL i with
    | none => .no
    | some _ => (evEs as ρ).bind fun (ts, ρ1) => match ρ1.ownL i with
      | none => .no
      | some us => match muEv m us ts with
        | some (t, us') => .ok (t, ρ1.set i (.ow (.lst us')))
        | none => .no
  | .mu _ _ (_ :: _) _, _ => .no
  | .fz e, ρ => (evE e ρ).bind fun (t, ρ1) => .ok (.sh t.toD, ρ1)
  | .apX i ix e, ρ => match ρ.ownL i with
    | none => .no
    | some ts => apR ρ i ts (fun ρ => evE ix ρ) (fun ρ => evE e ρ)
  | .lc e tg it cs, ρ => (evI it ρ).bind fun (ds, ρ1) =>
      if quietAll ρ1 tg.slots = true then
        match lcL (fun ρ => evAll cs ρ) (fun ρ => evE e ρ) pl tg ds [] (wipeE ρ1 tg.slots) with
        | .ok (ts, ρ2) => .ok (.lst ts, backI it ρ (backE ρ1 ρ2 tg.slots))
        | _ => .no
      else .no
  | .lc2 e tg it cs tg1 it1 cs1, ρ => (evI it ρ).bind fun (ds, ρ1) =>
      if quietAll ρ1 (tg.slots ++ tg1.slots) = true then
        match lcG (fun ρ => evAll cs ρ) (inner (fun ρ => evI it1 ρ) (fun ρ ρ' => backI it1 ρ ρ') (fun ρ => evAll cs1 ρ) (fun ρ => evE e ρ) pl tg1) pl tg (tg.slots ++ tg1.slots) ds [] (wipeE ρ1 (tg.slots ++ tg1.slots)) with
        | .ok (ts, ρ2) => .ok (.lst ts, backI it ρ (backE ρ1 ρ2 (tg.slots ++ tg1.slots)))
        | _ => .no
      else .no
/-- values joined by and, all but the last one bools -/
def evAnd : CEs → Env → R (OT × Env)
  | .nil, _ => .no
  | .cons e .nil, ρ => evE e ρ
  | .cons e r, ρ => (evE e ρ).bind fun (t, ρ1) => match t with
    | .sh (.bl true) => evAnd r ρ1
    | .sh (.bl false) => .ok (.sh (.bl false), ρ1)
    | _ => .no
def evOr : CEs → Env → R (OT × Env)
  | .nil, _ => .no
  | .cons e .nil, ρ => evE e ρ
  | .cons e r, ρ => (evE e ρ).bind fun (t, ρ1) => match t with
    | .sh (.bl false) => evOr r ρ1
    | .sh (.bl true) => .ok (.sh (.bl true), ρ1)
    | _ => .no
def evEs : CEs → Env → R (List OT × Env)
  | .nil, ρ => .ok ([], ρ)
  | .cons e r, ρ => (evE e ρ).bind fun (t, ρ1) => (evEs r ρ1).bind fun (ts, ρ2) => .ok (t :: ts, ρ2)
/-- an operand: its tree, and the environment for what comes behind it -/
def evO : CO → Env → R (OT × Env)
  | .e e, ρ => evE e ρ
  | .bor i p, ρ => match (ρ.tree i).bind fun r => r.getP p with
    | some t => .ok (t, ρ)
    | none => .no
def evOs : COs → Env → R (List OT × Env)
  | .nil, ρ => .ok ([], ρ)
  | .cons (.e e) r, ρ => (evE e ρ).bind fun (t, ρ1) => (evOs r ρ1).bind fun (ts, ρ2) => .ok (t :: ts, ρ2)
  | .cons (.bor i p) r, ρ => match (ρ.tree i).bind fun r => r.getP p with
    | some t => match evOs r (lock ρ i) with
      | .ok (ts, ρ2) => .ok (t :: ts, unlock ρ ρ2 i)
      | .ex e ρ2 => .ex e (unlock ρ ρ2 i)
      | .no => .no
    | none => .no
/-- the bounds of a cut -/
def evB : CB → Env → R (Option Int × Env)
  | .no, ρ => .ok (none, ρ)
  | .at e, ρ => (evE e ρ).bind fun (t, ρ1) => match t with
    | .sh (.int i) => .ok (some i, ρ1)
    | _ => .no
/-- arguments: the values (frozen) in order; those by reference come later -/
def evAs : CAs → Env → R (List D × Env)
  | .nil, ρ => .ok ([], ρ)
  | .val e r, ρ => (evE e ρ).bind fun (t, ρ1) => (evAs r ρ1).bind fun (ds, ρ2) => .ok (t.toD :: ds, ρ2)
  | .ref i r, ρ => if (ρ.tree i).isSome = true then evAs r ρ else .no
def evT : CT → Env → R (Bool × Env)
  | .and ts, ρ => evAll ts ρ
  | .or ts, ρ => evAny ts ρ
  | .not t, ρ => (evT t ρ).bind fun (b, ρ1) => .ok (!b, ρ1)
  | .val o, ρ => (evO o ρ).bind fun (t, ρ1) => match truEv t with
    | some b => .ok (b, ρ1)
    | none => .no
def evAll : CTs → Env → R (Bool × Env)
  | .nil, ρ => .ok (true, ρ)
  | .cons t r, ρ => (evT t ρ).bind fun (b, ρ1) => if b = true then evAll r ρ1 else .ok (false, ρ1)
def evAny : CTs → Env → R (Bool × Env)
  | .nil, ρ => .ok (false, ρ)
  | .cons t r, ρ => (evT t ρ).bind fun (b, ρ1) => if b = true then .ok (true, ρ1) else evAny r ρ1
/-- what is walked; where it is a name's own list, the name is locked -/
def evI : CI → Env → R (List D × Env)
  | .seq (.e e), ρ => (evE e ρ).bind fun (t, ρ1) => match t.items with
    | some ds => .ok (ds, ρ1)
    | none => .no
  | .seq (.bor i p), ρ => match ((ρ.tree i).bind fun r => r.getP p).bind OT.items with
    | some ds => .ok (ds, lock ρ i)
    | none => .no
  | .rng1 e, ρ => (evE e ρ).bind fun (t, ρ1) => match t with
    | .sh (.int j) => if -(2 ^ 62) ≤ j ∧ j < 2 ^ 62 then .ok ((List.range j.toNat).map fun i => .int (i : Nat), ρ1) else .no
    | _ => .no
  | .rng2 a b, ρ => (evE a ρ).bind fun (t, ρ1) => (evE b ρ1).bind fun (u, ρ2) => match t, u with
    | .sh (.int i), .sh (.int j) => if -(2 ^ 62) ≤ i ∧ i < 2 ^ 62 ∧ -(2 ^ 62) ≤ j ∧ j < 2 ^ 62 then .ok ((List.range (j - i).toNat).map fun k => .int (i + (k : Nat)), ρ2) else .no
    | _, _ => .no
  | .enm (.e a), ρ => (evE a ρ).bind fun (t, ρ1) => match enmEv t with
    | some ds => .ok (ds, ρ1)
    | none => .no
  | .enm (.bor _ _), _ => .no
  | .zip (.e a) (.e b), ρ => (evE a ρ).bind fun (t, ρ1) => (evE b ρ1).bind fun (u, ρ2) => match zipEv t u with
    | some ds => .ok (ds, ρ2)
    | none => .no
  | .zip _ _, _ => .no
end
def atEv (e : Exn) (ρ : Env) : At → Option D
  | .c d => some d
  | .v i => match ρ.tree i with
    | some (.sh d) => some d
    | _ => none
  | .xf j => e.args[j]?
def atsEv (e : Exn) (ρ : Env) : List At → Option (List D)
  | [] => some []
  | a :: r => (atEv e ρ a).bind fun d => (atsEv e ρ r).map fun ds => d :: ds
/-- the slot of a clause's name holds nothing -/
def bareI (ρ : Env) : Option Nat → Bool
  | none => true
  | some i => match ρ[i]? with
    | some .no => true
    | _ => false
def hdRet (tup : Bool) (ds : List D) (ρ : Env) : R (Fl × Env) := if tup = true then (if ds.length ≤ big then .ok (.rt (.sh (.tup ds)), ρ) else .no) else match ds with
  | [d] => .ok (.rt (.sh d), ρ)
  | _ => .no
def hdEv : List Hd → Exn → Env → R (Fl × Env)
  | [], e, ρ => .ex e ρ
  | h :: r, e, ρ => if h.ms.contains e.cls = true then
      (if bareI ρ h.i = true then match atsEv e ρ h.as with
        | some ds => hdRet h.tup ds ρ
        | none => .no
      else .no)
    else hdEv r e ρ
mutual
def evS : CS → Env → R (Fl × Env)
  | .nop, ρ => .ok (.nx, ρ)
  | .brk, ρ => .ok (.brk, ρ)
  | .cont, ρ => .ok (.ct, ρ)
  | .retN, ρ => .ok (.rt (.sh .non), ρ)
  | .frz i, ρ => match ρ.own i with
    | some t => .ok (.nx, ρ.set i (.ow (.sh t.toD)))
    | none => .no
  | .ex e, ρ => (evE Φ pl e ρ).bind fun (_, ρ1) => .ok (.nx, ρ1)
  | .set i e, ρ => (evE Φ pl e ρ).bind fun (t, ρ1) => match ρ1[i]? with
    | some (.lk _) => .no
    | some _ => if pl.contains i then .no else .ok (.nx, ρ1.set i (.ow t))
    | none => .no
  | .setT is e, ρ => (evE Φ pl e ρ).bind fun (t, ρ1) => match setTg pl (.tup is) t.toD ρ1 with
    | some ρ2 => .ok (.nx, ρ2)
    | none => .no
  | .setF i c f e, ρ => (evE Φ pl e ρ).bind fun (t, ρ1) => match ρ1.ownO i c with
    | none => .no
    | some (ks, ts) => if ks.length < 1000 then match putO f t ks ts with
        | some (ks', ts') => .ok (.nx, ρ1.set i (.ow (.obj c ks' ts')))
        | none => .no
      else .no
  | .setX i [] ix e, ρ => match ρ.ownL i with
    | none => .no
    | some _ => (evEs Φ pl (.cons e (.cons ix .nil)) ρ).bind fun (ts, ρ1) => match ρ1.ownL i with
      | none => .no
      | some us => match muEv .setIx us ts with
        | some (_, us') => .ok (.nx, ρ1.set i (.ow (.lst us')))
        | none => .no
  | .setX _ (_ :: _) _ _, _ => .no
  | .ret e, ρ => (evE Φ pl e ρ).bind fun (t, ρ1) => .ok (.rt t, ρ1)
  | .ife t a b, ρ => (evT Φ pl t ρ).bind fun (k, ρ1) => if k = true then evSs a ρ1 else evSs b ρ1
  | .whl t b, ρ => whlL (fun ρ => evT Φ pl t ρ) (fun ρ => evSs b ρ) gas ρ
  | .for_ tg it b, ρ => (evI Φ pl it ρ).bind fun (ds, ρ1) => match forL (fun ρ => evSs b ρ) pl tg ds ρ1 with
    | .ok (f, ρ2) => .ok (f, backI it ρ ρ2)
    | .ex e ρ2 => .ex e (backI it ρ ρ2)
    | .no => .no
  | .raise c n as, ρ => (evEs Φ pl as ρ).bind fun (ts, ρ1) => if ts.length = n then .ex ⟨c, toDs ts⟩ ρ1 else .no
  | .tr b hs, ρ => match evSs b ρ with
    | .ok p => .ok p
    | .ex e ρ1 => hdEv hs e ρ1
    | .no => .no
def evSs : CSs → Env → R (Fl × Env)
  | .nil, ρ => .ok (.nx, ρ)
  | .cons s r, ρ => (evS s ρ).bind fun (f, ρ1) => match f with
    | .nx => evSs r ρ1
    | f => .ok (f, ρ1)
end
end
/-- a def's body: its parameters' slots first -/
structure Fn where
  np : Nat
  nv : Nat
  pl : List Nat
  body : CSs
  /-- a class: which one, and its __init__ -/
  cls : Option (Nat × Nat)
/-- the trees of the arguments behind a call: those by reference as they are now; all others are data -/
def outs (pl : List Nat) (ρ : Env) : Nat → List OT → Option (List OT)
  | _, [] => some []
  | n, t :: r => (if pl.contains n = true then ρ.own n else match t with
    | .sh d => some (.sh d)
    | _ => none).bind fun u => (outs pl ρ (n + 1) r).map fun us => u :: us
def Fn.run0 (Φ : Phi) (fn : Fn) (ts : List OT) : R (OT × List OT) :=
  if ts.length = fn.np then
    match evSs Φ fn.pl fn.body (ts.map .ow ++ List.replicate (fn.nv - fn.np) .no) with
    | .ok (.nx, ρ) => R.ofO ((outs fn.pl ρ 0 ts).map fun us => (.sh .non, us))
    | .ok (.rt t, ρ) => R.ofO ((outs fn.pl ρ 0 ts).map fun us => (t, us))
    | .ex e _ => .ex e []
    | _ => .no
  else .no
/-- an instance made: what __init__ left of it -/
def mkR : R (OT × List OT) → R (OT × List OT)
  | .ok (.sh .non, w :: ws) => .ok (w, ws)
  | .ex e _ => .ex e []
  | _ => .no
def Fn.run (Φ : Phi) (fn : Fn) (ts : List OT) : R (OT × List OT) := match fn.cls with
  | some (c, i) => mkR (Φ i (.obj c [] [] :: ts))
  | none => fn.run0 Φ ts
def runD (tab : Nat → Option Fn) : Nat → Phi
  | 0 => fun _ _ => .no
  | k + 1 => fun f ts => match tab f with
    | some fn => fn.run (runD tab k) ts
    | none => .no
end CH
end
section
namespace CH
open PySem L2 Evl

/-- where the text's defs and classes stand -/
structure Tab where
  fnA : Nat → Option Addr
  clA : Nat → Option Addr
  exA : Nat → Option Addr
  exF : Nat → List Str
  name : Nat → Str
  exN : Nat → Str
  bn : List Str
/-- the class at C lets its instances' attributes ks be read plainly -/
structure CInf (K : PySem.W.Frag) (C : Addr) (ks : List Str) : Prop where
  cl : Cls K C
  na : ∀ k ∈ ks, NoAttr K C k
mutual
inductive Rp (K : PySem.W.Frag) (T : Tab) (H : Hp) : D → V → Prop
  | non : Rp K T H .non .non
  | bl (b : Bool) : Rp K T H (.bl b) (.bl b)
  | int (i : Int) : Rp K T H (.int i) (.int i)
  | str (s : Str) : Rp K T H (.str s) (.str s)
  | tup {a : Addr} {ds : List D} {vs : List V} : SqT K H a vs → Rps K T H ds vs → Rp K T H (.tup ds) (.ref a)
  | lst {a : Addr} {ds : List D} {vs : List V} : H a = some (.lst vs) → Rps K T H ds vs → Rp K T H (.lst ds) (.ref a)
  | flst {a : Addr} {ds : List D} {vs : List V} : SqL K H a vs → Rps K T H ds vs → Rp K T H (.flst ds) (.ref a)
  | ty (n : String) : Rp K T H (.ty n) (.ty n)
  | fn {f : Nat} {a : Addr} : T.fnA f = some a → Rp K T H (.fn f) (.ref a)
  | obj {c : Nat} {C a dx : Addr} {fs : List (Str × V)} {ds : List D} : H a = some (.ins C dx fs) → T.clA c = some C ∧ CInf K C (fs.map (·.1)) → Rps K T H ds (fs.map (·.2)) → Rp K T H (.obj c (fs.map (·.1)) ds) (.ref a)
inductive Rps (K : PySem.W.Frag) (T : Tab) (H : Hp) : List D → List V → Prop
  | nil : Rps K T H [] []
  | cons {d : D} {v : V} {ds : List D} {vs : List V} : Rp K T H d v → Rps K T H ds vs → Rps K T H (d :: ds) (v :: vs)
end
mutual
inductive RpO (K : PySem.W.Frag) (T : Tab) (Hs H : Hp) : OT → V → List Addr → Prop
  | sh {d : D} {v : V} : Rp K T Hs d v → RpO K T Hs H (.sh d) v []
  | lst {a : Addr} {ts : List OT} {vs : List V} {f : List Addr} : H a = some (.lst vs) → RpOs K T Hs H ts vs f → RpO K T Hs H (.lst ts) (.ref a) (a :: f)
  | obj {c : Nat} {C a dx : Addr} {fs : List (Str × V)} {ts : List OT} {f : List Addr} : H a = some (.ins C dx fs) → T.clA c = some C ∧ CInf K C (fs.map (·.1)) → RpOs K T Hs H ts (fs.map (·.2)) f → RpO K T Hs H (.obj c (fs.map (·.1)) ts) (.ref a) (a :: f)
inductive RpOs (K : PySem.W.Frag) (T : Tab) (Hs H : Hp) : List OT → List V → List Addr → Prop
  | nil : RpOs K T Hs H [] [] []
  | cons {t : OT} {v : V} {f g : List Addr} {ts : List OT} {vs : List V} : RpO K T Hs H t v f → RpOs K T Hs H ts vs g → RpOs K T Hs H (t :: ts) (v :: vs) (f ++ g)
end

section
variable {K : PySem.W.Frag} {T : Tab} {H H' Hs Hs' : Hp}
mutual
theorem Rp.mono (e : Ex H H') : ∀ {d : D} {v : V}, Rp K T H d v → Rp K T H' d v
  | _, _, .non => .non
  | _, _, .bl b => .bl b
  | _, _, .int i => .int i
  | _, _, .str s => .str s
  | _, _, .tup h r => .tup (ex_t e h) (Rps.mono e r)
  | _, _, .lst h r => .lst (e _ _ h) (Rps.mono e r)
  | _, _, .flst h r => .flst (ex_l e h) (Rps.mono e r)
  | _, _, .ty n => .ty n
  | _, _, .fn h => .fn h
  | _, _, .obj h c r => .obj (e _ _ h) c (Rps.mono e r)
theorem Rps.mono (e : Ex H H') : ∀ {ds : List D} {vs : List V}, Rps K T H ds vs → Rps K T H' ds vs
  | _, _, .nil => .nil
  | _, _, .cons h r => .cons (Rp.mono e h) (Rps.mono e r)
end
theorem Rps.length : ∀ {ds : List D} {vs : List V}, Rps K T H ds vs → ds.length = vs.length
  | _, _, .nil => rfl
  | _, _, .cons _ r => by simp [r.length]
theorem RpOs.length : ∀ {ts : List OT} {vs : List V} {f : List Addr}, RpOs K T Hs H ts vs f → ts.length = vs.length
  | _, _, _, .nil => rfl
  | _, _, _, .cons _ r => by simp [RpOs.length r]
theorem Rps.get : ∀ {ds : List D} {vs : List V} {i : Nat} {d : D}, Rps K T H ds vs → ds[i]? = some d → ∃ v, vs[i]? = some v ∧ Rp K T H d v
  | _, _, _, _, .nil, e => by simp at e
  | _, _, 0, _, .cons h r, e => by simp at e; subst e; exact ⟨_, rfl, h⟩
  | _, _, i + 1, _, .cons h r, e => by
    obtain ⟨v, e1, h1⟩ := Rps.get (i := i) r (by simpa using e)
    exact ⟨v, by simpa using e1, h1⟩
theorem Rps.getV : ∀ {ds : List D} {vs : List V} {i : Nat} {v : V}, Rps K T H ds vs → vs[i]? = some v → ∃ d, ds[i]? = some d ∧ Rp K T H d v
  | _, _, _, _, .nil, e => by simp at e
  | _, _, 0, _, .cons h r, e => by simp at e; subst e; exact ⟨_, rfl, h⟩
  | _, _, i + 1, _, .cons h r, e => by
    obtain ⟨v, e1, h1⟩ := Rps.getV (i := i) r (by simpa using e)
    exact ⟨v, by simpa using e1, h1⟩
theorem Rps.append : ∀ {ds es : List D} {vs ws : List V}, Rps K T H ds vs → Rps K T H es ws → Rps K T H (ds ++ es) (vs ++ ws)
  | _, _, _, _, .nil, r => r
  | _, _, _, _, .cons h t, r => .cons h (t.append r)
theorem Rps.drop : ∀ {ds : List D} {vs : List V} (n : Nat), Rps K T H ds vs → Rps K T H (ds.drop n) (vs.drop n)
  | _, _, 0, r => r
  | _, _, _ + 1, .nil => .nil
  | _, _, n + 1, .cons _ t => t.drop n
theorem Rps.take : ∀ {ds : List D} {vs : List V} (n : Nat), Rps K T H ds vs → Rps K T H (ds.take n) (vs.take n)
  | _, _, 0, _ => .nil
  | _, _, _ + 1, .nil => .nil
  | _, _, n + 1, .cons h t => .cons h (t.take n)
theorem Rps.reverse : ∀ {ds : List D} {vs : List V}, Rps K T H ds vs → Rps K T H ds.reverse vs.reverse
  | _, _, .nil => .nil
  | _, _, .cons h t => by rw [List.reverse_cons, List.reverse_cons]; exact t.reverse.append (.cons h .nil)
theorem Rps.rep {ds : List D} {vs : List V} (r : Rps K T H ds vs) : ∀ n : Nat, Rps K T H (List.replicate n ds).flatten (List.replicate n vs).flatten
  | 0 => .nil
  | n + 1 => by rw [List.replicate_succ, List.replicate_succ, List.flatten_cons, List.flatten_cons]; exact r.append (r.rep n)

mutual
theorem RpO.toD (e : Ex Hs H) : ∀ {t : OT} {v : V} {f : List Addr}, RpO K T Hs H t v f → Rp K T H t.toD v
  | _, _, _, .sh h => by unfold OT.toD; exact h.mono e
  | _, _, _, .lst h r => by unfold OT.toD; exact .lst h (RpOs.toD e r)
  | _, _, _, .obj h c r => by unfold OT.toD; exact .obj h c (RpOs.toD e r)
theorem RpOs.toD (e : Ex Hs H) : ∀ {ts : List OT} {vs : List V} {f : List Addr}, RpOs K T Hs H ts vs f → Rps K T H (toDs ts) vs
  | _, _, _, .nil => by unfold toDs; exact .nil
  | _, _, _, .cons h r => by unfold toDs; exact .cons (RpO.toD e h) (RpOs.toD e r)
end
mutual
theorem RpO.step (e : Ex Hs Hs') : ∀ {t : OT} {v : V} {f : List Addr}, RpO K T Hs H t v f → (∀ a ∈ f, ∀ o, H a = some o → H' a = some o) → RpO K T Hs' H' t v f
  | _, _, _, .sh h, _ => .sh (h.mono e)
  | _, _, _, .lst h r, k => .lst (k _ (by simp) _ h) (RpOs.step e r fun a ha => k a (by simp [ha]))
  | _, _, _, .obj h c r, k => .obj (k _ (by simp) _ h) c (RpOs.step e r fun a ha => k a (by simp [ha]))
theorem RpOs.step (e : Ex Hs Hs') : ∀ {ts : List OT} {vs : List V} {f : List Addr}, RpOs K T Hs H ts vs f → (∀ a ∈ f, ∀ o, H a = some o → H' a = some o) → RpOs K T Hs' H' ts vs f
  | _, _, _, .nil, _ => .nil
  | _, _, _, .cons h r, k => .cons (RpO.step e h fun a ha => k a (by simp [ha])) (RpOs.step e r fun a ha => k a (by simp [ha]))
end
mutual
theorem RpO.tracked : ∀ {t : OT} {v : V} {f : List Addr}, RpO K T Hs H t v f → ∀ a ∈ f, ∃ o, H a = some o
  | _, _, _, .sh h, a, ha => by simp at ha
  | _, _, _, .lst h r, a, ha => by
    rcases List.mem_cons.mp ha with rfl | ha
    · exact ⟨_, h⟩
    · exact RpOs.tracked r a ha
  | _, _, _, .obj h c r, a, ha => by
    rcases List.mem_cons.mp ha with rfl | ha
    · exact ⟨_, h⟩
    · exact RpOs.tracked r a ha
theorem RpOs.tracked : ∀ {ts : List OT} {vs : List V} {f : List Addr}, RpOs K T Hs H ts vs f → ∀ a ∈ f, ∃ o, H a = some o
  | _, _, _, .nil, a, ha => by simp at ha
  | _, _, _, .cons h r, a, ha => by
    rcases List.mem_append.mp ha with ha | ha
    · exact RpO.tracked h a ha
    · exact RpOs.tracked r a ha
end
theorem RpOs.leaves : ∀ {ts : List OT} {vs : List V} {f : List Addr} {ds : List D}, RpOs K T Hs H ts vs f → leaves ts = some ds → Rps K T Hs ds vs ∧ f = []
  | _, _, _, _, .nil, e => by simp [CH.leaves] at e; subst e; exact ⟨.nil, rfl⟩
  | _, _, _, _, .cons (t := .sh d) h r, e => by
    simp only [CH.leaves, Option.map_eq_some_iff] at e
    obtain ⟨ds, e1, rfl⟩ := e
    obtain ⟨r1, rfl⟩ := r.leaves e1
    cases h with
    | sh h => exact ⟨.cons h r1, rfl⟩
  | _, _, _, _, .cons (t := .lst _) h r, e => by simp [CH.leaves] at e
  | _, _, _, _, .cons (t := .obj ..) h r, e => by simp [CH.leaves] at e
theorem RpOs.append : ∀ {ts us : List OT} {vs ws : List V} {f g : List Addr}, RpOs K T Hs H ts vs f → RpOs K T Hs H us ws g → RpOs K T Hs H (ts ++ us) (vs ++ ws) (f ++ g)
  | _, _, _, _, _, _, .nil, r => r
  | _, _, _, _, _, _, .cons h t, r => by rw [List.append_assoc]; exact .cons h (t.append r)
theorem RpOs.of : ∀ {ds : List D} {vs : List V}, Rps K T Hs ds vs → RpOs K T Hs H (ds.map .sh) vs []
  | _, _, .nil => .nil
  | _, _, .cons h r => RpOs.cons (f := []) (.sh h) (RpOs.of r)
theorem leaves_map : ∀ ds : List D, leaves (ds.map .sh) = some ds
  | [] => rfl
  | d :: ds => by simp [leaves, leaves_map ds]

/-- what is frozen -/
def frz (Hs H : Hp) (f : List Addr) : Hp := fun b => if b ∈ f then H b else Hs b
theorem frz_in {f : List Addr} {a : Addr} (h : a ∈ f) : frz Hs H f a = H a := if_pos h
theorem frz_out {f : List Addr} {a : Addr} (h : a ∉ f) : frz Hs H f a = Hs a := if_neg h
theorem frz_ex {f : List Addr} (nf : ∀ a ∈ f, Hs a = none) : Ex Hs (frz Hs H f) := fun a o e => by
  by_cases h : a ∈ f
  · rw [nf a h] at e; cases e
  · rw [frz_out h]; exact e
theorem frz_le {f : List Addr} (e : Ex Hs H) : Ex (frz Hs H f) H := fun a o q => by
  by_cases h : a ∈ f
  · rw [frz_in h] at q; exact q
  · rw [frz_out h] at q; exact e a o q
mutual
theorem RpO.frz {F : List Addr} (nf : ∀ a ∈ F, Hs a = none) : ∀ {t : OT} {v : V} {f : List Addr}, RpO K T Hs H t v f → (∀ a ∈ f, a ∈ F) → Rp K T (frz Hs H F) t.toD v
  | _, _, _, .sh h, _ => by unfold OT.toD; exact h.mono (frz_ex nf)
  | _, _, _, .lst h r, k => by unfold OT.toD; exact .lst (by rw [frz_in (k _ (by simp))]; exact h) (RpOs.frz nf r fun a ha => k a (by simp [ha]))
  | _, _, _, .obj h c r, k => by unfold OT.toD; exact .obj (by rw [frz_in (k _ (by simp))]; exact h) c (RpOs.frz nf r fun a ha => k a (by simp [ha]))
theorem RpOs.frz {F : List Addr} (nf : ∀ a ∈ F, Hs a = none) : ∀ {ts : List OT} {vs : List V} {f : List Addr}, RpOs K T Hs H ts vs f → (∀ a ∈ f, a ∈ F) → Rps K T (frz Hs H F) (toDs ts) vs
  | _, _, _, .nil, _ => by unfold toDs; exact .nil
  | _, _, _, .cons h r, k => by unfold toDs; exact .cons (RpO.frz nf h fun a ha => k a (by simp [ha])) (RpOs.frz nf r fun a ha => k a (by simp [ha]))
end

inductive RpS (K : PySem.W.Frag) (T : Tab) (Hs H : Hp) (L : List Addr) : Env → St → List Addr → Prop
  | nil : RpS K T Hs H L [] [] []
  | no {x : Option V} {ρ : Env} {σ : St} {fp : List Addr} : RpS K T Hs H L ρ σ fp → RpS K T Hs H L (.no :: ρ) (x :: σ) fp
  | ow {t : OT} {v : V} {f : List Addr} {ρ : Env} {σ : St} {fp : List Addr} : RpO K T Hs H t v f → RpS K T Hs H L ρ σ fp → RpS K T Hs H L (.ow t :: ρ) (some v :: σ) (f ++ fp)
  | lk {t : OT} {v : V} {f : List Addr} {ρ : Env} {σ : St} {fp : List Addr} : RpO K T Hs H t v f → (∀ a ∈ f, a ∈ L) → RpS K T Hs H L ρ σ fp → RpS K T Hs H L (.lk t :: ρ) (some v :: σ) fp
variable {L L' : List Addr}
theorem RpS.length : ∀ {ρ : Env} {σ : St} {fp : List Addr}, RpS K T Hs H L ρ σ fp → ρ.length = σ.length
  | _, _, _, .nil => rfl
  | _, _, _, .no r => by simp [r.length]
  | _, _, _, .ow _ r => by simp [r.length]
  | _, _, _, .lk _ _ r => by simp [r.length]
theorem RpS.tracked : ∀ {ρ : Env} {σ : St} {fp : List Addr}, RpS K T Hs H L ρ σ fp → ∀ a ∈ fp, ∃ o, H a = some o
  | _, _, _, .nil, a, ha => by simp at ha
  | _, _, _, .no r, a, ha => r.tracked a ha
  | _, _, _, .ow h r, a, ha => by
    rcases List.mem_append.mp ha with ha | ha
    · exact h.tracked a ha
    · exact r.tracked a ha
  | _, _, _, .lk _ _ r, a, ha => r.tracked a ha
theorem RpS.step (e : Ex Hs Hs') (hL : ∀ a ∈ L, a ∈ L') : ∀ {ρ : Env} {σ : St} {fp : List Addr}, RpS K T Hs H L ρ σ fp → (∀ a, a ∈ fp ∨ a ∈ L → ∀ o, H a = some o → H' a = some o) → RpS K T Hs' H' L' ρ σ fp
  | _, _, _, .nil, _ => .nil
  | _, _, _, .no r, k => .no (r.step e hL k)
  | _, _, _, .ow h r, k => .ow (h.step e fun a ha => k a (.inl (by simp [ha]))) (r.step e hL fun a ha => k a (ha.imp (fun q => by simp [q]) id))
  | _, _, _, .lk h l r, k => .lk (h.step e fun a ha => k a (.inr (l a ha))) (fun a ha => hL a (l a ha)) (r.step e hL k)
/-- a slot with a tree of its own -/
theorem RpS.takeOut : ∀ {ρ : Env} {σ : St} {fp : List Addr} {i : Nat} {t : OT}, RpS K T Hs H L ρ σ fp → ρ[i]? = some (.ow t) → ∃ v f fr, σ[i]? = some (some v) ∧ RpO K T Hs H t v f ∧ fp.Perm (f ++ fr) ∧ RpS K T Hs H L (ρ.set i .no) σ fr
  | _, _, _, i, t, .nil, e => by simp at e
  | _, _, _, 0, t, .no r, e => by simp at e
  | _, _, _, 0, t, .lk h l r, e => by simp at e
  | _, _, _, 0, t, .ow h r, e => by
    simp at e; subst e
    exact ⟨_, _, _, rfl, h, .refl _, .no r⟩
  | _, _, _, i + 1, t, .no r, e => by
    obtain ⟨v, f, fr, h1, h2, h3, h4⟩ := r.takeOut (i := i) (by simpa using e)
    exact ⟨v, f, fr, by simpa using h1, h2, h3, .no h4⟩
  | _, _, _, i + 1, t, .lk h l r, e => by
    obtain ⟨v, f, fr, h1, h2, h3, h4⟩ := r.takeOut (i := i) (by simpa using e)
    exact ⟨v, f, fr, by simpa using h1, h2, h3, .lk h l h4⟩
  | _, _, _, i + 1, t, .ow (f := g) h r, e => by
    obtain ⟨v, f, fr, h1, h2, h3, h4⟩ := r.takeOut (i := i) (by simpa using e)
    refine ⟨v, f, g ++ fr, by simpa using h1, h2, ?_, .ow h h4⟩
    exact (List.Perm.append_left g h3).trans (by rw [← List.append_assoc, ← List.append_assoc]; exact List.Perm.append_right fr List.perm_append_comm)
/-- a slot forgotten -/
theorem RpS.forget : ∀ {ρ : Env} {σ : St} {fp : List Addr} (i : Nat) (x : Option V), RpS K T Hs H L ρ σ fp → ∃ fr, RpS K T Hs H L (ρ.set i .no) (σ.set i x) fr ∧ fr.Sublist fp
  | _, _, _, i, x, .nil => ⟨[], .nil, .refl _⟩
  | _, _, _, 0, x, .no r => ⟨_, .no r, .refl _⟩
  | _, _, _, 0, x, .ow h r => ⟨_, .no r, List.sublist_append_right _ _⟩
  | _, _, _, 0, x, .lk h l r => ⟨_, .no r, .refl _⟩
  | _, _, _, i + 1, x, .no r => by
    obtain ⟨fr, h1, h2⟩ := r.forget i x
    exact ⟨fr, .no h1, h2⟩
  | _, _, _, i + 1, x, .ow (f := g) h r => by
    obtain ⟨fr, h1, h2⟩ := r.forget i x
    exact ⟨g ++ fr, .ow h h1, h2.append_left g⟩
  | _, _, _, i + 1, x, .lk h l r => by
    obtain ⟨fr, h1, h2⟩ := r.forget i x
    exact ⟨fr, .lk h l h1, h2⟩
theorem RpS.forget' {ρ : Env} {σ : St} {fp : List Addr} (i : Nat) (r : RpS K T Hs H L ρ σ fp) : ∃ fr, RpS K T Hs H L (ρ.set i .no) σ fr ∧ fr.Sublist fp := by
  by_cases hi : i < σ.length
  · obtain ⟨fr, h1, h2⟩ := r.forget i (σ[i])
    exact ⟨fr, by rw [List.set_getElem_self] at h1; exact h1, h2⟩
  · refine ⟨fp, ?_, .refl _⟩
    rw [List.set_eq_of_length_le (by rw [r.length]; omega)]
    exact r
/-- a tree laid into a slot -/
theorem RpS.put : ∀ {ρ : Env} {σ : St} {fp : List Addr} {i : Nat} {t : OT} {v : V} {f : List Addr}, RpS K T Hs H L ρ σ fp → i < ρ.length → ρ[i]? = some .no → RpO K T Hs H t v f → ∃ fp', RpS K T Hs H L (ρ.set i (.ow t)) (σ.set i (some v)) fp' ∧ fp'.Perm (f ++ fp)
  | _, _, _, i, t, v, f, .nil, hi, _, h => by simp at hi
  | _, _, _, 0, t, v, f, .no r, hi, _, h => ⟨_, .ow h r, .refl _⟩
  | _, _, _, 0, t, v, f, .ow g r, hi, e, h => by simp at e
  | _, _, _, 0, t, v, f, .lk g l r, hi, e, h => by simp at e
  | _, _, _, i + 1, t, v, f, .no r, hi, e, h => by
    obtain ⟨fp', h1, h2⟩ := r.put (i := i) (by simpa using hi) (by simpa using e) h
    exact ⟨fp', .no h1, h2⟩
  | _, _, _, i + 1, t, v, f, .lk g l r, hi, e, h => by
    obtain ⟨fp', h1, h2⟩ := r.put (i := i) (by simpa using hi) (by simpa using e) h
    exact ⟨fp', .lk g l h1, h2⟩
  | _, _, _, i + 1, t, v, f, .ow (f := g') g r, hi, e, h => by
    obtain ⟨fp', h1, h2⟩ := r.put (i := i) (by simpa using hi) (by simpa using e) h
    refine ⟨_, .ow g h1, ?_⟩
    exact (List.Perm.append_left g' h2).trans (by rw [← List.append_assoc, ← List.append_assoc]; exact List.Perm.append_right _ List.perm_append_comm)
theorem RpS.putLk : ∀ {ρ : Env} {σ : St} {fp : List Addr} {i : Nat} {t : OT} {v : V} {f : List Addr}, RpS K T Hs H L ρ σ fp → i < ρ.length → ρ[i]? = some .no → RpO K T Hs H t v f → (∀ a ∈ f, a ∈ L) → RpS K T Hs H L (ρ.set i (.lk t)) (σ.set i (some v)) fp
  | _, _, _, i, t, v, f, .nil, hi, _, h, _ => by simp at hi
  | _, _, _, 0, t, v, f, .no r, hi, _, h, l => .lk h l r
  | _, _, _, 0, t, v, f, .ow g r, hi, e, h, _ => by simp at e
  | _, _, _, 0, t, v, f, .lk g l r, hi, e, h, _ => by simp at e
  | _, _, _, i + 1, t, v, f, .no r, hi, e, h, l => .no (r.putLk (i := i) (by simpa using hi) (by simpa using e) h l)
  | _, _, _, i + 1, t, v, f, .lk g l' r, hi, e, h, l => .lk g l' (r.putLk (i := i) (by simpa using hi) (by simpa using e) h l)
  | _, _, _, i + 1, t, v, f, .ow g r, hi, e, h, l => .ow g (r.putLk (i := i) (by simpa using hi) (by simpa using e) h l)
/-- a slot that may be read -/
theorem RpS.read : ∀ {ρ : Env} {σ : St} {fp : List Addr} {i : Nat} {t : OT}, RpS K T Hs H L ρ σ fp → Env.tree ρ i = some t → ∃ v f, σ[i]? = some (some v) ∧ RpO K T Hs H t v f ∧ ∀ a ∈ f, a ∈ fp ∨ a ∈ L
  | _, _, _, i, t, .nil, e => by simp [Env.tree] at e
  | _, _, _, 0, t, .no r, e => by simp [Env.tree] at e
  | _, _, _, 0, t, .ow h r, e => by simp [Env.tree] at e; subst e; exact ⟨_, _, rfl, h, fun a ha => .inl (by simp [ha])⟩
  | _, _, _, 0, t, .lk h l r, e => by simp [Env.tree] at e; subst e; exact ⟨_, _, rfl, h, fun a ha => .inr (l a ha)⟩
  | _, _, _, i + 1, t, .no r, e => by
    obtain ⟨v, f, h1, h2, h3⟩ := r.read (i := i) (t := t) (by simpa [Env.tree] using e)
    exact ⟨v, f, by simpa using h1, h2, h3⟩
  | _, _, _, i + 1, t, .ow h r, e => by
    obtain ⟨v, f, h1, h2, h3⟩ := r.read (i := i) (t := t) (by simpa [Env.tree] using e)
    exact ⟨v, f, by simpa using h1, h2, fun a ha => (h3 a ha).imp (fun q => by simp [q]) id⟩
  | _, _, _, i + 1, t, .lk h l r, e => by
    obtain ⟨v, f, h1, h2, h3⟩ := r.read (i := i) (t := t) (by simpa [Env.tree] using e)
    exact ⟨v, f, by simpa using h1, h2, h3⟩

theorem RpS.readLk : ∀ {ρ : Env} {σ : St} {fp : List Addr} {i : Nat} {t : OT}, RpS K T Hs H L ρ σ fp → ρ[i]? = some (.lk t) → ∃ v f, σ[i]? = some (some v) ∧ RpO K T Hs H t v f ∧ ∀ a ∈ f, a ∈ L
  | _, _, _, i, t, .nil, e => by simp at e
  | _, _, _, 0, t, .no r, e => by simp at e
  | _, _, _, 0, t, .ow h r, e => by simp at e
  | _, _, _, 0, t, .lk h l r, e => by simp at e; subst e; exact ⟨_, _, rfl, h, l⟩
  | _, _, _, i + 1, t, .no r, e => by
    obtain ⟨v, f, h1, h2, h3⟩ := r.readLk (i := i) (t := t) (by simpa using e)
    exact ⟨v, f, by simpa using h1, h2, h3⟩
  | _, _, _, i + 1, t, .ow h r, e => by
    obtain ⟨v, f, h1, h2, h3⟩ := r.readLk (i := i) (t := t) (by simpa using e)
    exact ⟨v, f, by simpa using h1, h2, h3⟩
  | _, _, _, i + 1, t, .lk h l r, e => by
    obtain ⟨v, f, h1, h2, h3⟩ := r.readLk (i := i) (t := t) (by simpa using e)
    exact ⟨v, f, by simpa using h1, h2, h3⟩

structure StOk (K : PySem.W.Frag) (T : Tab) (L : List Addr) (Hs H : Hp) (ρ : Env) (σ : St) (fp : List Addr) : Prop where
  ex : Ex Hs H
  rs : RpS K T Hs H L ρ σ fp
  nd : fp.Nodup
  nf : ∀ a ∈ fp, Hs a = none
  lf : ∀ a ∈ L, a ∉ fp
  lt : ∀ a ∈ L, (∃ o, H a = some o) ∧ Hs a = none
/-- from a state to a later one: what is not owned stays -/
structure Stp (fp : List Addr) (H Hs : Hp) (fp' : List Addr) (H' Hs' : Hp) : Prop where
  ex : Ex Hs Hs'
  fr : ∀ a o, H a = some o → a ∉ fp → H' a = some o
  nw : ∀ a ∈ fp', a ∈ fp ∨ H a = none
  dm : ∀ a o, Hs' a = some o → Hs a = some o ∨ a ∈ fp ∨ H a = none
theorem Stp.refl (fp : List Addr) (H Hs : Hp) : Stp fp H Hs fp H Hs := ⟨Ex.refl _, fun _ _ e _ => e, fun _ h => .inl h, fun _ _ e => .inl e⟩
variable {fp fp1 fp2 : List Addr} {H1 H2 Hs1 Hs2 : Hp}
theorem Stp.trans (a : Stp fp H Hs fp1 H1 Hs1) (b : Stp fp1 H1 Hs1 fp2 H2 Hs2) : Stp fp H Hs fp2 H2 Hs2 := by
  have back : ∀ x, x ∈ fp1 ∨ H1 x = none → x ∈ fp ∨ H x = none := fun x hx => by
    rcases hx with hx | hx
    · exact a.nw x hx
    · by_cases q : x ∈ fp
      · exact .inl q
      · cases e : H x with
        | none => exact .inr rfl
        | some o => rw [a.fr x o e q] at hx; cases hx
  refine ⟨a.ex.trans b.ex, fun x o e n => b.fr x o (a.fr x o e n) fun q => ?_, fun x hx => back x (b.nw x hx), fun x o e => ?_⟩
  · rcases a.nw x q with z | z
    · exact n z
    · rw [e] at z; cases z
  · rcases b.dm x o e with z | z
    · exact a.dm x o z
    · exact .inr (back x z)
theorem Stp.sub (a : Stp fp H Hs fp1 H1 Hs1) (s : ∀ x ∈ fp2, x ∈ fp1) : Stp fp H Hs fp2 H1 Hs1 := ⟨a.ex, a.fr, fun x hx => a.nw x (s x hx), a.dm⟩
/-- what is seen from outside: a larger ground -/
theorem Stp.wider (a : Stp fp H Hs fp1 H1 Hs1) (s : ∀ x ∈ fp, x ∈ fp2) (F : List Addr) (hF : ∀ x ∈ F, x ∈ fp2) : Stp fp2 H Hs (F ++ fp1) H1 Hs1 :=
  ⟨a.ex, fun x o e n => a.fr x o e fun q => n (s x q), fun x hx => by
    rcases List.mem_append.mp hx with hx | hx
    · exact .inl (hF x hx)
    · exact (a.nw x hx).imp (s x) id, fun x o e => (a.dm x o e).imp id fun z => z.imp (s x) id⟩
/-- nothing but new objects -/
theorem Stp.grow (e : Ex H H') (n : ∀ a ∈ fp1, a ∈ fp ∨ H a = none) (e2 : Ex Hs Hs') (d : ∀ a o, Hs' a = some o → Hs a = some o ∨ a ∈ fp ∨ H a = none) : Stp fp H Hs fp1 H' Hs' := ⟨e2, fun a o q _ => e a o q, n, d⟩
/-- a tree beside the state -/
theorem RpO.keep {t : OT} {v : V} {f : List Addr} (r : RpO K T Hs H t v f) (d : ∀ a ∈ f, a ∉ fp) (s : Stp fp H Hs fp1 H1 Hs1) : RpO K T Hs1 H1 t v f := r.step s.ex fun a ha o e => s.fr a o e (d a ha)
theorem RpOs.keep {ts : List OT} {vs : List V} {f : List Addr} (r : RpOs K T Hs H ts vs f) (d : ∀ a ∈ f, a ∉ fp) (s : Stp fp H Hs fp1 H1 Hs1) : RpOs K T Hs1 H1 ts vs f := r.step s.ex fun a ha o e => s.fr a o e (d a ha)
theorem Stp.out (s : Stp fp H Hs fp1 H1 Hs1) {a : Addr} (h : ∃ o, H a = some o) (n : a ∉ fp) : a ∉ fp1 := fun q => by
  rcases s.nw a q with z | z
  · exact n z
  · obtain ⟨o, e⟩ := h; rw [e] at z; cases z
theorem Stp.outHs (s : Stp fp H Hs fp1 H1 Hs1) {a : Addr} (h : ∃ o, H a = some o) (n : a ∉ fp) (z : Hs a = none) : Hs1 a = none := by
  cases e : Hs1 a with
  | none => rfl
  | some o =>
    rcases s.dm a o e with q | q | q
    · rw [z] at q; cases q
    · exact absurd q n
    · obtain ⟨o', e'⟩ := h; rw [e'] at q; cases q
end
end CH
end
section
namespace CH
open PySem L2 Evl PyProof.Rows

def Opd (K : PySem.W.Frag) (T : Tab) (Hs H : Hp) (t : OT) (x : V) : Prop := ∃ f, RpO K T Hs H t x f
inductive Opds (K : PySem.W.Frag) (T : Tab) (Hs H : Hp) : List OT → List V → Prop
  | nil : Opds K T Hs H [] []
  | cons {t : OT} {x : V} {ts : List OT} {xs : List V} : Opd K T Hs H t x → Opds K T Hs H ts xs → Opds K T Hs H (t :: ts) (x :: xs)
/-- a new value -/
structure New (K : PySem.W.Frag) (T : Tab) (Hs H : Hp) (w : OT) (z : V) (H' Hs' : Hp) (ft : List Addr) : Prop where
  eH : Ex H H'
  eS : Ex Hs Hs'
  le : Ex Hs' H'
  rp : RpO K T Hs' H' w z ft
  nd : ft.Nodup
  fr : ∀ a ∈ ft, H a = none ∧ Hs' a = none
  dm : ∀ a o, Hs' a = some o → Hs a = some o ∨ H a = none
section
variable {K : PySem.W.Frag} {T : Tab} {H Hs : Hp}
theorem none_of_ex (e : Ex Hs H) {p : Addr} (h : H p = none) : Hs p = none := fresh_back e h
theorem New.val {d : D} {z : V} (e : Ex Hs H) (r : Rp K T Hs d z) : New K T Hs H (.sh d) z H Hs [] := ⟨Ex.refl _, Ex.refl _, e, .sh r, .nil, fun a h => absurd h (by simp), fun _ _ h => .inl h⟩
theorem ex_upd2 {p : Addr} {o : HO} (e : Ex Hs H) : Ex (upd Hs p o) (upd H p o) := fun a u q => by
  by_cases h : a = p
  · subst h; rw [upd_same] at q ⊢; exact q
  · rw [upd_ne h] at q ⊢; exact e a u q
theorem New.tup {ds : List D} {vs : List V} {p : Addr} (e : Ex Hs H) (h : H p = none) (r : Rps K T Hs ds vs) : New K T Hs H (.sh (.tup ds)) (.ref p) (upd H p (.tup vs)) (upd Hs p (.tup vs)) [] :=
  ⟨Ex.new h, Ex.new (none_of_ex e h), ex_upd2 e, .sh (.tup (SqT.of upd_same) (r.mono (Ex.new (none_of_ex e h)))), .nil, fun a h => absurd h (by simp), fun a o q => by
    by_cases z : a = p
    · subst z; exact .inr h
    · rw [upd_ne z] at q; exact .inl q⟩
theorem New.lst {ts : List OT} {vs : List V} {p : Addr} (e : Ex Hs H) (h : H p = none) (r : RpOs K T Hs H ts vs []) : New K T Hs H (.lst ts) (.ref p) (upd H p (.lst vs)) Hs [p] :=
  ⟨Ex.new h, Ex.refl _, fun a o q => by rw [upd_ne (ne_of_none (e a o q) h)]; exact e a o q, .lst upd_same (r.step (Ex.refl _) fun a ha => absurd ha (by simp)), by simp, fun a ha => by
    have : a = p := by simpa using ha
    subst this; exact ⟨h, none_of_ex e h⟩, fun _ _ q => .inl q⟩
theorem New.newL {ds : List D} {vs : List V} {p : Addr} (e : Ex Hs H) (h : H p = none) (r : Rps K T Hs ds vs) : New K T Hs H (newL ds) (.ref p) (upd H p (.lst vs)) Hs [p] := New.lst e h (.of r)

theorem opd_int {i : Int} {x : V} (h : Opd K T Hs H (.sh (.int i)) x) : x = .int i := by obtain ⟨_, h⟩ := h; cases h with | sh h => cases h; rfl
theorem opd_bl {b : Bool} {x : V} (h : Opd K T Hs H (.sh (.bl b)) x) : x = .bl b := by obtain ⟨_, h⟩ := h; cases h with | sh h => cases h; rfl
theorem opd_str {s : Str} {x : V} (h : Opd K T Hs H (.sh (.str s)) x) : x = .str s := by obtain ⟨_, h⟩ := h; cases h with | sh h => cases h; rfl
theorem opd_non {x : V} (h : Opd K T Hs H (.sh .non) x) : x = .non := by obtain ⟨_, h⟩ := h; cases h with | sh h => cases h; rfl
theorem opd_tup {ds : List D} {x : V} (h : Opd K T Hs H (.sh (.tup ds)) x) : ∃ a vs, x = .ref a ∧ SqT K Hs a vs ∧ Rps K T Hs ds vs := by obtain ⟨_, h⟩ := h; cases h with | sh h => cases h with | tup h r => exact ⟨_, _, rfl, h, r⟩
theorem opd_flst {ds : List D} {x : V} (h : Opd K T Hs H (.sh (.flst ds)) x) : ∃ a vs, x = .ref a ∧ SqL K Hs a vs ∧ Rps K T Hs ds vs := by obtain ⟨_, h⟩ := h; cases h with | sh h => cases h with | flst h r => exact ⟨_, _, rfl, h, r⟩
theorem opd_litems {t : OT} {ds : List D} {x : V} (e : Ex Hs H) (h : Opd K T Hs H t x) (hl : t.litems = some ds) : ∃ a vs, x = .ref a ∧ H a = some (.lst vs) ∧ Rps K T Hs ds vs := by
  obtain ⟨f, h⟩ := h
  cases h with
  | sh h =>
    cases h with
    | lst h r => simp only [OT.litems, Option.some.injEq] at hl; subst hl; exact ⟨_, _, rfl, e _ _ h, r⟩
    | _ => simp [OT.litems] at hl
  | lst h r =>
    obtain ⟨r1, rfl⟩ := r.leaves (show leaves _ = some ds from hl)
    exact ⟨_, _, rfl, h, r1⟩
  | obj h c r => simp [OT.litems] at hl
theorem opd_items {t : OT} {ds : List D} {x : V} (e : Ex Hs H) (h : Opd K T Hs H t x) (hl : t.items = some ds) : ∃ a vs, x = .ref a ∧ (SqL K H a vs ∨ SqT K H a vs) ∧ Rps K T Hs ds vs := by
  obtain ⟨f, h⟩ := h
  cases h with
  | sh h =>
    cases h with
    | lst h r => simp only [OT.items, Option.some.injEq] at hl; subst hl; exact ⟨_, _, rfl, .inl (sq_of (e _ _ h)), r⟩
    | flst h r => simp only [OT.items, Option.some.injEq] at hl; subst hl; exact ⟨_, _, rfl, .inl (ex_l e h), r⟩
    | tup h r => simp only [OT.items, Option.some.injEq] at hl; subst hl; exact ⟨_, _, rfl, .inr (ex_t e h), r⟩
    | _ => simp [OT.items] at hl
  | lst h r =>
    obtain ⟨r1, rfl⟩ := r.leaves (show leaves _ = some ds from hl)
    exact ⟨_, _, rfl, .inl (sq_of h), r1⟩
  | obj h c r => simp [OT.items] at hl
theorem opd_toD {t : OT} {x : V} (e : Ex Hs H) (h : Opd K T Hs H t x) : Rp K T H t.toD x := by obtain ⟨f, h⟩ := h; exact h.toD e
theorem line : big = sizeLine := by rw [sizeLine_eq]; rfl
theorem guard_eq {α : Type} {b : Bool} {a c : α} (h : guard_ b a = some c) : b = true ∧ a = c := by
  unfold guard_ at h
  split at h
  · exact ⟨by assumption, Option.some.inj h⟩
  · cases h
end

def rOpS (K : PySem.W.Frag) (T : Tab) (ev : OT → OT → Option OT) : R2 := fun x y H Q => ∃ Hs s t w, Ex Hs H ∧ Opd K T Hs H s x ∧ Opd K T Hs H t y ∧ ev s t = some w ∧ ∀ z H' Hs' ft, New K T Hs H w z H' Hs' ft → Q z H'
def rUnS (K : PySem.W.Frag) (T : Tab) (ev : OT → Option OT) : V → Hp → VK → Prop := fun x H Q => ∃ Hs s w, Ex Hs H ∧ Opd K T Hs H s x ∧ ev s = some w ∧ ∀ z H' Hs' ft, New K T Hs H w z H' Hs' ft → Q z H'
def rCS (K : PySem.W.Frag) (T : Tab) (ev : List OT → Option OT) : List V → Hp → VK → Prop := fun xs H Q => ∃ Hs ts w, Ex Hs H ∧ Opds K T Hs H ts xs ∧ ev ts = some w ∧ ∀ z H' Hs' ft, New K T Hs H w z H' Hs' ft → Q z H'
section
variable {X : Cx} {T : Tab}
theorem os_add : OpR X (binaryOp .Add) (rOpS X.K T addEv) := by
  intro pins s σ H x y v u Q I rx ry ⟨Hs, a, b, w, e, ha, hb, hev, q⟩
  have lists : ∀ {ds es : List D}, a.litems = some ds → b.litems = some es → guard_ (decide (ds.length + es.length ≤ big)) (newL (ds ++ es)) = some w → wpAny (model X.prog X.w) X.A (binaryOp .Add v u) (EP X pins σ Q) X.xe s := by
    intro ds es h1 h2 hg
    obtain ⟨p, vs, rfl, hp, rs⟩ := opd_litems e ha h1
    obtain ⟨p2, vs2, rfl, hp2, rs2⟩ := opd_litems e hb h2
    obtain ⟨hz, rfl⟩ := guard_eq hg
    refine op_cat pins s σ H _ _ v u Q I rx ry ⟨p, p2, vs, vs2, rfl, rfl, hp, hp2, ?_, fun p3 h3 => q _ _ _ _ (New.newL e h3 (rs.append rs2))⟩
    rw [← rs.length, ← rs2.length, ← line]; exact of_decide_eq_true hz
  have gen : (a.litems.bind fun ds => b.litems.bind fun es => guard_ (decide (ds.length + es.length ≤ big)) (newL (ds ++ es))) = some w → wpAny (model X.prog X.w) X.A (binaryOp .Add v u) (EP X pins σ Q) X.xe s := fun h => by
    obtain ⟨ds, h1, h⟩ := Option.bind_eq_some_iff.mp h
    obtain ⟨es, h2, h⟩ := Option.bind_eq_some_iff.mp h
    exact lists h1 h2 h
  unfold addEv at hev
  split at hev
  · cases Option.some.inj hev; cases opd_int ha; cases opd_int hb
    exact op_add pins s σ H _ _ v u Q I rx ry ⟨_, _, rfl, rfl, q _ _ _ _ (New.val e (.int _))⟩
  · obtain ⟨hz, rfl⟩ := guard_eq hev; cases opd_str ha; cases opd_str hb
    refine op_add_str pins s σ H _ _ v u Q I rx ry ⟨_, _, rfl, rfl, ?_, q _ _ _ _ (New.val e (.str _))⟩
    rw [← line]; exact of_decide_eq_true hz
  · obtain ⟨hz, rfl⟩ := guard_eq hev
    obtain ⟨p, vs, rfl, hp, rs⟩ := opd_tup ha
    obtain ⟨p2, vs2, rfl, hp2, rs2⟩ := opd_tup hb
    have hz' : vs.length + vs2.length ≤ sizeLine := by rw [← rs.length, ← rs2.length, ← line]; exact of_decide_eq_true hz
    refine op_catA pins s σ H _ _ v u Q I rx ry ⟨p, p2, vs, vs2, rfl, rfl, ex_t e hp, ex_t e hp2, hz', fun h0 => ?_, fun _ h0 => ?_, fun _ _ p3 h3 => q _ _ _ _ (New.tup e h3 (rs.append rs2))⟩
    · subst h0
      cases rs
      exact q _ _ _ _ (New.val e (.tup hp2 rs2))
    · subst h0
      cases rs2
      exact q _ _ _ _ (New.val e (.tup hp (by rw [List.append_nil]; exact rs)))
  · exact gen hev
/-- two ints -/
theorem os_int {f : Value → Value → Sem Value} {g : Int → Int → Int} {C : Int → Int → Prop} {ev : OT → OT → Option OT} (ho : OpR X f (rI C fun i j => .int (g i j)))
    (h : ∀ s t w, ev s t = some w → ∃ i j, s = .sh (.int i) ∧ t = .sh (.int j) ∧ C i j ∧ w = .sh (.int (g i j))) : OpR X f (rOpS X.K T ev) := by
  intro pins s σ H x y v u Q I rx ry ⟨Hs, a, b, w, e, ha, hb, hev, q⟩
  obtain ⟨i, j, rfl, rfl, hc, rfl⟩ := h _ _ _ hev
  cases opd_int ha
  cases opd_int hb
  exact ho pins s σ H _ _ v u Q I rx ry ⟨i, j, rfl, rfl, hc, q _ _ _ _ (New.val e (.int _))⟩
theorem rI_of {f : Value → Value → Sem Value} {g : Int → Int → V} (ho : OpR X f (rI0 g)) : OpR X f (rI (fun _ _ => True) g) := fun pins s σ H x y v u Q I rx ry ⟨i, j, h1, h2, _, q⟩ => ho pins s σ H x y v u Q I rx ry ⟨i, j, h1, h2, q⟩
theorem os_sub : OpR X (binaryOp .Sub) (rOpS X.K T subEv) := os_int (rI_of op_sub) fun s t w h => by
  unfold subEv at h
  split at h <;> first | (cases Option.some.inj h; exact ⟨_, _, rfl, rfl, trivial, rfl⟩) | cases h
theorem os_mod : OpR X (binaryOp .Mod) (rOpS X.K T modEv) := os_int op_mod fun s t w h => by
  unfold modEv at h
  split at h <;> first | (obtain ⟨z, rfl⟩ := guard_eq h; exact ⟨_, _, rfl, rfl, (have q := of_decide_eq_true z; q), rfl⟩) | cases h
theorem os_fdiv : OpR X (binaryOp .FloorDiv) (rOpS X.K T fdivEv) := os_int op_fdiv fun s t w h => by
  unfold fdivEv at h
  split at h <;> first | (obtain ⟨z, rfl⟩ := guard_eq h; exact ⟨_, _, rfl, rfl, (have q := of_decide_eq_true z; q), rfl⟩) | cases h
theorem os_pow : OpR X (binaryOp .Pow) (rOpS X.K T powEv) := os_int op_pow fun s t w h => by
  unfold powEv at h
  split at h <;> first | (obtain ⟨z, rfl⟩ := guard_eq h; exact ⟨_, _, rfl, rfl, (have q := of_decide_eq_true z; q), rfl⟩) | cases h
theorem mulOk_of {i j : Int} (h : mulOk i j = true) : CMul i j := by
  unfold mulOk at h
  rw [Bool.or_eq_true] at h
  exact h.imp of_decide_eq_true of_decide_eq_true
theorem os_mul : OpR X (binaryOp .Mult) (rOpS X.K T mulEv) := by
  intro pins s σ H x y v u Q I rx ry ⟨Hs, a, b, w, e, ha, hb, hev, q⟩
  unfold mulEv at hev
  split at hev
  · obtain ⟨z, rfl⟩ := guard_eq hev
    cases opd_int ha
    cases opd_int hb
    exact op_mul pins s σ H _ _ v u Q I rx ry ⟨_, _, rfl, rfl, mulOk_of z, q _ _ _ _ (New.val e (.int _))⟩
  · obtain ⟨ds, h1, h⟩ := Option.bind_eq_some_iff.mp hev
    obtain ⟨z, rfl⟩ := guard_eq h
    obtain ⟨p, vs, rfl, hp, rs⟩ := opd_litems e ha h1
    cases opd_int hb
    obtain ⟨z1, z2, z3⟩ := of_decide_eq_true z
    exact op_rep pins s σ H _ _ v u Q I rx ry ⟨p, _, vs, rfl, rfl, hp, z1, z2, by rw [← rs.length, ← line]; exact z3, fun p3 h3 => q _ _ _ _ (New.newL e h3 (rs.rep _))⟩
  · cases hev
theorem us_neg : UnR X (unaryOp .USub) (rUnS X.K T negEv) := by
  intro pins s σ H x v Q I rx ⟨Hs, a, w, e, ha, hev, q⟩
  unfold negEv at hev
  split at hev
  · cases Option.some.inj hev
    cases opd_int ha
    exact un_neg pins s σ H _ v Q I rx ⟨_, rfl, q _ _ _ _ (New.val e (.int _))⟩
  · cases hev
end

def rCmS (K : PySem.W.Frag) (T : Tab) (ev : OT → OT → Option Bool) : R2 := fun x y H Q => ∃ Hs s t b, Ex Hs H ∧ Opd K T Hs H s x ∧ Opd K T Hs H t y ∧ ev s t = some b ∧ Q (.bl b) H
section
variable {K : PySem.W.Frag} {T : Tab} {H Hs : Hp}
mutual
theorem Rp.dp : ∀ {d : D} {v : V} {p : PyData}, Rp K T H d v → d.toP = some p → Dp K H v p
  | _, _, _, .non, e => by simp only [D.toP, Option.some.injEq] at e; subst e; exact .non
  | _, _, _, .bl b, e => by simp only [D.toP, Option.some.injEq] at e; subst e; exact .bl b
  | _, _, _, .int i, e => by simp only [D.toP, Option.some.injEq] at e; subst e; exact .int i
  | _, _, _, .str i, e => by simp only [D.toP, Option.some.injEq] at e; subst e; exact .str i
  | _, _, _, .tup h r, e => by
    simp only [D.toP, Option.map_eq_some_iff] at e
    obtain ⟨ps, e, rfl⟩ := e
    exact .tup h (Rps.dp r e)
  | _, _, _, .lst h r, e => by
    simp only [D.toP, Option.map_eq_some_iff] at e
    obtain ⟨ps, e, rfl⟩ := e
    exact .lst (sq_of h) (Rps.dp r e)
  | _, _, _, .flst h r, e => by simp [D.toP] at e
  | _, _, _, .ty n, e => by simp [D.toP] at e
  | _, _, _, .fn h, e => by simp [D.toP] at e
  | _, _, _, .obj .., e => by simp [D.toP] at e
theorem Rps.dp : ∀ {ds : List D} {vs : List V} {ps : List PyData}, Rps K T H ds vs → toPs ds = some ps → DpAll K H vs ps
  | _, _, _, .nil, e => by simp only [toPs, Option.some.injEq] at e; subst e; exact .nil
  | _, _, _, .cons h r, e => by
    simp only [toPs] at e
    obtain ⟨p, e1, e⟩ := Option.bind_eq_some_iff.mp e
    obtain ⟨ps, e2, rfl⟩ := Option.map_eq_some_iff.mp e
    exact .cons (Rp.dp h e1) (Rps.dp r e2)
end
theorem rps_ints : ∀ {ds : List D} {vs : List V} {ns : List Int}, Rps K T H ds vs → intsD ds = some ns → vs = ns.map V.int
  | _, _, _, .nil, e => by simp only [intsD, Option.some.injEq] at e; subst e; rfl
  | _, _, _, .cons h r, e => by
    cases h with
    | int i =>
      simp only [intsD, Option.map_eq_some_iff] at e
      obtain ⟨ns, e, rfl⟩ := e
      rw [rps_ints r e]; rfl
    | _ => simp [intsD] at e
theorem rps_bls : ∀ {ds : List D} {vs : List V} {ns : List Bool}, Rps K T H ds vs → blsD ds = some ns → vs = ns.map V.bl
  | _, _, _, .nil, e => by simp only [blsD, Option.some.injEq] at e; subst e; rfl
  | _, _, _, .cons h r, e => by
    cases h with
    | bl i =>
      simp only [blsD, Option.map_eq_some_iff] at e
      obtain ⟨ns, e, rfl⟩ := e
      rw [rps_bls r e]; rfl
    | _ => simp [blsD] at e
theorem intsD_map : ∀ ns : List Int, intsD (ns.map .int) = some ns
  | [] => rfl
  | n :: ns => by simp [intsD, intsD_map ns]
theorem rps_of_ints : ∀ ns : List Int, Rps K T H (ns.map .int) (ns.map V.int)
  | [] => .nil
  | n :: ns => .cons (.int n) (rps_of_ints ns)
end
section
variable {X : Cx} {T : Tab}
theorem dec_strV {a b : Str} : decide (V.str a = V.str b) = (a == b) := by
  rw [Bool.eq_iff_iff]
  simp
theorem cs_eq (hu : X.A.units + 64 < cLine) : OpR X (compareOp .Eq) (rCmS X.K T eqEv) := by
  intro pins s σ H x y v u Q I rx ry ⟨Hs, a, b, w, e, ha, hb, hev, q⟩
  unfold eqEv at hev
  split at hev
  · cases Option.some.inj hev
    cases opd_str ha
    cases opd_str hb
    exact L2.op_eq pins s σ H _ _ v u Q I rx ry ⟨rfl, by rw [dec_strV]; exact q⟩
  unfold eqD at hev
  obtain ⟨p1, e1, hev⟩ := Option.bind_eq_some_iff.mp hev
  obtain ⟨p2, e2, hev⟩ := Option.bind_eq_some_iff.mp hev
  split at hev
  · rename_i hz
    cases Option.some.inj hev
    rw [Bool.and_eq_true] at hz
    exact op_eqD hu pins s σ H x y v u Q I rx ry ⟨p1, p2, (opd_toD e ha).dp e1, (opd_toD e hb).dp e2, hz.1, hz.2, q⟩
  · cases hev
theorem cs_ne (hu : X.A.units + 64 < cLine) : OpR X (compareOp .NotEq) (rCmS X.K T neEv) := by
  intro pins s σ H x y v u Q I rx ry ⟨Hs, a, b, w, e, ha, hb, hev, q⟩
  unfold neEv at hev
  split at hev
  · cases Option.some.inj hev
    cases opd_str ha
    cases opd_str hb
    exact L2.op_ne pins s σ H _ _ v u Q I rx ry ⟨rfl, by rw [dec_strV]; exact q⟩
  unfold eqD at hev
  obtain ⟨k, hev2, hk⟩ := Option.map_eq_some_iff.mp hev
  clear hev
  subst hk
  have hev := hev2
  obtain ⟨p1, e1, hev⟩ := Option.bind_eq_some_iff.mp hev
  obtain ⟨p2, e2, hev⟩ := Option.bind_eq_some_iff.mp hev
  split at hev
  · rename_i hz
    cases Option.some.inj hev
    rw [Bool.and_eq_true] at hz
    exact op_neD hu pins s σ H x y v u Q I rx ry ⟨p1, p2, (opd_toD e ha).dp e1, (opd_toD e hb).dp e2, hz.1, hz.2, q⟩
  · cases hev
theorem cs_int {op : CmpOp} {g : Int → Int → Bool} {ev : OT → OT → Option Bool} (ho : OpR X (compareOp op) (rI0 fun i j => .bl (g i j)))
    (h : ∀ s t w, ev s t = some w → ∃ i j, s = .sh (.int i) ∧ t = .sh (.int j) ∧ w = g i j) : OpR X (compareOp op) (rCmS X.K T ev) := by
  intro pins s σ H x y v u Q I rx ry ⟨Hs, a, b, w, e, ha, hb, hev, q⟩
  obtain ⟨i, j, rfl, rfl, rfl⟩ := h _ _ _ hev
  cases opd_int ha
  cases opd_int hb
  exact ho pins s σ H _ _ v u Q I rx ry ⟨i, j, rfl, rfl, q⟩
theorem cs_le : OpR X (compareOp .LtE) (rCmS X.K T leEv) := cs_int op_le fun s t w h => by
  unfold leEv at h
  split at h <;> first | (cases Option.some.inj h; exact ⟨_, _, rfl, rfl, rfl⟩) | cases h
theorem cs_gt : OpR X (compareOp .Gt) (rCmS X.K T gtEv) := cs_int op_gt fun s t w h => by
  unfold gtEv at h
  split at h <;> first | (cases Option.some.inj h; exact ⟨_, _, rfl, rfl, rfl⟩) | cases h
theorem cs_ge : OpR X (compareOp .GtE) (rCmS X.K T geEv) := cs_int op_ge fun s t w h => by
  unfold geEv at h
  split at h <;> first | (cases Option.some.inj h; exact ⟨_, _, rfl, rfl, rfl⟩) | cases h
theorem vals_atR : ∀ {xs : List V} {us : List Value} {j : Nat} {u : Value}, Vals xs us → us[j]? = some u → ∃ x, xs[j]? = some x ∧ RelV x u
  | _, _, j, u, .nil, h => by simp at h
  | _, _, 0, u, .cons r t, h => by simp at h; subst h; exact ⟨_, rfl, r⟩
  | _, _, j + 1, u, .cons r t, h => by
    obtain ⟨x, h1, h2⟩ := vals_atR (j := j) t (by simpa using h)
    exact ⟨x, by simpa using h1, h2⟩
theorem lexAt_ltW {e r : Nat → Bool} : ∀ {xs ys : List D} {i : Nat}, (∀ (j : Nat) (x y : D), xs[j]? = some x → ys[j]? = some y → e (i + j) = eq1 x y ∧ r (i + j) = lt1 x y) → Ob.lexAt e r (decide (xs.length < ys.length)) i (min xs.length ys.length) = ltW xs ys
  | [], [], i, h => rfl
  | [], y :: ys, i, h => by simp [Ob.lexAt, ltW]
  | x :: xs, [], i, h => by simp [Ob.lexAt, ltW]
  | x :: xs, y :: ys, i, h => by
    have h0 := h 0 x y rfl rfl
    rw [Nat.add_zero] at h0
    rw [List.length_cons, List.length_cons, Nat.succ_min_succ, Ob.lexAt_succ, h0.1, h0.2]
    unfold ltW
    have ih := lexAt_ltW (e := e) (r := r) (xs := xs) (ys := ys) (i := i + 1) fun j x' y' h1 h2 => by
      rw [show i + 1 + j = i + (j + 1) by omega]
      exact h (j + 1) x' y' (by simpa using h1) (by simpa using h2)
    rw [← ih]
    simp only [Nat.add_lt_add_iff_right]
theorem cmps_get : ∀ {xs ys : List D} {j : Nat} {x y : D}, cmps xs ys = true → xs[j]? = some x → ys[j]? = some y → cmp1 x y = true
  | [], _, j, x, y, _, h1, _ => by simp at h1
  | _ :: _, [], j, x, y, _, _, h2 => by simp at h2
  | a :: xs, b :: ys, 0, x, y, h, h1, h2 => by
    simp at h1 h2
    subst h1 h2
    simp only [cmps, Bool.and_eq_true] at h
    exact h.1
  | a :: xs, b :: ys, j + 1, x, y, h, h1, h2 => by
    simp only [cmps, Bool.and_eq_true] at h
    exact cmps_get (j := j) h.2 (by simpa using h1) (by simpa using h2)
theorem shapedD_of {d : D} (h : shapedD d = true) : ∃ p, d.toP = some p ∧ SeqAt.shaped p = true := by
  unfold shapedD at h
  split at h
  · exact ⟨_, by assumption, h⟩
  · cases h
/-- two items: equal or not, and which comes first -/
theorem item_cmp {A : Around} {pins : List (Addr × Obj)} {s : Shared} {σ : L2.St} {H : Hp} {x y : D} {vx vy : V} {u v : Value} (I : Inv X pins σ H s) (hu : A.units + 64 < cLine) (hc : cmp1 x y = true) (rx : Rp X.K T H x vx) (ry : Rp X.K T H y vy) (qx : RelV vx u) (qy : RelV vy v) :
    SeqAt.EqAt A s u v (eq1 x y) ∧ Ob.RcOp .Lt A s u v (lt1 x y) := by
  unfold cmp1 at hc
  split at hc
  · rename_i i j
    cases rx
    cases ry
    obtain ⟨t, rfl⟩ := qx
    obtain ⟨t', rfl⟩ := qy
    have e : eq1 (.int i) (.int j) = (i == j) := rfl
    rw [e]
    exact ⟨SeqAt.EqAt.int_int i t j t', Ob.RcOp.lt_int i j t t'⟩
  · rename_i a b
    simp only [Bool.and_eq_true] at hc
    obtain ⟨⟨⟨h1, h2⟩, h3⟩, h4⟩ := hc
    obtain ⟨m, e1⟩ := Option.isSome_iff_exists.mp h1
    obtain ⟨n, e2⟩ := Option.isSome_iff_exists.mp h2
    obtain ⟨p, p1, p2⟩ := shapedD_of h3
    obtain ⟨q, q1, q2⟩ := shapedD_of h4
    obtain ⟨as, r1⟩ := Dp.reads I p vx u (rx.dp p1) qx
    obtain ⟨bs, r2⟩ := Dp.reads I q vy v (ry.dp q1) qy
    refine ⟨?_, ?_⟩
    · have e : eq1 (.tup a) (.tup b) = PyData.eqv p q := by unfold eq1; rw [p1, q1]
      rw [e]
      exact SeqAt.eqAt_reads p q A s u v as bs r1 r2 (SeqAt.canLay_of_shaped p2) (SeqAt.canLay_of_shaped q2) (by have := SeqAt.room_of_shaped (A := A) (da := p) (db := q) p2 hu; exact this)
    · have e : lt1 (.tup a) (.tup b) = HT.lexLt m n := by
        show (match intsD a, intsD b with
          | some m, some n => HT.lexLt m n
          | _, _ => false) = _
        rw [e1, e2]
      rw [e]
      cases rx with
      | tup hp rs =>
        cases ry with
        | tup hq rs2 =>
          have k1 := rps_ints rs e1
          have k2 := rps_ints rs2 e2
          subst k1 k2
          cases qx
          cases qy
          obtain ⟨i1, v1, t1, _⟩ := I.tuple hp
          obtain ⟨i2, v2, t2, _⟩ := I.tuple hq
          exact fun prog w E Q h => HT.lt_tupInts t1 t2 v1.ints v2.ints (by omega) h
  · cases hc
theorem cs_lt (hu : X.A.units + 65 < cLine) : OpR X (compareOp .Lt) (rCmS X.K T ltEv) := by
  intro pins s σ H x y v u Q I rx ry ⟨Hs, a, b, w, e, ha, hb, hev, q⟩
  unfold ltEv at hev
  split at hev
  · cases Option.some.inj hev
    cases opd_int ha
    cases opd_int hb
    exact op_lt pins s σ H _ _ v u Q I rx ry ⟨_, _, rfl, rfl, q⟩
  · rename_i a b
    obtain ⟨p, vs, rfl, hp, rs⟩ := opd_tup ha
    obtain ⟨p2, vs2, rfl, hp2, rs2⟩ := opd_tup hb
    split at hev
    · rename_i m n h1 h2
      cases Option.some.inj hev
      have k1 := rps_ints rs h1
      have k2 := rps_ints rs2 h2
      subst k1 k2
      exact op_ltT (by omega) pins s σ H _ _ v u Q I rx ry ⟨p, p2, m, n, rfl, rfl, ex_t e hp, ex_t e hp2, q⟩
    · split at hev
      · rename_i hc
        cases Option.some.inj hev
        cases rx
        cases ry
        obtain ⟨i1, v1, t1, _⟩ := I.tuple (ex_t e hp)
        obtain ⟨i2, v2, t2, _⟩ := I.tuple (ex_t e hp2)
        have rs := rs.mono e
        have rs2 := rs2.mono e
        have pair : ∀ (j : Nat) (h1 : j < i1.toArray.size) (h2 : j < i2.toArray.size), ∃ x y, a[j]? = some x ∧ b[j]? = some y ∧ SeqAt.EqAt X.A.in1 s i1.toArray[j] i2.toArray[j] (eq1 x y) ∧ Ob.RcOp .Lt X.A.in1 s i1.toArray[j] i2.toArray[j] (lt1 x y) := fun j h1 h2 => by
          have z1 : j < i1.length := by simpa using h1
          have z2 : j < i2.length := by simpa using h2
          obtain ⟨x1, y1, y2⟩ := vals_atR v1 (List.getElem?_eq_getElem z1)
          obtain ⟨x2, y3, y4⟩ := vals_atR v2 (List.getElem?_eq_getElem z2)
          obtain ⟨d1, w1, w2⟩ := rs.getV y1
          obtain ⟨d2, w3, w4⟩ := rs2.getV y3
          have := item_cmp (A := X.A.in1) I (by show X.A.units + 1 + 64 < cLine; omega) (cmps_get hc w1 w3) w2 w4 y2 y4
          exact ⟨d1, d2, w1, w3, by simpa using this.1, by simpa using this.2⟩
        let ee : Nat → Bool := fun j => match a[j]?, b[j]? with
          | some x, some y => eq1 x y
          | _, _ => false
        let rr : Nat → Bool := fun j => match a[j]?, b[j]? with
          | some x, some y => lt1 x y
          | _, _ => false
        have main := Ob.RcOp.tuples_lt (A := X.A) (s := s) (e := ee) (r := rr) t1 t2 (by omega) (fun j h1 h2 => by
          obtain ⟨x, y, w1, w2, w3, _⟩ := pair j h1 h2
          have : ee j = eq1 x y := by show (match a[j]?, b[j]? with | some x, some y => eq1 x y | _, _ => false) = _; rw [w1, w2]
          rw [this]; exact w3) (fun j h1 h2 _ => by
          obtain ⟨x, y, w1, w2, _, w3⟩ := pair j h1 h2
          have : rr j = lt1 x y := by show (match a[j]?, b[j]? with | some x, some y => lt1 x y | _, _ => false) = _; rw [w1, w2]
          rw [this]; exact w3)
        have fin : Ob.lexAt ee rr (decide (i1.toArray.size < i2.toArray.size)) 0 (min i1.toArray.size i2.toArray.size) = ltW a b := by
          have l1 : i1.toArray.size = a.length := by rw [List.size_toArray, ← v1.length, rs.length]
          have l2 : i2.toArray.size = b.length := by rw [List.size_toArray, ← v2.length, rs2.length]
          rw [l1, l2]
          refine lexAt_ltW fun j x y h1 h2 => ?_
          rw [Nat.zero_add]
          refine ⟨?_, ?_⟩
          · show (match a[j]?, b[j]? with | some x, some y => eq1 x y | _, _ => false) = _
            rw [h1, h2]
          · show (match a[j]?, b[j]? with | some x, some y => lt1 x y | _, _ => false) = _
            rw [h1, h2]
        rw [fin] at main
        exact main _ _ _ _ ⟨.bl _, H, I, rfl, q⟩
      · cases hev
  · cases hev
theorem isNon_of {Hs H : Hp} {t : OT} {x : V} {K : PySem.W.Frag} (h : Opd K T Hs H t x) : decide (x = .non) = t.isNon := by
  obtain ⟨f, h⟩ := h
  cases h with
  | sh h => cases h <;> rfl
  | lst => rfl
  | obj => rfl
theorem cs_is : OpR X (compareOp .Is) (rCmS X.K T isEv) := by
  intro pins s σ H x y v u Q I rx ry ⟨Hs, a, b, w, e, ha, hb, hev, q⟩
  unfold isEv at hev
  split at hev
  · cases Option.some.inj hev
    cases opd_bl ha
    cases opd_bl hb
    exact op_isBl pins s σ H _ _ v u Q I rx ry ⟨_, _, rfl, rfl, q⟩
  · cases Option.some.inj hev
    cases opd_non hb
    exact op_isN pins s σ H _ _ v u Q I rx ry ⟨rfl, by rw [isNon_of ha]; exact q⟩
  · cases hev
theorem cs_isnot : OpR X (compareOp .IsNot) (rCmS X.K T isnotEv) := by
  intro pins s σ H x y v u Q I rx ry ⟨Hs, a, b, w, e, ha, hb, hev, q⟩
  unfold isnotEv at hev
  split at hev
  · cases Option.some.inj hev
    cases opd_bl ha
    cases opd_bl hb
    exact op_notBl pins s σ H _ _ v u Q I rx ry ⟨_, _, rfl, rfl, q⟩
  · cases Option.some.inj hev
    cases opd_non hb
    exact op_notN pins s σ H _ _ v u Q I rx ry ⟨rfl, by rw [isNon_of ha]; exact q⟩
  · cases hev
/-- x in t, x not in t: a tuple of data -/
theorem op_inDT (hu : X.A.units + 65 < cLine) : OpR X (compareOp .In) (fun x y H Q => ∃ d ds, Dp X.K H x d ∧ Dp X.K H y (.tuple ds) ∧ SeqAt.shaped d = true ∧ SeqAt.shaped (.tuple ds) = true ∧ Q (.bl (ds.any fun z => PyData.eqv z d)) H) := by
  intro pins s σ H x y v u Q I rx ry h
  obtain ⟨d, ds, hd, he, sd, se, q⟩ := h
  obtain ⟨as, r1⟩ := Dp.reads I d x v hd rx
  obtain ⟨bs, r2⟩ := Dp.reads I (.tuple ds) y u he ry
  exact SeqAt.in_tuple_reads r2 r1 (SeqAt.canLay_of_shaped se) (SeqAt.canLay_of_shaped sd) (room_in_shaped sd hu) ⟨.bl _, H, I, rfl, q⟩
theorem op_notInDT (hu : X.A.units + 65 < cLine) : OpR X (compareOp .NotIn) (fun x y H Q => ∃ d ds, Dp X.K H x d ∧ Dp X.K H y (.tuple ds) ∧ SeqAt.shaped d = true ∧ SeqAt.shaped (.tuple ds) = true ∧ Q (.bl (!ds.any fun z => PyData.eqv z d)) H) := by
  intro pins s σ H x y v u Q I rx ry h
  obtain ⟨d, ds, hd, he, sd, se, q⟩ := h
  obtain ⟨as, r1⟩ := Dp.reads I d x v hd rx
  obtain ⟨bs, r2⟩ := Dp.reads I (.tuple ds) y u he ry
  exact SeqAt.notIn_tuple_reads r2 r1 (SeqAt.canLay_of_shaped se) (SeqAt.canLay_of_shaped sd) (room_in_shaped sd hu) ⟨.bl _, H, I, rfl, q⟩
theorem dp_str {K : PySem.W.Frag} {H : Hp} {v : V} {s : Str} (h : Dp K H v (.str s)) : v = .str s := by cases h; rfl
theorem cs_in (hu : X.A.units + 65 < cLine) : OpR X (compareOp .In) (rCmS X.K T inEv) := by
  intro pins s σ H x y v u Q I rx ry ⟨Hs, a, b, w, e, ha, hb, hev, q⟩
  unfold inEv inD at hev
  obtain ⟨p1, e1, hev⟩ := Option.bind_eq_some_iff.mp hev
  obtain ⟨p2, e2, hev⟩ := Option.bind_eq_some_iff.mp hev
  have d1 := (opd_toD e ha).dp e1
  have d2 := (opd_toD e hb).dp e2
  split at hev
  · split at hev
    · rename_i hz
      cases Option.some.inj hev
      rw [Bool.and_eq_true] at hz
      exact op_inD hu pins s σ H x y v u Q I rx ry ⟨p1, _, d1, d2, hz.1, hz.2, q⟩
    · cases hev
  · split at hev
    · rename_i hz
      cases Option.some.inj hev
      rw [Bool.and_eq_true] at hz
      exact op_inDT hu pins s σ H x y v u Q I rx ry ⟨p1, _, d1, d2, hz.1, hz.2, q⟩
    · cases hev
  · split at hev
    · cases Option.some.inj hev
      exact op_in_str pins s σ H x y v u Q I rx ry ⟨_, _, dp_str d1, dp_str d2, q⟩
    · cases hev
  · cases hev
theorem cs_notin (hu : X.A.units + 65 < cLine) : OpR X (compareOp .NotIn) (rCmS X.K T notinEv) := by
  intro pins s σ H x y v u Q I rx ry ⟨Hs, a, b, w, e, ha, hb, hev, q⟩
  unfold notinEv inD at hev
  obtain ⟨k, hev2, hk⟩ := Option.map_eq_some_iff.mp hev
  clear hev
  subst hk
  have hev := hev2
  obtain ⟨p1, e1, hev⟩ := Option.bind_eq_some_iff.mp hev
  obtain ⟨p2, e2, hev⟩ := Option.bind_eq_some_iff.mp hev
  have d1 := (opd_toD e ha).dp e1
  have d2 := (opd_toD e hb).dp e2
  split at hev
  · split at hev
    · rename_i hz
      cases Option.some.inj hev
      rw [Bool.and_eq_true] at hz
      exact op_notInD hu pins s σ H x y v u Q I rx ry ⟨p1, _, d1, d2, hz.1, hz.2, q⟩
    · cases hev
  · split at hev
    · rename_i hz
      cases Option.some.inj hev
      rw [Bool.and_eq_true] at hz
      exact op_notInDT hu pins s σ H x y v u Q I rx ry ⟨p1, _, d1, d2, hz.1, hz.2, q⟩
    · cases hev
  · split at hev
    · cases Option.some.inj hev
      exact op_notin_str pins s σ H x y v u Q I rx ry ⟨_, _, dp_str d1, dp_str d2, q⟩
    · cases hev
  · cases hev
end
end CH
end
section
namespace CH
open PySem L2 Evl PyProof.Rows
section
variable {K : PySem.W.Frag} {T : Tab} {H Hs : Hp}
theorem opds1 {t : OT} {xs : List V} (h : Opds K T Hs H [t] xs) : ∃ x, xs = [x] ∧ Opd K T Hs H t x := by
  cases h with
  | cons h r => cases r; exact ⟨_, rfl, h⟩
theorem opds2 {s t : OT} {xs : List V} (h : Opds K T Hs H [s, t] xs) : ∃ x y, xs = [x, y] ∧ Opd K T Hs H s x ∧ Opd K T Hs H t y := by
  cases h with
  | cons h r =>
    obtain ⟨y, rfl, h2⟩ := opds1 r
    exact ⟨_, _, rfl, h, h2⟩
end
section
variable {X : Cx} {T : Tab}
theorem bi1 {f : Value} {b : Bi} {ev : OT → Option OT} (hb : ∀ ts w, biEv b ts = some w → ∃ t, ts = [t] ∧ ev t = some w)
    (h : ∀ (pins : List (Addr × Obj)) (s : Shared) (σ : L2.St) (H Hs : Hp) (t w : OT) (x : V) (us : List Value) (Q : VK), Inv X pins σ H s → Vals [x] us → Ex Hs H → Opd X.K T Hs H t x → ev t = some w → (∀ z H' Hs' ft, New X.K T Hs H w z H' Hs' ft → Q z H') →
      wpAny (model X.prog X.w) X.A (call f us) (EP X pins σ Q) X.xe s) : CallR X f (rCS X.K T (biEv b)) := by
  intro pins s σ H xs us Q I r ⟨Hs, ts, w, e, ho, hev, q⟩
  obtain ⟨t, rfl, h1⟩ := hb ts w hev
  obtain ⟨x, rfl, o⟩ := opds1 ho
  exact h pins s σ H Hs t w x us Q I r e o h1 q
theorem bi_len : CallR X (.builtin "len") (rCS X.K T (biEv .len)) := bi1 (ev := lenEv) (fun ts w h => match ts, h with
  | [], h => absurd (show (none : Option OT) = some w from h) (by simp)
  | [t], h => ⟨t, rfl, h⟩
  | _ :: _ :: _, h => absurd (show (none : Option OT) = some w from h) (by simp)) fun pins s σ H Hs t w x us Q I r e o hev q => by
  unfold lenEv at hev
  split at hev
  · obtain ⟨hz, rfl⟩ := guard_eq hev
    cases opd_str o
    exact call_len_str pins s σ H _ us Q I r ⟨_, rfl, by rw [← line]; exact of_decide_eq_true hz, q _ _ _ _ (New.val e (.int _))⟩
  · cases Option.some.inj hev
    obtain ⟨a, vs, rfl, h1, h2⟩ := opd_tup o
    exact call_len_seq pins s σ H _ us Q I r ⟨a, vs, rfl, .inr (ex_t e h1), by rw [← h2.length]; exact q _ _ _ _ (New.val e (.int _))⟩
  · cases Option.some.inj hev
    obtain ⟨a, vs, rfl, h1, h2⟩ := opd_litems e o rfl
    exact call_len_seq pins s σ H _ us Q I r ⟨a, vs, rfl, .inl (sq_of h1), by rw [← h2.length]; exact q _ _ _ _ (New.val e (.int _))⟩
  · cases Option.some.inj hev
    obtain ⟨a, vs, rfl, h1, h2⟩ := opd_flst o
    exact call_len_seq pins s σ H _ us Q I r ⟨a, vs, rfl, .inl (ex_l e h1), by rw [← h2.length]; exact q _ _ _ _ (New.val e (.int _))⟩
  · cases Option.some.inj hev
    obtain ⟨f, h⟩ := o
    cases h with
    | lst h1 h2 => exact call_len_seq pins s σ H _ us Q I r ⟨_, _, rfl, .inl (sq_of h1), by rw [← h2.length]; exact q _ _ _ _ (New.val e (.int _))⟩
  · cases hev
theorem bi_abs : CallR X (.builtin "abs") (rCS X.K T (biEv .abs)) := bi1 (ev := absEv) (fun ts w h => match ts, h with
  | [], h => absurd (show (none : Option OT) = some w from h) (by simp)
  | [t], h => ⟨t, rfl, h⟩
  | _ :: _ :: _, h => absurd (show (none : Option OT) = some w from h) (by simp)) fun pins s σ H Hs t w x us Q I r e o hev q => by
  unfold absEv at hev
  split at hev
  · cases Option.some.inj hev
    cases opd_int o
    exact call_abs pins s σ H _ us Q I r ⟨_, rfl, q _ _ _ _ (New.val e (.int _))⟩
  · cases hev
theorem bi_int : CallR X (.type "int") (rCS X.K T (biEv .int)) := bi1 (ev := intEv) (fun ts w h => match ts, h with
  | [], h => absurd (show (none : Option OT) = some w from h) (by simp)
  | [t], h => ⟨t, rfl, h⟩
  | _ :: _ :: _, h => absurd (show (none : Option OT) = some w from h) (by simp)) fun pins s σ H Hs t w x us Q I r e o hev q => by
  unfold intEv at hev
  split at hev
  · cases Option.some.inj hev
    cases opd_int o
    exact call_int1 pins s σ H _ us Q I r (.inl ⟨_, rfl, q _ _ _ _ (New.val e (.int _))⟩)
  · cases Option.some.inj hev
    cases opd_bl o
    exact call_int1 pins s σ H _ us Q I r (.inr ⟨_, rfl, q _ _ _ _ (New.val e (.int _))⟩)
  · cases hev
theorem bi_bool : CallR X (.type "bool") (rCS X.K T (biEv .bool)) := bi1 (ev := boolEv) (fun ts w h => match ts, h with
  | [], h => absurd (show (none : Option OT) = some w from h) (by simp)
  | [t], h => ⟨t, rfl, h⟩
  | _ :: _ :: _, h => absurd (show (none : Option OT) = some w from h) (by simp)) fun pins s σ H Hs t w x us Q I r e o hev q => by
  unfold boolEv at hev
  split at hev
  · cases Option.some.inj hev
    cases opd_int o
    exact call_bool1 pins s σ H _ us Q I r (.inl ⟨_, rfl, q _ _ _ _ (New.val e (.bl _))⟩)
  · cases Option.some.inj hev
    cases opd_bl o
    exact call_bool1 pins s σ H _ us Q I r (.inr ⟨_, rfl, q _ _ _ _ (New.val e (.bl _))⟩)
  · cases hev
theorem bi_tuple : CallR X (.type "tuple") (rCS X.K T (biEv .tuple)) := bi1 (ev := tupleEv) (fun ts w h => match ts, h with
  | [], h => absurd (show (none : Option OT) = some w from h) (by simp)
  | [t], h => ⟨t, rfl, h⟩
  | _ :: _ :: _, h => absurd (show (none : Option OT) = some w from h) (by simp)) fun pins s σ H Hs t w x us Q I r e o hev q => by
  unfold tupleEv at hev
  split at hev
  · cases Option.some.inj hev
    obtain ⟨a, vs, rfl, h1, h2⟩ := opd_tup o
    exact call_tuple_of pins s σ H _ us Q I r ⟨a, vs, rfl, .inr ⟨ex_t e h1, q _ _ _ _ (New.val e (.tup h1 h2))⟩⟩
  · cases Option.some.inj hev
    obtain ⟨a, vs, rfl, h1, h2⟩ := opd_flst o
    exact call_tuple_of pins s σ H _ us Q I r ⟨a, vs, rfl, .inl ⟨ex_l e h1, fun p hp => q _ _ _ _ (New.tup e hp h2)⟩⟩
  · obtain ⟨ds, hl, rfl⟩ := Option.map_eq_some_iff.mp hev
    obtain ⟨a, vs, rfl, h1, h2⟩ := opd_litems e o hl
    exact call_tuple_of pins s σ H _ us Q I r ⟨a, vs, rfl, .inl ⟨sq_of h1, fun p hp => q _ _ _ _ (New.tup e hp h2)⟩⟩
theorem bi_list (hc : X.calm = true) : CallR X (.type "list") (rCS X.K T (biEv .list)) := bi1 (ev := listEv) (fun ts w h => match ts, h with
  | [], h => absurd (show (none : Option OT) = some w from h) (by simp)
  | [t], h => ⟨t, rfl, h⟩
  | _ :: _ :: _, h => absurd (show (none : Option OT) = some w from h) (by simp)) fun pins s σ H Hs t w x us Q I r e o hev q => by
  unfold listEv at hev
  split at hev
  · cases Option.some.inj hev
    obtain ⟨a, vs, rfl, h1, h2⟩ := opd_tup o
    exact call_list_of pins s σ H _ us Q I r ⟨a, vs, rfl, .inr (ex_t e h1), fun p hp => q _ _ _ _ (New.newL e hp h2)⟩
  · cases Option.some.inj hev
    obtain ⟨a, vs, rfl, h1, h2⟩ := opd_flst o
    exact call_list_of pins s σ H _ us Q I r ⟨a, vs, rfl, .inl (ex_l e h1), fun p hp => q _ _ _ _ (New.newL e hp h2)⟩
  · rename_i z
    obtain ⟨hz, rfl⟩ := guard_eq hev
    cases opd_str o
    cases r with
    | cons r1 r2 =>
      cases r2
      obtain ⟨t0, rfl⟩ := r1
      refine PySem.call_list_str (I.ok.hd hc) z t0 (fun h' tk acc c kp ho hi => ?_) (by rw [← line]; exact of_decide_eq_true hz)
      have hl : (z.cps.toList.map fun c => V.str ⟨#[c]⟩).length = acc.toList.length := by simp [hi.1]
      have rv : Vals (z.cps.toList.map fun c => V.str ⟨#[c]⟩) acc.toList := vals_of_at hl fun j x u h1 h2 => by
        obtain ⟨c, t, h3, rfl⟩ := hi.2 j u (by simpa using h2)
        rw [List.getElem?_map] at h1
        have h4 : z.cps.toList[j]? = some c := by simpa using h3
        rw [h4] at h1
        cases (Option.some.inj h1)
        exact ⟨t, rfl⟩
      have rp : Rps X.K T Hs (z.cps.toList.map fun c => D.str ⟨#[c]⟩) (z.cps.toList.map fun c => V.str ⟨#[c]⟩) := by
        generalize z.cps.toList = l
        induction l with
        | nil => exact .nil
        | cons c l ih => exact .cons (.str _) ih
      refine ⟨.ref s.heap.objs.size, _, I.laid (t' := tk) kp (Nat.le_refl _) (show ObjOk X.prog X.w _ h' _ (.lst (z.cps.toList.map fun c => V.str ⟨#[c]⟩)) from ⟨?_, acc.toList, c, rv, ?_⟩), rfl, q _ _ _ _ (New.newL e (I.hok.fresh (Nat.le_refl _)) rp)⟩
      · rw [List.length_map, Array.length_toList, ← line]; exact of_decide_eq_true hz
      · simpa using ho
  · obtain ⟨ds, hl, rfl⟩ := Option.map_eq_some_iff.mp hev
    obtain ⟨a, vs, rfl, h1, h2⟩ := opd_litems e o hl
    exact call_list_of pins s σ H _ us Q I r ⟨a, vs, rfl, .inl (sq_of h1), fun p hp => q _ _ _ _ (New.newL e hp h2)⟩
theorem bi_any (hc : X.calm = true) : CallR X (.builtin "any") (rCS X.K T (biEv .any)) := bi1 (ev := anyEv) (fun ts w h => match ts, h with
  | [], h => absurd (show (none : Option OT) = some w from h) (by simp)
  | [t], h => ⟨t, rfl, h⟩
  | _ :: _ :: _, h => absurd (show (none : Option OT) = some w from h) (by simp)) fun pins s σ H Hs t w x us Q I r e o hev q => by
  unfold anyEv at hev
  obtain ⟨ds, hl, hev⟩ := Option.bind_eq_some_iff.mp hev
  obtain ⟨bs, hb, rfl⟩ := Option.map_eq_some_iff.mp hev
  obtain ⟨a, vs, rfl, h1, h2⟩ := opd_litems e o hl
  have k := rps_bls h2 hb
  subst k
  exact cr_any hc pins s σ H _ us Q I r ⟨a, bs, rfl, sq_of h1, q _ _ _ _ (New.val e (.bl _))⟩
theorem bi_all (hc : X.calm = true) : CallR X (.builtin "all") (rCS X.K T (biEv .all)) := bi1 (ev := allEv) (fun ts w h => match ts, h with
  | [], h => absurd (show (none : Option OT) = some w from h) (by simp)
  | [t], h => ⟨t, rfl, h⟩
  | _ :: _ :: _, h => absurd (show (none : Option OT) = some w from h) (by simp)) fun pins s σ H Hs t w x us Q I r e o hev q => by
  unfold allEv at hev
  obtain ⟨ds, hl, hev⟩ := Option.bind_eq_some_iff.mp hev
  obtain ⟨bs, hb, rfl⟩ := Option.map_eq_some_iff.mp hev
  obtain ⟨a, vs, rfl, h1, h2⟩ := opd_litems e o hl
  have k := rps_bls h2 hb
  subst k
  exact cr_all hc pins s σ H _ us Q I r ⟨a, bs, rfl, sq_of h1, q _ _ _ _ (New.val e (.bl _))⟩
theorem bi_sum (hc : X.calm = true) : CallR X (.builtin "sum") (rCS X.K T (biEv .sum)) := bi1 (ev := sumEv) (fun ts w h => match ts, h with
  | [], h => absurd (show (none : Option OT) = some w from h) (by simp)
  | [t], h => ⟨t, rfl, h⟩
  | _ :: _ :: _, h => absurd (show (none : Option OT) = some w from h) (by simp)) fun pins s σ H Hs t w x us Q I r e o hev q => by
  unfold sumEv at hev
  split at hev
  · obtain ⟨ns, hb, rfl⟩ := Option.map_eq_some_iff.mp hev
    obtain ⟨a, vs, rfl, h1, h2⟩ := opd_tup o
    cases rps_ints h2 hb
    obtain ⟨its, rv, hl, _⟩ := I.tuple (ex_t e h1)
    rw [Vals.ref1 r]
    obtain ⟨xs, hx⟩ := rv.ints.allInts.items
    have hn : numsOf its.toArray.toList = ns := by rw [show its.toArray.toList = its from rfl, rv.ints.numsOf]
    have hl : s.heap.IsTuple a its.toArray := hl
    rw [hx] at hl hn
    rw [nums_intItems] at hn
    refine PySem.W.ktm_sumG (I.ok.hd hc) hl fun h' tk t' hk => ?_
    rw [preSum_eq, List.take_of_length_le (by simp), hn]
    exact ⟨.int _, H, I.kept hk, ⟨_, rfl⟩, q _ _ _ _ (New.val e (.int _))⟩
  · obtain ⟨ds, hl, hev⟩ := Option.bind_eq_some_iff.mp hev
    obtain ⟨bs, hb, rfl⟩ := Option.map_eq_some_iff.mp hev
    obtain ⟨a, vs, rfl, h1, h2⟩ := opd_litems e o hl
    have k := rps_ints h2 hb
    subst k
    exact cr_sum hc pins s σ H _ us Q I r ⟨a, bs, rfl, sq_of h1, q _ _ _ _ (New.val e (.int _))⟩
theorem bi_repr (gd : X.A.guards = some []) (hu : X.A.units + 66 < cLine) : CallR X (.builtin "repr") (rCS X.K T (biEv .repr)) := bi1 (ev := reprEv) (fun ts w h => match ts, h with
  | [], h => absurd (show (none : Option OT) = some w from h) (by simp)
  | [t], h => ⟨t, rfl, h⟩
  | _ :: _ :: _, h => absurd (show (none : Option OT) = some w from h) (by simp)) fun pins s σ H Hs t w x us Q I r e o hev q => by
  unfold reprEv at hev
  split at hev
  · rename_i hrow
    obtain ⟨p, hp, hev⟩ := Option.bind_eq_some_iff.mp hev
    obtain ⟨hz, rfl⟩ := guard_eq hev
    simp only [Bool.and_eq_true, decide_eq_true_eq] at hz
    obtain ⟨⟨h1, h2⟩, h3⟩ := hz
    have rp := opd_toD e o
    have ha : ∃ a, x = V.ref a := by
      unfold D.isRow at hrow
      split at hrow
      · rename_i ed; rw [ed] at rp; cases rp; exact ⟨_, rfl⟩
      · rename_i ed; rw [ed] at rp; cases rp; exact ⟨_, rfl⟩
      · cases hrow
    obtain ⟨a, rfl⟩ := ha
    rw [Vals.ref1 r]
    obtain ⟨as, rd⟩ := Dp.reads I p (.ref a) (.ref a) (rp.dp hp) rfl
    have hlay := SeqAt.canLay_of_shaped h1
    have hdep : p.depth ≤ 64 := by
      have h1 : (p.canLay0 && decide (p.depth ≤ 64)) = true := h1
      rw [Bool.and_eq_true] at h1
      exact of_decide_eq_true h1.2
    exact repr_of_reads' rd h2 (PyData.noDict_hsm (PyData.hasDict_of_canLay p hlay)) gd (by omega) (fun _ _ z => z) (fun h' u tk hk => ⟨.str _, H, I.kept hk, ⟨_, rfl⟩, q _ _ _ _ (New.val e (.str _))⟩) (by rw [← line]; exact h3)
  · cases hev
theorem sorted_uniq : ∀ {a b : List Int}, a.Perm b → a.Pairwise (· ≤ ·) → b.Pairwise (· ≤ ·) → a = b := fun {a b} h ha hb => h.eq_of_pairwise (le := (· ≤ ·)) (fun x y _ _ h1 h2 => Int.le_antisymm h1 h2) ha hb
theorem sortI_perm (ns : List Int) : (sortI ns).Perm ns := List.mergeSort_perm _ _
theorem sortI_sorted (ns : List Int) : (sortI ns).Pairwise (· ≤ ·) := by
  have h := List.pairwise_mergeSort (le := fun a b : Int => decide (a ≤ b)) (fun a b c h1 h2 => by simp only [decide_eq_true_eq] at *; omega) (fun a b => by simp only [Bool.or_eq_true, decide_eq_true_eq]; omega) ns
  exact h.imp fun q => of_decide_eq_true q
/-- a pair as it lies in the heap -/
def PairH (h : Heap) (v : Value) (p : Int × List Int) : Prop := ∃ (a b : Addr) (t : Tok) (its : List Value), v = .ref a ∧ IsTup h a #[.int p.1 t, .ref b] ∧ IsTup h b its.toArray ∧ IntsAre its p.2
theorem isTup_inj {h : Heap} {a : Addr} {xs ys : Array Value} (h1 : IsTup h a xs) (h2 : IsTup h a ys) : xs = ys := by
  obtain ⟨o, e, _, n, d⟩ := h1
  obtain ⟨o', e', _, n', d'⟩ := h2
  rw [e] at e'; cases e'
  rw [d] at d'
  injection d'
theorem ints_inj : ∀ {vs : List Value} {ns ms : List Int}, IntsAre vs ns → IntsAre vs ms → ns = ms := by
  intro vs ns ms h
  induction h generalizing ms with
  | nil => intro q; cases q; rfl
  | cons n t r ih => intro q; cases q with
    | cons _ _ r' => rw [ih r']
theorem PairH.inj {h : Heap} {v : Value} {p q : Int × List Int} (h1 : PairH h v p) (h2 : PairH h v q) : p = q := by
  obtain ⟨a, b, t, its, rfl, t1, t2, i1⟩ := h1
  obtain ⟨a', b', t', its', e, t3, t4, i2⟩ := h2
  cases e
  have := isTup_inj t1 t3
  simp only [Array.mk.injEq, List.cons.injEq, Value.int.injEq, Value.ref.injEq, and_true] at this
  obtain ⟨⟨e1, _⟩, e2⟩ := this
  subst e2
  have e3 : its = its' := by simpa using congrArg Array.toList (isTup_inj t2 t4)
  subst e3
  exact Prod.ext e1 (ints_inj i1 i2)
theorem PairH.keeps {h h' : Heap} {v : Value} {p : Int × List Int} (k : ∀ b o, h.get? b = some o → h'.get? b = some o) (q : PairH h v p) : PairH h' v p := by
  obtain ⟨a, b, t, its, e, ⟨o, q1, q2⟩, ⟨o2, q3, q4⟩, q5⟩ := q
  exact ⟨a, b, t, its, e, ⟨o, k _ _ q1, q2⟩, ⟨o2, k _ _ q3, q4⟩, q5⟩
theorem reads_ints {h : Heap} : ∀ {its : List Value} {ns : List Int}, IntsAre its ns → ∃ as, ReadsAll h its (ns.map .int) as
  | _, _, .nil => ⟨_, .nil⟩
  | _, _, .cons n t r => by
    obtain ⟨as, q⟩ := reads_ints r
    exact ⟨_, .cons (.int n t) q⟩
theorem lexLt_same : ∀ ns : List Int, HT.lexLt ns ns = false
  | [] => rfl
  | n :: ns => by rw [HT.lexLt_cons, if_pos rfl]; exact lexLt_same ns
theorem ltP_swo : SrtO.Swo ltP := by
  refine ⟨fun x y h => ?_, fun x y z h1 h2 => ?_⟩
  · unfold ltP at h ⊢
    by_cases e : x.1 = y.1
    · rw [if_pos e] at h
      rw [if_pos e.symm]
      exact NtL.lex_asym _ _ h
    · rw [if_neg e] at h
      rw [if_neg (Ne.symm e)]
      simp only [decide_eq_true_eq, decide_eq_false_iff_not] at *
      omega
  · unfold ltP at *
    by_cases e1 : x.1 = y.1 <;> by_cases e2 : y.1 = z.1
    · rw [if_pos e1.symm] at h1
      rw [if_pos e2.symm] at h2
      rw [if_pos (e1.trans e2).symm]
      exact NtL.lex_tr _ _ _ h1 h2
    · rw [if_neg (Ne.symm e2)] at h2
      rw [if_neg (by rw [e1]; exact Ne.symm e2)]
      simp only [decide_eq_false_iff_not] at *
      omega
    · rw [if_neg (Ne.symm e1)] at h1
      rw [if_neg (by rw [← e2]; exact Ne.symm e1)]
      simp only [decide_eq_false_iff_not] at *
      omega
    · rw [if_neg (Ne.symm e1)] at h1
      rw [if_neg (Ne.symm e2)] at h2
      simp only [decide_eq_false_iff_not] at h1 h2
      have : ¬ z.1 = x.1 := by omega
      rw [if_neg this]
      simp only [decide_eq_false_iff_not]
      omega
theorem eqv_ints : ∀ (ms ns : List Int), PyData.eqvAll (ms.map .int) (ns.map .int) = decide (ms = ns)
  | [], [] => rfl
  | [], n :: ns => rfl
  | m :: ms, [] => rfl
  | m :: ms, n :: ns => by
    show (PyData.eqv (.int m) (.int n) && PyData.eqvAll (ms.map .int) (ns.map .int)) = _
    rw [eqv_ints ms ns]
    show ((m == n) && decide (ms = ns)) = _
    by_cases e : m = n <;> by_cases e2 : ms = ns <;> simp [e, e2]
theorem pairs_cmp {prog : Program} {w : World} {A : Around} {s : Shared} {vs : List Value} {k : Value → Int × List Int} (hu : A.units + 64 < cLine) (hp : ∀ v ∈ vs, PairH s.heap v (k v)) (hsh : ∀ v ∈ vs, SeqAt.shaped (.tuple ((k v).2.map .int)) = true) : SrtO.Cmp prog w A s (PyProof.Rows.tuples' true) (fun p => p.1 ∈ vs) (SrtO.lt2 fun v u => ltP (k v) (k u)) := by
  intro p q hm hm'
  have h1 := hp _ hm
  have h2 := hp _ hm'
  have s1 := hsh _ hm
  have s2 := hsh _ hm'
  show wpAny (model prog w) A (PyProof.Rows.keyLt' (PyProof.Rows.tuples' true) p.1 q.1) (fun r s' => s' = s ∧ r = ltP (k p.1) (k q.1)) (fun _ _ => False) s
  unfold ltP
  generalize k p.1 = kp at h1 s1 ⊢
  generalize k q.1 = kq at h2 s2 ⊢
  obtain ⟨x, y⟩ := kp
  obtain ⟨x', y'⟩ := kq
  obtain ⟨a, b, t, its, e, ⟨o, ho, hc, n, hd⟩, tb, ib⟩ := h1
  obtain ⟨a', b', t', its', e', ⟨o', ho', hc', n', hd'⟩, tb', ib'⟩ := h2
  rw [e, e']
  obtain ⟨as, ra⟩ := reads_ints (h := s.heap) ib
  obtain ⟨bs, rb⟩ := reads_ints (h := s.heap) ib'
  obtain ⟨ob, hob, hcb, nb, hdb⟩ := id tb
  obtain ⟨ob', hob', hcb', nb', hdb'⟩ := id tb'
  have r1 : Reads s.heap (.ref b) (.tuple (y.map .int)) as := .tuple hob hcb hdb (by simpa using ra)
  have r2 : Reads s.heap (.ref b') (.tuple (y'.map .int)) bs := .tuple hob' hcb' hdb' (by simpa using rb)
  have eq2 := SeqAt.eqAt_reads _ _ A s _ _ as bs r1 r2 (SeqAt.canLay_of_shaped s1) (SeqAt.canLay_of_shaped s2) (SeqAt.room_of_shaped s1 hu)
  have ee : PyData.eqv (.tuple (y.map .int)) (.tuple (y'.map .int)) = decide (y = y') := eqv_ints y y'
  rw [ee] at eq2
  refine PySem.W.kat_lt ho hd ho' hd' ?_
  show PySem.W.KatLex prog w A true (decide (2 < 2)) _ [(.int x t, .int x' t'), (.ref b, .ref b')] 0 s
  refine PySem.W.kat_cons (SeqAt.EqAt.int_int x t x' t' prog w _ _ ?_)
  refine PySem.W.kat_go (fun e1 => ?_) (fun e1 => ?_)
  · have ex : x = x' := by simpa using e1
    rw [if_pos ex]
    refine PySem.W.kat_yes (PySem.W.kat_cons (eq2 prog w _ _ ?_))
    refine PySem.W.kat_go (fun e2 => ?_) (fun e2 => ?_)
    · have ey : y = y' := by simpa using e2
      refine PySem.W.kat_yes (PySem.W.kat_nil ⟨rfl, ?_⟩)
      rw [ey, lexLt_same]; rfl
    · exact PySem.W.kat_no (PySem.W.kat_one _ _ (HT.lt_tupInts tb tb' (by simpa using ib) (by simpa using ib') (by omega) ⟨rfl, rfl⟩))
  · have ex : ¬ x = x' := by simpa using e1
    rw [if_neg ex]
    exact PySem.W.kat_no (PyProof.Rows.oneLt_int ⟨rfl, rfl⟩)
inductive PPs (h : Heap) : List Value → List (Int × List Int) → Prop
  | nil : PPs h [] []
  | cons {u : Value} {p : Int × List Int} {us : List Value} {ps : List (Int × List Int)} : PairH h u p → PPs h us ps → PPs h (u :: us) (p :: ps)
theorem PPs.mem {h : Heap} {v : Value} : ∀ {us : List Value} {ps : List (Int × List Int)}, PPs h us ps → v ∈ us → ∃ p, PairH h v p
  | _, _, .nil, hv => absurd hv (by simp)
  | _, _, .cons q r, hv => by
    rcases List.mem_cons.mp hv with rfl | hv
    · exact ⟨_, q⟩
    · exact r.mem hv
theorem lexLt_tot : ∀ (xs ys : List Int), HT.lexLt xs ys = false → HT.lexLt ys xs = false → xs = ys
  | [], [], _, _ => rfl
  | [], y :: ys, h, _ => by rw [HT.lexLt_nil_cons] at h; cases h
  | x :: xs, [], _, h => by rw [HT.lexLt_nil_cons] at h; cases h
  | x :: xs, y :: ys, h1, h2 => by
    rw [HT.lexLt_cons] at h1 h2
    by_cases e : x = y
    · rw [if_pos e] at h1
      rw [if_pos e.symm] at h2
      rw [e, lexLt_tot xs ys h1 h2]
    · rw [if_neg e] at h1
      rw [if_neg (Ne.symm e)] at h2
      simp only [decide_eq_false_iff_not] at h1 h2
      omega
theorem ltP_tot {p q : Int × List Int} (h1 : ltP p q = false) (h2 : ltP q p = false) : p = q := by
  unfold ltP at h1 h2
  by_cases e : p.1 = q.1
  · rw [if_pos e] at h1
    rw [if_pos e.symm] at h2
    exact Prod.ext e (lexLt_tot _ _ h1 h2)
  · rw [if_neg e] at h1
    rw [if_neg (Ne.symm e)] at h2
    simp only [decide_eq_false_iff_not] at h1 h2
    omega
theorem sortP_uniq {a b : List (Int × List Int)} (h : a.Perm b) (ha : SrtO.Srtd ltP a) (hb : SrtO.Srtd ltP b) : a = b := h.eq_of_pairwise (le := fun x y => ltP y x = false) (fun x y _ _ h1 h2 => ltP_tot h2 h1) ha hb
theorem pair_firsts {h : Heap} : ∀ {vs : List Value}, (∀ v ∈ vs, ∃ p, PairH h v p) → ∃ fs : List Value, PySem.W.KatTups h vs fs ∧ fs.length = vs.length ∧ ∀ f ∈ fs, ∃ x t, f = Value.int x t
  | [], _ => ⟨[], PySem.W.KatTups.nil, rfl, fun _ hm => by simp at hm⟩
  | v :: vs, hp => by
    obtain ⟨fs, h1, h2, h3⟩ := pair_firsts (vs := vs) fun v' hm => hp v' (List.mem_cons_of_mem _ hm)
    obtain ⟨p, a, b, t, its, rfl, ⟨o, ho, hc, n, hd⟩, _⟩ := hp v (List.mem_cons_self ..)
    refine ⟨.int p.1 t :: fs, PySem.W.KatTups.cons ho hc hd rfl h1, by rw [List.length_cons, List.length_cons, h2], fun f hm => ?_⟩
    rcases List.mem_cons.mp hm with rfl | hm
    · exact ⟨p.1, t, rfl⟩
    · exact h3 f hm
theorem pairs_sort {prog : Program} {w : World} {A : Around} {s : Shared} {a : Addr} {vs : List Value} {k : Value → Int × List Int} (hu : A.units + 64 < cLine) (h0 : 0 < vs.length) (hp : ∀ h' : Heap, (∀ b o, b ≠ a → s.heap.get? b = some o → h'.get? b = some o) → ∀ v ∈ vs, PairH h' v (k v)) (hsh : ∀ v ∈ vs, SeqAt.shaped (.tuple ((k v).2.map .int)) = true) :
    SrtO.SortableO prog w A s a vs fun v u => ltP (k v) (k u) := by
  intro h' keep
  have hp' := hp h' keep
  obtain ⟨fs, h1, h2, h3⟩ := pair_firsts fun v hm => ⟨_, hp' v hm⟩
  refine ⟨PyProof.Rows.tuples' true, fun Q E hq => ?_, pairs_cmp (s := { s with heap := h' }) hu hp' hsh⟩
  refine PySem.W.kat_kind (T := .type "int") h1 (by omega) (fun f hm => ?_) (by rfl) ?_
  · obtain ⟨x, t, rfl⟩ := h3 f hm
    exact PySem.W.Looks.now
  · have e : (Value.type "int" != Value.type "tuple") = true := by first | decide +kernel | rfl | decide
    rw [e]
    exact hq
theorem pairKs_get : ∀ {ds : List D} {ps : List (Int × List Int)}, pairKs ds = some ps → ds = ps.map pairD
  | [], ps, h => by cases Option.some.inj (show some [] = some ps from h); rfl
  | d :: r, ps, h => by
    obtain ⟨p, h1, h2⟩ := Option.bind_eq_some_iff.mp (show ((pairK d).bind fun p => (pairKs r).map fun ps => p :: ps) = some ps from h)
    obtain ⟨qs, h3, rfl⟩ := Option.map_eq_some_iff.mp h2
    rw [List.map_cons, ← pairKs_get h3]
    congr 1
    unfold pairK at h1
    split at h1
    · rename_i i ds'
      obtain ⟨ns, h4, rfl⟩ := Option.map_eq_some_iff.mp h1
      have : ds' = ns.map .int := by
        clear h1 h2 h
        induction ds' generalizing ns with
        | nil => cases Option.some.inj (show some [] = some ns from h4); rfl
        | cons x xs ih =>
          cases x <;> first | (cases h4; done) | skip
          rename_i m
          obtain ⟨ms, h5, rfl⟩ := Option.map_eq_some_iff.mp (show (intsD xs).map (m :: ·) = some ns from h4)
          rw [ih ms h5]; rfl
      unfold pairD
      rw [this]
    · cases h1
theorem sortP_sorted (ps : List (Int × List Int)) : SrtO.Srtd ltP (sortP ps) := by
  have h := List.pairwise_mergeSort (le := fun p q => !ltP q p) (fun a b c h1 h2 => by
    simp only [Bool.not_eq_true'] at *
    exact ltP_swo.tr _ _ _ h1 h2) (fun a b => by
    cases h : ltP b a with
    | false => rfl
    | true => rw [ltP_swo.asym _ _ h]; rfl) ps
  exact h.imp fun q => by simpa using q
theorem bi_sorted (hu : X.A.units + 66 < cLine) : CallR X (.builtin "sorted") (rCS X.K T (biEv .sorted)) := bi1 (ev := sortedEv) (fun ts w h => match ts, h with
  | [], h => absurd (show (none : Option OT) = some w from h) (by simp)
  | [t], h => ⟨t, rfl, h⟩
  | _ :: _ :: _, h => absurd (show (none : Option OT) = some w from h) (by simp)) fun pins s σ H Hs t w x us Q I r e o hev q => by
  unfold sortedEv at hev
  obtain ⟨ds, hl, hev⟩ := Option.bind_eq_some_iff.mp hev
  obtain ⟨a, vs, rfl, h1, h2⟩ := opd_litems e o hl
  split at hev
  · rename_i ns hb
    obtain ⟨hz, rfl⟩ := guard_eq hev
    have k := rps_ints h2 hb
    subst k
    refine cr_sorted pins s σ H _ us Q I r ⟨a, ns, rfl, sq_of h1, of_decide_eq_true hz, fun ns' p hp hs hn => ?_⟩
    have k : ns' = sortI ns := sorted_uniq (hp.trans (sortI_perm ns).symm) hs (sortI_sorted ns)
    subst k
    exact q _ _ _ _ (New.newL e hn (rps_of_ints _))
  · obtain ⟨ps, hb, hev⟩ := Option.bind_eq_some_iff.mp hev
    obtain ⟨hz, rfl⟩ := guard_eq hev
    have hd := pairKs_get hb
    subst hd
    rw [List.all_eq_true] at hz
    -- the items as they lie
    obtain ⟨its, rv, hlst, hzz⟩ := I.list (sq_of (K := X.K) h1)
    have lay : ∀ (ps : List (Int × List Int)) (vs : List V) (us : List Value), Rps X.K T Hs (ps.map pairD) vs → Vals vs us → (∀ v ∈ us, ∃ a, v = Value.ref a) ∧ PPs s.heap us ps ∧ ∀ u ∈ us, ∀ p, PairH s.heap u p → Rp X.K T Hs (pairD p) (backV u) := by
      intro ps
      induction ps with
      | nil => intro vs us r1 r2; cases r1; cases r2; exact ⟨fun _ h => absurd h (by simp), .nil, fun _ h => absurd h (by simp)⟩
      | cons p ps ih =>
        intro vs us r1 r2
        rw [List.map_cons] at r1
        cases r1 with
        | cons r1 r1' =>
          cases r2 with
          | cons r2 r2' =>
            obtain ⟨k1, k2, k3⟩ := ih _ _ r1' r2'
            have r0 := r1
            unfold pairD at r1
            cases r1 with
            | tup hp rs =>
              cases rs with
              | cons ri rs =>
                cases rs with
                | cons rt rs =>
                  cases rs
                  cases ri
                  cases rt with
                  | tup hq rq =>
                    have kq := rps_ints rq (intsD_map p.2)
                    subst kq
                    cases r2
                    obtain ⟨i1, v1, t1, _⟩ := I.tuple (ex_t e hp)
                    obtain ⟨i2, v2, t2, _⟩ := I.tuple (ex_t e hq)
                    obtain ⟨u1, u2, rfl, ru1, ru2⟩ := vals2 v1
                    obtain ⟨t0, rfl⟩ := ru1
                    cases ru2
                    have ph : PairH s.heap (.ref _) p := ⟨_, _, t0, i2, rfl, t1, t2, v2.ints⟩
                    refine ⟨fun v hv => (List.mem_cons.mp hv).elim (fun z => ⟨_, z⟩) (k1 v), .cons ph k2, fun u hu p' hp' => ?_⟩
                    rcases List.mem_cons.mp hu with rfl | hu
                    · rw [hp'.inj ph]; exact r0
                    · exact k3 u hu p' hp'
    obtain ⟨lr, lp, lq⟩ := lay ps vs its h2 rv
    -- the pair of a value
    have cl : ∀ u, Decidable (∃ p, PairH s.heap u p) := fun u => Classical.propDecidable _
    let k : Value → Int × List Int := fun u => if h : ∃ p, PairH s.heap u p then h.choose else (0, [])
    have kh : ∀ {u p}, PairH s.heap u p → k u = p := fun {u p} hp => by
      have hx : ∃ p, PairH s.heap u p := ⟨p, hp⟩
      show (if h : ∃ p, PairH s.heap u p then h.choose else (0, [])) = p
      rw [dif_pos hx]
      exact hx.choose_spec.inj hp
    have km : ∀ (us : List Value) (ps : List (Int × List Int)), PPs s.heap us ps → us.map k = ps := by
      intro us ps h
      induction h with
      | nil => rfl
      | cons h _ ih => rw [List.map_cons, kh h, ih]
    have kp : ∀ v ∈ its, PairH s.heap v (k v) := fun v hv => by
      have : ∃ p, PairH s.heap v p := lp.mem hv
      obtain ⟨p, hp⟩ := this
      rw [kh hp]; exact hp
    have kps : its.map k = ps := km its ps lp
    have hsh : ∀ v ∈ its, SeqAt.shaped (.tuple ((k v).2.map .int)) = true := fun v hv => by
      have : k v ∈ ps := by rw [← kps]; exact List.mem_map.mpr ⟨v, hv, rfl⟩
      exact hz _ this
    have O : SrtO.Swo (fun v u => ltP (k v) (k u)) := ⟨fun x y h => ltP_swo.asym _ _ h, fun x y z h1 h2 => ltP_swo.tr _ _ _ h1 h2⟩
    cases r with
    | cons r1 r2 =>
      cases r2
      cases r1
      refine SrtO.sorted_ord (ltv := fun v u => ltP (k v) (k u)) O hlst.isList (by rw [← rv.length]; exact hzz) (fun h2' h₁ a' ha kk => ?_) fun out hs hb => ?_
      · exact pairs_sort (s := { s with heap := h₁ }) (by show X.A.units + 1 + 1 + 64 < cLine; omega) (by omega) (fun h' keep v hv => (kp v hv).keeps fun b o eo => keep b o (kk b o eo).1 (kk b o eo).2) hsh
      · obtain ⟨n, hn⟩ := PyProof.Rows.sortedAll_at s.heap its out.toArray
        have hperm : (out.map k).Perm ps := by rw [← kps]; exact hb.perm.map k
        have hsorted : out.map k = sortP ps := sortP_uniq (hperm.trans (List.mergeSort_perm _ _).symm) (SrtO.srtd_map hs) (sortP_sorted ps)
        have ho : ∀ u ∈ out, u ∈ its := fun u hu => hb.perm.mem_iff.mp hu
        have rp : ∀ out' : List Value, (∀ u ∈ out', u ∈ its) → Rps X.K T Hs ((out'.map k).map pairD) (out'.map backV) := by
          intro out'
          induction out' with
          | nil => intro _; exact .nil
          | cons u us ih => intro hm; exact .cons (lq u (hm u (by simp)) _ (kp u (hm u (by simp)))) (ih fun v hv => hm v (by simp [hv]))
        have rp := rp out ho
        rw [hsorted] at rp
        refine ⟨.ref (s.heap.objs.size + 1), upd H (s.heap.objs.size + 1) (.lst (out.map backV)), I.laid (t' := s.toks) (fun b o eo => PyProof.Rows.sortedAll_old eo) (Nat.le_succ _) ⟨?_, out, n, vals_back fun u hu => lr u (ho u hu), hn⟩, rfl, q _ _ _ _ (New.newL e (I.hok.fresh (Nat.le_succ _)) rp)⟩
        rw [List.length_map, hb.len, ← rv.length]
        exact hzz
theorem bi_max2 (hc : X.calm = true) : CallR X (.builtin "max") (rCS X.K T (biEv .max2)) := by
  intro pins s σ H xs us Q I r ⟨Hs, ts, w, e, ho, hev, q⟩
  obtain ⟨a, b, rfl, hev2⟩ : ∃ a b, ts = [a, b] ∧ max2Ev a b = some w := match ts, hev with
    | [], h => absurd (show (none : Option OT) = some w from h) (by simp)
    | [_], h => absurd (show (none : Option OT) = some w from h) (by simp)
    | [a, b], h => ⟨a, b, rfl, h⟩
    | _ :: _ :: _ :: _, h => absurd (show (none : Option OT) = some w from h) (by simp)
  obtain ⟨x, y, rfl, o1, o2⟩ := opds2 ho
  unfold max2Ev at hev2
  split at hev2
  · cases Option.some.inj hev2
    cases opd_int o1
    cases opd_int o2
    exact call_max2 hc pins s σ H _ us Q I r ⟨_, _, rfl, q _ _ _ _ (New.val e (.int _))⟩
  · cases hev2
theorem bi_min2 (hc : X.calm = true) : CallR X (.builtin "min") (rCS X.K T (biEv .min2)) := by
  intro pins s σ H xs us Q I r ⟨Hs, ts, w, e, ho, hev, q⟩
  obtain ⟨a, b, rfl, hev2⟩ : ∃ a b, ts = [a, b] ∧ min2Ev a b = some w := match ts, hev with
    | [], h => absurd (show (none : Option OT) = some w from h) (by simp)
    | [_], h => absurd (show (none : Option OT) = some w from h) (by simp)
    | [a, b], h => ⟨a, b, rfl, h⟩
    | _ :: _ :: _ :: _, h => absurd (show (none : Option OT) = some w from h) (by simp)
  obtain ⟨x, y, rfl, o1, o2⟩ := opds2 ho
  unfold min2Ev at hev2
  split at hev2
  · cases Option.some.inj hev2
    cases opd_int o1
    cases opd_int o2
    exact call_min2 hc pins s σ H _ us Q I r ⟨_, _, rfl, q _ _ _ _ (New.val e (.int _))⟩
  · cases hev2


theorem foldl_max : ∀ (ns : List Int) (n : Int), (ns.foldl max n = n ∨ ns.foldl max n ∈ ns) ∧ n ≤ ns.foldl max n ∧ ∀ y ∈ ns, y ≤ ns.foldl max n
  | [], n => ⟨.inl rfl, Int.le_refl _, fun y h => absurd h (by simp)⟩
  | m :: ns, n => by
    obtain ⟨h1, h2, h3⟩ := foldl_max ns (max n m)
    simp only [List.foldl_cons]
    have a1 : n ≤ max n m := by omega
    have a2 : m ≤ max n m := by omega
    refine ⟨?_, by omega, fun y hy => ?_⟩
    · rcases h1 with h1 | h1
      · rw [h1]
        by_cases h : n ≤ m
        · exact .inr (by rw [show max n m = m by omega]; simp)
        · exact .inl (by omega)
      · exact .inr (by simp [h1])
    · rcases List.mem_cons.mp hy with rfl | hy
      · omega
      · exact h3 y hy
theorem foldl_min : ∀ (ns : List Int) (n : Int), (ns.foldl min n = n ∨ ns.foldl min n ∈ ns) ∧ ns.foldl min n ≤ n ∧ ∀ y ∈ ns, ns.foldl min n ≤ y
  | [], n => ⟨.inl rfl, Int.le_refl _, fun y h => absurd h (by simp)⟩
  | m :: ns, n => by
    obtain ⟨h1, h2, h3⟩ := foldl_min ns (min n m)
    simp only [List.foldl_cons]
    have a1 : min n m ≤ n := by omega
    have a2 : min n m ≤ m := by omega
    refine ⟨?_, by omega, fun y hy => ?_⟩
    · rcases h1 with h1 | h1
      · rw [h1]
        by_cases h : n ≤ m
        · exact .inl (by omega)
        · exact .inr (by rw [show min n m = m by omega]; simp)
      · exact .inr (by simp [h1])
    · rcases List.mem_cons.mp hy with rfl | hy
      · omega
      · exact h3 y hy
theorem bi_max1 (hc : X.calm = true) : CallR X (.builtin "max") (rCS X.K T (biEv .max1)) := bi1 (ev := max1Ev) (fun ts w h => match ts, h with
  | [], h => absurd (show (none : Option OT) = some w from h) (by simp)
  | [t], h => ⟨t, rfl, h⟩
  | _ :: _ :: _, h => absurd (show (none : Option OT) = some w from h) (by simp)) fun pins s σ H Hs t w x us Q I r e o hev q => by
  unfold max1Ev at hev
  obtain ⟨ds, hl, hev⟩ := Option.bind_eq_some_iff.mp hev
  obtain ⟨ns, hb, hev⟩ := Option.bind_eq_some_iff.mp hev
  obtain ⟨M, hM, rfl⟩ := Option.map_eq_some_iff.mp hev
  obtain ⟨a, vs, rfl, h1, h2⟩ := opd_litems e o hl
  have k := rps_ints h2 hb
  subst k
  cases ns with
  | nil => cases hM
  | cons n ns =>
    cases Option.some.inj hM
    obtain ⟨f1, f2, f3⟩ := foldl_max ns n
    refine cr_max hc pins s σ H _ us Q I r ⟨a, n :: ns, rfl, sq_of h1, by simp, fun m hm hy => ?_⟩
    have e1 : m = ns.foldl max n := by
      have b1 : m ≤ ns.foldl max n := by
        rcases List.mem_cons.mp hm with rfl | hm
        · exact f2
        · exact f3 m hm
      have b2 : ns.foldl max n ≤ m := hy _ (by rcases f1 with f1 | f1 <;> simp [f1])
      omega
    rw [e1]
    exact q _ _ _ _ (New.val e (.int _))
theorem bi_min1 (hc : X.calm = true) : CallR X (.builtin "min") (rCS X.K T (biEv .min1)) := bi1 (ev := min1Ev) (fun ts w h => match ts, h with
  | [], h => absurd (show (none : Option OT) = some w from h) (by simp)
  | [t], h => ⟨t, rfl, h⟩
  | _ :: _ :: _, h => absurd (show (none : Option OT) = some w from h) (by simp)) fun pins s σ H Hs t w x us Q I r e o hev q => by
  unfold min1Ev at hev
  obtain ⟨ds, hl, hev⟩ := Option.bind_eq_some_iff.mp hev
  obtain ⟨ns, hb, hev⟩ := Option.bind_eq_some_iff.mp hev
  obtain ⟨M, hM, rfl⟩ := Option.map_eq_some_iff.mp hev
  obtain ⟨a, vs, rfl, h1, h2⟩ := opd_litems e o hl
  have k := rps_ints h2 hb
  subst k
  cases ns with
  | nil => cases hM
  | cons n ns =>
    cases Option.some.inj hM
    obtain ⟨f1, f2, f3⟩ := foldl_min ns n
    refine cr_min hc pins s σ H _ us Q I r ⟨a, n :: ns, rfl, sq_of h1, by simp, fun m hm hy => ?_⟩
    have e1 : m = ns.foldl min n := by
      have b1 : ns.foldl min n ≤ m := by
        rcases List.mem_cons.mp hm with rfl | hm
        · exact f2
        · exact f3 m hm
      have b2 : m ≤ ns.foldl min n := hy _ (by rcases f1 with f1 | f1 <;> simp [f1])
      omega
    rw [e1]
    exact q _ _ _ _ (New.val e (.int _))
theorem atI_rps {K : PySem.W.Frag} {H : Hp} {ds : List D} {vs : List V} {i : Int} {d : D} (r : Rps K T H ds vs) (h : atI ds i = some d) : ∃ v, atI vs i = some v ∧ Rp K T H d v := by
  unfold atI at h ⊢
  obtain ⟨j, h1, h2⟩ := Option.bind_eq_some_iff.mp h
  obtain ⟨v, h3, h4⟩ := r.get h2
  exact ⟨v, by rw [← r.length, h1]; exact h3, h4⟩
def idx2Ev (t u : OT) : Option OT := match u with
  | .sh (.int i) => idxEv t i
  | _ => none
theorem ixs : IxR X (rOpS X.K T idx2Ev) := by
  intro value slice pins s σ H x y v u Q I rx ry ⟨Hs, a, b, w, e, ha, hb, hev, q⟩ hs
  unfold idx2Ev at hev
  split at hev
  · cases opd_int hb
    unfold idxEv at hev
    split at hev
    · split at hev
      · rename_i hz
        obtain ⟨c, h1, rfl⟩ := Option.map_eq_some_iff.mp hev
        cases opd_str ha
        exact ix_str value slice pins s σ H _ _ v u Q I rx ry ⟨_, _, c, rfl, rfl, by rw [← line]; exact hz, h1, q _ _ _ _ (New.val e (.str _))⟩ hs
      · cases hev
    · obtain ⟨ds, h1, hev⟩ := Option.bind_eq_some_iff.mp hev
      obtain ⟨d, h2, rfl⟩ := Option.map_eq_some_iff.mp hev
      obtain ⟨p, vs, rfl, h3, h4⟩ := opd_items e ha h1
      obtain ⟨z, h5, h6⟩ := atI_rps h4 h2
      rcases h3 with h3 | h3
      · exact ix_list value slice pins s σ H _ _ v u Q I rx ry ⟨p, vs, _, z, rfl, rfl, h3, h5, q _ _ _ _ (New.val e h6)⟩ hs
      · exact ix_tup value slice pins s σ H _ _ v u Q I rx ry ⟨p, vs, _, z, rfl, rfl, h3, h5, q _ _ _ _ (New.val e h6)⟩ hs
  · cases hev
theorem cut_rps {K : PySem.W.Frag} {H : Hp} {ds : List D} {vs : List V} (lo hi : Option Int) (r : Rps K T H ds vs) : Rps K T H (cutD ds lo hi) (cutV vs lo hi) := by
  unfold cutD cutV
  rw [r.length]
  exact (r.drop _).take _
theorem cut_whole {ds : List D} {lo hi : Option Int} (h : HT.sIx ds.length 0 lo = 0 ∧ HT.sIx ds.length ds.length hi = ds.length) : cutD ds lo hi = ds := by
  unfold cutD
  rw [h.1, h.2, List.drop_zero, Nat.sub_zero, List.take_length]
def rSlcS (K : PySem.W.Frag) (T : Tab) : V → Option Int → Option Int → Hp → VK → Prop := fun x lo hi H Q => ∃ Hs t w, Ex Hs H ∧ Opd K T Hs H t x ∧ slcEv lo hi t = some w ∧ ∀ z H' Hs' ft, New K T Hs H w z H' Hs' ft → Q z H'
theorem sls : SlR X (rSlcS X.K T) := by
  intro pins s σ H x v vl vu lo hi sl Q I rx hs pl pu ⟨Hs, t, w, e, ho, hev, q⟩
  have lists : ∀ {ds : List D}, (∃ a vs, x = .ref a ∧ SqL X.K H a vs ∧ Rps X.K T Hs ds vs) → w = newL (cutD ds lo hi) → ∃ T id, typeLookup (.type T) "__getitem__" = pure (some (.builtin id)) ∧ s.TypeIs v T ∧ wpAny (model X.prog X.w) X.A (getItem v (.ref sl)) (EP X pins σ Q) X.xe s := fun {ds} h hw => by
    obtain ⟨a, vs, rfl, h1, h2⟩ := h
    subst hw
    exact sl_list pins s σ H _ v vl vu lo hi sl Q I rx hs pl pu ⟨a, vs, rfl, h1, fun p hp => q _ _ _ _ (New.newL e hp (cut_rps lo hi h2))⟩
  unfold slcEv at hev
  split at hev
  · cases Option.some.inj hev
    obtain ⟨a, vs, rfl, h1, h2⟩ := opd_tup ho
    refine sl_tupA pins s σ H _ v vl vu lo hi sl Q I rx hs pl pu ⟨a, vs, rfl, ex_t e h1, fun hw => ?_, fun _ p hp => q _ _ _ _ (New.tup e hp (cut_rps lo hi h2))⟩
    rw [← h2.length] at hw
    refine q _ _ _ _ (New.val e (.tup h1 ?_))
    rw [cut_whole hw]; exact h2
  · obtain ⟨hz, rfl⟩ := guard_eq hev
    cases opd_str ho
    exact sl_str pins s σ H _ v vl vu lo hi sl Q I rx hs pl pu ⟨_, rfl, by rw [← line]; exact of_decide_eq_true hz, q _ _ _ _ (New.val e (.str _))⟩
  · obtain ⟨a, vs, rfl, h1, h2⟩ := opd_flst ho
    exact lists ⟨a, vs, rfl, ex_l e h1, h2⟩ (Option.some.inj hev).symm
  · obtain ⟨ds, hl, rfl⟩ := Option.map_eq_some_iff.mp hev
    obtain ⟨a, vs, rfl, h1, h2⟩ := opd_litems e ho hl
    exact lists ⟨a, vs, rfl, sq_of h1, h2⟩ rfl

theorem tru_of {K : PySem.W.Frag} {H Hs : Hp} {t : OT} {x : V} {b : Bool} (e : Ex Hs H) (h : Opd K T Hs H t x) (hev : truEv t = some b) : TruV K x H b := by
  have em : ∀ {ds : List D} {vs : List V} {H : Hp}, Rps K T H ds vs → ds.isEmpty = vs.isEmpty := fun r => by cases r <;> rfl
  have em2 : ∀ {ts : List OT} {vs : List V} {f : List Addr}, RpOs K T Hs H ts vs f → ts.isEmpty = vs.isEmpty := fun r => by cases r <;> rfl
  unfold truEv at hev
  split at hev
  · cases Option.some.inj hev; cases opd_non h; rfl
  · cases Option.some.inj hev; cases opd_bl h; rfl
  · cases Option.some.inj hev; cases opd_int h; rfl
  · obtain ⟨hz, rfl⟩ := guard_eq hev; cases opd_str h
    exact ⟨by rw [← line]; exact of_decide_eq_true hz, rfl⟩
  · cases Option.some.inj hev
    obtain ⟨a, vs, rfl, h1, h2⟩ := opd_tup h
    exact .inr (.inl ⟨vs, ex_t e h1, by rw [em h2]⟩)
  · cases Option.some.inj hev
    obtain ⟨a, vs, rfl, h1, h2⟩ := opd_litems e h rfl
    exact .inl ⟨vs, sq_of h1, by rw [em h2]⟩
  · cases Option.some.inj hev
    obtain ⟨f, h⟩ := h
    cases h with
    | lst h1 h2 => exact .inl ⟨_, sq_of h1, by rw [em2 h2]⟩
  · cases hev

def tyB : List String := ["int", "bool", "str", "tuple", "list"]
theorem kit_all : (tys5.all fun a => tyB.all fun b => decide (kitB a b = some (isTy a b))) = true := by decide +kernel
theorem kit_one {K : PySem.W.Frag} {a b : String} (ha : a ∈ tys5) (hb : b ∈ tyB) : PySem.W.kitOne K (.type a) (.type b) = some (isTy a b) := by
  have h := kit_all
  rw [List.all_eq_true] at h
  have h := h a ha
  rw [List.all_eq_true] at h
  exact kit_ty (of_decide_eq_true (h b hb))
theorem ty_of {K : PySem.W.Frag} {H : Hp} {d : D} {v : V} {a : String} (r : Rp K T H d v) (h : d.tyName = some a) : TyX K H v (.type a) ∧ a ∈ tys5 := by
  cases r with
  | non => cases Option.some.inj h; exact ⟨.base .non, by simp [tys5]⟩
  | bl b => cases Option.some.inj h; exact ⟨.base (.bl b), by simp [tys5]⟩
  | int b => cases Option.some.inj h; exact ⟨.base (.int b), by simp [tys5]⟩
  | str b => cases Option.some.inj h; exact ⟨.base (.str b), by simp [tys5]⟩
  | tup hq hr =>
    cases Option.some.inj h
    refine ⟨?_, by simp [tys5]⟩
    rcases hq with (hq | ⟨o, hq⟩) | ⟨o, its, n, h1, h2, h3⟩
    · exact .base (.tup hq)
    · exact .fTuple hq
    · exact .kTuple h1 h2
  | lst hq hr => cases Option.some.inj h; exact ⟨.base (.lst hq), by simp [tys5]⟩
  | _ => cases h
theorem kit_any {K : PySem.W.Frag} {a : String} (ha : a ∈ tys5) : ∀ tys : List String, (∀ b ∈ tys, b ∈ tyB) → PySem.W.kitAny K (.type a) (tys.map Value.type) = some (tys.any fun b => isTy a b)
  | [], _ => rfl
  | b :: tys, hb => by
    have h1 := kit_one (K := K) ha (hb b (by simp))
    have h2 := kit_any (K := K) ha tys fun c hc => hb c (by simp [hc])
    cases h : isTy a b with
    | true => exact kitAny_cons (by rw [h1, h]) (fun z => by cases z) (fun _ => by simp [h])
    | false => exact kitAny_cons (by rw [h1, h]) (fun _ => by rw [h2]; simp [h]) (fun z => by cases z)
end
end CH
end
section
namespace CH
open PySem L2 Evl PyProof.Rows

def wE (X : Cx) (e : Expr) : TE := fun σ H Q => ∀ (pins : List (Addr × Obj)) (s : Shared), Inv X pins σ H s → wpAny (model X.prog X.w) X.A (eval e X.env) (EP X pins σ Q) X.xe s
def wT (X : Cx) (e : Expr) : TT := fun σ H Q => ∀ (pins : List (Addr × Obj)) (s : Shared), Inv X pins σ H s → wpAny (model X.prog X.w) X.A (isTrue e X.env (eval e X.env)) (TP X pins σ Q) X.xe s
def wS (X : Cx) (st : Stmt) : TS := fun D σ H => ∀ (pins : List (Addr × Obj)) (s : Shared), Inv X pins σ H s → wpAny (model X.prog X.w) X.A (exec st X.env) (SP X pins D) X.xe s
def wSs (X : Cx) (sts : List Stmt) : TS := fun D σ H => ∀ (pins : List (Addr × Obj)) (s : Shared), Inv X pins σ H s → wpAny (model X.prog X.w) X.A (execs sts X.env) (SP X pins D) X.xe s
theorem peW (X : Cx) (e : Expr) : PE X e (wE X e) := ⟨fun pins s σ H Q I h => h pins s I⟩
theorem ptW (X : Cx) (e : Expr) : PT X e (wT X e) := ⟨fun pins s σ H Q I h => h pins s I⟩
theorem psW (X : Cx) (e : Stmt) : PS X e (wS X e) := ⟨fun pins s σ H D I h => h pins s I⟩
theorem pssW (X : Cx) (e : List Stmt) : PSs X e (wSs X e) := ⟨fun pins s σ H D I h => h pins s I⟩
theorem wE_of {X : Cx} {e : Expr} {t : TE} (p : PE X e t) {σ : L2.St} {H : Hp} {Q : VK} (h : t σ H Q) : wE X e σ H Q := fun pins s I => p.run pins s σ H Q I h
theorem wT_of {X : Cx} {e : Expr} {t : TT} (p : PT X e t) {σ : L2.St} {H : Hp} {Q : Bool → Hp → Prop} (h : t σ H Q) : wT X e σ H Q := fun pins s I => p.run pins s σ H Q I h
theorem wS_of {X : Cx} {e : Stmt} {t : TS} (p : PS X e t) {D : Ends} {σ : L2.St} {H : Hp} (h : t D σ H) : wS X e D σ H := fun pins s I => p.run pins s σ H D I h
theorem wSs_of {X : Cx} {e : List Stmt} {t : TS} (p : PSs X e t) {D : Ends} {σ : L2.St} {H : Hp} (h : t D σ H) : wSs X e D σ H := fun pins s I => p.run pins s σ H D I h
/-- a row of expressions, from the left -/
def wEs (X : Cx) : List Expr → TA
  | [] => tNil
  | e :: es => tCons (wE X e) (wEs X es)
def isStar : Expr → Bool
  | .Starred .. => true
  | _ => false
theorem star_cons {e : Expr} {es : List Expr} {env : PySem.Env} (h : isStar e = false) : starEach (e :: es) env = (false, eval e env) :: starEach es env := by
  cases e <;> first | rfl | cases h
theorem star_any {es : List Expr} {env : PySem.Env} {pos : Pos} (h : es.all (fun e => !isStar e) = true) : (backTo pos (starEach es env)).any (·.1) = false := by
  induction es with
  | nil => rfl
  | cons e es ih =>
    simp only [List.all_cons, Bool.and_eq_true, Bool.not_eq_true'] at h
    rw [star_cons h.1]
    show (false || (backTo pos (starEach es env)).any (·.1)) = false
    rw [ih h.2]; rfl
theorem paW (X : Cx) : ∀ (es : List Expr), es.all (fun e => !isStar e) = true → PA X es (wEs X es)
  | [], _ => pa_nil
  | e :: es, h => by
    simp only [List.all_cons, Bool.and_eq_true, Bool.not_eq_true'] at h
    exact pa_cons (peW X e) (paW X es h.2) (star_cons h.1)

def lkOf : Sl → Option OT
  | .lk t => some t
  | _ => none
def lks (ρ : Env) : List (Option OT) := ρ.map lkOf
theorem lks_get {ρ : Env} {i : Nat} : (lks ρ)[i]? = (ρ[i]?).map lkOf := by unfold lks; rw [List.getElem?_map]
theorem lks_set {ρ : Env} {i : Nat} {x y : Sl} (h : ρ[i]? = some x) (e : lkOf x = lkOf y) : lks (ρ.set i y) = lks ρ := by
  unfold lks
  rw [List.map_set, ← e]
  apply List.ext_getElem?
  intro j
  by_cases hj : i = j
  · subst hj
    obtain ⟨hi, hx⟩ := List.getElem?_eq_some_iff.mp h
    rw [List.getElem?_set_self (by simpa using hi), List.getElem?_map, h]; rfl
  · rw [List.getElem?_set_ne hj]
theorem own_get {ρ : Env} {i : Nat} {t : OT} (h : Env.own ρ i = some t) : ρ[i]? = some (.ow t) := by
  unfold Env.own at h
  split at h
  · rename_i e; cases Option.some.inj h; exact e
  · cases h
theorem own_lt {ρ : Env} {i : Nat} {t : OT} (h : Env.own ρ i = some t) : i < ρ.length := (List.getElem?_eq_some_iff.mp (own_get h)).1
section
variable {K : PySem.W.Frag} {T : Tab} {H Hs H' Hs' : Hp} {L L' : List Addr}
theorem RpS.relock : ∀ {ρ ρ2 : Env} {σ σ2 : L2.St} {fp fp2 : List Addr}, RpS K T Hs H L ρ σ fp → RpS K T Hs' H' L' ρ2 σ2 fp2 → lks ρ = lks ρ2 → (∀ (i : Nat) (t : OT), ρ[i]? = some (Sl.lk t) → σ[i]? = σ2[i]?) → Ex Hs Hs' →
    (∀ a ∈ L, ∀ o, H a = some o → H' a = some o) → RpS K T Hs' H' L ρ2 σ2 fp2
  | _, _, _, _, _, _, r, .nil, _, _, _, _ => .nil
  | _, _, _, _, _, _, .nil, .no r2, e, _, _, _ => by simp [lks] at e
  | _, _, _, _, _, _, .no r, .no r2, e, v, x, k => .no (RpS.relock r r2 (by simpa [lks] using e) (fun i t h => v (i + 1) t (by simpa using h)) x k)
  | _, _, _, _, _, _, .ow _ r, .no r2, e, v, x, k => .no (RpS.relock r r2 (by simpa [lks, lkOf] using e) (fun i t h => v (i + 1) t (by simpa using h)) x k)
  | _, _, _, _, _, _, .lk _ _ r, .no r2, e, v, x, k => by simp [lks, lkOf] at e
  | _, _, _, _, _, _, .nil, .ow h r2, e, _, _, _ => by simp [lks] at e
  | _, _, _, _, _, _, .no r, .ow h r2, e, v, x, k => .ow h (RpS.relock r r2 (by simpa [lks, lkOf] using e) (fun i t h => v (i + 1) t (by simpa using h)) x k)
  | _, _, _, _, _, _, .ow _ r, .ow h r2, e, v, x, k => .ow h (RpS.relock r r2 (by simpa [lks, lkOf] using e) (fun i t h => v (i + 1) t (by simpa using h)) x k)
  | _, _, _, _, _, _, .lk _ _ r, .ow h r2, e, v, x, k => by simp [lks, lkOf] at e
  | _, _, _, _, _, _, .nil, .lk h l r2, e, _, _, _ => by simp [lks] at e
  | _, _, _, _, _, _, .no r, .lk h l r2, e, v, x, k => by simp [lks, lkOf] at e
  | _, _, _, _, _, _, .ow _ r, .lk h l r2, e, v, x, k => by simp [lks, lkOf] at e
  | _, _, _, _, _, _, .lk (t := t) (ρ := ra) h1 l1 r, .lk (t := t2) (ρ := rb) h l r2, e, v, x, k => by
    have e0 : t = t2 ∧ lks ra = lks rb := by simpa [lks, lkOf] using e
    obtain ⟨e1, e2⟩ := e0
    subst e1
    have ev := v 0 t (by simp)
    simp at ev
    subst ev
    exact .lk (h1.step x fun a ha => k a (l1 a ha)) l1 (RpS.relock r r2 e2 (fun i t h => v (i + 1) t (by simpa using h)) x k)

/-- what an evaluation leaves: from Hs, H, fp the value t at v, the rest of the state beside -/
structure Post (K : PySem.W.Frag) (T : Tab) (L : List Addr) (σ : L2.St) (Hs H : Hp) (fp : List Addr) (ρ : Env) (t : OT) (ρ' : Env) (v : V) (H' Hs' : Hp) (fp' ft : List Addr) : Prop where
  st : StOk K T L Hs' H' ρ' σ fp'
  rp : RpO K T Hs' H' t v ft
  nd : (ft ++ fp').Nodup
  nf : ∀ a ∈ ft, Hs' a = none
  lf : ∀ a ∈ L, a ∉ ft
  sp : Stp fp H Hs (ft ++ fp') H' Hs'
  lk : lks ρ' = lks ρ
/-- .. and where no value is left -/
structure Pst (K : PySem.W.Frag) (T : Tab) (L : List Addr) (σ : L2.St) (Hs H : Hp) (fp : List Addr) (ρ ρ' : Env) (H' Hs' : Hp) (fp' : List Addr) : Prop where
  st : StOk K T L Hs' H' ρ' σ fp'
  sp : Stp fp H Hs fp' H' Hs'
  lk : lks ρ' = lks ρ
variable {σ : L2.St} {fp fp1 fp' ft : List Addr} {ρ ρ1 ρ' : Env} {t w : OT} {v z : V} {H1 Hs1 : Hp}
theorem Post.pst (p : Post K T L σ Hs H fp ρ t ρ' v H' Hs' fp' ft) : Pst K T L σ Hs H fp ρ ρ' H' Hs' fp' := ⟨p.st, p.sp.sub fun a ha => by simp [ha], p.lk⟩
theorem Pst.refl (h : StOk K T L Hs H ρ σ fp) : Pst K T L σ Hs H fp ρ ρ H Hs fp := ⟨h, Stp.refl _ _ _, rfl⟩
theorem Pst.trans (a : Pst K T L σ Hs H fp ρ ρ1 H1 Hs1 fp1) (b : Pst K T L σ Hs1 H1 fp1 ρ1 ρ' H' Hs' fp') : Pst K T L σ Hs H fp ρ ρ' H' Hs' fp' := ⟨b.st, a.sp.trans b.sp, b.lk.trans a.lk⟩
theorem Pst.post (a : Pst K T L σ Hs H fp ρ ρ1 H1 Hs1 fp1) (b : Post K T L σ Hs1 H1 fp1 ρ1 t ρ' v H' Hs' fp' ft) : Post K T L σ Hs H fp ρ t ρ' v H' Hs' fp' ft := ⟨b.st, b.rp, b.nd, b.nf, b.lf, a.sp.trans b.sp, b.lk.trans a.lk⟩
/-- the state goes on where objects are only added -/
theorem StOk.grow (h : StOk K T L Hs H ρ σ fp) (e1 : Ex H H') (e2 : Ex Hs Hs') (le : Ex Hs' H') (dm : ∀ a o, Hs' a = some o → Hs a = some o ∨ H a = none) : StOk K T L Hs' H' ρ σ fp := by
  have no : ∀ a, (∃ o, H a = some o) → Hs a = none → Hs' a = none := fun a ⟨o, q⟩ n => by
    cases z : Hs' a with
    | none => rfl
    | some u =>
      rcases dm a u z with k | k
      · rw [n] at k; cases k
      · rw [q] at k; cases k
  exact ⟨le, h.rs.step e2 (fun _ q => q) fun a _ o q => e1 a o q, h.nd, fun a ha => no a (h.rs.tracked a ha) (h.nf a ha), h.lf, fun a ha => ⟨let ⟨o, q⟩ := (h.lt a ha).1; ⟨o, e1 a o q⟩, no a (h.lt a ha).1 (h.lt a ha).2⟩⟩
theorem New.post (h : StOk K T L Hs H ρ σ fp) (n : New K T Hs H w z H' Hs' ft) : Post K T L σ Hs H fp ρ w ρ z H' Hs' fp ft := by
  have s := h.grow n.eH n.eS n.le n.dm
  have fr : ∀ a ∈ ft, a ∉ fp := fun a ha hf => by
    obtain ⟨o, q⟩ := h.rs.tracked a hf
    rw [(n.fr a ha).1] at q; cases q
  refine ⟨s, n.rp, List.nodup_append.mpr ⟨n.nd, h.nd, fun a ha b hb e => fr a ha (e ▸ hb)⟩, fun a ha => (n.fr a ha).2, fun a ha hf => ?_, ⟨n.eS, fun a o q _ => n.eH a o q, fun a ha => ?_, fun a o q => (n.dm a o q).imp id .inr⟩, rfl⟩
  · obtain ⟨o, q⟩ := (h.lt a ha).1
    rw [(n.fr a hf).1] at q; cases q
  · rcases List.mem_append.mp ha with ha | ha
    · exact .inr (n.fr a ha).1
    · exact .inl ha
theorem Post.val {d : D} (h : StOk K T L Hs H ρ σ fp) (r : Rp K T Hs d z) : Post K T L σ Hs H fp ρ (.sh d) ρ z H Hs fp [] := New.post h (New.val h.ex r)
/-- a value beside a state that goes on -/
theorem Post.hold (p : Post K T L σ Hs H fp ρ t ρ1 v H1 Hs1 fp1 ft) (q : Pst K T L' σ Hs1 H1 fp1 ρ1 ρ' H' Hs' fp') : RpO K T Hs' H' t v ft ∧ (ft ++ fp').Nodup ∧ (∀ a ∈ ft, Hs' a = none) ∧ Stp fp H Hs (ft ++ fp') H' Hs' := by
  have d := List.nodup_append.mp p.nd
  have nin : ∀ a ∈ ft, a ∉ fp1 := fun a ha hf => d.2.2 a ha a hf rfl
  have tr := p.rp.tracked
  refine ⟨p.rp.keep nin q.sp, List.nodup_append.mpr ⟨d.1, q.st.nd, fun a ha b hb e => q.sp.out (tr a ha) (nin a ha) (e ▸ hb)⟩, fun a ha => q.sp.outHs (tr a ha) (nin a ha) (p.nf a ha), ?_⟩
  exact p.sp.trans (q.sp.wider (fun a ha => by simp [ha]) ft fun a ha => by simp [ha])
/-- the value beside the state is frozen -/
theorem Post.freeze (p : Post K T L σ Hs H fp ρ t ρ' v H' Hs' fp' ft) : Pst K T L σ Hs H fp ρ ρ' H' (frz Hs' H' ft) fp' ∧ Rp K T (frz Hs' H' ft) t.toD v := by
  have d := List.nodup_append.mp p.nd
  have nin : ∀ a ∈ fp', a ∉ ft := fun a ha hf => d.2.2 a hf a ha rfl
  refine ⟨⟨⟨frz_le p.st.ex, p.st.rs.step (frz_ex p.nf) (fun _ q => q) fun _ _ _ q => q, p.st.nd, fun a ha => by rw [frz_out (nin a ha)]; exact p.st.nf a ha, p.st.lf, fun a ha => ⟨(p.st.lt a ha).1, by rw [frz_out (p.lf a ha)]; exact (p.st.lt a ha).2⟩⟩, ⟨p.sp.ex.trans (frz_ex p.nf), p.sp.fr, fun a ha => p.sp.nw a (by simp [ha]), fun a o q => ?_⟩, p.lk⟩, p.rp.frz p.nf fun a ha => ha⟩
  by_cases h : a ∈ ft
  · exact .inr (p.sp.nw a (by simp [h]))
  · rw [frz_out h] at q; exact p.sp.dm a o q
/-- a name's tree is locked -/
theorem StOk.locked {i : Nat} (h : StOk K T L Hs H ρ σ fp) (e : ρ[i]? = some (.ow t)) : ∃ v f fr, σ[i]? = some (some v) ∧ RpO K T Hs H t v f ∧ fp.Perm (f ++ fr) ∧ StOk K T (f ++ L) Hs H (ρ.set i (.lk t)) σ fr := by
  obtain ⟨v, f, fr, h1, h2, h3, h4⟩ := h.rs.takeOut e
  have hi := (List.getElem?_eq_some_iff.mp e).1
  have nd := h3.nodup_iff.mp h.nd
  have d := List.nodup_append.mp nd
  have r := RpS.putLk (h4.step (L' := f ++ L) (Ex.refl _) (fun a ha => by simp [ha]) fun a _ o q => q) (i := i) (by simpa using hi) (by rw [List.getElem?_set_self hi]) h2 fun a ha => by simp [ha]
  rw [List.set_set] at r
  have hσ : σ.set i (some v) = σ := by
    obtain ⟨hi2, e2⟩ := List.getElem?_eq_some_iff.mp h1
    rw [← e2, List.set_getElem_self]
  rw [hσ] at r
  refine ⟨v, f, fr, h1, h2, h3, h.ex, r, d.2.1, fun a ha => h.nf a (h3.mem_iff.mpr (by simp [ha])), fun a ha hf => ?_, fun a ha => ?_⟩
  · rcases List.mem_append.mp ha with ha | ha
    · exact d.2.2 a ha a hf rfl
    · exact h.lf a ha (h3.mem_iff.mpr (by simp [hf]))
  · rcases List.mem_append.mp ha with ha | ha
    · exact ⟨h2.tracked a ha, h.nf a (h3.mem_iff.mpr (by simp [ha]))⟩
    · exact h.lt a ha
/-- .. and unlocked, behind what went on meanwhile -/
theorem Pst.unlocked {i : Nat} {f fr F : List Addr} {σ2 : L2.St} (h : StOk K T L Hs H ρ σ fp) (e : ρ[i]? = some (.ow t)) (h1 : σ[i]? = some (some v)) (h2 : RpO K T Hs H t v f) (h3 : fp.Perm (f ++ fr))
    (hl : StOk K T (f ++ L) Hs H (ρ.set i (.lk t)) σ fr) (st : StOk K T (f ++ L) Hs' H' ρ' σ2 fp') (sp : Stp (F ++ fr) H Hs fp' H' Hs') (hF : ∀ x ∈ F, x ∉ f ++ L) (lk : lks ρ' = lks (ρ.set i (.lk t)))
    (hσ2 : ∀ (j : Nat) (u : OT), ρ[j]? = some (Sl.lk u) → σ2[j]? = σ[j]?) (hσ3 : σ2[i]? = σ[i]?) :
    ∃ fp2, StOk K T L Hs' H' (ρ'.set i (.ow t)) σ2 fp2 ∧ Stp (F ++ fp) H Hs fp2 H' Hs' ∧ lks (ρ'.set i (.ow t)) = lks ρ ∧ ∀ a ∈ fp2, a ∈ f ∨ a ∈ fp' := by
  have hi := (List.getElem?_eq_some_iff.mp e).1
  have hlen : ρ'.length = ρ.length := by have := congrArg List.length lk; simpa [lks] using this
  have nd := List.nodup_append.mp (h3.nodup_iff.mp h.nd)
  have nin : ∀ a ∈ f, a ∉ F ++ fr := fun a ha hf => by
    rcases List.mem_append.mp hf with hf | hf
    · exact hF a hf (by simp [ha])
    · exact nd.2.2 a ha a hf rfl
  have ninL : ∀ a ∈ L, a ∉ F ++ fr := fun a ha hf => by
    rcases List.mem_append.mp hf with hf | hf
    · exact hF a hf (by simp [ha])
    · exact hl.lf a (by simp [ha]) hf
  have tr := h2.tracked
  obtain ⟨g, r1, sub⟩ := st.rs.forget' i
  -- the other locks as they were
  have lk0 : lks (ρ'.set i .no) = lks ρ := by
    unfold lks at lk ⊢
    rw [List.map_set, lk, List.map_set, List.set_set]
    apply List.ext_getElem?
    intro j
    by_cases hj : i = j
    · subst hj
      rw [List.getElem?_set_self (by simpa using hi), List.getElem?_map, e]; rfl
    · rw [List.getElem?_set_ne hj]
  have r2 : RpS K T Hs' H' L (ρ'.set i .no) σ2 g := RpS.relock h.rs r1 lk0.symm (fun j u q => (hσ2 j u q).symm) sp.ex fun a ha o q => sp.fr a o q (ninL a ha)
  have h2' : RpO K T Hs' H' t v f := h2.keep nin sp
  obtain ⟨fp2, r3, pm⟩ := r2.put (i := i) (by simpa [hlen] using hi) (by rw [List.getElem?_set_self (by rw [hlen]; exact hi)]) h2'
  rw [List.set_set] at r3
  have e2 : σ2.set i (some v) = σ2 := by
    obtain ⟨hi2, e2⟩ := List.getElem?_eq_some_iff.mp (hσ3.trans h1)
    rw [← e2, List.set_getElem_self]
  rw [e2] at r3
  have gsub : ∀ a ∈ g, a ∈ fp' := fun a ha => sub.subset ha
  have fng : ∀ a ∈ f, a ∉ g := fun a ha hg => sp.out (tr a ha) (nin a ha) (gsub a hg)
  refine ⟨fp2, ⟨st.ex, r3, pm.nodup_iff.mpr (List.nodup_append.mpr ⟨nd.1, st.nd.sublist sub, fun a ha b hb q => fng a ha (q ▸ hb)⟩), fun a ha => ?_, fun a ha hf => ?_, fun a ha => st.lt a (by simp [ha])⟩, ?_, ?_, fun a ha => (List.mem_append.mp (pm.mem_iff.mp ha)).imp id (gsub a)⟩
  · rcases List.mem_append.mp (pm.mem_iff.mp ha) with ha | ha
    · exact sp.outHs (tr a ha) (nin a ha) (h.nf a (h3.mem_iff.mpr (by simp [ha])))
    · exact st.nf a (gsub a ha)
  · rcases List.mem_append.mp (pm.mem_iff.mp hf) with hf | hf
    · exact h.lf a ha (h3.mem_iff.mpr (by simp [hf]))
    · exact st.lf a (by simp [ha]) (gsub a hf)
  · have up : ∀ a, a ∈ F ++ fr → a ∈ F ++ fp := fun a ha => (List.mem_append.mp ha).elim (fun z => by simp [z]) fun z => List.mem_append.mpr (.inr (h3.mem_iff.mpr (by simp [z])))
    refine ⟨sp.ex, fun a o q n => sp.fr a o q fun z => n (up a z), fun a ha => ?_, fun a o q => (sp.dm a o q).imp id fun z => z.imp (up a) id⟩
    rcases List.mem_append.mp (pm.mem_iff.mp ha) with ha | ha
    · exact .inl (List.mem_append.mpr (.inr (h3.mem_iff.mpr (by simp [ha]))))
    · exact (sp.nw a (gsub a ha)).imp (up a) id
  · rw [← lk0, show ρ'.set i (.ow t) = (ρ'.set i .no).set i (.ow t) by rw [List.set_set]]
    exact lks_set (x := .no) (by rw [List.getElem?_set_self (by rw [hlen]; exact hi)]) rfl
end
end CH
end
section
namespace CH
open PySem L2 Evl PyProof.Rows

def Cont {α : Type} (r : R α) (Ok : α → Prop) (Ex : Exn → Env → Prop) : Prop := match r with
  | .ok a => Ok a
  | .ex e ρ => Ex e ρ
  | .no => False
theorem cont_bind {α β : Type} {r : R α} {f : α → R β} {Ok : β → Prop} {Ex : Exn → Env → Prop} : Cont (r.bind f) Ok Ex = Cont r (fun a => Cont (f a) Ok Ex) Ex := by cases r <;> rfl
theorem Cont.imp {α : Type} {r : R α} {Ok Ok' : α → Prop} {Ex Ex' : Exn → Env → Prop} (h : Cont r Ok Ex) (h1 : ∀ a, Ok a → Ok' a) (h2 : ∀ e ρ, Ex e ρ → Ex' e ρ) : Cont r Ok' Ex' := by
  cases r with
  | ok a => exact h1 a h
  | ex e ρ => exact h2 e ρ h
  | no => exact h
/-- an exception's own dict -/
def ExRp (K : PySem.W.Frag) (T : Tab) (Hs H : Hp) (e : Exn) (C d : Addr) : Prop := T.exA e.cls = some C ∧ ∃ fs : List (Str × V), H d = some (.xd fs) ∧ fs.map (·.1) = T.exF e.cls ∧ Rps K T Hs e.args (fs.map (·.2))
structure Xst (K : PySem.W.Frag) (T : Tab) (L : List Addr) (σ : L2.St) (Hs H : Hp) (fp : List Addr) (ρ ρ' : Env) (e : Exn) (H' Hs' : Hp) (fp' : List Addr) (C d : Addr) : Prop where
  pst : Pst K T L σ Hs H fp ρ ρ' H' Hs' fp'
  ex : ExRp K T Hs' H' e C d
/-- what is wanted where an exception leaves -/
def XOk (K : PySem.W.Frag) (T : Tab) (L : List Addr) (σ : L2.St) (Hs H : Hp) (fp : List Addr) (ρ : Env) (W : WX) (e : Exn) (ρ' : Env) : Prop := ∀ H' Hs' fp' C d, Xst K T L σ Hs H fp ρ ρ' e H' Hs' fp' C d → W (.ref C) (some d) σ H'
section
variable {K : PySem.W.Frag} {T : Tab} {L : List Addr} {σ : L2.St} {Hs H Hs1 H1 : Hp} {fp fp1 : List Addr} {ρ ρ1 ρ' : Env} {W : WX} {e : Exn}
theorem XOk.later (x : XOk K T L σ Hs H fp ρ W e ρ') (p : Pst K T L σ Hs H fp ρ ρ1 H1 Hs1 fp1) : XOk K T L σ Hs1 H1 fp1 ρ1 W e ρ' := fun H' Hs' fp' C d q => x H' Hs' fp' C d ⟨p.trans q.pst, q.ex⟩
end

/-- an expression, a row of them, a row of operands, a test -/
def SE (X : Cx) (T : Tab) (W : WX) (e : Expr) (ρ : Env) (r : R (OT × Env)) : Prop := ∀ (L : List Addr) (σ : L2.St) (H Hs : Hp) (fp : List Addr) (Q : VK), StOk X.K T L Hs H ρ σ fp →
  Cont r (fun p => ∀ v H' Hs' fp' ft, Post X.K T L σ Hs H fp ρ p.1 p.2 v H' Hs' fp' ft → Q v H') (XOk X.K T L σ Hs H fp ρ W) → wE X e σ H Q
/-- values held beside the state -/
structure Posts (K : PySem.W.Frag) (T : Tab) (L : List Addr) (σ : L2.St) (Hs H : Hp) (fp : List Addr) (ρ : Env) (ts : List OT) (ρ' : Env) (vs : List V) (H' Hs' : Hp) (fp' ft : List Addr) : Prop where
  st : StOk K T L Hs' H' ρ' σ fp'
  rp : RpOs K T Hs' H' ts vs ft
  nd : (ft ++ fp').Nodup
  nf : ∀ a ∈ ft, Hs' a = none
  lf : ∀ a ∈ L, a ∉ ft
  sp : Stp fp H Hs (ft ++ fp') H' Hs'
  lk : lks ρ' = lks ρ
theorem Posts.pst {K : PySem.W.Frag} {T : Tab} {L : List Addr} {σ : L2.St} {Hs H H' Hs' : Hp} {fp fp' ft : List Addr} {ρ ρ' : Env} {ts : List OT} {vs : List V} (p : Posts K T L σ Hs H fp ρ ts ρ' vs H' Hs' fp' ft) : Pst K T L σ Hs H fp ρ ρ' H' Hs' fp' :=
  ⟨p.st, p.sp.sub fun a ha => by simp [ha], p.lk⟩
def SEs (X : Cx) (T : Tab) (W : WX) (es : List Expr) (ρ : Env) (r : R (List OT × Env)) : Prop := ∀ (L : List Addr) (σ : L2.St) (H Hs : Hp) (fp : List Addr) (Q : List V → Hp → Prop), StOk X.K T L Hs H ρ σ fp →
  Cont r (fun p => ∀ vs H' Hs' fp' ft, Posts X.K T L σ Hs H fp ρ p.1 p.2 vs H' Hs' fp' ft → Q vs H') (XOk X.K T L σ Hs H fp ρ W) → wEs X es σ H Q
def SOs (X : Cx) (T : Tab) (W : WX) (es : List Expr) (ρ : Env) (r : R (List OT × Env)) : Prop := ∀ (L : List Addr) (σ : L2.St) (H Hs : Hp) (fp : List Addr) (Q : List V → Hp → Prop), StOk X.K T L Hs H ρ σ fp →
  Cont r (fun p => ∀ vs H' Hs' fp', Pst X.K T L σ Hs H fp ρ p.2 H' Hs' fp' → Opds X.K T Hs' H' p.1 vs → Q vs H') (XOk X.K T L σ Hs H fp ρ W) → wEs X es σ H Q
def ST (X : Cx) (T : Tab) (W : WX) (e : Expr) (ρ : Env) (r : R (Bool × Env)) : Prop := ∀ (L : List Addr) (σ : L2.St) (H Hs : Hp) (fp : List Addr) (Q : Bool → Hp → Prop), StOk X.K T L Hs H ρ σ fp →
  Cont r (fun p => ∀ H' Hs' fp', Pst X.K T L σ Hs H fp ρ p.2 H' Hs' fp' → Q p.1 H') (XOk X.K T L σ Hs H fp ρ W) → wT X e σ H Q

section
variable {X : Cx} {T : Tab} {W : WX} {e : Expr} {es : List Expr} {ρ : Env}
theorem ses_nil : SEs X T W [] ρ (.ok ([], ρ)) := fun L σ H Hs fp Q h k => k [] H Hs fp [] ⟨h, .nil, h.nd, fun a ha => absurd ha (by simp), fun a _ ha => absurd ha (by simp), Stp.refl _ _ _, rfl⟩
theorem ses_cons {re : R (OT × Env)} {rs : Env → R (List OT × Env)} (he : SE X T W e ρ re) (hs : ∀ ρ1, SEs X T W es ρ1 (rs ρ1)) :
    SEs X T W (e :: es) ρ (re.bind fun p => (rs p.2).bind fun q => .ok (p.1 :: q.1, q.2)) := by
  intro L σ H Hs fp Q h k
  rw [cont_bind] at k
  refine he L σ H Hs fp _ h (k.imp (fun p k v H1 Hs1 fp1 ft p1 => ?_) fun _ _ x => x)
  rw [cont_bind] at k
  refine hs p.2 L σ H1 Hs1 fp1 _ p1.st (k.imp (fun q k vs H2 Hs2 fp2 fts p2 => ?_) fun ex ρ' x => x.later p1.pst)
  obtain ⟨r1, r2, r3, r4⟩ := p1.hold p2.pst
  have d2 := List.nodup_append.mp p2.nd
  have d1 := List.nodup_append.mp p1.nd
  have tr := p1.rp.tracked
  have nin : ∀ a ∈ ft, a ∉ fp1 := fun a ha hf => d1.2.2 a ha a hf rfl
  have ap : ∀ a ∈ ft, a ∉ fts ++ fp2 := fun a ha => p2.sp.out (tr a ha) (nin a ha)
  refine k (v :: vs) H2 Hs2 fp2 (ft ++ fts) ⟨p2.st, .cons r1 p2.rp, ?_, fun a ha => ?_, fun a ha hf => ?_, ?_, p2.lk.trans p1.lk⟩
  · rw [List.append_assoc]
    exact List.nodup_append.mpr ⟨d1.1, p2.nd, fun a ha b hb q => ap a ha (q ▸ hb)⟩
  · rcases List.mem_append.mp ha with ha | ha
    · exact r3 a ha
    · exact p2.nf a ha
  · rcases List.mem_append.mp hf with hf | hf
    · exact p1.lf a ha hf
    · exact p2.lf a ha hf
  · rw [List.append_assoc]
    exact p1.sp.trans (p2.sp.wider (fun a ha => by simp [ha]) ft fun a ha => by simp [ha])
/-- something reckoned behind a state: a in the language, b in the heap -/
def SG (X : Cx) (T : Tab) (W : WX) {α β : Type} (G : L2.St → Hp → (β → Hp → Prop) → Prop) (Rel : α → β → Hp → Hp → Prop) (ρ : Env) (r : R (α × Env)) : Prop := ∀ (L : List Addr) (σ : L2.St) (H Hs : Hp) (fp : List Addr) (Q : β → Hp → Prop), StOk X.K T L Hs H ρ σ fp →
  Cont r (fun p => ∀ b H' Hs' fp', Pst X.K T L σ Hs H fp ρ p.2 H' Hs' fp' → Rel p.1 b Hs' H' → Q b H') (XOk X.K T L σ Hs H fp ρ W) → G σ H Q
theorem sos_nil : SOs X T W [] ρ (.ok ([], ρ)) := fun L σ H Hs fp Q h k => k [] H Hs fp (Pst.refl h) .nil
/-- an operand that is a value, then the rest -/
theorem sg_e {α β : Type} {G : L2.St → Hp → (β → Hp → Prop) → Prop} {Rel : α → β → Hp → Hp → Prop} {re : R (OT × Env)} {rs : Env → R (α × Env)} (he : SE X T W e ρ re) (hs : ∀ ρ1, SG X T W G Rel ρ1 (rs ρ1)) :
    SG X T W (fun σ H (Q : V × β → Hp → Prop) => wE X e σ H fun x H1 => G σ H1 fun b H2 => Q (x, b) H2) (fun a b Hs H => Opd X.K T Hs H a.1 b.1 ∧ Rel a.2 b.2 Hs H) ρ (re.bind fun p => (rs p.2).bind fun q => .ok ((p.1, q.1), q.2)) := by
  intro L σ H Hs fp Q h k
  rw [cont_bind] at k
  refine he L σ H Hs fp _ h (k.imp (fun p k v H1 Hs1 fp1 ft p1 => ?_) fun _ _ x => x)
  rw [cont_bind] at k
  refine hs p.2 L σ H1 Hs1 fp1 _ p1.st (k.imp (fun q k b H2 Hs2 fp2 p2 o2 => ?_) fun ex ρ' x => x.later p1.pst)
  exact k (v, b) H2 Hs2 fp2 (p1.pst.trans p2) ⟨⟨ft, (p1.hold p2).1⟩, o2⟩

theorem fldIx_get : ∀ {ks : List Str} {f : Str} {j : Nat}, fldIx ks f = some j → ks[j]? = some f
  | [], f, j, h => by simp [fldIx] at h
  | k :: ks, f, j, h => by
    unfold fldIx at h
    split at h
    · rename_i e; cases Option.some.inj h; simp [e]
    · obtain ⟨i, h1, rfl⟩ := Option.map_eq_some_iff.mp h
      simpa using fldIx_get h1
theorem fldIx_lookup : ∀ {fs : List (Str × V)} {f : Str} {j : Nat} {v : V}, fldIx (fs.map (·.1)) f = some j → (fs.map (·.2))[j]? = some v → fs.lookup f = some v
  | [], f, j, v, h, _ => by simp [fldIx] at h
  | (k, x) :: fs, f, j, v, h, e => by
    simp only [List.map_cons, fldIx] at h
    split at h
    · rename_i q
      cases Option.some.inj h
      simp at e
      subst q e
      simp [List.lookup]
    · rename_i q
      obtain ⟨i, h1, rfl⟩ := Option.map_eq_some_iff.mp h
      have n : (f == k) = false := by simpa using fun z => q z.symm
      simp only [List.lookup, n]
      exact fldIx_lookup h1 (by simpa using e)
theorem RpOs.get {K : PySem.W.Frag} {Hs H : Hp} : ∀ {ts : List OT} {vs : List V} {f : List Addr} {j : Nat} {t : OT}, RpOs K T Hs H ts vs f → ts[j]? = some t → ∃ v g, vs[j]? = some v ∧ RpO K T Hs H t v g ∧ ∀ a ∈ g, a ∈ f
  | _, _, _, j, _, .nil, e => by simp at e
  | _, _, _, 0, _, .cons (f := f1) h r, e => by simp at e; subst e; exact ⟨_, f1, rfl, h, fun a ha => by simp [ha]⟩
  | _, _, _, j + 1, _, .cons h r, e => by
    obtain ⟨v, g, h1, h2, h3⟩ := RpOs.get (j := j) r (by simpa using e)
    exact ⟨v, g, by simpa using h1, h2, fun a ha => by simp [h3 a ha]⟩
/-- a field of an object -/
theorem fld_of {K : PySem.W.Frag} {Hs H : Hp} {t u : OT} {f : Str} {x : V} {g : List Addr} (e : Ex Hs H) (h : RpO K T Hs H t x g) (hf : t.fld f = some u) :
    ∃ a C dx fs v g', x = .ref a ∧ H a = some (.ins C dx fs) ∧ Cls K C ∧ NoAttr K C f ∧ fs.lookup f = some v ∧ RpO K T Hs H u v g' ∧ ∀ b ∈ g', b ∈ g := by
  cases h with
  | sh h =>
    cases h with
    | obj h1 h2 h3 =>
      simp only [OT.fld, Option.map_eq_some_iff] at hf
      obtain ⟨d, hf, rfl⟩ := hf
      obtain ⟨j, h4, h5⟩ := Option.bind_eq_some_iff.mp hf
      obtain ⟨v, h6, h7⟩ := h3.get h5
      exact ⟨_, _, _, _, v, [], rfl, e _ _ h1, h2.2.cl, h2.2.na f (List.mem_of_getElem? (fldIx_get h4)), fldIx_lookup h4 h6, .sh h7, fun b hb => absurd hb (by simp)⟩
    | _ => simp [OT.fld] at hf
  | lst => simp [OT.fld] at hf
  | obj h1 h2 h3 =>
    simp only [OT.fld] at hf
    obtain ⟨j, h4, h5⟩ := Option.bind_eq_some_iff.mp hf
    obtain ⟨v, g', h6, h7, h8⟩ := h3.get h5
    exact ⟨_, _, _, _, v, g', rfl, h1, h2.2.cl, h2.2.na f (List.mem_of_getElem? (fldIx_get h4)), fldIx_lookup h4 h6, h7, fun b hb => by simp [h8 b hb]⟩
/-- which slot a name is, along which attributes -/
def visB (sc : Scope) (x : Str) : Bool := match sc.names.lookup x with
  | some .local => true
  | some .cell => true
  | some .free => true
  | _ => false
def glB (sc : Scope) (x : Str) : Bool := match sc.names.lookup x with
  | some .globalImplicit => true
  | _ => false
def locB (sc : Scope) (x : Str) : Bool := match sc.names.lookup x with
  | some .local => true
  | some .cell => true
  | _ => false
def slotB (N : List Str) (sc : Scope) (i : Nat) : Expr → Bool
  | .Name x _ => decide (N[i]? = some x) && visB sc x && !(x == ("__debug__" : Str)) && !(x == ("__classdict__" : Str))
  | _ => false
def pathB (N : List Str) (sc : Scope) (i : Nat) : List Str → Expr → Bool
  | [], e => slotB N sc i e
  | f :: p, .Attribute o a _ => decide (a = f) && pathB N sc i p o
  | _ :: _, _ => false
theorem vis_of {X : Cx} {x : Str} {sc : Scope} (hs : X.env.scope = sc) (h : visB sc x = true) : Vis X.env.scope x := by
  rw [hs]
  unfold visB at h
  split at h
  · exact .inl (by assumption)
  · exact .inr (.inl (by assumption))
  · exact .inr (.inr (by assumption))
  · cases h
theorem gl_of {X : Cx} {x : Str} {sc : Scope} (hs : X.env.scope = sc) (h : glB sc x = true) : Gl X x := by
  unfold glB at h
  split at h
  · show X.env.scope.names.lookup x = _
    rw [hs]; assumption
  · cases h
theorem loc_of {X : Cx} {x : Str} {sc : Scope} (hs : X.env.scope = sc) (h : locB sc x = true) : Loc X.env.scope x := by
  rw [hs]
  unfold locB at h
  split at h
  · exact .inl (by assumption)
  · exact .inr (by assumption)
  · cases h
theorem slot_of {sc : Scope} {i : Nat} (hs : X.env.scope = sc) (h : slotB X.N sc i e = true) : PE X e (tVar i) := by
  cases e with
  | Name x pos =>
    simp only [slotB, Bool.and_eq_true, decide_eq_true_eq, Bool.not_eq_true'] at h
    obtain ⟨⟨⟨h1, h2⟩, h3⟩, h4⟩ := h
    exact pe_var h1 (vis_of hs h2) h3 h4
  | _ => cases h
/-- an attribute's base that is no call -/
def notCallB : Expr → Bool
  | .Call .. => false
  | _ => true
theorem base_of {o : Expr} {a : Str} {env : PySem.Env} (h : notCallB o = true) : attributeBase o a env (eval o env) = eval o env := by
  cases o <;> first | rfl | cases h
theorem path_notCall {N : List Str} {sc : Scope} {i : Nat} : ∀ {p : List Str} {e : Expr}, pathB N sc i p e = true → notCallB e = true
  | [], e, h => by cases e <;> first | rfl | (simp [pathB, slotB] at h)
  | f :: p, e, h => by cases e <;> first | rfl | (simp [pathB] at h)
/-- a path is read -/
theorem path_read {sc : Scope} {i : Nat} (hs : X.env.scope = sc) {Hs H : Hp} (ex : Ex Hs H) {σ : L2.St} {t : OT} {x : V} {f : List Addr} (hx : σ[i]? = some (some x)) (r : RpO X.K T Hs H t x f) :
    ∀ {p : List Str} {e : Expr} {u : OT}, pathB X.N sc i p e = true → t.getP p = some u → ∃ v g, RpO X.K T Hs H u v g ∧ (∀ a ∈ g, a ∈ f) ∧ (p = [] → v = x) ∧ ∀ Q : VK, Q v H → wE X e σ H Q
  | [], e, u, h, hu => by
    cases Option.some.inj hu
    refine ⟨x, f, r, fun a ha => ha, fun _ => rfl, fun Q q => wE_of (slot_of hs (by simpa [pathB] using h)) ⟨x, hx, q⟩⟩
  | a :: p, e, u, h, hu => by
    cases e with
    | Attribute o b pos =>
      simp only [pathB, Bool.and_eq_true, decide_eq_true_eq] at h
      obtain ⟨rfl, h⟩ := h
      obtain ⟨w, h1, h2⟩ := Option.bind_eq_some_iff.mp (show (t.getP p).bind (fun u => u.fld b) = some u from hu)
      obtain ⟨v, g, r1, r2, _, r3⟩ := path_read hs ex hx r h h1
      obtain ⟨a', C, dx, fs, v', g', rfl, k1, k2, k3, k4, k5, k6⟩ := fld_of ex r1 h2
      exact ⟨v', g', k5, fun b hb => r2 b (k6 b hb), fun z => (List.cons_ne_nil _ _ z).elim, fun Q q => wE_of (pe_fld (peW X o) (base_of (path_notCall h))) (r3 _ ⟨a', C, dx, fs, v', rfl, k1, k2, k3, k4, q⟩)⟩
    | _ => simp [pathB] at h
/-- an operand that is borrowed and locked while the rest is reckoned -/
theorem sg_bor {α β : Type} {G : L2.St → Hp → (β → Hp → Prop) → Prop} {Rel : α → β → Hp → Hp → Prop} {sc : Scope} {i : Nat} {p : List Str} {rs : Env → R (α × Env)} (hs : X.env.scope = sc) (hp : pathB X.N sc i p e = true) {t : OT} (ht : ((Env.tree ρ i).bind fun r => r.getP p) = some t)
    (hr : SG X T W G Rel (lock ρ i) (rs (lock ρ i))) :
    SG X T W (fun σ H (Q : V × β → Hp → Prop) => wE X e σ H fun x H1 => G σ H1 fun b H2 => Q (x, b) H2) (fun a b Hs H => Opd X.K T Hs H a.1 b.1 ∧ Rel a.2 b.2 Hs H) ρ (match rs (lock ρ i) with
      | .ok (a, ρ2) => .ok ((t, a), unlock ρ ρ2 i)
      | .ex e ρ2 => .ex e (unlock ρ ρ2 i)
      | .no => .no) := by
  intro L σ H Hs fp Q h k
  obtain ⟨r, h1, h2⟩ := Option.bind_eq_some_iff.mp ht
  unfold Env.tree at h1
  split at h1
  · -- an own tree
    rename_i r' e0
    cases Option.some.inj h1
    obtain ⟨x, f, fr, l1, l2, l3, l4⟩ := h.locked e0
    obtain ⟨v, g, r1, r2, _, r3⟩ := path_read hs h.ex l1 l2 hp h2
    have eL : lock ρ i = ρ.set i (.lk r) := by unfold lock; rw [e0]
    rw [eL] at hr k
    refine r3 _ (hr (f ++ L) σ H Hs fr _ l4 ?_)
    have un : ∀ {ρ2 : Env} {H' Hs' : Hp} {fp' : List Addr}, Pst X.K T (f ++ L) σ Hs H fr (ρ.set i (.lk r)) ρ2 H' Hs' fp' → ∃ fp2, Pst X.K T L σ Hs H fp ρ (unlock ρ ρ2 i) H' Hs' fp2 := fun {ρ2 H' Hs' fp'} p => by
      obtain ⟨fp2, u1, u2, u3, _⟩ := Pst.unlocked (F := []) h e0 l1 l2 l3 l4 p.st p.sp (fun x hx => absurd hx (by simp)) p.lk (fun _ _ _ => rfl) rfl
      have eU : unlock ρ ρ2 i = ρ2.set i (.ow r) := by unfold unlock; rw [e0]
      exact ⟨fp2, by rw [eU]; exact u1, u2, by rw [eU]; exact u3⟩
    cases hq : rs (ρ.set i (.lk r)) with
    | ok q =>
      rw [hq] at k
      intro b H' Hs' fp' p o
      obtain ⟨fp2, pu⟩ := un p
      exact k (v, b) H' Hs' fp2 pu ⟨⟨g, r1.step p.sp.ex fun a ha o q => p.sp.fr a o q (l4.lf a (by simp [r2 a ha]))⟩, o⟩
    | ex e0' ρ2 =>
      rw [hq] at k
      intro H' Hs' fp' C d p
      obtain ⟨fp2, pu⟩ := un p.pst
      exact k H' Hs' fp2 C d ⟨pu, p.ex⟩
    | no => rw [hq] at k; exact k
  · -- a locked one
    rename_i r' e0
    cases Option.some.inj h1
    have eL : lock ρ i = ρ := by unfold lock; rw [e0]
    rw [eL] at hr k
    obtain ⟨x, f, l1, l2, l3⟩ := h.rs.readLk e0
    obtain ⟨v, g, r1, r2, _, r3⟩ := path_read hs h.ex l1 l2 hp h2
    have lkf : ∀ a ∈ g, a ∉ fp := fun a ha => h.lf a (l3 a (r2 a ha))
    refine r3 _ (hr L σ H Hs fp _ h ?_)
    have eU : ∀ ρ2, unlock ρ ρ2 i = ρ2 := fun ρ2 => by unfold unlock; rw [e0]
    cases hq : rs ρ with
    | ok q =>
      rw [hq] at k
      intro b H' Hs' fp' p o
      simp only [eU] at k
      exact k (v, b) H' Hs' fp' p ⟨⟨g, r1.keep lkf p.sp⟩, o⟩
    | ex e0' ρ2 =>
      rw [hq] at k
      simp only [eU] at k
      exact k
    | no => rw [hq] at k; exact k
  · cases h1
/-- rows of operands -/
theorem sos_cons {r : R ((OT × List OT) × Env)} (h : SG X T W (fun σ H (Q : V × List V → Hp → Prop) => wE X e σ H fun x H1 => wEs X es σ H1 fun b H2 => Q (x, b) H2) (fun a b Hs H => Opd X.K T Hs H a.1 b.1 ∧ Opds X.K T Hs H a.2 b.2) ρ r) :
    SOs X T W (e :: es) ρ (r.bind fun p => .ok (p.1.1 :: p.1.2, p.2)) := by
  intro L σ H Hs fp Q h0 k
  rw [cont_bind] at k
  exact h L σ H Hs fp (fun b H => Q (b.1 :: b.2) H) h0 (k.imp (fun p k b H' Hs' fp' p1 o => k (b.1 :: b.2) H' Hs' fp' p1 (.cons o.1 o.2)) fun _ _ x => x)
end
end CH
end
section
namespace CH
open PySem L2 Evl PyProof.Rows

theorem wE.mono {X : Cx} {e : Expr} {σ : L2.St} {H : Hp} {Q Q' : VK} (h : wE X e σ H Q) (k : ∀ v H, Q v H → Q' v H) : wE X e σ H Q' := fun pins s I =>
  thn (h pins s I) fun u s' ⟨v, H', I', r, q⟩ => ⟨v, H', I', r, k v H' q⟩
theorem wEs.mono {X : Cx} : ∀ {es : List Expr} {σ : L2.St} {H : Hp} {Q Q' : List V → Hp → Prop}, wEs X es σ H Q → (∀ v H, Q v H → Q' v H) → wEs X es σ H Q'
  | [], _, _, _, _, h, k => k _ _ h
  | e :: es, _, _, _, _, h, k => wE.mono (show wE X e _ _ _ from h) fun v H q => wEs.mono (es := es) q fun vs H q => k _ _ q
/-- the operands, then what the operation gives -/
def tRC (X : Cx) (T : Tab) (o : Op) (es : List Expr) : TE := fun σ H Q => wEs X es σ H fun vs H1 => rCS X.K T o.ev vs H1 Q

theorem wE1 {X : Cx} {a : Expr} {σ : L2.St} {H : Hp} {Q' : List V → Hp → Prop} {Q : V → Hp → Prop} (hw : wEs X [a] σ H Q') (k : ∀ x H, Q' [x] H → Q x H) : wE X a σ H Q := wE.mono (show wE X a σ H fun x H1 => Q' [x] H1 from hw) k
theorem wE2 {X : Cx} {a b : Expr} {σ : L2.St} {H : Hp} {Q' : List V → Hp → Prop} {Q : V → V → Hp → Prop} (hw : wEs X [a, b] σ H Q') (k : ∀ x y H, Q' [x, y] H → Q x y H) : wE X a σ H fun x H1 => wE X b σ H1 fun y H2 => Q x y H2 :=
  wE.mono (show wE X a σ H fun x H1 => wE X b σ H1 fun y H2 => Q' [x, y] H2 from hw) fun x H1 hw => wE.mono hw fun y H2 q => k x y H2 q
theorem wE3 {X : Cx} {a b c : Expr} {σ : L2.St} {H : Hp} {Q' : List V → Hp → Prop} {Q : V → V → V → Hp → Prop} (hw : wEs X [a, b, c] σ H Q') (k : ∀ x y z H, Q' [x, y, z] H → Q x y z H) : wE X a σ H fun x H1 => wE X b σ H1 fun y H2 => wE X c σ H2 fun z H3 => Q x y z H3 :=
  wE.mono (show wE X a σ H fun x H1 => wE X b σ H1 fun y H2 => wE X c σ H2 fun z H3 => Q' [x, y, z] H3 from hw) fun x H1 hw => wE.mono hw fun y H2 hw => wE.mono hw fun z H3 q => k x y z H3 q

def Bo.ast : Bo → Operator
  | .add => .Add | .sub => .Sub | .mul => .Mult | .mod => .Mod | .fdiv => .FloorDiv | .pow => .Pow
def Cm.ast : Cm → CmpOp
  | .eq => .Eq | .ne => .NotEq | .lt => .Lt | .le => .LtE | .gt => .Gt | .ge => .GtE | .is => .Is | .isnot => .IsNot | .in_ => .In | .notin => .NotIn
def Bi.nm : Bi → Str
  | .len => "len" | .abs => "abs" | .int => "int" | .bool => "bool" | .tuple => "tuple" | .list => "list" | .any => "any" | .all => "all" | .sum => "sum" | .sorted => "sorted" | .max2 => "max" | .min2 => "min" | .max1 => "max" | .min1 => "min" | .repr => "repr"
def Bi.id : Bi → String
  | .len => "len" | .abs => "abs" | .int => "int" | .bool => "bool" | .tuple => "tuple" | .list => "list" | .any => "any" | .all => "all" | .sum => "sum" | .sorted => "sorted" | .max2 => "max" | .min2 => "min" | .max1 => "max" | .min1 => "min" | .repr => "repr"
def tyNmB (tys : List String) (bn : List Str) (sc : Scope) : List Expr → Bool := fun es => match tys, es with
  | [], [] => true
  | n :: tys, .Name x _ :: es => decide (x = Str.ofString n) && glB sc x && bn.contains x && tyB.contains n && tyNmB tys bn sc es
  | _, _ => false
def plainIxB : Expr → Bool
  | .Slice .. => false
  | _ => true
def nostar (es : List Expr) : Bool := es.all fun e => !isStar e
def optL (k : Bool) (o : Option Expr) : Option (List Expr) := match k, o with
  | true, some e => some [e]
  | false, none => some []
  | _, _ => none
def opShape (bn : List Str) (sc : Scope) : Op → Expr → Option (List Expr)
  | .bin b, .BinOp l o r _ => guard_ (decide (o = b.ast)) [l, r]
  | .neg, .UnaryOp .USub x _ => some [x]
  | .cmp c, .Compare l [o] [r] _ => guard_ (decide (o = c.ast) && !behindInMarks o r) [l, r]
  | .idx, .Subscript a b _ => guard_ (plainIxB b) [a, b]
  | .fld f, .Attribute o a _ => guard_ (decide (a = f) && notCallB o) [o]
  | .bi b, .Call (.Name x _) args [] _ => guard_ (decide (x = b.nm) && glB sc x && bn.contains x && nostar args && !args.isEmpty) args
  | .isi [n], .Call (.Name x _) [v, .Name y q] [] _ => guard_ (decide (x = ("isinstance" : Str)) && glB sc x && bn.contains x && nostar [v] && tyNmB [n] bn sc [.Name y q]) [v]
  | .isi (n :: m :: tys), .Call (.Name x _) [v, .Tuple es _ _] [] _ => guard_ (decide (x = ("isinstance" : Str)) && glB sc x && bn.contains x && nostar [v] && tyNmB (n :: m :: tys) bn sc es && decide (es.length ≤ 1000)) [v]
  | .rng 1 false, .Call (.Name x _) [.Call (.Name y _) [a] [] _] [] _ => guard_ (decide (x = ("list" : Str)) && glB sc x && bn.contains x && decide (y = ("range" : Str)) && glB sc y && bn.contains y && nostar [a]) [a]
  | .rng 2 false, .Call (.Name x _) [.Call (.Name y _) [a, b] [] _] [] _ => guard_ (decide (x = ("list" : Str)) && glB sc x && bn.contains x && decide (y = ("range" : Str)) && glB sc y && bn.contains y && nostar [a, b]) [a, b]
  | .rng 1 true, .Call (.Name x _) [.Call (.Name y _) [a] [] _] [] _ => guard_ (decide (x = ("tuple" : Str)) && glB sc x && bn.contains x && decide (y = ("range" : Str)) && glB sc y && bn.contains y && nostar [a]) [a]
  | .rng 2 true, .Call (.Name x _) [.Call (.Name y _) [a, b] [] _] [] _ => guard_ (decide (x = ("tuple" : Str)) && glB sc x && bn.contains x && decide (y = ("range" : Str)) && glB sc y && bn.contains y && nostar [a, b]) [a, b]
  | .meth m, .Call (.Attribute o nm apos) [] [] cpos => guard_ (decide (m = "upper") && decide (nm = ("upper" : Str)) && notCallB o && (apos.endLine == cpos.line)) [o]
  | .kin x ng _, .Compare l [o] [.Name y _] _ => guard_ (decide (x = y) && glB sc y && !(y == ("__debug__" : Str)) && decide (o = if ng then .NotIn else .In)) [l]
  | .kget x _, .Subscript (.Name y _) b _ => guard_ (decide (x = y) && glB sc y && !(y == ("__debug__" : Str)) && plainIxB b) [b]
  | .rev, .Subscript o (.Slice none none (some (.UnaryOp .USub (.Constant (.int 1) _ _) _)) _) _ => some [o]
  | _, _ => none
/-- a dict of the module, text keys, ints behind them -/
def DctK (K : PySem.W.Frag) (w : World) (mg : Str → Option Value) (x : Str) (kvs : List (Str × Int)) : Prop := ∃ (d : Addr) (es : Array DictEntry) (n : Nat), mg x = some (.ref d) ∧ KDict K w d es n ∧ (∀ z n, kvs.lookup z = some n → ∃ t, PySem.W.nsIn K d z = some (some (.int n t))) ∧ ∀ z, kvs.lookup z = none → PySem.W.nsIn K d z = some none
def DctOk (X : Cx) (x : Str) (kvs : List (Str × Int)) : Prop := DctK X.K X.w X.mg x kvs
def OpK (X : Cx) : Op → Prop
  | .kin x _ kvs => DctOk X x kvs
  | .kget x kvs => DctOk X x kvs
  | _ => True
section
variable {X : Cx} {T : Tab} {sc : Scope} {e : Expr} {es : List Expr}
theorem ev2 {o : Op} {f : OT → OT → Option OT} {ts : List OT} {w : OT} {x y : V} {Hs H : Hp} (h : ∀ ts w, o.ev ts = some w → ∃ s t, ts = [s, t] ∧ f s t = some w) (hev : o.ev ts = some w) (ho : Opds X.K T Hs H ts [x, y]) : ∃ s t, Opd X.K T Hs H s x ∧ Opd X.K T Hs H t y ∧ f s t = some w := by
  obtain ⟨s, t, rfl, h2⟩ := h ts w hev
  obtain ⟨x', y', e, o1, o2⟩ := opds2 ho
  cases e
  exact ⟨s, t, o1, o2, h2⟩
theorem ev1 {o : Op} {f : OT → Option OT} {ts : List OT} {w : OT} {x : V} {Hs H : Hp} (h : ∀ ts w, o.ev ts = some w → ∃ s, ts = [s] ∧ f s = some w) (hev : o.ev ts = some w) (ho : Opds X.K T Hs H ts [x]) : ∃ s, Opd X.K T Hs H s x ∧ f s = some w := by
  obtain ⟨s, rfl, h2⟩ := h ts w hev
  obtain ⟨x', e, o1⟩ := opds1 ho
  cases e
  exact ⟨s, o1, h2⟩
theorem two_ev {o : Op} {f : OT → OT → Option OT} (h2 : ∀ s t, o.ev [s, t] = f s t) (h0 : o.ev [] = none) (h1 : ∀ s, o.ev [s] = none) (h3 : ∀ s t u r, o.ev (s :: t :: u :: r) = none) : ∀ ts w, o.ev ts = some w → ∃ s t, ts = [s, t] ∧ f s t = some w
  | [], w, h => by rw [h0] at h; cases h
  | [s], w, h => by rw [h1] at h; cases h
  | [s, t], w, h => ⟨s, t, rfl, by rw [← h2]; exact h⟩
  | s :: t :: u :: r, w, h => by rw [h3] at h; cases h
theorem one_ev {o : Op} {f : OT → Option OT} (h1 : ∀ s, o.ev [s] = f s) (h0 : o.ev [] = none) (h2 : ∀ s t r, o.ev (s :: t :: r) = none) : ∀ ts w, o.ev ts = some w → ∃ s, ts = [s] ∧ f s = some w
  | [], w, h => by rw [h0] at h; cases h
  | [s], w, h => ⟨s, rfl, by rw [← h1]; exact h⟩
  | s :: t :: r, w, h => by rw [h2] at h; cases h
theorem sh_bin {b : Bo} (h : opShape T.bn sc (.bin b) e = some es) : PE X e (tRC X T (.bin b) es) := by
  cases e <;> first | (simp [opShape] at h; done) | skip
  rename_i l o r pos
  obtain ⟨h1, rfl⟩ := guard_eq (show guard_ (decide (o = b.ast)) [l, r] = some es from h)
  cases of_decide_eq_true h1
  have key : ∀ {rl : OpR X (binaryOp b.ast) (rOpS X.K T (binEv b))}, PE X (.BinOp l b.ast r pos) (tRC X T (.bin b) [l, r]) := fun {rl} => ⟨fun pins s σ H Q I hw =>
    (pe_op rl (peW X l) (peW X r)).run pins s σ H Q I (wE2 hw fun x y H1 ⟨Hs, ts, w, ex, o, hev, q⟩ => by
      obtain ⟨s1, t1, o1, o2, h2⟩ := ev2 (two_ev (fun _ _ => rfl) rfl (fun _ => rfl) (fun _ _ _ _ => rfl)) hev o
      exact ⟨Hs, s1, t1, w, ex, o1, o2, h2, q⟩)⟩
  cases b
  · exact key (rl := os_add)
  · exact key (rl := os_sub)
  · exact key (rl := os_mul)
  · exact key (rl := os_mod)
  · exact key (rl := os_fdiv)
  · exact key (rl := os_pow)
theorem sh_neg (h : opShape T.bn sc .neg e = some es) : PE X e (tRC X T .neg es) := by
  cases e <;> first | (simp [opShape] at h; done) | skip
  rename_i o x pos
  cases o <;> first | (simp [opShape] at h; done) | skip
  cases Option.some.inj (show some [x] = some es from h)
  exact ⟨fun pins s σ H Q I hw => (pe_un us_neg (peW X x)).run pins s σ H Q I (wE1 hw fun x H1 ⟨Hs, ts, w, ex, o, hev, q⟩ => by
    obtain ⟨s1, o1, h2⟩ := ev1 (one_ev (f := negEv) (fun _ => rfl) rfl (fun _ _ _ => rfl)) hev o
    exact ⟨Hs, s1, w, ex, o1, h2, q⟩)⟩
theorem bl_new {H Hs : Hp} {Q : VK} {b : Bool} (ex : Ex Hs H) (q : ∀ z H' Hs' ft, New X.K T Hs H (.sh (.bl b)) z H' Hs' ft → Q z H') : Q (.bl b) H := q _ _ _ _ (New.val ex (.bl b))
theorem sh_cmp {c : Cm} (hu : X.A.units + 66 < cLine) (h : opShape T.bn sc (.cmp c) e = some es) : PE X e (tRC X T (.cmp c) es) := by
  cases e <;> first | (simp [opShape] at h; done) | skip
  rename_i l ops rs pos
  match ops, rs, h with
  | [o], [r], h =>
    obtain ⟨h1, rfl⟩ := guard_eq (show guard_ (decide (o = c.ast) && !behindInMarks o r) [l, r] = some es from h)
    rw [Bool.and_eq_true, Bool.not_eq_true'] at h1
    obtain ⟨h1, h2⟩ := h1
    cases of_decide_eq_true h1
    have key : ∀ {rl : OpR X (compareOp c.ast) (rCmS X.K T (cmpEv c))}, PE X (.Compare l [c.ast] [r] pos) (tRC X T (.cmp c) [l, r]) := fun {rl} => ⟨fun pins s σ H Q I hw =>
      (pe_cmpR rl (peW X l) (peW X r) h2).run pins s σ H Q I (wE2 hw fun x y H1 ⟨Hs, ts, w, ex, o, hev, q⟩ => by
        obtain ⟨s1, t1, o1, o2, h2⟩ := ev2 (two_ev (f := fun s t => (cmpEv c s t).map fun b => .sh (.bl b)) (fun _ _ => rfl) rfl (fun _ => rfl) (fun _ _ _ _ => rfl)) hev o
        obtain ⟨b, h3, rfl⟩ := Option.map_eq_some_iff.mp h2
        exact ⟨Hs, s1, t1, b, ex, o1, o2, h3, bl_new ex q⟩)⟩
    cases c
    · exact key (rl := cs_eq (by omega))
    · exact key (rl := cs_ne (by omega))
    · exact key (rl := cs_lt (by omega))
    · exact key (rl := cs_le)
    · exact key (rl := cs_gt)
    · exact key (rl := cs_ge)
    · exact key (rl := cs_is)
    · exact key (rl := cs_isnot)
    · exact key (rl := cs_in (by omega))
    · exact key (rl := cs_notin (by omega))
  | [], _, h => simp [opShape] at h
  | _ :: _ :: _, _, h => simp [opShape] at h
  | [_], [], h => simp [opShape] at h
  | [_], _ :: _ :: _, h => simp [opShape] at h
theorem plainIx_of {b : Expr} (h : plainIxB b = true) : PlainIx b := by cases b <;> first | (exact fun _ _ => rfl) | cases h
theorem sh_idx (h : opShape T.bn sc .idx e = some es) : PE X e (tRC X T .idx es) := by
  cases e <;> first | (simp [opShape] at h; done) | skip
  rename_i a b pos
  obtain ⟨h1, rfl⟩ := guard_eq (show guard_ (plainIxB b) [a, b] = some es from h)
  exact ⟨fun pins s σ H Q I hw => (pe_ix ixs (peW X a) (peW X b) (plainIx_of h1)).run pins s σ H Q I (wE2 hw fun x y H1 ⟨Hs, ts, w, ex, o, hev, q⟩ => by
    obtain ⟨s1, t1, o1, o2, h2⟩ := ev2 (two_ev (o := .idx) (f := idx2Ev) (fun _ t => by cases t with
      | sh d => cases d <;> rfl
      | lst ts => rfl
      | obj => rfl) rfl (fun _ => rfl) (fun _ t _ _ => by cases t with
      | sh d => cases d <;> rfl
      | lst ts => rfl
      | obj => rfl)) hev o
    exact ⟨Hs, s1, t1, w, ex, o1, o2, h2, q⟩)⟩
theorem sh_fld {f : Str} (h : opShape T.bn sc (.fld f) e = some es) : PE X e (tRC X T (.fld f) es) := by
  cases e <;> first | (simp [opShape] at h; done) | skip
  rename_i o a pos
  obtain ⟨h1, rfl⟩ := guard_eq (show guard_ (decide (a = f) && notCallB o) [o] = some es from h)
  rw [Bool.and_eq_true] at h1
  cases of_decide_eq_true h1.1
  exact ⟨fun pins s σ H Q I hw => (pe_fld (peW X o) (base_of h1.2)).run pins s σ H Q I (wE1 hw fun x H1 ⟨Hs, ts, w, ex, o, hev, q⟩ => by
    obtain ⟨s1, o1, h2⟩ := ev1 (one_ev (o := .fld f) (f := fun t => match t.fld f with
      | some (.sh d) => some (.sh d)
      | _ => none) (fun _ => rfl) rfl (fun _ _ _ => rfl)) hev o
    obtain ⟨g, r⟩ := o1
    split at h2
    · rename_i d hd
      cases Option.some.inj h2
      obtain ⟨a', C, dx, fs, v, g', rfl, k1, k2, k3, k4, k5, _⟩ := fld_of ex r hd
      cases k5 with
      | sh k5 => exact ⟨a', C, dx, fs, v, rfl, k1, k2, k3, k4, q _ _ _ _ (New.val ex k5)⟩
    · cases h2)⟩
theorem New.up {K : PySem.W.Frag} {H Hs : Hp} {d : D} {z : V} {p : Addr} {o : HO} (e : Ex Hs H) (hp : H p = none) (r : Rp K T Hs d z) : New K T Hs H (.sh d) z (upd H p o) Hs [] :=
  ⟨Ex.new hp, Ex.refl _, e.trans (Ex.new hp), .sh r, .nil, fun a h => absurd h (by simp), fun _ _ h => .inl h⟩
theorem one_isi {tys : List String} : ∀ ts w, (Op.isi tys).ev ts = some w → ∃ s, ts = [s] ∧ (s.toD.tyName.map fun a => OT.sh (.bl (tys.any fun b => isTy a b))) = some w := one_ev (o := .isi tys) (fun _ => rfl) rfl (fun _ _ _ => rfl)
theorem bn_of (hb : ∀ x ∈ T.bn, X.mg x = none) {x : Str} (h : T.bn.contains x = true) : X.mg x = none := hb x (by simpa using h)
theorem boot_tyB : (tyB.all fun n => decide (bootBuiltins (Str.ofString n) = some (.type n)) && !(Str.ofString n == ("__name__" : Str)) && !(Str.ofString n == ("__debug__" : Str))) = true := by decide +kernel
theorem ty_pe (hs : X.env.scope = sc) (hb : ∀ x ∈ T.bn, X.mg x = none) {n : String} {x : Str} {p : Pos} (h1 : x = Str.ofString n) (h2 : glB sc x = true) (h3 : T.bn.contains x = true) (h4 : tyB.contains n = true) : PE X (.Name x p) (tC (.ty n)) := by
  have h := boot_tyB
  rw [List.all_eq_true] at h
  have h := h n (by simpa using h4)
  simp only [Bool.and_eq_true, Bool.not_eq_true', decide_eq_true_eq] at h
  subst h1
  exact pe_bltn (gl_of hs h2) (bn_of hb h3) h.1.1 rfl (fun e => by rw [e] at h; exact absurd h.1.2 (by decide)) h.2
/-- a row of built-in types by name -/
def tTys : List String → TA
  | [] => tNil
  | n :: r => tCons (tC (.ty n)) (tTys r)
theorem tTys_read : ∀ (tys : List String) (σ : L2.St) (H : Hp) (Q : List V → Hp → Prop), Q (tys.map V.ty) H → tTys tys σ H Q
  | [], _, _, _, q => q
  | n :: r, σ, H, Q, q => tTys_read r σ H _ q
theorem tys_pa (hs : X.env.scope = sc) (hb : ∀ x ∈ T.bn, X.mg x = none) : ∀ (tys : List String) (es : List Expr), tyNmB tys T.bn sc es = true → PA X es (tTys tys) ∧ (∀ n ∈ tys, n ∈ tyB) ∧ tys.length = es.length
  | [], [], _ => ⟨pa_nil, fun _ h => absurd h (by simp), rfl⟩
  | [], _ :: _, h => by simp [tyNmB] at h
  | _ :: _, [], h => by simp [tyNmB] at h
  | n :: r, e :: es, h => by
    unfold tyNmB at h
    split at h
    · contradiction
    · rename_i e1 e2
      cases e1
      cases e2
      simp only [Bool.and_eq_true, decide_eq_true_eq] at h
      obtain ⟨⟨⟨⟨h1, h2⟩, h3⟩, h4⟩, h5⟩ := h
      obtain ⟨q1, q2, q3⟩ := tys_pa hs hb r es h5
      exact ⟨pa_cons (ty_pe hs hb h1 h2 h3 h4) q1, fun m hm => by
        rcases List.mem_cons.mp hm with rfl | hm
        · simpa using h4
        · exact q2 m hm, by simp [q3]⟩
    · cases h
theorem paired_ty : ∀ tys : List String, Paired ClsV (tys.map V.ty) (tys.map Value.type)
  | [] => .nil
  | n :: r => .cons (.ty n) (paired_ty r)
theorem boot_isi : bootBuiltins ("isinstance" : Str) = some (.builtin "isinstance") := by decide +kernel
theorem sh_isi (hs : X.env.scope = sc) (hb : ∀ x ∈ T.bn, X.mg x = none) {tys : List String} (h : opShape T.bn sc (.isi tys) e = some es) : PE X e (tRC X T (.isi tys) es) := by
  unfold opShape at h
  split at h <;> first | contradiction | skip
  · rename_i n x px v y q pos heq
    cases heq
    obtain ⟨h1, rfl⟩ := guard_eq h
    simp only [Bool.and_eq_true] at h1
    obtain ⟨⟨⟨⟨k1, k2⟩, k3⟩, k4⟩, k5⟩ := h1
    cases of_decide_eq_true k1
    obtain ⟨q1, q2, _⟩ := tys_pa hs hb [n] [.Name y q] k5
    have kv : isStar v = false := by simpa [nostar] using k4
    refine ⟨fun pins s σ H Q I hw => (pe_callB call_isi (gl_of hs k2) (bn_of hb k3) boot_isi (pa_cons (peW X v) q1 (star_cons kv)) (by decide) (by decide) (star_cons kv) rfl).run pins s σ H Q I (wE1 hw fun x H1 ⟨Hs, ts, w, ex, o, hev, q⟩ => ?_)⟩
    obtain ⟨s1, o1, h2⟩ := ev1 one_isi hev o
    obtain ⟨a, h3, rfl⟩ := Option.map_eq_some_iff.mp h2
    obtain ⟨z1, z2⟩ := ty_of (opd_toD ex o1) h3
    exact ⟨x, .ty n, .type a, .type n, isTy a n, rfl, .ty n, z1, kit_one z2 (q2 n (by simp)), by
      have e1 : ([n].any fun b => isTy a b) = isTy a n := by simp
      rw [e1] at q
      exact bl_new ex q⟩
  · rename_i n m r x px v ts k pt pos heq
    cases heq
    obtain ⟨h1, rfl⟩ := guard_eq h
    simp only [Bool.and_eq_true] at h1
    obtain ⟨⟨⟨⟨⟨k1, k2⟩, k3⟩, k4⟩, k5⟩, k6⟩ := h1
    cases of_decide_eq_true k1
    obtain ⟨q1, q2, q3⟩ := tys_pa hs hb (n :: m :: r) ts k5
    have kv : isStar v = false := by simpa [nostar] using k4
    have hlen := of_decide_eq_true k6
    refine ⟨fun pins s σ H Q I hw => (pe_callB call_isiT (gl_of hs k2) (bn_of hb k3) boot_isi (pa_cons (peW X v) (pa_cons (pe_tup q1) pa_nil) (star_cons kv)) (by decide) (by decide) (star_cons kv) rfl).run pins s σ H Q I (wE1 hw fun x H1 ⟨Hs, ts, w, ex, o, hev, q⟩ => ?_)⟩
    obtain ⟨s1, o1, h2⟩ := ev1 one_isi hev o
    obtain ⟨a, h3, rfl⟩ := Option.map_eq_some_iff.mp h2
    refine tTys_read _ σ H1 _ ⟨Nat.le_of_lt (small1000 (by rw [List.length_map, q3]; exact hlen)), fun p hp => ?_⟩
    obtain ⟨z1, z2⟩ := ty_of ((opd_toD ex o1).mono (Ex.new (o := .tup ((n :: m :: r).map V.ty)) hp)) h3
    exact ⟨x, p, _, .type a, _, _, rfl, upd_same, paired_ty _, z1, kit_any z2 _ q2, q _ _ _ _ (New.up ex hp (.bl _))⟩
theorem boot_bi : ([Bi.len, .abs, .any, .all, .sum, .sorted, .max2, .min2, .max1, .min1, .repr].all fun b => decide (bootBuiltins b.nm = some (.builtin b.id)) && !(b.nm == ("__name__" : Str)) && !(b.nm == ("__debug__" : Str))) = true := by decide +kernel
theorem boot_bt : ([Bi.int, .bool, .tuple, .list].all fun b => decide (bootBuiltins b.nm = some (.type b.id)) && !(b.nm == ("__name__" : Str)) && !(b.nm == ("__debug__" : Str))) = true := by decide +kernel
theorem sh_bi {b : Bi} (gd : X.A.guards = some []) (hu : X.A.units + 66 < cLine) (hs : X.env.scope = sc) (hb : ∀ x ∈ T.bn, X.mg x = none) (hc : X.calm = true) (h : opShape T.bn sc (.bi b) e = some es) : PE X e (tRC X T (.bi b) es) := by
  unfold opShape at h
  split at h <;> first | contradiction | skip
  rename_i b' x px args pos heq
  cases heq
  obtain ⟨h1, rfl⟩ := guard_eq h
  simp only [Bool.and_eq_true] at h1
  obtain ⟨⟨⟨⟨k1, k2⟩, k3⟩, k4⟩, k5⟩ := h1
  cases of_decide_eq_true k1
  cases args with
  | nil => simp at k5
  | cons a as =>
    have ka : isStar a = false ∧ nostar as = true := by simpa [nostar] using k4
    have mk : ∀ {f : Bi}, f.nm = b.nm → bootBuiltins f.nm = some (.builtin f.id) → f.nm ≠ "__name__" → (f.nm == ("__debug__" : Str)) = false → CallR X (.builtin f.id) (rCS X.K T (biEv b)) → PE X (.Call (.Name b.nm px) (a :: as) [] pos) (tRC X T (.bi b) (a :: as)) := fun {f} e1 e2 e3 e4 rl => by
      rw [e1] at e2 e3 e4
      exact ⟨fun pins s σ H Q I hw => (pe_callB rl (gl_of hs k2) (bn_of hb k3) e2 (paW X (a :: as) k4) e3 e4 (star_cons ka.1) (star_any ka.2)).run pins s σ H Q I hw⟩
    have mt : ∀ {f : Bi}, f.nm = b.nm → bootBuiltins f.nm = some (.type f.id) → f.nm ≠ "__name__" → (f.nm == ("__debug__" : Str)) = false → CallR X (.type f.id) (rCS X.K T (biEv b)) → PE X (.Call (.Name b.nm px) (a :: as) [] pos) (tRC X T (.bi b) (a :: as)) := fun {f} e1 e2 e3 e4 rl => by
      rw [e1] at e2 e3 e4
      exact ⟨fun pins s σ H Q I hw => (pe_callTy rl (gl_of hs k2) (bn_of hb k3) e2 (paW X (a :: as) k4) e3 e4 (star_cons ka.1) (star_any ka.2)).run pins s σ H Q I hw⟩
    have bb : ∀ f ∈ [Bi.len, .abs, .any, .all, .sum, .sorted, .max2, .min2, .max1, .min1, .repr], bootBuiltins f.nm = some (.builtin f.id) ∧ f.nm ≠ "__name__" ∧ (f.nm == ("__debug__" : Str)) = false := fun f hf => by
      have h := boot_bi
      rw [List.all_eq_true] at h
      have h := h f hf
      simp only [Bool.and_eq_true, Bool.not_eq_true', decide_eq_true_eq] at h
      exact ⟨h.1.1, fun e => by rw [e] at h; exact absurd h.1.2 (by decide), h.2⟩
    have bt : ∀ f ∈ [Bi.int, .bool, .tuple, .list], bootBuiltins f.nm = some (.type f.id) ∧ f.nm ≠ "__name__" ∧ (f.nm == ("__debug__" : Str)) = false := fun f hf => by
      have h := boot_bt
      rw [List.all_eq_true] at h
      have h := h f hf
      simp only [Bool.and_eq_true, Bool.not_eq_true', decide_eq_true_eq] at h
      exact ⟨h.1.1, fun e => by rw [e] at h; exact absurd h.1.2 (by decide), h.2⟩
    cases b
    · obtain ⟨z1, z2, z3⟩ := bb .len (by simp); exact mk rfl z1 z2 z3 bi_len
    · obtain ⟨z1, z2, z3⟩ := bb .abs (by simp); exact mk rfl z1 z2 z3 bi_abs
    · obtain ⟨z1, z2, z3⟩ := bt .int (by simp); exact mt rfl z1 z2 z3 bi_int
    · obtain ⟨z1, z2, z3⟩ := bt .bool (by simp); exact mt rfl z1 z2 z3 bi_bool
    · obtain ⟨z1, z2, z3⟩ := bt .tuple (by simp); exact mt rfl z1 z2 z3 bi_tuple
    · obtain ⟨z1, z2, z3⟩ := bt .list (by simp); exact mt rfl z1 z2 z3 (bi_list hc)
    · obtain ⟨z1, z2, z3⟩ := bb .any (by simp); exact mk rfl z1 z2 z3 (bi_any hc)
    · obtain ⟨z1, z2, z3⟩ := bb .all (by simp); exact mk rfl z1 z2 z3 (bi_all hc)
    · obtain ⟨z1, z2, z3⟩ := bb .sum (by simp); exact mk rfl z1 z2 z3 (bi_sum hc)
    · obtain ⟨z1, z2, z3⟩ := bb .sorted (by simp); exact mk rfl z1 z2 z3 (bi_sorted hu)
    · obtain ⟨z1, z2, z3⟩ := bb .max2 (by simp); exact mk rfl z1 z2 z3 (bi_max2 hc)
    · obtain ⟨z1, z2, z3⟩ := bb .min2 (by simp); exact mk rfl z1 z2 z3 (bi_min2 hc)
    · obtain ⟨z1, z2, z3⟩ := bb .max1 (by simp); exact mk rfl z1 z2 z3 (bi_max1 hc)
    · obtain ⟨z1, z2, z3⟩ := bb .min1 (by simp); exact mk rfl z1 z2 z3 (bi_min1 hc)
    · obtain ⟨z1, z2, z3⟩ := bb .repr (by simp); exact mk rfl z1 z2 z3 (bi_repr gd hu)
theorem rps_rg {K : PySem.W.Frag} {H : Hp} (a b : Int) : Rps K T H ((List.range (b - a).toNat).map fun i => D.int (a + (i : Nat))) (rgV a b) := by
  unfold rgV
  generalize List.range (b - a).toNat = l
  induction l with
  | nil => exact .nil
  | cons n l ih => exact .cons (.int _) ih
theorem rng_of {H Hs : Hp} {Q : VK} {tu : Bool} {i j : Int} {w : OT} (ex : Ex Hs H) (hev : rngEv tu i j = some w) (q : ∀ z H' Hs' ft, New X.K T Hs H w z H' Hs' ft → Q z H') :
    RgOk i j ∧ ∀ p, H p = none → if tu = true then Q (.ref p) (upd H p (.tup (rgV i j))) else Q (.ref p) (upd H p (.lst (rgV i j))) := by
  unfold rngEv at hev
  obtain ⟨h1, rfl⟩ := guard_eq hev
  obtain ⟨a, b, c, d, e⟩ := of_decide_eq_true h1
  refine ⟨⟨a, b, c, d, by unfold big at e; omega⟩, fun p hp => ?_⟩
  cases tu with
  | true => exact q _ _ _ _ (New.tup ex hp (rps_rg i j))
  | false => exact q _ _ _ _ (New.newL ex hp (rps_rg i j))
theorem rng1_ev {n : Nat} {tu : Bool} {ts : List OT} {w : OT} {x : V} {Hs H : Hp} (hev : (Op.rng n tu).ev ts = some w) (o : Opds X.K T Hs H ts [x]) : ∃ j, x = .int j ∧ rngEv tu 0 j = some w := by
  cases o with
  | cons o r =>
    cases r
    rename_i t
    unfold Op.ev at hev
    split at hev <;> first | contradiction | skip
    · rename_i e1 e2
      cases e1; cases e2
      exact ⟨_, opd_int o, hev⟩
    · rename_i e1 e2
      cases e2
theorem rng2_ev {n : Nat} {tu : Bool} {ts : List OT} {w : OT} {x y : V} {Hs H : Hp} (hev : (Op.rng n tu).ev ts = some w) (o : Opds X.K T Hs H ts [x, y]) : ∃ i j, x = .int i ∧ y = .int j ∧ rngEv tu i j = some w := by
  cases o with
  | cons o r =>
    cases r with
    | cons o2 r =>
      cases r
      unfold Op.ev at hev
      split at hev <;> first | contradiction | skip
      · rename_i e1 e2
        cases e2
      · rename_i e1 e2
        cases e1; cases e2
        exact ⟨_, _, opd_int o, opd_int o2, hev⟩
theorem sh_rng {n : Nat} {tu : Bool} (hs : X.env.scope = sc) (hb : ∀ x ∈ T.bn, X.mg x = none) (hc : X.calm = true) (h : opShape T.bn sc (.rng n tu) e = some es) : PE X e (tRC X T (.rng n tu) es) := by
  unfold opShape at h
  split at h <;> first | contradiction | skip
  · rename_i x px y py a q1 q2 heq
    cases heq
    obtain ⟨h1, rfl⟩ := guard_eq h
    simp only [Bool.and_eq_true] at h1
    obtain ⟨⟨⟨⟨⟨⟨k1, k2⟩, k3⟩, k4⟩, k5⟩, k6⟩, k7⟩ := h1
    cases of_decide_eq_true k1
    cases of_decide_eq_true k4
    have ka : isStar a = false := by simpa [nostar] using k7
    refine ⟨fun pins s σ H Q I hw => (pe_listRg hc (gl_of hs k2) (bn_of hb k3) (prg_1 (gl_of hs k5) (bn_of hb k6) (peW X a) (star_cons ka)) rfl).run pins s σ H Q I (wE1 hw fun x H1 ⟨Hs, ts, w, ex, o, hev, q⟩ => ?_)⟩
    obtain ⟨j, rfl, hev⟩ := rng1_ev hev o
    obtain ⟨r1, r2⟩ := rng_of ex hev q
    exact ⟨j, rfl, r1, fun p hp => by simpa using r2 p hp⟩
  · rename_i x px y py a b q1 q2 heq
    cases heq
    obtain ⟨h1, rfl⟩ := guard_eq h
    simp only [Bool.and_eq_true] at h1
    obtain ⟨⟨⟨⟨⟨⟨k1, k2⟩, k3⟩, k4⟩, k5⟩, k6⟩, k7⟩ := h1
    cases of_decide_eq_true k1
    cases of_decide_eq_true k4
    have ka : isStar a = false ∧ isStar b = false := by simpa [nostar] using k7
    refine ⟨fun pins s σ H Q I hw => (pe_listRg hc (gl_of hs k2) (bn_of hb k3) (prg_2 (gl_of hs k5) (bn_of hb k6) (peW X a) (peW X b) (star_cons ka.1) (star_cons ka.2) (star_any (es := [b]) (by simp [ka.2]))) rfl).run pins s σ H Q I (wE2 hw fun x y H1 ⟨Hs, ts, w, ex, o, hev, q⟩ => ?_)⟩
    obtain ⟨i, j, rfl, rfl, hev⟩ := rng2_ev hev o
    obtain ⟨r1, r2⟩ := rng_of ex hev q
    exact ⟨i, j, rfl, rfl, r1, fun p hp => by simpa using r2 p hp⟩
  · rename_i x px y py a q1 q2 heq
    cases heq
    obtain ⟨h1, rfl⟩ := guard_eq h
    simp only [Bool.and_eq_true] at h1
    obtain ⟨⟨⟨⟨⟨⟨k1, k2⟩, k3⟩, k4⟩, k5⟩, k6⟩, k7⟩ := h1
    cases of_decide_eq_true k1
    cases of_decide_eq_true k4
    have ka : isStar a = false := by simpa [nostar] using k7
    refine ⟨fun pins s σ H Q I hw => (pe_tupRg hc (gl_of hs k2) (bn_of hb k3) (prg_1 (gl_of hs k5) (bn_of hb k6) (peW X a) (star_cons ka)) rfl).run pins s σ H Q I (wE1 hw fun x H1 ⟨Hs, ts, w, ex, o, hev, q⟩ => ?_)⟩
    obtain ⟨j, rfl, hev⟩ := rng1_ev hev o
    obtain ⟨r1, r2⟩ := rng_of ex hev q
    exact ⟨j, rfl, r1, fun p hp => by simpa using r2 p hp⟩
  · rename_i x px y py a b q1 q2 heq
    cases heq
    obtain ⟨h1, rfl⟩ := guard_eq h
    simp only [Bool.and_eq_true] at h1
    obtain ⟨⟨⟨⟨⟨⟨k1, k2⟩, k3⟩, k4⟩, k5⟩, k6⟩, k7⟩ := h1
    cases of_decide_eq_true k1
    cases of_decide_eq_true k4
    have ka : isStar a = false ∧ isStar b = false := by simpa [nostar] using k7
    refine ⟨fun pins s σ H Q I hw => (pe_tupRg hc (gl_of hs k2) (bn_of hb k3) (prg_2 (gl_of hs k5) (bn_of hb k6) (peW X a) (peW X b) (star_cons ka.1) (star_cons ka.2) (star_any (es := [b]) (by simp [ka.2]))) rfl).run pins s σ H Q I (wE2 hw fun x y H1 ⟨Hs, ts, w, ex, o, hev, q⟩ => ?_)⟩
    obtain ⟨i, j, rfl, rfl, hev⟩ := rng2_ev hev o
    obtain ⟨r1, r2⟩ := rng_of ex hev q
    exact ⟨i, j, rfl, rfl, r1, fun p hp => by simpa using r2 p hp⟩
theorem sh_meth {m : String} (h : opShape T.bn sc (.meth m) e = some es) : PE X e (tRC X T (.meth m) es) := by
  unfold opShape at h
  split at h <;> first | contradiction | skip
  rename_i m' o nm apos cpos heq
  cases heq
  obtain ⟨h1, rfl⟩ := guard_eq h
  simp only [Bool.and_eq_true] at h1
  obtain ⟨⟨⟨k1, k2⟩, k3⟩, k4⟩ := h1
  cases of_decide_eq_true k1
  cases of_decide_eq_true k2
  refine ⟨fun pins s σ H Q I hw => (pe_bm0 PySem.F.plainAttrs_str PySem.F.slot_str_upper PySem.F.type_str_upper mt_upper (peW X o) (base_of k3) k4).run pins s σ H Q I (wE1 hw fun x H1 ⟨Hs, ts, w, ex, o, hev, q⟩ => ?_)⟩
  obtain ⟨s1, o1, h2⟩ := ev1 (one_ev (o := .meth "upper") (f := methEv "upper") (fun _ => rfl) rfl (fun _ _ _ => rfl)) hev o
  unfold methEv at h2
  split at h2
  · obtain ⟨hz, rfl⟩ := guard_eq h2
    rw [Bool.and_eq_true] at hz
    cases opd_str o1
    exact ⟨rfl, _, rfl, rfl, of_decide_eq_true hz.2, q _ _ _ _ (New.val ex (.str _))⟩
  · cases h2
theorem sh_kin {x : Str} {ng : Bool} {kvs : List (Str × Int)} (hs : X.env.scope = sc) (hk : DctOk X x kvs) (h : opShape T.bn sc (.kin x ng kvs) e = some es) : PE X e (tRC X T (.kin x ng kvs) es) := by
  unfold opShape at h
  split at h <;> first | contradiction | skip
  rename_i x' ng' kv' l o y py pos heq
  cases heq
  obtain ⟨h1, rfl⟩ := guard_eq h
  simp only [Bool.and_eq_true, Bool.not_eq_true'] at h1
  obtain ⟨⟨⟨k1, k2⟩, k3⟩, k4⟩ := h1
  cases of_decide_eq_true k1
  obtain ⟨d, des, n, m1, m2, m3, m4⟩ := hk
  have pn : PE X (.Name x py) (tC (.ref d)) := pe_glob (gl_of hs k2) m1 rfl k3
  have nb : behindInMarks o (.Name x py) = false := rfl
  have key : ∀ {z : Str}, ∃ r, PySem.W.nsIn X.K d z = some r ∧ r.isSome = (kvs.lookup z).isSome := fun {z} => by
    cases hz : kvs.lookup z with
    | none => exact ⟨_, m4 z hz, rfl⟩
    | some n => obtain ⟨t, ht⟩ := m3 z n hz; exact ⟨_, ht, rfl⟩
  cases ng with
  | false =>
    cases of_decide_eq_true k4
    refine ⟨fun pins s σ H Q I hw => (pe_cmpR (op_in_kd m2) (peW X l) pn nb).run pins s σ H Q I (wE1 hw fun x H1 ⟨Hs, ts, w, ex, o, hev, q⟩ => ?_)⟩
    obtain ⟨s1, o1, h2⟩ := ev1 (one_ev (f := kinEv false kvs) (fun _ => rfl) rfl (fun _ _ _ => rfl)) hev o
    unfold kinEv at h2
    split at h2
    · cases Option.some.inj h2
      cases opd_str o1
      obtain ⟨r, r1, r2⟩ := key (z := _)
      refine ⟨_, r, rfl, rfl, r1, ?_⟩
      rw [r2]
      have := q _ _ _ _ (New.val ex (.bl _))
      simpa using this
    · cases h2
  | true =>
    cases of_decide_eq_true k4
    refine ⟨fun pins s σ H Q I hw => (pe_cmpR (op_notIn_kd m2) (peW X l) pn nb).run pins s σ H Q I (wE1 hw fun x H1 ⟨Hs, ts, w, ex, o, hev, q⟩ => ?_)⟩
    obtain ⟨s1, o1, h2⟩ := ev1 (one_ev (f := kinEv true kvs) (fun _ => rfl) rfl (fun _ _ _ => rfl)) hev o
    unfold kinEv at h2
    split at h2
    · cases Option.some.inj h2
      cases opd_str o1
      obtain ⟨r, r1, r2⟩ := key (z := _)
      refine ⟨_, r, rfl, rfl, r1, ?_⟩
      rw [r2]
      have := q _ _ _ _ (New.val ex (.bl _))
      simpa using this
    · cases h2
theorem sh_kinT {x : Str} {ng : Bool} {kvs : List (Str × Int)} (hs : X.env.scope = sc) (hk : DctOk X x kvs) (h : opShape T.bn sc (.kin x ng kvs) e = some es) : PT X e (fun σ H Q => tRC X T (.kin x ng kvs) es σ H fun z H' => ∃ k, z = .bl k ∧ Q k H') := by
  unfold opShape at h
  split at h <;> first | contradiction | skip
  rename_i x' ng' kv' l o y py pos heq
  cases heq
  obtain ⟨h1, rfl⟩ := guard_eq h
  simp only [Bool.and_eq_true, Bool.not_eq_true'] at h1
  obtain ⟨⟨⟨k1, k2⟩, k3⟩, k4⟩ := h1
  cases of_decide_eq_true k1
  obtain ⟨d, des, n, m1, m2, m3, m4⟩ := hk
  have pn : PE X (.Name x py) (tC (.ref d)) := pe_glob (gl_of hs k2) m1 rfl k3
  have nb : behindInMarks o (.Name x py) = false := rfl
  have key : ∀ {z : Str}, ∃ r, PySem.W.nsIn X.K d z = some r ∧ r.isSome = (kvs.lookup z).isSome := fun {z} => by
    cases hz : kvs.lookup z with
    | none => exact ⟨_, m4 z hz, rfl⟩
    | some n => obtain ⟨t, ht⟩ := m3 z n hz; exact ⟨_, ht, rfl⟩
  cases ng with
  | false =>
    cases of_decide_eq_true k4
    refine ⟨fun pins s σ H Q I hw => (pt_cmpR (op_in_kd m2) (peW X l) pn nb).run pins s σ H Q I (wE1 hw fun x H1 ⟨Hs, ts, w, ex, o, hev, q⟩ => ?_)⟩
    obtain ⟨s1, o1, h2⟩ := ev1 (one_ev (f := kinEv false kvs) (fun _ => rfl) rfl (fun _ _ _ => rfl)) hev o
    unfold kinEv at h2
    split at h2
    · cases Option.some.inj h2
      cases opd_str o1
      obtain ⟨r, r1, r2⟩ := key (z := _)
      refine ⟨_, r, rfl, rfl, r1, ?_⟩
      rw [r2]
      have := q _ _ _ _ (New.val ex (.bl _))
      simpa using this
    · cases h2
  | true =>
    cases of_decide_eq_true k4
    refine ⟨fun pins s σ H Q I hw => (pt_cmpR (op_notIn_kd m2) (peW X l) pn nb).run pins s σ H Q I (wE1 hw fun x H1 ⟨Hs, ts, w, ex, o, hev, q⟩ => ?_)⟩
    obtain ⟨s1, o1, h2⟩ := ev1 (one_ev (f := kinEv true kvs) (fun _ => rfl) rfl (fun _ _ _ => rfl)) hev o
    unfold kinEv at h2
    split at h2
    · cases Option.some.inj h2
      cases opd_str o1
      obtain ⟨r, r1, r2⟩ := key (z := _)
      refine ⟨_, r, rfl, rfl, r1, ?_⟩
      rw [r2]
      have := q _ _ _ _ (New.val ex (.bl _))
      simpa using this
    · cases h2
theorem sh_kget {x : Str} {kvs : List (Str × Int)} (hs : X.env.scope = sc) (hk : DctOk X x kvs) (h : opShape T.bn sc (.kget x kvs) e = some es) : PE X e (tRC X T (.kget x kvs) es) := by
  unfold opShape at h
  split at h <;> first | contradiction | skip
  rename_i x' kv' y py b pos heq
  cases heq
  obtain ⟨h1, rfl⟩ := guard_eq h
  simp only [Bool.and_eq_true, Bool.not_eq_true'] at h1
  obtain ⟨⟨⟨k1, k2⟩, k3⟩, k4⟩ := h1
  cases of_decide_eq_true k1
  obtain ⟨d, des, n, m1, m2, m3, m4⟩ := hk
  have pn : PE X (.Name x py) (tC (.ref d)) := pe_glob (gl_of hs k2) m1 rfl k3
  refine ⟨fun pins s σ H Q I hw => (pe_ix ix_kdict pn (peW X b) (plainIx_of k4)).run pins s σ H Q I (wE1 hw fun x H1 ⟨Hs, ts, w, ex, o, hev, q⟩ => ?_)⟩
  obtain ⟨s1, o1, h2⟩ := ev1 (one_ev (f := kgetEv kvs) (fun _ => rfl) rfl (fun _ _ _ => rfl)) hev o
  unfold kgetEv at h2
  split at h2
  · obtain ⟨n', e1, rfl⟩ := Option.map_eq_some_iff.mp h2
    cases opd_str o1
    obtain ⟨t, ht⟩ := m3 _ _ e1
    exact ⟨d, _, .int n', rfl, rfl, ⟨_, _, _, m2.at_, m2.lit, ht, ⟨t, rfl⟩⟩, q _ _ _ _ (New.val ex (.int _))⟩
  · cases h2
theorem sh_rev (h : opShape T.bn sc .rev e = some es) : PE X e (tRC X T .rev es) := by
  unfold opShape at h
  split at h <;> first | contradiction | skip
  rename_i o k p1 p2 p3 pos heq
  cases Option.some.inj h
  refine ⟨fun pins s σ H Q I hw => (pe_revL (peW X o)).run pins s σ H Q I (wE1 hw fun x H1 ⟨Hs, ts, w, ex, o, hev, q⟩ => ?_)⟩
  obtain ⟨s1, o1, h2⟩ := ev1 (one_ev (o := .rev) (f := revEv) (fun _ => rfl) rfl (fun _ _ _ => rfl)) hev o
  obtain ⟨ds, hl, rfl⟩ := Option.map_eq_some_iff.mp h2
  obtain ⟨a, vs, rfl, h3, h4⟩ := opd_litems ex o1 hl
  exact ⟨a, vs, rfl, sq_of h3, fun p hp => q _ _ _ _ (New.newL ex hp h4.reverse)⟩
/-- every operation -/
theorem sh_all {o : Op} (hk : OpK X o) (hs : X.env.scope = sc) (hb : ∀ x ∈ T.bn, X.mg x = none) (hc : X.calm = true) (gd : X.A.guards = some []) (hu : X.A.units + 66 < cLine) (h : opShape T.bn sc o e = some es) : PE X e (tRC X T o es) := by
  cases o with
  | bin b => exact sh_bin h
  | neg => exact sh_neg h
  | cmp c => exact sh_cmp hu h
  | idx => exact sh_idx h
  | fld f => exact sh_fld h
  | bi b => exact sh_bi gd hu hs hb hc h
  | isi tys => exact sh_isi hs hb h
  | rng n k => exact sh_rng hs hb hc h
  | meth m => exact sh_meth h
  | kin x ng kvs => exact sh_kin hs hk h
  | kget x kvs => exact sh_kget hs hk h
  | rev => exact sh_rev h
theorem se_op {W : WX} {ρ : Env} {o : Op} {r : R (List OT × Env)} (hk : OpK X o) (hs : X.env.scope = sc) (hb : ∀ x ∈ T.bn, X.mg x = none) (hc : X.calm = true) (gd : X.A.guards = some []) (hu : X.A.units + 66 < cLine) (h : opShape T.bn sc o e = some es) (ho : SOs X T W es ρ r) :
    SE X T W e ρ (r.bind fun p => match o.ev p.1 with
      | some t => .ok (t, p.2)
      | none => .no) := by
  intro L σ H Hs fp Q h0 k
  rw [cont_bind] at k
  refine wE_of (sh_all hk hs hb hc gd hu h) (ho L σ H Hs fp _ h0 (k.imp (fun p k vs H' Hs' fp' p1 o1 => ?_) fun _ _ x => x))
  cases hev : o.ev p.1 with
  | none => rw [hev] at k; exact k.elim
  | some t =>
    rw [hev] at k
    exact ⟨Hs', p.1, t, p1.st.ex, o1, hev, fun z H2 Hs2 ft n => k z H2 Hs2 fp' ft (p1.post (New.post p1.st n))⟩
end
end CH
end
section
namespace CH
open PySem L2 Evl PyProof.Rows

def gIs : List Nat → TGs
  | [] => gNil
  | i :: is => gCons (gName i) (gIs is)
def gT (K : PySem.W.Frag) : Tg → TG
  | .one i => gName i
  | .tup is => gTup K is.length (gIs is)
def tgNm (N : List Str) (sc : Scope) (fn : Str → Bool) (i : Nat) : Expr → Bool
  | .Name x _ => decide (N[i]? = some x) && locB sc x && (fn x || decide (sc.names.lookup x = some .local))
  | _ => false
def tgNms (N : List Str) (sc : Scope) (fn : Str → Bool) : List Nat → List Expr → Bool
  | [], [] => true
  | i :: is, e :: es => tgNm N sc fn i e && tgNms N sc fn is es
  | _, _ => false
def tgB (N : List Str) (sc : Scope) (fn : Str → Bool) : Tg → Expr → Bool
  | .one i, e => tgNm N sc fn i e
  | .tup is, .Tuple es _ _ => tgNms N sc fn is es
  | .tup _, _ => false
section
variable {X : Cx} {T : Tab} {sc : Scope}
theorem nm_pg {fn : Str → Bool} {i : Nat} {e : Expr} (nd : X.N.Nodup) (hs : X.env.scope = sc) (hf : X.fn = fn) (h : tgNm X.N sc fn i e = true) : PG X e (gName i) ∧ isStar e = false := by
  cases e with
  | Name x pos =>
    simp only [tgNm, Bool.and_eq_true, decide_eq_true_eq, Bool.or_eq_true] at h
    obtain ⟨⟨h1, h2⟩, h3⟩ := h
    refine ⟨pg_name nd h1 (loc_of hs h2) ?_, rfl⟩
    rcases h3 with h3 | h3
    · exact .inl (by rw [hf]; exact h3)
    · exact .inr (by rw [hs]; exact h3)
  | _ => cases h
theorem asg_cons {e : Expr} {es : List Expr} {env : PySem.Env} (h : isStar e = false) : assignEach (e :: es) env = (false, assign e env) :: assignEach es env := by
  cases e <;> first | rfl | cases h
theorem nms_pg {fn : Str → Bool} (nd : X.N.Nodup) (hs : X.env.scope = sc) (hf : X.fn = fn) : ∀ {is : List Nat} {es : List Expr}, tgNms X.N sc fn is es = true → PGs X es (gIs is) ∧ (assignEach es X.env).length = is.length ∧ (assignEach es X.env).findIdx? (·.1) = none
  | [], [], _ => ⟨pgs_nil, rfl, rfl⟩
  | i :: is, e :: es, h => by
    simp only [tgNms, Bool.and_eq_true] at h
    obtain ⟨h1, h2⟩ := nm_pg nd hs hf h.1
    obtain ⟨k1, k2, k3⟩ := nms_pg nd hs hf h.2
    have e1 := asg_cons (es := es) (env := X.env) h2
    refine ⟨pgs_cons h1 k1 (by rw [e1]; rfl), by rw [e1, List.length_cons, k2, List.length_cons], ?_⟩
    rw [e1, List.findIdx?_cons, k3]; rfl
  | [], _ :: _, h => by simp [tgNms] at h
  | _ :: _, [], h => by simp [tgNms] at h
theorem tg_pg {fn : Str → Bool} {tg : Tg} {e : Expr} (nd : X.N.Nodup) (hs : X.env.scope = sc) (hf : X.fn = fn) (hc : X.calm = true) (h : tgB X.N sc fn tg e = true) : PG X e (gT X.K tg) := by
  cases tg with
  | one i => exact (nm_pg nd hs hf h).1
  | tup is =>
    cases e with
    | Tuple es k pos =>
      obtain ⟨k1, k2, k3⟩ := nms_pg nd hs hf (show tgNms X.N sc fn is es = true from h)
      exact pg_tup hc k1 k2 k3
    | _ => cases h
end
section
variable {K : PySem.W.Frag} {T : Tab} {L : List Addr} {σ : L2.St} {Hs H : Hp} {fp : List Addr} {ρ ρ' : Env}
/-- a value stored at a slot -/
theorem StOk.store {i : Nat} {t : OT} {v : V} {f : List Addr} (h : StOk K T L Hs H ρ σ fp) (hi : i < ρ.length) (r : RpO K T Hs H t v f) (d : ∀ a ∈ f, a ∉ fp) (nd : f.Nodup) (nf : ∀ a ∈ f, Hs a = none) (lf : ∀ a ∈ L, a ∉ f) :
    ∃ fp', StOk K T L Hs H (ρ.set i (.ow t)) (σ.set i (some v)) fp' ∧ ∀ a ∈ fp', a ∈ f ∨ a ∈ fp := by
  obtain ⟨fr, r1, sub⟩ := h.rs.forget i none
  obtain ⟨fp', r2, pm⟩ := r1.put (i := i) (by simpa using hi) (by rw [List.getElem?_set_self hi]) r
  rw [List.set_set, List.set_set] at r2
  have mem : ∀ a ∈ fp', a ∈ f ∨ a ∈ fp := fun a ha => (List.mem_append.mp (pm.mem_iff.mp ha)).imp id fun z => sub.subset z
  exact ⟨fp', ⟨h.ex, r2, pm.nodup_iff.mpr (List.nodup_append.mpr ⟨nd, h.nd.sublist sub, fun a ha b hb e => d a ha (e ▸ sub.subset hb)⟩), fun a ha => (mem a ha).elim (nf a) (h.nf a), fun a ha hf => (mem a hf).elim (lf a ha) (h.lf a ha), h.lt⟩, mem⟩
theorem StOk.clear {i : Nat} (h : StOk K T L Hs H ρ σ fp) (x : Option V) : ∃ fp', StOk K T L Hs H (ρ.set i .no) (σ.set i x) fp' ∧ ∀ a ∈ fp', a ∈ fp := by
  obtain ⟨fr, r1, sub⟩ := h.rs.forget i x
  exact ⟨fr, ⟨h.ex, r1, h.nd.sublist sub, fun a ha => h.nf a (sub.subset ha), fun a ha hf => h.lf a ha (sub.subset hf), h.lt⟩, fun a ha => sub.subset ha⟩
theorem set1_ok {pl : List Nat} {i : Nat} {d : D} {x : V} (h : StOk K T L Hs H ρ σ fp) (r : Rp K T Hs d x) (hs : set1 pl i d ρ = some ρ') :
    ∃ fp', StOk K T L Hs H ρ' (σ.set i (some x)) fp' ∧ (∀ a ∈ fp', a ∈ fp) ∧ lks ρ' = lks ρ ∧ (∀ (t : OT), ρ[i]? ≠ some (.lk t)) ∧ i ∉ pl := by
  unfold set1 at hs
  split at hs
  · cases hs
  · rename_i s hn e
    split at hs
    · cases hs
    · rename_i hp
      cases Option.some.inj hs
      have hi := (List.getElem?_eq_some_iff.mp e).1
      obtain ⟨fp', k1, k2⟩ := h.store hi (.sh r) (fun a ha => absurd ha (by simp)) .nil (fun a ha => absurd ha (by simp)) (fun a _ ha => absurd ha (by simp))
      refine ⟨fp', k1, fun a ha => (k2 a ha).elim (fun z => absurd z (by simp)) id, lks_set e ?_, fun t q => ?_, by simpa using hp⟩
      · cases s with
        | lk t => exact (hn t rfl).elim
        | _ => rfl
      · rw [e] at q; cases q; exact hn t rfl
  · cases hs
theorem setgo_ok {pl : List Nat} : ∀ {is : List Nat} {ds : List D} {ρ ρ' : Env} {σ : L2.St} {fp : List Addr} {xs : List V}, StOk K T L Hs H ρ σ fp → Rps K T Hs ds xs → is.length = ds.length → setGo pl is ds ρ = some ρ' →
    ∃ σ' fp', StOk K T L Hs H ρ' σ' fp' ∧ (∀ a ∈ fp', a ∈ fp) ∧ lks ρ' = lks ρ ∧ (∀ j, j ∉ is → σ'[j]? = σ[j]?) ∧ (∀ j ∈ is, j ∉ pl ∧ ∀ (t : OT), ρ[j]? ≠ some (.lk t)) ∧ ∀ Q, Q σ' H → gIs is xs σ H Q
  | [], ds, ρ, ρ', σ, fp, xs, h, r, hl, hs => by
    have hd : ds = [] := List.length_eq_zero_iff.mp hl.symm
    subst hd
    cases r
    cases Option.some.inj (show some ρ = some ρ' from hs)
    exact ⟨σ, fp, h, fun a ha => ha, rfl, fun _ _ => rfl, fun j hj => absurd hj (by simp), fun Q q => ⟨rfl, q⟩⟩
  | i :: is, [], ρ, ρ', σ, fp, xs, h, r, hl, hs => by simp at hl
  | i :: is, d :: ds, ρ, ρ', σ, fp, _, h, .cons (v := x) (vs := xs) r rs, hl, hs => by
    obtain ⟨ρ1, h1, h2⟩ := Option.bind_eq_some_iff.mp (show ((set1 pl i d ρ).bind fun ρ' => setGo pl is ds ρ') = some ρ' from hs)
    obtain ⟨fp1, k1, k2, k3, k4, k5⟩ := set1_ok h r h1
    obtain ⟨σ', fp', m1, m2, m3, m4, m5, m6⟩ := setgo_ok (is := is) k1 rs (by simpa using hl) h2
    refine ⟨σ', fp', m1, fun a ha => k2 a (m2 a ha), m3.trans k3, fun j hj => ?_, fun j hj => ?_, fun Q q => ⟨x, xs, rfl, m6 Q q⟩⟩
    · rw [m4 j fun z => hj (by simp [z]), List.getElem?_set_ne fun z => hj (by simp [z])]
    · rcases List.mem_cons.mp hj with rfl | hj
      · exact ⟨k5, k4⟩
      · refine ⟨(m5 j hj).1, fun t q => ?_⟩
        have e1 : (lks ρ1)[j]? = (lks ρ)[j]? := by rw [k3]
        rw [lks_get, lks_get, q] at e1
        cases z : ρ1[j]? with
        | none => rw [z] at e1; simp at e1
        | some s =>
          rw [z] at e1
          cases s with
          | lk u => exact (m5 j hj).2 u z
          | _ => simp [lkOf] at e1
theorem setTg_ok {pl : List Nat} {tg : Tg} {d : D} {x : V} (h : StOk K T L Hs H ρ σ fp) (r : Rp K T Hs d x) (hs : setTg pl tg d ρ = some ρ') :
    ∃ σ' fp', StOk K T L Hs H ρ' σ' fp' ∧ (∀ a ∈ fp', a ∈ fp) ∧ lks ρ' = lks ρ ∧ (∀ j, j ∉ tg.slots → σ'[j]? = σ[j]?) ∧ (∀ j ∈ tg.slots, j ∉ pl ∧ ∀ (t : OT), ρ[j]? ≠ some (.lk t)) ∧ ∀ Q, Q σ' H → gT K tg x σ H Q := by
  cases tg with
  | one i =>
    obtain ⟨fp1, k1, k2, k3, k4, k5⟩ := set1_ok h r hs
    refine ⟨_, fp1, k1, k2, k3, fun j hj => List.getElem?_set_ne fun z => hj (by simp [Tg.slots, z]), fun j hj => ?_, fun Q q => q⟩
    have : j = i := by simpa [Tg.slots] using hj
    subst this
    exact ⟨k5, k4⟩
  | tup is =>
    obtain ⟨ds, h1, h2⟩ := Option.bind_eq_some_iff.mp (show (d.tupI.bind fun ds => if is.length = ds.length then setGo pl is ds ρ else none) = some ρ' from hs)
    split at h2
    · rename_i hl
      cases r with
      | tup hq rs =>
        cases Option.some.inj h1
        obtain ⟨σ', fp', m1, m2, m3, m4, m5, m6⟩ := setgo_ok h rs hl h2
        exact ⟨σ', fp', m1, m2, m3, m4, m5, fun Q q => ⟨_, _, rfl, ex_t h.ex hq, by rw [← rs.length, hl], m6 Q q⟩⟩
      | _ => cases h1
    · cases h2
/-- a comprehension's own slots are cleared -/
theorem wipe_ok : ∀ {vs : List Nat} {ρ : Env} {σ : L2.St} {fp : List Addr}, StOk K T L Hs H ρ σ fp → ∃ fp', StOk K T L Hs H (wipeE ρ vs) (wipe σ vs) fp' ∧ ∀ a ∈ fp', a ∈ fp
  | [], ρ, σ, fp, h => ⟨fp, h, fun _ ha => ha⟩
  | v :: vs, ρ, σ, fp, h => by
    obtain ⟨fp1, k1, k2⟩ := wipe_ok (vs := vs) h
    obtain ⟨fp2, k3, k4⟩ := k1.clear (i := v) none
    exact ⟨fp2, k3, fun a ha => k2 a (k4 a ha)⟩
theorem wipe_eq {σ σ' : L2.St} : ∀ {vs : List Nat}, σ.length = σ'.length → (∀ j, j ∉ vs → σ'[j]? = σ[j]?) → wipe σ' vs = wipe σ vs := by
  intro vs hl h
  apply List.ext_getElem?
  intro j
  by_cases hj : j ∈ vs
  · have g : ∀ (τ : L2.St) (vs : List Nat), j ∈ vs → j < τ.length → (wipe τ vs)[j]? = some none := by
      intro τ vs
      induction vs with
      | nil => intro h; exact absurd h (by simp)
      | cons v vs ih =>
        intro hm hlt
        unfold wipe
        by_cases e : v = j
        · subst e; rw [List.getElem?_set_self (by rw [wipe_length]; exact hlt)]
        · rw [List.getElem?_set_ne e]
          rcases List.mem_cons.mp hm with z | z
          · exact absurd z.symm e
          · exact ih z hlt
    by_cases hlt : j < σ.length
    · rw [g σ vs hj hlt, g σ' vs hj (by omega)]
    · rw [List.getElem?_eq_none (by rw [wipe_length]; omega), List.getElem?_eq_none (by rw [wipe_length]; omega)]
  · have g : ∀ (τ : L2.St) (vs : List Nat), j ∉ vs → (wipe τ vs)[j]? = τ[j]? := by
      intro τ vs
      induction vs with
      | nil => intro _; rfl
      | cons v vs ih =>
        intro hm
        unfold wipe
        rw [List.getElem?_set_ne fun z => hm (by simp [z])]
        exact ih fun z => hm (by simp [z])
    rw [g σ' vs hj, g σ vs hj, h j hj]
theorem wipe_out2 {σ : L2.St} {j : Nat} : ∀ {vs : List Nat}, j ∉ vs → (wipe σ vs)[j]? = σ[j]?
  | [], _ => rfl
  | v :: vs, hm => by
    unfold wipe
    rw [List.getElem?_set_ne fun z => hm (by simp [z])]
    exact wipe_out2 fun z => hm (by simp [z])
theorem lks_wipe : ∀ {vs : List Nat} {ρ : Env}, (∀ v ∈ vs, ∀ (t : OT), ρ[v]? ≠ some (.lk t)) → lks (wipeE ρ vs) = lks ρ
  | [], ρ, _ => rfl
  | v :: vs, ρ, h => by
    unfold wipeE
    have ih := lks_wipe (vs := vs) (ρ := ρ) fun w hw => h w (by simp [hw])
    rw [← ih]
    by_cases hv : v < (wipeE ρ vs).length
    · refine lks_set (x := (wipeE ρ vs)[v]) (List.getElem?_eq_getElem hv) ?_
      have e : (lks (wipeE ρ vs))[v]? = (lks ρ)[v]? := by rw [ih]
      rw [lks_get, lks_get, List.getElem?_eq_getElem hv] at e
      cases z : (wipeE ρ vs)[v] with
      | lk t =>
        rw [z] at e
        cases y : ρ[v]? with
        | none => rw [y] at e; simp at e
        | some s =>
          rw [y] at e
          cases s with
          | lk u => exact absurd y (h v (by simp) u)
          | _ => simp [lkOf] at e
      | _ => rfl
    · rw [List.set_eq_of_length_le (by omega)]
/-- what the own slots held ahead of the block is there again behind it -/
theorem patch_rs {Hs0 H0 : Hp} : ∀ {m : Nat → Bool} {ρ0 ρ : Env} {σ τ : L2.St} {fp0 fp : List Addr}, RpS K T Hs0 H0 L ρ0 σ fp0 → RpS K T Hs H L ρ τ fp → Ex Hs0 Hs → (∀ j, m j = true → ∀ s, ρ0[j]? = some s → quietSl s = true) → (∀ j, m j = true → ∀ s, ρ[j]? = some s → s = .no) →
    (∀ j, m j = false → τ[j]? = σ[j]?) → ρ.length = ρ0.length → RpS K T Hs H L (patch m ρ0 ρ) σ fp
  | m, _, _, _, _, _, _, .nil, .nil, _, _, _, _, _ => .nil
  | m, s0 :: ρ0, s :: ρ, x :: σ, y :: τ, _, _, r0, r, ex, hq, hn, hv, hl => by
    have tl : ∀ {σ0 : L2.St} {f0 f : List Addr}, RpS K T Hs0 H0 L ρ0 σ f0 → RpS K T Hs H L ρ τ f → RpS K T Hs H L (patch (fun j => m (j + 1)) ρ0 ρ) σ f := fun a b =>
      patch_rs a b ex (fun j h s e => hq (j + 1) h s (by simpa using e)) (fun j h s e => hn (j + 1) h s (by simpa using e)) (fun j h => by simpa using hv (j + 1) h) (by simpa using hl)
    unfold patch
    cases hm : m 0 with
    | true =>
      have e1 := hn 0 hm s (by simp)
      have e2 := hq 0 hm s0 (by simp)
      subst e1
      rw [if_pos rfl]
      cases r with
      | no r =>
        cases r0 with
        | no r0 => exact .no (tl (σ0 := σ) r0 r)
        | ow h0 r0 =>
          cases h0 with
          | sh h0 => exact RpS.ow (f := []) (.sh (h0.mono ex)) (tl (σ0 := σ) r0 r)
          | lst => cases e2
          | obj => cases e2
        | lk => cases e2
    | false =>
      have e1 : y = x := by simpa using hv 0 hm
      subst e1
      rw [if_neg (by simp)]
      have t0 : ∃ f0, RpS K T Hs0 H0 L ρ0 σ f0 := by
        cases r0 with
        | no r0 => exact ⟨_, r0⟩
        | ow h0 r0 => exact ⟨_, r0⟩
        | lk h0 l0 r0 => exact ⟨_, r0⟩
      obtain ⟨f0, t0⟩ := t0
      cases r with
      | no r => exact .no (tl (σ0 := σ) t0 r)
      | ow h r => exact .ow h (tl (σ0 := σ) t0 r)
      | lk h l r => exact .lk h l (tl (σ0 := σ) t0 r)
  | _, [], _ :: _, _, _, _, _, _, _, _, _, _, _, hl => by simp at hl
  | _, _ :: _, [], _, _, _, _, _, _, _, _, _, _, hl => by simp at hl
theorem lks_patch : ∀ {m : Nat → Bool} {ρ0 ρ : Env}, lks ρ = lks ρ0 → lks (patch m ρ0 ρ) = lks ρ0
  | m, [], [], _ => rfl
  | m, a :: as, b :: bs, h => by
    have h' : lkOf b = lkOf a ∧ lks bs = lks as := by simpa [lks] using h
    unfold patch
    show lkOf (if m 0 = true then a else b) :: lks (patch _ as bs) = lkOf a :: lks as
    rw [lks_patch h'.2]
    cases m 0 <;> simp [h'.1]
  | m, [], b :: bs, h => by simp [lks] at h
  | m, a :: as, [], h => by simp [lks] at h
theorem wipeE_get {ρ : Env} {j : Nat} : ∀ {vs : List Nat}, j ∈ vs → ∀ s, (wipeE ρ vs)[j]? = some s → s = .no
  | v :: vs, hj, s, e => by
    unfold wipeE at e
    by_cases hv : v = j
    · subst hv
      obtain ⟨hi, e2⟩ := List.getElem?_eq_some_iff.mp e
      rw [List.getElem_set_self] at e2
      exact e2.symm
    · rw [List.getElem?_set_ne hv] at e
      rcases List.mem_cons.mp hj with z | z
      · exact absurd z.symm hv
      · exact wipeE_get z s e
theorem wipeE_len {ρ : Env} : ∀ {vs : List Nat}, (wipeE ρ vs).length = ρ.length
  | [] => rfl
  | v :: vs => by unfold wipeE; rw [List.length_set, wipeE_len]
/-- a tracked object that no name owns is changed -/
theorem StOk.upd {D : Addr} {o : HO} (h : StOk K T L Hs H ρ σ fp) (n : D ∉ fp) (nl : D ∉ L) (ns : Hs D = none) : StOk K T L Hs (upd H D o) ρ σ fp :=
  ⟨h.ex.mut ns, h.rs.step (Ex.refl _) (fun _ q => q) fun a ha u q => by
    rw [upd_ne (fun z => by subst z; exact ha.elim n nl)]; exact q, h.nd, h.nf, h.lf, fun a ha => ⟨by
    obtain ⟨u, q⟩ := (h.lt a ha).1
    exact ⟨u, by rw [upd_ne (fun z => by subst z; exact nl ha)]; exact q⟩, (h.lt a ha).2⟩⟩
end

/-- J gives the items ds, while P holds -/
structure Walk (K : PySem.W.Frag) (T : Tab) (J : It) (ds : List D) (P : Hp → Hp → List Addr → Prop) : Prop where
  keep : ∀ {H Hs fp H' Hs' fp'}, P H Hs fp → Stp fp H Hs fp' H' Hs' → P H' Hs' fp'
  go : ∀ {i d H Hs fp}, P H Hs fp → Ex Hs H → ds[i]? = some d → J.go i H ∧ ∀ x H', J.yld i H x H' → ∃ Hs', New K T Hs H (.sh d) x H' Hs' []
  stop : ∀ {H Hs fp}, P H Hs fp → Ex Hs H → J.stop ds.length H
/-- the state in which a walk is done, and the way back from it -/
structure Opn (K : PySem.W.Frag) (T : Tab) (L : List Addr) (σ : L2.St) (Hs H : Hp) (fp : List Addr) (ρ : Env) (bk : Env → Env) (L' : List Addr) (ρ' : Env) (H' Hs' : Hp) (fp' : List Addr) : Prop where
  st : StOk K T L' Hs' H' ρ' σ fp'
  back : ∀ {ρ2 : Env} {σ2 : L2.St} {H2 Hs2 : Hp} {fp2 : List Addr} (F : List Addr), (∀ x ∈ F, x ∉ L') → StOk K T L' Hs2 H2 ρ2 σ2 fp2 → Stp (F ++ fp') H' Hs' fp2 H2 Hs2 → lks ρ2 = lks ρ' → (∀ (j : Nat) (u : OT), ρ'[j]? = some (.lk u) → σ2[j]? = σ[j]?) → ∃ fp3, StOk K T L Hs2 H2 (bk ρ2) σ2 fp3 ∧ Stp (F ++ fp) H Hs fp3 H2 Hs2 ∧ lks (bk ρ2) = lks ρ ∧ ∀ x ∈ fp3, x ∈ fp2 ∨ ((∃ o, H' x = some o) ∧ x ∉ fp' ∧ x ∈ L')
  nw : ∀ x, x ∈ fp' ∨ H' x = none → x ∈ fp ∨ H x = none
  nl : ∀ x ∈ L, x ∈ L'
  lw : ∀ x ∈ L', x ∈ L ∨ x ∈ fp
  lkp : ∀ (j : Nat) (u : OT), ρ[j]? = some (.lk u) → ρ'[j]? = some (.lk u)
  len : ρ'.length = ρ.length
/-- an iterable -/
def SI (X : Cx) (T : Tab) (W : WX) (wi : TI) (ρ : Env) (bk : Env → Env) (r : R (List D × Env)) : Prop := ∀ (L : List Addr) (σ : L2.St) (H Hs : Hp) (fp F : List Addr) (R : It → Hp → Prop), StOk X.K T L Hs H ρ σ fp → (∀ a ∈ F, (∃ o, H a = some o) ∧ a ∉ fp ∧ a ∉ L) →
  Cont r (fun p => ∀ J P L' H' Hs' fp', Walk X.K T J p.1 P → P H' Hs' (F ++ fp') → Opn X.K T L σ Hs H fp ρ bk L' p.2 H' Hs' fp' → R J H') (XOk X.K T L σ Hs H fp ρ W) → wi σ H R
section
variable {K : PySem.W.Frag} {T : Tab} {L : List Addr} {σ : L2.St} {Hs H H' Hs' : Hp} {fp fp' : List Addr} {ρ ρ' : Env}
theorem Stp.back (s : Stp fp H Hs fp' H' Hs') (x : Addr) (h : x ∈ fp' ∨ H' x = none) : x ∈ fp ∨ H x = none := by
  rcases h with h | h
  · exact s.nw x h
  · by_cases q : x ∈ fp
    · exact .inl q
    · cases e : H x with
      | none => exact .inr rfl
      | some o => rw [s.fr x o e q] at h; cases h
theorem lks_lk {ρ ρ' : Env} (h : lks ρ' = lks ρ) {j : Nat} {u : OT} (e : ρ[j]? = some (.lk u)) : ρ'[j]? = some (.lk u) := by
  have e1 : (lks ρ')[j]? = (lks ρ)[j]? := by rw [h]
  rw [lks_get, lks_get, e] at e1
  cases z : ρ'[j]? with
  | none => rw [z] at e1; simp at e1
  | some s =>
    rw [z] at e1
    cases s with
    | lk t => simp [lkOf] at e1; rw [e1]
    | _ => simp [lkOf] at e1
theorem lks_len {ρ ρ' : Env} (h : lks ρ' = lks ρ) : ρ'.length = ρ.length := by have := congrArg List.length h; simpa [lks] using this
theorem Pst.opn (p : Pst K T L σ Hs H fp ρ ρ' H' Hs' fp') : Opn K T L σ Hs H fp ρ id L ρ' H' Hs' fp' := ⟨p.st, fun {ρ2 σ2 H2 Hs2 fp2} F _ st sp lk _ => ⟨fp2, st, (p.sp.wider (fp2 := F ++ fp) (fun x hx => by simp [hx]) F fun x hx => by simp [hx]).trans sp, lk.trans p.lk, fun _ h => .inl h⟩, p.sp.back, fun _ h => h, fun _ h => .inl h, fun j u => lks_lk p.lk, lks_len p.lk⟩
/-- where items lie -/
def SrcP (K : PySem.W.Frag) (T : Tab) (t : OT) (a : Addr) (H Hs : Hp) (fp : List Addr) : Prop := ∃ f, RpO K T Hs H t (.ref a) f ∧ ∀ b ∈ f, b ∉ fp
theorem SrcP.keep {t : OT} {a : Addr} (h : SrcP K T t a H Hs fp) (s : Stp fp H Hs fp' H' Hs') : SrcP K T t a H' Hs' fp' := by
  obtain ⟨f, r, d⟩ := h
  exact ⟨f, r.keep d s, fun b hb => s.out (r.tracked b hb) (d b hb)⟩
def OT.isTup : OT → Bool
  | .sh (.tup _) => true
  | _ => false
theorem items_tup {t : OT} {ds : List D} {a : Addr} {f : List Addr} (e : Ex Hs H) (h : RpO K T Hs H t (.ref a) f) (hl : t.items = some ds) : (t.isTup = true → ∃ vs, SqT K H a vs ∧ Rps K T Hs ds vs) ∧ (t.isTup = false → ∃ vs, SqL K H a vs ∧ Rps K T Hs ds vs) := by
  cases h with
  | sh h =>
    cases h with
    | lst h r => cases Option.some.inj hl; exact ⟨fun z => (by cases z), fun _ => ⟨_, sq_of (e _ _ h), r⟩⟩
    | flst h r => cases Option.some.inj hl; exact ⟨fun z => (by cases z), fun _ => ⟨_, ex_l e h, r⟩⟩
    | tup h r => cases Option.some.inj hl; exact ⟨fun _ => ⟨_, ex_t e h, r⟩, fun z => (by cases z)⟩
    | _ => simp [OT.items] at hl
  | lst h r =>
    obtain ⟨r1, rfl⟩ := r.leaves (show leaves _ = some ds from hl)
    exact ⟨fun z => (by cases z), fun _ => ⟨_, sq_of h, r1⟩⟩
  | obj h c r => simp [OT.items] at hl
theorem walk_list {t : OT} {ds : List D} {a : Addr} (hl : t.items = some ds) (hk : t.isTup = false) : Walk K T (Itl K a) ds (SrcP K T t a) where
  keep := fun h s => h.keep s
  go := by
    intro i d H Hs fp ⟨f, r, _⟩ e hd
    obtain ⟨vs, q1, q2⟩ := (items_tup e r hl).2 hk
    obtain ⟨v, h1, h2⟩ := q2.get hd
    refine ⟨⟨vs, v, q1, h1⟩, fun x H' y => ?_⟩
    obtain ⟨rfl, y⟩ := y
    have := y vs q1
    rw [h1] at this
    cases this
    exact ⟨Hs, New.val e h2⟩
  stop := by
    intro H Hs fp ⟨f, r, _⟩ e
    obtain ⟨vs, q1, q2⟩ := (items_tup e r hl).2 hk
    exact ⟨vs, q1, by rw [q2.length]; exact Nat.le_refl _⟩
theorem walk_tup {t : OT} {ds : List D} {a : Addr} (hl : t.items = some ds) (hk : t.isTup = true) : Walk K T (Itt K a) ds (SrcP K T t a) where
  keep := fun h s => h.keep s
  go := by
    intro i d H Hs fp ⟨f, r, _⟩ e hd
    obtain ⟨vs, q1, q2⟩ := (items_tup e r hl).1 hk
    obtain ⟨v, h1, h2⟩ := q2.get hd
    refine ⟨⟨vs, v, q1, h1⟩, fun x H' y => ?_⟩
    obtain ⟨rfl, y⟩ := y
    have := y vs q1
    rw [h1] at this
    cases this
    exact ⟨Hs, New.val e h2⟩
  stop := by
    intro H Hs fp ⟨f, r, _⟩ e
    obtain ⟨vs, q1, q2⟩ := (items_tup e r hl).1 hk
    exact ⟨vs, q1, by rw [q2.length]; exact Nat.le_refl _⟩
theorem walk_rng {lo : Int} {n : Nat} : Walk K T (Itr lo n) ((List.range n).map fun i => .int (lo + (i : Nat))) (fun _ _ _ => True) where
  keep := fun _ _ => trivial
  go := by
    intro i d H Hs fp _ e hd
    obtain ⟨j, h1, rfl⟩ := by rw [List.getElem?_map] at hd; exact Option.map_eq_some_iff.mp hd
    obtain ⟨h3, h2⟩ := List.getElem?_eq_some_iff.mp h1
    rw [List.getElem_range] at h2
    subst h2
    rw [List.length_range] at h3
    clear h1
    have h1 := h3
    refine ⟨h1, fun x H' y => ?_⟩
    obtain ⟨rfl, rfl⟩ := y
    exact ⟨Hs, New.val e (.int _)⟩
  stop := by
    intro H Hs fp _ e
    show n ≤ _
    simp
end
section
variable {X : Cx} {T : Tab} {W : WX} {sc : Scope} {tg e : Expr}
/-- a list or a tuple -/
def iSeq (X : Cx) (e : Expr) : TI := fun σ H R => wE X e σ H fun x H1 => ∃ a, x = .ref a ∧ ((∃ xs, SqL X.K H1 a xs) ∧ R (Itl X.K a) H1 ∨ (∃ xs, SqT X.K H1 a xs) ∧ R (Itt X.K a) H1)
theorem pi_seq : PI X tg e (iSeq X e) := by
  refine ⟨fun pins s σ H R I h => ?_⟩
  refine thn (h pins s I) fun v s1 ⟨x, H1, I1, r1, q1⟩ => ?_
  obtain ⟨a, ex, q⟩ := q1
  subst ex
  cases r1
  rcases q with ⟨⟨xs, hq⟩, q⟩ | ⟨⟨xs, hq⟩, q⟩
  · obtain ⟨its, rv, p, hz⟩ := I1.list hq
    refine wpAny_pyIter_list p.isList ?_
    refine ⟨s1.heap.objs.size, [s1.heap.objs.size], _, _, H1, rfl, I1.kept (t' := s1.toks) fun b o e => Heap.get?_push_of_some _ e, turn_list a _, ⟨_, Heap.get?_push_size _ rfl, rfl, rfl⟩, fun b hb => ?_, q⟩
    have e : b = s1.heap.objs.size := by simpa using hb
    subst e
    exact I1.fpOk (Nat.le_refl _) (I1.hok.fresh (Nat.le_refl _))
  · obtain ⟨its, rv, p, hz⟩ := I1.tuple hq
    refine wpAny_pyIter_tuple (show s1.heap.IsTuple a its.toArray from p) ?_
    refine ⟨s1.heap.objs.size, [s1.heap.objs.size], _, _, H1, rfl, I1.kept (t' := s1.toks) fun b o e => Heap.get?_push_of_some _ e, turn_tuple a _, ⟨_, Heap.get?_push_size _ rfl, rfl, rfl⟩, fun b hb => ?_, q⟩
    have e : b = s1.heap.objs.size := by simpa using hb
    subst e
    exact I1.fpOk (Nat.le_refl _) (I1.hok.fresh (Nat.le_refl _))
theorem src_walk {J : It → Hp → Prop} {t : OT} {ds : List D} {x : V} {f : List Addr} {H Hs : Hp} {fp : List Addr} (ex : Ex Hs H) (r : RpO X.K T Hs H t x f) (d : ∀ a ∈ f, a ∉ fp) (hl : t.items = some ds) (k : ∀ J' P, Walk X.K T J' ds P → P H Hs fp → J J' H) :
    ∃ a, x = .ref a ∧ ((∃ xs, SqL X.K H a xs) ∧ J (Itl X.K a) H ∨ (∃ xs, SqT X.K H a xs) ∧ J (Itt X.K a) H) := by
  obtain ⟨a, vs, rfl, _⟩ := opd_items ex ⟨f, r⟩ hl
  refine ⟨a, rfl, ?_⟩
  cases hk : t.isTup with
  | false =>
    obtain ⟨vs, q1, q2⟩ := (items_tup ex r hl).2 hk
    exact .inl ⟨⟨vs, q1⟩, k _ _ (walk_list hl hk) ⟨f, r, d⟩⟩
  | true =>
    obtain ⟨vs, q1, q2⟩ := (items_tup ex r hl).1 hk
    exact .inr ⟨⟨vs, q1⟩, k _ _ (walk_tup hl hk) ⟨f, r, d⟩⟩
theorem si_e {ρ : Env} {r : R (OT × Env)} (he : SE X T W e ρ r) : SI X T W (iSeq X e) ρ id (r.bind fun p => match p.1.items with
    | some ds => .ok (ds, p.2)
    | none => .no) := by
  intro L σ H Hs fp F R h hF k
  rw [cont_bind] at k
  refine he L σ H Hs fp _ h (k.imp (fun p k v H1 Hs1 fp1 ft p1 => ?_) fun _ _ x => x)
  cases hl : p.1.items with
  | none => rw [hl] at k; exact k.elim
  | some ds =>
    rw [hl] at k
    have d := List.nodup_append.mp p1.nd
    exact src_walk (J := R) (fp := F ++ fp1) p1.st.ex p1.rp (fun a ha hf => by
      rcases List.mem_append.mp hf with hf | hf
      · rcases p1.sp.nw a (by simp [ha]) with z | z
        · exact (hF a hf).2.1 z
        · obtain ⟨o, q⟩ := (hF a hf).1; rw [q] at z; cases z
      · exact d.2.2 a ha a hf rfl) hl fun J P w hp => k J P L H1 Hs1 fp1 w hp p1.pst.opn
theorem si_bor {ρ : Env} {i : Nat} {p : List Str} (hs : X.env.scope = sc) (hp : pathB X.N sc i p e = true) : SI X T W (iSeq X e) ρ (fun ρ2 => unlock ρ ρ2 i) (match ((ρ.tree i).bind fun r => r.getP p).bind OT.items with
    | some ds => .ok (ds, lock ρ i)
    | none => .no) := by
  intro L σ H Hs fp F R h hF k
  cases hq : ((Env.tree ρ i).bind fun r => r.getP p).bind OT.items with
  | none => rw [hq] at k; exact k.elim
  | some ds =>
    rw [hq] at k
    obtain ⟨t, ht, hl⟩ := Option.bind_eq_some_iff.mp hq
    obtain ⟨r, h1, h2⟩ := Option.bind_eq_some_iff.mp ht
    unfold Env.tree at h1
    split at h1
    · rename_i r' e0
      cases Option.some.inj h1
      obtain ⟨x, f, fr, l1, l2, l3, l4⟩ := h.locked e0
      obtain ⟨v, g, r1, r2, _, r3⟩ := path_read hs h.ex l1 l2 hp h2
      have eL : lock ρ i = ρ.set i (.lk r) := by unfold lock; rw [e0]
      have hi := (List.getElem?_eq_some_iff.mp e0).1
      refine r3 _ (src_walk (J := R) (fp := F ++ fr) h.ex r1 (fun a ha hf => by
        rcases List.mem_append.mp hf with hf | hf
        · exact (hF a hf).2.1 (l3.mem_iff.mpr (by simp [r2 a ha]))
        · exact l4.lf a (by simp [r2 a ha]) hf) hl fun J P w hp => k J P (f ++ L) H Hs fr w hp ?_)
      show Opn X.K T L σ Hs H fp ρ (fun ρ2 => unlock ρ ρ2 i) (f ++ L) (lock ρ i) H Hs fr
      rw [eL]
      refine ⟨l4, fun {ρ2 σ2 H2 Hs2 fp2} F hF st sp lk hv => ?_, fun x hx => hx.imp (fun z => l3.mem_iff.mpr (by simp [z])) id, fun x hx => by simp [hx], fun x hx => (List.mem_append.mp hx).symm.imp id fun z => l3.mem_iff.mpr (by simp [z]), fun j u q => by rw [List.getElem?_set_ne fun z => by subst z; rw [e0] at q; cases q]; exact q, by simp⟩
      have eU : unlock ρ ρ2 i = ρ2.set i (.ow r) := by unfold unlock; rw [e0]
      rw [eU]
      obtain ⟨fp3, u1, u2, u3, u4⟩ := Pst.unlocked (F := F) h e0 l1 l2 l3 l4 st sp hF lk (fun j u q => by
        refine hv j u ?_
        rw [List.getElem?_set_ne fun z => by subst z; rw [e0] at q; cases q]
        exact q) (hv i r (by rw [List.getElem?_set_self hi]))
      have nd := List.nodup_append.mp (l3.nodup_iff.mp h.nd)
      exact ⟨fp3, u1, u2, u3, fun x hx => (u4 x hx).symm.imp id fun z => ⟨l2.tracked x z, fun w => nd.2.2 x z x w rfl, by simp [z]⟩⟩
    · rename_i r' e0
      cases Option.some.inj h1
      have eL : lock ρ i = ρ := by unfold lock; rw [e0]
      obtain ⟨x, f, l1, l2, l3⟩ := h.rs.readLk e0
      obtain ⟨v, g, r1, r2, _, r3⟩ := path_read hs h.ex l1 l2 hp h2
      refine r3 _ (src_walk (J := R) (fp := F ++ fp) h.ex r1 (fun a ha hf => by
        rcases List.mem_append.mp hf with hf | hf
        · exact (hF a hf).2.2 (l3 a (r2 a ha))
        · exact h.lf a (l3 a (r2 a ha)) hf) hl fun J P w hp => k J P L H Hs fp w hp ?_)
      show Opn X.K T L σ Hs H fp ρ (fun ρ2 => unlock ρ ρ2 i) L (lock ρ i) H Hs fp
      rw [eL]
      have eU : ∀ ρ2, unlock ρ ρ2 i = ρ2 := fun ρ2 => by unfold unlock; rw [e0]
      exact ⟨h, fun {ρ2 σ2 H2 Hs2 fp2} F hF st sp lk hv => ⟨fp2, by rw [eU]; exact st, sp, by rw [eU]; exact lk, fun _ h => .inl h⟩, fun x hx => hx, fun _ h => h, fun _ h => .inl h, fun _ _ q => q, rfl⟩
    · cases h1
end
end CH
end
section
namespace CH
open PySem L2 Evl PyProof.Rows

theorem Stp.updD {F : List Addr} {H Hs : Hp} {D : Addr} {o : HO} (hD : D ∈ F) : Stp F H Hs F (upd H D o) Hs := ⟨Ex.refl _, fun a u q n => by rw [upd_ne (fun z => by subst z; exact n hD)]; exact q, fun _ h => .inl h, fun _ _ q => .inl q⟩
/-- what is gathered at D beside a state; from H1, Hs1, fp1 -/
structure Acc (K : PySem.W.Frag) (T : Tab) (P : Hp → Hp → List Addr → Prop) (L : List Addr) (H1 Hs1 : Hp) (fp1 : List Addr) (D : Addr) (σ : L2.St) (ρ : Env) (H Hs : Hp) (fp : List Addr) (acc : List OT) (vs : List V) (ft : List Addr) : Prop where
  st : StOk K T L Hs H ρ σ fp
  hp : P H Hs (D :: (ft ++ fp))
  hD : H D = some (.lst vs)
  ra : RpOs K T Hs H acc vs ft
  nd : (D :: (ft ++ fp)).Nodup
  nf : ∀ a ∈ D :: ft, Hs a = none
  nl : ∀ a ∈ L, a ∉ D :: ft
  sp : Stp fp1 H1 Hs1 (D :: (ft ++ fp)) H Hs
section
variable {K : PySem.W.Frag} {T : Tab} {P : Hp → Hp → List Addr → Prop} {L : List Addr} {H1 Hs1 : Hp} {fp1 : List Addr} {D : Addr} {σ σ' : L2.St} {ρ ρ' : Env} {H Hs H' Hs' : Hp} {fp fp' : List Addr} {acc : List OT} {vs : List V} {ft : List Addr}
theorem Acc.held (a : Acc K T P L H1 Hs1 fp1 D σ ρ H Hs fp acc vs ft) : ∀ b ∈ D :: ft, (∃ o, H b = some o) ∧ b ∉ fp := fun b hb => by
  have d := List.nodup_append.mp (show ((D :: ft) ++ fp).Nodup from a.nd)
  refine ⟨?_, fun hf => d.2.2 b hb b hf rfl⟩
  rcases List.mem_cons.mp hb with rfl | hb
  · exact ⟨_, a.hD⟩
  · exact a.ra.tracked b hb
theorem Acc.next (keep : ∀ {H Hs fp H' Hs' fp'}, P H Hs fp → Stp fp H Hs fp' H' Hs' → P H' Hs' fp') (a : Acc K T P L H1 Hs1 fp1 D σ ρ H Hs fp acc vs ft) (st : StOk K T L Hs' H' ρ' σ' fp') (s : Stp fp H Hs fp' H' Hs') : Acc K T P L H1 Hs1 fp1 D σ' ρ' H' Hs' fp' acc vs ft := by
  have hh := a.held
  have w : Stp (D :: (ft ++ fp)) H Hs (D :: (ft ++ fp')) H' Hs' := s.wider (fp2 := D :: (ft ++ fp)) (fun x hx => by simp [hx]) (D :: ft) (fun x hx => by
    rcases List.mem_cons.mp hx with rfl | hx
    · simp
    · simp [hx])
  have d := List.nodup_append.mp (show ((D :: ft) ++ fp).Nodup from a.nd)
  refine ⟨st, keep a.hp w, s.fr D _ a.hD (hh D (by simp)).2, a.ra.keep (fun b hb => (hh b (by simp [hb])).2) s, ?_, fun b hb => s.outHs (hh b hb).1 (hh b hb).2 (a.nf b hb), a.nl, a.sp.trans w⟩
  show ((D :: ft) ++ fp').Nodup
  exact List.nodup_append.mpr ⟨d.1, st.nd, fun b hb c hc e => s.out (hh b hb).1 (hh b hb).2 (e ▸ hc)⟩
theorem Acc.push {t : OT} {y : V} {gt : List Addr} {H2 Hs2 : Hp} {fp2 : List Addr} {ρ2 : Env} (keep : ∀ {H Hs fp H' Hs' fp'}, P H Hs fp → Stp fp H Hs fp' H' Hs' → P H' Hs' fp') (a : Acc K T P L H1 Hs1 fp1 D σ ρ H Hs fp acc vs ft) (p : Post K T L σ Hs H fp ρ t ρ2 y H2 Hs2 fp2 gt) :
    Acc K T P L H1 Hs1 fp1 D σ ρ2 (upd H2 D (.lst (vs ++ [y]))) Hs2 fp2 (acc ++ [t]) (vs ++ [y]) (ft ++ gt) ∧ H2 D = some (.lst vs) := by
  have b := Acc.next (P := P) keep a p.st p.pst.sp
  have hh := a.held
  have hb := b.held
  have pd := List.nodup_append.mp p.nd
  have gn : ∀ x ∈ gt, x ∉ D :: ft := fun x hx hf => by
    rcases p.sp.nw x (by simp [hx]) with z | z
    · exact (hh x hf).2 z
    · obtain ⟨o, q⟩ := (hh x hf).1; rw [q] at z; cases z
  have gD : ∀ x ∈ gt, x ≠ D := fun x hx e => gn x hx (by simp [e])
  have dn := List.nodup_append.mp (show ((D :: ft) ++ fp2).Nodup from b.nd)
  have fD : D ∉ fp2 := (hb D (by simp)).2
  have nd2 : (D :: ((ft ++ gt) ++ fp2)).Nodup := by
    have e : (D :: ((ft ++ gt) ++ fp2)) = (D :: ft) ++ (gt ++ fp2) := by simp
    rw [e]
    exact List.nodup_append.mpr ⟨dn.1, p.nd, fun x hx y hy q => by
      subst q
      rcases List.mem_append.mp hy with hy | hy
      · exact gn x hy hx
      · exact (hb x hx).2 hy⟩
  have w : Stp (D :: (ft ++ fp)) H Hs (D :: (ft ++ gt ++ fp2)) H2 Hs2 := by
    have w0 := p.sp.wider (fp2 := D :: (ft ++ fp)) (fun x hx => by simp [hx]) (D :: ft) (fun x hx => by
      rcases List.mem_cons.mp hx with rfl | hx
      · simp
      · simp [hx])
    refine w0.sub fun x hx => ?_
    simp only [List.mem_cons, List.mem_append] at hx ⊢
    rcases hx with hx | (hx | hx) | hx
    · exact .inl (.inl hx)
    · exact .inl (.inr hx)
    · exact .inr (.inl hx)
    · exact .inr (.inr hx)
  have w2 := w.trans (Stp.updD (D := D) (o := .lst (vs ++ [y])) (F := D :: (ft ++ gt ++ fp2)) (by simp))
  refine ⟨⟨p.st.upd fD (fun h => b.nl D h (by simp)) (b.nf D (by simp)), keep a.hp w2, upd_same, ?_, nd2, fun x hx => ?_, fun x hx hm => ?_, a.sp.trans w2⟩, b.hD⟩
  · have r1 : RpOs K T Hs2 (upd H2 D (.lst (vs ++ [y]))) acc vs ft := b.ra.step (Ex.refl _) fun x hx o q => by
      rw [upd_ne (fun z => by subst z; exact (List.nodup_cons.mp dn.1).1 hx)]; exact q
    have r2 : RpO K T Hs2 (upd H2 D (.lst (vs ++ [y]))) t y gt := p.rp.step (Ex.refl _) fun x hx o q => by rw [upd_ne (gD x hx)]; exact q
    have r3 : RpOs K T Hs2 (upd H2 D (.lst (vs ++ [y]))) [t] [y] gt := by have := RpOs.cons r2 RpOs.nil; rw [List.append_nil] at this; exact this
    exact r1.append r3
  · rcases List.mem_cons.mp hx with rfl | hx
    · exact b.nf x (by simp)
    · rcases List.mem_append.mp hx with hx | hx
      · exact b.nf x (by simp [hx])
      · exact p.nf x hx
  · rcases List.mem_cons.mp hm with rfl | hm
    · exact b.nl x hx (by simp)
    · rcases List.mem_append.mp hm with hm | hm
      · exact b.nl x hx (by simp [hm])
      · exact p.lf x hx hm
/-- where no names own less than before -/
theorem Acc.less (a : Acc K T P L H1 Hs1 fp1 D σ ρ H Hs fp acc vs ft) (keep : ∀ {H Hs fp H' Hs' fp'}, P H Hs fp → Stp fp H Hs fp' H' Hs' → P H' Hs' fp') (st : StOk K T L Hs H ρ' σ' fp') (s : ∀ x ∈ fp', x ∈ fp) : Acc K T P L H1 Hs1 fp1 D σ' ρ' H Hs fp' acc vs ft :=
  Acc.next (P := P) keep a st ((Stp.refl fp H Hs).sub s)
end

/-- a clause's tests -/
def wTs (X : Cx) : List Expr → TT
  | [] => tYes
  | c :: _ => wT X c
def oneTest : List Expr → Bool
  | [] => true
  | [_] => true
  | _ => false
def STs (X : Cx) (T : Tab) (W : WX) (ifs : List Expr) (ρ : Env) (r : R (Bool × Env)) : Prop := ∀ (L : List Addr) (σ : L2.St) (H Hs : Hp) (fp : List Addr) (Q : Bool → Hp → Prop), StOk X.K T L Hs H ρ σ fp →
  Cont r (fun p => ∀ H' Hs' fp', Pst X.K T L σ Hs H fp ρ p.2 H' Hs' fp' → Q p.1 H') (XOk X.K T L σ Hs H fp ρ W) → wTs X ifs σ H Q
abbrev blkC' (X : Cx) (s : Shared) (H : Hp) (scope : Scope) (C : Addr) (cl : List (Str × Addr)) (fp : List Addr) : Cx := X.blk s H scope (compEnvC scope cl C X.env) fp
def tIfs (X : Cx) (scope : Scope) (ifs : List Expr) : TT := fun σ H Q => ∀ (s : Shared) (H0 : Hp) (C : Addr) (cl : List (Str × Addr)) (fp : List Addr), wTs (blkC' X s H0 scope C cl fp) ifs σ H Q
def tElt (X : Cx) (scope : Scope) (elt : Expr) : TE := fun σ H Q => ∀ (s : Shared) (H0 : Hp) (C : Addr) (cl : List (Str × Addr)) (fp : List Addr), wE (blkC' X s H0 scope C cl fp) elt σ H Q
section
variable {X : Cx} {T : Tab} {scope : Scope}
theorem pts_w {ifs : List Expr} (h1 : oneTest ifs = true) (s : Shared) (H : Hp) (C : Addr) (cl : List (Str × Addr)) (fp : List Addr) : PTs (blkC' X s H scope C cl fp) ifs (tIfs X scope ifs) := by
  match ifs, h1 with
  | [], _ => exact ⟨fun pins s1 σ H1 Q I h => pts_nil.run pins s1 σ H1 Q I (h s H C cl fp)⟩
  | [c], _ => exact ⟨fun pins s1 σ H1 Q I h => (pts_one (ptW _ c)).run pins s1 σ H1 Q I (h s H C cl fp)⟩
theorem pe_elt {elt : Expr} (s : Shared) (H : Hp) (C : Addr) (cl : List (Str × Addr)) (fp : List Addr) : PE (blkC' X s H scope C cl fp) elt (tElt X scope elt) := ⟨fun pins s1 σ H1 Q I h => h s H C cl fp pins s1 I⟩
abbrev W0 : WX := fun _ _ _ _ => False
/-- a comprehension's turns, whatever a turn adds -/
theorem loop_core {K : PySem.W.Frag} {P : Hp → Hp → List Addr → Prop} {J : It} {ds : List D} {tg : Tg} {vs : List Nat} {cond : Env → R (Bool × Env)} {step : List OT → Env → R (List OT × Env)} {pl : List Nat} {L : List Addr} {σ : L2.St} {H0 Hs0 H1 Hs1 : Hp} {fp0 fp1 : List Addr} {D : Addr} {ρ0 ρ1 ρ2 : Env} {acc0 ts : List OT} {ys0 : List V} {ft0 : List Addr}
    {tt : TT} {rd : L2.St → Hp → (Hp → Prop) → Prop} {Fin : Hp → Prop}
    (wk : Walk K T J ds P) (sub : ∀ j ∈ tg.slots, j ∈ vs) (nlk : ∀ v ∈ vs, ∀ (t : OT), ρ1[v]? ≠ some (.lk t))
    (ht : ∀ (σ3 : L2.St) (H Hs : Hp) (fp : List Addr) (ρ3 : Env) (b : Bool) (ρ4 : Env) (Q : Bool → Hp → Prop), StOk K T L Hs H ρ3 σ3 fp → cond ρ3 = .ok (b, ρ4) → (∀ H' Hs' fp', Pst K T L σ3 Hs H fp ρ3 ρ4 H' Hs' fp' → Q b H') → tt σ3 H Q)
    (hst : ∀ (σ3 : L2.St) (H Hs : Hp) (fp : List Addr) (ρ4 ρ5 : Env) (acc acc' : List OT) (ys : List V) (ft : List Addr) (Nx : Hp → Prop), Acc K T P L H1 Hs1 fp1 D σ3 ρ4 H Hs fp acc ys ft → step acc ρ4 = .ok (acc', ρ5) →
      (∀ σ5 H' Hs' fp' ys' ft', wipe σ5 vs = wipe σ3 vs → Acc K T P L H1 Hs1 fp1 D σ5 ρ5 H' Hs' fp' acc' ys' ft' → lks ρ5 = lks ρ4 → Nx H') → rd σ3 H Nx)
    (a0 : Acc K T P L H1 Hs1 fp1 D (wipe σ vs) ρ0 H0 Hs0 fp0 acc0 ys0 ft0) (lk0 : lks ρ0 = lks ρ1) (wn0 : ∀ j ∈ vs, ∀ s, ρ0[j]? = some s → s = .no) (hres : lcG cond step pl tg vs ds acc0 ρ0 = .ok (ts, ρ2))
    (fin : ∀ H' Hs' fp' ys' ft', Acc K T P L H1 Hs1 fp1 D (wipe σ vs) ρ2 H' Hs' fp' ts ys' ft' → lks ρ2 = lks ρ1 → (∀ j ∈ vs, ∀ s, ρ2[j]? = some s → s = .no) → Fin H') :
    ∃ W : Nat → Nat → Hp → Prop, (∃ m, W 0 m H0) ∧ ∀ i m H, W i m H → (J.stop i H ∧ Fin H) ∨ (J.go i H ∧ ∃ Nx : Hp → Prop, (∀ H', Nx H' → ∃ m', m' < m ∧ W (i + 1) m' H') ∧ ∀ x H', J.yld i H x H' → gT K tg x (wipe σ vs) H' fun σ2 H2 => wipe σ2 vs = wipe σ vs ∧ tt σ2 H2 fun b H3 =>
      if b = true then rd σ2 H3 Nx else Nx H3) := by
  have hlen : ρ1.length = σ.length := by rw [← lks_len lk0, a0.st.rs.length, wipe_length]
  refine ⟨fun i m H' => m = ds.length - i ∧ i ≤ ds.length ∧ ∃ Hs' ρi fpi acc ys ft, Acc K T P L H1 Hs1 fp1 D (wipe σ vs) ρi H' Hs' fpi acc ys ft ∧ lks ρi = lks ρ1 ∧ (∀ j ∈ vs, ∀ s, ρi[j]? = some s → s = .no) ∧ lcG cond step pl tg vs (ds.drop i) acc ρi = .ok (ts, ρ2),
    ⟨ds.length, by simp, Nat.zero_le _, Hs0, _, fp0, acc0, ys0, ft0, a0, lk0, wn0, by simpa using hres⟩, ?_⟩
  rintro i m H' ⟨rfl, hi, Hs', ρi, fpi, acc, ys, ft, a, lk, wn, ev⟩
  have ilen : ρi.length = σ.length := by rw [a.st.rs.length, wipe_length]
  by_cases hlt : i < ds.length
  · refine .inr ?_
    have hd : ds[i]? = some ds[i] := List.getElem?_eq_getElem hlt
    obtain ⟨g1, g2⟩ := wk.go a.hp a.st.ex hd
    refine ⟨g1, fun H'' => ∃ Hs' ρi fpi acc ys ft, Acc K T P L H1 Hs1 fp1 D (wipe σ vs) ρi H'' Hs' fpi acc ys ft ∧ lks ρi = lks ρ1 ∧ (∀ j ∈ vs, ∀ s, ρi[j]? = some s → s = .no) ∧ lcG cond step pl tg vs (ds.drop (i + 1)) acc ρi = .ok (ts, ρ2),
      fun H'' hx => ⟨ds.length - (i + 1), by omega, rfl, by omega, hx⟩, fun x H2 hy => ?_⟩
    obtain ⟨Hs2, n⟩ := g2 x H2 hy
    have st2 := a.st.grow n.eH n.eS n.le n.dm
    have a2 : Acc K T P L H1 Hs1 fp1 D (wipe σ vs) ρi H2 Hs2 fpi acc ys ft := Acc.next (P := P) wk.keep a st2 ⟨n.eS, fun b o q _ => n.eH b o q, fun _ hb => .inl hb, fun b o q => (n.dm b o q).imp id .inr⟩
    have rx : Rp K T Hs2 ds[i] x := by have := n.rp; cases this with | sh r => exact r
    rw [show ds.drop i = ds[i] :: ds.drop (i + 1) from List.drop_eq_getElem_cons hlt] at ev
    unfold lcG at ev
    split at ev
    · cases ev
    · rename_i ρ3 hset
      obtain ⟨σ3, fp3, k1, k2, k3, k4, k5, k6⟩ := setTg_ok st2 rx hset
      have a3 : Acc K T P L H1 Hs1 fp1 D σ3 ρ3 H2 Hs2 fp3 acc ys ft := Acc.less (P := P) a2 wk.keep k1 k2
      have l3 : σ3.length = σ.length := by
        have e1 : ρ3.length = ρi.length := lks_len k3
        rw [← k1.rs.length, e1, ilen]
      have eww : wipe (wipe σ vs) vs = wipe σ vs := wipe_eq (by rw [wipe_length]) fun j hj => wipe_out2 hj
      have ew : wipe σ3 vs = wipe σ vs := by
        rw [← eww]
        exact wipe_eq (by rw [wipe_length, l3]) fun j hj => k4 j fun z => hj (sub j z)
      refine k6 _ ⟨ew, ?_⟩
      -- behind a turn: the slots cleared
      have again : ∀ {σ5 : L2.St} {H5 Hs5 : Hp} {ρ5 : Env} {fp5 : List Addr} {acc5 : List OT} {ys5 : List V} {ft5 : List Addr}, wipe σ5 vs = wipe σ3 vs → Acc K T P L H1 Hs1 fp1 D σ5 ρ5 H5 Hs5 fp5 acc5 ys5 ft5 → lks ρ5 = lks ρ3 → lcG cond step pl tg vs (ds.drop (i + 1)) acc5 (wipeE ρ5 vs) = .ok (ts, ρ2) →
          ∃ Hs' ρi fpi acc ys ft, Acc K T P L H1 Hs1 fp1 D (wipe σ vs) ρi H5 Hs' fpi acc ys ft ∧ lks ρi = lks ρ1 ∧ (∀ j ∈ vs, ∀ s, ρi[j]? = some s → s = .no) ∧ lcG cond step pl tg vs (ds.drop (i + 1)) acc ρi = .ok (ts, ρ2) := fun {σ5 H5 Hs5 ρ5 fp5 acc5 ys5 ft5} e0 a5 l5 e5 => by
        obtain ⟨fp6, w5, w6⟩ := wipe_ok (vs := vs) a5.st
        have a6 := Acc.less (P := P) a5 wk.keep w5 w6
        rw [e0, ew] at a6
        refine ⟨Hs5, _, fp6, acc5, ys5, ft5, a6, ?_, fun j hj s e => wipeE_get hj s e, e5⟩
        have lall : lks ρ5 = lks ρ1 := by rw [l5, k3, lk]
        rw [lks_wipe, lall]
        intro v hv t q
        exact nlk v hv t (lks_lk lall.symm q)
      cases hc : cond ρ3 with
      | no => rw [hc] at ev; cases ev
      | ex e' ρ' => rw [hc] at ev; cases ev
      | ok cb =>
        obtain ⟨b, ρ4⟩ := cb
        rw [hc] at ev
        refine ht σ3 H2 Hs2 fp3 ρ3 b ρ4 _ k1 hc fun H3 Hs3 fp4 p3 => ?_
        have a4 : Acc K T P L H1 Hs1 fp1 D σ3 ρ4 H3 Hs3 fp4 acc ys ft := Acc.next (P := P) wk.keep a3 p3.st p3.sp
        cases b with
        | false =>
          show (if false = true then _ else _)
          rw [if_neg (by simp)]
          exact again rfl a4 p3.lk ev
        | true =>
          show (if true = true then _ else _)
          rw [if_pos rfl]
          cases hel : step acc ρ4 with
          | no => simp only [hel] at ev; cases ev
          | ex e' ρ' => simp only [hel] at ev; cases ev
          | ok te =>
            obtain ⟨acc', ρ5⟩ := te
            simp only [hel] at ev
            exact hst σ3 H3 Hs3 fp4 ρ4 ρ5 acc acc' ys ft _ a4 hel fun σ5 H' Hs' fp' ys' ft' e5 a5 l5 => again e5 a5 (l5.trans p3.lk) ev
  · have e : i = ds.length := by omega
    subst e
    rw [List.drop_length] at ev
    cases ev
    exact .inl ⟨wk.stop a.hp a.st.ex, fin _ _ _ _ _ a lk wn⟩
/-- one item added -/
theorem push_step {P : Hp → Hp → List Addr → Prop} {J : It} {ds : List D} {elt : Expr} {el : Env → R (OT × Env)} {L : List Addr} {H1 Hs1 : Hp} {fp1 : List Addr} {D : Addr} {vs : List Nat} (wk : Walk X.K T J ds P) (he : ∀ s H C cl fp ρ, SE (blkC' X s H scope C cl fp) T W0 elt ρ (el ρ))
    (σ3 : L2.St) (H Hs : Hp) (fp : List Addr) (ρ4 ρ5 : Env) (acc acc' : List OT) (ys : List V) (ft : List Addr) (Nx : Hp → Prop) (a4 : Acc X.K T P L H1 Hs1 fp1 D σ3 ρ4 H Hs fp acc ys ft) (hs : pushE el acc ρ4 = .ok (acc', ρ5))
    (k : ∀ σ5 H' Hs' fp' ys' ft', wipe σ5 vs = wipe σ3 vs → Acc X.K T P L H1 Hs1 fp1 D σ5 ρ5 H' Hs' fp' acc' ys' ft' → lks ρ5 = lks ρ4 → Nx H') :
    tElt X scope elt σ3 H fun y H4 => ∃ acc, H4 D = some (.lst acc) ∧ acc.length < sizeLine ∧ Nx (upd H4 D (.lst (acc ++ [y]))) := by
  intro s2 H02 C2 cl2 fpb2
  refine he s2 H02 C2 cl2 fpb2 ρ4 L σ3 H Hs fp _ a4.st ?_
  unfold pushE at hs
  cases hel : el ρ4 with
  | no => simp only [hel] at hs; cases hs
  | ex e' ρ' => simp only [hel] at hs; cases hs
  | ok te =>
    obtain ⟨t, ρ6⟩ := te
    simp only [hel] at hs
    intro y H4 Hs4 fp5 ft5 p4
    obtain ⟨a5, hD4⟩ := Acc.push (P := P) wk.keep a4 p4
    split at hs
    · rename_i hz
      cases hs
      exact ⟨ys, hD4, by rw [← a4.ra.length, ← line]; exact hz, k σ3 _ _ _ _ _ rfl a5 p4.lk⟩
    · cases hs
theorem quiet_nlk {ρ : Env} {vs : List Nat} (h : quietAll ρ vs = true) : ∀ v ∈ vs, ∀ (t : OT), ρ[v]? ≠ some (.lk t) := fun v hv t e => by
  unfold quietAll at h
  rw [List.all_eq_true] at h
  have := h v hv
  rw [List.getD_eq_getElem?_getD, e] at this
  cases this
theorem quiet_get {ρ : Env} {vs : List Nat} (h : quietAll ρ vs = true) {j : Nat} (hj : j ∈ vs) {s : Sl} (e : ρ[j]? = some s) : quietSl s = true := by
  unfold quietAll at h
  rw [List.all_eq_true] at h
  have := h j hj
  rw [List.getD_eq_getElem?_getD, e] at this
  exact this
/-- the start of a comprehension: a new list, the slots cleared -/
theorem acc_start {P : Hp → Hp → List Addr → Prop} {J : It} {ds : List D} {L : List Addr} {σ : L2.St} {H1 Hs1 : Hp} {fp1 : List Addr} {ρ1 : Env} {D : Addr} {vs : List Nat} (wk : Walk X.K T J ds P) (hp : P H1 Hs1 fp1) (st : StOk X.K T L Hs1 H1 ρ1 σ fp1) (hD : H1 D = none) :
    ∃ fpw, Acc X.K T P L H1 Hs1 fp1 D (wipe σ vs) (wipeE ρ1 vs) (upd H1 D (.lst [])) Hs1 fpw [] [] [] := by
  obtain ⟨fpw, w1, w2⟩ := wipe_ok (vs := vs) st
  have hDf : ∀ x, (∃ o, H1 x = some o) → x ≠ D := fun x ⟨o, q⟩ e => by subst e; rw [hD] at q; cases q
  have hDs : Hs1 D = none := none_of_ex st.ex hD
  have s0 : Stp fp1 H1 Hs1 (D :: ([] ++ fpw)) (upd H1 D (.lst [])) Hs1 := ⟨Ex.refl _, fun a o q _ => by rw [upd_ne (hDf a ⟨o, q⟩)]; exact q, fun a ha => by
    rcases List.mem_cons.mp ha with rfl | ha
    · exact .inr hD
    · exact .inl (w2 a (by simpa using ha)), fun _ _ q => .inl q⟩
  exact ⟨fpw, w1.upd (fun hf => hDf D (w1.rs.tracked D hf) rfl) (fun hl => hDf D (st.lt D hl).1 rfl) hDs, wk.keep hp s0, upd_same, .nil, List.nodup_cons.mpr ⟨fun hf => hDf D (w1.rs.tracked D (by simpa using hf)) rfl, by simpa using w1.nd⟩,
    fun a ha => by have : a = D := by simpa using ha
                   subst this; exact hDs, fun a ha hm => by have : a = D := by simpa using hm
                                                            subst this; exact hDf a (st.lt a ha).1 rfl, s0⟩
/-- .. and its end -/
theorem acc_end {P : Hp → Hp → List Addr → Prop} {bk : Env → Env} {L L' : List Addr} {σ : L2.St} {H Hs H1 Hs1 H' Hs' : Hp} {fp fp1 fpi : List Addr} {ρ ρ1 ρ2 : Env} {D : Addr} {vs : List Nat} {ts : List OT} {ys : List V} {ft : List Addr} (op : Opn X.K T L σ Hs H fp ρ bk L' ρ1 H1 Hs1 fp1) (hq : quietAll ρ1 vs = true)
    (a : Acc X.K T P L' H1 Hs1 fp1 D (wipe σ vs) ρ2 H' Hs' fpi ts ys ft) (lk : lks ρ2 = lks ρ1) (wn : ∀ j ∈ vs, ∀ s, ρ2[j]? = some s → s = .no) :
    ∃ fp3, Post X.K T L σ Hs H fp ρ (.lst ts) (bk (backE ρ1 ρ2 vs)) (.ref D) H' Hs' fp3 (D :: ft) := by
  have hlen : ρ1.length = σ.length := op.st.rs.length
  have ilen : ρ2.length = σ.length := by rw [a.st.rs.length, wipe_length]
  have dn := List.nodup_append.mp (show ((D :: ft) ++ fpi).Nodup from a.nd)
  have lkp : lks (backE ρ1 ρ2 vs) = lks ρ1 := lks_patch lk
  have rs : RpS X.K T Hs' H' L' (backE ρ1 ρ2 vs) σ fpi := patch_rs op.st.rs a.st.rs a.sp.ex (fun j hj s e => quiet_get hq (by simpa using hj) e) (fun j hj s e => wn j (by simpa using hj) s e) (fun j hj => wipe_out2 fun z => by simp [z] at hj) (by rw [ilen, hlen])
  have stb : StOk X.K T L' Hs' H' (backE ρ1 ρ2 vs) σ fpi := ⟨a.st.ex, rs, a.st.nd, a.st.nf, a.st.lf, a.st.lt⟩
  have spb : Stp fp1 H1 Hs1 fpi H' Hs' := a.sp.sub fun x hx => by simp [hx]
  obtain ⟨fp3, b1, b2, b3, b4⟩ := op.back [] (fun x hx => absurd hx (by simp)) stb spb lkp fun _ _ _ => rfl
  have hh := a.held
  have nw : ∀ x ∈ D :: ft, x ∈ fp1 ∨ H1 x = none := fun x hx => a.sp.nw x (by
    rcases List.mem_cons.mp hx with rfl | hx
    · simp
    · simp [hx])
  have out : ∀ x ∈ D :: ft, x ∉ fp3 := fun x hx hf => by
    rcases b4 x hf with z | ⟨⟨o, z⟩, z2, _⟩
    · exact (hh x hx).2 z
    · rcases nw x hx with w | w
      · exact z2 w
      · rw [z] at w; cases w
  refine ⟨fp3, b1, .lst a.hD a.ra, List.nodup_append.mpr ⟨dn.1, b1.nd, fun x hx y hy e => out x hx (e ▸ hy)⟩, a.nf, fun x hx => a.nl x (op.nl x hx), ⟨b2.ex, b2.fr, fun x hx => ?_, b2.dm⟩, b3⟩
  rcases List.mem_append.mp hx with hx | hx
  · exact op.nw x (nw x hx)
  · exact b2.nw x hx
/-- the tests of a clause, as the loop wants them -/
theorem tests_ok {ifs : List Expr} {cond : Env → R (Bool × Env)} {L : List Addr} (ht : ∀ s H C cl fp ρ, STs (blkC' X s H scope C cl fp) T W0 ifs ρ (cond ρ)) (σ3 : L2.St) (H Hs : Hp) (fp : List Addr) (ρ3 : Env) (b : Bool) (ρ4 : Env) (Q : Bool → Hp → Prop) (st : StOk X.K T L Hs H ρ3 σ3 fp) (hc : cond ρ3 = .ok (b, ρ4))
    (k : ∀ H' Hs' fp', Pst X.K T L σ3 Hs H fp ρ3 ρ4 H' Hs' fp' → Q b H') : tIfs X scope ifs σ3 H Q := by
  intro s H0 C cl fpb
  refine ht s H0 C cl fpb ρ3 L σ3 H Hs fp _ st ?_
  rw [hc]
  exact k
/-- the reading of a comprehension -/
theorem lc_read {wi : TI} {ρ : Env} {bk : Env → Env} {rI : R (List D × Env)} {tg : Tg} {ifs : List Expr} {elt : Expr} {cond : Env → R (Bool × Env)} {el : Env → R (OT × Env)} {pl : List Nat} {W : WX} (si : SI X T W wi ρ bk rI)
    (ht : ∀ s H C cl fp ρ, STs (blkC' X s H scope C cl fp) T W0 ifs ρ (cond ρ)) (he : ∀ s H C cl fp ρ, SE (blkC' X s H scope C cl fp) T W0 elt ρ (el ρ))
    {L : List Addr} {σ : L2.St} {H Hs : Hp} {fp : List Addr} {Q : VK} (h : StOk X.K T L Hs H ρ σ fp)
    (k : Cont (rI.bind fun p => if quietAll p.2 tg.slots = true then
        match lcL cond el pl tg p.1 [] (wipeE p.2 tg.slots) with
        | .ok (ts, ρ2) => .ok (OT.lst ts, bk (backE p.2 ρ2 tg.slots))
        | _ => .no
      else .no) (fun p => ∀ v H' Hs' fp' ft, Post X.K T L σ Hs H fp ρ p.1 p.2 v H' Hs' fp' ft → Q v H') (XOk X.K T L σ Hs H fp ρ W)) :
    tLc wi (gT X.K tg) (tIfs X scope ifs) (tElt X scope elt) tg.slots σ H Q := by
  rw [cont_bind] at k
  refine si L σ H Hs fp [] _ h (fun a ha => absurd ha (by simp)) (k.imp (fun p k J P L' H1 Hs1 fp1 wk hp op => ?_) fun _ _ x => x)
  intro D hD
  obtain ⟨ds, ρ1⟩ := p
  simp only at k wk op
  split at k
  · rename_i hq
    cases hres : lcL cond el pl tg ds [] (wipeE ρ1 tg.slots) with
    | no => rw [hres] at k; exact k.elim
    | ex e' ρ' => rw [hres] at k; exact k.elim
    | ok res =>
      obtain ⟨ts, ρ2⟩ := res
      rw [hres] at k
      obtain ⟨fpw, a0⟩ := acc_start (X := X) (vs := tg.slots) wk (by simpa using hp) op.st hD
      refine loop_core (pl := pl) wk (fun j hj => hj) (quiet_nlk hq) (tests_ok ht) (push_step wk he) a0 (lks_wipe (quiet_nlk hq)) (fun j hj s e => wipeE_get hj s e) hres fun H' Hs' fp' ys' ft' a lk wn => ?_
      obtain ⟨fp3, po⟩ := acc_end op hq a lk wn
      exact k _ _ _ _ _ po
  · exact k.elim
/-- an inner clause -/
def tIn (X : Cx) (scope : Scope) (wi1 : TI) (tg1 : Tg) (ifs1 : List Expr) (elt : Expr) (D : Addr) (σ2 : L2.St) (H3 : Hp) (Nx : Hp → Prop) : Prop := wi1 σ2 H3 fun J1 H4 => ∃ W1 : Nat → Nat → Hp → Prop, (∃ m, W1 0 m H4) ∧ ∀ j k H, W1 j k H →
      (J1.stop j H ∧ Nx H) ∨ (J1.go j H ∧ ∃ Nx1 : Hp → Prop, (∀ H', Nx1 H' → ∃ k', k' < k ∧ W1 (j + 1) k' H') ∧ ∀ x H', J1.yld j H x H' → gT X.K tg1 x (wipe σ2 tg1.slots) H' fun σ3 H5 => wipe σ3 tg1.slots = wipe σ2 tg1.slots ∧ tIfs X scope ifs1 σ3 H5 fun b H6 =>
        if b = true then tElt X scope elt σ3 H6 fun y H7 => ∃ acc, H7 D = some (.lst acc) ∧ acc.length < sizeLine ∧ Nx1 (upd H7 D (.lst (acc ++ [y]))) else Nx1 H6)
/-- the readings of an iterable in a block -/
def tIt (X : Cx) (scope : Scope) (iter : Expr) (wi : Cx → TI) : TI := fun σ H R => ∀ (s : Shared) (H0 : Hp) (C : Addr) (cl : List (Str × Addr)) (fp : List Addr), wi (blkC' X s H0 scope C cl fp) σ H R
theorem inner_step {P : Hp → Hp → List Addr → Prop} {J : It} {ds : List D} {elt : Expr} {el : Env → R (OT × Env)} {ifs1 : List Expr} {cond1 : Env → R (Bool × Env)} {it1 : Env → R (List D × Env)} {bk1 : Env → Env → Env} {wi1 : TI} {tg1 : Tg} {pl : List Nat} {L : List Addr} {H1 Hs1 : Hp} {fp1 : List Addr} {D : Addr} {vs : List Nat} (wk : Walk X.K T J ds P) (sub1 : ∀ j ∈ tg1.slots, j ∈ vs)
    (si : ∀ ρ, SI X T W0 wi1 ρ (bk1 ρ) (it1 ρ)) (ht : ∀ s H C cl fp ρ, STs (blkC' X s H scope C cl fp) T W0 ifs1 ρ (cond1 ρ)) (he : ∀ s H C cl fp ρ, SE (blkC' X s H scope C cl fp) T W0 elt ρ (el ρ))
    (σ3 : L2.St) (H Hs : Hp) (fp : List Addr) (ρ4 ρ5 : Env) (acc acc' : List OT) (ys : List V) (ft : List Addr) (Nx : Hp → Prop) (a4 : Acc X.K T P L H1 Hs1 fp1 D σ3 ρ4 H Hs fp acc ys ft) (hs : inner it1 bk1 cond1 el pl tg1 acc ρ4 = .ok (acc', ρ5))
    (k : ∀ σ5 H' Hs' fp' ys' ft', wipe σ5 vs = wipe σ3 vs → Acc X.K T P L H1 Hs1 fp1 D σ5 ρ5 H' Hs' fp' acc' ys' ft' → lks ρ5 = lks ρ4 → Nx H') : tIn X scope wi1 tg1 ifs1 elt D σ3 H Nx := by
  have hh := a4.held
  unfold inner at hs
  refine si ρ4 L σ3 H Hs fp (D :: ft) _ a4.st (fun x hx => ⟨(hh x hx).1, (hh x hx).2, fun hl => a4.nl x hl hx⟩) ?_
  cases hit : it1 ρ4 with
  | no => rw [hit] at hs; cases hs
  | ex => rw [hit] at hs; cases hs
  | ok p =>
    obtain ⟨es, ρ6⟩ := p
    rw [hit] at hs
    simp only at hs
    split at hs
    · rename_i hq
      cases hres : lcL cond1 el pl tg1 es acc (wipeE ρ6 tg1.slots) with
      | no => rw [hres] at hs; cases hs
      | ex => rw [hres] at hs; cases hs
      | ok res =>
        obtain ⟨ts, ρ7⟩ := res
        rw [hres] at hs
        cases hs
        intro J1 P1 L1 H4 Hs4 fp5 wk1 hp1 op1
        -- what is gathered lies beside the new state too
        have nl1 : ∀ x ∈ L1, x ∉ D :: ft := fun x hx hf => (op1.lw x hx).elim (fun z => a4.nl x z hf) (hh x hf).2
        obtain ⟨fpb, _, s0, _, _⟩ := op1.back [] (fun x hx => absurd hx (by simp)) op1.st (Stp.refl _ _ _) rfl fun _ _ _ => rfl
        have s0 : Stp fp H Hs fpb H4 Hs4 := s0
        have n5 : ∀ x ∈ D :: ft, x ∉ fp5 := fun x hx hf => by
          rcases op1.nw x (.inl hf) with z | z
          · exact (hh x hx).2 z
          · obtain ⟨o, q⟩ := (hh x hx).1; rw [q] at z; cases z
        obtain ⟨fpw, w1, w2⟩ := wipe_ok (vs := tg1.slots) op1.st
        have dn := List.nodup_append.mp (show ((D :: ft) ++ fp).Nodup from a4.nd)
        have a1 : Acc X.K T P1 L1 H4 Hs4 (D :: (ft ++ fp5)) D (wipe σ3 tg1.slots) (wipeE ρ6 tg1.slots) H4 Hs4 fpw acc ys ft := by
          have rs : Stp (D :: (ft ++ fp5)) H4 Hs4 (D :: (ft ++ fpw)) H4 Hs4 := (Stp.refl _ _ _).sub fun x hx => by
            simp only [List.mem_cons, List.mem_append] at hx ⊢
            exact hx.imp id fun z => z.imp id (w2 x)
          refine ⟨w1, wk1.keep hp1 rs, s0.fr D _ a4.hD (hh D (by simp)).2, a4.ra.keep (fun x hx => (hh x (by simp [hx])).2) s0, ?_, fun x hx => s0.outHs (hh x hx).1 (hh x hx).2 (a4.nf x hx), nl1, rs⟩
          show ((D :: ft) ++ fpw).Nodup
          exact List.nodup_append.mpr ⟨dn.1, w1.nd, fun x hx y hy e => n5 x hx (w2 x (e ▸ hy))⟩
        refine loop_core (pl := pl) wk1 (fun j hj => hj) (quiet_nlk hq) (tests_ok ht) (push_step wk1 he) a1 (lks_wipe (quiet_nlk hq)) (fun j hj s e => wipeE_get hj s e) hres fun H' Hs' fp' ys' ft' aF lk wn => ?_
        have nwF : ∀ x, x ∈ D :: (ft' ++ fp') → x ∈ D :: (ft ++ fp) ∨ H x = none := fun x hx => by
          rcases aF.sp.nw x hx with z | z
          · rcases List.mem_append.mp (show x ∈ (D :: ft) ++ fp5 from z) with z | z
            · exact .inl (List.mem_append.mpr (.inl z) : x ∈ (D :: ft) ++ fp)
            · exact (op1.nw x (.inl z)).imp (fun y => (List.mem_append.mpr (.inr y) : x ∈ (D :: ft) ++ fp)) id
          · exact (op1.nw x (.inr z)).imp (fun y => (List.mem_append.mpr (.inr y) : x ∈ (D :: ft) ++ fp)) id
        obtain ⟨fp3, b1, b2, b3, b4⟩ := op1.back (D :: ft) (fun x hx hl => nl1 x hl hx) aF.st (aF.sp.sub fun x hx => by simp [hx]) lk fun j u e => wipe_out2 fun hj => quiet_nlk hq j hj u e
        have out : ∀ x ∈ D :: ft', x ∉ fp3 := fun x hx hf => by
          have dF := List.nodup_append.mp (show ((D :: ft') ++ fp').Nodup from aF.nd)
          rcases b4 x hf with z | ⟨_, _, z⟩
          · exact dF.2.2 x hx x z rfl
          · exact aF.nl x z hx
        have sp2 : Stp (D :: (ft ++ fp)) H Hs (D :: (ft' ++ fp3)) H' Hs' := by
          have b2 : Stp (D :: (ft ++ fp)) H Hs fp3 H' Hs' := b2
          refine ⟨b2.ex, b2.fr, fun x hx => ?_, b2.dm⟩
          rcases List.mem_append.mp (show x ∈ (D :: ft') ++ fp3 from hx) with z | z
          · exact nwF x (List.mem_append.mpr (.inl z) : x ∈ (D :: ft') ++ fp')
          · exact b2.nw x z
        have dF := List.nodup_append.mp (show ((D :: ft') ++ fp').Nodup from aF.nd)
        refine k (wipe σ3 tg1.slots) H' Hs' fp3 ys' ft' ?_ ⟨b1, wk.keep a4.hp sp2, aF.hD, aF.ra, ?_, aF.nf, fun x hx => aF.nl x (op1.nl x hx), a4.sp.trans sp2⟩ b3
        · exact wipe_eq (by rw [wipe_length]) fun j hj => wipe_out2 fun z => hj (sub1 j z)
        · show ((D :: ft') ++ fp3).Nodup
          exact List.nodup_append.mpr ⟨dF.1, b1.nd, fun x hx y hy e => out x hx (e ▸ hy)⟩
    · cases hs
/-- the reading of a comprehension of two clauses -/
theorem lc2_read {wi wi1 : TI} {ρ : Env} {bk : Env → Env} {bk1 : Env → Env → Env} {rI : R (List D × Env)} {it1 : Env → R (List D × Env)} {tg tg1 : Tg} {ifs ifs1 : List Expr} {elt : Expr} {cond cond1 : Env → R (Bool × Env)} {el : Env → R (OT × Env)} {pl : List Nat} {W : WX} (si : SI X T W wi ρ bk rI)
    (ht : ∀ s H C cl fp ρ, STs (blkC' X s H scope C cl fp) T W0 ifs ρ (cond ρ)) (si1 : ∀ ρ, SI X T W0 wi1 ρ (bk1 ρ) (it1 ρ)) (ht1 : ∀ s H C cl fp ρ, STs (blkC' X s H scope C cl fp) T W0 ifs1 ρ (cond1 ρ)) (he : ∀ s H C cl fp ρ, SE (blkC' X s H scope C cl fp) T W0 elt ρ (el ρ))
    {L : List Addr} {σ : L2.St} {H Hs : Hp} {fp : List Addr} {Q : VK} (h : StOk X.K T L Hs H ρ σ fp)
    (k : Cont (rI.bind fun p => if quietAll p.2 (tg.slots ++ tg1.slots) = true then
        match lcG cond (inner it1 bk1 cond1 el pl tg1) pl tg (tg.slots ++ tg1.slots) p.1 [] (wipeE p.2 (tg.slots ++ tg1.slots)) with
        | .ok (ts, ρ2) => .ok (OT.lst ts, bk (backE p.2 ρ2 (tg.slots ++ tg1.slots)))
        | _ => .no
      else .no) (fun p => ∀ v H' Hs' fp' ft, Post X.K T L σ Hs H fp ρ p.1 p.2 v H' Hs' fp' ft → Q v H') (XOk X.K T L σ Hs H fp ρ W)) :
    tLc2 wi (gT X.K tg) (tIfs X scope ifs) wi1 (gT X.K tg1) (tIfs X scope ifs1) (tElt X scope elt) (tg.slots ++ tg1.slots) tg1.slots σ H Q := by
  rw [cont_bind] at k
  refine si L σ H Hs fp [] _ h (fun a ha => absurd ha (by simp)) (k.imp (fun p k J P L' H1 Hs1 fp1 wk hp op => ?_) fun _ _ x => x)
  intro D hD
  obtain ⟨ds, ρ1⟩ := p
  simp only at k wk op
  split at k
  · rename_i hq
    cases hres : lcG cond (inner it1 bk1 cond1 el pl tg1) pl tg (tg.slots ++ tg1.slots) ds [] (wipeE ρ1 (tg.slots ++ tg1.slots)) with
    | no => rw [hres] at k; exact k.elim
    | ex e' ρ' => rw [hres] at k; exact k.elim
    | ok res =>
      obtain ⟨ts, ρ2⟩ := res
      rw [hres] at k
      obtain ⟨fpw, a0⟩ := acc_start (X := X) (vs := tg.slots ++ tg1.slots) wk (by simpa using hp) op.st hD
      refine loop_core (pl := pl) (rd := tIn X scope wi1 tg1 ifs1 elt D) wk (fun j hj => by simp [hj]) (quiet_nlk hq) (tests_ok ht) (inner_step wk (fun j hj => by simp [hj]) si1 ht1 he) a0 (lks_wipe (quiet_nlk hq)) (fun j hj s e => wipeE_get hj s e) hres fun H' Hs' fp' ys' ft' a lk wn => ?_
      obtain ⟨fp3, po⟩ := acc_end op hq a lk wn
      exact k _ _ _ _ _ po
  · exact k.elim
end
end CH
end
section
namespace CH
open PySem L2 Evl PyProof.Rows

/-- what a def of the text promises: the arguments' trees us at vs; behind it the value and the trees as Φ says -/
def spF (K : PySem.W.Frag) (T : Tab) (r : List OT → R (OT × List OT)) (n : Nat) : Sp := fun vs H Q E => vs.length = n ∧ ∃ us Hs fc, StOk K T [] Hs H (us.map .ow) (vs.map some) fc ∧
  Cont (r us) (fun p => ∀ v H' Hs' fc' ft, StOk K T [] Hs' H' (p.2.map .ow) (vs.map some) fc' → RpO K T Hs' H' p.1 v ft → (ft ++ fc').Nodup → (∀ a ∈ ft, Hs' a = none) → Stp fc H Hs (ft ++ fc') H' Hs' → Q v H')
    (fun e _ => ∀ H' Hs' C d, Ex Hs' H' → Stp fc H Hs [] H' Hs' → ExRp K T Hs' H' e C d → E (.ref C) (some d) H')
/-- a class's promise, from its __init__'s -/
theorem cls_sp {K : PySem.W.Frag} {T : Tab} {φ : List OT → R (OT × List OT)} {c n : Nat} {C : Addr} {vs : List V} {H : Hp} {Q : VK} {E : XK} (hc : T.clA c = some C) (cl : Cls K C) (h : spF K T (fun us => mkR (φ (.obj c [] [] :: us))) n vs H Q E) :
    vs.length = n ∧ ∀ x dx, H x = none → H dx = none → dx ≠ x → spF K T φ (n + 1) (.ref x :: vs) (L2.upd (L2.upd H dx (.own x)) x (.ins C dx [])) (fun v H2 => v = .non ∧ Q (.ref x) H2) E := by
  obtain ⟨hl, us, Hs, fc, st, k⟩ := h
  refine ⟨hl, fun x dx hx hdx hne => ?_⟩
  have up : ∀ a o, H a = some o → (L2.upd (L2.upd H dx (.own x)) x (.ins C dx [])) a = some o := fun a o q => by
    have n1 : a ≠ x := fun e => by subst e; rw [hx] at q; cases q
    have n2 : a ≠ dx := fun e => by subst e; rw [hdx] at q; cases q
    rw [upd_ne n1, upd_ne n2]
    exact q
  have upx : (L2.upd (L2.upd H dx (.own x)) x (.ins C dx [])) x = some (.ins C dx []) := upd_same
  generalize hH2 : L2.upd (L2.upd H dx (.own x)) x (.ins C dx []) = H2 at up upx ⊢
  have xn : x ∉ fc := fun m => by
    obtain ⟨o, q⟩ := st.rs.tracked x m
    rw [hx] at q
    cases q
  have hsx : Hs x = none := by
    cases e : Hs x with
    | none => rfl
    | some o => have := st.ex x o e; rw [hx] at this; cases this
  have back : ∀ a, a ∈ x :: fc ∨ H2 a = none → a ∈ fc ∨ H a = none := fun a ha => by
    rcases ha with ha | ha
    · rcases List.mem_cons.mp ha with rfl | ha
      · exact .inr hx
      · exact .inl ha
    · cases e : H a with
      | none => exact .inr rfl
      | some o => rw [up a o e] at ha; cases ha
  refine ⟨by simp [hl], .obj c [] [] :: us, Hs, x :: fc, ⟨fun a o q => up a o (st.ex a o q), ?_, List.nodup_cons.mpr ⟨xn, st.nd⟩, fun a ha => ?_, fun a ha => absurd ha (by simp), fun a ha => absurd ha (by simp)⟩, ?_⟩
  · exact RpS.ow (f := [x]) (RpO.obj (fs := []) (f := []) upx ⟨hc, ⟨cl, fun k hk => absurd hk (by simp)⟩⟩ .nil) (st.rs.step (Ex.refl _) (fun _ z => z) fun a _ o q => up a o q)
  · rcases List.mem_cons.mp ha with rfl | ha
    · exact hsx
    · exact st.nf a ha
  · cases hr : φ (.obj c [] [] :: us) with
    | no => simp only [hr, mkR] at k; exact k.elim
    | ex e ρ =>
      simp only [hr, mkR] at k
      intro H' Hs' C' d ex sp xr
      refine k H' Hs' C' d ex ⟨sp.ex, fun a o q hn => ?_, fun a ha => absurd ha (by simp), fun a o q => ?_⟩ xr
      · exact sp.fr a o (up a o q) fun m => (List.mem_cons.mp m).elim (fun e => by subst e; rw [hx] at q; cases q) hn
      · exact (sp.dm a o q).imp id (back a)
    | ok p =>
      obtain ⟨t, ws⟩ := p
      intro v H' Hs' fc' ft st' rp nd nf sp
      simp only at st' rp
      cases ws with
      | nil => cases st'.rs
      | cons w ws =>
        have et : t = .sh .non := by
          rcases t with d | _ | _
          · cases d <;> first | rfl | (simp only [hr, mkR] at k; exact k.elim)
          · simp only [hr, mkR] at k; exact k.elim
          · simp only [hr, mkR] at k; exact k.elim
        subst et
        simp only [hr, mkR] at k
        cases rp with
        | sh rp =>
          cases rp
          refine ⟨rfl, ?_⟩
          have rs := st'.rs
          cases rs with
          | @ow _ _ f _ _ fr hw rs =>
            have nd1 := st'.nd
            have nd2 := List.nodup_append.mp nd1
            refine k (.ref x) H' Hs' fr f ⟨st'.ex, rs, nd2.2.1, fun a ha => st'.nf a (by simp [ha]), fun a ha => absurd ha (by simp), fun a ha => absurd ha (by simp)⟩ hw nd1 (fun a ha => st'.nf a (by simp [ha])) ⟨sp.ex, fun a o q hn => ?_, fun a ha => ?_, fun a o q => ?_⟩
            · exact sp.fr a o (up a o q) fun m => (List.mem_cons.mp m).elim (fun e => by subst e; rw [hx] at q; cases q) hn
            · exact back a (sp.nw a (by simpa using ha))
            · exact (sp.dm a o q).imp id (back a)
/-- the arguments' values -/
inductive ArgV (K : PySem.W.Frag) (T : Tab) (Hs : Hp) (σ : L2.St) : CAs → List D → List V → Prop
  | nil : ArgV K T Hs σ .nil [] []
  | val {e : CE} {r : CAs} {d : D} {ds : List D} {v : V} {vs : List V} : Rp K T Hs d v → ArgV K T Hs σ r ds vs → ArgV K T Hs σ (.val e r) (d :: ds) (v :: vs)
  | ref {i : Nat} {r : CAs} {ds : List D} {v : V} {vs : List V} : σ[i]? = some (some v) → ArgV K T Hs σ r ds vs → ArgV K T Hs σ (.ref i r) ds (v :: vs)
section
variable {K : PySem.W.Frag} {T : Tab} {Hs H Hs' H' : Hp} {L : List Addr} {σ : L2.St}
theorem ArgV.mono (e : Ex Hs Hs') : ∀ {as : CAs} {ds : List D} {vs : List V}, ArgV K T Hs σ as ds vs → ArgV K T Hs' σ as ds vs
  | _, _, _, .nil => .nil
  | _, _, _, .val h r => .val (h.mono e) (r.mono e)
  | _, _, _, .ref h r => .ref h (r.mono e)
/-- the arguments' trees are taken out of the state -/
theorem fill_ok : ∀ {as : CAs} {ds : List D} {vs : List V} {ρ : Env} {us : List OT} {fp : List Addr}, ArgV K T Hs σ as ds vs → fillA as ds ρ = some us → RpS K T Hs H L ρ σ fp →
    ∃ fc fr, RpS K T Hs H [] (us.map .ow) (vs.map some) fc ∧ RpS K T Hs H L (goneA as ρ) σ fr ∧ fp.Perm (fc ++ fr)
  | _, _, _, ρ, us, fp, .nil, h, r => by
    cases Option.some.inj (show some [] = some us from h)
    exact ⟨[], fp, .nil, r, .refl _⟩
  | .val e as, d :: ds, v :: vs, ρ, us, fp, .val hv ha, h, r => by
    obtain ⟨us', h1, rfl⟩ := Option.map_eq_some_iff.mp (show (fillA as ds ρ).map (fun us => OT.sh d :: us) = some us from h)
    obtain ⟨fc, fr, k1, k2, k3⟩ := fill_ok ha h1 r
    exact ⟨fc, fr, RpS.ow (f := []) (.sh hv) k1, k2, k3⟩
  | .ref i as, ds, v :: vs, ρ, us, fp, .ref hv ha, h, r => by
    obtain ⟨t, h1, h2⟩ := Option.bind_eq_some_iff.mp (show ((Env.own ρ i).bind fun t => (fillA as ds (ρ.set i .no)).map fun us => t :: us) = some us from h)
    obtain ⟨us', h3, rfl⟩ := Option.map_eq_some_iff.mp h2
    obtain ⟨v', f, fr, q1, q2, q3, q4⟩ := r.takeOut (own_get h1)
    rw [hv] at q1
    cases q1
    obtain ⟨fc, fr', k1, k2, k3⟩ := fill_ok ha h3 q4
    refine ⟨f ++ fc, fr', .ow q2 k1, k2, q3.trans ?_⟩
    rw [List.append_assoc]
    exact List.Perm.append_left f k3
theorem gone_no : ∀ {as : CAs} {ρ : Env} {i : Nat}, ρ[i]? = some .no → (goneA as ρ)[i]? = some .no
  | .nil, ρ, i, h => h
  | .val _ r, ρ, i, h => gone_no (as := r) h
  | .ref j r, ρ, i, h => gone_no (as := r) (by
    by_cases e : j = i
    · subst e
      rw [List.getElem?_set_self (List.getElem?_eq_some_iff.mp h).1]
    · rw [List.getElem?_set_ne e]; exact h)
theorem gone_len : ∀ {as : CAs} {ρ : Env}, (goneA as ρ).length = ρ.length
  | .nil, ρ => rfl
  | .val _ r, ρ => gone_len (as := r)
  | .ref j r, ρ => by unfold goneA; rw [gone_len (as := r), List.length_set]
theorem back_no : ∀ {as : CAs} {ds : List D} {ρ τ τ' : Env} {us ws : List OT} {i : Nat}, fillA as ds ρ = some us → ρ[i]? = some .no → τ[i]? = some .no → backA as ws τ = some τ' → τ'[i]? = some .no
  | .nil, ds, ρ, τ, τ', us, ws, i, h, e, et, b => by cases Option.some.inj (show some τ = some τ' from b); exact et
  | .val _ r, d :: ds, ρ, τ, τ', us, w :: ws, i, h, e, et, b => by
    obtain ⟨us', h1, rfl⟩ := Option.map_eq_some_iff.mp (show (fillA r ds ρ).map (fun us => OT.sh d :: us) = some us from h)
    exact back_no h1 e et b
  | .ref j r, ds, ρ, τ, τ', us, w :: ws, i, h, e, et, b => by
    obtain ⟨t, h1, h2⟩ := Option.bind_eq_some_iff.mp (show ((Env.own ρ j).bind fun t => (fillA r ds (ρ.set j .no)).map fun us => t :: us) = some us from h)
    obtain ⟨us', h3, rfl⟩ := Option.map_eq_some_iff.mp h2
    obtain ⟨τ1, b1, rfl⟩ := Option.map_eq_some_iff.mp (show (backA r ws τ).map (fun ρ' => ρ'.set j (Sl.ow w)) = some τ' from b)
    have hji : j ≠ i := fun z => by subst z; rw [own_get h1] at e; cases e
    rw [List.getElem?_set_ne hji]
    exact back_no h3 (by rw [List.getElem?_set_ne hji]; exact e) et b1
  | .val _ r, [], ρ, τ, τ', us, ws, i, h, e, et, b => by cases h
  | .val _ r, d :: ds, ρ, τ, τ', us, [], i, h, e, et, b => by cases b
  | .ref j r, ds, ρ, τ, τ', us, [], i, h, e, et, b => by cases b
theorem back_len : ∀ {as : CAs} {τ τ' : Env} {ws : List OT}, backA as ws τ = some τ' → τ'.length = τ.length
  | .nil, τ, τ', ws, b => by cases Option.some.inj (show some τ = some τ' from b); rfl
  | .val _ r, τ, τ', w :: ws, b => back_len (as := r) b
  | .ref j r, τ, τ', w :: ws, b => by
    obtain ⟨τ1, b1, rfl⟩ := Option.map_eq_some_iff.mp (show (backA r ws τ).map (fun ρ' => ρ'.set j (Sl.ow w)) = some τ' from b)
    rw [List.length_set, back_len b1]
  | .val _ r, τ, τ', [], b => by cases b
  | .ref j r, τ, τ', [], b => by cases b
/-- .. and laid back behind the call -/
theorem back_ok : ∀ {as : CAs} {ds : List D} {vs : List V} {ρ τ' : Env} {us ws : List OT} {fr fc : List Addr}, ArgV K T Hs σ as ds vs → fillA as ds ρ = some us → RpS K T Hs' H' L (goneA as ρ) σ fr → RpS K T Hs' H' [] (ws.map .ow) (vs.map some) fc → backA as ws (goneA as ρ) = some τ' →
    ∃ fp', RpS K T Hs' H' L τ' σ fp' ∧ ∃ fq, fp'.Perm (fq ++ fr) ∧ fq.Sublist fc
  | .nil, ds, vs, ρ, τ', us, ws, fr, fc, _, h, r, rc, b => by
    cases Option.some.inj (show some (goneA .nil ρ) = some τ' from b)
    exact ⟨fr, r, [], .refl _, List.nil_sublist _⟩
  | .val e as, d :: ds, v :: vs, ρ, τ', us, w :: ws, fr, fc, .val hv ha, h, r, rc, b => by
    obtain ⟨us', h1, rfl⟩ := Option.map_eq_some_iff.mp (show (fillA as ds ρ).map (fun us => OT.sh d :: us) = some us from h)
    cases rc with
    | ow hw rc =>
      obtain ⟨fp', k1, fq, k2, k3⟩ := back_ok ha h1 r rc b
      exact ⟨fp', k1, fq, k2, k3.trans (List.sublist_append_right _ _)⟩
  | .ref j as, ds, v :: vs, ρ, τ', us, w :: ws, fr, fc, .ref hv ha, h, r, rc, b => by
    obtain ⟨t, h1, h2⟩ := Option.bind_eq_some_iff.mp (show ((Env.own ρ j).bind fun t => (fillA as ds (ρ.set j .no)).map fun us => t :: us) = some us from h)
    obtain ⟨us', h3, rfl⟩ := Option.map_eq_some_iff.mp h2
    obtain ⟨τ1, b1, rfl⟩ := Option.map_eq_some_iff.mp (show (backA as ws (goneA as (ρ.set j .no))).map (fun ρ' => ρ'.set j (Sl.ow w)) = some τ' from b)
    cases rc with
    | @ow _ _ f _ _ fc' hw rc =>
      obtain ⟨fp', k1, fq, k2, k3⟩ := back_ok ha h3 r rc b1
      have hj := own_lt h1
      have e0 : (ρ.set j .no)[j]? = some .no := List.getElem?_set_self hj
      have ej := back_no h3 e0 (gone_no (as := as) e0) b1
      have hl : j < τ1.length := by rw [back_len b1, gone_len, List.length_set]; exact hj
      obtain ⟨fp2, m1, m2⟩ := k1.put hl ej hw
      have eσ : σ.set j (some v) = σ := by
        obtain ⟨hi2, e2⟩ := List.getElem?_eq_some_iff.mp hv
        rw [← e2, List.set_getElem_self]
      rw [eσ] at m1
      refine ⟨fp2, m1, f ++ fq, m2.trans ?_, k3.append_left f⟩
      rw [List.append_assoc]
      exact List.Perm.append_left f k2
  | .val _ r, d :: ds, v :: vs, ρ, τ', us, [], fr, fc, _, h, _, _, b => by cases b
  | .ref j r, ds, v :: vs, ρ, τ', us, [], fr, fc, _, h, _, _, b => by cases b
theorem lks_gone : ∀ {as : CAs} {ds : List D} {ρ : Env} {us : List OT}, fillA as ds ρ = some us → lks (goneA as ρ) = lks ρ
  | .nil, _, _, _, _ => rfl
  | .val _ r, d :: ds, ρ, us, h => by
    obtain ⟨us', h1, rfl⟩ := Option.map_eq_some_iff.mp (show (fillA r ds ρ).map (fun us => OT.sh d :: us) = some us from h)
    exact lks_gone (as := r) h1
  | .val _ r, [], ρ, us, h => by cases h
  | .ref j r, ds, ρ, us, h => by
    obtain ⟨t, h1, h2⟩ := Option.bind_eq_some_iff.mp (show ((Env.own ρ j).bind fun t => (fillA r ds (ρ.set j .no)).map fun us => t :: us) = some us from h)
    obtain ⟨us', h3, rfl⟩ := Option.map_eq_some_iff.mp h2
    show lks (goneA r (ρ.set j .no)) = lks ρ
    rw [lks_gone (as := r) h3]
    exact lks_set (own_get h1) rfl
theorem lks_back : ∀ {as : CAs} {ds : List D} {ρ τ τ' : Env} {us ws : List OT}, fillA as ds ρ = some us → (∀ i, ∀ (t : OT), Env.own ρ i = some t → τ[i]? = some .no ∨ ∃ u, τ[i]? = some (.ow u)) → backA as ws τ = some τ' → lks τ' = lks τ
  | .nil, _, _, τ, τ', _, ws, _, _, b => by cases Option.some.inj (show some τ = some τ' from b); rfl
  | .val _ r, d :: ds, ρ, τ, τ', us, w :: ws, h, g, b => by
    obtain ⟨us', h1, rfl⟩ := Option.map_eq_some_iff.mp (show (fillA r ds ρ).map (fun us => OT.sh d :: us) = some us from h)
    exact lks_back h1 g b
  | .val _ r, [], _, _, _, _, _, h, _, _ => by cases h
  | .val _ r, _ :: _, _, _, _, _, [], h, _, b => by cases b
  | .ref j r, _, _, _, _, _, [], h, _, b => by cases b
  | .ref j r, ds, ρ, τ, τ', us, w :: ws, h, g, b => by
    obtain ⟨t, h1, h2⟩ := Option.bind_eq_some_iff.mp (show ((Env.own ρ j).bind fun t => (fillA r ds (ρ.set j .no)).map fun us => t :: us) = some us from h)
    obtain ⟨us', h3, rfl⟩ := Option.map_eq_some_iff.mp h2
    obtain ⟨τ1, b1, rfl⟩ := Option.map_eq_some_iff.mp (show (backA r ws τ).map (fun ρ' => ρ'.set j (Sl.ow w)) = some τ' from b)
    have own' : ∀ i, ∀ (t : OT), Env.own (ρ.set j .no) i = some t → Env.own ρ i = some t := fun i t e => by
      have := own_get e
      by_cases hji : j = i
      · subst hji
        rw [List.getElem?_set_self (own_lt h1)] at this; cases this
      · rw [List.getElem?_set_ne hji] at this
        unfold Env.own; rw [this]
    have ih := lks_back h3 (fun i t e => g i t (own' i t e)) b1
    have hj : j < τ1.length := by
      have e1 := back_len b1
      rcases g j t h1 with z | ⟨u, z⟩
      · rw [e1]; exact (List.getElem?_eq_some_iff.mp z).1
      · rw [e1]; exact (List.getElem?_eq_some_iff.mp z).1
    have e2 : lkOf τ1[j] = none := by
      have e3 : (lks τ1)[j]? = (lks τ)[j]? := by rw [ih]
      rw [lks_get, lks_get, List.getElem?_eq_getElem hj] at e3
      rcases g j t h1 with z | ⟨u, z⟩ <;> (rw [z] at e3; simpa [lkOf] using e3)
    rw [← ih]
    exact lks_set (List.getElem?_eq_getElem hj) (by rw [e2]; rfl)
end
end CH
end
section
namespace CH
open PySem L2 Evl PyProof.Rows

/-- the promise of FnOk, asked only where no guarded built-in is under way -/
structure FnG (P : Program) (w : World) (K : PySem.W.Frag) (mg : Str → Option Value) (base : Heap) (k : Nat) (f : Addr) (fd : FuncData) (ps : List Str) (sp : Sp) : Prop where
  many : ∀ {vs : List V} {H : Hp} {Q : VK} {E : XK}, sp vs H Q E → vs.length = ps.length
  runs : ∀ {A : Around} {below : List PySem.Env} {s : Shared} {H : Hp} {us : List Value} {vs : List V} {Q : VK} {E : XK} {args : Args}, A.guards = some [] → Room k A → Env0 P w K mg base A below s H → Vals vs us → BindsTo s fd args (ps.zip us) → sp vs H Q E →
    codeAny (model P w) A (.call (.ref f) args) (CR (L2.CX P w) below P w H s Q E) s
/-- what may be called by its address: a def, a class -/
structure FnR (P : Program) (w : World) (K : PySem.W.Frag) (mg : Str → Option Value) (base : Heap) (k : Nat) (f : Addr) (n : Nat) (sp : Sp) : Prop where
  many : ∀ {vs : List V} {H : Hp} {Q : VK} {E : XK}, sp vs H Q E → vs.length = n
  runs : ∀ (X : Cx) (W : WX) {pins : List (Addr × Obj)} {σ : L2.St} {H : Hp} {s : Shared} {Q : VK} {us : List Value} {vs : List V}, X.prog = P → X.w = w → X.K = K → X.mg = mg → X.base = base → X.A.guards = some [] → Takes X W → Room k X.A → Inv X pins σ H s → Vals vs us → sp vs H Q (WE W σ) →
    wpAny (model X.prog X.w) X.A (call (.ref f) us) (EP X pins σ Q) X.xe s
theorem FnG.r {P : Program} {w : World} {K : PySem.W.Frag} {mg : Str → Option Value} {base : Heap} {k : Nat} {f : Addr} {fd : FuncData} {ps : List Str} {sp : Sp} (F : FnG P w K mg base k f fd ps sp) (hb : Binds K fd ps []) : FnR P w K mg base k f ps.length sp := by
  refine ⟨F.many, ?_⟩
  rintro X W pins σ H s Q us vs rfl rfl rfl rfl rfl gd tk room I rv q
  have hl := rv.length.symm.trans (F.many q)
  have bd := hb s us I.kIn ((congrArg List.length (List.append_nil us)).trans hl)
  rw [List.append_nil] at bd
  refine wpAny_call (codeAny_mono (F.runs gd room I.env0 rv bd q) fun r s' z => ?_)
  match r, z with
  | .error u, z => exact passAt tk σ pins H s u s' I z
  | .ok (.ret u), z => exact I.after z
  | .ok .next, z => exact z.elim
  | .ok .brk, z => exact z.elim
  | .ok .cont, z => exact z.elim
/-- a class whose __init__ is such a def -/
theorem FnG.ofClass {P : Program} {w : World} {K : PySem.W.Frag} {mg : Str → Option Value} {base : Heap} {k n : Nat} {f C : Addr} {fd : FuncData} {ps : List Str} {sp spC : Sp} (F : FnG P w K mg base k f fd ps sp) (hb : Binds K fd ps []) (M : Mk K C f)
    (h : ∀ {vs : List V} {H : Hp} {Q : VK} {E : XK}, spC vs H Q E → vs.length = n ∧ ∀ x dx, H x = none → H dx = none → dx ≠ x → sp (.ref x :: vs) (L2.upd (L2.upd H dx (.own x)) x (.ins C dx [])) (fun v H2 => v = .non ∧ Q (.ref x) H2) E) : FnR P w K mg base (k + 1) C n spC := by
  refine ⟨fun q => (h q).1, ?_⟩
  rintro X W pins σ H s Q us vs rfl rfl rfl rfl rfl gd tk room I rv q
  have hq := (h q).2 (s.heap.objs.size + 1) s.heap.objs.size (I.hok.fresh (Nat.le_succ _)) (I.hok.fresh (Nat.le_refl _)) (Nat.ne_of_lt (Nat.lt_succ_self _))
  have I2 := Inv.made (C := C) I
  have r2 : Vals (V.ref (s.heap.objs.size + 1) :: vs) (Value.ref (s.heap.objs.size + 1) :: us) := .cons rfl rv
  have hl := r2.length.symm.trans (F.many hq)
  have bd := hb _ (Value.ref (s.heap.objs.size + 1) :: us) I2.kIn ((congrArg List.length (List.append_nil _)).trans hl)
  rw [List.append_nil] at bd
  refine wpAny_call (make_map (f := f) I.kIn M.makes M.init (beq_iff_eq.mp M.fn) (codeAny_mono (F.runs (A := X.A.under (.builtin "type.__call__" ⟨.ref C :: us, []⟩)) (by first | exact gd | (show pushGuards _ _ = _; rw [gd]; rfl)) (room.make C us []) (I2.env0.make C us []) r2 bd hq) fun r s' z => ?_))
  match r, z with
  | .error u, z => exact passAt tk σ pins _ _ u s' I2 z
  | .ok (.ret u), z =>
    obtain ⟨v, H', I3, rv, ev, q3⟩ := I2.after z
    subst ev
    exact ⟨rv, ⟨V.ref (s.heap.objs.size + 1), H', I3, rfl, q3⟩⟩
  | .ok .next, z => exact z.elim
  | .ok .brk, z => exact z.elim
  | .ok .cont, z => exact z.elim
section
variable {X : Cx} {k n : Nat} {f : Addr} {sp : Sp} {W : WX} {x : Str} {p pos : Pos} {e : Expr} {es : List Expr} {t : TA}
/-- the call f(e, ..) -/
theorem pe_callG (gd : X.A.guards = some []) (tk : Takes X W) (F : FnR X.prog X.w X.K X.mg X.base k f n sp) (room : Room k X.A) (hg : Gl X x) (hm : X.mg x = some (.ref f)) (hk : PySem.W.keepIn X.K (.ref f) = true) (hx : (x == ("__debug__" : Str)) = false)
    (ha : PA X (e :: es) t) (h1 : starEach (e :: es) X.env = (false, eval e X.env) :: starEach es X.env) (h2 : (backTo pos (starEach es X.env)).any (·.1) = false) : PE X (.Call (.Name x p) (e :: es) [] pos) (tCallS sp (WE W) t) :=
  ⟨fun pins s σ H Q I h => wpAny_Call_Name_kw (ld_glob I hg hm (PySem.W.callWith_K (h₀ := X.base) I.ok.mod.kin hk (thn (ha.run pos pins s σ H _ I h) fun us s1 ⟨vs, H1, I1, rv, q⟩ => ⟨I1.kIn,
    F.runs X W rfl rfl rfl rfl rfl gd tk room I1 rv q⟩) h1 h2) hx)⟩
end
section
variable {P : Program} {w : World} {K : PySem.W.Frag} {mg : Str → Option Value} {base : Heap}
/-- a def of the text, by its body -/
theorem fun_G {x qual : Str} {st : Stmt} {f : Addr} {fd : FuncData} {N ps : List Str} {k : Nat} {sp : Sp} (F : Fun K x qual st f fd) (S : FnScope N ps (defScope st)) (len : ∀ vs H Q E, sp vs H Q E → vs.length = ps.length)
    (body : ∀ (cdv : Value) (A : Around) (below : List PySem.Env) (s : Shared) (H : Hp) (vs : List V) (Q : VK) (E : XK), A.guards = some [] → Room k (A.deeper (envOfC qual (defScope st) s.heap.objs.size f cdv)) → sp vs H Q E →
      ∃ t, PSs (cxOf (L2.CX P w) P w K mg base N qual (defScope st) f cdv A below s H E) (defBody st) t ∧ t { nx := fun _ H' => Q .non H', rt := Q } (L2.start N vs) H) : FnG P w K mg base (k + 1) f fd ps sp := by
  obtain ⟨oc, od, kV, doc, pm, an, cdv, ct, osl, rfl, lk, hcd⟩ := F.ex
  refine ⟨len _ _ _ _, fun {A below s H us vs Q E args} gd room e0 rv bd q => ?_⟩
  have inK : K.In s.heap := e0.mod.kin.keeps fun b o z => (e0.bs b o z).1
  have kinds : ∀ y ∈ ps.zip us, (defScope st).names.lookup y.1 = some .local ∨ ((defScope st).names.lookup y.1 = some .cell ∧ ((cellsFrom (s.heap.objs.size + 1) (defScope st).names []).lookup y.1).isSome = true) := fun y hy =>
    (S.par y.1 (List.of_mem_zip (a := y.1) (b := y.2) hy).1).imp id fun z => ⟨z, PySem.W.cellsFrom_some _ _ _ (.inl z)⟩
  refine codeAny_call_function room.depth (inK _ _ lk) rfl S.co S.gen rfl (PySem.W.codeRec_of inK hcd) (bd _ _ _ _ (wpAny_newFunctionEnv_cells S.kind kinds fun env he s1 ic => ?_))
  subst he
  refine ⟨(e0.mod.nolimit.keeps fun b o z => (e0.bs b o z).1).keeps ic.toInCall.keep, codeAny_func ?_⟩
  obtain ⟨t, ht, hq⟩ := body cdv A below s H vs Q E gd (room.deeper _) q
  refine wpAny_mono (ht.run [] s1 (L2.start N vs) H _ (inv_start S room.hd e0 (len _ _ _ _ q) rv ic) hq) (fun fl s' z => ?_) fun _ _ z => z
  have done : ∀ {σ' : L2.St} {H' : Hp} {v : V} {u : Value}, Inv (cxOf (L2.CX P w) P w K mg base N qual (defScope st) f cdv A below s H E) [] σ' H' s' → RelV v u → Q v H' → L2.CE below P w H s Q u s' := fun {σ' H' v u} J a b => ⟨v, H', J.os, J.bare, J.base, J.hok, a, b⟩
  match fl, z with
  | .ret _, ⟨_, _, _, J, a, b⟩ => exact done J a b
  | .next, ⟨_, _, J, b⟩ => exact done (v := .non) (u := .none) J rfl b
  | .brk, ⟨_, _, _, b⟩ => exact b.elim
  | .cont, ⟨_, _, _, b⟩ => exact b.elim
end
/-- the law's def, called with the script by the claim's caller, from a heap in which the script alone may be tracked -/
theorem law_at {P : Program} {w : World} {K : PySem.W.Frag} {mg mb : Str → Option Value} {k : Nat} {fa a : Addr} {fd : FuncData} {x : Str} {sp : Sp} {s : Shared} {vs : List Value} {H : Hp} {ob : Obj} (only : L2.Only H) (at_ : ∀ b u, H b = some u → b = a ∧ K.lookup a = none)
    (KX : K.In s.heap) (hns : s.heap.Ns mainGlobals mg) (hb : s.heap.Ns builtinsNs mb) (hbb : ∀ x : Str, x ≠ "__name__" → mb x = bootBuiltins x) (hlim : s.heap.NoLimit) (hg : s.gens = #[]) (oa : s.heap.get? a = some ob) (nd : ∀ es ep, ob.data ≠ .dict es ep) (hok : HOk P w H s.heap) (hr : Room k callerA)
    (F : ∀ base : Heap, K.In base → base.Ns mainGlobals mg → FnG P w K mg base k fa fd [x] sp) (bind : BindsTo s fd ⟨[.ref a], []⟩ [(x, .ref a)]) (hsp : sp [.ref a] H (fun v _ => v = .bl true) fun _ _ _ => False)
    (hCX : ∀ e s', L2.CX P w [] H s (fun _ _ _ => False) e s' → False) :
    codeAny (model P w) callerA (.call (.ref fa) ⟨[.ref a], []⟩) (fun r s' => r = .ok (.ret (.bool true)) ∧ OldK s.heap s'.heap ∧ s'.os = s.os ∧ AllBare s'.gens) s := by
  have free : ∀ {b : Addr}, (H b ≠ none → False) → H b = none := fun {b} z => by
    cases q : H b with
    | none => rfl
    | some u => exact (z (by rw [q]; simp)).elim
  have ns : ∀ {b : Addr} {m : Str → Option Value}, s.heap.Ns b m → (L2.hidT s.heap H).Ns b m := fun {b m} ⟨o, es, ep, q, d, r⟩ => ⟨o, es, ep, L2.hidT_get q (free fun z => by
    obtain ⟨u, hu⟩ := Option.ne_none_iff_exists'.mp z
    have := (at_ b u hu).1
    subst this
    rw [oa] at q
    cases q
    exact nd _ _ d), d, r⟩
  have kin : K.In (L2.hidT s.heap H) := fun b o q => L2.hidT_get (KX b o q) (free fun z => by
    obtain ⟨u, hu⟩ := Option.ne_none_iff_exists'.mp z
    have := at_ b u hu
    rw [this.1, this.2] at q
    cases q)
  have e0 : Env0 P w K mg (L2.hidT s.heap H) callerA [] s H := ⟨rfl, ⟨kin, ns hns, ⟨mb, ns hb, hbb⟩, (let ⟨mc, h1, h2⟩ := hlim; ⟨mc, ns h1, h2⟩)⟩, fun _ _ q => L2.of_hidT q, Nat.le_of_eq (L2.hidT_size _ _), trivial, fun _ z => (List.not_mem_nil z).elim, hok, .of_eq hg⟩
  refine codeAny_mono ((F _ kin (ns hns)).runs rfl hr e0 (us := [.ref a]) (.cons (show L2.RelV (.ref a) (.ref a) from rfl) .nil) bind hsp) fun r s' z => ?_
  match r, z with
  | .error e, z => exact (hCX e s' z).elim
  | .ok .next, z => exact z.elim
  | .ok .brk, z => exact z.elim
  | .ok .cont, z => exact z.elim
  | .ok (.ret u), ⟨v, H', os, bare, un, hok', rel, q⟩ =>
    cases (show v = .bl true from q)
    cases (show u = Value.bool true from rel)
    refine ⟨rfl, .of_keep fun b o q => ?_, os, bare⟩
    rcases only b with z | ⟨oz, xs, z⟩
    · exact un.keep b o q z (fun z => (List.not_mem_nil z).elim) (fun z => (List.not_mem_nil z).elim)
    · have q1 := (hok b _ z).1
      rw [q] at q1
      cases q1
      exact (hok' b _ (un.frzs b _ _ z)).1
/-- the goal that k_head leaves, from the promise of the law's def -/
theorem walk_G {l : PySem.W.OpenLaw} {n k : Nat} {q : Program} {loose : List Str} {XP : (Str → Option Value) → Heap → Prop} {YP : World → Heap → Prop} {d : DefRec} {K : Params → PySem.W.Frag} {sp : World → Sp} {x : Str} (hn : l.most = some n) (hn2 : n ≤ sizeLine) (hdf : d.params.defaults = []) (hr : Room k callerA)
    (hY : ∀ (w : World) (h : Heap), YP w h → (K w.params).In h)
    (F : ∀ (w : World) (mg : Str → Option Value) (fa : Addr) (h : Heap), (K w.params).In h → h.Ns mainGlobals mg → mg d.name = some (.ref fa) →
      ∃ fd : FuncData, (∀ (s : Shared) (u : Value), BindsTo s fd ⟨[u], []⟩ [(x, u)]) ∧ ∀ base : Heap, (K w.params).In base → base.Ns mainGlobals mg → FnG l.prog w (K w.params) mg base k fa fd [x] (sp w))
    (hsp : ∀ (w : World) (H : Hp) (a : Addr) (ns : List Int), ns.length ≤ n → SqL (K w.params) H a (ns.map V.int) → sp w [.ref a] H (fun v _ => v = .bl true) fun _ _ _ => False)
    (hCX : ∀ (w : World) (H : Hp) (s : Shared) (e : Value) (s' : Shared), L2.CX l.prog w [] H s (fun _ _ _ => False) e s' → False) :
    PySem.W.WalkO q loose XP YP l.row.toRowW d [] (fun f vs => PySem.call f vs) := by
  refine Att.attach_call hn hdf fun w s₀ s mg mb fa o pm cd doc a vs ns G Y ho hd hcd hmg hobj hints hlen hg => ?_
  have KX := hY w _ Y
  obtain ⟨fd, hb, hF⟩ := F w mg fa _ KX G.T.g hmg
  have rv := vals_ints hints
  have hsz : ns.length ≤ sizeLine := Nat.le_trans hlen hn2
  have nd : ∀ es ep, ({ cls := .type "list", data := .seq vs.toArray } : Obj).data ≠ .dict es ep := fun es ep z => by cases (show Data.seq vs.toArray _ = Data.dict es ep from z)
  cases hk : (K w.params).lookup a with
  | some o' =>
    have z := KX a o' hk
    rw [hobj] at z
    cases z
    exact law_at (vs := vs) (H := fun _ => none) (fun _ => .inl rfl) (fun b u z => by cases z) KX G.T.g G.T.b G.T.builtins G.T.nolimit hg hobj nd (fun b u z => by cases (show (none : Option HO) = some u from z)) hr hF (hb _ _)
      (hsp w _ a ns hlen (.inr ⟨_, vs.toArray, _, hk, rfl, rfl, rfl, by rw [List.size_toArray, hints.length]; exact hsz, by simpa using rv⟩)) fun e s' => hCX w _ s e s'
  | none =>
    have hH : ∀ b u, (if b = a then some (HO.frz { cls := .type "list", data := .seq vs.toArray } (.lst (ns.map V.int))) else none) = some u → b = a ∧ u = .frz { cls := .type "list", data := .seq vs.toArray } (.lst (ns.map V.int)) := fun b u z => by
      by_cases e : b = a
      · rw [if_pos e] at z; exact ⟨e, (Option.some.inj z).symm⟩
      · rw [if_neg e] at z; cases z
    exact law_at (vs := vs) (H := fun b => if b = a then some (.frz { cls := .type "list", data := .seq vs.toArray } (.lst (ns.map V.int))) else none) (fun b => by
        by_cases e : b = a
        · exact .inr ⟨_, _, if_pos e⟩
        · exact .inl (if_neg e)) (fun b u z => ⟨(hH b u z).1, hk⟩) KX G.T.g G.T.b G.T.builtins G.T.nolimit hg hobj nd (fun b u z => by
        obtain ⟨e1, e2⟩ := hH b u z
        subst e1 e2
        exact ⟨hobj, by rw [List.length_map]; exact hsz, vs, _, rv, hobj⟩) hr hF (hb _ _)
      (hsp w _ a ns hlen (.inl (.inr ⟨_, if_pos rfl⟩))) fun e s' => hCX w _ s e s'
end CH
end
section
namespace CH
open PySem L2 Evl PyProof.Rows

def SAs (X : Cx) (T : Tab) (W : WX) (as : CAs) (es : List Expr) (ρ : Env) (r : R (List D × Env)) : Prop := ∀ (L : List Addr) (σ : L2.St) (H Hs : Hp) (fp : List Addr) (Q : List V → Hp → Prop), StOk X.K T L Hs H ρ σ fp →
  Cont r (fun p => ∀ vs H' Hs' fp', Pst X.K T L σ Hs H fp ρ p.2 H' Hs' fp' → ArgV X.K T Hs' σ as p.1 vs → Q vs H') (XOk X.K T L σ Hs H fp ρ W) → wEs X es σ H Q
section
variable {X : Cx} {T : Tab} {W : WX} {sc : Scope} {e : Expr} {es : List Expr} {ρ : Env}
theorem sas_nil : SAs X T W .nil [] ρ (.ok ([], ρ)) := fun L σ H Hs fp Q h k => k [] H Hs fp (Pst.refl h) .nil
theorem sas_val {c : CE} {as : CAs} {re : R (OT × Env)} {rs : Env → R (List D × Env)} (he : SE X T W e ρ re) (hs : ∀ ρ1, SAs X T W as es ρ1 (rs ρ1)) :
    SAs X T W (.val c as) (e :: es) ρ (re.bind fun p => (rs p.2).bind fun q => .ok (p.1.toD :: q.1, q.2)) := by
  intro L σ H Hs fp Q h k
  rw [cont_bind] at k
  refine he L σ H Hs fp _ h (k.imp (fun p k v H1 Hs1 fp1 ft p1 => ?_) fun _ _ x => x)
  rw [cont_bind] at k
  obtain ⟨f1, f2⟩ := p1.freeze
  refine hs p.2 L σ H1 _ fp1 _ f1.st (k.imp (fun q k vs H2 Hs2 fp2 p2 a2 => ?_) fun ex ρ' x => x.later f1)
  exact k (v :: vs) H2 Hs2 fp2 (f1.trans p2) (.val (f2.mono p2.sp.ex) a2)
theorem slot_val {i : Nat} (hs : X.env.scope = sc) (h : slotB X.N sc i e = true) {σ : L2.St} {v : V} (hv : σ[i]? = some (some v)) {H : Hp} {Q : VK} (q : Q v H) : wE X e σ H Q := wE_of (slot_of hs h) ⟨v, hv, q⟩
/-- an argument by reference; its slot holds a value -/
theorem sas_ref {i : Nat} {as : CAs} {r : R (List D × Env)} (hs : X.env.scope = sc) (hp : slotB X.N sc i e = true) (hi : ∃ t, Env.tree ρ i = some t) (hr : SAs X T W as es ρ r) : SAs X T W (.ref i as) (e :: es) ρ r := by
  intro L σ H Hs fp Q h k
  obtain ⟨t, ht⟩ := hi
  obtain ⟨v, f, h1, h2, h3⟩ := h.rs.read ht
  exact slot_val hs hp h1 (hr L σ H Hs fp (fun vs H => Q (v :: vs) H) h (k.imp (fun q k vs H2 Hs2 fp2 p2 a2 => k (v :: vs) H2 Hs2 fp2 p2 (.ref h1 a2)) fun _ _ x => x))
/-- the call of a def -/
theorem se_call {f : Nat} {a : Addr} {n : Nat} {k : Nat} {x : Str} {p pos : Pos} {Φ : Phi} {as : CAs} {r : R (List D × Env)} (tk : Takes X W)
    (gd : X.A.guards = some []) (F : FnR X.prog X.w X.K X.mg X.base k a n (spF X.K T (Φ f) n)) (hr : Room k X.A) (hg : Gl X x) (hm : X.mg x = some (.ref a)) (hk : PySem.W.keepIn X.K (.ref a) = true) (hn : ∀ us, Φ f us ≠ .no → us.length = n)
    (hne : es ≠ []) (hst : nostar es = true) (hdb : (x == ("__debug__" : Str)) = false) (ha : SAs X T W as es ρ r) :
    SE X T W (.Call (.Name x p) es [] pos) ρ (r.bind fun q => match fillA as q.1 q.2 with
      | none => .no
      | some us => match Φ f us with
        | .ok (t, ws) => match backA as ws (goneA as q.2) with
          | some ρ2 => .ok (t, ρ2)
          | none => .no
        | .ex e _ => .ex e (goneA as q.2)
        | .no => .no) := by
  intro L σ H Hs fp Q h kk
  cases es with
  | nil => exact absurd rfl hne
  | cons e es =>
    have ke : isStar e = false ∧ nostar es = true := by simpa [nostar] using hst
    refine wE_of (pe_callG gd tk F hr hg hm hk hdb (paW X (e :: es) hst) (star_cons ke.1) (star_any ke.2)) ?_
    rw [cont_bind] at kk
    refine ha L σ H Hs fp _ h (kk.imp (fun q kk vs H1 Hs1 fp1 p1 av => ?_) fun _ _ x => x)
    obtain ⟨ds, ρ1⟩ := q
    simp only at kk
    split at kk
    · exact kk.elim
    · rename_i us hus
      have n0 : Φ f us ≠ .no := fun z => by rw [z] at kk; exact kk.elim
      obtain ⟨fc, fr, g1, g2, g3⟩ := fill_ok av hus p1.st.rs
      have nd := g3.nodup_iff.mp p1.st.nd
      have d := List.nodup_append.mp nd
      have sub : ∀ x ∈ fc, x ∈ fp1 := fun x hx => g3.mem_iff.mpr (by simp [hx])
      have subr : ∀ x ∈ fr, x ∈ fp1 := fun x hx => g3.mem_iff.mpr (by simp [hx])
      have rn : ∀ x ∈ fr, x ∉ fc := fun x hx hf => d.2.2 x hf x hx rfl
      have ln : ∀ x ∈ L, x ∉ fc := fun x hx hf => p1.st.lf x hx (sub x hf)
      refine ⟨by have e1 := g1.length; simp at e1; rw [← e1]; exact hn us n0, us, Hs1, fc, ⟨p1.st.ex, g1, d.1, fun x hx => p1.st.nf x (sub x hx), fun x hx => absurd hx (by simp), fun x hx => absurd hx (by simp)⟩, ?_⟩
      cases hΦ : Φ f us with
      | no => exact absurd hΦ n0
      | ok tw =>
        obtain ⟨t, ws⟩ := tw
        rw [hΦ] at kk
        intro v H2 Hs2 fc' ft st rp ndf nf sp
        simp only at kk st
        split at kk
        · rename_i ρ2 hb2
          have fr2 : RpS X.K T Hs2 H2 L (goneA as ρ1) σ fr := g2.step sp.ex (fun _ z => z) fun x hx o q => sp.fr x o q (hx.elim (rn x) (ln x))
          obtain ⟨fp2, m1, fq, m2, m3⟩ := back_ok av hus fr2 st.rs hb2
          have dfc := List.nodup_append.mp ndf
          have tr : ∀ x ∈ fr, ∃ o, H1 x = some o := fun x hx => p1.st.rs.tracked x (subr x hx)
          have out : ∀ x ∈ fr, x ∉ ft ++ fc' := fun x hx => sp.out (tr x hx) (rn x hx)
          have outL : ∀ x ∈ L, x ∉ ft ++ fc' := fun x hx => sp.out (p1.st.lt x hx).1 (ln x hx)
          have mem : ∀ x ∈ fp2, x ∈ fc' ∨ x ∈ fr := fun x hx => (List.mem_append.mp (m2.mem_iff.mp hx)).imp (fun z => m3.subset z) id
          refine kk v H2 Hs2 fp2 ft ⟨⟨st.ex, m1, m2.nodup_iff.mpr (List.nodup_append.mpr ⟨dfc.2.1.sublist m3, d.2.1, fun x hx y hy e => by
              subst e; exact out x hy (by simp [m3.subset hx])⟩), fun x hx => ?_, fun x hx hf => ?_, fun x hx => ⟨?_, sp.outHs (p1.st.lt x hx).1 (ln x hx) (p1.st.lt x hx).2⟩⟩, rp, List.nodup_append.mpr ⟨dfc.1, ?_, fun x hx y hy e => ?_⟩, nf, fun x hx hf => outL x hx (by simp [hf]), ?_, ?_⟩
          · rcases mem x hx with z | z
            · exact st.nf x z
            · exact sp.outHs (tr x z) (rn x z) (p1.st.nf x (subr x z))
          · rcases mem x hf with z | z
            · exact outL x hx (by simp [z])
            · exact p1.st.lf x hx (subr x z)
          · obtain ⟨o, q⟩ := (p1.st.lt x hx).1
            exact ⟨o, sp.fr x o q (ln x hx)⟩
          · exact m2.nodup_iff.mpr (List.nodup_append.mpr ⟨dfc.2.1.sublist m3, d.2.1, fun x hx y hy e => by subst e; exact out x hy (by simp [m3.subset hx])⟩)
          · subst e
            rcases mem x hy with z | z
            · exact dfc.2.2 x hx x z rfl
            · exact out x z (by simp [hx])
          · have w := p1.sp.trans (sp.wider (fp2 := fp1) sub fr subr)
            refine w.sub fun x hx => ?_
            rcases List.mem_append.mp hx with z | z
            · simp [z]
            · rcases mem x z with z | z <;> simp [z]
          · have l1 := lks_gone (as := as) hus
            rw [lks_back hus (fun i t ht => ?_) hb2, l1, p1.lk]
            have e2 : (lks (goneA as ρ1))[i]? = (lks ρ1)[i]? := by rw [l1]
            rw [lks_get, lks_get, own_get ht] at e2
            cases z : (goneA as ρ1)[i]? with
            | none => rw [z] at e2; simp at e2
            | some s =>
              rw [z] at e2
              cases s with
              | no => exact .inl rfl
              | ow u => exact .inr ⟨u, rfl⟩
              | lk u => simp [lkOf] at e2
        · exact kk.elim
      | ex e' ρ' =>
        rw [hΦ] at kk
        intro H2 Hs2 C d' ex sp xr
        simp only at kk
        have tr : ∀ x ∈ fr, ∃ o, H1 x = some o := fun x hx => p1.st.rs.tracked x (subr x hx)
        refine kk H2 Hs2 fr C d' ⟨⟨⟨ex, g2.step sp.ex (fun _ z => z) fun x hx o q => sp.fr x o q (hx.elim (rn x) (ln x)), d.2.1, fun x hx => sp.outHs (tr x hx) (rn x hx) (p1.st.nf x (subr x hx)), fun x hx hf => p1.st.lf x hx (subr x hf), fun x hx => ⟨?_, sp.outHs (p1.st.lt x hx).1 (ln x hx) (p1.st.lt x hx).2⟩⟩, ?_, ?_⟩, xr⟩
        · obtain ⟨o, q⟩ := (p1.st.lt x hx).1
          exact ⟨o, sp.fr x o q (ln x hx)⟩
        · have w := p1.sp.trans (sp.wider (fp2 := fp1) sub fr subr)
          exact w.sub fun x hx => by simp [hx]
        · rw [lks_gone (as := as) hus, p1.lk]
end

section
variable {K : PySem.W.Frag} {T : Tab} {Hs H Hs' H' : Hp} {L : List Addr} {σ : L2.St} {ρ ρ' : Env} {fp fp' : List Addr}
theorem RpOs.split : ∀ {ts : List OT} {vs : List V} {g : List Addr} {k : Nat} {t : OT}, RpOs K T Hs H ts vs g → ts[k]? = some t → ∃ v f g', vs[k]? = some v ∧ RpO K T Hs H t v f ∧ RpOs K T Hs H (ts.eraseIdx k) (vs.eraseIdx k) g' ∧ g.Perm (f ++ g')
  | _, _, _, k, _, .nil, e => by simp at e
  | _, _, _, 0, _, .cons h r, e => by simp at e; subst e; exact ⟨_, _, _, rfl, h, r, .refl _⟩
  | _, _, _, k + 1, _, .cons (f := f1) h r, e => by
    obtain ⟨v, f, g', h1, h2, h3, h4⟩ := RpOs.split (k := k) r (by simpa using e)
    refine ⟨v, f, f1 ++ g', by simpa using h1, h2, .cons h h3, ?_⟩
    exact (List.Perm.append_left f1 h4).trans (by rw [← List.append_assoc, ← List.append_assoc]; exact List.Perm.append_right g' List.perm_append_comm)
theorem RpOs.cut : ∀ {ts : List OT} {vs : List V} {g : List Addr} (n : Nat), RpOs K T Hs H ts vs g → ∃ g1 g2, RpOs K T Hs H (ts.take n) (vs.take n) g1 ∧ RpOs K T Hs H (ts.drop n) (vs.drop n) g2 ∧ g.Perm (g1 ++ g2)
  | _, _, g, 0, r => ⟨[], g, .nil, r, .refl _⟩
  | _, _, _, _ + 1, .nil => ⟨[], [], .nil, .nil, .refl _⟩
  | _, _, _, n + 1, .cons (f := f1) h r => by
    obtain ⟨g1, g2, r1, r2, p⟩ := r.cut n
    exact ⟨f1 ++ g1, g2, .cons h r1, r2, by rw [List.append_assoc]; exact List.Perm.append_left f1 p⟩
theorem RpOs.replace : ∀ {ts : List OT} {vs : List V} {g : List Addr} {j : Nat} {t : OT} {v : V} {f : List Addr}, RpOs K T Hs H ts vs g → j < ts.length → RpO K T Hs H t v f → ∃ g' rest, RpOs K T Hs H (ts.set j t) (vs.set j v) g' ∧ (g ++ f).Perm (g' ++ rest)
  | _, _, _, j, t, v, f, .nil, e, h => by simp at e
  | _, _, _, 0, t, v, f, .cons (f := f1) (g := g1) h0 r, e, h => ⟨f ++ g1, f1, .cons h r, by
      rw [List.append_assoc]
      exact (List.perm_append_comm).trans (List.Perm.append_right f1 List.perm_append_comm)⟩
  | _, _, _, j + 1, t, v, f, .cons (f := f1) (g := g1) h0 r, e, h => by
    obtain ⟨g', rest, h1, h2⟩ := RpOs.replace (j := j) r (by simpa using e) h
    exact ⟨f1 ++ g', rest, .cons h0 h1, by rw [List.append_assoc, List.append_assoc]; exact List.Perm.append_left f1 h2⟩
/-- what a change gives: the value t at y, the new items; the rest is dropped -/
structure MuOk (K : PySem.W.Frag) (T : Tab) (Hs H : Hp) (g : List Addr) (t : OT) (y : V) (us' : List OT) (ws : List V) : Prop where
  out : ∃ g' ft rest, RpO K T Hs H t y ft ∧ RpOs K T Hs H us' ws g' ∧ g.Perm ((ft ++ g') ++ rest)
/-- a name's own list in the state -/
theorem StOk.ownList {i : Nat} {us : List OT} (h : StOk K T L Hs H ρ σ fp) (e : ρ.ownL i = some us) : ∃ a vs g fr, σ[i]? = some (some (.ref a)) ∧ H a = some (.lst vs) ∧ RpOs K T Hs H us vs g ∧ fp.Perm (a :: g ++ fr) ∧ RpS K T Hs H L (ρ.set i .no) σ fr ∧ i < ρ.length ∧ ρ[i]? = some (.ow (.lst us)) := by
  have e0 : ρ[i]? = some (.ow (.lst us)) := by
    unfold Env.ownL at e
    split at e
    · rename_i e1; cases Option.some.inj e; exact e1
    · cases e
  obtain ⟨v, f, fr, h1, h2, h3, h4⟩ := h.rs.takeOut e0
  cases h2 with
  | lst q1 q2 => exact ⟨_, _, _, fr, h1, q1, q2, h3, h4, (List.getElem?_eq_some_iff.mp e0).1, e0⟩
/-- the list at a slot replaced -/
theorem mu_state {i : Nat} {us us' ts : List OT} {ws ys : List V} {a : Addr} {vs : List V} {g fr ft : List Addr} {t : OT} {y : V} {Hs0 H0 : Hp} {fp0 : List Addr} {ρ0 : Env} (ps : Posts K T L σ Hs0 H0 fp0 ρ0 ts ρ ys H Hs fp ft) (hσ : σ[i]? = some (some (.ref a))) (ha : H a = some (.lst vs)) (hu : RpOs K T Hs H us vs g)
    (pm : fp.Perm (a :: g ++ fr)) (hr : RpS K T Hs H L (ρ.set i .no) σ fr) (hi : i < ρ.length) (e0 : ρ[i]? = some (.ow (.lst us))) (m : MuOk K T Hs H (g ++ ft) t y us' ws) :
    ∃ fp' gt, Post K T L σ Hs0 H0 fp0 ρ0 t (ρ.set i (.ow (.lst us'))) y (L2.upd H a (.lst ws)) Hs fp' gt := by
  obtain ⟨g', gt, rest, r1, r2, p2⟩ := m.out
  have nd0 : (ft ++ (a :: g ++ fr)).Nodup := (List.Perm.append_left ft pm).nodup_iff.mp ps.nd
  -- all addresses in one row
  have all : (ft ++ fp).Perm (a :: (gt ++ g' ++ rest) ++ fr) := by
    have z1 : (ft ++ fp).Perm (ft ++ (a :: g ++ fr)) := List.Perm.append_left ft pm
    have z2 : (ft ++ (a :: g ++ fr)).Perm (a :: (g ++ ft) ++ fr) := by
      have : (ft ++ (a :: g ++ fr)) = (ft ++ (a :: g)) ++ fr := by simp
      rw [this]
      refine List.Perm.append_right fr ?_
      exact (List.perm_append_comm).trans (by simp)
    exact (z1.trans z2).trans (List.Perm.append_right fr (List.Perm.cons a p2))
  have ndA : (a :: (gt ++ g' ++ rest) ++ fr).Nodup := all.nodup_iff.mp ps.nd
  have mem : ∀ x, x = a ∨ x ∈ gt ∨ x ∈ g' ∨ x ∈ rest ∨ x ∈ fr → x ∈ ft ++ fp := fun x hx => all.mem_iff.mpr (by
    simp only [List.mem_append, List.mem_cons]
    rcases hx with h | h | h | h | h <;> simp [h])
  have nfA : ∀ x ∈ ft ++ fp, Hs x = none := fun x hx => (List.mem_append.mp hx).elim (ps.nf x) (ps.st.nf x)
  have aN : ∀ x, x ∈ gt ∨ x ∈ g' ∨ x ∈ fr → x ≠ a := fun x hx e => by
    subst e
    have := (List.nodup_cons.mp (show (x :: ((gt ++ g' ++ rest) ++ fr)).Nodup from ndA)).1
    exact this (by simp only [List.mem_append]; rcases hx with h | h | h <;> simp [h])
  have aL : a ∉ L := fun h => (by
    rcases List.mem_append.mp (mem a (.inl rfl)) with z | z
    · exact ps.lf a h z
    · exact ps.st.lf a h z)
  have keep : ∀ x, x ≠ a → ∀ o, H x = some o → (L2.upd H a (.lst ws)) x = some o := fun x hx o q => by rw [upd_ne hx]; exact q
  have k1 : RpOs K T Hs (L2.upd H a (.lst ws)) us' ws g' := r2.step (Ex.refl _) fun x hx => keep x (aN x (.inr (.inl hx)))
  have k2 : RpO K T Hs (L2.upd H a (.lst ws)) t y gt := r1.step (Ex.refl _) fun x hx => keep x (aN x (.inl hx))
  have k3 : RpS K T Hs (L2.upd H a (.lst ws)) L (ρ.set i .no) σ fr := hr.step (Ex.refl _) (fun _ z => z) fun x hx => keep x (by
    rcases hx with hx | hx
    · exact aN x (.inr (.inr hx))
    · exact fun e => aL (e ▸ hx))
  obtain ⟨fp', m1, m2⟩ := k3.put (i := i) (by simpa using hi) (by rw [List.getElem?_set_self hi]) (RpO.lst (upd_same (H := H) (a := a) (o := .lst ws)) k1)
  rw [List.set_set] at m1
  have eσ : σ.set i (some (.ref a)) = σ := by
    obtain ⟨hi2, e2⟩ := List.getElem?_eq_some_iff.mp hσ
    rw [← e2, List.set_getElem_self]
  rw [eσ] at m1
  have sub : ∀ x ∈ fp', x ∈ ft ++ fp := fun x hx => mem x (by
    have := m2.mem_iff.mp hx
    simp only [List.cons_append, List.mem_cons, List.mem_append] at this
    rcases this with h | h | h <;> simp [h])
  have subt : ∀ x ∈ gt, x ∈ ft ++ fp := fun x hx => mem x (.inr (.inl hx))
  have ndn : (gt ++ fp').Nodup := by
    have z : (a :: (gt ++ g') ++ fr).Nodup := by
      refine List.Nodup.sublist ?_ ndA
      simp
    have z2 : (gt ++ (a :: g' ++ fr)).Nodup := by
      refine List.Perm.nodup_iff ?_ |>.mp z
      have : (a :: (gt ++ g') ++ fr) = a :: (gt ++ (g' ++ fr)) := by simp
      rw [this]
      refine List.Perm.symm ?_
      have : (gt ++ (a :: g' ++ fr)) = gt ++ a :: (g' ++ fr) := by simp
      rw [this]
      exact List.perm_middle
    exact (List.Perm.append_left gt m2.symm).nodup_iff.mp z2
  have lt2 : ∀ x ∈ L, x ∉ ft ++ fp := fun x hx hf => (List.mem_append.mp hf).elim (ps.lf x hx) (ps.st.lf x hx)
  refine ⟨fp', gt, ⟨ps.st.ex.mut (nfA a (mem a (.inl rfl))), m1, (List.nodup_append.mp ndn).2.1, fun x hx => nfA x (sub x hx), fun x hx hf => lt2 x hx (sub x hf), fun x hx => ⟨?_, (ps.st.lt x hx).2⟩⟩, k2, ndn, fun x hx => nfA x (subt x hx), fun x hx hf => lt2 x hx (subt x hf), ?_, ?_⟩
  · obtain ⟨o, q⟩ := (ps.st.lt x hx).1
    exact ⟨o, keep x (fun e => aL (e ▸ hx)) o q⟩
  · have w : Stp (ft ++ fp) H Hs (ft ++ fp) (L2.upd H a (.lst ws)) Hs := Stp.updD (D := a) (mem a (.inl rfl))
    exact (ps.sp.trans w).sub fun x hx => (List.mem_append.mp hx).elim (subt x) (sub x)
  · rw [← ps.lk]
    exact lks_set e0 rfl
end
/-- xs.insert(i, y) -/
def rInsert : V → List V → Hp → VK → Prop := fun x vs H Q => ∃ (l : Addr) (xs : List V) (i : Int) (y : V), x = .ref l ∧ vs = [.int i, y] ∧ H l = some (.lst xs) ∧ xs.length < sizeLine ∧ 0 ≤ i ∧ i < 2 ^ 63 ∧ Q .non (L2.upd H l (.lst (xs.take i.toNat ++ [y] ++ xs.drop i.toNat)))
def Mu.nm : Mu → Str
  | .append => "append" | .extend => "extend" | .pop => "pop" | .popAt => "pop" | .insert => "insert" | .setIx => "__setitem__" | .remove => "remove"
section
variable {X : Cx} {T : Tab} {W : WX} {sc : Scope} {e : Expr} {es : List Expr} {ρ : Env}
theorem perm_nil {α : Type} (l : List α) : l.Perm (([] ++ l) ++ []) := by rw [List.append_nil, List.nil_append]
theorem mu_popAt {us ts : List OT} {r : OT × List OT} (h : muEv .popAt us ts = some r) : ∃ i, ts = [.sh (.int i)] ∧ (if -(2 ^ 63) ≤ i ∧ i < 2 ^ 63 then (seqIndex? i us.length).bind fun k => (us[k]?).map fun t => (t, us.eraseIdx k) else none) = some r := by
  unfold muEv at h
  split at h <;> first | contradiction | skip
  all_goals first | (rename_i z _ _ _; cases z; done) | exact ⟨_, rfl, h⟩
theorem mu_setIx {us ts : List OT} {r : OT × List OT} (h : muEv .setIx us ts = some r) : ∃ t i, ts = [t, .sh (.int i)] ∧ ((ixN us.length i).map fun j => (OT.sh .non, us.set j t)) = some r := by
  unfold muEv at h
  split at h <;> first | contradiction | skip
  all_goals exact ⟨_, _, rfl, h⟩
theorem mu_insert {us ts : List OT} {r : OT × List OT} (h : muEv .insert us ts = some r) : ∃ i t, ts = [.sh (.int i), t] ∧ (0 ≤ i ∧ i < 2 ^ 62 ∧ us.length < big) ∧ (OT.sh .non, us.take i.toNat ++ [t] ++ us.drop i.toNat) = r := by
  unfold muEv at h
  split at h <;> first | contradiction | skip
  all_goals
    split at h
    · rename_i hb
      exact ⟨_, _, rfl, hb, Option.some.inj h⟩
    · cases h
def MuR (X : Cx) (m : Mu) (H : Hp) (a : Addr) (ys vs : List V) (y : V) (ws : List V) : Prop := match m with
  | .append => ∀ Q : VK, Q y (L2.upd H a (.lst ws)) → rAppend (.ref a) ys H Q
  | .extend => ∀ Q : VK, Q y (L2.upd H a (.lst ws)) → rExtend (.ref a) ys H Q
  | .pop => ys = [] ∧ ∀ Q : VK, Q y (L2.upd H a (.lst ws)) → rPop (.ref a) [] H Q
  | .popAt => ∀ Q : VK, Q y (L2.upd H a (.lst ws)) → rPopAt (.ref a) ys H Q
  | .insert => ∀ Q : VK, Q y (L2.upd H a (.lst ws)) → rInsert (.ref a) ys H Q
  | .setIx => ∃ v k j, ys = [v, .int k] ∧ L2.ixN vs.length k = some j ∧ ws = vs.set j v
  | _ => False
/-- each change, by the layer's rule -/
theorem mu_rule {m : Mu} {Hs H : Hp} {us us' ts : List OT} {t : OT} {a : Addr} {vs ys : List V} {g ft : List Addr} (ex : Ex Hs H) (ha : H a = some (.lst vs)) (hu : RpOs X.K T Hs H us vs g) (hts : RpOs X.K T Hs H ts ys ft) (hev : muEv m us ts = some (t, us')) :
    ∃ y ws, MuOk X.K T Hs H (g ++ ft) t y us' ws ∧ MuR X m H a ys vs y ws := by
  cases m with
  | append =>
    match ts, hts, hev with
    | [t0], .cons (v := y0) (f := f0) h0 .nil, hev =>
      obtain ⟨hz, e1⟩ := guard_eq (show guard_ (decide (us.length < big)) (OT.sh .non, us ++ [t0]) = some (t, us') from hev)
      cases e1
      refine ⟨.non, vs ++ [y0], ⟨g ++ (f0 ++ []), [], [], .sh .non, hu.append (.cons h0 .nil), by simp⟩, fun Q q => ⟨a, vs, y0, rfl, rfl, ha, ?_, q⟩⟩
      rw [← hu.length, ← line]; exact of_decide_eq_true hz
    | [], _, hev => cases hev
    | _ :: _ :: _, _, hev => cases hev
  | extend =>
    match ts, hts, hev with
    | [t0], .cons (v := y0) (f := f0) h0 .nil, hev =>
      obtain ⟨ds, h1, h2⟩ := Option.bind_eq_some_iff.mp (show (t0.litems.bind fun ds => guard_ (decide (us.length + ds.length ≤ big)) (OT.sh .non, us ++ ds.map OT.sh)) = some (t, us') from hev)
      obtain ⟨hz, e1⟩ := guard_eq h2
      cases e1
      obtain ⟨b, zs, rfl, hb, rs⟩ := opd_litems ex ⟨_, h0⟩ h1
      refine ⟨.non, vs ++ zs, ⟨g ++ [], [], f0, .sh .non, hu.append (.of rs), by simp⟩, fun Q q => ⟨a, b, vs, zs, rfl, rfl, ha, hb, ?_, q⟩⟩
      rw [← hu.length, ← rs.length, ← line]; exact of_decide_eq_true hz
    | [], _, hev => cases hev
    | _ :: _ :: _, _, hev => cases hev
  | pop =>
    match ts, hts, hev with
    | [], .nil, hev =>
      obtain ⟨t0, h1, e1⟩ := Option.map_eq_some_iff.mp (show (us[us.length - 1]?).map (fun t => (t, us.dropLast)) = some (t, us') from hev)
      cases e1
      obtain ⟨v, f, g', h2, h3, h4, h5⟩ := hu.split h1
      have d1 : us.eraseIdx (us.length - 1) = us.dropLast := by rw [List.dropLast_eq_take, List.eraseIdx_eq_take_drop_succ]; simp; omega
      have d2 : vs.eraseIdx (us.length - 1) = vs.dropLast := by rw [hu.length, List.dropLast_eq_take, List.eraseIdx_eq_take_drop_succ]; simp; omega
      rw [d1, d2] at h4
      exact ⟨v, vs.dropLast, ⟨g', f, [], h3, h4, by simpa using h5⟩, rfl, fun Q q => ⟨a, vs, v, rfl, rfl, ha, by rw [← hu.length]; exact h2, q⟩⟩
    | _ :: _, _, hev => cases hev
  | popAt =>
    obtain ⟨i, e0, hv⟩ := mu_popAt hev
    clear hev
    subst e0
    match hts with
    | .cons h0 .nil =>
      split at hv
      · rename_i hb
        obtain ⟨k, h1, h2⟩ := Option.bind_eq_some_iff.mp hv
        obtain ⟨t0, h3, e1⟩ := Option.map_eq_some_iff.mp h2
        cases e1
        obtain ⟨v, f, g', k2, k3, k4, k5⟩ := hu.split h3
        cases h0 with
        | sh h0 =>
          cases h0
          exact ⟨v, _, ⟨g', f, [], k3, k4, by simpa using k5⟩, fun Q q => ⟨a, vs, i, k, v, rfl, rfl, ha, hb.1, hb.2, by rw [← hu.length]; exact h1, k2, q⟩⟩
      · cases hv
  | setIx =>
    obtain ⟨t0, i, e0, hv⟩ := mu_setIx hev
    clear hev
    subst e0
    obtain ⟨j, h1, e1⟩ := Option.map_eq_some_iff.mp hv
    cases e1
    match hts with
    | .cons (v := v0) (f := f0) h0 (.cons (f := f1) h1' .nil) =>
      cases h1' with
      | sh h2 =>
        cases h2
        have hj : j < us.length := by
          have := (ixN_seq h1).2.1
          exact this
        obtain ⟨g', rest, r1, r2⟩ := hu.replace (j := j) hj h0
        exact ⟨.non, vs.set j v0, ⟨g', [], rest, .sh .non, r1, by simpa using r2⟩, v0, i, j, rfl, by rw [← hu.length]; exact h1, rfl⟩
  | insert =>
    obtain ⟨i, t0, e0, ⟨b1, b2, b3⟩, e1⟩ := mu_insert hev
    clear hev
    subst e0
    cases e1
    match hts with
    | .cons h0 (.cons (v := v0) (f := f0) h1 .nil) =>
      cases h0 with
      | sh h0 =>
        cases h0
        obtain ⟨g1, g2, r1, r2, pm⟩ := hu.cut i.toNat
        refine ⟨.non, vs.take i.toNat ++ [v0] ++ vs.drop i.toNat, ⟨g1 ++ f0 ++ g2, [], [], .sh .non, ?_, ?_⟩, fun Q q => ⟨a, vs, i, v0, rfl, rfl, ha, by rw [← hu.length, ← line]; exact b3, b1, by omega, q⟩⟩
        · have r3 : RpOs X.K T Hs H [t0] [v0] f0 := by have := RpOs.cons h1 RpOs.nil; rw [List.append_nil] at this; exact this
          exact (r1.append r3).append r2
        · have p1 : (g1 ++ f0 ++ g2).Perm (g1 ++ g2 ++ f0) := by
            rw [List.append_assoc, List.append_assoc]
            exact List.Perm.append_left g1 List.perm_append_comm
          have p2 : (g ++ f0).Perm (g1 ++ g2 ++ f0) := List.Perm.append_right f0 pm
          simpa using p2.trans p1.symm
  | remove => cases ts <;> cases hev
end
end CH
end
section
namespace CH
open PySem L2 Evl PyProof.Rows

theorem Posts.freeze {K : PySem.W.Frag} {T : Tab} {L : List Addr} {σ : L2.St} {Hs H H' Hs' : Hp} {fp fp' ft : List Addr} {ρ ρ' : Env} {ts : List OT} {vs : List V} (p : Posts K T L σ Hs H fp ρ ts ρ' vs H' Hs' fp' ft) : Pst K T L σ Hs H fp ρ ρ' H' (frz Hs' H' ft) fp' ∧ Rps K T (frz Hs' H' ft) (toDs ts) vs := by
  have d := List.nodup_append.mp p.nd
  have nin : ∀ a ∈ fp', a ∉ ft := fun a ha hf => d.2.2 a hf a ha rfl
  refine ⟨⟨⟨frz_le p.st.ex, p.st.rs.step (frz_ex p.nf) (fun _ q => q) fun _ _ _ q => q, p.st.nd, fun a ha => by rw [frz_out (nin a ha)]; exact p.st.nf a ha, p.st.lf, fun a ha => ⟨(p.st.lt a ha).1, by rw [frz_out (p.lf a ha)]; exact (p.st.lt a ha).2⟩⟩, ⟨p.sp.ex.trans (frz_ex p.nf), p.sp.fr, fun a ha => p.sp.nw a (by simp [ha]), fun a o q => ?_⟩, p.lk⟩, p.rp.frz p.nf fun a ha => ha⟩
  by_cases h : a ∈ ft
  · exact .inr (p.sp.nw a (by simp [h]))
  · rw [frz_out h] at q; exact p.sp.dm a o q
section
variable {X : Cx} {T : Tab} {W : WX} {sc : Scope} {e : Expr} {es : List Expr} {ρ : Env} {pos : Pos}
theorem wT.mono {σ : L2.St} {H : Hp} {Q Q' : Bool → Hp → Prop} (h : wT X e σ H Q) (k : ∀ v H, Q v H → Q' v H) : wT X e σ H Q' := fun pins s I =>
  thn (h pins s I) fun u s' ⟨H', I', q⟩ => ⟨H', I', k u H' q⟩
theorem se_val {d : D} {z : V} (p : PE X e (tC z)) (r : ∀ Hs, Rp X.K T Hs d z) : SE X T W e ρ (.ok (.sh d, ρ)) := fun L σ H Hs fp Q h k => wE_of p (k z H Hs fp [] (Post.val h (r Hs)))
theorem se_v {i : Nat} (hs : X.env.scope = sc) (hp : slotB X.N sc i e = true) : SE X T W e ρ (getV ρ i) := by
  intro L σ H Hs fp Q h k
  unfold getV at k
  split at k
  · rename_i d e0
    obtain ⟨v, f, h1, h2, h3⟩ := h.rs.read e0
    cases h2 with
    | sh h2 => exact slot_val hs hp h1 (k v H Hs fp [] (Post.val h h2))
  · exact k.elim
theorem take_post {L : List Addr} {σ : L2.St} {H Hs : Hp} {fp : List Addr} {i : Nat} {t : OT} (h : StOk X.K T L Hs H ρ σ fp) (ht : Env.own ρ i = some t) : ∃ v f fr, σ[i]? = some (some v) ∧ Post X.K T L σ Hs H fp ρ t (ρ.set i .no) v H Hs fr f := by
  obtain ⟨v, f, fr, h1, h2, h3, h4⟩ := h.rs.takeOut (own_get ht)
  have nd := h3.nodup_iff.mp h.nd
  have d := List.nodup_append.mp nd
  have m : ∀ x, x ∈ f ∨ x ∈ fr → x ∈ fp := fun x hx => h3.mem_iff.mpr (List.mem_append.mpr hx)
  exact ⟨v, f, fr, h1, ⟨h.ex, h4, d.2.1, fun x hx => h.nf x (m x (.inr hx)), fun x hx hf => h.lf x hx (m x (.inr hf)), h.lt⟩, h2, nd, fun x hx => h.nf x (m x (.inl hx)), fun x hx hf => h.lf x hx (m x (.inl hf)), (Stp.refl _ _ _).sub fun x hx => m x (List.mem_append.mp hx), lks_set (own_get ht) rfl⟩
theorem se_take {i : Nat} (hs : X.env.scope = sc) (hp : slotB X.N sc i e = true) : SE X T W e ρ (match ρ.own i with
    | some t => .ok (t, ρ.set i .no)
    | none => .no) := by
  intro L σ H Hs fp Q h k
  cases ht : Env.own ρ i with
  | none => rw [ht] at k; exact k.elim
  | some t =>
    rw [ht] at k
    obtain ⟨v, f, fr, h1, p⟩ := take_post h ht
    exact slot_val hs hp h1 (k v H Hs fr f p)
theorem same_set {σ : L2.St} {i : Nat} {v : V} (h1 : σ[i]? = some (some v)) : σ.set i (some v) = σ := by
  obtain ⟨hi2, e2⟩ := List.getElem?_eq_some_iff.mp h1
  rw [← e2, List.set_getElem_self]
/-- a name's tree is frozen where it is -/
theorem frz_slot {L : List Addr} {σ : L2.St} {H Hs : Hp} {fp : List Addr} {i : Nat} {t : OT} (h : StOk X.K T L Hs H ρ σ fp) (ht : Env.own ρ i = some t) : ∃ v Hs' fp', σ[i]? = some (some v) ∧ Pst X.K T L σ Hs H fp ρ (ρ.set i (.ow (.sh t.toD))) H Hs' fp' ∧ Rp X.K T Hs' t.toD v := by
  obtain ⟨v, f, fr, h1, p⟩ := take_post h ht
  obtain ⟨p1, r1⟩ := p.freeze
  obtain ⟨fp', s1, s2⟩ := p1.st.store (i := i) (by simpa using own_lt ht) (.sh r1) (fun a ha => absurd ha (by simp)) .nil (fun a ha => absurd ha (by simp)) (fun a _ ha => absurd ha (by simp))
  rw [List.set_set, same_set h1] at s1
  exact ⟨v, _, fp', h1, ⟨s1, p1.sp.sub fun a ha => (s2 a ha).elim (fun z => absurd z (by simp)) id, lks_set (own_get ht) rfl⟩, r1⟩
theorem se_mv {i : Nat} (hs : X.env.scope = sc) (hp : slotB X.N sc i e = true) : SE X T W e ρ (match ρ.own i with
    | some t => .ok (.sh t.toD, ρ.set i (.ow (.sh t.toD)))
    | none => .no) := by
  intro L σ H Hs fp Q h k
  cases ht : Env.own ρ i with
  | none => rw [ht] at k; exact k.elim
  | some t =>
    rw [ht] at k
    obtain ⟨v, Hs', fp', h1, p, r⟩ := frz_slot h ht
    exact slot_val hs hp h1 (k v H Hs' fp' [] (p.post (Post.val p.st r)))
/-- a tuple, a list of written items -/
theorem se_tup {x1} {r : R (List OT × Env)} (hn : nostar es = true) (hr : SEs X T W es ρ r) : SE X T W (.Tuple es x1 pos) ρ (r.bind fun p => if p.1.length ≤ big then .ok (.sh (.tup (toDs p.1)), p.2) else .no) := by
  intro L σ H Hs fp Q h k
  rw [cont_bind] at k
  refine wE_of (pe_tup (paW X es hn)) (hr L σ H Hs fp _ h (k.imp (fun p k vs H1 Hs1 fp1 ft p1 => ?_) fun _ _ x => x))
  split at k
  · rename_i hl
    refine ⟨by rw [← p1.rp.length, ← line]; exact hl, fun a ha => ?_⟩
    obtain ⟨f1, f2⟩ := p1.freeze
    exact k _ _ _ _ _ (f1.post (New.post f1.st (New.tup f1.st.ex ha f2)))
  · exact k.elim
theorem se_lst {r : R (List OT × Env)} (hn : nostar es = true) (hr : SEs X T W es ρ r) : SE X T W (.List es pos) ρ (r.bind fun p => if p.1.length ≤ big then .ok (.lst p.1, p.2) else .no) := by
  intro L σ H Hs fp Q h k
  rw [cont_bind] at k
  refine wE_of (pe_lst (paW X es hn)) (hr L σ H Hs fp _ h (k.imp (fun p k vs H1 Hs1 fp1 ft p1 => ?_) fun _ _ x => x))
  split at k
  · rename_i hl
    refine ⟨by rw [← p1.rp.length, ← line]; exact hl, fun a ha => ?_⟩
    have tr : ∀ x ∈ ft ++ fp1, ∃ o, H1 x = some o := fun x hx => (List.mem_append.mp hx).elim (p1.rp.tracked x) (p1.st.rs.tracked x)
    have na : ∀ x, (∃ o, H1 x = some o) → x ≠ a := fun x ⟨o, q⟩ z => by subst z; rw [ha] at q; cases q
    refine k (.ref a) (L2.upd H1 a (.lst vs)) Hs1 fp1 (a :: ft) ⟨p1.st.grow (Ex.new ha) (Ex.refl _) (p1.st.ex.trans (Ex.new ha)) (fun _ _ q => .inl q), .lst upd_same (p1.rp.step (Ex.refl _) fun x hx o q => Ex.new ha x o q), ?_, fun x hx => ?_, fun x hx hf => ?_, ⟨p1.sp.ex, fun x o q n => Ex.new ha x o (p1.sp.fr x o q n), fun x hx => ?_, p1.sp.dm⟩, p1.lk⟩
    · exact List.nodup_cons.mpr ⟨fun hx => na a (tr a hx) rfl, p1.nd⟩
    · rcases List.mem_cons.mp hx with rfl | hx
      · exact none_of_ex p1.st.ex ha
      · exact p1.nf x hx
    · rcases List.mem_cons.mp hf with rfl | hf
      · exact na x (p1.st.lt x hx).1 rfl
      · exact p1.lf x hx hf
    · rcases List.mem_cons.mp hx with rfl | hx
      · exact p1.sp.back x (.inr ha)
      · exact p1.sp.nw x hx
  · exact k.elim
theorem se_one {op : BoolOp} {r : R (OT × Env)} (he : SE X T W e ρ r) : SE X T W (.BoolOp op [e] pos) ρ r := fun L σ H Hs fp Q h k => wE_of (pe_one (peW X e)) (he L σ H Hs fp Q h k)
theorem SE.later {L : List Addr} {σ : L2.St} {H Hs H1 Hs1 : Hp} {fp fp1 : List Addr} {ρ1 : Env} {r : R (OT × Env)} {Q : VK} (he : SE X T W e ρ1 r) (p : Pst X.K T L σ Hs H fp ρ ρ1 H1 Hs1 fp1)
    (k : Cont r (fun p => ∀ v H' Hs' fp' ft, Post X.K T L σ Hs H fp ρ p.1 p.2 v H' Hs' fp' ft → Q v H') (XOk X.K T L σ Hs H fp ρ W)) : wE X e σ H1 Q :=
  he L σ H1 Hs1 fp1 Q p.st (k.imp (fun q k v2 H2 Hs2 fp2 ft2 p2 => k _ _ _ _ _ (p.post p2)) fun ex ρ' x => x.later p)
theorem se_and {a b : Expr} {rest : List Expr} {ra : R (OT × Env)} {rb : Env → R (OT × Env)} (ha : SE X T W a ρ ra) (hb : ∀ ρ1, SE X T W (.BoolOp .And (b :: rest) pos) ρ1 (rb ρ1)) : SE X T W (.BoolOp .And (a :: b :: rest) pos) ρ (ra.bind fun p => match p.1 with
    | .sh (.bl true) => rb p.2
    | .sh (.bl false) => .ok (.sh (.bl false), p.2)
    | _ => .no) := by
  intro L σ H Hs fp Q h k
  rw [cont_bind] at k
  refine wE_of (pe_and (peW X a) (peW X _)) (ha L σ H Hs fp _ h (k.imp (fun p k v H1 Hs1 fp1 ft p1 => ?_) fun _ _ x => x))
  obtain ⟨t, ρ1⟩ := p
  simp only at k p1
  split at k
  · cases opd_bl ⟨_, p1.rp⟩
    exact ⟨true, rfl, (hb ρ1).later p1.pst k⟩
  · cases opd_bl ⟨_, p1.rp⟩
    exact ⟨false, rfl, k (.bl false) H1 Hs1 fp1 [] (p1.pst.post (Post.val p1.st (.bl false)))⟩
  · exact k.elim
theorem se_or {a b : Expr} {rest : List Expr} {ra : R (OT × Env)} {rb : Env → R (OT × Env)} (ha : SE X T W a ρ ra) (hb : ∀ ρ1, SE X T W (.BoolOp .Or (b :: rest) pos) ρ1 (rb ρ1)) : SE X T W (.BoolOp .Or (a :: b :: rest) pos) ρ (ra.bind fun p => match p.1 with
    | .sh (.bl false) => rb p.2
    | .sh (.bl true) => .ok (.sh (.bl true), p.2)
    | _ => .no) := by
  intro L σ H Hs fp Q h k
  rw [cont_bind] at k
  refine wE_of (pe_or (peW X a) (peW X _)) (ha L σ H Hs fp _ h (k.imp (fun p k v H1 Hs1 fp1 ft p1 => ?_) fun _ _ x => x))
  obtain ⟨t, ρ1⟩ := p
  simp only at k p1
  split at k
  · cases opd_bl ⟨_, p1.rp⟩
    exact ⟨false, rfl, (hb ρ1).later p1.pst k⟩
  · cases opd_bl ⟨_, p1.rp⟩
    exact ⟨true, rfl, k (.bl true) H1 Hs1 fp1 [] (p1.pst.post (Post.val p1.st (.bl true)))⟩
  · exact k.elim
theorem se_not {ra : R (OT × Env)} (ha : SE X T W e ρ ra) : SE X T W (.UnaryOp .Not e pos) ρ (ra.bind fun p => match p.1 with
    | .sh (.bl b) => .ok (.sh (.bl (!b)), p.2)
    | _ => .no) := by
  intro L σ H Hs fp Q h k
  rw [cont_bind] at k
  refine wE_of (pe_not (peW X e)) (ha L σ H Hs fp _ h (k.imp (fun p k v H1 Hs1 fp1 ft p1 => ?_) fun _ _ x => x))
  obtain ⟨t, ρ1⟩ := p
  simp only at k p1
  split at k
  · rename_i b
    cases opd_bl ⟨_, p1.rp⟩
    exact ⟨b, rfl, k _ H1 Hs1 fp1 [] (p1.pst.post (Post.val p1.st (.bl _)))⟩
  · exact k.elim
theorem se_ite {c a b : Expr} {rc : R (Bool × Env)} {ra rb : Env → R (OT × Env)} (hc : ST X T W c ρ rc) (ha : ∀ ρ1, SE X T W a ρ1 (ra ρ1)) (hb : ∀ ρ1, SE X T W b ρ1 (rb ρ1)) : SE X T W (.IfExp c a b pos) ρ (rc.bind fun p => if p.1 = true then ra p.2 else rb p.2) := by
  intro L σ H Hs fp Q h k
  rw [cont_bind] at k
  refine wE_of (pe_ifExp (ptW X c) (peW X a) (peW X b)) (hc L σ H Hs fp _ h (k.imp (fun p k H1 Hs1 fp1 p1 => ?_) fun _ _ x => x))
  obtain ⟨t, ρ1⟩ := p
  cases t with
  | true => exact (ha ρ1).later p1 k
  | false => exact (hb ρ1).later p1 k
theorem cm_rule (c : Cm) (hu : X.A.units + 66 < cLine) : OpR X (compareOp c.ast) (rCmS X.K T (cmpEv c)) := by
  cases c
  · exact cs_eq (by omega)
  · exact cs_ne (by omega)
  · exact cs_lt (by omega)
  · exact cs_le
  · exact cs_gt
  · exact cs_ge
  · exact cs_is
  · exact cs_isnot
  · exact cs_in (by omega)
  · exact cs_notin (by omega)
def chainR (o1 o2 : Cm) (ra : R (OT × Env)) (rb rc : Env → R (OT × Env)) : R (OT × Env) := ra.bind fun p => (rb p.2).bind fun q => match cmpEv o1 p.1 q.1 with
    | some true => (rc q.2).bind fun r => match cmpEv o2 q.1 r.1 with
      | some k => .ok (.sh (.bl k), r.2)
      | none => .no
    | some false => .ok (.sh (.bl false), q.2)
    | none => .no
theorem chain_read {o1 o2 : Cm} {a b c : Expr} {ra : R (OT × Env)} {rb rc : Env → R (OT × Env)} (ha : SE X T W a ρ ra) (hb : ∀ ρ1, SE X T W b ρ1 (rb ρ1)) (hc : ∀ ρ1, SE X T W c ρ1 (rc ρ1))
    {L : List Addr} {σ : L2.St} {H Hs : Hp} {fp : List Addr} {Q : VK} (h : StOk X.K T L Hs H ρ σ fp) (k : Cont (chainR o1 o2 ra rb rc) (fun p => ∀ b H' Hs' fp', p.1 = .sh (.bl b) → Pst X.K T L σ Hs H fp ρ p.2 H' Hs' fp' → Q (.bl b) H') (XOk X.K T L σ Hs H fp ρ W)) :
    tChain (rCmS X.K T (cmpEv o1)) (rCmS X.K T (cmpEv o2)) (wE X a) (wE X b) (wE X c) σ H Q := by
  unfold chainR at k
  rw [cont_bind] at k
  refine ha L σ H Hs fp _ h (k.imp (fun p k v H1 Hs1 fp1 ft p1 => ?_) fun _ _ x => x)
  rw [cont_bind] at k
  refine hb p.2 L σ H1 Hs1 fp1 _ p1.st (k.imp (fun q k y H2 Hs2 fp2 ft2 p2 => ?_) fun ex ρ' x => x.later p1.pst)
  have r1 := (p1.hold p2.pst).1
  have p12 := p1.pst.trans p2.pst
  cases hv : cmpEv o1 p.1 q.1 with
  | none => rw [hv] at k; exact k.elim
  | some d =>
    rw [hv] at k
    refine ⟨Hs2, p.1, q.1, d, p2.st.ex, ⟨_, r1⟩, ⟨_, p2.rp⟩, hv, d, rfl, ?_⟩
    cases d with
    | false => exact k false H2 Hs2 fp2 rfl p12
    | true =>
      have k : Cont ((rc q.2).bind fun r => match cmpEv o2 q.1 r.1 with
        | some k => .ok (OT.sh (.bl k), r.2)
        | none => .no) _ _ := k
      rw [cont_bind] at k
      refine hc q.2 L σ H2 Hs2 fp2 _ p2.st (k.imp (fun r k z H3 Hs3 fp3 ft3 p3 => ?_) fun ex ρ' x => x.later p12)
      have r2 := (p2.hold p3.pst).1
      cases hv2 : cmpEv o2 q.1 r.1 with
      | none => rw [hv2] at k; exact k.elim
      | some d2 =>
        rw [hv2] at k
        exact ⟨Hs3, q.1, r.1, d2, p3.st.ex, ⟨_, r2⟩, ⟨_, p3.rp⟩, hv2, k d2 H3 Hs3 fp3 rfl (p12.trans p3.pst)⟩
theorem se_chain {o1 o2 : Cm} {a b c : Expr} {ra : R (OT × Env)} {rb rc : Env → R (OT × Env)} (hu : X.A.units + 66 < cLine) (hm : lastMarks [o1.ast, o2.ast] [b, c] = false) (ha : SE X T W a ρ ra) (hb : ∀ ρ1, SE X T W b ρ1 (rb ρ1)) (hc : ∀ ρ1, SE X T W c ρ1 (rc ρ1)) :
    SE X T W (.Compare a [o1.ast, o2.ast] [b, c] pos) ρ (chainR o1 o2 ra rb rc) := fun L σ H Hs fp Q h k =>
  wE_of (pe_chain (cm_rule o1 hu) (cm_rule o2 hu) (peW X a) (peW X b) (peW X c) hm) (chain_read ha hb hc h (k.imp (fun p k b H' Hs' fp' e p1 => k (.bl b) H' Hs' fp' [] (p1.post (by rw [e]; exact Post.val p1.st (.bl b)))) fun _ _ x => x))
def truR (r : R (OT × Env)) : R (Bool × Env) := r.bind fun p => match truEv p.1 with
  | some b => .ok (b, p.2)
  | none => .no
theorem st_chain {o1 o2 : Cm} {a b c : Expr} {ra : R (OT × Env)} {rb rc : Env → R (OT × Env)} (hu : X.A.units + 66 < cLine) (hm : lastMarks [o1.ast, o2.ast] [b, c] = false) (ha : SE X T W a ρ ra) (hb : ∀ ρ1, SE X T W b ρ1 (rb ρ1)) (hc : ∀ ρ1, SE X T W c ρ1 (rc ρ1)) :
    ST X T W (.Compare a [o1.ast, o2.ast] [b, c] pos) ρ (truR (chainR o1 o2 ra rb rc)) := fun L σ H Hs fp Q h k => by
  unfold truR at k
  rw [cont_bind] at k
  exact wT_of (pt_chain (cm_rule o1 hu) (cm_rule o2 hu) (peW X a) (peW X b) (peW X c) hm) (chain_read ha hb hc h (k.imp (fun p k b H' Hs' fp' e p1 => ⟨b, rfl, by
    rw [e] at k
    exact k H' Hs' fp' p1⟩) fun _ _ x => x))
theorem st_cmp {c : Cm} {r : R (List OT × Env)} (hu : X.A.units + 66 < cLine) (h : opShape T.bn sc (.cmp c) e = some es) (ho : SOs X T W es ρ r) :
    ST X T W e ρ (truR (r.bind fun p => match (Op.cmp c).ev p.1 with
      | some t => .ok (t, p.2)
      | none => .no)) := by
  cases e <;> first | (simp [opShape] at h; done) | skip
  rename_i l ops rs pos
  match ops, rs, h with
  | [o], [rr], h =>
    obtain ⟨h1, rfl⟩ := guard_eq (show guard_ (decide (o = c.ast) && !behindInMarks o rr) [l, rr] = some es from h)
    rw [Bool.and_eq_true, Bool.not_eq_true'] at h1
    obtain ⟨h1, h2⟩ := h1
    cases of_decide_eq_true h1
    intro L σ H Hs fp Q h0 k
    unfold truR at k
    rw [cont_bind, cont_bind] at k
    refine wT_of (pt_cmpR (cm_rule (T := T) c hu) (peW X l) (peW X rr) h2) ?_
    refine wE2 (ho L σ H Hs fp (fun vs H1 => ∀ x y, vs = [x, y] → rCmS X.K T (cmpEv c) x y H1 fun z H' => ∃ k, z = .bl k ∧ Q k H') h0 (k.imp (fun p k vs H' Hs' fp' p1 o1 => ?_) fun _ _ x => x)) fun x y H1 q => q x y rfl
    rintro x y rfl
    cases hev : (Op.cmp c).ev p.1 with
    | none => rw [hev] at k; exact k.elim
    | some t =>
      rw [hev] at k
      obtain ⟨s1, t1, z1, z2, z3⟩ := ev2 (two_ev (f := fun s t => (cmpEv c s t).map fun b => .sh (.bl b)) (fun _ _ => rfl) rfl (fun _ => rfl) (fun _ _ _ _ => rfl)) hev o1
      obtain ⟨b, h3, rfl⟩ := Option.map_eq_some_iff.mp z3
      exact ⟨Hs', s1, t1, b, p1.st.ex, z1, z2, h3, b, rfl, k H' Hs' fp' p1⟩
  | [], _, h => simp [opShape] at h
  | _ :: _ :: _, _, h => simp [opShape] at h
  | [_], [], h => simp [opShape] at h
  | [_], _ :: _ :: _, h => simp [opShape] at h
theorem st_kin {x : Str} {ng : Bool} {kvs : List (Str × Int)} {r : R (List OT × Env)} (hs : X.env.scope = sc) (hk : DctOk X x kvs) (h : opShape T.bn sc (.kin x ng kvs) e = some es) (ho : SOs X T W es ρ r) :
    ST X T W e ρ (truR (r.bind fun p => match (Op.kin x ng kvs).ev p.1 with
      | some t => .ok (t, p.2)
      | none => .no)) := by
  intro L σ H Hs fp Q h0 k
  unfold truR at k
  rw [cont_bind, cont_bind] at k
  refine wT_of (sh_kinT hs hk h) (ho L σ H Hs fp _ h0 (k.imp (fun p k vs H' Hs' fp' p1 o1 => ?_) fun _ _ x => x))
  cases hev : (Op.kin x ng kvs).ev p.1 with
  | none => rw [hev] at k; exact k.elim
  | some t =>
    rw [hev] at k
    refine ⟨Hs', p.1, t, p1.st.ex, o1, hev, fun z H2 Hs2 ft n => ?_⟩
    have pp := p1.post (New.post p1.st n)
    have k : Cont (match truEv t with
      | some b => CH.R.ok (b, p.2)
      | none => .no) _ _ := k
    cases hb : truEv t with
    | none => rw [hb] at k; exact k.elim
    | some b =>
      rw [hb] at k
      obtain ⟨s1, _, h2⟩ := one_ev (f := kinEv ng kvs) (fun _ => rfl) rfl (fun _ _ _ => rfl) _ _ hev
      unfold kinEv at h2
      split at h2
      · cases Option.some.inj h2
        cases Option.some.inj (show some _ = some b from hb)
        have := n.rp
        cases this with
        | sh this => cases this; exact ⟨_, rfl, k H2 Hs2 fp' pp.pst⟩
      · cases h2
/-- an operand alone -/
def SO (X : Cx) (T : Tab) (W : WX) (e : Expr) (ρ : Env) (r : R (OT × Env)) : Prop := ∀ (L : List Addr) (σ : L2.St) (H Hs : Hp) (fp : List Addr) (Q : VK), StOk X.K T L Hs H ρ σ fp →
  Cont r (fun p => ∀ v H' Hs' fp', Pst X.K T L σ Hs H fp ρ p.2 H' Hs' fp' → Opd X.K T Hs' H' p.1 v → Q v H') (XOk X.K T L σ Hs H fp ρ W) → wE X e σ H Q
theorem so_e {r : R (OT × Env)} (he : SE X T W e ρ r) : SO X T W e ρ r := fun L σ H Hs fp Q h k => he L σ H Hs fp Q h (k.imp (fun p k v H' Hs' fp' ft p1 => k v H' Hs' fp' p1.pst ⟨ft, p1.rp⟩) fun _ _ x => x)
theorem so_bor {i : Nat} {p : List Str} (hs : X.env.scope = sc) (hp : pathB X.N sc i p e = true) : SO X T W e ρ (match (ρ.tree i).bind fun r => r.getP p with
    | some t => .ok (t, ρ)
    | none => .no) := by
  intro L σ H Hs fp Q h k
  cases ht : (Env.tree ρ i).bind fun r => r.getP p with
  | none => rw [ht] at k; exact k.elim
  | some t =>
    rw [ht] at k
    obtain ⟨r, h1, h2⟩ := Option.bind_eq_some_iff.mp ht
    obtain ⟨x, f, l1, l2, _⟩ := h.rs.read h1
    obtain ⟨v, g, r1, _, _, r3⟩ := path_read hs h.ex l1 l2 hp h2
    exact r3 _ (k v H Hs fp (Pst.refl h) ⟨g, r1⟩)
def plainTest : Expr → Bool
  | .UnaryOp .Not _ _ => false
  | .BoolOp .. => false
  | .IfExp .. => false
  | .Compare .. => false
  | _ => true
theorem plain_test {a : Expr} {env : PySem.Env} (h : plainTest a = true) : ∀ whole, isTrue a env whole = (do let v ← whole; standAt a.pos; holding [v] (truthy v)) := by
  intro whole
  cases a with
  | UnaryOp op x p => cases op <;> first | rfl | cases h
  | BoolOp => cases h
  | IfExp => cases h
  | Compare => cases h
  | _ => rfl
theorem st_val {r : R (OT × Env)} (hp : plainTest e = true) (ho : SO X T W e ρ r) : ST X T W e ρ (truR r) := by
  intro L σ H Hs fp Q h k
  unfold truR at k
  rw [cont_bind] at k
  refine wT_of (pt_truth (peW X e) (plain_test hp)) (ho L σ H Hs fp _ h (k.imp (fun p k v H' Hs' fp' p1 o1 => ?_) fun _ _ x => x))
  cases hv : truEv p.1 with
  | none => rw [hv] at k; exact k.elim
  | some b =>
    rw [hv] at k
    exact ⟨b, tru_of p1.st.ex o1 hv, k H' Hs' fp' p1⟩
theorem st_not {r : R (Bool × Env)} (h : ST X T W e ρ r) : ST X T W (.UnaryOp .Not e pos) ρ (r.bind fun p => .ok (!p.1, p.2)) := by
  intro L σ H Hs fp Q h0 k
  rw [cont_bind] at k
  exact wT_of (pt_not (ptW X e)) (h L σ H Hs fp _ h0 k)
/-- tests joined -/
def wAll (X : Cx) : List Expr → TT
  | [] => fun _ H Q => Q true H
  | e :: es => fun σ H Q => wT X e σ H fun c H1 => if c = true then wAll X es σ H1 Q else Q false H1
def wAny (X : Cx) : List Expr → TT
  | [] => fun _ H Q => Q false H
  | e :: es => fun σ H Q => wT X e σ H fun c H1 => if c = true then Q true H1 else wAny X es σ H1 Q
theorem pw_all : ∀ {es : List Expr}, es ≠ [] → PW X (.BoolOp .And es pos) (wAll X es)
  | [], h => absurd rfl h
  | [e], _ => ⟨fun wh pins s σ H Q I h => (pw_and1 (ptW X e)).run wh pins s σ H Q I (wT.mono h fun c H1 q => by
    cases c with
    | true => exact q
    | false => exact q)⟩
  | e :: f :: es, _ => pw_and (ptW X e) (pw_all (es := f :: es) (by simp))
theorem pw_any : ∀ {es : List Expr}, es ≠ [] → PW X (.BoolOp .Or es pos) (wAny X es)
  | [], h => absurd rfl h
  | [e], _ => ⟨fun wh pins s σ H Q I h => (pw_or1 (ptW X e)).run wh pins s σ H Q I (wT.mono h fun c H1 q => by
    cases c with
    | true => exact q
    | false => exact q)⟩
  | e :: f :: es, _ => pw_or (ptW X e) (pw_any (es := f :: es) (by simp))
def SAl (X : Cx) (T : Tab) (W : WX) (wl : List Expr → TT) (es : List Expr) (ρ : Env) (r : R (Bool × Env)) : Prop := ∀ (L : List Addr) (σ : L2.St) (H Hs : Hp) (fp : List Addr) (Q : Bool → Hp → Prop), StOk X.K T L Hs H ρ σ fp →
  Cont r (fun p => ∀ H' Hs' fp', Pst X.K T L σ Hs H fp ρ p.2 H' Hs' fp' → Q p.1 H') (XOk X.K T L σ Hs H fp ρ W) → wl es σ H Q
theorem sal_nil : SAl X T W (wAll X) [] ρ (.ok (true, ρ)) := fun L σ H Hs fp Q h k => k H Hs fp (Pst.refl h)
theorem say_nil : SAl X T W (wAny X) [] ρ (.ok (false, ρ)) := fun L σ H Hs fp Q h k => k H Hs fp (Pst.refl h)
theorem sal_cons {r : R (Bool × Env)} {rs : Env → R (Bool × Env)} (he : ST X T W e ρ r) (hs : ∀ ρ1, SAl X T W (wAll X) es ρ1 (rs ρ1)) : SAl X T W (wAll X) (e :: es) ρ (r.bind fun p => if p.1 = true then rs p.2 else .ok (false, p.2)) := by
  intro L σ H Hs fp Q h k
  rw [cont_bind] at k
  refine he L σ H Hs fp _ h (k.imp (fun p k H1 Hs1 fp1 p1 => ?_) fun _ _ x => x)
  obtain ⟨b, ρ1⟩ := p
  cases b with
  | true => exact hs ρ1 L σ H1 Hs1 fp1 Q p1.st (k.imp (fun q k H2 Hs2 fp2 p2 => k _ _ _ (p1.trans p2)) fun ex ρ' x => x.later p1)
  | false => exact k H1 Hs1 fp1 p1
theorem say_cons {r : R (Bool × Env)} {rs : Env → R (Bool × Env)} (he : ST X T W e ρ r) (hs : ∀ ρ1, SAl X T W (wAny X) es ρ1 (rs ρ1)) : SAl X T W (wAny X) (e :: es) ρ (r.bind fun p => if p.1 = true then .ok (true, p.2) else rs p.2) := by
  intro L σ H Hs fp Q h k
  rw [cont_bind] at k
  refine he L σ H Hs fp _ h (k.imp (fun p k H1 Hs1 fp1 p1 => ?_) fun _ _ x => x)
  obtain ⟨b, ρ1⟩ := p
  cases b with
  | false => exact hs ρ1 L σ H1 Hs1 fp1 Q p1.st (k.imp (fun q k H2 Hs2 fp2 p2 => k _ _ _ (p1.trans p2)) fun ex ρ' x => x.later p1)
  | true => exact k H1 Hs1 fp1 p1
theorem st_all {r : R (Bool × Env)} (hn : es ≠ []) (h : SAl X T W (wAll X) es ρ r) : ST X T W (.BoolOp .And es pos) ρ r := fun L σ H Hs fp Q h0 k => wT_of (pw_all hn).pt (h L σ H Hs fp Q h0 k)
theorem st_any {r : R (Bool × Env)} (hn : es ≠ []) (h : SAl X T W (wAny X) es ρ r) : ST X T W (.BoolOp .Or es pos) ρ r := fun L σ H Hs fp Q h0 k => wT_of (pw_any hn).pt (h L σ H Hs fp Q h0 k)
/-- a comprehension's tests: none, one -/
theorem sts_nil : STs X T W [] ρ (.ok (true, ρ)) := fun L σ H Hs fp Q h k => k H Hs fp (Pst.refl h)
theorem sts_one {r : R (Bool × Env)} (he : ST X T W e ρ r) : STs X T W [e] ρ (r.bind fun p => if p.1 = true then .ok (true, p.2) else .ok (false, p.2)) := fun L σ H Hs fp Q h k => by
  rw [cont_bind] at k
  exact he L σ H Hs fp Q h (k.imp (fun p k => by
    obtain ⟨b, ρ1⟩ := p
    cases b <;> exact k) fun _ _ x => x)
end
end CH
end
section
namespace CH
open PySem L2 Evl PyProof.Rows
section
variable {X : Cx} {T : Tab} {W : WX} {sc : Scope} {e : Expr} {es : List Expr} {ρ : Env} {pos : Pos}
theorem few_of {es : List Expr} {env : PySem.Env} {cpos : Pos} (hn : nostar es = true) (hl : es.length < 30) : ((backTo cpos (starEach es env)).all (fun x => !x.1) && (backToKw cpos (keywordEach [] env)).all (fun x => x.1.isSome)
      && decide (es.length + ([] : List Keyword).length + (if ([] : List Keyword).isEmpty then 0 else 1) < 30)) = true := by
  have h1 : (backTo cpos (starEach es env)).all (fun x => !x.1) = true := by
    have h := star_any (es := es) (env := env) (pos := cpos) hn
    rw [List.all_eq_not_any_not]
    simpa using h
  rw [h1]
  have h2 : decide (es.length + ([] : List Keyword).length + (if ([] : List Keyword).isEmpty then 0 else 1) < 30) = true := decide_eq_true (by simpa using hl)
  rw [h2]
  rfl
def muShape (m : Mu) : Expr → Option (Expr × List Expr)
  | .Call (.Attribute o name apos) es [] cpos => guard_ (decide (name = m.nm) && notCallB o && (apos.endLine == cpos.line) && nostar es && decide (es.length < 30) && (match m with
    | .append => decide (es.length = 1)
    | .extend => decide (es.length = 1)
    | .pop => es.isEmpty
    | .popAt => decide (es.length = 1)
    | .insert => decide (es.length = 2)
    | _ => false)) (o, es)
  | _ => none
/-- the reading of a change -/
def tMu (X : Cx) (m : Mu) (o : Expr) (es : List Expr) : TE := fun σ H Q => wE X o σ H fun x H1 => tyV X.K "list" x H1 ∧ wEs X es σ H1 fun ys H2 => ∃ a vs y ws, x = .ref a ∧ H2 a = some (.lst vs) ∧ (∀ Q : VK, Q y (L2.upd H2 a (.lst ws)) → match m with
    | .append => rAppend (.ref a) ys H2 Q
    | .extend => rExtend (.ref a) ys H2 Q
    | .pop => ys = [] ∧ rPop (.ref a) [] H2 Q
    | .popAt => rPopAt (.ref a) ys H2 Q
    | .insert => rInsert (.ref a) ys H2 Q
    | _ => False) ∧ Q y (L2.upd H2 a (.lst ws))
theorem sh_mu {m : Mu} {o : Expr} (h : muShape m e = some (o, es)) : PE X e (tMu X m o es) := by
  unfold muShape at h
  split at h <;> first | contradiction | skip
  rename_i o' name apos es' cpos
  obtain ⟨h1, h2⟩ := guard_eq h
  cases h2
  simp only [Bool.and_eq_true] at h1
  obtain ⟨⟨⟨⟨⟨k1, k2⟩, k3⟩, k4⟩, k5⟩, k6⟩ := h1
  have key : ∀ {id : String} {r : V → List V → Hp → VK → Prop}, Slot "list" m.nm id → typeOf (.builtin id) = pure (.type "method_descriptor") → MtR X id r → es ≠ [] → (∀ a ys H Q, (∀ y ws, (∀ Q : VK, Q y (L2.upd H a (.lst ws)) → match (generalizing := false) m with
      | .append => rAppend (.ref a) ys H Q
      | .extend => rExtend (.ref a) ys H Q
      | .pop => ys = [] ∧ rPop (.ref a) [] H Q
      | .popAt => rPopAt (.ref a) ys H Q
      | .insert => rInsert (.ref a) ys H Q
      | _ => False) → Q y (L2.upd H a (.lst ws)) → r (.ref a) ys H Q)) → PE X (.Call (.Attribute o name apos) es [] cpos) (tMu X m o es) := fun {id r} hs ht hm hne hr => by
    cases of_decide_eq_true k1
    cases es with
    | nil => exact absurd rfl hne
    | cons a as =>
      have ka : isStar a = false ∧ nostar as = true := by simpa [nostar] using k4
      refine ⟨fun pins s σ H Q I hw => (pe_bm PySem.F.plainAttrs_list hs ht hm (peW X o) (paW X (a :: as) k4) (base_of k2) (few_of k4 (of_decide_eq_true k5)) k3 (star_cons ka.1) (star_any ka.2)).run pins s σ H Q I (wE.mono hw fun x H1 ⟨ty, q⟩ => ⟨ty, wEs.mono q fun ys H2 ⟨p, vs, y, ws, e1, e2, e3, e4⟩ => ?_⟩)⟩
      subst e1
      exact hr p ys H2 Q y ws e3 e4
  cases m with
  | append =>
    exact key PySem.F.slot_list_append PySem.F.type_list_append mt_append (fun z => by subst z; simp at k6) fun a ys H Q y ws q w => q Q w
  | extend =>
    exact key PySem.F.slot_list_extend PySem.F.type_list_extend mt_extend (fun z => by subst z; simp at k6) fun a ys H Q y ws q w => q Q w
  | popAt =>
    exact key PySem.F.slot_list_pop PySem.F.type_list_pop mt_popAt (fun z => by subst z; simp at k6) fun a ys H Q y ws q w => q Q w
  | pop =>
    have e0 : es = [] := by simpa using k6
    subst e0
    cases of_decide_eq_true k1
    refine ⟨fun pins s σ H Q I hw => (pe_bm0 PySem.F.plainAttrs_list PySem.F.slot_list_pop PySem.F.type_list_pop mt_pop (peW X o) (base_of k2) k3).run pins s σ H Q I (wE.mono hw fun x H1 ⟨ty, q⟩ => ⟨ty, ?_⟩)⟩
    obtain ⟨p, vs, y, ws, e1, e2, e3, e4⟩ := (show (∃ a vs y ws, x = .ref a ∧ H1 a = some (.lst vs) ∧ (∀ Q : VK, Q y (L2.upd H1 a (.lst ws)) → ([] : List V) = [] ∧ rPop (.ref a) [] H1 Q) ∧ Q y (L2.upd H1 a (.lst ws))) from q)
    subst e1
    exact (e3 Q e4).2
  | insert =>
    exact key PySem.F.slot_list_insert PySem.F.type_list_insert mt_insert (fun z => by subst z; simp at k6) fun a ys H Q y ws q w => q Q w
  | setIx => cases k6
  | remove => cases k6
theorem ownL_get {ρ : Env} {i : Nat} {us : List OT} (e : ρ.ownL i = some us) : ρ[i]? = some (.ow (.lst us)) := by
  unfold Env.ownL at e
  split at e
  · rename_i e1; cases Option.some.inj e; exact e1
  · cases e
theorem se_mu {m : Mu} {o : Expr} {i : Nat} {r : R (List OT × Env)} (hs : X.env.scope = sc) (h : muShape m e = some (o, es)) (hp : slotB X.N sc i o = true) (hr : SEs X T W es ρ r) : SE X T W e ρ (match ρ.ownL i with
    | none => .no
    | some _ => r.bind fun p => match p.2.ownL i with
      | none => .no
      | some us => match muEv m us p.1 with
        | some (t, us') => .ok (t, p.2.set i (.ow (.lst us')))
        | none => .no) := by
  intro L σ H Hs fp Q h0 k
  refine wE_of (sh_mu h) ?_
  cases hl : ρ.ownL i with
  | none => rw [hl] at k; exact k.elim
  | some us0 =>
    rw [hl] at k
    obtain ⟨a, vs0, g0, fr0, h1, h2, _⟩ := h0.ownList hl
    refine slot_val hs hp h1 ⟨.inl ⟨rfl, _, SqL.of h2⟩, ?_⟩
    have k : Cont (r.bind fun p => match p.2.ownL i with
      | none => .no
      | some us => match muEv m us p.1 with
        | some (t, us') => .ok (t, p.2.set i (.ow (.lst us')))
        | none => .no) _ _ := k
    rw [cont_bind] at k
    refine hr L σ H Hs fp _ h0 (k.imp (fun p k ys H1 Hs1 fp1 ft p1 => ?_) fun _ _ x => x)
    cases hl1 : p.2.ownL i with
    | none => rw [hl1] at k; exact k.elim
    | some us =>
      rw [hl1] at k
      cases hev : muEv m us p.1 with
      | none => simp only [hev] at k; exact k.elim
      | some tu =>
        obtain ⟨t, us'⟩ := tu
        simp only [hev] at k
        obtain ⟨a2, vs, g, fr, q1, q2, q3, q4, q5, q6, q7⟩ := p1.st.ownList hl1
        rw [h1] at q1
        cases q1
        obtain ⟨y, ws, mo, mr⟩ := mu_rule p1.st.ex q2 q3 p1.rp hev
        obtain ⟨fp2, gt, po⟩ := mu_state p1 h1 q2 q3 q4 q5 q6 q7 mo
        refine ⟨a, vs, y, ws, rfl, q2, fun Q q => ?_, k y _ Hs1 fp2 gt po⟩
        cases m with
        | append => exact mr Q q
        | extend => exact mr Q q
        | pop => exact ⟨mr.1, mr.2 Q q⟩
        | popAt => exact mr Q q
        | setIx =>
          unfold muShape at h
          split at h <;> first | contradiction | skip
          obtain ⟨z, _⟩ := guard_eq h
          simp at z
        | insert => exact mr Q q
        | remove => exact mr
def wB (X : Cx) : Option Expr → TO
  | none => tNoPart
  | some e => tPart (wE X e)
theorem poW (X : Cx) : ∀ o : Option Expr, PO X o (wB X o)
  | none => po_none
  | some e => po_some (peW X e)
def SB (X : Cx) (T : Tab) (W : WX) (o : Option Expr) (ρ : Env) (r : R (Option Int × Env)) : Prop := ∀ (L : List Addr) (σ : L2.St) (H Hs : Hp) (fp : List Addr) (Q : Option Int → Hp → Prop), StOk X.K T L Hs H ρ σ fp →
  Cont r (fun p => ∀ H' Hs' fp', Pst X.K T L σ Hs H fp ρ p.2 H' Hs' fp' → Q p.1 H') (XOk X.K T L σ Hs H fp ρ W) → wB X o σ H Q
theorem sb_no : SB X T W none ρ (.ok (none, ρ)) := fun L σ H Hs fp Q h k => k H Hs fp (Pst.refl h)
theorem sb_at {r : R (OT × Env)} (he : SE X T W e ρ r) : SB X T W (some e) ρ (r.bind fun p => match p.1 with
    | .sh (.int i) => .ok (some i, p.2)
    | _ => .no) := by
  intro L σ H Hs fp Q h k
  rw [cont_bind] at k
  refine he L σ H Hs fp _ h (k.imp (fun p k v H1 Hs1 fp1 ft p1 => ?_) fun _ _ x => x)
  obtain ⟨t, ρ1⟩ := p
  simp only at k p1
  split at k
  · rename_i i
    exact ⟨i, opd_int ⟨_, p1.rp⟩, k H1 Hs1 fp1 p1.pst⟩
  · exact k.elim
def gB (X : Cx) (lo hi : Option Expr) : L2.St → Hp → ((Option Int × Option Int) → Hp → Prop) → Prop := fun σ H Q => wB X lo σ H fun l H1 => wB X hi σ H1 fun u H2 => Q (l, u) H2
theorem sg_b2 {lo hi : Option Expr} {f g : Env → R (Option Int × Env)} (hl : ∀ ρ, SB X T W lo ρ (f ρ)) (hh : ∀ ρ, SB X T W hi ρ (g ρ)) : SG X T W (gB X lo hi) (fun a b _ _ => a = b) ρ (b2 f g ρ) := by
  intro L σ H Hs fp Q h k
  unfold b2 at k
  rw [cont_bind] at k
  refine hl ρ L σ H Hs fp _ h (k.imp (fun p k H1 Hs1 fp1 p1 => ?_) fun _ _ x => x)
  rw [cont_bind] at k
  exact hh p.2 L σ H1 Hs1 fp1 _ p1.st (k.imp (fun q k H2 Hs2 fp2 p2 => k (p.1, q.1) H2 Hs2 fp2 (p1.trans p2) rfl) fun ex ρ' x => x.later p1)
def slcR (r : R ((OT × (Option Int × Option Int)) × Env)) : R (OT × Env) := r.bind fun p => match slcEv p.1.2.1 p.1.2.2 p.1.1 with
  | some w => .ok (w, p.2)
  | none => .no
theorem se_slc {lo hi : Option Expr} {p2 : Pos} {r : R ((OT × (Option Int × Option Int)) × Env)} (hr : SG X T W (fun σ H (Q : V × (Option Int × Option Int) → Hp → Prop) => wE X e σ H fun x H1 => gB X lo hi σ H1 fun b H2 => Q (x, b) H2) (fun a b Hs H => Opd X.K T Hs H a.1 b.1 ∧ a.2 = b.2) ρ r) :
    SE X T W (.Subscript e (.Slice lo hi none p2) pos) ρ (slcR r) := by
  intro L σ H Hs fp Q h k
  unfold slcR at k
  rw [cont_bind] at k
  refine wE_of (pe_slice sls (peW X e) (poW X lo) (poW X hi)) (hr L σ H Hs fp (fun b H => rSlcS X.K T b.1 b.2.1 b.2.2 H Q) h (k.imp (fun p k b H' Hs' fp' p1 o => ?_) fun _ _ x => x))
  obtain ⟨o1, o2⟩ := o
  cases hv : slcEv p.1.2.1 p.1.2.2 p.1.1 with
  | none => rw [hv] at k; exact k.elim
  | some w =>
    rw [hv] at k
    exact ⟨Hs', p.1.1, w, p1.st.ex, o1, by rw [← o2]; exact hv, fun z H2 Hs2 ft n => k z H2 Hs2 fp' ft (p1.post (New.post p1.st n))⟩
theorem si_rng1 {a : Expr} {r : R (OT × Env)} (ha : SE X T W a ρ r) : SI X T W (iRng1 (wEs X [a])) ρ id (r.bind fun p => match p.1 with
    | .sh (.int j) => if -(2 ^ 62) ≤ j ∧ j < 2 ^ 62 then .ok ((List.range j.toNat).map fun i => .int (i : Nat), p.2) else .no
    | _ => .no) := by
  intro L σ H Hs fp F R h hF k
  rw [cont_bind] at k
  refine ha L σ H Hs fp _ h (k.imp (fun p k v H1 Hs1 fp1 ft p1 => ?_) fun _ _ x => x)
  obtain ⟨t, ρ1⟩ := p
  simp only at k p1
  split at k
  · rename_i j
    cases opd_int ⟨_, p1.rp⟩
    split at k
    · rename_i hb
      refine ⟨j, rfl, hb.1, hb.2, k (Itr 0 j.toNat) (fun _ _ _ => True) L H1 Hs1 fp1 ?_ trivial p1.pst.opn⟩
      have := walk_rng (K := X.K) (T := T) (lo := 0) (n := j.toNat)
      simpa only [Int.zero_add] using this
    · exact k.elim
  · exact k.elim
theorem si_rng2 {a b : Expr} {ra : R (OT × Env)} {rb : Env → R (OT × Env)} (ha : SE X T W a ρ ra) (hb : ∀ ρ1, SE X T W b ρ1 (rb ρ1)) : SI X T W (iRng2 (wEs X [a, b])) ρ id (ra.bind fun p => (rb p.2).bind fun q => match p.1, q.1 with
    | .sh (.int i), .sh (.int j) => if -(2 ^ 62) ≤ i ∧ i < 2 ^ 62 ∧ -(2 ^ 62) ≤ j ∧ j < 2 ^ 62 then .ok ((List.range (j - i).toNat).map fun k => .int (i + (k : Nat)), q.2) else .no
    | _, _ => .no) := by
  intro L σ H Hs fp F R h hF k
  rw [cont_bind] at k
  refine ha L σ H Hs fp _ h (k.imp (fun p k v H1 Hs1 fp1 ft p1 => ?_) fun _ _ x => x)
  rw [cont_bind] at k
  refine hb p.2 L σ H1 Hs1 fp1 _ p1.st (k.imp (fun q k v2 H2 Hs2 fp2 ft2 p2 => ?_) fun ex ρ' x => x.later p1.pst)
  have p12 := p1.pst.trans p2.pst
  obtain ⟨t, ρ1⟩ := p
  obtain ⟨u, ρ2⟩ := q
  simp only at k p1 p2 p12
  split at k
  · cases opd_int ⟨_, p1.rp⟩
    cases opd_int ⟨_, p2.rp⟩
    split at k
    · rename_i hb
      exact ⟨_, _, rfl, hb, k (Itr _ _) (fun _ _ _ => True) L H2 Hs2 fp2 walk_rng trivial p12.opn⟩
    · exact k.elim
  · exact k.elim
theorem zipD_get : ∀ {xs ys : List D} {i : Nat} {d : D}, (zipD xs ys)[i]? = some d → ∃ x y, xs[i]? = some x ∧ ys[i]? = some y ∧ d = .tup [x, y]
  | a :: as, b :: bs, 0, d, h => by simp [zipD] at h; exact ⟨a, b, rfl, rfl, h.symm⟩
  | a :: as, b :: bs, i + 1, d, h => by
    obtain ⟨x, y, h1, h2, h3⟩ := zipD_get (xs := as) (ys := bs) (i := i) (d := d) (by simpa [zipD] using h)
    exact ⟨x, y, by simpa using h1, by simpa using h2, h3⟩
  | [], _, _, _, h => by simp [zipD] at h
  | _ :: _, [], _, _, h => by simp [zipD] at h
theorem zipD_len : ∀ xs ys : List D, xs.length ≤ (zipD xs ys).length ∨ ys.length ≤ (zipD xs ys).length
  | a :: as, b :: bs => by
    have := zipD_len as bs
    simp only [zipD, List.length_cons]
    omega
  | [], _ => .inl (Nat.zero_le _)
  | _ :: _, [] => .inr (Nat.zero_le _)
theorem enmD_get : ∀ {xs : List D} {n i : Nat} {d : D}, (enmD n xs)[i]? = some d → ∃ x, xs[i]? = some x ∧ d = .tup [.int ((n + i : Nat) : Int), x]
  | a :: as, n, 0, d, h => by simp [enmD] at h; exact ⟨a, rfl, h.symm⟩
  | a :: as, n, i + 1, d, h => by
    obtain ⟨x, h1, h2⟩ := enmD_get (xs := as) (n := n + 1) (i := i) (d := d) (by simpa [enmD] using h)
    exact ⟨x, by simpa using h1, by rw [h2]; congr 3; omega⟩
  | [], _, _, _, h => by simp [enmD] at h
theorem enmD_len : ∀ (xs : List D) (n : Nat), (enmD n xs).length = xs.length
  | [], _ => rfl
  | a :: as, n => by simp [enmD, enmD_len as]
/-- a list at an address of which nothing changes -/
def LstAt (K : PySem.W.Frag) (T : Tab) (a : Addr) (ds : List D) (Hs : Hp) : Prop := ∃ vs, SqL K Hs a vs ∧ Rps K T Hs ds vs
def TupAt (K : PySem.W.Frag) (T : Tab) (a : Addr) (ds : List D) (Hs : Hp) : Prop := ∃ vs, SqT K Hs a vs ∧ Rps K T Hs ds vs
theorem LstAt.mono {K : PySem.W.Frag} {a : Addr} {ds : List D} {Hs Hs' : Hp} (e : Ex Hs Hs') (h : LstAt K T a ds Hs) : LstAt K T a ds Hs' := let ⟨vs, h1, h2⟩ := h; ⟨vs, ex_l e h1, h2.mono e⟩
theorem TupAt.mono {K : PySem.W.Frag} {a : Addr} {ds : List D} {Hs Hs' : Hp} (e : Ex Hs Hs') (h : TupAt K T a ds Hs) : TupAt K T a ds Hs' := let ⟨vs, h1, h2⟩ := h; ⟨vs, ex_t e h1, h2.mono e⟩
theorem walk_zL {K : PySem.W.Frag} {a b : Addr} {xs ys : List D} : Walk K T (Itz K a b) (zipD xs ys) (fun _ Hs _ => LstAt K T a xs Hs ∧ LstAt K T b ys Hs) where
  keep := fun h s => ⟨h.1.mono s.ex, h.2.mono s.ex⟩
  go := by
    intro i d H Hs fp ⟨⟨vs, h1, h2⟩, ⟨us, h3, h4⟩⟩ e hd
    obtain ⟨x, y, e1, e2, rfl⟩ := zipD_get hd
    obtain ⟨v, q1, q2⟩ := h2.get e1
    obtain ⟨u, q3, q4⟩ := h4.get e2
    refine ⟨⟨vs, us, v, u, ex_l e h1, ex_l e h3, q1, q3⟩, fun z H' ⟨p, v', u', e3, e4, e5, e6, e7⟩ => ?_⟩
    have k1 := e6 vs (ex_l e h1)
    have k2 := e7 us (ex_l e h3)
    rw [q1] at k1
    rw [q3] at k2
    cases k1
    cases k2
    subst e3 e5
    exact ⟨_, New.tup e e4 (.cons q2 (.cons q4 .nil))⟩
  stop := by
    intro H Hs fp ⟨⟨vs, h1, h2⟩, ⟨us, h3, h4⟩⟩ e
    exact ⟨vs, us, ex_l e h1, ex_l e h3, by rw [← h2.length, ← h4.length]; exact zipD_len xs ys⟩
theorem walk_zT {K : PySem.W.Frag} {a b : Addr} {xs ys : List D} : Walk K T (RZ.ItzT K a b) (zipD xs ys) (fun _ Hs _ => TupAt K T a xs Hs ∧ TupAt K T b ys Hs) where
  keep := fun h s => ⟨h.1.mono s.ex, h.2.mono s.ex⟩
  go := by
    intro i d H Hs fp ⟨⟨vs, h1, h2⟩, ⟨us, h3, h4⟩⟩ e hd
    obtain ⟨x, y, e1, e2, rfl⟩ := zipD_get hd
    obtain ⟨v, q1, q2⟩ := h2.get e1
    obtain ⟨u, q3, q4⟩ := h4.get e2
    refine ⟨⟨vs, us, v, u, ex_t e h1, ex_t e h3, q1, q3⟩, fun z H' ⟨p, v', u', e3, e4, e5, e6, e7⟩ => ?_⟩
    have k1 := e6 vs (ex_t e h1)
    have k2 := e7 us (ex_t e h3)
    rw [q1] at k1
    rw [q3] at k2
    cases k1
    cases k2
    subst e3 e5
    exact ⟨_, New.tup e e4 (.cons q2 (.cons q4 .nil))⟩
  stop := by
    intro H Hs fp ⟨⟨vs, h1, h2⟩, ⟨us, h3, h4⟩⟩ e
    exact ⟨vs, us, ex_t e h1, ex_t e h3, by rw [← h2.length, ← h4.length]; exact zipD_len xs ys⟩
theorem walk_en {K : PySem.W.Frag} {a : Addr} {xs : List D} : Walk K T (Ite K a) (enmD 0 xs) (fun _ Hs _ => LstAt K T a xs Hs) where
  keep := fun h s => h.mono s.ex
  go := by
    intro i d H Hs fp ⟨vs, h1, h2⟩ e hd
    obtain ⟨x, e1, rfl⟩ := enmD_get hd
    obtain ⟨v, q1, q2⟩ := h2.get e1
    refine ⟨⟨vs, v, ex_l e h1, q1⟩, fun z H' ⟨p, v', e3, e4, e5, e6⟩ => ?_⟩
    have k1 := e6 vs (ex_l e h1)
    rw [q1] at k1
    cases k1
    subst e3 e5
    rw [Nat.zero_add]
    exact ⟨_, New.tup e e4 (.cons (.int _) (.cons q2 .nil))⟩
  stop := by
    intro H Hs fp ⟨vs, h1, h2⟩ e
    exact ⟨vs, ex_l e h1, by rw [enmD_len, h2.length]; exact Nat.le_refl _⟩
theorem lst_at {K : PySem.W.Frag} {Hs H : Hp} {d : D} {ds : List D} {v : V} {f : List Addr} (r : RpO K T Hs H (.sh d) v f) (h : d = .lst ds ∨ d = .flst ds) : ∃ a, v = .ref a ∧ LstAt K T a ds Hs := by
  cases r with
  | sh r =>
    rcases h with rfl | rfl
    · cases r with
      | lst h1 h2 => exact ⟨_, rfl, _, sq_of h1, h2⟩
    · cases r with
      | flst h1 h2 => exact ⟨_, rfl, _, h1, h2⟩
theorem tup_at {K : PySem.W.Frag} {Hs H : Hp} {ds : List D} {v : V} {f : List Addr} (r : RpO K T Hs H (.sh (.tup ds)) v f) : ∃ a, v = .ref a ∧ TupAt K T a ds Hs := by
  cases r with
  | sh r => cases r with
    | tup h1 h2 => exact ⟨_, rfl, _, h1, h2⟩
theorem zip_parts {t u : OT} {ds : List D} (h : zipEv t u = some ds) : (∃ xs ys, t = .sh (.tup xs) ∧ u = .sh (.tup ys) ∧ ds = zipD xs ys) ∨ ∃ d1 d2 xs ys, t = .sh d1 ∧ u = .sh d2 ∧ (d1 = .lst xs ∨ d1 = .flst xs) ∧ (d2 = .lst ys ∨ d2 = .flst ys) ∧ ds = zipD xs ys := by
  unfold zipEv at h
  split at h
  · exact .inl ⟨_, _, rfl, rfl, (Option.some.inj h).symm⟩
  · exact .inr ⟨_, _, _, _, rfl, rfl, .inl rfl, .inl rfl, (Option.some.inj h).symm⟩
  · exact .inr ⟨_, _, _, _, rfl, rfl, .inr rfl, .inr rfl, (Option.some.inj h).symm⟩
  · exact .inr ⟨_, _, _, _, rfl, rfl, .inl rfl, .inr rfl, (Option.some.inj h).symm⟩
  · exact .inr ⟨_, _, _, _, rfl, rfl, .inr rfl, .inl rfl, (Option.some.inj h).symm⟩
  · cases h
theorem si_zip {a b : Expr} {ra : R (OT × Env)} {rb : Env → R (OT × Env)} (ha : SE X T W a ρ ra) (hb : ∀ ρ1, SE X T W b ρ1 (rb ρ1)) : SI X T W (RZ.iZipA X.K (wEs X [a, b])) ρ id (ra.bind fun p => (rb p.2).bind fun q => match zipEv p.1 q.1 with
    | some ds => .ok (ds, q.2)
    | none => .no) := by
  intro L σ H Hs fp F R h hF k
  rw [cont_bind] at k
  refine ha L σ H Hs fp _ h (k.imp (fun p k v H1 Hs1 fp1 ft p1 => ?_) fun _ _ x => x)
  rw [cont_bind] at k
  refine hb p.2 L σ H1 Hs1 fp1 _ p1.st (k.imp (fun q k v2 H2 Hs2 fp2 ft2 p2 => ?_) fun ex ρ' x => x.later p1.pst)
  have p12 := p1.pst.trans p2.pst
  cases hz : zipEv p.1 q.1 with
  | none => rw [hz] at k; exact k.elim
  | some ds =>
    rw [hz] at k
    have eS := p2.pst.sp.ex
    rcases zip_parts hz with ⟨xs, ys, e1, e2, rfl⟩ | ⟨d1, d2, xs, ys, e1, e2, f1, f2, rfl⟩
    · obtain ⟨a, rfl, t1⟩ := tup_at (e1 ▸ p1.rp)
      obtain ⟨b, rfl, t2⟩ := tup_at (e2 ▸ p2.rp)
      have t1 := t1.mono eS
      obtain ⟨vs, z1, z2⟩ := id t1
      obtain ⟨us, z3, z4⟩ := id t2
      exact ⟨a, b, vs, us, rfl, .inr ⟨ex_t p2.st.ex z1, ex_t p2.st.ex z3, k _ _ L H2 Hs2 fp2 walk_zT ⟨t1, t2⟩ p12.opn⟩⟩
    · obtain ⟨a, rfl, t1⟩ := lst_at (e1 ▸ p1.rp) f1
      obtain ⟨b, rfl, t2⟩ := lst_at (e2 ▸ p2.rp) f2
      have t1 := t1.mono eS
      obtain ⟨vs, z1, z2⟩ := id t1
      obtain ⟨us, z3, z4⟩ := id t2
      exact ⟨a, b, vs, us, rfl, .inl ⟨ex_l p2.st.ex z1, ex_l p2.st.ex z3, k _ _ L H2 Hs2 fp2 walk_zL ⟨t1, t2⟩ p12.opn⟩⟩
theorem si_enm {a : Expr} {ra : R (OT × Env)} (ha : SE X T W a ρ ra) : SI X T W (iEnum X.K (wEs X [a])) ρ id (ra.bind fun p => match enmEv p.1 with
    | some ds => .ok (ds, p.2)
    | none => .no) := by
  intro L σ H Hs fp F R h hF k
  rw [cont_bind] at k
  refine ha L σ H Hs fp _ h (k.imp (fun p k v H1 Hs1 fp1 ft p1 => ?_) fun _ _ x => x)
  cases hz : enmEv p.1 with
  | none => rw [hz] at k; exact k.elim
  | some ds =>
    rw [hz] at k
    have : ∃ d xs, p.1 = .sh d ∧ (d = .lst xs ∨ d = .flst xs) ∧ ds = enmD 0 xs := by
      unfold enmEv at hz
      split at hz
      · rename_i e1; exact ⟨_, _, e1, .inl rfl, (Option.some.inj hz).symm⟩
      · rename_i e1; exact ⟨_, _, e1, .inr rfl, (Option.some.inj hz).symm⟩
      · cases hz
    obtain ⟨d, xs, e1, f1, rfl⟩ := this
    obtain ⟨a, rfl, t1⟩ := lst_at (e1 ▸ p1.rp) f1
    obtain ⟨vs, z1, z2⟩ := id t1
    exact ⟨a, vs, rfl, ex_l p1.st.ex z1, k _ _ L H1 Hs1 fp1 walk_en t1 p1.pst.opn⟩
theorem blk_scope {s : Shared} {H : Hp} {scope : Scope} {C : Addr} {cl : List (Str × Addr)} {fp : List Addr} (hs : X.env.scope = sc) : (blkC' X s H scope C cl fp).env.scope = relS scope sc := by subst hs; rfl
def notSetB : Expr → Bool
  | .Set .. => false
  | _ => true
theorem notSet {e : Expr} {env : PySem.Env} (h : notSetB e = true) : ∀ x, foldedSetIterable e env x = pure x := by
  intro x
  cases e <;> first | rfl | cases h
theorem se_lc {wi : TI} {bk : Env → Env} {rI : R (List D × Env)} {tg : Tg} {tgE iter elt : Expr} {ifs : List Expr} {scope : Scope} {own : List (Str × Nat)} {cond : Env → R (Bool × Env)} {el : Env → R (OT × Env)} {pl : List Nat}
    (nd : X.N.Nodup) (hs : X.env.scope = sc) (hc : X.calm = true) (hi : PI X tgE iter wi) (hset : notSetB iter = true) (si : SI X T W wi ρ bk rI) (ok : BlkOk X.N sc scope own) (ho : own.map (·.2) = tg.slots)
    (htg : tgB X.N (relS scope sc) (fun x => scope.names.lookup x == some .cell) tg tgE = true) (h1 : oneTest ifs = true)
    (ht : ∀ s H C cl fp ρ, STs (blkC' X s H scope C cl fp) T W0 ifs ρ (cond ρ)) (he : ∀ s H C cl fp ρ, SE (blkC' X s H scope C cl fp) T W0 elt ρ (el ρ)) :
    SE X T W (.ListComp elt [⟨tgE, iter, ifs, 0⟩] scope pos) ρ (rI.bind fun p => if quietAll p.2 tg.slots = true then
        match lcL cond el pl tg p.1 [] (wipeE p.2 tg.slots) with
        | .ok (ts, ρ2) => .ok (OT.lst ts, bk (backE p.2 ρ2 tg.slots))
        | _ => .no
      else .no) := fun L σ H Hs fp Q h k =>
  wE_of (pe_lc hc nd hi (by rw [hs]; exact ok) (fun s H C cl fp => tg_pg (X := blkC' X s H scope C cl fp) nd (blk_scope hs) rfl hc htg) (fun s H C cl fp => pts_w h1 s H C cl fp) (fun s H C cl fp => pe_elt s H C cl fp) (notSet hset)) (by
    rw [ho]
    exact lc_read si ht he h k)
/-- how an iterable is read -/
def wiI (X : Cx) : CI → Expr → TI
  | .rng1 _, .Call _ [y] _ _ => iRng1 (wEs X [y])
  | .rng2 _ _, .Call _ [y, z] _ _ => iRng2 (wEs X [y, z])
  | .zip _ _, .Call _ [y, z] _ _ => RZ.iZipA X.K (wEs X [y, z])
  | .enm _, .Call _ [y] _ _ => iEnum X.K (wEs X [y])
  | _, e => iSeq X e
/-- zip and enumerate fill a tuple of names -/
def isTupE : Expr → Bool
  | .Tuple _ _ _ => true
  | _ => false
theorem isTup_of {e : Expr} (h : isTupE e = true) : ∃ es k p, e = .Tuple es k p := by
  unfold isTupE at h
  split at h
  · exact ⟨_, _, _, rfl⟩
  · cases h
def tgFits (c : CI) (e : Expr) : Bool := match c with
  | .zip _ _ => isTupE e
  | .enm _ => isTupE e
  | _ => true
/-- .. in a block -/
def wiB (X : Cx) (scope : Scope) (c : CI) (e : Expr) : TI := fun σ H R => ∀ (s : Shared) (H0 : Hp) (C : Addr) (cl : List (Str × Addr)) (fp : List Addr), wiI (blkC' X s H0 scope C cl fp) c e σ H R
theorem se_lc2 {wi : TI} {c1 : CI} {bk : Env → Env} {bk1 : Env → Env → Env} {rI : R (List D × Env)} {it1 : Env → R (List D × Env)} {tg tg1 : Tg} {tgE iter tgE1 iter1 elt : Expr} {ifs ifs1 : List Expr} {scope : Scope} {own : List (Str × Nat)} {cond cond1 : Env → R (Bool × Env)} {el : Env → R (OT × Env)} {pl : List Nat}
    (nd : X.N.Nodup) (hs : X.env.scope = sc) (hc : X.calm = true) (hi : PI X tgE iter wi) (hset : notSetB iter = true) (hset1 : notSetB iter1 = true) (si : SI X T W wi ρ bk rI) (ok : BlkOk X.N sc scope own) (ho : own.map (·.2) = tg.slots ++ tg1.slots)
    (htg : tgB X.N (relS scope sc) (fun x => scope.names.lookup x == some .cell) tg tgE = true) (htg1 : tgB X.N (relS scope sc) (fun x => scope.names.lookup x == some .cell) tg1 tgE1 = true) (h1 : oneTest ifs = true) (h2 : oneTest ifs1 = true)
    (hi1 : ∀ s H C cl fp, PI (blkC' X s H scope C cl fp) tgE1 iter1 (wiI (blkC' X s H scope C cl fp) c1 iter1)) (si1 : ∀ s H C cl fp ρ, SI (blkC' X s H scope C cl fp) T W0 (wiI (blkC' X s H scope C cl fp) c1 iter1) ρ (bk1 ρ) (it1 ρ))
    (ht : ∀ s H C cl fp ρ, STs (blkC' X s H scope C cl fp) T W0 ifs ρ (cond ρ)) (ht1 : ∀ s H C cl fp ρ, STs (blkC' X s H scope C cl fp) T W0 ifs1 ρ (cond1 ρ)) (he : ∀ s H C cl fp ρ, SE (blkC' X s H scope C cl fp) T W0 elt ρ (el ρ)) :
    ∃ t, PE X (.ListComp elt [⟨tgE, iter, ifs, 0⟩, ⟨tgE1, iter1, ifs1, 0⟩] scope pos) t ∧ (∀ {i : Nat} {y : Str} {py spos : Pos}, X.N[i]? = some y → X.env.scope.names.lookup y = some .local → swapsWith (.ListComp elt [⟨tgE, iter, ifs, 0⟩, ⟨tgE1, iter1, ifs1, 0⟩] scope pos) (some (.Name y py)) spos.line X.env = pure true → PS X (.Assign [.Name y py] (.ListComp elt [⟨tgE, iter, ifs, 0⟩, ⟨tgE1, iter1, ifs1, 0⟩] scope pos) spos) (tAsg t (gName i))) ∧
      ∀ (L : List Addr) (σ : L2.St) (H Hs : Hp) (fp : List Addr) (Q : VK), StOk X.K T L Hs H ρ σ fp →
      Cont (rI.bind fun p => if quietAll p.2 (tg.slots ++ tg1.slots) = true then
        match lcG cond (inner it1 bk1 cond1 el pl tg1) pl tg (tg.slots ++ tg1.slots) p.1 [] (wipeE p.2 (tg.slots ++ tg1.slots)) with
        | .ok (ts, ρ2) => .ok (OT.lst ts, bk (backE p.2 ρ2 (tg.slots ++ tg1.slots)))
        | _ => .no
      else .no) (fun p => ∀ v H' Hs' fp' ft, Post X.K T L σ Hs H fp ρ p.1 p.2 v H' Hs' fp' ft → Q v H') (XOk X.K T L σ Hs H fp ρ W) → t σ H Q := by
  have ok' : BlkOk X.N X.env.scope scope own := by rw [hs]; exact ok
  have hv : ∀ i ∈ tg1.slots, i ∈ own.map (·.2) := fun i hi => by rw [ho]; simp [hi]
  have g0 : ∀ s H C cl fp, PG (X.blk s H scope (compEnvC scope cl C X.env) fp) tgE (gT X.K tg) := fun s H C cl fp => tg_pg (X := blkC' X s H scope C cl fp) nd (blk_scope hs) rfl hc htg
  have g1 : ∀ s H C cl fp, PG (X.blk s H scope (compEnvC scope cl C X.env) fp) tgE1 (gT X.K tg1) := fun s H C cl fp => tg_pg (X := blkC' X s H scope C cl fp) nd (blk_scope hs) rfl hc htg1
  have hi1' : ∀ s H C cl fp, PI (X.blk s H scope (compEnvC scope cl C X.env) fp) tgE1 iter1 (wiB X scope c1 iter1) := fun s H C cl fp => ⟨fun pins s1 σ H1 R I h => (hi1 s H C cl fp).run pins s1 σ H1 R I (h s H C cl fp)⟩
  have si1' : ∀ ρ, SI X T W0 (wiB X scope c1 iter1) ρ (bk1 ρ) (it1 ρ) := fun ρ L σ H Hs fp F R h hF k s H0 C cl fpb => si1 s H0 C cl fpb ρ L σ H Hs fp F R h hF k
  refine ⟨tLc2 wi (gT X.K tg) (tIfs X scope ifs) (wiB X scope c1 iter1) (gT X.K tg1) (tIfs X scope ifs1) (tElt X scope elt) (own.map (·.2)) tg1.slots,
    pe_lc2 hc nd hi ok' hv g0 (fun s H C cl fp => pts_w h1 s H C cl fp) hi1' g1 (fun s H C cl fp => pts_w h2 s H C cl fp) (fun s H C cl fp => pe_elt s H C cl fp) (notSet hset) (fun env => notSet hset1),
    fun {i y py spos} hy hyl hsw => ps_setLc2 hc nd hy hyl hsw hi ok' hv g0 (fun s H C cl fp => pts_w h1 s H C cl fp) hi1' g1 (fun s H C cl fp => pts_w h2 s H C cl fp) (fun s H C cl fp => pe_elt s H C cl fp) (notSet hset) (fun env => notSet hset1), fun L σ H Hs fp Q h k => ?_⟩
  rw [ho]
  exact lc2_read si ht si1' ht1 he h k
end
end CH
end
section
namespace CH
open PySem L2 Evl PyProof.Rows
section
variable {K : PySem.W.Frag} {T : Tab} {Hs H Hs' H' : Hp} {L : List Addr} {σ : L2.St} {ρ ρ' : Env} {fp fp' : List Addr}
theorem own_state {i : Nat} {t0 tn t : OT} {ts : List OT} {ys : List V} {x y : V} {b : Addr} {o : HO} {f f' fr ft gt rest : List Addr} {Hs0 H0 : Hp} {fp0 : List Addr} {ρ0 : Env} (ps : Posts K T L σ Hs0 H0 fp0 ρ0 ts ρ ys H Hs fp ft) (hσ : σ[i]? = some (some x)) (pm : fp.Perm (f ++ fr)) (hr : RpS K T Hs H L (ρ.set i .no) σ fr) (hi : i < ρ.length) (e0 : ρ[i]? = some (.ow t0)) (hb : b ∈ f) (r1 : RpO K T Hs H t y gt) (hbg : b ∉ gt)
    (r2 : ∀ H2 : Hp, H2 b = some o → (∀ z ∈ f', z ≠ b → ∀ q, H z = some q → H2 z = some q) → RpO K T Hs H2 tn x f') (p2 : (f ++ ft).Perm (gt ++ f' ++ rest)) :
    ∃ fp', Post K T L σ Hs0 H0 fp0 ρ0 t (ρ.set i (.ow tn)) y (L2.upd H b o) Hs fp' gt := by
  have all : (ft ++ fp).Perm ((gt ++ f' ++ rest) ++ fr) := by
    have z1 : (ft ++ fp).Perm (ft ++ (f ++ fr)) := List.Perm.append_left ft pm
    have z2 : (ft ++ (f ++ fr)).Perm ((f ++ ft) ++ fr) := by
      rw [← List.append_assoc]
      exact List.Perm.append_right fr List.perm_append_comm
    exact (z1.trans z2).trans (List.Perm.append_right fr p2)
  have ndA : ((gt ++ f' ++ rest) ++ fr).Nodup := all.nodup_iff.mp ps.nd
  have mem : ∀ x, x ∈ gt ∨ x ∈ f' ∨ x ∈ rest ∨ x ∈ fr → x ∈ ft ++ fp := fun x hx => all.mem_iff.mpr (by
    simp only [List.mem_append]
    rcases hx with h | h | h | h <;> simp [h])
  have bfp : b ∈ fp := pm.mem_iff.mpr (by simp [hb])
  have nfA : ∀ x ∈ ft ++ fp, Hs x = none := fun x hx => (List.mem_append.mp hx).elim (ps.nf x) (ps.st.nf x)
  have bfr : b ∉ fr := fun h => (List.nodup_append.mp (pm.nodup_iff.mp ps.st.nd)).2.2 b hb b h rfl
  have bL : b ∉ L := fun h => ps.st.lf b h bfp
  have keep : ∀ x, x ≠ b → ∀ q, H x = some q → (L2.upd H b o) x = some q := fun x hx q hq => by rw [upd_ne hx]; exact hq
  have k1 := r2 (L2.upd H b o) upd_same fun z hz hne => keep z hne
  have k2 : RpO K T Hs (L2.upd H b o) t y gt := r1.step (Ex.refl _) fun x hx => keep x fun e => hbg (e ▸ hx)
  have k3 : RpS K T Hs (L2.upd H b o) L (ρ.set i .no) σ fr := hr.step (Ex.refl _) (fun _ z => z) fun x hx => keep x (by
    rcases hx with hx | hx
    · exact fun e => bfr (e ▸ hx)
    · exact fun e => bL (e ▸ hx))
  obtain ⟨fp', m1, m2⟩ := k3.put (i := i) (by simpa using hi) (by rw [List.getElem?_set_self hi]) k1
  rw [List.set_set] at m1
  have eσ : σ.set i (some x) = σ := by
    obtain ⟨hi2, e2⟩ := List.getElem?_eq_some_iff.mp hσ
    rw [← e2, List.set_getElem_self]
  rw [eσ] at m1
  have sub : ∀ x ∈ fp', x ∈ ft ++ fp := fun x hx => mem x (by
    have := m2.mem_iff.mp hx
    simp only [List.mem_append] at this
    rcases this with h | h <;> simp [h])
  have subt : ∀ x ∈ gt, x ∈ ft ++ fp := fun x hx => mem x (.inl hx)
  have ndn : (gt ++ fp').Nodup := by
    have z : ((gt ++ f') ++ fr).Nodup := List.Nodup.sublist (List.Sublist.append (List.sublist_append_left _ _) (List.Sublist.refl _)) ndA
    rw [List.append_assoc] at z
    exact (List.Perm.append_left gt m2.symm).nodup_iff.mp z
  have lt2 : ∀ x ∈ L, x ∉ ft ++ fp := fun x hx hf => (List.mem_append.mp hf).elim (ps.lf x hx) (ps.st.lf x hx)
  refine ⟨fp', ⟨ps.st.ex.mut (nfA b (by simp [bfp])), m1, (List.nodup_append.mp ndn).2.1, fun x hx => nfA x (sub x hx), fun x hx hf => lt2 x hx (sub x hf), fun x hx => ⟨?_, (ps.st.lt x hx).2⟩⟩, k2, ndn, fun x hx => nfA x (subt x hx), fun x hx hf => lt2 x hx (subt x hf), ?_, ?_⟩
  · obtain ⟨o', q⟩ := (ps.st.lt x hx).1
    exact ⟨o', keep x (fun e => bL (e ▸ hx)) o' q⟩
  · have w : Stp (ft ++ fp) H Hs (ft ++ fp) (L2.upd H b o) Hs := Stp.updD (D := b) (by simp [bfp])
    exact (ps.sp.trans w).sub fun x hx => (List.mem_append.mp hx).elim (subt x) (sub x)
  · rw [← ps.lk]
    exact lks_set e0 rfl
/-- one tree of a row replaced at its own places -/
theorem RpOs.updAt : ∀ {ts : List OT} {vs : List V} {g : List Addr} {k : Nat} {t : OT}, RpOs K T Hs H ts vs g → g.Nodup → ts[k]? = some t →
    ∃ v f, vs[k]? = some v ∧ RpO K T Hs H t v f ∧ f.Nodup ∧ (∀ z ∈ f, z ∈ g) ∧ ∀ (H2 : Hp) (t' : OT), RpO K T Hs H2 t' v f → (∀ z ∈ g, z ∉ f → ∀ q, H z = some q → H2 z = some q) → RpOs K T Hs H2 (ts.set k t') vs g
  | _, _, _, k, _, .nil, _, e => by simp at e
  | _, _, _, 0, _, .cons h r, nd, e => by
    simp at e
    subst e
    have nd := List.nodup_append.mp nd
    exact ⟨_, _, rfl, h, nd.1, fun z hz => by simp [hz], fun H2 t' h' kp => .cons h' (r.step (Ex.refl _) fun z hz q hq => kp z (by simp [hz]) (fun hf => nd.2.2 z hf z hz rfl) q hq)⟩
  | _, _, _, k + 1, _, .cons h r, nd, e => by
    have nd := List.nodup_append.mp nd
    obtain ⟨v, f, e1, h1, nf, sub, up⟩ := RpOs.updAt (k := k) r nd.2.1 (by simpa using e)
    exact ⟨v, f, by simpa using e1, h1, nf, fun z hz => by simp [sub z hz], fun H2 t' h' kp => .cons (h.step (Ex.refl _) fun z hz q hq => kp z (by simp [hz]) (fun hf => nd.2.2 z hz z (sub z hf) rfl) q hq) (up H2 t' h' fun z hz hn => kp z (by simp [hz]) hn)⟩
theorem atL_get {ts : List OT} {j : Int} {k : Nat} {us : List OT} (h : atL ts j = some (k, us)) : L2.ixN ts.length j = some k ∧ ts[k]? = some (.lst us) := by
  obtain ⟨k', h1, h2⟩ := Option.bind_eq_some_iff.mp h
  split at h2
  · rename_i us' e
    cases h2
    exact ⟨h1, e⟩
  · cases h2
end
section
variable {X : Cx} {T : Tab} {W : WX} {sc : Scope} {e : Expr} {es : List Expr} {ρ : Env}
theorem se_apX {i : Nat} {x ix e1 : Expr} {spos : Pos} {f g : Env → R (OT × Env)} (hs : X.env.scope = sc) (h : muShape .append e = some (.Subscript x ix spos, [e1])) (hp : slotB X.N sc i x = true) (hix : plainIxB ix = true)
    (h1 : ∀ ρ, SE X T W ix ρ (f ρ)) (h2 : ∀ ρ, SE X T W e1 ρ (g ρ)) : SE X T W e ρ (match ρ.ownL i with
      | none => .no
      | some ts => apR ρ i ts f g) := by
  intro L σ H Hs fp Q h0 k
  refine wE_of (sh_mu h) ?_
  cases hl : ρ.ownL i with
  | none => rw [hl] at k; exact k.elim
  | some ts =>
    rw [hl] at k
    have e0 := ownL_get hl
    obtain ⟨v, fo, fr, l1, l2, l3, l4⟩ := h0.locked e0
    have eL : lock ρ i = ρ.set i (.lk (.lst ts)) := by unfold lock; rw [e0]
    have k : Cont (apR ρ i ts f g) _ _ := k
    unfold apR at k
    rw [eL] at k
    have un : ∀ {ρ2 : Env} {H' Hs' : Hp} {fp' : List Addr}, Pst X.K T (fo ++ L) σ Hs H fr (ρ.set i (.lk (.lst ts))) ρ2 H' Hs' fp' → ∃ fp2, Pst X.K T L σ Hs H fp ρ (ρ2.set i (.ow (.lst ts))) H' Hs' fp2 := fun {ρ2 H' Hs' fp'} p => by
      obtain ⟨fp2, u1, u2, u3, _⟩ := Pst.unlocked (F := []) h0 e0 l1 l2 l3 l4 p.st p.sp (fun x hx => absurd hx (by simp)) p.lk (fun _ _ _ => rfl) rfl
      exact ⟨fp2, u1, u2, u3⟩
    have eU : ∀ ρ2, unlock ρ ρ2 i = ρ2.set i (.ow (.lst ts)) := fun ρ2 => by unfold unlock; rw [e0]
    have lenρ : i < ρ.length := (List.getElem?_eq_some_iff.mp e0).1
    cases l2 with
    | @lst a _ vs gg q1 q2 =>
      show wE X (.Subscript x ix spos) σ H _
      refine wE_of (pe_ix ix_list (slot_of hs hp) (peW X ix) (plainIx_of hix)) ?_
      refine ⟨.ref a, l1, ?_⟩
      refine h1 _ (a :: gg ++ L) σ H Hs fr _ l4 ?_
      cases hf : f (ρ.set i (.lk (.lst ts))) with
      | no => rw [hf] at k; exact k.elim
      | ex e' ρ' =>
        rw [hf] at k
        intro H' Hs' fp' C d p
        obtain ⟨fp2, pu⟩ := un p.pst
        have k : XOk X.K T L σ Hs H fp ρ W e' (unlock ρ ρ' i) := k
        rw [eU] at k
        exact k H' Hs' fp2 C d ⟨pu, p.ex⟩
      | ok p =>
        obtain ⟨u, ρ1⟩ := p
        rw [hf] at k
        intro y H1 Hs1 fp1 ft1 p1
        simp only at k p1
        have ku : ∃ j, u = .sh (.int j) := by
          rcases u with d | _ | _
          · cases d <;> first | exact ⟨_, rfl⟩ | exact k.elim
          · exact k.elim
          · exact k.elim
        obtain ⟨j, rfl⟩ := ku
        · simp only at k
          cases ha : atL ts j with
          | none => rw [ha] at k; exact k.elim
          | some ku =>
            obtain ⟨kk, us⟩ := ku
            rw [ha] at k
            simp only at k
            obtain ⟨z1, z2⟩ := atL_get ha
            have key : ∀ x ∈ a :: gg, x ∉ fr := fun x hx => l4.lf x (by simp only [List.cons_append, List.mem_cons, List.mem_append]; rcases List.mem_cons.mp hx with h | h <;> simp [h])
            have a1 : H1 a = some (.lst vs) := p1.sp.fr a _ q1 (key a (by simp))
            obtain ⟨w, gw, w1, w2, w3⟩ := q2.get z2
            have hy : y = .int j := by
              cases p1.rp with
              | sh r => cases r; rfl
            subst hy
            cases w2 with
            | @lst b _ ws gb b1 b2 =>
              have hb1 : H1 b = some (.lst ws) := p1.sp.fr b _ b1 (key b (by simp [w3 b (by simp)]))
              refine ⟨a, vs, j, .ref b, rfl, rfl, SqL.of a1, ?_, ?_⟩
              · unfold atI
                rw [← q2.length, z1]
                exact w1
              refine ⟨.inl ⟨rfl, _, SqL.of hb1⟩, ?_⟩
              refine h2 ρ1 (a :: gg ++ L) σ H1 Hs1 fp1 _ p1.st ?_
              cases hg : g ρ1 with
              | no => rw [hg] at k; exact k.elim
              | ex e' ρ' =>
                rw [hg] at k
                intro H' Hs' fp' C d p
                obtain ⟨fp2, pu⟩ := un (p1.pst.trans p.pst)
                have k : XOk X.K T L σ Hs H fp ρ W e' (unlock ρ ρ' i) := k
                rw [eU] at k
                exact k H' Hs' fp2 C d ⟨pu, p.ex⟩
              | ok q =>
                obtain ⟨t2, ρ2⟩ := q
                rw [hg] at k
                intro z H2 Hs2 fp2 ft2 p2
                simp only at k p2
                have kd : ∃ d, t2 = .sh d := by
                  cases t2 <;> first | exact ⟨_, rfl⟩ | exact k.elim
                obtain ⟨d, rfl⟩ := kd
                · simp only at k
                  split at k
                  · rename_i hbig
                    have rz : Rp X.K T Hs2 d z := by
                      cases p2.rp with
                      | sh r => exact r
                    obtain ⟨fp3, pu⟩ := un (p1.pst.trans p2.pst)
                    have a2 : H2 a = some (.lst vs) := p2.sp.fr a _ a1 (p1.st.lf a (by simp))
                    have hlen : i < ρ2.length := by
                      have e1 := congrArg List.length (p1.pst.trans p2.pst).lk
                      simp only [lks, List.length_map, List.length_set] at e1
                      rw [e1]; exact lenρ
                    have e3 : Env.ownL (ρ2.set i (.ow (.lst ts))) i = some ts := by unfold Env.ownL; rw [List.getElem?_set_self hlen]
                    obtain ⟨a3, vs3, g3, fr3, s1, s2, s3, s4, s5, s6, s7⟩ := pu.st.ownList e3
                    rw [l1] at s1
                    cases s1
                    rw [a2] at s2
                    cases s2
                    have nd3 : (a :: g3 ++ fr3).Nodup := s4.nodup_iff.mp pu.st.nd
                    have nd4 : (a :: g3).Nodup := (List.nodup_append.mp nd3).1
                    obtain ⟨v3, f3, c1, c2, nf3, c3, c4⟩ := s3.updAt (List.nodup_cons.mp nd4).2 z2
                    rw [w1] at c1
                    cases c1
                    cases c2 with
                    | @lst _ _ ws2 gb2 d1 d2 =>
                      have ab : b ∈ g3 := c3 b (by simp)
                      have nab : a ≠ b := fun e => (List.nodup_cons.mp nd4).1 (e ▸ ab)
                      have nbg : b ∉ gb2 := (List.nodup_cons.mp nf3).1
                      obtain ⟨fp4, po⟩ := own_state (t := .sh .non) (y := .non) (b := b) (o := .lst (ws2 ++ [z])) (f := a :: g3) (f' := a :: g3) (gt := []) (rest := []) (tn := .lst (ts.set kk (.lst (us ++ [.sh d])))) (x := .ref a)
                        (Posts.mk pu.st .nil pu.st.nd (fun x hx => absurd hx (by simp)) (fun x _ hx => absurd hx (by simp)) pu.sp pu.lk) l1 s4 s5 s6 s7 (by simp [ab]) (.sh .non) (by simp)
                        (fun H3 hb3 kp => .lst (kp a (by simp) nab _ a2) (c4 H3 _ (by
                          have r3 : RpOs X.K T Hs2 H3 (us ++ [.sh d]) (ws2 ++ [z]) (gb2 ++ []) := (d2.step (Ex.refl _) fun x hx q hq => kp x (by simp [c3 x (by simp [hx])]) (fun e => nbg (e ▸ hx)) q hq).append (RpOs.cons (f := []) (g := []) (.sh rz) .nil)
                          rw [List.append_nil] at r3
                          exact .lst hb3 r3) fun x hx hn q hq => kp x (by simp [hx]) (fun e => hn (by simp [e])) q hq)) (by simp)
                      rw [List.set_set] at po
                      exact ⟨b, ws2, .non, ws2 ++ [z], rfl, d1, fun Q q => ⟨b, ws2, z, rfl, rfl, d1, by rw [← d2.length, ← line]; exact hbig, q⟩, k .non _ Hs2 fp4 [] po⟩
                  · exact k.elim
end
end CH
end
section
namespace CH
open PySem PySem.W PySem.Calls PyProof.Rows PySem.HandSPX
/-- self.f = f, one behind the other -/
inductive Stores : List Str → List Stmt → Prop
  | nil : Stores [] []
  | cons {f : Str} {fs : List Str} {r : List Stmt} {q1 q2 q3 q4 : Pos} : Stores fs r → Stores (f :: fs) (.Assign [.Attribute (.Name "self" q1) f q2] (.Name f q3) q4 :: r)
/-- the text of such an __init__ -/
inductive InitIs (fs : List Str) : List Stmt → Prop
  | mk {p0 p1 p2 p3 p4 p5 : Pos} {msg : Str} {k : Nat} {rest : List Stmt} : Stores fs rest → (p2.endLine == p4.line) = true → InitIs fs (.Expr (.Call (.Attribute (.Call (.Name "super" p0) [] [] p1) "__init__" p2) [.Constant (.str msg) k p3] [] p4) p5 :: rest)
/-- what the written part says of such a class, at C, and of its __init__, at fI -/
structure ExTxt (prog : Program) (K : Frag) (mg : Str → Option Value) (C fI : Addr) (fs : List Str) : Prop where
  cls : ∃ nm q N bs bm sn sub ab col dd k0 k1 k2 k3 k5, K.lookup C = some (excClassObj nm q C N bs bm true sn sub ab col dd k0 k1 k2 k3 k5 "ValueError.__new__") ∧ refsVE bm = true
  sa : findIn K (.ref C) "__setattr__" = some (some (.builtin "object.__setattr__"))
  ga : findIn K (.ref C) "__getattribute__" = some (some (.builtin "BaseException.__getattribute__"))
  gg : findIn K (.ref C) "__getattr__" = some none
  noN : ∀ f ∈ fs, findIn K (.ref C) f = some none
  iC : findIn K (.ref C) "__init__" = some (some (.ref fI))
  tC : typeIn K (.ref fI) = some (.type "function")
  kC : keepIn K (.ref C) = true
  exC : subIn K (.ref C) (.type "BaseException") = some true
  veC : subIn K (.ref C) (.type "ValueError") = some true
  tyC : typeIn K (.ref C) = some (.type "type")
  hdC : hasDictIn K C = true
  sup : ks_superIn K C C "__init__" = some (some (.builtin "ValueError.__init__"))
  meC : mroIn K C (.ref C) = some true
  noS : mg "super" = none
  opq : nsIn K cStatics "thirdparty.any" = some none
  top : (prog.main.scope.names.lookup ("super" : Str)).isSome = false
  fld : ∀ f ∈ fs, (f == ("__debug__" : Str)) = false ∧ f ≠ ("self" : Str)
  nd : fs.Nodup
  few : fs.length ≤ 8
  fn : ∃ (oc : Value) (od : Option Addr) (doc pm : Value) (an : Option Addr) (cda cc : Addr) (ct : Value) (osl : Array (Option Value)) (qual : Str) (params : Arguments) (body : List Stmt) (scope : Scope),
    K.lookup fI = some ⟨oc, od, .func (ksFn "__init__" qual params body scope .none .none doc pm an (.ref cda) ct cc), osl⟩ ∧ codeIn K (.ref cda) qual = true ∧
    (∃ (ccl : Value) (cdd : Option Addr) (vs : Array Value) (ccs : Array (Option Value)) (file : Str) (tf : Tok), K.lookup cda = some ⟨ccl, cdd, .fields vs, ccs⟩ ∧ vs[2]? = some (.str file tf) ∧ ((prog.main.file : Str) == file) = true) ∧
    (∃ (cl : Value) (cld : Option Addr) (csl : Array (Option Value)), K.lookup cc = some ⟨cl, cld, .cell (some (.ref C)), csl⟩) ∧
    (∃ ar : Arg, (params.posonlyargs ++ params.args).head? = some ar ∧ ar.arg = "self") ∧
    (∀ (s : Shared) (u : Value) (vs : List Value), vs.length = fs.length → BindsTo s (ksFn "__init__" qual params body scope .none .none doc pm an (.ref cda) ct cc) ⟨u :: vs, []⟩ (("self", u) :: fs.zip vs)) ∧
    scope.names.lookup ("super" : Str) = some .globalImplicit ∧ scope.names.lookup ("__class__" : Str) = some .free ∧ scope.names.lookup ("self" : Str) = some .local ∧ (∀ f ∈ fs, scope.names.lookup f = some .local) ∧
    (∀ x ∈ scope.names, x.2 ≠ .cell) ∧ scope.isCoroutine = false ∧ scope.isGenerator = false ∧ scope.kind = .function ∧ InitIs fs body
theorem kept_but {K : Frag} {h h' : Heap} {x : Addr} (X : K.In h) (hx : K.lookup x = none) (k : ∀ b o, b ≠ x → h.get? b = some o → h'.get? b = some o) : K.In h' := fun a o e =>
  k a o (fun z => by rw [z, hx] at e; cases e) (X a o e)
/-- the fields of a fresh exception's dict -/
def fldF (l : List (Str × Value)) : Str → Option Value := fun y => l.lookup y
section
variable {prog : Program} {w : World} {A : Around} {E : Value → Shared → Prop} {R : Result → Shared → Prop} {hp : Heap} {g : Array GenState} {d : Drawn} {t : Nat} {os : OsState}
/-- self.f = v where the exception has its dict -/
theorem osa_more {K : Frag} {name : Str} {tk : Tok} {v : Value} {x C dx : Addr} {fv : Array Value} {cd : ClassData} {m0 : Str → Option Value} {nl : List Str}
    (X : K.In hp) (hx : hp.get? x = some { cls := .ref C, dict := some dx, data := .fields fv }) (hns : hp.Ns1 dx m0) (hw : Within m0 nl) (hz : nl.length ≤ 1000) (hcd : clsIn K C = some cd) (hm : refsVE cd.mro = true) (hh : cd.hasDict = true)
    (ha : findIn K (.ref C) name = some none)
    (hq : ∀ h' tk', (∀ b o, b ≠ dx → hp.get? b = some o → h'.get? b = some o) → h'.Ns1 dx (fun y => if y = name then some v else m0 y) → R (.ok (.ret .none)) ⟨h', g, d, tk', os⟩) :
    codeAny (model prog w) A (.call (.builtin "object.__setattr__") ⟨[.ref x, .str name tk, v], []⟩) R ⟨hp, g, d, t, os⟩ := by
  obtain ⟨oD, esD, epD, hoD, hdD, _⟩ := hns.count hw
  have I : InstAt hp x { cls := .ref C, dict := some dx, data := .fields fv } C (some oD) := ⟨hx, rfl, rfl, hoD⟩
  have SF := F.store_object
  have ne := refsVE_ne hm
  have hob : cd.mro.contains (.type "object") = true := (refsVE_contains "object" _ hm).trans (by decide +kernel)
  have sub : Looks (model prog w) hp (isInstance (.ref x) (.type "object")) true := I.type.andThen (looks_mroIn X (by unfold mroIn; rw [hcd, Option.bind_some, if_neg (by rw [ne]; decide), hob]))
  refine codeAny_call_builtin SF.slot.plain SF.entry (@check_slot (model prog w) _ _ ⟨hp, g, d, t, os⟩ "object.__setattr__" "object" "__setattr__" (.ref x) [.str name tk, v] [] _ SF.kind SF.split sub (SF.args (.ref x) (.str name tk) v) ?_)
  have hmr : Looks (model prog w) hp (mroOf (.ref C)) cd.mro := (looks_clsIn X hcd).andThen .now
  have L3 : Looks (model prog w) hp (Builtin.ObjectAttr.storeTaker? none) none := .now
  rw [osa_eq, refuse_eq]
  refine wpAny_bind (wpAny_bind (I.type.at (wpAny_bind (hmr.at ?_))))
  rw [refsVE_pass _ _ hm]
  refine wpAny_pure (wpAny_bind (I.type.at (wpAny_bind ((looks_findIn X ha).at (wpAny_bind (L3.at ?_))))))
  have hcls : Looks (model prog w) hp (classData C) cd := looks_clsIn X hcd
  obtain ⟨nm, bs, mro, ns, qn, hd, sn, sb, ab, col, del⟩ := cd
  dsimp only at hh
  subst hh
  unfold Builtin.ObjectAttr.storeInOwnDict Builtin.ObjectAttr.ownDictForStores
  repeat (first | with_reducible refine ESX.store_in_old hns hw hz ?_ | with_reducible refine wpAny_loadPart_at hx ?_ | with_reducible refine hcls.at ?_ | wp_step)
  intro h' tk' hn' hs
  exact hq h' tk' (fun b o hb ho => (hs.2 b hb).trans ho) hn'
end
end CH
end
section
namespace CH
open PySem PySem.W PySem.Calls PyProof.Rows PySem.HandSPX
def stF (m0 : Str → Option Value) : List (Str × Value) → Str → Option Value
  | [] => m0
  | (f, v) :: r => stF (fun y => if y = f then some v else m0 y) r
abbrev excD (C t dx : Addr) : Obj := { cls := .ref C, dict := some dx, data := .fields #[.ref t, .none, .none, .none, .bool false, .none] }
section
variable {prog : Program} {w : World} {A : Around} {E : Value → Shared → Prop} {R : Result → Shared → Prop} {g : Array GenState} {d : Drawn} {os : OsState} {K : Frag} {mg : Str → Option Value} {C fI : Addr}
theorem ld_loc {M : Model} {s : Shared} {env : PySem.Env} {m : Str → Option Value} {x : Str} {pos : Pos} {v : Value} {Q : Value → Shared → Prop} {A : Around} {E : Value → Shared → Prop} (hk : env.scope.kind = .function) (hl : env.kindOf x = some .local) (hd : (x == ("__debug__" : Str)) = false) (hn : s.heap.Ns env.locals m) (hv : m x = some v) (h : Q v s) :
    wpAny M A (eval (.Name x pos) env) Q E s := wpAny_Name (wpAny_loadName_local hk hl hn hv h) hd
theorem stores_more {env : PySem.Env} {m : Str → Option Value} {cd : ClassData} {x dx t1 : Addr} {Q : Flow → Shared → Prop} (hk : env.scope.kind = .function) (hks : env.kindOf "self" = some .local) (hself : m "self" = some (.ref x)) (hL : env.locals ≠ dx) (hxd : x ≠ dx) (hnd : K.lookup dx = none)
    (sa : findIn K (.ref C) "__setattr__" = some (some (.builtin "object.__setattr__"))) (hcd : clsIn K C = some cd) (hm : refsVE cd.mro = true) (hh : cd.hasDict = true) :
    ∀ {fs : List Str} {rest : List Stmt}, Stores fs rest → ∀ (vs : List Value) (h : Heap) (t : Nat) (m0 : Str → Option Value) (nl : List Str), vs.length = fs.length → h.Ns env.locals m → (∀ p ∈ fs.zip vs, m p.1 = some p.2) → (∀ f ∈ fs, env.kindOf f = some .local ∧ (f == ("__debug__" : Str)) = false ∧ findIn K (.ref C) f = some none) →
      K.In h → h.get? x = some (excD C t1 dx) → h.Ns1 dx m0 → Within m0 nl → nl.length + fs.length ≤ 1000 →
      (∀ h' tk, (∀ b o, b ≠ dx → h.get? b = some o → h'.get? b = some o) → h'.Ns1 dx (stF m0 (fs.zip vs)) → Q .next ⟨h', g, d, tk, os⟩) →
      wpAny (model prog w) A (execs rest env) Q E ⟨h, g, d, t, os⟩
  | _, _, .nil, vs, h, t, m0, nl, hl, _, _, _, _, _, hns, _, _, hq => wpAny_execs_nil (hq h t (fun _ _ _ e => e) (by simpa [stF] using hns))
  | _, _, @Stores.cons f fs r q1 q2 q3 q4 S, v :: vs, h, t, m0, nl, hl, hn, hm', hf, X, hx, hns, hw, hz, hq => by
    obtain ⟨hkf, hdf, hnf⟩ := hf f (by simp)
    obtain ⟨oD, esD, epD, hoD, hdD, _⟩ := hns.count hw
    refine wpAny_execs_cons (plainObj_wpAny_Assign_Attribute ?_)
    refine ld_loc hk hkf hdf hn (hm' (f, v) (by simp)) (ld_loc hk hks (by decide) hn hself ?_)
    refine set_plain X (ox := excD C t1 dx) (od := some oD) ⟨hx, rfl, rfl, hoD⟩ sa ?_
    refine osa_more X hx hns hw (by simp only [List.length_cons] at hz; omega) hcd hm hh hnf (fun h' tk k hns' => ?_)
    refine stores_more hk hks hself hL hxd hnd sa hcd hm hh S vs h' tk _ (f :: nl) (by simpa using hl) (hn.at fun o e => k _ o hL e) (fun p hp => hm' p (by simp [hp])) (fun f hf' => hf f (by simp [hf'])) (kept_but X hnd k) (k _ _ hxd hx) hns' (Within.cons f v hw) (by simp only [List.length_cons] at hz ⊢; omega) ?_
    intro h'' tk' k' hns''
    exact hq h'' tk' (fun b o hb e => k' b o hb (k b o hb e)) hns''
end
end CH
end
section
namespace CH
open PySem PySem.W PySem.Calls PyProof.Rows PySem.HandSPX
section
variable {prog : Program} {w : World} {A : Around} {E : Value → Shared → Prop} {h : Heap} {g : Array GenState} {d : Drawn} {t : Nat} {os : OsState}
variable {nm q : Str} {C N : Addr} {bs bm : List Value} {hdct : Bool} {sn : List Str} {sub : List Value} {ab : Bool} {col : Option Bool} {dd : Option Addr} {k0 k1 k2 k3 k5 : Option Value}
/-- ValueError.__init__ bound to the exception, called -/
theorem call_veb {u e t0 : Addr} {rest : List Value} {Q : Value → Shared → Prop}
    (hC : h.get? C = some (excClassObj nm q C N bs bm hdct sn sub ab col dd k0 k1 k2 k3 k5 "ValueError.__new__")) (he : h.get? e = some (excO C t0)) (hu : h.get? u = some (kxs_mw "ValueError.__init__" e)) (hrest : rest.length ≤ sizeLine)
    (hq : ∀ h' t1, (∀ b o, b ≠ e → h.get? b = some o → h'.get? b = some o) → h'.get? e = some (excO C t1) → Q .none ⟨h', g, d, t, os⟩) :
    wpAny (model prog w) A (call (.ref u) rest) Q E ⟨h, g, d, t, os⟩ := by
  refine wpAny_call (codeAny_of_tree ?_)
  show wpAny _ A.in1 (callAny (.ref u) ⟨rest, []⟩) _ _ _
  simp only [callAny]
  refine wpAny_bind (wpAny_load hu ?_)
  simp only [kxs_mw, show (Value.type "method-wrapper" == Value.type "method" || Value.type "method-wrapper" == Value.type "builtin_function_or_method" || Value.type "method-wrapper" == Value.type "method-wrapper") = true by decide, if_true]
  refine KFB.if_so (by decide) ?_
  refine wpAny_bind (check_bound_init F.excBase_ValueError.toExcCallFacts hC he rfl ?_)
  refine wpAny_bind (wpAny_pure (wpAny_pure ?_))
  refine ⟨plainId_quiet F.excBase_ValueError.init.plain _, codeAny_builtin F.excBase_ValueError.initEntry ?_⟩
  rw [Around.under_plainId F.excBase_ValueError.init.plain _]
  wp_walk
  refine hq _ h.objs.size (fun b o hb ho => ?_) ?_
  · rw [Heap.get?_update_other _ _ (Ne.symm hb)]
    exact Heap.get?_push_of_some _ ho
  · rw [Heap.get?_update_self _ (Heap.get?_push_of_some _ he) rfl]
    rfl
end
section
variable {prog : Program} {w : World} {A : Around} {R : Result → Shared → Prop} {s : Shared} {K : Frag} {mg : Str → Option Value} {C fI : Addr} {fs : List Str}
theorem boot_super : bootBuiltins "super" = some (.type "super") := by decide +kernel
def plO (o : Expr) (env : PySem.Env) : Sem Bool := do return (← importBound o env).getD true
theorem he_super {env : PySem.Env} {o : Expr} {name : Str} {p2 p3 p4 : Pos} {c : Const} {km : Nat} (hline : (p2.endLine == p4.line) = true) : eval (.Call (.Attribute o name p2) [.Constant c km p3] [] p4) env = (do
      let ov ← attributeBase o name env (eval o env)
      standAt p2.atName
      let (f, first) ← holding [ov] (getMethod ov name (plO o env))
      callWith p4 f first (backTo p4 (starEach [.Constant c km p3] env)) []) := by
  show (do
    let ov ← attributeBase o name env (eval o env)
    standAt p2.atName
    methodCall o name p2 p4 env ov 1 (backTo p4 (starEach [.Constant c km p3] env)) []) = _
  have h1 : ∀ ov, calleeOf (methodCallForm 1 (backTo p4 (starEach [.Constant c km p3] env)) []) o env ov name = getMethod ov name (plO o env) := fun ov => rfl
  have h2 : methodCallPos (methodCallForm 1 (backTo p4 (starEach [.Constant c km p3] env)) []) o env p2 p4 = pure p4 := by
    unfold methodCallPos
    rw [hline, Bool.or_true, if_pos rfl]
  unfold methodCall
  simp only [h1, h2, pure_bind]
theorem rev_lookup {α : Type} : ∀ (l : List (Str × α)), (l.map (·.1)).Nodup → ∀ p ∈ l, l.reverse.lookup p.1 = some p.2 := by
  intro l
  induction l with
  | nil => intro _ p hp; cases hp
  | cons a l ih =>
    intro hn p hp
    rw [List.map_cons, List.nodup_cons] at hn
    rw [List.reverse_cons, List.lookup_append]
    rcases List.mem_cons.mp hp with rfl | hp
    · have : l.reverse.lookup p.1 = none := by
        rw [List.lookup_eq_none_iff]
        intro q hq
        have hq := List.mem_reverse.mp hq
        have : p.1 ≠ q.1 := fun e => hn.1 (e ▸ List.mem_map_of_mem hq)
        simpa using this
      rw [this]
      simp [List.lookup]
    · rw [ih hn.2 p hp]; rfl
theorem zip_keys {α : Type} : ∀ {fs : List Str} (vs : List α), fs.Nodup → ((fs.zip vs).map (·.1)).Nodup ∧ ∀ p ∈ fs.zip vs, p.1 ∈ fs
  | [], vs, _ => ⟨by simp, by simp⟩
  | f :: fs, [], _ => ⟨by simp, by simp⟩
  | f :: fs, v :: vs, h => by
    rw [List.nodup_cons] at h
    obtain ⟨h1, h2⟩ := zip_keys (fs := fs) vs h.2
    refine ⟨?_, ?_⟩
    · rw [List.zip_cons_cons, List.map_cons, List.nodup_cons]
      refine ⟨fun hm => ?_, h1⟩
      obtain ⟨p, hp, e⟩ := List.mem_map.mp hm
      have := h2 p hp
      rw [e] at this
      exact h.1 this
    · intro p hp
      rw [List.zip_cons_cons] at hp
      rcases List.mem_cons.mp hp with rfl | hp
      · simp
      · exact List.mem_cons_of_mem _ (h2 p hp)
theorem ex_init (T : ExTxt prog K mg C fI fs) (hne : fs ≠ []) {x t0 : Addr} {vs : List Value} (hl : vs.length = fs.length) (M : L2.Mod K mg s.heap) (hx : s.heap.get? x = some (excO C t0)) (hnx : K.lookup x = none) (hroom : A.depth < recursionLimit)
    (hq : ∀ h' tk t1 dx, (∀ b o, b ≠ x → s.heap.get? b = some o → h'.get? b = some o) → s.heap.objs.size ≤ dx → dx ≠ x → h'.get? x = some (excD C t1 dx) → h'.Ns1 dx (stF (fun _ => none) (fs.zip vs)) → R (.ok (.ret .none)) { s with heap := h', toks := tk }) :
    codeAny (model prog w) A (.call (.ref fI) ⟨.ref x :: vs, []⟩) R s := by
  obtain ⟨oc, od, doc, pm, an, cda, cc, ct, osl, qual, params, body, scope, ho, hcd, ⟨ccl, cdd, vs0, ccs, file, tf, hcode, hvs, hfile⟩, ⟨cl, cld, csl, hcell⟩, ⟨ar, har, harn⟩, hbind, hsup, hcls, hself, hfl, hnc, hco, hgen, hkd, hb⟩ := T.fn
  obtain ⟨nm, q, N, bs, bm, sn, sub, ab, col, dd, k0, k1, k2, k3, k5, hC, hbm⟩ := T.cls
  have hcl : clsIn K C = some { name := nm, bases := bs, mro := .ref C :: bm, ns := N, qualname := q, hasDict := true, slotNames := sn, subclasses := sub, abstract := ab, collection := col, hasDel := false } := by unfold clsIn; rw [hC] <;> rfl
  obtain ⟨hp, g, d, tk, os⟩ := s
  refine ks_codeAny_call_defAt (fd := ksFn "__init__" qual params body scope .none .none doc pm an (.ref cda) ct cc) (body := body) (binds := ("self", .ref x) :: fs.zip vs) hroom (M.kin _ _ ho) rfl M.nolimit (codeRec_of M.kin hcd) rfl (hbind _ _ _ hl) hnc ?_ (fun h₁ hns k₁ => ?_) hco hgen hkd
  · intro y hy
    rcases List.mem_cons.mp hy with rfl | hy
    · exact hself
    · exact hfl _ (List.of_mem_zip hy).1
  have X₁ : K.In h₁ := M.kin.keeps k₁
  have hx₁ := k₁ _ _ hx
  have hxC : x ≠ C := fun e => by rw [e, hC] at hnx; cases hnx
  have hlx : hp.objs.size ≠ x := Nat.ne_of_gt (Heap.lt_size hx)
  obtain ⟨arn, aan, app⟩ := ar
  simp only at harn
  subst harn
  obtain ⟨zk, zm⟩ := zip_keys vs T.nd
  have keys : (((("self" : Str), Value.ref x) :: fs.zip vs).map (·.1)).Nodup := by
    rw [List.map_cons, List.nodup_cons]
    refine ⟨fun h => ?_, zk⟩
    obtain ⟨p, hp, e⟩ := List.mem_map.mp h
    exact (T.fld _ (zm p hp)).2 e
  have look := rev_lookup _ keys
  have hselfv := look ((("self" : Str), Value.ref x)) (by simp)
  have hfv : ∀ p ∈ fs.zip vs, ((("self" : Str), Value.ref x) :: fs.zip vs).reverse.lookup p.1 = some p.2 := fun p hp => look p (List.mem_cons_of_mem _ hp)
  generalize ((("self" : Str), Value.ref x) :: fs.zip vs).reverse = rb at hns hselfv hfv ⊢
  obtain ⟨mb, hb1, hb2⟩ := M.blt
  have hC₁ := X₁ _ _ hC
  cases hb with
  | @mk p0 p1 p2 p3 p4 p5 msg km rest S hline =>
    show PySem.wpAt (model prog w) (A.deeper (ksEnv qual scope hp.objs.size fI (.ref cda) cc)) (.func _ (ksEnv qual scope hp.objs.size fI (.ref cda) cc)) (execs _ (ksEnv qual scope hp.objs.size fI (.ref cda) cc)) _ _ _
    refine ks_wpAt_execs_cons (ks_wpAt_Expr_any ?_ (by show (scope.kind == .module && _) = false; rw [hkd]; rfl))
    refine ks_wpAt_MethodCall (pl := plO (.Call (.Name "super" p0) [] [] p1) (ksEnv qual scope hp.objs.size fI (.ref cda) cc)) ?_ (he_super hline)
    refine ks_wpAt_super_base (env := ksEnv qual scope hp.objs.size fI (.ref cda) cc) hsup hcls rfl rfl (X₁ _ _ ho) rfl har rfl (X₁ _ _ hcode) rfl hvs hfile T.top ?_
    refine ks_loadName_global hkd hsup (loadGlobal_builtin (env := ksEnv qual scope hp.objs.size fI (.ref cda) cc) (M.glob.keeps k₁) T.noS (hb1.keeps k₁) ((hb2 _ (by decide)).trans boot_super) ⟨rfl, ?_⟩)
    refine wpAny_loadName_free hkd hcls rfl ⟨_, X₁ _ _ hcell, rfl⟩ ?_
    refine wpAny_loadName_local hkd hself hns hselfv ?_
    refine ks_wpAny_isType_cls hC₁ rfl ⟨rfl, ?_⟩
    refine ks_wpAny_call_super hC₁ rfl hx₁ rfl (fun c e => by cases e) (looks_mroIn X₁ T.meC) (fun h₂ e₂ k₂ => ?_)
    have X₂ := X₁.keeps k₂
    have hx₂ := k₂ _ _ hx₁
    have hC₂ := k₂ _ _ hC₁
    have hsp := T.sup
    unfold ks_superIn at hsp
    rw [hcl] at hsp
    have I₂ : InstAt h₂ x (excO C t0) C none := ⟨hx₂, rfl, rfl, trivial⟩
    have hmro : Looks (model prog w) h₂ (mroOf (.ref C)) (.ref C :: bm) := (looks_clsIn X₂ hcl).andThen .now
    refine kxs_getMethod kxs_ValueError e₂ (looks_opaque X₂ T.opq) hmro rfl X₂ hsp (I₂.type.andThen (looks_subIn X₂ T.veC)) hxC rfl ?_
    have X₃ : K.In (h₂.push (kxs_mw "ValueError.__init__" x)) := X₂.keeps fun b o e => Heap.get?_push_of_some _ e
    have k₃ : ∀ b o, hp.get? b = some o → (h₂.push (kxs_mw "ValueError.__init__" x)).get? b = some o := fun b o e => Heap.get?_push_of_some _ (k₂ b o (k₁ b o e))
    have hx₃ := k₃ _ _ hx
    have hC₃ := X₃ _ _ hC
    have hu : (h₂.push (kxs_mw "ValueError.__init__" x)).get? h₂.objs.size = some (kxs_mw "ValueError.__init__" x) := Heap.get?_push_at rfl rfl
    show wpAny (model prog w) _ (callWith p4 (.ref h₂.objs.size) [] (backTo p4 (starEach (.Constant (.str msg) km p3 :: []) (ksEnv qual scope hp.objs.size fI (.ref cda) cc))) []) _ _ _
    refine kxs_callWith (i := "ValueError.__init__") (x := x) rfl ?_
    refine evalArgs_plain ?_
    refine spliced_more (wpAny_Constant_str (spliced_none ⟨hu, ?_⟩))
    refine call_veb hC₃ hx₃ hu (by rw [sizeLine_eq]; exact (by decide : 1 ≤ 16777216)) (fun h₄ t1 k₄ hx₄ => ?_)
    have X₄ : K.In h₄ := kept_but X₃ hnx k₄
    have L₃ : (h₂.push (kxs_mw "ValueError.__init__" x)).Ns hp.objs.size (fun y => List.lookup y rb) := (hns.keeps k₂).keeps fun b o e => Heap.get?_push_of_some _ e
    have L₄ : h₄.Ns hp.objs.size (fun y => List.lookup y rb) := L₃.at fun o e => k₄ _ o hlx e
    cases S with
    | nil => exact absurd rfl hne
    | @cons f fs r q1 q2 q3 q4 S =>
      cases vs with
      | nil => cases hl
      | cons v vs =>
        have few := T.few
        have fld := T.fld
        have noN := T.noN
        refine PySem.wpAt_of_wpAny ?_
        refine wpAny_execs_cons (plainObj_wpAny_Assign_Attribute ?_)
        refine ld_loc (env := ksEnv qual scope hp.objs.size fI (.ref cda) cc) hkd (hfl f List.mem_cons_self) (fld f List.mem_cons_self).1 L₄ (hfv (f, v) (show (f, v) ∈ (f, v) :: fs.zip vs from List.mem_cons_self)) (ld_loc (env := ksEnv qual scope hp.objs.size fI (.ref cda) cc) hkd hself (by decide) L₄ hselfv ?_)
        refine set_plain X₄ (ox := excO C t1) (od := none) ⟨hx₄, rfl, rfl, trivial⟩ T.sa ?_
        refine exc_osa X₄ hx₄ hcl (show refsVE (.ref C :: bm) = true from hbm) rfl (noN f List.mem_cons_self) (fun h₅ tk₅ dx k₅ dn dne hx₅ hn₅ => ?_)
        have z : hp.objs.size < h₁.objs.size := hns.lt
        have z2 : hp.objs.size < h₄.objs.size := L₄.lt
        have hnd : K.lookup dx = none := by
          cases e : K.lookup dx with
          | none => rfl
          | some o => exact absurd (Heap.lt_size (X₄ _ _ e)) (Nat.not_lt.mpr dn)
        have X₅ : K.In h₅ := kept_but X₄ hnx k₅
        refine stores_more (env := ksEnv qual scope hp.objs.size fI (.ref cda) cc) (m := fun y => List.lookup y rb) (x := x) (dx := dx) (t1 := t1) hkd hself hselfv (Nat.ne_of_lt (Nat.lt_of_lt_of_le z2 dn)) (Ne.symm dne) hnd T.sa hcl (show refsVE (.ref C :: bm) = true from hbm) rfl S vs h₅ tk₅ _ [f] (by simpa using hl) (L₄.at fun o e => k₅ _ o hlx e) (fun p hp => hfv p (show p ∈ (f, v) :: fs.zip vs from List.mem_cons_of_mem _ hp)) (fun f' hf' => ⟨hfl f' (List.mem_cons_of_mem _ hf'), (fld f' (List.mem_cons_of_mem _ hf')).1, noN f' (List.mem_cons_of_mem _ hf')⟩) X₅ hx₅ hn₅ ?_ (by simp only [List.length_cons, List.length_nil] at few ⊢; omega) ?_
        · intro y e
          by_cases hy : y = f
          · simp [hy]
          · exact absurd (if_neg hy) e
        · intro h₆ tk₆ k₆ hn₆
          refine hq h₆ tk₆ t1 dx (fun b o hb e => ?_) (Nat.le_of_lt (Nat.lt_of_lt_of_le z2 dn)) dne (k₆ _ _ (Ne.symm dne) hx₅) hn₆
          have e4 := k₅ b o hb (k₄ b o hb (k₃ b o e))
          have : b ≠ dx := fun q => by
            have := Heap.lt_size (k₄ b o hb (k₃ b o e))
            rw [q] at this
            exact absurd this (Nat.not_lt.mpr dn)
          exact k₆ b o this e4
end
end CH
end
section
namespace CH
open PySem PySem.W PySem.Calls PyProof.Rows PySem.HandSPX
/-- a made exception -/
structure ExMade (h h' : Heap) (e C d : Addr) (l : List (Str × Value)) : Prop where
  keep : ∀ b o, h.get? b = some o → h'.get? b = some o
  new : h.objs.size ≤ e
  obj : ∃ t1, h'.get? e = some (excD C t1 d)
  dbig : h.objs.size ≤ d
  dne : d ≠ e
  ns : h'.Ns1 d (stF (fun _ => none) l)
section
variable {prog : Program} {w : World} {A : Around} {R : Result → Shared → Prop} {s : Shared} {K : Frag} {mg : Str → Option Value} {C fI : Addr} {fs : List Str}
theorem ex_made (T : ExTxt prog K mg C fI fs) (hne : fs ≠ []) {vs : List Value} (hl : vs.length = fs.length) (M : L2.Mod K mg s.heap) (hroom : A.depth + 1 < recursionLimit)
    (hq : ∀ h' tk e d, ExMade s.heap h' e C d (fs.zip vs) → R (.ok (.ret (.ref e))) { s with heap := h', toks := tk }) :
    codeAny (model prog w) A (.call (.ref C) ⟨vs, []⟩) R s := by
  obtain ⟨nm, q, N, bs, bm, sn, sub, ab, col, dd, k0, k1, k2, k3, k5, hC, hbm⟩ := T.cls
  obtain ⟨hp, g, dr, tk, os⟩ := s
  have k : ∀ b o, hp.get? b = some o → ((hp.push (kdv_tup vs)).push (excO C hp.objs.size)).get? b = some o := fun b o e => Heap.get?_push_of_some _ (Heap.get?_push_of_some _ e)
  have hget : ((hp.push (kdv_tup vs)).push (excO C hp.objs.size)).get? (hp.objs.size + 1) = some (excO C hp.objs.size) := by heap_get
  have hnx : K.lookup (hp.objs.size + 1) = none := by
    cases e : K.lookup (hp.objs.size + 1) with
    | none => rfl
    | some o =>
      have z : hp.get? (hp.objs.size + 1) = some o := M.kin _ _ e
      exact absurd (Nat.lt_of_succ_lt (Heap.lt_size z)) (Nat.lt_irrefl _)
  have few := T.few
  refine call_own F.excBase_ValueError (fun X => refsVE_contains X bm hbm) (M.kin _ _ hC) (looks_findIn M.kin T.iC) (fun self => bind_fn M.kin self T.tC) (by rw [sizeLine_eq, hl]; exact Nat.le_trans few (by decide)) ?_
  have M' : L2.Mod K mg ((hp.push (kdv_tup vs)).push (excO C hp.objs.size)) := by
    obtain ⟨mb, b1, b2⟩ := M.blt
    exact ⟨M.kin.keeps k, M.glob.keeps k, ⟨mb, b1.keeps k, b2⟩, M.nolimit.keeps k⟩
  refine ex_init (s := ⟨(hp.push (kdv_tup vs)).push (excO C hp.objs.size), g, dr, tk, os⟩) T hne hl M' hget hnx ?_ fun h' tk' t1 dx k' dn dne hx hns => ?_
  · show A.depth + 1 < recursionLimit
    exact hroom
  · have old : ∀ b o, hp.get? b = some o → h'.get? b = some o := fun b o e => k' b o (Nat.ne_of_lt (Nat.lt_succ_of_lt (Heap.lt_size e))) (k b o e)
    have z : hp.objs.size + 1 + 1 ≤ dx := by
      first
        | (simpa only [Heap.size_push] using dn)
        | exact dn
        | (have q := dn; rw [Heap.size_push, Heap.size_push] at q; exact q)
    exact ⟨rfl, hq h' tk' (hp.objs.size + 1) dx ⟨old, Nat.le_succ _, ⟨t1, hx⟩, Nat.le_trans (Nat.le_trans (Nat.le_succ _) (Nat.le_succ _)) z, dne, hns⟩⟩
end
open L2
section
variable {X : L2.Cx} {C fI : Addr} {fs : List Str}
/-- the fields, as the layer tells them -/
theorem relO_st : ∀ {fs : List Str} {vs : List V} {us : List Value} {m0 : Str → Option Value} {l0 : List (Str × V)}, fs.Nodup → vs.length = fs.length → Vals vs us → (∀ f, RelO (l0.lookup f) (m0 f)) → (∀ f ∈ fs, l0.lookup f = none) →
    ∀ f, RelO ((l0 ++ fs.zip vs).lookup f) (stF m0 (fs.zip us) f)
  | [], vs, us, m0, l0, _, hl, r, h0, _, f => by simpa [stF] using h0 f
  | g :: fs, v :: vs, u :: us, m0, l0, nd, hl, r, h0, hno, f => by
    rw [List.nodup_cons] at nd
    cases r with
    | cons rv r =>
      have e : l0 ++ (g :: fs).zip (v :: vs) = (l0 ++ [(g, v)]) ++ fs.zip vs := by simp
      rw [e]
      refine relO_st (m0 := fun y => if y = g then some u else m0 y) nd.2 (by simpa using hl) r ?_ ?_ f
      · intro f
        rw [List.lookup_append]
        by_cases hf : f = g
        · subst hf
          rw [hno f (by simp), if_pos rfl]
          have : List.lookup f [(f, v)] = some v := by simp [List.lookup]
          rw [this]
          exact rv
        · rw [if_neg hf]
          have : List.lookup f [(g, v)] = none := by
            have : (f == g) = false := by simpa using hf
            simp [List.lookup, this]
          rw [this, Option.or_none]
          exact h0 f
      · intro f hf
        rw [List.lookup_append, hno f (by simp [hf])]
        have : f ≠ g := fun e => nd.1 (e ▸ hf)
        have : (f == g) = false := by simpa using this
        simp [List.lookup, this]
  | g :: fs, v :: vs, [], m0, l0, nd, hl, r, h0, hno, f => by cases r
  | g :: fs, [], us, m0, l0, nd, hl, r, h0, hno, f => by cases hl
end
end CH
end
section
namespace CH
open PySem L2 Evl PyProof.Rows
/-- a clause: its class, the slot of its name, its suite's reading -/
structure Cls where
  c : Value
  i : Option Nat
  ts : Addr → Value → Option Addr → TS
/-- the ends of a suite whose name is in a slot -/
def endsOf (D : Ends) : Option Nat → Ends
  | none => D
  | some i => { nx := fun σ H => D.nx (σ.set i none) H, rt := D.rt, bk := fun σ H => D.bk (σ.set i none) H, ct := fun σ H => D.ct (σ.set i none) H }
def stOf (σ : L2.St) (a : Addr) : Option Nat → L2.St
  | none => σ
  | some i => σ.set i (some (.ref a))
def wMix (K : PySem.W.Frag) (Wout : WX) (D : Ends) : List Cls → WX
  | [] => Wout
  | k :: r => fun cls d σ H => ∃ b, PySem.W.exmOne K cls k.c = some b ∧ (b = true → ∀ a, H a = none → k.ts a cls d (endsOf D k.i) (stOf σ a k.i) H) ∧ (b = false → wMix K Wout D r cls d σ H)
/-- the name a clause gives -/
def NmOk (X : Cx) : Option Str → Option Nat → Prop
  | none, none => True
  | some n, some i => X.N[i]? = some n ∧ X.env.kindOf n = some .local
  | _, _ => False
inductive MixOk (X : Cx) : List ExceptHandler → List Cls → Prop
  | nil : MixOk X [] []
  | cons {x : Str} {k : Cls} {n : Option Str} {b₀ : Stmt} {su : List Stmt} {np p' : Pos} {hds : List ExceptHandler} {l : List Cls} (hc : Names X x k.c) (hn : NmOk X n k.i)
      (hsu : ∀ (a : Addr) (oe : Obj) (cls : Value) (d : Option Addr) (pn : List (Addr × Obj)), Zc cls d oe → (∃ vs, oe.data = .fields vs) → PSs (X.suite a ((a, oe) :: pn)) (b₀ :: su) (k.ts a cls d)) (r : MixOk X hds l) :
      MixOk X (.ExceptHandler (some (.Name x np)) n (b₀ :: su) p' :: hds) (k :: l)
section
variable {X : Cx} {body : List Stmt} {h₀ : ExceptHandler} {hds : List ExceptHandler} {l : List Cls} {pos : Pos} {tb : WX → TS} {Wout : WX}
theorem ps_mix (hs : X.stack = X.env :: X.outer) (hf : X.env.frame = some X.env.locals) (hN : X.N.Nodup) (tk : Takes X Wout)
    (hb : ∀ (W : WX) (pn : List (Addr × Obj)) (xe : Value → Shared → Prop), Takes (X.tr pn xe) W → PassesOwn (model X.prog X.w) X.A X.env xe → PSs (X.tr pn xe) body (tb W))
    (hh : MixOk X (h₀ :: hds) l) : PS X (.Try body (h₀ :: hds) [] [] pos) (fun D σ H => tb (wMix X.K Wout D l) D σ H) := by
  constructor
  intro pins s σ H D I red
  have okX := I.ok
  have frames : X.A.frames = some (X.env :: X.outer) := hs ▸ okX.frames
  refine wpAny_Try_except (wpAny_mono ((hb _ (X.pn ++ pins) (fun e s₁ => wpAny (model X.prog X.w) X.A (noteFrame e X.env) (fun _ s₂ => wpAny (model X.prog X.w) X.A (setFlight e none) (fun _ s₃ => wpAny (model X.prog X.w) X.A (handleBy e X.env (h₀ :: hds)) (SP X pins D) X.xe s₃) X.xe s₂) X.xe s₁)
    ?caught PassesOwn.looking).run [] s σ H D (I.toTry _) red) ?through fun _ _ z => z)
  case through =>
    intro f s1 q
    cases f with
    | next =>
      obtain ⟨_, _, J, z⟩ := q
      exact wpAny_execs_nil ⟨_, _, J.ofTry okX, z⟩
    | brk => obtain ⟨_, _, J, z⟩ := q; exact ⟨_, _, J.ofTry okX, z⟩
    | cont => obtain ⟨_, _, J, z⟩ := q; exact ⟨_, _, J.ofTry okX, z⟩
    | ret u => obtain ⟨_, _, _, J, r, z⟩ := q; exact ⟨_, _, _, J.ofTry okX, r, z⟩
  case caught =>
    rintro u s' ⟨a, B, sI, pins', σ1, H1, cls, d, rfl, Jt, nb, up, sky, na, os, ag, wish⟩
    have J := Jt.ofTry okX
    show wpAny (model X.prog X.w) X.A (noteFrame (.ref a) X.env) _ _ _
    refine Sky.land Zc.steady frames hf (hs ▸ sky) fun g fl upg => ?_
    have Jg : Inv X pins σ1 H1 { s' with heap := g } := J.landed nb fl.1 (up.trans upg) os ag
    obtain ⟨o1, v1, at1, zc1, dt1⟩ := fl.there
    have nofr : a ∉ frs (X.env :: X.outer) := fun hm => by
      obtain ⟨_, o2, at2, nf2⟩ := (fl.2.2.1).mem hm
      rw [at1] at at2
      cases at2
      exact nf2 _ dt1
    have nl : a ≠ X.env.locals := fun z => nofr (List.mem_filterMap.mpr ⟨X.env, by simp, by rw [hf, z]⟩)
    have nfs : a ∉ X.fs := fun hm => by
      obtain ⟨e, he, q⟩ := List.mem_filterMap.mp hm
      exact nofr (List.mem_filterMap.mpr ⟨e, by simp [he], q⟩)
    have suiteI := Jg.suite at1 dt1 na nl nfs
    have tyA : PySem.W.Looks (model X.prog X.w) g (typeOf (.ref a)) cls := fun A Q E t k q => wpAny_typeOf_ref (k _ _ at1) (zc1.1.symm ▸ q)
    have run : ∀ {hl : List ExceptHandler} {cl : List Cls}, MixOk X hl cl → wMix X.K Wout D cl cls d σ1 H1 → wpAny (model X.prog X.w) X.A (handleBy (.ref a) X.env hl) (SP X pins D) X.xe { s' with heap := g } := by
      intro hl cl hm
      induction hm with
      | nil =>
        intro out
        refine wpAny_handleBy_nil ?_
        obtain ⟨_, _, _, o3, v3, T3, oT3, ts3, at3, z3, dt3, i3, hr3⟩ := id fl
        unfold PySem.passOn
        refine wpAny_bind (wpAny_field at3 dt3 i3 ?_)
        rw [if_neg (by simp : ¬ ((Value.ref T3 == Value.none) = true))]
        have leave : wpAny (model X.prog X.w) X.A (setFlight (.ref a) X.env.frame) (fun _ s4 => wpAny (model X.prog X.w) X.A (throw (.ref a) : Sem Flow) (SP X pins D) X.xe s4) X.xe { s' with heap := g } := by
          rw [hf]
          refine HandSPX.setFlight_upZ fl fun g2 hg2 up2 => wpAny_throw (tk _ _ ⟨a, B, sI, pins, σ1, H1, cls, d, rfl, J, nb, (up.trans upg).trans up2, ?_, na, os, ag, out⟩)
          exact .inr (.inr (by rw [hs]; exact hg2))
        first
          | exact wpAny_bind (wpAny_pure (wpAny_bind leave))
          | exact wpAny_bind leave
      | @cons x k n b₀ su np p' hl2 cl2 hc hn hsu r ih =>
        rintro ⟨b, exm, yes, no⟩
        refine wpAny_handleBy_cons (codeAny_handlers_test ?_) (by intro q; cases q)
        have matches_ := PySem.W.exm_one (M := model X.prog X.w) Jg.kIn tyA exm
        have nameOf : ∀ {Q : Value → Shared → Prop} {E : Value → Shared → Prop}, Q k.c { s' with heap := g } → wpAny (model X.prog X.w) (X.A.mark (some (.ref a))) (eval (.Name x np) X.env) Q E { s' with heap := g } := fun {Q E} q => by
          obtain ⟨hg, hdbg, hm | ⟨hm, hv, hnn⟩⟩ := hc
          · exact ld_glob (X := X.suite a ((a, o1) :: (X.pn ++ pins))) suiteI hg hm q hdbg
          · exact ld_blt (X := X.suite a ((a, o1) :: (X.pn ++ pins))) suiteI hg hm hv q hnn hdbg
        refine nameOf (matches_.here ?_)
        cases b with
        | false =>
          show wpAny _ X.A (handleBy (.ref a) X.env hl2) _ _ _
          exact ih (no rfl)
        | true =>
          match n, k, hn, hsu, yes with
          | none, ⟨c, none, ts⟩, _, hsu, yes =>
            refine codeAny_handlers_suite (HandSPX.lands_againZ fl fun g2 fl2 up2 => ?_)
            have J2 : Inv X pins σ1 H1 { s' with heap := g2 } := J.landed nb fl2.1 ((up.trans upg).trans up2) os ag
            obtain ⟨o2, v2, at2, zc2, dt2⟩ := fl2.there
            refine wpAny_mono ((hsu a o2 cls d (X.pn ++ pins) zc2 ⟨_, dt2⟩).run [] _ _ H1 _ (J2.suite at2 dt2 na nl nfs) (yes rfl a na)) (fun f s6 q => ?_) fun _ _ z => z.elim
            cases f with
            | next => obtain ⟨_, _, S, z⟩ := q; exact ⟨_, _, S.unsuite okX, z⟩
            | brk => obtain ⟨_, _, S, z⟩ := q; exact ⟨_, _, S.unsuite okX, z⟩
            | cont => obtain ⟨_, _, S, z⟩ := q; exact ⟨_, _, S.unsuite okX, z⟩
            | ret u => obtain ⟨_, _, _, S, r6, z⟩ := q; exact ⟨_, _, _, S.unsuite okX, r6, z⟩
          | some n, ⟨c, some i, ts⟩, hn, hsu, yes =>
            obtain ⟨hi, hln⟩ := hn
            refine codeAny_handlers_suite_as (HandSPX.lands_againZ fl fun g2 fl2 up2 => ?_)
            have J2 : Inv X pins σ1 H1 { s' with heap := g2 } := J.landed nb fl2.1 ((up.trans upg).trans up2) os ag
            obtain ⟨o2, v2, at2, zc2, dt2⟩ := fl2.there
            refine store_ok (X := X.suite a ((a, o2) :: (X.pn ++ pins))) (v := .ref a) (J2.suite at2 dt2 na nl nfs) hN hi (.inl hln) rfl (fun s5 S5 => ?_) (.inr hln)
            refine wpAny_mono ((hsu a o2 cls d (X.pn ++ pins) zc2 ⟨_, dt2⟩).run [] s5 _ H1 _ S5 (yes rfl a na)) (fun f s6 q => ?_) fun _ _ z => z.elim
            have gone : ∀ {σ6 : L2.St} {H6 : Hp} {Q : Shared → Prop}, Inv (X.suite a ((a, o2) :: (X.pn ++ pins))) [] σ6 H6 s6 → (∀ s7, Inv X pins (σ6.set i none) H6 s7 → Q s7) →
                wpAny (model X.prog X.w) X.A (do bindName X.env n .none; unbindBehindTheSuite X.env n p') (fun _ s7 => Q s7) X.xe s6 := fun {σ6 H6 Q} S6 hq => gone_ok (S6.unsuite okX) hN hi hln hq
            cases f with
            | next => obtain ⟨_, _, S, z⟩ := q; exact gone S fun s7 J7 => ⟨_, _, J7, z⟩
            | brk => obtain ⟨_, _, S, z⟩ := q; exact gone S fun s7 J7 => ⟨_, _, J7, z⟩
            | cont => obtain ⟨_, _, S, z⟩ := q; exact gone S fun s7 J7 => ⟨_, _, J7, z⟩
            | ret u => obtain ⟨_, _, _, S, r6, z⟩ := q; exact gone S fun s7 J7 => ⟨_, _, _, J7, r6, z⟩
    exact run hh wish
end
end CH
end
section
namespace CH
open PySem PySem.Spec PyProof.Rows L2
section
variable {X : L2.Cx} {C fI : Addr} {fs : List Str}
/-- C(e, ..) -/
def tMkEx (C : Addr) (fs : List Str) (ta : TA) : L2.St → Hp → XK → Prop := fun σ H Q => ta σ H fun vs H1 => vs.length = fs.length ∧ ∀ d, H1 d = none → Q (.ref C) (some d) (upd H1 d (.xd (fs.zip vs)))
theorem pmk_ex {x : Str} {a : Expr} {es : List Expr} {ta : TA} {p pos : Pos} {k : Nat} (T : ExTxt X.prog X.K X.mg C fI fs) (hne : fs ≠ []) (hr : Room k X.A) (ha : PA X (a :: es) ta) (hg : Gl X x) (hm : X.mg x = some (.ref C)) (hdb : (x == ("__debug__" : Str)) = false)
    (he : starEach (a :: es) X.env = (false, eval a X.env) :: starEach es X.env) (hpl : (backTo pos (starEach es X.env)).any (·.1) = false) :
    PMk X (.Call (.Name x p) (a :: es) [] pos) (tMkEx C fs ta) := by
  intro pins s σ H Q I h
  refine wpAny_Call_Name_kw (ld_glob I hg hm (hd := hdb) ?_)
  refine PySem.W.callWith_K (h₀ := X.base) I.ok.mod.kin T.kC (thn (ha.run pos pins s σ H _ I h) fun us s1 hh => ?_) he hpl
  obtain ⟨vs, H1, I1, r1, hl, q1⟩ := hh
  refine ⟨I1.kIn, ?_⟩
  show wpAny _ _ (call (.ref C) us) _ _ _
  have hlim := I1.nolimit
  have lus : us.length = fs.length := r1.length.symm.trans hl
  have M : L2.Mod X.K X.mg s1.heap := by
    obtain ⟨mb, b1, b2⟩ := I1.mod.blt
    exact ⟨I1.kIn, I1.mod.glob.keeps I1.bk, ⟨mb, b1.keeps I1.bk, b2⟩, hlim⟩
  obtain ⟨hp, g, dr, tk, os⟩ := s1
  refine wpAny_call (ex_made T hne lus M (by have := hr.dp; omega) fun h' tk' e d Mk => ?_)
  show MkP X pins σ Q (.ref e) ⟨h', g, dr, tk', os⟩
  obtain ⟨t1, hoe⟩ := Mk.obj
  have hns := Mk.ns
  obtain ⟨G', g1, g2⟩ := restrict h' fun b => decide (b ≠ e)
  have gk : ∀ b, b ≠ e → G'.get? b = h'.get? b := fun b hb => g1 b (decide_eq_true hb)
  have ge : G'.get? e = none := g2 e (by simp)
  have old : ∀ b o, hp.get? b = some o → G'.get? b = some o := fun b o q => (gk b (Nat.ne_of_lt (Nat.lt_of_lt_of_le (Heap.lt_size q) Mk.new))).trans (Mk.keep b o q)
  have rel : ∀ f, RelO ((fs.zip vs).lookup f) (stF (fun _ => none) (fs.zip us) f) := by
    have := relO_st (l0 := []) (m0 := fun _ => none) T.nd hl r1 (fun _ => trivial) (fun _ _ => rfl)
    simpa using this
  have ob : ObjOk X.prog X.w (upd H1 d (.xd (fs.zip vs))) G' d (.xd (fs.zip vs)) := ⟨_, hns.at (fun o q => (gk d Mk.dne).trans q), rel⟩
  have J : Inv X pins σ (upd H1 d (.xd (fs.zip vs))) ⟨G', g, dr, tk', os⟩ := I1.laid (t' := tk') old Mk.dbig ob
  refine ⟨e, _, _, ⟨G', g, dr, tk', os⟩, _, .ref C, some d, rfl, J, fun b o q => ?_, ge, hoe, ⟨rfl, rfl⟩, rfl, rfl, ?_, rfl, I1.bare, raises_own T.exC T.tyC, q1 d (I1.hok.fresh Mk.dbig)⟩
  · by_cases hb : b = e
    · have q' : G'.get? b = some o := q
      rw [hb, ge] at q'; cases q'
    · exact (gk b hb).symm.trans q
  · rw [upd_ne (Ne.symm Mk.dne)]
    exact I1.hok.fresh Mk.new
/-- e.f, e the exception that the suite holds (at a; its class cls, its dict d) -/
def tByEx (C : Addr) (f : Str) (a : Addr) (cls : Value) (d : Option Addr) (te : TE) : TE := fun σ H Q => te σ H fun x H1 => x = .ref a ∧ cls = .ref C ∧ ∃ (dd : Addr) (fl : List (Str × V)) (v : V), d = some dd ∧ H1 dd = some (.xd fl) ∧ fl.lookup f = some v ∧ Q v H1
theorem pe_byEx {a : Addr} {oe : Obj} {cls : Value} {d : Option Addr} {pn : List (Addr × Obj)} {e : Expr} {te : TE} {pos : Pos} {f : Str} (T : ExTxt X.prog X.K X.mg C fI fs) (hf : f ∈ fs) (hz : Zc cls d oe) (hfd : ∃ vs, oe.data = .fields vs) (he : PE (X.suite a ((a, oe) :: pn)) e te)
    (hb : attributeBase e f X.env (eval e X.env) = eval e X.env) :
    PE (X.suite a ((a, oe) :: pn)) (.Attribute e f pos) (tByEx C f a cls d te) := by
  refine ⟨fun pins s σ H Q I h => ?_⟩
  refine attr_of hb (thn (he.run pins s σ H _ I h) fun u s1 hh => ?_)
  obtain ⟨x, H1, I1, rx, ex, ec, dd, fl, v, ed, ea, el, q⟩ := hh
  subst ex
  obtain rfl : u = Value.ref a := rx
  subst ec
  subst ed
  obtain ⟨ha, _⟩ := I1.pin (a, oe) (List.mem_append_left _ List.mem_cons_self)
  obtain ⟨vs, hd⟩ := hfd
  have hx : ObjOk X.prog X.w H1 s1.heap dd (.xd fl) := I1.hok dd _ ea
  obtain ⟨mA, hns, hr⟩ := hx
  obtain ⟨od, ho, hl⟩ := lookIn_ns hns
  obtain ⟨u, hu, ru⟩ := RelO.some_of (v := v) (o := mA f) (by rw [← el]; exact hr f)
  have J : PySem.W.InstAt s1.heap a oe C (some od) := ⟨ha, hz.1, by unfold PySem.W.notCls; rw [hd] <;> rfl, by rw [hz.2]; exact ho⟩
  exact HandSPX.exc_get I1.kIn J T.ga T.gg T.exC (PySem.W.findObj_own T.hdC (T.noN f hf) rfl (by rw [hl, hu])) (handed_of ru) ⟨v, H1, I1.tok _, ru, q⟩
end
end CH
end
section
namespace CH
open PySem L2 Evl PyProof.Rows

/-- what the checker knows of a place in the text -/
structure Sg where
  N : List Str
  sc : Scope
  fn : Str → Bool
  bn : List Str
  name : Nat → Str
  ar : Nat → Option Nat
  dcs : List (Str × List (Str × Int))
  exs : List (Str × List Str × List Nat)
  cls : List (Str × List Str)
def Sg.blk (g : Sg) (scope : Scope) : Sg := { g with sc := relS scope g.sc, fn := fun x => scope.names.lookup x == some .cell }
def constB : D → Expr → Bool
  | .int i, .Constant (.int j) _ _ => decide (i = j)
  | .bl i, .Constant (.bool j) _ _ => i == j
  | .str i, .Constant (.str j) _ _ => decide (i = j)
  | .non, .Constant .none _ _ => true
  | _, _ => false
def ownOf (N : List Str) (vs : List Nat) : List (Str × Nat) := vs.map fun i => (N.getD i "", i)
def blkB (N : List Str) (sc scope : Scope) (own : List (Str × Nat)) : Bool :=
  decide (scope.kind = .function) && (scope.names.all fun y => decide (scope.names.lookup y.1 = some y.2)) && (own.all fun p => decide (N[p.2]? = some p.1)) &&
  (scope.names.all fun y => !decide (y.2 = .free) || (decide (sc.names.lookup y.1 = some .cell) || decide (sc.names.lookup y.1 = some .free))) &&
  (scope.names.all fun y => !(decide (y.2 = .local) || decide (y.2 = .cell)) || ((own.map (·.1)).contains y.1 || !N.contains y.1))
theorem blk_ok {N : List Str} {sc scope : Scope} {own : List (Str × Nat)} (h : blkB N sc scope own = true) : BlkOk N sc scope own := by
  unfold blkB at h
  simp only [Bool.and_eq_true, List.all_eq_true] at h
  obtain ⟨⟨⟨⟨h1, h2⟩, h3⟩, h4⟩, h5⟩ := h
  refine ⟨of_decide_eq_true h1, fun y hy => of_decide_eq_true (h2 y hy), fun p hp => of_decide_eq_true (h3 p hp), fun y hy e => ?_, fun y hy e => ?_⟩
  · have := h4 y hy
    simpa [e] using this
  · have := h5 y hy
    simp only [Bool.or_eq_true, Bool.not_eq_true', Bool.or_eq_false_iff, decide_eq_false_iff_not, List.contains_iff_mem] at this
    rcases this with ⟨z1, z2⟩ | z | z
    · rcases e with e | e
      · exact absurd e z1
      · exact absurd e z2
    · exact .inl z
    · exact .inr (by simpa using z)
def notBlkB : Expr → Bool
  | .Starred .. => false
  | _ => true
def kSlc (f : Expr → Bool) (p q : Option Expr → Bool) : Expr → Bool
  | .Subscript x (.Slice l u none _) _ => f x && p l && q u
  | _ => false
def kTup (f : List Expr → Bool) : Expr → Bool
  | .Tuple es _ _ => nostar es && f es
  | _ => false
def kLst (f : List Expr → Bool) : Expr → Bool
  | .List es _ => nostar es && f es
  | _ => false
def kAnd (f : List Expr → Bool) : Expr → Bool
  | .BoolOp .And es _ => f es
  | _ => false
def kOr (f : List Expr → Bool) : Expr → Bool
  | .BoolOp .Or es _ => f es
  | _ => false
def kNot (f : Expr → Bool) : Expr → Bool
  | .UnaryOp .Not x _ => f x
  | _ => false
def kIte (t a b : Expr → Bool) : Expr → Bool
  | .IfExp c x y _ => t c && a x && b y
  | _ => false
def kChain (o1 o2 : Cm) (a b c : Expr → Bool) : Expr → Bool
  | .Compare x [p, q] [y, z] _ => decide (p = o1.ast) && decide (q = o2.ast) && !lastMarks [p, q] [y, z] && a x && b y && c z
  | _ => false
def kCall (g : Sg) (f : Nat) (as : List Expr → Bool) : Expr → Bool
  | .Call (.Name x _) es [] _ => decide (x = g.name f) && glB g.sc x && !(x == ("__debug__" : Str)) && !es.isEmpty && nostar es && decide (g.ar f = some es.length) && as es
  | _ => false
def kMu (g : Sg) (m : Mu) (i : Nat) (p : List Str) (as : List Expr → Bool) (e : Expr) : Bool := match p, muShape m e with
  | [], some (o, es) => slotB g.N g.sc i o && as es
  | _, _ => false
def kLc (g : Sg) (tg : Tg) (it : Expr → Expr → Bool) (cs : Scope → List Expr → Bool) (el : Scope → Expr → Bool) : Expr → Bool
  | .ListComp x [⟨tgE, iter, ifs, 0⟩] scope _ => notSetB iter && blkB g.N g.sc scope (ownOf g.N tg.slots) && tgB g.N (relS scope g.sc) (fun x => scope.names.lookup x == some .cell) tg tgE && oneTest ifs && it tgE iter && cs scope ifs && el scope x
  | _ => false
def kLc2 (g : Sg) (tg tg1 : Tg) (it : Expr → Expr → Bool) (cs : Scope → List Expr → Bool) (it1 : Scope → Expr → Expr → Bool) (cs1 : Scope → List Expr → Bool) (el : Scope → Expr → Bool) : Expr → Bool
  | .ListComp x [⟨tgE, iter, ifs, 0⟩, ⟨tgE1, iter1, ifs1, 0⟩] scope _ => notSetB iter && notSetB iter1 && blkB g.N g.sc scope (ownOf g.N (tg.slots ++ tg1.slots)) && tgB g.N (relS scope g.sc) (fun x => scope.names.lookup x == some .cell) tg tgE && tgB g.N (relS scope g.sc) (fun x => scope.names.lookup x == some .cell) tg1 tgE1 && oneTest ifs && oneTest ifs1 && it tgE iter && cs scope ifs && it1 scope tgE1 iter1 && cs1 scope ifs1 && el scope x
  | _ => false
def kRng1 (g : Sg) (a : Expr → Bool) : Expr → Bool
  | .Call (.Name x _) [y] [] _ => decide (x = ("range" : Str)) && glB g.sc x && g.bn.contains x && !isStar y && a y
  | _ => false
def kRng2 (g : Sg) (a b : Expr → Bool) : Expr → Bool
  | .Call (.Name x _) [y, z] [] _ => decide (x = ("range" : Str)) && glB g.sc x && g.bn.contains x && !isStar y && !isStar z && a y && b z
  | _ => false
def kZip (g : Sg) (a b : Expr → Bool) : Expr → Bool
  | .Call (.Name x _) [y, z] [] _ => decide (x = ("zip" : Str)) && glB g.sc x && g.bn.contains x && !isStar y && !isStar z && a y && b z
  | _ => false
def kEnm (g : Sg) (a : Expr → Bool) : Expr → Bool
  | .Call (.Name x _) [y] [] _ => decide (x = ("enumerate" : Str)) && glB g.sc x && g.bn.contains x && !isStar y && a y
  | _ => false
def opKB (dcs : List (Str × List (Str × Int))) : Op → Bool
  | .kin x _ kvs => decide (dcs.lookup x = some kvs)
  | .kget x kvs => decide (dcs.lookup x = some kvs)
  | _ => true
def kOp (g : Sg) (o : Op) (f : List Expr → Bool) (e : Expr) : Bool := match opShape g.bn g.sc o e with
  | some es => opKB g.dcs o && f es
  | none => false
def kApX (g : Sg) (i : Nat) (a b : Expr → Bool) (e : Expr) : Bool := match muShape .append e with
  | some (.Subscript x ix _, [e1]) => slotB g.N g.sc i x && plainIxB ix && a ix && b e1
  | _ => false
def isCmp : CE → Bool
  | .op (.cmp _) _ => true
  | .op (.kin ..) _ => true
  | .chain .. => true
  | _ => false
mutual
def chkE (g : Sg) : CE → Expr → Bool
  | .c d, e => constB d e
  | .v i, e => slotB g.N g.sc i e
  | .mv i, e => slotB g.N g.sc i e
  | .take i, e => slotB g.N g.sc i e
  | .op o as, e => kOp g o (fun es => chkOs g as es) e
  | .slc o lo hi, e => kSlc (fun x => chkO g o x) (fun l => chkB g lo l) (fun u => chkB g hi u) e
  | .tup cs, e => kTup (fun es => chkEs g cs es) e
  | .lst cs, e => kLst (fun es => chkEs g cs es) e
  | .and cs, e => kAnd (fun es => chkEs g cs es) e
  | .or cs, e => kOr (fun es => chkEs g cs es) e
  | .not c, e => kNot (fun x => chkE g c x) e
  | .ite t a b, e => kIte (fun x => chkT g t x) (fun x => chkE g a x) (fun x => chkE g b x) e
  | .chain o1 o2 a b c, e => kChain o1 o2 (fun x => chkE g a x) (fun x => chkE g b x) (fun x => chkE g c x) e
  | .call f as, e => kCall g f (fun es => chkAs g as es) e
  | .mu m i p as, e => kMu g m i p (fun es => chkEs g as es) e
  | .fz c, e => chkE g c e
  | .apX i ix a, e => kApX g i (fun x => chkE g ix x) (fun x => chkE g a x) e
  | .lc elt tg it cs, e => kLc g tg (fun t x => tgFits it t && chkI g it x) (fun sc es => chkTs (g.blk sc) cs es) (fun sc x => chkE (g.blk sc) elt x) e
  | .lc2 elt tg it cs tg1 it1 cs1, e => kLc2 g tg tg1 (fun t x => tgFits it t && chkI g it x) (fun sc es => chkTs (g.blk sc) cs es) (fun sc t x => tgFits it1 t && chkI (g.blk sc) it1 x) (fun sc es => chkTs (g.blk sc) cs1 es) (fun sc x => chkE (g.blk sc) elt x) e
def chkEs (g : Sg) : CEs → List Expr → Bool
  | .nil, [] => true
  | .cons c r, e :: es => chkE g c e && chkEs g r es
  | _, _ => false
def chkO (g : Sg) : CO → Expr → Bool
  | .e c, e => chkE g c e
  | .bor i p, e => pathB g.N g.sc i p e
def chkOs (g : Sg) : COs → List Expr → Bool
  | .nil, [] => true
  | .cons c r, e :: es => chkO g c e && chkOs g r es
  | _, _ => false
def chkB (g : Sg) : CB → Option Expr → Bool
  | .no, none => true
  | .at c, some e => chkE g c e
  | _, _ => false
def chkAs (g : Sg) : CAs → List Expr → Bool
  | .nil, [] => true
  | .val c r, e :: es => chkE g c e && chkAs g r es
  | .ref i r, e :: es => slotB g.N g.sc i e && chkAs g r es
  | _, _ => false
def chkT (g : Sg) : CT → Expr → Bool
  | .and ts, e => kAnd (fun es => !es.isEmpty && chkTs g ts es) e
  | .or ts, e => kOr (fun es => !es.isEmpty && chkTs g ts es) e
  | .not t, e => kNot (fun x => chkT g t x) e
  | .val (.bor i p), e => pathB g.N g.sc i p e
  | .val (.e c), e => chkE g c e && (plainTest e || isCmp c)
def chkTs (g : Sg) : CTs → List Expr → Bool
  | .nil, [] => true
  | .cons c r, e :: es => chkT g c e && chkTs g r es
  | _, _ => false
def chkI (g : Sg) : CI → Expr → Bool
  | .seq o, e => chkO g o e
  | .rng1 a, e => kRng1 g (fun x => chkE g a x) e
  | .rng2 a b, e => kRng2 g (fun x => chkE g a x) (fun x => chkE g b x) e
  | .enm (.e a), e => kEnm g (fun x => chkE g a x) e
  | .enm (.bor _ _), _ => false
  | .zip (.e a) (.e b), e => kZip g (fun x => chkE g a x) (fun x => chkE g b x) e
  | .zip _ _, _ => false
end
/-- an exception class of the text: its name, its fields, the classes that it stands under -/
abbrev ExC := Str × List Str × List Nat
def ExOk (prog : Program) (K : PySem.W.Frag) (mg : Str → Option Value) (T : Tab) (exs : List ExC) (c : Nat) (k : ExC) : Prop := ∃ C, T.exA c = some C ∧ T.exF c = k.2.1 ∧ mg k.1 = some (.ref C) ∧ (k.2.1 ≠ [] → ∃ fI, ExTxt prog K mg C fI k.2.1) ∧
  ∀ c' k', exs[c']? = some k' → ∃ C', T.exA c' = some C' ∧ PySem.W.exmOne K (.ref C') (.ref C) = some (k'.2.2.contains c)
/-- a place in a running body -/
structure Fits (g : Sg) (X : Cx) (T : Tab) (Φ : Phi) (W : WX) (k : Nat) : Prop where
  n : X.N = g.N
  nd : X.N.Nodup
  sc : X.env.scope = g.sc
  fn : X.fn = g.fn
  calm : X.calm = true
  room : Room k X.A
  gd : X.A.guards = some []
  bt : T.bn = g.bn
  bn : ∀ x ∈ T.bn, X.mg x = none
  tk : Takes X W
  dk : ∀ x kvs, g.dcs.lookup x = some kvs → DctOk X x kvs
  ex : ∀ c k, g.exs[c]? = some k → ExOk X.prog X.K X.mg T g.exs c k
  exR : ∀ c C, T.exA c = some C → ∃ k, g.exs[c]? = some k
  cl : ∀ c C, T.clA c = some C → ∃ k, g.cls[c]? = some k ∧ L2.Cls X.K C ∧ ∀ f ∈ k.2, NoAttr X.K C f
  fs : ∀ f n, g.ar f = some n → ∃ a, FnR X.prog X.w X.K X.mg X.base k a n (spF X.K T (Φ f) n) ∧ X.mg (g.name f) = some (.ref a) ∧ PySem.W.keepIn X.K (.ref a) = true ∧ ∀ us, Φ f us ≠ .no → us.length = n
theorem no_takes {X : Cx} : Takes X W0 := fun u s' ⟨_, _, _, _, _, _, _, _, _, _, _, _, _, _, _, _, w⟩ => False.elim w
theorem Fits.blk {g : Sg} {X : Cx} {T : Tab} {Φ : Phi} {W : WX} {k : Nat} (F : Fits g X T Φ W k) (s : Shared) (H : Hp) (scope : Scope) (C : Addr) (cl : List (Str × Addr)) (fp : List Addr) : Fits (g.blk scope) (blkC' X s H scope C cl fp) T Φ W0 k :=
  ⟨F.n, F.nd, blk_scope F.sc, rfl, F.calm, F.room, F.gd, F.bt, F.bn, no_takes, F.dk, F.ex, F.exR, F.cl, F.fs⟩
theorem Fits.opK {g : Sg} {X : Cx} {T : Tab} {Φ : Phi} {W : WX} {k : Nat} (F : Fits g X T Φ W k) {o : Op} (h : opKB g.dcs o = true) : OpK X o := by
  cases o <;> first | trivial | exact F.dk _ _ (of_decide_eq_true h)
theorem Fits.hu {g : Sg} {X : Cx} {T : Tab} {Φ : Phi} {W : WX} {k : Nat} (F : Fits g X T Φ W k) : X.A.units + 66 < cLine := by
  have := F.room.un
  omega
end CH
end
section
namespace CH
open PySem L2 Evl PyProof.Rows

section
variable {X : Cx} {T : Tab} {W : WX} {e : Expr} {es : List Expr} {ρ : Env}
theorem se_c {d : D} (h : constB d e = true) : SE X T W e ρ (.ok (.sh d, ρ)) := by
  unfold constB at h
  split at h <;> first | contradiction | skip
  · cases of_decide_eq_true h; exact se_val pe_int fun _ => .int _
  · cases eq_of_beq h; exact se_val pe_bl fun _ => .bl _
  · cases of_decide_eq_true h; exact se_val pe_str fun _ => .str _
  · exact se_val pe_non fun _ => .non
theorem se_fz {re : R (OT × Env)} (h : SE X T W e ρ re) : SE X T W e ρ (re.bind fun p => .ok (.sh p.1.toD, p.2)) := fun L σ H Hs fp Q hs k => by
  rw [cont_bind] at k
  refine h L σ H Hs fp Q hs (k.imp (fun p k v H1 Hs1 fp1 ft p1 => ?_) fun _ _ x => x)
  obtain ⟨q, r⟩ := p1.freeze
  exact k v H1 (frz Hs1 H1 ft) fp1 [] (Pst.post q (Post.val q.st r))
theorem se_no : SE X T W e ρ .no := fun _ _ _ _ _ _ _ k => k.elim
theorem own_snd (N : List Str) (vs : List Nat) : (ownOf N vs).map (·.2) = vs := by
  unfold ownOf
  rw [List.map_map]
  exact List.map_id _
theorem bind_eq2 {α β γ : Type} {r : R α} {f g : α → R γ} (h : ∀ a, f a = g a) : r.bind f = r.bind g := by cases r <;> simp [R.bind, h]
end
theorem and_b {a b : Bool} (h : (a && b) = true) : a = true ∧ b = true := by simpa using h
theorem call_fin {X : Cx} {T : Tab} {W : WX} {e : Expr} {ρ : Env} {r r' : R (OT × Env)} (h : SE X T W e ρ r) (q : r = r') : SE X T W e ρ r' := q ▸ h
theorem sos_fin {X : Cx} {T : Tab} {W : WX} {es : List Expr} {ρ : Env} {r r' : R (List OT × Env)} (h : SOs X T W es ρ r) (q : r = r') : SOs X T W es ρ r' := q ▸ h
variable {T : Tab} {Φ : Phi} {pl : List Nat}
mutual
theorem snE : ∀ (c : CE) {g : Sg} {X : Cx} {W : WX} {k : Nat} {e : Expr} {ρ : Env}, Fits g X T Φ W k → chkE g c e = true → SE X T W e ρ (evE Φ pl c ρ)
  | .c d, g, X, W, k, e, ρ, F, h => by rw [evE]; exact se_c (by simpa [chkE] using h)
  | .v i, g, X, W, k, e, ρ, F, h => by rw [evE]; exact se_v F.sc (by rw [F.n]; simpa [chkE] using h)
  | .mv i, g, X, W, k, e, ρ, F, h => by rw [evE]; exact se_mv F.sc (by rw [F.n]; simpa [chkE] using h)
  | .take i, g, X, W, k, e, ρ, F, h => by rw [evE]; exact se_take F.sc (by rw [F.n]; simpa [chkE] using h)
  | .op o as, g, X, W, k, e, ρ, F, h => by
    rw [evE]
    simp only [chkE] at h
    unfold kOp at h
    split at h
    · rename_i es hq
      have h1 := and_b h
      exact se_op (F.opK h1.1) F.sc F.bn F.calm F.gd F.hu (by rw [F.bt]; exact hq) (snOs as F h1.2)
    · cases h
  | .fz c, g, X, W, k, e, ρ, F, h => by rw [evE]; exact se_fz (snE c F (by simpa [chkE] using h))
  | .slc (.e x) lo hi, g, X, W, k, e, ρ, F, h => by
    rw [evE]
    simp only [chkE] at h
    unfold kSlc at h
    split at h
    · have h1 := and_b h
      have h2 := and_b h1.1
      refine call_fin (se_slc (sg_e (snE x F (by simpa [chkO] using h2.1)) fun ρ1 => sg_b2 (fun ρ => snB lo F h2.2) (fun ρ => snB hi F h1.2))) ?_
      unfold slcR
      cases evE Φ pl x ρ with
      | ok p => simp only [R.bind]; cases b2 (fun ρ => evB Φ pl lo ρ) (fun ρ => evB Φ pl hi ρ) p.2 <;> rfl
      | ex => rfl
      | no => rfl
    · cases h
  | .slc (.bor i p) lo hi, g, X, W, k, e, ρ, F, h => by
    rw [evE]
    simp only [chkE] at h
    unfold kSlc at h
    split at h
    · have h1 := and_b h
      have h2 := and_b h1.1
      split
      · rename_i t ht
        refine call_fin (se_slc (sg_bor F.sc (by rw [F.n]; simpa [chkO] using h2.1) ht (sg_b2 (fun ρ => snB lo F h2.2) (fun ρ => snB hi F h1.2)))) ?_
        unfold slcR
        cases b2 (fun ρ => evB Φ pl lo ρ) (fun ρ => evB Φ pl hi ρ) (lock ρ i) <;> rfl
      · exact se_no
    · cases h
  | .tup cs, g, X, W, k, e, ρ, F, h => by
    rw [evE]
    simp only [chkE] at h
    unfold kTup at h
    split at h
    · have h1 := and_b h
      exact se_tup h1.1 (snEs cs F h1.2)
    · cases h
  | .lst cs, g, X, W, k, e, ρ, F, h => by
    rw [evE]
    simp only [chkE] at h
    unfold kLst at h
    split at h
    · have h1 := and_b h
      exact se_lst h1.1 (snEs cs F h1.2)
    · cases h
  | .and cs, g, X, W, k, e, ρ, F, h => by
    rw [evE]
    simp only [chkE] at h
    unfold kAnd at h
    split at h
    · exact snAnd cs F h
    · cases h
  | .or cs, g, X, W, k, e, ρ, F, h => by
    rw [evE]
    simp only [chkE] at h
    unfold kOr at h
    split at h
    · exact snOr cs F h
    · cases h
  | .not c, g, X, W, k, e, ρ, F, h => by
    rw [evE]
    simp only [chkE] at h
    unfold kNot at h
    split at h
    · exact se_not (snE c F h)
    · cases h
  | .ite t a b, g, X, W, k, e, ρ, F, h => by
    rw [evE]
    simp only [chkE] at h
    unfold kIte at h
    split at h
    · have h1 := and_b h
      have h2 := and_b h1.1
      exact se_ite (snT t F h2.1) (fun ρ1 => snE a F h2.2) (fun ρ1 => snE b F h1.2)
    · cases h
  | .chain o1 o2 a b c, g, X, W, k, e, ρ, F, h => by
    rw [evE]
    simp only [chkE] at h
    unfold kChain at h
    split at h
    · have h1 := and_b h
      have h2 := and_b h1.1
      have h3 := and_b h2.1
      have h4 := and_b h3.1
      have h5 := and_b h4.1
      cases of_decide_eq_true h5.1
      cases of_decide_eq_true h5.2
      exact se_chain F.hu (by simpa using h4.2) (snE a F h3.2) (fun ρ1 => snE b F h2.2) (fun ρ1 => snE c F h1.2)
    · cases h
  | .call f as, g, X, W, k, e, ρ, F, h => by
    rw [evE]
    simp only [chkE] at h
    unfold kCall at h
    split at h
    · have h1 := and_b h
      have h2 := and_b h1.1
      have h3 := and_b h2.1
      have h4 := and_b h3.1
      have h5 := and_b h4.1
      have h6 := and_b h5.1
      obtain ⟨a, q2, q3, q4, q6⟩ := F.fs f _ (of_decide_eq_true h2.2)
      cases of_decide_eq_true h6.1
      refine se_call (ρ := ρ) F.tk F.gd q2 F.room (gl_of F.sc h6.2) q3 q4 q6 (by simpa using h4.2) h3.2 (by simpa using h5.2) (snAs as F h1.2)
    · cases h
  | .apX i ix e1, g, X, W, k, e, ρ, F, h => by
    rw [evE]
    simp only [chkE] at h
    unfold kApX at h
    split at h
    · rename_i x ixE spos e1E hq
      have h1 := and_b h
      have h2 := and_b h1.1
      have h3 := and_b h2.1
      exact se_apX F.sc hq (by rw [F.n]; exact h3.1) h3.2 (fun ρ => snE ix F h2.2) (fun ρ => snE e1 F h1.2)
    · cases h
  | .mu m i [] as, g, X, W, k, e, ρ, F, h => by
    rw [evE]
    simp only [chkE] at h
    unfold kMu at h
    split at h
    · rename_i o es hq
      have h1 := and_b h
      exact se_mu F.sc hq (by rw [F.n]; exact h1.1) (snEs as F h1.2)
    · cases h
  | .mu m i (_ :: _) as, g, X, W, k, e, ρ, F, h => by rw [evE]; exact se_no
  | .lc elt tg it cs, g, X, W, k, e, ρ, F, h => by
    rw [evE]
    simp only [chkE] at h
    unfold kLc at h
    split at h
    · have h1 := and_b h
      have h2 := and_b h1.1
      have h3 := and_b h2.1
      have h4 := and_b h3.1
      have h5 := and_b h4.1
      have h6 := and_b h5.1
      have h33 := and_b h3.2
      obtain ⟨w0, w2⟩ := snI it F h33.2
      have w1 := w0 _ h33.1
      refine se_lc (bk := backI it ρ) (pl := pl) F.nd F.sc F.calm w1 h6.1 (w2 ρ) (by rw [F.n]; exact blk_ok h6.2) (by rw [own_snd]) (by rw [F.n]; exact h5.2) h4.2
        (fun s H C cl fp ρ => snTs cs (F.blk s H _ C cl fp) h4.2 h2.2) (fun s H C cl fp ρ => snE elt (F.blk s H _ C cl fp) h1.2)
    · cases h
  | .lc2 elt tg it cs tg1 it1 cs1, g, X, W, k, e, ρ, F, h => by
    simp only [chkE] at h
    unfold kLc2 at h
    split at h
    · simp only [Bool.and_eq_true] at h
      obtain ⟨⟨⟨⟨⟨⟨⟨⟨⟨⟨⟨h1, h2⟩, h3⟩, h4⟩, h5⟩, h6⟩, h7⟩, h8⟩, h9⟩, h10⟩, h11⟩, h12⟩ := h
      have h88 := h8
      have h100 := h10
      obtain ⟨w0, w2⟩ := snI it F h88.2
      have w1 := w0 _ h88.1
      obtain ⟨t, t1, _, t3⟩ := se_lc2 (ρ := ρ) (T := T) (W := W) (c1 := it1) (bk := backI it ρ) (bk1 := fun ρ ρ' => backI it1 ρ ρ') (pl := pl) F.nd F.sc F.calm w1 h1 h2 (w2 ρ) (by rw [F.n]; exact blk_ok h3) (by rw [own_snd]) (by rw [F.n]; exact h4) (by rw [F.n]; exact h5) h6 h7
        (fun s H C cl fp => (snI it1 (F.blk s H _ C cl fp) h100.2).1 _ h100.1) (fun s H C cl fp ρ => (snI it1 (F.blk s H _ C cl fp) h100.2).2 ρ) (fun s H C cl fp ρ => snTs cs (F.blk s H _ C cl fp) h6 h9) (fun s H C cl fp ρ => snTs cs1 (F.blk s H _ C cl fp) h7 h11) (fun s H C cl fp ρ => snE elt (F.blk s H _ C cl fp) h12)
      rw [evE]
      exact fun L σ H Hs fp Q h k => wE_of t1 (t3 L σ H Hs fp Q h k)
    · cases h
theorem snAnd : ∀ (c : CEs) {g : Sg} {X : Cx} {W : WX} {k : Nat} {es : List Expr} {pos : Pos} {ρ : Env}, Fits g X T Φ W k → chkEs g c es = true → SE X T W (.BoolOp .And es pos) ρ (evAnd Φ pl c ρ)
  | .nil, g, X, W, k, es, pos, ρ, F, h => by rw [evAnd]; exact se_no
  | .cons c .nil, g, X, W, k, es, pos, ρ, F, h => by
    rw [evAnd]
    cases es with
    | nil => simp [chkEs] at h
    | cons e es =>
      rw [chkEs] at h
      have h1 := and_b h
      cases es with
      | nil => exact se_one (snE c F h1.1)
      | cons => simp [chkEs] at h1
  | .cons c (.cons d r), g, X, W, k, es, pos, ρ, F, h => by
    rw [evAnd]
    · cases es with
      | nil => simp [chkEs] at h
      | cons e es =>
        rw [chkEs] at h
        have h1 := and_b h
        cases es with
        | nil => simp [chkEs] at h1
        | cons f es => exact se_and (snE c F h1.1) fun ρ1 => snAnd (.cons d r) F h1.2
    · exact fun z => CEs.noConfusion z
theorem snOr : ∀ (c : CEs) {g : Sg} {X : Cx} {W : WX} {k : Nat} {es : List Expr} {pos : Pos} {ρ : Env}, Fits g X T Φ W k → chkEs g c es = true → SE X T W (.BoolOp .Or es pos) ρ (evOr Φ pl c ρ)
  | .nil, g, X, W, k, es, pos, ρ, F, h => by rw [evOr]; exact se_no
  | .cons c .nil, g, X, W, k, es, pos, ρ, F, h => by
    rw [evOr]
    cases es with
    | nil => simp [chkEs] at h
    | cons e es =>
      rw [chkEs] at h
      have h1 := and_b h
      cases es with
      | nil => exact se_one (snE c F h1.1)
      | cons => simp [chkEs] at h1
  | .cons c (.cons d r), g, X, W, k, es, pos, ρ, F, h => by
    rw [evOr]
    · cases es with
      | nil => simp [chkEs] at h
      | cons e es =>
        rw [chkEs] at h
        have h1 := and_b h
        cases es with
        | nil => simp [chkEs] at h1
        | cons f es => exact se_or (snE c F h1.1) fun ρ1 => snOr (.cons d r) F h1.2
    · exact fun z => CEs.noConfusion z
theorem snEs : ∀ (c : CEs) {g : Sg} {X : Cx} {W : WX} {k : Nat} {es : List Expr} {ρ : Env}, Fits g X T Φ W k → chkEs g c es = true → SEs X T W es ρ (evEs Φ pl c ρ)
  | .nil, g, X, W, k, es, ρ, F, h => by
    rw [evEs]
    cases es with
    | nil => exact ses_nil
    | cons => simp [chkEs] at h
  | .cons c r, g, X, W, k, es, ρ, F, h => by
    rw [evEs]
    cases es with
    | nil => simp [chkEs] at h
    | cons e es =>
      rw [chkEs] at h
      have h1 := and_b h
      exact ses_cons (snE c F h1.1) fun ρ1 => snEs r F h1.2
theorem snO : ∀ (c : CO) {g : Sg} {X : Cx} {W : WX} {k : Nat} {e : Expr} {ρ : Env}, Fits g X T Φ W k → chkO g c e = true → SO X T W e ρ (evO Φ pl c ρ)
  | .e c, g, X, W, k, e, ρ, F, h => by rw [evO]; exact so_e (snE c F (by simpa [chkO] using h))
  | .bor i p, g, X, W, k, e, ρ, F, h => by rw [evO]; exact so_bor F.sc (by rw [F.n]; simpa [chkO] using h)
theorem snOs : ∀ (c : COs) {g : Sg} {X : Cx} {W : WX} {k : Nat} {es : List Expr} {ρ : Env}, Fits g X T Φ W k → chkOs g c es = true → SOs X T W es ρ (evOs Φ pl c ρ)
  | .nil, g, X, W, k, es, ρ, F, h => by
    rw [evOs]
    cases es with
    | nil => exact sos_nil
    | cons => simp [chkOs] at h
  | .cons (.e c) r, g, X, W, k, es, ρ, F, h => by
    rw [evOs]
    cases es with
    | nil => simp [chkOs] at h
    | cons e es =>
      rw [chkOs] at h
      have h1 := and_b h
      have := sos_cons (sg_e (snE c (ρ := ρ) F (by simpa [chkO] using h1.1)) fun ρ1 => show SG X T W (fun σ H Q => wEs X es σ H Q) (fun a b Hs H => Opds X.K T Hs H a b) ρ1 (evOs Φ pl r ρ1) from snOs r F h1.2)
      have q : (((evE Φ pl c ρ).bind fun p => (evOs Φ pl r p.2).bind fun q => CH.R.ok ((p.1, q.1), q.2)).bind fun p => CH.R.ok (p.1.1 :: p.1.2, p.2)) = ((evE Φ pl c ρ).bind fun (t, ρ1) => (evOs Φ pl r ρ1).bind fun (ts, ρ2) => .ok (t :: ts, ρ2)) := by
        cases evE Φ pl c ρ with
        | ok p => simp only [R.bind]; cases evOs Φ pl r p.2 <;> rfl
        | ex => rfl
        | no => rfl
      rw [← q]
      exact this
  | .cons (.bor i p) r, g, X, W, k, es, ρ, F, h => by
    rw [evOs]
    cases es with
    | nil => simp [chkOs] at h
    | cons e es =>
      rw [chkOs] at h
      have h1 := and_b h
      split
      · rename_i t ht
        have := sos_cons (sg_bor (W := W) F.sc (by rw [F.n]; simpa [chkO] using h1.1) ht (show SG X T W (fun σ H Q => wEs X es σ H Q) (fun a b Hs H => Opds X.K T Hs H a b) (lock ρ i) (evOs Φ pl r (lock ρ i)) from snOs r F h1.2))
        refine sos_fin this ?_
        cases evOs Φ pl r (lock ρ i) <;> rfl
      · exact fun _ _ _ _ _ _ _ k => k.elim
theorem snB : ∀ (c : CB) {g : Sg} {X : Cx} {W : WX} {k : Nat} {e : Option Expr} {ρ : Env}, Fits g X T Φ W k → chkB g c e = true → SB X T W e ρ (evB Φ pl c ρ)
  | .no, g, X, W, k, e, ρ, F, h => by
    rw [evB]
    cases e with
    | none => exact sb_no
    | some => simp [chkB] at h
  | .at c, g, X, W, k, e, ρ, F, h => by
    rw [evB]
    cases e with
    | none => simp [chkB] at h
    | some e => exact sb_at (snE c F (by simpa [chkB] using h))
theorem snAs : ∀ (c : CAs) {g : Sg} {X : Cx} {W : WX} {k : Nat} {es : List Expr} {ρ : Env}, Fits g X T Φ W k → chkAs g c es = true → SAs X T W c es ρ (evAs Φ pl c ρ)
  | .nil, g, X, W, k, es, ρ, F, h => by
    rw [evAs]
    cases es with
    | nil => exact sas_nil
    | cons => simp [chkAs] at h
  | .val c r, g, X, W, k, es, ρ, F, h => by
    rw [evAs]
    cases es with
    | nil => simp [chkAs] at h
    | cons e es =>
      rw [chkAs] at h
      have h1 := and_b h
      exact sas_val (snE c F h1.1) fun ρ1 => snAs r F h1.2
  | .ref i r, g, X, W, k, es, ρ, F, h => by
    rw [evAs]
    cases es with
    | nil => simp [chkAs] at h
    | cons e es =>
      rw [chkAs] at h
      have h1 := and_b h
      split
      · rename_i hq
        exact sas_ref F.sc (by rw [F.n]; exact h1.1) (Option.isSome_iff_exists.mp hq) (snAs r F h1.2)
      · exact fun _ _ _ _ _ _ _ k => k.elim
theorem snT : ∀ (c : CT) {g : Sg} {X : Cx} {W : WX} {k : Nat} {e : Expr} {ρ : Env}, Fits g X T Φ W k → chkT g c e = true → ST X T W e ρ (evT Φ pl c ρ)
  | .and ts, g, X, W, k, e, ρ, F, h => by
    rw [evT]
    simp only [chkT] at h
    unfold kAnd at h
    split at h
    · have h1 := and_b h
      exact st_all (by simpa using h1.1) (snAll ts F h1.2)
    · cases h
  | .or ts, g, X, W, k, e, ρ, F, h => by
    rw [evT]
    simp only [chkT] at h
    unfold kOr at h
    split at h
    · have h1 := and_b h
      exact st_any (by simpa using h1.1) (snAny ts F h1.2)
    · cases h
  | .not t, g, X, W, k, e, ρ, F, h => by
    rw [evT]
    simp only [chkT] at h
    unfold kNot at h
    split at h
    · exact st_not (snT t F h)
    · cases h
  | .val (.bor i p), g, X, W, k, e, ρ, F, h => by
    rw [evT]
    rw [chkT] at h
    have hp : plainTest e = true := by
      have := path_notCall h
      cases p with
      | nil => cases e <;> first | rfl | (simp [pathB, slotB] at h)
      | cons f p => cases e <;> first | rfl | (simp [pathB] at h)
    exact st_val hp (snO (.bor i p) F (by simpa [chkO] using h))
  | .val (.e c), g, X, W, k, e, ρ, F, h => by
    rw [evT]
    rw [chkT] at h
    have h1 := and_b h
    rw [Bool.or_eq_true] at h1
    rcases h1.2 with hp | hp
    · exact st_val hp (snO (.e c) F (by simpa [chkO] using h1.1))
    · cases c with
      | op o as =>
        cases o with
        | cmp cm =>
          have h2 := h1.1
          simp only [chkE] at h2
          unfold kOp at h2
          split at h2
          · rename_i es hq
            rw [evO, evE]
            exact st_cmp F.hu (by rw [F.bt]; exact hq) (snOs as F (and_b h2).2)
          · cases h2
        | kin x ng kvs =>
          have h2 := h1.1
          simp only [chkE] at h2
          unfold kOp at h2
          split at h2
          · rename_i es hq
            rw [evO, evE]
            exact st_kin F.sc (F.opK (o := .kin x ng kvs) (and_b h2).1) (by rw [F.bt]; exact hq) (snOs as F (and_b h2).2)
          · cases h2
        | _ => cases hp
      | chain o1 o2 a b c =>
        have h2 := h1.1
        simp only [chkE] at h2
        unfold kChain at h2
        rw [evO, evE]
        split at h2
        · have h1 := and_b h2
          have h2 := and_b h1.1
          have h3 := and_b h2.1
          have h4 := and_b h3.1
          have h5 := and_b h4.1
          cases of_decide_eq_true h5.1
          cases of_decide_eq_true h5.2
          exact st_chain F.hu (by simpa using h4.2) (snE a F h3.2) (fun ρ1 => snE b F h2.2) (fun ρ1 => snE c F h1.2)
        · cases h2
      | _ => cases hp
theorem snAll : ∀ (c : CTs) {g : Sg} {X : Cx} {W : WX} {k : Nat} {es : List Expr} {ρ : Env}, Fits g X T Φ W k → chkTs g c es = true → SAl X T W (wAll X) es ρ (evAll Φ pl c ρ)
  | .nil, g, X, W, k, es, ρ, F, h => by
    rw [evAll]
    cases es with
    | nil => exact sal_nil
    | cons => simp [chkTs] at h
  | .cons c r, g, X, W, k, es, ρ, F, h => by
    rw [evAll]
    cases es with
    | nil => simp [chkTs] at h
    | cons e es =>
      rw [chkTs] at h
      have h1 := and_b h
      exact sal_cons (snT c F h1.1) fun ρ1 => snAll r F h1.2
theorem snAny : ∀ (c : CTs) {g : Sg} {X : Cx} {W : WX} {k : Nat} {es : List Expr} {ρ : Env}, Fits g X T Φ W k → chkTs g c es = true → SAl X T W (wAny X) es ρ (evAny Φ pl c ρ)
  | .nil, g, X, W, k, es, ρ, F, h => by
    rw [evAny]
    cases es with
    | nil => exact say_nil
    | cons => simp [chkTs] at h
  | .cons c r, g, X, W, k, es, ρ, F, h => by
    rw [evAny]
    cases es with
    | nil => simp [chkTs] at h
    | cons e es =>
      rw [chkTs] at h
      have h1 := and_b h
      exact say_cons (snT c F h1.1) fun ρ1 => snAny r F h1.2
theorem snTs : ∀ (c : CTs) {g : Sg} {X : Cx} {W : WX} {k : Nat} {es : List Expr} {ρ : Env}, Fits g X T Φ W k → oneTest es = true → chkTs g c es = true → STs X T W es ρ (evAll Φ pl c ρ)
  | .nil, g, X, W, k, es, ρ, F, h1, h => by
    rw [evAll]
    cases es with
    | nil => exact sts_nil
    | cons => simp [chkTs] at h
  | .cons c .nil, g, X, W, k, es, ρ, F, h1, h => by
    rw [evAll]
    cases es with
    | nil => simp [chkTs] at h
    | cons e es =>
      rw [chkTs] at h
      have h1 := and_b h
      cases es with
      | nil =>
        have := sts_one (snT c (ρ := ρ) F h1.1)
        simp only [evAll]
        exact this
      | cons => simp [chkTs] at h1
  | .cons c (.cons d r), g, X, W, k, es, ρ, F, h1, h => by
    cases es with
    | nil => simp [chkTs] at h
    | cons e es =>
      cases es with
      | nil => simp [chkTs] at h
      | cons => simp [oneTest] at h1
theorem snI : ∀ (c : CI) {g : Sg} {X : Cx} {W : WX} {k : Nat} {e : Expr}, Fits g X T Φ W k → chkI g c e = true → (∀ tg, tgFits c tg = true → PI X tg e (wiI X c e)) ∧ ∀ ρ, SI X T W (wiI X c e) ρ (backI c ρ) (evI Φ pl c ρ)
  | .seq (.e c), g, X, W, k, e, F, h => ⟨fun tg _ => pi_seq, fun ρ => by
    rw [evI]
    exact si_e (snE c F (by simpa [chkI, chkO] using h))⟩
  | .seq (.bor i p), g, X, W, k, e, F, h => ⟨fun tg _ => pi_seq, fun ρ => by
    rw [evI]
    exact si_bor F.sc (by rw [F.n]; simpa [chkI, chkO] using h)⟩
  | .rng1 a, g, X, W, k, e, F, h => by
    simp only [chkI] at h
    unfold kRng1 at h
    split at h
    · have h1 := and_b h
      have h2 := and_b h1.1
      have h3 := and_b h2.1
      have h4 := and_b h3.1
      cases of_decide_eq_true h4.1
      refine ⟨fun tg _ => pi_range1 (gl_of F.sc h4.2) (bn_of F.bn (by rw [F.bt]; exact h3.2)) (paW X [_] (by simpa using h2.2)) (star_cons (by simpa using h2.2)), fun ρ => ?_⟩
      rw [evI]
      exact si_rng1 (snE a F h1.2)
    · cases h
  | .rng2 a b, g, X, W, k, e, F, h => by
    simp only [chkI] at h
    unfold kRng2 at h
    split at h
    · rename_i x px y z pos
      have h1 := and_b h
      have h2 := and_b h1.1
      have h3 := and_b h2.1
      have h4 := and_b h3.1
      have h5 := and_b h4.1
      have h6 := and_b h5.1
      cases of_decide_eq_true h6.1
      have ha : isStar y = false := by simpa using h4.2
      have hb : isStar z = false := by simpa using h3.2
      refine ⟨fun tg _ => pi_range2 (gl_of F.sc h6.2) (bn_of F.bn (by rw [F.bt]; exact h5.2)) (paW X [y, z] (by simp [ha, hb])) (by rw [star_cons ha, star_cons hb]; rfl) (star_cons hb), fun ρ => ?_⟩
      rw [evI]
      exact si_rng2 (snE a F h2.2) fun ρ1 => snE b F h1.2
    · cases h
  | .enm (.e a), g, X, W, k, e, F, h => by
    simp only [chkI] at h
    unfold kEnm at h
    split at h
    · have h1 := and_b h
      have h2 := and_b h1.1
      have h3 := and_b h2.1
      have h4 := and_b h3.1
      cases of_decide_eq_true h4.1
      refine ⟨fun tg ht => ?_, fun ρ => ?_⟩
      · obtain ⟨es, kk, tp, rfl⟩ := isTup_of ht
        exact pi_enum (gl_of F.sc h4.2) (bn_of F.bn (by rw [F.bt]; exact h3.2)) (paW X [_] (by simpa using h2.2)) (star_cons (by simpa using h2.2))
      · rw [evI]
        exact si_enm (snE a F h1.2)
    · cases h
  | .enm (.bor _ _), g, X, W, k, e, F, h => by simp [chkI] at h
  | .zip (.e a) (.e b), g, X, W, k, e, F, h => by
    simp only [chkI] at h
    unfold kZip at h
    split at h
    · rename_i x px y z pos
      have h1 := and_b h
      have h2 := and_b h1.1
      have h3 := and_b h2.1
      have h4 := and_b h3.1
      have h5 := and_b h4.1
      have h6 := and_b h5.1
      cases of_decide_eq_true h6.1
      have ha : isStar y = false := by simpa using h4.2
      have hb : isStar z = false := by simpa using h3.2
      refine ⟨fun tg ht => ?_, fun ρ => ?_⟩
      · obtain ⟨es, kk, tp, rfl⟩ := isTup_of ht
        exact RZ.pi_zipA (gl_of F.sc h6.2) (bn_of F.bn (by rw [F.bt]; exact h5.2)) (paW X [y, z] (by simp [ha, hb])) (star_cons ha) (by rw [star_cons hb]; rfl)
      · rw [evI]
        exact si_zip (snE a F h2.2) fun ρ1 => snE b F h1.2
    · cases h
  | .zip (.e _) (.bor _ _), g, X, W, k, e, F, h => by simp [chkI] at h
  | .zip (.bor _ _) _, g, X, W, k, e, F, h => by simp [chkI] at h
end
end CH
end
section
namespace CH
open PySem L2 Evl PyProof.Rows

/-- from a state of a body to a later one -/
structure Pts (pl : List Nat) (K : PySem.W.Frag) (T : Tab) (L : List Addr) (σ : L2.St) (Hs H : Hp) (fp : List Addr) (ρ : Env) (σ' : L2.St) (ρ' : Env) (H' Hs' : Hp) (fp' : List Addr) : Prop where
  st : StOk K T L Hs' H' ρ' σ' fp'
  sp : Stp fp H Hs fp' H' Hs'
  lk : lks ρ' = lks ρ
  lv : ∀ (j : Nat) (u : OT), ρ[j]? = some (.lk u) → σ'[j]? = σ[j]?
  pv : ∀ j ∈ pl, σ'[j]? = σ[j]?
/-- .. with a value that is handed back -/
structure PtsR (pl : List Nat) (K : PySem.W.Frag) (T : Tab) (L : List Addr) (σ : L2.St) (Hs H : Hp) (fp : List Addr) (ρ : Env) (t : OT) (σ' : L2.St) (ρ' : Env) (v : V) (H' Hs' : Hp) (fp' ft : List Addr) : Prop where
  st : StOk K T L Hs' H' ρ' σ' fp'
  rp : RpO K T Hs' H' t v ft
  nd : (ft ++ fp').Nodup
  nf : ∀ a ∈ ft, Hs' a = none
  lf : ∀ a ∈ L, a ∉ ft
  sp : Stp fp H Hs (ft ++ fp') H' Hs'
  lk : lks ρ' = lks ρ
  lv : ∀ (j : Nat) (u : OT), ρ[j]? = some (.lk u) → σ'[j]? = σ[j]?
  pv : ∀ j ∈ pl, σ'[j]? = σ[j]?
def FlOk (pl : List Nat) (K : PySem.W.Frag) (T : Tab) (L : List Addr) (σ : L2.St) (Hs H : Hp) (fp : List Addr) (ρ : Env) (D : Ends) (p : Fl × Env) : Prop := match p.1 with
  | .nx => ∀ σ' H' Hs' fp', Pts pl K T L σ Hs H fp ρ σ' p.2 H' Hs' fp' → D.nx σ' H'
  | .brk => ∀ σ' H' Hs' fp', Pts pl K T L σ Hs H fp ρ σ' p.2 H' Hs' fp' → D.bk σ' H'
  | .ct => ∀ σ' H' Hs' fp', Pts pl K T L σ Hs H fp ρ σ' p.2 H' Hs' fp' → D.ct σ' H'
  | .rt t => ∀ σ' v H' Hs' fp' ft, PtsR pl K T L σ Hs H fp ρ t σ' p.2 v H' Hs' fp' ft → D.rt v H'
def XSOk (pl : List Nat) (K : PySem.W.Frag) (T : Tab) (L : List Addr) (σ : L2.St) (Hs H : Hp) (fp : List Addr) (ρ : Env) (W : WX) (e : Exn) (ρ' : Env) : Prop := ∀ σ' H' Hs' fp' C d, Pts pl K T L σ Hs H fp ρ σ' ρ' H' Hs' fp' → ExRp K T Hs' H' e C d → W (.ref C) (some d) σ' H'
section
variable {pl : List Nat} {K : PySem.W.Frag} {T : Tab} {L : List Addr} {σ σ1 σ' : L2.St} {Hs H Hs1 H1 Hs' H' : Hp} {fp fp1 fp' ft : List Addr} {ρ ρ1 ρ' : Env} {t : OT} {v : V} {D : Ends} {W : WX} {e : Exn}
theorem Pst.pts (p : Pst K T L σ Hs H fp ρ ρ1 H1 Hs1 fp1) : Pts pl K T L σ Hs H fp ρ σ ρ1 H1 Hs1 fp1 := ⟨p.st, p.sp, p.lk, fun _ _ _ => rfl, fun _ _ => rfl⟩
theorem Pts.refl (h : StOk K T L Hs H ρ σ fp) : Pts pl K T L σ Hs H fp ρ σ ρ H Hs fp := (Pst.refl h).pts
theorem Pts.trans (a : Pts pl K T L σ Hs H fp ρ σ1 ρ1 H1 Hs1 fp1) (b : Pts pl K T L σ1 Hs1 H1 fp1 ρ1 σ' ρ' H' Hs' fp') : Pts pl K T L σ Hs H fp ρ σ' ρ' H' Hs' fp' :=
  ⟨b.st, a.sp.trans b.sp, b.lk.trans a.lk, fun j u q => (b.lv j u (lks_lk a.lk q)).trans (a.lv j u q), fun j hj => (b.pv j hj).trans (a.pv j hj)⟩
theorem Pts.ret (a : Pts pl K T L σ Hs H fp ρ σ1 ρ1 H1 Hs1 fp1) (b : PtsR pl K T L σ1 Hs1 H1 fp1 ρ1 t σ' ρ' v H' Hs' fp' ft) : PtsR pl K T L σ Hs H fp ρ t σ' ρ' v H' Hs' fp' ft :=
  ⟨b.st, b.rp, b.nd, b.nf, b.lf, a.sp.trans b.sp, b.lk.trans a.lk, fun j u q => (b.lv j u (lks_lk a.lk q)).trans (a.lv j u q), fun j hj => (b.pv j hj).trans (a.pv j hj)⟩
theorem Post.ptsR (p : Post K T L σ Hs H fp ρ t ρ1 v H1 Hs1 fp1 ft) : PtsR pl K T L σ Hs H fp ρ t σ ρ1 v H1 Hs1 fp1 ft := ⟨p.st, p.rp, p.nd, p.nf, p.lf, p.sp, p.lk, fun _ _ _ => rfl, fun _ _ => rfl⟩
theorem FlOk.later {p : Fl × Env} (k : FlOk pl K T L σ Hs H fp ρ D p) (a : Pts pl K T L σ Hs H fp ρ σ1 ρ1 H1 Hs1 fp1) : FlOk pl K T L σ1 Hs1 H1 fp1 ρ1 D p := by
  unfold FlOk at k ⊢
  split at k
  · exact fun σ' H' Hs' fp' q => k σ' H' Hs' fp' (a.trans q)
  · exact fun σ' H' Hs' fp' q => k σ' H' Hs' fp' (a.trans q)
  · exact fun σ' H' Hs' fp' q => k σ' H' Hs' fp' (a.trans q)
  · exact fun σ' v H' Hs' fp' ft q => k σ' v H' Hs' fp' ft (a.ret q)
theorem XSOk.later (k : XSOk pl K T L σ Hs H fp ρ W e ρ') (a : Pts pl K T L σ Hs H fp ρ σ1 ρ1 H1 Hs1 fp1) : XSOk pl K T L σ1 Hs1 H1 fp1 ρ1 W e ρ' := fun σ' H' Hs' fp' C d q x => k σ' H' Hs' fp' C d (a.trans q) x
theorem XSOk.x (k : XSOk pl K T L σ Hs H fp ρ W e ρ') : XOk K T L σ Hs H fp ρ W e ρ' := fun H' Hs' fp' C d q => k σ H' Hs' fp' C d q.pst.pts q.ex
theorem later_cont {r : R (Fl × Env)} (k : Cont r (FlOk pl K T L σ Hs H fp ρ D) (XSOk pl K T L σ Hs H fp ρ W)) (a : Pts pl K T L σ Hs H fp ρ σ1 ρ1 H1 Hs1 fp1) : Cont r (FlOk pl K T L σ1 Hs1 H1 fp1 ρ1 D) (XSOk pl K T L σ1 Hs1 H1 fp1 ρ1 W) :=
  k.imp (fun p q => q.later a) fun e ρ' q => q.later a
/-- a value stored in a slot of one's own -/
theorem Post.store {i : Nat} (p : Post K T L σ Hs H fp ρ t ρ1 v H1 Hs1 fp1 ft) (hi : ∃ s, ρ1[i]? = some s) (hl : ∀ u, ρ1[i]? ≠ some (.lk u)) (hp : i ∉ pl) : ∃ fp2, Pts pl K T L σ Hs H fp ρ (σ.set i (some v)) (ρ1.set i (.ow t)) H1 Hs1 fp2 := by
  obtain ⟨s, e⟩ := hi
  have d := List.nodup_append.mp p.nd
  obtain ⟨fp2, s1, s2⟩ := p.st.store (i := i) (List.getElem?_eq_some_iff.mp e).1 p.rp (fun a ha hf => d.2.2 a ha a hf rfl) d.1 p.nf p.lf
  refine ⟨fp2, s1, p.sp.sub fun a ha => List.mem_append.mpr (s2 a ha), ?_, fun j u q => List.getElem?_set_ne fun z => ?_, fun j hj => List.getElem?_set_ne fun z => by subst z; exact hp hj⟩
  · rw [← p.lk]
    refine lks_set e ?_
    cases s with
    | lk u => exact absurd e (hl u)
    | _ => rfl
  · subst z
    exact hl u (lks_lk p.lk q)
end
def SS (X : Cx) (T : Tab) (W : WX) (pl : List Nat) (st : Stmt) (ρ : Env) (r : R (Fl × Env)) : Prop := ∀ (L : List Addr) (σ : L2.St) (H Hs : Hp) (fp : List Addr) (D : Ends), StOk X.K T L Hs H ρ σ fp →
  Cont r (FlOk pl X.K T L σ Hs H fp ρ D) (XSOk pl X.K T L σ Hs H fp ρ W) → wS X st D σ H
def SSs (X : Cx) (T : Tab) (W : WX) (pl : List Nat) (sts : List Stmt) (ρ : Env) (r : R (Fl × Env)) : Prop := ∀ (L : List Addr) (σ : L2.St) (H Hs : Hp) (fp : List Addr) (D : Ends), StOk X.K T L Hs H ρ σ fp →
  Cont r (FlOk pl X.K T L σ Hs H fp ρ D) (XSOk pl X.K T L σ Hs H fp ρ W) → wSs X sts D σ H
/-- a reading that is sound -/
def SR (X : Cx) (T : Tab) (W : WX) (t : TE) (ρ : Env) (r : R (OT × Env)) : Prop := ∀ (L : List Addr) (σ : L2.St) (H Hs : Hp) (fp : List Addr) (Q : VK), StOk X.K T L Hs H ρ σ fp →
  Cont r (fun p => ∀ v H' Hs' fp' ft, Post X.K T L σ Hs H fp ρ p.1 p.2 v H' Hs' fp' ft → Q v H') (XOk X.K T L σ Hs H fp ρ W) → t σ H Q
section
variable {X : Cx} {T : Tab} {W : WX} {pl : List Nat} {sc : Scope} {e : Expr} {st : Stmt} {sts : List Stmt} {ρ : Env} {pos : Pos}
theorem sss_nil : SSs X T W pl [] ρ (.ok (.nx, ρ)) := fun L σ H Hs fp D h k => wSs_of pss_nil (k σ H Hs fp (Pts.refl h))
theorem sss_cons {r : R (Fl × Env)} {rs : Env → R (Fl × Env)} (h1 : SS X T W pl st ρ r) (h2 : ∀ ρ1, SSs X T W pl sts ρ1 (rs ρ1)) : SSs X T W pl (st :: sts) ρ (r.bind fun p => match p.1 with
    | .nx => rs p.2
    | f => .ok (f, p.2)) := by
  intro L σ H Hs fp D h k
  rw [cont_bind] at k
  refine wSs_of (pss_cons (psW X st) (pssW X sts)) (h1 L σ H Hs fp { D with nx := wSs X sts D } h (k.imp (fun p k => ?_) fun _ _ x => x))
  obtain ⟨f, ρ1⟩ := p
  cases f with
  | nx => exact fun σ1 H1 Hs1 fp1 q => h2 ρ1 L σ1 H1 Hs1 fp1 D q.st (later_cont k q)
  | brk => exact k
  | ct => exact k
  | rt t => exact k
/-- a name's tree frozen between two statements -/
theorem sss_frz {i : Nat} {rs : Env → R (Fl × Env)} (h2 : ∀ ρ1, SSs X T W pl sts ρ1 (rs ρ1)) : SSs X T W pl sts ρ (match ρ.own i with
    | some t => rs (ρ.set i (.ow (.sh t.toD)))
    | none => .no) := by
  intro L σ H Hs fp D h k
  cases ht : Env.own ρ i with
  | none => rw [ht] at k; exact k.elim
  | some t =>
    rw [ht] at k
    obtain ⟨v, Hs', fp', h1, p, r⟩ := frz_slot h ht
    exact h2 _ L σ H Hs' fp' D p.st (later_cont k p.pts)
theorem ss_nop (hp : PS X st tNext) : SS X T W pl st ρ (.ok (.nx, ρ)) := fun L σ H Hs fp D h k => wS_of hp (k σ H Hs fp (Pts.refl h))
theorem ss_brk : SS X T W pl (.Break pos) ρ (.ok (.brk, ρ)) := fun L σ H Hs fp D h k => wS_of ps_break (k σ H Hs fp (Pts.refl h))
theorem ss_cont : SS X T W pl (.Continue pos) ρ (.ok (.ct, ρ)) := fun L σ H Hs fp D h k => wS_of ps_continue (k σ H Hs fp (Pts.refl h))
theorem ss_retN : SS X T W pl (.Return none pos) ρ (.ok (.rt (.sh .non), ρ)) := fun L σ H Hs fp D h k => wS_of ps_retN (k σ .non H Hs fp [] (Post.val h .non).ptsR)
theorem ss_ex {r : R (OT × Env)} (hs : swapsWith e none pos.line X.env = pure false) (he : SE X T W e ρ r) : SS X T W pl (.Expr e pos) ρ (r.bind fun p => .ok (.nx, p.2)) := by
  intro L σ H Hs fp D h k
  rw [cont_bind] at k
  exact wS_of (ps_expr (peW X e) hs) (he L σ H Hs fp _ h (k.imp (fun p k v H1 Hs1 fp1 ft p1 => k σ H1 Hs1 fp1 p1.pst.pts) fun _ _ x => x.x))
theorem ss_ret {r : R (OT × Env)} (he : SE X T W e ρ r) : SS X T W pl (.Return (some e) pos) ρ (r.bind fun p => .ok (.rt p.1, p.2)) := by
  intro L σ H Hs fp D h k
  rw [cont_bind] at k
  exact wS_of (ps_ret (peW X e)) (he L σ H Hs fp _ h (k.imp (fun p k v H1 Hs1 fp1 ft p1 => k σ v H1 Hs1 fp1 ft p1.ptsR) fun _ _ x => x.x))
theorem ss_ife {c : Expr} {a b : List Stmt} {rc : R (Bool × Env)} {ra rb : Env → R (Fl × Env)} (hc : ST X T W c ρ rc) (ha : ∀ ρ1, SSs X T W pl a ρ1 (ra ρ1)) (hb : ∀ ρ1, SSs X T W pl b ρ1 (rb ρ1)) : SS X T W pl (.If c a b pos) ρ (rc.bind fun p => if p.1 = true then ra p.2 else rb p.2) := by
  intro L σ H Hs fp D h k
  rw [cont_bind] at k
  refine wS_of (ps_if (ptW X c) (pssW X a) (pssW X b)) (hc L σ H Hs fp _ h (k.imp (fun p k H1 Hs1 fp1 p1 => ?_) fun _ _ x => x.x))
  obtain ⟨t, ρ1⟩ := p
  cases t with
  | true => exact ha ρ1 L σ H1 Hs1 fp1 D p1.st (later_cont k p1.pts)
  | false => exact hb ρ1 L σ H1 Hs1 fp1 D p1.st (later_cont k p1.pts)
/-- name = value -/
theorem ss_set {i : Nat} {t : TE} {r : R (OT × Env)} (hp : PS X st (tAsg t (gName i))) (he : SR X T W t ρ r) : SS X T W pl st ρ (r.bind fun p => match p.2[i]? with
    | some (.lk _) => .no
    | some _ => if pl.contains i then .no else .ok (.nx, p.2.set i (.ow p.1))
    | none => .no) := by
  intro L σ H Hs fp D h k
  rw [cont_bind] at k
  refine wS_of hp (he L σ H Hs fp (fun x H1 => gName i x σ H1 D.nx) h (k.imp (fun p k v H1 Hs1 fp1 ft p1 => ?_) fun _ _ x => x.x))
  obtain ⟨u, ρ1⟩ := p
  simp only at k p1
  split at k
  · exact k.elim
  · rename_i s hn e0
    split at k
    · exact k.elim
    · rename_i hpl
      obtain ⟨fp2, q⟩ := p1.store (pl := pl) ⟨s, e0⟩ (fun w z => by rw [e0] at z; cases z; exact hn w rfl) (by simpa using hpl)
      exact k _ H1 Hs1 fp2 q
  · exact k.elim
/-- names = value -/
theorem ss_setT {tg : Tg} {r : R (OT × Env)} (hp : PS X st (tAsg (wE X e) (gT X.K tg))) (he : SE X T W e ρ r) : SS X T W pl st ρ (r.bind fun p => match setTg pl tg p.1.toD p.2 with
    | some ρ2 => .ok (.nx, ρ2)
    | none => .no) := by
  intro L σ H Hs fp D h k
  rw [cont_bind] at k
  refine wS_of hp (he L σ H Hs fp (fun x H1 => gT X.K tg x σ H1 D.nx) h (k.imp (fun p k v H1 Hs1 fp1 ft p1 => ?_) fun _ _ x => x.x))
  cases hs : setTg pl tg p.1.toD p.2 with
  | none => rw [hs] at k; exact k.elim
  | some ρ2 =>
    rw [hs] at k
    obtain ⟨f1, f2⟩ := p1.freeze
    obtain ⟨σ', fp', m1, m2, m3, m4, m5, m6⟩ := setTg_ok f1.st f2 hs
    refine m6 _ (k σ' H1 _ fp' ⟨m1, f1.sp.sub m2, m3.trans f1.lk, fun j u q => m4 j fun z => (m5 j z).2 u (lks_lk f1.lk q), fun j hj => m4 j fun z => (m5 j z).1 hj⟩)
/-- name[i] = value -/
theorem plain_asg {o i : Expr} {env : PySem.Env} (h : plainIxB i = true) : ∀ v, assign (.Subscript o i pos) env v = (do
      let ov ← holding [v] (eval o env)
      let iv ← holding [v, ov] (eval i env)
      standAt pos
      holding [v, ov, iv] (setItem ov iv v)
      release [v, ov, iv] []) := by
  intro v
  cases i <;> first | rfl | cases h
theorem ss_setX {i : Nat} {o ix : Expr} {tpos : Pos} {r : R (List OT × Env)} (hs : X.env.scope = sc) (hp : slotB X.N sc i o = true) (hx : plainIxB ix = true) (hsw : swapsWithSole [.Subscript o ix tpos] e pos.line X.env = pure false) (hw : swappedStores [.Subscript o ix tpos] e X.env = pure none) (hr : SEs X T W [e, ix] ρ r) :
    SS X T W pl (.Assign [.Subscript o ix tpos] e pos) ρ (match ρ.ownL i with
      | none => .no
      | some _ => r.bind fun p => match p.2.ownL i with
        | none => .no
        | some us => match muEv .setIx us p.1 with
          | some (_, us') => .ok (.nx, p.2.set i (.ow (.lst us')))
          | none => .no) := by
  intro L σ H Hs fp D h0 k
  refine wS_of (ps_asg (peW X e) (pg_sub (peW X o) (peW X ix) set_list (plain_asg hx)) hsw hw rfl) ?_
  cases hl : ρ.ownL i with
  | none => rw [hl] at k; exact k.elim
  | some us0 =>
    rw [hl] at k
    obtain ⟨a, vs0, g0, fr0, h1, h2, _⟩ := h0.ownList hl
    have k : Cont (r.bind fun p => match p.2.ownL i with
      | none => .no
      | some us => match muEv .setIx us p.1 with
        | some (_, us') => .ok (Fl.nx, p.2.set i (.ow (.lst us')))
        | none => .no) _ _ := k
    rw [cont_bind] at k
    have main : wEs X [e, ix] σ H fun ys H1 => ∀ x y, ys = [x, y] → rSetL (.ref a) y x H1 fun H3 => D.nx σ H3 := by
      refine hr L σ H Hs fp _ h0 (k.imp (fun p k ys H1 Hs1 fp1 ft p1 => ?_) fun _ _ x => x.x)
      rintro x y rfl
      cases hl1 : p.2.ownL i with
      | none => rw [hl1] at k; exact k.elim
      | some us =>
        rw [hl1] at k
        cases hev : muEv .setIx us p.1 with
        | none => simp only [hev] at k; exact k.elim
        | some tu =>
          obtain ⟨t, us'⟩ := tu
          simp only [hev] at k
          obtain ⟨a2, vs, g, fr, q1, q2, q3, q4, q5, q6, q7⟩ := p1.st.ownList hl1
          rw [h1] at q1
          cases q1
          obtain ⟨y', ws, mo, mr⟩ := mu_rule p1.st.ex q2 q3 p1.rp hev
          obtain ⟨fp2, gt, po⟩ := mu_state p1 h1 q2 q3 q4 q5 q6 q7 mo
          obtain ⟨v, kk, j, z1, z2, z3⟩ := mr
          cases z1
          subst z3
          exact ⟨a, vs, kk, j, rfl, rfl, q2, z2, k σ _ Hs1 fp2 po.pst.pts⟩
    exact wE.mono (show wE X e σ H fun x H1 => wE X ix σ H1 fun y H2 => ∀ x' y', [x, y] = [x', y'] → rSetL (.ref a) y' x' H2 fun H3 => D.nx σ H3 from main) fun x H1 q => slot_val hs hp h1 (wE.mono q fun y H2 q => q x y rfl)
theorem ownO_get {ρ : Env} {i c : Nat} {ks : List Str} {ts : List OT} (h : ρ.ownO i c = some (ks, ts)) : ρ[i]? = some (.ow (.obj c ks ts)) := by
  unfold Env.ownO at h
  split at h
  · rename_i c' ks' ts' e
    split at h
    · rename_i hc; cases h; subst hc; exact e
    · cases h
  · cases h
theorem fldIx_none : ∀ {fs : List (Str × V)} {f : Str} {v : V}, fldIx (fs.map (·.1)) f = none → putF f v fs = fs ++ [(f, v)]
  | [], f, v, _ => rfl
  | (g, x) :: r, f, v, h => by
    simp only [List.map_cons, fldIx] at h
    split at h
    · cases h
    · rename_i hn
      have h1 : fldIx (r.map (·.1)) f = none := by
        cases e : fldIx (r.map (·.1)) f with
        | none => rfl
        | some j => rw [e] at h; cases h
      unfold putF
      rw [if_neg hn, fldIx_none h1]
      rfl
theorem fldIx_some : ∀ {fs : List (Str × V)} {f : Str} {v : V} {j : Nat}, fldIx (fs.map (·.1)) f = some j → (putF f v fs).map (·.1) = fs.map (·.1) ∧ (putF f v fs).map (·.2) = (fs.map (·.2)).set j v
  | [], f, v, j, h => by cases h
  | (g, x) :: r, f, v, j, h => by
    simp only [List.map_cons, fldIx] at h
    unfold putF
    split at h
    · rename_i hg
      cases Option.some.inj h
      rw [if_pos hg]
      exact ⟨rfl, rfl⟩
    · rename_i hg
      obtain ⟨i, h1, rfl⟩ := Option.map_eq_some_iff.mp h
      obtain ⟨k1, k2⟩ := fldIx_some (v := v) h1
      rw [if_neg hg]
      exact ⟨by rw [List.map_cons, k1]; rfl, by rw [List.map_cons, k2]; rfl⟩
theorem putO_ok {K : PySem.W.Frag} {Hs H : Hp} {f : Str} {t : OT} {fs : List (Str × V)} {ts ts' : List OT} {ks' : List Str} {g ft : List Addr} {v : V} (h : putO f t (fs.map (·.1)) ts = some (ks', ts')) (r : RpOs K T Hs H ts (fs.map (·.2)) g) (rt : RpO K T Hs H t v ft) :
    ks' = (putF f v fs).map (·.1) ∧ (∀ x ∈ ks', x ∈ fs.map (·.1) ∨ x = f) ∧ ∃ g' rest, RpOs K T Hs H ts' ((putF f v fs).map (·.2)) g' ∧ (g ++ ft).Perm (g' ++ rest) := by
  unfold putO at h
  cases e : fldIx (fs.map (·.1)) f with
  | none =>
    rw [e] at h
    cases h
    rw [fldIx_none (v := v) e]
    refine ⟨by simp, fun x hx => by simpa using hx, g ++ ft, [], ?_, by simp⟩
    rw [List.map_append]
    have := r.append (RpOs.cons rt .nil)
    rw [List.append_nil] at this
    exact this
  | some j =>
    rw [e] at h
    simp only at h
    split at h
    · rename_i hj
      cases h
      obtain ⟨k1, k2⟩ := fldIx_some (v := v) e
      rw [k1, k2]
      exact ⟨rfl, fun x hx => .inl hx, r.replace hj rt⟩
    · cases h
/-- name.f = value -/
theorem ss_setF {i c : Nat} {f : Str} {o : Expr} {apos : Pos} {r : R (OT × Env)} (hs : X.env.scope = sc) (hp : slotB X.N sc i o = true) (hcl : ∀ C, T.clA c = some C → L2.Cls X.K C ∧ NoAttr X.K C f) (he : SE X T W e ρ r) :
    SS X T W pl (.Assign [.Attribute o f apos] e pos) ρ (r.bind fun p => match p.2.ownO i c with
      | none => .no
      | some (ks, ts) => if ks.length < 1000 then match putO f p.1 ks ts with
          | some (ks', ts') => .ok (.nx, p.2.set i (.ow (.obj c ks' ts')))
          | none => .no
        else .no) := by
  intro L σ H Hs fp D h k
  rw [cont_bind] at k
  refine wS_of (ps_fld (slot_of hs hp) (peW X e) (by cases e <;> rfl)) ?_
  refine he L σ H Hs fp _ h (k.imp (fun p k v H1 Hs1 fp1 ft p1 => ?_) fun _ _ x => x.x)
  obtain ⟨t, ρ1⟩ := p
  simp only at k p1
  cases ho : ρ1.ownO i c with
  | none => rw [ho] at k; exact k.elim
  | some kt =>
    obtain ⟨ks, ts⟩ := kt
    rw [ho] at k
    simp only at k
    split at k
    · rename_i hlen
      cases hpo : putO f t ks ts with
      | none => rw [hpo] at k; exact k.elim
      | some kt2 =>
        obtain ⟨ks', ts'⟩ := kt2
        rw [hpo] at k
        have e0 := ownO_get ho
        obtain ⟨x, fo, fr, l1, l2, l3, l4⟩ := p1.st.rs.takeOut e0
        cases l2 with
        | @obj _ C a dx fs _ g q1 q2 q3 =>
          obtain ⟨cl, na⟩ := hcl C q2.1
          obtain ⟨z1, z2, g', rest, z3, z4⟩ := putO_ok hpo q3 p1.rp
          have ndA : ((a :: g) ++ ft).Nodup := by
            have y1 := p1.nd
            have y2 : (ft ++ ((a :: g) ++ fr)).Nodup := (List.Perm.append_left ft l3).nodup_iff.mp y1
            have y3 : (ft ++ (a :: g)).Nodup := by
              rw [← List.append_assoc] at y2
              exact (List.nodup_append.mp y2).1
            exact (List.perm_append_comm).nodup_iff.mp y3
          have pm2 : ((a :: g) ++ ft).Perm ([] ++ (a :: g') ++ rest) := by
            show (a :: (g ++ ft)).Perm (a :: (g' ++ rest))
            exact List.Perm.cons a z4
          have nag : a ∉ g' := fun m => by
            have y := pm2.nodup_iff.mp ndA
            exact (List.nodup_cons.mp (show (a :: (g' ++ rest)).Nodup from y)).1 (by simp [m])
          obtain ⟨fp4, po⟩ := own_state (ts := [t]) (ys := [v]) (t := .sh .non) (y := .non) (b := a) (o := .ins C dx (putF f v fs)) (f := a :: g) (f' := a :: g') (gt := []) (rest := rest) (tn := .obj c ks' ts') (x := .ref a)
            (Posts.mk p1.st (by have := RpOs.cons p1.rp RpOs.nil; rw [List.append_nil] at this; exact this) p1.nd p1.nf p1.lf p1.sp p1.lk) l1 l3 l4 (List.getElem?_eq_some_iff.mp e0).1 e0 (by simp) (.sh .non) (by simp)
            (fun H3 h3 kp => by
              subst z1
              exact RpO.obj h3 ⟨q2.1, ⟨cl, fun k hk => (z2 k hk).elim (q2.2.na k) fun e => e ▸ na⟩⟩ (z3.step (Ex.refl _) fun x hx q hq => kp x (by simp [hx]) (fun e => nag (e ▸ hx)) q hq)) pm2
          exact ⟨.ref a, l1, a, C, dx, fs, rfl, q1, cl, na, by simpa using hlen, k σ _ Hs1 fp4 po.pst.pts⟩
    · exact k.elim
end
end CH
end
section
namespace CH
open PySem L2 Evl PyProof.Rows
section
variable {X : Cx} {T : Tab} {W : WX} {pl : List Nat} {sc : Scope} {ρ : Env} {pos : Pos}
/-- behind a walk, seen from ahead of it -/
theorem Opn.pts {K : PySem.W.Frag} {L L' : List Addr} {σ σ2 : L2.St} {Hs H Hs1 H1 Hs2 H2 : Hp} {fp fp1 fp2 : List Addr} {ρ1 ρ2 : Env} {bk : Env → Env} (op : Opn K T L σ Hs H fp ρ bk L' ρ1 H1 Hs1 fp1) (q : Pts pl K T L' σ Hs1 H1 fp1 ρ1 σ2 ρ2 H2 Hs2 fp2) :
    ∃ fp3, Pts pl K T L σ Hs H fp ρ σ2 (bk ρ2) H2 Hs2 fp3 := by
  obtain ⟨fp3, b1, b2, b3, b4⟩ := op.back [] (fun x hx => absurd hx (by simp)) q.st q.sp q.lk q.lv
  exact ⟨fp3, b1, b2, b3, fun j u z => q.lv j u (op.lkp j u z), q.pv⟩
theorem Opn.ptsR {K : PySem.W.Frag} {L L' : List Addr} {σ σ2 : L2.St} {Hs H Hs1 H1 Hs2 H2 : Hp} {fp fp1 fp2 ft : List Addr} {ρ1 ρ2 : Env} {bk : Env → Env} {t : OT} {v : V} (op : Opn K T L σ Hs H fp ρ bk L' ρ1 H1 Hs1 fp1) (q : PtsR pl K T L' σ Hs1 H1 fp1 ρ1 t σ2 ρ2 v H2 Hs2 fp2 ft) :
    ∃ fp3, PtsR pl K T L σ Hs H fp ρ t σ2 (bk ρ2) v H2 Hs2 fp3 ft := by
  have sp0 : Stp fp1 H1 Hs1 fp2 H2 Hs2 := q.sp.sub fun x hx => by simp [hx]
  obtain ⟨fp3, b1, b2, b3, b4⟩ := op.back [] (fun x hx => absurd hx (by simp)) q.st sp0 q.lk q.lv
  have d := List.nodup_append.mp q.nd
  have nw : ∀ x ∈ ft, x ∈ fp1 ∨ H1 x = none := fun x hx => q.sp.nw x (by simp [hx])
  have out : ∀ x ∈ ft, x ∉ fp3 := fun x hx hf => by
    rcases b4 x hf with z | ⟨⟨o, z⟩, z2, _⟩
    · exact d.2.2 x hx x z rfl
    · rcases nw x hx with w | w
      · exact z2 w
      · rw [z] at w; cases w
  refine ⟨fp3, b1, q.rp, List.nodup_append.mpr ⟨d.1, b1.nd, fun x hx y hy e => out x hx (e ▸ hy)⟩, q.nf, fun x hx => q.lf x (op.nl x hx), ⟨b2.ex, b2.fr, fun x hx => ?_, b2.dm⟩, b3, fun j u z => q.lv j u (op.lkp j u z), q.pv⟩
  rcases List.mem_append.mp hx with hx | hx
  · exact op.nw x (nw x hx)
  · exact b2.nw x hx
theorem ss_for {tgE iter : Expr} {body : List Stmt} {wi : TI} {bk : Env → Env} {rI : R (List D × Env)} {rb : Env → R (Fl × Env)} {tg : Tg} (hpo : PassesOwn (model X.prog X.w) X.A X.env X.xe) (hc : X.calm = true) (hi : PI X tgE iter wi) (hg : PG X tgE (gT X.K tg)) (hset : notSetB iter = true)
    (si : SI X T W wi ρ bk rI) (hb : ∀ ρ1, SSs X T W pl body ρ1 (rb ρ1)) : SS X T W pl (.For tgE iter body [] pos) ρ (rI.bind fun p => match forL rb pl tg p.1 p.2 with
      | .ok (f, ρ2) => .ok (f, bk ρ2)
      | .ex e ρ2 => .ex e (bk ρ2)
      | .no => .no) := by
  intro L σ H Hs fp D h k
  rw [cont_bind] at k
  refine wS_of (ps_for hpo hc hi hg (pssW X body) (notSet hset)) (si L σ H Hs fp [] _ h (fun a ha => absurd ha (by simp)) (k.imp (fun p k J P L' H1 Hs1 fp1 wk hp op => ?_) fun _ _ x => x.x))
  obtain ⟨ds, ρ1⟩ := p
  simp only at k wk op
  refine ⟨fun i m σ' H' => m = ds.length - i ∧ i ≤ ds.length ∧ ∃ ρi Hs' fpi, P H' Hs' fpi ∧ Pts pl X.K T L' σ Hs1 H1 fp1 ρ1 σ' ρi H' Hs' fpi ∧ forL rb pl tg (ds.drop i) ρi = forL rb pl tg ds ρ1, ⟨ds.length, by simp, Nat.zero_le _, ρ1, Hs1, fp1, hp, Pts.refl op.st, by simp⟩, ?_⟩
  rintro i m σ' H' ⟨rfl, hle, ρi, Hs', fpi, hP, q, ev⟩
  by_cases hlt : i < ds.length
  · rw [List.drop_eq_getElem_cons hlt] at ev
    simp only [forL] at ev
    obtain ⟨go, yld⟩ := wk.go hP q.st.ex (List.getElem?_eq_getElem hlt)
    refine .inr ⟨go, _, fun σ' H' z => z, fun x H2 y => ?_⟩
    obtain ⟨Hs2, nw⟩ := yld x H2 y
    have p2 := New.post q.st nw
    have r : Rp X.K T Hs2 ds[i] x := by
      cases nw.rp with
      | sh r => exact r
    cases hs : setTg pl tg ds[i] ρi with
    | none => rw [hs] at ev; rw [← ev] at k; exact k.elim
    | some ρ' =>
      rw [hs] at ev
      obtain ⟨σ3, fp3, m1, m2, m3, m4, m5, m6⟩ := setTg_ok p2.st r hs
      refine m6 _ ?_
      have q23 : Pts pl X.K T L' σ' Hs' H' fpi ρi σ3 ρ' H2 Hs2 fp3 := ⟨m1, p2.pst.sp.sub m2, m3, fun j u z => m4 j fun w => (m5 j w).2 u z, fun j hj => m4 j fun w => (m5 j w).1 hj⟩
      have q3 := q.trans q23
      have hP3 : P H2 Hs2 fp3 := wk.keep hP q23.sp
      refine hb ρ' L' σ3 H2 Hs2 fp3 _ m1 ?_
      cases hr : rb ρ' with
      | no => simp only [hr, R.bind] at ev; rw [← ev] at k; exact k.elim
      | ex e ρ2 =>
        simp only [hr, R.bind] at ev
        rw [← ev] at k
        intro σ4 H4 Hs4 fp4 C d q4 xr
        obtain ⟨fp5, z⟩ := op.pts (q3.trans q4)
        exact k σ4 H4 Hs4 fp5 C d z xr
      | ok fr =>
        obtain ⟨f, ρ2⟩ := fr
        simp only [hr, R.bind] at ev
        cases f with
        | nx => exact fun σ4 H4 Hs4 fp4 q4 => ⟨ds.length - (i + 1), by omega, rfl, hlt, ρ2, Hs4, fp4, wk.keep hP3 q4.sp, q3.trans q4, ev⟩
        | ct => exact fun σ4 H4 Hs4 fp4 q4 => ⟨ds.length - (i + 1), by omega, rfl, hlt, ρ2, Hs4, fp4, wk.keep hP3 q4.sp, q3.trans q4, ev⟩
        | brk =>
          simp only at ev
          rw [← ev] at k
          intro σ4 H4 Hs4 fp4 q4
          obtain ⟨fp5, z⟩ := op.pts (q3.trans q4)
          exact k σ4 H4 Hs4 fp5 z
        | rt t =>
          simp only at ev
          rw [← ev] at k
          intro σ4 v H4 Hs4 fp4 ft q4
          obtain ⟨fp5, z⟩ := op.ptsR (q3.ret q4)
          exact k σ4 v H4 Hs4 fp5 ft z
  · have e : i = ds.length := by omega
    subst e
    rw [List.drop_length] at ev
    simp only [forL] at ev
    rw [← ev] at k
    obtain ⟨fp5, z⟩ := op.pts q
    exact .inl ⟨wk.stop hP q.st.ex, k σ' H' Hs' fp5 z⟩
theorem ss_whl {c : Expr} {body : List Stmt} {rc : Env → R (Bool × Env)} {rb : Env → R (Fl × Env)} {n : Nat} (hpo : PassesOwn (model X.prog X.w) X.A X.env X.xe) (hc : ∀ ρ1, ST X T W c ρ1 (rc ρ1)) (hb : ∀ ρ1, SSs X T W pl body ρ1 (rb ρ1)) : SS X T W pl (.While c body [] pos) ρ (whlL rc rb n ρ) := by
  intro L σ H Hs fp D h k
  refine wS_of (ps_while hpo (ptW X c) (pssW X body)) ?_
  refine ⟨fun m σ' H' => ∃ ρi Hs' fpi, Pts pl X.K T L σ Hs H fp ρ σ' ρi H' Hs' fpi ∧ whlL rc rb m ρi = whlL rc rb n ρ, ⟨n, ρ, Hs, fp, Pts.refl h, rfl⟩, ?_⟩
  rintro m σ' H' ⟨ρi, Hs', fpi, q, ev⟩
  cases m with
  | zero => simp only [whlL] at ev; rw [← ev] at k; exact k.elim
  | succ m =>
    simp only [whlL] at ev
    refine hc ρi L σ' H' Hs' fpi _ q.st ?_
    cases hr : rc ρi with
    | no => simp only [hr, R.bind] at ev; rw [← ev] at k; exact k.elim
    | ex e ρ2 =>
      simp only [hr, R.bind] at ev
      rw [← ev] at k
      exact (XSOk.later k q).x
    | ok br =>
      obtain ⟨b, ρ1⟩ := br
      simp only [hr, R.bind] at ev
      intro H2 Hs2 fp2 p2
      have q2 := q.trans p2.pts
      cases b with
      | false =>
        simp only [Bool.false_eq_true, if_false] at ev ⊢
        rw [← ev] at k
        exact k σ' H2 Hs2 fp2 q2
      | true =>
        simp only [if_true] at ev ⊢
        refine ⟨_, fun σ' H' z => z, ?_⟩
        refine hb ρ1 L σ' H2 Hs2 fp2 _ q2.st ?_
        cases hr2 : rb ρ1 with
        | no => simp only [hr2] at ev; rw [← ev] at k; exact k.elim
        | ex e ρ2 =>
          simp only [hr2] at ev
          rw [← ev] at k
          exact XSOk.later k q2
        | ok fr =>
          obtain ⟨f, ρ2⟩ := fr
          simp only [hr2] at ev
          cases f with
          | nx => exact fun σ4 H4 Hs4 fp4 q4 => ⟨m, by omega, ρ2, Hs4, fp4, q2.trans q4, ev⟩
          | ct => exact fun σ4 H4 Hs4 fp4 q4 => ⟨m, by omega, ρ2, Hs4, fp4, q2.trans q4, ev⟩
          | brk =>
            simp only at ev
            rw [← ev] at k
            exact fun σ4 H4 Hs4 fp4 q4 => k σ4 H4 Hs4 fp4 (q2.trans q4)
          | rt t =>
            simp only at ev
            rw [← ev] at k
            exact fun σ4 v H4 Hs4 fp4 ft q4 => k σ4 v H4 Hs4 fp4 ft (q2.ret q4)
end
def notCompB : Expr → Bool
  | .ListComp .. => false
  | .SetComp .. => false
  | .DictComp .. => false
  | _ => true
def notSwapB : Expr → Bool
  | .ListComp .. => false
  | .SetComp .. => false
  | .DictComp .. => false
  | .Tuple .. => false
  | _ => true
/-- name = value is plainly stored -/
def plainSetB (sc : Scope) (y : Str) (py : Pos) : Expr → Bool
  | .ListComp _ _ _ p => !(py.line == p.line) || !decide (sc.names.lookup y = some .local)
  | .SetComp .. => false
  | .DictComp .. => false
  | _ => true
def swapSetB (sc : Scope) (y : Str) (py : Pos) : Expr → Bool
  | .ListComp _ _ scope p => decide (sc.kind = .function) && decide (sc.names.lookup y = some .local) && (py.line == p.line) && !(scope.names.any fun (n, k) => n == y && (k == .local || k == .cell))
  | _ => false
theorem drop_sw {e : Expr} {l : Nat} {env : PySem.Env} (h : notCompB e = true) : swapsWith e none l env = pure false := by
  cases e <;> first | rfl | cases h
theorem plain_sw {sc : Scope} {y : Str} {py : Pos} {e : Expr} {l : Nat} {env : PySem.Env} (hs : env.scope = sc) (h : plainSetB sc y py e = true) : swapsWith e (some (.Name y py)) l env = pure false := by
  cases e with
  | ListComp a b scope p =>
    have h : (py.line == p.line) = false ∨ (env.kindOf y == some .local) = false := by
      simp only [plainSetB, Bool.or_eq_true, Bool.not_eq_true', decide_eq_false_iff_not] at h
      refine h.imp id fun z => ?_
      have e1 : env.kindOf y = sc.names.lookup y := by rw [← hs]; rfl
      rw [e1]
      simpa using z
    unfold swapsWith
    rcases h with h | h
    · simp only [Expr.pos, h, Bool.and_false, Bool.false_and]
    · simp only [h, Bool.and_false, Bool.false_and]
  | SetComp => cases h
  | DictComp => cases h
  | _ => rfl
theorem tup_sw {e tg : Expr} {l : Nat} {env : PySem.Env} (h : notSwapB e = true) : swapsWithSole [tg] e l env = pure false ∧ swappedStores [tg] e env = pure none := by
  refine ⟨?_, ?_⟩
  · cases e <;> first | rfl | cases h
  · unfold swappedStores
    cases e <;> first | (cases tg <;> rfl) | (cases h; done)
theorem sub_sw {o i e : Expr} {p : Pos} {l : Nat} {env : PySem.Env} : swapsWithSole [.Subscript o i p] e l env = pure false ∧ swappedStores [.Subscript o i p] e env = pure none := by
  refine ⟨?_, ?_⟩
  · cases e <;> rfl
  · unfold swappedStores
    cases e <;> rfl
def nopB : Stmt → Bool
  | .Pass _ => true
  | .Expr (.Constant (.str _) _ _) _ => true
  | .Global _ _ => true
  | _ => false
def brkB : Stmt → Bool
  | .Break _ => true
  | _ => false
def contB : Stmt → Bool
  | .Continue _ => true
  | _ => false
def retNB : Stmt → Bool
  | .Return none _ => true
  | _ => false
def isLc : CE → Bool
  | .lc .. => true
  | .lc2 .. => true
  | _ => false
def kEx (f : Expr → Bool) : Stmt → Bool
  | .Expr e _ => notCompB e && f e
  | _ => false
def kSet (g : Sg) (i : Nat) (lc : Bool) (f : Expr → Bool) : Stmt → Bool
  | .Assign [.Name y py] x _ => tgNm g.N g.sc g.fn i (.Name y py) && f x && (plainSetB g.sc y py x || (lc && swapSetB g.sc y py x))
  | _ => false
def kSetT (g : Sg) (is : List Nat) (f : Expr → Bool) : Stmt → Bool
  | .Assign [tg] x _ => tgB g.N g.sc g.fn (.tup is) tg && notSwapB x && f x && !isStar tg
  | _ => false
def kSetX (g : Sg) (i : Nat) (p : List Str) (f : List Expr → Bool) : Stmt → Bool
  | .Assign [.Subscript o ix _] x _ => p.isEmpty && slotB g.N g.sc i o && plainIxB ix && f [x, ix]
  | _ => false
def fldB (cls : List (Str × List Str)) (c : Nat) (f : Str) : Bool := match cls[c]? with
  | some k => k.2.contains f
  | none => false
def kSetF (g : Sg) (i c : Nat) (f : Str) (p : Expr → Bool) : Stmt → Bool
  | .Assign [.Attribute o a _] x _ => decide (a = f) && slotB g.N g.sc i o && fldB g.cls c f && p x
  | _ => false
def kRet (f : Expr → Bool) : Stmt → Bool
  | .Return (some e) _ => f e
  | _ => false
def kIf (t : Expr → Bool) (a b : List Stmt → Bool) : Stmt → Bool
  | .If c x y _ => t c && a x && b y
  | _ => false
def kWhl (t : Expr → Bool) (a : List Stmt → Bool) : Stmt → Bool
  | .While c x [] _ => t c && a x
  | _ => false
def kFor (g : Sg) (tg : Tg) (it : Expr → Expr → Bool) (a : List Stmt → Bool) : Stmt → Bool
  | .For tgE iter x [] _ => tgB g.N g.sc g.fn tg tgE && notSetB iter && it tgE iter && a x
  | _ => false
def isFrz : CS → Bool
  | .frz _ => true
  | _ => false
def kSs (b : Bool) (f : Stmt → Bool) (h : List Stmt → Bool) : List Stmt → Bool
  | ss => if b = true then h ss else match ss with
    | st :: r => f st && h r
    | [] => false
/-- raise C(..) -/
def kRaise (g : Sg) (c n : Nat) (f : List Expr → Bool) : Stmt → Bool
  | .Raise (some (.Call (.Name x _) es [] _)) none _ => (match g.exs[c]? with
    | some k => decide (x = k.1) && decide (k.2.1.length = n) && !k.2.1.isEmpty
    | none => false) && glB g.sc x && !(x == ("__debug__" : Str)) && !es.isEmpty && nostar es && f es
  | _ => false
/-- what a suite hands back -/
def kAt (g : Sg) (h : Hd) : At → Expr → Bool
  | .c d, e => constB d e
  | .v j, e => slotB g.N g.sc j e && !(h.i == some j)
  | .xf j, .Attribute (.Name y p) f _ => (match h.i with
    | some i => slotB g.N g.sc i (.Name y p)
    | none => false) && h.ms.all fun c => match g.exs[c]? with
      | some k => decide (k.2.1[j]? = some f)
      | none => false
  | _, _ => false
def kAts (g : Sg) (h : Hd) : List At → List Expr → Bool
  | [], [] => true
  | a :: r, e :: es => kAt g h a e && kAts g h r es
  | _, _ => false
def kSu (g : Sg) (h : Hd) : List Stmt → Bool
  | [.Return (some e) _] => if h.tup = true then (match e with
    | .Tuple es _ _ => nostar es && kAts g h h.as es
    | _ => false) else (match h.as with
    | [a] => kAt g h a e
    | _ => false)
  | _ => false
def kNm (g : Sg) : Option Str → Option Nat → Bool
  | none, none => true
  | some n, some i => decide (g.N[i]? = some n) && decide (g.sc.names.lookup n = some .local)
  | _, _ => false
def kMs (g : Sg) (h : Hd) : Bool := (List.range g.exs.length).all fun c => h.ms.contains c == (match g.exs[c]? with
  | some k => k.2.2.contains h.c
  | none => false)
def kHds (g : Sg) : List Hd → List ExceptHandler → Bool
  | [], [] => true
  | h :: hs, .ExceptHandler (some (.Name x _)) n su _ :: hds => (match g.exs[h.c]? with
    | some k => decide (x = k.1)
    | none => false) && glB g.sc x && !(x == ("__debug__" : Str)) && kNm g n h.i && kMs g h && kSu g h su && kHds g hs hds
  | _, _ => false
def kTry (g : Sg) (hs : List Hd) (f : List Stmt → Bool) : Stmt → Bool
  | .Try b hds [] [] _ => !hds.isEmpty && kHds g hs hds && f b
  | _ => false
mutual
def chkS (g : Sg) : CS → Stmt → Bool
  | .nop, s => nopB s
  | .brk, s => brkB s
  | .cont, s => contB s
  | .retN, s => retNB s
  | .frz _, _ => false
  | .ex e, s => kEx (fun x => chkE g e x) s
  | .set i e, s => kSet g i (isLc e) (fun x => chkE g e x) s
  | .setT is e, s => kSetT g is (fun x => chkE g e x) s
  | .setF i c f e, s => kSetF g i c f (fun x => chkE g e x) s
  | .setX i p ix e, s => kSetX g i p (fun es => chkEs g (.cons e (.cons ix .nil)) es) s
  | .ret e, s => kRet (fun x => chkE g e x) s
  | .ife t a b, s => kIf (fun x => chkT g t x) (fun x => chkSs g a x) (fun x => chkSs g b x) s
  | .whl t a, s => kWhl (fun x => chkT g t x) (fun x => chkSs g a x) s
  | .for_ tg it a, s => kFor g tg (fun t x => tgFits it t && chkI g it x) (fun x => chkSs g a x) s
  | .raise c n as, s => kRaise g c n (fun es => chkEs g as es) s
  | .tr b hs, s => kTry g hs (fun x => chkSs g b x) s
def chkSs (g : Sg) : CSs → List Stmt → Bool
  | .nil, ss => ss.isEmpty
  | .cons s r, ss => kSs (isFrz s) (fun x => chkS g s x) (fun x => chkSs g r x) ss
end
structure FitsS (g : Sg) (X : Cx) (T : Tab) (Φ : Phi) (W : WX) (k : Nat) : Prop extends Fits g X T Φ W k where
  po : PassesOwn (model X.prog X.w) X.A X.env X.xe
  sk : X.stack = X.env :: X.outer
  fr : X.env.frame = some X.env.locals
variable {T : Tab} {Φ : Phi} {pl : List Nat}
/-- the reading of a comprehension -/
theorem sr_lc {elt : CE} {tg : Tg} {it : CI} {cs : CTs} {g : Sg} {X : Cx} {W : WX} {k : Nat} {x : Expr} (F : Fits g X T Φ W k) (h : chkE g (.lc elt tg it cs) x = true) :
    ∃ t, (∀ ρ, SR X T W t ρ (evE Φ pl (.lc elt tg it cs) ρ)) ∧ ∀ {i : Nat} {y : Str} {py spos : Pos}, X.N[i]? = some y → X.env.scope.names.lookup y = some .local → swapsWith x (some (.Name y py)) spos.line X.env = pure true → PS X (.Assign [.Name y py] x spos) (tAsg t (gName i)) := by
  simp only [chkE] at h
  unfold kLc at h
  split at h
  · have h1 := and_b h
    have h2 := and_b h1.1
    have h3 := and_b h2.1
    have h4 := and_b h3.1
    have h5 := and_b h4.1
    have h6 := and_b h5.1
    have h33 := and_b h3.2
    obtain ⟨w0, w2⟩ := snI (pl := pl) it F h33.2
    have w1 := w0 _ h33.1
    have ok := blk_ok h6.2
    have nd := F.nd
    rename_i xE tgE iter ifs scope lpos
    have ok' : BlkOk X.N X.env.scope scope (ownOf g.N tg.slots) := by rw [F.n, F.sc]; exact ok
    refine ⟨tLc (wiI X it iter) (gT X.K tg) (tIfs X scope ifs) (tElt X scope xE) ((ownOf g.N tg.slots).map (·.2)), fun ρ => ?_, fun {i y py spos} hy hyl hsw => ?_⟩
    · rw [evE, own_snd]
      intro L σ H Hs fp Q h k
      exact lc_read (bk := backI it ρ) (pl := pl) (w2 ρ) (fun s H C cl fp ρ => snTs cs (F.blk s H scope C cl fp) h4.2 h2.2) (fun s H C cl fp ρ => snE elt (F.blk s H scope C cl fp) h1.2) h k
    · exact ps_setLc F.calm nd hy hyl hsw w1 ok' (fun s H C cl fp => tg_pg (X := blkC' X s H scope C cl fp) nd (blk_scope F.sc) rfl F.calm (by show tgB X.N _ _ tg tgE = true; rw [F.n]; exact h5.2)) (fun s H C cl fp => pts_w h4.2 s H C cl fp) (fun s H C cl fp => pe_elt s H C cl fp) (notSet h6.1)
  · cases h
theorem sr_lc2 {elt : CE} {tg tg1 : Tg} {it it1 : CI} {cs cs1 : CTs} {g : Sg} {X : Cx} {W : WX} {k : Nat} {x : Expr} {ρ : Env} (F : Fits g X T Φ W k) (h : chkE g (.lc2 elt tg it cs tg1 it1 cs1) x = true) :
    ∃ t, SR X T W t ρ (evE Φ pl (.lc2 elt tg it cs tg1 it1 cs1) ρ) ∧ ∀ {i : Nat} {y : Str} {py spos : Pos}, X.N[i]? = some y → X.env.scope.names.lookup y = some .local → swapsWith x (some (.Name y py)) spos.line X.env = pure true → PS X (.Assign [.Name y py] x spos) (tAsg t (gName i)) := by
  simp only [chkE] at h
  unfold kLc2 at h
  split at h
  · simp only [Bool.and_eq_true] at h
    obtain ⟨⟨⟨⟨⟨⟨⟨⟨⟨⟨⟨h1, h2⟩, h3⟩, h4⟩, h5⟩, h6⟩, h7⟩, h8⟩, h9⟩, h10⟩, h11⟩, h12⟩ := h
    have h88 := h8
    have h100 := h10
    obtain ⟨w0, w2⟩ := snI (pl := pl) it F h88.2
    have w1 := w0 _ h88.1
    obtain ⟨t, _, t2, t3⟩ := se_lc2 (ρ := ρ) (T := T) (W := W) (c1 := it1) (bk := backI it ρ) (bk1 := fun ρ ρ' => backI it1 ρ ρ') (pl := pl) F.nd F.sc F.calm w1 h1 h2 (w2 ρ) (by rw [F.n]; exact blk_ok h3) (by rw [own_snd]) (by rw [F.n]; exact h4) (by rw [F.n]; exact h5) h6 h7
      (fun s H C cl fp => (snI (pl := pl) it1 (F.blk s H _ C cl fp) h100.2).1 _ h100.1) (fun s H C cl fp ρ => (snI (pl := pl) it1 (F.blk s H _ C cl fp) h100.2).2 ρ) (fun s H C cl fp ρ => snTs cs (F.blk s H _ C cl fp) h6 h9) (fun s H C cl fp ρ => snTs cs1 (F.blk s H _ C cl fp) h7 h11) (fun s H C cl fp ρ => snE elt (F.blk s H _ C cl fp) h12)
    refine ⟨t, ?_, t2⟩
    rw [evE]
    exact t3
  · cases h
end CH
end
section
namespace CH
open PySem L2 Evl PyProof.Rows
section
variable {X : Cx} {T : Tab} {Φ : Phi} {W : WX} {pl : List Nat} {g : Sg} {k : Nat} {ρ : Env}
theorem ss_raise {c n : Nat} {x : Str} {es : List Expr} {p pos pos2 : Pos} {kx : ExC} {r : R (List OT × Env)} (F : FitsS g X T Φ W k) (hk : g.exs[c]? = some kx) (hx : x = kx.1) (hn : kx.2.1.length = n) (hne : kx.2.1 ≠ []) (hg : Gl X x) (hdb : (x == ("__debug__" : Str)) = false)
    (hes : es ≠ []) (hst : nostar es = true) (hs : SEs X T W es ρ r) : SS X T W pl (.Raise (some (.Call (.Name x p) es [] pos)) none pos2) ρ (r.bind fun q => if q.1.length = n then .ex ⟨c, toDs q.1⟩ q.2 else .no) := by
  intro L σ H Hs fp D h kk
  obtain ⟨C, hA, hF, hm, hI, _⟩ := F.ex c kx hk
  obtain ⟨fI, Tx⟩ := hI hne
  cases es with
  | nil => exact absurd rfl hes
  | cons e es =>
    have ke : isStar e = false ∧ nostar es = true := by simpa [nostar] using hst
    refine wS_of (ps_raise F.calm F.tk (pmk_ex Tx hne F.room (paW X (e :: es) hst) hg (hx ▸ hm) hdb (star_cons ke.1) (star_any ke.2))) ?_
    rw [cont_bind] at kk
    refine hs L σ H Hs fp _ h (kk.imp (fun q kk vs H1 Hs1 fp1 ft p1 => ?_) fun _ _ x => x.x)
    obtain ⟨ts, ρ1⟩ := q
    simp only at kk p1
    have hlen := p1.rp.length
    split at kk
    · rename_i hl
      have lv : vs.length = kx.2.1.length := by rw [← hlen, hl, hn]
      refine ⟨lv, fun d hd => ?_⟩
      obtain ⟨f1, f2⟩ := p1.freeze
      have eH : Ex H1 (upd H1 d (.xd (kx.2.1.zip vs))) := Ex.new hd
      have st : StOk X.K T L (frz Hs1 H1 ft) (upd H1 d (.xd (kx.2.1.zip vs))) ρ1 σ fp1 := f1.st.grow eH (Ex.refl _) (f1.st.ex.trans eH) fun a o q => .inl q
      have sp : Stp fp H Hs fp1 (upd H1 d (.xd (kx.2.1.zip vs))) (frz Hs1 H1 ft) := ⟨f1.sp.ex, fun a o q hq => eH a o (f1.sp.fr a o q hq), f1.sp.nw, f1.sp.dm⟩
      refine kk σ _ _ fp1 C d ⟨st, sp, f1.lk, fun _ _ _ => rfl, fun _ _ => rfl⟩ ⟨hA, kx.2.1.zip vs, upd_same, ?_, ?_⟩
      · rw [hF, List.map_fst_zip (by omega)]
      · rw [List.map_snd_zip (by omega)]
        exact f2
    · exact kk.elim
/-- the name's slot holds nothing: the state stands where it is stored to -/
theorem slot_ne {σ : L2.St} {a : Addr} {j : Nat} {i : Option Nat} (h : i ≠ some j) : (stOf σ a i)[j]? = σ[j]? := by
  cases i with
  | none => rfl
  | some i => exact List.getElem?_set_ne fun z => h (by rw [z])
theorem zip_at {fl : List (Str × V)} {j : Nat} {f : Str} {v : V} (nd : (fl.map (·.1)).Nodup) (h1 : (fl.map (·.1))[j]? = some f) (h2 : (fl.map (·.2))[j]? = some v) : fl.lookup f = some v := by
  induction fl generalizing j with
  | nil => simp at h1
  | cons p fl ih =>
    rw [List.map_cons, List.nodup_cons] at nd
    cases j with
    | zero =>
      simp only [List.map_cons, List.getElem?_cons_zero, Option.some.injEq] at h1 h2
      subst h1 h2
      obtain ⟨a, b⟩ := p
      simp [List.lookup]
    | succ j =>
      simp only [List.map_cons, List.getElem?_cons_succ] at h1 h2
      have ne : p.1 ≠ f := fun e => nd.1 (e ▸ List.mem_of_getElem? h1)
      obtain ⟨a, b⟩ := p
      have : (f == a) = false := by simpa using Ne.symm ne
      rw [List.lookup_cons, this]
      exact ih nd.2 h1 h2
theorem at_ok {h : Hd} {a0 : At} {e : Expr} {L : List Addr} {σ : L2.St} {H Hs : Hp} {fp : List Addr} {ex : Exn} {C d a : Addr} {oe : Obj} {pn : List (Addr × Obj)} {dv : D} (F : FitsS g X T Φ W k) (st : StOk X.K T L Hs H ρ σ fp) (xr : ExRp X.K T Hs H ex C d) (hm : h.ms.contains ex.cls = true)
    (hb : bareI ρ h.i = true) (z : Zc (.ref C) (some d) oe) (zd : ∃ vs, oe.data = .fields vs) (hk : kAt g h a0 e = true) (hv : atEv ex ρ a0 = some dv) :
    ∃ v, Rp X.K T Hs dv v ∧ ∀ Q, Q v H → wE (X.suite a ((a, oe) :: pn)) e (stOf σ a h.i) H Q := by
  cases a0 with
  | c d0 =>
    cases Option.some.inj (show some d0 = some dv from hv)
    simp only [kAt] at hk
    unfold constB at hk
    split at hk <;> first | contradiction | skip
    · cases of_decide_eq_true hk; exact ⟨_, .int _, fun Q q => wE_of pe_int q⟩
    · cases eq_of_beq hk; exact ⟨_, .bl _, fun Q q => wE_of pe_bl q⟩
    · cases of_decide_eq_true hk; exact ⟨_, .str _, fun Q q => wE_of pe_str q⟩
    · exact ⟨_, .non, fun Q q => wE_of pe_non q⟩
  | v j =>
    simp only [kAt, Bool.and_eq_true, Bool.not_eq_true', beq_eq_false_iff_ne, ne_eq] at hk
    simp only [atEv] at hv
    cases ht : Env.tree ρ j with
    | none => rw [ht] at hv; cases hv
    | some t =>
      rw [ht] at hv
      cases t with
      | sh d0 =>
        cases Option.some.inj (show some d0 = some dv from hv)
        obtain ⟨v, f, e1, r1, _⟩ := st.rs.read ht
        cases r1 with
        | sh r1 =>
          refine ⟨v, r1, fun Q q => ?_⟩
          exact slot_val (X := X.suite a ((a, oe) :: pn)) (sc := g.sc) F.sc (by show slotB X.N g.sc j e = true; rw [F.n]; exact hk.1) (by rw [slot_ne hk.2]; exact e1) q
      | _ => cases hv
  | xf j =>
    obtain ⟨hA, fl, hd, hfl, hrp⟩ := xr
    unfold kAt at hk
    split at hk <;> first | contradiction | skip
    · rename_i j' y p f ps e1
      cases e1
      have h1 := and_b hk
      cases hi : h.i with
      | none => rw [hi] at h1; exact absurd h1.1 (by simp)
      | some i =>
        rw [hi] at h1 hb
        simp only at h1
        have hfs := List.all_eq_true.mp h1.2 ex.cls (by simpa using hm)
        obtain ⟨kx, hkx⟩ := F.exR _ _ hA
        rw [hkx] at hfs
        have hfj : kx.2.1[j]? = some f := of_decide_eq_true hfs
        obtain ⟨C', hA', hF, _, hI, _⟩ := F.ex _ _ hkx
        rw [hA] at hA'
        cases hA'
        have hne : kx.2.1 ≠ [] := fun z => by rw [z] at hfj; simp at hfj
        obtain ⟨fI, Tx⟩ := hI hne
        have hargs : ex.args[j]? = some dv := hv
        obtain ⟨v, hv2, rv⟩ := hrp.get hargs
        rw [hF] at hfl
        have hlook := zip_at (by rw [hfl]; exact Tx.nd) (by rw [hfl]; exact hfj) hv2
        refine ⟨v, rv, fun Q q => ?_⟩
        have hlt : i < σ.length := by
          have hle := st.rs.length
          simp only [bareI] at hb
          cases hz : ρ[i]? with
          | none => rw [hz] at hb; cases hb
          | some s => have := (List.getElem?_eq_some_iff.mp hz).1; omega
        have hsl : (stOf σ a (some i))[i]? = some (some (.ref a)) := List.getElem?_set_self hlt
        exact wE_of (pe_byEx (X := X) Tx (List.mem_of_getElem? hfj) z zd (slot_of (X := X.suite a ((a, oe) :: pn)) (sc := g.sc) F.sc (by show slotB X.N g.sc i (.Name y p) = true; rw [F.n]; exact h1.1)) (base_of rfl))
          ⟨.ref a, hsl, rfl, rfl, d, fl, v, rfl, hd, hlook, q⟩
theorem ats_ok {h : Hd} {L : List Addr} {σ : L2.St} {H Hs : Hp} {fp : List Addr} {ex : Exn} {C d a : Addr} {oe : Obj} {pn : List (Addr × Obj)} (F : FitsS g X T Φ W k) (st : StOk X.K T L Hs H ρ σ fp) (xr : ExRp X.K T Hs H ex C d) (hm : h.ms.contains ex.cls = true)
    (hb : bareI ρ h.i = true) (z : Zc (.ref C) (some d) oe) (zd : ∃ vs, oe.data = .fields vs) : ∀ {as : List At} {es : List Expr} {ds : List D}, kAts g h as es = true → atsEv ex ρ as = some ds →
    ∃ vs, Rps X.K T Hs ds vs ∧ ∀ Q, Q vs H → wEs (X.suite a ((a, oe) :: pn)) es (stOf σ a h.i) H Q
  | [], [], ds, _, hv => by
    cases Option.some.inj (show some [] = some ds from hv)
    exact ⟨[], .nil, fun Q q => q⟩
  | [], _ :: _, _, hk, _ => by simp [kAts] at hk
  | _ :: _, [], _, hk, _ => by simp [kAts] at hk
  | a0 :: as, e :: es, ds, hk, hv => by
    have h1 := and_b (show (kAt g h a0 e && kAts g h as es) = true from hk)
    obtain ⟨dv, e1, e2⟩ := Option.bind_eq_some_iff.mp (show ((atEv ex ρ a0).bind fun d => (atsEv ex ρ as).map fun ds => d :: ds) = some ds from hv)
    obtain ⟨ds', e3, rfl⟩ := Option.map_eq_some_iff.mp e2
    obtain ⟨v, r1, q1⟩ := at_ok (a := a) (oe := oe) (pn := pn) F st xr hm hb z zd h1.1 e1
    obtain ⟨vs, r2, q2⟩ := ats_ok (a := a) (oe := oe) (pn := pn) F st xr hm hb z zd h1.2 e3
    exact ⟨v :: vs, .cons r1 r2, fun Q q => q1 _ (q2 _ q)⟩
/-- the suite of a clause that takes the exception -/
theorem suite_ok {h : Hd} {su : List Stmt} {L : List Addr} {σ : L2.St} {H Hs : Hp} {fp : List Addr} {ex : Exn} {C d a : Addr} {oe : Obj} {pn : List (Addr × Obj)} {D : Ends} (F : FitsS g X T Φ W k) (st : StOk X.K T L Hs H ρ σ fp) (xr : ExRp X.K T Hs H ex C d) (hm : h.ms.contains ex.cls = true)
    (z : Zc (.ref C) (some d) oe) (zd : ∃ vs, oe.data = .fields vs) (hk : kSu g h su = true) (hb : bareI ρ h.i = true) {ds : List CH.D} (hv : atsEv ex ρ h.as = some ds)
    (kk : Cont (hdRet h.tup ds ρ) (FlOk pl X.K T L σ Hs H fp ρ D) (fun _ _ => True)) : wSs (X.suite a ((a, oe) :: pn)) su (endsOf D h.i) (stOf σ a h.i) H := by
  have ert : (endsOf D h.i).rt = D.rt := by cases h.i <;> rfl
  unfold kSu at hk
  split at hk
  · rename_i e pos
    refine wSs_of (pss_one (ps_ret (peW (X.suite a ((a, oe) :: pn)) e))) ?_
    show wE (X.suite a ((a, oe) :: pn)) e (stOf σ a h.i) H fun v H' => (endsOf D h.i).rt v H'
    rw [ert]
    unfold hdRet at kk
    by_cases ht : h.tup = true
    · rw [if_pos ht] at hk kk
      split at hk
      · rename_i es x1 ps
        have h1 := and_b hk
        obtain ⟨vs, r, q⟩ := ats_ok (a := a) (oe := oe) (pn := pn) F st xr hm hb z zd h1.2 hv
        split at kk
        · rename_i hl
          refine wE_of (pe_tup (paW (X.suite a ((a, oe) :: pn)) es h1.1)) (q _ ⟨by rw [← r.length, ← line]; exact hl, fun t hn => ?_⟩)
          exact kk σ _ _ _ fp [] (New.post st (New.tup st.ex hn r)).ptsR
        · exact kk.elim
      · cases hk
    · rw [if_neg ht] at hk kk
      cases hds : h.as with
      | nil => rw [hds] at hk; cases hk
      | cons a0 as =>
        cases as with
        | cons => rw [hds] at hk; cases hk
        | nil =>
          rw [hds] at hk hv
          obtain ⟨dv, e1, e2⟩ := Option.bind_eq_some_iff.mp (show ((atEv ex ρ a0).bind fun d => (atsEv ex ρ []).map fun ds => d :: ds) = some ds from hv)
          cases Option.some.inj (show some [dv] = some ds from e2)
          obtain ⟨v, r, q⟩ := at_ok (a := a) (oe := oe) (pn := pn) F st xr hm hb z zd hk e1
          exact q _ (kk σ v H Hs fp [] (Post.val st r).ptsR)
  · cases hk
/-- the clauses, one after the other -/
theorem hds_ok {D : Ends} (F : FitsS g X T Φ W k) : ∀ {hs : List Hd} {hds : List ExceptHandler}, kHds g hs hds = true → ∃ l : List Cls, MixOk X hds l ∧
    ∀ {L : List Addr} {σ : L2.St} {H Hs : Hp} {fp : List Addr} {ρ : Env} {ex : Exn} {C d : Addr}, StOk X.K T L Hs H ρ σ fp → ExRp X.K T Hs H ex C d → Cont (hdEv hs ex ρ) (FlOk pl X.K T L σ Hs H fp ρ D) (XSOk pl X.K T L σ Hs H fp ρ W) → wMix X.K W D l (.ref C) (some d) σ H
  | [], [], _ => ⟨[], .nil, fun st xr kk => kk _ _ _ _ _ _ (Pts.refl st) xr⟩
  | [], _ :: _, h => by simp [kHds] at h
  | _ :: _, [], h => by simp [kHds] at h
  | h :: hs, hd :: hds, hk => by
    unfold kHds at hk
    split at hk
    · rename_i e1 e2; cases e1
    · rename_i h' hs' x np n su p' hds' e1 e2
      cases e1
      cases e2
      simp only [Bool.and_eq_true, Bool.not_eq_true'] at hk
      obtain ⟨⟨⟨⟨⟨⟨h1, h2⟩, h3⟩, h4⟩, h5⟩, h6⟩, h7⟩ := hk
      obtain ⟨l, m1, m2⟩ := hds_ok F h7
      cases hx : g.exs[h.c]? with
      | none => rw [hx] at h1; cases h1
      | some kx =>
        rw [hx] at h1
        have hxn : x = kx.1 := of_decide_eq_true h1
        obtain ⟨Ch, hA, hF, hm, hI, _⟩ := F.ex _ _ hx
        have hsu : ∃ b₀ su', su = b₀ :: su' := by
          unfold kSu at h6
          split at h6
          · exact ⟨_, _, rfl⟩
          · cases h6
        obtain ⟨b₀, su', rfl⟩ := hsu
        have nm : NmOk X n h.i := by
          cases n with
          | none =>
            cases hi : h.i with
            | none => trivial
            | some i => rw [hi] at h4; cases h4
          | some n =>
            cases hi : h.i with
            | none => rw [hi] at h4; cases h4
            | some i =>
              rw [hi] at h4
              have h8 := and_b (show (decide (g.N[i]? = some n) && decide (g.sc.names.lookup n = some .local)) = true from h4)
              refine ⟨by rw [F.n]; exact of_decide_eq_true h8.1, ?_⟩
              show X.env.scope.names.lookup _ = _
              rw [F.sc]
              exact of_decide_eq_true h8.2
        refine ⟨⟨.ref Ch, h.i, fun a cls d D σ H => ∀ (oe : Obj) (pn : List (Addr × Obj)), Zc cls d oe → (∃ vs, oe.data = .fields vs) → wSs (X.suite a ((a, oe) :: pn)) (b₀ :: su') D σ H⟩ :: l, .cons ⟨gl_of F.sc h2, h3, .inl (hxn ▸ hm)⟩ nm ?_ m1, ?_⟩
        · intro a oe cls d pn z zd
          exact ⟨fun pins s σ H D I hh => hh oe pn z zd pins s I⟩
        · intro L σ H Hs fp ρ ex C d st xr kk
          obtain ⟨ky, hy⟩ := F.exR _ _ xr.1
          have hmt : PySem.W.exmOne X.K (.ref C) (.ref Ch) = some (h.ms.contains ex.cls) := by
            obtain ⟨_, hA2, _, _, _, all⟩ := F.ex _ _ hx
            rw [hA] at hA2
            cases hA2
            obtain ⟨C', hc', hexm⟩ := all ex.cls ky hy
            rw [xr.1] at hc'
            cases hc'
            have hms := List.all_eq_true.mp h5 ex.cls (List.mem_range.mpr (List.getElem?_eq_some_iff.mp hy).1)
            rw [hy] at hms
            rw [hexm, eq_of_beq hms]
          refine ⟨h.ms.contains ex.cls, hmt, fun hb a ha oe pn z zd => ?_, fun hb => ?_⟩
          · unfold hdEv at kk
            rw [if_pos hb] at kk
            by_cases hbare : bareI ρ h.i = true
            · rw [if_pos hbare] at kk
              cases hv : atsEv ex ρ h.as with
              | none => rw [hv] at kk; exact kk.elim
              | some ds =>
                rw [hv] at kk
                exact suite_ok (pl := pl) F st xr hb z zd h6 hbare hv (kk.imp (fun _ q => q) fun _ _ _ => trivial)
            · rw [if_neg hbare] at kk
              exact kk.elim
          · unfold hdEv at kk
            rw [if_neg (by rw [hb]; simp)] at kk
            exact m2 st xr kk
    · cases hk
def tryR (hs : List Hd) : R (Fl × Env) → R (Fl × Env)
  | .ok p => .ok p
  | .ex e ρ1 => hdEv hs e ρ1
  | .no => .no
theorem ss_try {b : List Stmt} {hs : List Hd} {hds : List ExceptHandler} {pos : Pos} {r : R (Fl × Env)} (F : FitsS g X T Φ W k) (hne : hds ≠ []) (hk : kHds g hs hds = true)
    (hb : ∀ (W' : WX) (pn : List (Addr × Obj)) (xe : Value → Shared → Prop), FitsS g (X.tr pn xe) T Φ W' k → SSs (X.tr pn xe) T W' pl b ρ r) :
    SS X T W pl (.Try b hds [] [] pos) ρ (tryR hs r) := by
  intro L σ H Hs fp D h kk
  obtain ⟨l, m1, m2⟩ := hds_ok (pl := pl) (D := D) F hk
  cases hds with
  | nil => exact absurd rfl hne
  | cons h0 hds =>
    refine wS_of (ps_mix (tb := fun W' D σ H => ∀ (pn : List (Addr × Obj)) (xe : Value → Shared → Prop), Takes (X.tr pn xe) W' → PassesOwn (model X.prog X.w) X.A X.env xe → wSs (X.tr pn xe) b D σ H) F.sk F.fr F.nd F.tk (fun W' pn xe tk po => ⟨fun pins s σ H D I hh => hh pn xe tk po pins s I⟩) m1) ?_
    intro pn xe tk po
    have F' : FitsS g (X.tr pn xe) T Φ (wMix X.K W D l) k := ⟨⟨F.n, F.nd, F.sc, F.fn, F.calm, F.room, F.gd, F.bt, F.bn, tk, F.dk, F.ex, F.exR, F.cl, F.fs⟩, po, F.sk, F.fr⟩
    refine hb _ pn xe F' L σ H Hs fp D h ?_
    cases r with
    | no => exact kk.elim
    | ok p => exact kk
    | ex e ρ1 =>
      intro σ' H' Hs' fp' C d q xr
      exact m2 q.st xr (later_cont kk q)
end
end CH
end
section
namespace CH
open PySem L2 Evl PyProof.Rows
variable {T : Tab} {Φ : Phi} {pl : List Nat}
theorem ss_fin {X : Cx} {W : WX} {st : Stmt} {ρ : Env} {r r' : R (Fl × Env)} (h : SS X T W pl st ρ r) (q : r = r') : SS X T W pl st ρ r' := q ▸ h
theorem sss_fin {X : Cx} {W : WX} {st : List Stmt} {ρ : Env} {r r' : R (Fl × Env)} (h : SSs X T W pl st ρ r) (q : r = r') : SSs X T W pl st ρ r' := q ▸ h
theorem ss_no {X : Cx} {W : WX} {st : Stmt} {ρ : Env} : SS X T W pl st ρ .no := fun _ _ _ _ _ _ _ k => k.elim
theorem nm_parts {X : Cx} {g : Sg} {W : WX} {k : Nat} (F : Fits g X T Φ W k) {i : Nat} {y : Str} {py : Pos} (h : tgNm g.N g.sc g.fn i (.Name y py) = true) : X.N[i]? = some y ∧ Loc X.env.scope y ∧ (X.fn y = true ∨ X.env.scope.names.lookup y = some .local) := by
  simp only [tgNm, Bool.and_eq_true, decide_eq_true_eq, Bool.or_eq_true] at h
  obtain ⟨⟨h1, h2⟩, h3⟩ := h
  refine ⟨by rw [F.n]; exact h1, loc_of F.sc h2, ?_⟩
  rcases h3 with h3 | h3
  · exact .inl (by rw [F.fn]; exact h3)
  · exact .inr (by rw [F.sc]; exact h3)
mutual
theorem snS : ∀ (s : CS) {g : Sg} {X : Cx} {W : WX} {k : Nat} {st : Stmt} {ρ : Env}, FitsS g X T Φ W k → chkS g s st = true → SS X T W pl st ρ (evS Φ pl s ρ)
  | .nop, g, X, W, k, st, ρ, F, h => by
    rw [evS]
    simp only [chkS] at h
    unfold nopB at h
    split at h
    · exact ss_nop ps_pass
    · exact ss_nop ps_doc
    · exact ss_nop ps_global
    · cases h
  | .brk, g, X, W, k, st, ρ, F, h => by
    rw [evS]
    simp only [chkS] at h
    unfold brkB at h
    split at h
    · exact ss_brk
    · cases h
  | .cont, g, X, W, k, st, ρ, F, h => by
    rw [evS]
    simp only [chkS] at h
    unfold contB at h
    split at h
    · exact ss_cont
    · cases h
  | .retN, g, X, W, k, st, ρ, F, h => by
    rw [evS]
    simp only [chkS] at h
    unfold retNB at h
    split at h
    · exact ss_retN
    · cases h
  | .frz i, g, X, W, k, st, ρ, F, h => by simp [chkS] at h
  | .ex e, g, X, W, k, st, ρ, F, h => by
    rw [evS]
    simp only [chkS] at h
    unfold kEx at h
    split at h
    · have h1 := and_b h
      exact ss_ex (drop_sw h1.1) (snE e F.toFits h1.2)
    · cases h
  | .set i e, g, X, W, k, st, ρ, F, h => by
    rw [evS]
    simp only [chkS] at h
    unfold kSet at h
    split at h
    · rename_i y py x pos
      have h1 := and_b h
      have h2 := and_b h1.1
      obtain ⟨z1, z2, z3⟩ := nm_parts F.toFits h2.1
      have h3 : plainSetB g.sc y py x = true ∨ (isLc e && swapSetB g.sc y py x) = true := by rw [← Bool.or_eq_true]; exact h1.2
      rcases h3 with h3 | h3
      · exact ss_set (ps_set F.nd z1 z2 (peW X x) (plain_sw F.sc h3) z3) (snE e F.toFits h2.2)
      · have h4 := and_b h3
        cases e with
        | lc elt tg it cs =>
          obtain ⟨t, t1, t2⟩ := sr_lc (pl := pl) F.toFits h2.2
          have h5 := h4.2
          unfold swapSetB at h5
          split at h5
          · have q1 := and_b h5
            have q2 := and_b q1.1
            have q3 := and_b q2.1
            have l1 : X.env.scope.names.lookup y = some .local := by rw [F.sc]; exact of_decide_eq_true q3.2
            refine ss_set (t2 z1 l1 (sw_true (by rw [F.sc]; exact of_decide_eq_true q3.1) l1 q2.2 ?_)) (t1 ρ)
            simpa using q1.2
          · cases h5
        | lc2 elt tg it cs tg1 it1 cs1 =>
          obtain ⟨t, t1, t2⟩ := sr_lc2 (ρ := ρ) (pl := pl) F.toFits h2.2
          have h5 := h4.2
          unfold swapSetB at h5
          split at h5
          · have q1 := and_b h5
            have q2 := and_b q1.1
            have q3 := and_b q2.1
            have l1 : X.env.scope.names.lookup y = some .local := by rw [F.sc]; exact of_decide_eq_true q3.2
            refine ss_set (t2 z1 l1 (sw_true (by rw [F.sc]; exact of_decide_eq_true q3.1) l1 q2.2 ?_)) t1
            simpa using q1.2
          · cases h5
        | _ => simp [isLc] at h4
    · cases h
  | .setT is e, g, X, W, k, st, ρ, F, h => by
    rw [evS]
    simp only [chkS] at h
    unfold kSetT at h
    split at h
    · have h1 := and_b h
      have h2 := and_b h1.1
      have h3 := and_b h2.1
      obtain ⟨q1, q2⟩ := tup_sw (l := _) (env := X.env) h3.2
      exact ss_setT (tg := .tup is) (ps_asg (peW X _) (tg_pg F.nd F.sc F.fn F.calm (by rw [F.n]; exact h3.1)) q1 q2 (by rw [asg_cons (by simpa using h1.2)]; rfl)) (snE e F.toFits h2.2)
    · cases h
  | .setF i c f e, g, X, W, k, st, ρ, F, h => by
    rw [evS]
    simp only [chkS] at h
    unfold kSetF at h
    split at h
    · have h1 := and_b h
      have h2 := and_b h1.1
      have h3 := and_b h2.1
      cases of_decide_eq_true h3.1
      refine ss_setF F.sc (by rw [F.n]; exact h3.2) (fun C hC => ?_) (snE e F.toFits h1.2)
      obtain ⟨kx, y1, y2, y3⟩ := F.cl c C hC
      have h4 := h2.2
      unfold fldB at h4
      rw [y1] at h4
      exact ⟨y2, y3 _ (by simpa using h4)⟩
    · cases h
  | .setX i p ix e, g, X, W, k, st, ρ, F, h => by
    simp only [chkS] at h
    unfold kSetX at h
    split at h
    · have h1 := and_b h
      have h2 := and_b h1.1
      have h3 := and_b h2.1
      cases p with
      | nil =>
        rw [evS]
        obtain ⟨q1, q2⟩ := sub_sw (l := _) (env := X.env)
        exact ss_setX F.sc (by rw [F.n]; exact h3.2) h2.2 q1 q2 (snEs (.cons e (.cons ix .nil)) F.toFits h1.2)
      | cons => simp at h3
    · cases h
  | .ret e, g, X, W, k, st, ρ, F, h => by
    rw [evS]
    simp only [chkS] at h
    unfold kRet at h
    split at h
    · exact ss_ret (snE e F.toFits h)
    · cases h
  | .ife t a b, g, X, W, k, st, ρ, F, h => by
    rw [evS]
    simp only [chkS] at h
    unfold kIf at h
    split at h
    · have h1 := and_b h
      have h2 := and_b h1.1
      exact ss_ife (snT t F.toFits h2.1) (fun ρ1 => snSs a F h2.2) (fun ρ1 => snSs b F h1.2)
    · cases h
  | .whl t a, g, X, W, k, st, ρ, F, h => by
    rw [evS]
    simp only [chkS] at h
    unfold kWhl at h
    split at h
    · have h1 := and_b h
      exact ss_whl F.po (fun ρ1 => snT t F.toFits h1.1) (fun ρ1 => snSs a F h1.2)
    · cases h
  | .for_ tg it a, g, X, W, k, st, ρ, F, h => by
    rw [evS]
    simp only [chkS] at h
    unfold kFor at h
    split at h
    · have h1 := and_b h
      have h2 := and_b h1.1
      have h3 := and_b h2.1
      have h22 := and_b h2.2
      obtain ⟨w0, w2⟩ := snI (pl := pl) it F.toFits h22.2
      have w1 := w0 _ h22.1
      exact ss_for (bk := backI it ρ) F.po F.calm w1 (tg_pg F.nd F.sc F.fn F.calm (by rw [F.n]; exact h3.1)) h3.2 (w2 ρ) fun ρ1 => snSs a F h1.2
    · cases h
  | .raise c n as, g, X, W, k, st, ρ, F, h => by
    rw [evS]
    simp only [chkS] at h
    unfold kRaise at h
    split at h
    · rename_i x p es pos p2
      simp only [Bool.and_eq_true, Bool.not_eq_true'] at h
      obtain ⟨⟨⟨⟨⟨h1, h2⟩, h3⟩, h4⟩, h5⟩, h6⟩ := h
      cases hx : g.exs[c]? with
      | none => rw [hx] at h1; cases h1
      | some kx =>
        rw [hx] at h1
        simp only [Bool.and_eq_true, decide_eq_true_eq, Bool.not_eq_true', List.isEmpty_eq_false_iff] at h1
        exact ss_raise F hx h1.1.1 h1.1.2 h1.2 (gl_of F.sc h2) h3 (by simpa using h4) h5 (snEs as F.toFits h6)
    · cases h
  | .tr b hs, g, X, W, k, st, ρ, F, h => by
    rw [evS]
    simp only [chkS] at h
    unfold kTry at h
    split at h
    · rename_i tb th tpos
      simp only [Bool.and_eq_true, Bool.not_eq_true'] at h
      obtain ⟨⟨h1, h2⟩, h3⟩ := h
      have q := ss_try (pos := tpos) (ρ := ρ) F (by simpa using h1) h2 fun W' pn xe F' => snSs b F' h3
      have e : tryR hs (evSs Φ pl b ρ) = (match evSs Φ pl b ρ with
        | .ok p => .ok p
        | .ex e ρ1 => hdEv hs e ρ1
        | .no => .no) := by cases evSs Φ pl b ρ <;> rfl
      rw [e] at q
      exact q
    · cases h
theorem snSs : ∀ (s : CSs) {g : Sg} {X : Cx} {W : WX} {k : Nat} {st : List Stmt} {ρ : Env}, FitsS g X T Φ W k → chkSs g s st = true → SSs X T W pl st ρ (evSs Φ pl s ρ)
  | .nil, g, X, W, k, st, ρ, F, h => by
    rw [evSs]
    simp only [chkSs] at h
    cases st with
    | nil => exact sss_nil
    | cons => simp at h
  | .cons s r, g, X, W, k, st, ρ, F, h => by
    rw [evSs]
    simp only [chkSs] at h
    unfold kSs at h
    by_cases hz : isFrz s = true
    · rw [if_pos hz] at h
      cases s with
      | frz i =>
        refine sss_fin (sss_frz (i := i) fun ρ1 => snSs r F h) ?_
        rw [evS]
        cases Env.own ρ i <;> rfl
      | _ => cases hz
    · rw [if_neg hz] at h
      cases st with
      | nil => cases h
      | cons st sts =>
        have h1 := and_b h
        refine sss_fin (sss_cons (snS s F h1.1) fun ρ1 => snSs r F h1.2) ?_
        cases evS Φ pl s ρ with
        | ok p => obtain ⟨f, ρ1⟩ := p; cases f <;> rfl
        | ex => rfl
        | no => rfl
end
section
variable {K : PySem.W.Frag} {Hs H Hs' H' : Hp} {L : List Addr}
theorem RpS.pad : ∀ {ρ : Env} {σ : L2.St} {fp : List Addr} (n : Nat), RpS K T Hs H L ρ σ fp → RpS K T Hs H L (ρ ++ List.replicate n .no) (σ ++ List.replicate n none) fp
  | _, _, _, 0, .nil => by simpa using RpS.nil
  | _, _, _, n + 1, .nil => by
    rw [List.nil_append, List.nil_append, List.replicate_succ, List.replicate_succ]
    exact .no (by simpa using RpS.pad n (RpS.nil : RpS K T Hs H L [] [] []))
  | _, _, _, n, .no r => .no (r.pad n)
  | _, _, _, n, .ow h r => .ow h (r.pad n)
  | _, _, _, n, .lk h l r => .lk h l (r.pad n)
theorem outs_set {pl : List Nat} {ρ : Env} {n : Nat} {s : Sl} : ∀ {ts : List OT} {m : Nat}, n < m → outs pl (ρ.set n s) m ts = outs pl ρ m ts
  | [], m, h => rfl
  | t :: ts, m, h => by
    unfold outs
    rw [outs_set (ts := ts) (m := m + 1) (by omega)]
    have e : Env.own (ρ.set n s) m = Env.own ρ m := by unfold Env.own; rw [List.getElem?_set_ne (by omega)]
    rw [e]
theorem outs_ok {pl : List Nat} {Hs0 H0 : Hp} {σ : L2.St} : ∀ {ts ws : List OT} {n : Nat} {vs : List V} {ρ : Env} {f0 fp : List Addr}, outs pl ρ n ts = some ws → RpS K T Hs0 H0 [] (ts.map .ow) (vs.map some) f0 → Ex Hs0 Hs →
    (∀ i v, vs[i]? = some v → n + i ∈ pl → σ[n + i]? = some (some v)) → RpS K T Hs H [] ρ σ fp → ∃ fc fr ρ', RpS K T Hs H [] (ws.map .ow) (vs.map some) fc ∧ RpS K T Hs H [] ρ' σ fr ∧ fp.Perm (fc ++ fr)
  | [], ws, n, vs, ρ, f0, fp, h, r0, ex, hv, r => by
    cases Option.some.inj (show some [] = some ws from h)
    cases vs with
    | nil => exact ⟨[], fp, ρ, .nil, r, .refl _⟩
    | cons => cases r0
  | t :: ts, ws, n, [], ρ, f0, fp, h, r0, ex, hv, r => by cases r0
  | t :: ts, ws, n, v :: vs, ρ, f0, fp, h, r0, ex, hv, r => by
    obtain ⟨u, h1, h2⟩ := Option.bind_eq_some_iff.mp h
    obtain ⟨us, h3, rfl⟩ := Option.map_eq_some_iff.mp h2
    have hv' : ∀ i w, vs[i]? = some w → n + 1 + i ∈ pl → σ[n + 1 + i]? = some (some w) := fun i w e m => by
      have := hv (i + 1) w (by simpa using e) (by rw [show n + (i + 1) = n + 1 + i by omega]; exact m)
      rwa [show n + (i + 1) = n + 1 + i by omega] at this
    cases r0 with
    | ow h0 r0 =>
      split at h1
      · rename_i hp
        have hp : n ∈ pl := by simpa using hp
        obtain ⟨v', f, fr, q1, q2, q3, q4⟩ := r.takeOut (own_get h1)
        have e0 := hv 0 v rfl (by simpa using hp)
        simp only [Nat.add_zero] at e0
        rw [e0] at q1
        cases q1
        obtain ⟨fc, fr', ρ', k1, k2, k3⟩ := outs_ok (by rw [outs_set (by omega)]; exact h3) r0 ex hv' q4
        refine ⟨f ++ fc, fr', ρ', .ow q2 k1, k2, q3.trans ?_⟩
        rw [List.append_assoc]
        exact List.Perm.append_left f k3
      · split at h1
        · rename_i d
          cases Option.some.inj h1
          cases h0 with
          | sh h0 =>
            obtain ⟨fc, fr', ρ', k1, k2, k3⟩ := outs_ok h3 r0 ex hv' r
            exact ⟨fc, fr', ρ', RpS.ow (f := []) (.sh (h0.mono ex)) k1, k2, k3⟩
        · cases h1
end
/-- the slots by reference come first -/
def plOk (pl : List Nat) (np : Nat) : Bool := pl.all fun j => decide (j < np)
theorem start_get {N : List Str} {vs : List V} {j : Nat} {v : V} (h : vs[j]? = some v) : (L2.start N vs)[j]? = some (some v) := by
  unfold L2.start
  have hj : j < vs.length := (List.getElem?_eq_some_iff.mp h).1
  rw [List.getElem?_append_left (by simpa using hj), List.getElem?_map, h]; rfl
/-- a def; an __init__ of the named class; a class (which one, the place of its __init__) -/
inductive Kd where
  | fn | ini (cn : Str) | cls (c i : Nat)
  deriving DecidableEq
structure Ent where
  name : Str
  st : Stmt
  N : List Str
  ps : List Str
  fn : Fn
  kd : Kd
def Ent.sg (e : Ent) (bn : List Str) (name : Nat → Str) (ar : Nat → Option Nat) (dcs : List (Str × List (Str × Int))) (exs : List ExC) (cls : List (Str × List Str)) : Sg := ⟨e.N, defScope e.st, fun _ => true, bn, name, ar, dcs, exs, cls⟩
def scopeB (N P : List Str) (sc : Scope) : Bool := decide (sc.kind = .function) && !sc.isCoroutine && !sc.isGenerator && decide N.Nodup && decide (N.take P.length = P) && (P.all fun x => decide (sc.names.lookup x = some .local) || decide (sc.names.lookup x = some .cell)) && (sc.names.all fun y => !decide (y.2 = .free))
theorem scope_ok {N P : List Str} {sc : Scope} (h : scopeB N P sc = true) : FnScope N P sc := by
  unfold scopeB at h
  simp only [Bool.and_eq_true, List.all_eq_true, Bool.not_eq_true', decide_eq_true_eq, Bool.or_eq_true, decide_eq_false_iff_not] at h
  obtain ⟨⟨⟨⟨⟨⟨h1, h2⟩, h3⟩, h4⟩, h5⟩, h6⟩, h7⟩ := h
  exact ⟨h1, h2, h3, h4, h5, h6, h7⟩
def Ent.ok (e : Ent) (bn : List Str) (name : Nat → Str) (ar : Nat → Option Nat) (dcs : List (Str × List (Str × Int))) (exs : List ExC) (cls : List (Str × List Str)) : Bool := scopeB e.N e.ps (defScope e.st) && decide (e.fn.np = e.ps.length) && decide (e.fn.nv = e.N.length) && plOk e.fn.pl e.fn.np && decide (e.fn.cls = none) && chkSs (e.sg bn name ar dcs exs cls) e.fn.body (defBody e.st)
section
variable {P : Program} {w : World} {K : PySem.W.Frag} {mg : Str → Option Value} {base : Heap}
theorem fn_ok {x qual : Str} {e : Ent} {f : Addr} {fd : FuncData} {k : Nat} {name : Nat → Str} {ar : Nat → Option Nat} {dcs : List (Str × List (Str × Int))} {exs : List ExC} {cls : List (Str × List Str)} (F : Fun K x qual e.st f fd) (h : e.ok T.bn name ar dcs exs cls = true) (hx : ∀ c k, exs[c]? = some k → ExOk P K mg T exs c k) (hxR : ∀ c C, T.exA c = some C → ∃ k, exs[c]? = some k) (hd : ∀ x kvs, dcs.lookup x = some kvs → DctK K w mg x kvs) (hb : ∀ x ∈ T.bn, mg x = none) (hcl : ∀ c C, T.clA c = some C → ∃ k, cls[c]? = some k ∧ L2.Cls K C ∧ ∀ f ∈ k.2, NoAttr K C f)
    (fs : ∀ f n, ar f = some n → ∃ a, FnR P w K mg base k a n (spF K T (Φ f) n) ∧ mg (name f) = some (.ref a) ∧ PySem.W.keepIn K (.ref a) = true ∧ ∀ us, Φ f us ≠ .no → us.length = n) :
    FnG P w K mg base (k + 1) f fd e.ps (spF K T (e.fn.run Φ) e.ps.length) := by
  unfold Ent.ok at h
  simp only [Bool.and_eq_true, decide_eq_true_eq] at h
  obtain ⟨⟨⟨⟨⟨h1, h2⟩, h3⟩, h4⟩, hcn⟩, h5⟩ := h
  have S := scope_ok h1
  refine fun_G F S (fun vs H Q E q => q.1) fun cdv A outer s H vs Q E gd hr q => ⟨_, pssW _ _, ?_⟩
  obtain ⟨hl, us, Hs, fc, st, kk⟩ := q
  generalize hX : cxOf (L2.CX P w) P w K mg base e.N qual (defScope e.st) f cdv A outer s H E = X
  have FS : FitsS (e.sg T.bn name ar dcs exs cls) X T Φ (fun cls d _ H => E cls d H) k := by
    subst hX
    exact ⟨⟨rfl, S.nd, rfl, rfl, rfl, hr, gd, rfl, hb, takes_of rfl rfl rfl rfl, hd, hx, hxR, hcl, fs⟩, passes_of rfl, rfl, rfl⟩
  have hXK : X.K = K := by subst hX; rfl
  have lus : us.length = vs.length := by have := st.rs.length; simpa using this
  have pl_lt : ∀ j ∈ e.fn.pl, j < vs.length := fun j hj => by
    unfold plOk at h4
    rw [List.all_eq_true] at h4
    have := of_decide_eq_true (h4 j hj)
    omega
  have st0 : StOk X.K T [] Hs H (us.map .ow ++ List.replicate (e.fn.nv - e.fn.np) .no) (L2.start e.N vs) fc := by
    rw [hXK]
    refine ⟨st.ex, ?_, st.nd, st.nf, fun a ha => absurd ha (by simp), fun a ha => absurd ha (by simp)⟩
    have := st.rs.pad (e.fn.nv - e.fn.np)
    rw [show L2.start e.N vs = vs.map some ++ List.replicate (e.fn.nv - e.fn.np) none by unfold L2.start; rw [h3, h2, hl]]
    exact this
  refine snSs (pl := e.fn.pl) e.fn.body FS h5 [] (L2.start e.N vs) H Hs fc _ st0 ?_
  have hpv : ∀ {σ' : L2.St}, (∀ j ∈ e.fn.pl, σ'[j]? = (L2.start e.N vs)[j]?) → ∀ i v, vs[i]? = some v → 0 + i ∈ e.fn.pl → σ'[0 + i]? = some (some v) := fun {σ'} hσ i v e1 hi => by
    rw [Nat.zero_add] at hi ⊢
    rw [hσ i hi]
    exact start_get e1
  have k := kk
  unfold Fn.run at k
  rw [hcn] at k
  simp only at k
  unfold Fn.run0 at k
  rw [if_pos (by omega)] at k
  cases hev : evSs Φ e.fn.pl e.fn.body (us.map .ow ++ List.replicate (e.fn.nv - e.fn.np) .no) with
  | no => rw [hev] at k; exact k.elim
  | ex ee ρ' =>
    rw [hev] at k
    intro σ' H' Hs' fp' C d q xr
    rw [hXK] at q xr
    exact k H' Hs' C d q.st.ex (q.sp.sub fun a ha => absurd ha (by simp)) xr
  | ok fr =>
    obtain ⟨fl, ρ'⟩ := fr
    rw [hev] at k
    cases fl with
    | brk => exact k.elim
    | ct => exact k.elim
    | nx =>
      intro σ' H' Hs' fp' q
      rw [hXK] at q
      have k : Cont (R.ofO ((outs e.fn.pl ρ' 0 us).map fun us => (OT.sh .non, us))) _ _ := k
      cases ho : outs e.fn.pl ρ' 0 us with
      | none => rw [ho] at k; exact k.elim
      | some ws =>
        rw [ho] at k
        obtain ⟨fc', fr', ρ2, k1, k2, k3⟩ := outs_ok ho st.rs q.sp.ex (hpv q.pv) q.st.rs
        have d := List.nodup_append.mp (k3.nodup_iff.mp q.st.nd)
        have m : ∀ a ∈ fc', a ∈ fp' := fun a ha => k3.mem_iff.mpr (by simp [ha])
        exact k .non H' Hs' fc' [] ⟨q.st.ex, k1, d.1, fun a ha => q.st.nf a (m a ha), fun a ha => absurd ha (by simp), fun a ha => absurd ha (by simp)⟩ (.sh .non) (by simpa using d.1) (fun a ha => absurd ha (by simp)) (q.sp.sub fun a ha => m a (by simpa using ha))
    | rt t =>
      intro σ' v H' Hs' fp' ft q
      rw [hXK] at q
      have k : Cont (R.ofO ((outs e.fn.pl ρ' 0 us).map fun us => (t, us))) _ _ := k
      cases ho : outs e.fn.pl ρ' 0 us with
      | none => rw [ho] at k; exact k.elim
      | some ws =>
        rw [ho] at k
        obtain ⟨fc', fr', ρ2, k1, k2, k3⟩ := outs_ok ho st.rs q.sp.ex (hpv q.pv) q.st.rs
        have d := List.nodup_append.mp (k3.nodup_iff.mp q.st.nd)
        have m : ∀ a ∈ fc', a ∈ fp' := fun a ha => k3.mem_iff.mpr (by simp [ha])
        have dn := List.nodup_append.mp q.nd
        exact k v H' Hs' fc' ft ⟨q.st.ex, k1, d.1, fun a ha => q.st.nf a (m a ha), fun a ha => absurd ha (by simp), fun a ha => absurd ha (by simp)⟩ q.rp (List.nodup_append.mpr ⟨dn.1, d.1, fun a ha b hb => dn.2.2 a ha b (m b hb)⟩) q.nf (q.sp.sub fun a ha => (List.mem_append.mp ha).elim (fun z => by simp [z]) fun z => by simp [m a z])
end
end CH
end
section
namespace CH
open PySem L2 Evl PyProof.Rows
/-- where a class of the text stands -/
def clsAt (K : PySem.W.Frag) (x : Str) : Option Addr := match PySem.W.nsIn K mainGlobals x with
  | some (some (.ref C)) => some C
  | _ => none
theorem clsAt_of {K : PySem.W.Frag} {x : Str} {C : Addr} (n : PySem.W.nsIn K mainGlobals x = some (some (.ref C))) : clsAt K x = some C := by unfold clsAt; rw [n]
/-- a def, an __init__, a class as it stands behind the top -/
def Here (K : PySem.W.Frag) (mg : Str → Option Value) (e : Ent) (a : Addr) (fd : FuncData) : Prop := match e.kd with
  | .fn => Fun K e.name e.name e.st a fd ∧ mg e.name = some (.ref a) ∧ Binds K fd e.ps []
  | .ini cn => Fun K "__init__" e.name e.st a fd ∧ Binds K fd e.ps [] ∧ ∃ C, clsAt K cn = some C ∧ PySem.W.findIn K (.ref C) "__init__" = some (some (.ref a))
  | .cls _ _ => mg e.name = some (.ref a) ∧ clsAt K e.name = some a ∧ ∃ fI, Mk K a fI
theorem here_mk {e : Ent} {K : PySem.W.Frag} {h : Heap} {mg : Str → Option Value} (hk : e.kd = .fn) (X : K.In h) (G : h.Ns mainGlobals mg) {a : Addr} {oc kV doc pm cdv ct : Value} {od an : Option Addr} {osl : Array (Option Value)} (n : PySem.W.nsIn K mainGlobals e.name = some (some (.ref a)))
    (l : K.lookup a = some ⟨oc, od, .func (PySem.W.fnOf e.name e.name (defArgs e.st) (defBody e.st) (defScope e.st) .none kV doc pm an cdv ct), osl⟩) (c : PySem.W.codeIn K cdv e.name = true) (k : PySem.W.keepIn K (.ref a) = true)
    (hb : ∀ (kV doc pm : Value) (an : Option Addr) (cdv ct : Value) (us : List Value), us.length = e.ps.length → bindArgs (PySem.W.fnOf e.name e.name (defArgs e.st) (defBody e.st) (defScope e.st) .none kV doc pm an cdv ct) ⟨us, []⟩ = pure (e.ps.zip us)) :
    ∃ a fd, Here K mg e a fd := by
  have F := fun_mk (st := e.st) l c k
  exact ⟨a, _, by unfold Here; rw [hk]; exact ⟨F, PySem.W.mg_of X G n, F.binds hb⟩⟩
theorem here_ini {e : Ent} {cn : Str} {K : PySem.W.Frag} {mg : Str → Option Value} (hk : e.kd = .ini cn) {a C : Addr} {oc kV doc pm cdv ct : Value} {od an : Option Addr} {osl : Array (Option Value)} (n : PySem.W.nsIn K mainGlobals cn = some (some (.ref C))) (i : PySem.W.findIn K (.ref C) "__init__" = some (some (.ref a)))
    (l : K.lookup a = some ⟨oc, od, .func (PySem.W.fnOf "__init__" e.name (defArgs e.st) (defBody e.st) (defScope e.st) .none kV doc pm an cdv ct), osl⟩) (c : PySem.W.codeIn K cdv e.name = true) (k : PySem.W.keepIn K (.ref a) = true)
    (hb : ∀ (kV doc pm : Value) (an : Option Addr) (cdv ct : Value) (us : List Value), us.length = e.ps.length → bindArgs (PySem.W.fnOf "__init__" e.name (defArgs e.st) (defBody e.st) (defScope e.st) .none kV doc pm an cdv ct) ⟨us, []⟩ = pure (e.ps.zip us)) :
    ∃ a fd, Here K mg e a fd := by
  have F := fun_mk (st := e.st) l c k
  exact ⟨a, _, by unfold Here; rw [hk]; exact ⟨F, F.binds hb, C, clsAt_of n, i⟩⟩
theorem here_cls {e : Ent} {c i : Nat} {K : PySem.W.Frag} {h : Heap} {mg : Str → Option Value} (hk : e.kd = .cls c i) (X : K.In h) (G : h.Ns mainGlobals mg) {a C : Addr} (n : PySem.W.nsIn K mainGlobals e.name = some (some (.ref C))) (mk : PySem.W.makesIn K C = true) (i : PySem.W.findIn K (.ref C) "__init__" = some (some (.ref a)))
    (fn : PySem.W.isFn K (.ref a) = true) (kp : PySem.W.keepIn K (.ref C) = true) : ∃ a fd, Here K mg e a fd :=
  ⟨C, PySem.W.fnOf "" "" (defArgs (.Pass ⟨0, 0, 0, 0⟩)) [] (defScope (.Pass ⟨0, 0, 0, 0⟩)) .none .none .none .none none .none .none, by unfold Here; rw [hk]; exact ⟨PySem.W.mg_of X G n, clsAt_of n, a, mk, i, fn, kp⟩⟩
def nmOf (ents : List Ent) (f : Nat) : Str := match ents[f]? with
  | some e => e.name
  | none => ""
def Ent.ar (e : Ent) : Option Nat := match e.kd with
  | .ini _ => none
  | _ => some e.ps.length
def arOf (ents : List Ent) (f : Nat) : Option Nat := (ents[f]?).bind Ent.ar
def tbOf (ents : List Ent) (f : Nat) : Option Fn := (ents[f]?).map (·.fn)
/-- what the checker says of an entry -/
def Ent.good (e : Ent) (ents : List Ent) (bn : List Str) (dcs : List (Str × List (Str × Int))) (exs : List ExC) (cls : List (Str × List Str)) : Bool := match e.kd with
  | .cls c i => decide (e.fn.cls = some (c, i)) && (match cls[c]? with
    | some k => decide (k.1 = e.name)
    | none => false) && (match ents[i]? with
    | some e' => decide (e'.kd = .ini e.name) && decide (e'.ps.length = e.ps.length + 1)
    | none => false)
  | _ => e.ok bn (nmOf ents) (arOf ents) dcs exs cls
theorem pick {K : PySem.W.Frag} {mg : Str → Option Value} : ∀ {ents : List Ent}, (∀ e ∈ ents, ∃ a fd, Here K mg e a fd) → ∃ (A : Nat → Addr) (FD : Nat → FuncData), ∀ i e, ents[i]? = some e → Here K mg e (A i) (FD i)
  | [], _ => ⟨fun _ => 0, fun _ => (PySem.W.fnOf "" "" (defArgs (.Pass ⟨0, 0, 0, 0⟩)) [] (defScope (.Pass ⟨0, 0, 0, 0⟩)) .none .none .none .none none .none .none), fun i e h => by simp at h⟩
  | e0 :: r, h => by
    obtain ⟨a, fd, h0⟩ := h e0 (by simp)
    obtain ⟨A, FD, h1⟩ := pick (ents := r) fun e he => h e (by simp [he])
    refine ⟨fun i => match i with
      | 0 => a
      | i + 1 => A i, fun i => match i with
      | 0 => fd
      | i + 1 => FD i, fun i e q => ?_⟩
    cases i with
    | zero => cases (Option.some.inj (show some e0 = some e from q)); exact h0
    | succ i => exact h1 i e (by simpa using q)
/-- what is said of a class that makes instances: its name, its attributes -/
def ClK (K : PySem.W.Frag) (k : Str × List Str) : Prop := ∃ C, clsAt K k.1 = some C ∧ L2.Cls K C ∧ ∀ f ∈ k.2, NoAttr K C f
theorem clk_mk {K : PySem.W.Frag} {k : Str × List Str} {C : Addr} (n : PySem.W.nsIn K mainGlobals k.1 = some (some (.ref C))) (pg : PySem.W.plainGet K C Str.empty = true) (hd : PySem.W.hasDictIn K C = true) (po : PySem.W.plainOver K C = true) (sa : PySem.W.findIn K (.ref C) "__setattr__" = some (some (.builtin "object.__setattr__")))
    (na : ∀ f ∈ k.2, PySem.W.findIn K (.ref C) f = some none) : ClK K k := ⟨C, clsAt_of n, ⟨pg, hd, po, sa⟩, na⟩
def tabOf (K : PySem.W.Frag) (bn : List Str) (exs : List ExC) (cls : List (Str × List Str)) : Tab := ⟨fun _ => none, fun c => (cls[c]?).bind fun k => clsAt K k.1, fun c => (exs[c]?).bind fun k => clsAt K k.1, fun c => match exs[c]? with
  | some k => k.2.1
  | none => [], fun _ => "", fun _ => "", bn⟩
/-- what is said of a class of the text -/
def ExK (prog : Program) (K : PySem.W.Frag) (mg : Str → Option Value) (exs : List ExC) (c : Nat) (k : ExC) : Prop := ∃ C, clsAt K k.1 = some C ∧ mg k.1 = some (.ref C) ∧ (k.2.1 ≠ [] → ∃ fI, ExTxt prog K mg C fI k.2.1) ∧
  ∀ (c' : Nat) (k' : ExC), exs[c']? = some k' → ∃ C', clsAt K k'.1 = some C' ∧ PySem.W.exmOne K (.ref C') (.ref C) = some (k'.2.2.contains c)
/-- the classes of a text beside one of them -/
def ExmAll (K : PySem.W.Frag) (C : Addr) (c : Nat) : List ExC → Prop
  | [] => True
  | k :: r => (∃ C', clsAt K k.1 = some C' ∧ PySem.W.exmOne K (.ref C') (.ref C) = some (k.2.2.contains c)) ∧ ExmAll K C c r
theorem exmAll_get {K : PySem.W.Frag} {C : Addr} {c : Nat} : ∀ {l : List ExC} {c' : Nat} {k' : ExC}, ExmAll K C c l → l[c']? = some k' → ∃ C', clsAt K k'.1 = some C' ∧ PySem.W.exmOne K (.ref C') (.ref C) = some (k'.2.2.contains c)
  | k :: r, 0, k', h, e => by cases (Option.some.inj (show some k = some k' from e)); exact h.1
  | k :: r, c' + 1, k', h, e => exmAll_get h.2 (by simpa using e)
  | [], _, _, _, e => by simp at e
theorem exk_mk {prog : Program} {K : PySem.W.Frag} {mg : Str → Option Value} {h : Heap} {exs : List ExC} {c : Nat} {k : ExC} {C : Addr} (X : K.In h) (G : h.Ns mainGlobals mg) (n : PySem.W.nsIn K mainGlobals k.1 = some (some (.ref C))) (t : k.2.1 ≠ [] → ∃ fI, ExTxt prog K mg C fI k.2.1) (m : ExmAll K C c exs) : ExK prog K mg exs c k :=
  ⟨C, clsAt_of n, PySem.W.mg_of X G n, t, fun _ _ e => exmAll_get m e⟩
/-- the text of a class over ValueError whose __init__ says super().__init__('..') and stores its parameters, from the facts one by one -/
theorem ext_mk {prog : Program} {K : PySem.W.Frag} {mg : Str → Option Value} {h : Heap} {C fI : Addr} {fs : List Str} (X : K.In h) (G : h.Ns mainGlobals mg)
    {nm q : Str} {N : Addr} {bs bm : List Value} {sn : List Str} {sub : List Value} {ab : Bool} {col : Option Bool} {dd : Option Addr} {k0 k1 k2 k3 k5 : Option Value}
    (cl : K.lookup C = some (excClassObj nm q C N bs bm true sn sub ab col dd k0 k1 k2 k3 k5 "ValueError.__new__")) (rv : PySem.HandSPX.refsVE bm = true)
    (sa : PySem.W.findIn K (.ref C) "__setattr__" = some (some (.builtin "object.__setattr__"))) (ga : PySem.W.findIn K (.ref C) "__getattribute__" = some (some (.builtin "BaseException.__getattribute__"))) (gg : PySem.W.findIn K (.ref C) "__getattr__" = some none)
    (noN : ∀ f ∈ fs, PySem.W.findIn K (.ref C) f = some none) (iC : PySem.W.findIn K (.ref C) "__init__" = some (some (.ref fI))) (tC : PySem.W.typeIn K (.ref fI) = some (.type "function")) (kC : PySem.W.keepIn K (.ref C) = true)
    (exC : PySem.W.subIn K (.ref C) (.type "BaseException") = some true) (veC : PySem.W.subIn K (.ref C) (.type "ValueError") = some true) (tyC : PySem.W.typeIn K (.ref C) = some (.type "type")) (hdC : PySem.W.hasDictIn K C = true)
    (sup : PySem.W.ks_superIn K C C "__init__" = some (some (.builtin "ValueError.__init__"))) (meC : PySem.W.mroIn K C (.ref C) = some true) (noS : PySem.W.nsIn K mainGlobals "super" = some none) (opq : PySem.W.nsIn K cStatics "thirdparty.any" = some none)
    (top : (prog.main.scope.names.lookup ("super" : Str)).isSome = false) (fld : ∀ f ∈ fs, (f == ("__debug__" : Str)) = false ∧ f ≠ ("self" : Str)) (nd : fs.Nodup) (few : fs.length ≤ 8)
    {oc : Value} {od : Option Addr} {doc pm : Value} {an : Option Addr} {cda cc : Addr} {ct : Value} {osl : Array (Option Value)} {qual : Str} {params : Arguments} {body : List Stmt} {scope : Scope}
    (lf : K.lookup fI = some ⟨oc, od, .func (PySem.W.ksFn "__init__" qual params body scope .none .none doc pm an (.ref cda) ct cc), osl⟩) (cd : PySem.W.codeIn K (.ref cda) qual = true)
    {ccl : Value} {cdd : Option Addr} {vs : Array Value} {ccs : Array (Option Value)} {file : Str} {tf : Tok} (lc : K.lookup cda = some ⟨ccl, cdd, .fields vs, ccs⟩) (v2 : vs[2]? = some (.str file tf)) (fl : ((prog.main.file : Str) == file) = true)
    {cl' : Value} {cld : Option Addr} {csl : Array (Option Value)} (lcc : K.lookup cc = some ⟨cl', cld, .cell (some (.ref C)), csl⟩)
    (sf : ∃ ar : Arg, (params.posonlyargs ++ params.args).head? = some ar ∧ ar.arg = "self")
    (bd : ∀ (s : Shared) (u : Value) (vs : List Value), vs.length = fs.length → BindsTo s (PySem.W.ksFn "__init__" qual params body scope .none .none doc pm an (.ref cda) ct cc) ⟨u :: vs, []⟩ (("self", u) :: fs.zip vs))
    (sc : scope.names.lookup ("super" : Str) = some .globalImplicit ∧ scope.names.lookup ("__class__" : Str) = some .free ∧ scope.names.lookup ("self" : Str) = some .local ∧ (∀ f ∈ fs, scope.names.lookup f = some .local) ∧ (∀ x ∈ scope.names, x.2 ≠ .cell) ∧ scope.isCoroutine = false ∧ scope.isGenerator = false ∧ scope.kind = .function)
    (ini : InitIs fs body) : fs ≠ [] → ∃ fI, ExTxt prog K mg C fI fs := fun _ =>
  ⟨fI, ⟨_, _, _, _, _, _, _, _, _, _, _, _, _, _, _, cl, rv⟩, sa, ga, gg, noN, iC, tC, kC, exC, veC, tyC, hdC, sup, meC, PySem.W.mg_none_of X G noS, opq, top, fld, nd, few,
    _, _, _, _, _, _, _, _, _, _, _, _, _, lf, cd, ⟨_, _, _, _, _, _, lc, v2, fl⟩, ⟨_, _, _, lcc⟩, sf, bd, sc.1, sc.2.1, sc.2.2.1, sc.2.2.2.1, sc.2.2.2.2.1, sc.2.2.2.2.2.1, sc.2.2.2.2.2.2.1, sc.2.2.2.2.2.2.2, ini⟩
theorem exs_nil {prog : Program} {K : PySem.W.Frag} {mg : Str → Option Value} : ∀ (c : Nat) (k : ExC), ([] : List ExC)[c]? = some k → ExK prog K mg [] c k := fun c k e => by simp at e
/-- class by class -/
def ExAll (prog : Program) (K : PySem.W.Frag) (mg : Str → Option Value) (exs : List ExC) : Nat → List ExC → Prop
  | _, [] => True
  | c, k :: r => ExK prog K mg exs c k ∧ ExAll prog K mg exs (c + 1) r
theorem exAll_get {prog : Program} {K : PySem.W.Frag} {mg : Str → Option Value} {exs : List ExC} : ∀ {l : List ExC} {n c : Nat} {k : ExC}, ExAll prog K mg exs n l → l[c]? = some k → ExK prog K mg exs (n + c) k
  | k :: r, n, 0, k', h, e => by cases (Option.some.inj (show some k = some k' from e)); exact h.1
  | k :: r, n, c + 1, k', h, e => by
    have := exAll_get (n := n + 1) (c := c) h.2 (by simpa using e)
    rw [show n + (c + 1) = n + 1 + c by omega]; exact this
  | [], _, _, _, _, e => by simp at e
theorem exs_all {prog : Program} {K : PySem.W.Frag} {mg : Str → Option Value} {exs : List ExC} (h : ExAll prog K mg exs 0 exs) : ∀ (c : Nat) (k : ExC), exs[c]? = some k → ExK prog K mg exs c k := fun c k e => by
  have := exAll_get h e
  rwa [Nat.zero_add] at this
theorem exk_ok {prog : Program} {K : PySem.W.Frag} {mg : Str → Option Value} {bn : List Str} {exs : List ExC} {cls : List (Str × List Str)} (h : ∀ c k, exs[c]? = some k → ExK prog K mg exs c k) : (∀ c k, exs[c]? = some k → ExOk prog K mg (tabOf K bn exs cls) exs c k) ∧ ∀ c C, (tabOf K bn exs cls).exA c = some C → ∃ k, exs[c]? = some k := by
  refine ⟨fun c k e => ?_, fun c C e => ?_⟩
  · obtain ⟨C, h1, h2, h3, h4⟩ := h c k e
    refine ⟨C, ?_, ?_, h2, h3, fun c' k' e' => ?_⟩
    · show (exs[c]?).bind _ = _
      rw [e]; exact h1
    · show (match exs[c]? with
        | some k => k.2.1
        | none => []) = _
      rw [e]
    · obtain ⟨C', q1, q2⟩ := h4 c' k' e'
      refine ⟨C', ?_, q2⟩
      show (exs[c']?).bind _ = _
      rw [e']; exact q1
  · obtain ⟨k, h1, _⟩ := Option.bind_eq_some_iff.mp (show ((exs[c]?).bind fun k => clsAt K k.1) = some C from e)
    exact ⟨k, h1⟩
section
variable {P : Program} {w : World} {K : PySem.W.Frag} {mg : Str → Option Value} {base : Heap}
theorem len_of {ents : List Ent} {bn : List Str} {dcs : List (Str × List (Str × Int))} {exs : List ExC} {cls : List (Str × List Str)} (hok : ∀ e ∈ ents, e.good ents bn dcs exs cls = true) : ∀ (k i : Nat) (e : Ent) (us : List OT), ents[i]? = some e → runD (tbOf ents) k i us ≠ .no → us.length = e.ps.length
  | 0, i, e, us, h, hne => absurd rfl hne
  | k + 1, i, e, us, h, hne => by
    have q' : runD (tbOf ents) (k + 1) i us = e.fn.run (runD (tbOf ents) k) us := by simp only [runD, tbOf, h, Option.map_some]
    rw [q'] at hne
    have ok := hok e (List.mem_of_getElem? h)
    have fnc : e.ok bn (nmOf ents) (arOf ents) dcs exs cls = true → us.length = e.ps.length := fun ok => by
      unfold Ent.ok at ok
      simp only [Bool.and_eq_true, decide_eq_true_eq] at ok
      unfold Fn.run at hne
      rw [ok.1.2] at hne
      simp only at hne
      unfold Fn.run0 at hne
      split at hne
      · rename_i hl; rw [hl, ok.1.1.1.1.2]
      · exact absurd rfl hne
    unfold Ent.good at ok
    split at ok
    · rename_i c j hk
      simp only [Bool.and_eq_true, decide_eq_true_eq] at ok
      obtain ⟨⟨o1, o2⟩, o3⟩ := ok
      cases hj : ents[j]? with
      | none => rw [hj] at o3; cases o3
      | some e' =>
        rw [hj] at o3
        simp only [Bool.and_eq_true, decide_eq_true_eq] at o3
        unfold Fn.run at hne
        rw [o1] at hne
        have hne2 : runD (tbOf ents) k j (.obj c [] [] :: us) ≠ .no := fun z => hne (by simp only [z, mkR])
        have := len_of hok k j e' _ hj hne2
        simp only [List.length_cons] at this
        omega
    · exact fnc ok
theorem run_ok {T : Tab} {ents : List Ent} {dcs : List (Str × List (Str × Int))} {exs : List ExC} {cls : List (Str × List Str)} {A : Nat → Addr} {FD : Nat → FuncData} (hs : ∀ i e, ents[i]? = some e → Here K mg e (A i) (FD i)) (hok : ∀ e ∈ ents, e.good ents T.bn dcs exs cls = true) (hd : ∀ x kvs, dcs.lookup x = some kvs → DctK K w mg x kvs) (hb : ∀ x ∈ T.bn, mg x = none) (hx : ∀ c k, exs[c]? = some k → ExOk P K mg T exs c k) (hxR : ∀ c C, T.exA c = some C → ∃ k, exs[c]? = some k)
    (hT : ∀ c, T.clA c = (cls[c]?).bind fun k => clsAt K k.1) (hc : ∀ k ∈ cls, ClK K k) :
    ∀ k i e, ents[i]? = some e → ((∃ c j, e.kd = .cls c j) → FnR P w K mg base k (A i) e.ps.length (spF K T (runD (tbOf ents) k i) e.ps.length)) ∧ ((∀ c j, e.kd ≠ .cls c j) → FnG P w K mg base k (A i) (FD i) e.ps (spF K T (runD (tbOf ents) k i) e.ps.length))
  | 0, i, e, h => ⟨fun _ => ⟨fun q => q.1, fun X W {pins σ H s Q us vs} _ _ _ _ _ _ _ _ _ _ q => by
    obtain ⟨_, us, Hs, fc, st, k⟩ := q
    exact k.elim⟩, fun _ => ⟨fun q => q.1, fun gd hr e0 hv hbi q => by
    obtain ⟨_, us, Hs, fc, st, k⟩ := q
    exact k.elim⟩⟩
  | k + 1, i, e, h => by
    have hcl : ∀ c C, T.clA c = some C → ∃ k, cls[c]? = some k ∧ L2.Cls K C ∧ ∀ f ∈ k.2, NoAttr K C f := fun c C q => by
      rw [hT] at q
      obtain ⟨kx, q1, q2⟩ := Option.bind_eq_some_iff.mp q
      obtain ⟨C', y1, y2, y3⟩ := hc kx (List.mem_of_getElem? q1)
      rw [y1] at q2
      cases q2
      exact ⟨kx, q1, y2, y3⟩
    have q : runD (tbOf ents) (k + 1) i = e.fn.run (runD (tbOf ents) k) := by
      funext ts
      simp only [runD, tbOf, h, Option.map_some]
    rw [q]
    have hh := hs i e h
    have ok := hok e (List.mem_of_getElem? h)
    refine ⟨fun ⟨c, j, hk⟩ => ?_, fun hk => ?_⟩
    · unfold Here at hh
      rw [hk] at hh
      obtain ⟨h1, h2, fI, M⟩ := hh
      unfold Ent.good at ok
      rw [hk] at ok
      simp only [Bool.and_eq_true, decide_eq_true_eq] at ok
      obtain ⟨⟨o1, o2⟩, o3⟩ := ok
      cases hj : ents[j]? with
      | none => rw [hj] at o3; cases o3
      | some e' =>
        rw [hj] at o3
        simp only [Bool.and_eq_true, decide_eq_true_eq] at o3
        cases hcx : cls[c]? with
        | none => rw [hcx] at o2; cases o2
        | some kx =>
          rw [hcx] at o2
          simp only [decide_eq_true_eq] at o2
          have hh' := hs j e' hj
          unfold Here at hh'
          rw [o3.1] at hh'
          obtain ⟨F, b, C, g1, g2⟩ := hh'
          rw [h2] at g1
          cases g1
          have := M.init
          rw [g2] at this
          cases this
          have G := (run_ok hs hok hd hb hx hxR hT hc k j e' hj).2 (fun c' j' z => by rw [o3.1] at z; cases z)
          have hA : T.clA c = some (A i) := by rw [hT, hcx]; show clsAt K kx.1 = _; rw [o2]; exact h2
          obtain ⟨_, _, y2, _⟩ := hcl c _ hA
          have e1 : e.fn.run (runD (tbOf ents) k) = fun us => mkR (runD (tbOf ents) k j (.obj c [] [] :: us)) := by
            funext us
            unfold Fn.run
            rw [o1]
          rw [e1]
          rw [o3.2] at G
          exact G.ofClass b M fun z => cls_sp hA y2 z
    · have F : ∃ x, Fun K x e.name e.st (A i) (FD i) := by
        unfold Here at hh
        split at hh
        · exact ⟨_, hh.1⟩
        · exact ⟨_, hh.1⟩
        · rename_i c j z; exact absurd z (hk c j)
      obtain ⟨x, F⟩ := F
      have ok' : e.ok T.bn (nmOf ents) (arOf ents) dcs exs cls = true := by
        unfold Ent.good at ok
        split at ok
        · rename_i c j z; exact absurd z (hk c j)
        · exact ok
      refine fn_ok F ok' hx hxR hd hb hcl fun f n hf => ?_
      obtain ⟨e', h1, h2⟩ := Option.bind_eq_some_iff.mp hf
      have hh' := hs f e' h1
      have nm : nmOf ents f = e'.name := by unfold nmOf; rw [h1]
      rw [nm]
      unfold Ent.ar at h2
      have IH := run_ok hs hok hd hb hx hxR hT hc k f e' h1
      unfold Here at hh'
      have nn : e'.ps.length = n := by
        split at h2
        · cases h2
        · exact Option.some.inj h2
      subst nn
      refine ⟨A f, ?_⟩
      cases hk' : e'.kd with
      | fn =>
        rw [hk'] at hh'
        exact ⟨(IH.2 fun c j z => by rw [hk'] at z; cases z).r hh'.2.2, hh'.2.1, hh'.1.kp, fun us hne => len_of hok k f e' us h1 hne⟩
      | ini cn => rw [hk'] at h2; cases h2
      | cls c j =>
        rw [hk'] at hh'
        obtain ⟨y1, y2, fI, M⟩ := hh'
        exact ⟨IH.1 ⟨c, j, hk'⟩, y1, M.kp, fun us hne => len_of hok k f e' us h1 hne⟩
end
/-- a dict of the module as it is written -/
def EsOk : List DictEntry → List (Str × Int) → Prop
  | [], [] => True
  | e :: r, kv :: kvs => (∃ t, e.key = .str kv.1 t) ∧ (∃ t, e.val = .int kv.2 t) ∧ EsOk r kvs
  | _, _ => False
theorem es_find : ∀ {es : List DictEntry} {kvs : List (Str × Int)} {z : Str}, EsOk es kvs → (es.any (·.refKey)) = false ∧ (∀ n, kvs.lookup z = some n → ∃ e t, es.find? (·.key.isStr z) = some e ∧ e.val = .int n t) ∧ (kvs.lookup z = none → es.find? (·.key.isStr z) = none)
  | [], [], z, _ => ⟨rfl, fun n h => by simp at h, fun _ => rfl⟩
  | [], _ :: _, z, h => h.elim
  | _ :: _, [], z, h => h.elim
  | e :: r, (k, v) :: kvs, z, h => by
    obtain ⟨⟨t, h1⟩, ⟨t', h2⟩, h3⟩ := h
    obtain ⟨i1, i2, i3⟩ := es_find (z := z) h3
    have k1 : e.key.isStr z = (z == k) := by
      rw [h1]
      show (k == z) = (z == k)
      exact Bool.eq_iff_iff.mpr (by simp only [beq_iff_eq]; exact eq_comm)
    have k2 : e.refKey = false := by unfold DictEntry.refKey; rw [h1]
    refine ⟨by rw [List.any_cons, k2, i1]; rfl, fun n hn => ?_, fun hn => ?_⟩
    · rw [List.lookup_cons] at hn
      rw [List.find?_cons, k1]
      cases hz : z == k with
      | true => rw [hz] at hn; cases Option.some.inj hn; exact ⟨e, t', rfl, h2⟩
      | false => rw [hz] at hn; exact i2 n hn
    · rw [List.lookup_cons] at hn
      rw [List.find?_cons, k1]
      cases hz : z == k with
      | true => rw [hz] at hn; cases hn
      | false => rw [hz] at hn; exact i3 hn
theorem dct_mk {K : PySem.W.Frag} {w : World} {mg : Str → Option Value} {h : Heap} {x : Str} {kvs : List (Str × Int)} {d : Addr} {es : Array DictEntry} {n : Nat} (X : K.In h) (G : h.Ns mainGlobals mg) (m : PySem.W.nsIn K mainGlobals x = some (some (.ref d))) (l : K.lookup d = some ⟨.type "dict", none, .dict es n, #[]⟩)
    (lit : PySem.W.KeysLit w.params es.toList) (low : (d == sysModules) = false) (h : EsOk es.toList kvs) : DctK K w mg x kvs := by
  refine ⟨d, es, n, PySem.W.mg_of X G m, ⟨l, lit, low⟩, fun z n hz => ?_, fun z hz => ?_⟩
  · obtain ⟨_, i2, _⟩ := es_find (z := z) h
    obtain ⟨e, t, h1, h2⟩ := i2 n hz
    refine ⟨t, ?_⟩
    unfold PySem.W.nsIn
    rw [l]
    dsimp only
    rw [h1]
    dsimp only
    rw [h2]
  · obtain ⟨i1, _, i3⟩ := es_find (z := z) h
    unfold PySem.W.nsIn
    rw [l]
    dsimp only
    rw [i3 hz, i1]
    rfl
theorem dcs_one {K : PySem.W.Frag} {w : World} {mg : Str → Option Value} {y : Str} {kv : List (Str × Int)} {r : List (Str × List (Str × Int))} (h : DctK K w mg y kv) (hr : ∀ x kvs, r.lookup x = some kvs → DctK K w mg x kvs) : ∀ x kvs, List.lookup x ((y, kv) :: r) = some kvs → DctK K w mg x kvs := fun x kvs e => by
  rw [List.lookup_cons] at e
  cases hz : x == y with
  | true => rw [hz] at e; cases Option.some.inj e; rw [eq_of_beq hz]; exact h
  | false => rw [hz] at e; exact hr x kvs e
/-- the goal that k_head leaves -/
theorem walkL {l : PySem.W.OpenLaw} {q : Program} {loose : List Str} {XP : (Str → Option Value) → Heap → Prop} {YP : World → Heap → Prop} {d : DefRec} {K : Params → PySem.W.Frag} {ents : List Ent} {bn : List Str} {dcs : List (Str × List (Str × Int))} {exs : List ExC} {cls : List (Str × List Str)} {li k : Nat} {e : Ent} {x : Str} (hn : l.most = some 63) (hdf : d.params.defaults = [])
    (hY : ∀ (w : World) (h : Heap), YP w h → (K w.params).In h) (hr : Room k callerA) (hle : ents[li]? = some e) (hps : e.ps = [x]) (hkd : e.kd = .fn) (hnm : d.name = e.name) (hok : ∀ e ∈ ents, e.good ents bn dcs exs cls = true)
    (hrun : ∀ ns : List Int, ns.length ≤ 63 → ∃ ws, runD (tbOf ents) k li [.sh (.flst (ns.map .int))] = .ok (.sh (.bl true), ws))
    (hbd : ∀ (kV doc pm : Value) (an : Option Addr) (cdv ct : Value) (s : Shared) (u : Value), BindsTo s (PySem.W.fnOf e.name e.name (defArgs e.st) (defBody e.st) (defScope e.st) .none kV doc pm an cdv ct) ⟨[u], []⟩ [(x, u)])
    (F : ∀ (w : World) (mg : Str → Option Value) (h : Heap), (K w.params).In h → h.Ns mainGlobals mg → (∀ e ∈ ents, ∃ a fd, Here (K w.params) mg e a fd) ∧ (∀ x ∈ bn, mg x = none) ∧ (∀ x kvs, dcs.lookup x = some kvs → DctK (K w.params) w mg x kvs) ∧ (∀ c k, exs[c]? = some k → ExK l.prog (K w.params) mg exs c k) ∧ ∀ k ∈ cls, ClK (K w.params) k) :
    PySem.W.WalkO q loose XP YP l.row.toRowW d [] (fun f vs => PySem.call f vs) := by
  refine walk_G (n := 63) (k := k) (x := x) (sp := fun w => spF (K w.params) (tabOf (K w.params) bn exs cls) (runD (tbOf ents) k li) 1) hn (by decide) hdf hr hY ?_ ?_ ?_
  · intro w mg fa h KX G hmg
    obtain ⟨hs, hb, hd, hx, hcl⟩ := F w mg h KX G
    obtain ⟨hx1, hx2⟩ := exk_ok (bn := bn) (cls := cls) hx
    obtain ⟨A, FD, hAF⟩ := pick hs
    have H0 := hAF li e hle
    unfold Here at H0
    rw [hkd] at H0
    obtain ⟨HF, Hm, Hb⟩ := H0
    have ea : fa = A li := by
      rw [hnm, Hm] at hmg
      cases hmg
      rfl
    subst ea
    refine ⟨FD li, fun s u => ?_, fun base _ _ => ?_⟩
    · obtain ⟨oc, od, kV, doc, pm, an, cdv, ct, osl, h1, _, _⟩ := HF.ex
      rw [h1]
      exact hbd kV doc pm an cdv ct s u
    · have := (run_ok (P := l.prog) (w := w) (base := base) (T := tabOf (K w.params) bn exs cls) hAF hok hd hb hx1 hx2 (fun _ => rfl) hcl k li e hle).2 (fun c j z => by rw [hkd] at z; cases z)
      rw [hps] at this
      exact this
  · intro w H a ns hl hS
    refine ⟨rfl, [.sh (.flst (ns.map .int))], H, [], ⟨Ex.refl _, RpS.ow (f := []) (.sh (.flst hS (rps_of_ints ns))) .nil, .nil, fun a ha => absurd ha (by simp), fun a ha => absurd ha (by simp), fun a ha => absurd ha (by simp)⟩, ?_⟩
    obtain ⟨ws, e⟩ := hrun ns hl
    rw [e]
    intro v H' Hs' fc' ft _ rp _ _ _
    cases rp with
    | sh r => cases r; rfl
  · intro w H s u s' h
    obtain ⟨_, _, _, _, _, _, _, _, _, _, _, _, z⟩ := h
    exact z
end CH
end
section
namespace CH
open PySem L2 Evl PyProof.Rows
abbrev iT (i : Int) : OT := .sh (.int i)
theorem ev_eq_ii (a b : Int) : Op.ev (.cmp .eq) [.sh (.int a), .sh (.int b)] = some (.sh (.bl (decide (a = b)))) := rfl
theorem ev_ne_ii (a b : Int) : Op.ev (.cmp .ne) [.sh (.int a), .sh (.int b)] = some (.sh (.bl (!decide (a = b)))) := rfl
theorem ev_lt_ii (a b : Int) : Op.ev (.cmp .lt) [.sh (.int a), .sh (.int b)] = some (.sh (.bl (decide (a < b)))) := rfl
theorem ev_le_ii (a b : Int) : Op.ev (.cmp .le) [.sh (.int a), .sh (.int b)] = some (.sh (.bl (decide (a ≤ b)))) := rfl
theorem ev_gt_ii (a b : Int) : Op.ev (.cmp .gt) [.sh (.int a), .sh (.int b)] = some (.sh (.bl (decide (b < a)))) := rfl
theorem ev_ge_ii (a b : Int) : Op.ev (.cmp .ge) [.sh (.int a), .sh (.int b)] = some (.sh (.bl (decide (b ≤ a)))) := rfl
theorem ev_add_ii (a b : Int) : Op.ev (.bin .add) [.sh (.int a), .sh (.int b)] = some (.sh (.int (a + b))) := rfl
theorem ev_sub_ii (a b : Int) : Op.ev (.bin .sub) [.sh (.int a), .sh (.int b)] = some (.sh (.int (a - b))) := rfl
theorem ev_mul_ii (a b : Int) (h : mulOk a b = true) : Op.ev (.bin .mul) [.sh (.int a), .sh (.int b)] = some (.sh (.int (a * b))) := by
  show guard_ (mulOk a b) _ = _; rw [h]; rfl
theorem mulOk_r (a b : Int) (h : -(2 ^ 64) < b ∧ b < 2 ^ 64) : mulOk a b = true := by unfold mulOk; rw [decide_eq_true h, Bool.or_true]
theorem mulOk_l (a b : Int) (h : -(2 ^ 64) < a ∧ a < 2 ^ 64) : mulOk a b = true := by unfold mulOk; rw [decide_eq_true h, Bool.true_or]
theorem ev_mod_ii (a b : Int) (h : 0 < b) : Op.ev (.bin .mod) [.sh (.int a), .sh (.int b)] = some (.sh (.int (a % b))) := by
  show guard_ (decide (0 < b)) _ = _; rw [decide_eq_true h]; rfl
theorem ev_fdiv_ii (a b : Int) (h : 0 < b ∧ b < 1073741824) : Op.ev (.bin .fdiv) [.sh (.int a), .sh (.int b)] = some (.sh (.int (a / b))) := by
  show guard_ (decide (0 < b ∧ b < 1073741824)) _ = _; rw [decide_eq_true h]; rfl
theorem ev_pow_10 (n : Nat) (h : n ≤ 1000000) : Op.ev (.bin .pow) [.sh (.int 10), .sh (.int (n : Int))] = some (.sh (.int (10 ^ n))) := by
  show guard_ (decide (0 ≤ (n : Int) ∧ (n : Int) ≤ 1000000 ∧ (10 : Int).natAbs < 2 ^ 64)) (OT.sh (.int (10 ^ (n : Int).toNat))) = _
  rw [decide_eq_true ⟨by omega, by omega, by decide⟩]; rfl
theorem ev_neg_i (a : Int) : Op.ev .neg [.sh (.int a)] = some (.sh (.int (-a))) := rfl
theorem ev_int_i (a : Int) : Op.ev (.bi .int) [.sh (.int a)] = some (.sh (.int a)) := rfl
theorem ev_abs_i (a : Int) : Op.ev (.bi .abs) [.sh (.int a)] = some (.sh (.int (if a < 0 then -a else a))) := rfl
theorem ev_len_l (ts : List OT) : Op.ev (.bi .len) [.lst ts] = some (.sh (.int ts.length)) := rfl
theorem ev_len_t (ds : List D) : Op.ev (.bi .len) [.sh (.tup ds)] = some (.sh (.int ds.length)) := rfl
theorem ev_len_f (ds : List D) : Op.ev (.bi .len) [.sh (.flst ds)] = some (.sh (.int ds.length)) := rfl
theorem ev_idx (t : OT) (i : Int) : Op.ev .idx [t, .sh (.int i)] = idxEv t i := rfl
theorem tru_b (b : Bool) : truEv (.sh (.bl b)) = some b := rfl
def poolL (a b c : Int) (r : List Int) : List OT := iT a :: iT b :: iT c :: r.map iT
theorem pool_len (a b c : Int) (r : List Int) : (poolL a b c r).length = 3 + r.length := by unfold poolL; simp; omega
theorem leaves_i (l : List Int) : leaves (l.map iT) = some (l.map .int) := by
  induction l with
  | nil => rfl
  | cons a l ih => show (leaves (l.map iT)).map (D.int a :: ·) = _; rw [ih]; rfl
theorem pool_items (a b c : Int) (r : List Int) : OT.items (.lst (poolL a b c r)) = some ((a :: b :: c :: r).map .int) := leaves_i (a :: b :: c :: r)
theorem pool_0 (a b c : Int) (r : List Int) : idxEv (.lst (poolL a b c r)) 0 = some (.sh (.int a)) := by
  show (OT.items (.lst (poolL a b c r))).bind _ = _
  rw [pool_items]
  show (atI ((a :: b :: c :: r).map D.int) ((0 : Nat) : Int)).map OT.sh = _
  rw [atI_nat (v := D.int a) rfl]; rfl
theorem pool_1 (a b c : Int) (r : List Int) : idxEv (.lst (poolL a b c r)) 1 = some (.sh (.int b)) := by
  show (OT.items (.lst (poolL a b c r))).bind _ = _
  rw [pool_items]
  show (atI ((a :: b :: c :: r).map D.int) ((1 : Nat) : Int)).map OT.sh = _
  rw [atI_nat (v := D.int b) rfl]; rfl
theorem pool_2 (a b c : Int) (r : List Int) : idxEv (.lst (poolL a b c r)) 2 = some (.sh (.int c)) := by
  show (OT.items (.lst (poolL a b c r))).bind _ = _
  rw [pool_items]
  show (atI ((a :: b :: c :: r).map D.int) ((2 : Nat) : Int)).map OT.sh = _
  rw [atI_nat (v := D.int c) rfl]; rfl
def cellP (a b c : Int) (r : List Int) (i : Int) : Int := (a :: b :: c :: r).getD i.toNat 0
theorem pool_c (a b c : Int) (r : List Int) (i : Int) (h0 : 0 ≤ i) (h1 : i < 3 + (r.length : Int)) : idxEv (.lst (poolL a b c r)) i = some (.sh (.int (cellP a b c r i))) := by
  show (OT.items (.lst (poolL a b c r))).bind _ = _
  rw [pool_items]
  obtain ⟨n, rfl⟩ : ∃ n : Nat, i = n := ⟨i.toNat, by omega⟩
  have hn : n < (a :: b :: c :: r).length := by simp; omega
  show (atI ((a :: b :: c :: r).map D.int) (n : Int)).map OT.sh = _
  rw [atI_nat (v := D.int ((a :: b :: c :: r)[n])) (by rw [List.getElem?_map, List.getElem?_eq_getElem hn]; rfl)]
  show some (OT.sh (D.int _)) = _
  unfold cellP
  rw [List.getD_eq_getElem?_getD, Int.toNat_natCast, List.getElem?_eq_getElem hn]; rfl
theorem pool_s0 (a b c x : Int) (r : List Int) : muEv .setIx (poolL a b c r) [.sh (.int x), .sh (.int 0)] = some (.sh .non, poolL x b c r) := by
  show (ixN (poolL a b c r).length ((0 : Nat) : Int)).map _ = _
  rw [ixN_nat (by rw [pool_len]; omega)]; rfl
theorem pool_s1 (a b c x : Int) (r : List Int) : muEv .setIx (poolL a b c r) [.sh (.int x), .sh (.int 1)] = some (.sh .non, poolL a x c r) := by
  show (ixN (poolL a b c r).length ((1 : Nat) : Int)).map _ = _
  rw [ixN_nat (by rw [pool_len]; omega)]; rfl
theorem pool_s2 (a b c x : Int) (r : List Int) : muEv .setIx (poolL a b c r) [.sh (.int x), .sh (.int 2)] = some (.sh .non, poolL a b x r) := by
  show (ixN (poolL a b c r).length ((2 : Nat) : Int)).map _ = _
  rw [ixN_nat (by rw [pool_len]; omega)]; rfl
theorem forL_ret {body : Env → R (Fl × Env)} {pl : List Nat} {tg : Tg} {I : Nat → Env → Prop} {Rt : OT → Env → Prop} : ∀ (ds : List D) (n : Nat) (ρ : Env), I n ρ →
    (∀ i d ρ, ds[i]? = some d → I (n + i) ρ → ∃ ρ1 ρ2, setTg pl tg d ρ = some ρ1 ∧ (((body ρ1 = .ok (.nx, ρ2) ∨ body ρ1 = .ok (.ct, ρ2)) ∧ I (n + i + 1) ρ2) ∨ ∃ t, body ρ1 = .ok (.rt t, ρ2) ∧ Rt t ρ2)) →
    (∃ ρ', forL body pl tg ds ρ = .ok (.nx, ρ') ∧ I (n + ds.length) ρ') ∨ ∃ t ρ', forL body pl tg ds ρ = .ok (.rt t, ρ') ∧ Rt t ρ'
  | [], n, ρ, h, _ => .inl ⟨ρ, rfl, h⟩
  | d :: ds, n, ρ, h, st => by
    obtain ⟨ρ1, ρ2, h1, h2⟩ := st 0 d ρ rfl h
    have tail : I (n + 0 + 1) ρ2 → (∃ ρ', forL body pl tg ds ρ2 = .ok (.nx, ρ') ∧ I (n + (d :: ds).length) ρ') ∨ ∃ t ρ', forL body pl tg ds ρ2 = .ok (.rt t, ρ') ∧ Rt t ρ' := fun hI => by
      have := forL_ret ds (n + 1) ρ2 hI fun i d' ρ e hi => by
        have := st (i + 1) d' ρ (by simpa using e) (by rw [show n + (i + 1) = n + 1 + i by omega]; exact hi)
        rw [show n + (i + 1) + 1 = n + 1 + i + 1 by omega] at this
        exact this
      rw [show n + (d :: ds).length = n + 1 + ds.length by simp; omega]
      exact this
    unfold forL
    rw [h1]
    simp only
    rcases h2 with ⟨h2 | h2, h3⟩ | ⟨t, h2, h3⟩
    · rw [h2]; exact tail h3
    · rw [h2]; exact tail h3
    · rw [h2]; exact .inr ⟨t, ρ2, rfl, h3⟩
theorem forL_inv {body : Env → R (Fl × Env)} {pl : List Nat} {tg : Tg} {I : Nat → Env → Prop} (ds : List D) (ρ : Env) (h : I 0 ρ)
    (st : ∀ i d ρ, ds[i]? = some d → I i ρ → ∃ ρ1 ρ2, setTg pl tg d ρ = some ρ1 ∧ body ρ1 = .ok (.nx, ρ2) ∧ I (i + 1) ρ2) : ∃ ρ', forL body pl tg ds ρ = .ok (.nx, ρ') ∧ I ds.length ρ' := by
  rcases forL_ret (I := I) (Rt := fun _ _ => False) (body := body) (pl := pl) (tg := tg) ds 0 ρ h (fun i d ρ e hi => by
    rw [Nat.zero_add] at hi ⊢
    obtain ⟨ρ1, ρ2, h1, h2, h3⟩ := st i d ρ e hi
    exact ⟨ρ1, ρ2, h1, .inl ⟨.inl h2, h3⟩⟩) with ⟨ρ', h1, h2⟩ | ⟨_, _, _, h⟩
  · exact ⟨ρ', h1, by simpa using h2⟩
  · exact h.elim
theorem lcL_inv {cond : Env → R (Bool × Env)} {elt : Env → R (OT × Env)} {pl : List Nat} {tg : Tg} {I : Nat → List OT → Env → Prop} : ∀ (ds : List D) (n : Nat) (acc : List OT) (ρ : Env), I n acc ρ →
    (∀ i d acc ρ, ds[i]? = some d → I (n + i) acc ρ → ∃ ρ1 b ρ2, setTg pl tg d ρ = some ρ1 ∧ cond ρ1 = .ok (b, ρ2) ∧ if b = true then ∃ t ρ3, elt ρ2 = .ok (t, ρ3) ∧ acc.length < big ∧ I (n + i + 1) (acc ++ [t]) (wipeE ρ3 tg.slots) else I (n + i + 1) acc (wipeE ρ2 tg.slots)) →
    ∃ ts ρ', lcL cond elt pl tg ds acc ρ = .ok (ts, ρ') ∧ I (n + ds.length) ts ρ'
  | [], n, acc, ρ, h, _ => ⟨acc, ρ, rfl, h⟩
  | d :: ds, n, acc, ρ, h, st => by
    obtain ⟨ρ1, b, ρ2, h1, h2, h3⟩ := st 0 d acc ρ rfl h
    have tail : ∀ acc' ρ', I (n + 0 + 1) acc' ρ' → ∃ ts ρ2, lcL cond elt pl tg ds acc' ρ' = .ok (ts, ρ2) ∧ I (n + (d :: ds).length) ts ρ2 := fun acc' ρ' hI => by
      have := lcL_inv ds (n + 1) acc' ρ' hI fun i d' acc ρ e hi => by
        have := st (i + 1) d' acc ρ (by simpa using e) (by rw [show n + (i + 1) = n + 1 + i by omega]; exact hi)
        rw [show n + (i + 1) + 1 = n + 1 + i + 1 by omega] at this
        exact this
      rw [show n + (d :: ds).length = n + 1 + ds.length by simp; omega]
      exact this
    unfold lcL at tail ⊢
    unfold lcG
    rw [h1]
    simp only
    rw [h2]
    cases b with
    | false => exact tail _ _ h3
    | true =>
      obtain ⟨t, ρ3, h4, h5, h6⟩ := h3
      have : pushE elt acc ρ2 = .ok (acc ++ [t], ρ3) := by
        unfold pushE
        rw [h4]
        simp only
        rw [if_pos h5]
      simp only
      rw [this]
      exact tail _ _ h6
/-- over items that change nothing -/
theorem lcL_pure {cond : Env → R (Bool × Env)} {elt : Env → R (OT × Env)} {pl : List Nat} {i : Nat} {ρ : Env} {p : D → Bool} {g : D → D} (hi : ρ[i]? = some .no) (hp : i ∉ pl) : ∀ (ds : List D) (acc : List D), acc.length + ds.length ≤ big →
    (∀ d ∈ ds, cond (ρ.set i (.ow (.sh d))) = .ok (p d, ρ.set i (.ow (.sh d))) ∧ (p d = true → elt (ρ.set i (.ow (.sh d))) = .ok (.sh (g d), ρ.set i (.ow (.sh d))))) →
    lcL cond elt pl (.one i) ds (acc.map .sh) ρ = .ok ((acc ++ (ds.filter p).map g).map .sh, ρ)
  | [], acc, _, _ => by simp [lcL, lcG]
  | d :: ds, acc, hl, h => by
    obtain ⟨h1, h2⟩ := h d (by simp)
    have ih := fun acc hl => lcL_pure (cond := cond) (elt := elt) hi hp ds acc hl fun d' hd => h d' (by simp [hd])
    have s1 : setTg pl (.one i) d ρ = some (ρ.set i (.ow (.sh d))) := by
      show set1 pl i d ρ = _
      unfold set1
      rw [hi]
      simp [hp]
    have w1 : wipeE (ρ.set i (.ow (.sh d))) (Tg.slots (.one i)) = ρ := by
      show (ρ.set i (.ow (.sh d))).set i .no = ρ
      rw [List.set_set]
      obtain ⟨hlt, e⟩ := List.getElem?_eq_some_iff.mp hi
      rw [← e, List.set_getElem_self]
    unfold lcL at ih ⊢
    unfold lcG
    rw [s1]
    simp only
    rw [h1]
    simp only [List.length_cons] at hl
    cases hp' : p d with
    | false =>
      simp only
      rw [w1, ih acc (by omega), List.filter_cons_of_neg (by simp [hp'])]
    | true =>
      simp only
      have : pushE elt (acc.map .sh) (ρ.set i (.ow (.sh d))) = .ok ((acc ++ [g d]).map .sh, ρ.set i (.ow (.sh d))) := by
        unfold pushE
        rw [h2 hp']
        simp only
        rw [if_pos (by rw [List.length_map]; omega)]
        simp
      rw [this]
      simp only
      rw [w1, ih (acc ++ [g d]) (by simp; omega), List.filter_cons_of_pos hp']
      simp
/-- .. each of which gives a value -/
theorem lcL_map {α : Type} {cond : Env → R (Bool × Env)} {elt : Env → R (OT × Env)} {pl : List Nat} {i : Nat} {ρ : Env} {mk g : α → D} (hi : ρ[i]? = some .no) (hp : i ∉ pl) (xs : List α) (hl : xs.length ≤ big)
    (hc : ∀ ρ, cond ρ = .ok (true, ρ)) (h : ∀ x ∈ xs, elt (ρ.set i (.ow (.sh (mk x)))) = .ok (.sh (g x), ρ.set i (.ow (.sh (mk x))))) :
    lcL cond elt pl (.one i) (xs.map mk) [] ρ = .ok (xs.map fun x => .sh (g x), ρ) := by
  have key : ∀ (xs : List α) (acc : List OT), acc.length + xs.length ≤ big → (∀ x ∈ xs, elt (ρ.set i (.ow (.sh (mk x)))) = .ok (.sh (g x), ρ.set i (.ow (.sh (mk x))))) → lcL cond elt pl (.one i) (xs.map mk) acc ρ = .ok (acc ++ xs.map fun x => .sh (g x), ρ) := by
    intro xs
    induction xs with
    | nil => intro acc _ _; simp [lcL, lcG]
    | cons x xs ih =>
      intro acc hl h
      have s1 : setTg pl (.one i) (mk x) ρ = some (ρ.set i (.ow (.sh (mk x)))) := by
        show set1 pl i (mk x) ρ = _
        unfold set1
        rw [hi]
        simp [hp]
      have w1 : wipeE (ρ.set i (.ow (.sh (mk x)))) (Tg.slots (.one i)) = ρ := by
        show (ρ.set i (.ow (.sh (mk x)))).set i .no = ρ
        rw [List.set_set]
        obtain ⟨hlt, e⟩ := List.getElem?_eq_some_iff.mp hi
        rw [← e, List.set_getElem_self]
      rw [List.map_cons]
      unfold lcL at ih ⊢
      unfold lcG
      rw [s1]
      simp only
      rw [hc]
      simp only
      simp only [List.length_cons] at hl
      have : pushE elt acc (ρ.set i (.ow (.sh (mk x)))) = .ok (acc ++ [.sh (g x)], ρ.set i (.ow (.sh (mk x)))) := by
        unfold pushE
        rw [h x (by simp)]
        simp only
        rw [if_pos (by omega)]
      rw [this]
      simp only
      rw [w1, ih _ (by simp; omega) fun y hy => h y (by simp [hy])]
      simp
  simpa using key xs [] (by simpa using hl) h
theorem litems_sh (ds : List D) : OT.litems (.lst (ds.map .sh)) = some ds := leaves_map ds
theorem blsD_map (l : List Bool) : blsD (l.map .bl) = some l := by
  induction l with
  | nil => rfl
  | cons a l ih => show (blsD (l.map D.bl)).map (a :: ·) = _; rw [ih]; rfl
theorem ev_all {α : Type} (xs : List α) (f : α → Bool) : Op.ev (.bi .all) [.lst (xs.map fun x => .sh (.bl (f x)))] = some (.sh (.bl (xs.all f))) := by
  have e1 : (xs.map fun x => OT.sh (.bl (f x))) = ((xs.map f).map D.bl).map OT.sh := by rw [List.map_map, List.map_map]; rfl
  rw [e1]
  show (OT.litems _).bind _ = _
  rw [litems_sh]
  show (blsD ((xs.map f).map D.bl)).map _ = _
  rw [blsD_map]
  show some (OT.sh (D.bl ((xs.map f).all id))) = _
  rw [List.all_map]; rfl
theorem cm_le_ii (a b : Int) : cmpEv .le (.sh (.int a)) (.sh (.int b)) = some (decide (a ≤ b)) := rfl
theorem cm_lt_ii (a b : Int) : cmpEv .lt (.sh (.int a)) (.sh (.int b)) = some (decide (a < b)) := rfl
theorem toDs_map {α : Type} (xs : List α) (g : α → D) : toDs (xs.map fun x => .sh (g x)) = xs.map g := by
  induction xs with
  | nil => rfl
  | cons a l ih => show OT.toD (.sh (g a)) :: toDs (l.map fun x => .sh (g x)) = _; rw [ih]; rfl
theorem all_ints {ds : List D} {p : D → Bool} (hp : ∀ d, p d = true → ∃ i, d = .int i) (h : ds.all p = true) : ∃ ns : List Int, ds = ns.map .int := by
  induction ds with
  | nil => exact ⟨[], rfl⟩
  | cons d ds ih =>
    rw [List.all_cons, Bool.and_eq_true] at h
    obtain ⟨i, rfl⟩ := hp d h.1
    obtain ⟨ns, rfl⟩ := ih h.2
    exact ⟨i :: ns, rfl⟩
theorem ev_isi_t (tys : List String) (d : D) : Op.ev (.isi tys) [.sh d] = d.tyName.map fun a => .sh (.bl (tys.any fun b => isTy a b)) := rfl
theorem ss_next {Φ : Phi} {pl : List Nat} {s : CS} {r : CSs} {ρ ρ1 : Env} (h : evS Φ pl s ρ = .ok (.nx, ρ1)) : evSs Φ pl (.cons s r) ρ = evSs Φ pl r ρ1 := by rw [evSs, h]; rfl
theorem ss_stop {Φ : Phi} {pl : List Nat} {s : CS} {r : CSs} {ρ ρ1 : Env} {t : OT} (h : evS Φ pl s ρ = .ok (.rt t, ρ1)) : evSs Φ pl (.cons s r) ρ = .ok (.rt t, ρ1) := by rw [evSs, h]; rfl
theorem ife_t {Φ : Phi} {pl : List Nat} {t : CT} {a b : CSs} {ρ ρ1 : Env} (h : evT Φ pl t ρ = .ok (true, ρ1)) : evS Φ pl (.ife t a b) ρ = evSs Φ pl a ρ1 := by rw [evS, h]; rfl
theorem ife_f {Φ : Phi} {pl : List Nat} {t : CT} {a b : CSs} {ρ ρ1 : Env} (h : evT Φ pl t ρ = .ok (false, ρ1)) : evS Φ pl (.ife t a b) ρ = evSs Φ pl b ρ1 := by rw [evS, h]; rfl
theorem ss_end {Φ : Phi} {pl : List Nat} {s : CS} {ρ : Env} : evSs Φ pl (.cons s .nil) ρ = evS Φ pl s ρ := by
  rw [evSs]
  cases evS Φ pl s ρ with
  | ok p =>
    obtain ⟨f, ρ1⟩ := p
    cases f <;> simp [CH.R.bind, evSs]
  | ex e ρ1 => rfl
  | no => rfl
theorem run_rt {Φ : Phi} {fn : Fn} {ts us : List OT} {ρ : Env} {t : OT} (hl : ts.length = fn.np) (h : evSs Φ fn.pl fn.body (ts.map .ow ++ List.replicate (fn.nv - fn.np) .no) = .ok (.rt t, ρ)) (ho : outs fn.pl ρ 0 ts = some us) (hc : fn.cls = none := by rfl) : fn.run Φ ts = .ok (t, us) := by
  unfold Fn.run
  rw [hc]
  simp only
  unfold Fn.run0
  rw [if_pos hl, h]
  simp only [ho]
  rfl
end CH
end
section
namespace CH
open PySem L2 Evl PyProof.Rows
theorem patch_same (m : Nat → Bool) : ∀ ρ : Env, patch m ρ ρ = ρ
  | [] => rfl
  | a :: as => by
    show (if m 0 = true then a else a) :: patch (fun j => m (j + 1)) as as = _
    rw [patch_same (fun j => m (j + 1)) as, ite_self]
theorem backE_same (ρ : Env) (vs : List Nat) : backE ρ ρ vs = ρ := patch_same _ ρ
theorem set_no {ρ : Env} {i : Nat} (h : ρ[i]? = some .no) : ρ.set i .no = ρ := by
  obtain ⟨hlt, e⟩ := List.getElem?_eq_some_iff.mp h
  rw [← e, List.set_getElem_self]
theorem wipe_one {ρ : Env} {i : Nat} (h : ρ[i]? = some .no) : wipeE ρ (Tg.slots (.one i)) = ρ := set_no h
theorem quiet_one {ρ : Env} {i : Nat} (h : ρ[i]? = some .no) : quietAll ρ (Tg.slots (.one i)) = true := by
  show ([i].all fun i => quietSl (ρ.getD i (.lk (.sh .non)))) = true
  rw [List.all_cons, List.getD_eq_getElem?_getD, h]; rfl
/-- a comprehension over one name that changes nothing: its values -/
theorem evE_lc {Φ : Phi} {pl : List Nat} {e : CE} {i : Nat} {it : CI} {cs : CTs} {ρ ρ1 : Env} {α : Type} {xs : List α} {mk g : α → D}
    (hI : evI Φ pl it ρ = .ok (xs.map mk, ρ1)) (hn : ρ1[i]? = some .no) (hp : i ∉ pl) (hl : xs.length ≤ big)
    (hc : ∀ ρ, evAll Φ pl cs ρ = .ok (true, ρ)) (h : ∀ x ∈ xs, evE Φ pl e (ρ1.set i (.ow (.sh (mk x)))) = .ok (.sh (g x), ρ1.set i (.ow (.sh (mk x))))) :
    evE Φ pl (.lc e (.one i) it cs) ρ = .ok (.lst (xs.map fun x => .sh (g x)), backI it ρ ρ1) := by
  have lc := lcL_map (cond := fun ρ => evAll Φ pl cs ρ) (elt := fun ρ => evE Φ pl e ρ) (pl := pl) hn hp xs hl hc h
  rw [evE, hI]
  simp only [CH.R.bind]
  rw [if_pos (quiet_one hn), wipe_one hn, lc]
  simp only
  rw [backE_same]
/-- all( .. ) over one -/
theorem evE_all {Φ : Phi} {pl : List Nat} {e : CE} {i : Nat} {it : CI} {cs : CTs} {ρ ρ1 : Env} {α : Type} {xs : List α} {mk : α → D} {f : α → Bool}
    (hI : evI Φ pl it ρ = .ok (xs.map mk, ρ1)) (hn : ρ1[i]? = some .no) (hp : i ∉ pl) (hl : xs.length ≤ big)
    (hc : ∀ ρ, evAll Φ pl cs ρ = .ok (true, ρ)) (h : ∀ x ∈ xs, evE Φ pl e (ρ1.set i (.ow (.sh (mk x)))) = .ok (.sh (.bl (f x)), ρ1.set i (.ow (.sh (mk x))))) :
    evE Φ pl (.op (.bi .all) (.cons (.e (.lc e (.one i) it cs)) .nil)) ρ = .ok (.sh (.bl (xs.all f)), backI it ρ ρ1) := by
  have lc := evE_lc (g := fun x => .bl (f x)) hI hn hp hl hc h
  rw [evE, evOs, lc]
  simp only [CH.R.bind, evOs]
  rw [ev_all]
theorem evE_ret {Φ : Phi} {pl : List Nat} {e : CE} {ρ ρ1 : Env} {t : OT} (h : evE Φ pl e ρ = .ok (t, ρ1)) : evS Φ pl (.ret e) ρ = .ok (.rt t, ρ1) := by
  rw [evS, h]; rfl
theorem evS_set {Φ : Phi} {pl : List Nat} {i : Nat} {e : CE} {ρ ρ1 : Env} {t u : OT} (h : evE Φ pl e ρ = .ok (t, ρ1)) (hi : ρ1[i]? = some .no ∨ ρ1[i]? = some (.ow u)) (hp : pl.contains i = false) : evS Φ pl (.set i e) ρ = .ok (.nx, ρ1.set i (.ow t)) := by
  rw [evS, h]
  simp only [CH.R.bind]
  rcases hi with hi | hi <;> rw [hi] <;> simp only [hp] <;> rfl
theorem range_val {Φ : Phi} {pl : List Nat} {a b : CE} {ρ ρ1 ρ2 : Env} {i j : Int} (h1 : evE Φ pl a ρ = .ok (.sh (.int i), ρ1)) (h2 : evE Φ pl b ρ1 = .ok (.sh (.int j), ρ2)) (hb : -4611686018427387904 ≤ i ∧ i < 4611686018427387904 ∧ -4611686018427387904 ≤ j ∧ j < 4611686018427387904) : evI Φ pl (.rng2 a b) ρ = .ok ((List.range (j - i).toNat).map fun k => .int (i + (k : Nat)), ρ2) := by
  rw [evI, h1]
  show (evE Φ pl b ρ1).bind _ = _
  rw [h2]
  exact if_pos hb
theorem range1_val {Φ : Phi} {pl : List Nat} {b : CE} {ρ ρ2 : Env} {j : Int} (h2 : evE Φ pl b ρ = .ok (.sh (.int j), ρ2)) (hb : -4611686018427387904 ≤ j ∧ j < 4611686018427387904) : evI Φ pl (.rng1 b) ρ = .ok ((List.range j.toNat).map fun k => .int (k : Nat), ρ2) := by
  rw [evI, h2]
  exact if_pos hb
theorem evE_op1 {Φ : Phi} {pl : List Nat} {o : Op} {e : CE} {ρ ρ1 : Env} {t u : OT} (h : evE Φ pl e ρ = .ok (t, ρ1)) (ho : o.ev [t] = some u) : evE Φ pl (.op o (.cons (.e e) .nil)) ρ = .ok (u, ρ1) := by
  rw [evE, evOs, h]
  simp only [CH.R.bind, evOs]
  rw [ho]
theorem evE_op2 {Φ : Phi} {pl : List Nat} {o : Op} {e e' : CE} {ρ ρ1 ρ2 : Env} {t t' u : OT} (h : evE Φ pl e ρ = .ok (t, ρ1)) (h' : evE Φ pl e' ρ1 = .ok (t', ρ2)) (ho : o.ev [t, t'] = some u) : evE Φ pl (.op o (.cons (.e e) (.cons (.e e') .nil))) ρ = .ok (u, ρ2) := by
  rw [evE, evOs, h]
  simp only [CH.R.bind]
  rw [evOs, h']
  simp only [CH.R.bind, evOs]
  rw [ho]
theorem lcL_acc {α : Type} {cond : Env → R (Bool × Env)} {elt : Env → R (OT × Env)} {pl : List Nat} {i : Nat} {ρ : Env} {mk g : α → D} (hi : ρ[i]? = some .no) (hp : i ∉ pl) :
    ∀ (xs : List α) (acc : List OT), acc.length + xs.length ≤ big → (∀ ρ, cond ρ = .ok (true, ρ)) → (∀ x ∈ xs, elt (ρ.set i (.ow (.sh (mk x)))) = .ok (.sh (g x), ρ.set i (.ow (.sh (mk x))))) → lcL cond elt pl (.one i) (xs.map mk) acc ρ = .ok (acc ++ xs.map fun x => .sh (g x), ρ)
  | [], acc, _, _, _ => by simp [lcL, lcG]
  | x :: xs, acc, hl, hc, h => by
    have s1 : setTg pl (.one i) (mk x) ρ = some (ρ.set i (.ow (.sh (mk x)))) := by
      show set1 pl i (mk x) ρ = _
      unfold set1
      rw [hi]
      simp [hp]
    have w1 : wipeE (ρ.set i (.ow (.sh (mk x)))) (Tg.slots (.one i)) = ρ := by
      show (ρ.set i (.ow (.sh (mk x)))).set i .no = ρ
      rw [List.set_set, set_no hi]
    have ih := lcL_acc hi hp xs (acc ++ [.sh (g x)]) (by simp only [List.length_append, List.length_cons, List.length_nil] at hl ⊢; omega) hc fun y hy => h y (by simp [hy])
    rw [List.map_cons]
    unfold lcL at ih ⊢
    unfold lcG
    rw [s1]
    simp only
    rw [hc]
    simp only
    simp only [List.length_cons] at hl
    have : pushE elt acc (ρ.set i (.ow (.sh (mk x)))) = .ok (acc ++ [.sh (g x)], ρ.set i (.ow (.sh (mk x)))) := by
      unfold pushE
      rw [h x (by simp)]
      simp only
      rw [if_pos (by omega)]
    rw [this]
    simp only
    rw [w1, ih]
    simp
theorem inner_val {it : Env → R (List D × Env)} {bk : Env → Env → Env} {cond : Env → R (Bool × Env)} {elt : Env → R (OT × Env)} {pl : List Nat} {tg : Tg} {acc acc' : List OT} {ρ ρ1 ρ2 : Env} {ds : List D}
    (h1 : it ρ = .ok (ds, ρ1)) (hq : quietAll ρ1 tg.slots = true) (h2 : lcL cond elt pl tg ds acc (wipeE ρ1 tg.slots) = .ok (acc', ρ2)) : inner it bk cond elt pl tg acc ρ = .ok (acc', bk ρ ρ2) := by
  unfold inner
  rw [h1]
  simp only
  rw [if_pos hq, h2]
theorem run_ex {Φ : Phi} {fn : Fn} {ts us : List OT} {t : OT} (hl : ts.length = fn.np) (ho : ∀ ρ, outs fn.pl ρ 0 ts = some us) (h : ∃ ρ, evSs Φ fn.pl fn.body (ts.map .ow ++ List.replicate (fn.nv - fn.np) .no) = .ok (.rt t, ρ)) (hc : fn.cls = none := by rfl) : fn.run Φ ts = .ok (t, us) := by
  obtain ⟨ρ, h⟩ := h
  exact run_rt hl h (ho ρ) hc
theorem lcG_flat {α : Type} {cond : Env → R (Bool × Env)} {step : List OT → Env → R (List OT × Env)} {pl : List Nat} {tg : Tg} {vs : List Nat} {ρ : Env} {mk : α → D} {g : α → List OT} :
    ∀ (xs : List α) (acc : List OT), acc.length + (xs.flatMap g).length ≤ big → (∀ x ∈ xs, ∃ ρ1 ρ2, setTg pl tg (mk x) ρ = some ρ1 ∧ cond ρ1 = .ok (true, ρ1) ∧ (∀ acc, acc.length + (g x).length ≤ big → step acc ρ1 = .ok (acc ++ g x, ρ2)) ∧ wipeE ρ2 vs = ρ) →
      lcG cond step pl tg vs (xs.map mk) acc ρ = .ok (acc ++ xs.flatMap g, ρ)
  | [], acc, _, _ => by simp [lcG]
  | x :: xs, acc, hl, h => by
    obtain ⟨ρ1, ρ2, h1, h2, h3, h4⟩ := h x (by simp)
    simp only [List.flatMap_cons, List.length_append] at hl
    have ih := lcG_flat (cond := cond) (step := step) (pl := pl) (tg := tg) (vs := vs) (ρ := ρ) xs (acc ++ g x) (by simp only [List.length_append]; omega) fun y hy => h y (by simp [hy])
    rw [List.map_cons]
    unfold lcG
    rw [h1]
    simp only
    rw [h2]
    simp only
    rw [h3 acc (by omega)]
    simp only
    rw [h4, ih]
    simp
end CH
end
section
namespace CH
open PySem L2 Evl PyProof.Rows
mutual
/-- plain data nested at most n deep -/
def D.ok : Nat → D → Bool
  | _, .non => true
  | _, .bl _ => true
  | _, .int _ => true
  | _, .str s => PyData.strOk s
  | n + 1, .tup ds => oks n ds
  | n + 1, .lst ds => oks n ds
  | _, _ => false
def oks : Nat → List D → Bool
  | _, [] => true
  | n, d :: ds => d.ok n && oks n ds
end
mutual
theorem ok_toP : ∀ {n : Nat} {d : D}, d.ok n = true → ∃ p, d.toP = some p ∧ p.canLay0 = true ∧ p.depth ≤ n
  | _, .non, _ => ⟨_, rfl, rfl, Nat.zero_le _⟩
  | _, .bl _, _ => ⟨_, rfl, rfl, Nat.zero_le _⟩
  | _, .int _, _ => ⟨_, rfl, rfl, Nat.zero_le _⟩
  | _, .str s, h => ⟨_, rfl, by simpa [D.ok, PyData.canLay0] using h, Nat.zero_le _⟩
  | n + 1, .tup ds, h => by
    obtain ⟨ps, e, h1, h2⟩ := oks_toPs (n := n) (ds := ds) (by simpa [D.ok] using h)
    exact ⟨.tuple ps, by simp [D.toP, e], by simpa [PyData.canLay0] using h1, by simp only [PyData.depth]; omega⟩
  | n + 1, .lst ds, h => by
    obtain ⟨ps, e, h1, h2⟩ := oks_toPs (n := n) (ds := ds) (by simpa [D.ok] using h)
    exact ⟨.list ps, by simp [D.toP, e], by simpa [PyData.canLay0] using h1, by simp only [PyData.depth]; omega⟩
  | 0, .tup _, h => by simp [D.ok] at h
  | 0, .lst _, h => by simp [D.ok] at h
  | _, .flst _, h => by simp [D.ok] at h
  | _, .ty _, h => by simp [D.ok] at h
  | _, .fn _, h => by simp [D.ok] at h
  | _, .obj .., h => by simp [D.ok] at h
theorem oks_toPs : ∀ {n : Nat} {ds : List D}, oks n ds = true → ∃ ps, toPs ds = some ps ∧ PyData.canLayAll0 ps = true ∧ PyData.depthAll ps ≤ n
  | _, [], _ => ⟨[], rfl, rfl, Nat.zero_le _⟩
  | n, d :: ds, h => by
    have h := Bool.and_eq_true_iff.mp (by simpa [oks] using h)
    obtain ⟨p, e1, h1, h2⟩ := ok_toP h.1
    obtain ⟨ps, e3, h3, h4⟩ := oks_toPs h.2
    exact ⟨p :: ps, by simp [toPs, e1, e3], by simp [PyData.canLayAll0, h1, h3], by simp only [PyData.depthAll]; omega⟩
end
theorem shaped_of_ok {d : D} {p : PyData} {n : Nat} (h : d.ok n = true) (hn : n ≤ 64) (e : d.toP = some p) : SeqAt.shaped p = true := by
  obtain ⟨q, e1, h1, h2⟩ := ok_toP h
  rw [e] at e1
  cases e1
  show (p.canLay0 && decide (p.depth ≤ 64)) = true
  rw [h1, decide_eq_true (by omega)]; rfl
theorem eqD_ok {a b : D} {n : Nat} (ha : a.ok n = true) (hb : b.ok n = true) (hn : n ≤ 64) : eqD a b = some (eq1 a b) := by
  obtain ⟨p, e1, _⟩ := ok_toP ha
  obtain ⟨q, e2, _⟩ := ok_toP hb
  unfold eqD eq1
  rw [e1, e2]
  show (if (SeqAt.shaped p && SeqAt.shaped q) = true then some (PyData.eqv p q) else none) = _
  rw [shaped_of_ok ha hn e1, shaped_of_ok hb hn e2]; rfl
/-- rows, item by item -/
def eqs1 : List D → List D → Bool
  | [], [] => true
  | a :: as, b :: bs => eq1 a b && eqs1 as bs
  | _, _ => false
theorem eqs_ok {n : Nat} : ∀ {as bs : List D} {ps qs : List PyData}, toPs as = some ps → toPs bs = some qs → PyData.eqvAll ps qs = eqs1 as bs
  | [], [], _, _, h, k => by cases h; cases k; rfl
  | [], b :: bs, _, qs, h, k => by
    cases h
    obtain ⟨q, _, k⟩ := Option.bind_eq_some_iff.mp (show (b.toP.bind fun p => (toPs bs).map fun q => p :: q) = some qs from k)
    obtain ⟨qs', _, rfl⟩ := Option.map_eq_some_iff.mp k
    rfl
  | a :: as, [], ps, _, h, k => by
    cases k
    obtain ⟨q, _, h⟩ := Option.bind_eq_some_iff.mp (show (a.toP.bind fun p => (toPs as).map fun q => p :: q) = some ps from h)
    obtain ⟨qs', _, rfl⟩ := Option.map_eq_some_iff.mp h
    rfl
  | a :: as, b :: bs, ps, qs, h, k => by
    obtain ⟨p, h1, h⟩ := Option.bind_eq_some_iff.mp (show (a.toP.bind fun p => (toPs as).map fun q => p :: q) = some ps from h)
    obtain ⟨ps', h2, rfl⟩ := Option.map_eq_some_iff.mp h
    obtain ⟨q, k1, k⟩ := Option.bind_eq_some_iff.mp (show (b.toP.bind fun p => (toPs bs).map fun q => p :: q) = some qs from k)
    obtain ⟨qs', k2, rfl⟩ := Option.map_eq_some_iff.mp k
    simp only [PyData.eqvAll, eqs1, eqs_ok (n := n) h2 k2]
    unfold eq1
    rw [h1, k1]
theorem eq1_tup {n : Nat} {as bs : List D} (ha : oks n as = true) (hb : oks n bs = true) : eq1 (.tup as) (.tup bs) = eqs1 as bs := by
  obtain ⟨ps, e1, _⟩ := oks_toPs ha
  obtain ⟨qs, e2, _⟩ := oks_toPs hb
  unfold eq1
  simp only [D.toP, e1, e2, Option.map_some, PyData.eqv, eqs_ok (n := n) e1 e2]
theorem eq1_lst {n : Nat} {as bs : List D} (ha : oks n as = true) (hb : oks n bs = true) : eq1 (.lst as) (.lst bs) = eqs1 as bs := by
  obtain ⟨ps, e1, _⟩ := oks_toPs ha
  obtain ⟨qs, e2, _⟩ := oks_toPs hb
  unfold eq1
  simp only [D.toP, e1, e2, Option.map_some, PyData.eqv, eqs_ok (n := n) e1 e2]
theorem eq1_int (a b : Int) : eq1 (.int a) (.int b) = decide (a = b) := by
  show (a == b) = _
  exact (Bool.eq_iff_iff).mpr (by simp)
theorem oks_ints (n : Nat) : ∀ ns : List Int, oks n (ns.map .int) = true
  | [] => rfl
  | m :: ns => by simp [oks, D.ok, oks_ints n ns]
theorem oks_map {α : Type} {n : Nat} {f : α → D} (h : ∀ a, (f a).ok n = true) : ∀ xs : List α, oks n (xs.map f) = true
  | [] => rfl
  | x :: xs => by simp [oks, h x, oks_map h xs]
theorem eqs_ints : ∀ as bs : List Int, eqs1 (as.map .int) (bs.map .int) = decide (as = bs)
  | [], [] => rfl
  | [], _ :: _ => rfl
  | _ :: _, [] => rfl
  | a :: as, b :: bs => by
    simp only [List.map_cons, eqs1, eq1_int, eqs_ints as bs, List.cons.injEq, Bool.decide_and]
theorem eqs_len {as bs : List D} (h : as.length ≠ bs.length) : eqs1 as bs = false := by
  induction as generalizing bs with
  | nil => cases bs with
    | nil => exact absurd rfl h
    | cons => rfl
  | cons a as ih => cases bs with
    | nil => rfl
    | cons b bs =>
      rw [eqs1, ih (bs := bs) (fun e => h (by simp [e])), Bool.and_false]
theorem toDs_sh : ∀ ds : List D, toDs (ds.map .sh) = ds
  | [] => rfl
  | d :: ds => by show OT.toD (.sh d) :: toDs (ds.map .sh) = _; rw [toDs_sh ds]; rfl
/-- xs == [] of a list of data -/
theorem ev_eq_nil {n : Nat} {ds : List D} (h : oks n ds = true) (hn : n + 1 ≤ 64) : Op.ev (.cmp .eq) [.lst (ds.map .sh), .lst []] = some (.sh (.bl ds.isEmpty)) := by
  show (eqD (OT.toD (.lst (ds.map .sh))) (OT.toD (.lst []))).map _ = _
  rw [show OT.toD (.lst (ds.map .sh)) = .lst ds by unfold OT.toD; rw [toDs_sh], show OT.toD (.lst []) = .lst [] from rfl, eqD_ok (n := n + 1) (by simpa [D.ok] using h) (by simp [D.ok, oks]) hn, eq1_lst h rfl]
  cases ds <;> rfl
/-- x in a tuple, a list -/
theorem inD_tup {n : Nat} {x : D} {ds : List D} (hx : x.ok n = true) (hd : oks n ds = true) (hn : n + 1 ≤ 64) : inD x (.tup ds) = some (ds.any fun z => eq1 z x) := by
  obtain ⟨p, e1, _⟩ := ok_toP hx
  obtain ⟨qs, e2, hq⟩ := oks_toPs hd
  clear hq
  have sx := shaped_of_ok hx (by omega) e1
  have sd := shaped_of_ok (d := .tup ds) (n := n + 1) (by simpa [D.ok] using hd) hn (p := .tuple qs) (by simp [D.toP, e2])
  unfold inD
  rw [e1]
  simp only [D.toP, e2, Option.map_some, Option.bind_some, sx, sd, Bool.and_self, if_true]
  congr 1
  clear sd
  induction ds generalizing qs with
  | nil => cases e2; rfl
  | cons d ds ih =>
    obtain ⟨q, h1, h⟩ := Option.bind_eq_some_iff.mp (show (d.toP.bind fun p => (toPs ds).map fun q => p :: q) = some qs from e2)
    obtain ⟨qs', h2, rfl⟩ := Option.map_eq_some_iff.mp h
    simp only [List.any_cons]
    rw [ih (by simp [oks] at hd; exact hd.2) qs' h2]
    congr 1
    unfold eq1
    rw [h1, e1]
theorem inD_ints (x : Int) (ns : List Int) : inD (.int x) (.tup (ns.map .int)) = some (decide (x ∈ ns)) := by
  rw [inD_tup (n := 1) rfl (oks_ints 1 ns) (by decide), List.any_map]
  congr 1
  rw [Bool.eq_iff_iff]
  simp [eq1_int, Function.comp]
theorem ev_in_it (x : Int) (ns : List Int) : Op.ev (.cmp .in_) [.sh (.int x), .sh (.tup (ns.map .int))] = some (.sh (.bl (decide (x ∈ ns)))) := by
  show (inD (.int x) (.tup (ns.map .int))).map _ = _
  rw [inD_ints]; rfl

/-- a comprehension over one name with a test -/
theorem lcL_fm {α : Type} {cond : CH.Env → R (Bool × CH.Env)} {elt : CH.Env → R (OT × CH.Env)} {pl : List Nat} {i : Nat} {ρ : CH.Env} {mk g : α → D} {p : α → Bool} (hi : ρ[i]? = some .no) (hp : i ∉ pl) :
    ∀ (xs : List α) (acc : List OT), acc.length + xs.length ≤ big → (∀ x ∈ xs, cond (ρ.set i (.ow (.sh (mk x)))) = .ok (p x, ρ.set i (.ow (.sh (mk x)))) ∧ (p x = true → elt (ρ.set i (.ow (.sh (mk x)))) = .ok (.sh (g x), ρ.set i (.ow (.sh (mk x)))))) →
      lcL cond elt pl (.one i) (xs.map mk) acc ρ = .ok (acc ++ (xs.filter p).map fun x => .sh (g x), ρ)
  | [], acc, _, _ => by simp [lcL, lcG]
  | x :: xs, acc, hl, h => by
    have s1 : setTg pl (.one i) (mk x) ρ = some (ρ.set i (.ow (.sh (mk x)))) := by
      show set1 pl i (mk x) ρ = _
      unfold set1
      rw [hi]
      simp [hp]
    have w1 : wipeE (ρ.set i (.ow (.sh (mk x)))) (Tg.slots (.one i)) = ρ := by
      show (ρ.set i (.ow (.sh (mk x)))).set i .no = ρ
      rw [List.set_set, set_no hi]
    obtain ⟨h1, h2⟩ := h x (by simp)
    have ih := fun acc hl => lcL_fm (cond := cond) (elt := elt) hi hp xs acc hl fun y hy => h y (by simp [hy])
    simp only [List.length_cons] at hl
    rw [List.map_cons]
    unfold lcL at ih ⊢
    unfold lcG
    rw [s1]
    simp only
    rw [h1]
    cases hq : p x with
    | false =>
      simp only
      rw [w1, ih acc (by omega), List.filter_cons_of_neg (by simp [hq])]
    | true =>
      have : pushE elt acc (ρ.set i (.ow (.sh (mk x)))) = .ok (acc ++ [.sh (g x)], ρ.set i (.ow (.sh (mk x)))) := by
        unfold pushE
        rw [h2 hq]
        simp only
        rw [if_pos (by omega)]
      simp only
      rw [this]
      simp only
      rw [w1, ih _ (by simp; omega), List.filter_cons_of_pos hq]
      simp
theorem evE_lcf {Φ : Phi} {pl : List Nat} {e : CH.CE} {i : Nat} {it : CI} {cs : CTs} {ρ ρ1 : CH.Env} {α : Type} {xs : List α} {mk g : α → D} {p : α → Bool}
    (hI : evI Φ pl it ρ = .ok (xs.map mk, ρ1)) (hn : ρ1[i]? = some .no) (hp : i ∉ pl) (hl : xs.length ≤ big)
    (h : ∀ x ∈ xs, evAll Φ pl cs (ρ1.set i (.ow (.sh (mk x)))) = .ok (p x, ρ1.set i (.ow (.sh (mk x)))) ∧ (p x = true → evE Φ pl e (ρ1.set i (.ow (.sh (mk x)))) = .ok (.sh (g x), ρ1.set i (.ow (.sh (mk x)))))) :
    evE Φ pl (.lc e (.one i) it cs) ρ = .ok (.lst ((xs.filter p).map fun x => .sh (g x)), backI it ρ ρ1) := by
  have lc := lcL_fm (cond := fun ρ => evAll Φ pl cs ρ) (elt := fun ρ => evE Φ pl e ρ) (pl := pl) hn hp xs [] (by simpa using hl) h
  rw [evE, hI]
  simp only [CH.R.bind]
  rw [if_pos (quiet_one hn), wipe_one hn, lc]
  simp only
  rw [backE_same]
  simp
theorem cut_map {α β : Type} (f : α → β) (xs : List α) (lo hi : Option Int) : CH.cutD (xs.map f) lo hi = (CH.cutD xs lo hi).map f := by
  unfold CH.cutD; rw [List.length_map, List.map_take, List.map_drop]
mutual
/-- how heavy -/
def D.wt : D → Nat
  | .str s => s.length
  | .int _ => 40
  | .tup ds => wts ds
  | .lst ds => wts ds
  | _ => 1
def wts : List D → Nat
  | [] => 0
  | d :: ds => d.wt + 1 + wts ds
end
mutual
/-- numbers of at most twelve figures -/
def D.small : D → Bool
  | .int i => decide (i.natAbs < 1000000000000)
  | .tup ds => smalls ds
  | .lst ds => smalls ds
  | _ => true
def smalls : List D → Bool
  | [] => true
  | d :: ds => d.small && smalls ds
end
theorem log2_small {n : Nat} (h : n < 1000000000000) : n.log2 < 40 := by
  by_cases h0 : n = 0
  · subst h0; decide
  · exact (Nat.log2_lt h0).mpr (Nat.lt_of_lt_of_le h (by decide))
theorem short_int {i : Int} (h : i.natAbs < 1000000000000) : (PyData.shown (.int i)).length ≤ 13 := by
  show (Str.ofString (toString i)).length ≤ 13
  rw [PyProof.Rows.ofString_len]
  exact int_text_length_le10 (k := 12) (by decide) (by simpa using h)
mutual
theorem D.shows : ∀ {n : Nat} {d : D} {p : PyData}, d.ok n = true → d.small = true → d.toP = some p → p.showable = true ∧ p.leavesShort 13 = true ∧ p.weight ≤ d.wt
  | _, .non, _, _, _, e => by cases e; exact ⟨rfl, rfl, by simp [PyData.weight, D.wt]⟩
  | _, .bl b, _, _, _, e => by cases e; exact ⟨rfl, rfl, by simp [PyData.weight, D.wt]⟩
  | _, .int i, _, _, hs, e => by
    cases e
    have h : i.natAbs < 1000000000000 := by simpa [D.small] using hs
    exact ⟨by simp only [PyData.showable, decide_eq_true_eq]; have := log2_small h; omega, by simp only [PyData.leavesShort, decide_eq_true_eq]; exact short_int h, by
      have := log2_small h
      simp only [PyData.weight, D.wt]
      split <;> omega⟩
  | _, .str s, _, ho, _, e => by
    cases e
    have ho : PyData.strOk s = true := by simpa [D.ok] using ho
    refine ⟨rfl, ?_, by simp [PyData.weight, D.wt]; exact Nat.le_refl _⟩
    simp only [PyData.leavesShort, List.all_eq_true, decide_eq_true_eq]
    intro c hc
    have : (s.cps.all (· < 0x110000)) = true := ho
    rw [Array.all_eq_true'] at this
    have := this c (by simpa using hc)
    have := of_decide_eq_true this
    exact Nat.lt_trans this (by decide)
  | 0, .tup _, _, h, _, _ => by simp [D.ok] at h
  | 0, .lst _, _, h, _, _ => by simp [D.ok] at h
  | n + 1, .tup ds, p, ho, hs, e => by
    obtain ⟨ps, e1, rfl⟩ := Option.map_eq_some_iff.mp (show (toPs ds).map PyData.tuple = some p from e)
    obtain ⟨h1, h2, h3⟩ := D.showsAll (n := n) (ds := ds) (by simpa [D.ok] using ho) (by simpa [D.small] using hs) e1
    exact ⟨by simpa [PyData.showable] using h1, by simpa [PyData.leavesShort] using h2, by simpa [PyData.weight, D.wt] using h3⟩
  | n + 1, .lst ds, p, ho, hs, e => by
    obtain ⟨ps, e1, rfl⟩ := Option.map_eq_some_iff.mp (show (toPs ds).map PyData.list = some p from e)
    obtain ⟨h1, h2, h3⟩ := D.showsAll (n := n) (ds := ds) (by simpa [D.ok] using ho) (by simpa [D.small] using hs) e1
    exact ⟨by simpa [PyData.showable] using h1, by simpa [PyData.leavesShort] using h2, by simpa [PyData.weight, D.wt] using h3⟩
  | _, .flst _, _, h, _, _ => by simp [D.ok] at h
  | _, .ty _, _, h, _, _ => by simp [D.ok] at h
  | _, .fn _, _, h, _, _ => by simp [D.ok] at h
  | _, .obj .., _, h, _, _ => by simp [D.ok] at h
theorem D.showsAll : ∀ {n : Nat} {ds : List D} {ps : List PyData}, oks n ds = true → smalls ds = true → toPs ds = some ps → PyData.showableAll ps = true ∧ PyData.leavesShortAll 13 ps = true ∧ PyData.weightAll ps ≤ wts ds
  | _, [], _, _, _, e => by cases e; exact ⟨rfl, rfl, Nat.le_refl _⟩
  | n, d :: ds, ps, ho, hs, e => by
    obtain ⟨q, k1, k⟩ := Option.bind_eq_some_iff.mp (show (d.toP.bind fun p => (toPs ds).map fun q => p :: q) = some ps from e)
    obtain ⟨qs', k2, rfl⟩ := Option.map_eq_some_iff.mp k
    have ho := Bool.and_eq_true_iff.mp (by simpa [oks] using ho)
    have hs := Bool.and_eq_true_iff.mp (by simpa [smalls] using hs)
    obtain ⟨a1, a2, a3⟩ := D.shows ho.1 hs.1 k1
    obtain ⟨b1, b2, b3⟩ := D.showsAll ho.2 hs.2 k2
    exact ⟨by simp [PyData.showableAll, a1, b1], by simp [PyData.leavesShortAll, a2, b2], by simp only [PyData.weightAll, wts]; omega⟩
end
/-- the text that repr gives a row of data -/
theorem repr_ok {d : D} {n : Nat} (ho : d.ok n = true) (hn : n ≤ 64) (hs : d.small = true) (hw : d.wt ≤ 1048576) (hr : d.isRow = true) : ∃ z, ∀ t : OT, t.toD = d → Op.ev (.bi .repr) [t] = some (.sh (.str z)) := by
  obtain ⟨p, e, h1, h2⟩ := ok_toP ho
  obtain ⟨a1, a2, a3⟩ := D.shows ho hs e
  have hz := PyData.shown_fits (by decide) (by decide) a2 (by rw [show 2 ^ 20 = 1048576 from rfl]; omega)
  rw [← line] at hz
  refine ⟨p.shown, fun t ht => ?_⟩
  show reprEv t = _
  unfold reprEv
  rw [ht, if_pos hr, e]
  show guard_ (SeqAt.shaped p && p.showable && decide (p.shown.length ≤ big)) _ = _
  rw [shaped_of_ok ho hn e, a1, decide_eq_true hz]; rfl
theorem ev_ne_ss (a : Str) : Op.ev (.cmp .ne) [.sh (.str a), .sh (.str a)] = some (.sh (.bl false)) := by
  show some (OT.sh (D.bl (!(a == a)))) = _
  rw [beq_self_eq_true]; rfl
theorem ev_eq_ss (a : Str) : Op.ev (.cmp .eq) [.sh (.str a), .sh (.str a)] = some (.sh (.bl true)) := by
  show some (OT.sh (D.bl (a == a))) = _
  rw [beq_self_eq_true]
end CH
end
section
namespace K75
open PySem CH
def st0 : Stmt := PySem.Challenge.pw_clausehold_k75_ways_to_meet.main.body.getD 2 (.Pass ⟨0, 0, 0, 0⟩)
def q0_0 : CS := (.ret (.and (.cons (.op (.isi ["int"]) (.cons (.bor 0 []) .nil)) (.cons (.not (.op (.isi ["bool"]) (.cons (.bor 0 []) .nil))) .nil))))
def b0 : CSs := (.cons q0_0 .nil)
def f0 : Fn := ⟨1, 1, [], b0, none⟩
def e0 : Ent := ⟨"is_integer", st0, ["value"], ["value"], f0, .fn⟩
def st1 : Stmt := PySem.Challenge.pw_clausehold_k75_ways_to_meet.main.body.getD 3 (.Pass ⟨0, 0, 0, 0⟩)
def q1_0 : CS := (.ret (.and (.cons (.op (.isi ["tuple"]) (.cons (.bor 0 []) .nil)) (.cons (.op (.cmp .eq) (.cons (.e (.op (.bi .len) (.cons (.bor 0 []) .nil))) (.cons (.e (.c (.int 2))) .nil))) .nil))))
def b1 : CSs := (.cons q1_0 .nil)
def f1 : Fn := ⟨1, 1, [], b1, none⟩
def e1 : Ent := ⟨"is_pair", st1, ["value"], ["value"], f1, .fn⟩
def st2 : Stmt := PySem.Challenge.pw_clausehold_k75_ways_to_meet.main.body.getD 12 (.Pass ⟨0, 0, 0, 0⟩)
def p2_0 : CS := (.ife (.or (.cons (.not (.val (.e (.call 0 (.val (.v 3) .nil))))) (.cons (.not (.val (.e (.chain .lt .le (.v 2) (.op (.bi .abs) (.cons (.bor 3 []) .nil)) (.v 1))))) .nil))) (.cons (.ret (.c (.bl false))) .nil) .nil)
def p2_1 : CS := (.set 2 (.op (.bi .abs) (.cons (.bor 3 []) .nil)))
def p2_2 : CSs := (.cons p2_0 (.cons p2_1 .nil))
def q2_0 : CS := (.ife (.not (.val (.e (.op (.isi ["tuple"]) (.cons (.bor 0 []) .nil))))) (.cons (.ret (.c (.bl false))) .nil) .nil)
def q2_1 : CS := (.set 2 (.c (.int 0)))
def q2_2 : CS := (.for_ (.one 3) (.seq (.bor 0 [])) p2_2)
def q2_3 : CS := (.ret (.c (.bl true)))
def b2 : CSs := (.cons q2_0 (.cons q2_1 (.cons q2_2 (.cons q2_3 .nil))))
def f2 : Fn := ⟨2, 4, [], b2, none⟩
def e2 : Ent := ⟨"is_clause", st2, ["value", "n", "ahead", "literal"], ["value", "n"], f2, .fn⟩
def st3 : Stmt := PySem.Challenge.pw_clausehold_k75_ways_to_meet.main.body.getD 14 (.Pass ⟨0, 0, 0, 0⟩)
def p3_0 : CE := (.lst .nil)
def p3_1 : CTs := .nil
def p3_2 : CSs := (.cons (.ex (.apX 1 (.ite (.val (.bor 2 [])) (.op (.bi .abs) (.cons (.e (.op .idx (.cons (.bor 2 []) (.cons (.e (.op .neg (.cons (.e (.c (.int 1))) .nil))) .nil)))) .nil)) (.c (.int 0))) (.v 2))) .nil)
def q3_0 : CS := (.set 1 (.lc p3_0 (.one 3) (.rng1 (.op (.bin .add) (.cons (.e (.op (.fld "n") (.cons (.bor 0 []) .nil))) (.cons (.e (.c (.int 1))) .nil)))) p3_1))
def q3_1 : CS := (.for_ (.one 2) (.seq (.e (.op (.fld "clauses") (.cons (.bor 0 []) .nil)))) p3_2)
def q3_2 : CS := (.frz 1)
def q3_3 : CS := (.ret (.take 1))
def b3 : CSs := (.cons q3_0 (.cons q3_1 (.cons q3_2 (.cons q3_3 .nil))))
def f3 : Fn := ⟨1, 4, [], b3, none⟩
def e3 : Ent := ⟨"_closing", st3, ["formula", "found", "clause", "_"], ["formula"], f3, .fn⟩
def st4 : Stmt := PySem.Challenge.pw_clausehold_k75_ways_to_meet.main.body.getD 15 (.Pass ⟨0, 0, 0, 0⟩)
def p4_0 : CE := (.op (.bin .add) (.cons (.bor 5 []) (.cons (.e (.tup (.cons (.v 6) .nil))) .nil)))
def p4_1 : CTs := .nil
def p4_2 : CI := (.seq (.e (.tup (.cons (.v 3) (.cons (.op .neg (.cons (.bor 3 []) .nil)) .nil)))))
def p4_3 : CTs := .nil
def p4_4 : CS := (.set 4 (.lc2 p4_0 (.one 5) (.seq (.bor 2 [])) p4_1 (.one 6) p4_2 p4_3))
def p4_5 : CE := (.v 5)
def p4_6 : CE := (.op (.cmp .in_) (.cons (.bor 8 []) (.cons (.bor 5 []) .nil)))
def p4_7 : CTs := .nil
def p4_8 : CE := (.op (.bi .any) (.cons (.e (.lc p4_6 (.one 8) (.seq (.bor 7 [])) p4_7)) .nil))
def p4_9 : CTs := .nil
def p4_10 : CTs := (.cons (.val (.e (.op (.bi .all) (.cons (.e (.lc p4_8 (.one 7) (.seq (.e (.op .idx (.cons (.bor 1 []) (.cons (.bor 3 []) .nil))))) p4_9)) .nil)))) .nil)
def p4_11 : CS := (.set 2 (.lc p4_5 (.one 5) (.seq (.bor 4 [])) p4_10))
def p4_12 : CSs := (.cons p4_4 (.cons p4_11 .nil))
def q4_0 : CS := (.set 1 (.call 3 (.val (.v 0) .nil)))
def q4_1 : CS := (.set 2 (.ite (.val (.e (.op .idx (.cons (.bor 1 []) (.cons (.e (.c (.int 0))) .nil))))) (.lst .nil) (.lst (.cons (.tup .nil) .nil))))
def q4_2 : CS := (.for_ (.one 3) (.rng2 (.c (.int 1)) (.op (.bin .add) (.cons (.e (.op (.fld "n") (.cons (.bor 0 []) .nil))) (.cons (.e (.c (.int 1))) .nil)))) p4_12)
def q4_3 : CS := (.ret (.op (.bi .tuple) (.cons (.bor 2 []) .nil)))
def b4 : CSs := (.cons q4_0 (.cons q4_1 (.cons q4_2 (.cons q4_3 .nil))))
def f4 : Fn := ⟨1, 9, [], b4, none⟩
def e4 : Ent := ⟨"models", st4, ["formula", "closing", "rows", "v", "longer", "row", "literal", "clause", "one"], ["formula"], f4, .fn⟩
def st5 : Stmt := PySem.Challenge.pw_clausehold_k75_ways_to_meet.main.body.getD 22 (.Pass ⟨0, 0, 0, 0⟩)
def p5_0 : CE := (.call 0 (.val (.v 3) .nil))
def p5_1 : CTs := .nil
def p5_2 : CE := (.op (.cmp .lt) (.cons (.e (.op .idx (.cons (.bor 1 []) (.cons (.e (.op (.bin .sub) (.cons (.bor 2 []) (.cons (.e (.c (.int 1))) .nil)))) .nil)))) (.cons (.e (.op .idx (.cons (.bor 1 []) (.cons (.bor 2 []) .nil)))) .nil)))
def p5_3 : CTs := .nil
def q5_0 : CS := (.ife (.or (.cons (.not (.val (.e (.call 1 (.val (.v 0) .nil))))) (.cons (.not (.val (.e (.op (.isi ["str"]) (.cons (.e (.op .idx (.cons (.bor 0 []) (.cons (.e (.c (.int 0))) .nil)))) .nil))))) (.cons (.val (.e (.op (.cmp .notin) (.cons (.e (.op .idx (.cons (.bor 0 []) (.cons (.e (.c (.int 0))) .nil)))) (.cons (.e (.tup (.cons (.c (.str "each")) (.cons (.c (.str "some")) .nil)))) .nil))))) .nil)))) (.cons (.ret (.c (.bl false))) .nil) .nil)
def q5_1 : CS := (.set 1 (.op .idx (.cons (.bor 0 []) (.cons (.e (.c (.int 1))) .nil))))
def q5_2 : CS := (.ife (.or (.cons (.not (.val (.e (.op (.isi ["tuple"]) (.cons (.bor 1 []) .nil))))) (.cons (.val (.e (.op (.cmp .eq) (.cons (.e (.op (.bi .len) (.cons (.bor 1 []) .nil))) (.cons (.e (.c (.int 0))) .nil))))) (.cons (.not (.val (.e (.op (.bi .all) (.cons (.e (.lc p5_0 (.one 3) (.seq (.bor 1 [])) p5_1)) .nil))))) .nil)))) (.cons (.ret (.c (.bl false))) .nil) .nil)
def q5_3 : CS := (.ret (.op (.bi .all) (.cons (.e (.lc p5_2 (.one 2) (.rng2 (.c (.int 1)) (.op (.bi .len) (.cons (.bor 1 []) .nil))) p5_3)) .nil)))
def b5 : CSs := (.cons q5_0 (.cons q5_1 (.cons q5_2 (.cons q5_3 .nil))))
def f5 : Fn := ⟨1, 4, [], b5, none⟩
def e5 : Ent := ⟨"is_group", st5, ["value", "row", "at", "v"], ["value"], f5, .fn⟩
def st6 : Stmt := PySem.Challenge.pw_clausehold_k75_ways_to_meet.main.body.getD 23 (.Pass ⟨0, 0, 0, 0⟩)
def p6_0 : CE := (.call 5 (.val (.v 3) .nil))
def p6_1 : CTs := .nil
def p6_2 : CE := (.v 2)
def p6_3 : CTs := .nil
def p6_4 : CI := (.seq (.bor 5 []))
def p6_5 : CTs := .nil
def q6_0 : CS := (.ife (.or (.cons (.not (.val (.e (.op (.isi ["tuple"]) (.cons (.bor 0 []) .nil))))) (.cons (.not (.val (.e (.op (.bi .all) (.cons (.e (.lc p6_0 (.one 3) (.seq (.bor 0 [])) p6_1)) .nil))))) .nil))) (.cons (.ret (.c (.bl false))) .nil) .nil)
def q6_1 : CS := (.ret (.op (.cmp .eq) (.cons (.e (.op (.bi .sorted) (.cons (.e (.lc2 p6_2 (.tup [4, 5]) (.seq (.bor 0 [])) p6_3 (.one 2) p6_4 p6_5)) .nil))) (.cons (.e (.op (.rng 2 false) (.cons (.e (.c (.int 1))) (.cons (.e (.op (.bin .add) (.cons (.bor 1 []) (.cons (.e (.c (.int 1))) .nil)))) .nil)))) .nil))))
def b6 : CSs := (.cons q6_0 (.cons q6_1 .nil))
def f6 : Fn := ⟨2, 6, [], b6, none⟩
def e6 : Ent := ⟨"is_prefix", st6, ["value", "n", "v", "group", "_", "row"], ["value", "n"], f6, .fn⟩
def st7 : Stmt := PySem.Challenge.pw_clausehold_k75_ways_to_meet.main.body.getD 24 (.Pass ⟨0, 0, 0, 0⟩)
def q7_0 : CS := (.ife (.not (.val (.e (.call 6 (.val (.v 1) (.val (.op (.fld "n") (.cons (.bor 0 []) .nil)) .nil)))))) (.cons (.raise 3 1 (.cons (.v 1) .nil)) .nil) .nil)
def b7 : CSs := (.cons q7_0 .nil)
def f7 : Fn := ⟨2, 2, [], b7, none⟩
def e7 : Ent := ⟨"need_prefix", st7, ["formula", "prefix"], ["formula", "prefix"], f7, .fn⟩
def st8 : Stmt := PySem.Challenge.pw_clausehold_k75_ways_to_meet.main.body.getD 25 (.Pass ⟨0, 0, 0, 0⟩)
def p8_0 : CE := (.op (.bin .mul) (.cons (.e (.op .idx (.cons (.bor 0 []) (.cons (.e (.op (.bin .sub) (.cons (.e (.op (.bi .abs) (.cons (.bor 2 []) .nil))) (.cons (.e (.c (.int 1))) .nil)))) .nil)))) (.cons (.e (.ite (.val (.e (.op (.cmp .gt) (.cons (.bor 2 []) (.cons (.e (.c (.int 0))) .nil))))) (.c (.int 1)) (.op .neg (.cons (.e (.c (.int 1))) .nil)))) .nil)))
def p8_1 : CTs := .nil
def p8_2 : CE := (.op (.bi .tuple) (.cons (.e (.lc p8_0 (.one 2) (.seq (.bor 1 [])) p8_1)) .nil))
def p8_3 : CTs := .nil
def q8_0 : CS := (.ret (.lc p8_2 (.one 1) (.seq (.e (.call 4 (.val (.fz (.call 23 (.val (.op (.bi .len) (.cons (.bor 0 []) .nil)) (.val (.tup .nil) .nil)))) .nil)))) p8_3))
def b8 : CSs := (.cons q8_0 .nil)
def f8 : Fn := ⟨1, 3, [], b8, none⟩
def e8 : Ent := ⟨"rows_over", st8, ["variables", "model", "literal"], ["variables"], f8, .fn⟩
def st9 : Stmt := PySem.Challenge.pw_clausehold_k75_ways_to_meet.main.body.getD 26 (.Pass ⟨0, 0, 0, 0⟩)
def p9_0 : CS := (.set 4 (.op (.bin .add) (.cons (.bor 1 []) (.cons (.bor 3 []) .nil))))
def p9_1 : CE := (.op (.cmp .in_) (.cons (.bor 6 []) (.cons (.bor 4 []) .nil)))
def p9_2 : CTs := .nil
def p9_3 : CE := (.op (.bi .any) (.cons (.e (.lc p9_1 (.one 6) (.seq (.bor 5 [])) p9_2)) .nil))
def p9_4 : CTs := .nil
def p9_5 : CS := (.ife (.val (.e (.op (.bi .all) (.cons (.e (.lc p9_3 (.one 5) (.seq (.e (.op (.fld "clauses") (.cons (.bor 0 []) .nil)))) p9_4)) .nil)))) (.cons (.ret (.v 3)) .nil) .nil)
def p9_6 : CSs := (.cons p9_0 (.cons p9_5 .nil))
def q9_0 : CS := (.for_ (.one 3) (.seq (.bor 2 [])) p9_6)
def q9_1 : CS := (.ret (.c .non))
def b9 : CSs := (.cons q9_0 (.cons q9_1 .nil))
def f9 : Fn := ⟨3, 7, [], b9, none⟩
def e9 : Ent := ⟨"answer_to", st9, ["formula", "row", "answers", "answer", "there", "clause", "literal"], ["formula", "row", "answers"], f9, .fn⟩
def st10 : Stmt := PySem.Challenge.pw_clausehold_k75_ways_to_meet.main.body.getD 27 (.Pass ⟨0, 0, 0, 0⟩)
def p10_0 : CE := (.v 4)
def p10_1 : CTs := .nil
def p10_2 : CE := (.tup (.cons (.v 3) (.cons (.call 9 (.val (.v 0) (.val (.v 3) (.val (.mv 2) .nil)))) .nil)))
def p10_3 : CTs := .nil
def q10_0 : CS := (.ex (.call 7 (.val (.v 0) (.val (.v 1) .nil))))
def q10_1 : CS := (.ife (.val (.e (.op (.cmp .ne) (.cons (.e (.lc p10_0 (.tup [4, 5]) (.seq (.bor 1 [])) p10_1)) (.cons (.e (.lst (.cons (.c (.str "each")) (.cons (.c (.str "some")) .nil)))) .nil))))) (.cons (.raise 4 1 (.cons (.c (.str "prefix")) .nil)) .nil) .nil)
def q10_2 : CS := (.set 2 (.call 8 (.val (.op .idx (.cons (.e (.op .idx (.cons (.bor 1 []) (.cons (.e (.c (.int 1))) .nil)))) (.cons (.e (.c (.int 1))) .nil))) .nil)))
def q10_3 : CS := (.frz 2)
def q10_4 : CS := (.ret (.op (.bi .tuple) (.cons (.e (.lc p10_2 (.one 3) (.seq (.e (.call 8 (.val (.op .idx (.cons (.e (.op .idx (.cons (.bor 1 []) (.cons (.e (.c (.int 0))) .nil)))) (.cons (.e (.c (.int 1))) .nil))) .nil)))) p10_3)) .nil)))
def b10 : CSs := (.cons q10_0 (.cons q10_1 (.cons q10_2 (.cons q10_3 (.cons q10_4 .nil)))))
def f10 : Fn := ⟨2, 6, [], b10, none⟩
def e10 : Ent := ⟨"ways_to_meet", st10, ["formula", "prefix", "answers", "row", "word", "_"], ["formula", "prefix"], f10, .fn⟩
def st11 : Stmt := PySem.Challenge.pw_clausehold_k75_ways_to_meet.main.body.getD 29 (.Pass ⟨0, 0, 0, 0⟩)
def p11_0 : CSs := (.cons (.set 2 (.op (.bin .mod) (.cons (.e (.op (.bi .int) (.cons (.e (.op (.bin .add) (.cons (.e (.op (.bin .mul) (.cons (.bor 2 []) (.cons (.e (.c (.int 1009))) .nil)))) (.cons (.bor 3 []) .nil)))) .nil))) (.cons (.e (.c (.int 999983))) .nil)))) .nil)
def q11_0 : CS := (.ife (.val (.e (.op (.cmp .lt) (.cons (.bor 1 []) (.cons (.e (.op (.bi .len) (.cons (.bor 0 []) .nil))) .nil))))) (.cons (.ret (.op .idx (.cons (.bor 0 []) (.cons (.bor 1 []) .nil)))) .nil) .nil)
def q11_1 : CS := (.set 2 (.c (.int 17)))
def q11_2 : CS := (.for_ (.one 3) (.seq (.e (.slc (.bor 0 []) .no (.at (.c (.int 3)))))) p11_0)
def q11_3 : CS := (.ret (.op (.bin .add) (.cons (.e (.op (.bin .mul) (.cons (.bor 2 []) (.cons (.e (.c (.int 64))) .nil)))) (.cons (.bor 1 []) .nil))))
def b11 : CSs := (.cons q11_0 (.cons q11_1 (.cons q11_2 (.cons q11_3 .nil))))
def f11 : Fn := ⟨2, 4, [], b11, none⟩
def e11 : Ent := ⟨"_law_cell", st11, ["_law_script", "_law_k", "_law_rest", "_law_number"], ["_law_script", "_law_k"], f11, .fn⟩
def st12 : Stmt := PySem.Challenge.pw_clausehold_k75_ways_to_meet.main.body.getD 30 (.Pass ⟨0, 0, 0, 0⟩)
def p12_0 : CS := (.ex (.mu .append 4 [] (.cons (.op (.bin .mod) (.cons (.e (.op (.bi .int) (.cons (.bor 2 []) .nil))) (.cons (.e (.op .idx (.cons (.bor 1 []) (.cons (.bor 5 []) .nil)))) .nil))) .nil)))
def p12_1 : CS := (.set 2 (.op (.bin .fdiv) (.cons (.bor 2 []) (.cons (.e (.op .idx (.cons (.bor 1 []) (.cons (.bor 5 []) .nil)))) .nil))))
def p12_2 : CS := (.set 6 (.op (.bin .mod) (.cons (.e (.op (.bi .int) (.cons (.e (.op (.bin .add) (.cons (.e (.op (.bin .mul) (.cons (.bor 2 []) (.cons (.e (.c (.int 48271))) .nil)))) (.cons (.e (.op (.bin .mul) (.cons (.e (.op (.bin .add) (.cons (.bor 5 []) (.cons (.e (.c (.int 1))) .nil)))) (.cons (.e (.c (.int 69621))) .nil)))) .nil)))) .nil))) (.cons (.e (.c (.int 2147483647))) .nil))))
def p12_3 : CS := (.set 6 (.op (.bin .mod) (.cons (.e (.op (.bi .int) (.cons (.e (.op (.bin .add) (.cons (.e (.op (.bin .mul) (.cons (.bor 6 []) (.cons (.e (.c (.int 40692))) .nil)))) (.cons (.e (.op (.bin .mul) (.cons (.e (.op (.bin .fdiv) (.cons (.bor 6 []) (.cons (.e (.c (.int 3791))) .nil)))) (.cons (.e (.op (.bin .add) (.cons (.bor 5 []) (.cons (.e (.c (.int 5))) .nil)))) .nil)))) .nil)))) .nil))) (.cons (.e (.c (.int 2147483399))) .nil))))
def p12_4 : CS := (.ex (.mu .append 4 [] (.cons (.op (.bin .mod) (.cons (.e (.op (.bi .int) (.cons (.e (.op (.bin .fdiv) (.cons (.bor 6 []) (.cons (.e (.c (.int 7))) .nil)))) .nil))) (.cons (.e (.op .idx (.cons (.bor 1 []) (.cons (.bor 5 []) .nil)))) .nil))) .nil)))
def p12_5 : CSs := (.cons (.ife (.val (.bor 3 [])) (.cons p12_0 (.cons p12_1 .nil)) (.cons p12_2 (.cons p12_3 (.cons p12_4 .nil)))) .nil)
def q12_0 : CS := (.set 2 (.op (.bi .abs) (.cons (.bor 0 []) .nil)))
def q12_1 : CS := (.set 3 (.op (.cmp .ge) (.cons (.bor 2 []) (.cons (.e (.op (.bin .pow) (.cons (.e (.c (.int 10))) (.cons (.e (.c (.int 18))) .nil)))) .nil))))
def q12_2 : CS := (.ife (.val (.bor 3 [])) (.cons (.set 2 (.op (.bin .sub) (.cons (.bor 2 []) (.cons (.e (.op (.bin .pow) (.cons (.e (.c (.int 10))) (.cons (.e (.c (.int 18))) .nil)))) .nil)))) .nil) (.cons (.ife (.val (.e (.op (.cmp .lt) (.cons (.bor 0 []) (.cons (.e (.c (.int 0))) .nil))))) (.cons (.set 2 (.op (.bin .add) (.cons (.bor 2 []) (.cons (.e (.c (.int 500009))) .nil)))) .nil) .nil) .nil))
def q12_3 : CS := (.set 4 (.lst .nil))
def q12_4 : CS := (.for_ (.one 5) (.rng1 (.op (.bi .len) (.cons (.bor 1 []) .nil))) p12_5)
def q12_5 : CS := (.ret (.take 4))
def b12 : CSs := (.cons q12_0 (.cons q12_1 (.cons q12_2 (.cons q12_3 (.cons q12_4 (.cons q12_5 .nil))))))
def f12 : Fn := ⟨2, 7, [], b12, none⟩
def e12 : Ent := ⟨"_law_draws", st12, ["_law_cell_here", "_law_limits", "_law_rest", "_law_great", "_law_found", "_law_k", "_law_mixed"], ["_law_cell_here", "_law_limits"], f12, .fn⟩
def st13 : Stmt := PySem.Challenge.pw_clausehold_k75_ways_to_meet.main.body.getD 31 (.Pass ⟨0, 0, 0, 0⟩)
def q13_0 : CS := (.ret (.op (.bin .add) (.cons (.e (.op (.bin .mul) (.cons (.e (.c (.int 2))) (.cons (.e (.op (.bi .abs) (.cons (.bor 0 []) .nil))) .nil)))) (.cons (.e (.op (.bi .int) (.cons (.e (.op (.cmp .lt) (.cons (.bor 0 []) (.cons (.e (.c (.int 0))) .nil)))) .nil))) .nil))))
def b13 : CSs := (.cons q13_0 .nil)
def f13 : Fn := ⟨1, 1, [], b13, none⟩
def e13 : Ent := ⟨"_law_key", st13, ["_law_literal"], ["_law_literal"], f13, .fn⟩
def st14 : Stmt := PySem.Challenge.pw_clausehold_k75_ways_to_meet.main.body.getD 32 (.Pass ⟨0, 0, 0, 0⟩)
def p14_0 : CE := (.v 3)
def p14_1 : CTs := (.cons (.val (.e (.op (.cmp .lt) (.cons (.e (.call 13 (.val (.v 3) .nil))) (.cons (.e (.call 13 (.val (.v 2) .nil))) .nil))))) .nil)
def p14_2 : CSs := (.cons (.ife (.val (.e (.op (.cmp .notin) (.cons (.bor 2 []) (.cons (.bor 1 []) .nil))))) (.cons (.ex (.mu .insert 1 [] (.cons (.op (.bi .len) (.cons (.e (.lc p14_0 (.one 3) (.seq (.bor 1 [])) p14_1)) .nil)) (.cons (.v 2) .nil)))) .nil) .nil) .nil)
def q14_0 : CS := (.set 1 (.lst .nil))
def q14_1 : CS := (.for_ (.one 2) (.seq (.bor 0 [])) p14_2)
def q14_2 : CS := (.ret (.op (.bi .tuple) (.cons (.bor 1 []) .nil)))
def b14 : CSs := (.cons q14_0 (.cons q14_1 (.cons q14_2 .nil)))
def f14 : Fn := ⟨1, 4, [], b14, none⟩
def e14 : Ent := ⟨"_law_sorted", st14, ["_law_literals", "_law_found", "_law_literal", "_law_one"], ["_law_literals"], f14, .fn⟩
def st15 : Stmt := PySem.Challenge.pw_clausehold_k75_ways_to_meet.main.body.getD 33 (.Pass ⟨0, 0, 0, 0⟩)
def p15_0 : CSs := (.cons (.ife (.val (.e (.op (.cmp .ge) (.cons (.e (.op .idx (.cons (.bor 2 []) (.cons (.e (.op (.bin .sub) (.cons (.bor 5 []) (.cons (.e (.c (.int 1))) .nil)))) .nil)))) (.cons (.bor 3 []) .nil))))) (.cons (.ex (.mu .append 4 [] (.cons (.op .idx (.cons (.e (.lst (.cons (.v 5) (.cons (.op .neg (.cons (.bor 5 []) .nil)) .nil)))) (.cons (.e (.op (.bin .mod) (.cons (.e (.op (.bi .int) (.cons (.e (.op .idx (.cons (.bor 2 []) (.cons (.e (.op (.bin .sub) (.cons (.bor 5 []) (.cons (.e (.c (.int 1))) .nil)))) .nil)))) .nil))) (.cons (.e (.c (.int 2))) .nil)))) .nil))) .nil))) .nil) .nil) .nil)
def q15_0 : CS := (.set 2 (.call 12 (.val (.v 0) (.val (.op (.bin .add) (.cons (.e (.op (.bin .mul) (.cons (.e (.lst (.cons (.c (.int 7)) .nil))) (.cons (.bor 1 []) .nil)))) (.cons (.e (.lst (.cons (.c (.int 12)) .nil))) .nil))) .nil))))
def q15_1 : CS := (.set 3 (.op .idx (.cons (.e (.lst (.cons (.c (.int 3)) (.cons (.c (.int 2)) (.cons (.c (.int 4)) .nil))))) (.cons (.e (.op (.bin .add) (.cons (.e (.op (.bi .int) (.cons (.e (.op (.cmp .gt) (.cons (.e (.op .idx (.cons (.bor 2 []) (.cons (.bor 1 []) .nil)))) (.cons (.e (.c (.int 2))) .nil)))) .nil))) (.cons (.e (.op (.bi .int) (.cons (.e (.op (.cmp .gt) (.cons (.e (.op .idx (.cons (.bor 2 []) (.cons (.bor 1 []) .nil)))) (.cons (.e (.c (.int 9))) .nil)))) .nil))) .nil)))) .nil))))
def q15_2 : CS := (.set 4 (.lst .nil))
def q15_3 : CS := (.for_ (.one 5) (.rng2 (.c (.int 1)) (.op (.bin .add) (.cons (.bor 1 []) (.cons (.e (.c (.int 1))) .nil)))) p15_0)
def q15_4 : CS := (.ret (.op (.bi .tuple) (.cons (.bor 4 []) .nil)))
def b15 : CSs := (.cons q15_0 (.cons q15_1 (.cons q15_2 (.cons q15_3 (.cons q15_4 .nil)))))
def f15 : Fn := ⟨2, 6, [], b15, none⟩
def e15 : Ent := ⟨"_law_clause", st15, ["_law_cell_here", "_law_n", "_law_draws_here", "_law_many", "_law_found", "_law_v"], ["_law_cell_here", "_law_n"], f15, .fn⟩
def st16 : Stmt := PySem.Challenge.pw_clausehold_k75_ways_to_meet.main.body.getD 34 (.Pass ⟨0, 0, 0, 0⟩)
def p16_0 : CS := (.set 8 (.call 12 (.val (.call 11 (.val (.v 0) (.val (.op (.bin .add) (.cons (.e (.op (.bin .add) (.cons (.bor 1 []) (.cons (.e (.c (.int 20))) .nil)))) (.cons (.bor 7 []) .nil))) .nil))) (.val (.lst (.cons (.c (.int 6)) (.cons (.c (.int 97)) (.cons (.c (.int 20)) .nil)))) .nil))))
def p16_1 : CS := (.set 9 (.call 15 (.val (.call 11 (.val (.v 0) (.val (.op (.bin .add) (.cons (.e (.op (.bin .add) (.cons (.bor 1 []) (.cons (.e (.c (.int 1))) .nil)))) (.cons (.bor 7 []) .nil))) .nil))) (.val (.mv 5) .nil))))
def p16_2 : CS := (.set 10 (.op .idx (.cons (.bor 6 []) (.cons (.e (.op (.bin .mod) (.cons (.e (.op (.bi .int) (.cons (.e (.op .idx (.cons (.bor 8 []) (.cons (.e (.c (.int 1))) .nil)))) .nil))) (.cons (.e (.op (.bi .len) (.cons (.bor 6 []) .nil))) .nil)))) .nil))))
def p16_3 : CE := (.v 11)
def p16_4 : CTs := (.cons (.val (.e (.op (.cmp .notin) (.cons (.e (.op .neg (.cons (.bor 11 []) .nil))) (.cons (.bor 10 []) .nil))))) .nil)
def p16_5 : CS := (.set 9 (.call 14 (.val (.lc p16_3 (.one 11) (.seq (.e (.op (.bin .add) (.cons (.bor 9 []) (.cons (.bor 10 []) .nil))))) p16_4) .nil)))
def p16_6 : CS := (.ife (.and (.cons (.val (.e (.op (.cmp .eq) (.cons (.e (.op .idx (.cons (.bor 8 []) (.cons (.e (.c (.int 0))) .nil)))) (.cons (.e (.c (.int 0))) .nil))))) (.cons (.val (.e (.op (.cmp .ne) (.cons (.bor 6 []) (.cons (.e (.lst .nil)) .nil))))) .nil))) (.cons (.set 9 (.op .idx (.cons (.bor 6 []) (.cons (.e (.op (.bin .mod) (.cons (.e (.op (.bi .int) (.cons (.e (.op .idx (.cons (.bor 8 []) (.cons (.e (.c (.int 1))) .nil)))) .nil))) (.cons (.e (.op (.bi .len) (.cons (.bor 6 []) .nil))) .nil)))) .nil)))) .nil) (.cons (.ife (.and (.cons (.val (.e (.op (.cmp .eq) (.cons (.e (.op .idx (.cons (.bor 8 []) (.cons (.e (.c (.int 0))) .nil)))) (.cons (.e (.c (.int 1))) .nil))))) (.cons (.val (.e (.op (.cmp .ne) (.cons (.bor 6 []) (.cons (.e (.lst .nil)) .nil))))) .nil))) (.cons p16_2 (.cons p16_5 .nil)) (.cons (.ife (.and (.cons (.val (.e (.op (.cmp .eq) (.cons (.bor 9 []) (.cons (.e (.tup .nil)) .nil))))) (.cons (.val (.e (.op (.cmp .gt) (.cons (.e (.op .idx (.cons (.bor 8 []) (.cons (.e (.c (.int 2))) .nil)))) (.cons (.e (.c (.int 0))) .nil))))) (.cons (.val (.e (.op (.cmp .gt) (.cons (.bor 5 []) (.cons (.e (.c (.int 0))) .nil))))) .nil)))) (.cons (.set 9 (.tup (.cons (.op (.bin .mul) (.cons (.e (.op .idx (.cons (.e (.lst (.cons (.c (.int 1)) (.cons (.op .neg (.cons (.e (.c (.int 1))) .nil)) .nil)))) (.cons (.e (.op (.bin .mod) (.cons (.e (.op (.bi .int) (.cons (.e (.op .idx (.cons (.bor 8 []) (.cons (.e (.c (.int 1))) .nil)))) .nil))) (.cons (.e (.c (.int 2))) .nil)))) .nil)))) (.cons (.e (.op (.bin .add) (.cons (.e (.c (.int 1))) (.cons (.e (.op (.bin .mod) (.cons (.e (.op (.bi .int) (.cons (.e (.op (.bin .fdiv) (.cons (.e (.op .idx (.cons (.bor 8 []) (.cons (.e (.c (.int 1))) .nil)))) (.cons (.e (.c (.int 2))) .nil)))) .nil))) (.cons (.bor 5 []) .nil)))) .nil)))) .nil))) .nil))) .nil) .nil) .nil)) .nil))
def p16_7 : CS := (.ex (.mu .append 6 [] (.cons (.mv 9) .nil)))
def p16_8 : CSs := (.cons p16_0 (.cons p16_1 (.cons p16_6 (.cons p16_7 .nil))))
def q16_0 : CS := (.set 4 (.call 12 (.val (.call 11 (.val (.v 0) (.val (.v 1) .nil))) (.val (.lst (.cons (.v 2) (.cons (.op (.bin .add) (.cons (.bor 3 []) (.cons (.e (.c (.int 1))) .nil))) (.cons (.c (.int 9)) .nil)))) .nil))))
def q16_1 : CS := (.set 5 (.op .idx (.cons (.e (.lst (.cons (.op (.bin .add) (.cons (.e (.op .idx (.cons (.bor 4 []) (.cons (.e (.c (.int 0))) .nil)))) (.cons (.e (.c (.int 1))) .nil))) (.cons (.c (.int 0)) .nil)))) (.cons (.e (.op (.bi .int) (.cons (.e (.and (.cons (.op (.cmp .eq) (.cons (.e (.op .idx (.cons (.bor 4 []) (.cons (.e (.c (.int 2))) .nil)))) (.cons (.e (.c (.int 0))) .nil))) (.cons (.op (.cmp .eq) (.cons (.e (.op .idx (.cons (.bor 4 []) (.cons (.e (.c (.int 0))) .nil)))) (.cons (.e (.c (.int 0))) .nil))) .nil)))) .nil))) .nil))))
def q16_2 : CS := (.set 6 (.lst .nil))
def q16_3 : CS := (.for_ (.one 7) (.rng1 (.op .idx (.cons (.bor 4 []) (.cons (.e (.c (.int 1))) .nil)))) p16_8)
def q16_4 : CS := (.ret (.tup (.cons (.mv 5) (.cons (.mv 6) .nil))))
def b16 : CSs := (.cons q16_0 (.cons q16_1 (.cons q16_2 (.cons q16_3 (.cons q16_4 .nil)))))
def f16 : Fn := ⟨4, 12, [], b16, none⟩
def e16 : Ent := ⟨"_law_formula", st16, ["_law_script", "_law_start", "_law_most", "_law_many", "_law_shape", "_law_n", "_law_clauses", "_law_k", "_law_draws_here", "_law_clause_here", "_law_other", "_law_one"], ["_law_script", "_law_start", "_law_most", "_law_many"], f16, .fn⟩
def st17 : Stmt := PySem.Challenge.pw_clausehold_k75_ways_to_meet.main.body.getD 35 (.Pass ⟨0, 0, 0, 0⟩)
def p17_0 : CS := (.set 3 (.lst .nil))
def p17_1 : CSs := (.cons (.set 3 (.op (.bin .add) (.cons (.bor 3 []) (.cons (.e (.lst (.cons (.op (.bin .add) (.cons (.bor 4 []) (.cons (.e (.tup (.cons (.v 2) .nil))) .nil))) (.cons (.op (.bin .add) (.cons (.bor 4 []) (.cons (.e (.tup (.cons (.op .neg (.cons (.bor 2 []) .nil)) .nil))) .nil))) .nil)))) .nil)))) .nil)
def p17_2 : CS := (.for_ (.one 4) (.seq (.bor 1 [])) p17_1)
def p17_3 : CS := (.set 1 (.mv 3))
def p17_4 : CSs := (.cons p17_0 (.cons p17_2 (.cons p17_3 .nil)))
def q17_0 : CS := (.set 1 (.lst (.cons (.tup .nil) .nil)))
def q17_1 : CS := (.for_ (.one 2) (.seq (.bor 0 [])) p17_4)
def q17_2 : CS := (.ret (.take 1))
def b17 : CSs := (.cons q17_0 (.cons q17_1 (.cons q17_2 .nil)))
def f17 : Fn := ⟨1, 5, [], b17, none⟩
def e17 : Ent := ⟨"_law_rows", st17, ["_law_variables", "_law_rows_here", "_law_v", "_law_wider", "_law_row"], ["_law_variables"], f17, .fn⟩
def st18 : Stmt := PySem.Challenge.pw_clausehold_k75_ways_to_meet.main.body.getD 36 (.Pass ⟨0, 0, 0, 0⟩)
def p18_0 : CSs := (.cons (.ex (.apX 3 (.op (.bin .mod) (.cons (.e (.op (.bi .int) (.cons (.e (.op (.bin .add) (.cons (.e (.op .idx (.cons (.bor 2 []) (.cons (.e (.op (.bin .sub) (.cons (.bor 4 []) (.cons (.e (.c (.int 1))) .nil)))) .nil)))) (.cons (.e (.op .idx (.cons (.bor 2 []) (.cons (.e (.op (.bin .add) (.cons (.bor 1 []) (.cons (.e (.c (.int 4))) .nil)))) .nil)))) .nil)))) .nil))) (.cons (.e (.c (.int 4))) .nil))) (.v 4))) .nil)
def p18_1 : CSs := (.cons (.ife (.val (.e (.op (.cmp .ne) (.cons (.e (.op .idx (.cons (.bor 3 []) (.cons (.bor 6 []) .nil)))) (.cons (.e (.lst .nil)) .nil))))) (.cons (.ex (.mu .append 5 [] (.cons (.tup (.cons (.op .idx (.cons (.e (.lst (.cons (.c (.str "each")) (.cons (.c (.str "some")) .nil)))) (.cons (.e (.op .idx (.cons (.bor 2 []) (.cons (.e (.op (.bin .add) (.cons (.bor 1 []) (.cons (.bor 6 []) .nil)))) .nil)))) .nil))) (.cons (.op (.bi .tuple) (.cons (.e (.op .idx (.cons (.bor 3 []) (.cons (.bor 6 []) .nil)))) .nil)) .nil))) .nil))) .nil) .nil) .nil)
def q18_0 : CS := (.set 2 (.call 12 (.val (.v 0) (.val (.op (.bin .add) (.cons (.e (.op (.bin .mul) (.cons (.e (.lst (.cons (.c (.int 4)) .nil))) (.cons (.bor 1 []) .nil)))) (.cons (.e (.lst (.cons (.c (.int 2)) (.cons (.c (.int 2)) (.cons (.c (.int 2)) (.cons (.c (.int 2)) (.cons (.c (.int 24)) .nil))))))) .nil))) .nil))))
def q18_1 : CS := (.set 3 (.lst (.cons (.lst .nil) (.cons (.lst .nil) (.cons (.lst .nil) (.cons (.lst .nil) .nil))))))
def q18_2 : CS := (.for_ (.one 4) (.rng2 (.c (.int 1)) (.op (.bin .add) (.cons (.bor 1 []) (.cons (.e (.c (.int 1))) .nil)))) p18_0)
def q18_3 : CS := (.frz 3)
def q18_4 : CS := (.set 5 (.lst .nil))
def q18_5 : CS := (.for_ (.one 6) (.rng1 (.c (.int 4))) p18_1)
def q18_6 : CS := (.ret (.op (.bi .tuple) (.cons (.bor 5 []) .nil)))
def b18 : CSs := (.cons q18_0 (.cons q18_1 (.cons q18_2 (.cons q18_3 (.cons q18_4 (.cons q18_5 (.cons q18_6 .nil)))))))
def f18 : Fn := ⟨2, 7, [], b18, none⟩
def e18 : Ent := ⟨"_law_prefix", st18, ["_law_cell_here", "_law_n", "_law_draws_here", "_law_groups", "_law_v", "_law_prefix_here", "_law_k"], ["_law_cell_here", "_law_n"], f18, .fn⟩
def st19 : Stmt := PySem.Challenge.pw_clausehold_k75_ways_to_meet.main.body.getD 37 (.Pass ⟨0, 0, 0, 0⟩)
def p19_0 : CS := (.set 5 (.c .non))
def p19_1 : CS := (.set 7 (.op (.bin .add) (.cons (.bor 4 []) (.cons (.bor 6 []) .nil))))
def p19_2 : CE := (.v 8)
def p19_3 : CE := (.v 9)
def p19_4 : CTs := (.cons (.val (.e (.op (.cmp .in_) (.cons (.bor 9 []) (.cons (.bor 7 []) .nil))))) .nil)
def p19_5 : CTs := (.cons (.val (.e (.op (.cmp .eq) (.cons (.e (.lc p19_3 (.one 9) (.seq (.bor 8 [])) p19_4)) (.cons (.e (.lst .nil)) .nil))))) .nil)
def p19_6 : CS := (.ife (.and (.cons (.val (.e (.op (.cmp .is) (.cons (.bor 5 []) (.cons (.e (.c .non)) .nil))))) (.cons (.val (.e (.op (.cmp .eq) (.cons (.e (.lc p19_2 (.one 8) (.seq (.bor 0 [])) p19_5)) (.cons (.e (.lst .nil)) .nil))))) .nil))) (.cons (.set 5 (.v 6)) .nil) .nil)
def p19_7 : CSs := (.cons p19_1 (.cons p19_6 .nil))
def p19_8 : CS := (.for_ (.one 6) (.seq (.e (.call 17 (.val (.v 2) .nil)))) p19_7)
def p19_9 : CS := (.ex (.mu .append 3 [] (.cons (.tup (.cons (.v 4) (.cons (.v 5) .nil))) .nil)))
def p19_10 : CSs := (.cons p19_0 (.cons p19_8 (.cons p19_9 .nil)))
def q19_0 : CS := (.set 3 (.lst .nil))
def q19_1 : CS := (.for_ (.one 4) (.seq (.e (.call 17 (.val (.v 1) .nil)))) p19_10)
def q19_2 : CS := (.ret (.op (.bi .tuple) (.cons (.bor 3 []) .nil)))
def b19 : CSs := (.cons q19_0 (.cons q19_1 (.cons q19_2 .nil)))
def f19 : Fn := ⟨3, 10, [], b19, none⟩
def e19 : Ent := ⟨"_law_due", st19, ["_law_clauses", "_law_each", "_law_some", "_law_due_here", "_law_row", "_law_answer", "_law_more", "_law_both", "_law_clause_here", "_law_one"], ["_law_clauses", "_law_each", "_law_some"], f19, .fn⟩
def st20 : Stmt := PySem.Challenge.pw_clausehold_k75_ways_to_meet.main.body.getD 38 (.Pass ⟨0, 0, 0, 0⟩)
def p20_0 : CSs := (.cons (.ex (.call 10 (.val (.v 0) (.val (.v 1) .nil)))) .nil)
def q20_0 : CS := (.tr p20_0 [⟨3, [3], (some 2), true, [(.c (.str "prefix")), (.xf 0)]⟩, ⟨4, [4], (some 2), true, [(.c (.str "undefined")), (.xf 0)]⟩])
def q20_1 : CS := (.ret (.c .non))
def b20 : CSs := (.cons q20_0 (.cons q20_1 .nil))
def f20 : Fn := ⟨2, 3, [], b20, none⟩
def e20 : Ent := ⟨"_law_refused", st20, ["_law_formula_here", "_law_prefix_here", "e"], ["_law_formula_here", "_law_prefix_here"], f20, .fn⟩
def st21 : Stmt := PySem.Challenge.pw_clausehold_k75_ways_to_meet.main.body.getD 39 (.Pass ⟨0, 0, 0, 0⟩)
def p21_0 : CE := (.v 13)
def p21_1 : CTs := (.cons (.val (.e (.op (.cmp .eq) (.cons (.e (.op .idx (.cons (.bor 5 []) (.cons (.e (.op (.bin .sub) (.cons (.bor 13 []) (.cons (.e (.c (.int 1))) .nil)))) .nil)))) (.cons (.e (.c (.int 0))) .nil))))) .nil)
def p21_2 : CE := (.v 13)
def p21_3 : CTs := (.cons (.val (.e (.op (.cmp .eq) (.cons (.e (.op .idx (.cons (.bor 5 []) (.cons (.e (.op (.bin .sub) (.cons (.bor 13 []) (.cons (.e (.c (.int 1))) .nil)))) .nil)))) (.cons (.e (.c (.int 1))) .nil))))) .nil)
def p21_4 : CS := (.set 8 (.op (.bin .add) (.cons (.bor 8 []) (.cons (.e (.lst (.cons (.tup (.cons (.tup (.cons (.c (.str "each")) (.cons (.op (.bi .tuple) (.cons (.bor 6 []) .nil)) .nil))) (.cons (.tup (.cons (.c (.str "some")) (.cons (.op (.bi .tuple) (.cons (.bor 7 []) .nil)) .nil))) .nil))) (.cons (.tup (.cons (.tup (.cons (.c (.str "some")) (.cons (.op (.bi .tuple) (.cons (.bor 7 []) .nil)) .nil))) (.cons (.tup (.cons (.c (.str "each")) (.cons (.op (.bi .tuple) (.cons (.bor 6 []) .nil)) .nil))) .nil))) .nil)))) .nil))))
def p21_5 : CS := (.ex (.mu .append 8 [] (.cons (.tup (.cons (.tup (.cons (.c (.str "each")) (.cons (.op (.bi .tuple) (.cons (.bor 6 []) .nil)) .nil))) (.cons (.tup (.cons (.c (.str "each")) (.cons (.op (.bi .tuple) (.cons (.bor 7 []) .nil)) .nil))) .nil))) .nil)))
def p21_6 : CE := (.op .idx (.cons (.bor 15 []) (.cons (.e (.c (.int 0))) .nil)))
def p21_7 : CTs := .nil
def p21_8 : CS := (.set 14 (.op (.bi .repr) (.cons (.e (.call 19 (.val (.mv 3) (.val (.op (.bi .list) (.cons (.e (.op .idx (.cons (.e (.op .idx (.cons (.bor 9 []) (.cons (.e (.c (.int 0))) .nil)))) (.cons (.e (.c (.int 1))) .nil)))) .nil)) (.val (.op (.bi .list) (.cons (.e (.op .idx (.cons (.e (.op .idx (.cons (.bor 9 []) (.cons (.e (.c (.int 1))) .nil)))) (.cons (.e (.c (.int 1))) .nil)))) .nil)) .nil))))) .nil)))
def p21_9 : CS := (.ife (.or (.cons (.val (.e (.op (.cmp .ne) (.cons (.e (.op (.bi .repr) (.cons (.e (.call 10 (.val (.v 4) (.val (.v 9) .nil)))) .nil))) (.cons (.bor 14 []) .nil))))) (.cons (.val (.e (.op (.cmp .ne) (.cons (.e (.op (.bi .repr) (.cons (.e (.call 10 (.val (.v 4) (.val (.v 9) .nil)))) .nil))) (.cons (.bor 14 []) .nil))))) .nil))) (.cons (.ret (.c (.bl false))) .nil) .nil)
def p21_10 : CSs := (.cons (.ife (.val (.e (.op (.cmp .eq) (.cons (.e (.lc p21_6 (.one 15) (.seq (.bor 9 [])) p21_7)) (.cons (.e (.lst (.cons (.c (.str "each")) (.cons (.c (.str "some")) .nil)))) .nil))))) (.cons p21_8 (.cons p21_9 .nil)) (.cons (.ife (.val (.e (.op (.cmp .ne) (.cons (.e (.op (.bi .repr) (.cons (.e (.call 20 (.val (.v 4) (.val (.v 9) .nil)))) .nil))) (.cons (.e (.op (.bi .repr) (.cons (.e (.tup (.cons (.c (.str "undefined")) (.cons (.c (.str "prefix")) .nil)))) .nil))) .nil))))) (.cons (.ret (.c (.bl false))) .nil) .nil) .nil)) .nil)
def p21_11 : CSs := (.cons (.ife (.val (.e (.op (.cmp .ne) (.cons (.e (.op (.bi .repr) (.cons (.e (.call 20 (.val (.v 4) (.val (.v 12) .nil)))) .nil))) (.cons (.e (.op (.bi .repr) (.cons (.e (.tup (.cons (.c (.str "prefix")) (.cons (.v 12) .nil)))) .nil))) .nil))))) (.cons (.ret (.c (.bl false))) .nil) .nil) .nil)
def q21_0 : CS := (.set 1 (.call 16 (.val (.v 0) (.val (.c (.int 1)) (.val (.c (.int 5)) (.val (.c (.int 6)) .nil))))))
def q21_1 : CS := (.set 2 (.op .idx (.cons (.bor 1 []) (.cons (.e (.c (.int 0))) .nil))))
def q21_2 : CS := (.set 3 (.op .idx (.cons (.bor 1 []) (.cons (.e (.c (.int 1))) .nil))))
def q21_3 : CS := (.set 4 (.fz (.call 23 (.val (.mv 2) (.val (.op (.bi .list) (.cons (.bor 3 []) .nil)) .nil)))))
def q21_4 : CS := (.set 5 (.call 12 (.val (.call 11 (.val (.v 0) (.val (.c (.int 0)) .nil))) (.val (.op (.bin .add) (.cons (.e (.op (.bin .mul) (.cons (.e (.lst (.cons (.c (.int 2)) .nil))) (.cons (.e (.c (.int 5))) .nil)))) (.cons (.e (.lst (.cons (.c (.int 5)) (.cons (.c (.int 9)) .nil)))) .nil))) .nil))))
def q21_5 : CS := (.set 6 (.lc p21_0 (.one 13) (.rng2 (.c (.int 1)) (.op (.bin .add) (.cons (.bor 2 []) (.cons (.e (.c (.int 1))) .nil)))) p21_1))
def q21_6 : CS := (.set 7 (.lc p21_2 (.one 13) (.rng2 (.c (.int 1)) (.op (.bin .add) (.cons (.bor 2 []) (.cons (.e (.c (.int 1))) .nil)))) p21_3))
def q21_7 : CS := (.set 8 (.lst (.cons (.call 18 (.val (.call 11 (.val (.v 0) (.val (.c (.int 60)) .nil))) (.val (.mv 2) .nil))) (.cons (.call 18 (.val (.call 11 (.val (.v 0) (.val (.c (.int 61)) .nil))) (.val (.mv 2) .nil))) .nil))))
def q21_8 : CS := (.ife (.and (.cons (.val (.e (.op (.cmp .ne) (.cons (.bor 6 []) (.cons (.e (.lst .nil)) .nil))))) (.cons (.val (.e (.op (.cmp .ne) (.cons (.bor 7 []) (.cons (.e (.lst .nil)) .nil))))) .nil))) (.cons p21_4 (.cons p21_5 .nil)) .nil)
def q21_9 : CS := (.for_ (.one 9) (.seq (.bor 8 [])) p21_10)
def q21_10 : CS := (.set 10 (.op .idx (.cons (.e (.lst (.cons (.tup (.cons (.tup (.cons (.c (.str "each")) (.cons (.tup (.cons (.op (.bin .add) (.cons (.bor 2 []) (.cons (.e (.c (.int 1))) .nil))) .nil)) .nil))) .nil)) (.cons (.tup (.cons (.tup (.cons (.c (.str "all")) (.cons (.tup (.cons (.c (.int 1)) .nil)) .nil))) .nil)) (.cons (.tup (.cons (.tup (.cons (.c (.str "each")) (.cons (.tup .nil) .nil))) (.cons (.tup (.cons (.c (.str "some")) (.cons (.op (.rng 2 true) (.cons (.e (.c (.int 1))) (.cons (.e (.op (.bin .add) (.cons (.bor 2 []) (.cons (.e (.c (.int 1))) .nil)))) .nil))) .nil))) .nil))) (.cons (.c .non) (.cons (.c (.str "each")) .nil))))))) (.cons (.e (.op .idx (.cons (.bor 5 []) (.cons (.e (.c (.int 5))) .nil)))) .nil))))
def q21_11 : CS := (.ife (.val (.e (.op (.cmp .gt) (.cons (.e (.op .idx (.cons (.bor 5 []) (.cons (.e (.c (.int 6))) .nil)))) (.cons (.e (.c (.int 4))) .nil))))) (.cons (.set 10 (.tup (.cons (.tup (.cons (.c (.str "each")) (.cons (.op (.rng 2 true) (.cons (.e (.c (.int 1))) (.cons (.e (.op (.bin .add) (.cons (.bor 2 []) (.cons (.e (.c (.int 1))) .nil)))) .nil))) .nil))) (.cons (.tup (.cons (.c (.str "some")) (.cons (.op (.rng 2 true) (.cons (.e (.c (.int 1))) (.cons (.e (.op (.bin .add) (.cons (.bor 2 []) (.cons (.e (.c (.int 2))) .nil)))) .nil))) .nil))) .nil)))) .nil) .nil)
def q21_12 : CS := (.set 11 (.lst (.cons (.mv 10) .nil)))
def q21_13 : CS := (.ife (.val (.e (.op (.cmp .gt) (.cons (.bor 2 []) (.cons (.e (.c (.int 2))) .nil))))) (.cons (.set 11 (.op (.bin .add) (.cons (.bor 11 []) (.cons (.e (.lst (.cons (.tup (.cons (.tup (.cons (.c (.str "each")) (.cons (.tup (.cons (.c (.int 1)) .nil)) .nil))) (.cons (.tup (.cons (.c (.str "some")) (.cons (.op (.rng 2 true) (.cons (.e (.c (.int 2))) (.cons (.bor 2 []) .nil))) .nil))) .nil))) (.cons (.tup (.cons (.tup (.cons (.c (.str "each")) (.cons (.op (.rng 2 true) (.cons (.e (.c (.int 1))) (.cons (.bor 2 []) .nil))) .nil))) (.cons (.tup (.cons (.c (.str "some")) (.cons (.op (.rng 2 true) (.cons (.e (.c (.int 2))) (.cons (.e (.op (.bin .add) (.cons (.bor 2 []) (.cons (.e (.c (.int 1))) .nil)))) .nil))) .nil))) .nil))) .nil)))) .nil)))) .nil) .nil)
def q21_14 : CS := (.for_ (.one 12) (.seq (.bor 11 [])) p21_11)
def q21_15 : CS := (.ret (.op (.cmp .eq) (.cons (.e (.op (.bi .repr) (.cons (.e (.op (.fld "clauses") (.cons (.bor 4 []) .nil))) .nil))) (.cons (.e (.op (.bi .repr) (.cons (.e (.op (.bi .tuple) (.cons (.bor 3 []) .nil))) .nil))) .nil))))
def b21 : CSs := (.cons q21_0 (.cons q21_1 (.cons q21_2 (.cons q21_3 (.cons q21_4 (.cons q21_5 (.cons q21_6 (.cons q21_7 (.cons q21_8 (.cons q21_9 (.cons q21_10 (.cons q21_11 (.cons q21_12 (.cons q21_13 (.cons q21_14 (.cons q21_15 .nil))))))))))))))))
def f21 : Fn := ⟨1, 16, [], b21, none⟩
def e21 : Ent := ⟨"law", st21, ["_law_script", "_law_drawn", "_law_n", "_law_clauses", "_law_formula_here", "_law_draws_here", "_law_each", "_law_some", "_law_prefixes", "_law_prefix_here", "_law_bad", "_law_bads", "_law_one", "_law_v", "_law_first", "_law_pair"], ["_law_script"], f21, .fn⟩
def st22 : Stmt := L2.inClass (PySem.Challenge.pw_clausehold_k75_ways_to_meet.main.body.getD 19 (.Pass ⟨0, 0, 0, 0⟩)) 0
def p22_0 : CSs := (.cons (.ife (.not (.val (.e (.call 2 (.val (.v 3) (.val (.v 1) .nil)))))) (.cons (.raise 1 1 (.cons (.v 3) .nil)) .nil) .nil) .nil)
def q22_0 : CS := (.ife (.or (.cons (.not (.val (.e (.call 0 (.val (.v 1) .nil))))) (.cons (.val (.e (.op (.cmp .lt) (.cons (.bor 1 []) (.cons (.e (.c (.int 0))) .nil))))) .nil))) (.cons (.raise 0 1 (.cons (.v 1) .nil)) .nil) .nil)
def q22_1 : CS := (.ife (.not (.val (.e (.op (.isi ["list", "tuple"]) (.cons (.bor 2 []) .nil))))) (.cons (.raise 2 1 (.cons (.v 2) .nil)) .nil) .nil)
def q22_2 : CS := (.for_ (.one 3) (.seq (.bor 2 [])) p22_0)
def q22_3 : CS := (.setF 0 0 "n" (.v 1))
def q22_4 : CS := (.setF 0 0 "clauses" (.op (.bi .tuple) (.cons (.bor 2 []) .nil)))
def b22 : CSs := (.cons q22_0 (.cons q22_1 (.cons q22_2 (.cons q22_3 (.cons q22_4 .nil)))))
def f22 : Fn := ⟨3, 4, [0], b22, none⟩
def e22 : Ent := ⟨"Formula.__init__", st22, ["self", "n", "clauses", "clause"], ["self", "n", "clauses"], f22, .ini "Formula"⟩
def f23 : Fn := ⟨2, 2, [], .nil, some (0, 22)⟩
def e23 : Ent := ⟨"Formula", st22, [], ["n", "clauses"], f23, .cls 0 22⟩
def cls : List (Str × List Str) := [("Formula", ["n", "clauses"])]
def dcs : List (Str × List (Str × Int)) := []
def exs : List ExC := [("InvalidNumber", ["value"], [0]), ("InvalidClause", ["value"], [1]), ("InvalidFormula", ["value"], [2]), ("InvalidPrefix", ["value"], [3]), ("Undefined", ["what"], [4])]
def ents : List Ent := [e0, e1, e2, e3, e4, e5, e6, e7, e8, e9, e10, e11, e12, e13, e14, e15, e16, e17, e18, e19, e20, e21, e22, e23]
def bns : List Str := ["abs", "all", "any", "bool", "int", "isinstance", "len", "list", "range", "repr", "sorted", "str", "tuple"]
end K75
end
section
namespace K75
open PySem L2 Evl PyProof.Rows CH
def P (k f : Nat) (ts : List OT) : R (OT × List OT) := runD (tbOf ents) k f ts
theorem step (k f : Nat) (ts : List OT) (fn : Fn) (h : tbOf ents f = some fn) : P (k + 1) f ts = fn.run (P k) ts := by
  unfold P; simp only [runD, h]
theorem t0 : tbOf ents 0 = some f0 := rfl
theorem t1 : tbOf ents 1 = some f1 := rfl
theorem t2 : tbOf ents 2 = some f2 := rfl
theorem t3 : tbOf ents 3 = some f3 := rfl
theorem t4 : tbOf ents 4 = some f4 := rfl
theorem t5 : tbOf ents 5 = some f5 := rfl
theorem t6 : tbOf ents 6 = some f6 := rfl
theorem t7 : tbOf ents 7 = some f7 := rfl
theorem t8 : tbOf ents 8 = some f8 := rfl
theorem t9 : tbOf ents 9 = some f9 := rfl
theorem t10 : tbOf ents 10 = some f10 := rfl
theorem t11 : tbOf ents 11 = some f11 := rfl
theorem t12 : tbOf ents 12 = some f12 := rfl
theorem t13 : tbOf ents 13 = some f13 := rfl
theorem t14 : tbOf ents 14 = some f14 := rfl
theorem t15 : tbOf ents 15 = some f15 := rfl
theorem t16 : tbOf ents 16 = some f16 := rfl
theorem t17 : tbOf ents 17 = some f17 := rfl
theorem t18 : tbOf ents 18 = some f18 := rfl
theorem t19 : tbOf ents 19 = some f19 := rfl
theorem t20 : tbOf ents 20 = some f20 := rfl
theorem t21 : tbOf ents 21 = some f21 := rfl
theorem t22 : tbOf ents 22 = some f22 := rfl
theorem t23 : tbOf ents 23 = some f23 := rfl
theorem pow18 : Op.ev (.bin .pow) [.sh (.int 10), .sh (.int 18)] = some (.sh (.int 1000000000000000000)) := ev_pow_10 18 (by decide)
/-- the items of the lists that stand for numbers -/
theorem idx_sl (ns : List Int) (j : Nat) (h : j < ns.length) : idxEv (.sh (.lst (ns.map .int))) (j : Int) = some (.sh (.int (ns.getD j 0))) := by
  have e2 : atI (ns.map D.int) (j : Int) = some (.int (ns.getD j 0)) := atI_nat (by rw [List.getElem?_map, List.getElem?_eq_getElem h, List.getD_eq_getElem?_getD, List.getElem?_eq_getElem h]; rfl)
  show (atI (ns.map D.int) (j : Int)).map OT.sh = _
  rw [e2]; rfl
theorem idx_st (ns : List Int) (j : Nat) (h : j < ns.length) : idxEv (.sh (.tup (ns.map .int))) (j : Int) = some (.sh (.int (ns.getD j 0))) := idx_sl ns j h
theorem idx_sf (ns : List Int) (j : Nat) (h : j < ns.length) : idxEv (.sh (.flst (ns.map .int))) (j : Int) = some (.sh (.int (ns.getD j 0))) := idx_sl ns j h
theorem idx_ow (ns : List Int) (j : Nat) (h : j < ns.length) : idxEv (.lst (ns.map iT)) (j : Int) = some (.sh (.int (ns.getD j 0))) := by
  show (OT.items (.lst (ns.map iT))).bind _ = _
  rw [show OT.items (.lst (ns.map iT)) = some (ns.map .int) from leaves_i ns]
  exact idx_sl ns j h
/-- what a cell's draws are: as many as limits, each below its limit -/
def Within (xs ms : List Int) : Prop := xs.length = ms.length ∧ ∀ i, i < ms.length → 0 ≤ xs.getD i 0 ∧ xs.getD i 0 < ms.getD i 0
def mixA (r i : Int) : Int := (r * 48271 + (i + 1) * 69621) % 2147483647
def mixB (r i : Int) : Int := (mixA r i * 40692 + mixA r i / 3791 * (i + 5)) % 2147483399
theorem ap_i (xs : List Int) (y : Int) (h : xs.length < 1000000) : muEv .append (xs.map iT) [.sh (.int y)] = some (.sh .non, (xs ++ [y]).map iT) := by
  show guard_ (decide ((xs.map iT).length < big)) _ = _
  rw [decide_eq_true (by rw [List.length_map]; simp only [big]; omega)]
  simp [guard_]
abbrev Rho (c : Int) (ms xs : List Int) (r : Int) (i : Int) (g : Bool) (v : Sl) : CH.Env := [.ow (.sh (.int c)), .ow (.sh (.lst (ms.map .int))), .ow (.sh (.int r)), .ow (.sh (.bl g)), .ow (.lst (xs.map iT)), .ow (.sh (.int i)), v]
section
variable (k : Nat) (c : Int) (ms xs : List Int) (r M : Int) (i : Int) (v : Sl)
theorem turn_t (ix : idxEv (.sh (.lst (ms.map .int))) i = some (.sh (.int M))) (hM : 0 < M ∧ M < 1073741824) (hx : xs.length < 1000000) :
    evSs (P k) [] p12_5 (Rho c ms xs r i true v) = .ok (.nx, Rho c ms (xs ++ [r % M]) (r / M) i true v) := by
  have m1 := fun x : Int => ev_mod_ii x M hM.1
  have d1 := fun x : Int => ev_fdiv_ii x M hM
  have ap := ap_i xs (r % M) hx
  unfold p12_5
  rw [ss_end, ife_t (ρ1 := Rho c ms xs r i true v) (by simp [D.tyName, ev_isi_t, isTy, fillA, backA, goneA, cm_le_ii, cm_lt_ii, getV, Fn.run, Fn.run0, evSs, evS, evT, evAll, evAny, evO, evE, evOs, evEs, evAs, evB, evAnd, evOr, CH.R.bind, R.ofO, CH.Env.tree, CH.Env.own, CH.Env.ownL, OT.getP, lock, unlock, outs, tru_b, ev_eq_ii, ev_ne_ii, ev_lt_ii, ev_le_ii, ev_gt_ii, ev_ge_ii, ev_add_ii, ev_sub_ii, ev_neg_i, ev_int_i, ev_abs_i, ev_len_l, ev_len_t, ev_len_f, ev_idx, mulOk_r, ev_mul_ii, OT.toD])]
  rw [ss_next (ρ1 := Rho c ms (xs ++ [r % M]) r i true v) (by simp [p12_0, D.tyName, ev_isi_t, isTy, fillA, backA, goneA, cm_le_ii, cm_lt_ii, getV, Fn.run, Fn.run0, evSs, evS, evT, evAll, evAny, evO, evE, evOs, evEs, evAs, evB, evAnd, evOr, CH.R.bind, R.ofO, CH.Env.tree, CH.Env.own, CH.Env.ownL, OT.getP, lock, unlock, outs, tru_b, ev_eq_ii, ev_ne_ii, ev_lt_ii, ev_le_ii, ev_gt_ii, ev_ge_ii, ev_add_ii, ev_sub_ii, ev_neg_i, ev_int_i, ev_abs_i, ev_len_l, ev_len_t, ev_len_f, ev_idx, mulOk_r, ev_mul_ii, OT.toD, ix, m1, ap])]
  rw [ss_end]
  simp [p12_1, D.tyName, ev_isi_t, isTy, fillA, backA, goneA, cm_le_ii, cm_lt_ii, getV, Fn.run, Fn.run0, evSs, evS, evT, evAll, evAny, evO, evE, evOs, evEs, evAs, evB, evAnd, evOr, CH.R.bind, R.ofO, CH.Env.tree, CH.Env.own, CH.Env.ownL, OT.getP, lock, unlock, outs, tru_b, ev_eq_ii, ev_ne_ii, ev_lt_ii, ev_le_ii, ev_gt_ii, ev_ge_ii, ev_add_ii, ev_sub_ii, ev_neg_i, ev_int_i, ev_abs_i, ev_len_l, ev_len_t, ev_len_f, ev_idx, mulOk_r, ev_mul_ii, OT.toD, ix, d1]
theorem turn_f1 (hv : v = .no ∨ ∃ x, v = .ow (.sh (.int x))) (hi : 0 ≤ i ∧ i < 1000) : evS (P k) [] p12_2 (Rho c ms xs r i false v) = .ok (.nx, Rho c ms xs r i false (.ow (.sh (.int (mixA r i))))) := by
  have m2 := fun x : Int => ev_mod_ii x 2147483647 (by omega)
  unfold mixA
  rcases hv with rfl | ⟨x, rfl⟩ <;> simp [p12_2, D.tyName, ev_isi_t, isTy, fillA, backA, goneA, cm_le_ii, cm_lt_ii, getV, Fn.run, Fn.run0, evSs, evS, evT, evAll, evAny, evO, evE, evOs, evEs, evAs, evB, evAnd, evOr, CH.R.bind, R.ofO, CH.Env.tree, CH.Env.own, CH.Env.ownL, OT.getP, lock, unlock, outs, tru_b, ev_eq_ii, ev_ne_ii, ev_lt_ii, ev_le_ii, ev_gt_ii, ev_ge_ii, ev_add_ii, ev_sub_ii, ev_neg_i, ev_int_i, ev_abs_i, ev_len_l, ev_len_t, ev_len_f, ev_idx, mulOk_r, ev_mul_ii, OT.toD, m2]
theorem turn_f2 (a : Int) (hi : 0 ≤ i ∧ i < 1000) : evS (P k) [] p12_3 (Rho c ms xs r i false (.ow (.sh (.int a)))) = .ok (.nx, Rho c ms xs r i false (.ow (.sh (.int ((a * 40692 + a / 3791 * (i + 5)) % 2147483399))))) := by
  have m3 := fun x : Int => ev_mod_ii x 2147483399 (by omega)
  have d2 := fun x : Int => ev_fdiv_ii x 3791 (by omega)
  have mo : ∀ a : Int, mulOk a (i + 5) = true := fun a => mulOk_r _ _ (by omega)
  simp [p12_3, D.tyName, ev_isi_t, isTy, fillA, backA, goneA, cm_le_ii, cm_lt_ii, getV, Fn.run, Fn.run0, evSs, evS, evT, evAll, evAny, evO, evE, evOs, evEs, evAs, evB, evAnd, evOr, CH.R.bind, R.ofO, CH.Env.tree, CH.Env.own, CH.Env.ownL, OT.getP, lock, unlock, outs, tru_b, ev_eq_ii, ev_ne_ii, ev_lt_ii, ev_le_ii, ev_gt_ii, ev_ge_ii, ev_add_ii, ev_sub_ii, ev_neg_i, ev_int_i, ev_abs_i, ev_len_l, ev_len_t, ev_len_f, ev_idx, mulOk_r, ev_mul_ii, OT.toD, m3, d2, mo]
theorem turn_f3 (a : Int) (ix : idxEv (.sh (.lst (ms.map .int))) i = some (.sh (.int M))) (hM : 0 < M ∧ M < 1073741824) (hx : xs.length < 1000000) : evS (P k) [] p12_4 (Rho c ms xs r i false (.ow (.sh (.int a)))) = .ok (.nx, Rho c ms (xs ++ [a / 7 % M]) r i false (.ow (.sh (.int a)))) := by
  have m1 := fun x : Int => ev_mod_ii x M hM.1
  have d3 := fun x : Int => ev_fdiv_ii x 7 (by omega)
  have ap := ap_i xs (a / 7 % M) hx
  simp [p12_4, D.tyName, ev_isi_t, isTy, fillA, backA, goneA, cm_le_ii, cm_lt_ii, getV, Fn.run, Fn.run0, evSs, evS, evT, evAll, evAny, evO, evE, evOs, evEs, evAs, evB, evAnd, evOr, CH.R.bind, R.ofO, CH.Env.tree, CH.Env.own, CH.Env.ownL, OT.getP, lock, unlock, outs, tru_b, ev_eq_ii, ev_ne_ii, ev_lt_ii, ev_le_ii, ev_gt_ii, ev_ge_ii, ev_add_ii, ev_sub_ii, ev_neg_i, ev_int_i, ev_abs_i, ev_len_l, ev_len_t, ev_len_f, ev_idx, mulOk_r, ev_mul_ii, OT.toD, ix, m1, d3, ap]
theorem turn_f (hv : v = .no ∨ ∃ x, v = .ow (.sh (.int x))) (ix : idxEv (.sh (.lst (ms.map .int))) i = some (.sh (.int M))) (hM : 0 < M ∧ M < 1073741824) (hi : 0 ≤ i ∧ i < 1000) (hx : xs.length < 1000000) :
    evSs (P k) [] p12_5 (Rho c ms xs r i false v) = .ok (.nx, Rho c ms (xs ++ [mixB r i / 7 % M]) r i false (.ow (.sh (.int (mixB r i))))) := by
  unfold p12_5
  rw [ss_end, ife_f (ρ1 := Rho c ms xs r i false v) (by simp [D.tyName, ev_isi_t, isTy, fillA, backA, goneA, cm_le_ii, cm_lt_ii, getV, Fn.run, Fn.run0, evSs, evS, evT, evAll, evAny, evO, evE, evOs, evEs, evAs, evB, evAnd, evOr, CH.R.bind, R.ofO, CH.Env.tree, CH.Env.own, CH.Env.ownL, OT.getP, lock, unlock, outs, tru_b, ev_eq_ii, ev_ne_ii, ev_lt_ii, ev_le_ii, ev_gt_ii, ev_ge_ii, ev_add_ii, ev_sub_ii, ev_neg_i, ev_int_i, ev_abs_i, ev_len_l, ev_len_t, ev_len_f, ev_idx, mulOk_r, ev_mul_ii, OT.toD])]
  rw [ss_next (turn_f1 k c ms xs r i v hv hi), ss_next (turn_f2 k c ms xs r i _ hi), ss_end, turn_f3 k c ms xs r M i _ ix hM hx]
  rfl
end
theorem loop_eq (k : Nat) (c : Int) (ms : List Int) (hm : ∀ m ∈ ms, 0 < m ∧ m < 1073741824) (hl : ms.length < 1000) (g : Bool) (r0 : Int) :
    ∃ xs ρ', Within xs ms ∧ forL (fun ρ => evSs (P k) [] p12_5 ρ) [] (.one 5) ((List.range ms.length).map fun k => .int (k : Nat)) [.ow (.sh (.int c)), .ow (.sh (.lst (ms.map .int))), .ow (.sh (.int r0)), .ow (.sh (.bl g)), .ow (.lst []), .no, .no] = .ok (.nx, ρ') ∧
      ∃ a b d, ρ' = [.ow (.sh (.int c)), .ow (.sh (.lst (ms.map .int))), a, .ow (.sh (.bl g)), .ow (.lst (xs.map iT)), b, d] := by
  obtain ⟨ρ', h1, h2⟩ := forL_inv (body := fun ρ => evSs (P k) [] p12_5 ρ) (pl := []) (tg := .one 5)
    (I := fun i ρ => ∃ (xs : List Int) (r : Int) (u v : Sl), ρ = [.ow (.sh (.int c)), .ow (.sh (.lst (ms.map .int))), .ow (.sh (.int r)), .ow (.sh (.bl g)), .ow (.lst (xs.map iT)), u, v] ∧ (u = .no ∨ ∃ x, u = .ow (.sh (.int x))) ∧ (v = .no ∨ ∃ x, v = .ow (.sh (.int x))) ∧ xs.length = i ∧ ∀ j, j < i → 0 ≤ xs.getD j 0 ∧ xs.getD j 0 < ms.getD j 0)
    ((List.range ms.length).map fun k => .int (k : Nat)) [.ow (.sh (.int c)), .ow (.sh (.lst (ms.map .int))), .ow (.sh (.int r0)), .ow (.sh (.bl g)), .ow (.lst []), .no, .no] ⟨[], r0, .no, .no, rfl, .inl rfl, .inl rfl, rfl, fun j h => absurd h (Nat.not_lt_zero j)⟩
    (fun i d ρ e hI => by
      obtain ⟨xs, r, u, v, rfl, hu, hv, hx, hin⟩ := hI
      obtain ⟨i', e1, rfl⟩ := by rw [List.getElem?_map] at e; exact Option.map_eq_some_iff.mp e
      obtain ⟨hi, e1⟩ := List.getElem?_eq_some_iff.mp e1
      rw [List.getElem_range] at e1
      subst e1
      rw [List.length_range] at hi
      have ix := idx_sl ms i hi
      have hmi : 0 < ms.getD i 0 ∧ ms.getD i 0 < 1073741824 := hm _ (by rw [List.getD_eq_getElem?_getD, List.getElem?_eq_getElem hi]; exact List.getElem_mem hi)
      generalize hM : ms.getD i 0 = M at ix hmi
      have ext : ∀ y : Int, 0 ≤ y → y < M → (xs ++ [y]).length = i + 1 ∧ ∀ j, j < i + 1 → 0 ≤ (xs ++ [y]).getD j 0 ∧ (xs ++ [y]).getD j 0 < ms.getD j 0 := fun y h0 h1 => by
        refine ⟨by simp [hx], fun j hj => ?_⟩
        by_cases hji : j < i
        · rw [List.getD_eq_getElem?_getD, List.getElem?_append_left (by omega), ← List.getD_eq_getElem?_getD]
          exact hin j hji
        · have : j = i := by omega
          subst this
          rw [List.getD_eq_getElem?_getD, List.getElem?_append_right (by omega), hx, hM]
          simp [h0, h1]
      have s1 : setTg [] (.one 5) (.int (i : Nat)) [.ow (.sh (.int c)), .ow (.sh (.lst (ms.map .int))), .ow (.sh (.int r)), .ow (.sh (.bl g)), .ow (.lst (xs.map iT)), u, v] = some [.ow (.sh (.int c)), .ow (.sh (.lst (ms.map .int))), .ow (.sh (.int r)), .ow (.sh (.bl g)), .ow (.lst (xs.map iT)), .ow (.sh (.int i)), v] := by
        rcases hu with rfl | ⟨x, rfl⟩ <;> rfl
      cases g with
      | true =>
        obtain ⟨q1, q2⟩ := ext (r % M) (Int.emod_nonneg _ (by omega)) (Int.emod_lt_of_pos _ hmi.1)
        exact ⟨_, _, s1, turn_t k c ms xs r M i v ix hmi (by omega), _, _, _, _, rfl, .inr ⟨_, rfl⟩, hv, q1, q2⟩
      | false =>
        obtain ⟨q1, q2⟩ := ext (mixB r i / 7 % M) (Int.emod_nonneg _ (by omega)) (Int.emod_lt_of_pos _ hmi.1)
        exact ⟨_, _, s1, turn_f k c ms xs r M i v hv ix hmi ⟨by omega, by omega⟩ (by omega), _, _, _, _, rfl, .inr ⟨_, rfl⟩, .inr ⟨_, rfl⟩, q1, q2⟩)
  obtain ⟨xs, r, u, v, rfl, _, _, hx, hin⟩ := h2
  rw [List.length_map, List.length_range] at hx hin
  exact ⟨xs, _, ⟨hx, hin⟩, h1, _, _, _, rfl⟩
theorem draws_eq (k : Nat) (c : Int) (ms : List Int) (hm : ∀ m ∈ ms, 0 < m ∧ m < 1073741824) (hl : ms.length < 1000) :
    ∃ xs, Within xs ms ∧ P (k + 1) 12 [.sh (.int c), .sh (.lst (ms.map .int))] = .ok (.lst (xs.map iT), [.sh (.int c), .sh (.lst (ms.map .int))]) := by
  rw [step k 12 _ f12 t12]
  have ln : Op.ev (.bi .len) [.sh (.lst (ms.map .int))] = some (.sh (.int ms.length)) := by show some (OT.sh (D.int ((ms.map D.int).length : Nat))) = _; rw [List.length_map]
  have hI : ∀ a g, evI (P k) [] (.rng1 (.op (.bi .len) (.cons (.bor 1 []) .nil))) [.ow (.sh (.int c)), .ow (.sh (.lst (ms.map .int))), .ow (.sh (.int a)), .ow (.sh (.bl g)), .ow (.lst []), .no, .no] = .ok ((List.range ms.length).map fun k => .int (k : Nat), [.ow (.sh (.int c)), .ow (.sh (.lst (ms.map .int))), .ow (.sh (.int a)), .ow (.sh (.bl g)), .ow (.lst []), .no, .no]) := fun a g => by
    have := range1_val (Φ := P k) (pl := []) (b := .op (.bi .len) (.cons (.bor 1 []) .nil)) (ρ := [.ow (.sh (.int c)), .ow (.sh (.lst (ms.map .int))), .ow (.sh (.int a)), .ow (.sh (.bl g)), .ow (.lst []), .no, .no]) (ρ2 := [.ow (.sh (.int c)), .ow (.sh (.lst (ms.map .int))), .ow (.sh (.int a)), .ow (.sh (.bl g)), .ow (.lst []), .no, .no]) (j := (ms.length : Int)) (by simp [D.tyName, ev_isi_t, isTy, fillA, backA, goneA, cm_le_ii, cm_lt_ii, getV, Fn.run, Fn.run0, evSs, evS, evT, evAll, evAny, evO, evE, evOs, evEs, evAs, evB, evAnd, evOr, CH.R.bind, R.ofO, CH.Env.tree, CH.Env.own, CH.Env.ownL, OT.getP, lock, unlock, outs, tru_b, ev_eq_ii, ev_ne_ii, ev_lt_ii, ev_le_ii, ev_gt_ii, ev_ge_ii, ev_add_ii, ev_sub_ii, ev_neg_i, ev_int_i, ev_abs_i, ev_len_l, ev_len_t, ev_len_f, ev_idx, mulOk_r, ev_mul_ii, OT.toD, ln]) (by omega)
    rw [this, Int.toNat_natCast]
  have fin : ∀ g r0, ∃ xs, Within xs ms ∧ ∃ ρ', evSs (P k) [] (.cons q12_3 (.cons q12_4 (.cons q12_5 .nil))) [.ow (.sh (.int c)), .ow (.sh (.lst (ms.map .int))), .ow (.sh (.int r0)), .ow (.sh (.bl g)), .no, .no, .no] = .ok (.rt (.lst (xs.map iT)), ρ') ∧ ρ'[0]? = some (.ow (.sh (.int c))) ∧ ρ'[1]? = some (.ow (.sh (.lst (ms.map .int)))) := by
    intro g r0
    obtain ⟨xs, ρ', hw, hf, a, b, d, rfl⟩ := loop_eq k c ms hm hl g r0
    refine ⟨xs, hw, [.ow (.sh (.int c)), .ow (.sh (.lst (ms.map .int))), a, .ow (.sh (.bl g)), .no, b, d], ?_, rfl, rfl⟩
    rw [ss_next (ρ1 := [.ow (.sh (.int c)), .ow (.sh (.lst (ms.map .int))), .ow (.sh (.int r0)), .ow (.sh (.bl g)), .ow (.lst []), .no, .no]) (by simp [q12_3, D.tyName, ev_isi_t, isTy, fillA, backA, goneA, cm_le_ii, cm_lt_ii, getV, Fn.run, Fn.run0, evSs, evS, evT, evAll, evAny, evO, evE, evOs, evEs, evAs, evB, evAnd, evOr, CH.R.bind, R.ofO, CH.Env.tree, CH.Env.own, CH.Env.ownL, OT.getP, lock, unlock, outs, tru_b, ev_eq_ii, ev_ne_ii, ev_lt_ii, ev_le_ii, ev_gt_ii, ev_ge_ii, ev_add_ii, ev_sub_ii, ev_neg_i, ev_int_i, ev_abs_i, ev_len_l, ev_len_t, ev_len_f, ev_idx, mulOk_r, ev_mul_ii, OT.toD])]
    rw [ss_next (s := q12_4) (ρ1 := [.ow (.sh (.int c)), .ow (.sh (.lst (ms.map .int))), a, .ow (.sh (.bl g)), .ow (.lst (xs.map iT)), b, d]) (by unfold q12_4; rw [evS, hI]; simp only [CH.R.bind, backI]; rw [hf])]
    exact ss_stop (by simp [q12_5, D.tyName, ev_isi_t, isTy, fillA, backA, goneA, cm_le_ii, cm_lt_ii, getV, Fn.run, Fn.run0, evSs, evS, evT, evAll, evAny, evO, evE, evOs, evEs, evAs, evB, evAnd, evOr, CH.R.bind, R.ofO, CH.Env.tree, CH.Env.own, CH.Env.ownL, OT.getP, lock, unlock, outs, tru_b, ev_eq_ii, ev_ne_ii, ev_lt_ii, ev_le_ii, ev_gt_ii, ev_ge_ii, ev_add_ii, ev_sub_ii, ev_neg_i, ev_int_i, ev_abs_i, ev_len_l, ev_len_t, ev_len_f, ev_idx, mulOk_r, ev_mul_ii, OT.toD])
  have start : ∀ g A, decide (1000000000000000000 ≤ A) = g → (A = if c < 0 then -c else c) → evSs (P k) [] b12 [.ow (.sh (.int c)), .ow (.sh (.lst (ms.map .int))), .no, .no, .no, .no, .no] = evSs (P k) [] (.cons q12_2 (.cons q12_3 (.cons q12_4 (.cons q12_5 .nil)))) [.ow (.sh (.int c)), .ow (.sh (.lst (ms.map .int))), .ow (.sh (.int A)), .ow (.sh (.bl g)), .no, .no, .no] := by
    intro g A hg hA
    unfold b12
    rw [ss_next (ρ1 := [.ow (.sh (.int c)), .ow (.sh (.lst (ms.map .int))), .ow (.sh (.int A)), .no, .no, .no, .no]) (by rw [hA]; simp [q12_0, D.tyName, ev_isi_t, isTy, fillA, backA, goneA, cm_le_ii, cm_lt_ii, getV, Fn.run, Fn.run0, evSs, evS, evT, evAll, evAny, evO, evE, evOs, evEs, evAs, evB, evAnd, evOr, CH.R.bind, R.ofO, CH.Env.tree, CH.Env.own, CH.Env.ownL, OT.getP, lock, unlock, outs, tru_b, ev_eq_ii, ev_ne_ii, ev_lt_ii, ev_le_ii, ev_gt_ii, ev_ge_ii, ev_add_ii, ev_sub_ii, ev_neg_i, ev_int_i, ev_abs_i, ev_len_l, ev_len_t, ev_len_f, ev_idx, mulOk_r, ev_mul_ii, OT.toD])]
    rw [ss_next (ρ1 := [.ow (.sh (.int c)), .ow (.sh (.lst (ms.map .int))), .ow (.sh (.int A)), .ow (.sh (.bl g)), .no, .no, .no]) (by rw [← hg]; simp [q12_1, D.tyName, ev_isi_t, isTy, fillA, backA, goneA, cm_le_ii, cm_lt_ii, getV, Fn.run, Fn.run0, evSs, evS, evT, evAll, evAny, evO, evE, evOs, evEs, evAs, evB, evAnd, evOr, CH.R.bind, R.ofO, CH.Env.tree, CH.Env.own, CH.Env.ownL, OT.getP, lock, unlock, outs, tru_b, ev_eq_ii, ev_ne_ii, ev_lt_ii, ev_le_ii, ev_gt_ii, ev_ge_ii, ev_add_ii, ev_sub_ii, ev_neg_i, ev_int_i, ev_abs_i, ev_len_l, ev_len_t, ev_len_f, ev_idx, mulOk_r, ev_mul_ii, OT.toD, pow18])]
  have done : ∀ {t ρ'}, evSs (P k) [] b12 [.ow (.sh (.int c)), .ow (.sh (.lst (ms.map .int))), .no, .no, .no, .no, .no] = .ok (.rt t, ρ') → ρ'[0]? = some (.ow (.sh (.int c))) → ρ'[1]? = some (.ow (.sh (.lst (ms.map .int)))) → f12.run (P k) [.sh (.int c), .sh (.lst (ms.map .int))] = .ok (t, [.sh (.int c), .sh (.lst (ms.map .int))]) := fun {t ρ'} h h0 h1 => run_rt rfl h rfl
  generalize hA : (if c < 0 then -c else c) = A
  by_cases h1 : 1000000000000000000 ≤ A
  · obtain ⟨xs, hw, ρ', hf, h3, h4⟩ := fin true (A - 1000000000000000000)
    refine ⟨xs, hw, done (ρ' := ρ') ?_ h3 h4⟩
    rw [start true A (decide_eq_true h1) hA.symm, ← hf, ss_next (s := q12_2)]
    unfold q12_2
    rw [ife_t (ρ1 := [.ow (.sh (.int c)), .ow (.sh (.lst (ms.map .int))), .ow (.sh (.int A)), .ow (.sh (.bl true)), .no, .no, .no]) (by simp [D.tyName, ev_isi_t, isTy, fillA, backA, goneA, cm_le_ii, cm_lt_ii, getV, Fn.run, Fn.run0, evSs, evS, evT, evAll, evAny, evO, evE, evOs, evEs, evAs, evB, evAnd, evOr, CH.R.bind, R.ofO, CH.Env.tree, CH.Env.own, CH.Env.ownL, OT.getP, lock, unlock, outs, tru_b, ev_eq_ii, ev_ne_ii, ev_lt_ii, ev_le_ii, ev_gt_ii, ev_ge_ii, ev_add_ii, ev_sub_ii, ev_neg_i, ev_int_i, ev_abs_i, ev_len_l, ev_len_t, ev_len_f, ev_idx, mulOk_r, ev_mul_ii, OT.toD]), ss_end]
    simp [D.tyName, ev_isi_t, isTy, fillA, backA, goneA, cm_le_ii, cm_lt_ii, getV, Fn.run, Fn.run0, evSs, evS, evT, evAll, evAny, evO, evE, evOs, evEs, evAs, evB, evAnd, evOr, CH.R.bind, R.ofO, CH.Env.tree, CH.Env.own, CH.Env.ownL, OT.getP, lock, unlock, outs, tru_b, ev_eq_ii, ev_ne_ii, ev_lt_ii, ev_le_ii, ev_gt_ii, ev_ge_ii, ev_add_ii, ev_sub_ii, ev_neg_i, ev_int_i, ev_abs_i, ev_len_l, ev_len_t, ev_len_f, ev_idx, mulOk_r, ev_mul_ii, OT.toD, pow18]
  · by_cases h2 : c < 0
    · obtain ⟨xs, hw, ρ', hf, h3, h4⟩ := fin false (A + 500009)
      refine ⟨xs, hw, done (ρ' := ρ') ?_ h3 h4⟩
      rw [start false A (decide_eq_false h1) hA.symm, ← hf, ss_next (s := q12_2)]
      unfold q12_2
      rw [ife_f (ρ1 := [.ow (.sh (.int c)), .ow (.sh (.lst (ms.map .int))), .ow (.sh (.int A)), .ow (.sh (.bl false)), .no, .no, .no]) (by simp [D.tyName, ev_isi_t, isTy, fillA, backA, goneA, cm_le_ii, cm_lt_ii, getV, Fn.run, Fn.run0, evSs, evS, evT, evAll, evAny, evO, evE, evOs, evEs, evAs, evB, evAnd, evOr, CH.R.bind, R.ofO, CH.Env.tree, CH.Env.own, CH.Env.ownL, OT.getP, lock, unlock, outs, tru_b, ev_eq_ii, ev_ne_ii, ev_lt_ii, ev_le_ii, ev_gt_ii, ev_ge_ii, ev_add_ii, ev_sub_ii, ev_neg_i, ev_int_i, ev_abs_i, ev_len_l, ev_len_t, ev_len_f, ev_idx, mulOk_r, ev_mul_ii, OT.toD]), ss_end, ife_t (ρ1 := [.ow (.sh (.int c)), .ow (.sh (.lst (ms.map .int))), .ow (.sh (.int A)), .ow (.sh (.bl false)), .no, .no, .no]) (by simp [D.tyName, ev_isi_t, isTy, fillA, backA, goneA, cm_le_ii, cm_lt_ii, getV, Fn.run, Fn.run0, evSs, evS, evT, evAll, evAny, evO, evE, evOs, evEs, evAs, evB, evAnd, evOr, CH.R.bind, R.ofO, CH.Env.tree, CH.Env.own, CH.Env.ownL, OT.getP, lock, unlock, outs, tru_b, ev_eq_ii, ev_ne_ii, ev_lt_ii, ev_le_ii, ev_gt_ii, ev_ge_ii, ev_add_ii, ev_sub_ii, ev_neg_i, ev_int_i, ev_abs_i, ev_len_l, ev_len_t, ev_len_f, ev_idx, mulOk_r, ev_mul_ii, OT.toD, h2]), ss_end]
      simp [D.tyName, ev_isi_t, isTy, fillA, backA, goneA, cm_le_ii, cm_lt_ii, getV, Fn.run, Fn.run0, evSs, evS, evT, evAll, evAny, evO, evE, evOs, evEs, evAs, evB, evAnd, evOr, CH.R.bind, R.ofO, CH.Env.tree, CH.Env.own, CH.Env.ownL, OT.getP, lock, unlock, outs, tru_b, ev_eq_ii, ev_ne_ii, ev_lt_ii, ev_le_ii, ev_gt_ii, ev_ge_ii, ev_add_ii, ev_sub_ii, ev_neg_i, ev_int_i, ev_abs_i, ev_len_l, ev_len_t, ev_len_f, ev_idx, mulOk_r, ev_mul_ii, OT.toD]
    · obtain ⟨xs, hw, ρ', hf, h3, h4⟩ := fin false A
      refine ⟨xs, hw, done (ρ' := ρ') ?_ h3 h4⟩
      rw [start false A (decide_eq_false h1) hA.symm, ← hf, ss_next (s := q12_2)]
      unfold q12_2
      rw [ife_f (ρ1 := [.ow (.sh (.int c)), .ow (.sh (.lst (ms.map .int))), .ow (.sh (.int A)), .ow (.sh (.bl false)), .no, .no, .no]) (by simp [D.tyName, ev_isi_t, isTy, fillA, backA, goneA, cm_le_ii, cm_lt_ii, getV, Fn.run, Fn.run0, evSs, evS, evT, evAll, evAny, evO, evE, evOs, evEs, evAs, evB, evAnd, evOr, CH.R.bind, R.ofO, CH.Env.tree, CH.Env.own, CH.Env.ownL, OT.getP, lock, unlock, outs, tru_b, ev_eq_ii, ev_ne_ii, ev_lt_ii, ev_le_ii, ev_gt_ii, ev_ge_ii, ev_add_ii, ev_sub_ii, ev_neg_i, ev_int_i, ev_abs_i, ev_len_l, ev_len_t, ev_len_f, ev_idx, mulOk_r, ev_mul_ii, OT.toD]), ss_end, ife_f (ρ1 := [.ow (.sh (.int c)), .ow (.sh (.lst (ms.map .int))), .ow (.sh (.int A)), .ow (.sh (.bl false)), .no, .no, .no]) (by simp [D.tyName, ev_isi_t, isTy, fillA, backA, goneA, cm_le_ii, cm_lt_ii, getV, Fn.run, Fn.run0, evSs, evS, evT, evAll, evAny, evO, evE, evOs, evEs, evAs, evB, evAnd, evOr, CH.R.bind, R.ofO, CH.Env.tree, CH.Env.own, CH.Env.ownL, OT.getP, lock, unlock, outs, tru_b, ev_eq_ii, ev_ne_ii, ev_lt_ii, ev_le_ii, ev_gt_ii, ev_ge_ii, ev_add_ii, ev_sub_ii, ev_neg_i, ev_int_i, ev_abs_i, ev_len_l, ev_len_t, ev_len_f, ev_idx, mulOk_r, ev_mul_ii, OT.toD, h2])]
      simp [D.tyName, ev_isi_t, isTy, fillA, backA, goneA, cm_le_ii, cm_lt_ii, getV, Fn.run, Fn.run0, evSs, evS, evT, evAll, evAny, evO, evE, evOs, evEs, evAs, evB, evAnd, evOr, CH.R.bind, R.ofO, CH.Env.tree, CH.Env.own, CH.Env.ownL, OT.getP, lock, unlock, outs, tru_b, ev_eq_ii, ev_ne_ii, ev_lt_ii, ev_le_ii, ev_gt_ii, ev_ge_ii, ev_add_ii, ev_sub_ii, ev_neg_i, ev_int_i, ev_abs_i, ev_len_l, ev_len_t, ev_len_f, ev_idx, mulOk_r, ev_mul_ii, OT.toD]
end K75
end
section
namespace K75
open PySem L2 Evl PyProof.Rows CH
theorem cell_eq (k : Nat) (ns : List Int) (j : Nat) : ∃ c, P (k + 1) 11 [.sh (.flst (ns.map .int)), .sh (.int j)] = .ok (.sh (.int c), [.sh (.flst (ns.map .int)), .sh (.int j)]) := by
  rw [step k 11 _ f11 t11]
  by_cases h : j < ns.length
  · have ix := idx_sf ns j h
    have lt : (j : Int) < ns.length := by omega
    refine ⟨ns.getD j 0, run_rt (ρ := [.ow (.sh (.flst (ns.map .int))), .ow (.sh (.int j)), .no, .no]) rfl (ss_stop (s := q11_0) ?_) rfl⟩
    generalize (j : Int) = jj at ix lt
    show evS (P k) [] q11_0 [.ow (.sh (.flst (ns.map .int))), .ow (.sh (.int jj)), .no, .no] = _
    unfold q11_0
    rw [ife_t (ρ1 := [.ow (.sh (.flst (ns.map .int))), .ow (.sh (.int jj)), .no, .no]) (by simp [D.tyName, ev_isi_t, isTy, fillA, backA, goneA, cm_le_ii, cm_lt_ii, getV, Fn.run, Fn.run0, evSs, evS, evT, evAll, evAny, evO, evE, evOs, evEs, evAs, evB, evAnd, evOr, CH.R.bind, R.ofO, CH.Env.tree, CH.Env.own, CH.Env.ownL, OT.getP, lock, unlock, outs, tru_b, ev_eq_ii, ev_ne_ii, ev_lt_ii, ev_le_ii, ev_gt_ii, ev_ge_ii, ev_add_ii, ev_sub_ii, ev_neg_i, ev_int_i, ev_abs_i, ev_len_l, ev_len_t, ev_len_f, ev_idx, mulOk_r, ev_mul_ii, OT.toD, lt]), ss_end]
    simp [D.tyName, ev_isi_t, isTy, fillA, backA, goneA, cm_le_ii, cm_lt_ii, getV, Fn.run, Fn.run0, evSs, evS, evT, evAll, evAny, evO, evE, evOs, evEs, evAs, evB, evAnd, evOr, CH.R.bind, R.ofO, CH.Env.tree, CH.Env.own, CH.Env.ownL, OT.getP, lock, unlock, outs, tru_b, ev_eq_ii, ev_ne_ii, ev_lt_ii, ev_le_ii, ev_gt_ii, ev_ge_ii, ev_add_ii, ev_sub_ii, ev_neg_i, ev_int_i, ev_abs_i, ev_len_l, ev_len_t, ev_len_f, ev_idx, mulOk_r, ev_mul_ii, OT.toD, ix]
  · have lt : ¬ ((j : Int) < ns.length) := by omega
    have lp : ∀ (jj r : Int), ∃ r', forL (fun ρ => evSs (P k) [] p11_0 ρ) [] (.one 3) ((CH.cutD ns none (some 3)).map .int) [.ow (.sh (.flst (ns.map .int))), .ow (.sh (.int jj)), .ow (.sh (.int r)), .no] = .ok (.nx, r') ∧ ∃ x u, r' = [.ow (.sh (.flst (ns.map .int))), .ow (.sh (.int jj)), .ow (.sh (.int x)), u] := by
      intro jj r
      obtain ⟨ρ', h1, x, u, _, h2⟩ := forL_inv (body := fun ρ => evSs (P k) [] p11_0 ρ) (pl := []) (tg := .one 3) (I := fun _ ρ => ∃ x u, (u = .no ∨ ∃ y, u = .ow (.sh (.int y))) ∧ ρ = [.ow (.sh (.flst (ns.map .int))), .ow (.sh (.int jj)), .ow (.sh (.int x)), u])
        ((CH.cutD ns none (some 3)).map .int) [.ow (.sh (.flst (ns.map .int))), .ow (.sh (.int jj)), .ow (.sh (.int r)), .no] ⟨r, .no, .inl rfl, rfl⟩ (fun i d ρ e hI => by
          obtain ⟨x, u, hu, rfl⟩ := hI
          obtain ⟨y, _, rfl⟩ := by rw [List.getElem?_map] at e; exact Option.map_eq_some_iff.mp e
          have m1 := fun x : Int => ev_mod_ii x 999983 (by omega)
          refine ⟨[.ow (.sh (.flst (ns.map .int))), .ow (.sh (.int jj)), .ow (.sh (.int x)), .ow (.sh (.int y))], [.ow (.sh (.flst (ns.map .int))), .ow (.sh (.int jj)), .ow (.sh (.int ((x * 1009 + y) % 999983))), .ow (.sh (.int y))], ?_, ?_, _, _, .inr ⟨y, rfl⟩, rfl⟩
          · rcases hu with rfl | ⟨y', rfl⟩ <;> rfl
          · simp [p11_0, D.tyName, ev_isi_t, isTy, fillA, backA, goneA, cm_le_ii, cm_lt_ii, getV, Fn.run, Fn.run0, evSs, evS, evT, evAll, evAny, evO, evE, evOs, evEs, evAs, evB, evAnd, evOr, CH.R.bind, R.ofO, CH.Env.tree, CH.Env.own, CH.Env.ownL, OT.getP, lock, unlock, outs, tru_b, ev_eq_ii, ev_ne_ii, ev_lt_ii, ev_le_ii, ev_gt_ii, ev_ge_ii, ev_add_ii, ev_sub_ii, ev_neg_i, ev_int_i, ev_abs_i, ev_len_l, ev_len_t, ev_len_f, ev_idx, mulOk_r, ev_mul_ii, OT.toD, m1])
      exact ⟨ρ', h1, x, u, h2⟩
    obtain ⟨r', h1, x, u, rfl⟩ := lp j 17
    refine ⟨x * 64 + j, run_rt (ρ := [.ow (.sh (.flst (ns.map .int))), .ow (.sh (.int j)), .ow (.sh (.int x)), u]) rfl ?_ rfl⟩
    generalize (j : Int) = jj at lt h1
    show evSs (P k) [] b11 [.ow (.sh (.flst (ns.map .int))), .ow (.sh (.int jj)), .no, .no] = _
    unfold b11
    rw [ss_next (ρ1 := [.ow (.sh (.flst (ns.map .int))), .ow (.sh (.int jj)), .no, .no]) (by
      unfold q11_0
      rw [ife_f (ρ1 := [.ow (.sh (.flst (ns.map .int))), .ow (.sh (.int jj)), .no, .no]) (by simp [D.tyName, ev_isi_t, isTy, fillA, backA, goneA, cm_le_ii, cm_lt_ii, getV, Fn.run, Fn.run0, evSs, evS, evT, evAll, evAny, evO, evE, evOs, evEs, evAs, evB, evAnd, evOr, CH.R.bind, R.ofO, CH.Env.tree, CH.Env.own, CH.Env.ownL, OT.getP, lock, unlock, outs, tru_b, ev_eq_ii, ev_ne_ii, ev_lt_ii, ev_le_ii, ev_gt_ii, ev_ge_ii, ev_add_ii, ev_sub_ii, ev_neg_i, ev_int_i, ev_abs_i, ev_len_l, ev_len_t, ev_len_f, ev_idx, mulOk_r, ev_mul_ii, OT.toD, lt])]
      simp [evSs])]
    rw [ss_next (ρ1 := [.ow (.sh (.flst (ns.map .int))), .ow (.sh (.int jj)), .ow (.sh (.int 17)), .no]) (by simp [q11_1, D.tyName, ev_isi_t, isTy, fillA, backA, goneA, cm_le_ii, cm_lt_ii, getV, Fn.run, Fn.run0, evSs, evS, evT, evAll, evAny, evO, evE, evOs, evEs, evAs, evB, evAnd, evOr, CH.R.bind, R.ofO, CH.Env.tree, CH.Env.own, CH.Env.ownL, OT.getP, lock, unlock, outs, tru_b, ev_eq_ii, ev_ne_ii, ev_lt_ii, ev_le_ii, ev_gt_ii, ev_ge_ii, ev_add_ii, ev_sub_ii, ev_neg_i, ev_int_i, ev_abs_i, ev_len_l, ev_len_t, ev_len_f, ev_idx, mulOk_r, ev_mul_ii, OT.toD])]
    rw [ss_next (ρ1 := [.ow (.sh (.flst (ns.map .int))), .ow (.sh (.int jj)), .ow (.sh (.int x)), u]) (by
      unfold q11_2
      have it : OT.items (newL (CH.cutD (ns.map D.int) none (some 3))) = some ((CH.cutD ns none (some 3)).map .int) := by rw [cut_map]; exact leaves_map _
      have ei : evI (P k) [] (.seq (.e (.slc (.bor 0 []) .no (.at (.c (.int 3)))))) [.ow (.sh (.flst (ns.map .int))), .ow (.sh (.int jj)), .ow (.sh (.int 17)), .no] = .ok ((CH.cutD ns none (some 3)).map .int, [.ow (.sh (.flst (ns.map .int))), .ow (.sh (.int jj)), .ow (.sh (.int 17)), .no]) := by
        simp [D.tyName, ev_isi_t, isTy, fillA, backA, goneA, cm_le_ii, cm_lt_ii, getV, Fn.run, Fn.run0, evSs, evS, evT, evAll, evAny, evO, evE, evOs, evEs, evAs, evB, evAnd, evOr, CH.R.bind, R.ofO, CH.Env.tree, CH.Env.own, CH.Env.ownL, OT.getP, lock, unlock, outs, tru_b, ev_eq_ii, ev_ne_ii, ev_lt_ii, ev_le_ii, ev_gt_ii, ev_ge_ii, ev_add_ii, ev_sub_ii, ev_neg_i, ev_int_i, ev_abs_i, ev_len_l, ev_len_t, ev_len_f, ev_idx, mulOk_r, ev_mul_ii, OT.toD, evI, CH.b2, slcEv, it]
      rw [evS, ei]
      simp only [CH.R.bind, backI]
      rw [h1])]
    exact ss_stop (by simp [q11_3, D.tyName, ev_isi_t, isTy, fillA, backA, goneA, cm_le_ii, cm_lt_ii, getV, Fn.run, Fn.run0, evSs, evS, evT, evAll, evAny, evO, evE, evOs, evEs, evAs, evB, evAnd, evOr, CH.R.bind, R.ofO, CH.Env.tree, CH.Env.own, CH.Env.ownL, OT.getP, lock, unlock, outs, tru_b, ev_eq_ii, ev_ne_ii, ev_lt_ii, ev_le_ii, ev_gt_ii, ev_ge_ii, ev_add_ii, ev_sub_ii, ev_neg_i, ev_int_i, ev_abs_i, ev_len_l, ev_len_t, ev_len_f, ev_idx, mulOk_r, ev_mul_ii, OT.toD])
end K75
end
section
namespace K75
open PySem L2 Evl PyProof.Rows CH
def absI (i : Int) : Int := if i < 0 then -i else i
def seqOf (l : Bool) (ds : List D) : D := if l = true then .lst ds else .tup ds
def bI (j : Nat) (ns : List Int) : Bool := decide (ns.getD j 0 < ns.getD (j + 1) 0)
def rising (ns : List Int) : Bool := (List.range (ns.length - 1)).all fun j => bI j ns
theorem idx_seq (l : Bool) (ns : List Int) (j : Nat) (h : j < ns.length) : idxEv (.sh (seqOf l (ns.map .int))) (j : Int) = some (.sh (.int (ns.getD j 0))) := by
  have e : (OT.sh (seqOf l (ns.map .int))).items = some (ns.map .int) := by cases l <;> rfl
  have e2 : atI (ns.map D.int) (j : Int) = some (.int (ns.getD j 0)) := atI_nat (by rw [List.getElem?_map, List.getElem?_eq_getElem h, List.getD_eq_getElem?_getD, List.getElem?_eq_getElem h]; rfl)
  cases l
  · show ((OT.items (.sh (.tup (ns.map .int)))).bind fun ds => (atI ds (j : Int)).map OT.sh) = _
    rw [show OT.items (.sh (.tup (ns.map .int))) = some (ns.map .int) from rfl]
    show (atI (ns.map D.int) (j : Int)).map OT.sh = _
    rw [e2]; rfl
  · show ((OT.items (.sh (.lst (ns.map .int)))).bind fun ds => (atI ds (j : Int)).map OT.sh) = _
    rw [show OT.items (.sh (.lst (ns.map .int))) = some (ns.map .int) from rfl]
    show (atI (ns.map D.int) (j : Int)).map OT.sh = _
    rw [e2]; rfl
theorem len_seq (l : Bool) (ds : List D) : Op.ev (.bi .len) [.sh (seqOf l ds)] = some (.sh (.int ds.length)) := by cases l <;> rfl
/-- plain data -/
inductive Pl : D → Prop
  | non : Pl .non
  | bl (b : Bool) : Pl (.bl b)
  | int (i : Int) : Pl (.int i)
  | str {s : Str} : PyData.strOk s = true → Pl (.str s)
  | tup {ds : List D} : ds.length < 1000000 → (∀ d ∈ ds, Pl d) → Pl (.tup ds)
  | lst {ds : List D} : ds.length < 1000000 → (∀ d ∈ ds, Pl d) → Pl (.lst ds)
def isI : D → Bool
  | .int _ => true
  | _ => false
theorem int_run (k : Nat) {v : D} (h : Pl v) : P (k + 1) 0 [.sh v] = .ok (.sh (.bl (isI v)), [.sh v]) := by
  cases h <;> rfl
theorem isI_int {d : D} (h : isI d = true) : ∃ i, d = .int i := by cases d <;> first | exact ⟨_, rfl⟩ | cases h
def absD : D → Int
  | .int i => absI i
  | _ => 0
def numD : D → Int
  | .int i => i
  | _ => 0
theorem numD_map (ns : List Int) : (ns.map D.int).map numD = ns := by rw [List.map_map]; exact List.map_id _
theorem absD_map (ns : List Int) : (ns.map D.int).map absD = ns.map absI := by rw [List.map_map]; rfl
theorem at0 (d : D) (ds : List D) : idxEv (.sh (.tup (d :: ds))) 0 = some (.sh d) := by
  show (atI (d :: ds) ((0 : Nat) : Int)).map OT.sh = _
  rw [atI_nat (v := d) rfl]; rfl
theorem at1 (d e : D) (ds : List D) : idxEv (.sh (.tup (d :: e :: ds))) 1 = some (.sh e) := by
  show (atI (d :: e :: ds) ((1 : Nat) : Int)).map OT.sh = _
  rw [atI_nat (v := e) rfl]; rfl
theorem at2 (d e f : D) (ds : List D) : idxEv (.sh (.tup (d :: e :: f :: ds))) 2 = some (.sh f) := by
  show (atI (d :: e :: f :: ds) ((2 : Nat) : Int)).map OT.sh = _
  rw [atI_nat (v := f) rfl]; rfl
def isPair : D → Bool
  | .tup [_, _] => true
  | _ => false
theorem pair_run (k : Nat) {v : D} (h : Pl v) : P (k + 1) 1 [.sh v] = .ok (.sh (.bl (isPair v)), [.sh v]) := by
  rw [step k 1 _ f1 t1]
  cases h with
  | @tup ds hz hd =>
    match ds with
    | [] => simp [f1, b1, q1_0, D.tyName, ev_isi_t, isTy, fillA, backA, goneA, cm_le_ii, cm_lt_ii, getV, Fn.run, Fn.run0, evSs, evS, evT, evAll, evAny, evO, evE, evOs, evEs, evAs, evB, evAnd, evOr, CH.R.bind, R.ofO, CH.Env.tree, CH.Env.own, CH.Env.ownL, OT.getP, lock, unlock, outs, tru_b, ev_eq_ii, ev_ne_ii, ev_lt_ii, ev_le_ii, ev_gt_ii, ev_ge_ii, ev_add_ii, ev_sub_ii, ev_neg_i, ev_int_i, ev_abs_i, ev_len_l, ev_len_t, ev_len_f, ev_idx, mulOk_r, ev_mul_ii, OT.toD, isPair]
    | [a] => simp [f1, b1, q1_0, D.tyName, ev_isi_t, isTy, fillA, backA, goneA, cm_le_ii, cm_lt_ii, getV, Fn.run, Fn.run0, evSs, evS, evT, evAll, evAny, evO, evE, evOs, evEs, evAs, evB, evAnd, evOr, CH.R.bind, R.ofO, CH.Env.tree, CH.Env.own, CH.Env.ownL, OT.getP, lock, unlock, outs, tru_b, ev_eq_ii, ev_ne_ii, ev_lt_ii, ev_le_ii, ev_gt_ii, ev_ge_ii, ev_add_ii, ev_sub_ii, ev_neg_i, ev_int_i, ev_abs_i, ev_len_l, ev_len_t, ev_len_f, ev_idx, mulOk_r, ev_mul_ii, OT.toD, isPair]
    | [a, b] => simp [f1, b1, q1_0, D.tyName, ev_isi_t, isTy, fillA, backA, goneA, cm_le_ii, cm_lt_ii, getV, Fn.run, Fn.run0, evSs, evS, evT, evAll, evAny, evO, evE, evOs, evEs, evAs, evB, evAnd, evOr, CH.R.bind, R.ofO, CH.Env.tree, CH.Env.own, CH.Env.ownL, OT.getP, lock, unlock, outs, tru_b, ev_eq_ii, ev_ne_ii, ev_lt_ii, ev_le_ii, ev_gt_ii, ev_ge_ii, ev_add_ii, ev_sub_ii, ev_neg_i, ev_int_i, ev_abs_i, ev_len_l, ev_len_t, ev_len_f, ev_idx, mulOk_r, ev_mul_ii, OT.toD, isPair]
    | a :: b :: c :: r => simp [f1, b1, q1_0, D.tyName, ev_isi_t, isTy, fillA, backA, goneA, cm_le_ii, cm_lt_ii, getV, Fn.run, Fn.run0, evSs, evS, evT, evAll, evAny, evO, evE, evOs, evEs, evAs, evB, evAnd, evOr, CH.R.bind, R.ofO, CH.Env.tree, CH.Env.own, CH.Env.ownL, OT.getP, lock, unlock, outs, tru_b, ev_eq_ii, ev_ne_ii, ev_lt_ii, ev_le_ii, ev_gt_ii, ev_ge_ii, ev_add_ii, ev_sub_ii, ev_neg_i, ev_int_i, ev_abs_i, ev_len_l, ev_len_t, ev_len_f, ev_idx, mulOk_r, ev_mul_ii, OT.toD, isPair]; omega
  | _ => simp [f1, b1, q1_0, D.tyName, ev_isi_t, isTy, fillA, backA, goneA, cm_le_ii, cm_lt_ii, getV, Fn.run, Fn.run0, evSs, evS, evT, evAll, evAny, evO, evE, evOs, evEs, evAs, evB, evAnd, evOr, CH.R.bind, R.ofO, CH.Env.tree, CH.Env.own, CH.Env.ownL, OT.getP, lock, unlock, outs, tru_b, ev_eq_ii, ev_ne_ii, ev_lt_ii, ev_le_ii, ev_gt_ii, ev_ge_ii, ev_add_ii, ev_sub_ii, ev_neg_i, ev_int_i, ev_abs_i, ev_len_l, ev_len_t, ev_len_f, ev_idx, mulOk_r, ev_mul_ii, OT.toD, isPair]
theorem lay_ints : ∀ ns : List Int, PyData.canLayAll0 (ns.map .int) = true
  | [] => rfl
  | n :: ns => by show (true && PyData.canLayAll0 (ns.map .int)) = true; rw [lay_ints ns]; rfl
theorem depth_ints : ∀ ns : List Int, PyData.depthAll (ns.map .int) = 0
  | [] => rfl
  | n :: ns => by show max 0 (PyData.depthAll (ns.map .int)) = 0; rw [depth_ints ns]; rfl
theorem toPs_ints : ∀ ns : List Int, toPs (ns.map .int) = some (ns.map .int)
  | [] => rfl
  | n :: ns => by show ((D.int n).toP.bind fun p => (toPs (ns.map .int)).map fun q => p :: q) = _; rw [toPs_ints ns]; rfl
theorem shaped_ints (ns : List Int) : SeqAt.shaped (.tuple (ns.map .int)) = true := by
  unfold SeqAt.shaped
  rw [show PyData.canLay0 (.tuple (ns.map .int)) = PyData.canLayAll0 (ns.map .int) from rfl, lay_ints, show PyData.depth (.tuple (ns.map .int)) = PyData.depthAll (ns.map .int) + 1 from rfl, depth_ints]
  rfl
theorem toP_ints (ns : List Int) : (D.tup (ns.map .int)).toP = some (.tuple (ns.map .int)) := by
  show (toPs (ns.map .int)).map _ = _
  rw [toPs_ints]; rfl
theorem shapedD_ints (ns : List Int) : shapedD (.tup (ns.map .int)) = true := by
  unfold shapedD
  rw [toP_ints]
  exact shaped_ints ns
/-- a clause: literals rising by size -/
def clGo (n : Int) : Int → List D → Bool
  | _, [] => true
  | a, .int i :: ds => if a < absI i ∧ absI i ≤ n then clGo n (absI i) ds else false
  | _, _ :: _ => false
def isCl (n : Int) : D → Bool
  | .tup ds => clGo n 0 ds
  | _ => false
theorem cl_loop (k : Nat) (n : Int) (v : D) : ∀ (ds : List D) (a : Int) (s : Sl), (s = .no ∨ ∃ d, s = .ow (.sh d)) → (∀ d ∈ ds, Pl d) → 
    ∃ ρ', (forL (fun ρ => evSs (P (k + 1)) [] p2_2 ρ) [] (.one 3) ds [.lk (.sh v), .ow (.sh (.int n)), .ow (.sh (.int a)), s] = .ok (if clGo n a ds = true then .nx else .rt (.sh (.bl false)), ρ')) ∧ ρ'[0]? = some (.lk (.sh v)) ∧ ρ'[1]? = some (.ow (.sh (.int n))) ∧ ρ'.length = 4
  | [], a, s, _, _ => ⟨_, rfl, rfl, rfl, rfl⟩
  | d :: ds, a, s, hs, hd => by
    have hp := hd d (by simp)
    have r := int_run k hp
    have st : setTg [] (.one 3) d [.lk (.sh v), .ow (.sh (.int n)), .ow (.sh (.int a)), s] = some [.lk (.sh v), .ow (.sh (.int n)), .ow (.sh (.int a)), .ow (.sh d)] := by
      rcases hs with rfl | ⟨e, rfl⟩ <;> rfl
    unfold forL
    rw [st]
    simp only
    cases hI : isI d with
    | true =>
      obtain ⟨i, rfl⟩ := isI_int hI
      by_cases h1 : a < absI i
      · by_cases h2 : absI i ≤ n
        · have h1' := h1; have h2' := h2; unfold absI at h1' h2'
          obtain ⟨ρ', e, e1, e2, e3⟩ := cl_loop k n v ds (absI i) (.ow (.sh (.int i))) (.inr ⟨_, rfl⟩) fun d hm => hd d (by simp [hm])
          refine ⟨ρ', ?_, e1, e2, e3⟩
          have hb : evSs (P (k + 1)) [] p2_2 [.lk (.sh v), .ow (.sh (.int n)), .ow (.sh (.int a)), .ow (.sh (.int i))] = .ok (.nx, [.lk (.sh v), .ow (.sh (.int n)), .ow (.sh (.int (absI i))), .ow (.sh (.int i))]) := by
            simp [p2_2, p2_1, p2_0, D.tyName, ev_isi_t, isTy, fillA, backA, goneA, cm_le_ii, cm_lt_ii, getV, Fn.run, Fn.run0, evSs, evS, evT, evAll, evAny, evO, evE, evOs, evEs, evAs, evB, evAnd, evOr, CH.R.bind, R.ofO, CH.Env.tree, CH.Env.own, CH.Env.ownL, OT.getP, lock, unlock, outs, tru_b, ev_eq_ii, ev_ne_ii, ev_lt_ii, ev_le_ii, ev_gt_ii, ev_ge_ii, ev_add_ii, ev_sub_ii, ev_neg_i, ev_int_i, ev_abs_i, ev_len_l, ev_len_t, ev_len_f, ev_idx, mulOk_r, ev_mul_ii, OT.toD, r, isI, h1', h2', absI]
          rw [hb]
          simp only [CH.R.bind]
          rw [e]
          simp [clGo, h1, h2]
        · have h1' := h1; have h2' := h2; unfold absI at h1' h2'
          refine ⟨[.lk (.sh v), .ow (.sh (.int n)), .ow (.sh (.int a)), .ow (.sh (.int i))], ?_, rfl, rfl, rfl⟩
          simp [p2_2, p2_1, p2_0, D.tyName, ev_isi_t, isTy, fillA, backA, goneA, cm_le_ii, cm_lt_ii, getV, Fn.run, Fn.run0, evSs, evS, evT, evAll, evAny, evO, evE, evOs, evEs, evAs, evB, evAnd, evOr, CH.R.bind, R.ofO, CH.Env.tree, CH.Env.own, CH.Env.ownL, OT.getP, lock, unlock, outs, tru_b, ev_eq_ii, ev_ne_ii, ev_lt_ii, ev_le_ii, ev_gt_ii, ev_ge_ii, ev_add_ii, ev_sub_ii, ev_neg_i, ev_int_i, ev_abs_i, ev_len_l, ev_len_t, ev_len_f, ev_idx, mulOk_r, ev_mul_ii, OT.toD, r, isI, h1', h2', clGo, h1, h2]
      · have h1' := h1; unfold absI at h1'
        refine ⟨[.lk (.sh v), .ow (.sh (.int n)), .ow (.sh (.int a)), .ow (.sh (.int i))], ?_, rfl, rfl, rfl⟩
        simp [p2_2, p2_1, p2_0, D.tyName, ev_isi_t, isTy, fillA, backA, goneA, cm_le_ii, cm_lt_ii, getV, Fn.run, Fn.run0, evSs, evS, evT, evAll, evAny, evO, evE, evOs, evEs, evAs, evB, evAnd, evOr, CH.R.bind, R.ofO, CH.Env.tree, CH.Env.own, CH.Env.ownL, OT.getP, lock, unlock, outs, tru_b, ev_eq_ii, ev_ne_ii, ev_lt_ii, ev_le_ii, ev_gt_ii, ev_ge_ii, ev_add_ii, ev_sub_ii, ev_neg_i, ev_int_i, ev_abs_i, ev_len_l, ev_len_t, ev_len_f, ev_idx, mulOk_r, ev_mul_ii, OT.toD, r, isI, h1', clGo, h1]
    | false =>
      have cg : clGo n a (d :: ds) = false := by cases d <;> first | rfl | cases hI
      refine ⟨[.lk (.sh v), .ow (.sh (.int n)), .ow (.sh (.int a)), .ow (.sh d)], ?_, rfl, rfl, rfl⟩
      simp [p2_2, p2_1, p2_0, D.tyName, ev_isi_t, isTy, fillA, backA, goneA, cm_le_ii, cm_lt_ii, getV, Fn.run, Fn.run0, evSs, evS, evT, evAll, evAny, evO, evE, evOs, evEs, evAs, evB, evAnd, evOr, CH.R.bind, R.ofO, CH.Env.tree, CH.Env.own, CH.Env.ownL, OT.getP, lock, unlock, outs, tru_b, ev_eq_ii, ev_ne_ii, ev_lt_ii, ev_le_ii, ev_gt_ii, ev_ge_ii, ev_add_ii, ev_sub_ii, ev_neg_i, ev_int_i, ev_abs_i, ev_len_l, ev_len_t, ev_len_f, ev_idx, mulOk_r, ev_mul_ii, OT.toD, r, hI, cg]
theorem cl_run (k : Nat) {v : D} (n : Int) (h : Pl v) : P (k + 2) 2 [.sh v, .sh (.int n)] = .ok (.sh (.bl (isCl n v)), [.sh v, .sh (.int n)]) := by
  rw [step (k + 1) 2 _ f2 t2]
  cases h with
  | @tup ds hz hd =>
    obtain ⟨ρ', e, e1, e2, e3⟩ := cl_loop k n (.tup ds) ds 0 .no (.inl rfl) hd
    match ρ', e1, e2, e3 with
    | [s0, s1, s2, s3], e1, e2, _ =>
      simp at e1 e2
      subst e1 e2
      by_cases hc : clGo n 0 ds = true
      · rw [if_pos hc] at e
        simp [f2, b2, q2_0, q2_1, q2_2, q2_3, D.tyName, ev_isi_t, isTy, fillA, backA, goneA, cm_le_ii, cm_lt_ii, getV, Fn.run, Fn.run0, evSs, evS, evT, evAll, evAny, evO, evE, evOs, evEs, evAs, evB, evAnd, evOr, CH.R.bind, R.ofO, CH.Env.tree, CH.Env.own, CH.Env.ownL, OT.getP, lock, unlock, outs, tru_b, ev_eq_ii, ev_ne_ii, ev_lt_ii, ev_le_ii, ev_gt_ii, ev_ge_ii, ev_add_ii, ev_sub_ii, ev_neg_i, ev_int_i, ev_abs_i, ev_len_l, ev_len_t, ev_len_f, ev_idx, mulOk_r, ev_mul_ii, OT.toD, evI, backI, wipeE, backE, patch, quietAll, quietSl, Tg.slots, OT.items, e, isCl, hc]
      · rw [if_neg hc] at e
        have hc : clGo n 0 ds = false := by simpa using hc
        simp [f2, b2, q2_0, q2_1, q2_2, q2_3, D.tyName, ev_isi_t, isTy, fillA, backA, goneA, cm_le_ii, cm_lt_ii, getV, Fn.run, Fn.run0, evSs, evS, evT, evAll, evAny, evO, evE, evOs, evEs, evAs, evB, evAnd, evOr, CH.R.bind, R.ofO, CH.Env.tree, CH.Env.own, CH.Env.ownL, OT.getP, lock, unlock, outs, tru_b, ev_eq_ii, ev_ne_ii, ev_lt_ii, ev_le_ii, ev_gt_ii, ev_ge_ii, ev_add_ii, ev_sub_ii, ev_neg_i, ev_int_i, ev_abs_i, ev_len_l, ev_len_t, ev_len_f, ev_idx, mulOk_r, ev_mul_ii, OT.toD, evI, backI, wipeE, backE, patch, quietAll, quietSl, Tg.slots, OT.items, e, isCl, hc]
  | _ => simp [f2, b2, q2_0, q2_1, q2_2, q2_3, D.tyName, ev_isi_t, isTy, fillA, backA, goneA, cm_le_ii, cm_lt_ii, getV, Fn.run, Fn.run0, evSs, evS, evT, evAll, evAny, evO, evE, evOs, evEs, evAs, evB, evAnd, evOr, CH.R.bind, R.ofO, CH.Env.tree, CH.Env.own, CH.Env.ownL, OT.getP, lock, unlock, outs, tru_b, ev_eq_ii, ev_ne_ii, ev_lt_ii, ev_le_ii, ev_gt_ii, ev_ge_ii, ev_add_ii, ev_sub_ii, ev_neg_i, ev_int_i, ev_abs_i, ev_len_l, ev_len_t, ev_len_f, ev_idx, mulOk_r, ev_mul_ii, OT.toD, isCl]
end K75
end
section
namespace K75
open PySem L2 Evl PyProof.Rows CH
theorem toPs_strs : ∀ ws : List Str, toPs (ws.map .str) = some (ws.map .str)
  | [] => rfl
  | n :: ns => by show ((D.str n).toP.bind fun p => (toPs (ns.map .str)).map fun q => p :: q) = _; rw [toPs_strs ns]; rfl
theorem lay_strs : ∀ {ws : List Str}, ws.all PyData.strOk = true → PyData.canLayAll0 (ws.map .str) = true
  | [], _ => rfl
  | w :: ws, h => by
    rw [List.all_cons, Bool.and_eq_true] at h
    show (PyData.strOk w && PyData.canLayAll0 (ws.map .str)) = true
    rw [h.1, lay_strs h.2]; rfl
theorem depth_strs : ∀ ws : List Str, PyData.depthAll (ws.map .str) = 0
  | [] => rfl
  | n :: ns => by show max 0 (PyData.depthAll (ns.map .str)) = 0; rw [depth_strs ns]; rfl
theorem any_strs (w : Str) (ws : List Str) : ((ws.map PyData.str).any fun z => PyData.eqv z (.str w)) = ws.any fun z => z == w := by rw [List.any_map]; rfl
theorem in_strs (l : Bool) (w : Str) (ws : List Str) (h : PyData.strOk w = true) (h2 : ws.all PyData.strOk = true) : inD (.str w) (seqOf l (ws.map .str)) = some (ws.any fun z => z == w) := by
  have s1 : SeqAt.shaped (.str w) = true := by
    unfold SeqAt.shaped
    rw [show PyData.canLay0 (.str w) = PyData.strOk w from rfl, h]; rfl
  cases l
  · have s2 : SeqAt.shaped (.tuple (ws.map .str)) = true := by
      unfold SeqAt.shaped
      rw [show PyData.canLay0 (.tuple (ws.map .str)) = PyData.canLayAll0 (ws.map .str) from rfl, lay_strs h2, show PyData.depth (.tuple (ws.map .str)) = PyData.depthAll (ws.map .str) + 1 from rfl, depth_strs]; rfl
    show ((D.str w).toP.bind fun p => (((toPs (ws.map .str)).map PyData.tuple)).bind fun q => match q with
      | .list ds => if (SeqAt.shaped p && SeqAt.shaped (.list ds)) = true then some (ds.any fun z => PyData.eqv z p) else none
      | .tuple ds => if (SeqAt.shaped p && SeqAt.shaped (.tuple ds)) = true then some (ds.any fun z => PyData.eqv z p) else none
      | .str s => match p with
        | .str y => some (!(Builtin.Str.occurrences s y 0 s.length 1).isEmpty)
        | _ => none
      | _ => none) = _
    rw [toPs_strs]
    show (if (SeqAt.shaped (.str w) && SeqAt.shaped (.tuple (ws.map .str))) = true then some ((ws.map PyData.str).any fun z => PyData.eqv z (.str w)) else none) = _
    rw [s1, s2, any_strs]; rfl
  · have s2 : SeqAt.shaped (.list (ws.map .str)) = true := by
      unfold SeqAt.shaped
      rw [show PyData.canLay0 (.list (ws.map .str)) = PyData.canLayAll0 (ws.map .str) from rfl, lay_strs h2, show PyData.depth (.list (ws.map .str)) = PyData.depthAll (ws.map .str) + 1 from rfl, depth_strs]; rfl
    show ((D.str w).toP.bind fun p => (((toPs (ws.map .str)).map PyData.list)).bind fun q => match q with
      | .list ds => if (SeqAt.shaped p && SeqAt.shaped (.list ds)) = true then some (ds.any fun z => PyData.eqv z p) else none
      | .tuple ds => if (SeqAt.shaped p && SeqAt.shaped (.tuple ds)) = true then some (ds.any fun z => PyData.eqv z p) else none
      | .str s => match p with
        | .str y => some (!(Builtin.Str.occurrences s y 0 s.length 1).isEmpty)
        | _ => none
      | _ => none) = _
    rw [toPs_strs]
    show (if (SeqAt.shaped (.str w) && SeqAt.shaped (.list (ws.map .str))) = true then some ((ws.map PyData.str).any fun z => PyData.eqv z (.str w)) else none) = _
    rw [s1, s2, any_strs]; rfl
theorem ev_notin (w : Str) (ws : List Str) (h : PyData.strOk w = true) (h2 : ws.all PyData.strOk = true) : Op.ev (.cmp .notin) [.sh (.str w), .sh (.tup (ws.map .str))] = some (.sh (.bl (!ws.any fun z => z == w))) := by
  show ((inD (.str w) (.tup (ws.map .str))).map (! ·)).map _ = _
  rw [show inD (.str w) (.tup (ws.map .str)) = _ from in_strs false w ws h h2]; rfl
theorem ev_in (w : Str) (ws : List Str) (h : PyData.strOk w = true) (h2 : ws.all PyData.strOk = true) : Op.ev (.cmp .in_) [.sh (.str w), .sh (.tup (ws.map .str))] = some (.sh (.bl (ws.any fun z => z == w))) := by
  show (inD (.str w) (.tup (ws.map .str))).map _ = _
  rw [show inD (.str w) (.tup (ws.map .str)) = _ from in_strs false w ws h h2]; rfl
theorem ev_in_l (w : Str) (ws : List Str) (h : PyData.strOk w = true) (h2 : ws.all PyData.strOk = true) : Op.ev (.cmp .in_) [.sh (.str w), .lst (ws.map fun z => .sh (.str z))] = some (.sh (.bl (ws.any fun z => z == w))) := by
  show (inD (.str w) (.lst (toDs (ws.map fun z => .sh (.str z))))).map _ = _
  rw [toDs_map, show inD (.str w) (.lst (ws.map .str)) = _ from in_strs true w ws h h2]; rfl
def ES : List Str := ["each", "some"]
def isGroup : D → Bool
  | .tup [.str w, .tup ds] => (ES.any fun z => z == w) && (!ds.isEmpty && (ds.all isI && rising (ds.map numD)))
  | _ => false
theorem each_ok (w : Str) (h : PyData.strOk w = true) : Op.ev (.cmp .notin) [.sh (.str w), .sh (.tup [.str "each", .str "some"])] = some (.sh (.bl (!ES.any fun z => z == w))) := ev_notin w ES h (by decide +kernel)
/-- the last statement, over a row of ints -/
theorem group_end (k : Nat) (w : Str) (ns : List Int) (hz : ns.length < 1000000) (ρ : CH.Env) (hρ : ρ = [.ow (.sh (.tup [.str w, .tup (ns.map .int)])), .ow (.sh (.tup (ns.map .int))), .no, .no]) :
    evE (P (k + 1)) [] (.op (.bi .all) (.cons (.e (.lc p5_2 (.one 2) (.rng2 (.c (.int 1)) (.op (.bi .len) (.cons (.bor 1 []) .nil))) p5_3)) .nil)) ρ = .ok (.sh (.bl (rising ns)), ρ) := by
  subst hρ
  have hI := range_val (Φ := P (k + 1)) (pl := []) (a := .c (.int 1)) (b := .op (.bi .len) (.cons (.bor 1 []) .nil)) (ρ := [.ow (.sh (.tup [.str w, .tup (ns.map .int)])), .ow (.sh (.tup (ns.map .int))), .no, .no]) (ρ1 := [.ow (.sh (.tup [.str w, .tup (ns.map .int)])), .ow (.sh (.tup (ns.map .int))), .no, .no]) (ρ2 := [.ow (.sh (.tup [.str w, .tup (ns.map .int)])), .ow (.sh (.tup (ns.map .int))), .no, .no]) (i := 1) (j := (ns.length : Int)) rfl (by simp [D.tyName, ev_isi_t, isTy, fillA, backA, goneA, cm_le_ii, cm_lt_ii, getV, Fn.run, Fn.run0, evSs, evS, evT, evAll, evAny, evO, evE, evOs, evEs, evAs, evB, evAnd, evOr, CH.R.bind, R.ofO, CH.Env.tree, CH.Env.own, CH.Env.ownL, OT.getP, lock, unlock, outs, tru_b, ev_eq_ii, ev_ne_ii, ev_lt_ii, ev_le_ii, ev_gt_ii, ev_ge_ii, ev_add_ii, ev_sub_ii, ev_neg_i, ev_int_i, ev_abs_i, ev_len_l, ev_len_t, ev_len_f, ev_idx, mulOk_r, ev_mul_ii, OT.toD]) (by omega)
  have hr : ((ns.length : Int) - 1).toNat = ns.length - 1 := by omega
  rw [hr] at hI
  refine evE_all (f := fun j => bI j ns) (mk := fun j : Nat => .int (1 + (j : Int))) (xs := List.range (ns.length - 1)) hI rfl (by simp) (by rw [List.length_range]; unfold big; omega) (fun ρ => rfl) fun j hj => ?_
  have hj := List.mem_range.mp hj
  have i1 : idxEv (.sh (.tup (ns.map .int))) (j : Int) = some (.sh (.int (ns.getD j 0))) := idx_seq false ns j (by omega)
  have i2 : idxEv (.sh (.tup (ns.map .int))) ((j : Int) + 1) = some (.sh (.int (ns.getD (j + 1) 0))) := idx_seq false ns (j + 1) (by omega)
  have e1 : (1 + (j : Int) - 1) = (j : Int) := by omega
  have e2 : (1 + (j : Int)) = (j : Int) + 1 := by omega
  rw [e2]
  simp [p5_2, D.tyName, ev_isi_t, isTy, fillA, backA, goneA, cm_le_ii, cm_lt_ii, getV, Fn.run, Fn.run0, evSs, evS, evT, evAll, evAny, evO, evE, evOs, evEs, evAs, evB, evAnd, evOr, CH.R.bind, R.ofO, CH.Env.tree, CH.Env.own, CH.Env.ownL, OT.getP, lock, unlock, outs, tru_b, ev_eq_ii, ev_ne_ii, ev_lt_ii, ev_le_ii, ev_gt_ii, ev_ge_ii, ev_add_ii, ev_sub_ii, ev_neg_i, ev_int_i, ev_abs_i, ev_len_l, ev_len_t, ev_len_f, ev_idx, mulOk_r, ev_mul_ii, OT.toD, i1, i2, bI]
theorem group_row (k : Nat) (w : Str) {rs : List D} (hz2 : rs.length < 1000000) (hd2 : ∀ d ∈ rs, Pl d) :
    evSs (P (k + 1)) [] (.cons q5_2 (.cons q5_3 .nil)) [.ow (.sh (.tup [.str w, .tup rs])), .ow (.sh (.tup rs)), .no, .no] = .ok (.rt (.sh (.bl (!rs.isEmpty && (rs.all isI && rising (rs.map numD))))), [.ow (.sh (.tup [.str w, .tup rs])), .ow (.sh (.tup rs)), .no, .no]) := by
  have ea : evE (P (k + 1)) [] (.op (.bi .all) (.cons (.e (.lc p5_0 (.one 3) (.seq (.bor 1 [])) p5_1)) .nil)) [.ow (.sh (.tup [.str w, .tup rs])), .ow (.sh (.tup rs)), .no, .no] = .ok (.sh (.bl (rs.all isI)), [.ow (.sh (.tup [.str w, .tup rs])), .ow (.sh (.tup rs)), .no, .no]) := by
    have hI : evI (P (k + 1)) [] (.seq (.bor 1 [])) [.ow (.sh (.tup [.str w, .tup rs])), .ow (.sh (.tup rs)), .no, .no] = .ok (rs.map fun d => d, [.ow (.sh (.tup [.str w, .tup rs])), .lk (.sh (.tup rs)), .no, .no]) := by rw [List.map_id']; rfl
    exact evE_all (f := isI) (mk := fun d : D => d) (xs := rs) hI rfl (by simp) (by unfold big; omega) (fun ρ => rfl) fun d hm => by
      have r := int_run k (hd2 d hm)
      simp [p5_0, D.tyName, ev_isi_t, isTy, fillA, backA, goneA, cm_le_ii, cm_lt_ii, getV, Fn.run, Fn.run0, evSs, evS, evT, evAll, evAny, evO, evE, evOs, evEs, evAs, evB, evAnd, evOr, CH.R.bind, R.ofO, CH.Env.tree, CH.Env.own, CH.Env.ownL, OT.getP, lock, unlock, outs, tru_b, ev_eq_ii, ev_ne_ii, ev_lt_ii, ev_le_ii, ev_gt_ii, ev_ge_ii, ev_add_ii, ev_sub_ii, ev_neg_i, ev_int_i, ev_abs_i, ev_len_l, ev_len_t, ev_len_f, ev_idx, mulOk_r, ev_mul_ii, OT.toD, r]
  by_cases he : rs = []
  · subst he
    exact ss_stop (by simp [q5_2, D.tyName, ev_isi_t, isTy, fillA, backA, goneA, cm_le_ii, cm_lt_ii, getV, Fn.run, Fn.run0, evSs, evS, evT, evAll, evAny, evO, evE, evOs, evEs, evAs, evB, evAnd, evOr, CH.R.bind, R.ofO, CH.Env.tree, CH.Env.own, CH.Env.ownL, OT.getP, lock, unlock, outs, tru_b, ev_eq_ii, ev_ne_ii, ev_lt_ii, ev_le_ii, ev_gt_ii, ev_ge_ii, ev_add_ii, ev_sub_ii, ev_neg_i, ev_int_i, ev_abs_i, ev_len_l, ev_len_t, ev_len_f, ev_idx, mulOk_r, ev_mul_ii, OT.toD, evI, backI, wipeE, backE, patch, quietAll, quietSl, Tg.slots])
  · have hl : rs.length ≠ 0 := fun z => he (List.length_eq_zero_iff.mp z)
    have hne : rs.isEmpty = false := by cases rs <;> first | rfl | exact absurd rfl he
    by_cases hi : rs.all isI = true
    · rw [hi] at ea
      have s2 : evS (P (k + 1)) [] q5_2 [.ow (.sh (.tup [.str w, .tup rs])), .ow (.sh (.tup rs)), .no, .no] = .ok (.nx, [.ow (.sh (.tup [.str w, .tup rs])), .ow (.sh (.tup rs)), .no, .no]) := by
        simp [q5_2, ↓ea, D.tyName, ev_isi_t, isTy, fillA, backA, goneA, cm_le_ii, cm_lt_ii, getV, Fn.run, Fn.run0, evSs, evS, evT, evAll, evAny, evO, evE, evOs, evEs, evAs, evB, evAnd, evOr, CH.R.bind, R.ofO, CH.Env.tree, CH.Env.own, CH.Env.ownL, OT.getP, lock, unlock, outs, tru_b, ev_eq_ii, ev_ne_ii, ev_lt_ii, ev_le_ii, ev_gt_ii, ev_ge_ii, ev_add_ii, ev_sub_ii, ev_neg_i, ev_int_i, ev_abs_i, ev_len_l, ev_len_t, ev_len_f, ev_idx, mulOk_r, ev_mul_ii, OT.toD, hl]
      rw [ss_next s2, hi, hne]
      obtain ⟨ns, rfl⟩ := all_ints (fun d => isI_int) hi
      rw [numD_map]
      exact ss_stop (evE_ret (group_end k w ns (by simpa using hz2) _ rfl))
    · have hi : rs.all isI = false := by simpa using hi
      rw [hi] at ea
      rw [hi, hne]
      refine ss_stop ?_
      simp [q5_2, ↓ea, D.tyName, ev_isi_t, isTy, fillA, backA, goneA, cm_le_ii, cm_lt_ii, getV, Fn.run, Fn.run0, evSs, evS, evT, evAll, evAny, evO, evE, evOs, evEs, evAs, evB, evAnd, evOr, CH.R.bind, R.ofO, CH.Env.tree, CH.Env.own, CH.Env.ownL, OT.getP, lock, unlock, outs, tru_b, ev_eq_ii, ev_ne_ii, ev_lt_ii, ev_le_ii, ev_gt_ii, ev_ge_ii, ev_add_ii, ev_sub_ii, ev_neg_i, ev_int_i, ev_abs_i, ev_len_l, ev_len_t, ev_len_f, ev_idx, mulOk_r, ev_mul_ii, OT.toD, hl]
theorem group_nt (k : Nat) (w : Str) {b : D} (hb : Pl b) (h : ∀ ds, b ≠ .tup ds) : evSs (P (k + 1)) [] (.cons q5_2 (.cons q5_3 .nil)) [.ow (.sh (.tup [.str w, b])), .ow (.sh b), .no, .no] = .ok (.rt (.sh (.bl false)), [.ow (.sh (.tup [.str w, b])), .ow (.sh b), .no, .no]) := by
  refine ss_stop ?_
  cases hb with
  | tup _ _ => exact absurd rfl (h _)
  | _ => simp [q5_2, D.tyName, ev_isi_t, isTy, fillA, backA, goneA, cm_le_ii, cm_lt_ii, getV, Fn.run, Fn.run0, evSs, evS, evT, evAll, evAny, evO, evE, evOs, evEs, evAs, evB, evAnd, evOr, CH.R.bind, R.ofO, CH.Env.tree, CH.Env.own, CH.Env.ownL, OT.getP, lock, unlock, outs, tru_b, ev_eq_ii, ev_ne_ii, ev_lt_ii, ev_le_ii, ev_gt_ii, ev_ge_ii, ev_add_ii, ev_sub_ii, ev_neg_i, ev_int_i, ev_abs_i, ev_len_l, ev_len_t, ev_len_f, ev_idx, mulOk_r, ev_mul_ii, OT.toD]
theorem group_ns (k : Nat) {a b : D} (ha : Pl a) (h : ∀ w, a ≠ .str w) : evS (P (k + 1)) [] q5_0 [.ow (.sh (.tup [a, b])), .no, .no, .no] = .ok (.rt (.sh (.bl false)), [.ow (.sh (.tup [a, b])), .no, .no, .no]) := by
  have rp : P (k + 1) 1 [.sh (.tup [a, b])] = .ok (.sh (.bl true), [.sh (.tup [a, b])]) := rfl
  cases ha with
  | str _ => exact absurd rfl (h _)
  | _ => simp [q5_0, D.tyName, ev_isi_t, isTy, fillA, backA, goneA, cm_le_ii, cm_lt_ii, getV, Fn.run, Fn.run0, evSs, evS, evT, evAll, evAny, evO, evE, evOs, evEs, evAs, evB, evAnd, evOr, CH.R.bind, R.ofO, CH.Env.tree, CH.Env.own, CH.Env.ownL, OT.getP, lock, unlock, outs, tru_b, ev_eq_ii, ev_ne_ii, ev_lt_ii, ev_le_ii, ev_gt_ii, ev_ge_ii, ev_add_ii, ev_sub_ii, ev_neg_i, ev_int_i, ev_abs_i, ev_len_l, ev_len_t, ev_len_f, ev_idx, mulOk_r, ev_mul_ii, OT.toD, rp, at0]
theorem group_np {v : D} (hp : isPair v = false) : isGroup v = false := by
  cases v with
  | tup ds =>
    match ds, hp with
    | [], _ => rfl
    | [a], _ => cases a <;> rfl
    | a :: b :: c :: r, _ => cases a <;> first | rfl | (cases b <;> rfl)
  | _ => rfl
theorem group_run (k : Nat) {v : D} (h : Pl v) : P (k + 2) 5 [.sh v] = .ok (.sh (.bl (isGroup v)), [.sh v]) := by
  rw [step (k + 1) 5 _ f5 t5]
  have rp := pair_run k h
  by_cases hp : isPair v = true
  · match v, h, hp with
    | .tup [a, b], h, _ =>
      cases h with
      | tup _ hd =>
        have ha := hd a (by simp)
        have hb := hd b (by simp)
        rw [show isPair (.tup [a, b]) = true from rfl] at rp
        have gn : ∀ a, (∀ w, a ≠ .str w) → isGroup (.tup [a, b]) = false := fun a h => by cases a <;> first | rfl | exact absurd rfl (h _)
        cases ha with
        | @str w hw =>
          by_cases he : (ES.any fun z => z == w) = true
          · have q0 : evS (P (k + 1)) [] q5_0 [.ow (.sh (.tup [.str w, b])), .no, .no, .no] = .ok (.nx, [.ow (.sh (.tup [.str w, b])), .no, .no, .no]) := by
              have hk := each_ok w hw
              rw [he] at hk
              simp [q5_0, D.tyName, ev_isi_t, isTy, fillA, backA, goneA, cm_le_ii, cm_lt_ii, getV, Fn.run, Fn.run0, evSs, evS, evT, evAll, evAny, evO, evE, evOs, evEs, evAs, evB, evAnd, evOr, CH.R.bind, R.ofO, CH.Env.tree, CH.Env.own, CH.Env.ownL, OT.getP, lock, unlock, outs, tru_b, ev_eq_ii, ev_ne_ii, ev_lt_ii, ev_le_ii, ev_gt_ii, ev_ge_ii, ev_add_ii, ev_sub_ii, ev_neg_i, ev_int_i, ev_abs_i, ev_len_l, ev_len_t, ev_len_f, ev_idx, mulOk_r, ev_mul_ii, OT.toD, rp, at0, hk, big, toDs]
            have q1 : evS (P (k + 1)) [] q5_1 [.ow (.sh (.tup [.str w, b])), .no, .no, .no] = .ok (.nx, [.ow (.sh (.tup [.str w, b])), .ow (.sh b), .no, .no]) := by
              simp [q5_1, D.tyName, ev_isi_t, isTy, fillA, backA, goneA, cm_le_ii, cm_lt_ii, getV, Fn.run, Fn.run0, evSs, evS, evT, evAll, evAny, evO, evE, evOs, evEs, evAs, evB, evAnd, evOr, CH.R.bind, R.ofO, CH.Env.tree, CH.Env.own, CH.Env.ownL, OT.getP, lock, unlock, outs, tru_b, ev_eq_ii, ev_ne_ii, ev_lt_ii, ev_le_ii, ev_gt_ii, ev_ge_ii, ev_add_ii, ev_sub_ii, ev_neg_i, ev_int_i, ev_abs_i, ev_len_l, ev_len_t, ev_len_f, ev_idx, mulOk_r, ev_mul_ii, OT.toD, at1]
            cases hb with
            | @tup rs hz2 hd2 =>
              have g := group_row k w hz2 hd2
              have hg : isGroup (.tup [.str w, .tup rs]) = (!rs.isEmpty && (rs.all isI && rising (rs.map numD))) := by simp [isGroup, he]
              rw [hg]
              exact run_rt rfl ((ss_next q0).trans ((ss_next q1).trans g)) rfl
            | _ =>
              have hb := hd _ (List.mem_cons_of_mem _ (List.mem_cons_self))
              exact run_rt rfl ((ss_next q0).trans ((ss_next q1).trans (group_nt k w hb (by simp)))) rfl
          · have he : (ES.any fun z => z == w) = false := eq_false_of_ne_true he
            have hk := each_ok w hw
            rw [he] at hk
            have hg : isGroup (.tup [.str w, b]) = false := by unfold isGroup; cases b <;> simp [he]
            rw [hg]
            refine run_rt (ρ := [.ow (.sh (.tup [.str w, b])), .no, .no, .no]) rfl ?_ rfl
            show evSs (P (k + 1)) [] (.cons q5_0 (.cons q5_1 (.cons q5_2 (.cons q5_3 .nil)))) [.ow (.sh (.tup [.str w, b])), .no, .no, .no] = _
            exact ss_stop (by simp [q5_0, D.tyName, ev_isi_t, isTy, fillA, backA, goneA, cm_le_ii, cm_lt_ii, getV, Fn.run, Fn.run0, evSs, evS, evT, evAll, evAny, evO, evE, evOs, evEs, evAs, evB, evAnd, evOr, CH.R.bind, R.ofO, CH.Env.tree, CH.Env.own, CH.Env.ownL, OT.getP, lock, unlock, outs, tru_b, ev_eq_ii, ev_ne_ii, ev_lt_ii, ev_le_ii, ev_gt_ii, ev_ge_ii, ev_add_ii, ev_sub_ii, ev_neg_i, ev_int_i, ev_abs_i, ev_len_l, ev_len_t, ev_len_f, ev_idx, mulOk_r, ev_mul_ii, OT.toD, rp, at0, hk, big, toDs])
        | _ =>
          rw [gn _ (by simp)]
          exact run_rt rfl (ss_stop (group_ns k (hd _ (by simp)) (by simp))) rfl
  · have hp : isPair v = false := eq_false_of_ne_true hp
    rw [hp] at rp
    have hg : isGroup v = false := group_np hp
    rw [hg]
    refine run_rt (ρ := [.ow (.sh v), .no, .no, .no]) rfl ?_ rfl
    show evSs (P (k + 1)) [] (.cons q5_0 (.cons q5_1 (.cons q5_2 (.cons q5_3 .nil)))) [.ow (.sh v), .no, .no, .no] = _
    exact ss_stop (by simp [q5_0, D.tyName, ev_isi_t, isTy, fillA, backA, goneA, cm_le_ii, cm_lt_ii, getV, Fn.run, Fn.run0, evSs, evS, evT, evAll, evAny, evO, evE, evOs, evEs, evAs, evB, evAnd, evOr, CH.R.bind, R.ofO, CH.Env.tree, CH.Env.own, CH.Env.ownL, OT.getP, lock, unlock, outs, tru_b, ev_eq_ii, ev_ne_ii, ev_lt_ii, ev_le_ii, ev_gt_ii, ev_ge_ii, ev_add_ii, ev_sub_ii, ev_neg_i, ev_int_i, ev_abs_i, ev_len_l, ev_len_t, ev_len_f, ev_idx, mulOk_r, ev_mul_ii, OT.toD, rp])
theorem eqvs_ints : ∀ a b : List Int, PyData.eqvAll (a.map .int) (b.map .int) = decide (a = b)
  | [], [] => by simp [PyData.eqvAll]
  | [], _ :: _ => by simp [PyData.eqvAll]
  | _ :: _, [] => by simp [PyData.eqvAll]
  | x :: a, y :: b => by
    simp only [List.map_cons, PyData.eqvAll, PyData.eqv, eqvs_ints a b, List.cons.injEq]
    by_cases h : x = y <;> simp [h]
theorem lshaped_ints (ns : List Int) : SeqAt.shaped (.list (ns.map .int)) = true := by
  unfold SeqAt.shaped
  rw [show PyData.canLay0 (.list (ns.map .int)) = PyData.canLayAll0 (ns.map .int) from rfl, lay_ints, show PyData.depth (.list (ns.map .int)) = PyData.depthAll (ns.map .int) + 1 from rfl, depth_ints]
  rfl
theorem toPl_ints (ns : List Int) : (D.lst (ns.map .int)).toP = some (.list (ns.map .int)) := by
  show (toPs (ns.map .int)).map _ = _
  rw [toPs_ints]; rfl
theorem eqD_ints (a b : List Int) : eqD (.lst (a.map .int)) (.lst (b.map .int)) = some (decide (a = b)) := by
  unfold eqD
  rw [toPl_ints, toPl_ints]
  show (if (SeqAt.shaped (.list (a.map .int)) && SeqAt.shaped (.list (b.map .int))) = true then some (PyData.eqvAll (a.map .int) (b.map .int)) else none) = _
  rw [lshaped_ints, lshaped_ints, eqvs_ints]; rfl
theorem newL_map {α : Type} (xs : List α) (g : α → D) : newL (xs.map g) = .lst (xs.map fun x => .sh (g x)) := by
  unfold newL; rw [List.map_map]; rfl
theorem ev_eq_l (a b : List Int) : Op.ev (.cmp .eq) [.lst (a.map fun i => .sh (.int i)), .lst (b.map fun i => .sh (.int i))] = some (.sh (.bl (decide (a = b)))) := by
  show (eqD (.lst (toDs (a.map fun i => .sh (.int i)))) (.lst (toDs (b.map fun i => .sh (.int i))))).map _ = _
  rw [toDs_map, toDs_map, eqD_ints]; rfl
theorem litems_map {α : Type} (xs : List α) (g : α → D) : OT.litems (.lst (xs.map fun x => .sh (g x))) = some (xs.map g) := by
  rw [← newL_map]; exact litems_sh _
theorem ev_sorted_i (ns : List Int) (h : ns.length < 64) : Op.ev (.bi .sorted) [.lst (ns.map fun i => .sh (.int i))] = some (.lst ((sortI ns).map fun i => .sh (.int i))) := by
  show (OT.litems (.lst (ns.map fun i => .sh (.int i)))).bind _ = _
  rw [litems_map]
  show (match intsD (ns.map .int) with
    | some ns => guard_ (decide (ns.length < 64)) (newL ((sortI ns).map .int))
    | none => (pairKs (ns.map .int)).bind fun ps => guard_ (ps.all fun p => SeqAt.shaped (.tuple (p.2.map .int))) (newL ((sortP ps).map pairD))) = _
  rw [intsD_map]
  show guard_ (decide (ns.length < 64)) _ = _
  rw [decide_eq_true h, newL_map]; rfl
def up (n : Int) : List Int := (List.range n.toNat).map fun (k : Nat) => 1 + (k : Int)
theorem ev_rng_up (n : Int) (h0 : 0 ≤ n) (h1 : n < 1000000) : Op.ev (.rng 2 false) [.sh (.int 1), .sh (.int (n + 1))] = some (.lst ((up n).map fun i => .sh (.int i))) := by
  show guard_ (decide (-(2 ^ 62) ≤ (1 : Int) ∧ (1 : Int) < 2 ^ 62 ∧ -(2 ^ 62) ≤ n + 1 ∧ n + 1 < 2 ^ 62 ∧ (n + 1 - 1).toNat ≤ big)) _ = _
  rw [decide_eq_true (by unfold big; omega)]
  show some (newL ((List.range (n + 1 - 1).toNat).map fun i => .int (1 + (i : Nat)))) = _
  rw [newL_map, show n + 1 - 1 = n by omega]
  unfold up
  rw [List.map_map]; rfl
theorem ev_rngt_up (n : Int) (h0 : 0 ≤ n) (h1 : n < 1000000) : Op.ev (.rng 2 true) [.sh (.int 1), .sh (.int (n + 1))] = some (.sh (.tup ((up n).map .int))) := by
  show guard_ (decide (-(2 ^ 62) ≤ (1 : Int) ∧ (1 : Int) < 2 ^ 62 ∧ -(2 ^ 62) ≤ n + 1 ∧ n + 1 < 2 ^ 62 ∧ (n + 1 - 1).toNat ≤ big)) _ = _
  rw [decide_eq_true (by unfold big; omega)]
  show some (OT.sh (.tup ((List.range (n + 1 - 1).toNat).map fun i => .int (1 + (i : Nat))))) = _
  rw [show n + 1 - 1 = n by omega]
  unfold up
  rw [List.map_map]; rfl
def grpD (g : Str × List Int) : D := .tup [.str g.1, .tup (g.2.map .int)]
theorem isGroup_grp {d : D} (h : isGroup d = true) : ∃ g, d = grpD g := by
  cases d <;> first | (cases h; done) | skip
  rename_i ds
  match ds, h with
  | [.str w, .tup rs], h =>
    simp only [isGroup, Bool.and_eq_true] at h
    obtain ⟨ns, rfl⟩ := all_ints (fun d => isI_int) h.2.2.1
    exact ⟨(w, ns), rfl⟩
theorem all_grps : ∀ {ds : List D}, ds.all isGroup = true → ∃ gs : List (Str × List Int), ds = gs.map grpD
  | [], _ => ⟨[], rfl⟩
  | d :: ds, h => by
    rw [List.all_cons, Bool.and_eq_true] at h
    obtain ⟨g, rfl⟩ := isGroup_grp h.1
    obtain ⟨gs, rfl⟩ := all_grps h.2
    exact ⟨g :: gs, rfl⟩
def grpI : D → List Int
  | .tup [.str _, .tup rs] => rs.map numD
  | _ => []
def flatG (ds : List D) : List Int := ds.flatMap grpI
theorem flatG_map (gs : List (Str × List Int)) : flatG (gs.map grpD) = gs.flatMap (·.2) := by
  unfold flatG
  induction gs with
  | nil => rfl
  | cons g gs ih => rw [List.map_cons, List.flatMap_cons, List.flatMap_cons, ih, show grpI (grpD g) = g.2 from numD_map g.2]
def isPrefix (n : Int) : D → Bool
  | .tup ds => ds.all isGroup && decide (sortI (flatG ds) = up n)
  | _ => false
def preOk : D → Prop
  | .tup ds => (flatG ds).length < 64
  | _ => True
theorem prefix_flat (k : Nat) (n : Int) (gs : List (Str × List Int)) (hl : (gs.flatMap (·.2)).length < 64) (ρ : CH.Env) (hρ : ρ = [.ow (.sh (.tup (gs.map grpD))), .ow (.sh (.int n)), .no, .no, .no, .no]) :
    evE (P (k + 1)) [] (.lc2 p6_2 (.tup [4, 5]) (.seq (.bor 0 [])) p6_3 (.one 2) p6_4 p6_5) ρ = .ok (.lst ((gs.flatMap (·.2)).map fun i => .sh (.int i)), ρ) := by
  subst hρ
  have hI : evI (P (k + 1)) [] (.seq (.bor 0 [])) [.ow (.sh (.tup (gs.map grpD))), .ow (.sh (.int n)), .no, .no, .no, .no] = .ok (gs.map grpD, [.lk (.sh (.tup (gs.map grpD))), .ow (.sh (.int n)), .no, .no, .no, .no]) := rfl
  have key := lcG_flat (cond := fun ρ => evAll (P (k + 1)) [] p6_3 ρ) (step := inner (fun ρ => evI (P (k + 1)) [] p6_4 ρ) (fun ρ ρ' => backI p6_4 ρ ρ') (fun ρ => evAll (P (k + 1)) [] p6_5 ρ) (fun ρ => evE (P (k + 1)) [] p6_2 ρ) [] (.one 2)) (pl := []) (tg := .tup [4, 5]) (vs := [4, 5, 2]) (ρ := [.lk (.sh (.tup (gs.map grpD))), .ow (.sh (.int n)), .no, .no, .no, .no]) (mk := grpD) (g := fun g => g.2.map fun i => .sh (.int i)) gs []
    (by
      have e : (gs.flatMap fun g => g.2.map fun i => OT.sh (.int i)) = (gs.flatMap (·.2)).map fun i => .sh (.int i) := by rw [List.map_flatMap]
      rw [e]; simp only [List.length_nil, List.length_map]; unfold big; omega)
    (fun g hg => by
      refine ⟨[.lk (.sh (.tup (gs.map grpD))), .ow (.sh (.int n)), .no, .no, .ow (.sh (.str g.1)), .ow (.sh (.tup (g.2.map .int)))], [.lk (.sh (.tup (gs.map grpD))), .ow (.sh (.int n)), .no, .no, .ow (.sh (.str g.1)), .ow (.sh (.tup (g.2.map .int)))], rfl, rfl, fun acc ha => ?_, rfl⟩
      have lc := lcL_acc (cond := fun ρ => evAll (P (k + 1)) [] p6_5 ρ) (elt := fun ρ => evE (P (k + 1)) [] p6_2 ρ) (pl := []) (i := 2) (ρ := [.lk (.sh (.tup (gs.map grpD))), .ow (.sh (.int n)), .no, .no, .ow (.sh (.str g.1)), .lk (.sh (.tup (g.2.map .int)))]) (mk := D.int) (g := fun i => .int i) rfl (by simp) g.2 acc (by simpa using ha) (fun ρ => rfl) (fun x _ => rfl)
      exact inner_val (ρ1 := [.lk (.sh (.tup (gs.map grpD))), .ow (.sh (.int n)), .no, .no, .ow (.sh (.str g.1)), .lk (.sh (.tup (g.2.map .int)))]) (tg := .one 2) rfl rfl lc)
  rw [evE, hI]
  simp only [CH.R.bind]
  rw [if_pos (by rfl)]
  have w : wipeE [.lk (.sh (.tup (gs.map grpD))), .ow (.sh (.int n)), .no, .no, .no, .no] (Tg.slots (.tup [4, 5]) ++ Tg.slots (.one 2)) = [.lk (.sh (.tup (gs.map grpD))), .ow (.sh (.int n)), .no, .no, .no, .no] := rfl
  rw [w, show Tg.slots (.tup [4, 5]) ++ Tg.slots (.one 2) = [4, 5, 2] from rfl, key]
  simp only
  rw [backE_same, List.nil_append, List.map_flatMap]
  rfl
theorem prefix_run (k : Nat) {v : D} (n : Int) (h : Pl v) (hp : preOk v) (h0 : 0 ≤ n) (h1 : n < 1000000) : P (k + 3) 6 [.sh v, .sh (.int n)] = .ok (.sh (.bl (isPrefix n v)), [.sh v, .sh (.int n)]) := by
  rw [step (k + 2) 6 _ f6 t6]
  cases h with
  | @tup ds hz hd =>
    have ea : evE (P (k + 2)) [] (.op (.bi .all) (.cons (.e (.lc p6_0 (.one 3) (.seq (.bor 0 [])) p6_1)) .nil)) [.ow (.sh (.tup ds)), .ow (.sh (.int n)), .no, .no, .no, .no] = .ok (.sh (.bl (ds.all isGroup)), [.ow (.sh (.tup ds)), .ow (.sh (.int n)), .no, .no, .no, .no]) := by
      have hI : evI (P (k + 2)) [] (.seq (.bor 0 [])) [.ow (.sh (.tup ds)), .ow (.sh (.int n)), .no, .no, .no, .no] = .ok (ds.map fun d => d, [.lk (.sh (.tup ds)), .ow (.sh (.int n)), .no, .no, .no, .no]) := by rw [List.map_id']; rfl
      exact evE_all (f := isGroup) (mk := fun d : D => d) (xs := ds) hI rfl (by simp) (by unfold big; omega) (fun ρ => rfl) fun d hm => by
        have r := group_run k (hd d hm)
        simp [p6_0, D.tyName, ev_isi_t, isTy, fillA, backA, goneA, cm_le_ii, cm_lt_ii, getV, Fn.run, Fn.run0, evSs, evS, evT, evAll, evAny, evO, evE, evOs, evEs, evAs, evB, evAnd, evOr, CH.R.bind, R.ofO, CH.Env.tree, CH.Env.own, CH.Env.ownL, OT.getP, lock, unlock, outs, tru_b, ev_eq_ii, ev_ne_ii, ev_lt_ii, ev_le_ii, ev_gt_ii, ev_ge_ii, ev_add_ii, ev_sub_ii, ev_neg_i, ev_int_i, ev_abs_i, ev_len_l, ev_len_t, ev_len_f, ev_idx, mulOk_r, ev_mul_ii, OT.toD, r]
    by_cases ha : ds.all isGroup = true
    · rw [ha] at ea
      obtain ⟨gs, rfl⟩ := all_grps ha
      have hp : (flatG (gs.map grpD)).length < 64 := hp
      rw [flatG_map] at hp
      have ef := prefix_flat (k + 1) n gs hp _ rfl
      refine run_rt (ρ := [.ow (.sh (.tup (gs.map grpD))), .ow (.sh (.int n)), .no, .no, .no, .no]) rfl ?_ rfl
      show evSs (P (k + 2)) [] (.cons q6_0 (.cons q6_1 .nil)) [.ow (.sh (.tup (gs.map grpD))), .ow (.sh (.int n)), .no, .no, .no, .no] = _
      have s0 : evS (P (k + 2)) [] q6_0 [.ow (.sh (.tup (gs.map grpD))), .ow (.sh (.int n)), .no, .no, .no, .no] = .ok (.nx, [.ow (.sh (.tup (gs.map grpD))), .ow (.sh (.int n)), .no, .no, .no, .no]) := by
        simp [q6_0, ↓ea, D.tyName, ev_isi_t, isTy, fillA, backA, goneA, cm_le_ii, cm_lt_ii, getV, Fn.run, Fn.run0, evSs, evS, evT, evAll, evAny, evO, evE, evOs, evEs, evAs, evB, evAnd, evOr, CH.R.bind, R.ofO, CH.Env.tree, CH.Env.own, CH.Env.ownL, OT.getP, lock, unlock, outs, tru_b, ev_eq_ii, ev_ne_ii, ev_lt_ii, ev_le_ii, ev_gt_ii, ev_ge_ii, ev_add_ii, ev_sub_ii, ev_neg_i, ev_int_i, ev_abs_i, ev_len_l, ev_len_t, ev_len_f, ev_idx, mulOk_r, ev_mul_ii, OT.toD]
      rw [ss_next s0]
      have es := ev_sorted_i (gs.flatMap (·.2)) hp
      have er := ev_rng_up n h0 h1
      have eq := ev_eq_l (sortI (gs.flatMap (·.2))) (up n)
      simp only [isPrefix, ha, flatG_map, Bool.true_and]
      refine ss_stop (evE_ret (evE_op2 (evE_op1 ef es) ?_ eq))
      simp [D.tyName, ev_isi_t, isTy, fillA, backA, goneA, cm_le_ii, cm_lt_ii, getV, Fn.run, Fn.run0, evSs, evS, evT, evAll, evAny, evO, evE, evOs, evEs, evAs, evB, evAnd, evOr, CH.R.bind, R.ofO, CH.Env.tree, CH.Env.own, CH.Env.ownL, OT.getP, lock, unlock, outs, tru_b, ev_eq_ii, ev_ne_ii, ev_lt_ii, ev_le_ii, ev_gt_ii, ev_ge_ii, ev_add_ii, ev_sub_ii, ev_neg_i, ev_int_i, ev_abs_i, ev_len_l, ev_len_t, ev_len_f, ev_idx, mulOk_r, ev_mul_ii, OT.toD, er]
    · have ha : ds.all isGroup = false := by simpa using ha
      rw [ha] at ea
      simp only [isPrefix, ha, Bool.false_and]
      refine run_rt (ρ := [.ow (.sh (.tup ds)), .ow (.sh (.int n)), .no, .no, .no, .no]) rfl ?_ rfl
      show evSs (P (k + 2)) [] (.cons q6_0 (.cons q6_1 .nil)) [.ow (.sh (.tup ds)), .ow (.sh (.int n)), .no, .no, .no, .no] = _
      refine ss_stop ?_
      simp [q6_0, ↓ea, D.tyName, ev_isi_t, isTy, fillA, backA, goneA, cm_le_ii, cm_lt_ii, getV, Fn.run, Fn.run0, evSs, evS, evT, evAll, evAny, evO, evE, evOs, evEs, evAs, evB, evAnd, evOr, CH.R.bind, R.ofO, CH.Env.tree, CH.Env.own, CH.Env.ownL, OT.getP, lock, unlock, outs, tru_b, ev_eq_ii, ev_ne_ii, ev_lt_ii, ev_le_ii, ev_gt_ii, ev_ge_ii, ev_add_ii, ev_sub_ii, ev_neg_i, ev_int_i, ev_abs_i, ev_len_l, ev_len_t, ev_len_f, ev_idx, mulOk_r, ev_mul_ii, OT.toD]
  | _ => simp [f6, b6, q6_0, q6_1, D.tyName, ev_isi_t, isTy, fillA, backA, goneA, cm_le_ii, cm_lt_ii, getV, Fn.run, Fn.run0, evSs, evS, evT, evAll, evAny, evO, evE, evOs, evEs, evAs, evB, evAnd, evOr, CH.R.bind, R.ofO, CH.Env.tree, CH.Env.own, CH.Env.ownL, OT.getP, lock, unlock, outs, tru_b, ev_eq_ii, ev_ne_ii, ev_lt_ii, ev_le_ii, ev_gt_ii, ev_ge_ii, ev_add_ii, ev_sub_ii, ev_neg_i, ev_int_i, ev_abs_i, ev_len_l, ev_len_t, ev_len_f, ev_idx, mulOk_r, ev_mul_ii, OT.toD, isPrefix]
def GoodG (g : Str × List Int) : Prop := (g.1 = "each" ∨ g.1 = "some") ∧ g.2 ≠ [] ∧ g.2.Pairwise (· < ·)
theorem sortI_perm (L : List Int) : (sortI L).Perm L := List.mergeSort_perm _ _
theorem sortI_le (L : List Int) : (sortI L).Pairwise (· ≤ ·) := by
  have h1 : (sortI L).Pairwise fun a b => decide (a ≤ b) = true := List.pairwise_mergeSort (fun a b c h1 h2 => by
    simp only [decide_eq_true_eq] at h1 h2 ⊢; omega) (fun a b => by
    by_cases h : a ≤ b
    · simp [h]
    · simp [h]; omega) L
  exact h1.imp fun h => by simpa using h
theorem sortI_lt {L : List Int} (h : L.Nodup) : (sortI L).Pairwise (· < ·) := by
  have h2 : (sortI L).Pairwise fun a b => a ≠ b := (List.Perm.nodup_iff (sortI_perm L)).mpr h
  exact ((sortI_le L).and h2).imp fun {a b} h => by have := h.1; have := h.2; omega
end K75
end
section
namespace K75
open PySem L2 Evl PyProof.Rows CH
abbrev rD (r : List Int) : D := .tup (r.map .int)
def FD (n : Int) (cs : List D) : D := .obj 0 ["n", "clauses"] [.int n, .tup cs]
def upN (m : Nat) : List Int := (List.range m).map fun (j : Nat) => (j : Int) + 1
def nextL (rs : List (List Int)) (v : Int) : List (List Int) := rs.flatMap fun r => [r ++ [v], r ++ [-v]]
def rowsL (vs : List Int) : List (List Int) := vs.foldl nextL [[]]
theorem m0 (k : Nat) : P (k + 2) 4 [.sh (FD 0 [])] = .ok (.sh (.tup ((rowsL (upN 0)).map rD)), [.sh (FD 0 [])]) := by kernel_rfl
theorem m1 (k : Nat) : P (k + 2) 4 [.sh (FD 1 [])] = .ok (.sh (.tup ((rowsL (upN 1)).map rD)), [.sh (FD 1 [])]) := by kernel_rfl
theorem m2 (k : Nat) : P (k + 2) 4 [.sh (FD 2 [])] = .ok (.sh (.tup ((rowsL (upN 2)).map rD)), [.sh (FD 2 [])]) := by kernel_rfl
theorem m3 (k : Nat) : P (k + 2) 4 [.sh (FD 3 [])] = .ok (.sh (.tup ((rowsL (upN 3)).map rD)), [.sh (FD 3 [])]) := by kernel_rfl
theorem m4 (k : Nat) : P (k + 2) 4 [.sh (FD 4 [])] = .ok (.sh (.tup ((rowsL (upN 4)).map rD)), [.sh (FD 4 [])]) := by kernel_rfl
theorem m5 (k : Nat) : P (k + 2) 4 [.sh (FD 5 [])] = .ok (.sh (.tup ((rowsL (upN 5)).map rD)), [.sh (FD 5 [])]) := by kernel_rfl
theorem models_c (k : Nat) : ∀ m : Nat, m < 6 → P (k + 2) 4 [.sh (FD m [])] = .ok (.sh (.tup ((rowsL (upN m)).map rD)), [.sh (FD m [])])
  | 0, _ => m0 k
  | 1, _ => m1 k
  | 2, _ => m2 k
  | 3, _ => m3 k
  | 4, _ => m4 k
  | 5, _ => m5 k
  | n + 6, h => absurd h (by omega)
end K75
end
section
namespace K75
open PySem L2 Evl PyProof.Rows CH
theorem run_nx {Φ : Phi} {fn : Fn} {ts us : List OT} {ρ : CH.Env} (hl : ts.length = fn.np) (h : evSs Φ fn.pl fn.body (ts.map .ow ++ List.replicate (fn.nv - fn.np) .no) = .ok (.nx, ρ)) (ho : outs fn.pl ρ 0 ts = some us) (hc : fn.cls = none := by rfl) : fn.run Φ ts = .ok (.sh .non, us) := by
  unfold Fn.run
  rw [hc]
  simp only
  unfold Fn.run0
  rw [if_pos hl, h]
  simp only [ho]
  rfl
def Fr (u : Sl) : Prop := u = .no ∨ ∃ d, u = .ow (.sh d)
theorem Fr.ow (d : D) : Fr (.ow (.sh d)) := .inr ⟨d, rfl⟩
theorem init_loop (k : Nat) (n : Int) (cs : List D) (hcs : ∀ c ∈ cs, Pl c ∧ isCl n c = true) (s0 : Sl) (sq : D) :
    ∃ u, forL (fun ρ => evSs (P (k + 2)) [0] p22_0 ρ) [0] (.one 3) cs [s0, .ow (.sh (.int n)), .lk (.sh sq), .no] = .ok (.nx, [s0, .ow (.sh (.int n)), .lk (.sh sq), u]) := by
  obtain ⟨ρ', hf, u, _, rfl⟩ := forL_inv (body := fun ρ => evSs (P (k + 2)) [0] p22_0 ρ) (pl := [0]) (tg := .one 3) (I := fun _ ρ => ∃ u, Fr u ∧ ρ = [s0, .ow (.sh (.int n)), .lk (.sh sq), u]) cs [s0, .ow (.sh (.int n)), .lk (.sh sq), .no] ⟨.no, .inl rfl, rfl⟩
    (fun i d ρ e hI => by
      obtain ⟨u, hu, rfl⟩ := hI
      obtain ⟨h1, h2⟩ := hcs d (List.mem_of_getElem? e)
      have r := cl_run k n h1
      rw [h2] at r
      refine ⟨[s0, .ow (.sh (.int n)), .lk (.sh sq), .ow (.sh d)], [s0, .ow (.sh (.int n)), .lk (.sh sq), .ow (.sh d)], ?_, ?_, _, .ow d, rfl⟩
      · rcases hu with rfl | ⟨x, rfl⟩ <;> rfl
      · simp [p22_0, D.tyName, ev_isi_t, isTy, fillA, backA, goneA, cm_le_ii, cm_lt_ii, getV, Fn.run, Fn.run0, evSs, evS, evT, evAll, evAny, evO, evE, evOs, evEs, evAs, evB, evAnd, evOr, CH.R.bind, R.ofO, CH.Env.tree, CH.Env.own, CH.Env.ownL, OT.getP, lock, unlock, outs, tru_b, ev_eq_ii, ev_ne_ii, ev_lt_ii, ev_le_ii, ev_gt_ii, ev_ge_ii, ev_add_ii, ev_sub_ii, ev_neg_i, ev_int_i, ev_abs_i, ev_len_l, ev_len_t, ev_len_f, ev_idx, mulOk_r, ev_mul_ii, OT.toD, r, OT.toD])
  exact ⟨u, hf⟩
theorem init_run (k : Nat) (n : Int) (h0 : 0 ≤ n) (cs : List D) (sq : Bool) (hcs : ∀ c ∈ cs, Pl c ∧ isCl n c = true) :
    P (k + 3) 22 [.obj 0 [] [], .sh (.int n), .sh (seqOf sq cs)] = .ok (.sh .non, [.obj 0 ["n", "clauses"] [.sh (.int n), .sh (.tup cs)], .sh (.int n), .sh (seqOf sq cs)]) := by
  rw [step (k + 2) 22 _ f22 t22]
  obtain ⟨u, lp⟩ := init_loop k n cs hcs (.ow (.obj 0 [] [])) (seqOf sq cs)
  have ri : P (k + 2) 0 [.sh (.int n)] = .ok (.sh (.bl true), [.sh (.int n)]) := rfl
  have hn : ¬ n < 0 := by omega
  refine run_nx (ρ := [.ow (.obj 0 ["n", "clauses"] [.sh (.int n), .sh (.tup cs)]), .ow (.sh (.int n)), .ow (.sh (seqOf sq cs)), u]) rfl ?_ rfl
  show evSs (P (k + 2)) [0] b22 [.ow (.obj 0 [] []), .ow (.sh (.int n)), .ow (.sh (seqOf sq cs)), .no] = _
  unfold b22
  rw [ss_next (ρ1 := [.ow (.obj 0 [] []), .ow (.sh (.int n)), .ow (.sh (seqOf sq cs)), .no]) (by simp [q22_0, D.tyName, ev_isi_t, isTy, fillA, backA, goneA, cm_le_ii, cm_lt_ii, getV, Fn.run, Fn.run0, evSs, evS, evT, evAll, evAny, evO, evE, evOs, evEs, evAs, evB, evAnd, evOr, CH.R.bind, R.ofO, CH.Env.tree, CH.Env.own, CH.Env.ownL, OT.getP, lock, unlock, outs, tru_b, ev_eq_ii, ev_ne_ii, ev_lt_ii, ev_le_ii, ev_gt_ii, ev_ge_ii, ev_add_ii, ev_sub_ii, ev_neg_i, ev_int_i, ev_abs_i, ev_len_l, ev_len_t, ev_len_f, ev_idx, mulOk_r, ev_mul_ii, OT.toD, ri, hn])]
  rw [ss_next (ρ1 := [.ow (.obj 0 [] []), .ow (.sh (.int n)), .ow (.sh (seqOf sq cs)), .no]) (by cases sq <;> simp [q22_1, D.tyName, ev_isi_t, isTy, fillA, backA, goneA, cm_le_ii, cm_lt_ii, getV, Fn.run, Fn.run0, evSs, evS, evT, evAll, evAny, evO, evE, evOs, evEs, evAs, evB, evAnd, evOr, CH.R.bind, R.ofO, CH.Env.tree, CH.Env.own, CH.Env.ownL, OT.getP, lock, unlock, outs, tru_b, ev_eq_ii, ev_ne_ii, ev_lt_ii, ev_le_ii, ev_gt_ii, ev_ge_ii, ev_add_ii, ev_sub_ii, ev_neg_i, ev_int_i, ev_abs_i, ev_len_l, ev_len_t, ev_len_f, ev_idx, mulOk_r, ev_mul_ii, OT.toD, seqOf])]
  rw [ss_next (ρ1 := [.ow (.obj 0 [] []), .ow (.sh (.int n)), .ow (.sh (seqOf sq cs)), u]) (by
    have hI : evI (P (k + 2)) [0] (.seq (.bor 2 [])) [.ow (.obj 0 [] []), .ow (.sh (.int n)), .ow (.sh (seqOf sq cs)), .no] = .ok (cs, [.ow (.obj 0 [] []), .ow (.sh (.int n)), .lk (.sh (seqOf sq cs)), .no]) := by cases sq <;> rfl
    unfold q22_2
    rw [evS, hI]
    simp only [CH.R.bind]
    rw [lp]
    rfl)]
  rw [ss_next (ρ1 := [.ow (.obj 0 ["n"] [.sh (.int n)]), .ow (.sh (.int n)), .ow (.sh (seqOf sq cs)), u]) (by rfl)]
  rw [ss_end]
  cases sq <;> rfl
theorem formula_run (k : Nat) (n : Int) (h0 : 0 ≤ n) (cs : List D) (sq : Bool) (hcs : ∀ c ∈ cs, Pl c ∧ isCl n c = true) :
    P (k + 4) 23 [.sh (.int n), .sh (seqOf sq cs)] = .ok (.obj 0 ["n", "clauses"] [.sh (.int n), .sh (.tup cs)], [.sh (.int n), .sh (seqOf sq cs)]) := by
  rw [step (k + 3) 23 _ f23 t23]
  show mkR (P (k + 3) 22 [.obj 0 [] [], .sh (.int n), .sh (seqOf sq cs)]) = _
  rw [init_run k n h0 cs sq hcs]
  rfl
end K75
end
section
namespace K75
open PySem L2 Evl PyProof.Rows CH
theorem ev_any {α : Type} (xs : List α) (f : α → Bool) : Op.ev (.bi .any) [.lst (xs.map fun x => .sh (.bl (f x)))] = some (.sh (.bl (xs.any f))) := by
  show anyEv (.lst (xs.map fun x => .sh (.bl (f x)))) = _
  have e : xs.map (fun x => OT.sh (.bl (f x))) = ((xs.map f).map .bl).map .sh := by rw [List.map_map, List.map_map]; rfl
  unfold anyEv
  rw [e, litems_sh]
  show (blsD ((xs.map f).map .bl)).map _ = _
  rw [blsD_map]
  show some (OT.sh (D.bl ((xs.map f).any id))) = _
  rw [List.any_map]
  rfl
theorem evE_any {Φ : Phi} {pl : List Nat} {e : CH.CE} {i : Nat} {it : CI} {cs : CTs} {ρ ρ1 : CH.Env} {α : Type} {xs : List α} {mk : α → D} {f : α → Bool}
    (hI : evI Φ pl it ρ = .ok (xs.map mk, ρ1)) (hn : ρ1[i]? = some .no) (hp : i ∉ pl) (hl : xs.length ≤ big)
    (hc : ∀ ρ, evAll Φ pl cs ρ = .ok (true, ρ)) (h : ∀ x ∈ xs, evE Φ pl e (ρ1.set i (.ow (.sh (mk x)))) = .ok (.sh (.bl (f x)), ρ1.set i (.ow (.sh (mk x))))) :
    evE Φ pl (.op (.bi .any) (.cons (.e (.lc e (.one i) it cs)) .nil)) ρ = .ok (.sh (.bl (xs.any f)), backI it ρ ρ1) :=
  evE_op1 (evE_lc (g := fun x => .bl (f x)) hI hn hp hl hc h) (ev_any xs f)
theorem nextL_len (rs : List (List Int)) (v : Int) : (nextL rs v).length = 2 * rs.length := by
  unfold nextL
  induction rs with
  | nil => rfl
  | cons r rs ih => rw [List.flatMap_cons, List.length_append, ih]; simp; omega
theorem fold_len : ∀ (vs : List Int) (rs : List (List Int)), (vs.foldl nextL rs).length = 2 ^ vs.length * rs.length
  | [], rs => by simp
  | v :: vs, rs => by
    rw [List.foldl_cons, fold_len vs, nextL_len, List.length_cons, Nat.pow_succ, Nat.mul_assoc]
theorem rowsL_len (vs : List Int) : (rowsL vs).length = 2 ^ vs.length := by unfold rowsL; rw [fold_len]; simp
theorem fold_mem : ∀ (vs us : List Int) (rs : List (List Int)), (∀ r ∈ rs, r.length = us.length ∧ ∀ l ∈ r, l ∈ us ∨ -l ∈ us) → ∀ r ∈ vs.foldl nextL rs, r.length = us.length + vs.length ∧ ∀ l ∈ r, l ∈ us ++ vs ∨ -l ∈ us ++ vs
  | [], us, rs, h, r, hr => by simpa using h r hr
  | v :: vs, us, rs, h, r, hr => by
    have := fold_mem vs (us ++ [v]) (nextL rs v) (fun q hq => by
      unfold nextL at hq
      obtain ⟨p, hp, hq⟩ := List.mem_flatMap.mp hq
      obtain ⟨h1, h2⟩ := h p hp
      have : q = p ++ [v] ∨ q = p ++ [-v] := by simpa using hq
      have key : ∀ x, (x = v ∨ x = -v) → (p ++ [x]).length = (us ++ [v]).length ∧ ∀ l ∈ p ++ [x], l ∈ us ++ [v] ∨ -l ∈ us ++ [v] := fun x hx => by
        refine ⟨by simp [h1], fun l hl => ?_⟩
        rcases List.mem_append.mp hl with hl | hl
        · exact (h2 l hl).imp (fun z => by simp [z]) fun z => by simp [z]
        · have : l = x := by simpa using hl
          subst this
          rcases hx with rfl | rfl
          · exact .inl (by simp)
          · exact .inr (by simp)
      rcases this with rfl | rfl
      · exact key _ (.inl rfl)
      · exact key _ (.inr rfl)) r hr
    refine ⟨by have := this.1; simp only [List.length_append, List.length_cons, List.length_nil] at this ⊢; omega, fun l hl => ?_⟩
    simpa using this.2 l hl
theorem rowsL_mem {vs r : List Int} (h : r ∈ rowsL vs) : r.length = vs.length ∧ ∀ l ∈ r, l ∈ vs ∨ -l ∈ vs := by
  have := fold_mem vs [] [[]] (fun r hr => by
    have : r = [] := by simpa using hr
    subst this
    exact ⟨rfl, fun l hl => absurd hl (by simp)⟩) r h
  simpa using this
theorem fold_map (f : Int → Int) : ∀ (vs : List Int) (rs : List (List Int)), (∀ v ∈ vs, f (-v) = -(f v)) → (vs.foldl nextL rs).map (List.map f) = (vs.map f).foldl nextL (rs.map (List.map f))
  | [], rs, _ => rfl
  | v :: vs, rs, h => by
    rw [List.foldl_cons, fold_map f vs _ fun u hu => h u (by simp [hu]), List.map_cons, List.foldl_cons]
    congr 1
    unfold nextL
    rw [List.map_flatMap, List.flatMap_map]
    have hv := h v (by simp)
    simp [hv]
theorem rowsL_map (f : Int → Int) (vs : List Int) (h : ∀ v ∈ vs, f (-v) = -(f v)) : (rowsL vs).map (List.map f) = rowsL (vs.map f) := fold_map f vs [[]] h
def pick (vs : List Int) (l : Int) : Int := vs.getD (absI l - 1).toNat 0 * (if 0 < l then 1 else -1)
theorem upN_mem {m : Nat} {l : Int} (h : l ∈ upN m ∨ -l ∈ upN m) : 1 ≤ absI l ∧ absI l ≤ m := by
  unfold upN at h
  unfold absI
  rcases h with h | h <;> (obtain ⟨j, hj, e⟩ := List.mem_map.mp h; have := List.mem_range.mp hj; split <;> omega)
theorem pick_up (vs : List Int) : (upN vs.length).map (pick vs) = vs := by
  apply List.ext_getElem?
  intro j
  unfold upN
  rw [List.map_map, List.getElem?_map]
  by_cases h : j < vs.length
  · rw [List.getElem?_eq_getElem (by simpa using h), List.getElem_range, List.getElem?_eq_getElem h]
    show some (pick vs ((j : Int) + 1)) = _
    unfold pick absI
    have e : ((if (j : Int) + 1 < 0 then -((j : Int) + 1) else (j : Int) + 1) - 1).toNat = j := by split <;> omega
    rw [e, if_pos (by omega), Int.mul_one, List.getD_eq_getElem?_getD, List.getElem?_eq_getElem h]
    rfl
  · rw [List.getElem?_eq_none (by simpa using h), List.getElem?_eq_none (by omega)]
    rfl
theorem pick_neg (vs : List Int) {v : Int} (h : 1 ≤ v) : pick vs (-v) = -(pick vs v) := by
  unfold pick absI
  rw [if_pos (by omega), if_neg (by omega), if_neg (by omega), if_pos (by omega)]
  have : (- -v) = v := by omega
  rw [this]
  simp
theorem rows_pick (vs : List Int) : (rowsL (upN vs.length)).map (List.map (pick vs)) = rowsL vs := by
  rw [rowsL_map _ _ fun v hv => pick_neg vs (by
    unfold upN at hv
    obtain ⟨j, _, e⟩ := List.mem_map.mp hv
    omega), pick_up]
theorem pick_pos (k : Nat) (V RR : D) (l x : Int) (h : 0 < l) (ix : idxEv (.sh V) (l - 1) = some (.sh (.int x))) : evE (P k) [] p8_0 [.ow (.sh V), .lk (.sh RR), .ow (.sh (.int l))] = .ok (.sh (.int (x * 1)), [.ow (.sh V), .lk (.sh RR), .ow (.sh (.int l))]) := by
  have hn : ¬ l < 0 := by omega
  have ml : Op.ev (.bin .mul) [.sh (.int x), .sh (.int 1)] = some (.sh (.int (x * 1))) := ev_mul_ii x 1 (mulOk_r _ _ (by decide))
  refine evE_op2 (ρ1 := [.ow (.sh V), .lk (.sh RR), .ow (.sh (.int l))]) (t := .sh (.int x)) (t' := .sh (.int 1)) ?_ ?_ ml
  · simp [D.tyName, ev_isi_t, isTy, fillA, backA, goneA, cm_le_ii, cm_lt_ii, getV, Fn.run, Fn.run0, evSs, evS, evT, evAll, evAny, evO, evE, evOs, evEs, evAs, evB, evAnd, evOr, CH.R.bind, R.ofO, CH.Env.tree, CH.Env.own, CH.Env.ownL, OT.getP, lock, unlock, outs, tru_b, ev_eq_ii, ev_ne_ii, ev_lt_ii, ev_le_ii, ev_gt_ii, ev_ge_ii, ev_add_ii, ev_sub_ii, ev_neg_i, ev_int_i, ev_abs_i, ev_len_l, ev_len_t, ev_len_f, ev_idx, mulOk_r, ev_mul_ii, OT.toD, hn, ix]
  · simp [D.tyName, ev_isi_t, isTy, fillA, backA, goneA, cm_le_ii, cm_lt_ii, getV, Fn.run, Fn.run0, evSs, evS, evT, evAll, evAny, evO, evE, evOs, evEs, evAs, evB, evAnd, evOr, CH.R.bind, R.ofO, CH.Env.tree, CH.Env.own, CH.Env.ownL, OT.getP, lock, unlock, outs, tru_b, ev_eq_ii, ev_ne_ii, ev_lt_ii, ev_le_ii, ev_gt_ii, ev_ge_ii, ev_add_ii, ev_sub_ii, ev_neg_i, ev_int_i, ev_abs_i, ev_len_l, ev_len_t, ev_len_f, ev_idx, mulOk_r, ev_mul_ii, OT.toD, h]
theorem pick_neg2 (k : Nat) (V RR : D) (l x : Int) (h : ¬ 0 < l) (ix : idxEv (.sh V) ((if l < 0 then -l else l) - 1) = some (.sh (.int x))) : evE (P k) [] p8_0 [.ow (.sh V), .lk (.sh RR), .ow (.sh (.int l))] = .ok (.sh (.int (x * -1)), [.ow (.sh V), .lk (.sh RR), .ow (.sh (.int l))]) := by
  have ml : Op.ev (.bin .mul) [.sh (.int x), .sh (.int (-1))] = some (.sh (.int (x * -1))) := ev_mul_ii x (-1) (mulOk_r _ _ (by decide))
  refine evE_op2 (ρ1 := [.ow (.sh V), .lk (.sh RR), .ow (.sh (.int l))]) (t := .sh (.int x)) (t' := .sh (.int (-1))) ?_ ?_ ml
  · simp [D.tyName, ev_isi_t, isTy, fillA, backA, goneA, cm_le_ii, cm_lt_ii, getV, Fn.run, Fn.run0, evSs, evS, evT, evAll, evAny, evO, evE, evOs, evEs, evAs, evB, evAnd, evOr, CH.R.bind, R.ofO, CH.Env.tree, CH.Env.own, CH.Env.ownL, OT.getP, lock, unlock, outs, tru_b, ev_eq_ii, ev_ne_ii, ev_lt_ii, ev_le_ii, ev_gt_ii, ev_ge_ii, ev_add_ii, ev_sub_ii, ev_neg_i, ev_int_i, ev_abs_i, ev_len_l, ev_len_t, ev_len_f, ev_idx, mulOk_r, ev_mul_ii, OT.toD, ix]
  · simp [D.tyName, ev_isi_t, isTy, fillA, backA, goneA, cm_le_ii, cm_lt_ii, getV, Fn.run, Fn.run0, evSs, evS, evT, evAll, evAny, evO, evE, evOs, evEs, evAs, evB, evAnd, evOr, CH.R.bind, R.ofO, CH.Env.tree, CH.Env.own, CH.Env.ownL, OT.getP, lock, unlock, outs, tru_b, ev_eq_ii, ev_ne_ii, ev_lt_ii, ev_le_ii, ev_gt_ii, ev_ge_ii, ev_add_ii, ev_sub_ii, ev_neg_i, ev_int_i, ev_abs_i, ev_len_l, ev_len_t, ev_len_f, ev_idx, mulOk_r, ev_mul_ii, OT.toD, h]
abbrev itM : CI := .seq (.e (.call 4 (.val (.fz (.call 23 (.val (.op (.bi .len) (.cons (.bor 0 []) .nil)) (.val (.tup .nil) .nil)))) .nil)))
theorem itM_val (k : Nat) (V : D) (m : Int) (RR : List D) (w : OT) (ln : Op.ev (.bi .len) [.sh V] = some (.sh (.int m))) (hf : P k 23 [.sh (.int m), .sh (.tup [])] = .ok (.obj 0 ["n", "clauses"] [.sh (.int m), .sh (.tup [])], [.sh (.int m), .sh (.tup [])])) (hm : P k 4 [.sh (.obj 0 ["n", "clauses"] [.int m, .tup []])] = .ok (.sh (.tup RR), [w])) :
    evI (P k) [] itM [.ow (.sh V), .no, .no] = .ok (RR, [.ow (.sh V), .no, .no]) := by
  have e1 : evE (P k) [] (.op (.bi .len) (.cons (.bor 0 []) .nil)) [.ow (.sh V), .no, .no] = .ok (.sh (.int m), [.ow (.sh V), .no, .no]) := by simp [D.tyName, ev_isi_t, isTy, fillA, backA, goneA, cm_le_ii, cm_lt_ii, getV, Fn.run, Fn.run0, evSs, evS, evT, evAll, evAny, evO, evE, evOs, evEs, evAs, evB, evAnd, evOr, CH.R.bind, R.ofO, CH.Env.tree, CH.Env.own, CH.Env.ownL, OT.getP, lock, unlock, outs, tru_b, ev_eq_ii, ev_ne_ii, ev_lt_ii, ev_le_ii, ev_gt_ii, ev_ge_ii, ev_add_ii, ev_sub_ii, ev_neg_i, ev_int_i, ev_abs_i, ev_len_l, ev_len_t, ev_len_f, ev_idx, mulOk_r, ev_mul_ii, OT.toD, ln]
  have e2 : evE (P k) [] (.fz (.call 23 (.val (.op (.bi .len) (.cons (.bor 0 []) .nil)) (.val (.tup .nil) .nil)))) [.ow (.sh V), .no, .no] = .ok (.sh (.obj 0 ["n", "clauses"] [.int m, .tup []]), [.ow (.sh V), .no, .no]) := by
    rw [evE, evE, evAs, e1]
    have hb : 0 ≤ big := by decide
    simp only [CH.R.bind, evAs, evE, evEs, toDs, OT.toD, fillA, Option.map, hf, backA, goneA, List.length_nil, hb, if_true]
  have e3 : evE (P k) [] (.call 4 (.val (.fz (.call 23 (.val (.op (.bi .len) (.cons (.bor 0 []) .nil)) (.val (.tup .nil) .nil)))) .nil)) [.ow (.sh V), .no, .no] = .ok (.sh (.tup RR), [.ow (.sh V), .no, .no]) := by
    rw [evE, evAs, e2]
    simp only [CH.R.bind, evAs, OT.toD, fillA, Option.map, hm, backA, goneA]
  unfold itM
  rw [evI, e3]
  rfl
theorem rows_elt (k : Nat) (vs r : List Int) (hr1 : r.length ≤ big) (hr2 : ∀ l ∈ r, 1 ≤ absI l ∧ absI l ≤ vs.length) : evE (P k) [] p8_2 [.ow (.sh (rD vs)), .ow (.sh (rD r)), .no] = .ok (.sh (rD (r.map (pick vs))), [.ow (.sh (rD vs)), .ow (.sh (rD r)), .no]) := by
    have lc := evE_lc (Φ := P k) (pl := []) (e := p8_0) (i := 2) (it := .seq (.bor 1 [])) (cs := p8_1) (ρ := [.ow (.sh (rD vs)), .ow (.sh (rD r)), .no]) (ρ1 := [.ow (.sh (rD vs)), .lk (.sh (rD r)), .no]) (mk := D.int) (g := fun l => .int (pick vs l)) (xs := r) rfl rfl (by simp) hr1 (fun ρ => rfl) (fun l hlr => by
      have hm := hr2 l hlr
      have ix : idxEv (.sh (rD vs)) (absI l - 1) = some (.sh (.int (vs.getD (absI l - 1).toNat 0))) := by
        have := idx_st vs (absI l - 1).toNat (by omega)
        rwa [show (((absI l - 1).toNat : Nat) : Int) = absI l - 1 by omega] at this
      unfold pick
      generalize vs.getD (absI l - 1).toNat 0 = x at ix ⊢
      generalize rD vs = V at ix ⊢
      generalize rD r = RR
      by_cases h : 0 < l
      · rw [if_pos h]
        exact pick_pos k V RR l x h (by unfold absI at ix; rwa [if_neg (by omega)] at ix)
      · rw [if_neg h]
        exact pick_neg2 k V RR l x h ix)
    have tp : Op.ev (.bi .tuple) [.lst (r.map fun l => .sh (.int (pick vs l)))] = some (.sh (rD (r.map (pick vs)))) := by
      show (OT.litems (.lst (r.map fun l => .sh (D.int (pick vs l))))).map _ = _
      rw [litems_map r fun l => D.int (pick vs l)]
      show some (OT.sh (.tup (r.map fun l => D.int (pick vs l)))) = some (.sh (.tup ((r.map (pick vs)).map .int)))
      rw [List.map_map]
      rfl
    exact evE_op1 lc tp
theorem rows_over_run (k : Nat) (vs : List Int) (hl : vs.length < 6) : P (k + 5) 8 [.sh (rD vs)] = .ok (.lst ((rowsL vs).map fun r => .sh (rD r)), [.sh (rD vs)]) := by
  rw [step (k + 4) 8 _ f8 t8]
  have hI : evI (P (k + 4)) [] itM [.ow (.sh (rD vs)), .no, .no] = .ok ((rowsL (upN vs.length)).map rD, [.ow (.sh (rD vs)), .no, .no]) :=
    itM_val (k + 4) (rD vs) vs.length _ (.sh (FD vs.length [])) (by rw [ev_len_t, List.length_map]) (formula_run k (vs.length : Int) (by omega) [] false fun c hc => absurd hc (by simp)) (models_c (k + 2) vs.length hl)
  have hu : (upN vs.length).length = vs.length := by simp [upN]
  have hb : (rowsL (upN vs.length)).length ≤ big := by
    rw [rowsL_len, hu]
    have : 2 ^ vs.length ≤ 2 ^ 5 := Nat.pow_le_pow_right (by decide) (by omega)
    exact Nat.le_trans this (by decide)
  have key := evE_lc (Φ := P (k + 4)) (pl := []) (e := p8_2) (i := 1) (it := itM) (cs := p8_3) (mk := rD) (g := fun r => rD (r.map (pick vs))) (xs := rowsL (upN vs.length)) hI rfl (by simp) hb (fun ρ => rfl) (fun r hr => by
    obtain ⟨hr1, hr2⟩ := rowsL_mem hr
    exact rows_elt (k + 4) vs r (by rw [hr1, hu]; exact Nat.le_trans (Nat.le_of_lt hl) (by decide)) fun l hl => upN_mem (hr2 l hl))
  refine run_rt (ρ := [.ow (.sh (rD vs)), .no, .no]) rfl (ss_stop ?_) rfl
  refine evE_ret (key.trans ?_)
  have e : (rowsL (upN vs.length)).map (fun r => OT.sh (rD (r.map (pick vs)))) = (rowsL vs).map fun r => .sh (rD r) := by
    rw [← rows_pick vs, List.map_map]
    rfl
  rw [e]
  rfl
end K75
end
section
namespace K75
open PySem L2 Evl PyProof.Rows CH
def meets (cs : List (List Int)) (r : List Int) : Bool := cs.all fun c => c.any fun l => decide (l ∈ r)
def ansL (cs : List (List Int)) (r : List Int) (as : List (List Int)) : Option (List Int) := as.find? fun a => meets cs (r ++ a)
def optD : Option (List Int) → D
  | some a => rD a
  | none => .non
/-- does some literal of the clause stand in the row -/
theorem any_in (k : Nat) (A B C Dd E : Sl) (c r : List Int) (hc : c.length < 1000) :
    evE (P k) [] p9_3 [A, B, C, Dd, .ow (.sh (rD r)), .ow (.sh (rD c)), .no] = .ok (.sh (.bl (c.any fun l => decide (l ∈ r))), [A, B, C, Dd, .ow (.sh (rD r)), .ow (.sh (rD c)), .no]) := by
  exact evE_any (Φ := P k) (pl := []) (e := p9_1) (i := 6) (it := .seq (.bor 5 [])) (cs := p9_2) (ρ := [A, B, C, Dd, .ow (.sh (rD r)), .ow (.sh (rD c)), .no]) (ρ1 := [A, B, C, Dd, .ow (.sh (rD r)), .lk (.sh (rD c)), .no]) (mk := D.int) (f := fun l => decide (l ∈ r)) (xs := c) rfl rfl (by simp) (by unfold big; omega) (fun ρ => rfl) (fun l _ => by
    have i1 := ev_in_it l r
    generalize rD c = CC
    generalize hR : D.tup (r.map .int) = RR at i1
    show evE (P k) [] p9_1 [A, B, C, Dd, .ow (.sh (.tup (r.map .int))), .lk (.sh CC), .ow (.sh (.int l))] = _
    rw [hR]
    have : evE (P k) [] p9_1 [A, B, C, Dd, .ow (.sh RR), .lk (.sh CC), .ow (.sh (.int l))] = .ok (.sh (.bl (decide (l ∈ r))), [A, B, C, Dd, .ow (.sh RR), .lk (.sh CC), .ow (.sh (.int l))]) := by simp [p9_1, D.tyName, ev_isi_t, isTy, fillA, backA, goneA, cm_le_ii, cm_lt_ii, getV, Fn.run, Fn.run0, evSs, evS, evT, evAll, evAny, evO, evE, evOs, evEs, evAs, evB, evAnd, evOr, CH.R.bind, R.ofO, CH.Env.tree, CH.Env.own, CH.Env.ownL, OT.getP, lock, unlock, outs, tru_b, ev_eq_ii, ev_ne_ii, ev_lt_ii, ev_le_ii, ev_gt_ii, ev_ge_ii, ev_add_ii, ev_sub_ii, ev_neg_i, ev_int_i, ev_abs_i, ev_len_l, ev_len_t, ev_len_f, ev_idx, mulOk_r, ev_mul_ii, OT.toD, i1]
    rw [this]
    show _ = R.ok (_, [A, B, C, Dd, .ow (.sh (.tup (r.map .int))), .lk (.sh CC), .ow (.sh (.int l))])
    rw [hR])
theorem meets_test (k : Nat) (n : Int) (cs : List (List Int)) (B C Dd : Sl) (r : List Int) (hl : cs.length < 1000) (hc : ∀ c ∈ cs, c.length < 1000) :
    evE (P k) [] (.op (.bi .all) (.cons (.e (.lc p9_3 (.one 5) (.seq (.e (.op (.fld "clauses") (.cons (.bor 0 []) .nil)))) p9_4)) .nil)) [.ow (.sh (FD n (cs.map rD))), B, C, Dd, .ow (.sh (rD r)), .no, .no] = .ok (.sh (.bl (meets cs r)), [.ow (.sh (FD n (cs.map rD))), B, C, Dd, .ow (.sh (rD r)), .no, .no]) := by
  have hI : evI (P k) [] (.seq (.e (.op (.fld "clauses") (.cons (.bor 0 []) .nil)))) [.ow (.sh (FD n (cs.map rD))), B, C, Dd, .ow (.sh (rD r)), .no, .no] = .ok (cs.map rD, [.ow (.sh (FD n (cs.map rD))), B, C, Dd, .ow (.sh (rD r)), .no, .no]) := rfl
  exact evE_all (Φ := P k) (pl := []) (e := p9_3) (i := 5) (cs := p9_4) (mk := rD) (f := fun c => c.any fun l => decide (l ∈ r)) (xs := cs) hI rfl (by simp) (by unfold big; omega) (fun ρ => rfl) (fun c hcc => any_in k _ B C Dd .no c r (hc c hcc))
theorem add_rr (r a : List Int) (h1 : r.length < 1000) (h2 : a.length < 1000) : Op.ev (.bin .add) [.sh (rD r), .sh (rD a)] = some (.sh (rD (r ++ a))) := by
  show guard_ (decide ((r.map D.int).length + (a.map D.int).length ≤ big)) (OT.sh (.tup (r.map D.int ++ a.map D.int))) = _
  rw [decide_eq_true (by rw [List.length_map, List.length_map]; unfold big; omega), ← List.map_append]; rfl
theorem ans_loop (k : Nat) (n : Int) (cs : List (List Int)) (r : List Int) (A : D) (hl : cs.length < 1000) (hc : ∀ c ∈ cs, c.length < 1000) (hr : r.length < 1000) : ∀ (as : List (List Int)) (u v : Sl), Fr u → Fr v → (∀ a ∈ as, a.length < 1000) →
    ∃ u' v', forL (fun ρ => evSs (P k) [] p9_6 ρ) [] (.one 3) (as.map rD) [.ow (.sh (FD n (cs.map rD))), .ow (.sh (rD r)), .lk (.sh A), u, v, .no, .no] = .ok ((match ansL cs r as with | some a => .rt (.sh (rD a)) | none => .nx), [.ow (.sh (FD n (cs.map rD))), .ow (.sh (rD r)), .lk (.sh A), u', v', .no, .no])
  | [], u, v, _, _, _ => ⟨u, v, rfl⟩
  | a :: as, u, v, hu, hv, ha => by
    have st : setTg [] (.one 3) (rD a) [.ow (.sh (FD n (cs.map rD))), .ow (.sh (rD r)), .lk (.sh A), u, v, .no, .no] = some [.ow (.sh (FD n (cs.map rD))), .ow (.sh (rD r)), .lk (.sh A), .ow (.sh (rD a)), v, .no, .no] := by
      rcases hu with rfl | ⟨e, rfl⟩ <;> rfl
    rw [List.map_cons]
    unfold forL
    rw [st]
    simp only
    have b0 : evS (P k) [] p9_0 [.ow (.sh (FD n (cs.map rD))), .ow (.sh (rD r)), .lk (.sh A), .ow (.sh (rD a)), v, .no, .no] = .ok (.nx, [.ow (.sh (FD n (cs.map rD))), .ow (.sh (rD r)), .lk (.sh A), .ow (.sh (rD a)), .ow (.sh (rD (r ++ a))), .no, .no]) := by
      have ad := add_rr r a hr (ha a (by simp))
      generalize rD (r ++ a) = RA at ad ⊢
      generalize rD r = RR at ad ⊢
      generalize rD a = AA at ad ⊢
      generalize FD n (cs.map rD) = FF
      rcases hv with rfl | ⟨e, rfl⟩ <;> simp [p9_0, D.tyName, ev_isi_t, isTy, fillA, backA, goneA, cm_le_ii, cm_lt_ii, getV, Fn.run, Fn.run0, evSs, evS, evT, evAll, evAny, evO, evE, evOs, evEs, evAs, evB, evAnd, evOr, CH.R.bind, R.ofO, CH.Env.tree, CH.Env.own, CH.Env.ownL, OT.getP, lock, unlock, outs, tru_b, ev_eq_ii, ev_ne_ii, ev_lt_ii, ev_le_ii, ev_gt_ii, ev_ge_ii, ev_add_ii, ev_sub_ii, ev_neg_i, ev_int_i, ev_abs_i, ev_len_l, ev_len_t, ev_len_f, ev_idx, mulOk_r, ev_mul_ii, OT.toD, ad]
    have tt := meets_test k n cs (.ow (.sh (rD r))) (.lk (.sh A)) (.ow (.sh (rD a))) (r ++ a) hl hc
    have b1 : evT (P k) [] (.val (.e (.op (.bi .all) (.cons (.e (.lc p9_3 (.one 5) (.seq (.e (.op (.fld "clauses") (.cons (.bor 0 []) .nil)))) p9_4)) .nil)))) [.ow (.sh (FD n (cs.map rD))), .ow (.sh (rD r)), .lk (.sh A), .ow (.sh (rD a)), .ow (.sh (rD (r ++ a))), .no, .no] = .ok (meets cs (r ++ a), [.ow (.sh (FD n (cs.map rD))), .ow (.sh (rD r)), .lk (.sh A), .ow (.sh (rD a)), .ow (.sh (rD (r ++ a))), .no, .no]) := by
      rw [evT, evO, tt]
      rfl
    unfold p9_6
    rw [ss_next b0, ss_end]
    unfold p9_5
    cases hm : meets cs (r ++ a) with
    | true =>
      rw [hm] at b1
      rw [ife_t b1, ss_end]
      refine ⟨.ow (.sh (rD a)), .ow (.sh (rD (r ++ a))), ?_⟩
      have : ansL cs r (a :: as) = some a := by unfold ansL; rw [List.find?_cons, hm]
      rw [this]
      rfl
    | false =>
      rw [hm] at b1
      rw [ife_f b1]
      have : ansL cs r (a :: as) = ansL cs r as := by unfold ansL; rw [List.find?_cons, hm]
      rw [this]
      exact ans_loop k n cs r A hl hc hr as _ _ (.ow _) (.ow _) fun b hb => ha b (by simp [hb])
theorem answer_run (k : Nat) (n : Int) (cs : List (List Int)) (r : List Int) (as : List (List Int)) (hl : cs.length < 1000) (hc : ∀ c ∈ cs, c.length < 1000) (hr : r.length < 1000) (ha : ∀ a ∈ as, a.length < 1000) :
    P (k + 1) 9 [.sh (FD n (cs.map rD)), .sh (rD r), .sh (.lst (as.map rD))] = .ok (.sh (optD (ansL cs r as)), [.sh (FD n (cs.map rD)), .sh (rD r), .sh (.lst (as.map rD))]) := by
  rw [step k 9 _ f9 t9]
  obtain ⟨u, v, lp⟩ := ans_loop k n cs r (.lst (as.map rD)) hl hc hr as .no .no (.inl rfl) (.inl rfl) ha
  have s0 : evS (P k) [] q9_0 [.ow (.sh (FD n (cs.map rD))), .ow (.sh (rD r)), .ow (.sh (.lst (as.map rD))), .no, .no, .no, .no] = .ok ((match ansL cs r as with | some a => .rt (.sh (rD a)) | none => .nx), [.ow (.sh (FD n (cs.map rD))), .ow (.sh (rD r)), .ow (.sh (.lst (as.map rD))), u, v, .no, .no]) := by
    have hI : evI (P k) [] (.seq (.bor 2 [])) [.ow (.sh (FD n (cs.map rD))), .ow (.sh (rD r)), .ow (.sh (.lst (as.map rD))), .no, .no, .no, .no] = .ok (as.map rD, [.ow (.sh (FD n (cs.map rD))), .ow (.sh (rD r)), .lk (.sh (.lst (as.map rD))), .no, .no, .no, .no]) := rfl
    unfold q9_0
    rw [evS, hI]
    simp only [CH.R.bind]
    rw [lp]
    rfl
  cases h : ansL cs r as with
  | some a =>
    rw [h] at s0
    exact run_rt rfl (ss_stop s0) rfl
  | none =>
    rw [h] at s0
    refine run_rt (ρ := [.ow (.sh (FD n (cs.map rD))), .ow (.sh (rD r)), .ow (.sh (.lst (as.map rD))), u, v, .no, .no]) rfl ?_ rfl
    show evSs (P k) [] b9 _ = _
    unfold b9
    exact (ss_next s0).trans rfl
end K75
end
section
namespace K75
open PySem L2 Evl PyProof.Rows CH
theorem run_exn {Φ : Phi} {fn : Fn} {ts : List OT} {ρ : CH.Env} {x : Exn} (hl : ts.length = fn.np) (h : evSs Φ fn.pl fn.body (ts.map .ow ++ List.replicate (fn.nv - fn.np) .no) = .ex x ρ) (hc : fn.cls = none := by rfl) : fn.run Φ ts = .ex x [] := by
  unfold Fn.run
  rw [hc]
  simp only
  unfold Fn.run0
  rw [if_pos hl, h]
theorem ss_exn {Φ : Phi} {pl : List Nat} {s : CS} {r : CSs} {ρ ρ1 : CH.Env} {x : Exn} (h : evS Φ pl s ρ = .ex x ρ1) : evSs Φ pl (.cons s r) ρ = .ex x ρ1 := by rw [evSs, h]; rfl
theorem need_q (k : Nat) (n : Int) (cs : List D) (v : D) (b : Bool) (r : P k 6 [.sh v, .sh (.int n)] = .ok (.sh (.bl b), [.sh v, .sh (.int n)])) : evS (P k) [] q7_0 [.ow (.sh (FD n cs)), .ow (.sh v)] = if b = true then .ok (.nx, [.ow (.sh (FD n cs)), .ow (.sh v)]) else .ex ⟨3, [v]⟩ [.ow (.sh (FD n cs)), .ow (.sh v)] := by
  have e1 : evE (P k) [] (.call 6 (.val (.v 1) (.val (.op (.fld "n") (.cons (.bor 0 []) .nil)) .nil))) [.ow (.sh (FD n cs)), .ow (.sh v)] = .ok (.sh (.bl b), [.ow (.sh (FD n cs)), .ow (.sh v)]) := by
    have e0 : evE (P k) [] (.op (.fld "n") (.cons (.bor 0 []) .nil)) [.ow (.sh (FD n cs)), .ow (.sh v)] = .ok (.sh (.int n), [.ow (.sh (FD n cs)), .ow (.sh v)]) := rfl
    rw [evE, evAs, evE]
    simp only [getV, CH.Env.tree, List.getElem?_cons_succ, List.getElem?_cons_zero, CH.R.bind]
    rw [evAs, e0]
    simp only [CH.R.bind, evAs, OT.toD, fillA, Option.map, r, backA, goneA]
  unfold q7_0
  generalize FD n cs = FF at e1 ⊢
  cases b <;> simp [↓e1, D.tyName, ev_isi_t, isTy, fillA, backA, goneA, cm_le_ii, cm_lt_ii, getV, Fn.run, Fn.run0, evSs, evS, evT, evAll, evAny, evO, evE, evOs, evEs, evAs, evB, evAnd, evOr, CH.R.bind, R.ofO, CH.Env.tree, CH.Env.own, CH.Env.ownL, OT.getP, lock, unlock, outs, tru_b, ev_eq_ii, ev_ne_ii, ev_lt_ii, ev_le_ii, ev_gt_ii, ev_ge_ii, ev_add_ii, ev_sub_ii, ev_neg_i, ev_int_i, ev_abs_i, ev_len_l, ev_len_t, ev_len_f, ev_idx, mulOk_r, ev_mul_ii, OT.toD, OT.toD, toDs]
theorem need_ok (k : Nat) (n : Int) (cs : List D) {v : D} (h : Pl v) (hp : preOk v) (h0 : 0 ≤ n) (h1 : n < 1000000) (ht : isPrefix n v = true) : P (k + 4) 7 [.sh (FD n cs), .sh v] = .ok (.sh .non, [.sh (FD n cs), .sh v]) := by
  rw [step (k + 3) 7 _ f7 t7]
  have r := prefix_run k n h hp h0 h1
  rw [ht] at r
  have q := need_q (k + 3) n cs v true r
  rw [if_pos rfl] at q
  exact run_nx rfl ((ss_next q).trans rfl) rfl
theorem need_ex (k : Nat) (n : Int) (cs : List D) {v : D} (h : Pl v) (hp : preOk v) (h0 : 0 ≤ n) (h1 : n < 1000000) (ht : isPrefix n v = false) : P (k + 4) 7 [.sh (FD n cs), .sh v] = .ex ⟨3, [v]⟩ [] := by
  rw [step (k + 3) 7 _ f7 t7]
  have r := prefix_run k n h hp h0 h1
  rw [ht] at r
  have q := need_q (k + 3) n cs v false r
  rw [if_neg (by simp)] at q
  exact run_exn rfl (ss_exn q)
theorem flat1 {α β : Type} (f : α → β) : ∀ xs : List α, (xs.flatMap fun x => [f x]) = xs.map f
  | [] => rfl
  | x :: xs => by rw [List.flatMap_cons, flat1 f xs]; rfl
def isES (ws : List Str) : Bool := decide (ws = ES)
theorem eq1_str (a b : Str) : eq1 (.str a) (.str b) = (a == b) := rfl
theorem eqs_strs : ∀ as bs : List Str, eqs1 (as.map .str) (bs.map .str) = decide (as = bs)
  | [], [] => by simp [eqs1]
  | [], _ :: _ => by simp [eqs1]
  | _ :: _, [] => by simp [eqs1]
  | x :: a, y :: b => by
    simp only [List.map_cons, eqs1, eqs_strs a b, eq1_str, List.cons.injEq]
    by_cases h : x = y <;> simp [h]
theorem oks_strs (n : Nat) : ∀ ws : List Str, (∀ w ∈ ws, PyData.strOk w = true) → oks n (ws.map .str) = true
  | [], _ => rfl
  | w :: ws, h => by
    show ((D.str w).ok n && oks n (ws.map .str)) = true
    rw [oks_strs n ws fun v hv => h v (by simp [hv])]
    have : (D.str w).ok n = true := by
      have := h w (by simp)
      cases n <;> simp [D.ok, this]
    rw [this]; rfl
theorem eqD_strs (as bs : List Str) (ha : ∀ w ∈ as, PyData.strOk w = true) (hb : ∀ w ∈ bs, PyData.strOk w = true) : eqD (.lst (as.map .str)) (.lst (bs.map .str)) = some (decide (as = bs)) := by
  have oa := oks_strs 1 as ha
  have ob := oks_strs 1 bs hb
  rw [eqD_ok (n := 2) (by simp [D.ok, oa]) (by simp [D.ok, ob]) (by decide), eq1_lst oa ob, eqs_strs]
theorem isES_len : ∀ {ws : List Str}, isES ws = true → ws = ES := fun h => of_decide_eq_true h
theorem strOk_es {w : Str} (h : w = "each" ∨ w = "some") : PyData.strOk w = true := by rcases h with rfl | rfl <;> decide +kernel
theorem words_eq (ws : List Str) (h : ∀ w ∈ ws, w = "each" ∨ w = "some") : eqD (.lst (ws.map .str)) (.lst [.str "each", .str "some"]) = some (isES ws) :=
  eqD_strs ws ES (fun w hw => strOk_es (h w hw)) (fun w hw => strOk_es (by simpa [ES] using hw))
theorem words_lc (k : Nat) (F : Sl) (gs : List (Str × List Int)) (hl : gs.length < 1000) : evE (P k) [] (.lc p10_0 (.tup [4, 5]) (.seq (.bor 1 [])) p10_1) [F, .ow (.sh (.tup (gs.map grpD))), .no, .no, .no, .no] = .ok (.lst (gs.map fun g => .sh (.str g.1)), [F, .ow (.sh (.tup (gs.map grpD))), .no, .no, .no, .no]) := by
  have hI : evI (P k) [] (.seq (.bor 1 [])) [F, .ow (.sh (.tup (gs.map grpD))), .no, .no, .no, .no] = .ok (gs.map grpD, [F, .lk (.sh (.tup (gs.map grpD))), .no, .no, .no, .no]) := rfl
  generalize hG : D.tup (gs.map grpD) = GG at hI ⊢
  have key := lcG_flat (cond := fun ρ => evAll (P k) [] p10_1 ρ) (step := pushE fun ρ => evE (P k) [] p10_0 ρ) (pl := []) (tg := .tup [4, 5]) (vs := [4, 5]) (ρ := [F, .lk (.sh GG), .no, .no, .no, .no]) (mk := grpD) (g := fun g => [OT.sh (.str g.1)]) gs []
    (by rw [flat1]; simp only [List.length_nil, List.length_map]; unfold big; omega)
    (fun g hg => by
      refine ⟨[F, .lk (.sh GG), .no, .no, .ow (.sh (.str g.1)), .ow (.sh (.tup (g.2.map .int)))], [F, .lk (.sh GG), .no, .no, .ow (.sh (.str g.1)), .ow (.sh (.tup (g.2.map .int)))], rfl, rfl, fun acc ha => ?_, rfl⟩
      unfold pushE
      have e : evE (P k) [] p10_0 [F, .lk (.sh GG), .no, .no, .ow (.sh (.str g.1)), .ow (.sh (.tup (g.2.map .int)))] = .ok (.sh (.str g.1), [F, .lk (.sh GG), .no, .no, .ow (.sh (.str g.1)), .ow (.sh (.tup (g.2.map .int)))]) := rfl
      simp only [e]
      rw [if_pos (by simp only [List.length_cons, List.length_nil] at ha; omega)])
  rw [evE, hI]
  simp only [CH.R.bind]
  rw [if_pos (by rfl)]
  have w : wipeE [F, .lk (.sh GG), .no, .no, .no, .no] (Tg.slots (.tup [4, 5])) = [F, .lk (.sh GG), .no, .no, .no, .no] := rfl
  unfold lcL
  rw [w, show Tg.slots (.tup [4, 5]) = [4, 5] from rfl, key]
  simp only
  rw [backE_same, List.nil_append]
  rw [flat1]
  rfl
end K75
end
section
namespace K75
open PySem L2 Evl PyProof.Rows CH
/-- the test of the words -/
theorem words_test (k : Nat) (n : Int) (cs : List D) (gs : List (Str × List Int)) (hl : gs.length < 1000) (hw : ∀ g ∈ gs, g.1 = "each" ∨ g.1 = "some") :
    evS (P k) [] q10_1 [.ow (.sh (FD n cs)), .ow (.sh (.tup (gs.map grpD))), .no, .no, .no, .no] = if isES (gs.map (·.1)) = true then .ok (.nx, [.ow (.sh (FD n cs)), .ow (.sh (.tup (gs.map grpD))), .no, .no, .no, .no]) else .ex ⟨4, [.str "prefix"]⟩ [.ow (.sh (FD n cs)), .ow (.sh (.tup (gs.map grpD))), .no, .no, .no, .no] := by
  have lc := words_lc k (.ow (.sh (FD n cs))) gs hl
  have le : evE (P k) [] (.lst (.cons (.c (.str "each")) (.cons (.c (.str "some")) .nil))) [.ow (.sh (FD n cs)), .ow (.sh (.tup (gs.map grpD))), .no, .no, .no, .no] = .ok (.lst [.sh (.str "each"), .sh (.str "some")], [.ow (.sh (FD n cs)), .ow (.sh (.tup (gs.map grpD))), .no, .no, .no, .no]) := by
    have hb : 2 ≤ big := by decide
    generalize FD n cs = FF
    generalize D.tup (gs.map grpD) = GG
    simp [D.tyName, ev_isi_t, isTy, fillA, backA, goneA, cm_le_ii, cm_lt_ii, getV, Fn.run, Fn.run0, evSs, evS, evT, evAll, evAny, evO, evE, evOs, evEs, evAs, evB, evAnd, evOr, CH.R.bind, R.ofO, CH.Env.tree, CH.Env.own, CH.Env.ownL, OT.getP, lock, unlock, outs, tru_b, ev_eq_ii, ev_ne_ii, ev_lt_ii, ev_le_ii, ev_gt_ii, ev_ge_ii, ev_add_ii, ev_sub_ii, ev_neg_i, ev_int_i, ev_abs_i, ev_len_l, ev_len_t, ev_len_f, ev_idx, mulOk_r, ev_mul_ii, OT.toD, hb]
  have op : Op.ev (.cmp .ne) [.lst (gs.map fun g => .sh (.str g.1)), .lst [.sh (.str "each"), .sh (.str "some")]] = some (.sh (.bl (!isES (gs.map (·.1))))) := by
    have := words_eq (gs.map (·.1)) (fun w hw' => by
      obtain ⟨g, hg, rfl⟩ := List.mem_map.mp hw'
      exact hw g hg)
    show ((eqD (.lst (toDs (gs.map fun g => .sh (.str g.1)))) (.lst [.str "each", .str "some"])).map (! ·)).map _ = _
    rw [toDs_map gs fun g => D.str g.1]
    rw [List.map_map] at this
    rw [show (gs.map fun g => D.str g.1) = gs.map (D.str ∘ fun x => x.1) from rfl, this]
    rfl
  have t := evE_op2 lc le op
  unfold q10_1
  generalize FD n cs = FF at t ⊢
  generalize D.tup (gs.map grpD) = GG at t ⊢
  rw [evS]
  have bt : evT (P k) [] (.val (.e (.op (.cmp .ne) (.cons (.e (.lc p10_0 (.tup [4, 5]) (.seq (.bor 1 [])) p10_1)) (.cons (.e (.lst (.cons (.c (.str "each")) (.cons (.c (.str "some")) .nil)))) .nil))))) [.ow (.sh FF), .ow (.sh GG), .no, .no, .no, .no] = .ok (!isES (gs.map (·.1)), [.ow (.sh FF), .ow (.sh GG), .no, .no, .no, .no]) := by
    rw [evT, evO, t]
    rfl
  rw [bt]
  cases isES (gs.map (·.1)) <;> rfl
theorem call1 {Φ : Phi} {pl : List Nat} {f : Nat} {e : CH.CE} {ρ ρ1 : CH.Env} {d : D} {t u : OT} {ws : List OT} (he : evE Φ pl e ρ = .ok (u, ρ1)) (hu : u.toD = d) (h : Φ f [.sh d] = .ok (t, ws)) (hw : ws.length = 1) : evE Φ pl (.call f (.val e .nil)) ρ = .ok (t, ρ1) := by
  obtain ⟨w, rfl⟩ : ∃ w, ws = [w] := List.length_eq_one_iff.mp hw
  rw [evE, evAs, he]
  simp only [CH.R.bind, evAs, hu, fillA, Option.map, h, backA, goneA]
theorem call2 {Φ : Phi} {pl : List Nat} {f : Nat} {e e' : CH.CE} {ρ ρ1 ρ2 : CH.Env} {d d' : D} {t u u' : OT} {ws : List OT} (he : evE Φ pl e ρ = .ok (u, ρ1)) (hu : u.toD = d) (he' : evE Φ pl e' ρ1 = .ok (u', ρ2)) (hu' : u'.toD = d') (h : Φ f [.sh d, .sh d'] = .ok (t, ws)) (hw : ws.length = 2) : evE Φ pl (.call f (.val e (.val e' .nil))) ρ = .ok (t, ρ2) := by
  match ws, hw with
  | [a, b], _ =>
    rw [evE, evAs, he]
    simp only [CH.R.bind]
    rw [evAs, he']
    simp only [CH.R.bind, evAs, hu, hu', fillA, Option.map, h, backA, goneA]
theorem call3 {Φ : Phi} {pl : List Nat} {f : Nat} {e e' e'' : CH.CE} {ρ ρ1 ρ2 ρ3 : CH.Env} {d d' d'' : D} {t u u' u'' : OT} {ws : List OT} (he : evE Φ pl e ρ = .ok (u, ρ1)) (hu : u.toD = d) (he' : evE Φ pl e' ρ1 = .ok (u', ρ2)) (hu' : u'.toD = d') (he'' : evE Φ pl e'' ρ2 = .ok (u'', ρ3)) (hu'' : u''.toD = d'') (h : Φ f [.sh d, .sh d', .sh d''] = .ok (t, ws)) (hw : ws.length = 3) : evE Φ pl (.call f (.val e (.val e' (.val e'' .nil)))) ρ = .ok (t, ρ3) := by
  match ws, hw with
  | [a, b, c], _ =>
    rw [evE, evAs, he]
    simp only [CH.R.bind]
    rw [evAs, he']
    simp only [CH.R.bind]
    rw [evAs, he'']
    simp only [CH.R.bind, evAs, hu, hu', hu'', fillA, Option.map, h, backA, goneA]
/-- what the ways are -/
def waysD (cs : List (List Int)) (v1 v2 : List Int) : D := .tup ((rowsL v1).map fun r => .tup [rD r, optD (ansL cs r (rowsL v2))])
theorem rowsL_le {vs : List Int} (h : vs.length < 6) : (rowsL vs).length ≤ 32 := by
  rw [rowsL_len]
  have : 2 ^ vs.length ≤ 2 ^ 5 := Nat.pow_le_pow_right (by decide) (by omega)
  exact this
theorem ways_run (k : Nat) (n : Int) (cs : List (List Int)) (v1 v2 : List Int) (h0 : 0 ≤ n) (h1 : n < 1000000) (hl : cs.length < 1000) (hc : ∀ c ∈ cs, c.length < 1000) (hv1 : v1.length < 6) (hv2 : v2.length < 6)
    (hp : isPrefix n (.tup [grpD ("each", v1), grpD ("some", v2)]) = true) :
    P (k + 6) 10 [.sh (FD n (cs.map rD)), .sh (.tup [grpD ("each", v1), grpD ("some", v2)])] = .ok (.sh (waysD cs v1 v2), [.sh (FD n (cs.map rD)), .sh (.tup [grpD ("each", v1), grpD ("some", v2)])]) := by
  rw [step (k + 5) 10 _ f10 t10]
  have plw : ∀ w : Str, (w = "each" ∨ w = "some") → ∀ vs : List Int, vs.length < 6 → Pl (grpD (w, vs)) := fun w hw vs hvs => .tup (by simp) (fun d hd => by
    have : d = .str w ∨ d = .tup (vs.map .int) := by simpa using hd
    rcases this with rfl | rfl
    · exact .str (strOk_es hw)
    · exact .tup (by rw [List.length_map]; omega) fun d hd => by
        obtain ⟨i, _, rfl⟩ := List.mem_map.mp hd
        exact .int i)
  have pl : Pl (.tup [grpD ("each", v1), grpD ("some", v2)]) := .tup (by simp) (fun d hd => by
    have : d = grpD ("each", v1) ∨ d = grpD ("some", v2) := by simpa using hd
    rcases this with rfl | rfl
    · exact plw _ (.inl rfl) _ hv1
    · exact plw _ (.inr rfl) _ hv2)
  have po : preOk (.tup [grpD ("each", v1), grpD ("some", v2)]) := by
    show (flatG (List.map grpD [(("each" : Str), v1), (("some" : Str), v2)])).length < 64
    rw [flatG_map]
    simp
    omega
  have q0 := need_ok (k + 1) n (cs.map rD) pl po h0 h1 hp
  have w1 := words_test (k + 5) n (cs.map rD) [("each", v1), ("some", v2)] (by simp) (by simp)
  have hes : isES (List.map (fun x : Str × List Int => x.1) [(("each" : Str), v1), (("some" : Str), v2)]) = true := show isES ES = true by decide +kernel
  rw [if_pos hes] at w1
  have r1 := rows_over_run k v1 hv1
  have r2 := rows_over_run k v2 hv2
  have hlen1 := rowsL_le hv1
  generalize hR2 : rowsL v2 = R2 at r2
  have ha : ∀ a ∈ R2, a.length < 1000 := fun a h => by
    rw [← hR2] at h
    have := (rowsL_mem h).1
    omega
  have w1 : evS (P (k + 5)) [] q10_1 [.ow (.sh (FD n (cs.map rD))), .ow (.sh (.tup [grpD ("each", v1), grpD ("some", v2)])), .no, .no, .no, .no] = .ok (.nx, [.ow (.sh (FD n (cs.map rD))), .ow (.sh (.tup [grpD ("each", v1), grpD ("some", v2)])), .no, .no, .no, .no]) := w1
  have g0 : idxEv (.sh (.tup [grpD ("each", v1), grpD ("some", v2)])) 0 = some (.sh (grpD ("each", v1))) := at0 _ _
  have g1 : idxEv (.sh (.tup [grpD ("each", v1), grpD ("some", v2)])) 1 = some (.sh (grpD ("some", v2))) := at1 _ _ _
  have i0 : ∀ w : Str, ∀ vs : List Int, idxEv (.sh (grpD (w, vs))) 1 = some (.sh (rD vs)) := fun w vs => at1 _ _ _
  have i1 := i0 "each" v1
  have i2 := i0 "some" v2
  have hwd : waysD cs v1 v2 = .tup ((rowsL v1).map fun r => .tup [rD r, optD (ansL cs r R2)]) := by unfold waysD; rw [hR2]
  rw [hwd]
  have an : ∀ r ∈ rowsL v1, P (k + 5) 9 [.sh (FD n (cs.map rD)), .sh (rD r), .sh (.lst (R2.map rD))] = .ok (.sh (optD (ansL cs r R2)), [.sh (FD n (cs.map rD)), .sh (rD r), .sh (.lst (R2.map rD))]) := fun r hr => answer_run (k + 4) n cs r R2 hl hc (by have := (rowsL_mem hr).1; omega) ha
  generalize grpD ("each", v1) = G1 at g0 g1 i1 w1 q0 ⊢
  generalize grpD ("some", v2) = G2 at g0 g1 i2 w1 q0 ⊢
  generalize hPR : D.tup [G1, G2] = PR at g0 g1 w1 q0 ⊢
  generalize FD n (cs.map rD) = FF at an w1 q0 ⊢
  refine run_rt (ρ := [.ow (.sh FF), .ow (.sh PR), .ow (.sh (.lst (R2.map rD))), .no, .no, .no]) rfl ?_ rfl
  show evSs (P (k + 5)) [] b10 [.ow (.sh FF), .ow (.sh PR), .no, .no, .no, .no] = _
  unfold b10
  rw [ss_next (ρ1 := [.ow (.sh FF), .ow (.sh PR), .no, .no, .no, .no]) (by
    have := call2 (Φ := P (k + 5)) (pl := []) (f := 7) (e := .v 0) (e' := .v 1) (ρ := [.ow (.sh FF), .ow (.sh PR), .no, .no, .no, .no]) rfl rfl rfl rfl q0 rfl
    unfold q10_0
    rw [evS, this]
    rfl)]
  rw [ss_next w1]
  have ei : ∀ (u : Sl) (i j : Int) (G : D) (V : D), idxEv (.sh PR) i = some (.sh G) → idxEv (.sh G) j = some (.sh V) → evE (P (k + 5)) [] (.op .idx (.cons (.e (.op .idx (.cons (.bor 1 []) (.cons (.e (.c (.int i))) .nil)))) (.cons (.e (.c (.int j))) .nil))) [.ow (.sh FF), .ow (.sh PR), u, .no, .no, .no] = .ok (.sh V, [.ow (.sh FF), .ow (.sh PR), u, .no, .no, .no]) := fun u i j G V h1 h2 => by
    simp [D.tyName, ev_isi_t, isTy, fillA, backA, goneA, cm_le_ii, cm_lt_ii, getV, Fn.run, Fn.run0, evSs, evS, evT, evAll, evAny, evO, evE, evOs, evEs, evAs, evB, evAnd, evOr, CH.R.bind, R.ofO, CH.Env.tree, CH.Env.own, CH.Env.ownL, OT.getP, lock, unlock, outs, tru_b, ev_eq_ii, ev_ne_ii, ev_lt_ii, ev_le_ii, ev_gt_ii, ev_ge_ii, ev_add_ii, ev_sub_ii, ev_neg_i, ev_int_i, ev_abs_i, ev_len_l, ev_len_t, ev_len_f, ev_idx, mulOk_r, ev_mul_ii, OT.toD, h1, h2]
  rw [ss_next (ρ1 := [.ow (.sh FF), .ow (.sh PR), .ow (.lst (R2.map fun r => .sh (rD r))), .no, .no, .no]) (by
    unfold q10_2
    exact evS_set (u := .sh .non) (call1 (ei .no 1 1 G2 (rD v2) g1 i2) rfl r2 rfl) (.inl rfl) rfl)]
  rw [ss_next (ρ1 := [.ow (.sh FF), .ow (.sh PR), .ow (.sh (.lst (R2.map rD))), .no, .no, .no]) (by
    have e : OT.toD (.lst (R2.map fun r => .sh (rD r))) = .lst (R2.map rD) := by
      show D.lst (toDs _) = _
      rw [toDs_map R2 rD]
    unfold q10_3
    rw [evS]
    show R.ok (Fl.nx, [Sl.ow (.sh FF), .ow (.sh PR), .ow (.sh (OT.toD (.lst (R2.map fun r => .sh (rD r))))), .no, .no, .no]) = _
    rw [e])]
  generalize hA : D.lst (R2.map rD) = AA at an ⊢
  have hI : evI (P (k + 5)) [] (.seq (.e (.call 8 (.val (.op .idx (.cons (.e (.op .idx (.cons (.bor 1 []) (.cons (.e (.c (.int 0))) .nil)))) (.cons (.e (.c (.int 1))) .nil))) .nil)))) [.ow (.sh FF), .ow (.sh PR), .ow (.sh AA), .no, .no, .no] = .ok ((rowsL v1).map rD, [.ow (.sh FF), .ow (.sh PR), .ow (.sh AA), .no, .no, .no]) := by
    rw [evI, call1 (ei (.ow (.sh AA)) 0 1 G1 (rD v1) g0 i1) rfl r1 rfl]
    simp only [CH.R.bind]
    have : OT.items (.lst ((rowsL v1).map fun r => .sh (rD r))) = some ((rowsL v1).map rD) := litems_map (rowsL v1) rD
    rw [this]
  have key := evE_lc (Φ := P (k + 5)) (pl := []) (e := p10_2) (i := 3) (cs := p10_3) (mk := rD) (g := fun r => .tup [rD r, optD (ansL cs r R2)]) (xs := rowsL v1) hI rfl (by simp) (Nat.le_trans hlen1 (by decide)) (fun ρ => rfl) (fun r hr => by
    have c := call3 (Φ := P (k + 5)) (pl := []) (f := 9) (e := .v 0) (e' := .v 3) (e'' := .mv 2) (ρ := [.ow (.sh FF), .ow (.sh PR), .ow (.sh AA), .ow (.sh (rD r)), .no, .no]) rfl rfl rfl rfl rfl rfl (an r hr) rfl
    show evE (P (k + 5)) [] p10_2 [.ow (.sh FF), .ow (.sh PR), .ow (.sh AA), .ow (.sh (rD r)), .no, .no] = _
    unfold p10_2
    rw [evE, evEs]
    have v3 : evE (P (k + 5)) [] (.v 3) [.ow (.sh FF), .ow (.sh PR), .ow (.sh AA), .ow (.sh (rD r)), .no, .no] = .ok (.sh (rD r), [.ow (.sh FF), .ow (.sh PR), .ow (.sh AA), .ow (.sh (rD r)), .no, .no]) := rfl
    rw [v3]
    simp only [CH.R.bind]
    rw [evEs, c]
    simp only [CH.R.bind, evEs]
    rw [if_pos (show [OT.sh (rD r), OT.sh (optD (ansL cs r R2))].length ≤ big from (by decide : 2 ≤ big))]
    rfl)
  have tp : Op.ev (.bi .tuple) [.lst ((rowsL v1).map fun r => .sh (.tup [rD r, optD (ansL cs r R2)]))] = some (.sh (.tup ((rowsL v1).map fun r => .tup [rD r, optD (ansL cs r R2)]))) := by
    show (OT.litems (.lst ((rowsL v1).map fun r => .sh (D.tup [rD r, optD (ansL cs r R2)])))).map _ = _
    rw [litems_map (rowsL v1) fun r => D.tup [rD r, optD (ansL cs r R2)]]
    rfl
  unfold q10_4
  exact ss_stop (evE_ret (evE_op1 key tp))
end K75
end
section
namespace K75
open PySem L2 Evl PyProof.Rows CH
abbrev Inc (ls : List Int) : Prop := ls.Pairwise fun a b => absI a < absI b
def insAt (ls : List Int) (y w : Int) : List Int := ls.take (ls.filter fun a => decide (absI a < y)).length ++ [w] ++ ls.drop (ls.filter fun a => decide (absI a < y)).length
theorem insAt_mem {ls : List Int} {y w b : Int} (h : b ∈ insAt ls y w) : b ∈ ls ∨ b = w := by
  unfold insAt at h
  rcases List.mem_append.mp h with h | h
  · rcases List.mem_append.mp h with h | h
    · exact .inl (List.mem_of_mem_take h)
    · exact .inr (by simpa using h)
  · exact .inl (List.mem_of_mem_drop h)
theorem insAt_len (ls : List Int) (y w : Int) : (insAt ls y w).length = ls.length + 1 := by
  have h := List.length_filter_le (fun a => decide (absI a < y)) ls
  unfold insAt
  simp only [List.length_append, List.length_take, List.length_drop, List.length_singleton]
  omega
theorem insAt_inc {y w : Int} (hw : absI w = y) : ∀ {ls : List Int}, Inc ls → (∀ a ∈ ls, absI a ≠ y) → Inc (insAt ls y w)
  | [], _, _ => by simp [insAt, Inc]
  | a :: r, h, hn => by
    have hr := List.pairwise_cons.mp h
    have hna := hn a (by simp)
    have ih := insAt_inc hw hr.2 fun b hb => hn b (by simp [hb])
    by_cases hl : absI a < y
    · have e : insAt (a :: r) y w = a :: insAt r y w := by
        unfold insAt
        rw [List.filter_cons_of_pos (by simpa using hl)]
        simp
      rw [e]
      refine List.pairwise_cons.mpr ⟨fun b hb => ?_, ih⟩
      rcases insAt_mem hb with hb | rfl
      · exact hr.1 b hb
      · omega
    · have e0 : (a :: r).filter (fun a => decide (absI a < y)) = [] := by
        rw [List.filter_eq_nil_iff]
        intro b hb
        rcases List.mem_cons.mp hb with rfl | hb
        · simpa using hl
        · have := hr.1 b hb
          simp
          omega
      have e : insAt (a :: r) y w = w :: a :: r := by unfold insAt; rw [e0]; simp
      rw [e]
      refine List.pairwise_cons.mpr ⟨fun b hb => ?_, h⟩
      rcases List.mem_cons.mp hb with rfl | hb
      · omega
      · have := hr.1 b hb
        omega
theorem toDs_i (xs : List Int) : toDs (xs.map iT) = xs.map .int := toDs_map xs D.int
theorem add_ll (a b : List Int) (h : a.length + b.length ≤ 1000000) : Op.ev (.bin .add) [.lst (a.map iT), .lst (b.map iT)] = some (.lst ((a ++ b).map iT)) := by
  show ((OT.lst (a.map iT)).litems.bind fun x => (OT.lst (b.map iT)).litems.bind fun y => guard_ (decide (x.length + y.length ≤ big)) (newL (x ++ y))) = _
  rw [show (OT.lst (a.map iT)).litems = some (a.map .int) from leaves_i a, show (OT.lst (b.map iT)).litems = some (b.map .int) from leaves_i b]
  show guard_ (decide ((a.map D.int).length + (b.map D.int).length ≤ big)) _ = _
  rw [decide_eq_true (by rw [List.length_map, List.length_map]; simp only [big]; omega)]
  simp [guard_, newL]
  rfl
theorem mu_ins (ts : List OT) (i : Int) (u : OT) (h0 : 0 ≤ i) (h1 : i < 4611686018427387904) (h : ts.length < big) : muEv .insert ts [.sh (.int i), u] = some (.sh .non, ts.take i.toNat ++ [u] ++ ts.drop i.toNat) := by
  unfold muEv
  exact if_pos ⟨h0, h1, h⟩
abbrev shR (r : List Int) : OT := .sh (rD r)
theorem add_rows (acc bs : List (List Int)) (h : acc.length + bs.length ≤ 100000) : Op.ev (.bin .add) [.lst (acc.map shR), .lst (bs.map shR)] = some (.lst ((acc ++ bs).map shR)) := by
  show ((OT.lst (acc.map shR)).litems.bind fun x => (OT.lst (bs.map shR)).litems.bind fun y => guard_ (decide (x.length + y.length ≤ big)) (newL (x ++ y))) = _
  rw [show (OT.lst (acc.map shR)).litems = some (acc.map rD) from litems_map acc rD, show (OT.lst (bs.map shR)).litems = some (bs.map rD) from litems_map bs rD]
  show guard_ (decide ((acc.map rD).length + (bs.map rD).length ≤ big)) (newL (acc.map rD ++ bs.map rD)) = _
  rw [decide_eq_true (by rw [List.length_map, List.length_map]; unfold big; omega), ← List.map_append, newL_map]; rfl
theorem rows_in (k : Nat) (V : Sl) (RO : OT) (v : Int) : ∀ (rs acc : List (List Int)) (u : Sl), Fr u → acc.length + 2 * rs.length ≤ 100000 → (∀ r ∈ rs, r.length < 999) →
    ∃ u', Fr u' ∧ forL (fun ρ => evSs (P k) [] p17_1 ρ) [] (.one 4) (rs.map rD) [V, .lk RO, .ow (.sh (.int v)), .ow (.lst (acc.map shR)), u] = .ok (.nx, [V, .lk RO, .ow (.sh (.int v)), .ow (.lst ((acc ++ nextL rs v).map shR)), u'])
  | [], acc, u, hu, _, _ => ⟨u, hu, by simp [forL, nextL]⟩
  | r :: rs, acc, u, hu, hl, hr => by
    have st : setTg [] (.one 4) (rD r) [V, .lk RO, .ow (.sh (.int v)), .ow (.lst (acc.map shR)), u] = some [V, .lk RO, .ow (.sh (.int v)), .ow (.lst (acc.map shR)), .ow (.sh (rD r))] := by
      rcases hu with rfl | ⟨e, rfl⟩ <;> rfl
    have hb : evSs (P k) [] p17_1 [V, .lk RO, .ow (.sh (.int v)), .ow (.lst (acc.map shR)), .ow (.sh (rD r))] = .ok (.nx, [V, .lk RO, .ow (.sh (.int v)), .ow (.lst ((acc ++ [r ++ [v], r ++ [-v]]).map shR)), .ow (.sh (rD r))]) := by
      have a1 := add_rr r [v] (by have := hr r (by simp); omega) (by simp)
      have a2 := add_rr r [-v] (by have := hr r (by simp); omega) (by simp)
      have a3 := add_rows acc [r ++ [v], r ++ [-v]] (by simp only [List.length_cons, List.length_nil] at hl ⊢; omega)
      have a1 : Op.ev (.bin .add) [.sh (rD r), .sh (.tup [.int v])] = some (shR (r ++ [v])) := a1
      have a2 : Op.ev (.bin .add) [.sh (rD r), .sh (.tup [.int (-v)])] = some (shR (r ++ [-v])) := a2
      have a3 : Op.ev (.bin .add) [.lst (acc.map shR), .lst [shR (r ++ [v]), shR (r ++ [-v])]] = some (.lst ((acc ++ [r ++ [v], r ++ [-v]]).map shR)) := a3
      generalize shR (r ++ [v]) = x1 at a1 a3 ⊢
      generalize shR (r ++ [-v]) = x2 at a2 a3 ⊢
      generalize acc.map shR = AC at a3 ⊢
      generalize (acc ++ [r ++ [v], r ++ [-v]]).map shR = AN at a3 ⊢
      generalize rD r = RR at a1 a2 ⊢
      have hb1 : 1 ≤ big := by decide
      have hb2 : 2 ≤ big := by decide
      simp [p17_1, D.tyName, ev_isi_t, isTy, fillA, backA, goneA, cm_le_ii, cm_lt_ii, getV, Fn.run, Fn.run0, evSs, evS, evT, evAll, evAny, evO, evE, evOs, evEs, evAs, evB, evAnd, evOr, CH.R.bind, R.ofO, CH.Env.tree, CH.Env.own, CH.Env.ownL, OT.getP, lock, unlock, outs, tru_b, ev_eq_ii, ev_ne_ii, ev_lt_ii, ev_le_ii, ev_gt_ii, ev_ge_ii, ev_add_ii, ev_sub_ii, ev_neg_i, ev_int_i, ev_abs_i, ev_len_l, ev_len_t, ev_len_f, ev_idx, mulOk_r, ev_mul_ii, OT.toD, a1, a2, a3, hb1, hb2, toDs]
    obtain ⟨u', hu', ih⟩ := rows_in k V RO v rs (acc ++ [r ++ [v], r ++ [-v]]) (.ow (.sh (rD r))) (.ow _) (by simp only [List.length_append, List.length_cons, List.length_nil] at hl ⊢; omega) fun q hq => hr q (by simp [hq])
    refine ⟨u', hu', ?_⟩
    rw [List.map_cons]
    unfold forL
    rw [st]
    simp only
    rw [hb]
    simp only [CH.R.bind]
    rw [ih]
    have e : acc ++ [r ++ [v], r ++ [-v]] ++ nextL rs v = acc ++ nextL (r :: rs) v := by unfold nextL; rw [List.flatMap_cons, List.append_assoc]
    rw [e]
def FrT (u : Sl) : Prop := u = .no ∨ ∃ t, u = .ow t
/-- a list of rows, its own or shared -/
def RS (rs : List (List Int)) (t : OT) : Prop := t = .lst (rs.map shR) ∨ t = .sh (.lst (rs.map rD))
theorem RS.items {rs : List (List Int)} {t : OT} (h : RS rs t) : OT.items t = some (rs.map rD) := by
  rcases h with rfl | rfl
  · exact litems_map rs rD
  · rfl
theorem RS.toD {rs : List (List Int)} {t : OT} (h : RS rs t) : t.toD = .lst (rs.map rD) := by
  rcases h with rfl | rfl
  · show D.lst (toDs _) = _
    rw [toDs_map rs rD]
  · rfl
theorem rows_out (k : Nat) (W : D) : ∀ (vs : List Int) (rs : List (List Int)) (t : OT) (u v w : Sl), RS rs t → Fr u → FrT v → Fr w → 2 ^ vs.length * rs.length ≤ 50000 → (∀ r ∈ rs, r.length + vs.length < 900) →
    ∃ t' u' v' w', RS (vs.foldl nextL rs) t' ∧ forL (fun ρ => evSs (P k) [] p17_4 ρ) [] (.one 2) (vs.map .int) [.lk (.sh W), .ow t, u, v, w] = .ok (.nx, [.lk (.sh W), .ow t', u', v', w'])
  | [], rs, t, u, v, w, ht, _, _, _, _, _ => ⟨t, u, v, w, ht, rfl⟩
  | x :: vs, rs, t, u, v, w, ht, hu, hv, hw, hl, hr => by
    have st : setTg [] (.one 2) (.int x) [.lk (.sh W), .ow t, u, v, w] = some [.lk (.sh W), .ow t, .ow (.sh (.int x)), v, w] := by
      rcases hu with rfl | ⟨e, rfl⟩ <;> rfl
    have hp : 1 ≤ 2 ^ vs.length := Nat.one_le_two_pow
    have hp2 : 2 * rs.length ≤ 50000 := by
      rw [List.length_cons, Nat.pow_succ, Nat.mul_assoc] at hl
      have := Nat.mul_le_mul_right (2 * rs.length) hp
      omega
    obtain ⟨w', hw', lp⟩ := rows_in k (.lk (.sh W)) t x rs [] w hw (by simp; omega) fun r h => by
      have := hr r h
      simp only [List.length_cons] at this
      omega
    have b0 : evS (P k) [] p17_0 [.lk (.sh W), .ow t, .ow (.sh (.int x)), v, w] = .ok (.nx, [.lk (.sh W), .ow t, .ow (.sh (.int x)), .ow (.lst []), w]) := by
      rcases hv with rfl | ⟨e, rfl⟩ <;> rfl
    have b2 : evS (P k) [] p17_2 [.lk (.sh W), .ow t, .ow (.sh (.int x)), .ow (.lst []), w] = .ok (.nx, [.lk (.sh W), .ow t, .ow (.sh (.int x)), .ow (.lst ((nextL rs x).map shR)), w']) := by
      have hI : evI (P k) [] (.seq (.bor 1 [])) [.lk (.sh W), .ow t, .ow (.sh (.int x)), .ow (.lst []), w] = .ok (rs.map rD, [.lk (.sh W), .lk t, .ow (.sh (.int x)), .ow (.lst []), w]) := by
        rw [evI]
        show (match OT.items t with
          | some ds => R.ok (ds, [Sl.lk (.sh W), .lk t, .ow (.sh (.int x)), .ow (.lst []), w])
          | none => R.no) = _
        rw [ht.items]
      unfold p17_2
      rw [evS, hI]
      simp only [CH.R.bind]
      rw [show (Sl.ow (.lst [])) = .ow (.lst (([] : List (List Int)).map shR)) from rfl, lp]
      rfl
    have e3 : OT.toD (.lst ((nextL rs x).map shR)) = .lst ((nextL rs x).map rD) := RS.toD (.inl rfl)
    have b3 : evS (P k) [] p17_3 [.lk (.sh W), .ow t, .ow (.sh (.int x)), .ow (.lst ((nextL rs x).map shR)), w'] = .ok (.nx, [.lk (.sh W), .ow (.sh (.lst ((nextL rs x).map rD))), .ow (.sh (.int x)), .ow (.sh (.lst ((nextL rs x).map rD))), w']) := by
      rw [← e3]
      rfl
    obtain ⟨t', u', v', w'', ht', ih⟩ := rows_out k W vs (nextL rs x) (.sh (.lst ((nextL rs x).map rD))) (.ow (.sh (.int x))) (.ow (.sh (.lst ((nextL rs x).map rD)))) w' (.inr rfl) (.ow _) (.inr ⟨_, rfl⟩) hw'
      (by rw [nextL_len]; rw [List.length_cons, Nat.pow_succ, Nat.mul_assoc] at hl; exact hl) (fun r h => by
        unfold nextL at h
        obtain ⟨q, hq, h⟩ := List.mem_flatMap.mp h
        have h1 := hr q hq
        have : r.length = q.length + 1 := by
          have : r = q ++ [x] ∨ r = q ++ [-x] := by simpa using h
          rcases this with rfl | rfl <;> simp
        simp only [List.length_cons] at h1
        omega)
    refine ⟨t', u', v', w'', by rw [List.foldl_cons]; exact ht', ?_⟩
    rw [List.map_cons]
    unfold forL
    rw [st]
    simp only
    have hb : evSs (P k) [] p17_4 [.lk (.sh W), .ow t, .ow (.sh (.int x)), v, w] = .ok (.nx, [.lk (.sh W), .ow (.sh (.lst ((nextL rs x).map rD))), .ow (.sh (.int x)), .ow (.sh (.lst ((nextL rs x).map rD))), w']) := by
      unfold p17_4
      rw [ss_next b0, ss_next b2, ss_end, b3]
    rw [hb]
    simp only [CH.R.bind]
    exact ih
theorem rows_run (k : Nat) (vs : List Int) (hl : vs.length < 10) : ∃ t, RS (rowsL vs) t ∧ P (k + 1) 17 [.sh (.lst (vs.map .int))] = .ok (t, [.sh (.lst (vs.map .int))]) := by
  rw [step k 17 _ f17 t17]
  have hp : 2 ^ vs.length ≤ 2 ^ 10 := Nat.pow_le_pow_right (by decide) (by omega)
  obtain ⟨t', u', v', w', ht, lp⟩ := rows_out k (.lst (vs.map .int)) vs [[]] (.lst [shR []]) .no .no .no (.inl rfl) (.inl rfl) (.inl rfl) (.inl rfl) (by simp; omega) (fun r h => by
    have : r = [] := by simpa using h
    subst this
    simp; omega)
  refine ⟨t', ht, run_rt (ρ := [.ow (.sh (.lst (vs.map .int))), .no, u', v', w']) rfl ?_ rfl⟩
  show evSs (P k) [] b17 [.ow (.sh (.lst (vs.map .int))), .no, .no, .no, .no] = _
  unfold b17
  rw [ss_next (ρ1 := [.ow (.sh (.lst (vs.map .int))), .ow (.lst [shR []]), .no, .no, .no]) (by rfl)]
  rw [ss_next (ρ1 := [.ow (.sh (.lst (vs.map .int))), .ow t', u', v', w']) (by
    have hI : evI (P k) [] (.seq (.bor 0 [])) [.ow (.sh (.lst (vs.map .int))), .ow (.lst [shR []]), .no, .no, .no] = .ok (vs.map .int, [.lk (.sh (.lst (vs.map .int))), .ow (.lst [shR []]), .no, .no, .no]) := rfl
    unfold q17_1
    rw [evS, hI]
    simp only [CH.R.bind]
    rw [lp]
    rfl)]
  exact ss_stop rfl
def keyI (l : Int) : Int := 2 * absI l + (if l < 0 then 1 else 0)
theorem ev_int_t : Op.ev (.bi .int) [.sh (.bl true)] = some (.sh (.int 1)) := rfl
theorem ev_int_f : Op.ev (.bi .int) [.sh (.bl false)] = some (.sh (.int 0)) := rfl
theorem key_run (k : Nat) (l : Int) : P (k + 1) 13 [.sh (.int l)] = .ok (.sh (.int (keyI l)), [.sh (.int l)]) := by
  rw [step k 13 _ f13 t13]
  have mo : ∀ b : Int, mulOk 2 b = true := fun b => mulOk_l 2 b (by decide)
  unfold keyI absI
  by_cases h : l < 0
  · simp [f13, b13, q13_0, D.tyName, ev_isi_t, isTy, fillA, backA, goneA, cm_le_ii, cm_lt_ii, getV, Fn.run, Fn.run0, evSs, evS, evT, evAll, evAny, evO, evE, evOs, evEs, evAs, evB, evAnd, evOr, CH.R.bind, R.ofO, CH.Env.tree, CH.Env.own, CH.Env.ownL, OT.getP, lock, unlock, outs, tru_b, ev_eq_ii, ev_ne_ii, ev_lt_ii, ev_le_ii, ev_gt_ii, ev_ge_ii, ev_add_ii, ev_sub_ii, ev_neg_i, ev_int_i, ev_abs_i, ev_len_l, ev_len_t, ev_len_f, ev_idx, mulOk_r, ev_mul_ii, OT.toD, mo, h, ev_int_t, ev_int_f]
  · simp [f13, b13, q13_0, D.tyName, ev_isi_t, isTy, fillA, backA, goneA, cm_le_ii, cm_lt_ii, getV, Fn.run, Fn.run0, evSs, evS, evT, evAll, evAny, evO, evE, evOs, evEs, evAs, evB, evAnd, evOr, CH.R.bind, R.ofO, CH.Env.tree, CH.Env.own, CH.Env.ownL, OT.getP, lock, unlock, outs, tru_b, ev_eq_ii, ev_ne_ii, ev_lt_ii, ev_le_ii, ev_gt_ii, ev_ge_ii, ev_add_ii, ev_sub_ii, ev_neg_i, ev_int_i, ev_abs_i, ev_len_l, ev_len_t, ev_len_f, ev_idx, mulOk_r, ev_mul_ii, OT.toD, mo, h, ev_int_t, ev_int_f]
end K75
end
section
namespace K75
open PySem L2 Evl PyProof.Rows CH
theorem evS_ins {Φ : Phi} {pl : List Nat} {A B : CH.CE} {ρ : CH.Env} {i : Nat} {N : Int} {u : OT} {us us' : List OT} (hA : evE Φ pl A ρ = .ok (.sh (.int N), ρ)) (hB : evE Φ pl B ρ = .ok (u, ρ)) (ho : CH.Env.ownL ρ i = some us) (mu : muEv .insert us [.sh (.int N), u] = some (.sh .non, us')) :
    evS Φ pl (.ex (.mu .insert i [] (.cons A (.cons B .nil)))) ρ = .ok (.nx, ρ.set i (.ow (.lst us'))) := by
  have e : evEs Φ pl (.cons A (.cons B .nil)) ρ = .ok ([.sh (.int N), u], ρ) := by rw [evEs, hA]; simp only [CH.R.bind]; rw [evEs, hB]; simp only [CH.R.bind, evEs]
  rw [evS, evE, ho]
  simp only [CH.R.bind, e, ho]
  rw [mu]
theorem ins_mu (ls : List Int) (y W : Int) (hl : ls.length < 1000) : muEv .insert (ls.map iT) [.sh (.int (ls.filter fun a => decide (absI a < y)).length), .sh (.int W)] = some (.sh .non, (insAt ls y W).map iT) := by
  have hle := List.length_filter_le (fun a => decide (absI a < y)) ls
  unfold insAt
  generalize (ls.filter fun a => decide (absI a < y)).length = n at hle ⊢
  rw [mu_ins _ _ _ (by omega) (by omega) (by rw [List.length_map]; simp only [big]; omega), Int.toNat_natCast, List.map_append, List.map_append, List.map_take, List.map_drop]
  rfl
theorem inD_lints (x : Int) (ns : List Int) : inD (.int x) (.lst (ns.map .int)) = some (decide (x ∈ ns)) := by
  have h := inD_ints x ns
  unfold inD at h ⊢
  rw [toP_ints] at h
  rw [toPl_ints]
  have h : (if (SeqAt.shaped (.int x) && SeqAt.shaped (.tuple (ns.map .int))) = true then some ((ns.map PyData.int).any fun z => PyData.eqv z (.int x)) else none) = some (decide (x ∈ ns)) := h
  show (if (SeqAt.shaped (.int x) && SeqAt.shaped (.list (ns.map .int))) = true then some ((ns.map PyData.int).any fun z => PyData.eqv z (.int x)) else none) = _
  rw [shaped_ints] at h
  rw [lshaped_ints]
  exact h
theorem ev_notin_l (x : Int) (ns : List Int) : Op.ev (.cmp .notin) [.sh (.int x), .lst (ns.map iT)] = some (.sh (.bl (!decide (x ∈ ns)))) := by
  show ((inD (.int x) (.lst (toDs (ns.map iT)))).map (! ·)).map _ = _
  rw [toDs_map ns D.int, inD_lints]; rfl
theorem ev_notin_t (x : Int) (ns : List Int) : Op.ev (.cmp .notin) [.sh (.int x), .sh (rD ns)] = some (.sh (.bl (!decide (x ∈ ns)))) := by
  show ((inD (.int x) (.tup (ns.map .int))).map (! ·)).map _ = _
  rw [inD_ints]; rfl
theorem key_lt {a x : Int} (h : absI a ≠ absI x) : decide (keyI a < keyI x) = decide (absI a < absI x) := by
  apply decide_eq_decide.mpr
  unfold keyI
  split <;> split <;> omega
theorem s_less (k : Nat) (W : D) (fs : List Int) (x : Int) (hl : fs.length < 1000) (hn : ∀ a ∈ fs, absI a ≠ absI x) :
    evE (P (k + 1)) [] (.lc p14_0 (.one 3) (.seq (.bor 1 [])) p14_1) [.lk (.sh W), .ow (.lst (fs.map iT)), .ow (.sh (.int x)), .no] = .ok (.lst ((fs.filter fun a => decide (absI a < absI x)).map iT), [.lk (.sh W), .ow (.lst (fs.map iT)), .ow (.sh (.int x)), .no]) := by
  have hI : evI (P (k + 1)) [] (.seq (.bor 1 [])) [.lk (.sh W), .ow (.lst (fs.map iT)), .ow (.sh (.int x)), .no] = .ok (fs.map .int, [.lk (.sh W), .lk (.lst (fs.map iT)), .ow (.sh (.int x)), .no]) := by
    have e : OT.items (.lst (fs.map iT)) = some (fs.map .int) := leaves_i fs
    rw [evI]
    show (match OT.items (.lst (fs.map iT)) with
      | some ds => R.ok (ds, [Sl.lk (.sh W), .lk (.lst (fs.map iT)), .ow (.sh (.int x)), .no])
      | none => R.no) = _
    rw [e]
  generalize fs.map iT = FT at hI ⊢
  have := evE_lcf (Φ := P (k + 1)) (pl := []) (e := p14_0) (i := 3) (it := .seq (.bor 1 [])) (cs := p14_1) (xs := fs) (mk := .int) (g := .int) (p := fun a => decide (keyI a < keyI x)) hI rfl (by simp) (by unfold big; omega) (fun a _ => ⟨by
    have c1 := call1 (Φ := P (k + 1)) (pl := []) (f := 13) (e := .v 3) (ρ := [.lk (.sh W), .lk (.lst FT), .ow (.sh (.int x)), .ow (.sh (.int a))]) rfl rfl (key_run k a) rfl
    have c2 := call1 (Φ := P (k + 1)) (pl := []) (f := 13) (e := .v 2) (ρ := [.lk (.sh W), .lk (.lst FT), .ow (.sh (.int x)), .ow (.sh (.int a))]) rfl rfl (key_run k x) rfl
    have o := evE_op2 c1 c2 (ev_lt_ii (keyI a) (keyI x))
    show evAll (P (k + 1)) [] p14_1 [.lk (.sh W), .lk (.lst FT), .ow (.sh (.int x)), .ow (.sh (.int a))] = _
    unfold p14_1
    rw [evAll, evT, evO, o]
    simp only [CH.R.bind, tru_b]
    by_cases h : keyI a < keyI x
    · rw [decide_eq_true h]; rfl
    · rw [decide_eq_false h]; rfl, fun _ => rfl⟩)
  rw [this]
  have e : (fs.filter fun a => decide (keyI a < keyI x)) = fs.filter fun a => decide (absI a < absI x) := List.filter_congr fun a ha => key_lt (hn a ha)
  rw [e]
  rfl
theorem s_turn (k : Nat) (W : D) (fs : List Int) (x : Int) (hl : fs.length < 1000) (hn : x ∈ fs ∨ ∀ a ∈ fs, absI a ≠ absI x) :
    evSs (P (k + 1)) [] p14_2 [.lk (.sh W), .ow (.lst (fs.map iT)), .ow (.sh (.int x)), .no] = .ok (.nx, [.lk (.sh W), .ow (.lst ((if x ∈ fs then fs else insAt fs (absI x) x).map iT)), .ow (.sh (.int x)), .no]) := by
  have ni := ev_notin_l x fs
  have hT : evT (P (k + 1)) [] (.val (.e (.op (.cmp .notin) (.cons (.bor 2 []) (.cons (.bor 1 []) .nil))))) [.lk (.sh W), .ow (.lst (fs.map iT)), .ow (.sh (.int x)), .no] = .ok (!decide (x ∈ fs), [.lk (.sh W), .ow (.lst (fs.map iT)), .ow (.sh (.int x)), .no]) := by
    generalize fs.map iT = FT at ni ⊢
    simp [D.tyName, ev_isi_t, isTy, fillA, backA, goneA, cm_le_ii, cm_lt_ii, getV, Fn.run, Fn.run0, evSs, evS, evT, evAll, evAny, evO, evE, evOs, evEs, evAs, evB, evAnd, evOr, CH.R.bind, R.ofO, CH.Env.tree, CH.Env.own, CH.Env.ownL, OT.getP, lock, unlock, outs, tru_b, ev_eq_ii, ev_ne_ii, ev_lt_ii, ev_le_ii, ev_gt_ii, ev_ge_ii, ev_add_ii, ev_sub_ii, ev_neg_i, ev_int_i, ev_abs_i, ev_len_l, ev_len_t, ev_len_f, ev_idx, mulOk_r, ev_mul_ii, OT.toD, ni]
  unfold p14_2
  rw [ss_end]
  by_cases h : x ∈ fs
  · rw [decide_eq_true h] at hT
    rw [ife_f hT, if_pos h]
    rfl
  · rw [decide_eq_false h] at hT
    rw [ife_t hT, if_neg h, ss_end]
    have hn : ∀ a ∈ fs, absI a ≠ absI x := hn.resolve_left h
    have e1 := s_less k W fs x hl hn
    have hlen : Op.ev (.bi .len) [.lst ((fs.filter fun a => decide (absI a < absI x)).map iT)] = some (.sh (.int (fs.filter fun a => decide (absI a < absI x)).length)) := by rw [ev_len_l, List.length_map]
    exact evS_ins (evE_op1 e1 hlen) rfl rfl (ins_mu fs (absI x) x hl)
theorem s_loop (k : Nat) (W : D) : ∀ (xs fs : List Int) (u : Sl), Fr u → fs.length + xs.length < 1000 → Inc fs → (∀ a ∈ fs, ∀ b ∈ xs, absI a = absI b → a = b) → (∀ a ∈ xs, ∀ b ∈ xs, absI a = absI b → a = b) →
    ∃ gs u', Inc gs ∧ (∀ a ∈ gs, a ∈ fs ∨ a ∈ xs) ∧ forL (fun ρ => evSs (P (k + 1)) [] p14_2 ρ) [] (.one 2) (xs.map .int) [.lk (.sh W), .ow (.lst (fs.map iT)), u, .no] = .ok (.nx, [.lk (.sh W), .ow (.lst (gs.map iT)), u', .no])
  | [], fs, u, hu, _, hi, _, _ => ⟨fs, u, hi, fun a h => .inl h, rfl⟩
  | x :: xs, fs, u, hu, hl, hi, h1, h2 => by
    have st : setTg [] (.one 2) (.int x) [.lk (.sh W), .ow (.lst (fs.map iT)), u, .no] = some [.lk (.sh W), .ow (.lst (fs.map iT)), .ow (.sh (.int x)), .no] := by
      rcases hu with rfl | ⟨e, rfl⟩ <;> rfl
    simp only [List.length_cons] at hl
    have hx : x ∈ fs ∨ ∀ a ∈ fs, absI a ≠ absI x := by
      by_cases h : x ∈ fs
      · exact .inl h
      · exact .inr fun a ha e => h (h1 a ha x (by simp) e ▸ ha)
    have tn := s_turn k W fs x (by omega) hx
    have key : ∃ fs', (if x ∈ fs then fs else insAt fs (absI x) x) = fs' ∧ Inc fs' ∧ fs'.length ≤ fs.length + 1 ∧ ∀ a ∈ fs', a ∈ fs ∨ a = x := by
      by_cases h : x ∈ fs
      · exact ⟨fs, if_pos h, hi, by omega, fun a ha => .inl ha⟩
      · refine ⟨_, if_neg h, insAt_inc rfl hi (hx.resolve_left h), by rw [insAt_len]; omega, fun a ha => insAt_mem ha⟩
    obtain ⟨fs', e, hi', hl', hm⟩ := key
    rw [e] at tn
    obtain ⟨gs, u', g1, g2, g3⟩ := s_loop k W xs fs' (.ow (.sh (.int x))) (.ow _) (by omega) hi' (fun a ha b hb hab => by
      rcases hm a ha with z | z
      · exact h1 a z b (by simp [hb]) hab
      · subst z; exact h2 a (by simp) b (by simp [hb]) hab) fun a ha b hb => h2 a (by simp [ha]) b (by simp [hb])
    refine ⟨gs, u', g1, fun a ha => ?_, ?_⟩
    · rcases g2 a ha with z | z
      · exact (hm a z).imp id fun z => by simp [z]
      · exact .inr (by simp [z])
    · rw [List.map_cons]
      unfold forL
      rw [st]
      simp only
      rw [tn]
      exact g3
theorem tup_l (fs : List Int) : Op.ev (.bi .tuple) [.lst (fs.map iT)] = some (.sh (rD fs)) := by
  show ((OT.lst (fs.map iT)).litems.map fun ds => OT.sh (.tup ds)) = _
  rw [show (OT.lst (fs.map iT)).litems = some (fs.map .int) from leaves_i fs]; rfl
theorem sorted_run (k : Nat) (xs : List Int) (hl : xs.length < 1000) (h : ∀ a ∈ xs, ∀ b ∈ xs, absI a = absI b → a = b) :
    ∃ gs, Inc gs ∧ (∀ a ∈ gs, a ∈ xs) ∧ P (k + 2) 14 [.sh (.lst (xs.map .int))] = .ok (.sh (rD gs), [.sh (.lst (xs.map .int))]) := by
  rw [step (k + 1) 14 _ f14 t14]
  obtain ⟨gs, u', g1, g2, lp⟩ := s_loop k (.lst (xs.map .int)) xs [] .no (.inl rfl) (by simpa using hl) .nil (fun a ha => absurd ha (by simp)) h
  refine ⟨gs, g1, fun a ha => (g2 a ha).resolve_left (by simp), run_rt (ρ := [.ow (.sh (.lst (xs.map .int))), .ow (.lst (gs.map iT)), u', .no]) rfl ?_ rfl⟩
  show evSs (P (k + 1)) [] b14 [.ow (.sh (.lst (xs.map .int))), .no, .no, .no] = _
  unfold b14
  rw [ss_next (ρ1 := [.ow (.sh (.lst (xs.map .int))), .ow (.lst []), .no, .no]) (by rfl)]
  rw [ss_next (ρ1 := [.ow (.sh (.lst (xs.map .int))), .ow (.lst (gs.map iT)), u', .no]) (by
    have hI : evI (P (k + 1)) [] (.seq (.bor 0 [])) [.ow (.sh (.lst (xs.map .int))), .ow (.lst []), .no, .no] = .ok (xs.map .int, [.lk (.sh (.lst (xs.map .int))), .ow (.lst []), .no, .no]) := rfl
    unfold q14_1
    rw [evS, hI]
    simp only [CH.R.bind]
    rw [show (Sl.ow (.lst [])) = .ow (.lst (([] : List Int).map iT)) from rfl, lp]
    rfl)]
  have tu := tup_l gs
  generalize gs.map iT = GT at tu ⊢
  exact ss_stop (by simp [q14_2, D.tyName, ev_isi_t, isTy, fillA, backA, goneA, cm_le_ii, cm_lt_ii, getV, Fn.run, Fn.run0, evSs, evS, evT, evAll, evAny, evO, evE, evOs, evEs, evAs, evB, evAnd, evOr, CH.R.bind, R.ofO, CH.Env.tree, CH.Env.own, CH.Env.ownL, OT.getP, lock, unlock, outs, tru_b, ev_eq_ii, ev_ne_ii, ev_lt_ii, ev_le_ii, ev_gt_ii, ev_ge_ii, ev_add_ii, ev_sub_ii, ev_neg_i, ev_int_i, ev_abs_i, ev_len_l, ev_len_t, ev_len_f, ev_idx, mulOk_r, ev_mul_ii, OT.toD, tu])
end K75
end
section
namespace K75
open PySem L2 Evl PyProof.Rows CH
def GoodC (n : Int) (c : List Int) : Prop := Inc c ∧ ∀ a ∈ c, 1 ≤ absI a ∧ absI a ≤ n
theorem rep_ev (x : Int) : ∀ n : Nat, n < 10 → Op.ev (.bin .mul) [.lst [.sh (.int x)], .sh (.int (n : Int))] = some (.lst ((List.replicate n x).map iT))
  | 0, _ => rfl
  | 1, _ => rfl
  | 2, _ => rfl
  | 3, _ => rfl
  | 4, _ => rfl
  | 5, _ => rfl
  | 6, _ => rfl
  | 7, _ => rfl
  | 8, _ => rfl
  | 9, _ => rfl
  | n + 10, h => absurd h (by omega)
abbrev RhoC (c n : Int) (xs : List Int) (M : Int) (fs : List Int) (u : Sl) : CH.Env := [.ow (.sh (.int c)), .ow (.sh (.int n)), .ow (.lst (xs.map iT)), .ow (.sh (.int M)), .ow (.lst (fs.map iT)), u]
theorem c_turn (k : Nat) (c n : Int) (xs : List Int) (M : Int) (fs : List Int) (v x : Int) (hl : fs.length < 1000) (ix : idxEv (.lst (xs.map iT)) (v - 1) = some (.sh (.int x))) :
    ∃ fs', (fs' = fs ∨ fs' = fs ++ [v] ∨ fs' = fs ++ [-v]) ∧ evSs (P k) [] p15_0 (RhoC c n xs M fs (.ow (.sh (.int v)))) = .ok (.nx, RhoC c n xs M fs' (.ow (.sh (.int v)))) := by
  unfold RhoC
  have m1 := ev_mod_ii x 2 (by decide)
  have hb2 : 2 ≤ big := by decide
  unfold p15_0
  rw [ss_end]
  by_cases h : M ≤ x
  · have hs : x % 2 = 0 ∨ x % 2 = 1 := by omega
    rcases hs with hs | hs
    · refine ⟨fs ++ [v], .inr (.inl rfl), ?_⟩
      have ap := ap_i fs v (by omega)
      rw [hs] at m1
      have w : idxEv (.lst [.sh (.int v), .sh (.int (-v))]) 0 = some (.sh (.int v)) := rfl
      generalize xs.map iT = XT at ix ⊢
      generalize fs.map iT = FT at ap ⊢
      generalize (fs ++ [v]).map iT = FN at ap ⊢
      rw [ife_t (ρ1 := [.ow (.sh (.int c)), .ow (.sh (.int n)), .ow (.lst XT), .ow (.sh (.int M)), .ow (.lst FT), .ow (.sh (.int v))]) (by simp [D.tyName, ev_isi_t, isTy, fillA, backA, goneA, cm_le_ii, cm_lt_ii, getV, Fn.run, Fn.run0, evSs, evS, evT, evAll, evAny, evO, evE, evOs, evEs, evAs, evB, evAnd, evOr, CH.R.bind, R.ofO, CH.Env.tree, CH.Env.own, CH.Env.ownL, OT.getP, lock, unlock, outs, tru_b, ev_eq_ii, ev_ne_ii, ev_lt_ii, ev_le_ii, ev_gt_ii, ev_ge_ii, ev_add_ii, ev_sub_ii, ev_neg_i, ev_int_i, ev_abs_i, ev_len_l, ev_len_t, ev_len_f, ev_idx, mulOk_r, ev_mul_ii, OT.toD, ix, h]), ss_end]
      simp [D.tyName, ev_isi_t, isTy, fillA, backA, goneA, cm_le_ii, cm_lt_ii, getV, Fn.run, Fn.run0, evSs, evS, evT, evAll, evAny, evO, evE, evOs, evEs, evAs, evB, evAnd, evOr, CH.R.bind, R.ofO, CH.Env.tree, CH.Env.own, CH.Env.ownL, OT.getP, lock, unlock, outs, tru_b, ev_eq_ii, ev_ne_ii, ev_lt_ii, ev_le_ii, ev_gt_ii, ev_ge_ii, ev_add_ii, ev_sub_ii, ev_neg_i, ev_int_i, ev_abs_i, ev_len_l, ev_len_t, ev_len_f, ev_idx, mulOk_r, ev_mul_ii, OT.toD, ix, m1, w, ap, hb2]
    · refine ⟨fs ++ [-v], .inr (.inr rfl), ?_⟩
      have ap := ap_i fs (-v) (by omega)
      rw [hs] at m1
      have w : idxEv (.lst [.sh (.int v), .sh (.int (-v))]) 1 = some (.sh (.int (-v))) := rfl
      generalize xs.map iT = XT at ix ⊢
      generalize fs.map iT = FT at ap ⊢
      generalize (fs ++ [-v]).map iT = FN at ap ⊢
      rw [ife_t (ρ1 := [.ow (.sh (.int c)), .ow (.sh (.int n)), .ow (.lst XT), .ow (.sh (.int M)), .ow (.lst FT), .ow (.sh (.int v))]) (by simp [D.tyName, ev_isi_t, isTy, fillA, backA, goneA, cm_le_ii, cm_lt_ii, getV, Fn.run, Fn.run0, evSs, evS, evT, evAll, evAny, evO, evE, evOs, evEs, evAs, evB, evAnd, evOr, CH.R.bind, R.ofO, CH.Env.tree, CH.Env.own, CH.Env.ownL, OT.getP, lock, unlock, outs, tru_b, ev_eq_ii, ev_ne_ii, ev_lt_ii, ev_le_ii, ev_gt_ii, ev_ge_ii, ev_add_ii, ev_sub_ii, ev_neg_i, ev_int_i, ev_abs_i, ev_len_l, ev_len_t, ev_len_f, ev_idx, mulOk_r, ev_mul_ii, OT.toD, ix, h]), ss_end]
      simp [D.tyName, ev_isi_t, isTy, fillA, backA, goneA, cm_le_ii, cm_lt_ii, getV, Fn.run, Fn.run0, evSs, evS, evT, evAll, evAny, evO, evE, evOs, evEs, evAs, evB, evAnd, evOr, CH.R.bind, R.ofO, CH.Env.tree, CH.Env.own, CH.Env.ownL, OT.getP, lock, unlock, outs, tru_b, ev_eq_ii, ev_ne_ii, ev_lt_ii, ev_le_ii, ev_gt_ii, ev_ge_ii, ev_add_ii, ev_sub_ii, ev_neg_i, ev_int_i, ev_abs_i, ev_len_l, ev_len_t, ev_len_f, ev_idx, mulOk_r, ev_mul_ii, OT.toD, ix, m1, w, ap, hb2]
  · refine ⟨fs, .inl rfl, ?_⟩
    generalize xs.map iT = XT at ix ⊢
    generalize fs.map iT = FT
    rw [ife_f (ρ1 := [.ow (.sh (.int c)), .ow (.sh (.int n)), .ow (.lst XT), .ow (.sh (.int M)), .ow (.lst FT), .ow (.sh (.int v))]) (by simp [D.tyName, ev_isi_t, isTy, fillA, backA, goneA, cm_le_ii, cm_lt_ii, getV, Fn.run, Fn.run0, evSs, evS, evT, evAll, evAny, evO, evE, evOs, evEs, evAs, evB, evAnd, evOr, CH.R.bind, R.ofO, CH.Env.tree, CH.Env.own, CH.Env.ownL, OT.getP, lock, unlock, outs, tru_b, ev_eq_ii, ev_ne_ii, ev_lt_ii, ev_le_ii, ev_gt_ii, ev_ge_ii, ev_add_ii, ev_sub_ii, ev_neg_i, ev_int_i, ev_abs_i, ev_len_l, ev_len_t, ev_len_f, ev_idx, mulOk_r, ev_mul_ii, OT.toD, ix, h])]
    rfl
theorem goodC_snoc {i : Nat} {fs : List Int} {x : Int} (h : GoodC i fs) (hx : absI x = (i : Int) + 1) : GoodC ((i + 1 : Nat) : Int) (fs ++ [x]) := by
  refine ⟨?_, fun a ha => ?_⟩
  · refine List.pairwise_append.mpr ⟨h.1, by simp, fun a ha b hb => ?_⟩
    have : b = x := by simpa using hb
    subst this
    have := (h.2 a ha).2
    omega
  · rcases List.mem_append.mp ha with ha | ha
    · have := h.2 a ha; omega
    · have : a = x := by simpa using ha
      subst this
      omega
theorem absI_neg (x : Int) : absI (-x) = absI x := by unfold absI; split <;> split <;> omega
theorem c_loop (k : Nat) (c : Int) (n : Nat) (hn : n < 100) (xs : List Int) (hx : n ≤ xs.length) (M : Int) :
    ∃ fs u, GoodC n fs ∧ forL (fun ρ => evSs (P k) [] p15_0 ρ) [] (.one 5) ((List.range n).map fun j => .int (1 + (j : Nat))) (RhoC c n xs M [] .no) = .ok (.nx, RhoC c n xs M fs u) := by
  obtain ⟨ρ', hf, fs, u, _, hg, hl, rfl⟩ := forL_inv (body := fun ρ => evSs (P k) [] p15_0 ρ) (pl := []) (tg := .one 5) (I := fun i ρ => ∃ (fs : List Int) (u : Sl), Fr u ∧ GoodC i fs ∧ fs.length ≤ i ∧ ρ = RhoC c n xs M fs u)
    ((List.range n).map fun j => .int (1 + (j : Nat))) (RhoC c n xs M [] .no) ⟨[], .no, .inl rfl, ⟨.nil, fun a h => absurd h (by simp)⟩, Nat.le_refl _, rfl⟩
    (fun i d ρ e hI => by
      obtain ⟨fs, u, hu, hg, hl, rfl⟩ := hI
      obtain ⟨i', e1, rfl⟩ := by rw [List.getElem?_map] at e; exact Option.map_eq_some_iff.mp e
      obtain ⟨hi, e1⟩ := List.getElem?_eq_some_iff.mp e1
      rw [List.getElem_range] at e1
      subst e1
      rw [List.length_range] at hi
      have ix := idx_ow xs i (by omega)
      rw [show (i : Int) = 1 + (i : Int) - 1 by omega] at ix
      obtain ⟨fs', hfs, hb⟩ := c_turn k c n xs M fs (1 + (i : Int)) _ (by omega) ix
      refine ⟨RhoC c n xs M fs (.ow (.sh (.int (1 + (i : Int))))), _, ?_, hb, fs', _, .ow _, ?_, ?_, rfl⟩
      · rcases hu with rfl | ⟨x, rfl⟩ <;> rfl
      · rcases hfs with rfl | rfl | rfl
        · exact ⟨hg.1, fun a ha => by have := hg.2 a ha; omega⟩
        · exact goodC_snoc hg (by unfold absI; split <;> omega)
        · exact goodC_snoc hg (by rw [absI_neg]; unfold absI; split <;> omega)
      · rcases hfs with rfl | rfl | rfl <;> (try simp only [List.length_append, List.length_cons, List.length_nil]) <;> omega)
  rw [List.length_map, List.length_range] at hg
  exact ⟨fs, u, hg, hf⟩
theorem lim7 : ∀ n : Nat, n < 10 → ∀ m ∈ List.replicate n (7 : Int) ++ [12], 0 < m ∧ m < 1073741824 := fun n _ m h => by
  rcases List.mem_append.mp h with h | h
  · rw [List.eq_of_mem_replicate h]; omega
  · have : m = 12 := by simpa using h
    subst this; omega
theorem cl_e0 (k : Nat) (c nn : Int) (A1 A2 XT : List OT) (A3 : List D) (mu : Op.ev (.bin .mul) [.lst [.sh (.int 7)], .sh (.int nn)] = some (.lst A1)) (ad : Op.ev (.bin .add) [.lst A1, .lst [.sh (.int 12)]] = some (.lst A2)) (td : toDs A2 = A3) (hd : P k 12 [.sh (.int c), .sh (.lst A3)] = .ok (.lst XT, [.sh (.int c), .sh (.lst A3)])) :
    evS (P k) [] q15_0 [.ow (.sh (.int c)), .ow (.sh (.int nn)), .no, .no, .no, .no] = .ok (.nx, [.ow (.sh (.int c)), .ow (.sh (.int nn)), .ow (.lst XT), .no, .no, .no]) := by
  have hb1 : 1 ≤ big := by decide
  simp [q15_0, D.tyName, ev_isi_t, isTy, fillA, backA, goneA, cm_le_ii, cm_lt_ii, getV, Fn.run, Fn.run0, evSs, evS, evT, evAll, evAny, evO, evE, evOs, evEs, evAs, evB, evAnd, evOr, CH.R.bind, R.ofO, CH.Env.tree, CH.Env.own, CH.Env.ownL, OT.getP, lock, unlock, outs, tru_b, ev_eq_ii, ev_ne_ii, ev_lt_ii, ev_le_ii, ev_gt_ii, ev_ge_ii, ev_add_ii, ev_sub_ii, ev_neg_i, ev_int_i, ev_abs_i, ev_len_l, ev_len_t, ev_len_f, ev_idx, mulOk_r, ev_mul_ii, OT.toD, mu, ad, hb1, td, hd]
theorem cl_e1 (k : Nat) (c nn x : Int) (XT : List OT) (ix : idxEv (.lst XT) nn = some (.sh (.int x))) : ∃ M : Int, evS (P k) [] q15_1 [.ow (.sh (.int c)), .ow (.sh (.int nn)), .ow (.lst XT), .no, .no, .no] = .ok (.nx, [.ow (.sh (.int c)), .ow (.sh (.int nn)), .ow (.lst XT), .ow (.sh (.int M)), .no, .no]) := by
  have hb3 : 3 ≤ big := by decide
  have w0 : idxEv (.lst [.sh (.int 3), .sh (.int 2), .sh (.int 4)]) 0 = some (.sh (.int 3)) := rfl
  have w1 : idxEv (.lst [.sh (.int 3), .sh (.int 2), .sh (.int 4)]) 1 = some (.sh (.int 2)) := rfl
  have w2 : idxEv (.lst [.sh (.int 3), .sh (.int 2), .sh (.int 4)]) 2 = some (.sh (.int 4)) := rfl
  by_cases h1 : 2 < x
  · by_cases h2 : 9 < x
    · exact ⟨4, by simp [q15_1, D.tyName, ev_isi_t, isTy, fillA, backA, goneA, cm_le_ii, cm_lt_ii, getV, Fn.run, Fn.run0, evSs, evS, evT, evAll, evAny, evO, evE, evOs, evEs, evAs, evB, evAnd, evOr, CH.R.bind, R.ofO, CH.Env.tree, CH.Env.own, CH.Env.ownL, OT.getP, lock, unlock, outs, tru_b, ev_eq_ii, ev_ne_ii, ev_lt_ii, ev_le_ii, ev_gt_ii, ev_ge_ii, ev_add_ii, ev_sub_ii, ev_neg_i, ev_int_i, ev_abs_i, ev_len_l, ev_len_t, ev_len_f, ev_idx, mulOk_r, ev_mul_ii, OT.toD, ix, h1, h2, ev_int_t, ev_int_f, w0, w1, w2, hb3]⟩
    · exact ⟨2, by simp [q15_1, D.tyName, ev_isi_t, isTy, fillA, backA, goneA, cm_le_ii, cm_lt_ii, getV, Fn.run, Fn.run0, evSs, evS, evT, evAll, evAny, evO, evE, evOs, evEs, evAs, evB, evAnd, evOr, CH.R.bind, R.ofO, CH.Env.tree, CH.Env.own, CH.Env.ownL, OT.getP, lock, unlock, outs, tru_b, ev_eq_ii, ev_ne_ii, ev_lt_ii, ev_le_ii, ev_gt_ii, ev_ge_ii, ev_add_ii, ev_sub_ii, ev_neg_i, ev_int_i, ev_abs_i, ev_len_l, ev_len_t, ev_len_f, ev_idx, mulOk_r, ev_mul_ii, OT.toD, ix, h1, h2, ev_int_t, ev_int_f, w0, w1, w2, hb3]⟩
  · by_cases h2 : 9 < x
    · omega
    · exact ⟨3, by simp [q15_1, D.tyName, ev_isi_t, isTy, fillA, backA, goneA, cm_le_ii, cm_lt_ii, getV, Fn.run, Fn.run0, evSs, evS, evT, evAll, evAny, evO, evE, evOs, evEs, evAs, evB, evAnd, evOr, CH.R.bind, R.ofO, CH.Env.tree, CH.Env.own, CH.Env.ownL, OT.getP, lock, unlock, outs, tru_b, ev_eq_ii, ev_ne_ii, ev_lt_ii, ev_le_ii, ev_gt_ii, ev_ge_ii, ev_add_ii, ev_sub_ii, ev_neg_i, ev_int_i, ev_abs_i, ev_len_l, ev_len_t, ev_len_f, ev_idx, mulOk_r, ev_mul_ii, OT.toD, ix, h1, h2, ev_int_t, ev_int_f, w0, w1, w2, hb3]⟩
theorem cl_e4 (k : Nat) (c nn M : Int) (XT GT : List OT) (t : D) (u : Sl) (tu : Op.ev (.bi .tuple) [.lst GT] = some (.sh t)) : evS (P k) [] q15_4 [.ow (.sh (.int c)), .ow (.sh (.int nn)), .ow (.lst XT), .ow (.sh (.int M)), .ow (.lst GT), u] = .ok (.rt (.sh t), [.ow (.sh (.int c)), .ow (.sh (.int nn)), .ow (.lst XT), .ow (.sh (.int M)), .ow (.lst GT), u]) := by
  simp [q15_4, D.tyName, ev_isi_t, isTy, fillA, backA, goneA, cm_le_ii, cm_lt_ii, getV, Fn.run, Fn.run0, evSs, evS, evT, evAll, evAny, evO, evE, evOs, evEs, evAs, evB, evAnd, evOr, CH.R.bind, R.ofO, CH.Env.tree, CH.Env.own, CH.Env.ownL, OT.getP, lock, unlock, outs, tru_b, ev_eq_ii, ev_ne_ii, ev_lt_ii, ev_le_ii, ev_gt_ii, ev_ge_ii, ev_add_ii, ev_sub_ii, ev_neg_i, ev_int_i, ev_abs_i, ev_len_l, ev_len_t, ev_len_f, ev_idx, mulOk_r, ev_mul_ii, OT.toD, tu]
/-- range(1, n + 1), n in a slot -/
theorem rng_up (k : Nat) (pl : List Nat) (ρ : CH.Env) (i n : Nat) (hn : n < 100) (h : evE (P k) pl (.op (.bin .add) (.cons (.bor i []) (.cons (.e (.c (.int 1))) .nil))) ρ = .ok (.sh (.int ((n : Int) + 1)), ρ)) : evI (P k) pl (.rng2 (.c (.int 1)) (.op (.bin .add) (.cons (.bor i []) (.cons (.e (.c (.int 1))) .nil)))) ρ = .ok ((List.range n).map fun j => .int (1 + (j : Nat)), ρ) := by
  have hI := range_val (Φ := P k) (pl := pl) (a := .c (.int 1)) (b := .op (.bin .add) (.cons (.bor i []) (.cons (.e (.c (.int 1))) .nil))) (ρ := ρ) (ρ1 := ρ) (ρ2 := ρ) (i := 1) (j := (n : Int) + 1) rfl h (by omega)
  rwa [show ((n : Int) + 1 - 1).toNat = n by omega] at hI
theorem cl_e3 (k : Nat) (c : Int) (n : Nat) (hn : n < 10) (xs : List Int) (M : Int) (cl : List Int) (u : Sl) (lp : forL (fun ρ => evSs (P k) [] p15_0 ρ) [] (.one 5) ((List.range n).map fun j => .int (1 + (j : Nat))) (RhoC c n xs M [] .no) = .ok (.nx, RhoC c n xs M cl u)) :
    evS (P k) [] q15_3 (RhoC c n xs M [] .no) = .ok (.nx, RhoC c n xs M cl u) := by
  have hI := rng_up k [] (RhoC c n xs M [] .no) 1 n (by omega) rfl
  unfold q15_3
  rw [evS, hI]
  simp only [CH.R.bind]
  rw [lp]
  rfl
theorem clause_run (k : Nat) (c : Int) (n : Nat) (hn : n < 10) : ∃ cl, GoodC n cl ∧ P (k + 2) 15 [.sh (.int c), .sh (.int n)] = .ok (.sh (rD cl), [.sh (.int c), .sh (.int n)]) := by
  rw [step (k + 1) 15 _ f15 t15]
  obtain ⟨xs, hw, hd⟩ := draws_eq k c (List.replicate n (7 : Int) ++ [12]) (lim7 n hn) (by simp; omega)
  have hxl : xs.length = n + 1 := by have := hw.1; simpa using this
  have e0 := cl_e0 (k + 1) c n _ _ _ _ (rep_ev 7 n hn) (add_ll (List.replicate n (7 : Int)) [12] (by simp; omega)) (toDs_i (List.replicate n (7 : Int) ++ [12])) hd
  obtain ⟨M, e1⟩ := cl_e1 (k + 1) c n _ _ (idx_ow xs n (by omega))
  obtain ⟨cl, u, hg, lp⟩ := c_loop (k + 1) c n (by omega) xs (by omega) M
  have e3 := cl_e3 (k + 1) c n hn xs M cl u lp
  have e4 := cl_e4 (k + 1) c n M (xs.map iT) (cl.map iT) (rD cl) u (tup_l cl)
  refine ⟨cl, hg, run_rt (ρ := RhoC c n xs M cl u) rfl ?_ rfl⟩
  show evSs (P (k + 1)) [] b15 [.ow (.sh (.int c)), .ow (.sh (.int n)), .no, .no, .no, .no] = _
  unfold b15
  rw [ss_next e0, ss_next e1]
  rw [ss_next (ρ1 := RhoC c n xs M [] .no) (by rfl)]
  rw [ss_next e3]
  exact ss_stop e4
end K75
end
section
namespace K75
open PySem L2 Evl PyProof.Rows CH
theorem len_of_inc {n : Int} : ∀ (c : List Int) (lo : Int), Inc c → (∀ a ∈ c, lo < absI a ∧ absI a ≤ n) → lo ≤ n → (c.length : Int) ≤ n - lo
  | [], lo, _, _, h => by simp only [List.length_nil]; omega
  | a :: c, lo, hi, hb, h => by
    have h1 := hb a (by simp)
    have hi := List.pairwise_cons.mp hi
    have := len_of_inc c (absI a) hi.2 (fun b hm => ⟨hi.1 b hm, (hb b (by simp [hm])).2⟩) h1.2
    simp only [List.length_cons]
    omega
theorem goodC_len {n : Int} {c : List Int} (h : GoodC n c) (h0 : 0 ≤ n) : (c.length : Int) ≤ n := by
  have := len_of_inc c 0 h.1 (fun a ha => by have := h.2 a ha; omega) h0
  omega
theorem oks_rows (n : Nat) (cs : List (List Int)) : oks (n + 1) (cs.map rD) = true := oks_map (fun c => by show oks n _ = true; exact oks_ints n c) cs
theorem ne_nil (cs : List (List Int)) : Op.ev (.cmp .ne) [.lst (cs.map shR), .lst []] = some (.sh (.bl (!cs.isEmpty))) := by
  have h := ev_eq_nil (n := 2) (oks_rows 1 cs) (by decide)
  rw [List.map_map] at h
  have h : (eqD (.lst (toDs (cs.map shR))) (.lst [])).map (fun b => OT.sh (.bl b)) = some (.sh (.bl (cs.map rD).isEmpty)) := h
  show ((eqD (.lst (toDs (cs.map shR))) (.lst [])).map (! ·)).map _ = _
  cases e : eqD (.lst (toDs (cs.map shR))) (.lst []) with
  | none => rw [e] at h; cases h
  | some b =>
    rw [e] at h
    have : b = (cs.map rD).isEmpty := by simpa using h
    rw [this]
    cases cs <;> rfl
theorem eq_tnil (c : List Int) : Op.ev (.cmp .eq) [.sh (rD c), .sh (.tup [])] = some (.sh (.bl c.isEmpty)) := by
  show (eqD (.tup (c.map .int)) (.tup [])).map _ = _
  rw [eqD_ok (n := 2) (by show oks 1 _ = true; exact oks_ints 1 c) rfl (by decide), eq1_tup (oks_ints 1 c) rfl]
  cases c <;> rfl
theorem idx_rs (cs : List (List Int)) (j : Nat) (h : j < cs.length) : idxEv (.lst (cs.map shR)) (j : Int) = some (shR (cs.getD j [])) := by
  show (OT.items (.lst (cs.map shR))).bind _ = _
  rw [show OT.items (.lst (cs.map shR)) = some (cs.map rD) from litems_map cs rD]
  show (atI (cs.map rD) (j : Int)).map OT.sh = _
  rw [atI_nat (v := rD (cs.getD j [])) (by rw [List.getElem?_map, List.getElem?_eq_getElem h, List.getD_eq_getElem?_getD, List.getElem?_eq_getElem h]; rfl)]
  rfl
section
variable (k : Nat) (S X1 X2 X3 SH : Sl) (n : Int) (CS : List OT) (u7 : Sl) (DR : List OT) (cl : D) (u10 : Sl)
abbrev E16 (S X1 X2 X3 SH : Sl) (n : Int) (CS : List OT) (u7 u8 u9 u10 : Sl) : CH.Env := [S, X1, X2, X3, SH, .ow (.sh (.int n)), .ow (.lst CS), u7, u8, u9, u10, .no]
/-- draws[0] == j and clauses != [] -/
theorem f_test (j d0 : Int) (b : Bool) (i0 : idxEv (.lst DR) 0 = some (.sh (.int d0))) (ne : Op.ev (.cmp .ne) [.lst CS, .lst []] = some (.sh (.bl b))) :
    evT (P k) [] (.and (.cons (.val (.e (.op (.cmp .eq) (.cons (.e (.op .idx (.cons (.bor 8 []) (.cons (.e (.c (.int 0))) .nil)))) (.cons (.e (.c (.int j))) .nil))))) (.cons (.val (.e (.op (.cmp .ne) (.cons (.bor 6 []) (.cons (.e (.lst .nil)) .nil))))) .nil))) (E16 S X1 X2 X3 SH n CS u7 (.ow (.lst DR)) (.ow (.sh cl)) u10) = .ok (decide (d0 = j) && b, E16 S X1 X2 X3 SH n CS u7 (.ow (.lst DR)) (.ow (.sh cl)) u10) := by
  unfold E16
  have hb : 0 ≤ big := by decide
  by_cases h : d0 = j
  · subst h; cases b <;> simp [D.tyName, ev_isi_t, isTy, fillA, backA, goneA, cm_le_ii, cm_lt_ii, getV, Fn.run, Fn.run0, evSs, evS, evT, evAll, evAny, evO, evE, evOs, evEs, evAs, evB, evAnd, evOr, CH.R.bind, R.ofO, CH.Env.tree, CH.Env.own, CH.Env.ownL, OT.getP, lock, unlock, outs, tru_b, ev_eq_ii, ev_ne_ii, ev_lt_ii, ev_le_ii, ev_gt_ii, ev_ge_ii, ev_add_ii, ev_sub_ii, ev_neg_i, ev_int_i, ev_abs_i, ev_len_l, ev_len_t, ev_len_f, ev_idx, mulOk_r, ev_mul_ii, OT.toD, i0, ne, hb]
  · simp [D.tyName, ev_isi_t, isTy, fillA, backA, goneA, cm_le_ii, cm_lt_ii, getV, Fn.run, Fn.run0, evSs, evS, evT, evAll, evAny, evO, evE, evOs, evEs, evAs, evB, evAnd, evOr, CH.R.bind, R.ofO, CH.Env.tree, CH.Env.own, CH.Env.ownL, OT.getP, lock, unlock, outs, tru_b, ev_eq_ii, ev_ne_ii, ev_lt_ii, ev_le_ii, ev_gt_ii, ev_ge_ii, ev_add_ii, ev_sub_ii, ev_neg_i, ev_int_i, ev_abs_i, ev_len_l, ev_len_t, ev_len_f, ev_idx, mulOk_r, ev_mul_ii, OT.toD, i0, h]
/-- clauses[int(draws[1]) % len(clauses)] -/
theorem f_pick (d1 m : Int) (c : D) (hm : 0 < m) (i1 : idxEv (.lst DR) 1 = some (.sh (.int d1))) (ln : Op.ev (.bi .len) [.lst CS] = some (.sh (.int m))) (ip : idxEv (.lst CS) (d1 % m) = some (.sh c)) :
    evE (P k) [] (.op .idx (.cons (.bor 6 []) (.cons (.e (.op (.bin .mod) (.cons (.e (.op (.bi .int) (.cons (.e (.op .idx (.cons (.bor 8 []) (.cons (.e (.c (.int 1))) .nil)))) .nil))) (.cons (.e (.op (.bi .len) (.cons (.bor 6 []) .nil))) .nil)))) .nil))) (E16 S X1 X2 X3 SH n CS u7 (.ow (.lst DR)) (.ow (.sh cl)) u10) = .ok (.sh c, E16 S X1 X2 X3 SH n CS u7 (.ow (.lst DR)) (.ow (.sh cl)) u10) := by
  unfold E16
  have m1 := ev_mod_ii d1 m hm
  have ln : lenEv (.lst CS) = some (.sh (.int m)) := ln
  have ln' : Op.ev (.bi .len) [.lst CS] = some (.sh (.int m)) := ln
  simp [↓ln', D.tyName, ev_isi_t, isTy, fillA, backA, goneA, cm_le_ii, cm_lt_ii, getV, Fn.run, Fn.run0, evSs, evS, evT, evAll, evAny, evO, evE, evOs, evEs, evAs, evB, evAnd, evOr, CH.R.bind, R.ofO, CH.Env.tree, CH.Env.own, CH.Env.ownL, OT.getP, lock, unlock, outs, tru_b, ev_eq_ii, ev_ne_ii, ev_lt_ii, ev_le_ii, ev_gt_ii, ev_ge_ii, ev_add_ii, ev_sub_ii, ev_neg_i, ev_int_i, ev_abs_i, ev_len_l, ev_len_t, ev_len_f, ev_idx, mulOk_r, ev_mul_ii, OT.toD, i1, m1, ip]
end
end K75
end
section
namespace K75
open PySem L2 Evl PyProof.Rows CH
section
variable (k : Nat) (S X1 X2 X3 SH : Sl) (n : Int) (CS : List OT) (u7 : Sl) (DR : List OT)
/-- [one for one in clause + other if -one not in other] -/
theorem f_lc (c o : List Int) (h : c.length + o.length < 900) : evE (P k) [] (.lc p16_3 (.one 11) (.seq (.e (.op (.bin .add) (.cons (.bor 9 []) (.cons (.bor 10 []) .nil))))) p16_4) (E16 S X1 X2 X3 SH n CS u7 (.ow (.lst DR)) (.ow (.sh (rD c))) (.ow (.sh (rD o)))) = .ok (.lst (((c ++ o).filter fun x => !decide (-x ∈ o)).map iT), E16 S X1 X2 X3 SH n CS u7 (.ow (.lst DR)) (.ow (.sh (rD c))) (.ow (.sh (rD o)))) := by
  have hI : evI (P k) [] (.seq (.e (.op (.bin .add) (.cons (.bor 9 []) (.cons (.bor 10 []) .nil))))) (E16 S X1 X2 X3 SH n CS u7 (.ow (.lst DR)) (.ow (.sh (rD c))) (.ow (.sh (rD o)))) = .ok ((c ++ o).map .int, E16 S X1 X2 X3 SH n CS u7 (.ow (.lst DR)) (.ow (.sh (rD c))) (.ow (.sh (rD o)))) := by
    have ad := add_rr c o (by omega) (by omega)
    have e : evE (P k) [] (.op (.bin .add) (.cons (.bor 9 []) (.cons (.bor 10 []) .nil))) (E16 S X1 X2 X3 SH n CS u7 (.ow (.lst DR)) (.ow (.sh (rD c))) (.ow (.sh (rD o)))) = .ok (.sh (rD (c ++ o)), E16 S X1 X2 X3 SH n CS u7 (.ow (.lst DR)) (.ow (.sh (rD c))) (.ow (.sh (rD o)))) := by
      unfold E16
      generalize rD (c ++ o) = x at ad ⊢
      generalize rD c = y at ad ⊢
      generalize rD o = z at ad ⊢
      simp [D.tyName, ev_isi_t, isTy, fillA, backA, goneA, cm_le_ii, cm_lt_ii, getV, Fn.run, Fn.run0, evSs, evS, evT, evAll, evAny, evO, evE, evOs, evEs, evAs, evB, evAnd, evOr, CH.R.bind, R.ofO, CH.Env.tree, CH.Env.own, CH.Env.ownL, OT.getP, lock, unlock, outs, tru_b, ev_eq_ii, ev_ne_ii, ev_lt_ii, ev_le_ii, ev_gt_ii, ev_ge_ii, ev_add_ii, ev_sub_ii, ev_neg_i, ev_int_i, ev_abs_i, ev_len_l, ev_len_t, ev_len_f, ev_idx, mulOk_r, ev_mul_ii, OT.toD, ad]
    rw [evI, e]
    rfl
  have := evE_lcf (Φ := P k) (pl := []) (e := p16_3) (i := 11) (cs := p16_4) (xs := c ++ o) (mk := .int) (g := .int) (p := fun x => !decide (-x ∈ o)) hI rfl (by simp) (by simp only [List.length_append]; unfold big; omega) (fun x _ => ⟨by
    have ni := ev_notin_t (-x) o
    unfold E16
    generalize rD c = y
    generalize rD o = z at ni ⊢
    have e : evE (P k) [] (.op (.cmp .notin) (.cons (.e (.op .neg (.cons (.bor 11 []) .nil))) (.cons (.bor 10 []) .nil))) [S, X1, X2, X3, SH, .ow (.sh (.int n)), .ow (.lst CS), u7, .ow (.lst DR), .ow (.sh y), .ow (.sh z), .ow (.sh (.int x))] = .ok (.sh (.bl (!decide (-x ∈ o))), [S, X1, X2, X3, SH, .ow (.sh (.int n)), .ow (.lst CS), u7, .ow (.lst DR), .ow (.sh y), .ow (.sh z), .ow (.sh (.int x))]) := by simp [D.tyName, ev_isi_t, isTy, fillA, backA, goneA, cm_le_ii, cm_lt_ii, getV, Fn.run, Fn.run0, evSs, evS, evT, evAll, evAny, evO, evE, evOs, evEs, evAs, evB, evAnd, evOr, CH.R.bind, R.ofO, CH.Env.tree, CH.Env.own, CH.Env.ownL, OT.getP, lock, unlock, outs, tru_b, ev_eq_ii, ev_ne_ii, ev_lt_ii, ev_le_ii, ev_gt_ii, ev_ge_ii, ev_add_ii, ev_sub_ii, ev_neg_i, ev_int_i, ev_abs_i, ev_len_l, ev_len_t, ev_len_f, ev_idx, mulOk_r, ev_mul_ii, OT.toD, ni]
    show evAll (P k) [] p16_4 [S, X1, X2, X3, SH, .ow (.sh (.int n)), .ow (.lst CS), u7, .ow (.lst DR), .ow (.sh y), .ow (.sh z), .ow (.sh (.int x))] = _
    unfold p16_4
    rw [evAll, evT, evO, e]
    simp only [CH.R.bind, tru_b]
    cases (!decide (-x ∈ o)) <;> rfl, fun _ => rfl⟩)
  rw [this]
  rfl
theorem fil_one {n : Int} {c o : List Int} (hc : GoodC n c) (ho : GoodC n o) : ∀ a ∈ (c ++ o).filter (fun x => !decide (-x ∈ o)), ∀ b ∈ (c ++ o).filter (fun x => !decide (-x ∈ o)), absI a = absI b → a = b := by
  have inc : ∀ {c : List Int}, Inc c → ∀ a ∈ c, ∀ b ∈ c, absI a = absI b → a = b := fun {c} h a ha b hb e => by
    obtain ⟨i, hi, rfl⟩ := List.mem_iff_getElem.mp ha
    obtain ⟨j, hj, rfl⟩ := List.mem_iff_getElem.mp hb
    have hp := List.pairwise_iff_getElem.mp h
    by_cases h1 : i < j
    · have := hp i j hi hj h1; omega
    · by_cases h2 : j < i
      · have := hp j i hj hi h2; omega
      · have : i = j := by omega
        subst this; rfl
  intro a ha b hb e
  obtain ⟨a1, a2⟩ := List.mem_filter.mp ha
  obtain ⟨b1, b2⟩ := List.mem_filter.mp hb
  have a2 : -a ∉ o := by simpa using a2
  have b2 : -b ∉ o := by simpa using b2
  by_cases hab : a = b
  · exact hab
  · have hn : b = -a := by unfold absI at e; split at e <;> split at e <;> omega
    have hn2 : a = -b := by omega
    rcases List.mem_append.mp a1 with a1 | a1
    · rcases List.mem_append.mp b1 with b1 | b1
      · exact inc hc.1 a a1 b b1 e
      · exact absurd (hn ▸ b1) a2
    · exact absurd (hn2 ▸ a1) b2
theorem f_unit (c : D) (u10 : Sl) (d1 s : Int) (hn : 0 < n) (hs : s = 1 ∨ s = -1) (i1 : idxEv (.lst DR) 1 = some (.sh (.int d1))) (w : idxEv (.lst [.sh (.int 1), .sh (.int (-1))]) (d1 % 2) = some (.sh (.int s))) :
    evS (P k) [] (.set 9 (.tup (.cons (.op (.bin .mul) (.cons (.e (.op .idx (.cons (.e (.lst (.cons (.c (.int 1)) (.cons (.op .neg (.cons (.e (.c (.int 1))) .nil)) .nil)))) (.cons (.e (.op (.bin .mod) (.cons (.e (.op (.bi .int) (.cons (.e (.op .idx (.cons (.bor 8 []) (.cons (.e (.c (.int 1))) .nil)))) .nil))) (.cons (.e (.c (.int 2))) .nil)))) .nil)))) (.cons (.e (.op (.bin .add) (.cons (.e (.c (.int 1))) (.cons (.e (.op (.bin .mod) (.cons (.e (.op (.bi .int) (.cons (.e (.op (.bin .fdiv) (.cons (.e (.op .idx (.cons (.bor 8 []) (.cons (.e (.c (.int 1))) .nil)))) (.cons (.e (.c (.int 2))) .nil)))) .nil))) (.cons (.bor 5 []) .nil)))) .nil)))) .nil))) .nil))) (E16 S X1 X2 X3 SH n CS u7 (.ow (.lst DR)) (.ow (.sh c)) u10) = .ok (.nx, E16 S X1 X2 X3 SH n CS u7 (.ow (.lst DR)) (.ow (.sh (rD [s * (1 + d1 / 2 % n)]))) u10) := by
  unfold E16
  have m1 := ev_mod_ii d1 2 (by decide)
  have m2 := ev_mod_ii (d1 / 2) n hn
  have d2 := ev_fdiv_ii d1 2 (by decide)
  have mo : Op.ev (.bin .mul) [.sh (.int s), .sh (.int (1 + d1 / 2 % n))] = some (.sh (.int (s * (1 + d1 / 2 % n)))) := ev_mul_ii _ _ (mulOk_l _ _ (by rcases hs with rfl | rfl <;> decide))
  have hb1 : 1 ≤ big := by decide
  have hb2 : 2 ≤ big := by decide
  have e1 : evE (P k) [] (.op .idx (.cons (.e (.lst (.cons (.c (.int 1)) (.cons (.op .neg (.cons (.e (.c (.int 1))) .nil)) .nil)))) (.cons (.e (.op (.bin .mod) (.cons (.e (.op (.bi .int) (.cons (.e (.op .idx (.cons (.bor 8 []) (.cons (.e (.c (.int 1))) .nil)))) .nil))) (.cons (.e (.c (.int 2))) .nil)))) .nil))) [S, X1, X2, X3, SH, .ow (.sh (.int n)), .ow (.lst CS), u7, .ow (.lst DR), .ow (.sh c), u10, .no] = .ok (.sh (.int s), [S, X1, X2, X3, SH, .ow (.sh (.int n)), .ow (.lst CS), u7, .ow (.lst DR), .ow (.sh c), u10, .no]) := by
    simp [D.tyName, ev_isi_t, isTy, fillA, backA, goneA, cm_le_ii, cm_lt_ii, getV, Fn.run, Fn.run0, evSs, evS, evT, evAll, evAny, evO, evE, evOs, evEs, evAs, evB, evAnd, evOr, CH.R.bind, R.ofO, CH.Env.tree, CH.Env.own, CH.Env.ownL, OT.getP, lock, unlock, outs, tru_b, ev_eq_ii, ev_ne_ii, ev_lt_ii, ev_le_ii, ev_gt_ii, ev_ge_ii, ev_add_ii, ev_sub_ii, ev_neg_i, ev_int_i, ev_abs_i, ev_len_l, ev_len_t, ev_len_f, ev_idx, mulOk_r, ev_mul_ii, OT.toD, i1, m1, hb2, w]
  have e2 : evE (P k) [] (.op (.bin .add) (.cons (.e (.c (.int 1))) (.cons (.e (.op (.bin .mod) (.cons (.e (.op (.bi .int) (.cons (.e (.op (.bin .fdiv) (.cons (.e (.op .idx (.cons (.bor 8 []) (.cons (.e (.c (.int 1))) .nil)))) (.cons (.e (.c (.int 2))) .nil)))) .nil))) (.cons (.bor 5 []) .nil)))) .nil))) [S, X1, X2, X3, SH, .ow (.sh (.int n)), .ow (.lst CS), u7, .ow (.lst DR), .ow (.sh c), u10, .no] = .ok (.sh (.int (1 + d1 / 2 % n)), [S, X1, X2, X3, SH, .ow (.sh (.int n)), .ow (.lst CS), u7, .ow (.lst DR), .ow (.sh c), u10, .no]) := by
    simp [D.tyName, ev_isi_t, isTy, fillA, backA, goneA, cm_le_ii, cm_lt_ii, getV, Fn.run, Fn.run0, evSs, evS, evT, evAll, evAny, evO, evE, evOs, evEs, evAs, evB, evAnd, evOr, CH.R.bind, R.ofO, CH.Env.tree, CH.Env.own, CH.Env.ownL, OT.getP, lock, unlock, outs, tru_b, ev_eq_ii, ev_ne_ii, ev_lt_ii, ev_le_ii, ev_gt_ii, ev_ge_ii, ev_add_ii, ev_sub_ii, ev_neg_i, ev_int_i, ev_abs_i, ev_len_l, ev_len_t, ev_len_f, ev_idx, mulOk_r, ev_mul_ii, OT.toD, i1, m2, d2]
  have m := evE_op2 e1 e2 mo
  rw [evS, evE, evEs, m]
  simp only [CH.R.bind, evEs]
  rw [if_pos (show [OT.sh (.int (s * (1 + d1 / 2 % n)))].length ≤ big from (by decide : 1 ≤ big))]
  rfl
theorem f_branch (cs : List (List Int)) (c : List Int) (u10 : Sl) (d0 d1 d2 : Int) (hu : Fr u10) (h0 : 0 ≤ n ∧ n < 100) (hcs : ∀ c ∈ cs, GoodC n c) (hc : GoodC n c)
    (i0 : idxEv (.lst DR) 0 = some (.sh (.int d0))) (i1 : idxEv (.lst DR) 1 = some (.sh (.int d1))) (i2 : idxEv (.lst DR) 2 = some (.sh (.int d2))) :
    ∃ c' u', GoodC n c' ∧ Fr u' ∧ evS (P (k + 2)) [] p16_6 (E16 S X1 X2 X3 SH n (cs.map shR) u7 (.ow (.lst DR)) (.ow (.sh (rD c))) u10) = .ok (.nx, E16 S X1 X2 X3 SH n (cs.map shR) u7 (.ow (.lst DR)) (.ow (.sh (rD c'))) u') := by
  have t0 := f_test (k + 2) S X1 X2 X3 SH n (cs.map shR) u7 DR (rD c) u10 0 d0 _ i0 (ne_nil cs)
  have t1 := f_test (k + 2) S X1 X2 X3 SH n (cs.map shR) u7 DR (rD c) u10 1 d0 _ i0 (ne_nil cs)
  have pk : cs ≠ [] → ∃ o, GoodC n o ∧ evE (P (k + 2)) [] (.op .idx (.cons (.bor 6 []) (.cons (.e (.op (.bin .mod) (.cons (.e (.op (.bi .int) (.cons (.e (.op .idx (.cons (.bor 8 []) (.cons (.e (.c (.int 1))) .nil)))) .nil))) (.cons (.e (.op (.bi .len) (.cons (.bor 6 []) .nil))) .nil)))) .nil))) (E16 S X1 X2 X3 SH n (cs.map shR) u7 (.ow (.lst DR)) (.ow (.sh (rD c))) u10) = .ok (.sh (rD o), E16 S X1 X2 X3 SH n (cs.map shR) u7 (.ow (.lst DR)) (.ow (.sh (rD c))) u10) := fun hne => by
    have hp : 0 < (cs.length : Int) := by cases cs <;> first | exact absurd rfl hne | (simp only [List.length_cons]; omega)
    have hj0 := Int.emod_nonneg d1 (show (cs.length : Int) ≠ 0 by omega)
    have hj1 := Int.emod_lt_of_pos d1 hp
    have ip := idx_rs cs (d1 % cs.length).toNat (by omega)
    rw [show (((d1 % (cs.length : Int)).toNat : Nat) : Int) = d1 % cs.length by omega] at ip
    refine ⟨cs.getD (d1 % cs.length).toNat [], hcs _ ?_, f_pick (k + 2) S X1 X2 X3 SH n (cs.map shR) u7 DR (rD c) u10 d1 cs.length _ hp i1 (by rw [ev_len_l, List.length_map]) ip⟩
    rw [List.getD_eq_getElem?_getD, List.getElem?_eq_getElem (by omega)]
    exact List.getElem_mem _
  unfold p16_6
  by_cases h : d0 = 0 ∧ cs ≠ []
  · obtain ⟨o, ho, e⟩ := pk h.2
    have hb : (decide (d0 = 0) && !cs.isEmpty) = true := by
      rw [decide_eq_true h.1]
      cases cs <;> first | exact absurd rfl h.2 | rfl
    rw [hb] at t0
    refine ⟨o, u10, ho, hu, ?_⟩
    rw [ife_t t0, ss_end, evS_set (u := .sh (rD c)) e (.inr rfl) rfl]
    rfl
  · have hb : (decide (d0 = 0) && !cs.isEmpty) = false := by
      by_cases h1 : d0 = 0
      · have : cs = [] := by
          by_cases h2 : cs = []
          · exact h2
          · exact absurd ⟨h1, h2⟩ h
        subst this
        simp
      · simp [h1]
    rw [hb] at t0
    rw [ife_f t0, ss_end]
    by_cases h1 : d0 = 1 ∧ cs ≠ []
    · obtain ⟨o, ho, e⟩ := pk h1.2
      have hb : (decide (d0 = 1) && !cs.isEmpty) = true := by
        rw [decide_eq_true h1.1]
        cases cs <;> first | exact absurd rfl h1.2 | rfl
      rw [hb] at t1
      have lc0 := goodC_len hc h0.1
      have lo0 := goodC_len ho h0.1
      have lc := f_lc (k + 2) S X1 X2 X3 SH n (cs.map shR) u7 DR c o (by omega)
      have hfl : ((c ++ o).filter fun x => !decide (-x ∈ o)).length < 1000 := by
        have := List.length_filter_le (fun x => !decide (-x ∈ o)) (c ++ o)
        simp only [List.length_append] at this
        omega
      obtain ⟨gs, g1, g2, g3⟩ := sorted_run k _ hfl (fil_one hc ho)
      have hg : GoodC n gs := ⟨g1, fun a ha => by
        have := (List.mem_filter.mp (g2 a ha)).1
        rcases List.mem_append.mp this with z | z
        · exact hc.2 a z
        · exact ho.2 a z⟩
      refine ⟨gs, .ow (.sh (rD o)), hg, .ow _, ?_⟩
      have s2 : evS (P (k + 2)) [] p16_2 (E16 S X1 X2 X3 SH n (cs.map shR) u7 (.ow (.lst DR)) (.ow (.sh (rD c))) u10) = .ok (.nx, E16 S X1 X2 X3 SH n (cs.map shR) u7 (.ow (.lst DR)) (.ow (.sh (rD c))) (.ow (.sh (rD o)))) := by
        unfold p16_2
        rcases hu with rfl | ⟨x, rfl⟩
        · rw [evS_set (u := .sh .non) e (.inl rfl) rfl]; rfl
        · rw [evS_set (u := .sh x) e (.inr rfl) rfl]; rfl
      have s5 : evS (P (k + 2)) [] p16_5 (E16 S X1 X2 X3 SH n (cs.map shR) u7 (.ow (.lst DR)) (.ow (.sh (rD c))) (.ow (.sh (rD o)))) = .ok (.nx, E16 S X1 X2 X3 SH n (cs.map shR) u7 (.ow (.lst DR)) (.ow (.sh (rD gs))) (.ow (.sh (rD o)))) := by
        have cc := call1 (Φ := P (k + 2)) (pl := []) (f := 14) lc (by show D.lst (toDs _) = _; rw [toDs_map _ D.int]) g3 rfl
        unfold p16_5
        rw [evS_set (u := .sh (rD c)) cc (.inr rfl) rfl]
        rfl
      rw [ife_t t1, ss_next s2, ss_end, s5]
    · have hb : (decide (d0 = 1) && !cs.isEmpty) = false := by
        by_cases h3 : d0 = 1
        · have : cs = [] := by
            by_cases h2 : cs = []
            · exact h2
            · exact absurd ⟨h3, h2⟩ h1
          subst this
          simp
        · simp [h3]
      rw [hb] at t1
      rw [ife_f t1, ss_end]
      have ec := eq_tnil c
      have tt : evT (P (k + 2)) [] (.and (.cons (.val (.e (.op (.cmp .eq) (.cons (.bor 9 []) (.cons (.e (.tup .nil)) .nil))))) (.cons (.val (.e (.op (.cmp .gt) (.cons (.e (.op .idx (.cons (.bor 8 []) (.cons (.e (.c (.int 2))) .nil)))) (.cons (.e (.c (.int 0))) .nil))))) (.cons (.val (.e (.op (.cmp .gt) (.cons (.bor 5 []) (.cons (.e (.c (.int 0))) .nil))))) .nil)))) (E16 S X1 X2 X3 SH n (cs.map shR) u7 (.ow (.lst DR)) (.ow (.sh (rD c))) u10) = .ok (c.isEmpty && (decide (0 < d2) && decide (0 < n)), E16 S X1 X2 X3 SH n (cs.map shR) u7 (.ow (.lst DR)) (.ow (.sh (rD c))) u10) := by
        unfold E16
        have hb0 : 0 ≤ big := by decide
        generalize cs.map shR = CS
        generalize rD c = CC at ec ⊢
        generalize c.isEmpty = b at ec ⊢
        cases b
        · simp [D.tyName, ev_isi_t, isTy, fillA, backA, goneA, cm_le_ii, cm_lt_ii, getV, Fn.run, Fn.run0, evSs, evS, evT, evAll, evAny, evO, evE, evOs, evEs, evAs, evB, evAnd, evOr, CH.R.bind, R.ofO, CH.Env.tree, CH.Env.own, CH.Env.ownL, OT.getP, lock, unlock, outs, tru_b, ev_eq_ii, ev_ne_ii, ev_lt_ii, ev_le_ii, ev_gt_ii, ev_ge_ii, ev_add_ii, ev_sub_ii, ev_neg_i, ev_int_i, ev_abs_i, ev_len_l, ev_len_t, ev_len_f, ev_idx, mulOk_r, ev_mul_ii, OT.toD, ec, hb0, toDs]
        · by_cases h5 : 0 < d2
          · by_cases h6 : 0 < n <;> simp [D.tyName, ev_isi_t, isTy, fillA, backA, goneA, cm_le_ii, cm_lt_ii, getV, Fn.run, Fn.run0, evSs, evS, evT, evAll, evAny, evO, evE, evOs, evEs, evAs, evB, evAnd, evOr, CH.R.bind, R.ofO, CH.Env.tree, CH.Env.own, CH.Env.ownL, OT.getP, lock, unlock, outs, tru_b, ev_eq_ii, ev_ne_ii, ev_lt_ii, ev_le_ii, ev_gt_ii, ev_ge_ii, ev_add_ii, ev_sub_ii, ev_neg_i, ev_int_i, ev_abs_i, ev_len_l, ev_len_t, ev_len_f, ev_idx, mulOk_r, ev_mul_ii, OT.toD, ec, hb0, toDs, i2, h5, h6]
          · simp [D.tyName, ev_isi_t, isTy, fillA, backA, goneA, cm_le_ii, cm_lt_ii, getV, Fn.run, Fn.run0, evSs, evS, evT, evAll, evAny, evO, evE, evOs, evEs, evAs, evB, evAnd, evOr, CH.R.bind, R.ofO, CH.Env.tree, CH.Env.own, CH.Env.ownL, OT.getP, lock, unlock, outs, tru_b, ev_eq_ii, ev_ne_ii, ev_lt_ii, ev_le_ii, ev_gt_ii, ev_ge_ii, ev_add_ii, ev_sub_ii, ev_neg_i, ev_int_i, ev_abs_i, ev_len_l, ev_len_t, ev_len_f, ev_idx, mulOk_r, ev_mul_ii, OT.toD, ec, hb0, toDs, i2, h5]
      by_cases hz : (c.isEmpty && (decide (0 < d2) && decide (0 < n))) = true
      · rw [hz] at tt
        simp only [Bool.and_eq_true, decide_eq_true_eq] at hz
        have hn : 0 < n := hz.2.2
        have w : ∃ s : Int, (s = 1 ∨ s = -1) ∧ idxEv (.lst [.sh (.int 1), .sh (.int (-1))]) (d1 % 2) = some (.sh (.int s)) := by
          have : d1 % 2 = 0 ∨ d1 % 2 = 1 := by omega
          rcases this with e | e <;> rw [e]
          · exact ⟨1, .inl rfl, rfl⟩
          · exact ⟨-1, .inr rfl, rfl⟩
        obtain ⟨s, hs, w⟩ := w
        have hj0 := Int.emod_nonneg (d1 / 2) (show n ≠ 0 by omega)
        have hj1 := Int.emod_lt_of_pos (d1 / 2) hn
        refine ⟨[s * (1 + d1 / 2 % n)], u10, ⟨by simp [Inc], fun a ha => ?_⟩, hu, ?_⟩
        · have : a = s * (1 + d1 / 2 % n) := by simpa using ha
          subst this
          have e : absI (s * (1 + d1 / 2 % n)) = 1 + d1 / 2 % n := by
            rcases hs with rfl | rfl
            · rw [Int.one_mul]; unfold absI; split <;> omega
            · rw [Int.neg_one_mul, absI_neg]; unfold absI; split <;> omega
          rw [e]; omega
        · rw [ife_t tt, ss_end]
          exact f_unit (k + 2) S X1 X2 X3 SH n (cs.map shR) u7 DR (rD c) u10 d1 s hn hs i1 w
      · have hz : (c.isEmpty && (decide (0 < d2) && decide (0 < n))) = false := by simpa using hz
        rw [hz] at tt
        refine ⟨c, u10, hc, hu, ?_⟩
        rw [ife_f tt]
        rfl
end
end K75
end
section
namespace K75
open PySem L2 Evl PyProof.Rows CH
section
variable (k : Nat) (ns : List Int) (X2 X3 SH : Sl) (n : Nat) (CS : List OT) (j : Nat)
abbrev scr (ns : List Int) : D := .flst (ns.map .int)
theorem cell_at (A : CH.CE) (ρ : CH.Env) (i : Nat) (h0 : evE (P (k + 1)) [] (.v 0) ρ = .ok (.sh (scr ns), ρ)) (h : evE (P (k + 1)) [] A ρ = .ok (.sh (.int (i : Nat)), ρ)) : ∃ c : Int, evE (P (k + 1)) [] (.call 11 (.val (.v 0) (.val A .nil))) ρ = .ok (.sh (.int c), ρ) := by
  obtain ⟨c, hc⟩ := cell_eq k ns i
  exact ⟨c, call2 h0 rfl h rfl hc rfl⟩
theorem f_p0 (u8 u9 u10 : Sl) (h8 : FrT u8) : ∃ xs, Within xs [6, 97, 20] ∧ evS (P (k + 2)) [] p16_0 (E16 (.ow (.sh (scr ns))) (.ow (.sh (.int 1))) X2 X3 SH n CS (.ow (.sh (.int j))) u8 u9 u10) = .ok (.nx, E16 (.ow (.sh (scr ns))) (.ow (.sh (.int 1))) X2 X3 SH n CS (.ow (.sh (.int j))) (.ow (.lst (xs.map iT))) u9 u10) := by
  obtain ⟨c, hc⟩ := cell_at (k + 1) ns (.op (.bin .add) (.cons (.e (.op (.bin .add) (.cons (.bor 1 []) (.cons (.e (.c (.int 20))) .nil)))) (.cons (.bor 7 []) .nil))) (E16 (.ow (.sh (scr ns))) (.ow (.sh (.int 1))) X2 X3 SH n CS (.ow (.sh (.int j))) u8 u9 u10) (21 + j) rfl (by
    rw [show ((21 + j : Nat) : Int) = 1 + 20 + (j : Int) by omega]
    rfl)
  obtain ⟨xs, hw, hd⟩ := draws_eq (k + 1) c [6, 97, 20] (by decide) (by decide)
  refine ⟨xs, hw, ?_⟩
  have l3 : evE (P (k + 2)) [] (.lst (.cons (.c (.int 6)) (.cons (.c (.int 97)) (.cons (.c (.int 20)) .nil)))) (E16 (.ow (.sh (scr ns))) (.ow (.sh (.int 1))) X2 X3 SH n CS (.ow (.sh (.int j))) u8 u9 u10) = .ok (.lst [.sh (.int 6), .sh (.int 97), .sh (.int 20)], E16 (.ow (.sh (scr ns))) (.ow (.sh (.int 1))) X2 X3 SH n CS (.ow (.sh (.int j))) u8 u9 u10) := by
    rw [evE]
    simp only [evEs, evE, CH.R.bind]
    rw [if_pos (show [OT.sh (.int 6), OT.sh (.int 97), OT.sh (.int 20)].length ≤ big from (by decide : 3 ≤ big))]
  have c2 := call2 hc rfl l3 (show _ = D.lst ([6, 97, 20].map .int) from rfl) hd rfl
  unfold p16_0
  rcases h8 with rfl | ⟨t, rfl⟩
  · rw [evS_set (u := .sh .non) c2 (.inl rfl) rfl]; rfl
  · rw [evS_set (u := t) c2 (.inr rfl) rfl]; rfl
theorem f_p1 (hn : n < 10) (u8 u9 u10 : Sl) (h9 : Fr u9) : ∃ c, GoodC n c ∧ evS (P (k + 2)) [] p16_1 (E16 (.ow (.sh (scr ns))) (.ow (.sh (.int 1))) X2 X3 SH n CS (.ow (.sh (.int j))) u8 u9 u10) = .ok (.nx, E16 (.ow (.sh (scr ns))) (.ow (.sh (.int 1))) X2 X3 SH n CS (.ow (.sh (.int j))) u8 (.ow (.sh (rD c))) u10) := by
  obtain ⟨c, hc⟩ := cell_at (k + 1) ns (.op (.bin .add) (.cons (.e (.op (.bin .add) (.cons (.bor 1 []) (.cons (.e (.c (.int 1))) .nil)))) (.cons (.bor 7 []) .nil))) (E16 (.ow (.sh (scr ns))) (.ow (.sh (.int 1))) X2 X3 SH n CS (.ow (.sh (.int j))) u8 u9 u10) (2 + j) rfl (by
    rw [show ((2 + j : Nat) : Int) = 1 + 1 + (j : Int) by omega]
    rfl)
  obtain ⟨cl, hg, hr⟩ := clause_run k c n hn
  refine ⟨cl, hg, ?_⟩
  have c2 := call2 hc rfl (show evE (P (k + 2)) [] (.mv 5) (E16 (.ow (.sh (scr ns))) (.ow (.sh (.int 1))) X2 X3 SH n CS (.ow (.sh (.int j))) u8 u9 u10) = .ok (.sh (.int n), E16 (.ow (.sh (scr ns))) (.ow (.sh (.int 1))) X2 X3 SH n CS (.ow (.sh (.int j))) u8 u9 u10) from rfl) rfl hr rfl
  unfold p16_1
  rcases h9 with rfl | ⟨t, rfl⟩
  · rw [evS_set (u := .sh .non) c2 (.inl rfl) rfl]; rfl
  · rw [evS_set (u := .sh t) c2 (.inr rfl) rfl]; rfl
theorem ap_r (cs : List (List Int)) (c : List Int) (h : cs.length < 1000000) : muEv .append (cs.map shR) [shR c] = some (.sh .non, (cs ++ [c]).map shR) := by
  show guard_ (decide ((cs.map shR).length < big)) _ = _
  rw [decide_eq_true (by rw [List.length_map]; simp only [big]; omega)]
  simp [guard_]
theorem f_p7 (cs : List (List Int)) (c : List Int) (h : cs.length < 1000000) (S X1 u7 u8 u10 : Sl) : evS (P k) [] p16_7 (E16 S X1 X2 X3 SH n (cs.map shR) u7 u8 (.ow (.sh (rD c))) u10) = .ok (.nx, E16 S X1 X2 X3 SH n ((cs ++ [c]).map shR) u7 u8 (.ow (.sh (rD c))) u10) := by
  have ap := ap_r cs c h
  have e : evEs (P k) [] (.cons (.mv 9) .nil) (E16 S X1 X2 X3 SH n (cs.map shR) u7 u8 (.ow (.sh (rD c))) u10) = .ok ([shR c], E16 S X1 X2 X3 SH n (cs.map shR) u7 u8 (.ow (.sh (rD c))) u10) := rfl
  unfold p16_7
  rw [evS, evE]
  have o : CH.Env.ownL (E16 S X1 X2 X3 SH n (cs.map shR) u7 u8 (.ow (.sh (rD c))) u10) 6 = some (cs.map shR) := rfl
  rw [o]
  simp only [e, CH.R.bind, o, ap]
  rfl
theorem f_loop (hn : n < 10) (m : Nat) (hm : m < 1000) : ∃ (cs : List (List Int)) (u7 u8 u9 u10 : Sl), (∀ c ∈ cs, GoodC n c) ∧ cs.length ≤ m ∧ forL (fun ρ => evSs (P (k + 2)) [] p16_8 ρ) [] (.one 7) ((List.range m).map fun i => .int (i : Nat)) (E16 (.ow (.sh (scr ns))) (.ow (.sh (.int 1))) X2 X3 SH n [] .no .no .no .no) = .ok (.nx, E16 (.ow (.sh (scr ns))) (.ow (.sh (.int 1))) X2 X3 SH n (cs.map shR) u7 u8 u9 u10) := by
  obtain ⟨ρ', hf, cs, u7, u8, u9, u10, _, _, _, _, hg, hl, rfl⟩ := forL_inv (body := fun ρ => evSs (P (k + 2)) [] p16_8 ρ) (pl := []) (tg := .one 7)
    (I := fun i ρ => ∃ (cs : List (List Int)) (u7 u8 u9 u10 : Sl), Fr u7 ∧ FrT u8 ∧ Fr u9 ∧ Fr u10 ∧ (∀ c ∈ cs, GoodC n c) ∧ cs.length ≤ i ∧ ρ = E16 (.ow (.sh (scr ns))) (.ow (.sh (.int 1))) X2 X3 SH n (cs.map shR) u7 u8 u9 u10)
    ((List.range m).map fun i => .int (i : Nat)) (E16 (.ow (.sh (scr ns))) (.ow (.sh (.int 1))) X2 X3 SH n [] .no .no .no .no) ⟨[], .no, .no, .no, .no, .inl rfl, .inl rfl, .inl rfl, .inl rfl, fun c h => absurd h (by simp), Nat.le_refl _, rfl⟩
    (fun i d ρ e hI => by
      obtain ⟨cs, u7, u8, u9, u10, h7, h8, h9, h10, hg, hl, rfl⟩ := hI
      obtain ⟨i', e1, rfl⟩ := by rw [List.getElem?_map] at e; exact Option.map_eq_some_iff.mp e
      obtain ⟨hi, e1⟩ := List.getElem?_eq_some_iff.mp e1
      rw [List.getElem_range] at e1
      subst e1
      rw [List.length_range] at hi
      obtain ⟨xs, hw, p0⟩ := f_p0 k ns X2 X3 SH n (cs.map shR) i u8 u9 u10 h8
      obtain ⟨c, hc, p1⟩ := f_p1 k ns X2 X3 SH n (cs.map shR) i hn (.ow (.lst (xs.map iT))) u9 u10 h9
      have hx : xs.length = 3 := hw.1
      have i0 := idx_ow xs 0 (by omega)
      have i1 := idx_ow xs 1 (by omega)
      have i2 := idx_ow xs 2 (by omega)
      obtain ⟨c', u', hc', hu', p6⟩ := f_branch k (.ow (.sh (scr ns))) (.ow (.sh (.int 1))) X2 X3 SH n (.ow (.sh (.int i))) (xs.map iT) cs c u10 _ _ _ h10 ⟨by omega, by omega⟩ hg hc i0 i1 i2
      have p7 := f_p7 (k + 2) X2 X3 SH n cs c' (by omega) (.ow (.sh (scr ns))) (.ow (.sh (.int 1))) (.ow (.sh (.int i))) (.ow (.lst (xs.map iT))) u'
      refine ⟨E16 (.ow (.sh (scr ns))) (.ow (.sh (.int 1))) X2 X3 SH n (cs.map shR) (.ow (.sh (.int i))) u8 u9 u10, _, ?_, ?_, cs ++ [c'], .ow (.sh (.int i)), .ow (.lst (xs.map iT)), .ow (.sh (rD c')), u', .ow _, .inr ⟨_, rfl⟩, .ow _, hu', ?_, ?_, rfl⟩
      · rcases h7 with rfl | ⟨x, rfl⟩ <;> rfl
      · show evSs (P (k + 2)) [] p16_8 _ = _
        unfold p16_8
        rw [ss_next p0, ss_next p1, ss_next p6, ss_end, p7]
      · intro x hx
        rcases List.mem_append.mp hx with hx | hx
        · exact hg x hx
        · have : x = c' := by simpa using hx
          subst this; exact hc'
      · simp only [List.length_append, List.length_cons, List.length_nil]; omega)
  rw [List.length_map, List.length_range] at hl
  exact ⟨cs, u7, u8, u9, u10, hg, hl, hf⟩
end
theorem f_e0 (k : Nat) (ns : List Int) (c : Int) (xs : List OT) (hc : evE (P k) [] (.call 11 (.val (.v 0) (.val (.v 1) .nil))) [.ow (.sh (scr ns)), .ow (.sh (.int 1)), .ow (.sh (.int 5)), .ow (.sh (.int 6)), .no, .no, .no, .no, .no, .no, .no, .no] = .ok (.sh (.int c), [.ow (.sh (scr ns)), .ow (.sh (.int 1)), .ow (.sh (.int 5)), .ow (.sh (.int 6)), .no, .no, .no, .no, .no, .no, .no, .no]))
    (hd : P k 12 [.sh (.int c), .sh (.lst ([5, 7, 9].map D.int))] = .ok (.lst xs, [.sh (.int c), .sh (.lst ([5, 7, 9].map D.int))])) :
    evS (P k) [] q16_0 [.ow (.sh (scr ns)), .ow (.sh (.int 1)), .ow (.sh (.int 5)), .ow (.sh (.int 6)), .no, .no, .no, .no, .no, .no, .no, .no] = .ok (.nx, [.ow (.sh (scr ns)), .ow (.sh (.int 1)), .ow (.sh (.int 5)), .ow (.sh (.int 6)), .ow (.lst xs), .no, .no, .no, .no, .no, .no, .no]) := by
  have l3 : evE (P k) [] (.lst (.cons (.v 2) (.cons (.op (.bin .add) (.cons (.bor 3 []) (.cons (.e (.c (.int 1))) .nil))) (.cons (.c (.int 9)) .nil)))) [.ow (.sh (scr ns)), .ow (.sh (.int 1)), .ow (.sh (.int 5)), .ow (.sh (.int 6)), .no, .no, .no, .no, .no, .no, .no, .no] = .ok (.lst [.sh (.int 5), .sh (.int 7), .sh (.int 9)], [.ow (.sh (scr ns)), .ow (.sh (.int 1)), .ow (.sh (.int 5)), .ow (.sh (.int 6)), .no, .no, .no, .no, .no, .no, .no, .no]) := by
    generalize scr ns = S
    have hb : 3 ≤ big := by decide
    simp [D.tyName, ev_isi_t, isTy, fillA, backA, goneA, cm_le_ii, cm_lt_ii, getV, Fn.run, Fn.run0, evSs, evS, evT, evAll, evAny, evO, evE, evOs, evEs, evAs, evB, evAnd, evOr, CH.R.bind, R.ofO, CH.Env.tree, CH.Env.own, CH.Env.ownL, OT.getP, lock, unlock, outs, tru_b, ev_eq_ii, ev_ne_ii, ev_lt_ii, ev_le_ii, ev_gt_ii, ev_ge_ii, ev_add_ii, ev_sub_ii, ev_neg_i, ev_int_i, ev_abs_i, ev_len_l, ev_len_t, ev_len_f, ev_idx, mulOk_r, ev_mul_ii, OT.toD, hb]
  have c2 := call2 hc rfl l3 (show _ = D.lst ([5, 7, 9].map .int) from rfl) hd rfl
  unfold q16_0
  rw [evS_set (u := .sh .non) c2 (.inl rfl) rfl]
  rfl
theorem f_e1 (k : Nat) (S X1 X2 X3 : Sl) (XS : List OT) (s0 s2 : Int) (h0 : 0 ≤ s0 ∧ s0 < 5) (i0 : idxEv (.lst XS) 0 = some (.sh (.int s0))) (i2 : idxEv (.lst XS) 2 = some (.sh (.int s2))) :
    ∃ n : Nat, n < 6 ∧ evS (P k) [] q16_1 [S, X1, X2, X3, .ow (.lst XS), .no, .no, .no, .no, .no, .no, .no] = .ok (.nx, [S, X1, X2, X3, .ow (.lst XS), .ow (.sh (.int n)), .no, .no, .no, .no, .no, .no]) := by
  have hb : 2 ≤ big := by decide
  have w : ∀ a : Int, idxEv (.lst [.sh (.int a), .sh (.int 0)]) 0 = some (.sh (.int a)) ∧ idxEv (.lst [.sh (.int a), .sh (.int 0)]) 1 = some (.sh (.int 0)) := fun a => ⟨rfl, rfl⟩
  obtain ⟨w0, w1⟩ := w (s0 + 1)
  by_cases h : s2 = 0 ∧ s0 = 0
  · refine ⟨0, by omega, ?_⟩
    obtain ⟨rfl, rfl⟩ := h
    simp [q16_1, D.tyName, ev_isi_t, isTy, fillA, backA, goneA, cm_le_ii, cm_lt_ii, getV, Fn.run, Fn.run0, evSs, evS, evT, evAll, evAny, evO, evE, evOs, evEs, evAs, evB, evAnd, evOr, CH.R.bind, R.ofO, CH.Env.tree, CH.Env.own, CH.Env.ownL, OT.getP, lock, unlock, outs, tru_b, ev_eq_ii, ev_ne_ii, ev_lt_ii, ev_le_ii, ev_gt_ii, ev_ge_ii, ev_add_ii, ev_sub_ii, ev_neg_i, ev_int_i, ev_abs_i, ev_len_l, ev_len_t, ev_len_f, ev_idx, mulOk_r, ev_mul_ii, OT.toD, i0, i2, hb, ev_int_t, ev_int_f]
    rfl
  · obtain ⟨n, hn⟩ : ∃ n : Nat, s0 + 1 = (n : Int) := ⟨(s0 + 1).toNat, by omega⟩
    refine ⟨n, by omega, ?_⟩
    rw [← hn]
    by_cases h2 : s2 = 0
    · have h3 : s0 ≠ 0 := fun e => h ⟨h2, e⟩
      subst h2
      simp [q16_1, D.tyName, ev_isi_t, isTy, fillA, backA, goneA, cm_le_ii, cm_lt_ii, getV, Fn.run, Fn.run0, evSs, evS, evT, evAll, evAny, evO, evE, evOs, evEs, evAs, evB, evAnd, evOr, CH.R.bind, R.ofO, CH.Env.tree, CH.Env.own, CH.Env.ownL, OT.getP, lock, unlock, outs, tru_b, ev_eq_ii, ev_ne_ii, ev_lt_ii, ev_le_ii, ev_gt_ii, ev_ge_ii, ev_add_ii, ev_sub_ii, ev_neg_i, ev_int_i, ev_abs_i, ev_len_l, ev_len_t, ev_len_f, ev_idx, mulOk_r, ev_mul_ii, OT.toD, i0, i2, hb, ev_int_t, ev_int_f, h3, w0]
    · simp [q16_1, D.tyName, ev_isi_t, isTy, fillA, backA, goneA, cm_le_ii, cm_lt_ii, getV, Fn.run, Fn.run0, evSs, evS, evT, evAll, evAny, evO, evE, evOs, evEs, evAs, evB, evAnd, evOr, CH.R.bind, R.ofO, CH.Env.tree, CH.Env.own, CH.Env.ownL, OT.getP, lock, unlock, outs, tru_b, ev_eq_ii, ev_ne_ii, ev_lt_ii, ev_le_ii, ev_gt_ii, ev_ge_ii, ev_add_ii, ev_sub_ii, ev_neg_i, ev_int_i, ev_abs_i, ev_len_l, ev_len_t, ev_len_f, ev_idx, mulOk_r, ev_mul_ii, OT.toD, i0, i2, hb, ev_int_t, ev_int_f, h2, w0]
end K75
end
section
namespace K75
open PySem L2 Evl PyProof.Rows CH
theorem f_e3 (k : Nat) (S X1 X2 X3 N : Sl) (XS : List OT) (m : Nat) (hm : m < 1000) (i1 : idxEv (.lst XS) 1 = some (.sh (.int m))) (ρ2 : CH.Env)
    (lp : forL (fun ρ => evSs (P k) [] p16_8 ρ) [] (.one 7) ((List.range m).map fun i => .int (i : Nat)) [S, X1, X2, X3, .ow (.lst XS), N, .ow (.lst []), .no, .no, .no, .no, .no] = .ok (.nx, ρ2)) :
    evS (P k) [] q16_3 [S, X1, X2, X3, .ow (.lst XS), N, .ow (.lst []), .no, .no, .no, .no, .no] = .ok (.nx, ρ2) := by
  have e : evE (P k) [] (.op .idx (.cons (.bor 4 []) (.cons (.e (.c (.int 1))) .nil))) [S, X1, X2, X3, .ow (.lst XS), N, .ow (.lst []), .no, .no, .no, .no, .no] = .ok (.sh (.int m), [S, X1, X2, X3, .ow (.lst XS), N, .ow (.lst []), .no, .no, .no, .no, .no]) := by
    generalize (m : Int) = mm at i1 ⊢
    simp [D.tyName, ev_isi_t, isTy, fillA, backA, goneA, cm_le_ii, cm_lt_ii, getV, Fn.run, Fn.run0, evSs, evS, evT, evAll, evAny, evO, evE, evOs, evEs, evAs, evB, evAnd, evOr, CH.R.bind, R.ofO, CH.Env.tree, CH.Env.own, CH.Env.ownL, OT.getP, lock, unlock, outs, tru_b, ev_eq_ii, ev_ne_ii, ev_lt_ii, ev_le_ii, ev_gt_ii, ev_ge_ii, ev_add_ii, ev_sub_ii, ev_neg_i, ev_int_i, ev_abs_i, ev_len_l, ev_len_t, ev_len_f, ev_idx, mulOk_r, ev_mul_ii, OT.toD, i1]
  have hI := range1_val e (by omega)
  rw [Int.toNat_natCast] at hI
  unfold q16_3
  rw [evS, hI]
  simp only [CH.R.bind]
  rw [lp]
  rfl
theorem formula_draw (k : Nat) (ns : List Int) : ∃ (n : Nat) (cs : List (List Int)), n < 6 ∧ cs.length ≤ 6 ∧ (∀ c ∈ cs, GoodC n c) ∧
    P (k + 3) 16 [.sh (scr ns), .sh (.int 1), .sh (.int 5), .sh (.int 6)] = .ok (.sh (.tup [.int n, .lst (cs.map rD)]), [.sh (scr ns), .sh (.int 1), .sh (.int 5), .sh (.int 6)]) := by
  rw [step (k + 2) 16 _ f16 t16]
  obtain ⟨c, hc⟩ := cell_at (k + 1) ns (.v 1) [.ow (.sh (scr ns)), .ow (.sh (.int 1)), .ow (.sh (.int 5)), .ow (.sh (.int 6)), .no, .no, .no, .no, .no, .no, .no, .no] 1 rfl rfl
  obtain ⟨xs, hw, hd⟩ := draws_eq (k + 1) c [5, 7, 9] (by decide) (by decide)
  have hx : xs.length = 3 := hw.1
  have w0 := hw.2 0 (by decide)
  have w1 := hw.2 1 (by decide)
  have i0 := idx_ow xs 0 (by omega)
  have i1 := idx_ow xs 1 (by omega)
  have i2 := idx_ow xs 2 (by omega)
  have w0 : 0 ≤ xs.getD 0 0 ∧ xs.getD 0 0 < 5 := w0
  have w1 : 0 ≤ xs.getD 1 0 ∧ xs.getD 1 0 < 7 := w1
  have e0 := f_e0 (k + 2) ns c _ hc hd
  obtain ⟨n, hn, e1⟩ := f_e1 (k + 2) (.ow (.sh (scr ns))) (.ow (.sh (.int 1))) (.ow (.sh (.int 5))) (.ow (.sh (.int 6))) (xs.map iT) _ _ w0 i0 i2
  obtain ⟨m, hm⟩ : ∃ m : Nat, xs.getD 1 0 = (m : Int) := ⟨(xs.getD 1 0).toNat, by omega⟩
  rw [hm] at i1 w1
  obtain ⟨cs, u7, u8, u9, u10, hg, hl, lp⟩ := f_loop k ns (.ow (.sh (.int 5))) (.ow (.sh (.int 6))) (.ow (.lst (xs.map iT))) n (by omega) m (by omega)
  have e3 := f_e3 (k + 2) (.ow (.sh (scr ns))) (.ow (.sh (.int 1))) (.ow (.sh (.int 5))) (.ow (.sh (.int 6))) (.ow (.sh (.int n))) (xs.map iT) m (by omega) i1 _ lp
  refine ⟨n, cs, hn, by omega, hg, ?_⟩
  have td : OT.toD (.lst (cs.map shR)) = .lst (cs.map rD) := RS.toD (.inl rfl)
  refine run_rt (ρ := (E16 (.ow (.sh (scr ns))) (.ow (.sh (.int 1))) (.ow (.sh (.int 5))) (.ow (.sh (.int 6))) (.ow (.lst (xs.map iT))) n (cs.map shR) u7 u8 u9 u10).set 6 (.ow (.sh (.lst (cs.map rD))))) rfl ?_ rfl
  show evSs (P (k + 2)) [] b16 [.ow (.sh (scr ns)), .ow (.sh (.int 1)), .ow (.sh (.int 5)), .ow (.sh (.int 6)), .no, .no, .no, .no, .no, .no, .no, .no] = _
  unfold b16
  rw [ss_next e0, ss_next e1]
  rw [ss_next (ρ1 := [.ow (.sh (scr ns)), .ow (.sh (.int 1)), .ow (.sh (.int 5)), .ow (.sh (.int 6)), .ow (.lst (xs.map iT)), .ow (.sh (.int n)), .ow (.lst []), .no, .no, .no, .no, .no]) (by rfl)]
  rw [ss_next e3]
  refine ss_stop (evE_ret ?_)
  have m6 : evE (P (k + 2)) [] (.mv 6) (E16 (.ow (.sh (scr ns))) (.ow (.sh (.int 1))) (.ow (.sh (.int 5))) (.ow (.sh (.int 6))) (.ow (.lst (xs.map iT))) n (cs.map shR) u7 u8 u9 u10) = .ok (.sh (.lst (cs.map rD)), (E16 (.ow (.sh (scr ns))) (.ow (.sh (.int 1))) (.ow (.sh (.int 5))) (.ow (.sh (.int 6))) (.ow (.lst (xs.map iT))) n (cs.map shR) u7 u8 u9 u10).set 6 (.ow (.sh (.lst (cs.map rD))))) := by
    rw [← td]
    rfl
  have m5 : evE (P (k + 2)) [] (.mv 5) (E16 (.ow (.sh (scr ns))) (.ow (.sh (.int 1))) (.ow (.sh (.int 5))) (.ow (.sh (.int 6))) (.ow (.lst (xs.map iT))) n (cs.map shR) u7 u8 u9 u10) = .ok (.sh (.int n), E16 (.ow (.sh (scr ns))) (.ow (.sh (.int 1))) (.ow (.sh (.int 5))) (.ow (.sh (.int 6))) (.ow (.lst (xs.map iT))) n (cs.map shR) u7 u8 u9 u10) := rfl
  rw [evE, evEs, m5]
  simp only [CH.R.bind]
  rw [evEs, m6]
  simp only [CH.R.bind, evEs]
  rw [if_pos (show [OT.sh (.int n), OT.sh (.lst (cs.map rD))].length ≤ big from (by decide : 2 ≤ big))]
  rfl
theorem apX_ev {Φ : Phi} {pl : List Nat} {i : Nat} {ix e : CH.CE} {ρ : CH.Env} {ts us : List OT} {j : Int} {k : Nat} {d : D} (ho : ρ.ownL i = some ts) (hix : evE Φ pl ix (lock ρ i) = .ok (.sh (.int j), lock ρ i)) (hk : atL ts j = some (k, us)) (he : evE Φ pl e (lock ρ i) = .ok (.sh d, lock ρ i)) (hl : us.length < big) :
    evE Φ pl (.apX i ix e) ρ = .ok (.sh .non, (lock ρ i).set i (.ow (.lst (ts.set k (.lst (us ++ [.sh d])))))) := by
  rw [evE, ho]
  simp only
  unfold apR
  simp only [hix, hk, he]
  rw [if_pos hl]
abbrev gT (g : List Int) : OT := .lst (g.map iT)
def gD (g : List Int) : D := .lst (g.map .int)
theorem set_perm : ∀ (gs : List (List Int)) (j : Nat) (v : Int), j < gs.length → (gs.set j (gs.getD j [] ++ [v])).flatten.Perm (gs.flatten ++ [v])
  | [], j, v, h => absurd h (by simp)
  | g :: gs, 0, v, _ => by
    show (g ++ [v] ++ gs.flatten).Perm (g ++ gs.flatten ++ [v])
    rw [List.append_assoc, List.append_assoc]
    exact List.Perm.append_left g List.perm_append_comm
  | g :: gs, j + 1, v, h => by
    show (g ++ (gs.set j (gs.getD j [] ++ [v])).flatten).Perm (g ++ gs.flatten ++ [v])
    rw [List.append_assoc]
    exact List.Perm.append_left g (set_perm gs j v (by simpa using h))
def GsOk (i : Nat) (gs : List (List Int)) : Prop := gs.length = 4 ∧ gs.flatten.Perm (up i) ∧ ∀ g ∈ gs, g.Pairwise (· < ·)
theorem up_mem {n x : Int} (h : x ∈ up n) : 1 ≤ x ∧ x ≤ n := by
  unfold up at h
  obtain ⟨j, hj, rfl⟩ := List.mem_map.mp h
  have := List.mem_range.mp hj
  omega
theorem up_succ (i : Nat) : up ((i + 1 : Nat) : Int) = up i ++ [1 + (i : Int)] := by
  unfold up
  rw [Int.toNat_natCast, Int.toNat_natCast, List.range_succ, List.map_append]
  rfl
theorem gs_step {i j : Nat} {gs : List (List Int)} (h : GsOk i gs) (hj : j < 4) : GsOk (i + 1) (gs.set j (gs.getD j [] ++ [1 + (i : Int)])) := by
  obtain ⟨h1, h2, h3⟩ := h
  refine ⟨by rw [List.length_set]; exact h1, ?_, fun g hg => ?_⟩
  · rw [up_succ]
    exact (set_perm gs j _ (by omega)).trans (List.Perm.append_right _ h2)
  · rcases List.mem_or_eq_of_mem_set hg with hg | rfl
    · exact h3 g hg
    · have hm : gs.getD j [] ∈ gs := by
        rw [List.getD_eq_getElem?_getD, List.getElem?_eq_getElem (by omega)]
        exact List.getElem_mem _
      refine List.pairwise_append.mpr ⟨h3 _ hm, by simp, fun a ha b hb => ?_⟩
      have : b = 1 + (i : Int) := by simpa using hb
      subst this
      have := up_mem (h2.mem_iff.mp (List.mem_flatten.mpr ⟨_, hm, ha⟩))
      omega
theorem atL_gs {gs : List (List Int)} (h : gs.length = 4) {j : Int} (h0 : 0 ≤ j) (h1 : j < 4) : atL (gs.map gT) j = some (j.toNat, (gs.getD j.toNat []).map iT) := by
  unfold atL
  have e : ixN (gs.map gT).length j = some j.toNat := by
    unfold ixN
    rw [if_pos h0, List.length_map, h, if_pos (show j < ((4 : Nat) : Int) by omega)]
  rw [e]
  show (match (gs.map gT)[j.toNat]? with
    | some (.lst us) => some (j.toNat, us)
    | _ => none) = _
  rw [List.getElem?_map, List.getElem?_eq_getElem (by omega), List.getD_eq_getElem?_getD, List.getElem?_eq_getElem (by omega)]
  rfl
theorem mem_len : ∀ {gs : List (List Int)} {g : List Int}, g ∈ gs → g.length ≤ gs.flatten.length
  | h :: gs, g, hm => by
    rw [List.flatten_cons, List.length_append]
    rcases List.mem_cons.mp hm with rfl | hm
    · omega
    · have := mem_len hm; omega
abbrev E18 (c n : Int) (XS : List OT) (G u4 u5 u6 : Sl) : CH.Env := [.ow (.sh (.int c)), .ow (.sh (.int n)), .ow (.lst XS), G, u4, u5, u6]
theorem g_turn (k : Nat) (c n : Int) (XS : List OT) (gs : List (List Int)) (i : Nat) (a b : Int) (hg : GsOk i gs) (hi : i < 100) (ia : idxEv (.lst XS) (1 + (i : Int) - 1) = some (.sh (.int a))) (ib : idxEv (.lst XS) (n + 4) = some (.sh (.int b))) :
    ∃ gs', GsOk (i + 1) gs' ∧ evSs (P k) [] p18_0 (E18 c n XS (.ow (.lst (gs.map gT))) (.ow (.sh (.int (1 + (i : Int))))) .no .no) = .ok (.nx, E18 c n XS (.ow (.lst (gs'.map gT))) (.ow (.sh (.int (1 + (i : Int))))) .no .no) := by
  have hj0 := Int.emod_nonneg (a + b) (show (4 : Int) ≠ 0 by omega)
  have hj1 := Int.emod_lt_of_pos (a + b) (show (0 : Int) < 4 by omega)
  refine ⟨_, gs_step hg (j := ((a + b) % 4).toNat) (by omega), ?_⟩
  have at_ := atL_gs hg.1 hj0 hj1
  have hlen : ((gs.getD ((a + b) % 4).toNat []).map iT).length < big := by
    have hm : gs.getD ((a + b) % 4).toNat [] ∈ gs := by
      rw [List.getD_eq_getElem?_getD, List.getElem?_eq_getElem (by have := hg.1; omega)]
      exact List.getElem_mem _
    have h1 : (gs.getD ((a + b) % 4).toNat []).length ≤ gs.flatten.length := mem_len hm
    have h2 := hg.2.1.length_eq
    have h3 : (up i).length = i := by unfold up; simp
    rw [List.length_map]
    unfold big
    omega
  have m1 := ev_mod_ii (a + b) 4 (by decide)
  generalize hv : 1 + (i : Int) = v at ia ⊢
  have e : evE (P k) [] (.apX 3 (.op (.bin .mod) (.cons (.e (.op (.bi .int) (.cons (.e (.op (.bin .add) (.cons (.e (.op .idx (.cons (.bor 2 []) (.cons (.e (.op (.bin .sub) (.cons (.bor 4 []) (.cons (.e (.c (.int 1))) .nil)))) .nil)))) (.cons (.e (.op .idx (.cons (.bor 2 []) (.cons (.e (.op (.bin .add) (.cons (.bor 1 []) (.cons (.e (.c (.int 4))) .nil)))) .nil)))) .nil)))) .nil))) (.cons (.e (.c (.int 4))) .nil))) (.v 4)) (E18 c n XS (.ow (.lst (gs.map gT))) (.ow (.sh (.int v))) .no .no) = _ :=
    apX_ev (ts := gs.map gT) rfl (j := (a + b) % 4) (by
      show evE (P k) [] _ [.ow (.sh (.int c)), .ow (.sh (.int n)), .ow (.lst XS), .lk (.lst (gs.map gT)), .ow (.sh (.int v)), .no, .no] = _
      generalize gs.map gT = GT
      show _ = R.ok (_, [Sl.ow (.sh (.int c)), .ow (.sh (.int n)), .ow (.lst XS), .lk (.lst GT), .ow (.sh (.int v)), .no, .no])
      simp [D.tyName, ev_isi_t, isTy, fillA, backA, goneA, cm_le_ii, cm_lt_ii, getV, Fn.run, Fn.run0, evSs, evS, evT, evAll, evAny, evO, evE, evOs, evEs, evAs, evB, evAnd, evOr, CH.R.bind, R.ofO, CH.Env.tree, CH.Env.own, CH.Env.ownL, OT.getP, lock, unlock, outs, tru_b, ev_eq_ii, ev_ne_ii, ev_lt_ii, ev_le_ii, ev_gt_ii, ev_ge_ii, ev_add_ii, ev_sub_ii, ev_neg_i, ev_int_i, ev_abs_i, ev_len_l, ev_len_t, ev_len_f, ev_idx, mulOk_r, ev_mul_ii, OT.toD, ia, ib, m1]) at_ (d := .int v) rfl hlen
  unfold p18_0
  rw [ss_end, evS, e]
  have e2 : (gs.set ((a + b) % 4).toNat (gs.getD ((a + b) % 4).toNat [] ++ [v])).map gT = (gs.map gT).set ((a + b) % 4).toNat (.lst ((gs.getD ((a + b) % 4).toNat []).map iT ++ [.sh (.int v)])) := by
    rw [List.map_set]
    show _ = _
    congr 1
    show OT.lst ((gs.getD ((a + b) % 4).toNat [] ++ [v]).map iT) = _
    rw [List.map_append]
    rfl
  rw [e2]
  rfl
end K75
end
section
namespace K75
open PySem L2 Evl PyProof.Rows CH
theorem g_loop (k : Nat) (c : Int) (n : Nat) (hn : n < 50) (xs : List Int) (hx : xs.length = n + 5) : ∃ gs u, GsOk n gs ∧ forL (fun ρ => evSs (P k) [] p18_0 ρ) [] (.one 4) ((List.range n).map fun j => .int (1 + (j : Nat))) (E18 c n (xs.map iT) (.ow (.lst [.lst [], .lst [], .lst [], .lst []])) .no .no .no) = .ok (.nx, E18 c n (xs.map iT) (.ow (.lst (gs.map gT))) u .no .no) := by
  obtain ⟨ρ', hf, gs, u, _, hg, rfl⟩ := forL_inv (body := fun ρ => evSs (P k) [] p18_0 ρ) (pl := []) (tg := .one 4) (I := fun i ρ => ∃ (gs : List (List Int)) (u : Sl), Fr u ∧ GsOk i gs ∧ ρ = E18 c n (xs.map iT) (.ow (.lst (gs.map gT))) u .no .no)
    ((List.range n).map fun j => .int (1 + (j : Nat))) (E18 c n (xs.map iT) (.ow (.lst [.lst [], .lst [], .lst [], .lst []])) .no .no .no) ⟨[[], [], [], []], .no, .inl rfl, ⟨rfl, by simp [up], by simp⟩, rfl⟩
    (fun i d ρ e hI => by
      obtain ⟨gs, u, hu, hg, rfl⟩ := hI
      obtain ⟨i', e1, rfl⟩ := by rw [List.getElem?_map] at e; exact Option.map_eq_some_iff.mp e
      obtain ⟨hi, e1⟩ := List.getElem?_eq_some_iff.mp e1
      rw [List.getElem_range] at e1
      subst e1
      rw [List.length_range] at hi
      have ia := idx_ow xs i (by omega)
      rw [show (i : Int) = 1 + (i : Int) - 1 by omega] at ia
      have ib := idx_ow xs (n + 4) (by omega)
      rw [show ((n + 4 : Nat) : Int) = (n : Int) + 4 by omega] at ib
      obtain ⟨gs', hg', hb⟩ := g_turn k c n (xs.map iT) gs i _ _ hg (by omega) ia ib
      refine ⟨E18 c n (xs.map iT) (.ow (.lst (gs.map gT))) (.ow (.sh (.int (1 + (i : Int))))) .no .no, _, ?_, hb, gs', _, .ow _, hg', rfl⟩
      rcases hu with rfl | ⟨x, rfl⟩ <;> rfl)
  rw [List.length_map, List.length_range] at hg
  exact ⟨gs, u, hg, hf⟩
theorem toD_gs : ∀ gs : List (List Int), toDs (gs.map gT) = gs.map gD
  | [] => rfl
  | g :: gs => by
    show OT.toD (gT g) :: toDs (gs.map gT) = gD g :: gs.map gD
    rw [toD_gs gs]
    have : OT.toD (gT g) = gD g := by
      show D.lst (toDs (g.map iT)) = _
      rw [toDs_map g D.int]
      rfl
    rw [this]
theorem ne_gnil (g : List Int) : Op.ev (.cmp .ne) [.sh (gD g), .lst []] = some (.sh (.bl (!g.isEmpty))) := by
  show ((eqD (.lst (g.map .int)) (.lst [])).map (! ·)).map _ = _
  rw [eqD_ok (n := 2) (by show oks 1 _ = true; exact oks_ints 1 g) rfl (by decide), eq1_lst (oks_ints 1 g) rfl]
  cases g <;> rfl
theorem idx_gs {gs : List (List Int)} {j : Nat} (h : j < gs.length) : idxEv (.sh (.lst (gs.map gD))) (j : Int) = some (.sh (gD (gs.getD j []))) := by
  show (atI (gs.map gD) (j : Int)).map OT.sh = _
  rw [atI_nat (v := gD (gs.getD j [])) (by rw [List.getElem?_map, List.getElem?_eq_getElem h, List.getD_eq_getElem?_getD, List.getElem?_eq_getElem h]; rfl)]
  rfl
abbrev grpT (g : Str × List Int) : OT := .sh (grpD g)
theorem ap_g (ps : List (Str × List Int)) (g : Str × List Int) (h : ps.length < 1000000) : muEv .append (ps.map grpT) [.sh (grpD g)] = some (.sh .non, (ps ++ [g]).map grpT) := by
  show guard_ (decide ((ps.map grpT).length < big)) _ = _
  rw [decide_eq_true (by rw [List.length_map]; simp only [big]; omega)]
  simp [guard_]
theorem h_turn (k : Nat) (c n : Int) (XS : List OT) (gs : D) (g : List Int) (ps : List (Str × List Int)) (i w : Int) (u4 : Sl) (hps : ps.length < 1000) (hw : w = 0 ∨ w = 1) (ig : idxEv (.sh gs) i = some (.sh (gD g))) (iw : idxEv (.lst XS) (n + i) = some (.sh (.int w))) (hg : g.Pairwise (· < ·)) :
    ∃ ps', ((g = [] ∧ ps' = ps) ∨ ∃ x, GoodG x ∧ x.2 = g ∧ ps' = ps ++ [x]) ∧ evSs (P k) [] p18_1 (E18 c n XS (.ow (.sh gs)) u4 (.ow (.lst (ps.map grpT))) (.ow (.sh (.int i)))) = .ok (.nx, E18 c n XS (.ow (.sh gs)) u4 (.ow (.lst (ps'.map grpT))) (.ow (.sh (.int i)))) := by
  have ne := ne_gnil g
  have hb0 : 0 ≤ big := by decide
  have hb2 : 2 ≤ big := by decide
  have tt : evT (P k) [] (.val (.e (.op (.cmp .ne) (.cons (.e (.op .idx (.cons (.bor 3 []) (.cons (.bor 6 []) .nil)))) (.cons (.e (.lst .nil)) .nil))))) (E18 c n XS (.ow (.sh gs)) u4 (.ow (.lst (ps.map grpT))) (.ow (.sh (.int i)))) = .ok (!g.isEmpty, E18 c n XS (.ow (.sh gs)) u4 (.ow (.lst (ps.map grpT))) (.ow (.sh (.int i)))) := by
    unfold E18
    generalize ps.map grpT = PT
    generalize gD g = GG at ig ne
    generalize (!g.isEmpty) = b at ne ⊢
    simp [D.tyName, ev_isi_t, isTy, fillA, backA, goneA, cm_le_ii, cm_lt_ii, getV, Fn.run, Fn.run0, evSs, evS, evT, evAll, evAny, evO, evE, evOs, evEs, evAs, evB, evAnd, evOr, CH.R.bind, R.ofO, CH.Env.tree, CH.Env.own, CH.Env.ownL, OT.getP, lock, unlock, outs, tru_b, ev_eq_ii, ev_ne_ii, ev_lt_ii, ev_le_ii, ev_gt_ii, ev_ge_ii, ev_add_ii, ev_sub_ii, ev_neg_i, ev_int_i, ev_abs_i, ev_len_l, ev_len_t, ev_len_f, ev_idx, mulOk_r, ev_mul_ii, OT.toD, ig, ne, hb0]
  unfold p18_1
  rw [ss_end]
  by_cases he : g = []
  · subst he
    refine ⟨ps, .inl ⟨rfl, rfl⟩, ?_⟩
    rw [ife_f (tt.trans rfl)]
    rfl
  · have hne : (!g.isEmpty) = true := by cases g <;> first | exact absurd rfl he | rfl
    rw [hne] at tt
    have wd : ∃ x : Str, (x = "each" ∨ x = "some") ∧ idxEv (.lst [.sh (.str "each"), .sh (.str "some")]) w = some (.sh (.str x)) := by
      rcases hw with rfl | rfl
      · exact ⟨"each", .inl rfl, rfl⟩
      · exact ⟨"some", .inr rfl, rfl⟩
    obtain ⟨x, hx, wd⟩ := wd
    refine ⟨ps ++ [(x, g)], .inr ⟨(x, g), ⟨hx, he, hg⟩, rfl, rfl⟩, ?_⟩
    have ap := ap_g ps (x, g) (by omega)
    have tp : Op.ev (.bi .tuple) [.sh (gD g)] = some (.sh (rD g)) := rfl
    rw [ife_t tt, ss_end]
    have e1 : evE (P k) [] (.tup (.cons (.op .idx (.cons (.e (.lst (.cons (.c (.str "each")) (.cons (.c (.str "some")) .nil)))) (.cons (.e (.op .idx (.cons (.bor 2 []) (.cons (.e (.op (.bin .add) (.cons (.bor 1 []) (.cons (.bor 6 []) .nil)))) .nil)))) .nil))) (.cons (.op (.bi .tuple) (.cons (.e (.op .idx (.cons (.bor 3 []) (.cons (.bor 6 []) .nil)))) .nil)) .nil))) (E18 c n XS (.ow (.sh gs)) u4 (.ow (.lst (ps.map grpT))) (.ow (.sh (.int i)))) = .ok (.sh (grpD (x, g)), E18 c n XS (.ow (.sh gs)) u4 (.ow (.lst (ps.map grpT))) (.ow (.sh (.int i)))) := by
      unfold E18
      generalize ps.map grpT = PT
      have : grpD (x, g) = .tup [.str x, rD g] := rfl
      rw [this]
      generalize rD g = RG at tp ⊢
      generalize gD g = GG at ig tp
      simp [D.tyName, ev_isi_t, isTy, fillA, backA, goneA, cm_le_ii, cm_lt_ii, getV, Fn.run, Fn.run0, evSs, evS, evT, evAll, evAny, evO, evE, evOs, evEs, evAs, evB, evAnd, evOr, CH.R.bind, R.ofO, CH.Env.tree, CH.Env.own, CH.Env.ownL, OT.getP, lock, unlock, outs, tru_b, ev_eq_ii, ev_ne_ii, ev_lt_ii, ev_le_ii, ev_gt_ii, ev_ge_ii, ev_add_ii, ev_sub_ii, ev_neg_i, ev_int_i, ev_abs_i, ev_len_l, ev_len_t, ev_len_f, ev_idx, mulOk_r, ev_mul_ii, OT.toD, ig, iw, wd, tp, hb2, toDs]
    have e2 : evEs (P k) [] (.cons (.tup (.cons (.op .idx (.cons (.e (.lst (.cons (.c (.str "each")) (.cons (.c (.str "some")) .nil)))) (.cons (.e (.op .idx (.cons (.bor 2 []) (.cons (.e (.op (.bin .add) (.cons (.bor 1 []) (.cons (.bor 6 []) .nil)))) .nil)))) .nil))) (.cons (.op (.bi .tuple) (.cons (.e (.op .idx (.cons (.bor 3 []) (.cons (.bor 6 []) .nil)))) .nil)) .nil))) .nil) (E18 c n XS (.ow (.sh gs)) u4 (.ow (.lst (ps.map grpT))) (.ow (.sh (.int i)))) = .ok ([.sh (grpD (x, g))], E18 c n XS (.ow (.sh gs)) u4 (.ow (.lst (ps.map grpT))) (.ow (.sh (.int i)))) := by
      rw [evEs, e1]
      rfl
    have o : CH.Env.ownL (E18 c n XS (.ow (.sh gs)) u4 (.ow (.lst (ps.map grpT))) (.ow (.sh (.int i)))) 5 = some (ps.map grpT) := rfl
    rw [evS, evE, o]
    simp only [e2, CH.R.bind, o, ap]
    rfl
theorem h_loop (k : Nat) (c : Int) (n : Nat) (xs : List Int) (gs : List (List Int)) (u4 : Sl) (hn : n < 50) (hx : xs.length = n + 5) (hw : ∀ j, j < 4 → xs.getD (n + j) 0 = 0 ∨ xs.getD (n + j) 0 = 1) (hg : GsOk n gs) :
    ∃ (ps : List (Str × List Int)) (u6 : Sl), (∀ g ∈ ps, GoodG g) ∧ ps.flatMap (·.2) = gs.flatten ∧ ps.length ≤ 4 ∧ forL (fun ρ => evSs (P k) [] p18_1 ρ) [] (.one 6) ((List.range 4).map fun i => .int (i : Nat)) (E18 c n (xs.map iT) (.ow (.sh (.lst (gs.map gD)))) u4 (.ow (.lst [])) .no) = .ok (.nx, E18 c n (xs.map iT) (.ow (.sh (.lst (gs.map gD)))) u4 (.ow (.lst (ps.map grpT))) u6) := by
  obtain ⟨ρ', hf, ps, u6, _, h1, h2, h3, rfl⟩ := forL_inv (body := fun ρ => evSs (P k) [] p18_1 ρ) (pl := []) (tg := .one 6) (I := fun i ρ => ∃ (ps : List (Str × List Int)) (u6 : Sl), Fr u6 ∧ (∀ g ∈ ps, GoodG g) ∧ ps.flatMap (·.2) = (gs.take i).flatten ∧ ps.length ≤ i ∧ ρ = E18 c n (xs.map iT) (.ow (.sh (.lst (gs.map gD)))) u4 (.ow (.lst (ps.map grpT))) u6)
    ((List.range 4).map fun i => .int (i : Nat)) (E18 c n (xs.map iT) (.ow (.sh (.lst (gs.map gD)))) u4 (.ow (.lst [])) .no) ⟨[], .no, .inl rfl, fun g h => absurd h (by simp), rfl, Nat.le_refl _, rfl⟩
    (fun i d ρ e hI => by
      obtain ⟨ps, u6, hu, h1, h2, h3, rfl⟩ := hI
      obtain ⟨i', e1, rfl⟩ := by rw [List.getElem?_map] at e; exact Option.map_eq_some_iff.mp e
      obtain ⟨hi, e1⟩ := List.getElem?_eq_some_iff.mp e1
      rw [List.getElem_range] at e1
      subst e1
      rw [List.length_range] at hi
      have hgl := hg.1
      have iw := idx_ow xs (n + i) (by omega)
      rw [show ((n + i : Nat) : Int) = (n : Int) + (i : Int) by omega] at iw
      have hm : gs.getD i [] ∈ gs := by
        rw [List.getD_eq_getElem?_getD, List.getElem?_eq_getElem (by omega)]
        exact List.getElem_mem _
      obtain ⟨ps', hp, hb⟩ := h_turn k c n (xs.map iT) (.lst (gs.map gD)) (gs.getD i []) ps i _ u4 (by omega) (hw i hi) (idx_gs (by omega)) iw (hg.2.2 _ hm)
      have tk : (gs.take (i + 1)).flatten = (gs.take i).flatten ++ gs.getD i [] := by
        rw [List.take_succ, List.flatten_append, List.getD_eq_getElem?_getD, List.getElem?_eq_getElem (by omega)]
        simp
      refine ⟨E18 c n (xs.map iT) (.ow (.sh (.lst (gs.map gD)))) u4 (.ow (.lst (ps.map grpT))) (.ow (.sh (.int i))), _, ?_, hb, ps', _, .ow _, ?_, ?_, ?_, rfl⟩
      · rcases hu with rfl | ⟨x, rfl⟩ <;> rfl
      · rcases hp with ⟨_, rfl⟩ | ⟨x, hx, _, rfl⟩
        · exact h1
        · intro g hg
          rcases List.mem_append.mp hg with hg | hg
          · exact h1 g hg
          · have : g = x := by simpa using hg
            subst this; exact hx
      · rcases hp with ⟨e, rfl⟩ | ⟨x, hx, e, rfl⟩
        · rw [tk, e, h2, List.append_nil]
        · rw [tk, List.flatMap_append, h2]
          simp [e]
      · rcases hp with ⟨e, rfl⟩ | ⟨x, hx, e, rfl⟩
        · omega
        · simp only [List.length_append, List.length_cons, List.length_nil]; omega)
  rw [List.length_map, List.length_range] at h2 h3
  refine ⟨ps, u6, h1, ?_, h3, hf⟩
  rw [h2, List.take_of_length_le (by have := hg.1; omega)]
theorem lim4 : ∀ n : Nat, n < 10 → (∀ m ∈ List.replicate n (4 : Int) ++ [2, 2, 2, 2, 24], 0 < m ∧ m < 1073741824) ∧ ∀ j, j < 4 → (List.replicate n (4 : Int) ++ [2, 2, 2, 2, 24]).getD (n + j) 0 = 2 := fun n _ => ⟨fun m h => by
  rcases List.mem_append.mp h with h | h
  · rw [List.eq_of_mem_replicate h]; omega
  · have : m = 2 ∨ m = 24 := by simpa using h
    rcases this with rfl | rfl <;> omega, fun j hj => by
  rw [List.getD_eq_getElem?_getD, List.getElem?_append_right (by simp), List.length_replicate, Nat.add_sub_cancel_left]
  match j, hj with
  | 0, _ => rfl
  | 1, _ => rfl
  | 2, _ => rfl
  | 3, _ => rfl⟩
theorem pr_e0 (k : Nat) (c nn : Int) (A1 A2 XT : List OT) (A3 : List D) (mu : Op.ev (.bin .mul) [.lst [.sh (.int 4)], .sh (.int nn)] = some (.lst A1)) (ad : Op.ev (.bin .add) [.lst A1, .lst [.sh (.int 2), .sh (.int 2), .sh (.int 2), .sh (.int 2), .sh (.int 24)]] = some (.lst A2)) (td : toDs A2 = A3) (hd : P k 12 [.sh (.int c), .sh (.lst A3)] = .ok (.lst XT, [.sh (.int c), .sh (.lst A3)])) :
    evS (P k) [] q18_0 [.ow (.sh (.int c)), .ow (.sh (.int nn)), .no, .no, .no, .no, .no] = .ok (.nx, [.ow (.sh (.int c)), .ow (.sh (.int nn)), .ow (.lst XT), .no, .no, .no, .no]) := by
  have hb1 : 1 ≤ big := by decide
  have hb5 : 5 ≤ big := by decide
  simp [q18_0, D.tyName, ev_isi_t, isTy, fillA, backA, goneA, cm_le_ii, cm_lt_ii, getV, Fn.run, Fn.run0, evSs, evS, evT, evAll, evAny, evO, evE, evOs, evEs, evAs, evB, evAnd, evOr, CH.R.bind, R.ofO, CH.Env.tree, CH.Env.own, CH.Env.ownL, OT.getP, lock, unlock, outs, tru_b, ev_eq_ii, ev_ne_ii, ev_lt_ii, ev_le_ii, ev_gt_ii, ev_ge_ii, ev_add_ii, ev_sub_ii, ev_neg_i, ev_int_i, ev_abs_i, ev_len_l, ev_len_t, ev_len_f, ev_idx, mulOk_r, ev_mul_ii, OT.toD, mu, ad, hb1, hb5, td, hd]
theorem prefix_draw (k : Nat) (c : Int) (n : Nat) (hn : n < 10) : ∃ ps : List (Str × List Int), (∀ g ∈ ps, GoodG g) ∧ (ps.flatMap (·.2)).Perm (up n) ∧ ps.length ≤ 4 ∧ P (k + 2) 18 [.sh (.int c), .sh (.int n)] = .ok (.sh (.tup (ps.map grpD)), [.sh (.int c), .sh (.int n)]) := by
  rw [step (k + 1) 18 _ f18 t18]
  obtain ⟨l1, l2⟩ := lim4 n hn
  obtain ⟨xs, hw, hd⟩ := draws_eq k c (List.replicate n (4 : Int) ++ [2, 2, 2, 2, 24]) l1 (by simp; omega)
  have hxl : xs.length = n + 5 := by have := hw.1; simpa using this
  have e0 := pr_e0 (k + 1) c n _ _ _ _ (rep_ev 4 n hn) (add_ll (List.replicate n (4 : Int)) [2, 2, 2, 2, 24] (by simp; omega)) (toDs_i (List.replicate n (4 : Int) ++ [2, 2, 2, 2, 24])) hd
  obtain ⟨gs, u4, hg, lp⟩ := g_loop (k + 1) c n (by omega) xs hxl
  have hbits : ∀ j, j < 4 → xs.getD (n + j) 0 = 0 ∨ xs.getD (n + j) 0 = 1 := fun j hj => by
    have := hw.2 (n + j) (by simp; omega)
    rw [l2 j hj] at this
    omega
  obtain ⟨ps, u6, h1, h2, h3, lp2⟩ := h_loop (k + 1) c n xs gs u4 (by omega) hxl hbits hg
  refine ⟨ps, h1, by rw [h2]; exact hg.2.1, h3, ?_⟩
  have tu : Op.ev (.bi .tuple) [.lst (ps.map grpT)] = some (.sh (.tup (ps.map grpD))) := by
    show ((OT.lst (ps.map grpT)).litems.map fun ds => OT.sh (.tup ds)) = _
    rw [show (OT.lst (ps.map grpT)).litems = some (ps.map grpD) from litems_map ps grpD]; rfl
  have fz : OT.toD (.lst (gs.map gT)) = .lst (gs.map gD) := by
    show D.lst (toDs _) = _
    rw [toD_gs]
  refine run_rt (ρ := E18 c n (xs.map iT) (.ow (.sh (.lst (gs.map gD)))) u4 (.ow (.lst (ps.map grpT))) u6) rfl ?_ rfl
  show evSs (P (k + 1)) [] b18 [.ow (.sh (.int c)), .ow (.sh (.int n)), .no, .no, .no, .no, .no] = _
  unfold b18
  rw [ss_next e0]
  rw [ss_next (ρ1 := E18 c n (xs.map iT) (.ow (.lst [.lst [], .lst [], .lst [], .lst []])) .no .no .no) (by rfl)]
  rw [ss_next (ρ1 := E18 c n (xs.map iT) (.ow (.lst (gs.map gT))) u4 .no .no) (by
    have hI := rng_up (k + 1) [] (E18 c n (xs.map iT) (.ow (.lst [.lst [], .lst [], .lst [], .lst []])) .no .no .no) 1 n (by omega) rfl
    unfold q18_2
    rw [evS, hI]
    simp only [CH.R.bind]
    rw [lp]
    rfl)]
  rw [ss_next (ρ1 := E18 c n (xs.map iT) (.ow (.sh (.lst (gs.map gD)))) u4 .no .no) (by
    unfold q18_3
    rw [evS]
    show R.ok (Fl.nx, E18 c n (xs.map iT) (.ow (.sh (OT.toD (.lst (gs.map gT))))) u4 .no .no) = _
    rw [fz])]
  rw [ss_next (ρ1 := E18 c n (xs.map iT) (.ow (.sh (.lst (gs.map gD)))) u4 (.ow (.lst [])) .no) (by rfl)]
  rw [ss_next (ρ1 := E18 c n (xs.map iT) (.ow (.sh (.lst (gs.map gD)))) u4 (.ow (.lst (ps.map grpT))) u6) (by
    have hI : evI (P (k + 1)) [] (.rng1 (.c (.int 4))) (E18 c n (xs.map iT) (.ow (.sh (.lst (gs.map gD)))) u4 (.ow (.lst [])) .no) = .ok ((List.range 4).map fun i => .int (i : Nat), E18 c n (xs.map iT) (.ow (.sh (.lst (gs.map gD)))) u4 (.ow (.lst [])) .no) := rfl
    unfold q18_5
    rw [evS, hI]
    simp only [CH.R.bind]
    rw [lp2]
    rfl)]
  have e6 : evE (P (k + 1)) [] (.op (.bi .tuple) (.cons (.bor 5 []) .nil)) (E18 c n (xs.map iT) (.ow (.sh (.lst (gs.map gD)))) u4 (.ow (.lst (ps.map grpT))) u6) = .ok (.sh (.tup (ps.map grpD)), E18 c n (xs.map iT) (.ow (.sh (.lst (gs.map gD)))) u4 (.ow (.lst (ps.map grpT))) u6) := by
    unfold E18
    generalize ps.map grpT = PT at tu ⊢
    generalize gs.map gD = GD
    generalize xs.map iT = XT
    generalize D.tup (ps.map grpD) = Z at tu ⊢
    simp [D.tyName, ev_isi_t, isTy, fillA, backA, goneA, cm_le_ii, cm_lt_ii, getV, Fn.run, Fn.run0, evSs, evS, evT, evAll, evAny, evO, evE, evOs, evEs, evAs, evB, evAnd, evOr, CH.R.bind, R.ofO, CH.Env.tree, CH.Env.own, CH.Env.ownL, OT.getP, lock, unlock, outs, tru_b, ev_eq_ii, ev_ne_ii, ev_lt_ii, ev_le_ii, ev_gt_ii, ev_ge_ii, ev_add_ii, ev_sub_ii, ev_neg_i, ev_int_i, ev_abs_i, ev_len_l, ev_len_t, ev_len_f, ev_idx, mulOk_r, ev_mul_ii, OT.toD, tu]
  exact ss_stop (evE_ret e6)
end K75
end
section
namespace K75
open PySem L2 Evl PyProof.Rows CH
theorem meets_fil (cs : List (List Int)) (r : List Int) : (cs.filter fun c => (c.filter fun l => decide (l ∈ r)).isEmpty).isEmpty = meets cs r := by
  unfold meets
  induction cs with
  | nil => rfl
  | cons c cs ih =>
    rw [List.filter_cons, List.all_cons, ← ih]
    have e : (c.filter fun l => decide (l ∈ r)).isEmpty = !(c.any fun l => decide (l ∈ r)) := by
      induction c with
      | nil => rfl
      | cons l c ihc =>
        rw [List.filter_cons, List.any_cons]
        cases h : decide (l ∈ r) with
        | true => rfl
        | false => simpa using ihc
    rw [e]
    cases c.any fun l => decide (l ∈ r) <;> rfl
theorem eq_nilI (xs : List Int) : Op.ev (.cmp .eq) [.lst (xs.map iT), .lst []] = some (.sh (.bl xs.isEmpty)) := by
  have h := ev_eq_nil (n := 1) (oks_ints 1 xs) (by decide)
  rw [List.map_map] at h
  have e : (xs.map D.int).isEmpty = xs.isEmpty := by cases xs <;> rfl
  rw [e] at h
  exact h
theorem eq_nilR (cs : List (List Int)) : Op.ev (.cmp .eq) [.lst (cs.map shR), .lst []] = some (.sh (.bl cs.isEmpty)) := by
  have h := ev_eq_nil (n := 2) (oks_rows 1 cs) (by decide)
  rw [List.map_map] at h
  have e : (cs.map rD).isEmpty = cs.isEmpty := by cases cs <;> rfl
  rw [e] at h
  exact h
section
variable (k : Nat) (CL : D) (cs : List (List Int)) (A1 A2 A3 A4 : Sl)
theorem d_in (o : D) (u6 : Sl) (b c : List Int) (l0 : Sl) (hc : c.length < 1000) : evAll (P k) [] p19_5 [l0, A1, A2, A3, A4, .ow (.sh o), u6, .ow (.sh (rD b)), .ow (.sh (rD c)), .no] = .ok ((c.filter fun l => decide (l ∈ b)).isEmpty, [l0, A1, A2, A3, A4, .ow (.sh o), u6, .ow (.sh (rD b)), .ow (.sh (rD c)), .no]) := by
  have lc := evE_lcf (Φ := P k) (pl := []) (e := p19_3) (i := 9) (it := .seq (.bor 8 [])) (cs := p19_4) (ρ := [l0, A1, A2, A3, A4, .ow (.sh o), u6, .ow (.sh (rD b)), .ow (.sh (rD c)), .no]) (ρ1 := [l0, A1, A2, A3, A4, .ow (.sh o), u6, .ow (.sh (rD b)), .lk (.sh (rD c)), .no]) (xs := c) (mk := .int) (g := .int) (p := fun l => decide (l ∈ b)) rfl rfl (by simp) (by unfold big; omega) (fun l _ => ⟨by
    have ni := ev_in_it l b
    generalize rD c = y
    have ni : Op.ev (.cmp .in_) [.sh (.int l), .sh (rD b)] = some (.sh (.bl (decide (l ∈ b)))) := ni
    generalize rD b = z at ni ⊢
    have e : evE (P k) [] (.op (.cmp .in_) (.cons (.bor 9 []) (.cons (.bor 7 []) .nil))) [l0, A1, A2, A3, A4, .ow (.sh o), u6, .ow (.sh z), .lk (.sh y), .ow (.sh (.int l))] = .ok (.sh (.bl (decide (l ∈ b))), [l0, A1, A2, A3, A4, .ow (.sh o), u6, .ow (.sh z), .lk (.sh y), .ow (.sh (.int l))]) := by simp [D.tyName, ev_isi_t, isTy, fillA, backA, goneA, cm_le_ii, cm_lt_ii, getV, Fn.run, Fn.run0, evSs, evS, evT, evAll, evAny, evO, evE, evOs, evEs, evAs, evB, evAnd, evOr, CH.R.bind, R.ofO, CH.Env.tree, CH.Env.own, CH.Env.ownL, OT.getP, lock, unlock, outs, tru_b, ev_eq_ii, ev_ne_ii, ev_lt_ii, ev_le_ii, ev_gt_ii, ev_ge_ii, ev_add_ii, ev_sub_ii, ev_neg_i, ev_int_i, ev_abs_i, ev_len_l, ev_len_t, ev_len_f, ev_idx, mulOk_r, ev_mul_ii, OT.toD, ni]
    show evAll (P k) [] p19_4 [l0, A1, A2, A3, A4, .ow (.sh o), u6, .ow (.sh z), .lk (.sh y), .ow (.sh (.int l))] = _
    unfold p19_4
    rw [evAll, evT, evO, e]
    simp only [CH.R.bind, tru_b]
    cases decide (l ∈ b) <;> rfl, fun _ => rfl⟩)
  have en : evE (P k) [] (.lst .nil) [l0, A1, A2, A3, A4, .ow (.sh o), u6, .ow (.sh (rD b)), .ow (.sh (rD c)), .no] = .ok (.lst [], [l0, A1, A2, A3, A4, .ow (.sh o), u6, .ow (.sh (rD b)), .ow (.sh (rD c)), .no]) := rfl
  have eq := evE_op2 lc en (eq_nilI _)
  unfold p19_5
  rw [evAll, evT, evO, eq]
  simp only [CH.R.bind, tru_b]
  cases (c.filter fun l => decide (l ∈ b)).isEmpty <;> rfl
theorem d_test (o : Option (List Int)) (u6 : Sl) (b : List Int) (hl : cs.length < 1000) (hc : ∀ c ∈ cs, c.length < 1000) :
    evT (P k) [] (.and (.cons (.val (.e (.op (.cmp .is) (.cons (.bor 5 []) (.cons (.e (.c .non)) .nil))))) (.cons (.val (.e (.op (.cmp .eq) (.cons (.e (.lc p19_2 (.one 8) (.seq (.bor 0 [])) p19_5)) (.cons (.e (.lst .nil)) .nil))))) .nil))) [.ow (.sh (.lst (cs.map rD))), A1, A2, A3, A4, .ow (.sh (optD o)), u6, .ow (.sh (rD b)), .no, .no] = .ok (o.isNone && meets cs b, [.ow (.sh (.lst (cs.map rD))), A1, A2, A3, A4, .ow (.sh (optD o)), u6, .ow (.sh (rD b)), .no, .no]) := by
  have i1 : evE (P k) [] (.op (.cmp .is) (.cons (.bor 5 []) (.cons (.e (.c .non)) .nil))) [.ow (.sh (.lst (cs.map rD))), A1, A2, A3, A4, .ow (.sh (optD o)), u6, .ow (.sh (rD b)), .no, .no] = .ok (.sh (.bl o.isNone), [.ow (.sh (.lst (cs.map rD))), A1, A2, A3, A4, .ow (.sh (optD o)), u6, .ow (.sh (rD b)), .no, .no]) := by
    cases o <;> rfl
  have lc := evE_lcf (Φ := P k) (pl := []) (e := p19_2) (i := 8) (it := .seq (.bor 0 [])) (cs := p19_5) (ρ := [.ow (.sh (.lst (cs.map rD))), A1, A2, A3, A4, .ow (.sh (optD o)), u6, .ow (.sh (rD b)), .no, .no]) (ρ1 := [.lk (.sh (.lst (cs.map rD))), A1, A2, A3, A4, .ow (.sh (optD o)), u6, .ow (.sh (rD b)), .no, .no]) (xs := cs) (mk := rD) (g := rD) (p := fun c => (c.filter fun l => decide (l ∈ b)).isEmpty) rfl rfl (by simp) (by unfold big; omega) (fun c hcc => ⟨d_in k A1 A2 A3 A4 (optD o) u6 b c _ (hc c hcc), fun _ => rfl⟩)
  have en : evE (P k) [] (.lst .nil) [.ow (.sh (.lst (cs.map rD))), A1, A2, A3, A4, .ow (.sh (optD o)), u6, .ow (.sh (rD b)), .no, .no] = .ok (.lst [], [.ow (.sh (.lst (cs.map rD))), A1, A2, A3, A4, .ow (.sh (optD o)), u6, .ow (.sh (rD b)), .no, .no]) := rfl
  have eq := evE_op2 lc en (eq_nilR _)
  rw [meets_fil] at eq
  rw [evT, evAll, evT, evO, i1]
  simp only [CH.R.bind, tru_b]
  cases o with
  | some a => rfl
  | none =>
    simp only [Option.isNone, if_true]
    rw [evAll, evT, evO, eq]
    simp only [CH.R.bind, tru_b]
    cases meets cs b <;> rfl
/-- the answer so far -/
def ansO (cs : List (List Int)) (r : List Int) : Option (List Int) → List (List Int) → Option (List Int)
  | some a, _ => some a
  | none, as => ansL cs r as
theorem d_inner (r : List Int) (hl : cs.length < 1000) (hc : ∀ c ∈ cs, c.length < 1000) (hr : r.length < 900) : ∀ (as : List (List Int)) (o : Option (List Int)) (u6 u7 : Sl), Fr u6 → Fr u7 → (∀ a ∈ as, a.length < 90) →
    ∃ u6' u7', Fr u6' ∧ Fr u7' ∧ forL (fun ρ => evSs (P k) [] p19_7 ρ) [] (.one 6) (as.map rD) [.ow (.sh (.lst (cs.map rD))), A1, A2, A3, .ow (.sh (rD r)), .ow (.sh (optD o)), u6, u7, .no, .no] = .ok (.nx, [.ow (.sh (.lst (cs.map rD))), A1, A2, A3, .ow (.sh (rD r)), .ow (.sh (optD (ansO cs r o as))), u6', u7', .no, .no])
  | [], o, u6, u7, h6, h7, _ => ⟨u6, u7, h6, h7, by cases o <;> rfl⟩
  | a :: as, o, u6, u7, h6, h7, ha => by
    have st : setTg [] (.one 6) (rD a) [.ow (.sh (.lst (cs.map rD))), A1, A2, A3, .ow (.sh (rD r)), .ow (.sh (optD o)), u6, u7, .no, .no] = some [.ow (.sh (.lst (cs.map rD))), A1, A2, A3, .ow (.sh (rD r)), .ow (.sh (optD o)), .ow (.sh (rD a)), u7, .no, .no] := by
      rcases h6 with rfl | ⟨e, rfl⟩ <;> rfl
    have b1 : evS (P k) [] p19_1 [.ow (.sh (.lst (cs.map rD))), A1, A2, A3, .ow (.sh (rD r)), .ow (.sh (optD o)), .ow (.sh (rD a)), u7, .no, .no] = .ok (.nx, [.ow (.sh (.lst (cs.map rD))), A1, A2, A3, .ow (.sh (rD r)), .ow (.sh (optD o)), .ow (.sh (rD a)), .ow (.sh (rD (r ++ a))), .no, .no]) := by
      have ad := add_rr r a (by omega) (by have := ha a (by simp); omega)
      generalize rD (r ++ a) = RA at ad ⊢
      generalize rD r = RR at ad ⊢
      generalize rD a = AA at ad ⊢
      generalize D.lst (cs.map rD) = CC
      generalize optD o = OO
      rcases h7 with rfl | ⟨e, rfl⟩ <;> simp [p19_1, D.tyName, ev_isi_t, isTy, fillA, backA, goneA, cm_le_ii, cm_lt_ii, getV, Fn.run, Fn.run0, evSs, evS, evT, evAll, evAny, evO, evE, evOs, evEs, evAs, evB, evAnd, evOr, CH.R.bind, R.ofO, CH.Env.tree, CH.Env.own, CH.Env.ownL, OT.getP, lock, unlock, outs, tru_b, ev_eq_ii, ev_ne_ii, ev_lt_ii, ev_le_ii, ev_gt_ii, ev_ge_ii, ev_add_ii, ev_sub_ii, ev_neg_i, ev_int_i, ev_abs_i, ev_len_l, ev_len_t, ev_len_f, ev_idx, mulOk_r, ev_mul_ii, OT.toD, ad]
    have tt := d_test k cs A1 A2 A3 (.ow (.sh (rD r))) o (.ow (.sh (rD a))) (r ++ a) hl hc
    have key : ∃ o', ansO cs r o (a :: as) = ansO cs r o' as ∧ evSs (P k) [] p19_7 [.ow (.sh (.lst (cs.map rD))), A1, A2, A3, .ow (.sh (rD r)), .ow (.sh (optD o)), .ow (.sh (rD a)), u7, .no, .no] = .ok (.nx, [.ow (.sh (.lst (cs.map rD))), A1, A2, A3, .ow (.sh (rD r)), .ow (.sh (optD o')), .ow (.sh (rD a)), .ow (.sh (rD (r ++ a))), .no, .no]) := by
      unfold p19_7
      rw [ss_next b1, ss_end]
      unfold p19_6
      cases o with
      | some x =>
        refine ⟨some x, rfl, ?_⟩
        rw [ife_f (tt.trans rfl)]
        rfl
      | none =>
        cases hm : meets cs (r ++ a) with
        | true =>
          rw [hm] at tt
          refine ⟨some a, ?_, ?_⟩
          · show ansL cs r (a :: as) = some a
            unfold ansL
            rw [List.find?_cons, hm]
          · rw [ife_t (tt.trans rfl), ss_end]
            rfl
        | false =>
          rw [hm] at tt
          refine ⟨none, ?_, ?_⟩
          · show ansL cs r (a :: as) = ansL cs r as
            unfold ansL
            rw [List.find?_cons, hm]
          · rw [ife_f (tt.trans rfl)]
            rfl
    obtain ⟨o', e, hb⟩ := key
    obtain ⟨u6', u7', h6', h7', ih⟩ := d_inner r hl hc hr as o' (.ow (.sh (rD a))) (.ow (.sh (rD (r ++ a)))) (.ow _) (.ow _) fun b hb => ha b (by simp [hb])
    refine ⟨u6', u7', h6', h7', ?_⟩
    rw [e, List.map_cons]
    unfold forL
    rw [st]
    simp only
    rw [hb]
    exact ih
end
theorem ap_d (ds : List D) (d : D) (h : ds.length < 1000000) : muEv .append (ds.map .sh) [.sh d] = some (.sh .non, (ds ++ [d]).map .sh) := by
  show guard_ (decide ((ds.map OT.sh).length < big)) _ = _
  rw [decide_eq_true (by rw [List.length_map]; simp only [big]; omega)]
  simp [guard_]
theorem d_outer (k : Nat) (cs : List (List Int)) (W1 : Sl) (v2 : List Int) (hl : cs.length < 1000) (hc : ∀ c ∈ cs, c.length < 1000) (hv2 : v2.length < 6) : ∀ (rs : List (List Int)) (ds : List D) (u4 u5 u6 u7 : Sl), Fr u4 → Fr u5 → Fr u6 → Fr u7 → (∀ r ∈ rs, r.length < 90) → ds.length + rs.length < 1000 →
    ∃ u4' u5' u6' u7', forL (fun ρ => evSs (P (k + 1)) [] p19_10 ρ) [] (.one 4) (rs.map rD) [.ow (.sh (.lst (cs.map rD))), W1, .ow (.sh (.lst (v2.map .int))), .ow (.lst (ds.map .sh)), u4, u5, u6, u7, .no, .no] = .ok (.nx, [.ow (.sh (.lst (cs.map rD))), W1, .ow (.sh (.lst (v2.map .int))), .ow (.lst ((ds ++ rs.map fun r => D.tup [rD r, optD (ansL cs r (rowsL v2))]).map .sh)), u4', u5', u6', u7', .no, .no])
  | [], ds, u4, u5, u6, u7, _, _, _, _, _, _ => ⟨u4, u5, u6, u7, by simp [forL]⟩
  | r :: rs, ds, u4, u5, u6, u7, h4, h5, h6, h7, hr, hd => by
    simp only [List.length_cons] at hd
    have st : setTg [] (.one 4) (rD r) [.ow (.sh (.lst (cs.map rD))), W1, .ow (.sh (.lst (v2.map .int))), .ow (.lst (ds.map .sh)), u4, u5, u6, u7, .no, .no] = some [.ow (.sh (.lst (cs.map rD))), W1, .ow (.sh (.lst (v2.map .int))), .ow (.lst (ds.map .sh)), .ow (.sh (rD r)), u5, u6, u7, .no, .no] := by
      rcases h4 with rfl | ⟨e, rfl⟩ <;> rfl
    obtain ⟨t, ht, rr⟩ := rows_run k v2 (by omega)
    obtain ⟨u6', u7', h6', h7', lp⟩ := d_inner (k + 1) cs W1 (.ow (.sh (.lst (v2.map .int)))) (.ow (.lst (ds.map .sh))) r hl hc (by have := hr r (by simp); omega) (rowsL v2) none u6 u7 h6 h7 fun a ha => by have := (rowsL_mem ha).1; omega
    have b0 : evS (P (k + 1)) [] p19_0 [.ow (.sh (.lst (cs.map rD))), W1, .ow (.sh (.lst (v2.map .int))), .ow (.lst (ds.map .sh)), .ow (.sh (rD r)), u5, u6, u7, .no, .no] = .ok (.nx, [.ow (.sh (.lst (cs.map rD))), W1, .ow (.sh (.lst (v2.map .int))), .ow (.lst (ds.map .sh)), .ow (.sh (rD r)), .ow (.sh .non), u6, u7, .no, .no]) := by
      rcases h5 with rfl | ⟨e, rfl⟩ <;> rfl
    have b8 : evS (P (k + 1)) [] p19_8 [.ow (.sh (.lst (cs.map rD))), W1, .ow (.sh (.lst (v2.map .int))), .ow (.lst (ds.map .sh)), .ow (.sh (rD r)), .ow (.sh .non), u6, u7, .no, .no] = .ok (.nx, [.ow (.sh (.lst (cs.map rD))), W1, .ow (.sh (.lst (v2.map .int))), .ow (.lst (ds.map .sh)), .ow (.sh (rD r)), .ow (.sh (optD (ansL cs r (rowsL v2)))), u6', u7', .no, .no]) := by
      have hI : evI (P (k + 1)) [] (.seq (.e (.call 17 (.val (.v 2) .nil)))) [.ow (.sh (.lst (cs.map rD))), W1, .ow (.sh (.lst (v2.map .int))), .ow (.lst (ds.map .sh)), .ow (.sh (rD r)), .ow (.sh .non), u6, u7, .no, .no] = .ok ((rowsL v2).map rD, [.ow (.sh (.lst (cs.map rD))), W1, .ow (.sh (.lst (v2.map .int))), .ow (.lst (ds.map .sh)), .ow (.sh (rD r)), .ow (.sh .non), u6, u7, .no, .no]) := by
        have c1 := call1 (Φ := P (k + 1)) (pl := []) (f := 17) (e := .v 2) (ρ := [.ow (.sh (.lst (cs.map rD))), W1, .ow (.sh (.lst (v2.map .int))), .ow (.lst (ds.map .sh)), .ow (.sh (rD r)), .ow (.sh .non), u6, u7, .no, .no]) rfl rfl rr rfl
        rw [evI, c1]
        simp only [CH.R.bind, ht.items]
      unfold p19_8
      rw [evS, hI]
      simp only [CH.R.bind]
      have lp : forL (fun ρ => evSs (P (k + 1)) [] p19_7 ρ) [] (.one 6) ((rowsL v2).map rD) [.ow (.sh (.lst (cs.map rD))), W1, .ow (.sh (.lst (v2.map .int))), .ow (.lst (ds.map .sh)), .ow (.sh (rD r)), .ow (.sh .non), u6, u7, .no, .no] = _ := lp
      rw [lp]
      rfl
    have b9 : evS (P (k + 1)) [] p19_9 [.ow (.sh (.lst (cs.map rD))), W1, .ow (.sh (.lst (v2.map .int))), .ow (.lst (ds.map .sh)), .ow (.sh (rD r)), .ow (.sh (optD (ansL cs r (rowsL v2)))), u6', u7', .no, .no] = .ok (.nx, [.ow (.sh (.lst (cs.map rD))), W1, .ow (.sh (.lst (v2.map .int))), .ow (.lst ((ds ++ [D.tup [rD r, optD (ansL cs r (rowsL v2))]]).map .sh)), .ow (.sh (rD r)), .ow (.sh (optD (ansL cs r (rowsL v2)))), u6', u7', .no, .no]) := by
      have ap := ap_d ds (.tup [rD r, optD (ansL cs r (rowsL v2))]) (by omega)
      generalize optD (ansL cs r (rowsL v2)) = OO at ap ⊢
      generalize rD r = RR at ap ⊢
      generalize D.lst (cs.map rD) = CC
      generalize D.lst (v2.map .int) = VV
      have e2 : evEs (P (k + 1)) [] (.cons (.tup (.cons (.v 4) (.cons (.v 5) .nil))) .nil) [.ow (.sh CC), W1, .ow (.sh VV), .ow (.lst (ds.map .sh)), .ow (.sh RR), .ow (.sh OO), u6', u7', .no, .no] = .ok ([.sh (.tup [RR, OO])], [.ow (.sh CC), W1, .ow (.sh VV), .ow (.lst (ds.map .sh)), .ow (.sh RR), .ow (.sh OO), u6', u7', .no, .no]) := by
        have hb2 : 2 ≤ big := by decide
        simp [D.tyName, ev_isi_t, isTy, fillA, backA, goneA, cm_le_ii, cm_lt_ii, getV, Fn.run, Fn.run0, evSs, evS, evT, evAll, evAny, evO, evE, evOs, evEs, evAs, evB, evAnd, evOr, CH.R.bind, R.ofO, CH.Env.tree, CH.Env.own, CH.Env.ownL, OT.getP, lock, unlock, outs, tru_b, ev_eq_ii, ev_ne_ii, ev_lt_ii, ev_le_ii, ev_gt_ii, ev_ge_ii, ev_add_ii, ev_sub_ii, ev_neg_i, ev_int_i, ev_abs_i, ev_len_l, ev_len_t, ev_len_f, ev_idx, mulOk_r, ev_mul_ii, OT.toD, hb2, toDs]
      have o : CH.Env.ownL [.ow (.sh CC), W1, .ow (.sh VV), .ow (.lst (ds.map .sh)), .ow (.sh RR), .ow (.sh OO), u6', u7', .no, .no] 3 = some (ds.map .sh) := rfl
      unfold p19_9
      rw [evS, evE, o]
      simp only [e2, CH.R.bind, o, ap]
      rfl
    obtain ⟨x4, x5, x6, x7, ih⟩ := d_outer k cs W1 v2 hl hc hv2 rs (ds ++ [D.tup [rD r, optD (ansL cs r (rowsL v2))]]) (.ow (.sh (rD r))) (.ow (.sh (optD (ansL cs r (rowsL v2))))) u6' u7' (.ow _) (.ow _) h6' h7' (fun q hq => hr q (by simp [hq])) (by simp only [List.length_append, List.length_cons, List.length_nil]; omega)
    refine ⟨x4, x5, x6, x7, ?_⟩
    rw [List.map_cons]
    unfold forL
    rw [st]
    simp only
    have hb : evSs (P (k + 1)) [] p19_10 [.ow (.sh (.lst (cs.map rD))), W1, .ow (.sh (.lst (v2.map .int))), .ow (.lst (ds.map .sh)), .ow (.sh (rD r)), u5, u6, u7, .no, .no] = .ok (.nx, [.ow (.sh (.lst (cs.map rD))), W1, .ow (.sh (.lst (v2.map .int))), .ow (.lst ((ds ++ [D.tup [rD r, optD (ansL cs r (rowsL v2))]]).map .sh)), .ow (.sh (rD r)), .ow (.sh (optD (ansL cs r (rowsL v2)))), u6', u7', .no, .no]) := by
      unfold p19_10
      rw [ss_next b0, ss_next b8, ss_end, b9]
    rw [hb]
    simp only [CH.R.bind]
    rw [ih, List.append_assoc]
    rfl
theorem due_run (k : Nat) (cs : List (List Int)) (v1 v2 : List Int) (hl : cs.length < 1000) (hc : ∀ c ∈ cs, c.length < 1000) (hv1 : v1.length < 6) (hv2 : v2.length < 6) :
    P (k + 2) 19 [.sh (.lst (cs.map rD)), .sh (.lst (v1.map .int)), .sh (.lst (v2.map .int))] = .ok (.sh (waysD cs v1 v2), [.sh (.lst (cs.map rD)), .sh (.lst (v1.map .int)), .sh (.lst (v2.map .int))]) := by
  rw [step (k + 1) 19 _ f19 t19]
  obtain ⟨t, ht, rr⟩ := rows_run k v1 (by omega)
  have hlen := rowsL_le hv1
  obtain ⟨u4, u5, u6, u7, lp⟩ := d_outer k cs (.ow (.sh (.lst (v1.map .int)))) v2 hl hc hv2 (rowsL v1) [] .no .no .no .no (.inl rfl) (.inl rfl) (.inl rfl) (.inl rfl) (fun r hr => by have := (rowsL_mem hr).1; omega) (by simp only [List.length_nil]; omega)
  rw [List.nil_append] at lp
  have hw : waysD cs v1 v2 = .tup ((rowsL v1).map fun r => .tup [rD r, optD (ansL cs r (rowsL v2))]) := rfl
  rw [hw]
  generalize (rowsL v1).map (fun r => D.tup [rD r, optD (ansL cs r (rowsL v2))]) = WW at lp ⊢
  refine run_rt (ρ := [.ow (.sh (.lst (cs.map rD))), .ow (.sh (.lst (v1.map .int))), .ow (.sh (.lst (v2.map .int))), .ow (.lst (WW.map .sh)), u4, u5, u6, u7, .no, .no]) rfl ?_ rfl
  show evSs (P (k + 1)) [] b19 [.ow (.sh (.lst (cs.map rD))), .ow (.sh (.lst (v1.map .int))), .ow (.sh (.lst (v2.map .int))), .no, .no, .no, .no, .no, .no, .no] = _
  unfold b19
  rw [ss_next (ρ1 := [.ow (.sh (.lst (cs.map rD))), .ow (.sh (.lst (v1.map .int))), .ow (.sh (.lst (v2.map .int))), .ow (.lst []), .no, .no, .no, .no, .no, .no]) (by rfl)]
  rw [ss_next (ρ1 := [.ow (.sh (.lst (cs.map rD))), .ow (.sh (.lst (v1.map .int))), .ow (.sh (.lst (v2.map .int))), .ow (.lst (WW.map .sh)), u4, u5, u6, u7, .no, .no]) (by
    have hI : evI (P (k + 1)) [] (.seq (.e (.call 17 (.val (.v 1) .nil)))) [.ow (.sh (.lst (cs.map rD))), .ow (.sh (.lst (v1.map .int))), .ow (.sh (.lst (v2.map .int))), .ow (.lst []), .no, .no, .no, .no, .no, .no] = .ok ((rowsL v1).map rD, [.ow (.sh (.lst (cs.map rD))), .ow (.sh (.lst (v1.map .int))), .ow (.sh (.lst (v2.map .int))), .ow (.lst []), .no, .no, .no, .no, .no, .no]) := by
      have c1 := call1 (Φ := P (k + 1)) (pl := []) (f := 17) (e := .v 1) (ρ := [.ow (.sh (.lst (cs.map rD))), .ow (.sh (.lst (v1.map .int))), .ow (.sh (.lst (v2.map .int))), .ow (.lst []), .no, .no, .no, .no, .no, .no]) rfl rfl rr rfl
      rw [evI, c1]
      simp only [CH.R.bind, ht.items]
    unfold q19_1
    rw [evS, hI]
    simp only [CH.R.bind]
    have lp : forL (fun ρ => evSs (P (k + 1)) [] p19_10 ρ) [] (.one 4) ((rowsL v1).map rD) [.ow (.sh (.lst (cs.map rD))), .ow (.sh (.lst (v1.map .int))), .ow (.sh (.lst (v2.map .int))), .ow (.lst []), .no, .no, .no, .no, .no, .no] = _ := lp
    rw [lp]
    rfl)]
  have tu : Op.ev (.bi .tuple) [.lst (WW.map .sh)] = some (.sh (.tup WW)) := by
    show ((OT.lst (WW.map .sh)).litems.map fun ds => OT.sh (.tup ds)) = _
    rw [litems_sh]; rfl
  have e6 : evE (P (k + 1)) [] (.op (.bi .tuple) (.cons (.bor 3 []) .nil)) [.ow (.sh (.lst (cs.map rD))), .ow (.sh (.lst (v1.map .int))), .ow (.sh (.lst (v2.map .int))), .ow (.lst (WW.map .sh)), u4, u5, u6, u7, .no, .no] = .ok (.sh (.tup WW), [.ow (.sh (.lst (cs.map rD))), .ow (.sh (.lst (v1.map .int))), .ow (.sh (.lst (v2.map .int))), .ow (.lst (WW.map .sh)), u4, u5, u6, u7, .no, .no]) := by
    generalize WW.map OT.sh = PT at tu ⊢
    generalize D.lst (cs.map rD) = x0
    generalize D.lst (v1.map .int) = x1
    generalize D.lst (v2.map .int) = x2
    simp [D.tyName, ev_isi_t, isTy, fillA, backA, goneA, cm_le_ii, cm_lt_ii, getV, Fn.run, Fn.run0, evSs, evS, evT, evAll, evAny, evO, evE, evOs, evEs, evAs, evB, evAnd, evOr, CH.R.bind, R.ofO, CH.Env.tree, CH.Env.own, CH.Env.ownL, OT.getP, lock, unlock, outs, tru_b, ev_eq_ii, ev_ne_ii, ev_lt_ii, ev_le_ii, ev_gt_ii, ev_ge_ii, ev_add_ii, ev_sub_ii, ev_neg_i, ev_int_i, ev_abs_i, ev_len_l, ev_len_t, ev_len_f, ev_idx, mulOk_r, ev_mul_ii, OT.toD, tu]
  exact ss_stop (evE_ret e6)
end K75
end
section
namespace K75
open PySem L2 Evl PyProof.Rows CH
theorem wts_ints : ∀ ns : List Int, wts (ns.map .int) = 41 * ns.length
  | [] => rfl
  | n :: ns => by rw [List.map_cons, wts, wts_ints ns, List.length_cons]; show 40 + 1 + _ = _; omega
theorem wts_rows {m : Nat} : ∀ ts : List (List Int), (∀ c ∈ ts, c.length ≤ m) → wts (ts.map rD) ≤ ts.length * (41 * m + 1)
  | [], _ => Nat.zero_le _
  | c :: ts, h => by
    have ih := wts_rows ts fun c hc => h c (by simp [hc])
    have h0 := h c (by simp)
    have e : (rD c).wt = 41 * c.length := wts_ints c
    have e2 : (ts.length + 1) * (41 * m + 1) = ts.length * (41 * m + 1) + (41 * m + 1) := Nat.succ_mul _ _
    rw [List.map_cons, wts, e, List.length_cons, e2]
    omega
theorem smalls_ints : ∀ ns : List Int, (∀ a ∈ ns, a.natAbs < 1000000000000) → smalls (ns.map .int) = true
  | [], _ => rfl
  | n :: ns, h => by
    rw [List.map_cons, smalls, smalls_ints ns fun a ha => h a (by simp [ha])]
    simp [D.small, h n (by simp)]
theorem smalls_rows : ∀ ts : List (List Int), (∀ c ∈ ts, ∀ a ∈ c, a.natAbs < 1000000000000) → smalls (ts.map rD) = true
  | [], _ => rfl
  | c :: ts, h => by
    rw [List.map_cons, smalls, smalls_rows ts fun c hc => h c (by simp [hc])]
    have : (rD c).small = true := smalls_ints c (h c (by simp))
    simp [this]
def pairW (cs : List (List Int)) (v2 r : List Int) : D := .tup [rD r, optD (ansL cs r (rowsL v2))]
theorem ans_in {cs : List (List Int)} {r a : List Int} {as : List (List Int)} (h : ansL cs r as = some a) : a ∈ as := List.mem_of_find?_eq_some h
theorem rows_small {vs r : List Int} (hv : ∀ v ∈ vs, absI v ≤ 100) (h : r ∈ rowsL vs) : ∀ a ∈ r, a.natAbs < 1000000000000 := fun a ha => by
  rcases (rowsL_mem h).2 a ha with z | z
  · have := hv a z; unfold absI at this; split at this <;> omega
  · have := hv _ z; unfold absI at this; split at this <;> omega
theorem pair_facts (cs : List (List Int)) (v1 v2 r : List Int) (h1 : v1.length < 6) (h2 : v2.length < 6) (s1 : ∀ v ∈ v1, absI v ≤ 100) (s2 : ∀ v ∈ v2, absI v ≤ 100) (hr : r ∈ rowsL v1) : (pairW cs v2 r).ok 3 = true ∧ (pairW cs v2 r).small = true ∧ (pairW cs v2 r).wt ≤ 1000 := by
  have l1 := (rowsL_mem hr).1
  have o : (optD (ansL cs r (rowsL v2))).ok 2 = true ∧ (optD (ansL cs r (rowsL v2))).small = true ∧ (optD (ansL cs r (rowsL v2))).wt ≤ 300 := by
    cases e : ansL cs r (rowsL v2) with
    | none => exact ⟨rfl, rfl, by decide⟩
    | some a =>
      have ha := ans_in e
      have l2 := (rowsL_mem ha).1
      refine ⟨oks_ints 1 a, smalls_ints a (rows_small s2 ha), ?_⟩
      show wts (a.map .int) ≤ 300
      rw [wts_ints]
      omega
  refine ⟨?_, ?_, ?_⟩
  · show ((rD r).ok 2 && ((optD (ansL cs r (rowsL v2))).ok 2 && true)) = true
    rw [o.1, show (rD r).ok 2 = true from oks_ints 1 r]; rfl
  · show ((rD r).small && ((optD (ansL cs r (rowsL v2))).small && true)) = true
    rw [o.2.1, show (rD r).small = true from smalls_ints r (rows_small s1 hr)]; rfl
  · show (rD r).wt + 1 + ((optD (ansL cs r (rowsL v2))).wt + 1 + 0) ≤ 1000
    have : (rD r).wt = 41 * r.length := wts_ints r
    omega
theorem oks_all {n : Nat} : ∀ {ds : List D}, (∀ d ∈ ds, d.ok n = true) → oks n ds = true
  | [], _ => rfl
  | d :: ds, h => by
    show (d.ok n && oks n ds) = true
    rw [h d (by simp), oks_all fun e he => h e (by simp [he])]; rfl
theorem smalls_all : ∀ {ds : List D}, (∀ d ∈ ds, d.small = true) → smalls ds = true
  | [], _ => rfl
  | d :: ds, h => by
    show (d.small && smalls ds) = true
    rw [h d (by simp), smalls_all fun e he => h e (by simp [he])]; rfl
theorem wts_all {m : Nat} : ∀ {ds : List D}, (∀ d ∈ ds, d.wt ≤ m) → wts ds ≤ ds.length * (m + 1)
  | [], _ => Nat.zero_le _
  | d :: ds, h => by
    have ih := wts_all (m := m) fun e he => h e (List.mem_cons_of_mem d he)
    have h0 := h d (by simp)
    have e2 : (ds.length + 1) * (m + 1) = ds.length * (m + 1) + (m + 1) := Nat.succ_mul _ _
    rw [wts, List.length_cons, e2]
    omega
theorem ways_repr (cs : List (List Int)) (v1 v2 : List Int) (h1 : v1.length < 6) (h2 : v2.length < 6) (s1 : ∀ v ∈ v1, absI v ≤ 100) (s2 : ∀ v ∈ v2, absI v ≤ 100) : ∃ z, ∀ t : OT, t.toD = waysD cs v1 v2 → Op.ev (.bi .repr) [t] = some (.sh (.str z)) := by
  have hl := rowsL_le h1
  have key : ∀ d ∈ (rowsL v1).map (pairW cs v2), d.ok 3 = true ∧ d.small = true ∧ d.wt ≤ 1000 := fun d hd => by
    obtain ⟨r, hr, rfl⟩ := List.mem_map.mp hd
    exact pair_facts cs v1 v2 r h1 h2 s1 s2 hr
  have e : waysD cs v1 v2 = .tup ((rowsL v1).map (pairW cs v2)) := rfl
  rw [e]
  refine repr_ok (n := 4) (oks_all fun d hd => (key d hd).1) (by decide) (smalls_all fun d hd => (key d hd).2.1) ?_ rfl
  have := wts_all (m := 1000) fun d hd => (key d hd).2.2
  show wts ((rowsL v1).map (pairW cs v2)) ≤ 1048576
  rw [List.length_map] at this
  have h3 : (rowsL v1).length * 1001 ≤ 32 * 1001 := Nat.mul_le_mul_right _ hl
  omega
theorem clauses_repr (n : Int) (cs : List (List Int)) (h0 : 0 ≤ n ∧ n < 100) (hl : cs.length ≤ 100) (hc : ∀ c ∈ cs, GoodC n c) : ∃ z, ∀ t : OT, t.toD = .tup (cs.map rD) → Op.ev (.bi .repr) [t] = some (.sh (.str z)) := by
  refine repr_ok (n := 3) (oks_rows 1 cs) (by decide) ?_ ?_ rfl
  · refine smalls_rows cs fun c hcc a ha => ?_
    have := (hc c hcc).2 a ha
    unfold absI at this; split at this <;> omega
  · show wts (cs.map rD) ≤ 1048576
    have h1 := wts_rows (m := 100) cs fun c hcc => by have := goodC_len (hc c hcc) h0.1; omega
    have h4 : cs.length * (41 * 100 + 1) ≤ 100 * 4101 := Nat.mul_le_mul_right _ hl
    omega
theorem call2x {Φ : Phi} {pl : List Nat} {f : Nat} {e e' : CH.CE} {ρ ρ1 ρ2 : CH.Env} {d d' : D} {u u' : OT} {x : Exn} {ws : CH.Env} (he : evE Φ pl e ρ = .ok (u, ρ1)) (hu : u.toD = d) (he' : evE Φ pl e' ρ1 = .ok (u', ρ2)) (hu' : u'.toD = d') (h : Φ f [.sh d, .sh d'] = .ex x ws) : evE Φ pl (.call f (.val e (.val e' .nil))) ρ = .ex x ρ2 := by
  rw [evE, evAs, he]
  simp only [CH.R.bind]
  rw [evAs, he']
  simp only [CH.R.bind, evAs, hu, hu', fillA, Option.map, h, goneA]
theorem ways_bad (k : Nat) (n : Int) (cs : List D) {v : D} (h : Pl v) (hp : preOk v) (h0 : 0 ≤ n) (h1 : n < 1000000) (ht : isPrefix n v = false) : P (k + 5) 10 [.sh (FD n cs), .sh v] = .ex ⟨3, [v]⟩ [] := by
  rw [step (k + 4) 10 _ f10 t10]
  have nd := need_ex k n cs h hp h0 h1 ht
  have c := call2x (Φ := P (k + 4)) (pl := []) (f := 7) (e := .v 0) (e' := .v 1) (ρ := [.ow (.sh (FD n cs)), .ow (.sh v), .no, .no, .no, .no]) rfl rfl rfl rfl nd
  refine run_exn (ρ := [.ow (.sh (FD n cs)), .ow (.sh v), .no, .no, .no, .no]) rfl (ss_exn ?_)
  show evS (P (k + 4)) [] q10_0 [.ow (.sh (FD n cs)), .ow (.sh v), .no, .no, .no, .no] = _
  unfold q10_0
  rw [evS, c]
  rfl
theorem pl_gs {gs : List (Str × List Int)} (hl : gs.length < 1000) (h : ∀ g ∈ gs, GoodG g ∧ g.2.length < 1000) : Pl (.tup (gs.map grpD)) := .tup (by rw [List.length_map]; omega) fun d hd => by
  obtain ⟨g, hg, rfl⟩ := List.mem_map.mp hd
  obtain ⟨hg, hgl⟩ := h g hg
  exact .tup (by simp) (fun d hd => by
    have : d = .str g.1 ∨ d = .tup (g.2.map .int) := by simpa using hd
    rcases this with rfl | rfl
    · exact .str (strOk_es hg.1)
    · exact .tup (by rw [List.length_map]; omega) fun d hd => by
        obtain ⟨i, _, rfl⟩ := List.mem_map.mp hd
        exact .int i)
theorem po_gs {gs : List (Str × List Int)} (h : (gs.flatMap (·.2)).length < 64) : preOk (.tup (gs.map grpD)) := by
  show (flatG (gs.map grpD)).length < 64
  rw [flatG_map]
  exact h
theorem ways_undef (k : Nat) (n : Int) (cs : List D) (gs : List (Str × List Int)) (hl : gs.length < 1000) (hg : ∀ g ∈ gs, GoodG g ∧ g.2.length < 1000) (hf : (gs.flatMap (·.2)).length < 64) (h0 : 0 ≤ n) (h1 : n < 1000000) (ht : isPrefix n (.tup (gs.map grpD)) = true) (hw : isES (gs.map (·.1)) = false) :
    P (k + 5) 10 [.sh (FD n cs), .sh (.tup (gs.map grpD))] = .ex ⟨4, [.str "prefix"]⟩ [] := by
  rw [step (k + 4) 10 _ f10 t10]
  have nd := need_ok k n cs (pl_gs hl hg) (po_gs hf) h0 h1 ht
  have w := words_test (k + 4) n cs gs hl fun g hm => (hg g hm).1.1
  rw [hw, if_neg (by simp)] at w
  have c := call2 (Φ := P (k + 4)) (pl := []) (f := 7) (e := .v 0) (e' := .v 1) (ρ := [.ow (.sh (FD n cs)), .ow (.sh (.tup (gs.map grpD))), .no, .no, .no, .no]) rfl rfl rfl rfl nd rfl
  refine run_exn (ρ := [.ow (.sh (FD n cs)), .ow (.sh (.tup (gs.map grpD))), .no, .no, .no, .no]) rfl ?_
  show evSs (P (k + 4)) [] b10 _ = _
  unfold b10
  refine (ss_next (ρ1 := [.ow (.sh (FD n cs)), .ow (.sh (.tup (gs.map grpD))), .no, .no, .no, .no]) ?_).trans (ss_exn w)
  unfold q10_0
  rw [evS]
  show CH.R.bind (evE (P (k + 4)) [] (.call 7 (.val (.v 0) (.val (.v 1) .nil))) [.ow (.sh (FD n cs)), .ow (.sh (.tup (gs.map grpD))), .no, .no, .no, .no]) _ = _
  rw [c]
  rfl
theorem refused_3 (k : Nat) (F v : D) (h : P k 10 [.sh F, .sh v] = .ex ⟨3, [v]⟩ []) : P (k + 1) 20 [.sh F, .sh v] = .ok (.sh (.tup [.str "prefix", v]), [.sh F, .sh v]) := by
  rw [step k 20 _ f20 t20]
  have c := call2x (Φ := P k) (pl := []) (f := 10) (e := .v 0) (e' := .v 1) (ρ := [.ow (.sh F), .ow (.sh v), .no]) rfl rfl rfl rfl h
  have b : evSs (P k) [] p20_0 [.ow (.sh F), .ow (.sh v), .no] = .ex ⟨3, [v]⟩ [.ow (.sh F), .ow (.sh v), .no] := by
    unfold p20_0
    rw [ss_end, evS, c]
    rfl
  refine run_rt (ρ := [.ow (.sh F), .ow (.sh v), .no]) rfl (ss_stop ?_) rfl
  show evS (P k) [] q20_0 [.ow (.sh F), .ow (.sh v), .no] = _
  unfold q20_0
  rw [evS, b]
  rfl
theorem refused_4 (k : Nat) (F v : D) (h : P k 10 [.sh F, .sh v] = .ex ⟨4, [.str "prefix"]⟩ []) : P (k + 1) 20 [.sh F, .sh v] = .ok (.sh (.tup [.str "undefined", .str "prefix"]), [.sh F, .sh v]) := by
  rw [step k 20 _ f20 t20]
  have c := call2x (Φ := P k) (pl := []) (f := 10) (e := .v 0) (e' := .v 1) (ρ := [.ow (.sh F), .ow (.sh v), .no]) rfl rfl rfl rfl h
  have b : evSs (P k) [] p20_0 [.ow (.sh F), .ow (.sh v), .no] = .ex ⟨4, [.str "prefix"]⟩ [.ow (.sh F), .ow (.sh v), .no] := by
    unfold p20_0
    rw [ss_end, evS, c]
    rfl
  refine run_rt (ρ := [.ow (.sh F), .ow (.sh v), .no]) rfl (ss_stop ?_) rfl
  show evS (P k) [] q20_0 [.ow (.sh F), .ow (.sh v), .no] = _
  unfold q20_0
  rw [evS, b]
  rfl
end K75
end
section
namespace K75
open PySem L2 Evl PyProof.Rows CH
mutual
def plB : D → Bool
  | .non => true
  | .bl _ => true
  | .int _ => true
  | .str s => PyData.strOk s
  | .tup ds => decide (ds.length < 1000000) && plBs ds
  | .lst ds => decide (ds.length < 1000000) && plBs ds
  | _ => false
def plBs : List D → Bool
  | [] => true
  | d :: ds => plB d && plBs ds
end
mutual
theorem plB_ok : ∀ d : D, plB d = true → Pl d
  | .non, _ => .non
  | .bl _, _ => .bl _
  | .int _, _ => .int _
  | .str _, h => .str h
  | .tup ds, h => by
    simp only [plB, Bool.and_eq_true, decide_eq_true_eq] at h
    exact .tup h.1 (plBs_ok ds h.2)
  | .lst ds, h => by
    simp only [plB, Bool.and_eq_true, decide_eq_true_eq] at h
    exact .lst h.1 (plBs_ok ds h.2)
theorem plBs_ok : ∀ ds : List D, plBs ds = true → ∀ d ∈ ds, Pl d
  | [], _ => fun d h => absurd h (by simp)
  | e :: ds, h => by
    simp only [plBs, Bool.and_eq_true] at h
    intro d hd
    rcases List.mem_cons.mp hd with he | hd
    · rw [he]; exact plB_ok e h.1
    · exact plBs_ok ds h.2 d hd
end

def GoodR (lo hi : Int) (ns : List Int) : Prop := ns.Pairwise (· < ·) ∧ (∀ x ∈ ns, lo ≤ x ∧ x ≤ hi) ∧ (ns.length : Int) ≤ hi - lo + 1
theorem up_good (n : Int) (h : 0 ≤ n) : GoodR 1 n (up n) := by
  refine ⟨?_, ?_, ?_⟩
  · unfold up
    rw [List.pairwise_map]
    exact (List.pairwise_lt_range (n := n.toNat)).imp fun h => by omega
  · intro x hx
    simp only [up, List.mem_map, List.mem_range] at hx
    obtain ⟨j, hj, rfl⟩ := hx
    omega
  · simp only [up, List.length_map, List.length_range]; omega
theorem up_nodup (n : Int) (h : 0 ≤ n) : (up n).Nodup := (up_good n h).1.imp fun h => by omega
theorem up_len (n : Int) : (up n).length = n.toNat := by simp [up]
def preB : D → Bool
  | .tup ds => decide ((flatG ds).length < 64)
  | _ => true
theorem preB_ok {d : D} (h : preB d = true) : preOk d := by
  cases d with
  | tup ds => simpa [preB, preOk] using h
  | _ => trivial
/-- what a prefix has -/
def preLike (n : Int) : D → Bool
  | .tup ds => ds.all isGroup && (decide ((flatG ds).length = n.toNat) && (flatG ds).all fun x => decide (1 ≤ x) && decide (x ≤ n))
  | _ => false
theorem sortI_up {n : Int} {L : List Int} (h : L.Perm (up n)) (h0 : 0 ≤ n) : sortI L = up n :=
  List.Perm.eq_of_pairwise (le := (· ≤ ·)) (fun a b _ _ h1 h2 => Int.le_antisymm h1 h2) (sortI_le L) ((up_good n h0).1.imp fun h => Int.le_of_lt h) ((sortI_perm L).trans h)
theorem preLike_of {n : Int} {d : D} (h0 : 0 ≤ n) (h : isPrefix n d = true) : preLike n d = true := by
  cases d <;> first | (cases h; done) | skip
  rename_i ds
  simp only [isPrefix, Bool.and_eq_true, decide_eq_true_eq] at h
  simp only [preLike, Bool.and_eq_true, decide_eq_true_eq]
  have hp := sortI_perm (flatG ds)
  rw [h.2] at hp
  refine ⟨h.1, ?_, ?_⟩
  · rw [← hp.length_eq, up_len]
  · rw [List.all_eq_true]
    intro x hx
    have := (up_good n h0).2.1 x (hp.mem_iff.mpr hx)
    simp only [Bool.and_eq_true, decide_eq_true_eq]
    exact this
theorem not_prefix {n : Int} {d : D} (h0 : 0 ≤ n) (h : preLike n d = false) : isPrefix n d = false := by
  cases e : isPrefix n d with
  | false => rfl
  | true => rw [preLike_of h0 e] at h; cases h
theorem rising_of {ns : List Int} (h : ns.Pairwise (· < ·)) : rising ns = true := by
  unfold rising
  rw [List.all_eq_true]
  intro j hj
  have hj := List.mem_range.mp hj
  have h1 : j < ns.length := by omega
  have h2 : j + 1 < ns.length := by omega
  unfold bI
  rw [decide_eq_true_eq, List.getD_eq_getElem?_getD, List.getD_eq_getElem?_getD, List.getElem?_eq_getElem h1, List.getElem?_eq_getElem h2]
  exact List.pairwise_iff_getElem.mp h j (j + 1) h1 h2 (by omega)
theorem goodG_ok {g : Str × List Int} (h : GoodG g) : isGroup (grpD g) = true := by
  obtain ⟨w, ns⟩ := g
  show ((ES.any fun z => z == w) && (!(ns.map D.int).isEmpty && ((ns.map D.int).all isI && rising ((ns.map D.int).map numD)))) = true
  rw [numD_map, rising_of h.2.2]
  have h1 : (ES.any fun z => z == w) = true := by
    rcases h.1 with e | e <;> (simp only at e; subst e; decide +kernel)
  have h2 : (ns.map D.int).isEmpty = false := by
    have := h.2.1
    cases ns with
    | nil => exact absurd rfl this
    | cons a l => rfl
  have h3 : (ns.map D.int).all isI = true := by
    rw [List.all_eq_true]
    intro d hd
    obtain ⟨i, _, rfl⟩ := List.mem_map.mp hd
    rfl
  rw [h1, h2, h3]; rfl
theorem goodP_ok {n : Int} {gs : List (Str × List Int)} (h0 : 0 ≤ n) (h : ∀ g ∈ gs, GoodG g) (hp : (gs.flatMap (·.2)).Perm (up n)) : isPrefix n (.tup (gs.map grpD)) = true := by
  show ((gs.map grpD).all isGroup && decide (sortI (flatG (gs.map grpD)) = up n)) = true
  rw [flatG_map, sortI_up hp h0]
  have : (gs.map grpD).all isGroup = true := by
    rw [List.all_eq_true]
    intro d hd
    obtain ⟨g, hg, rfl⟩ := List.mem_map.mp hd
    exact goodG_ok (h g hg)
  rw [this, decide_eq_true rfl]; rfl
def rngL (a b : Int) : List Int := (List.range (b - a).toNat).map fun (i : Nat) => a + (i : Int)
def bad5 (n : Int) : List D := [.tup [grpD ("each", [n + 1])], .tup [grpD ("all", [1])], .tup [grpD ("each", []), grpD ("some", rngL 1 (n + 1))], .non, .str "each"]
def badX (n : Int) : D := .tup [grpD ("each", rngL 1 (n + 1)), grpD ("some", rngL 1 (n + 2))]
def bad2 (n : Int) : List D := [.tup [grpD ("each", [1]), grpD ("some", rngL 2 n)], .tup [grpD ("each", rngL 1 n), grpD ("some", rngL 2 (n + 1))]]
def bads (n : Int) : List D := bad5 n ++ [badX n] ++ if 2 < n then bad2 n else []
def badOk (n : Int) (d : D) : Bool := !preLike n d && (plB d && (preB d && ((D.tup [.str "prefix", d]).ok 6 && ((D.tup [.str "prefix", d]).small && decide ((D.tup [.str "prefix", d]).wt ≤ 100000)))))
theorem bads_ok : ∀ n : Nat, n < 6 → ∀ d ∈ bads n, badOk n d = true := by
  have key : ∀ a : Fin 6, (bads (a.val : Int)).all (badOk a.val) = true := by decide +kernel
  intro n hn d hd
  exact List.all_eq_true.mp (key ⟨n, hn⟩) d hd
theorem bad_facts {n : Nat} (hn : n < 6) {d : D} (h : d ∈ bads n) : isPrefix n d = false ∧ Pl d ∧ preOk d ∧ ∃ z, ∀ t : OT, t.toD = .tup [.str "prefix", d] → Op.ev (.bi .repr) [t] = some (.sh (.str z)) := by
  have := bads_ok n hn d h
  unfold badOk at this
  simp only [Bool.and_eq_true, Bool.not_eq_true', decide_eq_true_eq] at this
  exact ⟨not_prefix (by omega) this.1, plB_ok d this.2.1, preB_ok this.2.2.1, repr_ok (n := 6) this.2.2.2.1 (by decide) this.2.2.2.2.1 (by omega) rfl⟩
end K75
end
section
namespace K75
open PySem L2 Evl PyProof.Rows CH
theorem es_two : ∀ gs : List (Str × List Int), gs.map (·.1) = ES → ∃ v1 v2 : List Int, gs = [(("each" : Str), v1), (("some" : Str), v2)]
  | [], h => by simp [ES] at h
  | [_], h => by simp [ES] at h
  | [(a, v1), (b, v2)], h => by
    have : a = "each" ∧ b = "some" := by simpa [ES] using h
    obtain ⟨rfl, rfl⟩ := this
    exact ⟨v1, v2, rfl⟩
  | _ :: _ :: _ :: _, h => by simp [ES] at h
section
variable (k : Nat) (S DR N XS e6 e7 : Sl) (CL FF : D)
abbrev EL (S DR N : Sl) (CL FF : D) (XS e6 e7 e8 u9 u10 e11 u12 u14 : Sl) : CH.Env := [S, DR, N, .ow (.sh CL), .ow (.sh FF), XS, e6, e7, e8, u9, u10, e11, u12, .no, u14, .no]
theorem tup2 {Φ : Phi} {pl : List Nat} {e e' : CH.CE} {ρ ρ1 ρ2 : CH.Env} {t t' : OT} {d d' : D} (h : evE Φ pl e ρ = .ok (t, ρ1)) (h' : evE Φ pl e' ρ1 = .ok (t', ρ2)) (hd : t.toD = d) (hd' : t'.toD = d') : evE Φ pl (.tup (.cons e (.cons e' .nil))) ρ = .ok (.sh (.tup [d, d']), ρ2) := by
  rw [evE, evEs, h]
  simp only [CH.R.bind]
  rw [evEs, h']
  simp only [CH.R.bind, evEs]
  rw [if_pos (show [t, t'].length ≤ big from (by decide : 2 ≤ big))]
  simp only [toDs, hd, hd']
theorem bad_turn (e8 u9 u10 e11 u14 : Sl) (d : D) (z : Str) (hr : P k 20 [.sh FF, .sh d] = .ok (.sh (.tup [.str "prefix", d]), [.sh FF, .sh d])) (hz : ∀ t : OT, t.toD = .tup [.str "prefix", d] → Op.ev (.bi .repr) [t] = some (.sh (.str z))) :
    evSs (P k) [] p21_11 (EL S DR N CL FF XS e6 e7 e8 u9 u10 e11 (.ow (.sh d)) u14) = .ok (.nx, EL S DR N CL FF XS e6 e7 e8 u9 u10 e11 (.ow (.sh d)) u14) := by
  have c := call2 (Φ := P k) (pl := []) (f := 20) (e := .v 4) (e' := .v 12) (ρ := EL S DR N CL FF XS e6 e7 e8 u9 u10 e11 (.ow (.sh d)) u14) rfl rfl rfl rfl hr rfl
  have t := tup2 (Φ := P k) (pl := []) (e := .c (.str "prefix")) (e' := .v 12) (ρ := EL S DR N CL FF XS e6 e7 e8 u9 u10 e11 (.ow (.sh d)) u14) (d := .str "prefix") (d' := d) rfl rfl rfl rfl
  have o := evE_op2 (evE_op1 c (hz _ rfl)) (evE_op1 t (hz _ rfl)) (ev_ne_ss z)
  unfold p21_11
  rw [ss_end, ife_f (ρ1 := EL S DR N CL FF XS e6 e7 e8 u9 u10 e11 (.ow (.sh d)) u14) (by rw [evT, evO, o]; rfl)]
  rfl
theorem bad_loop (n : Nat) (hn : n < 6) (cs : List D) (e8 u9 u10 e11 u14 : Sl) : ∀ (ds : List D) (u12 : Sl), Fr u12 → (∀ d ∈ ds, d ∈ bads n) →
    ∃ u12', forL (fun ρ => evSs (P (k + 6)) [] p21_11 ρ) [] (.one 12) ds (EL S DR N CL (FD n cs) XS e6 e7 e8 u9 u10 e11 u12 u14) = .ok (.nx, EL S DR N CL (FD n cs) XS e6 e7 e8 u9 u10 e11 u12' u14)
  | [], u12, _, _ => ⟨u12, rfl⟩
  | d :: ds, u12, hu, h => by
    obtain ⟨h1, h2, h3, z, hz⟩ := bad_facts hn (h d (by simp))
    have r := refused_3 (k + 5) (FD n cs) d (ways_bad k n cs h2 h3 (by omega) (by omega) h1)
    have b := bad_turn (k + 6) S DR N XS e6 e7 CL (FD n cs) e8 u9 u10 e11 u14 d z r hz
    obtain ⟨u', ih⟩ := bad_loop n hn cs e8 u9 u10 e11 u14 ds (.ow (.sh d)) (.ow _) fun x hx => h x (by simp [hx])
    refine ⟨u', ?_⟩
    have st : setTg [] (.one 12) d (EL S DR N CL (FD n cs) XS e6 e7 e8 u9 u10 e11 u12 u14) = some (EL S DR N CL (FD n cs) XS e6 e7 e8 u9 u10 e11 (.ow (.sh d)) u14) := by
      rcases hu with rfl | ⟨e, rfl⟩ <;> rfl
    unfold forL
    rw [st]
    simp only
    rw [b]
    exact ih
/-- a right prefix -/
def GP (n : Int) (d : D) : Prop := ∃ gs : List (Str × List Int), d = .tup (gs.map grpD) ∧ (∀ g ∈ gs, GoodG g) ∧ (gs.flatMap (·.2)).Perm (up n) ∧ gs.length ≤ 4
theorem undef_repr : ∃ z, ∀ t : OT, t.toD = .tup [.str "undefined", .str "prefix"] → Op.ev (.bi .repr) [t] = some (.sh (.str z)) := repr_ok (n := 6) (by decide +kernel) (by decide) (by decide +kernel) (by decide +kernel) rfl
theorem list_t (vs : List Int) : Op.ev (.bi .list) [.sh (rD vs)] = some (.lst (vs.map iT)) := by
  show some (newL (vs.map .int)) = _
  rw [newL_map]
theorem pre_turn (n : Nat) (hn : n < 6) (cs : List (List Int)) (hl : cs.length < 100) (hc : ∀ c ∈ cs, GoodC n c) (e8 u10 u11 u12 u14 : Sl) (h14 : Fr u14) (d : D) (hd : GP n d) :
    ∃ u14', Fr u14' ∧ evSs (P (k + 6)) [] p21_10 (EL S DR N (.lst (cs.map rD)) (FD n (cs.map rD)) XS e6 e7 e8 (.ow (.sh d)) u10 u11 u12 u14) = .ok (.nx, EL S DR N (.lst (cs.map rD)) (FD n (cs.map rD)) XS e6 e7 e8 (.ow (.sh d)) u10 u11 u12 u14') := by
  obtain ⟨gs, rfl, hg, hp, hgl⟩ := hd
  have h0 : (0 : Int) ≤ n := by omega
  have hpx := goodP_ok h0 hg hp
  have hlen : (gs.flatMap (·.2)).length = n := by rw [hp.length_eq, up_len]; omega
  have hmem : ∀ g ∈ gs, ∀ x ∈ g.2, 1 ≤ x ∧ x ≤ n := fun g hgm x hx => up_mem (hp.mem_iff.mp (List.mem_flatMap.mpr ⟨g, hgm, hx⟩))
  have hg2 : ∀ g ∈ gs, g.2.length ≤ n := fun g hgm => by
    have : g.2.length ≤ (gs.flatMap (·.2)).length := by
      clear hpx hp hlen hmem hg hgl
      induction gs with
      | nil => exact absurd hgm (by simp)
      | cons a gs ih =>
        rw [List.flatMap_cons, List.length_append]
        rcases List.mem_cons.mp hgm with rfl | hm
        · omega
        · have := ih hm; omega
    omega
  have hcl : ∀ c ∈ cs, c.length < 1000 := fun c h => by have := goodC_len (hc c h) h0; omega
  have lc : evE (P (k + 6)) [] (.lc p21_6 (.one 15) (.seq (.bor 9 [])) p21_7) (EL S DR N (.lst (cs.map rD)) (FD n (cs.map rD)) XS e6 e7 e8 (.ow (.sh (.tup (gs.map grpD)))) u10 u11 u12 u14) = .ok (.lst (gs.map fun g => .sh (.str g.1)), EL S DR N (.lst (cs.map rD)) (FD n (cs.map rD)) XS e6 e7 e8 (.ow (.sh (.tup (gs.map grpD)))) u10 u11 u12 u14) :=
    evE_lc (Φ := P (k + 6)) (pl := []) (e := p21_6) (i := 15) (it := .seq (.bor 9 [])) (cs := p21_7) (ρ1 := EL S DR N (.lst (cs.map rD)) (FD n (cs.map rD)) XS e6 e7 e8 (.lk (.sh (.tup (gs.map grpD)))) u10 u11 u12 u14) (mk := grpD) (g := fun g => .str g.1) (xs := gs) rfl rfl (by simp) (by unfold big; omega) (fun ρ => rfl) (fun g _ => by
      have i0 : idxEv (.sh (grpD g)) 0 = some (.sh (.str g.1)) := at0 _ _
      generalize D.tup (gs.map grpD) = PR
      generalize grpD g = G at i0 ⊢
      show evE (P (k + 6)) [] p21_6 [S, DR, N, .ow (.sh (.lst (cs.map rD))), .ow (.sh (FD n (cs.map rD))), XS, e6, e7, e8, .lk (.sh PR), u10, u11, u12, .no, u14, .ow (.sh G)] = _
      generalize D.lst (cs.map rD) = x1
      generalize FD n (cs.map rD) = x2
      simp [p21_6, D.tyName, ev_isi_t, isTy, fillA, backA, goneA, cm_le_ii, cm_lt_ii, getV, Fn.run, Fn.run0, evSs, evS, evT, evAll, evAny, evO, evE, evOs, evEs, evAs, evB, evAnd, evOr, CH.R.bind, R.ofO, CH.Env.tree, CH.Env.own, CH.Env.ownL, OT.getP, lock, unlock, outs, tru_b, ev_eq_ii, ev_ne_ii, ev_lt_ii, ev_le_ii, ev_gt_ii, ev_ge_ii, ev_add_ii, ev_sub_ii, ev_neg_i, ev_int_i, ev_abs_i, ev_len_l, ev_len_t, ev_len_f, ev_idx, mulOk_r, ev_mul_ii, OT.toD, i0])
  have le : evE (P (k + 6)) [] (.lst (.cons (.c (.str "each")) (.cons (.c (.str "some")) .nil))) (EL S DR N (.lst (cs.map rD)) (FD n (cs.map rD)) XS e6 e7 e8 (.ow (.sh (.tup (gs.map grpD)))) u10 u11 u12 u14) = .ok (.lst [.sh (.str "each"), .sh (.str "some")], EL S DR N (.lst (cs.map rD)) (FD n (cs.map rD)) XS e6 e7 e8 (.ow (.sh (.tup (gs.map grpD)))) u10 u11 u12 u14) := by
    rw [evE]
    simp only [evEs, evE, CH.R.bind]
    rw [if_pos (show [OT.sh (.str "each"), OT.sh (.str "some")].length ≤ big from (by decide : 2 ≤ big))]
  have op : Op.ev (.cmp .eq) [.lst (gs.map fun g => .sh (.str g.1)), .lst [.sh (.str "each"), .sh (.str "some")]] = some (.sh (.bl (isES (gs.map (·.1))))) := by
    have := words_eq (gs.map (·.1)) (fun w hw' => by
      obtain ⟨g, hgm, rfl⟩ := List.mem_map.mp hw'
      exact (hg g hgm).1)
    show (eqD (.lst (toDs (gs.map fun g => .sh (.str g.1)))) (.lst [.str "each", .str "some"])).map _ = _
    rw [toDs_map gs fun g => D.str g.1]
    rw [List.map_map] at this
    rw [show (gs.map fun g => D.str g.1) = gs.map (D.str ∘ fun x => x.1) from rfl, this]
    rfl
  have tt : evT (P (k + 6)) [] (.val (.e (.op (.cmp .eq) (.cons (.e (.lc p21_6 (.one 15) (.seq (.bor 9 [])) p21_7)) (.cons (.e (.lst (.cons (.c (.str "each")) (.cons (.c (.str "some")) .nil)))) .nil))))) (EL S DR N (.lst (cs.map rD)) (FD n (cs.map rD)) XS e6 e7 e8 (.ow (.sh (.tup (gs.map grpD)))) u10 u11 u12 u14) = .ok (isES (gs.map (·.1)), EL S DR N (.lst (cs.map rD)) (FD n (cs.map rD)) XS e6 e7 e8 (.ow (.sh (.tup (gs.map grpD)))) u10 u11 u12 u14) := by
    rw [evT, evO, evE_op2 lc le op]
    rfl
  unfold p21_10
  rw [ss_end]
  cases hes : isES (gs.map (·.1)) with
  | false =>
    rw [hes] at tt
    obtain ⟨z, hz⟩ := undef_repr
    have r := refused_4 (k + 5) (FD n (cs.map rD)) (.tup (gs.map grpD)) (ways_undef k n (cs.map rD) gs (by omega) (fun g hgm => ⟨hg g hgm, by have := hg2 g hgm; omega⟩) (by omega) h0 (by omega) hpx hes)
    have c := call2 (Φ := P (k + 6)) (pl := []) (f := 20) (e := .v 4) (e' := .v 9) (ρ := EL S DR N (.lst (cs.map rD)) (FD n (cs.map rD)) XS e6 e7 e8 (.ow (.sh (.tup (gs.map grpD)))) u10 u11 u12 u14) rfl rfl rfl rfl r rfl
    have t := tup2 (Φ := P (k + 6)) (pl := []) (e := .c (.str "undefined")) (e' := .c (.str "prefix")) (ρ := EL S DR N (.lst (cs.map rD)) (FD n (cs.map rD)) XS e6 e7 e8 (.ow (.sh (.tup (gs.map grpD)))) u10 u11 u12 u14) (d := .str "undefined") (d' := .str "prefix") rfl rfl rfl rfl
    have o := evE_op2 (evE_op1 c (hz _ rfl)) (evE_op1 t (hz _ rfl)) (ev_ne_ss z)
    refine ⟨u14, h14, ?_⟩
    rw [ife_f tt, ss_end, ife_f (ρ1 := EL S DR N (.lst (cs.map rD)) (FD n (cs.map rD)) XS e6 e7 e8 (.ow (.sh (.tup (gs.map grpD)))) u10 u11 u12 u14) (by rw [evT, evO, o]; rfl)]
    rfl
  | true =>
    rw [hes] at tt
    have hw := isES_len hes
    obtain ⟨v1, v2, rfl⟩ := es_two gs hw
    have l1 : v1.length < 6 := by have := hg2 _ (List.mem_cons_self ..); simp only at this; omega
    have l2 : v2.length < 6 := by have := hg2 ("some", v2) (by simp); simp only at this; omega
    have s1 : ∀ v ∈ v1, absI v ≤ 100 := fun v hv => by have := hmem _ (List.mem_cons_self ..) v hv; unfold absI; split <;> omega
    have s2 : ∀ v ∈ v2, absI v ≤ 100 := fun v hv => by have := hmem ("some", v2) (by simp) v hv; unfold absI; split <;> omega
    obtain ⟨z, hz⟩ := ways_repr cs v1 v2 l1 l2 s1 s2
    have w := ways_run k n cs v1 v2 h0 (by omega) (by omega) hcl l1 l2 hpx
    have du := due_run (k + 4) cs v1 v2 (by omega) hcl l1 l2
    have g0 : idxEv (.sh (.tup [grpD ("each", v1), grpD ("some", v2)])) 0 = some (.sh (grpD ("each", v1))) := at0 _ _
    have g1 : idxEv (.sh (.tup [grpD ("each", v1), grpD ("some", v2)])) 1 = some (.sh (grpD ("some", v2))) := at1 _ _ _
    have i1 : idxEv (.sh (grpD ("each", v1))) 1 = some (.sh (rD v1)) := at1 _ _ _
    have i2 : idxEv (.sh (grpD ("some", v2))) 1 = some (.sh (rD v2)) := at1 _ _ _
    have tt : evT (P (k + 6)) [] _ (EL S DR N (.lst (cs.map rD)) (FD n (cs.map rD)) XS e6 e7 e8 (.ow (.sh (.tup [grpD ("each", v1), grpD ("some", v2)]))) u10 u11 u12 u14) = .ok (true, EL S DR N (.lst (cs.map rD)) (FD n (cs.map rD)) XS e6 e7 e8 (.ow (.sh (.tup [grpD ("each", v1), grpD ("some", v2)]))) u10 u11 u12 u14) := tt
    show ∃ u14', Fr u14' ∧ evS (P (k + 6)) [] _ (EL S DR N (.lst (cs.map rD)) (FD n (cs.map rD)) XS e6 e7 e8 (.ow (.sh (.tup [grpD ("each", v1), grpD ("some", v2)]))) u10 u11 u12 u14) = .ok (.nx, EL S DR N (.lst (cs.map rD)) (FD n (cs.map rD)) XS e6 e7 e8 (.ow (.sh (.tup [grpD ("each", v1), grpD ("some", v2)]))) u10 u11 u12 u14')
    generalize grpD ("each", v1) = G1 at g0 g1 i1 w tt ⊢
    generalize grpD ("some", v2) = G2 at g0 g1 i2 w tt ⊢
    generalize D.tup [G1, G2] = PR at g0 g1 w tt ⊢
    generalize FD n (cs.map rD) = FF at w tt ⊢
    generalize D.lst (cs.map rD) = CC at du tt ⊢
    have ei : ∀ (i : Int) (G : D) (V : List Int), idxEv (.sh PR) i = some (.sh G) → idxEv (.sh G) 1 = some (.sh (rD V)) → evE (P (k + 6)) [] (.op (.bi .list) (.cons (.e (.op .idx (.cons (.e (.op .idx (.cons (.bor 9 []) (.cons (.e (.c (.int i))) .nil)))) (.cons (.e (.c (.int 1))) .nil)))) .nil)) (EL S DR N CC FF XS e6 e7 e8 (.ow (.sh PR)) u10 u11 u12 u14) = .ok (.lst (V.map iT), EL S DR N CC FF XS e6 e7 e8 (.ow (.sh PR)) u10 u11 u12 u14) := fun i G V h1 h2 => by
      have lt := list_t V
      generalize rD V = RV at h2 lt
      generalize V.map iT = VT at lt ⊢
      simp [D.tyName, ev_isi_t, isTy, fillA, backA, goneA, cm_le_ii, cm_lt_ii, getV, Fn.run, Fn.run0, evSs, evS, evT, evAll, evAny, evO, evE, evOs, evEs, evAs, evB, evAnd, evOr, CH.R.bind, R.ofO, CH.Env.tree, CH.Env.own, CH.Env.ownL, OT.getP, lock, unlock, outs, tru_b, ev_eq_ii, ev_ne_ii, ev_lt_ii, ev_le_ii, ev_gt_ii, ev_ge_ii, ev_add_ii, ev_sub_ii, ev_neg_i, ev_int_i, ev_abs_i, ev_len_l, ev_len_t, ev_len_f, ev_idx, mulOk_r, ev_mul_ii, OT.toD, h1, h2, lt]
    have ld : ∀ V : List Int, OT.toD (.lst (V.map iT)) = .lst (V.map .int) := fun V => by show D.lst (toDs _) = _; rw [toDs_map V D.int]
    have c8 := call3 (Φ := P (k + 6)) (pl := []) (f := 19) (e := .mv 3) (ρ := EL S DR N CC FF XS e6 e7 e8 (.ow (.sh PR)) u10 u11 u12 u14) (d := CC) rfl rfl (ei 0 G1 v1 g0 i1) (ld v1) (ei 1 G2 v2 g1 i2) (ld v2) du rfl
    have e8' := evE_op1 c8 (hz _ rfl)
    have s8 : evS (P (k + 6)) [] p21_8 (EL S DR N CC FF XS e6 e7 e8 (.ow (.sh PR)) u10 u11 u12 u14) = .ok (.nx, EL S DR N CC FF XS e6 e7 e8 (.ow (.sh PR)) u10 u11 u12 (.ow (.sh (.str z)))) := by
      unfold p21_8
      rcases h14 with rfl | ⟨x, rfl⟩
      · rw [evS_set (u := .sh .non) e8' (.inl rfl) rfl]; rfl
      · rw [evS_set (u := .sh x) e8' (.inr rfl) rfl]; rfl
    have c9 := call2 (Φ := P (k + 6)) (pl := []) (f := 10) (e := .v 4) (e' := .v 9) (ρ := EL S DR N CC FF XS e6 e7 e8 (.ow (.sh PR)) u10 u11 u12 (.ow (.sh (.str z)))) rfl rfl rfl rfl w rfl
    have o9 : evE (P (k + 6)) [] (.op (.cmp .ne) (.cons (.e (.op (.bi .repr) (.cons (.e (.call 10 (.val (.v 4) (.val (.v 9) .nil)))) .nil))) (.cons (.bor 14 []) .nil))) (EL S DR N CC FF XS e6 e7 e8 (.ow (.sh PR)) u10 u11 u12 (.ow (.sh (.str z)))) = .ok (.sh (.bl false), EL S DR N CC FF XS e6 e7 e8 (.ow (.sh PR)) u10 u11 u12 (.ow (.sh (.str z)))) := by
      have r1 := evE_op1 c9 (hz _ rfl)
      rw [evE, evOs, r1]
      simp only [CH.R.bind]
      have b14 : evOs (P (k + 6)) [] (.cons (.bor 14 []) .nil) (EL S DR N CC FF XS e6 e7 e8 (.ow (.sh PR)) u10 u11 u12 (.ow (.sh (.str z)))) = .ok ([.sh (.str z)], EL S DR N CC FF XS e6 e7 e8 (.ow (.sh PR)) u10 u11 u12 (.ow (.sh (.str z)))) := rfl
      rw [b14]
      simp only [CH.R.bind, ev_ne_ss]
    have s9 : evS (P (k + 6)) [] p21_9 (EL S DR N CC FF XS e6 e7 e8 (.ow (.sh PR)) u10 u11 u12 (.ow (.sh (.str z)))) = .ok (.nx, EL S DR N CC FF XS e6 e7 e8 (.ow (.sh PR)) u10 u11 u12 (.ow (.sh (.str z)))) := by
      unfold p21_9
      rw [ife_f (ρ1 := EL S DR N CC FF XS e6 e7 e8 (.ow (.sh PR)) u10 u11 u12 (.ow (.sh (.str z)))) (by
        rw [evT, evAny, evT, evO, o9]
        simp only [CH.R.bind, tru_b, Bool.false_eq_true, if_false]
        rw [evAny, evT, evO, o9]
        simp only [CH.R.bind, tru_b, Bool.false_eq_true, if_false]
        rfl)]
      rfl
    refine ⟨.ow (.sh (.str z)), .ow _, ?_⟩
    rw [ife_t tt, ss_next s8, ss_end, s9]
theorem pre_loop (n : Nat) (hn : n < 6) (cs : List (List Int)) (hl : cs.length < 100) (hc : ∀ c ∈ cs, GoodC n c) (e8 u10 u11 u12 : Sl) : ∀ (ds : List D) (u9 u14 : Sl), Fr u9 → Fr u14 → (∀ d ∈ ds, GP n d) →
    ∃ u9' u14', forL (fun ρ => evSs (P (k + 6)) [] p21_10 ρ) [] (.one 9) ds (EL S DR N (.lst (cs.map rD)) (FD n (cs.map rD)) XS e6 e7 e8 u9 u10 u11 u12 u14) = .ok (.nx, EL S DR N (.lst (cs.map rD)) (FD n (cs.map rD)) XS e6 e7 e8 u9' u10 u11 u12 u14')
  | [], u9, u14, _, _, _ => ⟨u9, u14, rfl⟩
  | d :: ds, u9, u14, h9, h14, h => by
    obtain ⟨u14', h14', b⟩ := pre_turn k S DR N XS e6 e7 n hn cs hl hc e8 u10 u11 u12 u14 h14 d (h d (by simp))
    obtain ⟨x9, x14, ih⟩ := pre_loop n hn cs hl hc e8 u10 u11 u12 ds (.ow (.sh d)) u14' (.ow _) h14' fun x hx => h x (by simp [hx])
    refine ⟨x9, x14, ?_⟩
    have st : setTg [] (.one 9) d (EL S DR N (.lst (cs.map rD)) (FD n (cs.map rD)) XS e6 e7 e8 u9 u10 u11 u12 u14) = some (EL S DR N (.lst (cs.map rD)) (FD n (cs.map rD)) XS e6 e7 e8 (.ow (.sh d)) u10 u11 u12 u14) := by
      rcases h9 with rfl | ⟨e, rfl⟩ <;> rfl
    unfold forL
    rw [st]
    simp only
    rw [b]
    exact ih
end
end K75
end
section
namespace K75
open PySem L2 Evl PyProof.Rows CH
theorem clGo_of {n : Int} : ∀ (ns : List Int) (a : Int), ns.Pairwise (fun x y => absI x < absI y) → (∀ x ∈ ns, a < absI x ∧ absI x ≤ n) → clGo n a (ns.map .int) = true
  | [], _, _, _ => rfl
  | x :: ns, a, hp, h => by
    show (if a < absI x ∧ absI x ≤ n then clGo n (absI x) (ns.map .int) else false) = true
    rw [if_pos (h x (by simp))]
    rw [List.pairwise_cons] at hp
    exact clGo_of ns (absI x) hp.2 fun y hy => ⟨hp.1 y hy, (h y (by simp [hy])).2⟩
theorem lst2 {Φ : Phi} {pl : List Nat} {e e' : CH.CE} {ρ ρ1 ρ2 : CH.Env} {t t' : OT} (h : evE Φ pl e ρ = .ok (t, ρ1)) (h' : evE Φ pl e' ρ1 = .ok (t', ρ2)) : evE Φ pl (.lst (.cons e (.cons e' .nil))) ρ = .ok (.lst [t, t'], ρ2) := by
  rw [evE, evEs, h]
  simp only [CH.R.bind]
  rw [evEs, h']
  simp only [CH.R.bind, evEs]
  rw [if_pos (show [t, t'].length ≤ big from (by decide : 2 ≤ big))]
theorem call4 {Φ : Phi} {pl : List Nat} {f : Nat} {e1 e2 e3 e4 : CH.CE} {ρ : CH.Env} {d1 d2 d3 d4 : D} {t : OT} {ws : List OT} (h1 : evE Φ pl e1 ρ = .ok (.sh d1, ρ)) (h2 : evE Φ pl e2 ρ = .ok (.sh d2, ρ)) (h3 : evE Φ pl e3 ρ = .ok (.sh d3, ρ)) (h4 : evE Φ pl e4 ρ = .ok (.sh d4, ρ)) (h : Φ f [.sh d1, .sh d2, .sh d3, .sh d4] = .ok (t, ws)) (hw : ws.length = 4) : evE Φ pl (.call f (.val e1 (.val e2 (.val e3 (.val e4 .nil))))) ρ = .ok (t, ρ) := by
  match ws, hw with
  | [a, b, c, d], _ =>
    rw [evE, evAs, h1]
    simp only [CH.R.bind]
    rw [evAs, h2]
    simp only [CH.R.bind]
    rw [evAs, h3]
    simp only [CH.R.bind]
    rw [evAs, h4]
    simp only [CH.R.bind, evAs, OT.toD, fillA, Option.map, h, backA, goneA]
theorem fz_ev {Φ : Phi} {pl : List Nat} {e : CH.CE} {ρ ρ1 : CH.Env} {t : OT} (h : evE Φ pl e ρ = .ok (t, ρ1)) : evE Φ pl (.fz e) ρ = .ok (.sh t.toD, ρ1) := by rw [evE, h]; rfl
section
variable (k : Nat) (ns : List Int)
theorem w0 : ∃ (n : Nat) (cs : List (List Int)), n < 6 ∧ cs.length ≤ 6 ∧ (∀ c ∈ cs, GoodC n c) ∧ ∀ tl : CSs,
    evSs (P (k + 6)) [] (.cons q21_0 (.cons q21_1 (.cons q21_2 (.cons q21_3 tl)))) ((.ow (.sh (scr ns))) :: List.replicate 15 .no) =
      evSs (P (k + 6)) [] tl [.ow (.sh (scr ns)), .ow (.sh (.tup [.int n, .lst (cs.map rD)])), .ow (.sh (.int n)), .ow (.sh (.lst (cs.map rD))), .ow (.sh (FD n (cs.map rD))), .no, .no, .no, .no, .no, .no, .no, .no, .no, .no, .no] := by
  obtain ⟨n, cs, hn, hl, hg, hr⟩ := formula_draw (k + 3) ns
  refine ⟨n, cs, hn, hl, hg, fun tl => ?_⟩
  have c0 := call4 (Φ := P (k + 6)) (pl := []) (f := 16) (e1 := .v 0) (e2 := .c (.int 1)) (e3 := .c (.int 5)) (e4 := .c (.int 6)) (ρ := (.ow (.sh (scr ns))) :: List.replicate 15 .no) rfl rfl rfl rfl hr rfl
  have s0 : evS (P (k + 6)) [] q21_0 ((.ow (.sh (scr ns))) :: List.replicate 15 .no) = .ok (.nx, [.ow (.sh (scr ns)), .ow (.sh (.tup [.int n, .lst (cs.map rD)])), .no, .no, .no, .no, .no, .no, .no, .no, .no, .no, .no, .no, .no, .no]) := by
    unfold q21_0
    rw [evS_set (u := .sh .non) c0 (.inl rfl) rfl]
    rfl
  have f := formula_run (k + 2) n (by omega) (cs.map rD) true (fun c hc => by
    obtain ⟨x, hx, rfl⟩ := List.mem_map.mp hc
    have hgx := hg x hx
    have hlx := goodC_len hgx (by omega)
    refine ⟨.tup (by rw [List.length_map]; omega) fun d hd => ?_, ?_⟩
    · obtain ⟨i, _, rfl⟩ := List.mem_map.mp hd
      exact .int i
    · exact clGo_of x 0 hgx.1 fun a ha => by have := hgx.2 a ha; omega)
  have f : P (k + 6) 23 [.sh (.int n), .sh (.lst (cs.map rD))] = .ok (.obj 0 ["n", "clauses"] [.sh (.int n), .sh (.tup (cs.map rD))], [.sh (.int n), .sh (.lst (cs.map rD))]) := f
  have hFD : OT.toD (.obj 0 ["n", "clauses"] [.sh (.int n), .sh (.tup (cs.map rD))]) = FD n (cs.map rD) := rfl
  have g0 : idxEv (.sh (.tup [.int n, .lst (cs.map rD)])) 0 = some (.sh (.int n)) := at0 _ _
  have g1 : idxEv (.sh (.tup [.int n, .lst (cs.map rD)])) 1 = some (.sh (.lst (cs.map rD))) := at1 _ _ _
  have li : Op.ev (.bi .list) [.sh (.lst (cs.map rD))] = some (.lst (cs.map shR)) := by
    show some (newL (cs.map rD)) = _
    rw [newL_map]
  have ld : OT.toD (.lst (cs.map shR)) = .lst (cs.map rD) := RS.toD (.inl rfl)
  rw [ss_next s0]
  generalize D.tup [.int n, .lst (cs.map rD)] = DR at g0 g1 ⊢
  generalize FD n (cs.map rD) = FF at hFD ⊢
  generalize scr ns = SC
  rw [ss_next (ρ1 := [.ow (.sh SC), .ow (.sh DR), .ow (.sh (.int n)), .no, .no, .no, .no, .no, .no, .no, .no, .no, .no, .no, .no, .no]) (by
    generalize (n : Int) = nn at g0 ⊢
    simp [q21_1, D.tyName, ev_isi_t, isTy, fillA, backA, goneA, cm_le_ii, cm_lt_ii, getV, Fn.run, Fn.run0, evSs, evS, evT, evAll, evAny, evO, evE, evOs, evEs, evAs, evB, evAnd, evOr, CH.R.bind, R.ofO, CH.Env.tree, CH.Env.own, CH.Env.ownL, OT.getP, lock, unlock, outs, tru_b, ev_eq_ii, ev_ne_ii, ev_lt_ii, ev_le_ii, ev_gt_ii, ev_ge_ii, ev_add_ii, ev_sub_ii, ev_neg_i, ev_int_i, ev_abs_i, ev_len_l, ev_len_t, ev_len_f, ev_idx, mulOk_r, ev_mul_ii, OT.toD, g0])]
  rw [ss_next (ρ1 := [.ow (.sh SC), .ow (.sh DR), .ow (.sh (.int n)), .ow (.sh (.lst (cs.map rD))), .no, .no, .no, .no, .no, .no, .no, .no, .no, .no, .no, .no]) (by
    generalize (n : Int) = nn
    generalize D.lst (cs.map rD) = CC at g1 ⊢
    simp [q21_2, D.tyName, ev_isi_t, isTy, fillA, backA, goneA, cm_le_ii, cm_lt_ii, getV, Fn.run, Fn.run0, evSs, evS, evT, evAll, evAny, evO, evE, evOs, evEs, evAs, evB, evAnd, evOr, CH.R.bind, R.ofO, CH.Env.tree, CH.Env.own, CH.Env.ownL, OT.getP, lock, unlock, outs, tru_b, ev_eq_ii, ev_ne_ii, ev_lt_ii, ev_le_ii, ev_gt_ii, ev_ge_ii, ev_add_ii, ev_sub_ii, ev_neg_i, ev_int_i, ev_abs_i, ev_len_l, ev_len_t, ev_len_f, ev_idx, mulOk_r, ev_mul_ii, OT.toD, g1])]
  rw [ss_next (ρ1 := [.ow (.sh SC), .ow (.sh DR), .ow (.sh (.int n)), .ow (.sh (.lst (cs.map rD))), .ow (.sh FF), .no, .no, .no, .no, .no, .no, .no, .no, .no, .no, .no]) (by
    have e3 : evE (P (k + 6)) [] (.op (.bi .list) (.cons (.bor 3 []) .nil)) [.ow (.sh SC), .ow (.sh DR), .ow (.sh (.int n)), .ow (.sh (.lst (cs.map rD))), .no, .no, .no, .no, .no, .no, .no, .no, .no, .no, .no, .no] = .ok (.lst (cs.map shR), [.ow (.sh SC), .ow (.sh DR), .ow (.sh (.int n)), .ow (.sh (.lst (cs.map rD))), .no, .no, .no, .no, .no, .no, .no, .no, .no, .no, .no, .no]) := by
      generalize (n : Int) = nn
      generalize D.lst (cs.map rD) = CC at li ⊢
      generalize cs.map shR = CT at li ⊢
      simp [D.tyName, ev_isi_t, isTy, fillA, backA, goneA, cm_le_ii, cm_lt_ii, getV, Fn.run, Fn.run0, evSs, evS, evT, evAll, evAny, evO, evE, evOs, evEs, evAs, evB, evAnd, evOr, CH.R.bind, R.ofO, CH.Env.tree, CH.Env.own, CH.Env.ownL, OT.getP, lock, unlock, outs, tru_b, ev_eq_ii, ev_ne_ii, ev_lt_ii, ev_le_ii, ev_gt_ii, ev_ge_ii, ev_add_ii, ev_sub_ii, ev_neg_i, ev_int_i, ev_abs_i, ev_len_l, ev_len_t, ev_len_f, ev_idx, mulOk_r, ev_mul_ii, OT.toD, li]
    have c2 := call2 (Φ := P (k + 6)) (pl := []) (f := 23) (e := .mv 2) (ρ := [.ow (.sh SC), .ow (.sh DR), .ow (.sh (.int n)), .ow (.sh (.lst (cs.map rD))), .no, .no, .no, .no, .no, .no, .no, .no, .no, .no, .no, .no]) (d := .int n) rfl rfl e3 ld f rfl
    unfold q21_3
    rw [evS_set (u := .sh .non) (fz_ev c2) (.inl rfl) rfl, hFD]
    rfl)]
theorem lim2 : (∀ m ∈ List.replicate 5 (2 : Int) ++ [5, 9], 0 < m ∧ m < 1073741824) := by decide
theorem w1 (DR : D) (n : Int) (CC FF : D) : ∃ xs : List Int, Within xs (List.replicate 5 (2 : Int) ++ [5, 9]) ∧ evS (P (k + 6)) [] q21_4 [.ow (.sh (scr ns)), .ow (.sh DR), .ow (.sh (.int n)), .ow (.sh CC), .ow (.sh FF), .no, .no, .no, .no, .no, .no, .no, .no, .no, .no, .no] = .ok (.nx, EL (.ow (.sh (scr ns))) (.ow (.sh DR)) (.ow (.sh (.int n))) CC FF (.ow (.lst (xs.map iT))) .no .no .no .no .no .no .no .no) := by
  obtain ⟨c, hc⟩ := cell_at (k + 5) ns (.c (.int 0)) [.ow (.sh (scr ns)), .ow (.sh DR), .ow (.sh (.int n)), .ow (.sh CC), .ow (.sh FF), .no, .no, .no, .no, .no, .no, .no, .no, .no, .no, .no] 0 rfl rfl
  obtain ⟨xs, hw, hd⟩ := draws_eq (k + 5) c (List.replicate 5 (2 : Int) ++ [5, 9]) lim2 (by decide)
  refine ⟨xs, hw, ?_⟩
  have l3 : evE (P (k + 6)) [] (.op (.bin .add) (.cons (.e (.op (.bin .mul) (.cons (.e (.lst (.cons (.c (.int 2)) .nil))) (.cons (.e (.c (.int 5))) .nil)))) (.cons (.e (.lst (.cons (.c (.int 5)) (.cons (.c (.int 9)) .nil)))) .nil))) [.ow (.sh (scr ns)), .ow (.sh DR), .ow (.sh (.int n)), .ow (.sh CC), .ow (.sh FF), .no, .no, .no, .no, .no, .no, .no, .no, .no, .no, .no] = .ok (.lst ((List.replicate 5 (2 : Int) ++ [5, 9]).map iT), [.ow (.sh (scr ns)), .ow (.sh DR), .ow (.sh (.int n)), .ow (.sh CC), .ow (.sh FF), .no, .no, .no, .no, .no, .no, .no, .no, .no, .no, .no]) := by kernel_rfl
  have c2 := call2 hc rfl l3 (toDs_i _ ▸ rfl : OT.toD _ = D.lst ((List.replicate 5 (2 : Int) ++ [5, 9]).map .int)) hd rfl
  unfold q21_4
  rw [evS_set (u := .sh .non) c2 (.inl rfl) rfl]
  rfl
end
end K75
end
section
namespace K75
open PySem L2 Evl PyProof.Rows CH
def selL (xs : List Int) (n : Nat) (b : Int) : List Int := ((List.range n).filter fun j => decide (xs.getD j 0 = b)).map fun (j : Nat) => 1 + (j : Int)
theorem selL_inc (xs : List Int) (n : Nat) (b : Int) : (selL xs n b).Pairwise (· < ·) := by
  unfold selL
  rw [List.pairwise_map]
  exact ((List.pairwise_lt_range (n := n)).filter _).imp fun h => by omega
theorem selL_perm (xs : List Int) (n : Nat) (h : ∀ j, j < n → xs.getD j 0 = 0 ∨ xs.getD j 0 = 1) : (selL xs n 0 ++ selL xs n 1).Perm (up n) := by
  unfold selL up
  rw [← List.map_append, Int.toNat_natCast]
  refine List.Perm.map _ ?_
  have e : (List.range n).filter (fun j => decide (xs.getD j 0 = 1)) = (List.range n).filter fun j => !decide (xs.getD j 0 = 0) := List.filter_congr fun j hj => by
    have := h j (List.mem_range.mp hj)
    rcases this with e | e <;> rw [e] <;> rfl
  rw [e]
  exact List.filter_append_perm _ _
theorem ne_nilI (xs : List Int) : Op.ev (.cmp .ne) [.lst (xs.map iT), .lst []] = some (.sh (.bl (!xs.isEmpty))) := by
  have h := eq_nilI xs
  have h : (eqD (.lst (toDs (xs.map iT))) (.lst [])).map (fun b => OT.sh (.bl b)) = some (.sh (.bl xs.isEmpty)) := h
  show ((eqD (.lst (toDs (xs.map iT))) (.lst [])).map (! ·)).map _ = _
  cases e : eqD (.lst (toDs (xs.map iT))) (.lst []) with
  | none => rw [e] at h; cases h
  | some b =>
    rw [e] at h
    have : b = xs.isEmpty := by simpa using h
    rw [this]
    rfl
theorem add_ds (ds es : List D) (h : ds.length + es.length ≤ 100000) : Op.ev (.bin .add) [.lst (ds.map .sh), .lst (es.map .sh)] = some (.lst ((ds ++ es).map .sh)) := by
  show ((OT.lst (ds.map .sh)).litems.bind fun x => (OT.lst (es.map .sh)).litems.bind fun y => guard_ (decide (x.length + y.length ≤ big)) (newL (x ++ y))) = _
  rw [litems_sh, litems_sh]
  show guard_ (decide (ds.length + es.length ≤ big)) (newL (ds ++ es)) = _
  rw [decide_eq_true (by unfold big; omega)]
  rfl
section
variable (k : Nat) (S DR : Sl) (n : Nat) (CC FF : D) (xs : List Int)
theorem sel_ev (b : Int) (e6 e7 : Sl) (hx : n ≤ xs.length) (hn : n < 6) (e : CH.CE) (cs : CTs) (he : e = .v 13) (hcs : cs = .cons (.val (.e (.op (.cmp .eq) (.cons (.e (.op .idx (.cons (.bor 5 []) (.cons (.e (.op (.bin .sub) (.cons (.bor 13 []) (.cons (.e (.c (.int 1))) .nil)))) .nil)))) (.cons (.e (.c (.int b))) .nil))))) .nil) :
    evE (P k) [] (.lc e (.one 13) (.rng2 (.c (.int 1)) (.op (.bin .add) (.cons (.bor 2 []) (.cons (.e (.c (.int 1))) .nil)))) cs) (EL S DR (.ow (.sh (.int n))) CC FF (.ow (.lst (xs.map iT))) e6 e7 .no .no .no .no .no .no) = .ok (.lst ((selL xs n b).map iT), EL S DR (.ow (.sh (.int n))) CC FF (.ow (.lst (xs.map iT))) e6 e7 .no .no .no .no .no .no) := by
  subst he hcs
  have hI := rng_up k [] (EL S DR (.ow (.sh (.int n))) CC FF (.ow (.lst (xs.map iT))) e6 e7 .no .no .no .no .no .no) 2 n (by omega) rfl
  have := evE_lcf (Φ := P k) (pl := []) (e := .v 13) (i := 13) (xs := List.range n) (mk := fun (j : Nat) => .int (1 + (j : Int))) (g := fun (j : Nat) => .int (1 + (j : Int))) (p := fun j => decide (xs.getD j 0 = b)) hI rfl (by simp) (by rw [List.length_range]; unfold big; omega)
    (cs := .cons (.val (.e (.op (.cmp .eq) (.cons (.e (.op .idx (.cons (.bor 5 []) (.cons (.e (.op (.bin .sub) (.cons (.bor 13 []) (.cons (.e (.c (.int 1))) .nil)))) .nil)))) (.cons (.e (.c (.int b))) .nil))))) .nil) (fun j hj => ⟨by
    have hj := List.mem_range.mp hj
    have ix := idx_ow xs j (by omega)
    rw [show (j : Int) = 1 + (j : Int) - 1 by omega] at ix
    show evAll (P k) [] _ [S, DR, .ow (.sh (.int n)), .ow (.sh CC), .ow (.sh FF), .ow (.lst (xs.map iT)), e6, e7, .no, .no, .no, .no, .no, .ow (.sh (.int (1 + (j : Int)))), .no, .no] = _
    show _ = R.ok (_, [S, DR, .ow (.sh (.int n)), .ow (.sh CC), .ow (.sh FF), .ow (.lst (xs.map iT)), e6, e7, .no, .no, .no, .no, .no, .ow (.sh (.int (1 + (j : Int)))), .no, .no])
    generalize xs.getD j 0 = x at ix ⊢
    generalize 1 + (j : Int) = v at ix ⊢
    generalize xs.map iT = XT at ix ⊢
    generalize (n : Int) = nn
    have o : evE (P k) [] (.op (.cmp .eq) (.cons (.e (.op .idx (.cons (.bor 5 []) (.cons (.e (.op (.bin .sub) (.cons (.bor 13 []) (.cons (.e (.c (.int 1))) .nil)))) .nil)))) (.cons (.e (.c (.int b))) .nil))) [S, DR, .ow (.sh (.int nn)), .ow (.sh CC), .ow (.sh FF), .ow (.lst XT), e6, e7, .no, .no, .no, .no, .no, .ow (.sh (.int v)), .no, .no] = .ok (.sh (.bl (decide (x = b))), [S, DR, .ow (.sh (.int nn)), .ow (.sh CC), .ow (.sh FF), .ow (.lst XT), e6, e7, .no, .no, .no, .no, .no, .ow (.sh (.int v)), .no, .no]) := by simp [D.tyName, ev_isi_t, isTy, fillA, backA, goneA, cm_le_ii, cm_lt_ii, getV, Fn.run, Fn.run0, evSs, evS, evT, evAll, evAny, evO, evE, evOs, evEs, evAs, evB, evAnd, evOr, CH.R.bind, R.ofO, CH.Env.tree, CH.Env.own, CH.Env.ownL, OT.getP, lock, unlock, outs, tru_b, ev_eq_ii, ev_ne_ii, ev_lt_ii, ev_le_ii, ev_gt_ii, ev_ge_ii, ev_add_ii, ev_sub_ii, ev_neg_i, ev_int_i, ev_abs_i, ev_len_l, ev_len_t, ev_len_f, ev_idx, mulOk_r, ev_mul_ii, OT.toD, ix]
    rw [evAll, evT, evO, o]
    simp only [CH.R.bind, tru_b]
    cases decide (x = b) <;> rfl, fun _ => rfl⟩)
  rw [this]
  unfold selL
  rw [List.map_map]
  rfl
theorem pre_ev (ns : List Int) (i : Nat) (hn : n < 6) (e6 e7 : Sl) : ∃ d, GP n d ∧ evE (P (k + 6)) [] (.call 18 (.val (.call 11 (.val (.v 0) (.val (.c (.int (i : Int))) .nil))) (.val (.mv 2) .nil))) (EL (.ow (.sh (scr ns))) DR (.ow (.sh (.int n))) CC FF (.ow (.lst (xs.map iT))) e6 e7 .no .no .no .no .no .no) = .ok (.sh d, EL (.ow (.sh (scr ns))) DR (.ow (.sh (.int n))) CC FF (.ow (.lst (xs.map iT))) e6 e7 .no .no .no .no .no .no) := by
  obtain ⟨c, hc⟩ := cell_at (k + 5) ns (.c (.int (i : Int))) (EL (.ow (.sh (scr ns))) DR (.ow (.sh (.int n))) CC FF (.ow (.lst (xs.map iT))) e6 e7 .no .no .no .no .no .no) i rfl rfl
  obtain ⟨ps, h1, h2, h3, hr⟩ := prefix_draw (k + 4) c n (by omega)
  exact ⟨_, ⟨ps, rfl, h1, h2, h3⟩, call2 hc rfl (show evE (P (k + 6)) [] (.mv 2) (EL (.ow (.sh (scr ns))) DR (.ow (.sh (.int n))) CC FF (.ow (.lst (xs.map iT))) e6 e7 .no .no .no .no .no .no) = .ok (.sh (.int n), EL (.ow (.sh (scr ns))) DR (.ow (.sh (.int n))) CC FF (.ow (.lst (xs.map iT))) e6 e7 .no .no .no .no .no .no) from rfl) rfl hr rfl⟩
theorem gp_two {a b : Str} {u v : List Int} (ha : a = "each" ∨ a = "some") (hb : b = "each" ∨ b = "some") (hu : u ≠ []) (hv : v ≠ []) (pu : u.Pairwise (· < ·)) (pv : v.Pairwise (· < ·)) (hp : (u ++ v).Perm (up n)) : GP n (.tup [grpD (a, u), grpD (b, v)]) :=
  ⟨[(a, u), (b, v)], rfl, fun g hg => by
    have : g = (a, u) ∨ g = (b, v) := by simpa using hg
    rcases this with rfl | rfl
    · exact ⟨ha, hu, pu⟩
    · exact ⟨hb, hv, pv⟩, by simpa using hp, by simp⟩
theorem pre_more (n : Nat) (ds : List D) (u v : List Int) (hd : ds.length < 1000) (hds : ∀ d ∈ ds, GP n d) (pu : u.Pairwise (· < ·)) (pv : v.Pairwise (· < ·)) (hp : (u ++ v).Perm (up n)) (XS : Sl) :
    ∃ ds' : List D, (∀ d ∈ ds', GP n d) ∧ evS (P k) [] q21_8 (EL S DR (.ow (.sh (.int n))) CC FF XS (.ow (.lst (u.map iT))) (.ow (.lst (v.map iT))) (.ow (.lst (ds.map .sh))) .no .no .no .no .no) = .ok (.nx, EL S DR (.ow (.sh (.int n))) CC FF XS (.ow (.lst (u.map iT))) (.ow (.lst (v.map iT))) (.ow (.lst (ds'.map .sh))) .no .no .no .no .no) := by
  have n1 := ne_nilI u
  have n2 := ne_nilI v
  have t1 := tup_l u
  have t2 := tup_l v
  have hb0 : 0 ≤ big := by decide
  have hb2 : 2 ≤ big := by decide
  have tt : evT (P k) [] (.and (.cons (.val (.e (.op (.cmp .ne) (.cons (.bor 6 []) (.cons (.e (.lst .nil)) .nil))))) (.cons (.val (.e (.op (.cmp .ne) (.cons (.bor 7 []) (.cons (.e (.lst .nil)) .nil))))) .nil))) (EL S DR (.ow (.sh (.int n))) CC FF XS (.ow (.lst (u.map iT))) (.ow (.lst (v.map iT))) (.ow (.lst (ds.map .sh))) .no .no .no .no .no) = .ok (!u.isEmpty && !v.isEmpty, EL S DR (.ow (.sh (.int n))) CC FF XS (.ow (.lst (u.map iT))) (.ow (.lst (v.map iT))) (.ow (.lst (ds.map .sh))) .no .no .no .no .no) := by
    unfold EL
    generalize (n : Int) = nn
    generalize u.map iT = U at n1 ⊢
    generalize v.map iT = V at n2 ⊢
    generalize ds.map OT.sh = DD
    generalize (!u.isEmpty) = x at n1 ⊢
    generalize (!v.isEmpty) = y at n2 ⊢
    cases x <;> cases y <;> simp [D.tyName, ev_isi_t, isTy, fillA, backA, goneA, cm_le_ii, cm_lt_ii, getV, Fn.run, Fn.run0, evSs, evS, evT, evAll, evAny, evO, evE, evOs, evEs, evAs, evB, evAnd, evOr, CH.R.bind, R.ofO, CH.Env.tree, CH.Env.own, CH.Env.ownL, OT.getP, lock, unlock, outs, tru_b, ev_eq_ii, ev_ne_ii, ev_lt_ii, ev_le_ii, ev_gt_ii, ev_ge_ii, ev_add_ii, ev_sub_ii, ev_neg_i, ev_int_i, ev_abs_i, ev_len_l, ev_len_t, ev_len_f, ev_idx, mulOk_r, ev_mul_ii, OT.toD, n1, n2, hb0]
  unfold q21_8
  by_cases he : u ≠ [] ∧ v ≠ []
  · have hh : (!u.isEmpty && !v.isEmpty) = true := by
      obtain ⟨h1, h2⟩ := he
      cases u <;> cases v <;> first | exact absurd rfl h1 | exact absurd rfl h2 | rfl
    rw [hh] at tt
    have a1 := add_ds ds [D.tup [grpD ("each", u), grpD ("some", v)], D.tup [grpD ("some", v), grpD ("each", u)]] (by simp only [List.length_cons, List.length_nil]; omega)
    have a2 := ap_d (ds ++ [D.tup [grpD ("each", u), grpD ("some", v)], D.tup [grpD ("some", v), grpD ("each", u)]]) (.tup [grpD ("each", u), grpD ("each", v)]) (by simp only [List.length_append, List.length_cons, List.length_nil]; omega)
    refine ⟨ds ++ [D.tup [grpD ("each", u), grpD ("some", v)], D.tup [grpD ("some", v), grpD ("each", u)]] ++ [D.tup [grpD ("each", u), grpD ("each", v)]], fun d hd => ?_, ?_⟩
    · have : d ∈ ds ∨ d = .tup [grpD ("each", u), grpD ("some", v)] ∨ d = .tup [grpD ("some", v), grpD ("each", u)] ∨ d = .tup [grpD ("each", u), grpD ("each", v)] := by
        simpa [or_assoc] using hd
      rcases this with h | rfl | rfl | rfl
      · exact hds d h
      · exact gp_two (n := n) (.inl rfl) (.inr rfl) he.1 he.2 pu pv hp
      · exact gp_two (n := n) (.inr rfl) (.inl rfl) he.2 he.1 pv pu (List.perm_append_comm.trans hp)
      · exact gp_two (n := n) (.inl rfl) (.inl rfl) he.1 he.2 pu pv hp
    · have g1 : grpD ("each", u) = .tup [.str "each", rD u] := rfl
      have g2 : grpD ("some", v) = .tup [.str "some", rD v] := rfl
      have g3 : grpD ("each", v) = .tup [.str "each", rD v] := rfl
      have tE : evE (P k) [] (.op (.bi .tuple) (.cons (.bor 6 []) .nil)) = fun ρ => evE (P k) [] (.op (.bi .tuple) (.cons (.bor 6 []) .nil)) ρ := rfl
      have v6 : ∀ e8 : Sl, evE (P k) [] (.op (.bi .tuple) (.cons (.bor 6 []) .nil)) (EL S DR (.ow (.sh (.int n))) CC FF XS (.ow (.lst (u.map iT))) (.ow (.lst (v.map iT))) e8 .no .no .no .no .no) = .ok (.sh (rD u), EL S DR (.ow (.sh (.int n))) CC FF XS (.ow (.lst (u.map iT))) (.ow (.lst (v.map iT))) e8 .no .no .no .no .no) := fun e8 => by
        unfold EL
        generalize (n : Int) = nn
        generalize u.map iT = U at t1 ⊢
        generalize v.map iT = V
        generalize rD u = RU at t1 ⊢
        simp [D.tyName, ev_isi_t, isTy, fillA, backA, goneA, cm_le_ii, cm_lt_ii, getV, Fn.run, Fn.run0, evSs, evS, evT, evAll, evAny, evO, evE, evOs, evEs, evAs, evB, evAnd, evOr, CH.R.bind, R.ofO, CH.Env.tree, CH.Env.own, CH.Env.ownL, OT.getP, lock, unlock, outs, tru_b, ev_eq_ii, ev_ne_ii, ev_lt_ii, ev_le_ii, ev_gt_ii, ev_ge_ii, ev_add_ii, ev_sub_ii, ev_neg_i, ev_int_i, ev_abs_i, ev_len_l, ev_len_t, ev_len_f, ev_idx, mulOk_r, ev_mul_ii, OT.toD, t1]
      have v7 : ∀ e8 : Sl, evE (P k) [] (.op (.bi .tuple) (.cons (.bor 7 []) .nil)) (EL S DR (.ow (.sh (.int n))) CC FF XS (.ow (.lst (u.map iT))) (.ow (.lst (v.map iT))) e8 .no .no .no .no .no) = .ok (.sh (rD v), EL S DR (.ow (.sh (.int n))) CC FF XS (.ow (.lst (u.map iT))) (.ow (.lst (v.map iT))) e8 .no .no .no .no .no) := fun e8 => by
        unfold EL
        generalize (n : Int) = nn
        generalize u.map iT = U
        generalize v.map iT = V at t2 ⊢
        generalize rD v = RU at t2 ⊢
        simp [D.tyName, ev_isi_t, isTy, fillA, backA, goneA, cm_le_ii, cm_lt_ii, getV, Fn.run, Fn.run0, evSs, evS, evT, evAll, evAny, evO, evE, evOs, evEs, evAs, evB, evAnd, evOr, CH.R.bind, R.ofO, CH.Env.tree, CH.Env.own, CH.Env.ownL, OT.getP, lock, unlock, outs, tru_b, ev_eq_ii, ev_ne_ii, ev_lt_ii, ev_le_ii, ev_gt_ii, ev_ge_ii, ev_add_ii, ev_sub_ii, ev_neg_i, ev_int_i, ev_abs_i, ev_len_l, ev_len_t, ev_len_f, ev_idx, mulOk_r, ev_mul_ii, OT.toD, t2]
      have wd : ∀ (w : Str) (ρ : CH.Env), evE (P k) [] (.c (.str w)) ρ = .ok (.sh (.str w), ρ) := fun w ρ => rfl
      have s4 : evS (P k) [] p21_4 (EL S DR (.ow (.sh (.int n))) CC FF XS (.ow (.lst (u.map iT))) (.ow (.lst (v.map iT))) (.ow (.lst (ds.map .sh))) .no .no .no .no .no) = .ok (.nx, EL S DR (.ow (.sh (.int n))) CC FF XS (.ow (.lst (u.map iT))) (.ow (.lst (v.map iT))) (.ow (.lst ((ds ++ [D.tup [grpD ("each", u), grpD ("some", v)], D.tup [grpD ("some", v), grpD ("each", u)]]).map .sh))) .no .no .no .no .no) := by
        have lk : lock (EL S DR (.ow (.sh (.int n))) CC FF XS (.ow (.lst (u.map iT))) (.ow (.lst (v.map iT))) (.ow (.lst (ds.map .sh))) .no .no .no .no .no) 8 = EL S DR (.ow (.sh (.int n))) CC FF XS (.ow (.lst (u.map iT))) (.ow (.lst (v.map iT))) (.lk (.lst (ds.map .sh))) .no .no .no .no .no := rfl
        have q1 := tup2 (wd "each" _) (v6 (.lk (.lst (ds.map .sh)))) rfl rfl
        have q2 := tup2 (wd "some" _) (v7 (.lk (.lst (ds.map .sh)))) rfl rfl
        have l := lst2 (tup2 q1 q2 rfl rfl) (tup2 q2 q1 rfl rfl)
        have e : evE (P k) [] (.op (.bin .add) (.cons (.bor 8 []) (.cons (.e (.lst (.cons (.tup (.cons (.tup (.cons (.c (.str "each")) (.cons (.op (.bi .tuple) (.cons (.bor 6 []) .nil)) .nil))) (.cons (.tup (.cons (.c (.str "some")) (.cons (.op (.bi .tuple) (.cons (.bor 7 []) .nil)) .nil))) .nil))) (.cons (.tup (.cons (.tup (.cons (.c (.str "some")) (.cons (.op (.bi .tuple) (.cons (.bor 7 []) .nil)) .nil))) (.cons (.tup (.cons (.c (.str "each")) (.cons (.op (.bi .tuple) (.cons (.bor 6 []) .nil)) .nil))) .nil))) .nil)))) .nil))) (EL S DR (.ow (.sh (.int n))) CC FF XS (.ow (.lst (u.map iT))) (.ow (.lst (v.map iT))) (.ow (.lst (ds.map .sh))) .no .no .no .no .no) = .ok (.lst ((ds ++ [D.tup [grpD ("each", u), grpD ("some", v)], D.tup [grpD ("some", v), grpD ("each", u)]]).map .sh), EL S DR (.ow (.sh (.int n))) CC FF XS (.ow (.lst (u.map iT))) (.ow (.lst (v.map iT))) (.ow (.lst (ds.map .sh))) .no .no .no .no .no) := by
          rw [evE, evOs]
          have tr : ((CH.Env.tree (EL S DR (.ow (.sh (.int n))) CC FF XS (.ow (.lst (u.map iT))) (.ow (.lst (v.map iT))) (.ow (.lst (ds.map .sh))) .no .no .no .no .no) 8).bind fun r => r.getP []) = some (.lst (ds.map .sh)) := rfl
          rw [tr]
          simp only
          rw [lk, evOs, l]
          simp only [CH.R.bind, evOs, OT.toD]
          have a1 : Op.ev (.bin .add) [.lst (ds.map .sh), .lst [.sh (.tup [.tup [.str "each", rD u], .tup [.str "some", rD v]]), .sh (.tup [.tup [.str "some", rD v], .tup [.str "each", rD u]])]] = _ := a1
          rw [a1]
          rfl
        unfold p21_4
        rw [evS_set (u := .lst (ds.map .sh)) e (.inr rfl) rfl]
        rfl
      have s5 : evS (P k) [] p21_5 (EL S DR (.ow (.sh (.int n))) CC FF XS (.ow (.lst (u.map iT))) (.ow (.lst (v.map iT))) (.ow (.lst ((ds ++ [D.tup [grpD ("each", u), grpD ("some", v)], D.tup [grpD ("some", v), grpD ("each", u)]]).map .sh))) .no .no .no .no .no) = .ok (.nx, EL S DR (.ow (.sh (.int n))) CC FF XS (.ow (.lst (u.map iT))) (.ow (.lst (v.map iT))) (.ow (.lst ((ds ++ [D.tup [grpD ("each", u), grpD ("some", v)], D.tup [grpD ("some", v), grpD ("each", u)]] ++ [D.tup [grpD ("each", u), grpD ("each", v)]]).map .sh))) .no .no .no .no .no) := by
        generalize hz : ds ++ [D.tup [grpD ("each", u), grpD ("some", v)], D.tup [grpD ("some", v), grpD ("each", u)]] = zs at a2 ⊢
        have q1 := tup2 (wd "each" _) (v6 (.ow (.lst (zs.map .sh)))) rfl rfl
        have q2 := tup2 (wd "each" _) (v7 (.ow (.lst (zs.map .sh)))) rfl rfl
        have q := tup2 q1 q2 rfl rfl
        have e2 : evEs (P k) [] (.cons (.tup (.cons (.tup (.cons (.c (.str "each")) (.cons (.op (.bi .tuple) (.cons (.bor 6 []) .nil)) .nil))) (.cons (.tup (.cons (.c (.str "each")) (.cons (.op (.bi .tuple) (.cons (.bor 7 []) .nil)) .nil))) .nil))) .nil) (EL S DR (.ow (.sh (.int n))) CC FF XS (.ow (.lst (u.map iT))) (.ow (.lst (v.map iT))) (.ow (.lst (zs.map .sh))) .no .no .no .no .no) = .ok ([.sh (.tup [.tup [.str "each", rD u], .tup [.str "each", rD v]])], EL S DR (.ow (.sh (.int n))) CC FF XS (.ow (.lst (u.map iT))) (.ow (.lst (v.map iT))) (.ow (.lst (zs.map .sh))) .no .no .no .no .no) := by
          rw [evEs, q]
          rfl
        have o : CH.Env.ownL (EL S DR (.ow (.sh (.int n))) CC FF XS (.ow (.lst (u.map iT))) (.ow (.lst (v.map iT))) (.ow (.lst (zs.map .sh))) .no .no .no .no .no) 8 = some (zs.map .sh) := rfl
        unfold p21_5
        rw [evS, evE, o]
        have a2 : muEv .append (zs.map .sh) [.sh (.tup [.tup [.str "each", rD u], .tup [.str "each", rD v]])] = _ := a2
        simp only [e2, CH.R.bind, o, a2]
        rfl
      rw [ife_t tt, ss_next s4, ss_end, s5]
  · have hh : (!u.isEmpty && !v.isEmpty) = false := by
      cases u with
      | nil => rfl
      | cons a u =>
        cases v with
        | nil => rfl
        | cons b v => exact absurd ⟨by simp, by simp⟩ he
    rw [hh] at tt
    refine ⟨ds, hds, ?_⟩
    rw [ife_f tt]
    rfl
end
end K75
end
section
namespace K75
open PySem L2 Evl PyProof.Rows CH
abbrev EB (S DR : Sl) (n : Nat) (CC FF : D) (XS e6 e7 e8 u9 u10 e11 u12 u14 : Sl) : CH.Env := EL S DR (.ow (.sh (.int (n : Int)))) CC FF XS e6 e7 e8 u9 u10 e11 u12 u14
section
variable (k : Nat) (S DR XS e6 e7 e8 u9 u10 u14 : Sl) (CC FF : D)
theorem bl0 : evE (P k) [] (.lst (.cons (.tup (.cons (.tup (.cons (.c (.str "each")) (.cons (.tup (.cons (.op (.bin .add) (.cons (.bor 2 []) (.cons (.e (.c (.int 1))) .nil))) .nil)) .nil))) .nil)) (.cons (.tup (.cons (.tup (.cons (.c (.str "all")) (.cons (.tup (.cons (.c (.int 1)) .nil)) .nil))) .nil)) (.cons (.tup (.cons (.tup (.cons (.c (.str "each")) (.cons (.tup .nil) .nil))) (.cons (.tup (.cons (.c (.str "some")) (.cons (.op (.rng 2 true) (.cons (.e (.c (.int 1))) (.cons (.e (.op (.bin .add) (.cons (.bor 2 []) (.cons (.e (.c (.int 1))) .nil)))) .nil))) .nil))) .nil))) (.cons (.c .non) (.cons (.c (.str "each")) .nil)))))) (EB S DR 0 CC FF XS e6 e7 e8 u9 .no .no .no u14) = .ok (.lst ((bad5 0).map .sh), EB S DR 0 CC FF XS e6 e7 e8 u9 .no .no .no u14) := by kernel_rfl
theorem bx0 (b : D) : evS (P k) [] (.set 10 (.tup (.cons (.tup (.cons (.c (.str "each")) (.cons (.op (.rng 2 true) (.cons (.e (.c (.int 1))) (.cons (.e (.op (.bin .add) (.cons (.bor 2 []) (.cons (.e (.c (.int 1))) .nil)))) .nil))) .nil))) (.cons (.tup (.cons (.c (.str "some")) (.cons (.op (.rng 2 true) (.cons (.e (.c (.int 1))) (.cons (.e (.op (.bin .add) (.cons (.bor 2 []) (.cons (.e (.c (.int 2))) .nil)))) .nil))) .nil))) .nil)))) (EB S DR 0 CC FF XS e6 e7 e8 u9 (.ow (.sh b)) .no .no u14) = .ok (.nx, EB S DR 0 CC FF XS e6 e7 e8 u9 (.ow (.sh (badX 0))) .no .no u14) := by kernel_rfl
theorem bm0 (d : D) : evS (P k) [] q21_13 (EB S DR 0 CC FF XS e6 e7 e8 u9 u10 (.ow (.lst [.sh d])) .no u14) = .ok (.nx, EB S DR 0 CC FF XS e6 e7 e8 u9 u10 (.ow (.lst [.sh d])) .no u14) := by kernel_rfl
theorem bl1 : evE (P k) [] (.lst (.cons (.tup (.cons (.tup (.cons (.c (.str "each")) (.cons (.tup (.cons (.op (.bin .add) (.cons (.bor 2 []) (.cons (.e (.c (.int 1))) .nil))) .nil)) .nil))) .nil)) (.cons (.tup (.cons (.tup (.cons (.c (.str "all")) (.cons (.tup (.cons (.c (.int 1)) .nil)) .nil))) .nil)) (.cons (.tup (.cons (.tup (.cons (.c (.str "each")) (.cons (.tup .nil) .nil))) (.cons (.tup (.cons (.c (.str "some")) (.cons (.op (.rng 2 true) (.cons (.e (.c (.int 1))) (.cons (.e (.op (.bin .add) (.cons (.bor 2 []) (.cons (.e (.c (.int 1))) .nil)))) .nil))) .nil))) .nil))) (.cons (.c .non) (.cons (.c (.str "each")) .nil)))))) (EB S DR 1 CC FF XS e6 e7 e8 u9 .no .no .no u14) = .ok (.lst ((bad5 1).map .sh), EB S DR 1 CC FF XS e6 e7 e8 u9 .no .no .no u14) := by kernel_rfl
theorem bx1 (b : D) : evS (P k) [] (.set 10 (.tup (.cons (.tup (.cons (.c (.str "each")) (.cons (.op (.rng 2 true) (.cons (.e (.c (.int 1))) (.cons (.e (.op (.bin .add) (.cons (.bor 2 []) (.cons (.e (.c (.int 1))) .nil)))) .nil))) .nil))) (.cons (.tup (.cons (.c (.str "some")) (.cons (.op (.rng 2 true) (.cons (.e (.c (.int 1))) (.cons (.e (.op (.bin .add) (.cons (.bor 2 []) (.cons (.e (.c (.int 2))) .nil)))) .nil))) .nil))) .nil)))) (EB S DR 1 CC FF XS e6 e7 e8 u9 (.ow (.sh b)) .no .no u14) = .ok (.nx, EB S DR 1 CC FF XS e6 e7 e8 u9 (.ow (.sh (badX 1))) .no .no u14) := by kernel_rfl
theorem bm1 (d : D) : evS (P k) [] q21_13 (EB S DR 1 CC FF XS e6 e7 e8 u9 u10 (.ow (.lst [.sh d])) .no u14) = .ok (.nx, EB S DR 1 CC FF XS e6 e7 e8 u9 u10 (.ow (.lst [.sh d])) .no u14) := by kernel_rfl
theorem bl2 : evE (P k) [] (.lst (.cons (.tup (.cons (.tup (.cons (.c (.str "each")) (.cons (.tup (.cons (.op (.bin .add) (.cons (.bor 2 []) (.cons (.e (.c (.int 1))) .nil))) .nil)) .nil))) .nil)) (.cons (.tup (.cons (.tup (.cons (.c (.str "all")) (.cons (.tup (.cons (.c (.int 1)) .nil)) .nil))) .nil)) (.cons (.tup (.cons (.tup (.cons (.c (.str "each")) (.cons (.tup .nil) .nil))) (.cons (.tup (.cons (.c (.str "some")) (.cons (.op (.rng 2 true) (.cons (.e (.c (.int 1))) (.cons (.e (.op (.bin .add) (.cons (.bor 2 []) (.cons (.e (.c (.int 1))) .nil)))) .nil))) .nil))) .nil))) (.cons (.c .non) (.cons (.c (.str "each")) .nil)))))) (EB S DR 2 CC FF XS e6 e7 e8 u9 .no .no .no u14) = .ok (.lst ((bad5 2).map .sh), EB S DR 2 CC FF XS e6 e7 e8 u9 .no .no .no u14) := by kernel_rfl
theorem bx2 (b : D) : evS (P k) [] (.set 10 (.tup (.cons (.tup (.cons (.c (.str "each")) (.cons (.op (.rng 2 true) (.cons (.e (.c (.int 1))) (.cons (.e (.op (.bin .add) (.cons (.bor 2 []) (.cons (.e (.c (.int 1))) .nil)))) .nil))) .nil))) (.cons (.tup (.cons (.c (.str "some")) (.cons (.op (.rng 2 true) (.cons (.e (.c (.int 1))) (.cons (.e (.op (.bin .add) (.cons (.bor 2 []) (.cons (.e (.c (.int 2))) .nil)))) .nil))) .nil))) .nil)))) (EB S DR 2 CC FF XS e6 e7 e8 u9 (.ow (.sh b)) .no .no u14) = .ok (.nx, EB S DR 2 CC FF XS e6 e7 e8 u9 (.ow (.sh (badX 2))) .no .no u14) := by kernel_rfl
theorem bm2 (d : D) : evS (P k) [] q21_13 (EB S DR 2 CC FF XS e6 e7 e8 u9 u10 (.ow (.lst [.sh d])) .no u14) = .ok (.nx, EB S DR 2 CC FF XS e6 e7 e8 u9 u10 (.ow (.lst [.sh d])) .no u14) := by kernel_rfl
theorem bl3 : evE (P k) [] (.lst (.cons (.tup (.cons (.tup (.cons (.c (.str "each")) (.cons (.tup (.cons (.op (.bin .add) (.cons (.bor 2 []) (.cons (.e (.c (.int 1))) .nil))) .nil)) .nil))) .nil)) (.cons (.tup (.cons (.tup (.cons (.c (.str "all")) (.cons (.tup (.cons (.c (.int 1)) .nil)) .nil))) .nil)) (.cons (.tup (.cons (.tup (.cons (.c (.str "each")) (.cons (.tup .nil) .nil))) (.cons (.tup (.cons (.c (.str "some")) (.cons (.op (.rng 2 true) (.cons (.e (.c (.int 1))) (.cons (.e (.op (.bin .add) (.cons (.bor 2 []) (.cons (.e (.c (.int 1))) .nil)))) .nil))) .nil))) .nil))) (.cons (.c .non) (.cons (.c (.str "each")) .nil)))))) (EB S DR 3 CC FF XS e6 e7 e8 u9 .no .no .no u14) = .ok (.lst ((bad5 3).map .sh), EB S DR 3 CC FF XS e6 e7 e8 u9 .no .no .no u14) := by kernel_rfl
theorem bx3 (b : D) : evS (P k) [] (.set 10 (.tup (.cons (.tup (.cons (.c (.str "each")) (.cons (.op (.rng 2 true) (.cons (.e (.c (.int 1))) (.cons (.e (.op (.bin .add) (.cons (.bor 2 []) (.cons (.e (.c (.int 1))) .nil)))) .nil))) .nil))) (.cons (.tup (.cons (.c (.str "some")) (.cons (.op (.rng 2 true) (.cons (.e (.c (.int 1))) (.cons (.e (.op (.bin .add) (.cons (.bor 2 []) (.cons (.e (.c (.int 2))) .nil)))) .nil))) .nil))) .nil)))) (EB S DR 3 CC FF XS e6 e7 e8 u9 (.ow (.sh b)) .no .no u14) = .ok (.nx, EB S DR 3 CC FF XS e6 e7 e8 u9 (.ow (.sh (badX 3))) .no .no u14) := by kernel_rfl
theorem bm3 (d : D) : evS (P k) [] q21_13 (EB S DR 3 CC FF XS e6 e7 e8 u9 u10 (.ow (.lst [.sh d])) .no u14) = .ok (.nx, EB S DR 3 CC FF XS e6 e7 e8 u9 u10 (.ow (.lst ((d :: bad2 3).map .sh))) .no u14) := by kernel_rfl
theorem bl4 : evE (P k) [] (.lst (.cons (.tup (.cons (.tup (.cons (.c (.str "each")) (.cons (.tup (.cons (.op (.bin .add) (.cons (.bor 2 []) (.cons (.e (.c (.int 1))) .nil))) .nil)) .nil))) .nil)) (.cons (.tup (.cons (.tup (.cons (.c (.str "all")) (.cons (.tup (.cons (.c (.int 1)) .nil)) .nil))) .nil)) (.cons (.tup (.cons (.tup (.cons (.c (.str "each")) (.cons (.tup .nil) .nil))) (.cons (.tup (.cons (.c (.str "some")) (.cons (.op (.rng 2 true) (.cons (.e (.c (.int 1))) (.cons (.e (.op (.bin .add) (.cons (.bor 2 []) (.cons (.e (.c (.int 1))) .nil)))) .nil))) .nil))) .nil))) (.cons (.c .non) (.cons (.c (.str "each")) .nil)))))) (EB S DR 4 CC FF XS e6 e7 e8 u9 .no .no .no u14) = .ok (.lst ((bad5 4).map .sh), EB S DR 4 CC FF XS e6 e7 e8 u9 .no .no .no u14) := by kernel_rfl
theorem bx4 (b : D) : evS (P k) [] (.set 10 (.tup (.cons (.tup (.cons (.c (.str "each")) (.cons (.op (.rng 2 true) (.cons (.e (.c (.int 1))) (.cons (.e (.op (.bin .add) (.cons (.bor 2 []) (.cons (.e (.c (.int 1))) .nil)))) .nil))) .nil))) (.cons (.tup (.cons (.c (.str "some")) (.cons (.op (.rng 2 true) (.cons (.e (.c (.int 1))) (.cons (.e (.op (.bin .add) (.cons (.bor 2 []) (.cons (.e (.c (.int 2))) .nil)))) .nil))) .nil))) .nil)))) (EB S DR 4 CC FF XS e6 e7 e8 u9 (.ow (.sh b)) .no .no u14) = .ok (.nx, EB S DR 4 CC FF XS e6 e7 e8 u9 (.ow (.sh (badX 4))) .no .no u14) := by kernel_rfl
theorem bm4 (d : D) : evS (P k) [] q21_13 (EB S DR 4 CC FF XS e6 e7 e8 u9 u10 (.ow (.lst [.sh d])) .no u14) = .ok (.nx, EB S DR 4 CC FF XS e6 e7 e8 u9 u10 (.ow (.lst ((d :: bad2 4).map .sh))) .no u14) := by kernel_rfl
theorem bl5 : evE (P k) [] (.lst (.cons (.tup (.cons (.tup (.cons (.c (.str "each")) (.cons (.tup (.cons (.op (.bin .add) (.cons (.bor 2 []) (.cons (.e (.c (.int 1))) .nil))) .nil)) .nil))) .nil)) (.cons (.tup (.cons (.tup (.cons (.c (.str "all")) (.cons (.tup (.cons (.c (.int 1)) .nil)) .nil))) .nil)) (.cons (.tup (.cons (.tup (.cons (.c (.str "each")) (.cons (.tup .nil) .nil))) (.cons (.tup (.cons (.c (.str "some")) (.cons (.op (.rng 2 true) (.cons (.e (.c (.int 1))) (.cons (.e (.op (.bin .add) (.cons (.bor 2 []) (.cons (.e (.c (.int 1))) .nil)))) .nil))) .nil))) .nil))) (.cons (.c .non) (.cons (.c (.str "each")) .nil)))))) (EB S DR 5 CC FF XS e6 e7 e8 u9 .no .no .no u14) = .ok (.lst ((bad5 5).map .sh), EB S DR 5 CC FF XS e6 e7 e8 u9 .no .no .no u14) := by kernel_rfl
theorem bx5 (b : D) : evS (P k) [] (.set 10 (.tup (.cons (.tup (.cons (.c (.str "each")) (.cons (.op (.rng 2 true) (.cons (.e (.c (.int 1))) (.cons (.e (.op (.bin .add) (.cons (.bor 2 []) (.cons (.e (.c (.int 1))) .nil)))) .nil))) .nil))) (.cons (.tup (.cons (.c (.str "some")) (.cons (.op (.rng 2 true) (.cons (.e (.c (.int 1))) (.cons (.e (.op (.bin .add) (.cons (.bor 2 []) (.cons (.e (.c (.int 2))) .nil)))) .nil))) .nil))) .nil)))) (EB S DR 5 CC FF XS e6 e7 e8 u9 (.ow (.sh b)) .no .no u14) = .ok (.nx, EB S DR 5 CC FF XS e6 e7 e8 u9 (.ow (.sh (badX 5))) .no .no u14) := by kernel_rfl
theorem bm5 (d : D) : evS (P k) [] q21_13 (EB S DR 5 CC FF XS e6 e7 e8 u9 u10 (.ow (.lst [.sh d])) .no u14) = .ok (.nx, EB S DR 5 CC FF XS e6 e7 e8 u9 u10 (.ow (.lst ((d :: bad2 5).map .sh))) .no u14) := by kernel_rfl
theorem bl : ∀ n : Nat, n < 6 → evE (P k) [] (.lst (.cons (.tup (.cons (.tup (.cons (.c (.str "each")) (.cons (.tup (.cons (.op (.bin .add) (.cons (.bor 2 []) (.cons (.e (.c (.int 1))) .nil))) .nil)) .nil))) .nil)) (.cons (.tup (.cons (.tup (.cons (.c (.str "all")) (.cons (.tup (.cons (.c (.int 1)) .nil)) .nil))) .nil)) (.cons (.tup (.cons (.tup (.cons (.c (.str "each")) (.cons (.tup .nil) .nil))) (.cons (.tup (.cons (.c (.str "some")) (.cons (.op (.rng 2 true) (.cons (.e (.c (.int 1))) (.cons (.e (.op (.bin .add) (.cons (.bor 2 []) (.cons (.e (.c (.int 1))) .nil)))) .nil))) .nil))) .nil))) (.cons (.c .non) (.cons (.c (.str "each")) .nil)))))) (EB S DR n CC FF XS e6 e7 e8 u9 .no .no .no u14) = .ok (.lst ((bad5 n).map .sh), EB S DR n CC FF XS e6 e7 e8 u9 .no .no .no u14)
  | 0, _ => bl0 k S DR XS e6 e7 e8 u9 u14 CC FF
  | 1, _ => bl1 k S DR XS e6 e7 e8 u9 u14 CC FF
  | 2, _ => bl2 k S DR XS e6 e7 e8 u9 u14 CC FF
  | 3, _ => bl3 k S DR XS e6 e7 e8 u9 u14 CC FF
  | 4, _ => bl4 k S DR XS e6 e7 e8 u9 u14 CC FF
  | 5, _ => bl5 k S DR XS e6 e7 e8 u9 u14 CC FF
  | n + 6, h => absurd h (by omega)
theorem bx (b : D) : ∀ n : Nat, n < 6 → evS (P k) [] (.set 10 (.tup (.cons (.tup (.cons (.c (.str "each")) (.cons (.op (.rng 2 true) (.cons (.e (.c (.int 1))) (.cons (.e (.op (.bin .add) (.cons (.bor 2 []) (.cons (.e (.c (.int 1))) .nil)))) .nil))) .nil))) (.cons (.tup (.cons (.c (.str "some")) (.cons (.op (.rng 2 true) (.cons (.e (.c (.int 1))) (.cons (.e (.op (.bin .add) (.cons (.bor 2 []) (.cons (.e (.c (.int 2))) .nil)))) .nil))) .nil))) .nil)))) (EB S DR n CC FF XS e6 e7 e8 u9 (.ow (.sh b)) .no .no u14) = .ok (.nx, EB S DR n CC FF XS e6 e7 e8 u9 (.ow (.sh (badX n))) .no .no u14)
  | 0, _ => bx0 k S DR XS e6 e7 e8 u9 u14 CC FF b
  | 1, _ => bx1 k S DR XS e6 e7 e8 u9 u14 CC FF b
  | 2, _ => bx2 k S DR XS e6 e7 e8 u9 u14 CC FF b
  | 3, _ => bx3 k S DR XS e6 e7 e8 u9 u14 CC FF b
  | 4, _ => bx4 k S DR XS e6 e7 e8 u9 u14 CC FF b
  | 5, _ => bx5 k S DR XS e6 e7 e8 u9 u14 CC FF b
  | n + 6, h => absurd h (by omega)
theorem bm (d : D) : ∀ n : Nat, n < 6 → d ∈ bads n → ∃ ds : List D, (∀ x ∈ ds, x ∈ bads n) ∧ evS (P k) [] q21_13 (EB S DR n CC FF XS e6 e7 e8 u9 u10 (.ow (.lst [.sh d])) .no u14) = .ok (.nx, EB S DR n CC FF XS e6 e7 e8 u9 u10 (.ow (.lst (ds.map .sh))) .no u14) := by
  have one : ∀ n : Nat, d ∈ bads n → ∀ x ∈ [d], x ∈ bads n := fun n h x hx => by
    have : x = d := by simpa using hx
    rw [this]; exact h
  have two : ∀ n : Nat, 2 < n → d ∈ bads n → ∀ x ∈ d :: bad2 n, x ∈ bads n := fun n hn h x hx => by
    rcases List.mem_cons.mp hx with rfl | hx
    · exact h
    · unfold bads
      rw [if_pos (by omega)]
      exact List.mem_append_right _ hx
  intro n hn h
  match n, hn, h with
  | 0, _, h => exact ⟨[d], one 0 h, bm0 k S DR XS e6 e7 e8 u9 u10 u14 CC FF d⟩
  | 1, _, h => exact ⟨[d], one 1 h, bm1 k S DR XS e6 e7 e8 u9 u10 u14 CC FF d⟩
  | 2, _, h => exact ⟨[d], one 2 h, bm2 k S DR XS e6 e7 e8 u9 u10 u14 CC FF d⟩
  | 3, _, h => exact ⟨d :: bad2 3, two 3 (by decide) h, bm3 k S DR XS e6 e7 e8 u9 u10 u14 CC FF d⟩
  | 4, _, h => exact ⟨d :: bad2 4, two 4 (by decide) h, bm4 k S DR XS e6 e7 e8 u9 u10 u14 CC FF d⟩
  | 5, _, h => exact ⟨d :: bad2 5, two 5 (by decide) h, bm5 k S DR XS e6 e7 e8 u9 u10 u14 CC FF d⟩
  | n + 6, hn, _ => exact absurd hn (by omega)
end
end K75
end
section
namespace K75
open PySem L2 Evl PyProof.Rows CH
abbrev bLst : CH.CE := (.lst (.cons (.tup (.cons (.tup (.cons (.c (.str "each")) (.cons (.tup (.cons (.op (.bin .add) (.cons (.bor 2 []) (.cons (.e (.c (.int 1))) .nil))) .nil)) .nil))) .nil)) (.cons (.tup (.cons (.tup (.cons (.c (.str "all")) (.cons (.tup (.cons (.c (.int 1)) .nil)) .nil))) .nil)) (.cons (.tup (.cons (.tup (.cons (.c (.str "each")) (.cons (.tup .nil) .nil))) (.cons (.tup (.cons (.c (.str "some")) (.cons (.op (.rng 2 true) (.cons (.e (.c (.int 1))) (.cons (.e (.op (.bin .add) (.cons (.bor 2 []) (.cons (.e (.c (.int 1))) .nil)))) .nil))) .nil))) .nil))) (.cons (.c .non) (.cons (.c (.str "each")) .nil))))))
abbrev bSet : CS := (.set 10 (.tup (.cons (.tup (.cons (.c (.str "each")) (.cons (.op (.rng 2 true) (.cons (.e (.c (.int 1))) (.cons (.e (.op (.bin .add) (.cons (.bor 2 []) (.cons (.e (.c (.int 1))) .nil)))) .nil))) .nil))) (.cons (.tup (.cons (.c (.str "some")) (.cons (.op (.rng 2 true) (.cons (.e (.c (.int 1))) (.cons (.e (.op (.bin .add) (.cons (.bor 2 []) (.cons (.e (.c (.int 2))) .nil)))) .nil))) .nil))) .nil))))
section
variable (k : Nat) (S DR e6 e7 e8 u9 u14 : Sl) (CC FF : D)
theorem bad10 (n : Nat) (hn : n < 6) (xs : List Int) (hl : xs.length = 7) (hx : 0 ≤ xs.getD 5 0 ∧ xs.getD 5 0 < 5) : ∃ d ∈ bads n, evS (P k) [] q21_10 (EB S DR n CC FF (.ow (.lst (xs.map iT))) e6 e7 e8 u9 .no .no .no u14) = .ok (.nx, EB S DR n CC FF (.ow (.lst (xs.map iT))) e6 e7 e8 u9 (.ow (.sh d)) .no .no u14) := by
  have le := bl k S DR (.ow (.lst (xs.map iT))) e6 e7 e8 u9 u14 CC FF n hn
  have i5 := idx_ow xs 5 (by omega)
  have e5 : evE (P k) [] (.op .idx (.cons (.bor 5 []) (.cons (.e (.c (.int 5))) .nil))) (EB S DR n CC FF (.ow (.lst (xs.map iT))) e6 e7 e8 u9 .no .no .no u14) = .ok (.sh (.int (xs.getD 5 0)), EB S DR n CC FF (.ow (.lst (xs.map iT))) e6 e7 e8 u9 .no .no .no u14) := by
    have i5 : idxEv (.lst (xs.map iT)) 5 = some (.sh (.int (xs.getD 5 0))) := i5
    unfold EB EL
    generalize (n : Int) = nn
    generalize xs.map iT = XT at i5 ⊢
    generalize xs.getD 5 0 = x at i5 ⊢
    simp [D.tyName, ev_isi_t, isTy, fillA, backA, goneA, cm_le_ii, cm_lt_ii, getV, Fn.run, Fn.run0, evSs, evS, evT, evAll, evAny, evO, evE, evOs, evEs, evAs, evB, evAnd, evOr, CH.R.bind, R.ofO, CH.Env.tree, CH.Env.own, CH.Env.ownL, OT.getP, lock, unlock, outs, tru_b, ev_eq_ii, ev_ne_ii, ev_lt_ii, ev_le_ii, ev_gt_ii, ev_ge_ii, ev_add_ii, ev_sub_ii, ev_neg_i, ev_int_i, ev_abs_i, ev_len_l, ev_len_t, ev_len_f, ev_idx, mulOk_r, ev_mul_ii, OT.toD, i5]
  have pk : ∃ d ∈ bad5 n, Op.ev .idx [.lst ((bad5 n).map .sh), .sh (.int (xs.getD 5 0))] = some (.sh d) := by
    generalize xs.getD 5 0 = x at hx
    obtain ⟨j, hj, rfl⟩ : ∃ j : Nat, j < 5 ∧ x = (j : Int) := ⟨x.toNat, by omega, by omega⟩
    have hb : (bad5 n).length = 5 := rfl
    generalize bad5 (n : Int) = B5 at hb ⊢
    refine ⟨B5[j]'(by omega), List.getElem_mem _, ?_⟩
    rw [ev_idx]
    show (OT.items (.lst (B5.map .sh))).bind _ = _
    rw [show OT.items (.lst (B5.map .sh)) = some B5 from litems_sh _]
    show (atI B5 (j : Int)).map OT.sh = _
    rw [atI_nat (v := B5[j]'(by omega)) (List.getElem?_eq_getElem _)]
    rfl
  obtain ⟨d, hd, op⟩ := pk
  refine ⟨d, by unfold bads; exact List.mem_append_left _ (List.mem_append_left _ hd), ?_⟩
  have e := evE_op2 le e5 op
  show evS (P k) [] (.set 10 (.op .idx (.cons (.e bLst) (.cons (.e (.op .idx (.cons (.bor 5 []) (.cons (.e (.c (.int 5))) .nil)))) .nil)))) _ = _
  rw [evS_set (u := .sh .non) e (.inl rfl) rfl]
  rfl
theorem bad11 (n : Nat) (hn : n < 6) (xs : List Int) (hl : xs.length = 7) (d : D) (hd : d ∈ bads n) : ∃ d' ∈ bads n, evS (P k) [] q21_11 (EB S DR n CC FF (.ow (.lst (xs.map iT))) e6 e7 e8 u9 (.ow (.sh d)) .no .no u14) = .ok (.nx, EB S DR n CC FF (.ow (.lst (xs.map iT))) e6 e7 e8 u9 (.ow (.sh d')) .no .no u14) := by
  have i6 : idxEv (.lst (xs.map iT)) 6 = some (.sh (.int (xs.getD 6 0))) := idx_ow xs 6 (by omega)
  have tt : evT (P k) [] (.val (.e (.op (.cmp .gt) (.cons (.e (.op .idx (.cons (.bor 5 []) (.cons (.e (.c (.int 6))) .nil)))) (.cons (.e (.c (.int 4))) .nil))))) (EB S DR n CC FF (.ow (.lst (xs.map iT))) e6 e7 e8 u9 (.ow (.sh d)) .no .no u14) = .ok (decide (4 < xs.getD 6 0), EB S DR n CC FF (.ow (.lst (xs.map iT))) e6 e7 e8 u9 (.ow (.sh d)) .no .no u14) := by
    unfold EB EL
    generalize (n : Int) = nn
    generalize xs.map iT = XT at i6 ⊢
    generalize xs.getD 6 0 = x at i6 ⊢
    simp [D.tyName, ev_isi_t, isTy, fillA, backA, goneA, cm_le_ii, cm_lt_ii, getV, Fn.run, Fn.run0, evSs, evS, evT, evAll, evAny, evO, evE, evOs, evEs, evAs, evB, evAnd, evOr, CH.R.bind, R.ofO, CH.Env.tree, CH.Env.own, CH.Env.ownL, OT.getP, lock, unlock, outs, tru_b, ev_eq_ii, ev_ne_ii, ev_lt_ii, ev_le_ii, ev_gt_ii, ev_ge_ii, ev_add_ii, ev_sub_ii, ev_neg_i, ev_int_i, ev_abs_i, ev_len_l, ev_len_t, ev_len_f, ev_idx, mulOk_r, ev_mul_ii, OT.toD, i6]
  unfold q21_11
  by_cases h : 4 < xs.getD 6 0
  · rw [decide_eq_true h] at tt
    refine ⟨badX n, by unfold bads; exact List.mem_append_left _ (List.mem_append_right _ (by simp)), ?_⟩
    rw [ife_t tt, ss_end]
    exact bx k S DR (.ow (.lst (xs.map iT))) e6 e7 e8 u9 u14 CC FF d n hn
  · rw [decide_eq_false h] at tt
    refine ⟨d, hd, ?_⟩
    rw [ife_f tt]
    rfl
end
theorem law_run (k : Nat) (ns : List Int) : P (k + 7) 21 [.sh (scr ns)] = .ok (.sh (.bl true), [.sh (scr ns)]) := by
  rw [step (k + 6) 21 _ f21 t21]
  obtain ⟨n, cs, hn, hl, hg, e0⟩ := w0 k ns
  obtain ⟨xs, hw, e4⟩ := w1 k ns (.tup [.int n, .lst (cs.map rD)]) n (.lst (cs.map rD)) (FD n (cs.map rD))
  have hxl : xs.length = 7 := hw.1
  have bit : ∀ j, j < 5 → xs.getD j 0 = 0 ∨ xs.getD j 0 = 1 := fun j hj => by
    have h := hw.2 j (by simp; omega)
    have e : (List.replicate 5 (2 : Int) ++ [5, 9]).getD j 0 = 2 := by
      match j, hj with
      | 0, _ => rfl
      | 1, _ => rfl
      | 2, _ => rfl
      | 3, _ => rfl
      | 4, _ => rfl
    rw [e] at h
    omega
  have h5 : 0 ≤ xs.getD 5 0 ∧ xs.getD 5 0 < 5 := hw.2 5 (by decide)
  have bitn : ∀ j, j < n → xs.getD j 0 = 0 ∨ xs.getD j 0 = 1 := fun j hj => bit j (by omega)
  generalize hS : Sl.ow (.sh (scr ns)) = S at e0 e4
  generalize hDR : Sl.ow (.sh (.tup [.int n, .lst (cs.map rD)])) = DR at e0 e4
  obtain ⟨z, hz⟩ := clauses_repr n cs ⟨by omega, by omega⟩ (by omega) hg
  -- the last statement
  have e15 : ∀ XS e6 e7 e8 u9 u10 e11 u12 u14 : Sl, evS (P (k + 6)) [] q21_15 (EL S DR (.ow (.sh (.int n))) (.lst (cs.map rD)) (FD n (cs.map rD)) XS e6 e7 e8 u9 u10 e11 u12 u14) = .ok (.rt (.sh (.bl true)), EL S DR (.ow (.sh (.int n))) (.lst (cs.map rD)) (FD n (cs.map rD)) XS e6 e7 e8 u9 u10 e11 u12 u14) := fun XS e6 e7 e8 u9 u10 e11 u12 u14 => by
    have a1 : evE (P (k + 6)) [] (.op (.fld "clauses") (.cons (.bor 4 []) .nil)) (EL S DR (.ow (.sh (.int n))) (.lst (cs.map rD)) (FD n (cs.map rD)) XS e6 e7 e8 u9 u10 e11 u12 u14) = .ok (.sh (.tup (cs.map rD)), EL S DR (.ow (.sh (.int n))) (.lst (cs.map rD)) (FD n (cs.map rD)) XS e6 e7 e8 u9 u10 e11 u12 u14) := rfl
    have a2 : evE (P (k + 6)) [] (.op (.bi .tuple) (.cons (.bor 3 []) .nil)) (EL S DR (.ow (.sh (.int n))) (.lst (cs.map rD)) (FD n (cs.map rD)) XS e6 e7 e8 u9 u10 e11 u12 u14) = .ok (.sh (.tup (cs.map rD)), EL S DR (.ow (.sh (.int n))) (.lst (cs.map rD)) (FD n (cs.map rD)) XS e6 e7 e8 u9 u10 e11 u12 u14) := rfl
    exact evE_ret (evE_op2 (evE_op1 a1 (hz _ rfl)) (evE_op1 a2 (hz _ rfl)) (ev_eq_ss z))
  have s5 : evS (P (k + 6)) [] q21_5 (EL S DR (.ow (.sh (.int n))) (.lst (cs.map rD)) (FD n (cs.map rD)) (.ow (.lst (xs.map iT))) .no .no .no .no .no .no .no .no) = .ok (.nx, EL S DR (.ow (.sh (.int n))) (.lst (cs.map rD)) (FD n (cs.map rD)) (.ow (.lst (xs.map iT))) (.ow (.lst ((selL xs n 0).map iT))) .no .no .no .no .no .no .no) := by
    have e := sel_ev (k + 6) S DR n (.lst (cs.map rD)) (FD n (cs.map rD)) xs 0 .no .no (by omega) hn p21_0 p21_1 rfl rfl
    unfold q21_5
    rw [evS_set (u := .sh .non) e (.inl rfl) rfl]
    rfl
  have s6 : evS (P (k + 6)) [] q21_6 (EL S DR (.ow (.sh (.int n))) (.lst (cs.map rD)) (FD n (cs.map rD)) (.ow (.lst (xs.map iT))) (.ow (.lst ((selL xs n 0).map iT))) .no .no .no .no .no .no .no) = .ok (.nx, EL S DR (.ow (.sh (.int n))) (.lst (cs.map rD)) (FD n (cs.map rD)) (.ow (.lst (xs.map iT))) (.ow (.lst ((selL xs n 0).map iT))) (.ow (.lst ((selL xs n 1).map iT))) .no .no .no .no .no .no) := by
    have e := sel_ev (k + 6) S DR n (.lst (cs.map rD)) (FD n (cs.map rD)) xs 1 (.ow (.lst ((selL xs n 0).map iT))) .no (by omega) hn p21_2 p21_3 rfl rfl
    unfold q21_6
    rw [evS_set (u := .sh .non) e (.inl rfl) rfl]
    rfl
  obtain ⟨d1, hd1, p1⟩ := pre_ev k DR n (.lst (cs.map rD)) (FD n (cs.map rD)) xs ns 60 hn (.ow (.lst ((selL xs n 0).map iT))) (.ow (.lst ((selL xs n 1).map iT)))
  obtain ⟨d2, hd2, p2⟩ := pre_ev k DR n (.lst (cs.map rD)) (FD n (cs.map rD)) xs ns 61 hn (.ow (.lst ((selL xs n 0).map iT))) (.ow (.lst ((selL xs n 1).map iT)))
  rw [hS] at p1 p2
  have s7 : evS (P (k + 6)) [] q21_7 (EL S DR (.ow (.sh (.int n))) (.lst (cs.map rD)) (FD n (cs.map rD)) (.ow (.lst (xs.map iT))) (.ow (.lst ((selL xs n 0).map iT))) (.ow (.lst ((selL xs n 1).map iT))) .no .no .no .no .no .no) = .ok (.nx, EL S DR (.ow (.sh (.int n))) (.lst (cs.map rD)) (FD n (cs.map rD)) (.ow (.lst (xs.map iT))) (.ow (.lst ((selL xs n 0).map iT))) (.ow (.lst ((selL xs n 1).map iT))) (.ow (.lst ([d1, d2].map .sh))) .no .no .no .no .no) := by
    have e := lst2 p1 p2
    unfold q21_7
    have e : evE (P (k + 6)) [] (.lst (.cons (.call 18 (.val (.call 11 (.val (.v 0) (.val (.c (.int 60)) .nil))) (.val (.mv 2) .nil))) (.cons (.call 18 (.val (.call 11 (.val (.v 0) (.val (.c (.int 61)) .nil))) (.val (.mv 2) .nil))) .nil))) _ = _ := e
    rw [evS_set (u := .sh .non) e (.inl rfl) rfl]
    rfl
  obtain ⟨ds, hds, s8⟩ := pre_more (k + 6) S DR (.lst (cs.map rD)) (FD n (cs.map rD)) n [d1, d2] (selL xs n 0) (selL xs n 1) (by simp) (fun d hd => by
    have : d = d1 ∨ d = d2 := by simpa using hd
    rcases this with rfl | rfl
    · exact hd1
    · exact hd2) (selL_inc xs n 0) (selL_inc xs n 1) (selL_perm xs n bitn) (.ow (.lst (xs.map iT)))
  generalize hE6 : Sl.ow (.lst ((selL xs n 0).map iT)) = E6 at s5 s6 s7 s8
  generalize hE7 : Sl.ow (.lst ((selL xs n 1).map iT)) = E7 at s6 s7 s8
  have s9 : ∃ u9 u14, evS (P (k + 6)) [] q21_9 (EL S DR (.ow (.sh (.int n))) (.lst (cs.map rD)) (FD n (cs.map rD)) (.ow (.lst (xs.map iT))) E6 E7 (.ow (.lst (ds.map .sh))) .no .no .no .no .no) = .ok (.nx, EL S DR (.ow (.sh (.int n))) (.lst (cs.map rD)) (FD n (cs.map rD)) (.ow (.lst (xs.map iT))) E6 E7 (.ow (.lst (ds.map .sh))) u9 .no .no .no u14) := by
    obtain ⟨u9, u14, lp⟩ := pre_loop k S DR (.ow (.sh (.int n))) (.ow (.lst (xs.map iT))) E6 E7 n hn cs (by omega) hg (.lk (.lst (ds.map .sh))) .no .no .no ds .no .no (.inl rfl) (.inl rfl) hds
    refine ⟨u9, u14, ?_⟩
    have hI : evI (P (k + 6)) [] (.seq (.bor 8 [])) (EL S DR (.ow (.sh (.int n))) (.lst (cs.map rD)) (FD n (cs.map rD)) (.ow (.lst (xs.map iT))) E6 E7 (.ow (.lst (ds.map .sh))) .no .no .no .no .no) = .ok (ds, EL S DR (.ow (.sh (.int n))) (.lst (cs.map rD)) (FD n (cs.map rD)) (.ow (.lst (xs.map iT))) E6 E7 (.lk (.lst (ds.map .sh))) .no .no .no .no .no) := by
      rw [evI]
      show (match OT.items (.lst (ds.map .sh)) with
        | some x => R.ok (x, EL S DR (.ow (.sh (.int n))) (.lst (cs.map rD)) (FD n (cs.map rD)) (.ow (.lst (xs.map iT))) E6 E7 (.lk (.lst (ds.map .sh))) .no .no .no .no .no)
        | none => R.no) = _
      rw [show OT.items (.lst (ds.map .sh)) = some ds from litems_sh ds]
    unfold q21_9
    rw [evS, hI]
    simp only [CH.R.bind]
    rw [lp]
    rfl
  obtain ⟨u9, u14, s9⟩ := s9
  obtain ⟨d, hd, s10⟩   := bad10 (k + 6) S DR E6 E7 (.ow (.lst (ds.map .sh))) u9 u14 (.lst (cs.map rD)) (FD n (cs.map rD)) n hn xs hxl h5
  obtain ⟨d', hd', s11⟩ := bad11 (k + 6) S DR E6 E7 (.ow (.lst (ds.map .sh))) u9 u14 (.lst (cs.map rD)) (FD n (cs.map rD)) n hn xs hxl d hd
  have s12 : evS (P (k + 6)) [] q21_12 (EB S DR n (.lst (cs.map rD)) (FD n (cs.map rD)) (.ow (.lst (xs.map iT))) E6 E7 (.ow (.lst (ds.map .sh))) u9 (.ow (.sh d')) .no .no u14) = .ok (.nx, EB S DR n (.lst (cs.map rD)) (FD n (cs.map rD)) (.ow (.lst (xs.map iT))) E6 E7 (.ow (.lst (ds.map .sh))) u9 (.ow (.sh d')) (.ow (.lst [.sh d'])) .no u14) := by rfl
  obtain ⟨bs, hbs, s13⟩ := bm (k + 6) S DR (.ow (.lst (xs.map iT))) E6 E7 (.ow (.lst (ds.map .sh))) u9 (.ow (.sh d')) u14 (.lst (cs.map rD)) (FD n (cs.map rD)) d' n hn hd'
  have s14 : ∃ u12, evS (P (k + 6)) [] q21_14 (EL S DR (.ow (.sh (.int n))) (.lst (cs.map rD)) (FD n (cs.map rD)) (.ow (.lst (xs.map iT))) E6 E7 (.ow (.lst (ds.map .sh))) u9 (.ow (.sh d')) (.ow (.lst (bs.map .sh))) .no u14) = .ok (.nx, EL S DR (.ow (.sh (.int n))) (.lst (cs.map rD)) (FD n (cs.map rD)) (.ow (.lst (xs.map iT))) E6 E7 (.ow (.lst (ds.map .sh))) u9 (.ow (.sh d')) (.ow (.lst (bs.map .sh))) u12 u14) := by
    obtain ⟨u12, lp⟩ := bad_loop k S DR (.ow (.sh (.int n))) (.ow (.lst (xs.map iT))) E6 E7 (.lst (cs.map rD)) n hn (cs.map rD) (.ow (.lst (ds.map .sh))) u9 (.ow (.sh d')) (.lk (.lst (bs.map .sh))) u14 bs .no (.inl rfl) hbs
    refine ⟨u12, ?_⟩
    have hI : evI (P (k + 6)) [] (.seq (.bor 11 [])) (EL S DR (.ow (.sh (.int n))) (.lst (cs.map rD)) (FD n (cs.map rD)) (.ow (.lst (xs.map iT))) E6 E7 (.ow (.lst (ds.map .sh))) u9 (.ow (.sh d')) (.ow (.lst (bs.map .sh))) .no u14) = .ok (bs, EL S DR (.ow (.sh (.int n))) (.lst (cs.map rD)) (FD n (cs.map rD)) (.ow (.lst (xs.map iT))) E6 E7 (.ow (.lst (ds.map .sh))) u9 (.ow (.sh d')) (.lk (.lst (bs.map .sh))) .no u14) := by
      rw [evI]
      show (match OT.items (.lst (bs.map .sh)) with
        | some x => R.ok (x, EL S DR (.ow (.sh (.int n))) (.lst (cs.map rD)) (FD n (cs.map rD)) (.ow (.lst (xs.map iT))) E6 E7 (.ow (.lst (ds.map .sh))) u9 (.ow (.sh d')) (.lk (.lst (bs.map .sh))) .no u14)
        | none => R.no) = _
      rw [show OT.items (.lst (bs.map .sh)) = some bs from litems_sh bs]
    unfold q21_14
    rw [evS, hI]
    simp only [CH.R.bind]
    rw [lp]
    rfl
  obtain ⟨u12, s14⟩ := s14
  have fin := e15 (.ow (.lst (xs.map iT))) E6 E7 (.ow (.lst (ds.map .sh))) u9 (.ow (.sh d')) (.ow (.lst (bs.map .sh))) u12 u14
  have hbody : evSs (P (k + 6)) [] b21 (Sl.ow (.sh (scr ns)) :: List.replicate 15 .no) = .ok (.rt (.sh (.bl true)), EL S DR (.ow (.sh (.int n))) (.lst (cs.map rD)) (FD n (cs.map rD)) (.ow (.lst (xs.map iT))) E6 E7 (.ow (.lst (ds.map .sh))) u9 (.ow (.sh d')) (.ow (.lst (bs.map .sh))) u12 u14) := by
    rw [hS]
    unfold b21
    rw [e0, ss_next e4, ss_next s5, ss_next s6, ss_next s7, ss_next s8, ss_next s9]
    exact (ss_next s10).trans ((ss_next s11).trans ((ss_next s12).trans ((ss_next s13).trans ((ss_next s14).trans (ss_stop fin)))))
  subst hS
  exact run_rt rfl hbody rfl
theorem hrun : ∀ ns : List Int, ns.length ≤ 63 → ∃ ws, runD (tbOf ents) 7 21 [.sh (.flst (ns.map .int))] = .ok (.sh (.bl true), ws) := fun ns _ => ⟨_, law_run 0 ns⟩
end K75
end
namespace K75
section
open PySem L2 Evl PyProof.Rows CH
theorem ok0 : e0.good ents bns dcs exs cls = true := by decide +kernel
theorem ok1 : e1.good ents bns dcs exs cls = true := by decide +kernel
theorem ok2 : e2.good ents bns dcs exs cls = true := by decide +kernel
theorem ok3 : e3.good ents bns dcs exs cls = true := by decide +kernel
theorem ok4 : e4.good ents bns dcs exs cls = true := by decide +kernel
theorem ok5 : e5.good ents bns dcs exs cls = true := by decide +kernel
theorem ok6 : e6.good ents bns dcs exs cls = true := by decide +kernel
theorem ok7 : e7.good ents bns dcs exs cls = true := by decide +kernel
theorem ok8 : e8.good ents bns dcs exs cls = true := by decide +kernel
theorem ok9 : e9.good ents bns dcs exs cls = true := by decide +kernel
theorem ok10 : e10.good ents bns dcs exs cls = true := by decide +kernel
theorem ok11 : e11.good ents bns dcs exs cls = true := by decide +kernel
theorem ok12 : e12.good ents bns dcs exs cls = true := by decide +kernel
theorem ok13 : e13.good ents bns dcs exs cls = true := by decide +kernel
theorem ok14 : e14.good ents bns dcs exs cls = true := by decide +kernel
theorem ok15 : e15.good ents bns dcs exs cls = true := by decide +kernel
theorem ok16 : e16.good ents bns dcs exs cls = true := by decide +kernel
theorem ok17 : e17.good ents bns dcs exs cls = true := by decide +kernel
theorem ok18 : e18.good ents bns dcs exs cls = true := by decide +kernel
theorem ok19 : e19.good ents bns dcs exs cls = true := by decide +kernel
theorem ok20 : e20.good ents bns dcs exs cls = true := by decide +kernel
theorem ok21 : e21.good ents bns dcs exs cls = true := by decide +kernel
theorem ok22 : e22.good ents bns dcs exs cls = true := by decide +kernel
theorem ok23 : e23.good ents bns dcs exs cls = true := by decide +kernel
theorem oks : ∀ e ∈ ents, e.good ents bns dcs exs cls = true := by
  have h : ∀ e, e ∈ ents ↔ e ∈ [e0, e1, e2, e3, e4, e5, e6, e7, e8, e9, e10, e11, e12, e13, e14, e15, e16, e17, e18, e19, e20, e21, e22, e23] := fun e => Iff.rfl
  intro e he
  rw [h] at he
  simp only [List.mem_cons, List.not_mem_nil, or_false] at he
  rcases he with rfl | rfl | rfl | rfl | rfl | rfl | rfl | rfl | rfl | rfl | rfl | rfl | rfl | rfl | rfl | rfl | rfl | rfl | rfl | rfl | rfl | rfl | rfl | rfl
  · exact ok0
  · exact ok1
  · exact ok2
  · exact ok3
  · exact ok4
  · exact ok5
  · exact ok6
  · exact ok7
  · exact ok8
  · exact ok9
  · exact ok10
  · exact ok11
  · exact ok12
  · exact ok13
  · exact ok14
  · exact ok15
  · exact ok16
  · exact ok17
  · exact ok18
  · exact ok19
  · exact ok20
  · exact ok21
  · exact ok22
  · exact ok23
theorem top_mk {K : PySem.W.Frag} {w : World} {h : Heap} {mg : Str → Option Value} (X : K.In h) (G : h.Ns mainGlobals mg)
    {g0 : Addr} {od0 an0 : Option Addr} {sl0 : Array (Option Value)} {oc0 kV0 dc0 pm0 cd0 ct0 : Value}
    {g1 : Addr} {od1 an1 : Option Addr} {sl1 : Array (Option Value)} {oc1 kV1 dc1 pm1 cd1 ct1 : Value}
    {g2 : Addr} {od2 an2 : Option Addr} {sl2 : Array (Option Value)} {oc2 kV2 dc2 pm2 cd2 ct2 : Value}
    {g3 : Addr} {od3 an3 : Option Addr} {sl3 : Array (Option Value)} {oc3 kV3 dc3 pm3 cd3 ct3 : Value}
    {g4 : Addr} {od4 an4 : Option Addr} {sl4 : Array (Option Value)} {oc4 kV4 dc4 pm4 cd4 ct4 : Value}
    {g5 : Addr} {od5 an5 : Option Addr} {sl5 : Array (Option Value)} {oc5 kV5 dc5 pm5 cd5 ct5 : Value}
    {g6 : Addr} {od6 an6 : Option Addr} {sl6 : Array (Option Value)} {oc6 kV6 dc6 pm6 cd6 ct6 : Value}
    {g7 : Addr} {od7 an7 : Option Addr} {sl7 : Array (Option Value)} {oc7 kV7 dc7 pm7 cd7 ct7 : Value}
    {g8 : Addr} {od8 an8 : Option Addr} {sl8 : Array (Option Value)} {oc8 kV8 dc8 pm8 cd8 ct8 : Value}
    {g9 : Addr} {od9 an9 : Option Addr} {sl9 : Array (Option Value)} {oc9 kV9 dc9 pm9 cd9 ct9 : Value}
    {g10 : Addr} {od10 an10 : Option Addr} {sl10 : Array (Option Value)} {oc10 kV10 dc10 pm10 cd10 ct10 : Value}
    {g11 : Addr} {od11 an11 : Option Addr} {sl11 : Array (Option Value)} {oc11 kV11 dc11 pm11 cd11 ct11 : Value}
    {g12 : Addr} {od12 an12 : Option Addr} {sl12 : Array (Option Value)} {oc12 kV12 dc12 pm12 cd12 ct12 : Value}
    {g13 : Addr} {od13 an13 : Option Addr} {sl13 : Array (Option Value)} {oc13 kV13 dc13 pm13 cd13 ct13 : Value}
    {g14 : Addr} {od14 an14 : Option Addr} {sl14 : Array (Option Value)} {oc14 kV14 dc14 pm14 cd14 ct14 : Value}
    {g15 : Addr} {od15 an15 : Option Addr} {sl15 : Array (Option Value)} {oc15 kV15 dc15 pm15 cd15 ct15 : Value}
    {g16 : Addr} {od16 an16 : Option Addr} {sl16 : Array (Option Value)} {oc16 kV16 dc16 pm16 cd16 ct16 : Value}
    {g17 : Addr} {od17 an17 : Option Addr} {sl17 : Array (Option Value)} {oc17 kV17 dc17 pm17 cd17 ct17 : Value}
    {g18 : Addr} {od18 an18 : Option Addr} {sl18 : Array (Option Value)} {oc18 kV18 dc18 pm18 cd18 ct18 : Value}
    {g19 : Addr} {od19 an19 : Option Addr} {sl19 : Array (Option Value)} {oc19 kV19 dc19 pm19 cd19 ct19 : Value}
    {g20 : Addr} {od20 an20 : Option Addr} {sl20 : Array (Option Value)} {oc20 kV20 dc20 pm20 cd20 ct20 : Value}
    {g21 : Addr} {od21 an21 : Option Addr} {sl21 : Array (Option Value)} {oc21 kV21 dc21 pm21 cd21 ct21 : Value}
    {g22 : Addr} {od22 an22 : Option Addr} {sl22 : Array (Option Value)} {oc22 kV22 dc22 pm22 cd22 ct22 : Value}
    {CL0 : Addr} (cn0 : PySem.W.nsIn K mainGlobals "Formula" = some (some (.ref CL0))) (cm0 : PySem.W.makesIn K CL0 = true) (ci0 : PySem.W.findIn K (.ref CL0) "__init__" = some (some (.ref g22))) (cf0 : PySem.W.isFn K (.ref g22) = true) (ck0 : PySem.W.keepIn K (.ref CL0) = true)
    (l22 : K.lookup g22 = some ⟨oc22, od22, .func (PySem.W.fnOf "__init__" e22.name (defArgs e22.st) (defBody e22.st) (defScope e22.st) .none kV22 dc22 pm22 an22 cd22 ct22), sl22⟩) (c22 : PySem.W.codeIn K cd22 e22.name = true) (k22 : PySem.W.keepIn K (.ref g22) = true)
    (cg0 : PySem.W.plainGet K CL0 Str.empty = true) (ch0 : PySem.W.hasDictIn K CL0 = true) (co0 : PySem.W.plainOver K CL0 = true) (cs0 : PySem.W.findIn K (.ref CL0) "__setattr__" = some (some (.builtin "object.__setattr__"))) (cq0_0 : PySem.W.findIn K (.ref CL0) "n" = some none) (cq0_1 : PySem.W.findIn K (.ref CL0) "clauses" = some none)
    (a0 : PySem.W.nsIn K mainGlobals e0.name = some (some (.ref g0))) (l0 : K.lookup g0 = some ⟨oc0, od0, .func (PySem.W.fnOf e0.name e0.name (defArgs e0.st) (defBody e0.st) (defScope e0.st) .none kV0 dc0 pm0 an0 cd0 ct0), sl0⟩) (c0 : PySem.W.codeIn K cd0 e0.name = true) (k0 : PySem.W.keepIn K (.ref g0) = true)
    (a1 : PySem.W.nsIn K mainGlobals e1.name = some (some (.ref g1))) (l1 : K.lookup g1 = some ⟨oc1, od1, .func (PySem.W.fnOf e1.name e1.name (defArgs e1.st) (defBody e1.st) (defScope e1.st) .none kV1 dc1 pm1 an1 cd1 ct1), sl1⟩) (c1 : PySem.W.codeIn K cd1 e1.name = true) (k1 : PySem.W.keepIn K (.ref g1) = true)
    (a2 : PySem.W.nsIn K mainGlobals e2.name = some (some (.ref g2))) (l2 : K.lookup g2 = some ⟨oc2, od2, .func (PySem.W.fnOf e2.name e2.name (defArgs e2.st) (defBody e2.st) (defScope e2.st) .none kV2 dc2 pm2 an2 cd2 ct2), sl2⟩) (c2 : PySem.W.codeIn K cd2 e2.name = true) (k2 : PySem.W.keepIn K (.ref g2) = true)
    (a3 : PySem.W.nsIn K mainGlobals e3.name = some (some (.ref g3))) (l3 : K.lookup g3 = some ⟨oc3, od3, .func (PySem.W.fnOf e3.name e3.name (defArgs e3.st) (defBody e3.st) (defScope e3.st) .none kV3 dc3 pm3 an3 cd3 ct3), sl3⟩) (c3 : PySem.W.codeIn K cd3 e3.name = true) (k3 : PySem.W.keepIn K (.ref g3) = true)
    (a4 : PySem.W.nsIn K mainGlobals e4.name = some (some (.ref g4))) (l4 : K.lookup g4 = some ⟨oc4, od4, .func (PySem.W.fnOf e4.name e4.name (defArgs e4.st) (defBody e4.st) (defScope e4.st) .none kV4 dc4 pm4 an4 cd4 ct4), sl4⟩) (c4 : PySem.W.codeIn K cd4 e4.name = true) (k4 : PySem.W.keepIn K (.ref g4) = true)
    (a5 : PySem.W.nsIn K mainGlobals e5.name = some (some (.ref g5))) (l5 : K.lookup g5 = some ⟨oc5, od5, .func (PySem.W.fnOf e5.name e5.name (defArgs e5.st) (defBody e5.st) (defScope e5.st) .none kV5 dc5 pm5 an5 cd5 ct5), sl5⟩) (c5 : PySem.W.codeIn K cd5 e5.name = true) (k5 : PySem.W.keepIn K (.ref g5) = true)
    (a6 : PySem.W.nsIn K mainGlobals e6.name = some (some (.ref g6))) (l6 : K.lookup g6 = some ⟨oc6, od6, .func (PySem.W.fnOf e6.name e6.name (defArgs e6.st) (defBody e6.st) (defScope e6.st) .none kV6 dc6 pm6 an6 cd6 ct6), sl6⟩) (c6 : PySem.W.codeIn K cd6 e6.name = true) (k6 : PySem.W.keepIn K (.ref g6) = true)
    (a7 : PySem.W.nsIn K mainGlobals e7.name = some (some (.ref g7))) (l7 : K.lookup g7 = some ⟨oc7, od7, .func (PySem.W.fnOf e7.name e7.name (defArgs e7.st) (defBody e7.st) (defScope e7.st) .none kV7 dc7 pm7 an7 cd7 ct7), sl7⟩) (c7 : PySem.W.codeIn K cd7 e7.name = true) (k7 : PySem.W.keepIn K (.ref g7) = true)
    (a8 : PySem.W.nsIn K mainGlobals e8.name = some (some (.ref g8))) (l8 : K.lookup g8 = some ⟨oc8, od8, .func (PySem.W.fnOf e8.name e8.name (defArgs e8.st) (defBody e8.st) (defScope e8.st) .none kV8 dc8 pm8 an8 cd8 ct8), sl8⟩) (c8 : PySem.W.codeIn K cd8 e8.name = true) (k8 : PySem.W.keepIn K (.ref g8) = true)
    (a9 : PySem.W.nsIn K mainGlobals e9.name = some (some (.ref g9))) (l9 : K.lookup g9 = some ⟨oc9, od9, .func (PySem.W.fnOf e9.name e9.name (defArgs e9.st) (defBody e9.st) (defScope e9.st) .none kV9 dc9 pm9 an9 cd9 ct9), sl9⟩) (c9 : PySem.W.codeIn K cd9 e9.name = true) (k9 : PySem.W.keepIn K (.ref g9) = true)
    (a10 : PySem.W.nsIn K mainGlobals e10.name = some (some (.ref g10))) (l10 : K.lookup g10 = some ⟨oc10, od10, .func (PySem.W.fnOf e10.name e10.name (defArgs e10.st) (defBody e10.st) (defScope e10.st) .none kV10 dc10 pm10 an10 cd10 ct10), sl10⟩) (c10 : PySem.W.codeIn K cd10 e10.name = true) (k10 : PySem.W.keepIn K (.ref g10) = true)
    (a11 : PySem.W.nsIn K mainGlobals e11.name = some (some (.ref g11))) (l11 : K.lookup g11 = some ⟨oc11, od11, .func (PySem.W.fnOf e11.name e11.name (defArgs e11.st) (defBody e11.st) (defScope e11.st) .none kV11 dc11 pm11 an11 cd11 ct11), sl11⟩) (c11 : PySem.W.codeIn K cd11 e11.name = true) (k11 : PySem.W.keepIn K (.ref g11) = true)
    (a12 : PySem.W.nsIn K mainGlobals e12.name = some (some (.ref g12))) (l12 : K.lookup g12 = some ⟨oc12, od12, .func (PySem.W.fnOf e12.name e12.name (defArgs e12.st) (defBody e12.st) (defScope e12.st) .none kV12 dc12 pm12 an12 cd12 ct12), sl12⟩) (c12 : PySem.W.codeIn K cd12 e12.name = true) (k12 : PySem.W.keepIn K (.ref g12) = true)
    (a13 : PySem.W.nsIn K mainGlobals e13.name = some (some (.ref g13))) (l13 : K.lookup g13 = some ⟨oc13, od13, .func (PySem.W.fnOf e13.name e13.name (defArgs e13.st) (defBody e13.st) (defScope e13.st) .none kV13 dc13 pm13 an13 cd13 ct13), sl13⟩) (c13 : PySem.W.codeIn K cd13 e13.name = true) (k13 : PySem.W.keepIn K (.ref g13) = true)
    (a14 : PySem.W.nsIn K mainGlobals e14.name = some (some (.ref g14))) (l14 : K.lookup g14 = some ⟨oc14, od14, .func (PySem.W.fnOf e14.name e14.name (defArgs e14.st) (defBody e14.st) (defScope e14.st) .none kV14 dc14 pm14 an14 cd14 ct14), sl14⟩) (c14 : PySem.W.codeIn K cd14 e14.name = true) (k14 : PySem.W.keepIn K (.ref g14) = true)
    (a15 : PySem.W.nsIn K mainGlobals e15.name = some (some (.ref g15))) (l15 : K.lookup g15 = some ⟨oc15, od15, .func (PySem.W.fnOf e15.name e15.name (defArgs e15.st) (defBody e15.st) (defScope e15.st) .none kV15 dc15 pm15 an15 cd15 ct15), sl15⟩) (c15 : PySem.W.codeIn K cd15 e15.name = true) (k15 : PySem.W.keepIn K (.ref g15) = true)
    (a16 : PySem.W.nsIn K mainGlobals e16.name = some (some (.ref g16))) (l16 : K.lookup g16 = some ⟨oc16, od16, .func (PySem.W.fnOf e16.name e16.name (defArgs e16.st) (defBody e16.st) (defScope e16.st) .none kV16 dc16 pm16 an16 cd16 ct16), sl16⟩) (c16 : PySem.W.codeIn K cd16 e16.name = true) (k16 : PySem.W.keepIn K (.ref g16) = true)
    (a17 : PySem.W.nsIn K mainGlobals e17.name = some (some (.ref g17))) (l17 : K.lookup g17 = some ⟨oc17, od17, .func (PySem.W.fnOf e17.name e17.name (defArgs e17.st) (defBody e17.st) (defScope e17.st) .none kV17 dc17 pm17 an17 cd17 ct17), sl17⟩) (c17 : PySem.W.codeIn K cd17 e17.name = true) (k17 : PySem.W.keepIn K (.ref g17) = true)
    (a18 : PySem.W.nsIn K mainGlobals e18.name = some (some (.ref g18))) (l18 : K.lookup g18 = some ⟨oc18, od18, .func (PySem.W.fnOf e18.name e18.name (defArgs e18.st) (defBody e18.st) (defScope e18.st) .none kV18 dc18 pm18 an18 cd18 ct18), sl18⟩) (c18 : PySem.W.codeIn K cd18 e18.name = true) (k18 : PySem.W.keepIn K (.ref g18) = true)
    (a19 : PySem.W.nsIn K mainGlobals e19.name = some (some (.ref g19))) (l19 : K.lookup g19 = some ⟨oc19, od19, .func (PySem.W.fnOf e19.name e19.name (defArgs e19.st) (defBody e19.st) (defScope e19.st) .none kV19 dc19 pm19 an19 cd19 ct19), sl19⟩) (c19 : PySem.W.codeIn K cd19 e19.name = true) (k19 : PySem.W.keepIn K (.ref g19) = true)
    (a20 : PySem.W.nsIn K mainGlobals e20.name = some (some (.ref g20))) (l20 : K.lookup g20 = some ⟨oc20, od20, .func (PySem.W.fnOf e20.name e20.name (defArgs e20.st) (defBody e20.st) (defScope e20.st) .none kV20 dc20 pm20 an20 cd20 ct20), sl20⟩) (c20 : PySem.W.codeIn K cd20 e20.name = true) (k20 : PySem.W.keepIn K (.ref g20) = true)
    (a21 : PySem.W.nsIn K mainGlobals e21.name = some (some (.ref g21))) (l21 : K.lookup g21 = some ⟨oc21, od21, .func (PySem.W.fnOf e21.name e21.name (defArgs e21.st) (defBody e21.st) (defScope e21.st) .none kV21 dc21 pm21 an21 cd21 ct21), sl21⟩) (c21 : PySem.W.codeIn K cd21 e21.name = true) (k21 : PySem.W.keepIn K (.ref g21) = true)
    (z0 : PySem.W.nsIn K mainGlobals "abs" = some none)
    (z1 : PySem.W.nsIn K mainGlobals "all" = some none)
    (z2 : PySem.W.nsIn K mainGlobals "any" = some none)
    (z3 : PySem.W.nsIn K mainGlobals "bool" = some none)
    (z4 : PySem.W.nsIn K mainGlobals "int" = some none)
    (z5 : PySem.W.nsIn K mainGlobals "isinstance" = some none)
    (z6 : PySem.W.nsIn K mainGlobals "len" = some none)
    (z7 : PySem.W.nsIn K mainGlobals "list" = some none)
    (z8 : PySem.W.nsIn K mainGlobals "range" = some none)
    (z9 : PySem.W.nsIn K mainGlobals "repr" = some none)
    (z10 : PySem.W.nsIn K mainGlobals "sorted" = some none)
    (z11 : PySem.W.nsIn K mainGlobals "str" = some none)
    (z12 : PySem.W.nsIn K mainGlobals "tuple" = some none)
    (noS : PySem.W.nsIn K mainGlobals "super" = some none) (opq : PySem.W.nsIn K cStatics "thirdparty.any" = some none)
    {C0 fI0 : Addr} (n_0 : PySem.W.nsIn K mainGlobals "InvalidNumber" = some (some (.ref C0)))
    {nm0 q0 : Str} {N0 : Addr} {bs0 bm0 : List Value} {sn0 : List Str} {sub0 : List Value} {ab0 : Bool} {col0 : Option Bool} {dd0 : Option Addr} {ka0 kb0 kc0 kd0 ke0 : Option Value}
    (cl0 : K.lookup C0 = some (excClassObj nm0 q0 C0 N0 bs0 bm0 true sn0 sub0 ab0 col0 dd0 ka0 kb0 kc0 kd0 ke0 "ValueError.__new__")) (rv0 : PySem.HandSPX.refsVE bm0 = true)
    (sa0 : PySem.W.findIn K (.ref C0) "__setattr__" = some (some (.builtin "object.__setattr__"))) (ga0 : PySem.W.findIn K (.ref C0) "__getattribute__" = some (some (.builtin "BaseException.__getattribute__"))) (gg0 : PySem.W.findIn K (.ref C0) "__getattr__" = some none)
    (no0_0 : PySem.W.findIn K (.ref C0) "value" = some none)
    (iC0 : PySem.W.findIn K (.ref C0) "__init__" = some (some (.ref fI0))) (tC0 : PySem.W.typeIn K (.ref fI0) = some (.type "function")) (kC0 : PySem.W.keepIn K (.ref C0) = true)
    (exC0 : PySem.W.subIn K (.ref C0) (.type "BaseException") = some true) (veC0 : PySem.W.subIn K (.ref C0) (.type "ValueError") = some true) (tyC0 : PySem.W.typeIn K (.ref C0) = some (.type "type")) (hdC0 : PySem.W.hasDictIn K C0 = true)
    (sup0 : PySem.W.ks_superIn K C0 C0 "__init__" = some (some (.builtin "ValueError.__init__"))) (meC0 : PySem.W.mroIn K C0 (.ref C0) = some true)
    {oc_0 : Value} {od_0 : Option Addr} {doc0 pm_0 : Value} {an_0 : Option Addr} {cda0 cc0 : Addr} {ct_0 : Value} {osl0 : Array (Option Value)} {qual0 : Str} {params0 : Arguments} {body0 : List Stmt} {scope0 : Scope}
    (lf0 : K.lookup fI0 = some ⟨oc_0, od_0, .func (PySem.W.ksFn "__init__" qual0 params0 body0 scope0 .none .none doc0 pm_0 an_0 (.ref cda0) ct_0 cc0), osl0⟩) (cd_0 : PySem.W.codeIn K (.ref cda0) qual0 = true)
    {ccl0 : Value} {cdd0 : Option Addr} {vs0 : Array Value} {ccs0 : Array (Option Value)} {file0 : Str} {tf0 : Tok} (lc0 : K.lookup cda0 = some ⟨ccl0, cdd0, .fields vs0, ccs0⟩) (v20 : vs0[2]? = some (.str file0 tf0)) (fl0 : ((PySem.Challenge.pw_clausehold_k75_ways_to_meet.main.file : Str) == file0) = true)
    {cl_0 : Value} {cld0 : Option Addr} {csl0 : Array (Option Value)} (lcc0 : K.lookup cc0 = some ⟨cl_0, cld0, .cell (some (.ref C0)), csl0⟩)
    (sf0 : ∃ ar : Arg, (params0.posonlyargs ++ params0.args).head? = some ar ∧ ar.arg = "self")
    (bd0 : ∀ (s : Shared) (u : Value) (vs : List Value), vs.length = 1 → BindsTo s (PySem.W.ksFn "__init__" qual0 params0 body0 scope0 .none .none doc0 pm_0 an_0 (.ref cda0) ct_0 cc0) ⟨u :: vs, []⟩ (("self", u) :: List.zip ["value"] vs))
    (sc0 : scope0.names.lookup ("super" : Str) = some .globalImplicit ∧ scope0.names.lookup ("__class__" : Str) = some .free ∧ scope0.names.lookup ("self" : Str) = some .local ∧ (∀ f ∈ (["value"] : List Str), scope0.names.lookup f = some .local) ∧ (∀ x ∈ scope0.names, x.2 ≠ .cell) ∧ scope0.isCoroutine = false ∧ scope0.isGenerator = false ∧ scope0.kind = .function)
    (ini0 : InitIs ["value"] body0)
    {C1 fI1 : Addr} (n_1 : PySem.W.nsIn K mainGlobals "InvalidClause" = some (some (.ref C1)))
    {nm1 q1 : Str} {N1 : Addr} {bs1 bm1 : List Value} {sn1 : List Str} {sub1 : List Value} {ab1 : Bool} {col1 : Option Bool} {dd1 : Option Addr} {ka1 kb1 kc1 kd1 ke1 : Option Value}
    (cl1 : K.lookup C1 = some (excClassObj nm1 q1 C1 N1 bs1 bm1 true sn1 sub1 ab1 col1 dd1 ka1 kb1 kc1 kd1 ke1 "ValueError.__new__")) (rv1 : PySem.HandSPX.refsVE bm1 = true)
    (sa1 : PySem.W.findIn K (.ref C1) "__setattr__" = some (some (.builtin "object.__setattr__"))) (ga1 : PySem.W.findIn K (.ref C1) "__getattribute__" = some (some (.builtin "BaseException.__getattribute__"))) (gg1 : PySem.W.findIn K (.ref C1) "__getattr__" = some none)
    (no1_0 : PySem.W.findIn K (.ref C1) "value" = some none)
    (iC1 : PySem.W.findIn K (.ref C1) "__init__" = some (some (.ref fI1))) (tC1 : PySem.W.typeIn K (.ref fI1) = some (.type "function")) (kC1 : PySem.W.keepIn K (.ref C1) = true)
    (exC1 : PySem.W.subIn K (.ref C1) (.type "BaseException") = some true) (veC1 : PySem.W.subIn K (.ref C1) (.type "ValueError") = some true) (tyC1 : PySem.W.typeIn K (.ref C1) = some (.type "type")) (hdC1 : PySem.W.hasDictIn K C1 = true)
    (sup1 : PySem.W.ks_superIn K C1 C1 "__init__" = some (some (.builtin "ValueError.__init__"))) (meC1 : PySem.W.mroIn K C1 (.ref C1) = some true)
    {oc_1 : Value} {od_1 : Option Addr} {doc1 pm_1 : Value} {an_1 : Option Addr} {cda1 cc1 : Addr} {ct_1 : Value} {osl1 : Array (Option Value)} {qual1 : Str} {params1 : Arguments} {body1 : List Stmt} {scope1 : Scope}
    (lf1 : K.lookup fI1 = some ⟨oc_1, od_1, .func (PySem.W.ksFn "__init__" qual1 params1 body1 scope1 .none .none doc1 pm_1 an_1 (.ref cda1) ct_1 cc1), osl1⟩) (cd_1 : PySem.W.codeIn K (.ref cda1) qual1 = true)
    {ccl1 : Value} {cdd1 : Option Addr} {vs1 : Array Value} {ccs1 : Array (Option Value)} {file1 : Str} {tf1 : Tok} (lc1 : K.lookup cda1 = some ⟨ccl1, cdd1, .fields vs1, ccs1⟩) (v21 : vs1[2]? = some (.str file1 tf1)) (fl1 : ((PySem.Challenge.pw_clausehold_k75_ways_to_meet.main.file : Str) == file1) = true)
    {cl_1 : Value} {cld1 : Option Addr} {csl1 : Array (Option Value)} (lcc1 : K.lookup cc1 = some ⟨cl_1, cld1, .cell (some (.ref C1)), csl1⟩)
    (sf1 : ∃ ar : Arg, (params1.posonlyargs ++ params1.args).head? = some ar ∧ ar.arg = "self")
    (bd1 : ∀ (s : Shared) (u : Value) (vs : List Value), vs.length = 1 → BindsTo s (PySem.W.ksFn "__init__" qual1 params1 body1 scope1 .none .none doc1 pm_1 an_1 (.ref cda1) ct_1 cc1) ⟨u :: vs, []⟩ (("self", u) :: List.zip ["value"] vs))
    (sc1 : scope1.names.lookup ("super" : Str) = some .globalImplicit ∧ scope1.names.lookup ("__class__" : Str) = some .free ∧ scope1.names.lookup ("self" : Str) = some .local ∧ (∀ f ∈ (["value"] : List Str), scope1.names.lookup f = some .local) ∧ (∀ x ∈ scope1.names, x.2 ≠ .cell) ∧ scope1.isCoroutine = false ∧ scope1.isGenerator = false ∧ scope1.kind = .function)
    (ini1 : InitIs ["value"] body1)
    {C2 fI2 : Addr} (n_2 : PySem.W.nsIn K mainGlobals "InvalidFormula" = some (some (.ref C2)))
    {nm2 q2 : Str} {N2 : Addr} {bs2 bm2 : List Value} {sn2 : List Str} {sub2 : List Value} {ab2 : Bool} {col2 : Option Bool} {dd2 : Option Addr} {ka2 kb2 kc2 kd2 ke2 : Option Value}
    (cl2 : K.lookup C2 = some (excClassObj nm2 q2 C2 N2 bs2 bm2 true sn2 sub2 ab2 col2 dd2 ka2 kb2 kc2 kd2 ke2 "ValueError.__new__")) (rv2 : PySem.HandSPX.refsVE bm2 = true)
    (sa2 : PySem.W.findIn K (.ref C2) "__setattr__" = some (some (.builtin "object.__setattr__"))) (ga2 : PySem.W.findIn K (.ref C2) "__getattribute__" = some (some (.builtin "BaseException.__getattribute__"))) (gg2 : PySem.W.findIn K (.ref C2) "__getattr__" = some none)
    (no2_0 : PySem.W.findIn K (.ref C2) "value" = some none)
    (iC2 : PySem.W.findIn K (.ref C2) "__init__" = some (some (.ref fI2))) (tC2 : PySem.W.typeIn K (.ref fI2) = some (.type "function")) (kC2 : PySem.W.keepIn K (.ref C2) = true)
    (exC2 : PySem.W.subIn K (.ref C2) (.type "BaseException") = some true) (veC2 : PySem.W.subIn K (.ref C2) (.type "ValueError") = some true) (tyC2 : PySem.W.typeIn K (.ref C2) = some (.type "type")) (hdC2 : PySem.W.hasDictIn K C2 = true)
    (sup2 : PySem.W.ks_superIn K C2 C2 "__init__" = some (some (.builtin "ValueError.__init__"))) (meC2 : PySem.W.mroIn K C2 (.ref C2) = some true)
    {oc_2 : Value} {od_2 : Option Addr} {doc2 pm_2 : Value} {an_2 : Option Addr} {cda2 cc2 : Addr} {ct_2 : Value} {osl2 : Array (Option Value)} {qual2 : Str} {params2 : Arguments} {body2 : List Stmt} {scope2 : Scope}
    (lf2 : K.lookup fI2 = some ⟨oc_2, od_2, .func (PySem.W.ksFn "__init__" qual2 params2 body2 scope2 .none .none doc2 pm_2 an_2 (.ref cda2) ct_2 cc2), osl2⟩) (cd_2 : PySem.W.codeIn K (.ref cda2) qual2 = true)
    {ccl2 : Value} {cdd2 : Option Addr} {vs2 : Array Value} {ccs2 : Array (Option Value)} {file2 : Str} {tf2 : Tok} (lc2 : K.lookup cda2 = some ⟨ccl2, cdd2, .fields vs2, ccs2⟩) (v22 : vs2[2]? = some (.str file2 tf2)) (fl2 : ((PySem.Challenge.pw_clausehold_k75_ways_to_meet.main.file : Str) == file2) = true)
    {cl_2 : Value} {cld2 : Option Addr} {csl2 : Array (Option Value)} (lcc2 : K.lookup cc2 = some ⟨cl_2, cld2, .cell (some (.ref C2)), csl2⟩)
    (sf2 : ∃ ar : Arg, (params2.posonlyargs ++ params2.args).head? = some ar ∧ ar.arg = "self")
    (bd2 : ∀ (s : Shared) (u : Value) (vs : List Value), vs.length = 1 → BindsTo s (PySem.W.ksFn "__init__" qual2 params2 body2 scope2 .none .none doc2 pm_2 an_2 (.ref cda2) ct_2 cc2) ⟨u :: vs, []⟩ (("self", u) :: List.zip ["value"] vs))
    (sc2 : scope2.names.lookup ("super" : Str) = some .globalImplicit ∧ scope2.names.lookup ("__class__" : Str) = some .free ∧ scope2.names.lookup ("self" : Str) = some .local ∧ (∀ f ∈ (["value"] : List Str), scope2.names.lookup f = some .local) ∧ (∀ x ∈ scope2.names, x.2 ≠ .cell) ∧ scope2.isCoroutine = false ∧ scope2.isGenerator = false ∧ scope2.kind = .function)
    (ini2 : InitIs ["value"] body2)
    {C3 fI3 : Addr} (n_3 : PySem.W.nsIn K mainGlobals "InvalidPrefix" = some (some (.ref C3)))
    {nm3 q3 : Str} {N3 : Addr} {bs3 bm3 : List Value} {sn3 : List Str} {sub3 : List Value} {ab3 : Bool} {col3 : Option Bool} {dd3 : Option Addr} {ka3 kb3 kc3 kd3 ke3 : Option Value}
    (cl3 : K.lookup C3 = some (excClassObj nm3 q3 C3 N3 bs3 bm3 true sn3 sub3 ab3 col3 dd3 ka3 kb3 kc3 kd3 ke3 "ValueError.__new__")) (rv3 : PySem.HandSPX.refsVE bm3 = true)
    (sa3 : PySem.W.findIn K (.ref C3) "__setattr__" = some (some (.builtin "object.__setattr__"))) (ga3 : PySem.W.findIn K (.ref C3) "__getattribute__" = some (some (.builtin "BaseException.__getattribute__"))) (gg3 : PySem.W.findIn K (.ref C3) "__getattr__" = some none)
    (no3_0 : PySem.W.findIn K (.ref C3) "value" = some none)
    (iC3 : PySem.W.findIn K (.ref C3) "__init__" = some (some (.ref fI3))) (tC3 : PySem.W.typeIn K (.ref fI3) = some (.type "function")) (kC3 : PySem.W.keepIn K (.ref C3) = true)
    (exC3 : PySem.W.subIn K (.ref C3) (.type "BaseException") = some true) (veC3 : PySem.W.subIn K (.ref C3) (.type "ValueError") = some true) (tyC3 : PySem.W.typeIn K (.ref C3) = some (.type "type")) (hdC3 : PySem.W.hasDictIn K C3 = true)
    (sup3 : PySem.W.ks_superIn K C3 C3 "__init__" = some (some (.builtin "ValueError.__init__"))) (meC3 : PySem.W.mroIn K C3 (.ref C3) = some true)
    {oc_3 : Value} {od_3 : Option Addr} {doc3 pm_3 : Value} {an_3 : Option Addr} {cda3 cc3 : Addr} {ct_3 : Value} {osl3 : Array (Option Value)} {qual3 : Str} {params3 : Arguments} {body3 : List Stmt} {scope3 : Scope}
    (lf3 : K.lookup fI3 = some ⟨oc_3, od_3, .func (PySem.W.ksFn "__init__" qual3 params3 body3 scope3 .none .none doc3 pm_3 an_3 (.ref cda3) ct_3 cc3), osl3⟩) (cd_3 : PySem.W.codeIn K (.ref cda3) qual3 = true)
    {ccl3 : Value} {cdd3 : Option Addr} {vs3 : Array Value} {ccs3 : Array (Option Value)} {file3 : Str} {tf3 : Tok} (lc3 : K.lookup cda3 = some ⟨ccl3, cdd3, .fields vs3, ccs3⟩) (v23 : vs3[2]? = some (.str file3 tf3)) (fl3 : ((PySem.Challenge.pw_clausehold_k75_ways_to_meet.main.file : Str) == file3) = true)
    {cl_3 : Value} {cld3 : Option Addr} {csl3 : Array (Option Value)} (lcc3 : K.lookup cc3 = some ⟨cl_3, cld3, .cell (some (.ref C3)), csl3⟩)
    (sf3 : ∃ ar : Arg, (params3.posonlyargs ++ params3.args).head? = some ar ∧ ar.arg = "self")
    (bd3 : ∀ (s : Shared) (u : Value) (vs : List Value), vs.length = 1 → BindsTo s (PySem.W.ksFn "__init__" qual3 params3 body3 scope3 .none .none doc3 pm_3 an_3 (.ref cda3) ct_3 cc3) ⟨u :: vs, []⟩ (("self", u) :: List.zip ["value"] vs))
    (sc3 : scope3.names.lookup ("super" : Str) = some .globalImplicit ∧ scope3.names.lookup ("__class__" : Str) = some .free ∧ scope3.names.lookup ("self" : Str) = some .local ∧ (∀ f ∈ (["value"] : List Str), scope3.names.lookup f = some .local) ∧ (∀ x ∈ scope3.names, x.2 ≠ .cell) ∧ scope3.isCoroutine = false ∧ scope3.isGenerator = false ∧ scope3.kind = .function)
    (ini3 : InitIs ["value"] body3)
    {C4 fI4 : Addr} (n_4 : PySem.W.nsIn K mainGlobals "Undefined" = some (some (.ref C4)))
    {nm4 q4 : Str} {N4 : Addr} {bs4 bm4 : List Value} {sn4 : List Str} {sub4 : List Value} {ab4 : Bool} {col4 : Option Bool} {dd4 : Option Addr} {ka4 kb4 kc4 kd4 ke4 : Option Value}
    (cl4 : K.lookup C4 = some (excClassObj nm4 q4 C4 N4 bs4 bm4 true sn4 sub4 ab4 col4 dd4 ka4 kb4 kc4 kd4 ke4 "ValueError.__new__")) (rv4 : PySem.HandSPX.refsVE bm4 = true)
    (sa4 : PySem.W.findIn K (.ref C4) "__setattr__" = some (some (.builtin "object.__setattr__"))) (ga4 : PySem.W.findIn K (.ref C4) "__getattribute__" = some (some (.builtin "BaseException.__getattribute__"))) (gg4 : PySem.W.findIn K (.ref C4) "__getattr__" = some none)
    (no4_0 : PySem.W.findIn K (.ref C4) "what" = some none)
    (iC4 : PySem.W.findIn K (.ref C4) "__init__" = some (some (.ref fI4))) (tC4 : PySem.W.typeIn K (.ref fI4) = some (.type "function")) (kC4 : PySem.W.keepIn K (.ref C4) = true)
    (exC4 : PySem.W.subIn K (.ref C4) (.type "BaseException") = some true) (veC4 : PySem.W.subIn K (.ref C4) (.type "ValueError") = some true) (tyC4 : PySem.W.typeIn K (.ref C4) = some (.type "type")) (hdC4 : PySem.W.hasDictIn K C4 = true)
    (sup4 : PySem.W.ks_superIn K C4 C4 "__init__" = some (some (.builtin "ValueError.__init__"))) (meC4 : PySem.W.mroIn K C4 (.ref C4) = some true)
    {oc_4 : Value} {od_4 : Option Addr} {doc4 pm_4 : Value} {an_4 : Option Addr} {cda4 cc4 : Addr} {ct_4 : Value} {osl4 : Array (Option Value)} {qual4 : Str} {params4 : Arguments} {body4 : List Stmt} {scope4 : Scope}
    (lf4 : K.lookup fI4 = some ⟨oc_4, od_4, .func (PySem.W.ksFn "__init__" qual4 params4 body4 scope4 .none .none doc4 pm_4 an_4 (.ref cda4) ct_4 cc4), osl4⟩) (cd_4 : PySem.W.codeIn K (.ref cda4) qual4 = true)
    {ccl4 : Value} {cdd4 : Option Addr} {vs4 : Array Value} {ccs4 : Array (Option Value)} {file4 : Str} {tf4 : Tok} (lc4 : K.lookup cda4 = some ⟨ccl4, cdd4, .fields vs4, ccs4⟩) (v24 : vs4[2]? = some (.str file4 tf4)) (fl4 : ((PySem.Challenge.pw_clausehold_k75_ways_to_meet.main.file : Str) == file4) = true)
    {cl_4 : Value} {cld4 : Option Addr} {csl4 : Array (Option Value)} (lcc4 : K.lookup cc4 = some ⟨cl_4, cld4, .cell (some (.ref C4)), csl4⟩)
    (sf4 : ∃ ar : Arg, (params4.posonlyargs ++ params4.args).head? = some ar ∧ ar.arg = "self")
    (bd4 : ∀ (s : Shared) (u : Value) (vs : List Value), vs.length = 1 → BindsTo s (PySem.W.ksFn "__init__" qual4 params4 body4 scope4 .none .none doc4 pm_4 an_4 (.ref cda4) ct_4 cc4) ⟨u :: vs, []⟩ (("self", u) :: List.zip ["what"] vs))
    (sc4 : scope4.names.lookup ("super" : Str) = some .globalImplicit ∧ scope4.names.lookup ("__class__" : Str) = some .free ∧ scope4.names.lookup ("self" : Str) = some .local ∧ (∀ f ∈ (["what"] : List Str), scope4.names.lookup f = some .local) ∧ (∀ x ∈ scope4.names, x.2 ≠ .cell) ∧ scope4.isCoroutine = false ∧ scope4.isGenerator = false ∧ scope4.kind = .function)
    (ini4 : InitIs ["what"] body4)
    (m0_0 : PySem.W.exmOne K (.ref C0) (.ref C0) = some true)
    (m0_1 : PySem.W.exmOne K (.ref C0) (.ref C1) = some false)
    (m0_2 : PySem.W.exmOne K (.ref C0) (.ref C2) = some false)
    (m0_3 : PySem.W.exmOne K (.ref C0) (.ref C3) = some false)
    (m0_4 : PySem.W.exmOne K (.ref C0) (.ref C4) = some false)
    (m1_0 : PySem.W.exmOne K (.ref C1) (.ref C0) = some false)
    (m1_1 : PySem.W.exmOne K (.ref C1) (.ref C1) = some true)
    (m1_2 : PySem.W.exmOne K (.ref C1) (.ref C2) = some false)
    (m1_3 : PySem.W.exmOne K (.ref C1) (.ref C3) = some false)
    (m1_4 : PySem.W.exmOne K (.ref C1) (.ref C4) = some false)
    (m2_0 : PySem.W.exmOne K (.ref C2) (.ref C0) = some false)
    (m2_1 : PySem.W.exmOne K (.ref C2) (.ref C1) = some false)
    (m2_2 : PySem.W.exmOne K (.ref C2) (.ref C2) = some true)
    (m2_3 : PySem.W.exmOne K (.ref C2) (.ref C3) = some false)
    (m2_4 : PySem.W.exmOne K (.ref C2) (.ref C4) = some false)
    (m3_0 : PySem.W.exmOne K (.ref C3) (.ref C0) = some false)
    (m3_1 : PySem.W.exmOne K (.ref C3) (.ref C1) = some false)
    (m3_2 : PySem.W.exmOne K (.ref C3) (.ref C2) = some false)
    (m3_3 : PySem.W.exmOne K (.ref C3) (.ref C3) = some true)
    (m3_4 : PySem.W.exmOne K (.ref C3) (.ref C4) = some false)
    (m4_0 : PySem.W.exmOne K (.ref C4) (.ref C0) = some false)
    (m4_1 : PySem.W.exmOne K (.ref C4) (.ref C1) = some false)
    (m4_2 : PySem.W.exmOne K (.ref C4) (.ref C2) = some false)
    (m4_3 : PySem.W.exmOne K (.ref C4) (.ref C3) = some false)
    (m4_4 : PySem.W.exmOne K (.ref C4) (.ref C4) = some true)
    : (∀ e ∈ ents, ∃ a fd, Here K mg e a fd) ∧ (∀ x ∈ bns, mg x = none) ∧ (∀ x kvs, dcs.lookup x = some kvs → DctK K w mg x kvs) ∧ (∀ c k, exs[c]? = some k → ExK PySem.Challenge.pw_clausehold_k75_ways_to_meet K mg exs c k) ∧ ∀ k ∈ cls, ClK K k := by
  refine ⟨?_, ?_, ?_, exs_all ⟨exk_mk (c := 0) (k := ("InvalidNumber", ["value"], [0])) X G n_0 (ext_mk X G cl0 rv0 sa0 ga0 gg0 (by simp only [List.forall_mem_cons]; exact ⟨no0_0, fun _ h => absurd h (by simp)⟩) iC0 tC0 kC0 exC0 veC0 tyC0 hdC0 sup0 meC0 noS opq (by decide +kernel) (by decide +kernel) (by decide +kernel) (by decide) lf0 cd_0 lc0 v20 fl0 lcc0 sf0 bd0 sc0 ini0) ⟨⟨C0, clsAt_of n_0, m0_0⟩, ⟨C1, clsAt_of n_1, m1_0⟩, ⟨C2, clsAt_of n_2, m2_0⟩, ⟨C3, clsAt_of n_3, m3_0⟩, ⟨C4, clsAt_of n_4, m4_0⟩, trivial⟩, exk_mk (c := 1) (k := ("InvalidClause", ["value"], [1])) X G n_1 (ext_mk X G cl1 rv1 sa1 ga1 gg1 (by simp only [List.forall_mem_cons]; exact ⟨no1_0, fun _ h => absurd h (by simp)⟩) iC1 tC1 kC1 exC1 veC1 tyC1 hdC1 sup1 meC1 noS opq (by decide +kernel) (by decide +kernel) (by decide +kernel) (by decide) lf1 cd_1 lc1 v21 fl1 lcc1 sf1 bd1 sc1 ini1) ⟨⟨C0, clsAt_of n_0, m0_1⟩, ⟨C1, clsAt_of n_1, m1_1⟩, ⟨C2, clsAt_of n_2, m2_1⟩, ⟨C3, clsAt_of n_3, m3_1⟩, ⟨C4, clsAt_of n_4, m4_1⟩, trivial⟩, exk_mk (c := 2) (k := ("InvalidFormula", ["value"], [2])) X G n_2 (ext_mk X G cl2 rv2 sa2 ga2 gg2 (by simp only [List.forall_mem_cons]; exact ⟨no2_0, fun _ h => absurd h (by simp)⟩) iC2 tC2 kC2 exC2 veC2 tyC2 hdC2 sup2 meC2 noS opq (by decide +kernel) (by decide +kernel) (by decide +kernel) (by decide) lf2 cd_2 lc2 v22 fl2 lcc2 sf2 bd2 sc2 ini2) ⟨⟨C0, clsAt_of n_0, m0_2⟩, ⟨C1, clsAt_of n_1, m1_2⟩, ⟨C2, clsAt_of n_2, m2_2⟩, ⟨C3, clsAt_of n_3, m3_2⟩, ⟨C4, clsAt_of n_4, m4_2⟩, trivial⟩, exk_mk (c := 3) (k := ("InvalidPrefix", ["value"], [3])) X G n_3 (ext_mk X G cl3 rv3 sa3 ga3 gg3 (by simp only [List.forall_mem_cons]; exact ⟨no3_0, fun _ h => absurd h (by simp)⟩) iC3 tC3 kC3 exC3 veC3 tyC3 hdC3 sup3 meC3 noS opq (by decide +kernel) (by decide +kernel) (by decide +kernel) (by decide) lf3 cd_3 lc3 v23 fl3 lcc3 sf3 bd3 sc3 ini3) ⟨⟨C0, clsAt_of n_0, m0_3⟩, ⟨C1, clsAt_of n_1, m1_3⟩, ⟨C2, clsAt_of n_2, m2_3⟩, ⟨C3, clsAt_of n_3, m3_3⟩, ⟨C4, clsAt_of n_4, m4_3⟩, trivial⟩, exk_mk (c := 4) (k := ("Undefined", ["what"], [4])) X G n_4 (ext_mk X G cl4 rv4 sa4 ga4 gg4 (by simp only [List.forall_mem_cons]; exact ⟨no4_0, fun _ h => absurd h (by simp)⟩) iC4 tC4 kC4 exC4 veC4 tyC4 hdC4 sup4 meC4 noS opq (by decide +kernel) (by decide +kernel) (by decide +kernel) (by decide) lf4 cd_4 lc4 v24 fl4 lcc4 sf4 bd4 sc4 ini4) ⟨⟨C0, clsAt_of n_0, m0_4⟩, ⟨C1, clsAt_of n_1, m1_4⟩, ⟨C2, clsAt_of n_2, m2_4⟩, ⟨C3, clsAt_of n_3, m3_4⟩, ⟨C4, clsAt_of n_4, m4_4⟩, trivial⟩, trivial⟩, ?_⟩
  · unfold ents
    simp only [List.forall_mem_cons]
    exact ⟨here_mk rfl X G a0 l0 c0 k0 (fun _ _ _ _ _ _ us hl => match us, hl with | [_], _ => rfl), here_mk rfl X G a1 l1 c1 k1 (fun _ _ _ _ _ _ us hl => match us, hl with | [_], _ => rfl), here_mk rfl X G a2 l2 c2 k2 (fun _ _ _ _ _ _ us hl => match us, hl with | [_, _], _ => rfl), here_mk rfl X G a3 l3 c3 k3 (fun _ _ _ _ _ _ us hl => match us, hl with | [_], _ => rfl), here_mk rfl X G a4 l4 c4 k4 (fun _ _ _ _ _ _ us hl => match us, hl with | [_], _ => rfl), here_mk rfl X G a5 l5 c5 k5 (fun _ _ _ _ _ _ us hl => match us, hl with | [_], _ => rfl), here_mk rfl X G a6 l6 c6 k6 (fun _ _ _ _ _ _ us hl => match us, hl with | [_, _], _ => rfl), here_mk rfl X G a7 l7 c7 k7 (fun _ _ _ _ _ _ us hl => match us, hl with | [_, _], _ => rfl), here_mk rfl X G a8 l8 c8 k8 (fun _ _ _ _ _ _ us hl => match us, hl with | [_], _ => rfl), here_mk rfl X G a9 l9 c9 k9 (fun _ _ _ _ _ _ us hl => match us, hl with | [_, _, _], _ => rfl), here_mk rfl X G a10 l10 c10 k10 (fun _ _ _ _ _ _ us hl => match us, hl with | [_, _], _ => rfl), here_mk rfl X G a11 l11 c11 k11 (fun _ _ _ _ _ _ us hl => match us, hl with | [_, _], _ => rfl), here_mk rfl X G a12 l12 c12 k12 (fun _ _ _ _ _ _ us hl => match us, hl with | [_, _], _ => rfl), here_mk rfl X G a13 l13 c13 k13 (fun _ _ _ _ _ _ us hl => match us, hl with | [_], _ => rfl), here_mk rfl X G a14 l14 c14 k14 (fun _ _ _ _ _ _ us hl => match us, hl with | [_], _ => rfl), here_mk rfl X G a15 l15 c15 k15 (fun _ _ _ _ _ _ us hl => match us, hl with | [_, _], _ => rfl), here_mk rfl X G a16 l16 c16 k16 (fun _ _ _ _ _ _ us hl => match us, hl with | [_, _, _, _], _ => rfl), here_mk rfl X G a17 l17 c17 k17 (fun _ _ _ _ _ _ us hl => match us, hl with | [_], _ => rfl), here_mk rfl X G a18 l18 c18 k18 (fun _ _ _ _ _ _ us hl => match us, hl with | [_, _], _ => rfl), here_mk rfl X G a19 l19 c19 k19 (fun _ _ _ _ _ _ us hl => match us, hl with | [_, _, _], _ => rfl), here_mk rfl X G a20 l20 c20 k20 (fun _ _ _ _ _ _ us hl => match us, hl with | [_, _], _ => rfl), here_mk rfl X G a21 l21 c21 k21 (fun _ _ _ _ _ _ us hl => match us, hl with | [_], _ => rfl), here_ini rfl cn0 ci0 l22 c22 k22 (fun _ _ _ _ _ _ us hl => match us, hl with | [_, _, _], _ => rfl), here_cls rfl X G cn0 cm0 ci0 cf0 ck0, fun _ h => absurd h (by simp)⟩
  · unfold bns
    simp only [List.forall_mem_cons]
    exact ⟨PySem.W.mg_none_of X G z0, PySem.W.mg_none_of X G z1, PySem.W.mg_none_of X G z2, PySem.W.mg_none_of X G z3, PySem.W.mg_none_of X G z4, PySem.W.mg_none_of X G z5, PySem.W.mg_none_of X G z6, PySem.W.mg_none_of X G z7, PySem.W.mg_none_of X G z8, PySem.W.mg_none_of X G z9, PySem.W.mg_none_of X G z10, PySem.W.mg_none_of X G z11, PySem.W.mg_none_of X G z12, fun _ h => absurd h (by simp)⟩
  · exact fun x kvs h => by simp [dcs] at h
  · unfold cls
    simp only [List.forall_mem_cons]
    exact ⟨clk_mk cn0 cg0 ch0 co0 cs0 (by simp only [List.forall_mem_cons]; exact ⟨cq0_0, cq0_1, fun _ h => absurd h (by simp)⟩), fun _ h => absurd h (by simp)⟩
end
end K75
open PySem PySem.W PyProof.Rows
set_option maxRecDepth 100000 in
set_option maxHeartbeats 0 in
theorem PySem.Challenge.cw_clausehold_k75_ways_to_meet_holds : PySem.Challenge.rw_clausehold_k75_ways_to_meet.Holds := by
  w_on; o_law; k_head; (case hw => w_witness2)
  k_fill
  refine CH.walkL (li := 21) (k := 7) (bn := K75.bns) (ents := K75.ents) (dcs := K75.dcs) (exs := K75.exs) (cls := K75.cls) (l := PySem.Challenge.rw_clausehold_k75_ways_to_meet) (e := K75.e21) (x := "_law_script") rfl rfl (fun w h Y => PySem.W.kIn_of Y) ⟨rfl, by decide, by decide⟩ rfl rfl rfl rfl K75.oks K75.hrun (fun _ _ _ _ _ _ _ _ => .of_eq rfl) ?F
  case F =>
    intro w mg h KX G
    refine' K75.top_mk KX G  ?cn0 ?cm0 ?ci0 ?cf0 ?ck0 ?l22 ?c22 ?k22 ?cg0 ?ch0 ?co0 ?cs0 ?cq0_0 ?cq0_1 ?a0 ?l0 ?c0 ?k0 ?a1 ?l1 ?c1 ?k1 ?a2 ?l2 ?c2 ?k2 ?a3 ?l3 ?c3 ?k3 ?a4 ?l4 ?c4 ?k4 ?a5 ?l5 ?c5 ?k5 ?a6 ?l6 ?c6 ?k6 ?a7 ?l7 ?c7 ?k7 ?a8 ?l8 ?c8 ?k8 ?a9 ?l9 ?c9 ?k9 ?a10 ?l10 ?c10 ?k10 ?a11 ?l11 ?c11 ?k11 ?a12 ?l12 ?c12 ?k12 ?a13 ?l13 ?c13 ?k13 ?a14 ?l14 ?c14 ?k14 ?a15 ?l15 ?c15 ?k15 ?a16 ?l16 ?c16 ?k16 ?a17 ?l17 ?c17 ?k17 ?a18 ?l18 ?c18 ?k18 ?a19 ?l19 ?c19 ?k19 ?a20 ?l20 ?c20 ?k20 ?a21 ?l21 ?c21 ?k21 ?z0 ?z1 ?z2 ?z3 ?z4 ?z5 ?z6 ?z7 ?z8 ?z9 ?z10 ?z11 ?z12  ?noS ?opq ?n_0 ?cl0 ?rv0 ?sa0 ?ga0 ?gg0 ?no0_0 ?iC0 ?tC0 ?kC0 ?exC0 ?veC0 ?tyC0 ?hdC0 ?sup0 ?meC0 ?lf0 ?cd_0 ?lc0 ?v20 ?fl0 ?lcc0 ?sf0 ?bd0 ?sc0 ?ini0 ?n_1 ?cl1 ?rv1 ?sa1 ?ga1 ?gg1 ?no1_0 ?iC1 ?tC1 ?kC1 ?exC1 ?veC1 ?tyC1 ?hdC1 ?sup1 ?meC1 ?lf1 ?cd_1 ?lc1 ?v21 ?fl1 ?lcc1 ?sf1 ?bd1 ?sc1 ?ini1 ?n_2 ?cl2 ?rv2 ?sa2 ?ga2 ?gg2 ?no2_0 ?iC2 ?tC2 ?kC2 ?exC2 ?veC2 ?tyC2 ?hdC2 ?sup2 ?meC2 ?lf2 ?cd_2 ?lc2 ?v22 ?fl2 ?lcc2 ?sf2 ?bd2 ?sc2 ?ini2 ?n_3 ?cl3 ?rv3 ?sa3 ?ga3 ?gg3 ?no3_0 ?iC3 ?tC3 ?kC3 ?exC3 ?veC3 ?tyC3 ?hdC3 ?sup3 ?meC3 ?lf3 ?cd_3 ?lc3 ?v23 ?fl3 ?lcc3 ?sf3 ?bd3 ?sc3 ?ini3 ?n_4 ?cl4 ?rv4 ?sa4 ?ga4 ?gg4 ?no4_0 ?iC4 ?tC4 ?kC4 ?exC4 ?veC4 ?tyC4 ?hdC4 ?sup4 ?meC4 ?lf4 ?cd_4 ?lc4 ?v24 ?fl4 ?lcc4 ?sf4 ?bd4 ?sc4 ?ini4 ?m0_0 ?m0_1 ?m0_2 ?m0_3 ?m0_4 ?m1_0 ?m1_1 ?m1_2 ?m1_3 ?m1_4 ?m2_0 ?m2_1 ?m2_2 ?m2_3 ?m2_4 ?m3_0 ?m3_1 ?m3_2 ?m3_3 ?m3_4 ?m4_0 ?m4_1 ?m4_2 ?m4_3 ?m4_4
    (case noS => k_is); (case opq => k_is)
    (case n_0 => k_is)
    (case cl0 => k_is)
    (case rv0 => decide +kernel)
    (case sa0 => k_is)
    (case ga0 => k_is)
    (case gg0 => k_is)
    (case no0_0 => k_is)
    (case iC0 => k_is)
    (case tC0 => k_is)
    (case kC0 => k_is)
    (case exC0 => k_is)
    (case veC0 => k_is)
    (case tyC0 => k_is)
    (case hdC0 => k_is)
    (case sup0 => ks_is); (case meC0 => k_is); (case lf0 => k_is); (case cd_0 => k_is); (case lc0 => k_is); (case v20 => rfl); (case fl0 => decide +kernel); (case lcc0 => k_is)
    (case sf0 => exact ⟨_, rfl, rfl⟩); (case bd0 => exact fun s u vs hl => match vs, hl with | [_], _ => .of_eq rfl); (case sc0 => decide +kernel)
    (case ini0 => exact .mk (.cons .nil) rfl)
    (case n_1 => k_is)
    (case cl1 => k_is)
    (case rv1 => decide +kernel)
    (case sa1 => k_is)
    (case ga1 => k_is)
    (case gg1 => k_is)
    (case no1_0 => k_is)
    (case iC1 => k_is)
    (case tC1 => k_is)
    (case kC1 => k_is)
    (case exC1 => k_is)
    (case veC1 => k_is)
    (case tyC1 => k_is)
    (case hdC1 => k_is)
    (case sup1 => ks_is); (case meC1 => k_is); (case lf1 => k_is); (case cd_1 => k_is); (case lc1 => k_is); (case v21 => rfl); (case fl1 => decide +kernel); (case lcc1 => k_is)
    (case sf1 => exact ⟨_, rfl, rfl⟩); (case bd1 => exact fun s u vs hl => match vs, hl with | [_], _ => .of_eq rfl); (case sc1 => decide +kernel)
    (case ini1 => exact .mk (.cons .nil) rfl)
    (case n_2 => k_is)
    (case cl2 => k_is)
    (case rv2 => decide +kernel)
    (case sa2 => k_is)
    (case ga2 => k_is)
    (case gg2 => k_is)
    (case no2_0 => k_is)
    (case iC2 => k_is)
    (case tC2 => k_is)
    (case kC2 => k_is)
    (case exC2 => k_is)
    (case veC2 => k_is)
    (case tyC2 => k_is)
    (case hdC2 => k_is)
    (case sup2 => ks_is); (case meC2 => k_is); (case lf2 => k_is); (case cd_2 => k_is); (case lc2 => k_is); (case v22 => rfl); (case fl2 => decide +kernel); (case lcc2 => k_is)
    (case sf2 => exact ⟨_, rfl, rfl⟩); (case bd2 => exact fun s u vs hl => match vs, hl with | [_], _ => .of_eq rfl); (case sc2 => decide +kernel)
    (case ini2 => exact .mk (.cons .nil) rfl)
    (case n_3 => k_is)
    (case cl3 => k_is)
    (case rv3 => decide +kernel)
    (case sa3 => k_is)
    (case ga3 => k_is)
    (case gg3 => k_is)
    (case no3_0 => k_is)
    (case iC3 => k_is)
    (case tC3 => k_is)
    (case kC3 => k_is)
    (case exC3 => k_is)
    (case veC3 => k_is)
    (case tyC3 => k_is)
    (case hdC3 => k_is)
    (case sup3 => ks_is); (case meC3 => k_is); (case lf3 => k_is); (case cd_3 => k_is); (case lc3 => k_is); (case v23 => rfl); (case fl3 => decide +kernel); (case lcc3 => k_is)
    (case sf3 => exact ⟨_, rfl, rfl⟩); (case bd3 => exact fun s u vs hl => match vs, hl with | [_], _ => .of_eq rfl); (case sc3 => decide +kernel)
    (case ini3 => exact .mk (.cons .nil) rfl)
    (case n_4 => k_is)
    (case cl4 => k_is)
    (case rv4 => decide +kernel)
    (case sa4 => k_is)
    (case ga4 => k_is)
    (case gg4 => k_is)
    (case no4_0 => k_is)
    (case iC4 => k_is)
    (case tC4 => k_is)
    (case kC4 => k_is)
    (case exC4 => k_is)
    (case veC4 => k_is)
    (case tyC4 => k_is)
    (case hdC4 => k_is)
    (case sup4 => ks_is); (case meC4 => k_is); (case lf4 => k_is); (case cd_4 => k_is); (case lc4 => k_is); (case v24 => rfl); (case fl4 => decide +kernel); (case lcc4 => k_is)
    (case sf4 => exact ⟨_, rfl, rfl⟩); (case bd4 => exact fun s u vs hl => match vs, hl with | [_], _ => .of_eq rfl); (case sc4 => decide +kernel)
    (case ini4 => exact .mk (.cons .nil) rfl)
    (case m0_0 => kernel_rfl)
    (case m0_1 => kernel_rfl)
    (case m0_2 => kernel_rfl)
    (case m0_3 => kernel_rfl)
    (case m0_4 => kernel_rfl)
    (case m1_0 => kernel_rfl)
    (case m1_1 => kernel_rfl)
    (case m1_2 => kernel_rfl)
    (case m1_3 => kernel_rfl)
    (case m1_4 => kernel_rfl)
    (case m2_0 => kernel_rfl)
    (case m2_1 => kernel_rfl)
    (case m2_2 => kernel_rfl)
    (case m2_3 => kernel_rfl)
    (case m2_4 => kernel_rfl)
    (case m3_0 => kernel_rfl)
    (case m3_1 => kernel_rfl)
    (case m3_2 => kernel_rfl)
    (case m3_3 => kernel_rfl)
    (case m3_4 => kernel_rfl)
    (case m4_0 => kernel_rfl)
    (case m4_1 => kernel_rfl)
    (case m4_2 => kernel_rfl)
    (case m4_3 => kernel_rfl)
    (case m4_4 => kernel_rfl)
    (case cn0 => k_is)
    (case cm0 => k_is)
    (case ci0 => k_is)
    (case cf0 => k_is)
    (case ck0 => k_is)
    (case l22 => k_is)
    (case c22 => k_is)
    (case k22 => k_is)
    (case cg0 => k_is)
    (case ch0 => k_is)
    (case co0 => k_is)
    (case cs0 => k_is)
    (case cq0_0 => k_is)
    (case cq0_1 => k_is)
    (case a0 => k_is); (case l0 => k_is); (case c0 => k_is); (case k0 => k_is)
    (case a1 => k_is); (case l1 => k_is); (case c1 => k_is); (case k1 => k_is)
    (case a2 => k_is); (case l2 => k_is); (case c2 => k_is); (case k2 => k_is)
    (case a3 => k_is); (case l3 => k_is); (case c3 => k_is); (case k3 => k_is)
    (case a4 => k_is); (case l4 => k_is); (case c4 => k_is); (case k4 => k_is)
    (case a5 => k_is); (case l5 => k_is); (case c5 => k_is); (case k5 => k_is)
    (case a6 => k_is); (case l6 => k_is); (case c6 => k_is); (case k6 => k_is)
    (case a7 => k_is); (case l7 => k_is); (case c7 => k_is); (case k7 => k_is)
    (case a8 => k_is); (case l8 => k_is); (case c8 => k_is); (case k8 => k_is)
    (case a9 => k_is); (case l9 => k_is); (case c9 => k_is); (case k9 => k_is)
    (case a10 => k_is); (case l10 => k_is); (case c10 => k_is); (case k10 => k_is)
    (case a11 => k_is); (case l11 => k_is); (case c11 => k_is); (case k11 => k_is)
    (case a12 => k_is); (case l12 => k_is); (case c12 => k_is); (case k12 => k_is)
    (case a13 => k_is); (case l13 => k_is); (case c13 => k_is); (case k13 => k_is)
    (case a14 => k_is); (case l14 => k_is); (case c14 => k_is); (case k14 => k_is)
    (case a15 => k_is); (case l15 => k_is); (case c15 => k_is); (case k15 => k_is)
    (case a16 => k_is); (case l16 => k_is); (case c16 => k_is); (case k16 => k_is)
    (case a17 => k_is); (case l17 => k_is); (case c17 => k_is); (case k17 => k_is)
    (case a18 => k_is); (case l18 => k_is); (case c18 => k_is); (case k18 => k_is)
    (case a19 => k_is); (case l19 => k_is); (case c19 => k_is); (case k19 => k_is)
    (case a20 => k_is); (case l20 => k_is); (case c20 => k_is); (case k20 => k_is)
    (case a21 => k_is); (case l21 => k_is); (case c21 => k_is); (case k21 => k_is)
    (case z0 => k_is)
    (case z1 => k_is)
    (case z2 => k_is)
    (case z3 => k_is)
    (case z4 => k_is)
    (case z5 => k_is)
    (case z6 => k_is)
    (case z7 => k_is)
    (case z8 => k_is)
    (case z9 => k_is)
    (case z10 => k_is)
    (case z11 => k_is)
    (case z12 => k_is)

