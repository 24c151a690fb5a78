import PyProof.Rows.All
import Wide.All
import OpenK.AllK
import Wide.FinOn
import HandS.Conv
import HandS.Deep
import HandS.Evl
import HandS.ExcSuper
import HandS.Flow
import HandS.ForExc
import HandS.ForMost
import HandS.IsInst
import HandS.More
import HandS.NamedTupSort
import HandS.SortRule
import HandS.Style
import HandS.TryMany
import HandS.TupAny
import HandS.TupLe
import HandS.Zip
import KE.KExcSuper
import KE.KTupSum
import PyProof.ListStr
import PySem.Challenge.RW_clausehold_k70_parity_clauses
set_option Elab.async false
set_option linter.all false
set_option maxRecDepth 100000
set_option maxHeartbeats 4000000
section
namespace CH
open PySem

/-- plain data -/
inductive D where
  | non | bl (b : Bool) | int (i : Int) | str (s : Str)
  | tup (xs : List D) | lst (xs : List D)
  /-- a list that may be read alone -/
  | flst (xs : List D)
  | ty (n : String) | fn (f : Nat)
  | obj (c : Nat) (ks : List Str) (vs : List D)
  deriving Inhabited

/-- a tree whose nodes are owned by one name; its leaves are data that never change -/
inductive OT where
  | sh (d : D)
  | lst (ts : List OT)
  | obj (c : Nat) (ks : List Str) (ts : List OT)
  deriving Inhabited

mutual
def OT.toD : OT → D
  | .sh d => d
  | .lst ts => .lst (toDs ts)
  | .obj c ks ts => .obj c ks (toDs ts)
def toDs : List OT → List D
  | [] => []
  | t :: ts => t.toD :: toDs ts
end
/-- the leaves of a row of leaves -/
def leaves : List OT → Option (List D)
  | [] => some []
  | .sh d :: r => (leaves r).map (d :: ·)
  | _ :: _ => none
/-- the items of what is walked -/
def OT.items : OT → Option (List D)
  | .sh (.lst ds) => some ds
  | .sh (.flst ds) => some ds
  | .sh (.tup ds) => some ds
  | .lst ts => leaves ts
  | _ => none
/-- a slot: nothing known; a tree; a tree that may be read alone -/
inductive Sl where
  | no | ow (t : OT) | lk (t : OT)
  deriving Inhabited
abbrev Env := List Sl
def Env.tree (ρ : Env) (i : Nat) : Option OT := match ρ[i]? with
  | some (.ow t) => some t
  | some (.lk t) => some t
  | _ => none
def Env.own (ρ : Env) (i : Nat) : Option OT := match ρ[i]? with
  | some (.ow t) => some t
  | _ => none
def fldIx : List Str → Str → Option Nat
  | [], _ => none
  | k :: ks, f => if k = f then some 0 else (fldIx ks f).map (· + 1)
def OT.fld (f : Str) : OT → Option OT
  | .obj _ ks ts => (fldIx ks f).bind fun j => ts[j]?
  | .sh (.obj _ ks ds) => ((fldIx ks f).bind fun j => ds[j]?).map .sh
  | _ => none
/-- along attributes, the outermost first -/
def OT.getP (t : OT) : List Str → Option OT
  | [] => some t
  | f :: p => (t.getP p).bind fun u => u.fld f
def OT.setF (f : Str) (s : OT) : OT → Option OT
  | .obj c ks ts => (fldIx ks f).bind fun j => if j < ts.length then some (.obj c ks (ts.set j s)) else none
  | _ => none
def OT.putP (t : OT) : List Str → OT → Option OT
  | [], s => some s
  | f :: p, s => (t.getP p).bind fun u => (u.setF f s).bind fun u' => t.putP p u'

structure Exn where
  cls : Nat
  args : List D
inductive R (α : Type) where
  | ok (a : α) | ex (e : Exn) (ρ : Env) | no
def R.bind {α β : Type} (r : R α) (f : α → R β) : R β := match r with
  | .ok a => f a
  | .ex e ρ => .ex e ρ
  | .no => .no
def R.ofO {α : Type} : Option α → R α
  | some a => .ok a
  | none => .no

inductive Tg where
  | one (i : Nat) | tup (is : List Nat)
/-- comparisons -/
inductive Cm where
  | eq | ne | lt | le | gt | ge | is | isnot | in_ | notin
  deriving DecidableEq
inductive Bo where
  | add | sub | mul | mod | fdiv | pow
  deriving DecidableEq
/-- built-ins called by name -/
inductive Bi where
  | len | abs | int | bool | tuple | list | any | all | sum | sorted | max2 | min2 | max1 | min1 | repr
  deriving DecidableEq
/-- operations on values -/
inductive Op where
  | bin (b : Bo) | neg | cmp (c : Cm)
  | idx
  | fld (f : Str)
  | bi (f : Bi)
  | isi (tys : List String)
  | rng (n : Nat) (tuple : Bool)
  | meth (m : String)
  | kin (x : Str) (neg : Bool) (kvs : List (Str × Int))
  | kget (x : Str) (kvs : List (Str × Int))
  | rev
/-- what changes a list -/
inductive Mu where
  | append | extend | pop | popAt | insert | setIx | remove
  deriving DecidableEq

/-- what an except suite hands back: constants, names, the exception's fields -/
inductive At where
  | c (d : D) | v (i : Nat) | xf (j : Nat)
/-- an except clause: its class, the classes that it takes, the slot of its name; it returns a tuple, or one thing -/
structure Hd where
  c : Nat
  ms : List Nat
  i : Option Nat
  tup : Bool
  as : List At
mutual
inductive CE where
  | c (d : D) | v (i : Nat) | mv (i : Nat) | take (i : Nat)
  | op (o : Op) (as : COs)
  | slc (o : CO) (lo hi : CB)
  | tup (es : CEs) | lst (es : CEs)
  | and (es : CEs) | or (es : CEs) | not (e : CE) | ite (t : CT) (a b : CE)
  | chain (o1 o2 : Cm) (a b c : CE)
  | call (f : Nat) (as : CAs)
  | mu (m : Mu) (i : Nat) (p : List Str) (as : CEs)
  | fz (e : CE)
  | lc (e : CE) (tg : Tg) (it : CI) (cs : CTs)
  | lc2 (e : CE) (tg : Tg) (it : CI) (cs : CTs) (tg1 : Tg) (it1 : CI) (cs1 : CTs)
inductive CEs where
  | nil | cons (e : CE) (es : CEs)
inductive CO where
  | e (e : CE) | bor (i : Nat) (p : List Str)
inductive CB where
  | no | at (e : CE)
inductive COs where
  | nil | cons (o : CO) (os : COs)
inductive CAs where
  | nil | val (e : CE) (r : CAs) | ref (i : Nat) (r : CAs)
inductive CT where
  | and (ts : CTs) | or (ts : CTs) | not (t : CT) | val (o : CO)
inductive CTs where
  | nil | cons (t : CT) (ts : CTs)
inductive CI where
  | seq (o : CO) | rng1 (e : CE) | rng2 (a b : CE) | enm (o : CO) | zip (a b : CO)
end
mutual
inductive CS where
  | nop | brk | cont | retN
  | frz (i : Nat)
  | ex (e : CE) | set (i : Nat) (e : CE) | setT (is : List Nat) (e : CE)
  | setF (i : Nat) (p : List Str) (f : Str) (e : CE)
  | setX (i : Nat) (p : List Str) (ix : CE) (e : CE)
  | ret (e : CE)
  | ife (t : CT) (a b : CSs)
  | whl (t : CT) (b : CSs)
  | for_ (tg : Tg) (it : CI) (b : CSs)
  | raise (c n : Nat) (as : CEs)
  | tr (b : CSs) (hs : List Hd)
inductive CSs where
  | nil | cons (s : CS) (r : CSs)
end
end CH
end
section
namespace CH
open PySem

mutual
def D.toP : D → Option PyData
  | .non => some .none
  | .bl b => some (.bool b)
  | .int i => some (.int i)
  | .str s => some (.str s)
  | .tup ds => (toPs ds).map .tuple
  | .lst ds => (toPs ds).map .list
  | _ => none
def toPs : List D → Option (List PyData)
  | [] => some []
  | d :: r => d.toP.bind fun p => (toPs r).map fun q => p :: q
end
def big : Nat := 16777216
def eqD (a b : D) : Option Bool := a.toP.bind fun p => b.toP.bind fun q => if (SeqAt.shaped p && SeqAt.shaped q) = true then some (PyData.eqv p q) else none
def inD (x : D) (l : D) : Option Bool := x.toP.bind fun p => l.toP.bind fun q => match q with
  | .list ds => if (SeqAt.shaped p && SeqAt.shaped (.list ds)) = true then some (ds.any fun z => PyData.eqv z p) else none
  | .tuple ds => if (SeqAt.shaped p && SeqAt.shaped (.tuple ds)) = true then some (ds.any fun z => PyData.eqv z p) else none
  | .str s => match p with
    | .str y => some (!(Builtin.Str.occurrences s y 0 s.length 1).isEmpty)
    | _ => none
  | _ => none
def blsD : List D → Option (List Bool)
  | [] => some []
  | .bl b :: r => (blsD r).map (b :: ·)
  | _ => none
def intsD : List D → Option (List Int)
  | [] => some []
  | .int b :: r => (intsD r).map (b :: ·)
  | _ => none
def strsD : List D → Option (List Str)
  | [] => some []
  | .str b :: r => (strsD r).map (b :: ·)
  | _ => none
/-- the items of a list -/
def OT.litems : OT → Option (List D)
  | .sh (.lst ds) => some ds
  | .lst ts => leaves ts
  | _ => none
def mulOk (i j : Int) : Bool := decide (-(2 ^ 64) < i ∧ i < 2 ^ 64) || decide (-(2 ^ 64) < j ∧ j < 2 ^ 64)
def guard_ {α : Type} (b : Bool) (a : α) : Option α := if b = true then some a else none
def newL (ds : List D) : OT := .lst (ds.map .sh)
def addEv : OT → OT → Option OT
  | .sh (.int i), .sh (.int j) => some (.sh (.int (i + j)))
  | .sh (.str a), .sh (.str b) => guard_ (decide (a.length + b.length ≤ big)) (.sh (.str (a ++ b)))
  | .sh (.tup a), .sh (.tup b) => guard_ (decide (a.length + b.length ≤ big)) (.sh (.tup (a ++ b)))
  | s, t => s.litems.bind fun a => t.litems.bind fun b => guard_ (decide (a.length + b.length ≤ big)) (newL (a ++ b))
def subEv : OT → OT → Option OT
  | .sh (.int i), .sh (.int j) => some (.sh (.int (i - j)))
  | _, _ => none
def mulEv : OT → OT → Option OT
  | .sh (.int i), .sh (.int j) => guard_ (mulOk i j) (.sh (.int (i * j)))
  | s, .sh (.int k) => s.litems.bind fun a => guard_ (decide (-(2 ^ 63) ≤ k ∧ k < 2 ^ 63 ∧ a.length * k.toNat ≤ big)) (newL (List.replicate k.toNat a).flatten)
  | _, _ => none
def modEv : OT → OT → Option OT
  | .sh (.int i), .sh (.int j) => guard_ (decide (0 < j)) (.sh (.int (i % j)))
  | _, _ => none
def fdivEv : OT → OT → Option OT
  | .sh (.int i), .sh (.int j) => guard_ (decide (0 < j ∧ j < 1073741824)) (.sh (.int (i / j)))
  | _, _ => none
def powEv : OT → OT → Option OT
  | .sh (.int i), .sh (.int j) => guard_ (decide (0 ≤ j ∧ j ≤ 1000000 ∧ i.natAbs < 2 ^ 64)) (.sh (.int (i ^ j.toNat)))
  | _, _ => none
def binEv : Bo → OT → OT → Option OT
  | .add => addEv
  | .sub => subEv
  | .mul => mulEv
  | .mod => modEv
  | .fdiv => fdivEv
  | .pow => powEv
def negEv : OT → Option OT
  | .sh (.int i) => some (.sh (.int (-i)))
  | _ => none
def lexLtI : List Int → List Int → Bool := HT.lexLt
def eqEv : OT → OT → Option Bool
  | .sh (.str a), .sh (.str b) => some (a == b)
  | s, t => eqD s.toD t.toD
def neEv : OT → OT → Option Bool
  | .sh (.str a), .sh (.str b) => some (!(a == b))
  | s, t => (eqD s.toD t.toD).map (! ·)
def shapedD (d : D) : Bool := match d.toP with
  | some p => SeqAt.shaped p
  | none => false
/-- items that < may meet: two ints, two rows of ints -/
def cmp1 : D → D → Bool
  | .int _, .int _ => true
  | .tup a, .tup b => (intsD a).isSome && (intsD b).isSome && shapedD (.tup a) && shapedD (.tup b)
  | _, _ => false
def eq1 (x y : D) : Bool := match x.toP, y.toP with
  | some p, some q => PyData.eqv p q
  | _, _ => false
def lt1 : D → D → Bool
  | .int i, .int j => decide (i < j)
  | .tup a, .tup b => match intsD a, intsD b with
    | some m, some n => HT.lexLt m n
    | _, _ => false
  | _, _ => false
def cmps : List D → List D → Bool
  | x :: xs, y :: ys => cmp1 x y && cmps xs ys
  | _, _ => true
def ltW : List D → List D → Bool
  | [], [] => false
  | [], _ :: _ => true
  | _ :: _, [] => false
  | x :: xs, y :: ys => if eq1 x y = true then ltW xs ys else lt1 x y
def ltEv : OT → OT → Option Bool
  | .sh (.int i), .sh (.int j) => some (decide (i < j))
  | .sh (.tup a), .sh (.tup b) => match intsD a, intsD b with
    | some m, some n => some (HT.lexLt m n)
    | _, _ => if cmps a b = true then some (ltW a b) else none
  | _, _ => none
def leEv : OT → OT → Option Bool
  | .sh (.int i), .sh (.int j) => some (decide (i ≤ j))
  | _, _ => none
def gtEv : OT → OT → Option Bool
  | .sh (.int i), .sh (.int j) => some (decide (j < i))
  | _, _ => none
def geEv : OT → OT → Option Bool
  | .sh (.int i), .sh (.int j) => some (decide (j ≤ i))
  | _, _ => none
def OT.isNon : OT → Bool
  | .sh .non => true
  | _ => false
def isEv : OT → OT → Option Bool
  | .sh (.bl a), .sh (.bl b) => some (decide (a = b))
  | s, .sh .non => some s.isNon
  | _, _ => none
def isnotEv : OT → OT → Option Bool
  | .sh (.bl a), .sh (.bl b) => some (!decide (a = b))
  | s, .sh .non => some (!s.isNon)
  | _, _ => none
def inEv (s t : OT) : Option Bool := inD s.toD t.toD
def notinEv (s t : OT) : Option Bool := (inD s.toD t.toD).map (! ·)
def cmpEv : Cm → OT → OT → Option Bool
  | .eq => eqEv
  | .ne => neEv
  | .lt => ltEv
  | .le => leEv
  | .gt => gtEv
  | .ge => geEv
  | .is => isEv
  | .isnot => isnotEv
  | .in_ => inEv
  | .notin => notinEv
def D.tyName : D → Option String
  | .non => some "NoneType"
  | .bl _ => some "bool"
  | .int _ => some "int"
  | .str _ => some "str"
  | .tup _ => some "tuple"
  | .lst _ => some "list"
  | _ => none
/-- isinstance of a value of the built-in type a against the built-in type b -/
def isTy (a b : String) : Bool := (a == b) || (a == "bool" && b == "int")
def tys5 : List String := ["NoneType", "bool", "int", "str", "tuple", "list"]
def truEv : OT → Option Bool
  | .sh .non => some false
  | .sh (.bl b) => some b
  | .sh (.int i) => some (i != 0)
  | .sh (.str s) => guard_ (decide (s.length ≤ big)) ((s.length : Int) != 0)
  | .sh (.tup ds) => some (!ds.isEmpty)
  | .sh (.lst ds) => some (!ds.isEmpty)
  | .lst ts => some (!ts.isEmpty)
  | _ => none
def sortI (ns : List Int) : List Int := ns.mergeSort fun a b => decide (a ≤ b)
def lenEv : OT → Option OT
  | .sh (.str s) => guard_ (decide (s.length ≤ big)) (.sh (.int s.length))
  | .sh (.tup ds) => some (.sh (.int ds.length))
  | .sh (.lst ds) => some (.sh (.int ds.length))
  | .sh (.flst ds) => some (.sh (.int ds.length))
  | .lst ts => some (.sh (.int ts.length))
  | _ => none
def absEv : OT → Option OT
  | .sh (.int i) => some (.sh (.int (if i < 0 then -i else i)))
  | _ => none
def intEv : OT → Option OT
  | .sh (.int i) => some (.sh (.int i))
  | .sh (.bl b) => some (.sh (.int (if b then 1 else 0)))
  | _ => none
def boolEv : OT → Option OT
  | .sh (.int i) => some (.sh (.bl (i != 0)))
  | .sh (.bl b) => some (.sh (.bl b))
  | _ => none
def tupleEv : OT → Option OT
  | .sh (.tup ds) => some (.sh (.tup ds))
  | .sh (.flst ds) => some (.sh (.tup ds))
  | t => t.litems.map fun ds => .sh (.tup ds)
def listEv : OT → Option OT
  | .sh (.tup ds) => some (newL ds)
  | .sh (.flst ds) => some (newL ds)
  | .sh (.str s) => guard_ (decide (s.cps.size ≤ big)) (newL (s.cps.toList.map fun c => .str ⟨#[c]⟩))
  | t => t.litems.map newL
def anyEv (t : OT) : Option OT := t.litems.bind fun ds => (blsD ds).map fun bs => .sh (.bl (bs.any id))
def allEv (t : OT) : Option OT := t.litems.bind fun ds => (blsD ds).map fun bs => .sh (.bl (bs.all id))
def sumEv : OT → Option OT
  | .sh (.tup ds) => (intsD ds).map fun ns => .sh (.int ns.sum)
  | t => t.litems.bind fun ds => (intsD ds).map fun ns => .sh (.int ns.sum)
/-- a list, a tuple -/
def D.isRow : D → Bool
  | .tup _ => true
  | .lst _ => true
  | _ => false
/-- the text of a row of data -/
def reprEv (t : OT) : Option OT := if t.toD.isRow = true then t.toD.toP.bind fun p => guard_ (SeqAt.shaped p && p.showable && decide (p.shown.length ≤ big)) (.sh (.str p.shown)) else none
def revEv (t : OT) : Option OT := t.litems.map fun ds => newL ds.reverse
/-- pairs of an int and a row of ints -/
def pairK : D → Option (Int × List Int)
  | .tup [.int i, .tup ds] => (intsD ds).map fun ns => (i, ns)
  | _ => none
def pairKs : List D → Option (List (Int × List Int))
  | [] => some []
  | d :: r => (pairK d).bind fun p => (pairKs r).map fun ps => p :: ps
def pairD (p : Int × List Int) : D := .tup [.int p.1, .tup (p.2.map .int)]
def ltP (p q : Int × List Int) : Bool := if p.1 = q.1 then HT.lexLt p.2 q.2 else decide (p.1 < q.1)
def sortP (ps : List (Int × List Int)) : List (Int × List Int) := ps.mergeSort fun p q => !ltP q p
def sortedEv (t : OT) : Option OT := t.litems.bind fun ds => match intsD ds with
  | some ns => guard_ (decide (ns.length < 64)) (newL ((sortI ns).map .int))
  | none => (pairKs ds).bind fun ps => guard_ (ps.all fun p => SeqAt.shaped (.tuple (p.2.map .int))) (newL ((sortP ps).map pairD))
def max2Ev : OT → OT → Option OT
  | .sh (.int i), .sh (.int j) => some (.sh (.int (if j > i then j else i)))
  | _, _ => none
def min2Ev : OT → OT → Option OT
  | .sh (.int i), .sh (.int j) => some (.sh (.int (if j < i then j else i)))
  | _, _ => none
def maxI : List Int → Option Int
  | [] => none
  | n :: ns => some (ns.foldl max n)
def minI : List Int → Option Int
  | [] => none
  | n :: ns => some (ns.foldl min n)
def max1Ev (t : OT) : Option OT := t.litems.bind fun ds => (intsD ds).bind fun ns => (maxI ns).map fun m => .sh (.int m)
def min1Ev (t : OT) : Option OT := t.litems.bind fun ds => (intsD ds).bind fun ns => (minI ns).map fun m => .sh (.int m)
def biEv : Bi → List OT → Option OT
  | .len, [t] => lenEv t
  | .abs, [t] => absEv t
  | .int, [t] => intEv t
  | .bool, [t] => boolEv t
  | .tuple, [t] => tupleEv t
  | .list, [t] => listEv t
  | .any, [t] => anyEv t
  | .all, [t] => allEv t
  | .sum, [t] => sumEv t
  | .sorted, [t] => sortedEv t
  | .max2, [s, t] => max2Ev s t
  | .min2, [s, t] => min2Ev s t
  | .max1, [t] => max1Ev t
  | .min1, [t] => min1Ev t
  | .repr, [t] => reprEv t
  | _, _ => none
/-- the part of a row from lo to hi -/
def cutD {α : Type} (xs : List α) (lo hi : Option Int) : List α := (xs.drop (HT.sIx xs.length 0 lo)).take (HT.sIx xs.length xs.length hi - HT.sIx xs.length 0 lo)
def slcEv (lo hi : Option Int) : OT → Option OT
  | .sh (.tup ds) => some (.sh (.tup (cutD ds lo hi)))
  | .sh (.str s) => guard_ (decide (s.length ≤ big)) (.sh (.str (L2.cutS s lo hi)))
  | .sh (.flst ds) => some (newL (cutD ds lo hi))
  | t => t.litems.map fun ds => newL (cutD ds lo hi)
def idxEv : OT → Int → Option OT
  | .sh (.str s), i => if s.length ≤ big then (L2.atI s.cps.toList i).map fun c => .sh (.str ⟨#[c]⟩) else none
  | t, i => t.items.bind fun ds => (L2.atI ds i).map .sh
def rngEv (tuple : Bool) (a b : Int) : Option OT :=
  guard_ (decide (-(2 ^ 62) ≤ a ∧ a < 2 ^ 62 ∧ -(2 ^ 62) ≤ b ∧ b < 2 ^ 62 ∧ (b - a).toNat ≤ big)) (if tuple then .sh (.tup ((List.range (b - a).toNat).map fun i => .int (a + (i : Nat)))) else newL ((List.range (b - a).toNat).map fun i => .int (a + (i : Nat))))
def methEv (m : String) : OT → Option OT
  | .sh (.str s) => guard_ (decide (m = "upper") && decide (s.length ≤ 5592405)) (.sh (.str (Txt.upper s)))
  | _ => none
/-- a dict of the module: is the key in it -/
def kinEv (neg : Bool) (kvs : List (Str × Int)) : OT → Option OT
  | .sh (.str z) => some (.sh (.bl (neg != (kvs.lookup z).isSome)))
  | _ => none
def kgetEv (kvs : List (Str × Int)) : OT → Option OT
  | .sh (.str z) => (kvs.lookup z).map fun n => .sh (.int n)
  | _ => none
def Op.ev : Op → List OT → Option OT
  | .bin b, [s, t] => binEv b s t
  | .neg, [t] => negEv t
  | .cmp c, [s, t] => (cmpEv c s t).map fun b => .sh (.bl b)
  | .idx, [t, .sh (.int i)] => idxEv t i
  | .fld f, [t] => match t.fld f with
    | some (.sh d) => some (.sh d)
    | _ => none
  | .bi f, ts => biEv f ts
  | .isi tys, [t] => t.toD.tyName.map fun a => .sh (.bl (tys.any fun b => isTy a b))
  | .meth m, [t] => methEv m t
  | .kin _ ng kvs, [t] => kinEv ng kvs t
  | .kget _ kvs, [t] => kgetEv kvs t
  | .rev, [t] => revEv t
  | .rng _ k, [.sh (.int j)] => rngEv k 0 j
  | .rng _ k, [.sh (.int i), .sh (.int j)] => rngEv k i j
  | _, _ => none
def muEv : Mu → List OT → List OT → Option (OT × List OT)
  | .extend, ts, [t] => t.litems.bind fun ds => guard_ (decide (ts.length + ds.length ≤ big)) (.sh .non, ts ++ ds.map .sh)
  | .append, ts, [t] => guard_ (decide (ts.length < big)) (.sh .non, ts ++ [t])
  | .pop, ts, [] => (ts[ts.length - 1]?).map fun t => (t, ts.dropLast)
  | .popAt, ts, [.sh (.int i)] => if -(2 ^ 63) ≤ i ∧ i < 2 ^ 63 then (seqIndex? i ts.length).bind fun k => (ts[k]?).map fun t => (t, ts.eraseIdx k) else none
  | .insert, ts, [.sh (.int i), t] => if 0 ≤ i ∧ i < 2 ^ 62 ∧ ts.length < big then some (.sh .non, ts.take i.toNat ++ [t] ++ ts.drop i.toNat) else none
  | .setIx, ts, [t, .sh (.int i)] => (L2.ixN ts.length i).map fun j => (.sh .non, ts.set j t)
  | _, _, _ => none

def getV (ρ : Env) (i : Nat) : R (OT × Env) := match ρ.tree i with
  | some (.sh d) => .ok (.sh d, ρ)
  | _ => .no
def set1 (pl : List Nat) (i : Nat) (d : D) (ρ : Env) : Option Env := match ρ[i]? with
  | some (.lk _) => none
  | some _ => if pl.contains i = true then none else some (ρ.set i (.ow (.sh d)))
  | none => none
def setGo (pl : List Nat) : List Nat → List D → Env → Option Env
  | [], _, ρ => some ρ
  | i :: is, d :: ds, ρ => (set1 pl i d ρ).bind fun ρ' => setGo pl is ds ρ'
  | _ :: _, [], _ => none
def D.tupI : D → Option (List D)
  | .tup ds => some ds
  | _ => none
def setTg (pl : List Nat) : Tg → D → Env → Option Env
  | .one i, d, ρ => set1 pl i d ρ
  | .tup is, d, ρ => d.tupI.bind fun ds => if is.length = ds.length then setGo pl is ds ρ else none
def Tg.slots : Tg → List Nat
  | .one i => [i]
  | .tup is => is
/-- a comprehension's own slots at its start -/
def wipeE (ρ : Env) : List Nat → Env
  | [] => ρ
  | v :: vs => (wipeE ρ vs).set v .no
/-- .. and their old content behind it -/
def patch (m : Nat → Bool) : Env → Env → Env
  | a :: as, b :: bs => (if m 0 = true then a else b) :: patch (fun j => m (j + 1)) as bs
  | _, _ => []
def backE (ρ0 ρ : Env) (vs : List Nat) : Env := patch (fun j => vs.contains j) ρ0 ρ
/-- the slot holds nothing that could be changed -/
def quietSl : Sl → Bool
  | .no => true
  | .ow (.sh _) => true
  | _ => false
/-- a comprehension's turns: step adds to what is gathered; the slots vs are cleared behind each turn -/
def lcG (cond : Env → R (Bool × Env)) (step : List OT → Env → R (List OT × Env)) (pl : List Nat) (tg : Tg) (vs : List Nat) : List D → List OT → Env → R (List OT × Env)
  | [], acc, ρ => .ok (acc, ρ)
  | d :: ds, acc, ρ => match setTg pl tg d ρ with
    | none => .no
    | some ρ1 => match cond ρ1 with
      | .ok (false, ρ2) => lcG cond step pl tg vs ds acc (wipeE ρ2 vs)
      | .ok (true, ρ2) => match step acc ρ2 with
        | .ok (acc', ρ3) => lcG cond step pl tg vs ds acc' (wipeE ρ3 vs)
        | _ => .no
      | _ => .no
def pushE (elt : Env → R (OT × Env)) (acc : List OT) (ρ : Env) : R (List OT × Env) := match elt ρ with
  | .ok (t, ρ3) => if acc.length < big then .ok (acc ++ [t], ρ3) else .no
  | _ => .no
def lcL (cond : Env → R (Bool × Env)) (elt : Env → R (OT × Env)) (pl : List Nat) (tg : Tg) : List D → List OT → Env → R (List OT × Env) := lcG cond (pushE elt) pl tg tg.slots
def quietAll (ρ : Env) (vs : List Nat) : Bool := vs.all fun i => quietSl (ρ.getD i (.lk (.sh .non)))
/-- an inner clause's turns -/
def inner (it : Env → R (List D × Env)) (bk : Env → Env → Env) (cond : Env → R (Bool × Env)) (elt : Env → R (OT × Env)) (pl : List Nat) (tg : Tg) (acc : List OT) (ρ : Env) : R (List OT × Env) := match it ρ with
  | .ok (ds, ρ1) => if quietAll ρ1 tg.slots = true then match lcL cond elt pl tg ds acc (wipeE ρ1 tg.slots) with
      | .ok (acc', ρ2) => .ok (acc', bk ρ ρ2)
      | _ => .no
    else .no
  | _ => .no
inductive Fl where
  | nx | brk | ct | rt (t : OT)
def forL (body : Env → R (Fl × Env)) (pl : List Nat) (tg : Tg) : List D → Env → R (Fl × Env)
  | [], ρ => .ok (.nx, ρ)
  | d :: ds, ρ => match setTg pl tg d ρ with
    | none => .no
    | some ρ1 => (body ρ1).bind fun (f, ρ2) => match f with
      | .nx => forL body pl tg ds ρ2
      | .ct => forL body pl tg ds ρ2
      | .brk => .ok (.nx, ρ2)
      | .rt t => .ok (.rt t, ρ2)
def whlL (cond : Env → R (Bool × Env)) (body : Env → R (Fl × Env)) : Nat → Env → R (Fl × Env)
  | 0, _ => .no
  | n + 1, ρ => (cond ρ).bind fun (b, ρ1) => if b = true then (body ρ1).bind fun (f, ρ2) => match f with
      | .nx => whlL cond body n ρ2
      | .ct => whlL cond body n ρ2
      | .brk => .ok (.nx, ρ2)
      | .rt t => .ok (.rt t, ρ2)
    else .ok (.nx, ρ1)
/-- a name's own list -/
def Env.ownL (ρ : Env) (i : Nat) : Option (List OT) := match ρ[i]? with
  | some (.ow (.lst ts)) => some ts
  | _ => none
def lock (ρ : Env) (i : Nat) : Env := match ρ[i]? with
  | some (.ow t) => ρ.set i (.lk t)
  | _ => ρ
/-- behind a lock: the slot as it was -/
def unlock (ρ ρ' : Env) (i : Nat) : Env := match ρ[i]? with
  | some (.ow t) => ρ'.set i (.ow t)
  | _ => ρ'
def zipD : List D → List D → List D
  | a :: as, b :: bs => .tup [a, b] :: zipD as bs
  | _, _ => []
def enmD : Nat → List D → List D
  | _, [] => []
  | n, a :: as => .tup [.int n, a] :: enmD (n + 1) as
/-- two rows that never change, side by side -/
def zipEv : OT → OT → Option (List D)
  | .sh (.tup a), .sh (.tup b) => some (zipD a b)
  | .sh (.lst a), .sh (.lst b) => some (zipD a b)
  | .sh (.flst a), .sh (.flst b) => some (zipD a b)
  | .sh (.lst a), .sh (.flst b) => some (zipD a b)
  | .sh (.flst a), .sh (.lst b) => some (zipD a b)
  | _, _ => none
/-- a list that never changes, its items numbered -/
def enmEv : OT → Option (List D)
  | .sh (.lst a) => some (enmD 0 a)
  | .sh (.flst a) => some (enmD 0 a)
  | _ => none
def gas : Nat := 1000000000
/-- what a def gives: its value, the trees of its arguments behind it -/
abbrev Phi := Nat → List OT → R (OT × List OT)

def fillA : CAs → List D → Env → Option (List OT)
  | .nil, _, _ => some []
  | .val _ r, d :: ds, ρ => (fillA r ds ρ).map fun us => .sh d :: us
  | .val _ _, [], _ => none
  | .ref i r, ds, ρ => (ρ.own i).bind fun t => (fillA r ds (ρ.set i .no)).map fun us => t :: us
def backA : CAs → List OT → Env → Option Env
  | .nil, _, ρ => some ρ
  | .val _ r, _ :: ts, ρ => backA r ts ρ
  | .ref i r, t :: ts, ρ => (backA r ts ρ).map fun ρ' => ρ'.set i (.ow t)
  | _, [], _ => none
def goneA : CAs → Env → Env
  | .nil, ρ => ρ
  | .val _ r, ρ => goneA r ρ
  | .ref i r, ρ => goneA r (ρ.set i .no)
def backI : CI → Env → Env → Env
  | .seq (.bor i _), ρ, ρ' => unlock ρ ρ' i
  | _, _, ρ' => ρ'
/-- two bounds, one after the other -/
def b2 (f g : Env → R (Option Int × Env)) (ρ : Env) : R ((Option Int × Option Int) × Env) := (f ρ).bind fun p => (g p.2).bind fun q => .ok ((p.1, q.1), q.2)
section
variable (Φ : Phi) (pl : List Nat)
mutual
def evE : CE → Env → R (OT × Env)
  | .c d, ρ => .ok (.sh d, ρ)
  | .v i, ρ => getV ρ i
  | .mv i, ρ => match ρ.own i with
    | some t => .ok (.sh t.toD, ρ.set i (.ow (.sh t.toD)))
    | none => .no
  | .take i, ρ => match ρ.own i with
    | some t => .ok (t, ρ.set i .no)
    | none => .no
  | .op o as, ρ => (evOs as ρ).bind fun (ts, ρ1) => match o.ev ts with
    | some t => .ok (t, ρ1)
    | none => .no
  | .slc (.e e) lo hi, ρ => (evE e ρ).bind fun (t, ρ1) => (b2 (fun ρ => evB lo ρ) (fun ρ => evB hi ρ) ρ1).bind fun ((l, u), ρ2) => match slcEv l u t with
    | some w => .ok (w, ρ2)
    | none => .no
  | .slc (.bor i p) lo hi, ρ => match (ρ.tree i).bind fun r => r.getP p with
    | some t => match b2 (fun ρ => evB lo ρ) (fun ρ => evB hi ρ) (lock ρ i) with
      | .ok ((l, u), ρ2) => match slcEv l u t with
        | some w => .ok (w, unlock ρ ρ2 i)
        | none => .no
      | .ex e ρ2 => .ex e (unlock ρ ρ2 i)
      | .no => .no
    | none => .no
  | .tup es, ρ => (evEs es ρ).bind fun (ts, ρ1) => if ts.length ≤ big then .ok (.sh (.tup (toDs ts)), ρ1) else .no
  | .lst es, ρ => (evEs es ρ).bind fun (ts, ρ1) => if ts.length ≤ big then .ok (.lst ts, ρ1) else .no
  | .and es, ρ => evAnd es ρ
  | .or es, ρ => evOr es ρ
  | .not e, ρ => (evE e ρ).bind fun (t, ρ1) => match t with
    | .sh (.bl b) => .ok (.sh (.bl (!b)), ρ1)
    | _ => .no
  | .ite t a b, ρ => (evT t ρ).bind fun (k, ρ1) => if k = true then evE a ρ1 else evE b ρ1
  | .chain o1 o2 a b c, ρ => (evE a ρ).bind fun (ta, ρ1) => (evE b ρ1).bind fun (tb, ρ2) => match cmpEv o1 ta tb with
    | some true => (evE c ρ2).bind fun (tc, ρ3) => match cmpEv o2 tb tc with
      | some k => .ok (.sh (.bl k), ρ3)
      | none => .no
    | some false => .ok (.sh (.bl false), ρ2)
    | none => .no
  | .call f as, ρ => (evAs as ρ).bind fun (ts, ρ1) => match fillA as ts ρ1 with
    | none => .no
    | some us => match Φ f us with
      | .ok (t, ws) => match backA as ws (goneA as ρ1) with
        | some ρ2 => .ok (t, ρ2)
        | none => .no
      | .ex e _ => .ex e (goneA as ρ1)
      | .no => .no
  | .mu m i [] as, ρ => match ρ.ownL i with
    | none => .no
    | some _ => (evEs as ρ).bind fun (ts, ρ1) => match ρ1.ownL i with
      | none => .no
      | some us => match muEv m us ts with
        | some (t, us') => .ok (t, ρ1.set i (.ow (.lst us')))
        | none => .no
  | .mu _ _ (_ :: _) _, _ => .no
  | .fz e, ρ => (evE e ρ).bind fun (t, ρ1) => .ok (.sh t.toD, ρ1)
  | .lc e tg it cs, ρ => (evI it ρ).bind fun (ds, ρ1) =>
      if quietAll ρ1 tg.slots = true then
        match lcL (fun ρ => evAll cs ρ) (fun ρ => evE e ρ) pl tg ds [] (wipeE ρ1 tg.slots) with
        | .ok (ts, ρ2) => .ok (.lst ts, backI it ρ (backE ρ1 ρ2 tg.slots))
        | _ => .no
      else .no
  | .lc2 e tg it cs tg1 it1 cs1, ρ => (evI it ρ).bind fun (ds, ρ1) =>
      if quietAll ρ1 (tg.slots ++ tg1.slots) = true then
        match lcG (fun ρ => evAll cs ρ) (inner (fun ρ => evI it1 ρ) (fun ρ ρ' => backI it1 ρ ρ') (fun ρ => evAll cs1 ρ) (fun ρ => evE e ρ) pl tg1) pl tg (tg.slots ++ tg1.slots) ds [] (wipeE ρ1 (tg.slots ++ tg1.slots)) with
        | .ok (ts, ρ2) => .ok (.lst ts, backI it ρ (backE ρ1 ρ2 (tg.slots ++ tg1.slots)))
        | _ => .no
      else .no
/-- values joined by and, all but the last one bools -/
def evAnd : CEs → Env → R (OT × Env)
  | .nil, _ => .no
  | .cons e .nil, ρ => evE e ρ
  | .cons e r, ρ => (evE e ρ).bind fun (t, ρ1) => match t with
    | .sh (.bl true) => evAnd r ρ1
    | .sh (.bl false) => .ok (.sh (.bl false), ρ1)
    | _ => .no
def evOr : CEs → Env → R (OT × Env)
  | .nil, _ => .no
  | .cons e .nil, ρ => evE e ρ
  | .cons e r, ρ => (evE e ρ).bind fun (t, ρ1) => match t with
    | .sh (.bl false) => evOr r ρ1
    | .sh (.bl true) => .ok (.sh (.bl true), ρ1)
    | _ => .no
def evEs : CEs → Env → R (List OT × Env)
  | .nil, ρ => .ok ([], ρ)
  | .cons e r, ρ => (evE e ρ).bind fun (t, ρ1) => (evEs r ρ1).bind fun (ts, ρ2) => .ok (t :: ts, ρ2)
/-- an operand: its tree, and the environment for what comes behind it -/
def evO : CO → Env → R (OT × Env)
  | .e e, ρ => evE e ρ
  | .bor i p, ρ => match (ρ.tree i).bind fun r => r.getP p with
    | some t => .ok (t, ρ)
    | none => .no
def evOs : COs → Env → R (List OT × Env)
  | .nil, ρ => .ok ([], ρ)
  | .cons (.e e) r, ρ => (evE e ρ).bind fun (t, ρ1) => (evOs r ρ1).bind fun (ts, ρ2) => .ok (t :: ts, ρ2)
  | .cons (.bor i p) r, ρ => match (ρ.tree i).bind fun r => r.getP p with
    | some t => match evOs r (lock ρ i) with
      | .ok (ts, ρ2) => .ok (t :: ts, unlock ρ ρ2 i)
      | .ex e ρ2 => .ex e (unlock ρ ρ2 i)
      | .no => .no
    | none => .no
/-- the bounds of a cut -/
def evB : CB → Env → R (Option Int × Env)
  | .no, ρ => .ok (none, ρ)
  | .at e, ρ => (evE e ρ).bind fun (t, ρ1) => match t with
    | .sh (.int i) => .ok (some i, ρ1)
    | _ => .no
/-- arguments: the values (frozen) in order; those by reference come later -/
def evAs : CAs → Env → R (List D × Env)
  | .nil, ρ => .ok ([], ρ)
  | .val e r, ρ => (evE e ρ).bind fun (t, ρ1) => (evAs r ρ1).bind fun (ds, ρ2) => .ok (t.toD :: ds, ρ2)
  | .ref i r, ρ => if (ρ.tree i).isSome = true then evAs r ρ else .no
def evT : CT → Env → R (Bool × Env)
  | .and ts, ρ => evAll ts ρ
  | .or ts, ρ => evAny ts ρ
  | .not t, ρ => (evT t ρ).bind fun (b, ρ1) => .ok (!b, ρ1)
  | .val o, ρ => (evO o ρ).bind fun (t, ρ1) => match truEv t with
    | some b => .ok (b, ρ1)
    | none => .no
def evAll : CTs → Env → R (Bool × Env)
  | .nil, ρ => .ok (true, ρ)
  | .cons t r, ρ => (evT t ρ).bind fun (b, ρ1) => if b = true then evAll r ρ1 else .ok (false, ρ1)
def evAny : CTs → Env → R (Bool × Env)
  | .nil, ρ => .ok (false, ρ)
  | .cons t r, ρ => (evT t ρ).bind fun (b, ρ1) => if b = true then .ok (true, ρ1) else evAny r ρ1
/-- what is walked; where it is a name's own list, the name is locked -/
def evI : CI → Env → R (List D × Env)
  | .seq (.e e), ρ => (evE e ρ).bind fun (t, ρ1) => match t.items with
    | some ds => .ok (ds, ρ1)
    | none => .no
  | .seq (.bor i p), ρ => match ((ρ.tree i).bind fun r => r.getP p).bind OT.items with
    | some ds => .ok (ds, lock ρ i)
    | none => .no
  | .rng1 e, ρ => (evE e ρ).bind fun (t, ρ1) => match t with
    | .sh (.int j) => if -(2 ^ 62) ≤ j ∧ j < 2 ^ 62 then .ok ((List.range j.toNat).map fun i => .int (i : Nat), ρ1) else .no
    | _ => .no
  | .rng2 a b, ρ => (evE a ρ).bind fun (t, ρ1) => (evE b ρ1).bind fun (u, ρ2) => match t, u with
    | .sh (.int i), .sh (.int j) => if -(2 ^ 62) ≤ i ∧ i < 2 ^ 62 ∧ -(2 ^ 62) ≤ j ∧ j < 2 ^ 62 then .ok ((List.range (j - i).toNat).map fun k => .int (i + (k : Nat)), ρ2) else .no
    | _, _ => .no
  | .enm (.e a), ρ => (evE a ρ).bind fun (t, ρ1) => match enmEv t with
    | some ds => .ok (ds, ρ1)
    | none => .no
  | .enm (.bor _ _), _ => .no
  | .zip (.e a) (.e b), ρ => (evE a ρ).bind fun (t, ρ1) => (evE b ρ1).bind fun (u, ρ2) => match zipEv t u with
    | some ds => .ok (ds, ρ2)
    | none => .no
  | .zip _ _, _ => .no
end
def atEv (e : Exn) (ρ : Env) : At → Option D
  | .c d => some d
  | .v i => match ρ.tree i with
    | some (.sh d) => some d
    | _ => none
  | .xf j => e.args[j]?
def atsEv (e : Exn) (ρ : Env) : List At → Option (List D)
  | [] => some []
  | a :: r => (atEv e ρ a).bind fun d => (atsEv e ρ r).map fun ds => d :: ds
/-- the slot of a clause's name holds nothing -/
def bareI (ρ : Env) : Option Nat → Bool
  | none => true
  | some i => match ρ[i]? with
    | some .no => true
    | _ => false
def hdRet (tup : Bool) (ds : List D) (ρ : Env) : R (Fl × Env) := if tup = true then (if ds.length ≤ big then .ok (.rt (.sh (.tup ds)), ρ) else .no) else match ds with
  | [d] => .ok (.rt (.sh d), ρ)
  | _ => .no
def hdEv : List Hd → Exn → Env → R (Fl × Env)
  | [], e, ρ => .ex e ρ
  | h :: r, e, ρ => if h.ms.contains e.cls = true then
      (if bareI ρ h.i = true then match atsEv e ρ h.as with
        | some ds => hdRet h.tup ds ρ
        | none => .no
      else .no)
    else hdEv r e ρ
mutual
def evS : CS → Env → R (Fl × Env)
  | .nop, ρ => .ok (.nx, ρ)
  | .brk, ρ => .ok (.brk, ρ)
  | .cont, ρ => .ok (.ct, ρ)
  | .retN, ρ => .ok (.rt (.sh .non), ρ)
  | .frz i, ρ => match ρ.own i with
    | some t => .ok (.nx, ρ.set i (.ow (.sh t.toD)))
    | none => .no
  | .ex e, ρ => (evE Φ pl e ρ).bind fun (_, ρ1) => .ok (.nx, ρ1)
  | .set i e, ρ => (evE Φ pl e ρ).bind fun (t, ρ1) => match ρ1[i]? with
    | some (.lk _) => .no
    | some _ => if pl.contains i then .no else .ok (.nx, ρ1.set i (.ow t))
    | none => .no
  | .setT is e, ρ => (evE Φ pl e ρ).bind fun (t, ρ1) => match setTg pl (.tup is) t.toD ρ1 with
    | some ρ2 => .ok (.nx, ρ2)
    | none => .no
  | .setF i p f e, ρ => .no
  | .setX i [] ix e, ρ => match ρ.ownL i with
    | none => .no
    | some _ => (evEs Φ pl (.cons e (.cons ix .nil)) ρ).bind fun (ts, ρ1) => match ρ1.ownL i with
      | none => .no
      | some us => match muEv .setIx us ts with
        | some (_, us') => .ok (.nx, ρ1.set i (.ow (.lst us')))
        | none => .no
  | .setX _ (_ :: _) _ _, _ => .no
  | .ret e, ρ => (evE Φ pl e ρ).bind fun (t, ρ1) => .ok (.rt t, ρ1)
  | .ife t a b, ρ => (evT Φ pl t ρ).bind fun (k, ρ1) => if k = true then evSs a ρ1 else evSs b ρ1
  | .whl t b, ρ => whlL (fun ρ => evT Φ pl t ρ) (fun ρ => evSs b ρ) gas ρ
  | .for_ tg it b, ρ => (evI Φ pl it ρ).bind fun (ds, ρ1) => match forL (fun ρ => evSs b ρ) pl tg ds ρ1 with
    | .ok (f, ρ2) => .ok (f, backI it ρ ρ2)
    | .ex e ρ2 => .ex e (backI it ρ ρ2)
    | .no => .no
  | .raise c n as, ρ => (evEs Φ pl as ρ).bind fun (ts, ρ1) => if ts.length = n then .ex ⟨c, toDs ts⟩ ρ1 else .no
  | .tr b hs, ρ => match evSs b ρ with
    | .ok p => .ok p
    | .ex e ρ1 => hdEv hs e ρ1
    | .no => .no
def evSs : CSs → Env → R (Fl × Env)
  | .nil, ρ => .ok (.nx, ρ)
  | .cons s r, ρ => (evS s ρ).bind fun (f, ρ1) => match f with
    | .nx => evSs r ρ1
    | f => .ok (f, ρ1)
end
end
/-- a def's body: its parameters' slots first -/
structure Fn where
  np : Nat
  nv : Nat
  pl : List Nat
  body : CSs
/-- the trees of the arguments behind a call: those by reference as they are now; all others are data -/
def outs (pl : List Nat) (ρ : Env) : Nat → List OT → Option (List OT)
  | _, [] => some []
  | n, t :: r => (if pl.contains n = true then ρ.own n else match t with
    | .sh d => some (.sh d)
    | _ => none).bind fun u => (outs pl ρ (n + 1) r).map fun us => u :: us
def Fn.run (Φ : Phi) (fn : Fn) (ts : List OT) : R (OT × List OT) :=
  if ts.length = fn.np then
    match evSs Φ fn.pl fn.body (ts.map .ow ++ List.replicate (fn.nv - fn.np) .no) with
    | .ok (.nx, ρ) => R.ofO ((outs fn.pl ρ 0 ts).map fun us => (.sh .non, us))
    | .ok (.rt t, ρ) => R.ofO ((outs fn.pl ρ 0 ts).map fun us => (t, us))
    | .ex e _ => .ex e []
    | _ => .no
  else .no
def runD (tab : Nat → Option Fn) : Nat → Phi
  | 0 => fun _ _ => .no
  | k + 1 => fun f ts => match tab f with
    | some fn => fn.run (runD tab k) ts
    | none => .no
end CH
end
section
namespace CH
open PySem L2 Evl

/-- where the text's defs and classes stand -/
structure Tab where
  fnA : Nat → Option Addr
  clA : Nat → Option Addr
  exA : Nat → Option Addr
  exF : Nat → List Str
  name : Nat → Str
  exN : Nat → Str
  bn : List Str
/-- the class at C lets its instances' attributes ks be read plainly -/
structure CInf (K : PySem.W.Frag) (C : Addr) (ks : List Str) : Prop where
  cl : Cls K C
  na : ∀ k ∈ ks, NoAttr K C k
mutual
inductive Rp (K : PySem.W.Frag) (T : Tab) (H : Hp) : D → V → Prop
  | non : Rp K T H .non .non
  | bl (b : Bool) : Rp K T H (.bl b) (.bl b)
  | int (i : Int) : Rp K T H (.int i) (.int i)
  | str (s : Str) : Rp K T H (.str s) (.str s)
  | tup {a : Addr} {ds : List D} {vs : List V} : SqT K H a vs → Rps K T H ds vs → Rp K T H (.tup ds) (.ref a)
  | lst {a : Addr} {ds : List D} {vs : List V} : H a = some (.lst vs) → Rps K T H ds vs → Rp K T H (.lst ds) (.ref a)
  | flst {a : Addr} {ds : List D} {vs : List V} : SqL K H a vs → Rps K T H ds vs → Rp K T H (.flst ds) (.ref a)
  | ty (n : String) : Rp K T H (.ty n) (.ty n)
  | fn {f : Nat} {a : Addr} : T.fnA f = some a → Rp K T H (.fn f) (.ref a)
  | obj {c : Nat} {C a dx : Addr} {fs : List (Str × V)} {ds : List D} : H a = some (.ins C dx fs) → T.clA c = some C ∧ CInf K C (fs.map (·.1)) → Rps K T H ds (fs.map (·.2)) → Rp K T H (.obj c (fs.map (·.1)) ds) (.ref a)
inductive Rps (K : PySem.W.Frag) (T : Tab) (H : Hp) : List D → List V → Prop
  | nil : Rps K T H [] []
  | cons {d : D} {v : V} {ds : List D} {vs : List V} : Rp K T H d v → Rps K T H ds vs → Rps K T H (d :: ds) (v :: vs)
end
mutual
inductive RpO (K : PySem.W.Frag) (T : Tab) (Hs H : Hp) : OT → V → List Addr → Prop
  | sh {d : D} {v : V} : Rp K T Hs d v → RpO K T Hs H (.sh d) v []
  | lst {a : Addr} {ts : List OT} {vs : List V} {f : List Addr} : H a = some (.lst vs) → RpOs K T Hs H ts vs f → RpO K T Hs H (.lst ts) (.ref a) (a :: f)
  | obj {c : Nat} {C a dx : Addr} {fs : List (Str × V)} {ts : List OT} {f : List Addr} : H a = some (.ins C dx fs) → T.clA c = some C ∧ CInf K C (fs.map (·.1)) → RpOs K T Hs H ts (fs.map (·.2)) f → RpO K T Hs H (.obj c (fs.map (·.1)) ts) (.ref a) (a :: f)
inductive RpOs (K : PySem.W.Frag) (T : Tab) (Hs H : Hp) : List OT → List V → List Addr → Prop
  | nil : RpOs K T Hs H [] [] []
  | cons {t : OT} {v : V} {f g : List Addr} {ts : List OT} {vs : List V} : RpO K T Hs H t v f → RpOs K T Hs H ts vs g → RpOs K T Hs H (t :: ts) (v :: vs) (f ++ g)
end

section
variable {K : PySem.W.Frag} {T : Tab} {H H' Hs Hs' : Hp}
mutual
theorem Rp.mono (e : Ex H H') : ∀ {d : D} {v : V}, Rp K T H d v → Rp K T H' d v
  | _, _, .non => .non
  | _, _, .bl b => .bl b
  | _, _, .int i => .int i
  | _, _, .str s => .str s
  | _, _, .tup h r => .tup (ex_t e h) (Rps.mono e r)
  | _, _, .lst h r => .lst (e _ _ h) (Rps.mono e r)
  | _, _, .flst h r => .flst (ex_l e h) (Rps.mono e r)
  | _, _, .ty n => .ty n
  | _, _, .fn h => .fn h
  | _, _, .obj h c r => .obj (e _ _ h) c (Rps.mono e r)
theorem Rps.mono (e : Ex H H') : ∀ {ds : List D} {vs : List V}, Rps K T H ds vs → Rps K T H' ds vs
  | _, _, .nil => .nil
  | _, _, .cons h r => .cons (Rp.mono e h) (Rps.mono e r)
end
theorem Rps.length : ∀ {ds : List D} {vs : List V}, Rps K T H ds vs → ds.length = vs.length
  | _, _, .nil => rfl
  | _, _, .cons _ r => by simp [r.length]
theorem RpOs.length : ∀ {ts : List OT} {vs : List V} {f : List Addr}, RpOs K T Hs H ts vs f → ts.length = vs.length
  | _, _, _, .nil => rfl
  | _, _, _, .cons _ r => by simp [RpOs.length r]
theorem Rps.get : ∀ {ds : List D} {vs : List V} {i : Nat} {d : D}, Rps K T H ds vs → ds[i]? = some d → ∃ v, vs[i]? = some v ∧ Rp K T H d v
  | _, _, _, _, .nil, e => by simp at e
  | _, _, 0, _, .cons h r, e => by simp at e; subst e; exact ⟨_, rfl, h⟩
  | _, _, i + 1, _, .cons h r, e => by
    obtain ⟨v, e1, h1⟩ := Rps.get (i := i) r (by simpa using e)
    exact ⟨v, by simpa using e1, h1⟩
theorem Rps.getV : ∀ {ds : List D} {vs : List V} {i : Nat} {v : V}, Rps K T H ds vs → vs[i]? = some v → ∃ d, ds[i]? = some d ∧ Rp K T H d v
  | _, _, _, _, .nil, e => by simp at e
  | _, _, 0, _, .cons h r, e => by simp at e; subst e; exact ⟨_, rfl, h⟩
  | _, _, i + 1, _, .cons h r, e => by
    obtain ⟨v, e1, h1⟩ := Rps.getV (i := i) r (by simpa using e)
    exact ⟨v, by simpa using e1, h1⟩
theorem Rps.append : ∀ {ds es : List D} {vs ws : List V}, Rps K T H ds vs → Rps K T H es ws → Rps K T H (ds ++ es) (vs ++ ws)
  | _, _, _, _, .nil, r => r
  | _, _, _, _, .cons h t, r => .cons h (t.append r)
theorem Rps.drop : ∀ {ds : List D} {vs : List V} (n : Nat), Rps K T H ds vs → Rps K T H (ds.drop n) (vs.drop n)
  | _, _, 0, r => r
  | _, _, _ + 1, .nil => .nil
  | _, _, n + 1, .cons _ t => t.drop n
theorem Rps.take : ∀ {ds : List D} {vs : List V} (n : Nat), Rps K T H ds vs → Rps K T H (ds.take n) (vs.take n)
  | _, _, 0, _ => .nil
  | _, _, _ + 1, .nil => .nil
  | _, _, n + 1, .cons h t => .cons h (t.take n)
theorem Rps.reverse : ∀ {ds : List D} {vs : List V}, Rps K T H ds vs → Rps K T H ds.reverse vs.reverse
  | _, _, .nil => .nil
  | _, _, .cons h t => by rw [List.reverse_cons, List.reverse_cons]; exact t.reverse.append (.cons h .nil)
theorem Rps.rep {ds : List D} {vs : List V} (r : Rps K T H ds vs) : ∀ n : Nat, Rps K T H (List.replicate n ds).flatten (List.replicate n vs).flatten
  | 0 => .nil
  | n + 1 => by rw [List.replicate_succ, List.replicate_succ, List.flatten_cons, List.flatten_cons]; exact r.append (r.rep n)

mutual
theorem RpO.toD (e : Ex Hs H) : ∀ {t : OT} {v : V} {f : List Addr}, RpO K T Hs H t v f → Rp K T H t.toD v
  | _, _, _, .sh h => by unfold OT.toD; exact h.mono e
  | _, _, _, .lst h r => by unfold OT.toD; exact .lst h (RpOs.toD e r)
  | _, _, _, .obj h c r => by unfold OT.toD; exact .obj h c (RpOs.toD e r)
theorem RpOs.toD (e : Ex Hs H) : ∀ {ts : List OT} {vs : List V} {f : List Addr}, RpOs K T Hs H ts vs f → Rps K T H (toDs ts) vs
  | _, _, _, .nil => by unfold toDs; exact .nil
  | _, _, _, .cons h r => by unfold toDs; exact .cons (RpO.toD e h) (RpOs.toD e r)
end
mutual
theorem RpO.step (e : Ex Hs Hs') : ∀ {t : OT} {v : V} {f : List Addr}, RpO K T Hs H t v f → (∀ a ∈ f, ∀ o, H a = some o → H' a = some o) → RpO K T Hs' H' t v f
  | _, _, _, .sh h, _ => .sh (h.mono e)
  | _, _, _, .lst h r, k => .lst (k _ (by simp) _ h) (RpOs.step e r fun a ha => k a (by simp [ha]))
  | _, _, _, .obj h c r, k => .obj (k _ (by simp) _ h) c (RpOs.step e r fun a ha => k a (by simp [ha]))
theorem RpOs.step (e : Ex Hs Hs') : ∀ {ts : List OT} {vs : List V} {f : List Addr}, RpOs K T Hs H ts vs f → (∀ a ∈ f, ∀ o, H a = some o → H' a = some o) → RpOs K T Hs' H' ts vs f
  | _, _, _, .nil, _ => .nil
  | _, _, _, .cons h r, k => .cons (RpO.step e h fun a ha => k a (by simp [ha])) (RpOs.step e r fun a ha => k a (by simp [ha]))
end
mutual
theorem RpO.tracked : ∀ {t : OT} {v : V} {f : List Addr}, RpO K T Hs H t v f → ∀ a ∈ f, ∃ o, H a = some o
  | _, _, _, .sh h, a, ha => by simp at ha
  | _, _, _, .lst h r, a, ha => by
    rcases List.mem_cons.mp ha with rfl | ha
    · exact ⟨_, h⟩
    · exact RpOs.tracked r a ha
  | _, _, _, .obj h c r, a, ha => by
    rcases List.mem_cons.mp ha with rfl | ha
    · exact ⟨_, h⟩
    · exact RpOs.tracked r a ha
theorem RpOs.tracked : ∀ {ts : List OT} {vs : List V} {f : List Addr}, RpOs K T Hs H ts vs f → ∀ a ∈ f, ∃ o, H a = some o
  | _, _, _, .nil, a, ha => by simp at ha
  | _, _, _, .cons h r, a, ha => by
    rcases List.mem_append.mp ha with ha | ha
    · exact RpO.tracked h a ha
    · exact RpOs.tracked r a ha
end
theorem RpOs.leaves : ∀ {ts : List OT} {vs : List V} {f : List Addr} {ds : List D}, RpOs K T Hs H ts vs f → leaves ts = some ds → Rps K T Hs ds vs ∧ f = []
  | _, _, _, _, .nil, e => by simp [CH.leaves] at e; subst e; exact ⟨.nil, rfl⟩
  | _, _, _, _, .cons (t := .sh d) h r, e => by
    simp only [CH.leaves, Option.map_eq_some_iff] at e
    obtain ⟨ds, e1, rfl⟩ := e
    obtain ⟨r1, rfl⟩ := r.leaves e1
    cases h with
    | sh h => exact ⟨.cons h r1, rfl⟩
  | _, _, _, _, .cons (t := .lst _) h r, e => by simp [CH.leaves] at e
  | _, _, _, _, .cons (t := .obj ..) h r, e => by simp [CH.leaves] at e
theorem RpOs.append : ∀ {ts us : List OT} {vs ws : List V} {f g : List Addr}, RpOs K T Hs H ts vs f → RpOs K T Hs H us ws g → RpOs K T Hs H (ts ++ us) (vs ++ ws) (f ++ g)
  | _, _, _, _, _, _, .nil, r => r
  | _, _, _, _, _, _, .cons h t, r => by rw [List.append_assoc]; exact .cons h (t.append r)
theorem RpOs.of : ∀ {ds : List D} {vs : List V}, Rps K T Hs ds vs → RpOs K T Hs H (ds.map .sh) vs []
  | _, _, .nil => .nil
  | _, _, .cons h r => RpOs.cons (f := []) (.sh h) (RpOs.of r)
theorem leaves_map : ∀ ds : List D, leaves (ds.map .sh) = some ds
  | [] => rfl
  | d :: ds => by simp [leaves, leaves_map ds]

/-- what is frozen -/
def frz (Hs H : Hp) (f : List Addr) : Hp := fun b => if b ∈ f then H b else Hs b
theorem frz_in {f : List Addr} {a : Addr} (h : a ∈ f) : frz Hs H f a = H a := if_pos h
theorem frz_out {f : List Addr} {a : Addr} (h : a ∉ f) : frz Hs H f a = Hs a := if_neg h
theorem frz_ex {f : List Addr} (nf : ∀ a ∈ f, Hs a = none) : Ex Hs (frz Hs H f) := fun a o e => by
  by_cases h : a ∈ f
  · rw [nf a h] at e; cases e
  · rw [frz_out h]; exact e
theorem frz_le {f : List Addr} (e : Ex Hs H) : Ex (frz Hs H f) H := fun a o q => by
  by_cases h : a ∈ f
  · rw [frz_in h] at q; exact q
  · rw [frz_out h] at q; exact e a o q
mutual
theorem RpO.frz {F : List Addr} (nf : ∀ a ∈ F, Hs a = none) : ∀ {t : OT} {v : V} {f : List Addr}, RpO K T Hs H t v f → (∀ a ∈ f, a ∈ F) → Rp K T (frz Hs H F) t.toD v
  | _, _, _, .sh h, _ => by unfold OT.toD; exact h.mono (frz_ex nf)
  | _, _, _, .lst h r, k => by unfold OT.toD; exact .lst (by rw [frz_in (k _ (by simp))]; exact h) (RpOs.frz nf r fun a ha => k a (by simp [ha]))
  | _, _, _, .obj h c r, k => by unfold OT.toD; exact .obj (by rw [frz_in (k _ (by simp))]; exact h) c (RpOs.frz nf r fun a ha => k a (by simp [ha]))
theorem RpOs.frz {F : List Addr} (nf : ∀ a ∈ F, Hs a = none) : ∀ {ts : List OT} {vs : List V} {f : List Addr}, RpOs K T Hs H ts vs f → (∀ a ∈ f, a ∈ F) → Rps K T (frz Hs H F) (toDs ts) vs
  | _, _, _, .nil, _ => by unfold toDs; exact .nil
  | _, _, _, .cons h r, k => by unfold toDs; exact .cons (RpO.frz nf h fun a ha => k a (by simp [ha])) (RpOs.frz nf r fun a ha => k a (by simp [ha]))
end

inductive RpS (K : PySem.W.Frag) (T : Tab) (Hs H : Hp) (L : List Addr) : Env → St → List Addr → Prop
  | nil : RpS K T Hs H L [] [] []
  | no {x : Option V} {ρ : Env} {σ : St} {fp : List Addr} : RpS K T Hs H L ρ σ fp → RpS K T Hs H L (.no :: ρ) (x :: σ) fp
  | ow {t : OT} {v : V} {f : List Addr} {ρ : Env} {σ : St} {fp : List Addr} : RpO K T Hs H t v f → RpS K T Hs H L ρ σ fp → RpS K T Hs H L (.ow t :: ρ) (some v :: σ) (f ++ fp)
  | lk {t : OT} {v : V} {f : List Addr} {ρ : Env} {σ : St} {fp : List Addr} : RpO K T Hs H t v f → (∀ a ∈ f, a ∈ L) → RpS K T Hs H L ρ σ fp → RpS K T Hs H L (.lk t :: ρ) (some v :: σ) fp
variable {L L' : List Addr}
theorem RpS.length : ∀ {ρ : Env} {σ : St} {fp : List Addr}, RpS K T Hs H L ρ σ fp → ρ.length = σ.length
  | _, _, _, .nil => rfl
  | _, _, _, .no r => by simp [r.length]
  | _, _, _, .ow _ r => by simp [r.length]
  | _, _, _, .lk _ _ r => by simp [r.length]
theorem RpS.tracked : ∀ {ρ : Env} {σ : St} {fp : List Addr}, RpS K T Hs H L ρ σ fp → ∀ a ∈ fp, ∃ o, H a = some o
  | _, _, _, .nil, a, ha => by simp at ha
  | _, _, _, .no r, a, ha => r.tracked a ha
  | _, _, _, .ow h r, a, ha => by
    rcases List.mem_append.mp ha with ha | ha
    · exact h.tracked a ha
    · exact r.tracked a ha
  | _, _, _, .lk _ _ r, a, ha => r.tracked a ha
theorem RpS.step (e : Ex Hs Hs') (hL : ∀ a ∈ L, a ∈ L') : ∀ {ρ : Env} {σ : St} {fp : List Addr}, RpS K T Hs H L ρ σ fp → (∀ a, a ∈ fp ∨ a ∈ L → ∀ o, H a = some o → H' a = some o) → RpS K T Hs' H' L' ρ σ fp
  | _, _, _, .nil, _ => .nil
  | _, _, _, .no r, k => .no (r.step e hL k)
  | _, _, _, .ow h r, k => .ow (h.step e fun a ha => k a (.inl (by simp [ha]))) (r.step e hL fun a ha => k a (ha.imp (fun q => by simp [q]) id))
  | _, _, _, .lk h l r, k => .lk (h.step e fun a ha => k a (.inr (l a ha))) (fun a ha => hL a (l a ha)) (r.step e hL k)
/-- a slot with a tree of its own -/
theorem RpS.takeOut : ∀ {ρ : Env} {σ : St} {fp : List Addr} {i : Nat} {t : OT}, RpS K T Hs H L ρ σ fp → ρ[i]? = some (.ow t) → ∃ v f fr, σ[i]? = some (some v) ∧ RpO K T Hs H t v f ∧ fp.Perm (f ++ fr) ∧ RpS K T Hs H L (ρ.set i .no) σ fr
  | _, _, _, i, t, .nil, e => by simp at e
  | _, _, _, 0, t, .no r, e => by simp at e
  | _, _, _, 0, t, .lk h l r, e => by simp at e
  | _, _, _, 0, t, .ow h r, e => by
    simp at e; subst e
    exact ⟨_, _, _, rfl, h, .refl _, .no r⟩
  | _, _, _, i + 1, t, .no r, e => by
    obtain ⟨v, f, fr, h1, h2, h3, h4⟩ := r.takeOut (i := i) (by simpa using e)
    exact ⟨v, f, fr, by simpa using h1, h2, h3, .no h4⟩
  | _, _, _, i + 1, t, .lk h l r, e => by
    obtain ⟨v, f, fr, h1, h2, h3, h4⟩ := r.takeOut (i := i) (by simpa using e)
    exact ⟨v, f, fr, by simpa using h1, h2, h3, .lk h l h4⟩
  | _, _, _, i + 1, t, .ow (f := g) h r, e => by
    obtain ⟨v, f, fr, h1, h2, h3, h4⟩ := r.takeOut (i := i) (by simpa using e)
    refine ⟨v, f, g ++ fr, by simpa using h1, h2, ?_, .ow h h4⟩
    exact (List.Perm.append_left g h3).trans (by rw [← List.append_assoc, ← List.append_assoc]; exact List.Perm.append_right fr List.perm_append_comm)
/-- a slot forgotten -/
theorem RpS.forget : ∀ {ρ : Env} {σ : St} {fp : List Addr} (i : Nat) (x : Option V), RpS K T Hs H L ρ σ fp → ∃ fr, RpS K T Hs H L (ρ.set i .no) (σ.set i x) fr ∧ fr.Sublist fp
  | _, _, _, i, x, .nil => ⟨[], .nil, .refl _⟩
  | _, _, _, 0, x, .no r => ⟨_, .no r, .refl _⟩
  | _, _, _, 0, x, .ow h r => ⟨_, .no r, List.sublist_append_right _ _⟩
  | _, _, _, 0, x, .lk h l r => ⟨_, .no r, .refl _⟩
  | _, _, _, i + 1, x, .no r => by
    obtain ⟨fr, h1, h2⟩ := r.forget i x
    exact ⟨fr, .no h1, h2⟩
  | _, _, _, i + 1, x, .ow (f := g) h r => by
    obtain ⟨fr, h1, h2⟩ := r.forget i x
    exact ⟨g ++ fr, .ow h h1, h2.append_left g⟩
  | _, _, _, i + 1, x, .lk h l r => by
    obtain ⟨fr, h1, h2⟩ := r.forget i x
    exact ⟨fr, .lk h l h1, h2⟩
theorem RpS.forget' {ρ : Env} {σ : St} {fp : List Addr} (i : Nat) (r : RpS K T Hs H L ρ σ fp) : ∃ fr, RpS K T Hs H L (ρ.set i .no) σ fr ∧ fr.Sublist fp := by
  by_cases hi : i < σ.length
  · obtain ⟨fr, h1, h2⟩ := r.forget i (σ[i])
    exact ⟨fr, by rw [List.set_getElem_self] at h1; exact h1, h2⟩
  · refine ⟨fp, ?_, .refl _⟩
    rw [List.set_eq_of_length_le (by rw [r.length]; omega)]
    exact r
/-- a tree laid into a slot -/
theorem RpS.put : ∀ {ρ : Env} {σ : St} {fp : List Addr} {i : Nat} {t : OT} {v : V} {f : List Addr}, RpS K T Hs H L ρ σ fp → i < ρ.length → ρ[i]? = some .no → RpO K T Hs H t v f → ∃ fp', RpS K T Hs H L (ρ.set i (.ow t)) (σ.set i (some v)) fp' ∧ fp'.Perm (f ++ fp)
  | _, _, _, i, t, v, f, .nil, hi, _, h => by simp at hi
  | _, _, _, 0, t, v, f, .no r, hi, _, h => ⟨_, .ow h r, .refl _⟩
  | _, _, _, 0, t, v, f, .ow g r, hi, e, h => by simp at e
  | _, _, _, 0, t, v, f, .lk g l r, hi, e, h => by simp at e
  | _, _, _, i + 1, t, v, f, .no r, hi, e, h => by
    obtain ⟨fp', h1, h2⟩ := r.put (i := i) (by simpa using hi) (by simpa using e) h
    exact ⟨fp', .no h1, h2⟩
  | _, _, _, i + 1, t, v, f, .lk g l r, hi, e, h => by
    obtain ⟨fp', h1, h2⟩ := r.put (i := i) (by simpa using hi) (by simpa using e) h
    exact ⟨fp', .lk g l h1, h2⟩
  | _, _, _, i + 1, t, v, f, .ow (f := g') g r, hi, e, h => by
    obtain ⟨fp', h1, h2⟩ := r.put (i := i) (by simpa using hi) (by simpa using e) h
    refine ⟨_, .ow g h1, ?_⟩
    exact (List.Perm.append_left g' h2).trans (by rw [← List.append_assoc, ← List.append_assoc]; exact List.Perm.append_right _ List.perm_append_comm)
theorem RpS.putLk : ∀ {ρ : Env} {σ : St} {fp : List Addr} {i : Nat} {t : OT} {v : V} {f : List Addr}, RpS K T Hs H L ρ σ fp → i < ρ.length → ρ[i]? = some .no → RpO K T Hs H t v f → (∀ a ∈ f, a ∈ L) → RpS K T Hs H L (ρ.set i (.lk t)) (σ.set i (some v)) fp
  | _, _, _, i, t, v, f, .nil, hi, _, h, _ => by simp at hi
  | _, _, _, 0, t, v, f, .no r, hi, _, h, l => .lk h l r
  | _, _, _, 0, t, v, f, .ow g r, hi, e, h, _ => by simp at e
  | _, _, _, 0, t, v, f, .lk g l r, hi, e, h, _ => by simp at e
  | _, _, _, i + 1, t, v, f, .no r, hi, e, h, l => .no (r.putLk (i := i) (by simpa using hi) (by simpa using e) h l)
  | _, _, _, i + 1, t, v, f, .lk g l' r, hi, e, h, l => .lk g l' (r.putLk (i := i) (by simpa using hi) (by simpa using e) h l)
  | _, _, _, i + 1, t, v, f, .ow g r, hi, e, h, l => .ow g (r.putLk (i := i) (by simpa using hi) (by simpa using e) h l)
/-- a slot that may be read -/
theorem RpS.read : ∀ {ρ : Env} {σ : St} {fp : List Addr} {i : Nat} {t : OT}, RpS K T Hs H L ρ σ fp → Env.tree ρ i = some t → ∃ v f, σ[i]? = some (some v) ∧ RpO K T Hs H t v f ∧ ∀ a ∈ f, a ∈ fp ∨ a ∈ L
  | _, _, _, i, t, .nil, e => by simp [Env.tree] at e
  | _, _, _, 0, t, .no r, e => by simp [Env.tree] at e
  | _, _, _, 0, t, .ow h r, e => by simp [Env.tree] at e; subst e; exact ⟨_, _, rfl, h, fun a ha => .inl (by simp [ha])⟩
  | _, _, _, 0, t, .lk h l r, e => by simp [Env.tree] at e; subst e; exact ⟨_, _, rfl, h, fun a ha => .inr (l a ha)⟩
  | _, _, _, i + 1, t, .no r, e => by
    obtain ⟨v, f, h1, h2, h3⟩ := r.read (i := i) (t := t) (by simpa [Env.tree] using e)
    exact ⟨v, f, by simpa using h1, h2, h3⟩
  | _, _, _, i + 1, t, .ow h r, e => by
    obtain ⟨v, f, h1, h2, h3⟩ := r.read (i := i) (t := t) (by simpa [Env.tree] using e)
    exact ⟨v, f, by simpa using h1, h2, fun a ha => (h3 a ha).imp (fun q => by simp [q]) id⟩
  | _, _, _, i + 1, t, .lk h l r, e => by
    obtain ⟨v, f, h1, h2, h3⟩ := r.read (i := i) (t := t) (by simpa [Env.tree] using e)
    exact ⟨v, f, by simpa using h1, h2, h3⟩

theorem RpS.readLk : ∀ {ρ : Env} {σ : St} {fp : List Addr} {i : Nat} {t : OT}, RpS K T Hs H L ρ σ fp → ρ[i]? = some (.lk t) → ∃ v f, σ[i]? = some (some v) ∧ RpO K T Hs H t v f ∧ ∀ a ∈ f, a ∈ L
  | _, _, _, i, t, .nil, e => by simp at e
  | _, _, _, 0, t, .no r, e => by simp at e
  | _, _, _, 0, t, .ow h r, e => by simp at e
  | _, _, _, 0, t, .lk h l r, e => by simp at e; subst e; exact ⟨_, _, rfl, h, l⟩
  | _, _, _, i + 1, t, .no r, e => by
    obtain ⟨v, f, h1, h2, h3⟩ := r.readLk (i := i) (t := t) (by simpa using e)
    exact ⟨v, f, by simpa using h1, h2, h3⟩
  | _, _, _, i + 1, t, .ow h r, e => by
    obtain ⟨v, f, h1, h2, h3⟩ := r.readLk (i := i) (t := t) (by simpa using e)
    exact ⟨v, f, by simpa using h1, h2, h3⟩
  | _, _, _, i + 1, t, .lk h l r, e => by
    obtain ⟨v, f, h1, h2, h3⟩ := r.readLk (i := i) (t := t) (by simpa using e)
    exact ⟨v, f, by simpa using h1, h2, h3⟩

structure StOk (K : PySem.W.Frag) (T : Tab) (L : List Addr) (Hs H : Hp) (ρ : Env) (σ : St) (fp : List Addr) : Prop where
  ex : Ex Hs H
  rs : RpS K T Hs H L ρ σ fp
  nd : fp.Nodup
  nf : ∀ a ∈ fp, Hs a = none
  lf : ∀ a ∈ L, a ∉ fp
  lt : ∀ a ∈ L, (∃ o, H a = some o) ∧ Hs a = none
/-- from a state to a later one: what is not owned stays -/
structure Stp (fp : List Addr) (H Hs : Hp) (fp' : List Addr) (H' Hs' : Hp) : Prop where
  ex : Ex Hs Hs'
  fr : ∀ a o, H a = some o → a ∉ fp → H' a = some o
  nw : ∀ a ∈ fp', a ∈ fp ∨ H a = none
  dm : ∀ a o, Hs' a = some o → Hs a = some o ∨ a ∈ fp ∨ H a = none
theorem Stp.refl (fp : List Addr) (H Hs : Hp) : Stp fp H Hs fp H Hs := ⟨Ex.refl _, fun _ _ e _ => e, fun _ h => .inl h, fun _ _ e => .inl e⟩
variable {fp fp1 fp2 : List Addr} {H1 H2 Hs1 Hs2 : Hp}
theorem Stp.trans (a : Stp fp H Hs fp1 H1 Hs1) (b : Stp fp1 H1 Hs1 fp2 H2 Hs2) : Stp fp H Hs fp2 H2 Hs2 := by
  have back : ∀ x, x ∈ fp1 ∨ H1 x = none → x ∈ fp ∨ H x = none := fun x hx => by
    rcases hx with hx | hx
    · exact a.nw x hx
    · by_cases q : x ∈ fp
      · exact .inl q
      · cases e : H x with
        | none => exact .inr rfl
        | some o => rw [a.fr x o e q] at hx; cases hx
  refine ⟨a.ex.trans b.ex, fun x o e n => b.fr x o (a.fr x o e n) fun q => ?_, fun x hx => back x (b.nw x hx), fun x o e => ?_⟩
  · rcases a.nw x q with z | z
    · exact n z
    · rw [e] at z; cases z
  · rcases b.dm x o e with z | z
    · exact a.dm x o z
    · exact .inr (back x z)
theorem Stp.sub (a : Stp fp H Hs fp1 H1 Hs1) (s : ∀ x ∈ fp2, x ∈ fp1) : Stp fp H Hs fp2 H1 Hs1 := ⟨a.ex, a.fr, fun x hx => a.nw x (s x hx), a.dm⟩
/-- what is seen from outside: a larger ground -/
theorem Stp.wider (a : Stp fp H Hs fp1 H1 Hs1) (s : ∀ x ∈ fp, x ∈ fp2) (F : List Addr) (hF : ∀ x ∈ F, x ∈ fp2) : Stp fp2 H Hs (F ++ fp1) H1 Hs1 :=
  ⟨a.ex, fun x o e n => a.fr x o e fun q => n (s x q), fun x hx => by
    rcases List.mem_append.mp hx with hx | hx
    · exact .inl (hF x hx)
    · exact (a.nw x hx).imp (s x) id, fun x o e => (a.dm x o e).imp id fun z => z.imp (s x) id⟩
/-- nothing but new objects -/
theorem Stp.grow (e : Ex H H') (n : ∀ a ∈ fp1, a ∈ fp ∨ H a = none) (e2 : Ex Hs Hs') (d : ∀ a o, Hs' a = some o → Hs a = some o ∨ a ∈ fp ∨ H a = none) : Stp fp H Hs fp1 H' Hs' := ⟨e2, fun a o q _ => e a o q, n, d⟩
/-- a tree beside the state -/
theorem RpO.keep {t : OT} {v : V} {f : List Addr} (r : RpO K T Hs H t v f) (d : ∀ a ∈ f, a ∉ fp) (s : Stp fp H Hs fp1 H1 Hs1) : RpO K T Hs1 H1 t v f := r.step s.ex fun a ha o e => s.fr a o e (d a ha)
theorem RpOs.keep {ts : List OT} {vs : List V} {f : List Addr} (r : RpOs K T Hs H ts vs f) (d : ∀ a ∈ f, a ∉ fp) (s : Stp fp H Hs fp1 H1 Hs1) : RpOs K T Hs1 H1 ts vs f := r.step s.ex fun a ha o e => s.fr a o e (d a ha)
theorem Stp.out (s : Stp fp H Hs fp1 H1 Hs1) {a : Addr} (h : ∃ o, H a = some o) (n : a ∉ fp) : a ∉ fp1 := fun q => by
  rcases s.nw a q with z | z
  · exact n z
  · obtain ⟨o, e⟩ := h; rw [e] at z; cases z
theorem Stp.outHs (s : Stp fp H Hs fp1 H1 Hs1) {a : Addr} (h : ∃ o, H a = some o) (n : a ∉ fp) (z : Hs a = none) : Hs1 a = none := by
  cases e : Hs1 a with
  | none => rfl
  | some o =>
    rcases s.dm a o e with q | q | q
    · rw [z] at q; cases q
    · exact absurd q n
    · obtain ⟨o', e'⟩ := h; rw [e'] at q; cases q
end
end CH
end
section
namespace CH
open PySem L2 Evl PyProof.Rows

def Opd (K : PySem.W.Frag) (T : Tab) (Hs H : Hp) (t : OT) (x : V) : Prop := ∃ f, RpO K T Hs H t x f
inductive Opds (K : PySem.W.Frag) (T : Tab) (Hs H : Hp) : List OT → List V → Prop
  | nil : Opds K T Hs H [] []
  | cons {t : OT} {x : V} {ts : List OT} {xs : List V} : Opd K T Hs H t x → Opds K T Hs H ts xs → Opds K T Hs H (t :: ts) (x :: xs)
/-- a new value -/
structure New (K : PySem.W.Frag) (T : Tab) (Hs H : Hp) (w : OT) (z : V) (H' Hs' : Hp) (ft : List Addr) : Prop where
  eH : Ex H H'
  eS : Ex Hs Hs'
  le : Ex Hs' H'
  rp : RpO K T Hs' H' w z ft
  nd : ft.Nodup
  fr : ∀ a ∈ ft, H a = none ∧ Hs' a = none
  dm : ∀ a o, Hs' a = some o → Hs a = some o ∨ H a = none
section
variable {K : PySem.W.Frag} {T : Tab} {H Hs : Hp}
theorem none_of_ex (e : Ex Hs H) {p : Addr} (h : H p = none) : Hs p = none := fresh_back e h
theorem New.val {d : D} {z : V} (e : Ex Hs H) (r : Rp K T Hs d z) : New K T Hs H (.sh d) z H Hs [] := ⟨Ex.refl _, Ex.refl _, e, .sh r, .nil, fun a h => absurd h (by simp), fun _ _ h => .inl h⟩
theorem ex_upd2 {p : Addr} {o : HO} (e : Ex Hs H) : Ex (upd Hs p o) (upd H p o) := fun a u q => by
  by_cases h : a = p
  · subst h; rw [upd_same] at q ⊢; exact q
  · rw [upd_ne h] at q ⊢; exact e a u q
theorem New.tup {ds : List D} {vs : List V} {p : Addr} (e : Ex Hs H) (h : H p = none) (r : Rps K T Hs ds vs) : New K T Hs H (.sh (.tup ds)) (.ref p) (upd H p (.tup vs)) (upd Hs p (.tup vs)) [] :=
  ⟨Ex.new h, Ex.new (none_of_ex e h), ex_upd2 e, .sh (.tup (SqT.of upd_same) (r.mono (Ex.new (none_of_ex e h)))), .nil, fun a h => absurd h (by simp), fun a o q => by
    by_cases z : a = p
    · subst z; exact .inr h
    · rw [upd_ne z] at q; exact .inl q⟩
theorem New.lst {ts : List OT} {vs : List V} {p : Addr} (e : Ex Hs H) (h : H p = none) (r : RpOs K T Hs H ts vs []) : New K T Hs H (.lst ts) (.ref p) (upd H p (.lst vs)) Hs [p] :=
  ⟨Ex.new h, Ex.refl _, fun a o q => by rw [upd_ne (ne_of_none (e a o q) h)]; exact e a o q, .lst upd_same (r.step (Ex.refl _) fun a ha => absurd ha (by simp)), by simp, fun a ha => by
    have : a = p := by simpa using ha
    subst this; exact ⟨h, none_of_ex e h⟩, fun _ _ q => .inl q⟩
theorem New.newL {ds : List D} {vs : List V} {p : Addr} (e : Ex Hs H) (h : H p = none) (r : Rps K T Hs ds vs) : New K T Hs H (newL ds) (.ref p) (upd H p (.lst vs)) Hs [p] := New.lst e h (.of r)

theorem opd_int {i : Int} {x : V} (h : Opd K T Hs H (.sh (.int i)) x) : x = .int i := by obtain ⟨_, h⟩ := h; cases h with | sh h => cases h; rfl
theorem opd_bl {b : Bool} {x : V} (h : Opd K T Hs H (.sh (.bl b)) x) : x = .bl b := by obtain ⟨_, h⟩ := h; cases h with | sh h => cases h; rfl
theorem opd_str {s : Str} {x : V} (h : Opd K T Hs H (.sh (.str s)) x) : x = .str s := by obtain ⟨_, h⟩ := h; cases h with | sh h => cases h; rfl
theorem opd_non {x : V} (h : Opd K T Hs H (.sh .non) x) : x = .non := by obtain ⟨_, h⟩ := h; cases h with | sh h => cases h; rfl
theorem opd_tup {ds : List D} {x : V} (h : Opd K T Hs H (.sh (.tup ds)) x) : ∃ a vs, x = .ref a ∧ SqT K Hs a vs ∧ Rps K T Hs ds vs := by obtain ⟨_, h⟩ := h; cases h with | sh h => cases h with | tup h r => exact ⟨_, _, rfl, h, r⟩
theorem opd_flst {ds : List D} {x : V} (h : Opd K T Hs H (.sh (.flst ds)) x) : ∃ a vs, x = .ref a ∧ SqL K Hs a vs ∧ Rps K T Hs ds vs := by obtain ⟨_, h⟩ := h; cases h with | sh h => cases h with | flst h r => exact ⟨_, _, rfl, h, r⟩
theorem opd_litems {t : OT} {ds : List D} {x : V} (e : Ex Hs H) (h : Opd K T Hs H t x) (hl : t.litems = some ds) : ∃ a vs, x = .ref a ∧ H a = some (.lst vs) ∧ Rps K T Hs ds vs := by
  obtain ⟨f, h⟩ := h
  cases h with
  | sh h =>
    cases h with
    | lst h r => simp only [OT.litems, Option.some.injEq] at hl; subst hl; exact ⟨_, _, rfl, e _ _ h, r⟩
    | _ => simp [OT.litems] at hl
  | lst h r =>
    obtain ⟨r1, rfl⟩ := r.leaves (show leaves _ = some ds from hl)
    exact ⟨_, _, rfl, h, r1⟩
  | obj h c r => simp [OT.litems] at hl
theorem opd_items {t : OT} {ds : List D} {x : V} (e : Ex Hs H) (h : Opd K T Hs H t x) (hl : t.items = some ds) : ∃ a vs, x = .ref a ∧ (SqL K H a vs ∨ SqT K H a vs) ∧ Rps K T Hs ds vs := by
  obtain ⟨f, h⟩ := h
  cases h with
  | sh h =>
    cases h with
    | lst h r => simp only [OT.items, Option.some.injEq] at hl; subst hl; exact ⟨_, _, rfl, .inl (sq_of (e _ _ h)), r⟩
    | flst h r => simp only [OT.items, Option.some.injEq] at hl; subst hl; exact ⟨_, _, rfl, .inl (ex_l e h), r⟩
    | tup h r => simp only [OT.items, Option.some.injEq] at hl; subst hl; exact ⟨_, _, rfl, .inr (ex_t e h), r⟩
    | _ => simp [OT.items] at hl
  | lst h r =>
    obtain ⟨r1, rfl⟩ := r.leaves (show leaves _ = some ds from hl)
    exact ⟨_, _, rfl, .inl (sq_of h), r1⟩
  | obj h c r => simp [OT.items] at hl
theorem opd_toD {t : OT} {x : V} (e : Ex Hs H) (h : Opd K T Hs H t x) : Rp K T H t.toD x := by obtain ⟨f, h⟩ := h; exact h.toD e
theorem line : big = sizeLine := by rw [sizeLine_eq]; rfl
theorem guard_eq {α : Type} {b : Bool} {a c : α} (h : guard_ b a = some c) : b = true ∧ a = c := by
  unfold guard_ at h
  split at h
  · exact ⟨by assumption, Option.some.inj h⟩
  · cases h
end

def rOpS (K : PySem.W.Frag) (T : Tab) (ev : OT → OT → Option OT) : R2 := fun x y H Q => ∃ Hs s t w, Ex Hs H ∧ Opd K T Hs H s x ∧ Opd K T Hs H t y ∧ ev s t = some w ∧ ∀ z H' Hs' ft, New K T Hs H w z H' Hs' ft → Q z H'
def rUnS (K : PySem.W.Frag) (T : Tab) (ev : OT → Option OT) : V → Hp → VK → Prop := fun x H Q => ∃ Hs s w, Ex Hs H ∧ Opd K T Hs H s x ∧ ev s = some w ∧ ∀ z H' Hs' ft, New K T Hs H w z H' Hs' ft → Q z H'
def rCS (K : PySem.W.Frag) (T : Tab) (ev : List OT → Option OT) : List V → Hp → VK → Prop := fun xs H Q => ∃ Hs ts w, Ex Hs H ∧ Opds K T Hs H ts xs ∧ ev ts = some w ∧ ∀ z H' Hs' ft, New K T Hs H w z H' Hs' ft → Q z H'
section
variable {X : Cx} {T : Tab}
theorem os_add : OpR X (binaryOp .Add) (rOpS X.K T addEv) := by
  intro pins s σ H x y v u Q I rx ry ⟨Hs, a, b, w, e, ha, hb, hev, q⟩
  have lists : ∀ {ds es : List D}, a.litems = some ds → b.litems = some es → guard_ (decide (ds.length + es.length ≤ big)) (newL (ds ++ es)) = some w → wpAny (model X.prog X.w) X.A (binaryOp .Add v u) (EP X pins σ Q) X.xe s := by
    intro ds es h1 h2 hg
    obtain ⟨p, vs, rfl, hp, rs⟩ := opd_litems e ha h1
    obtain ⟨p2, vs2, rfl, hp2, rs2⟩ := opd_litems e hb h2
    obtain ⟨hz, rfl⟩ := guard_eq hg
    refine op_cat pins s σ H _ _ v u Q I rx ry ⟨p, p2, vs, vs2, rfl, rfl, hp, hp2, ?_, fun p3 h3 => q _ _ _ _ (New.newL e h3 (rs.append rs2))⟩
    rw [← rs.length, ← rs2.length, ← line]; exact of_decide_eq_true hz
  have gen : (a.litems.bind fun ds => b.litems.bind fun es => guard_ (decide (ds.length + es.length ≤ big)) (newL (ds ++ es))) = some w → wpAny (model X.prog X.w) X.A (binaryOp .Add v u) (EP X pins σ Q) X.xe s := fun h => by
    obtain ⟨ds, h1, h⟩ := Option.bind_eq_some_iff.mp h
    obtain ⟨es, h2, h⟩ := Option.bind_eq_some_iff.mp h
    exact lists h1 h2 h
  unfold addEv at hev
  split at hev
  · cases Option.some.inj hev; cases opd_int ha; cases opd_int hb
    exact op_add pins s σ H _ _ v u Q I rx ry ⟨_, _, rfl, rfl, q _ _ _ _ (New.val e (.int _))⟩
  · obtain ⟨hz, rfl⟩ := guard_eq hev; cases opd_str ha; cases opd_str hb
    refine op_add_str pins s σ H _ _ v u Q I rx ry ⟨_, _, rfl, rfl, ?_, q _ _ _ _ (New.val e (.str _))⟩
    rw [← line]; exact of_decide_eq_true hz
  · obtain ⟨hz, rfl⟩ := guard_eq hev
    obtain ⟨p, vs, rfl, hp, rs⟩ := opd_tup ha
    obtain ⟨p2, vs2, rfl, hp2, rs2⟩ := opd_tup hb
    have hz' : vs.length + vs2.length ≤ sizeLine := by rw [← rs.length, ← rs2.length, ← line]; exact of_decide_eq_true hz
    refine op_catA pins s σ H _ _ v u Q I rx ry ⟨p, p2, vs, vs2, rfl, rfl, ex_t e hp, ex_t e hp2, hz', fun h0 => ?_, fun _ h0 => ?_, fun _ _ p3 h3 => q _ _ _ _ (New.tup e h3 (rs.append rs2))⟩
    · subst h0
      cases rs
      exact q _ _ _ _ (New.val e (.tup hp2 rs2))
    · subst h0
      cases rs2
      exact q _ _ _ _ (New.val e (.tup hp (by rw [List.append_nil]; exact rs)))
  · exact gen hev
/-- two ints -/
theorem os_int {f : Value → Value → Sem Value} {g : Int → Int → Int} {C : Int → Int → Prop} {ev : OT → OT → Option OT} (ho : OpR X f (rI C fun i j => .int (g i j)))
    (h : ∀ s t w, ev s t = some w → ∃ i j, s = .sh (.int i) ∧ t = .sh (.int j) ∧ C i j ∧ w = .sh (.int (g i j))) : OpR X f (rOpS X.K T ev) := by
  intro pins s σ H x y v u Q I rx ry ⟨Hs, a, b, w, e, ha, hb, hev, q⟩
  obtain ⟨i, j, rfl, rfl, hc, rfl⟩ := h _ _ _ hev
  cases opd_int ha
  cases opd_int hb
  exact ho pins s σ H _ _ v u Q I rx ry ⟨i, j, rfl, rfl, hc, q _ _ _ _ (New.val e (.int _))⟩
theorem rI_of {f : Value → Value → Sem Value} {g : Int → Int → V} (ho : OpR X f (rI0 g)) : OpR X f (rI (fun _ _ => True) g) := fun pins s σ H x y v u Q I rx ry ⟨i, j, h1, h2, _, q⟩ => ho pins s σ H x y v u Q I rx ry ⟨i, j, h1, h2, q⟩
theorem os_sub : OpR X (binaryOp .Sub) (rOpS X.K T subEv) := os_int (rI_of op_sub) fun s t w h => by
  unfold subEv at h
  split at h <;> first | (cases Option.some.inj h; exact ⟨_, _, rfl, rfl, trivial, rfl⟩) | cases h
theorem os_mod : OpR X (binaryOp .Mod) (rOpS X.K T modEv) := os_int op_mod fun s t w h => by
  unfold modEv at h
  split at h <;> first | (obtain ⟨z, rfl⟩ := guard_eq h; exact ⟨_, _, rfl, rfl, (have q := of_decide_eq_true z; q), rfl⟩) | cases h
theorem os_fdiv : OpR X (binaryOp .FloorDiv) (rOpS X.K T fdivEv) := os_int op_fdiv fun s t w h => by
  unfold fdivEv at h
  split at h <;> first | (obtain ⟨z, rfl⟩ := guard_eq h; exact ⟨_, _, rfl, rfl, (have q := of_decide_eq_true z; q), rfl⟩) | cases h
theorem os_pow : OpR X (binaryOp .Pow) (rOpS X.K T powEv) := os_int op_pow fun s t w h => by
  unfold powEv at h
  split at h <;> first | (obtain ⟨z, rfl⟩ := guard_eq h; exact ⟨_, _, rfl, rfl, (have q := of_decide_eq_true z; q), rfl⟩) | cases h
theorem mulOk_of {i j : Int} (h : mulOk i j = true) : CMul i j := by
  unfold mulOk at h
  rw [Bool.or_eq_true] at h
  exact h.imp of_decide_eq_true of_decide_eq_true
theorem os_mul : OpR X (binaryOp .Mult) (rOpS X.K T mulEv) := by
  intro pins s σ H x y v u Q I rx ry ⟨Hs, a, b, w, e, ha, hb, hev, q⟩
  unfold mulEv at hev
  split at hev
  · obtain ⟨z, rfl⟩ := guard_eq hev
    cases opd_int ha
    cases opd_int hb
    exact op_mul pins s σ H _ _ v u Q I rx ry ⟨_, _, rfl, rfl, mulOk_of z, q _ _ _ _ (New.val e (.int _))⟩
  · obtain ⟨ds, h1, h⟩ := Option.bind_eq_some_iff.mp hev
    obtain ⟨z, rfl⟩ := guard_eq h
    obtain ⟨p, vs, rfl, hp, rs⟩ := opd_litems e ha h1
    cases opd_int hb
    obtain ⟨z1, z2, z3⟩ := of_decide_eq_true z
    exact op_rep pins s σ H _ _ v u Q I rx ry ⟨p, _, vs, rfl, rfl, hp, z1, z2, by rw [← rs.length, ← line]; exact z3, fun p3 h3 => q _ _ _ _ (New.newL e h3 (rs.rep _))⟩
  · cases hev
theorem us_neg : UnR X (unaryOp .USub) (rUnS X.K T negEv) := by
  intro pins s σ H x v Q I rx ⟨Hs, a, w, e, ha, hev, q⟩
  unfold negEv at hev
  split at hev
  · cases Option.some.inj hev
    cases opd_int ha
    exact un_neg pins s σ H _ v Q I rx ⟨_, rfl, q _ _ _ _ (New.val e (.int _))⟩
  · cases hev
end

def rCmS (K : PySem.W.Frag) (T : Tab) (ev : OT → OT → Option Bool) : R2 := fun x y H Q => ∃ Hs s t b, Ex Hs H ∧ Opd K T Hs H s x ∧ Opd K T Hs H t y ∧ ev s t = some b ∧ Q (.bl b) H
section
variable {K : PySem.W.Frag} {T : Tab} {H Hs : Hp}
mutual
theorem Rp.dp : ∀ {d : D} {v : V} {p : PyData}, Rp K T H d v → d.toP = some p → Dp K H v p
  | _, _, _, .non, e => by simp only [D.toP, Option.some.injEq] at e; subst e; exact .non
  | _, _, _, .bl b, e => by simp only [D.toP, Option.some.injEq] at e; subst e; exact .bl b
  | _, _, _, .int i, e => by simp only [D.toP, Option.some.injEq] at e; subst e; exact .int i
  | _, _, _, .str i, e => by simp only [D.toP, Option.some.injEq] at e; subst e; exact .str i
  | _, _, _, .tup h r, e => by
    simp only [D.toP, Option.map_eq_some_iff] at e
    obtain ⟨ps, e, rfl⟩ := e
    exact .tup h (Rps.dp r e)
  | _, _, _, .lst h r, e => by
    simp only [D.toP, Option.map_eq_some_iff] at e
    obtain ⟨ps, e, rfl⟩ := e
    exact .lst (sq_of h) (Rps.dp r e)
  | _, _, _, .flst h r, e => by simp [D.toP] at e
  | _, _, _, .ty n, e => by simp [D.toP] at e
  | _, _, _, .fn h, e => by simp [D.toP] at e
  | _, _, _, .obj .., e => by simp [D.toP] at e
theorem Rps.dp : ∀ {ds : List D} {vs : List V} {ps : List PyData}, Rps K T H ds vs → toPs ds = some ps → DpAll K H vs ps
  | _, _, _, .nil, e => by simp only [toPs, Option.some.injEq] at e; subst e; exact .nil
  | _, _, _, .cons h r, e => by
    simp only [toPs] at e
    obtain ⟨p, e1, e⟩ := Option.bind_eq_some_iff.mp e
    obtain ⟨ps, e2, rfl⟩ := Option.map_eq_some_iff.mp e
    exact .cons (Rp.dp h e1) (Rps.dp r e2)
end
theorem rps_ints : ∀ {ds : List D} {vs : List V} {ns : List Int}, Rps K T H ds vs → intsD ds = some ns → vs = ns.map V.int
  | _, _, _, .nil, e => by simp only [intsD, Option.some.injEq] at e; subst e; rfl
  | _, _, _, .cons h r, e => by
    cases h with
    | int i =>
      simp only [intsD, Option.map_eq_some_iff] at e
      obtain ⟨ns, e, rfl⟩ := e
      rw [rps_ints r e]; rfl
    | _ => simp [intsD] at e
theorem rps_bls : ∀ {ds : List D} {vs : List V} {ns : List Bool}, Rps K T H ds vs → blsD ds = some ns → vs = ns.map V.bl
  | _, _, _, .nil, e => by simp only [blsD, Option.some.injEq] at e; subst e; rfl
  | _, _, _, .cons h r, e => by
    cases h with
    | bl i =>
      simp only [blsD, Option.map_eq_some_iff] at e
      obtain ⟨ns, e, rfl⟩ := e
      rw [rps_bls r e]; rfl
    | _ => simp [blsD] at e
theorem intsD_map : ∀ ns : List Int, intsD (ns.map .int) = some ns
  | [] => rfl
  | n :: ns => by simp [intsD, intsD_map ns]
theorem rps_of_ints : ∀ ns : List Int, Rps K T H (ns.map .int) (ns.map V.int)
  | [] => .nil
  | n :: ns => .cons (.int n) (rps_of_ints ns)
end
section
variable {X : Cx} {T : Tab}
theorem dec_strV {a b : Str} : decide (V.str a = V.str b) = (a == b) := by
  rw [Bool.eq_iff_iff]
  simp
theorem cs_eq (hu : X.A.units + 64 < cLine) : OpR X (compareOp .Eq) (rCmS X.K T eqEv) := by
  intro pins s σ H x y v u Q I rx ry ⟨Hs, a, b, w, e, ha, hb, hev, q⟩
  unfold eqEv at hev
  split at hev
  · cases Option.some.inj hev
    cases opd_str ha
    cases opd_str hb
    exact L2.op_eq pins s σ H _ _ v u Q I rx ry ⟨rfl, by rw [dec_strV]; exact q⟩
  unfold eqD at hev
  obtain ⟨p1, e1, hev⟩ := Option.bind_eq_some_iff.mp hev
  obtain ⟨p2, e2, hev⟩ := Option.bind_eq_some_iff.mp hev
  split at hev
  · rename_i hz
    cases Option.some.inj hev
    rw [Bool.and_eq_true] at hz
    exact op_eqD hu pins s σ H x y v u Q I rx ry ⟨p1, p2, (opd_toD e ha).dp e1, (opd_toD e hb).dp e2, hz.1, hz.2, q⟩
  · cases hev
theorem cs_ne (hu : X.A.units + 64 < cLine) : OpR X (compareOp .NotEq) (rCmS X.K T neEv) := by
  intro pins s σ H x y v u Q I rx ry ⟨Hs, a, b, w, e, ha, hb, hev, q⟩
  unfold neEv at hev
  split at hev
  · cases Option.some.inj hev
    cases opd_str ha
    cases opd_str hb
    exact L2.op_ne pins s σ H _ _ v u Q I rx ry ⟨rfl, by rw [dec_strV]; exact q⟩
  unfold eqD at hev
  obtain ⟨k, hev2, hk⟩ := Option.map_eq_some_iff.mp hev
  clear hev
  subst hk
  have hev := hev2
  obtain ⟨p1, e1, hev⟩ := Option.bind_eq_some_iff.mp hev
  obtain ⟨p2, e2, hev⟩ := Option.bind_eq_some_iff.mp hev
  split at hev
  · rename_i hz
    cases Option.some.inj hev
    rw [Bool.and_eq_true] at hz
    exact op_neD hu pins s σ H x y v u Q I rx ry ⟨p1, p2, (opd_toD e ha).dp e1, (opd_toD e hb).dp e2, hz.1, hz.2, q⟩
  · cases hev
theorem cs_int {op : CmpOp} {g : Int → Int → Bool} {ev : OT → OT → Option Bool} (ho : OpR X (compareOp op) (rI0 fun i j => .bl (g i j)))
    (h : ∀ s t w, ev s t = some w → ∃ i j, s = .sh (.int i) ∧ t = .sh (.int j) ∧ w = g i j) : OpR X (compareOp op) (rCmS X.K T ev) := by
  intro pins s σ H x y v u Q I rx ry ⟨Hs, a, b, w, e, ha, hb, hev, q⟩
  obtain ⟨i, j, rfl, rfl, rfl⟩ := h _ _ _ hev
  cases opd_int ha
  cases opd_int hb
  exact ho pins s σ H _ _ v u Q I rx ry ⟨i, j, rfl, rfl, q⟩
theorem cs_le : OpR X (compareOp .LtE) (rCmS X.K T leEv) := cs_int op_le fun s t w h => by
  unfold leEv at h
  split at h <;> first | (cases Option.some.inj h; exact ⟨_, _, rfl, rfl, rfl⟩) | cases h
theorem cs_gt : OpR X (compareOp .Gt) (rCmS X.K T gtEv) := cs_int op_gt fun s t w h => by
  unfold gtEv at h
  split at h <;> first | (cases Option.some.inj h; exact ⟨_, _, rfl, rfl, rfl⟩) | cases h
theorem cs_ge : OpR X (compareOp .GtE) (rCmS X.K T geEv) := cs_int op_ge fun s t w h => by
  unfold geEv at h
  split at h <;> first | (cases Option.some.inj h; exact ⟨_, _, rfl, rfl, rfl⟩) | cases h
theorem vals_atR : ∀ {xs : List V} {us : List Value} {j : Nat} {u : Value}, Vals xs us → us[j]? = some u → ∃ x, xs[j]? = some x ∧ RelV x u
  | _, _, j, u, .nil, h => by simp at h
  | _, _, 0, u, .cons r t, h => by simp at h; subst h; exact ⟨_, rfl, r⟩
  | _, _, j + 1, u, .cons r t, h => by
    obtain ⟨x, h1, h2⟩ := vals_atR (j := j) t (by simpa using h)
    exact ⟨x, by simpa using h1, h2⟩
theorem lexAt_ltW {e r : Nat → Bool} : ∀ {xs ys : List D} {i : Nat}, (∀ (j : Nat) (x y : D), xs[j]? = some x → ys[j]? = some y → e (i + j) = eq1 x y ∧ r (i + j) = lt1 x y) → Ob.lexAt e r (decide (xs.length < ys.length)) i (min xs.length ys.length) = ltW xs ys
  | [], [], i, h => rfl
  | [], y :: ys, i, h => by simp [Ob.lexAt, ltW]
  | x :: xs, [], i, h => by simp [Ob.lexAt, ltW]
  | x :: xs, y :: ys, i, h => by
    have h0 := h 0 x y rfl rfl
    rw [Nat.add_zero] at h0
    rw [List.length_cons, List.length_cons, Nat.succ_min_succ, Ob.lexAt_succ, h0.1, h0.2]
    unfold ltW
    have ih := lexAt_ltW (e := e) (r := r) (xs := xs) (ys := ys) (i := i + 1) fun j x' y' h1 h2 => by
      rw [show i + 1 + j = i + (j + 1) by omega]
      exact h (j + 1) x' y' (by simpa using h1) (by simpa using h2)
    rw [← ih]
    simp only [Nat.add_lt_add_iff_right]
theorem cmps_get : ∀ {xs ys : List D} {j : Nat} {x y : D}, cmps xs ys = true → xs[j]? = some x → ys[j]? = some y → cmp1 x y = true
  | [], _, j, x, y, _, h1, _ => by simp at h1
  | _ :: _, [], j, x, y, _, _, h2 => by simp at h2
  | a :: xs, b :: ys, 0, x, y, h, h1, h2 => by
    simp at h1 h2
    subst h1 h2
    simp only [cmps, Bool.and_eq_true] at h
    exact h.1
  | a :: xs, b :: ys, j + 1, x, y, h, h1, h2 => by
    simp only [cmps, Bool.and_eq_true] at h
    exact cmps_get (j := j) h.2 (by simpa using h1) (by simpa using h2)
theorem shapedD_of {d : D} (h : shapedD d = true) : ∃ p, d.toP = some p ∧ SeqAt.shaped p = true := by
  unfold shapedD at h
  split at h
  · exact ⟨_, by assumption, h⟩
  · cases h
/-- two items: equal or not, and which comes first -/
theorem item_cmp {A : Around} {pins : List (Addr × Obj)} {s : Shared} {σ : L2.St} {H : Hp} {x y : D} {vx vy : V} {u v : Value} (I : Inv X pins σ H s) (hu : A.units + 64 < cLine) (hc : cmp1 x y = true) (rx : Rp X.K T H x vx) (ry : Rp X.K T H y vy) (qx : RelV vx u) (qy : RelV vy v) :
    SeqAt.EqAt A s u v (eq1 x y) ∧ Ob.RcOp .Lt A s u v (lt1 x y) := by
  unfold cmp1 at hc
  split at hc
  · rename_i i j
    cases rx
    cases ry
    obtain ⟨t, rfl⟩ := qx
    obtain ⟨t', rfl⟩ := qy
    have e : eq1 (.int i) (.int j) = (i == j) := rfl
    rw [e]
    exact ⟨SeqAt.EqAt.int_int i t j t', Ob.RcOp.lt_int i j t t'⟩
  · rename_i a b
    simp only [Bool.and_eq_true] at hc
    obtain ⟨⟨⟨h1, h2⟩, h3⟩, h4⟩ := hc
    obtain ⟨m, e1⟩ := Option.isSome_iff_exists.mp h1
    obtain ⟨n, e2⟩ := Option.isSome_iff_exists.mp h2
    obtain ⟨p, p1, p2⟩ := shapedD_of h3
    obtain ⟨q, q1, q2⟩ := shapedD_of h4
    obtain ⟨as, r1⟩ := Dp.reads I p vx u (rx.dp p1) qx
    obtain ⟨bs, r2⟩ := Dp.reads I q vy v (ry.dp q1) qy
    refine ⟨?_, ?_⟩
    · have e : eq1 (.tup a) (.tup b) = PyData.eqv p q := by unfold eq1; rw [p1, q1]
      rw [e]
      exact SeqAt.eqAt_reads p q A s u v as bs r1 r2 (SeqAt.canLay_of_shaped p2) (SeqAt.canLay_of_shaped q2) (by have := SeqAt.room_of_shaped (A := A) (da := p) (db := q) p2 hu; exact this)
    · have e : lt1 (.tup a) (.tup b) = HT.lexLt m n := by
        show (match intsD a, intsD b with
          | some m, some n => HT.lexLt m n
          | _, _ => false) = _
        rw [e1, e2]
      rw [e]
      cases rx with
      | tup hp rs =>
        cases ry with
        | tup hq rs2 =>
          have k1 := rps_ints rs e1
          have k2 := rps_ints rs2 e2
          subst k1 k2
          cases qx
          cases qy
          obtain ⟨i1, v1, t1, _⟩ := I.tuple hp
          obtain ⟨i2, v2, t2, _⟩ := I.tuple hq
          exact fun prog w E Q h => HT.lt_tupInts t1 t2 v1.ints v2.ints (by omega) h
  · cases hc
theorem cs_lt (hu : X.A.units + 65 < cLine) : OpR X (compareOp .Lt) (rCmS X.K T ltEv) := by
  intro pins s σ H x y v u Q I rx ry ⟨Hs, a, b, w, e, ha, hb, hev, q⟩
  unfold ltEv at hev
  split at hev
  · cases Option.some.inj hev
    cases opd_int ha
    cases opd_int hb
    exact op_lt pins s σ H _ _ v u Q I rx ry ⟨_, _, rfl, rfl, q⟩
  · rename_i a b
    obtain ⟨p, vs, rfl, hp, rs⟩ := opd_tup ha
    obtain ⟨p2, vs2, rfl, hp2, rs2⟩ := opd_tup hb
    split at hev
    · rename_i m n h1 h2
      cases Option.some.inj hev
      have k1 := rps_ints rs h1
      have k2 := rps_ints rs2 h2
      subst k1 k2
      exact op_ltT (by omega) pins s σ H _ _ v u Q I rx ry ⟨p, p2, m, n, rfl, rfl, ex_t e hp, ex_t e hp2, q⟩
    · split at hev
      · rename_i hc
        cases Option.some.inj hev
        cases rx
        cases ry
        obtain ⟨i1, v1, t1, _⟩ := I.tuple (ex_t e hp)
        obtain ⟨i2, v2, t2, _⟩ := I.tuple (ex_t e hp2)
        have rs := rs.mono e
        have rs2 := rs2.mono e
        have pair : ∀ (j : Nat) (h1 : j < i1.toArray.size) (h2 : j < i2.toArray.size), ∃ x y, a[j]? = some x ∧ b[j]? = some y ∧ SeqAt.EqAt X.A.in1 s i1.toArray[j] i2.toArray[j] (eq1 x y) ∧ Ob.RcOp .Lt X.A.in1 s i1.toArray[j] i2.toArray[j] (lt1 x y) := fun j h1 h2 => by
          have z1 : j < i1.length := by simpa using h1
          have z2 : j < i2.length := by simpa using h2
          obtain ⟨x1, y1, y2⟩ := vals_atR v1 (List.getElem?_eq_getElem z1)
          obtain ⟨x2, y3, y4⟩ := vals_atR v2 (List.getElem?_eq_getElem z2)
          obtain ⟨d1, w1, w2⟩ := rs.getV y1
          obtain ⟨d2, w3, w4⟩ := rs2.getV y3
          have := item_cmp (A := X.A.in1) I (by show X.A.units + 1 + 64 < cLine; omega) (cmps_get hc w1 w3) w2 w4 y2 y4
          exact ⟨d1, d2, w1, w3, by simpa using this.1, by simpa using this.2⟩
        let ee : Nat → Bool := fun j => match a[j]?, b[j]? with
          | some x, some y => eq1 x y
          | _, _ => false
        let rr : Nat → Bool := fun j => match a[j]?, b[j]? with
          | some x, some y => lt1 x y
          | _, _ => false
        have main := Ob.RcOp.tuples_lt (A := X.A) (s := s) (e := ee) (r := rr) t1 t2 (by omega) (fun j h1 h2 => by
          obtain ⟨x, y, w1, w2, w3, _⟩ := pair j h1 h2
          have : ee j = eq1 x y := by show (match a[j]?, b[j]? with | some x, some y => eq1 x y | _, _ => false) = _; rw [w1, w2]
          rw [this]; exact w3) (fun j h1 h2 _ => by
          obtain ⟨x, y, w1, w2, _, w3⟩ := pair j h1 h2
          have : rr j = lt1 x y := by show (match a[j]?, b[j]? with | some x, some y => lt1 x y | _, _ => false) = _; rw [w1, w2]
          rw [this]; exact w3)
        have fin : Ob.lexAt ee rr (decide (i1.toArray.size < i2.toArray.size)) 0 (min i1.toArray.size i2.toArray.size) = ltW a b := by
          have l1 : i1.toArray.size = a.length := by rw [List.size_toArray, ← v1.length, rs.length]
          have l2 : i2.toArray.size = b.length := by rw [List.size_toArray, ← v2.length, rs2.length]
          rw [l1, l2]
          refine lexAt_ltW fun j x y h1 h2 => ?_
          rw [Nat.zero_add]
          refine ⟨?_, ?_⟩
          · show (match a[j]?, b[j]? with | some x, some y => eq1 x y | _, _ => false) = _
            rw [h1, h2]
          · show (match a[j]?, b[j]? with | some x, some y => lt1 x y | _, _ => false) = _
            rw [h1, h2]
        rw [fin] at main
        exact main _ _ _ _ ⟨.bl _, H, I, rfl, q⟩
      · cases hev
  · cases hev
theorem isNon_of {Hs H : Hp} {t : OT} {x : V} {K : PySem.W.Frag} (h : Opd K T Hs H t x) : decide (x = .non) = t.isNon := by
  obtain ⟨f, h⟩ := h
  cases h with
  | sh h => cases h <;> rfl
  | lst => rfl
  | obj => rfl
theorem cs_is : OpR X (compareOp .Is) (rCmS X.K T isEv) := by
  intro pins s σ H x y v u Q I rx ry ⟨Hs, a, b, w, e, ha, hb, hev, q⟩
  unfold isEv at hev
  split at hev
  · cases Option.some.inj hev
    cases opd_bl ha
    cases opd_bl hb
    exact op_isBl pins s σ H _ _ v u Q I rx ry ⟨_, _, rfl, rfl, q⟩
  · cases Option.some.inj hev
    cases opd_non hb
    exact op_isN pins s σ H _ _ v u Q I rx ry ⟨rfl, by rw [isNon_of ha]; exact q⟩
  · cases hev
theorem cs_isnot : OpR X (compareOp .IsNot) (rCmS X.K T isnotEv) := by
  intro pins s σ H x y v u Q I rx ry ⟨Hs, a, b, w, e, ha, hb, hev, q⟩
  unfold isnotEv at hev
  split at hev
  · cases Option.some.inj hev
    cases opd_bl ha
    cases opd_bl hb
    exact op_notBl pins s σ H _ _ v u Q I rx ry ⟨_, _, rfl, rfl, q⟩
  · cases Option.some.inj hev
    cases opd_non hb
    exact op_notN pins s σ H _ _ v u Q I rx ry ⟨rfl, by rw [isNon_of ha]; exact q⟩
  · cases hev
/-- x in t, x not in t: a tuple of data -/
theorem op_inDT (hu : X.A.units + 65 < cLine) : OpR X (compareOp .In) (fun x y H Q => ∃ d ds, Dp X.K H x d ∧ Dp X.K H y (.tuple ds) ∧ SeqAt.shaped d = true ∧ SeqAt.shaped (.tuple ds) = true ∧ Q (.bl (ds.any fun z => PyData.eqv z d)) H) := by
  intro pins s σ H x y v u Q I rx ry h
  obtain ⟨d, ds, hd, he, sd, se, q⟩ := h
  obtain ⟨as, r1⟩ := Dp.reads I d x v hd rx
  obtain ⟨bs, r2⟩ := Dp.reads I (.tuple ds) y u he ry
  exact SeqAt.in_tuple_reads r2 r1 (SeqAt.canLay_of_shaped se) (SeqAt.canLay_of_shaped sd) (room_in_shaped sd hu) ⟨.bl _, H, I, rfl, q⟩
theorem op_notInDT (hu : X.A.units + 65 < cLine) : OpR X (compareOp .NotIn) (fun x y H Q => ∃ d ds, Dp X.K H x d ∧ Dp X.K H y (.tuple ds) ∧ SeqAt.shaped d = true ∧ SeqAt.shaped (.tuple ds) = true ∧ Q (.bl (!ds.any fun z => PyData.eqv z d)) H) := by
  intro pins s σ H x y v u Q I rx ry h
  obtain ⟨d, ds, hd, he, sd, se, q⟩ := h
  obtain ⟨as, r1⟩ := Dp.reads I d x v hd rx
  obtain ⟨bs, r2⟩ := Dp.reads I (.tuple ds) y u he ry
  exact SeqAt.notIn_tuple_reads r2 r1 (SeqAt.canLay_of_shaped se) (SeqAt.canLay_of_shaped sd) (room_in_shaped sd hu) ⟨.bl _, H, I, rfl, q⟩
theorem dp_str {K : PySem.W.Frag} {H : Hp} {v : V} {s : Str} (h : Dp K H v (.str s)) : v = .str s := by cases h; rfl
theorem cs_in (hu : X.A.units + 65 < cLine) : OpR X (compareOp .In) (rCmS X.K T inEv) := by
  intro pins s σ H x y v u Q I rx ry ⟨Hs, a, b, w, e, ha, hb, hev, q⟩
  unfold inEv inD at hev
  obtain ⟨p1, e1, hev⟩ := Option.bind_eq_some_iff.mp hev
  obtain ⟨p2, e2, hev⟩ := Option.bind_eq_some_iff.mp hev
  have d1 := (opd_toD e ha).dp e1
  have d2 := (opd_toD e hb).dp e2
  split at hev
  · split at hev
    · rename_i hz
      cases Option.some.inj hev
      rw [Bool.and_eq_true] at hz
      exact op_inD hu pins s σ H x y v u Q I rx ry ⟨p1, _, d1, d2, hz.1, hz.2, q⟩
    · cases hev
  · split at hev
    · rename_i hz
      cases Option.some.inj hev
      rw [Bool.and_eq_true] at hz
      exact op_inDT hu pins s σ H x y v u Q I rx ry ⟨p1, _, d1, d2, hz.1, hz.2, q⟩
    · cases hev
  · split at hev
    · cases Option.some.inj hev
      exact op_in_str pins s σ H x y v u Q I rx ry ⟨_, _, dp_str d1, dp_str d2, q⟩
    · cases hev
  · cases hev
theorem cs_notin (hu : X.A.units + 65 < cLine) : OpR X (compareOp .NotIn) (rCmS X.K T notinEv) := by
  intro pins s σ H x y v u Q I rx ry ⟨Hs, a, b, w, e, ha, hb, hev, q⟩
  unfold notinEv inD at hev
  obtain ⟨k, hev2, hk⟩ := Option.map_eq_some_iff.mp hev
  clear hev
  subst hk
  have hev := hev2
  obtain ⟨p1, e1, hev⟩ := Option.bind_eq_some_iff.mp hev
  obtain ⟨p2, e2, hev⟩ := Option.bind_eq_some_iff.mp hev
  have d1 := (opd_toD e ha).dp e1
  have d2 := (opd_toD e hb).dp e2
  split at hev
  · split at hev
    · rename_i hz
      cases Option.some.inj hev
      rw [Bool.and_eq_true] at hz
      exact op_notInD hu pins s σ H x y v u Q I rx ry ⟨p1, _, d1, d2, hz.1, hz.2, q⟩
    · cases hev
  · split at hev
    · rename_i hz
      cases Option.some.inj hev
      rw [Bool.and_eq_true] at hz
      exact op_notInDT hu pins s σ H x y v u Q I rx ry ⟨p1, _, d1, d2, hz.1, hz.2, q⟩
    · cases hev
  · split at hev
    · cases Option.some.inj hev
      exact op_notin_str pins s σ H x y v u Q I rx ry ⟨_, _, dp_str d1, dp_str d2, q⟩
    · cases hev
  · cases hev
end
end CH
end
section
namespace CH
open PySem L2 Evl PyProof.Rows
section
variable {K : PySem.W.Frag} {T : Tab} {H Hs : Hp}
theorem opds1 {t : OT} {xs : List V} (h : Opds K T Hs H [t] xs) : ∃ x, xs = [x] ∧ Opd K T Hs H t x := by
  cases h with
  | cons h r => cases r; exact ⟨_, rfl, h⟩
theorem opds2 {s t : OT} {xs : List V} (h : Opds K T Hs H [s, t] xs) : ∃ x y, xs = [x, y] ∧ Opd K T Hs H s x ∧ Opd K T Hs H t y := by
  cases h with
  | cons h r =>
    obtain ⟨y, rfl, h2⟩ := opds1 r
    exact ⟨_, _, rfl, h, h2⟩
end
section
variable {X : Cx} {T : Tab}
theorem bi1 {f : Value} {b : Bi} {ev : OT → Option OT} (hb : ∀ ts w, biEv b ts = some w → ∃ t, ts = [t] ∧ ev t = some w)
    (h : ∀ (pins : List (Addr × Obj)) (s : Shared) (σ : L2.St) (H Hs : Hp) (t w : OT) (x : V) (us : List Value) (Q : VK), Inv X pins σ H s → Vals [x] us → Ex Hs H → Opd X.K T Hs H t x → ev t = some w → (∀ z H' Hs' ft, New X.K T Hs H w z H' Hs' ft → Q z H') →
      wpAny (model X.prog X.w) X.A (call f us) (EP X pins σ Q) X.xe s) : CallR X f (rCS X.K T (biEv b)) := by
  intro pins s σ H xs us Q I r ⟨Hs, ts, w, e, ho, hev, q⟩
  obtain ⟨t, rfl, h1⟩ := hb ts w hev
  obtain ⟨x, rfl, o⟩ := opds1 ho
  exact h pins s σ H Hs t w x us Q I r e o h1 q
theorem bi_len : CallR X (.builtin "len") (rCS X.K T (biEv .len)) := bi1 (ev := lenEv) (fun ts w h => match ts, h with
  | [], h => absurd (show (none : Option OT) = some w from h) (by simp)
  | [t], h => ⟨t, rfl, h⟩
  | _ :: _ :: _, h => absurd (show (none : Option OT) = some w from h) (by simp)) fun pins s σ H Hs t w x us Q I r e o hev q => by
  unfold lenEv at hev
  split at hev
  · obtain ⟨hz, rfl⟩ := guard_eq hev
    cases opd_str o
    exact call_len_str pins s σ H _ us Q I r ⟨_, rfl, by rw [← line]; exact of_decide_eq_true hz, q _ _ _ _ (New.val e (.int _))⟩
  · cases Option.some.inj hev
    obtain ⟨a, vs, rfl, h1, h2⟩ := opd_tup o
    exact call_len_seq pins s σ H _ us Q I r ⟨a, vs, rfl, .inr (ex_t e h1), by rw [← h2.length]; exact q _ _ _ _ (New.val e (.int _))⟩
  · cases Option.some.inj hev
    obtain ⟨a, vs, rfl, h1, h2⟩ := opd_litems e o rfl
    exact call_len_seq pins s σ H _ us Q I r ⟨a, vs, rfl, .inl (sq_of h1), by rw [← h2.length]; exact q _ _ _ _ (New.val e (.int _))⟩
  · cases Option.some.inj hev
    obtain ⟨a, vs, rfl, h1, h2⟩ := opd_flst o
    exact call_len_seq pins s σ H _ us Q I r ⟨a, vs, rfl, .inl (ex_l e h1), by rw [← h2.length]; exact q _ _ _ _ (New.val e (.int _))⟩
  · cases Option.some.inj hev
    obtain ⟨f, h⟩ := o
    cases h with
    | lst h1 h2 => exact call_len_seq pins s σ H _ us Q I r ⟨_, _, rfl, .inl (sq_of h1), by rw [← h2.length]; exact q _ _ _ _ (New.val e (.int _))⟩
  · cases hev
theorem bi_abs : CallR X (.builtin "abs") (rCS X.K T (biEv .abs)) := bi1 (ev := absEv) (fun ts w h => match ts, h with
  | [], h => absurd (show (none : Option OT) = some w from h) (by simp)
  | [t], h => ⟨t, rfl, h⟩
  | _ :: _ :: _, h => absurd (show (none : Option OT) = some w from h) (by simp)) fun pins s σ H Hs t w x us Q I r e o hev q => by
  unfold absEv at hev
  split at hev
  · cases Option.some.inj hev
    cases opd_int o
    exact call_abs pins s σ H _ us Q I r ⟨_, rfl, q _ _ _ _ (New.val e (.int _))⟩
  · cases hev
theorem bi_int : CallR X (.type "int") (rCS X.K T (biEv .int)) := bi1 (ev := intEv) (fun ts w h => match ts, h with
  | [], h => absurd (show (none : Option OT) = some w from h) (by simp)
  | [t], h => ⟨t, rfl, h⟩
  | _ :: _ :: _, h => absurd (show (none : Option OT) = some w from h) (by simp)) fun pins s σ H Hs t w x us Q I r e o hev q => by
  unfold intEv at hev
  split at hev
  · cases Option.some.inj hev
    cases opd_int o
    exact call_int1 pins s σ H _ us Q I r (.inl ⟨_, rfl, q _ _ _ _ (New.val e (.int _))⟩)
  · cases Option.some.inj hev
    cases opd_bl o
    exact call_int1 pins s σ H _ us Q I r (.inr ⟨_, rfl, q _ _ _ _ (New.val e (.int _))⟩)
  · cases hev
theorem bi_bool : CallR X (.type "bool") (rCS X.K T (biEv .bool)) := bi1 (ev := boolEv) (fun ts w h => match ts, h with
  | [], h => absurd (show (none : Option OT) = some w from h) (by simp)
  | [t], h => ⟨t, rfl, h⟩
  | _ :: _ :: _, h => absurd (show (none : Option OT) = some w from h) (by simp)) fun pins s σ H Hs t w x us Q I r e o hev q => by
  unfold boolEv at hev
  split at hev
  · cases Option.some.inj hev
    cases opd_int o
    exact call_bool1 pins s σ H _ us Q I r (.inl ⟨_, rfl, q _ _ _ _ (New.val e (.bl _))⟩)
  · cases Option.some.inj hev
    cases opd_bl o
    exact call_bool1 pins s σ H _ us Q I r (.inr ⟨_, rfl, q _ _ _ _ (New.val e (.bl _))⟩)
  · cases hev
theorem bi_tuple : CallR X (.type "tuple") (rCS X.K T (biEv .tuple)) := bi1 (ev := tupleEv) (fun ts w h => match ts, h with
  | [], h => absurd (show (none : Option OT) = some w from h) (by simp)
  | [t], h => ⟨t, rfl, h⟩
  | _ :: _ :: _, h => absurd (show (none : Option OT) = some w from h) (by simp)) fun pins s σ H Hs t w x us Q I r e o hev q => by
  unfold tupleEv at hev
  split at hev
  · cases Option.some.inj hev
    obtain ⟨a, vs, rfl, h1, h2⟩ := opd_tup o
    exact call_tuple_of pins s σ H _ us Q I r ⟨a, vs, rfl, .inr ⟨ex_t e h1, q _ _ _ _ (New.val e (.tup h1 h2))⟩⟩
  · cases Option.some.inj hev
    obtain ⟨a, vs, rfl, h1, h2⟩ := opd_flst o
    exact call_tuple_of pins s σ H _ us Q I r ⟨a, vs, rfl, .inl ⟨ex_l e h1, fun p hp => q _ _ _ _ (New.tup e hp h2)⟩⟩
  · obtain ⟨ds, hl, rfl⟩ := Option.map_eq_some_iff.mp hev
    obtain ⟨a, vs, rfl, h1, h2⟩ := opd_litems e o hl
    exact call_tuple_of pins s σ H _ us Q I r ⟨a, vs, rfl, .inl ⟨sq_of h1, fun p hp => q _ _ _ _ (New.tup e hp h2)⟩⟩
theorem bi_list (hc : X.calm = true) : CallR X (.type "list") (rCS X.K T (biEv .list)) := bi1 (ev := listEv) (fun ts w h => match ts, h with
  | [], h => absurd (show (none : Option OT) = some w from h) (by simp)
  | [t], h => ⟨t, rfl, h⟩
  | _ :: _ :: _, h => absurd (show (none : Option OT) = some w from h) (by simp)) fun pins s σ H Hs t w x us Q I r e o hev q => by
  unfold listEv at hev
  split at hev
  · cases Option.some.inj hev
    obtain ⟨a, vs, rfl, h1, h2⟩ := opd_tup o
    exact call_list_of pins s σ H _ us Q I r ⟨a, vs, rfl, .inr (ex_t e h1), fun p hp => q _ _ _ _ (New.newL e hp h2)⟩
  · cases Option.some.inj hev
    obtain ⟨a, vs, rfl, h1, h2⟩ := opd_flst o
    exact call_list_of pins s σ H _ us Q I r ⟨a, vs, rfl, .inl (ex_l e h1), fun p hp => q _ _ _ _ (New.newL e hp h2)⟩
  · rename_i z
    obtain ⟨hz, rfl⟩ := guard_eq hev
    cases opd_str o
    cases r with
    | cons r1 r2 =>
      cases r2
      obtain ⟨t0, rfl⟩ := r1
      refine PySem.call_list_str (I.ok.hd hc) z t0 (fun h' tk acc c kp ho hi => ?_) (by rw [← line]; exact of_decide_eq_true hz)
      have hl : (z.cps.toList.map fun c => V.str ⟨#[c]⟩).length = acc.toList.length := by simp [hi.1]
      have rv : Vals (z.cps.toList.map fun c => V.str ⟨#[c]⟩) acc.toList := vals_of_at hl fun j x u h1 h2 => by
        obtain ⟨c, t, h3, rfl⟩ := hi.2 j u (by simpa using h2)
        rw [List.getElem?_map] at h1
        have h4 : z.cps.toList[j]? = some c := by simpa using h3
        rw [h4] at h1
        cases (Option.some.inj h1)
        exact ⟨t, rfl⟩
      have rp : Rps X.K T Hs (z.cps.toList.map fun c => D.str ⟨#[c]⟩) (z.cps.toList.map fun c => V.str ⟨#[c]⟩) := by
        generalize z.cps.toList = l
        induction l with
        | nil => exact .nil
        | cons c l ih => exact .cons (.str _) ih
      refine ⟨.ref s.heap.objs.size, _, I.laid (t' := tk) kp (Nat.le_refl _) (show ObjOk X.prog X.w _ h' _ (.lst (z.cps.toList.map fun c => V.str ⟨#[c]⟩)) from ⟨?_, acc.toList, c, rv, ?_⟩), rfl, q _ _ _ _ (New.newL e (I.hok.fresh (Nat.le_refl _)) rp)⟩
      · rw [List.length_map, Array.length_toList, ← line]; exact of_decide_eq_true hz
      · simpa using ho
  · obtain ⟨ds, hl, rfl⟩ := Option.map_eq_some_iff.mp hev
    obtain ⟨a, vs, rfl, h1, h2⟩ := opd_litems e o hl
    exact call_list_of pins s σ H _ us Q I r ⟨a, vs, rfl, .inl (sq_of h1), fun p hp => q _ _ _ _ (New.newL e hp h2)⟩
theorem bi_any (hc : X.calm = true) : CallR X (.builtin "any") (rCS X.K T (biEv .any)) := bi1 (ev := anyEv) (fun ts w h => match ts, h with
  | [], h => absurd (show (none : Option OT) = some w from h) (by simp)
  | [t], h => ⟨t, rfl, h⟩
  | _ :: _ :: _, h => absurd (show (none : Option OT) = some w from h) (by simp)) fun pins s σ H Hs t w x us Q I r e o hev q => by
  unfold anyEv at hev
  obtain ⟨ds, hl, hev⟩ := Option.bind_eq_some_iff.mp hev
  obtain ⟨bs, hb, rfl⟩ := Option.map_eq_some_iff.mp hev
  obtain ⟨a, vs, rfl, h1, h2⟩ := opd_litems e o hl
  have k := rps_bls h2 hb
  subst k
  exact cr_any hc pins s σ H _ us Q I r ⟨a, bs, rfl, sq_of h1, q _ _ _ _ (New.val e (.bl _))⟩
theorem bi_all (hc : X.calm = true) : CallR X (.builtin "all") (rCS X.K T (biEv .all)) := bi1 (ev := allEv) (fun ts w h => match ts, h with
  | [], h => absurd (show (none : Option OT) = some w from h) (by simp)
  | [t], h => ⟨t, rfl, h⟩
  | _ :: _ :: _, h => absurd (show (none : Option OT) = some w from h) (by simp)) fun pins s σ H Hs t w x us Q I r e o hev q => by
  unfold allEv at hev
  obtain ⟨ds, hl, hev⟩ := Option.bind_eq_some_iff.mp hev
  obtain ⟨bs, hb, rfl⟩ := Option.map_eq_some_iff.mp hev
  obtain ⟨a, vs, rfl, h1, h2⟩ := opd_litems e o hl
  have k := rps_bls h2 hb
  subst k
  exact cr_all hc pins s σ H _ us Q I r ⟨a, bs, rfl, sq_of h1, q _ _ _ _ (New.val e (.bl _))⟩
theorem bi_sum (hc : X.calm = true) : CallR X (.builtin "sum") (rCS X.K T (biEv .sum)) := bi1 (ev := sumEv) (fun ts w h => match ts, h with
  | [], h => absurd (show (none : Option OT) = some w from h) (by simp)
  | [t], h => ⟨t, rfl, h⟩
  | _ :: _ :: _, h => absurd (show (none : Option OT) = some w from h) (by simp)) fun pins s σ H Hs t w x us Q I r e o hev q => by
  unfold sumEv at hev
  split at hev
  · obtain ⟨ns, hb, rfl⟩ := Option.map_eq_some_iff.mp hev
    obtain ⟨a, vs, rfl, h1, h2⟩ := opd_tup o
    cases rps_ints h2 hb
    obtain ⟨its, rv, hl, _⟩ := I.tuple (ex_t e h1)
    rw [Vals.ref1 r]
    obtain ⟨xs, hx⟩ := rv.ints.allInts.items
    have hn : numsOf its.toArray.toList = ns := by rw [show its.toArray.toList = its from rfl, rv.ints.numsOf]
    have hl : s.heap.IsTuple a its.toArray := hl
    rw [hx] at hl hn
    rw [nums_intItems] at hn
    refine PySem.W.ktm_sumG (I.ok.hd hc) hl fun h' tk t' hk => ?_
    rw [preSum_eq, List.take_of_length_le (by simp), hn]
    exact ⟨.int _, H, I.kept hk, ⟨_, rfl⟩, q _ _ _ _ (New.val e (.int _))⟩
  · obtain ⟨ds, hl, hev⟩ := Option.bind_eq_some_iff.mp hev
    obtain ⟨bs, hb, rfl⟩ := Option.map_eq_some_iff.mp hev
    obtain ⟨a, vs, rfl, h1, h2⟩ := opd_litems e o hl
    have k := rps_ints h2 hb
    subst k
    exact cr_sum hc pins s σ H _ us Q I r ⟨a, bs, rfl, sq_of h1, q _ _ _ _ (New.val e (.int _))⟩
theorem bi_repr (gd : X.A.guards = some []) (hu : X.A.units + 66 < cLine) : CallR X (.builtin "repr") (rCS X.K T (biEv .repr)) := bi1 (ev := reprEv) (fun ts w h => match ts, h with
  | [], h => absurd (show (none : Option OT) = some w from h) (by simp)
  | [t], h => ⟨t, rfl, h⟩
  | _ :: _ :: _, h => absurd (show (none : Option OT) = some w from h) (by simp)) fun pins s σ H Hs t w x us Q I r e o hev q => by
  unfold reprEv at hev
  split at hev
  · rename_i hrow
    obtain ⟨p, hp, hev⟩ := Option.bind_eq_some_iff.mp hev
    obtain ⟨hz, rfl⟩ := guard_eq hev
    simp only [Bool.and_eq_true, decide_eq_true_eq] at hz
    obtain ⟨⟨h1, h2⟩, h3⟩ := hz
    have rp := opd_toD e o
    have ha : ∃ a, x = V.ref a := by
      unfold D.isRow at hrow
      split at hrow
      · rename_i ed; rw [ed] at rp; cases rp; exact ⟨_, rfl⟩
      · rename_i ed; rw [ed] at rp; cases rp; exact ⟨_, rfl⟩
      · cases hrow
    obtain ⟨a, rfl⟩ := ha
    rw [Vals.ref1 r]
    obtain ⟨as, rd⟩ := Dp.reads I p (.ref a) (.ref a) (rp.dp hp) rfl
    have hlay := SeqAt.canLay_of_shaped h1
    have hdep : p.depth ≤ 64 := by
      have h1 : (p.canLay0 && decide (p.depth ≤ 64)) = true := h1
      rw [Bool.and_eq_true] at h1
      exact of_decide_eq_true h1.2
    exact repr_of_reads' rd h2 (PyData.noDict_hsm (PyData.hasDict_of_canLay p hlay)) gd (by omega) (fun _ _ z => z) (fun h' u tk hk => ⟨.str _, H, I.kept hk, ⟨_, rfl⟩, q _ _ _ _ (New.val e (.str _))⟩) (by rw [← line]; exact h3)
  · cases hev
theorem sorted_uniq : ∀ {a b : List Int}, a.Perm b → a.Pairwise (· ≤ ·) → b.Pairwise (· ≤ ·) → a = b := fun {a b} h ha hb => h.eq_of_pairwise (le := (· ≤ ·)) (fun x y _ _ h1 h2 => Int.le_antisymm h1 h2) ha hb
theorem sortI_perm (ns : List Int) : (sortI ns).Perm ns := List.mergeSort_perm _ _
theorem sortI_sorted (ns : List Int) : (sortI ns).Pairwise (· ≤ ·) := by
  have h := List.pairwise_mergeSort (le := fun a b : Int => decide (a ≤ b)) (fun a b c h1 h2 => by simp only [decide_eq_true_eq] at *; omega) (fun a b => by simp only [Bool.or_eq_true, decide_eq_true_eq]; omega) ns
  exact h.imp fun q => of_decide_eq_true q
/-- a pair as it lies in the heap -/
def PairH (h : Heap) (v : Value) (p : Int × List Int) : Prop := ∃ (a b : Addr) (t : Tok) (its : List Value), v = .ref a ∧ IsTup h a #[.int p.1 t, .ref b] ∧ IsTup h b its.toArray ∧ IntsAre its p.2
theorem isTup_inj {h : Heap} {a : Addr} {xs ys : Array Value} (h1 : IsTup h a xs) (h2 : IsTup h a ys) : xs = ys := by
  obtain ⟨o, e, _, n, d⟩ := h1
  obtain ⟨o', e', _, n', d'⟩ := h2
  rw [e] at e'; cases e'
  rw [d] at d'
  injection d'
theorem ints_inj : ∀ {vs : List Value} {ns ms : List Int}, IntsAre vs ns → IntsAre vs ms → ns = ms := by
  intro vs ns ms h
  induction h generalizing ms with
  | nil => intro q; cases q; rfl
  | cons n t r ih => intro q; cases q with
    | cons _ _ r' => rw [ih r']
theorem PairH.inj {h : Heap} {v : Value} {p q : Int × List Int} (h1 : PairH h v p) (h2 : PairH h v q) : p = q := by
  obtain ⟨a, b, t, its, rfl, t1, t2, i1⟩ := h1
  obtain ⟨a', b', t', its', e, t3, t4, i2⟩ := h2
  cases e
  have := isTup_inj t1 t3
  simp only [Array.mk.injEq, List.cons.injEq, Value.int.injEq, Value.ref.injEq, and_true] at this
  obtain ⟨⟨e1, _⟩, e2⟩ := this
  subst e2
  have e3 : its = its' := by simpa using congrArg Array.toList (isTup_inj t2 t4)
  subst e3
  exact Prod.ext e1 (ints_inj i1 i2)
theorem PairH.keeps {h h' : Heap} {v : Value} {p : Int × List Int} (k : ∀ b o, h.get? b = some o → h'.get? b = some o) (q : PairH h v p) : PairH h' v p := by
  obtain ⟨a, b, t, its, e, ⟨o, q1, q2⟩, ⟨o2, q3, q4⟩, q5⟩ := q
  exact ⟨a, b, t, its, e, ⟨o, k _ _ q1, q2⟩, ⟨o2, k _ _ q3, q4⟩, q5⟩
theorem reads_ints {h : Heap} : ∀ {its : List Value} {ns : List Int}, IntsAre its ns → ∃ as, ReadsAll h its (ns.map .int) as
  | _, _, .nil => ⟨_, .nil⟩
  | _, _, .cons n t r => by
    obtain ⟨as, q⟩ := reads_ints r
    exact ⟨_, .cons (.int n t) q⟩
theorem lexLt_same : ∀ ns : List Int, HT.lexLt ns ns = false
  | [] => rfl
  | n :: ns => by rw [HT.lexLt_cons, if_pos rfl]; exact lexLt_same ns
theorem ltP_swo : SrtO.Swo ltP := by
  refine ⟨fun x y h => ?_, fun x y z h1 h2 => ?_⟩
  · unfold ltP at h ⊢
    by_cases e : x.1 = y.1
    · rw [if_pos e] at h
      rw [if_pos e.symm]
      exact NtL.lex_asym _ _ h
    · rw [if_neg e] at h
      rw [if_neg (Ne.symm e)]
      simp only [decide_eq_true_eq, decide_eq_false_iff_not] at *
      omega
  · unfold ltP at *
    by_cases e1 : x.1 = y.1 <;> by_cases e2 : y.1 = z.1
    · rw [if_pos e1.symm] at h1
      rw [if_pos e2.symm] at h2
      rw [if_pos (e1.trans e2).symm]
      exact NtL.lex_tr _ _ _ h1 h2
    · rw [if_neg (Ne.symm e2)] at h2
      rw [if_neg (by rw [e1]; exact Ne.symm e2)]
      simp only [decide_eq_false_iff_not] at *
      omega
    · rw [if_neg (Ne.symm e1)] at h1
      rw [if_neg (by rw [← e2]; exact Ne.symm e1)]
      simp only [decide_eq_false_iff_not] at *
      omega
    · rw [if_neg (Ne.symm e1)] at h1
      rw [if_neg (Ne.symm e2)] at h2
      simp only [decide_eq_false_iff_not] at h1 h2
      have : ¬ z.1 = x.1 := by omega
      rw [if_neg this]
      simp only [decide_eq_false_iff_not]
      omega
theorem eqv_ints : ∀ (ms ns : List Int), PyData.eqvAll (ms.map .int) (ns.map .int) = decide (ms = ns)
  | [], [] => rfl
  | [], n :: ns => rfl
  | m :: ms, [] => rfl
  | m :: ms, n :: ns => by
    show (PyData.eqv (.int m) (.int n) && PyData.eqvAll (ms.map .int) (ns.map .int)) = _
    rw [eqv_ints ms ns]
    show ((m == n) && decide (ms = ns)) = _
    by_cases e : m = n <;> by_cases e2 : ms = ns <;> simp [e, e2]
theorem pairs_cmp {prog : Program} {w : World} {A : Around} {s : Shared} {vs : List Value} {k : Value → Int × List Int} (hu : A.units + 64 < cLine) (hp : ∀ v ∈ vs, PairH s.heap v (k v)) (hsh : ∀ v ∈ vs, SeqAt.shaped (.tuple ((k v).2.map .int)) = true) : SrtO.Cmp prog w A s (PyProof.Rows.tuples' true) (fun p => p.1 ∈ vs) (SrtO.lt2 fun v u => ltP (k v) (k u)) := by
  intro p q hm hm'
  have h1 := hp _ hm
  have h2 := hp _ hm'
  have s1 := hsh _ hm
  have s2 := hsh _ hm'
  show wpAny (model prog w) A (PyProof.Rows.keyLt' (PyProof.Rows.tuples' true) p.1 q.1) (fun r s' => s' = s ∧ r = ltP (k p.1) (k q.1)) (fun _ _ => False) s
  unfold ltP
  generalize k p.1 = kp at h1 s1 ⊢
  generalize k q.1 = kq at h2 s2 ⊢
  obtain ⟨x, y⟩ := kp
  obtain ⟨x', y'⟩ := kq
  obtain ⟨a, b, t, its, e, ⟨o, ho, hc, n, hd⟩, tb, ib⟩ := h1
  obtain ⟨a', b', t', its', e', ⟨o', ho', hc', n', hd'⟩, tb', ib'⟩ := h2
  rw [e, e']
  obtain ⟨as, ra⟩ := reads_ints (h := s.heap) ib
  obtain ⟨bs, rb⟩ := reads_ints (h := s.heap) ib'
  obtain ⟨ob, hob, hcb, nb, hdb⟩ := id tb
  obtain ⟨ob', hob', hcb', nb', hdb'⟩ := id tb'
  have r1 : Reads s.heap (.ref b) (.tuple (y.map .int)) as := .tuple hob hcb hdb (by simpa using ra)
  have r2 : Reads s.heap (.ref b') (.tuple (y'.map .int)) bs := .tuple hob' hcb' hdb' (by simpa using rb)
  have eq2 := SeqAt.eqAt_reads _ _ A s _ _ as bs r1 r2 (SeqAt.canLay_of_shaped s1) (SeqAt.canLay_of_shaped s2) (SeqAt.room_of_shaped s1 hu)
  have ee : PyData.eqv (.tuple (y.map .int)) (.tuple (y'.map .int)) = decide (y = y') := eqv_ints y y'
  rw [ee] at eq2
  refine PySem.W.kat_lt ho hd ho' hd' ?_
  show PySem.W.KatLex prog w A true (decide (2 < 2)) _ [(.int x t, .int x' t'), (.ref b, .ref b')] 0 s
  refine PySem.W.kat_cons (SeqAt.EqAt.int_int x t x' t' prog w _ _ ?_)
  refine PySem.W.kat_go (fun e1 => ?_) (fun e1 => ?_)
  · have ex : x = x' := by simpa using e1
    rw [if_pos ex]
    refine PySem.W.kat_yes (PySem.W.kat_cons (eq2 prog w _ _ ?_))
    refine PySem.W.kat_go (fun e2 => ?_) (fun e2 => ?_)
    · have ey : y = y' := by simpa using e2
      refine PySem.W.kat_yes (PySem.W.kat_nil ⟨rfl, ?_⟩)
      rw [ey, lexLt_same]; rfl
    · exact PySem.W.kat_no (PySem.W.kat_one _ _ (HT.lt_tupInts tb tb' (by simpa using ib) (by simpa using ib') (by omega) ⟨rfl, rfl⟩))
  · have ex : ¬ x = x' := by simpa using e1
    rw [if_neg ex]
    exact PySem.W.kat_no (PyProof.Rows.oneLt_int ⟨rfl, rfl⟩)
inductive PPs (h : Heap) : List Value → List (Int × List Int) → Prop
  | nil : PPs h [] []
  | cons {u : Value} {p : Int × List Int} {us : List Value} {ps : List (Int × List Int)} : PairH h u p → PPs h us ps → PPs h (u :: us) (p :: ps)
theorem PPs.mem {h : Heap} {v : Value} : ∀ {us : List Value} {ps : List (Int × List Int)}, PPs h us ps → v ∈ us → ∃ p, PairH h v p
  | _, _, .nil, hv => absurd hv (by simp)
  | _, _, .cons q r, hv => by
    rcases List.mem_cons.mp hv with rfl | hv
    · exact ⟨_, q⟩
    · exact r.mem hv
theorem lexLt_tot : ∀ (xs ys : List Int), HT.lexLt xs ys = false → HT.lexLt ys xs = false → xs = ys
  | [], [], _, _ => rfl
  | [], y :: ys, h, _ => by rw [HT.lexLt_nil_cons] at h; cases h
  | x :: xs, [], _, h => by rw [HT.lexLt_nil_cons] at h; cases h
  | x :: xs, y :: ys, h1, h2 => by
    rw [HT.lexLt_cons] at h1 h2
    by_cases e : x = y
    · rw [if_pos e] at h1
      rw [if_pos e.symm] at h2
      rw [e, lexLt_tot xs ys h1 h2]
    · rw [if_neg e] at h1
      rw [if_neg (Ne.symm e)] at h2
      simp only [decide_eq_false_iff_not] at h1 h2
      omega
theorem ltP_tot {p q : Int × List Int} (h1 : ltP p q = false) (h2 : ltP q p = false) : p = q := by
  unfold ltP at h1 h2
  by_cases e : p.1 = q.1
  · rw [if_pos e] at h1
    rw [if_pos e.symm] at h2
    exact Prod.ext e (lexLt_tot _ _ h1 h2)
  · rw [if_neg e] at h1
    rw [if_neg (Ne.symm e)] at h2
    simp only [decide_eq_false_iff_not] at h1 h2
    omega
theorem sortP_uniq {a b : List (Int × List Int)} (h : a.Perm b) (ha : SrtO.Srtd ltP a) (hb : SrtO.Srtd ltP b) : a = b := h.eq_of_pairwise (le := fun x y => ltP y x = false) (fun x y _ _ h1 h2 => ltP_tot h2 h1) ha hb
theorem pair_firsts {h : Heap} : ∀ {vs : List Value}, (∀ v ∈ vs, ∃ p, PairH h v p) → ∃ fs : List Value, PySem.W.KatTups h vs fs ∧ fs.length = vs.length ∧ ∀ f ∈ fs, ∃ x t, f = Value.int x t
  | [], _ => ⟨[], PySem.W.KatTups.nil, rfl, fun _ hm => by simp at hm⟩
  | v :: vs, hp => by
    obtain ⟨fs, h1, h2, h3⟩ := pair_firsts (vs := vs) fun v' hm => hp v' (List.mem_cons_of_mem _ hm)
    obtain ⟨p, a, b, t, its, rfl, ⟨o, ho, hc, n, hd⟩, _⟩ := hp v (List.mem_cons_self ..)
    refine ⟨.int p.1 t :: fs, PySem.W.KatTups.cons ho hc hd rfl h1, by rw [List.length_cons, List.length_cons, h2], fun f hm => ?_⟩
    rcases List.mem_cons.mp hm with rfl | hm
    · exact ⟨p.1, t, rfl⟩
    · exact h3 f hm
theorem pairs_sort {prog : Program} {w : World} {A : Around} {s : Shared} {a : Addr} {vs : List Value} {k : Value → Int × List Int} (hu : A.units + 64 < cLine) (h0 : 0 < vs.length) (hp : ∀ h' : Heap, (∀ b o, b ≠ a → s.heap.get? b = some o → h'.get? b = some o) → ∀ v ∈ vs, PairH h' v (k v)) (hsh : ∀ v ∈ vs, SeqAt.shaped (.tuple ((k v).2.map .int)) = true) :
    SrtO.SortableO prog w A s a vs fun v u => ltP (k v) (k u) := by
  intro h' keep
  have hp' := hp h' keep
  obtain ⟨fs, h1, h2, h3⟩ := pair_firsts fun v hm => ⟨_, hp' v hm⟩
  refine ⟨PyProof.Rows.tuples' true, fun Q E hq => ?_, pairs_cmp (s := { s with heap := h' }) hu hp' hsh⟩
  refine PySem.W.kat_kind (T := .type "int") h1 (by omega) (fun f hm => ?_) (by rfl) ?_
  · obtain ⟨x, t, rfl⟩ := h3 f hm
    exact PySem.W.Looks.now
  · have e : (Value.type "int" != Value.type "tuple") = true := by first | decide +kernel | rfl | decide
    rw [e]
    exact hq
theorem pairKs_get : ∀ {ds : List D} {ps : List (Int × List Int)}, pairKs ds = some ps → ds = ps.map pairD
  | [], ps, h => by cases Option.some.inj (show some [] = some ps from h); rfl
  | d :: r, ps, h => by
    obtain ⟨p, h1, h2⟩ := Option.bind_eq_some_iff.mp (show ((pairK d).bind fun p => (pairKs r).map fun ps => p :: ps) = some ps from h)
    obtain ⟨qs, h3, rfl⟩ := Option.map_eq_some_iff.mp h2
    rw [List.map_cons, ← pairKs_get h3]
    congr 1
    unfold pairK at h1
    split at h1
    · rename_i i ds'
      obtain ⟨ns, h4, rfl⟩ := Option.map_eq_some_iff.mp h1
      have : ds' = ns.map .int := by
        clear h1 h2 h
        induction ds' generalizing ns with
        | nil => cases Option.some.inj (show some [] = some ns from h4); rfl
        | cons x xs ih =>
          cases x <;> first | (cases h4; done) | skip
          rename_i m
          obtain ⟨ms, h5, rfl⟩ := Option.map_eq_some_iff.mp (show (intsD xs).map (m :: ·) = some ns from h4)
          rw [ih ms h5]; rfl
      unfold pairD
      rw [this]
    · cases h1
theorem sortP_sorted (ps : List (Int × List Int)) : SrtO.Srtd ltP (sortP ps) := by
  have h := List.pairwise_mergeSort (le := fun p q => !ltP q p) (fun a b c h1 h2 => by
    simp only [Bool.not_eq_true'] at *
    exact ltP_swo.tr _ _ _ h1 h2) (fun a b => by
    cases h : ltP b a with
    | false => rfl
    | true => rw [ltP_swo.asym _ _ h]; rfl) ps
  exact h.imp fun q => by simpa using q
theorem bi_sorted (hu : X.A.units + 66 < cLine) : CallR X (.builtin "sorted") (rCS X.K T (biEv .sorted)) := bi1 (ev := sortedEv) (fun ts w h => match ts, h with
  | [], h => absurd (show (none : Option OT) = some w from h) (by simp)
  | [t], h => ⟨t, rfl, h⟩
  | _ :: _ :: _, h => absurd (show (none : Option OT) = some w from h) (by simp)) fun pins s σ H Hs t w x us Q I r e o hev q => by
  unfold sortedEv at hev
  obtain ⟨ds, hl, hev⟩ := Option.bind_eq_some_iff.mp hev
  obtain ⟨a, vs, rfl, h1, h2⟩ := opd_litems e o hl
  split at hev
  · rename_i ns hb
    obtain ⟨hz, rfl⟩ := guard_eq hev
    have k := rps_ints h2 hb
    subst k
    refine cr_sorted pins s σ H _ us Q I r ⟨a, ns, rfl, sq_of h1, of_decide_eq_true hz, fun ns' p hp hs hn => ?_⟩
    have k : ns' = sortI ns := sorted_uniq (hp.trans (sortI_perm ns).symm) hs (sortI_sorted ns)
    subst k
    exact q _ _ _ _ (New.newL e hn (rps_of_ints _))
  · obtain ⟨ps, hb, hev⟩ := Option.bind_eq_some_iff.mp hev
    obtain ⟨hz, rfl⟩ := guard_eq hev
    have hd := pairKs_get hb
    subst hd
    rw [List.all_eq_true] at hz
    -- the items as they lie
    obtain ⟨its, rv, hlst, hzz⟩ := I.list (sq_of (K := X.K) h1)
    have lay : ∀ (ps : List (Int × List Int)) (vs : List V) (us : List Value), Rps X.K T Hs (ps.map pairD) vs → Vals vs us → (∀ v ∈ us, ∃ a, v = Value.ref a) ∧ PPs s.heap us ps ∧ ∀ u ∈ us, ∀ p, PairH s.heap u p → Rp X.K T Hs (pairD p) (backV u) := by
      intro ps
      induction ps with
      | nil => intro vs us r1 r2; cases r1; cases r2; exact ⟨fun _ h => absurd h (by simp), .nil, fun _ h => absurd h (by simp)⟩
      | cons p ps ih =>
        intro vs us r1 r2
        rw [List.map_cons] at r1
        cases r1 with
        | cons r1 r1' =>
          cases r2 with
          | cons r2 r2' =>
            obtain ⟨k1, k2, k3⟩ := ih _ _ r1' r2'
            have r0 := r1
            unfold pairD at r1
            cases r1 with
            | tup hp rs =>
              cases rs with
              | cons ri rs =>
                cases rs with
                | cons rt rs =>
                  cases rs
                  cases ri
                  cases rt with
                  | tup hq rq =>
                    have kq := rps_ints rq (intsD_map p.2)
                    subst kq
                    cases r2
                    obtain ⟨i1, v1, t1, _⟩ := I.tuple (ex_t e hp)
                    obtain ⟨i2, v2, t2, _⟩ := I.tuple (ex_t e hq)
                    obtain ⟨u1, u2, rfl, ru1, ru2⟩ := vals2 v1
                    obtain ⟨t0, rfl⟩ := ru1
                    cases ru2
                    have ph : PairH s.heap (.ref _) p := ⟨_, _, t0, i2, rfl, t1, t2, v2.ints⟩
                    refine ⟨fun v hv => (List.mem_cons.mp hv).elim (fun z => ⟨_, z⟩) (k1 v), .cons ph k2, fun u hu p' hp' => ?_⟩
                    rcases List.mem_cons.mp hu with rfl | hu
                    · rw [hp'.inj ph]; exact r0
                    · exact k3 u hu p' hp'
    obtain ⟨lr, lp, lq⟩ := lay ps vs its h2 rv
    -- the pair of a value
    have cl : ∀ u, Decidable (∃ p, PairH s.heap u p) := fun u => Classical.propDecidable _
    let k : Value → Int × List Int := fun u => if h : ∃ p, PairH s.heap u p then h.choose else (0, [])
    have kh : ∀ {u p}, PairH s.heap u p → k u = p := fun {u p} hp => by
      have hx : ∃ p, PairH s.heap u p := ⟨p, hp⟩
      show (if h : ∃ p, PairH s.heap u p then h.choose else (0, [])) = p
      rw [dif_pos hx]
      exact hx.choose_spec.inj hp
    have km : ∀ (us : List Value) (ps : List (Int × List Int)), PPs s.heap us ps → us.map k = ps := by
      intro us ps h
      induction h with
      | nil => rfl
      | cons h _ ih => rw [List.map_cons, kh h, ih]
    have kp : ∀ v ∈ its, PairH s.heap v (k v) := fun v hv => by
      have : ∃ p, PairH s.heap v p := lp.mem hv
      obtain ⟨p, hp⟩ := this
      rw [kh hp]; exact hp
    have kps : its.map k = ps := km its ps lp
    have hsh : ∀ v ∈ its, SeqAt.shaped (.tuple ((k v).2.map .int)) = true := fun v hv => by
      have : k v ∈ ps := by rw [← kps]; exact List.mem_map.mpr ⟨v, hv, rfl⟩
      exact hz _ this
    have O : SrtO.Swo (fun v u => ltP (k v) (k u)) := ⟨fun x y h => ltP_swo.asym _ _ h, fun x y z h1 h2 => ltP_swo.tr _ _ _ h1 h2⟩
    cases r with
    | cons r1 r2 =>
      cases r2
      cases r1
      refine SrtO.sorted_ord (ltv := fun v u => ltP (k v) (k u)) O hlst.isList (by rw [← rv.length]; exact hzz) (fun h2' h₁ a' ha kk => ?_) fun out hs hb => ?_
      · exact pairs_sort (s := { s with heap := h₁ }) (by show X.A.units + 1 + 1 + 64 < cLine; omega) (by omega) (fun h' keep v hv => (kp v hv).keeps fun b o eo => keep b o (kk b o eo).1 (kk b o eo).2) hsh
      · obtain ⟨n, hn⟩ := PyProof.Rows.sortedAll_at s.heap its out.toArray
        have hperm : (out.map k).Perm ps := by rw [← kps]; exact hb.perm.map k
        have hsorted : out.map k = sortP ps := sortP_uniq (hperm.trans (List.mergeSort_perm _ _).symm) (SrtO.srtd_map hs) (sortP_sorted ps)
        have ho : ∀ u ∈ out, u ∈ its := fun u hu => hb.perm.mem_iff.mp hu
        have rp : ∀ out' : List Value, (∀ u ∈ out', u ∈ its) → Rps X.K T Hs ((out'.map k).map pairD) (out'.map backV) := by
          intro out'
          induction out' with
          | nil => intro _; exact .nil
          | cons u us ih => intro hm; exact .cons (lq u (hm u (by simp)) _ (kp u (hm u (by simp)))) (ih fun v hv => hm v (by simp [hv]))
        have rp := rp out ho
        rw [hsorted] at rp
        refine ⟨.ref (s.heap.objs.size + 1), upd H (s.heap.objs.size + 1) (.lst (out.map backV)), I.laid (t' := s.toks) (fun b o eo => PyProof.Rows.sortedAll_old eo) (Nat.le_succ _) ⟨?_, out, n, vals_back fun u hu => lr u (ho u hu), hn⟩, rfl, q _ _ _ _ (New.newL e (I.hok.fresh (Nat.le_succ _)) rp)⟩
        rw [List.length_map, hb.len, ← rv.length]
        exact hzz
theorem bi_max2 (hc : X.calm = true) : CallR X (.builtin "max") (rCS X.K T (biEv .max2)) := by
  intro pins s σ H xs us Q I r ⟨Hs, ts, w, e, ho, hev, q⟩
  obtain ⟨a, b, rfl, hev2⟩ : ∃ a b, ts = [a, b] ∧ max2Ev a b = some w := match ts, hev with
    | [], h => absurd (show (none : Option OT) = some w from h) (by simp)
    | [_], h => absurd (show (none : Option OT) = some w from h) (by simp)
    | [a, b], h => ⟨a, b, rfl, h⟩
    | _ :: _ :: _ :: _, h => absurd (show (none : Option OT) = some w from h) (by simp)
  obtain ⟨x, y, rfl, o1, o2⟩ := opds2 ho
  unfold max2Ev at hev2
  split at hev2
  · cases Option.some.inj hev2
    cases opd_int o1
    cases opd_int o2
    exact call_max2 hc pins s σ H _ us Q I r ⟨_, _, rfl, q _ _ _ _ (New.val e (.int _))⟩
  · cases hev2
theorem bi_min2 (hc : X.calm = true) : CallR X (.builtin "min") (rCS X.K T (biEv .min2)) := by
  intro pins s σ H xs us Q I r ⟨Hs, ts, w, e, ho, hev, q⟩
  obtain ⟨a, b, rfl, hev2⟩ : ∃ a b, ts = [a, b] ∧ min2Ev a b = some w := match ts, hev with
    | [], h => absurd (show (none : Option OT) = some w from h) (by simp)
    | [_], h => absurd (show (none : Option OT) = some w from h) (by simp)
    | [a, b], h => ⟨a, b, rfl, h⟩
    | _ :: _ :: _ :: _, h => absurd (show (none : Option OT) = some w from h) (by simp)
  obtain ⟨x, y, rfl, o1, o2⟩ := opds2 ho
  unfold min2Ev at hev2
  split at hev2
  · cases Option.some.inj hev2
    cases opd_int o1
    cases opd_int o2
    exact call_min2 hc pins s σ H _ us Q I r ⟨_, _, rfl, q _ _ _ _ (New.val e (.int _))⟩
  · cases hev2


theorem foldl_max : ∀ (ns : List Int) (n : Int), (ns.foldl max n = n ∨ ns.foldl max n ∈ ns) ∧ n ≤ ns.foldl max n ∧ ∀ y ∈ ns, y ≤ ns.foldl max n
  | [], n => ⟨.inl rfl, Int.le_refl _, fun y h => absurd h (by simp)⟩
  | m :: ns, n => by
    obtain ⟨h1, h2, h3⟩ := foldl_max ns (max n m)
    simp only [List.foldl_cons]
    have a1 : n ≤ max n m := by omega
    have a2 : m ≤ max n m := by omega
    refine ⟨?_, by omega, fun y hy => ?_⟩
    · rcases h1 with h1 | h1
      · rw [h1]
        by_cases h : n ≤ m
        · exact .inr (by rw [show max n m = m by omega]; simp)
        · exact .inl (by omega)
      · exact .inr (by simp [h1])
    · rcases List.mem_cons.mp hy with rfl | hy
      · omega
      · exact h3 y hy
theorem foldl_min : ∀ (ns : List Int) (n : Int), (ns.foldl min n = n ∨ ns.foldl min n ∈ ns) ∧ ns.foldl min n ≤ n ∧ ∀ y ∈ ns, ns.foldl min n ≤ y
  | [], n => ⟨.inl rfl, Int.le_refl _, fun y h => absurd h (by simp)⟩
  | m :: ns, n => by
    obtain ⟨h1, h2, h3⟩ := foldl_min ns (min n m)
    simp only [List.foldl_cons]
    have a1 : min n m ≤ n := by omega
    have a2 : min n m ≤ m := by omega
    refine ⟨?_, by omega, fun y hy => ?_⟩
    · rcases h1 with h1 | h1
      · rw [h1]
        by_cases h : n ≤ m
        · exact .inl (by omega)
        · exact .inr (by rw [show min n m = m by omega]; simp)
      · exact .inr (by simp [h1])
    · rcases List.mem_cons.mp hy with rfl | hy
      · omega
      · exact h3 y hy
theorem bi_max1 (hc : X.calm = true) : CallR X (.builtin "max") (rCS X.K T (biEv .max1)) := bi1 (ev := max1Ev) (fun ts w h => match ts, h with
  | [], h => absurd (show (none : Option OT) = some w from h) (by simp)
  | [t], h => ⟨t, rfl, h⟩
  | _ :: _ :: _, h => absurd (show (none : Option OT) = some w from h) (by simp)) fun pins s σ H Hs t w x us Q I r e o hev q => by
  unfold max1Ev at hev
  obtain ⟨ds, hl, hev⟩ := Option.bind_eq_some_iff.mp hev
  obtain ⟨ns, hb, hev⟩ := Option.bind_eq_some_iff.mp hev
  obtain ⟨M, hM, rfl⟩ := Option.map_eq_some_iff.mp hev
  obtain ⟨a, vs, rfl, h1, h2⟩ := opd_litems e o hl
  have k := rps_ints h2 hb
  subst k
  cases ns with
  | nil => cases hM
  | cons n ns =>
    cases Option.some.inj hM
    obtain ⟨f1, f2, f3⟩ := foldl_max ns n
    refine cr_max hc pins s σ H _ us Q I r ⟨a, n :: ns, rfl, sq_of h1, by simp, fun m hm hy => ?_⟩
    have e1 : m = ns.foldl max n := by
      have b1 : m ≤ ns.foldl max n := by
        rcases List.mem_cons.mp hm with rfl | hm
        · exact f2
        · exact f3 m hm
      have b2 : ns.foldl max n ≤ m := hy _ (by rcases f1 with f1 | f1 <;> simp [f1])
      omega
    rw [e1]
    exact q _ _ _ _ (New.val e (.int _))
theorem bi_min1 (hc : X.calm = true) : CallR X (.builtin "min") (rCS X.K T (biEv .min1)) := bi1 (ev := min1Ev) (fun ts w h => match ts, h with
  | [], h => absurd (show (none : Option OT) = some w from h) (by simp)
  | [t], h => ⟨t, rfl, h⟩
  | _ :: _ :: _, h => absurd (show (none : Option OT) = some w from h) (by simp)) fun pins s σ H Hs t w x us Q I r e o hev q => by
  unfold min1Ev at hev
  obtain ⟨ds, hl, hev⟩ := Option.bind_eq_some_iff.mp hev
  obtain ⟨ns, hb, hev⟩ := Option.bind_eq_some_iff.mp hev
  obtain ⟨M, hM, rfl⟩ := Option.map_eq_some_iff.mp hev
  obtain ⟨a, vs, rfl, h1, h2⟩ := opd_litems e o hl
  have k := rps_ints h2 hb
  subst k
  cases ns with
  | nil => cases hM
  | cons n ns =>
    cases Option.some.inj hM
    obtain ⟨f1, f2, f3⟩ := foldl_min ns n
    refine cr_min hc pins s σ H _ us Q I r ⟨a, n :: ns, rfl, sq_of h1, by simp, fun m hm hy => ?_⟩
    have e1 : m = ns.foldl min n := by
      have b1 : ns.foldl min n ≤ m := by
        rcases List.mem_cons.mp hm with rfl | hm
        · exact f2
        · exact f3 m hm
      have b2 : m ≤ ns.foldl min n := hy _ (by rcases f1 with f1 | f1 <;> simp [f1])
      omega
    rw [e1]
    exact q _ _ _ _ (New.val e (.int _))
theorem atI_rps {K : PySem.W.Frag} {H : Hp} {ds : List D} {vs : List V} {i : Int} {d : D} (r : Rps K T H ds vs) (h : atI ds i = some d) : ∃ v, atI vs i = some v ∧ Rp K T H d v := by
  unfold atI at h ⊢
  obtain ⟨j, h1, h2⟩ := Option.bind_eq_some_iff.mp h
  obtain ⟨v, h3, h4⟩ := r.get h2
  exact ⟨v, by rw [← r.length, h1]; exact h3, h4⟩
def idx2Ev (t u : OT) : Option OT := match u with
  | .sh (.int i) => idxEv t i
  | _ => none
theorem ixs : IxR X (rOpS X.K T idx2Ev) := by
  intro value slice pins s σ H x y v u Q I rx ry ⟨Hs, a, b, w, e, ha, hb, hev, q⟩ hs
  unfold idx2Ev at hev
  split at hev
  · cases opd_int hb
    unfold idxEv at hev
    split at hev
    · split at hev
      · rename_i hz
        obtain ⟨c, h1, rfl⟩ := Option.map_eq_some_iff.mp hev
        cases opd_str ha
        exact ix_str value slice pins s σ H _ _ v u Q I rx ry ⟨_, _, c, rfl, rfl, by rw [← line]; exact hz, h1, q _ _ _ _ (New.val e (.str _))⟩ hs
      · cases hev
    · obtain ⟨ds, h1, hev⟩ := Option.bind_eq_some_iff.mp hev
      obtain ⟨d, h2, rfl⟩ := Option.map_eq_some_iff.mp hev
      obtain ⟨p, vs, rfl, h3, h4⟩ := opd_items e ha h1
      obtain ⟨z, h5, h6⟩ := atI_rps h4 h2
      rcases h3 with h3 | h3
      · exact ix_list value slice pins s σ H _ _ v u Q I rx ry ⟨p, vs, _, z, rfl, rfl, h3, h5, q _ _ _ _ (New.val e h6)⟩ hs
      · exact ix_tup value slice pins s σ H _ _ v u Q I rx ry ⟨p, vs, _, z, rfl, rfl, h3, h5, q _ _ _ _ (New.val e h6)⟩ hs
  · cases hev
theorem cut_rps {K : PySem.W.Frag} {H : Hp} {ds : List D} {vs : List V} (lo hi : Option Int) (r : Rps K T H ds vs) : Rps K T H (cutD ds lo hi) (cutV vs lo hi) := by
  unfold cutD cutV
  rw [r.length]
  exact (r.drop _).take _
theorem cut_whole {ds : List D} {lo hi : Option Int} (h : HT.sIx ds.length 0 lo = 0 ∧ HT.sIx ds.length ds.length hi = ds.length) : cutD ds lo hi = ds := by
  unfold cutD
  rw [h.1, h.2, List.drop_zero, Nat.sub_zero, List.take_length]
def rSlcS (K : PySem.W.Frag) (T : Tab) : V → Option Int → Option Int → Hp → VK → Prop := fun x lo hi H Q => ∃ Hs t w, Ex Hs H ∧ Opd K T Hs H t x ∧ slcEv lo hi t = some w ∧ ∀ z H' Hs' ft, New K T Hs H w z H' Hs' ft → Q z H'
theorem sls : SlR X (rSlcS X.K T) := by
  intro pins s σ H x v vl vu lo hi sl Q I rx hs pl pu ⟨Hs, t, w, e, ho, hev, q⟩
  have lists : ∀ {ds : List D}, (∃ a vs, x = .ref a ∧ SqL X.K H a vs ∧ Rps X.K T Hs ds vs) → w = newL (cutD ds lo hi) → ∃ T id, typeLookup (.type T) "__getitem__" = pure (some (.builtin id)) ∧ s.TypeIs v T ∧ wpAny (model X.prog X.w) X.A (getItem v (.ref sl)) (EP X pins σ Q) X.xe s := fun {ds} h hw => by
    obtain ⟨a, vs, rfl, h1, h2⟩ := h
    subst hw
    exact sl_list pins s σ H _ v vl vu lo hi sl Q I rx hs pl pu ⟨a, vs, rfl, h1, fun p hp => q _ _ _ _ (New.newL e hp (cut_rps lo hi h2))⟩
  unfold slcEv at hev
  split at hev
  · cases Option.some.inj hev
    obtain ⟨a, vs, rfl, h1, h2⟩ := opd_tup ho
    refine sl_tupA pins s σ H _ v vl vu lo hi sl Q I rx hs pl pu ⟨a, vs, rfl, ex_t e h1, fun hw => ?_, fun _ p hp => q _ _ _ _ (New.tup e hp (cut_rps lo hi h2))⟩
    rw [← h2.length] at hw
    refine q _ _ _ _ (New.val e (.tup h1 ?_))
    rw [cut_whole hw]; exact h2
  · obtain ⟨hz, rfl⟩ := guard_eq hev
    cases opd_str ho
    exact sl_str pins s σ H _ v vl vu lo hi sl Q I rx hs pl pu ⟨_, rfl, by rw [← line]; exact of_decide_eq_true hz, q _ _ _ _ (New.val e (.str _))⟩
  · obtain ⟨a, vs, rfl, h1, h2⟩ := opd_flst ho
    exact lists ⟨a, vs, rfl, ex_l e h1, h2⟩ (Option.some.inj hev).symm
  · obtain ⟨ds, hl, rfl⟩ := Option.map_eq_some_iff.mp hev
    obtain ⟨a, vs, rfl, h1, h2⟩ := opd_litems e ho hl
    exact lists ⟨a, vs, rfl, sq_of h1, h2⟩ rfl

theorem tru_of {K : PySem.W.Frag} {H Hs : Hp} {t : OT} {x : V} {b : Bool} (e : Ex Hs H) (h : Opd K T Hs H t x) (hev : truEv t = some b) : TruV K x H b := by
  have em : ∀ {ds : List D} {vs : List V} {H : Hp}, Rps K T H ds vs → ds.isEmpty = vs.isEmpty := fun r => by cases r <;> rfl
  have em2 : ∀ {ts : List OT} {vs : List V} {f : List Addr}, RpOs K T Hs H ts vs f → ts.isEmpty = vs.isEmpty := fun r => by cases r <;> rfl
  unfold truEv at hev
  split at hev
  · cases Option.some.inj hev; cases opd_non h; rfl
  · cases Option.some.inj hev; cases opd_bl h; rfl
  · cases Option.some.inj hev; cases opd_int h; rfl
  · obtain ⟨hz, rfl⟩ := guard_eq hev; cases opd_str h
    exact ⟨by rw [← line]; exact of_decide_eq_true hz, rfl⟩
  · cases Option.some.inj hev
    obtain ⟨a, vs, rfl, h1, h2⟩ := opd_tup h
    exact .inr (.inl ⟨vs, ex_t e h1, by rw [em h2]⟩)
  · cases Option.some.inj hev
    obtain ⟨a, vs, rfl, h1, h2⟩ := opd_litems e h rfl
    exact .inl ⟨vs, sq_of h1, by rw [em h2]⟩
  · cases Option.some.inj hev
    obtain ⟨f, h⟩ := h
    cases h with
    | lst h1 h2 => exact .inl ⟨_, sq_of h1, by rw [em2 h2]⟩
  · cases hev

def tyB : List String := ["int", "bool", "str", "tuple", "list"]
theorem kit_all : (tys5.all fun a => tyB.all fun b => decide (kitB a b = some (isTy a b))) = true := by decide +kernel
theorem kit_one {K : PySem.W.Frag} {a b : String} (ha : a ∈ tys5) (hb : b ∈ tyB) : PySem.W.kitOne K (.type a) (.type b) = some (isTy a b) := by
  have h := kit_all
  rw [List.all_eq_true] at h
  have h := h a ha
  rw [List.all_eq_true] at h
  exact kit_ty (of_decide_eq_true (h b hb))
theorem ty_of {K : PySem.W.Frag} {H : Hp} {d : D} {v : V} {a : String} (r : Rp K T H d v) (h : d.tyName = some a) : TyX K H v (.type a) ∧ a ∈ tys5 := by
  cases r with
  | non => cases Option.some.inj h; exact ⟨.base .non, by simp [tys5]⟩
  | bl b => cases Option.some.inj h; exact ⟨.base (.bl b), by simp [tys5]⟩
  | int b => cases Option.some.inj h; exact ⟨.base (.int b), by simp [tys5]⟩
  | str b => cases Option.some.inj h; exact ⟨.base (.str b), by simp [tys5]⟩
  | tup hq hr =>
    cases Option.some.inj h
    refine ⟨?_, by simp [tys5]⟩
    rcases hq with (hq | ⟨o, hq⟩) | ⟨o, its, n, h1, h2, h3⟩
    · exact .base (.tup hq)
    · exact .fTuple hq
    · exact .kTuple h1 h2
  | lst hq hr => cases Option.some.inj h; exact ⟨.base (.lst hq), by simp [tys5]⟩
  | _ => cases h
theorem kit_any {K : PySem.W.Frag} {a : String} (ha : a ∈ tys5) : ∀ tys : List String, (∀ b ∈ tys, b ∈ tyB) → PySem.W.kitAny K (.type a) (tys.map Value.type) = some (tys.any fun b => isTy a b)
  | [], _ => rfl
  | b :: tys, hb => by
    have h1 := kit_one (K := K) ha (hb b (by simp))
    have h2 := kit_any (K := K) ha tys fun c hc => hb c (by simp [hc])
    cases h : isTy a b with
    | true => exact kitAny_cons (by rw [h1, h]) (fun z => by cases z) (fun _ => by simp [h])
    | false => exact kitAny_cons (by rw [h1, h]) (fun _ => by rw [h2]; simp [h]) (fun z => by cases z)
end
end CH
end
section
namespace CH
open PySem L2 Evl PyProof.Rows

def wE (X : Cx) (e : Expr) : TE := fun σ H Q => ∀ (pins : List (Addr × Obj)) (s : Shared), Inv X pins σ H s → wpAny (model X.prog X.w) X.A (eval e X.env) (EP X pins σ Q) X.xe s
def wT (X : Cx) (e : Expr) : TT := fun σ H Q => ∀ (pins : List (Addr × Obj)) (s : Shared), Inv X pins σ H s → wpAny (model X.prog X.w) X.A (isTrue e X.env (eval e X.env)) (TP X pins σ Q) X.xe s
def wS (X : Cx) (st : Stmt) : TS := fun D σ H => ∀ (pins : List (Addr × Obj)) (s : Shared), Inv X pins σ H s → wpAny (model X.prog X.w) X.A (exec st X.env) (SP X pins D) X.xe s
def wSs (X : Cx) (sts : List Stmt) : TS := fun D σ H => ∀ (pins : List (Addr × Obj)) (s : Shared), Inv X pins σ H s → wpAny (model X.prog X.w) X.A (execs sts X.env) (SP X pins D) X.xe s
theorem peW (X : Cx) (e : Expr) : PE X e (wE X e) := ⟨fun pins s σ H Q I h => h pins s I⟩
theorem ptW (X : Cx) (e : Expr) : PT X e (wT X e) := ⟨fun pins s σ H Q I h => h pins s I⟩
theorem psW (X : Cx) (e : Stmt) : PS X e (wS X e) := ⟨fun pins s σ H D I h => h pins s I⟩
theorem pssW (X : Cx) (e : List Stmt) : PSs X e (wSs X e) := ⟨fun pins s σ H D I h => h pins s I⟩
theorem wE_of {X : Cx} {e : Expr} {t : TE} (p : PE X e t) {σ : L2.St} {H : Hp} {Q : VK} (h : t σ H Q) : wE X e σ H Q := fun pins s I => p.run pins s σ H Q I h
theorem wT_of {X : Cx} {e : Expr} {t : TT} (p : PT X e t) {σ : L2.St} {H : Hp} {Q : Bool → Hp → Prop} (h : t σ H Q) : wT X e σ H Q := fun pins s I => p.run pins s σ H Q I h
theorem wS_of {X : Cx} {e : Stmt} {t : TS} (p : PS X e t) {D : Ends} {σ : L2.St} {H : Hp} (h : t D σ H) : wS X e D σ H := fun pins s I => p.run pins s σ H D I h
theorem wSs_of {X : Cx} {e : List Stmt} {t : TS} (p : PSs X e t) {D : Ends} {σ : L2.St} {H : Hp} (h : t D σ H) : wSs X e D σ H := fun pins s I => p.run pins s σ H D I h
/-- a row of expressions, from the left -/
def wEs (X : Cx) : List Expr → TA
  | [] => tNil
  | e :: es => tCons (wE X e) (wEs X es)
def isStar : Expr → Bool
  | .Starred .. => true
  | _ => false
theorem star_cons {e : Expr} {es : List Expr} {env : PySem.Env} (h : isStar e = false) : starEach (e :: es) env = (false, eval e env) :: starEach es env := by
  cases e <;> first | rfl | cases h
theorem star_any {es : List Expr} {env : PySem.Env} {pos : Pos} (h : es.all (fun e => !isStar e) = true) : (backTo pos (starEach es env)).any (·.1) = false := by
  induction es with
  | nil => rfl
  | cons e es ih =>
    simp only [List.all_cons, Bool.and_eq_true, Bool.not_eq_true'] at h
    rw [star_cons h.1]
    show (false || (backTo pos (starEach es env)).any (·.1)) = false
    rw [ih h.2]; rfl
theorem paW (X : Cx) : ∀ (es : List Expr), es.all (fun e => !isStar e) = true → PA X es (wEs X es)
  | [], _ => pa_nil
  | e :: es, h => by
    simp only [List.all_cons, Bool.and_eq_true, Bool.not_eq_true'] at h
    exact pa_cons (peW X e) (paW X es h.2) (star_cons h.1)

def lkOf : Sl → Option OT
  | .lk t => some t
  | _ => none
def lks (ρ : Env) : List (Option OT) := ρ.map lkOf
theorem lks_get {ρ : Env} {i : Nat} : (lks ρ)[i]? = (ρ[i]?).map lkOf := by unfold lks; rw [List.getElem?_map]
theorem lks_set {ρ : Env} {i : Nat} {x y : Sl} (h : ρ[i]? = some x) (e : lkOf x = lkOf y) : lks (ρ.set i y) = lks ρ := by
  unfold lks
  rw [List.map_set, ← e]
  apply List.ext_getElem?
  intro j
  by_cases hj : i = j
  · subst hj
    obtain ⟨hi, hx⟩ := List.getElem?_eq_some_iff.mp h
    rw [List.getElem?_set_self (by simpa using hi), List.getElem?_map, h]; rfl
  · rw [List.getElem?_set_ne hj]
theorem own_get {ρ : Env} {i : Nat} {t : OT} (h : Env.own ρ i = some t) : ρ[i]? = some (.ow t) := by
  unfold Env.own at h
  split at h
  · rename_i e; cases Option.some.inj h; exact e
  · cases h
theorem own_lt {ρ : Env} {i : Nat} {t : OT} (h : Env.own ρ i = some t) : i < ρ.length := (List.getElem?_eq_some_iff.mp (own_get h)).1
section
variable {K : PySem.W.Frag} {T : Tab} {H Hs H' Hs' : Hp} {L L' : List Addr}
theorem RpS.relock : ∀ {ρ ρ2 : Env} {σ σ2 : L2.St} {fp fp2 : List Addr}, RpS K T Hs H L ρ σ fp → RpS K T Hs' H' L' ρ2 σ2 fp2 → lks ρ = lks ρ2 → (∀ (i : Nat) (t : OT), ρ[i]? = some (Sl.lk t) → σ[i]? = σ2[i]?) → Ex Hs Hs' →
    (∀ a ∈ L, ∀ o, H a = some o → H' a = some o) → RpS K T Hs' H' L ρ2 σ2 fp2
  | _, _, _, _, _, _, r, .nil, _, _, _, _ => .nil
  | _, _, _, _, _, _, .nil, .no r2, e, _, _, _ => by simp [lks] at e
  | _, _, _, _, _, _, .no r, .no r2, e, v, x, k => .no (RpS.relock r r2 (by simpa [lks] using e) (fun i t h => v (i + 1) t (by simpa using h)) x k)
  | _, _, _, _, _, _, .ow _ r, .no r2, e, v, x, k => .no (RpS.relock r r2 (by simpa [lks, lkOf] using e) (fun i t h => v (i + 1) t (by simpa using h)) x k)
  | _, _, _, _, _, _, .lk _ _ r, .no r2, e, v, x, k => by simp [lks, lkOf] at e
  | _, _, _, _, _, _, .nil, .ow h r2, e, _, _, _ => by simp [lks] at e
  | _, _, _, _, _, _, .no r, .ow h r2, e, v, x, k => .ow h (RpS.relock r r2 (by simpa [lks, lkOf] using e) (fun i t h => v (i + 1) t (by simpa using h)) x k)
  | _, _, _, _, _, _, .ow _ r, .ow h r2, e, v, x, k => .ow h (RpS.relock r r2 (by simpa [lks, lkOf] using e) (fun i t h => v (i + 1) t (by simpa using h)) x k)
  | _, _, _, _, _, _, .lk _ _ r, .ow h r2, e, v, x, k => by simp [lks, lkOf] at e
  | _, _, _, _, _, _, .nil, .lk h l r2, e, _, _, _ => by simp [lks] at e
  | _, _, _, _, _, _, .no r, .lk h l r2, e, v, x, k => by simp [lks, lkOf] at e
  | _, _, _, _, _, _, .ow _ r, .lk h l r2, e, v, x, k => by simp [lks, lkOf] at e
  | _, _, _, _, _, _, .lk (t := t) (ρ := ra) h1 l1 r, .lk (t := t2) (ρ := rb) h l r2, e, v, x, k => by
    have e0 : t = t2 ∧ lks ra = lks rb := by simpa [lks, lkOf] using e
    obtain ⟨e1, e2⟩ := e0
    subst e1
    have ev := v 0 t (by simp)
    simp at ev
    subst ev
    exact .lk (h1.step x fun a ha => k a (l1 a ha)) l1 (RpS.relock r r2 e2 (fun i t h => v (i + 1) t (by simpa using h)) x k)

/-- what an evaluation leaves: from Hs, H, fp the value t at v, the rest of the state beside -/
structure Post (K : PySem.W.Frag) (T : Tab) (L : List Addr) (σ : L2.St) (Hs H : Hp) (fp : List Addr) (ρ : Env) (t : OT) (ρ' : Env) (v : V) (H' Hs' : Hp) (fp' ft : List Addr) : Prop where
  st : StOk K T L Hs' H' ρ' σ fp'
  rp : RpO K T Hs' H' t v ft
  nd : (ft ++ fp').Nodup
  nf : ∀ a ∈ ft, Hs' a = none
  lf : ∀ a ∈ L, a ∉ ft
  sp : Stp fp H Hs (ft ++ fp') H' Hs'
  lk : lks ρ' = lks ρ
/-- .. and where no value is left -/
structure Pst (K : PySem.W.Frag) (T : Tab) (L : List Addr) (σ : L2.St) (Hs H : Hp) (fp : List Addr) (ρ ρ' : Env) (H' Hs' : Hp) (fp' : List Addr) : Prop where
  st : StOk K T L Hs' H' ρ' σ fp'
  sp : Stp fp H Hs fp' H' Hs'
  lk : lks ρ' = lks ρ
variable {σ : L2.St} {fp fp1 fp' ft : List Addr} {ρ ρ1 ρ' : Env} {t w : OT} {v z : V} {H1 Hs1 : Hp}
theorem Post.pst (p : Post K T L σ Hs H fp ρ t ρ' v H' Hs' fp' ft) : Pst K T L σ Hs H fp ρ ρ' H' Hs' fp' := ⟨p.st, p.sp.sub fun a ha => by simp [ha], p.lk⟩
theorem Pst.refl (h : StOk K T L Hs H ρ σ fp) : Pst K T L σ Hs H fp ρ ρ H Hs fp := ⟨h, Stp.refl _ _ _, rfl⟩
theorem Pst.trans (a : Pst K T L σ Hs H fp ρ ρ1 H1 Hs1 fp1) (b : Pst K T L σ Hs1 H1 fp1 ρ1 ρ' H' Hs' fp') : Pst K T L σ Hs H fp ρ ρ' H' Hs' fp' := ⟨b.st, a.sp.trans b.sp, b.lk.trans a.lk⟩
theorem Pst.post (a : Pst K T L σ Hs H fp ρ ρ1 H1 Hs1 fp1) (b : Post K T L σ Hs1 H1 fp1 ρ1 t ρ' v H' Hs' fp' ft) : Post K T L σ Hs H fp ρ t ρ' v H' Hs' fp' ft := ⟨b.st, b.rp, b.nd, b.nf, b.lf, a.sp.trans b.sp, b.lk.trans a.lk⟩
/-- the state goes on where objects are only added -/
theorem StOk.grow (h : StOk K T L Hs H ρ σ fp) (e1 : Ex H H') (e2 : Ex Hs Hs') (le : Ex Hs' H') (dm : ∀ a o, Hs' a = some o → Hs a = some o ∨ H a = none) : StOk K T L Hs' H' ρ σ fp := by
  have no : ∀ a, (∃ o, H a = some o) → Hs a = none → Hs' a = none := fun a ⟨o, q⟩ n => by
    cases z : Hs' a with
    | none => rfl
    | some u =>
      rcases dm a u z with k | k
      · rw [n] at k; cases k
      · rw [q] at k; cases k
  exact ⟨le, h.rs.step e2 (fun _ q => q) fun a _ o q => e1 a o q, h.nd, fun a ha => no a (h.rs.tracked a ha) (h.nf a ha), h.lf, fun a ha => ⟨let ⟨o, q⟩ := (h.lt a ha).1; ⟨o, e1 a o q⟩, no a (h.lt a ha).1 (h.lt a ha).2⟩⟩
theorem New.post (h : StOk K T L Hs H ρ σ fp) (n : New K T Hs H w z H' Hs' ft) : Post K T L σ Hs H fp ρ w ρ z H' Hs' fp ft := by
  have s := h.grow n.eH n.eS n.le n.dm
  have fr : ∀ a ∈ ft, a ∉ fp := fun a ha hf => by
    obtain ⟨o, q⟩ := h.rs.tracked a hf
    rw [(n.fr a ha).1] at q; cases q
  refine ⟨s, n.rp, List.nodup_append.mpr ⟨n.nd, h.nd, fun a ha b hb e => fr a ha (e ▸ hb)⟩, fun a ha => (n.fr a ha).2, fun a ha hf => ?_, ⟨n.eS, fun a o q _ => n.eH a o q, fun a ha => ?_, fun a o q => (n.dm a o q).imp id .inr⟩, rfl⟩
  · obtain ⟨o, q⟩ := (h.lt a ha).1
    rw [(n.fr a hf).1] at q; cases q
  · rcases List.mem_append.mp ha with ha | ha
    · exact .inr (n.fr a ha).1
    · exact .inl ha
theorem Post.val {d : D} (h : StOk K T L Hs H ρ σ fp) (r : Rp K T Hs d z) : Post K T L σ Hs H fp ρ (.sh d) ρ z H Hs fp [] := New.post h (New.val h.ex r)
/-- a value beside a state that goes on -/
theorem Post.hold (p : Post K T L σ Hs H fp ρ t ρ1 v H1 Hs1 fp1 ft) (q : Pst K T L' σ Hs1 H1 fp1 ρ1 ρ' H' Hs' fp') : RpO K T Hs' H' t v ft ∧ (ft ++ fp').Nodup ∧ (∀ a ∈ ft, Hs' a = none) ∧ Stp fp H Hs (ft ++ fp') H' Hs' := by
  have d := List.nodup_append.mp p.nd
  have nin : ∀ a ∈ ft, a ∉ fp1 := fun a ha hf => d.2.2 a ha a hf rfl
  have tr := p.rp.tracked
  refine ⟨p.rp.keep nin q.sp, List.nodup_append.mpr ⟨d.1, q.st.nd, fun a ha b hb e => q.sp.out (tr a ha) (nin a ha) (e ▸ hb)⟩, fun a ha => q.sp.outHs (tr a ha) (nin a ha) (p.nf a ha), ?_⟩
  exact p.sp.trans (q.sp.wider (fun a ha => by simp [ha]) ft fun a ha => by simp [ha])
/-- the value beside the state is frozen -/
theorem Post.freeze (p : Post K T L σ Hs H fp ρ t ρ' v H' Hs' fp' ft) : Pst K T L σ Hs H fp ρ ρ' H' (frz Hs' H' ft) fp' ∧ Rp K T (frz Hs' H' ft) t.toD v := by
  have d := List.nodup_append.mp p.nd
  have nin : ∀ a ∈ fp', a ∉ ft := fun a ha hf => d.2.2 a hf a ha rfl
  refine ⟨⟨⟨frz_le p.st.ex, p.st.rs.step (frz_ex p.nf) (fun _ q => q) fun _ _ _ q => q, p.st.nd, fun a ha => by rw [frz_out (nin a ha)]; exact p.st.nf a ha, p.st.lf, fun a ha => ⟨(p.st.lt a ha).1, by rw [frz_out (p.lf a ha)]; exact (p.st.lt a ha).2⟩⟩, ⟨p.sp.ex.trans (frz_ex p.nf), p.sp.fr, fun a ha => p.sp.nw a (by simp [ha]), fun a o q => ?_⟩, p.lk⟩, p.rp.frz p.nf fun a ha => ha⟩
  by_cases h : a ∈ ft
  · exact .inr (p.sp.nw a (by simp [h]))
  · rw [frz_out h] at q; exact p.sp.dm a o q
/-- a name's tree is locked -/
theorem StOk.locked {i : Nat} (h : StOk K T L Hs H ρ σ fp) (e : ρ[i]? = some (.ow t)) : ∃ v f fr, σ[i]? = some (some v) ∧ RpO K T Hs H t v f ∧ fp.Perm (f ++ fr) ∧ StOk K T (f ++ L) Hs H (ρ.set i (.lk t)) σ fr := by
  obtain ⟨v, f, fr, h1, h2, h3, h4⟩ := h.rs.takeOut e
  have hi := (List.getElem?_eq_some_iff.mp e).1
  have nd := h3.nodup_iff.mp h.nd
  have d := List.nodup_append.mp nd
  have r := RpS.putLk (h4.step (L' := f ++ L) (Ex.refl _) (fun a ha => by simp [ha]) fun a _ o q => q) (i := i) (by simpa using hi) (by rw [List.getElem?_set_self hi]) h2 fun a ha => by simp [ha]
  rw [List.set_set] at r
  have hσ : σ.set i (some v) = σ := by
    obtain ⟨hi2, e2⟩ := List.getElem?_eq_some_iff.mp h1
    rw [← e2, List.set_getElem_self]
  rw [hσ] at r
  refine ⟨v, f, fr, h1, h2, h3, h.ex, r, d.2.1, fun a ha => h.nf a (h3.mem_iff.mpr (by simp [ha])), fun a ha hf => ?_, fun a ha => ?_⟩
  · rcases List.mem_append.mp ha with ha | ha
    · exact d.2.2 a ha a hf rfl
    · exact h.lf a ha (h3.mem_iff.mpr (by simp [hf]))
  · rcases List.mem_append.mp ha with ha | ha
    · exact ⟨h2.tracked a ha, h.nf a (h3.mem_iff.mpr (by simp [ha]))⟩
    · exact h.lt a ha
/-- .. and unlocked, behind what went on meanwhile -/
theorem Pst.unlocked {i : Nat} {f fr F : List Addr} {σ2 : L2.St} (h : StOk K T L Hs H ρ σ fp) (e : ρ[i]? = some (.ow t)) (h1 : σ[i]? = some (some v)) (h2 : RpO K T Hs H t v f) (h3 : fp.Perm (f ++ fr))
    (hl : StOk K T (f ++ L) Hs H (ρ.set i (.lk t)) σ fr) (st : StOk K T (f ++ L) Hs' H' ρ' σ2 fp') (sp : Stp (F ++ fr) H Hs fp' H' Hs') (hF : ∀ x ∈ F, x ∉ f ++ L) (lk : lks ρ' = lks (ρ.set i (.lk t)))
    (hσ2 : ∀ (j : Nat) (u : OT), ρ[j]? = some (Sl.lk u) → σ2[j]? = σ[j]?) (hσ3 : σ2[i]? = σ[i]?) :
    ∃ fp2, StOk K T L Hs' H' (ρ'.set i (.ow t)) σ2 fp2 ∧ Stp (F ++ fp) H Hs fp2 H' Hs' ∧ lks (ρ'.set i (.ow t)) = lks ρ ∧ ∀ a ∈ fp2, a ∈ f ∨ a ∈ fp' := by
  have hi := (List.getElem?_eq_some_iff.mp e).1
  have hlen : ρ'.length = ρ.length := by have := congrArg List.length lk; simpa [lks] using this
  have nd := List.nodup_append.mp (h3.nodup_iff.mp h.nd)
  have nin : ∀ a ∈ f, a ∉ F ++ fr := fun a ha hf => by
    rcases List.mem_append.mp hf with hf | hf
    · exact hF a hf (by simp [ha])
    · exact nd.2.2 a ha a hf rfl
  have ninL : ∀ a ∈ L, a ∉ F ++ fr := fun a ha hf => by
    rcases List.mem_append.mp hf with hf | hf
    · exact hF a hf (by simp [ha])
    · exact hl.lf a (by simp [ha]) hf
  have tr := h2.tracked
  obtain ⟨g, r1, sub⟩ := st.rs.forget' i
  -- the other locks as they were
  have lk0 : lks (ρ'.set i .no) = lks ρ := by
    unfold lks at lk ⊢
    rw [List.map_set, lk, List.map_set, List.set_set]
    apply List.ext_getElem?
    intro j
    by_cases hj : i = j
    · subst hj
      rw [List.getElem?_set_self (by simpa using hi), List.getElem?_map, e]; rfl
    · rw [List.getElem?_set_ne hj]
  have r2 : RpS K T Hs' H' L (ρ'.set i .no) σ2 g := RpS.relock h.rs r1 lk0.symm (fun j u q => (hσ2 j u q).symm) sp.ex fun a ha o q => sp.fr a o q (ninL a ha)
  have h2' : RpO K T Hs' H' t v f := h2.keep nin sp
  obtain ⟨fp2, r3, pm⟩ := r2.put (i := i) (by simpa [hlen] using hi) (by rw [List.getElem?_set_self (by rw [hlen]; exact hi)]) h2'
  rw [List.set_set] at r3
  have e2 : σ2.set i (some v) = σ2 := by
    obtain ⟨hi2, e2⟩ := List.getElem?_eq_some_iff.mp (hσ3.trans h1)
    rw [← e2, List.set_getElem_self]
  rw [e2] at r3
  have gsub : ∀ a ∈ g, a ∈ fp' := fun a ha => sub.subset ha
  have fng : ∀ a ∈ f, a ∉ g := fun a ha hg => sp.out (tr a ha) (nin a ha) (gsub a hg)
  refine ⟨fp2, ⟨st.ex, r3, pm.nodup_iff.mpr (List.nodup_append.mpr ⟨nd.1, st.nd.sublist sub, fun a ha b hb q => fng a ha (q ▸ hb)⟩), fun a ha => ?_, fun a ha hf => ?_, fun a ha => st.lt a (by simp [ha])⟩, ?_, ?_, fun a ha => (List.mem_append.mp (pm.mem_iff.mp ha)).imp id (gsub a)⟩
  · rcases List.mem_append.mp (pm.mem_iff.mp ha) with ha | ha
    · exact sp.outHs (tr a ha) (nin a ha) (h.nf a (h3.mem_iff.mpr (by simp [ha])))
    · exact st.nf a (gsub a ha)
  · rcases List.mem_append.mp (pm.mem_iff.mp hf) with hf | hf
    · exact h.lf a ha (h3.mem_iff.mpr (by simp [hf]))
    · exact st.lf a (by simp [ha]) (gsub a hf)
  · have up : ∀ a, a ∈ F ++ fr → a ∈ F ++ fp := fun a ha => (List.mem_append.mp ha).elim (fun z => by simp [z]) fun z => List.mem_append.mpr (.inr (h3.mem_iff.mpr (by simp [z])))
    refine ⟨sp.ex, fun a o q n => sp.fr a o q fun z => n (up a z), fun a ha => ?_, fun a o q => (sp.dm a o q).imp id fun z => z.imp (up a) id⟩
    rcases List.mem_append.mp (pm.mem_iff.mp ha) with ha | ha
    · exact .inl (List.mem_append.mpr (.inr (h3.mem_iff.mpr (by simp [ha]))))
    · exact (sp.nw a (gsub a ha)).imp (up a) id
  · rw [← lk0, show ρ'.set i (.ow t) = (ρ'.set i .no).set i (.ow t) by rw [List.set_set]]
    exact lks_set (x := .no) (by rw [List.getElem?_set_self (by rw [hlen]; exact hi)]) rfl
end
end CH
end
section
namespace CH
open PySem L2 Evl PyProof.Rows

def Cont {α : Type} (r : R α) (Ok : α → Prop) (Ex : Exn → Env → Prop) : Prop := match r with
  | .ok a => Ok a
  | .ex e ρ => Ex e ρ
  | .no => False
theorem cont_bind {α β : Type} {r : R α} {f : α → R β} {Ok : β → Prop} {Ex : Exn → Env → Prop} : Cont (r.bind f) Ok Ex = Cont r (fun a => Cont (f a) Ok Ex) Ex := by cases r <;> rfl
theorem Cont.imp {α : Type} {r : R α} {Ok Ok' : α → Prop} {Ex Ex' : Exn → Env → Prop} (h : Cont r Ok Ex) (h1 : ∀ a, Ok a → Ok' a) (h2 : ∀ e ρ, Ex e ρ → Ex' e ρ) : Cont r Ok' Ex' := by
  cases r with
  | ok a => exact h1 a h
  | ex e ρ => exact h2 e ρ h
  | no => exact h
/-- an exception's own dict -/
def ExRp (K : PySem.W.Frag) (T : Tab) (Hs H : Hp) (e : Exn) (C d : Addr) : Prop := T.exA e.cls = some C ∧ ∃ fs : List (Str × V), H d = some (.xd fs) ∧ fs.map (·.1) = T.exF e.cls ∧ Rps K T Hs e.args (fs.map (·.2))
structure Xst (K : PySem.W.Frag) (T : Tab) (L : List Addr) (σ : L2.St) (Hs H : Hp) (fp : List Addr) (ρ ρ' : Env) (e : Exn) (H' Hs' : Hp) (fp' : List Addr) (C d : Addr) : Prop where
  pst : Pst K T L σ Hs H fp ρ ρ' H' Hs' fp'
  ex : ExRp K T Hs' H' e C d
/-- what is wanted where an exception leaves -/
def XOk (K : PySem.W.Frag) (T : Tab) (L : List Addr) (σ : L2.St) (Hs H : Hp) (fp : List Addr) (ρ : Env) (W : WX) (e : Exn) (ρ' : Env) : Prop := ∀ H' Hs' fp' C d, Xst K T L σ Hs H fp ρ ρ' e H' Hs' fp' C d → W (.ref C) (some d) σ H'
section
variable {K : PySem.W.Frag} {T : Tab} {L : List Addr} {σ : L2.St} {Hs H Hs1 H1 : Hp} {fp fp1 : List Addr} {ρ ρ1 ρ' : Env} {W : WX} {e : Exn}
theorem XOk.later (x : XOk K T L σ Hs H fp ρ W e ρ') (p : Pst K T L σ Hs H fp ρ ρ1 H1 Hs1 fp1) : XOk K T L σ Hs1 H1 fp1 ρ1 W e ρ' := fun H' Hs' fp' C d q => x H' Hs' fp' C d ⟨p.trans q.pst, q.ex⟩
end

/-- an expression, a row of them, a row of operands, a test -/
def SE (X : Cx) (T : Tab) (W : WX) (e : Expr) (ρ : Env) (r : R (OT × Env)) : Prop := ∀ (L : List Addr) (σ : L2.St) (H Hs : Hp) (fp : List Addr) (Q : VK), StOk X.K T L Hs H ρ σ fp →
  Cont r (fun p => ∀ v H' Hs' fp' ft, Post X.K T L σ Hs H fp ρ p.1 p.2 v H' Hs' fp' ft → Q v H') (XOk X.K T L σ Hs H fp ρ W) → wE X e σ H Q
/-- values held beside the state -/
structure Posts (K : PySem.W.Frag) (T : Tab) (L : List Addr) (σ : L2.St) (Hs H : Hp) (fp : List Addr) (ρ : Env) (ts : List OT) (ρ' : Env) (vs : List V) (H' Hs' : Hp) (fp' ft : List Addr) : Prop where
  st : StOk K T L Hs' H' ρ' σ fp'
  rp : RpOs K T Hs' H' ts vs ft
  nd : (ft ++ fp').Nodup
  nf : ∀ a ∈ ft, Hs' a = none
  lf : ∀ a ∈ L, a ∉ ft
  sp : Stp fp H Hs (ft ++ fp') H' Hs'
  lk : lks ρ' = lks ρ
theorem Posts.pst {K : PySem.W.Frag} {T : Tab} {L : List Addr} {σ : L2.St} {Hs H H' Hs' : Hp} {fp fp' ft : List Addr} {ρ ρ' : Env} {ts : List OT} {vs : List V} (p : Posts K T L σ Hs H fp ρ ts ρ' vs H' Hs' fp' ft) : Pst K T L σ Hs H fp ρ ρ' H' Hs' fp' :=
  ⟨p.st, p.sp.sub fun a ha => by simp [ha], p.lk⟩
def SEs (X : Cx) (T : Tab) (W : WX) (es : List Expr) (ρ : Env) (r : R (List OT × Env)) : Prop := ∀ (L : List Addr) (σ : L2.St) (H Hs : Hp) (fp : List Addr) (Q : List V → Hp → Prop), StOk X.K T L Hs H ρ σ fp →
  Cont r (fun p => ∀ vs H' Hs' fp' ft, Posts X.K T L σ Hs H fp ρ p.1 p.2 vs H' Hs' fp' ft → Q vs H') (XOk X.K T L σ Hs H fp ρ W) → wEs X es σ H Q
def SOs (X : Cx) (T : Tab) (W : WX) (es : List Expr) (ρ : Env) (r : R (List OT × Env)) : Prop := ∀ (L : List Addr) (σ : L2.St) (H Hs : Hp) (fp : List Addr) (Q : List V → Hp → Prop), StOk X.K T L Hs H ρ σ fp →
  Cont r (fun p => ∀ vs H' Hs' fp', Pst X.K T L σ Hs H fp ρ p.2 H' Hs' fp' → Opds X.K T Hs' H' p.1 vs → Q vs H') (XOk X.K T L σ Hs H fp ρ W) → wEs X es σ H Q
def ST (X : Cx) (T : Tab) (W : WX) (e : Expr) (ρ : Env) (r : R (Bool × Env)) : Prop := ∀ (L : List Addr) (σ : L2.St) (H Hs : Hp) (fp : List Addr) (Q : Bool → Hp → Prop), StOk X.K T L Hs H ρ σ fp →
  Cont r (fun p => ∀ H' Hs' fp', Pst X.K T L σ Hs H fp ρ p.2 H' Hs' fp' → Q p.1 H') (XOk X.K T L σ Hs H fp ρ W) → wT X e σ H Q

section
variable {X : Cx} {T : Tab} {W : WX} {e : Expr} {es : List Expr} {ρ : Env}
theorem ses_nil : SEs X T W [] ρ (.ok ([], ρ)) := fun L σ H Hs fp Q h k => k [] H Hs fp [] ⟨h, .nil, h.nd, fun a ha => absurd ha (by simp), fun a _ ha => absurd ha (by simp), Stp.refl _ _ _, rfl⟩
theorem ses_cons {re : R (OT × Env)} {rs : Env → R (List OT × Env)} (he : SE X T W e ρ re) (hs : ∀ ρ1, SEs X T W es ρ1 (rs ρ1)) :
    SEs X T W (e :: es) ρ (re.bind fun p => (rs p.2).bind fun q => .ok (p.1 :: q.1, q.2)) := by
  intro L σ H Hs fp Q h k
  rw [cont_bind] at k
  refine he L σ H Hs fp _ h (k.imp (fun p k v H1 Hs1 fp1 ft p1 => ?_) fun _ _ x => x)
  rw [cont_bind] at k
  refine hs p.2 L σ H1 Hs1 fp1 _ p1.st (k.imp (fun q k vs H2 Hs2 fp2 fts p2 => ?_) fun ex ρ' x => x.later p1.pst)
  obtain ⟨r1, r2, r3, r4⟩ := p1.hold p2.pst
  have d2 := List.nodup_append.mp p2.nd
  have d1 := List.nodup_append.mp p1.nd
  have tr := p1.rp.tracked
  have nin : ∀ a ∈ ft, a ∉ fp1 := fun a ha hf => d1.2.2 a ha a hf rfl
  have ap : ∀ a ∈ ft, a ∉ fts ++ fp2 := fun a ha => p2.sp.out (tr a ha) (nin a ha)
  refine k (v :: vs) H2 Hs2 fp2 (ft ++ fts) ⟨p2.st, .cons r1 p2.rp, ?_, fun a ha => ?_, fun a ha hf => ?_, ?_, p2.lk.trans p1.lk⟩
  · rw [List.append_assoc]
    exact List.nodup_append.mpr ⟨d1.1, p2.nd, fun a ha b hb q => ap a ha (q ▸ hb)⟩
  · rcases List.mem_append.mp ha with ha | ha
    · exact r3 a ha
    · exact p2.nf a ha
  · rcases List.mem_append.mp hf with hf | hf
    · exact p1.lf a ha hf
    · exact p2.lf a ha hf
  · rw [List.append_assoc]
    exact p1.sp.trans (p2.sp.wider (fun a ha => by simp [ha]) ft fun a ha => by simp [ha])
/-- something reckoned behind a state: a in the language, b in the heap -/
def SG (X : Cx) (T : Tab) (W : WX) {α β : Type} (G : L2.St → Hp → (β → Hp → Prop) → Prop) (Rel : α → β → Hp → Hp → Prop) (ρ : Env) (r : R (α × Env)) : Prop := ∀ (L : List Addr) (σ : L2.St) (H Hs : Hp) (fp : List Addr) (Q : β → Hp → Prop), StOk X.K T L Hs H ρ σ fp →
  Cont r (fun p => ∀ b H' Hs' fp', Pst X.K T L σ Hs H fp ρ p.2 H' Hs' fp' → Rel p.1 b Hs' H' → Q b H') (XOk X.K T L σ Hs H fp ρ W) → G σ H Q
theorem sos_nil : SOs X T W [] ρ (.ok ([], ρ)) := fun L σ H Hs fp Q h k => k [] H Hs fp (Pst.refl h) .nil
/-- an operand that is a value, then the rest -/
theorem sg_e {α β : Type} {G : L2.St → Hp → (β → Hp → Prop) → Prop} {Rel : α → β → Hp → Hp → Prop} {re : R (OT × Env)} {rs : Env → R (α × Env)} (he : SE X T W e ρ re) (hs : ∀ ρ1, SG X T W G Rel ρ1 (rs ρ1)) :
    SG X T W (fun σ H (Q : V × β → Hp → Prop) => wE X e σ H fun x H1 => G σ H1 fun b H2 => Q (x, b) H2) (fun a b Hs H => Opd X.K T Hs H a.1 b.1 ∧ Rel a.2 b.2 Hs H) ρ (re.bind fun p => (rs p.2).bind fun q => .ok ((p.1, q.1), q.2)) := by
  intro L σ H Hs fp Q h k
  rw [cont_bind] at k
  refine he L σ H Hs fp _ h (k.imp (fun p k v H1 Hs1 fp1 ft p1 => ?_) fun _ _ x => x)
  rw [cont_bind] at k
  refine hs p.2 L σ H1 Hs1 fp1 _ p1.st (k.imp (fun q k b H2 Hs2 fp2 p2 o2 => ?_) fun ex ρ' x => x.later p1.pst)
  exact k (v, b) H2 Hs2 fp2 (p1.pst.trans p2) ⟨⟨ft, (p1.hold p2).1⟩, o2⟩

theorem fldIx_get : ∀ {ks : List Str} {f : Str} {j : Nat}, fldIx ks f = some j → ks[j]? = some f
  | [], f, j, h => by simp [fldIx] at h
  | k :: ks, f, j, h => by
    unfold fldIx at h
    split at h
    · rename_i e; cases Option.some.inj h; simp [e]
    · obtain ⟨i, h1, rfl⟩ := Option.map_eq_some_iff.mp h
      simpa using fldIx_get h1
theorem fldIx_lookup : ∀ {fs : List (Str × V)} {f : Str} {j : Nat} {v : V}, fldIx (fs.map (·.1)) f = some j → (fs.map (·.2))[j]? = some v → fs.lookup f = some v
  | [], f, j, v, h, _ => by simp [fldIx] at h
  | (k, x) :: fs, f, j, v, h, e => by
    simp only [List.map_cons, fldIx] at h
    split at h
    · rename_i q
      cases Option.some.inj h
      simp at e
      subst q e
      simp [List.lookup]
    · rename_i q
      obtain ⟨i, h1, rfl⟩ := Option.map_eq_some_iff.mp h
      have n : (f == k) = false := by simpa using fun z => q z.symm
      simp only [List.lookup, n]
      exact fldIx_lookup h1 (by simpa using e)
theorem RpOs.get {K : PySem.W.Frag} {Hs H : Hp} : ∀ {ts : List OT} {vs : List V} {f : List Addr} {j : Nat} {t : OT}, RpOs K T Hs H ts vs f → ts[j]? = some t → ∃ v g, vs[j]? = some v ∧ RpO K T Hs H t v g ∧ ∀ a ∈ g, a ∈ f
  | _, _, _, j, _, .nil, e => by simp at e
  | _, _, _, 0, _, .cons (f := f1) h r, e => by simp at e; subst e; exact ⟨_, f1, rfl, h, fun a ha => by simp [ha]⟩
  | _, _, _, j + 1, _, .cons h r, e => by
    obtain ⟨v, g, h1, h2, h3⟩ := RpOs.get (j := j) r (by simpa using e)
    exact ⟨v, g, by simpa using h1, h2, fun a ha => by simp [h3 a ha]⟩
/-- a field of an object -/
theorem fld_of {K : PySem.W.Frag} {Hs H : Hp} {t u : OT} {f : Str} {x : V} {g : List Addr} (e : Ex Hs H) (h : RpO K T Hs H t x g) (hf : t.fld f = some u) :
    ∃ a C dx fs v g', x = .ref a ∧ H a = some (.ins C dx fs) ∧ Cls K C ∧ NoAttr K C f ∧ fs.lookup f = some v ∧ RpO K T Hs H u v g' ∧ ∀ b ∈ g', b ∈ g := by
  cases h with
  | sh h =>
    cases h with
    | obj h1 h2 h3 =>
      simp only [OT.fld, Option.map_eq_some_iff] at hf
      obtain ⟨d, hf, rfl⟩ := hf
      obtain ⟨j, h4, h5⟩ := Option.bind_eq_some_iff.mp hf
      obtain ⟨v, h6, h7⟩ := h3.get h5
      exact ⟨_, _, _, _, v, [], rfl, e _ _ h1, h2.2.cl, h2.2.na f (List.mem_of_getElem? (fldIx_get h4)), fldIx_lookup h4 h6, .sh h7, fun b hb => absurd hb (by simp)⟩
    | _ => simp [OT.fld] at hf
  | lst => simp [OT.fld] at hf
  | obj h1 h2 h3 =>
    simp only [OT.fld] at hf
    obtain ⟨j, h4, h5⟩ := Option.bind_eq_some_iff.mp hf
    obtain ⟨v, g', h6, h7, h8⟩ := h3.get h5
    exact ⟨_, _, _, _, v, g', rfl, h1, h2.2.cl, h2.2.na f (List.mem_of_getElem? (fldIx_get h4)), fldIx_lookup h4 h6, h7, fun b hb => by simp [h8 b hb]⟩
/-- which slot a name is, along which attributes -/
def visB (sc : Scope) (x : Str) : Bool := match sc.names.lookup x with
  | some .local => true
  | some .cell => true
  | some .free => true
  | _ => false
def glB (sc : Scope) (x : Str) : Bool := match sc.names.lookup x with
  | some .globalImplicit => true
  | _ => false
def locB (sc : Scope) (x : Str) : Bool := match sc.names.lookup x with
  | some .local => true
  | some .cell => true
  | _ => false
def slotB (N : List Str) (sc : Scope) (i : Nat) : Expr → Bool
  | .Name x _ => decide (N[i]? = some x) && visB sc x && !(x == ("__debug__" : Str)) && !(x == ("__classdict__" : Str))
  | _ => false
def pathB (N : List Str) (sc : Scope) (i : Nat) : List Str → Expr → Bool
  | [], e => slotB N sc i e
  | f :: p, .Attribute o a _ => decide (a = f) && pathB N sc i p o
  | _ :: _, _ => false
theorem vis_of {X : Cx} {x : Str} {sc : Scope} (hs : X.env.scope = sc) (h : visB sc x = true) : Vis X.env.scope x := by
  rw [hs]
  unfold visB at h
  split at h
  · exact .inl (by assumption)
  · exact .inr (.inl (by assumption))
  · exact .inr (.inr (by assumption))
  · cases h
theorem gl_of {X : Cx} {x : Str} {sc : Scope} (hs : X.env.scope = sc) (h : glB sc x = true) : Gl X x := by
  unfold glB at h
  split at h
  · show X.env.scope.names.lookup x = _
    rw [hs]; assumption
  · cases h
theorem loc_of {X : Cx} {x : Str} {sc : Scope} (hs : X.env.scope = sc) (h : locB sc x = true) : Loc X.env.scope x := by
  rw [hs]
  unfold locB at h
  split at h
  · exact .inl (by assumption)
  · exact .inr (by assumption)
  · cases h
theorem slot_of {sc : Scope} {i : Nat} (hs : X.env.scope = sc) (h : slotB X.N sc i e = true) : PE X e (tVar i) := by
  cases e with
  | Name x pos =>
    simp only [slotB, Bool.and_eq_true, decide_eq_true_eq, Bool.not_eq_true'] at h
    obtain ⟨⟨⟨h1, h2⟩, h3⟩, h4⟩ := h
    exact pe_var h1 (vis_of hs h2) h3 h4
  | _ => cases h
/-- an attribute's base that is no call -/
def notCallB : Expr → Bool
  | .Call .. => false
  | _ => true
theorem base_of {o : Expr} {a : Str} {env : PySem.Env} (h : notCallB o = true) : attributeBase o a env (eval o env) = eval o env := by
  cases o <;> first | rfl | cases h
theorem path_notCall {N : List Str} {sc : Scope} {i : Nat} : ∀ {p : List Str} {e : Expr}, pathB N sc i p e = true → notCallB e = true
  | [], e, h => by cases e <;> first | rfl | (simp [pathB, slotB] at h)
  | f :: p, e, h => by cases e <;> first | rfl | (simp [pathB] at h)
/-- a path is read -/
theorem path_read {sc : Scope} {i : Nat} (hs : X.env.scope = sc) {Hs H : Hp} (ex : Ex Hs H) {σ : L2.St} {t : OT} {x : V} {f : List Addr} (hx : σ[i]? = some (some x)) (r : RpO X.K T Hs H t x f) :
    ∀ {p : List Str} {e : Expr} {u : OT}, pathB X.N sc i p e = true → t.getP p = some u → ∃ v g, RpO X.K T Hs H u v g ∧ (∀ a ∈ g, a ∈ f) ∧ (p = [] → v = x) ∧ ∀ Q : VK, Q v H → wE X e σ H Q
  | [], e, u, h, hu => by
    cases Option.some.inj hu
    refine ⟨x, f, r, fun a ha => ha, fun _ => rfl, fun Q q => wE_of (slot_of hs (by simpa [pathB] using h)) ⟨x, hx, q⟩⟩
  | a :: p, e, u, h, hu => by
    cases e with
    | Attribute o b pos =>
      simp only [pathB, Bool.and_eq_true, decide_eq_true_eq] at h
      obtain ⟨rfl, h⟩ := h
      obtain ⟨w, h1, h2⟩ := Option.bind_eq_some_iff.mp (show (t.getP p).bind (fun u => u.fld b) = some u from hu)
      obtain ⟨v, g, r1, r2, _, r3⟩ := path_read hs ex hx r h h1
      obtain ⟨a', C, dx, fs, v', g', rfl, k1, k2, k3, k4, k5, k6⟩ := fld_of ex r1 h2
      exact ⟨v', g', k5, fun b hb => r2 b (k6 b hb), fun z => (List.cons_ne_nil _ _ z).elim, fun Q q => wE_of (pe_fld (peW X o) (base_of (path_notCall h))) (r3 _ ⟨a', C, dx, fs, v', rfl, k1, k2, k3, k4, q⟩)⟩
    | _ => simp [pathB] at h
/-- an operand that is borrowed and locked while the rest is reckoned -/
theorem sg_bor {α β : Type} {G : L2.St → Hp → (β → Hp → Prop) → Prop} {Rel : α → β → Hp → Hp → Prop} {sc : Scope} {i : Nat} {p : List Str} {rs : Env → R (α × Env)} (hs : X.env.scope = sc) (hp : pathB X.N sc i p e = true) {t : OT} (ht : ((Env.tree ρ i).bind fun r => r.getP p) = some t)
    (hr : SG X T W G Rel (lock ρ i) (rs (lock ρ i))) :
    SG X T W (fun σ H (Q : V × β → Hp → Prop) => wE X e σ H fun x H1 => G σ H1 fun b H2 => Q (x, b) H2) (fun a b Hs H => Opd X.K T Hs H a.1 b.1 ∧ Rel a.2 b.2 Hs H) ρ (match rs (lock ρ i) with
      | .ok (a, ρ2) => .ok ((t, a), unlock ρ ρ2 i)
      | .ex e ρ2 => .ex e (unlock ρ ρ2 i)
      | .no => .no) := by
  intro L σ H Hs fp Q h k
  obtain ⟨r, h1, h2⟩ := Option.bind_eq_some_iff.mp ht
  unfold Env.tree at h1
  split at h1
  · -- an own tree
    rename_i r' e0
    cases Option.some.inj h1
    obtain ⟨x, f, fr, l1, l2, l3, l4⟩ := h.locked e0
    obtain ⟨v, g, r1, r2, _, r3⟩ := path_read hs h.ex l1 l2 hp h2
    have eL : lock ρ i = ρ.set i (.lk r) := by unfold lock; rw [e0]
    rw [eL] at hr k
    refine r3 _ (hr (f ++ L) σ H Hs fr _ l4 ?_)
    have un : ∀ {ρ2 : Env} {H' Hs' : Hp} {fp' : List Addr}, Pst X.K T (f ++ L) σ Hs H fr (ρ.set i (.lk r)) ρ2 H' Hs' fp' → ∃ fp2, Pst X.K T L σ Hs H fp ρ (unlock ρ ρ2 i) H' Hs' fp2 := fun {ρ2 H' Hs' fp'} p => by
      obtain ⟨fp2, u1, u2, u3, _⟩ := Pst.unlocked (F := []) h e0 l1 l2 l3 l4 p.st p.sp (fun x hx => absurd hx (by simp)) p.lk (fun _ _ _ => rfl) rfl
      have eU : unlock ρ ρ2 i = ρ2.set i (.ow r) := by unfold unlock; rw [e0]
      exact ⟨fp2, by rw [eU]; exact u1, u2, by rw [eU]; exact u3⟩
    cases hq : rs (ρ.set i (.lk r)) with
    | ok q =>
      rw [hq] at k
      intro b H' Hs' fp' p o
      obtain ⟨fp2, pu⟩ := un p
      exact k (v, b) H' Hs' fp2 pu ⟨⟨g, r1.step p.sp.ex fun a ha o q => p.sp.fr a o q (l4.lf a (by simp [r2 a ha]))⟩, o⟩
    | ex e0' ρ2 =>
      rw [hq] at k
      intro H' Hs' fp' C d p
      obtain ⟨fp2, pu⟩ := un p.pst
      exact k H' Hs' fp2 C d ⟨pu, p.ex⟩
    | no => rw [hq] at k; exact k
  · -- a locked one
    rename_i r' e0
    cases Option.some.inj h1
    have eL : lock ρ i = ρ := by unfold lock; rw [e0]
    rw [eL] at hr k
    obtain ⟨x, f, l1, l2, l3⟩ := h.rs.readLk e0
    obtain ⟨v, g, r1, r2, _, r3⟩ := path_read hs h.ex l1 l2 hp h2
    have lkf : ∀ a ∈ g, a ∉ fp := fun a ha => h.lf a (l3 a (r2 a ha))
    refine r3 _ (hr L σ H Hs fp _ h ?_)
    have eU : ∀ ρ2, unlock ρ ρ2 i = ρ2 := fun ρ2 => by unfold unlock; rw [e0]
    cases hq : rs ρ with
    | ok q =>
      rw [hq] at k
      intro b H' Hs' fp' p o
      simp only [eU] at k
      exact k (v, b) H' Hs' fp' p ⟨⟨g, r1.keep lkf p.sp⟩, o⟩
    | ex e0' ρ2 =>
      rw [hq] at k
      simp only [eU] at k
      exact k
    | no => rw [hq] at k; exact k
  · cases h1
/-- rows of operands -/
theorem sos_cons {r : R ((OT × List OT) × Env)} (h : SG X T W (fun σ H (Q : V × List V → Hp → Prop) => wE X e σ H fun x H1 => wEs X es σ H1 fun b H2 => Q (x, b) H2) (fun a b Hs H => Opd X.K T Hs H a.1 b.1 ∧ Opds X.K T Hs H a.2 b.2) ρ r) :
    SOs X T W (e :: es) ρ (r.bind fun p => .ok (p.1.1 :: p.1.2, p.2)) := by
  intro L σ H Hs fp Q h0 k
  rw [cont_bind] at k
  exact h L σ H Hs fp (fun b H => Q (b.1 :: b.2) H) h0 (k.imp (fun p k b H' Hs' fp' p1 o => k (b.1 :: b.2) H' Hs' fp' p1 (.cons o.1 o.2)) fun _ _ x => x)
end
end CH
end
section
namespace CH
open PySem L2 Evl PyProof.Rows

theorem wE.mono {X : Cx} {e : Expr} {σ : L2.St} {H : Hp} {Q Q' : VK} (h : wE X e σ H Q) (k : ∀ v H, Q v H → Q' v H) : wE X e σ H Q' := fun pins s I =>
  thn (h pins s I) fun u s' ⟨v, H', I', r, q⟩ => ⟨v, H', I', r, k v H' q⟩
theorem wEs.mono {X : Cx} : ∀ {es : List Expr} {σ : L2.St} {H : Hp} {Q Q' : List V → Hp → Prop}, wEs X es σ H Q → (∀ v H, Q v H → Q' v H) → wEs X es σ H Q'
  | [], _, _, _, _, h, k => k _ _ h
  | e :: es, _, _, _, _, h, k => wE.mono (show wE X e _ _ _ from h) fun v H q => wEs.mono (es := es) q fun vs H q => k _ _ q
/-- the operands, then what the operation gives -/
def tRC (X : Cx) (T : Tab) (o : Op) (es : List Expr) : TE := fun σ H Q => wEs X es σ H fun vs H1 => rCS X.K T o.ev vs H1 Q

theorem wE1 {X : Cx} {a : Expr} {σ : L2.St} {H : Hp} {Q' : List V → Hp → Prop} {Q : V → Hp → Prop} (hw : wEs X [a] σ H Q') (k : ∀ x H, Q' [x] H → Q x H) : wE X a σ H Q := wE.mono (show wE X a σ H fun x H1 => Q' [x] H1 from hw) k
theorem wE2 {X : Cx} {a b : Expr} {σ : L2.St} {H : Hp} {Q' : List V → Hp → Prop} {Q : V → V → Hp → Prop} (hw : wEs X [a, b] σ H Q') (k : ∀ x y H, Q' [x, y] H → Q x y H) : wE X a σ H fun x H1 => wE X b σ H1 fun y H2 => Q x y H2 :=
  wE.mono (show wE X a σ H fun x H1 => wE X b σ H1 fun y H2 => Q' [x, y] H2 from hw) fun x H1 hw => wE.mono hw fun y H2 q => k x y H2 q
theorem wE3 {X : Cx} {a b c : Expr} {σ : L2.St} {H : Hp} {Q' : List V → Hp → Prop} {Q : V → V → V → Hp → Prop} (hw : wEs X [a, b, c] σ H Q') (k : ∀ x y z H, Q' [x, y, z] H → Q x y z H) : wE X a σ H fun x H1 => wE X b σ H1 fun y H2 => wE X c σ H2 fun z H3 => Q x y z H3 :=
  wE.mono (show wE X a σ H fun x H1 => wE X b σ H1 fun y H2 => wE X c σ H2 fun z H3 => Q' [x, y, z] H3 from hw) fun x H1 hw => wE.mono hw fun y H2 hw => wE.mono hw fun z H3 q => k x y z H3 q

def Bo.ast : Bo → Operator
  | .add => .Add | .sub => .Sub | .mul => .Mult | .mod => .Mod | .fdiv => .FloorDiv | .pow => .Pow
def Cm.ast : Cm → CmpOp
  | .eq => .Eq | .ne => .NotEq | .lt => .Lt | .le => .LtE | .gt => .Gt | .ge => .GtE | .is => .Is | .isnot => .IsNot | .in_ => .In | .notin => .NotIn
def Bi.nm : Bi → Str
  | .len => "len" | .abs => "abs" | .int => "int" | .bool => "bool" | .tuple => "tuple" | .list => "list" | .any => "any" | .all => "all" | .sum => "sum" | .sorted => "sorted" | .max2 => "max" | .min2 => "min" | .max1 => "max" | .min1 => "min" | .repr => "repr"
def Bi.id : Bi → String
  | .len => "len" | .abs => "abs" | .int => "int" | .bool => "bool" | .tuple => "tuple" | .list => "list" | .any => "any" | .all => "all" | .sum => "sum" | .sorted => "sorted" | .max2 => "max" | .min2 => "min" | .max1 => "max" | .min1 => "min" | .repr => "repr"
def tyNmB (tys : List String) (bn : List Str) (sc : Scope) : List Expr → Bool := fun es => match tys, es with
  | [], [] => true
  | n :: tys, .Name x _ :: es => decide (x = Str.ofString n) && glB sc x && bn.contains x && tyB.contains n && tyNmB tys bn sc es
  | _, _ => false
def plainIxB : Expr → Bool
  | .Slice .. => false
  | _ => true
def nostar (es : List Expr) : Bool := es.all fun e => !isStar e
def optL (k : Bool) (o : Option Expr) : Option (List Expr) := match k, o with
  | true, some e => some [e]
  | false, none => some []
  | _, _ => none
def opShape (bn : List Str) (sc : Scope) : Op → Expr → Option (List Expr)
  | .bin b, .BinOp l o r _ => guard_ (decide (o = b.ast)) [l, r]
  | .neg, .UnaryOp .USub x _ => some [x]
  | .cmp c, .Compare l [o] [r] _ => guard_ (decide (o = c.ast) && !behindInMarks o r) [l, r]
  | .idx, .Subscript a b _ => guard_ (plainIxB b) [a, b]
  | .fld f, .Attribute o a _ => guard_ (decide (a = f) && notCallB o) [o]
  | .bi b, .Call (.Name x _) args [] _ => guard_ (decide (x = b.nm) && glB sc x && bn.contains x && nostar args && !args.isEmpty) args
  | .isi [n], .Call (.Name x _) [v, .Name y q] [] _ => guard_ (decide (x = ("isinstance" : Str)) && glB sc x && bn.contains x && nostar [v] && tyNmB [n] bn sc [.Name y q]) [v]
  | .isi (n :: m :: tys), .Call (.Name x _) [v, .Tuple es _ _] [] _ => guard_ (decide (x = ("isinstance" : Str)) && glB sc x && bn.contains x && nostar [v] && tyNmB (n :: m :: tys) bn sc es && decide (es.length ≤ 1000)) [v]
  | .rng 1 false, .Call (.Name x _) [.Call (.Name y _) [a] [] _] [] _ => guard_ (decide (x = ("list" : Str)) && glB sc x && bn.contains x && decide (y = ("range" : Str)) && glB sc y && bn.contains y && nostar [a]) [a]
  | .rng 2 false, .Call (.Name x _) [.Call (.Name y _) [a, b] [] _] [] _ => guard_ (decide (x = ("list" : Str)) && glB sc x && bn.contains x && decide (y = ("range" : Str)) && glB sc y && bn.contains y && nostar [a, b]) [a, b]
  | .rng 1 true, .Call (.Name x _) [.Call (.Name y _) [a] [] _] [] _ => guard_ (decide (x = ("tuple" : Str)) && glB sc x && bn.contains x && decide (y = ("range" : Str)) && glB sc y && bn.contains y && nostar [a]) [a]
  | .rng 2 true, .Call (.Name x _) [.Call (.Name y _) [a, b] [] _] [] _ => guard_ (decide (x = ("tuple" : Str)) && glB sc x && bn.contains x && decide (y = ("range" : Str)) && glB sc y && bn.contains y && nostar [a, b]) [a, b]
  | .meth m, .Call (.Attribute o nm apos) [] [] cpos => guard_ (decide (m = "upper") && decide (nm = ("upper" : Str)) && notCallB o && (apos.endLine == cpos.line)) [o]
  | .kin x ng _, .Compare l [o] [.Name y _] _ => guard_ (decide (x = y) && glB sc y && !(y == ("__debug__" : Str)) && decide (o = if ng then .NotIn else .In)) [l]
  | .kget x _, .Subscript (.Name y _) b _ => guard_ (decide (x = y) && glB sc y && !(y == ("__debug__" : Str)) && plainIxB b) [b]
  | .rev, .Subscript o (.Slice none none (some (.UnaryOp .USub (.Constant (.int 1) _ _) _)) _) _ => some [o]
  | _, _ => none
/-- a dict of the module, text keys, ints behind them -/
def DctK (K : PySem.W.Frag) (w : World) (mg : Str → Option Value) (x : Str) (kvs : List (Str × Int)) : Prop := ∃ (d : Addr) (es : Array DictEntry) (n : Nat), mg x = some (.ref d) ∧ KDict K w d es n ∧ (∀ z n, kvs.lookup z = some n → ∃ t, PySem.W.nsIn K d z = some (some (.int n t))) ∧ ∀ z, kvs.lookup z = none → PySem.W.nsIn K d z = some none
def DctOk (X : Cx) (x : Str) (kvs : List (Str × Int)) : Prop := DctK X.K X.w X.mg x kvs
def OpK (X : Cx) : Op → Prop
  | .kin x _ kvs => DctOk X x kvs
  | .kget x kvs => DctOk X x kvs
  | _ => True
section
variable {X : Cx} {T : Tab} {sc : Scope} {e : Expr} {es : List Expr}
theorem ev2 {o : Op} {f : OT → OT → Option OT} {ts : List OT} {w : OT} {x y : V} {Hs H : Hp} (h : ∀ ts w, o.ev ts = some w → ∃ s t, ts = [s, t] ∧ f s t = some w) (hev : o.ev ts = some w) (ho : Opds X.K T Hs H ts [x, y]) : ∃ s t, Opd X.K T Hs H s x ∧ Opd X.K T Hs H t y ∧ f s t = some w := by
  obtain ⟨s, t, rfl, h2⟩ := h ts w hev
  obtain ⟨x', y', e, o1, o2⟩ := opds2 ho
  cases e
  exact ⟨s, t, o1, o2, h2⟩
theorem ev1 {o : Op} {f : OT → Option OT} {ts : List OT} {w : OT} {x : V} {Hs H : Hp} (h : ∀ ts w, o.ev ts = some w → ∃ s, ts = [s] ∧ f s = some w) (hev : o.ev ts = some w) (ho : Opds X.K T Hs H ts [x]) : ∃ s, Opd X.K T Hs H s x ∧ f s = some w := by
  obtain ⟨s, rfl, h2⟩ := h ts w hev
  obtain ⟨x', e, o1⟩ := opds1 ho
  cases e
  exact ⟨s, o1, h2⟩
theorem two_ev {o : Op} {f : OT → OT → Option OT} (h2 : ∀ s t, o.ev [s, t] = f s t) (h0 : o.ev [] = none) (h1 : ∀ s, o.ev [s] = none) (h3 : ∀ s t u r, o.ev (s :: t :: u :: r) = none) : ∀ ts w, o.ev ts = some w → ∃ s t, ts = [s, t] ∧ f s t = some w
  | [], w, h => by rw [h0] at h; cases h
  | [s], w, h => by rw [h1] at h; cases h
  | [s, t], w, h => ⟨s, t, rfl, by rw [← h2]; exact h⟩
  | s :: t :: u :: r, w, h => by rw [h3] at h; cases h
theorem one_ev {o : Op} {f : OT → Option OT} (h1 : ∀ s, o.ev [s] = f s) (h0 : o.ev [] = none) (h2 : ∀ s t r, o.ev (s :: t :: r) = none) : ∀ ts w, o.ev ts = some w → ∃ s, ts = [s] ∧ f s = some w
  | [], w, h => by rw [h0] at h; cases h
  | [s], w, h => ⟨s, rfl, by rw [← h1]; exact h⟩
  | s :: t :: r, w, h => by rw [h2] at h; cases h
theorem sh_bin {b : Bo} (h : opShape T.bn sc (.bin b) e = some es) : PE X e (tRC X T (.bin b) es) := by
  cases e <;> first | (simp [opShape] at h; done) | skip
  rename_i l o r pos
  obtain ⟨h1, rfl⟩ := guard_eq (show guard_ (decide (o = b.ast)) [l, r] = some es from h)
  cases of_decide_eq_true h1
  have key : ∀ {rl : OpR X (binaryOp b.ast) (rOpS X.K T (binEv b))}, PE X (.BinOp l b.ast r pos) (tRC X T (.bin b) [l, r]) := fun {rl} => ⟨fun pins s σ H Q I hw =>
    (pe_op rl (peW X l) (peW X r)).run pins s σ H Q I (wE2 hw fun x y H1 ⟨Hs, ts, w, ex, o, hev, q⟩ => by
      obtain ⟨s1, t1, o1, o2, h2⟩ := ev2 (two_ev (fun _ _ => rfl) rfl (fun _ => rfl) (fun _ _ _ _ => rfl)) hev o
      exact ⟨Hs, s1, t1, w, ex, o1, o2, h2, q⟩)⟩
  cases b
  · exact key (rl := os_add)
  · exact key (rl := os_sub)
  · exact key (rl := os_mul)
  · exact key (rl := os_mod)
  · exact key (rl := os_fdiv)
  · exact key (rl := os_pow)
theorem sh_neg (h : opShape T.bn sc .neg e = some es) : PE X e (tRC X T .neg es) := by
  cases e <;> first | (simp [opShape] at h; done) | skip
  rename_i o x pos
  cases o <;> first | (simp [opShape] at h; done) | skip
  cases Option.some.inj (show some [x] = some es from h)
  exact ⟨fun pins s σ H Q I hw => (pe_un us_neg (peW X x)).run pins s σ H Q I (wE1 hw fun x H1 ⟨Hs, ts, w, ex, o, hev, q⟩ => by
    obtain ⟨s1, o1, h2⟩ := ev1 (one_ev (f := negEv) (fun _ => rfl) rfl (fun _ _ _ => rfl)) hev o
    exact ⟨Hs, s1, w, ex, o1, h2, q⟩)⟩
theorem bl_new {H Hs : Hp} {Q : VK} {b : Bool} (ex : Ex Hs H) (q : ∀ z H' Hs' ft, New X.K T Hs H (.sh (.bl b)) z H' Hs' ft → Q z H') : Q (.bl b) H := q _ _ _ _ (New.val ex (.bl b))
theorem sh_cmp {c : Cm} (hu : X.A.units + 66 < cLine) (h : opShape T.bn sc (.cmp c) e = some es) : PE X e (tRC X T (.cmp c) es) := by
  cases e <;> first | (simp [opShape] at h; done) | skip
  rename_i l ops rs pos
  match ops, rs, h with
  | [o], [r], h =>
    obtain ⟨h1, rfl⟩ := guard_eq (show guard_ (decide (o = c.ast) && !behindInMarks o r) [l, r] = some es from h)
    rw [Bool.and_eq_true, Bool.not_eq_true'] at h1
    obtain ⟨h1, h2⟩ := h1
    cases of_decide_eq_true h1
    have key : ∀ {rl : OpR X (compareOp c.ast) (rCmS X.K T (cmpEv c))}, PE X (.Compare l [c.ast] [r] pos) (tRC X T (.cmp c) [l, r]) := fun {rl} => ⟨fun pins s σ H Q I hw =>
      (pe_cmpR rl (peW X l) (peW X r) h2).run pins s σ H Q I (wE2 hw fun x y H1 ⟨Hs, ts, w, ex, o, hev, q⟩ => by
        obtain ⟨s1, t1, o1, o2, h2⟩ := ev2 (two_ev (f := fun s t => (cmpEv c s t).map fun b => .sh (.bl b)) (fun _ _ => rfl) rfl (fun _ => rfl) (fun _ _ _ _ => rfl)) hev o
        obtain ⟨b, h3, rfl⟩ := Option.map_eq_some_iff.mp h2
        exact ⟨Hs, s1, t1, b, ex, o1, o2, h3, bl_new ex q⟩)⟩
    cases c
    · exact key (rl := cs_eq (by omega))
    · exact key (rl := cs_ne (by omega))
    · exact key (rl := cs_lt (by omega))
    · exact key (rl := cs_le)
    · exact key (rl := cs_gt)
    · exact key (rl := cs_ge)
    · exact key (rl := cs_is)
    · exact key (rl := cs_isnot)
    · exact key (rl := cs_in (by omega))
    · exact key (rl := cs_notin (by omega))
  | [], _, h => simp [opShape] at h
  | _ :: _ :: _, _, h => simp [opShape] at h
  | [_], [], h => simp [opShape] at h
  | [_], _ :: _ :: _, h => simp [opShape] at h
theorem plainIx_of {b : Expr} (h : plainIxB b = true) : PlainIx b := by cases b <;> first | (exact fun _ _ => rfl) | cases h
theorem sh_idx (h : opShape T.bn sc .idx e = some es) : PE X e (tRC X T .idx es) := by
  cases e <;> first | (simp [opShape] at h; done) | skip
  rename_i a b pos
  obtain ⟨h1, rfl⟩ := guard_eq (show guard_ (plainIxB b) [a, b] = some es from h)
  exact ⟨fun pins s σ H Q I hw => (pe_ix ixs (peW X a) (peW X b) (plainIx_of h1)).run pins s σ H Q I (wE2 hw fun x y H1 ⟨Hs, ts, w, ex, o, hev, q⟩ => by
    obtain ⟨s1, t1, o1, o2, h2⟩ := ev2 (two_ev (o := .idx) (f := idx2Ev) (fun _ t => by cases t with
      | sh d => cases d <;> rfl
      | lst ts => rfl
      | obj => rfl) rfl (fun _ => rfl) (fun _ t _ _ => by cases t with
      | sh d => cases d <;> rfl
      | lst ts => rfl
      | obj => rfl)) hev o
    exact ⟨Hs, s1, t1, w, ex, o1, o2, h2, q⟩)⟩
theorem sh_fld {f : Str} (h : opShape T.bn sc (.fld f) e = some es) : PE X e (tRC X T (.fld f) es) := by
  cases e <;> first | (simp [opShape] at h; done) | skip
  rename_i o a pos
  obtain ⟨h1, rfl⟩ := guard_eq (show guard_ (decide (a = f) && notCallB o) [o] = some es from h)
  rw [Bool.and_eq_true] at h1
  cases of_decide_eq_true h1.1
  exact ⟨fun pins s σ H Q I hw => (pe_fld (peW X o) (base_of h1.2)).run pins s σ H Q I (wE1 hw fun x H1 ⟨Hs, ts, w, ex, o, hev, q⟩ => by
    obtain ⟨s1, o1, h2⟩ := ev1 (one_ev (o := .fld f) (f := fun t => match t.fld f with
      | some (.sh d) => some (.sh d)
      | _ => none) (fun _ => rfl) rfl (fun _ _ _ => rfl)) hev o
    obtain ⟨g, r⟩ := o1
    split at h2
    · rename_i d hd
      cases Option.some.inj h2
      obtain ⟨a', C, dx, fs, v, g', rfl, k1, k2, k3, k4, k5, _⟩ := fld_of ex r hd
      cases k5 with
      | sh k5 => exact ⟨a', C, dx, fs, v, rfl, k1, k2, k3, k4, q _ _ _ _ (New.val ex k5)⟩
    · cases h2)⟩
theorem New.up {K : PySem.W.Frag} {H Hs : Hp} {d : D} {z : V} {p : Addr} {o : HO} (e : Ex Hs H) (hp : H p = none) (r : Rp K T Hs d z) : New K T Hs H (.sh d) z (upd H p o) Hs [] :=
  ⟨Ex.new hp, Ex.refl _, e.trans (Ex.new hp), .sh r, .nil, fun a h => absurd h (by simp), fun _ _ h => .inl h⟩
theorem one_isi {tys : List String} : ∀ ts w, (Op.isi tys).ev ts = some w → ∃ s, ts = [s] ∧ (s.toD.tyName.map fun a => OT.sh (.bl (tys.any fun b => isTy a b))) = some w := one_ev (o := .isi tys) (fun _ => rfl) rfl (fun _ _ _ => rfl)
theorem bn_of (hb : ∀ x ∈ T.bn, X.mg x = none) {x : Str} (h : T.bn.contains x = true) : X.mg x = none := hb x (by simpa using h)
theorem boot_tyB : (tyB.all fun n => decide (bootBuiltins (Str.ofString n) = some (.type n)) && !(Str.ofString n == ("__name__" : Str)) && !(Str.ofString n == ("__debug__" : Str))) = true := by decide +kernel
theorem ty_pe (hs : X.env.scope = sc) (hb : ∀ x ∈ T.bn, X.mg x = none) {n : String} {x : Str} {p : Pos} (h1 : x = Str.ofString n) (h2 : glB sc x = true) (h3 : T.bn.contains x = true) (h4 : tyB.contains n = true) : PE X (.Name x p) (tC (.ty n)) := by
  have h := boot_tyB
  rw [List.all_eq_true] at h
  have h := h n (by simpa using h4)
  simp only [Bool.and_eq_true, Bool.not_eq_true', decide_eq_true_eq] at h
  subst h1
  exact pe_bltn (gl_of hs h2) (bn_of hb h3) h.1.1 rfl (fun e => by rw [e] at h; exact absurd h.1.2 (by decide)) h.2
/-- a row of built-in types by name -/
def tTys : List String → TA
  | [] => tNil
  | n :: r => tCons (tC (.ty n)) (tTys r)
theorem tTys_read : ∀ (tys : List String) (σ : L2.St) (H : Hp) (Q : List V → Hp → Prop), Q (tys.map V.ty) H → tTys tys σ H Q
  | [], _, _, _, q => q
  | n :: r, σ, H, Q, q => tTys_read r σ H _ q
theorem tys_pa (hs : X.env.scope = sc) (hb : ∀ x ∈ T.bn, X.mg x = none) : ∀ (tys : List String) (es : List Expr), tyNmB tys T.bn sc es = true → PA X es (tTys tys) ∧ (∀ n ∈ tys, n ∈ tyB) ∧ tys.length = es.length
  | [], [], _ => ⟨pa_nil, fun _ h => absurd h (by simp), rfl⟩
  | [], _ :: _, h => by simp [tyNmB] at h
  | _ :: _, [], h => by simp [tyNmB] at h
  | n :: r, e :: es, h => by
    unfold tyNmB at h
    split at h
    · contradiction
    · rename_i e1 e2
      cases e1
      cases e2
      simp only [Bool.and_eq_true, decide_eq_true_eq] at h
      obtain ⟨⟨⟨⟨h1, h2⟩, h3⟩, h4⟩, h5⟩ := h
      obtain ⟨q1, q2, q3⟩ := tys_pa hs hb r es h5
      exact ⟨pa_cons (ty_pe hs hb h1 h2 h3 h4) q1, fun m hm => by
        rcases List.mem_cons.mp hm with rfl | hm
        · simpa using h4
        · exact q2 m hm, by simp [q3]⟩
    · cases h
theorem paired_ty : ∀ tys : List String, Paired ClsV (tys.map V.ty) (tys.map Value.type)
  | [] => .nil
  | n :: r => .cons (.ty n) (paired_ty r)
theorem boot_isi : bootBuiltins ("isinstance" : Str) = some (.builtin "isinstance") := by decide +kernel
theorem sh_isi (hs : X.env.scope = sc) (hb : ∀ x ∈ T.bn, X.mg x = none) {tys : List String} (h : opShape T.bn sc (.isi tys) e = some es) : PE X e (tRC X T (.isi tys) es) := by
  unfold opShape at h
  split at h <;> first | contradiction | skip
  · rename_i n x px v y q pos heq
    cases heq
    obtain ⟨h1, rfl⟩ := guard_eq h
    simp only [Bool.and_eq_true] at h1
    obtain ⟨⟨⟨⟨k1, k2⟩, k3⟩, k4⟩, k5⟩ := h1
    cases of_decide_eq_true k1
    obtain ⟨q1, q2, _⟩ := tys_pa hs hb [n] [.Name y q] k5
    have kv : isStar v = false := by simpa [nostar] using k4
    refine ⟨fun pins s σ H Q I hw => (pe_callB call_isi (gl_of hs k2) (bn_of hb k3) boot_isi (pa_cons (peW X v) q1 (star_cons kv)) (by decide) (by decide) (star_cons kv) rfl).run pins s σ H Q I (wE1 hw fun x H1 ⟨Hs, ts, w, ex, o, hev, q⟩ => ?_)⟩
    obtain ⟨s1, o1, h2⟩ := ev1 one_isi hev o
    obtain ⟨a, h3, rfl⟩ := Option.map_eq_some_iff.mp h2
    obtain ⟨z1, z2⟩ := ty_of (opd_toD ex o1) h3
    exact ⟨x, .ty n, .type a, .type n, isTy a n, rfl, .ty n, z1, kit_one z2 (q2 n (by simp)), by
      have e1 : ([n].any fun b => isTy a b) = isTy a n := by simp
      rw [e1] at q
      exact bl_new ex q⟩
  · rename_i n m r x px v ts k pt pos heq
    cases heq
    obtain ⟨h1, rfl⟩ := guard_eq h
    simp only [Bool.and_eq_true] at h1
    obtain ⟨⟨⟨⟨⟨k1, k2⟩, k3⟩, k4⟩, k5⟩, k6⟩ := h1
    cases of_decide_eq_true k1
    obtain ⟨q1, q2, q3⟩ := tys_pa hs hb (n :: m :: r) ts k5
    have kv : isStar v = false := by simpa [nostar] using k4
    have hlen := of_decide_eq_true k6
    refine ⟨fun pins s σ H Q I hw => (pe_callB call_isiT (gl_of hs k2) (bn_of hb k3) boot_isi (pa_cons (peW X v) (pa_cons (pe_tup q1) pa_nil) (star_cons kv)) (by decide) (by decide) (star_cons kv) rfl).run pins s σ H Q I (wE1 hw fun x H1 ⟨Hs, ts, w, ex, o, hev, q⟩ => ?_)⟩
    obtain ⟨s1, o1, h2⟩ := ev1 one_isi hev o
    obtain ⟨a, h3, rfl⟩ := Option.map_eq_some_iff.mp h2
    refine tTys_read _ σ H1 _ ⟨Nat.le_of_lt (small1000 (by rw [List.length_map, q3]; exact hlen)), fun p hp => ?_⟩
    obtain ⟨z1, z2⟩ := ty_of ((opd_toD ex o1).mono (Ex.new (o := .tup ((n :: m :: r).map V.ty)) hp)) h3
    exact ⟨x, p, _, .type a, _, _, rfl, upd_same, paired_ty _, z1, kit_any z2 _ q2, q _ _ _ _ (New.up ex hp (.bl _))⟩
theorem boot_bi : ([Bi.len, .abs, .any, .all, .sum, .sorted, .max2, .min2, .max1, .min1, .repr].all fun b => decide (bootBuiltins b.nm = some (.builtin b.id)) && !(b.nm == ("__name__" : Str)) && !(b.nm == ("__debug__" : Str))) = true := by decide +kernel
theorem boot_bt : ([Bi.int, .bool, .tuple, .list].all fun b => decide (bootBuiltins b.nm = some (.type b.id)) && !(b.nm == ("__name__" : Str)) && !(b.nm == ("__debug__" : Str))) = true := by decide +kernel
theorem sh_bi {b : Bi} (gd : X.A.guards = some []) (hu : X.A.units + 66 < cLine) (hs : X.env.scope = sc) (hb : ∀ x ∈ T.bn, X.mg x = none) (hc : X.calm = true) (h : opShape T.bn sc (.bi b) e = some es) : PE X e (tRC X T (.bi b) es) := by
  unfold opShape at h
  split at h <;> first | contradiction | skip
  rename_i b' x px args pos heq
  cases heq
  obtain ⟨h1, rfl⟩ := guard_eq h
  simp only [Bool.and_eq_true] at h1
  obtain ⟨⟨⟨⟨k1, k2⟩, k3⟩, k4⟩, k5⟩ := h1
  cases of_decide_eq_true k1
  cases args with
  | nil => simp at k5
  | cons a as =>
    have ka : isStar a = false ∧ nostar as = true := by simpa [nostar] using k4
    have mk : ∀ {f : Bi}, f.nm = b.nm → bootBuiltins f.nm = some (.builtin f.id) → f.nm ≠ "__name__" → (f.nm == ("__debug__" : Str)) = false → CallR X (.builtin f.id) (rCS X.K T (biEv b)) → PE X (.Call (.Name b.nm px) (a :: as) [] pos) (tRC X T (.bi b) (a :: as)) := fun {f} e1 e2 e3 e4 rl => by
      rw [e1] at e2 e3 e4
      exact ⟨fun pins s σ H Q I hw => (pe_callB rl (gl_of hs k2) (bn_of hb k3) e2 (paW X (a :: as) k4) e3 e4 (star_cons ka.1) (star_any ka.2)).run pins s σ H Q I hw⟩
    have mt : ∀ {f : Bi}, f.nm = b.nm → bootBuiltins f.nm = some (.type f.id) → f.nm ≠ "__name__" → (f.nm == ("__debug__" : Str)) = false → CallR X (.type f.id) (rCS X.K T (biEv b)) → PE X (.Call (.Name b.nm px) (a :: as) [] pos) (tRC X T (.bi b) (a :: as)) := fun {f} e1 e2 e3 e4 rl => by
      rw [e1] at e2 e3 e4
      exact ⟨fun pins s σ H Q I hw => (pe_callTy rl (gl_of hs k2) (bn_of hb k3) e2 (paW X (a :: as) k4) e3 e4 (star_cons ka.1) (star_any ka.2)).run pins s σ H Q I hw⟩
    have bb : ∀ f ∈ [Bi.len, .abs, .any, .all, .sum, .sorted, .max2, .min2, .max1, .min1, .repr], bootBuiltins f.nm = some (.builtin f.id) ∧ f.nm ≠ "__name__" ∧ (f.nm == ("__debug__" : Str)) = false := fun f hf => by
      have h := boot_bi
      rw [List.all_eq_true] at h
      have h := h f hf
      simp only [Bool.and_eq_true, Bool.not_eq_true', decide_eq_true_eq] at h
      exact ⟨h.1.1, fun e => by rw [e] at h; exact absurd h.1.2 (by decide), h.2⟩
    have bt : ∀ f ∈ [Bi.int, .bool, .tuple, .list], bootBuiltins f.nm = some (.type f.id) ∧ f.nm ≠ "__name__" ∧ (f.nm == ("__debug__" : Str)) = false := fun f hf => by
      have h := boot_bt
      rw [List.all_eq_true] at h
      have h := h f hf
      simp only [Bool.and_eq_true, Bool.not_eq_true', decide_eq_true_eq] at h
      exact ⟨h.1.1, fun e => by rw [e] at h; exact absurd h.1.2 (by decide), h.2⟩
    cases b
    · obtain ⟨z1, z2, z3⟩ := bb .len (by simp); exact mk rfl z1 z2 z3 bi_len
    · obtain ⟨z1, z2, z3⟩ := bb .abs (by simp); exact mk rfl z1 z2 z3 bi_abs
    · obtain ⟨z1, z2, z3⟩ := bt .int (by simp); exact mt rfl z1 z2 z3 bi_int
    · obtain ⟨z1, z2, z3⟩ := bt .bool (by simp); exact mt rfl z1 z2 z3 bi_bool
    · obtain ⟨z1, z2, z3⟩ := bt .tuple (by simp); exact mt rfl z1 z2 z3 bi_tuple
    · obtain ⟨z1, z2, z3⟩ := bt .list (by simp); exact mt rfl z1 z2 z3 (bi_list hc)
    · obtain ⟨z1, z2, z3⟩ := bb .any (by simp); exact mk rfl z1 z2 z3 (bi_any hc)
    · obtain ⟨z1, z2, z3⟩ := bb .all (by simp); exact mk rfl z1 z2 z3 (bi_all hc)
    · obtain ⟨z1, z2, z3⟩ := bb .sum (by simp); exact mk rfl z1 z2 z3 (bi_sum hc)
    · obtain ⟨z1, z2, z3⟩ := bb .sorted (by simp); exact mk rfl z1 z2 z3 (bi_sorted hu)
    · obtain ⟨z1, z2, z3⟩ := bb .max2 (by simp); exact mk rfl z1 z2 z3 (bi_max2 hc)
    · obtain ⟨z1, z2, z3⟩ := bb .min2 (by simp); exact mk rfl z1 z2 z3 (bi_min2 hc)
    · obtain ⟨z1, z2, z3⟩ := bb .max1 (by simp); exact mk rfl z1 z2 z3 (bi_max1 hc)
    · obtain ⟨z1, z2, z3⟩ := bb .min1 (by simp); exact mk rfl z1 z2 z3 (bi_min1 hc)
    · obtain ⟨z1, z2, z3⟩ := bb .repr (by simp); exact mk rfl z1 z2 z3 (bi_repr gd hu)
theorem rps_rg {K : PySem.W.Frag} {H : Hp} (a b : Int) : Rps K T H ((List.range (b - a).toNat).map fun i => D.int (a + (i : Nat))) (rgV a b) := by
  unfold rgV
  generalize List.range (b - a).toNat = l
  induction l with
  | nil => exact .nil
  | cons n l ih => exact .cons (.int _) ih
theorem rng_of {H Hs : Hp} {Q : VK} {tu : Bool} {i j : Int} {w : OT} (ex : Ex Hs H) (hev : rngEv tu i j = some w) (q : ∀ z H' Hs' ft, New X.K T Hs H w z H' Hs' ft → Q z H') :
    RgOk i j ∧ ∀ p, H p = none → if tu = true then Q (.ref p) (upd H p (.tup (rgV i j))) else Q (.ref p) (upd H p (.lst (rgV i j))) := by
  unfold rngEv at hev
  obtain ⟨h1, rfl⟩ := guard_eq hev
  obtain ⟨a, b, c, d, e⟩ := of_decide_eq_true h1
  refine ⟨⟨a, b, c, d, by unfold big at e; omega⟩, fun p hp => ?_⟩
  cases tu with
  | true => exact q _ _ _ _ (New.tup ex hp (rps_rg i j))
  | false => exact q _ _ _ _ (New.newL ex hp (rps_rg i j))
theorem rng1_ev {n : Nat} {tu : Bool} {ts : List OT} {w : OT} {x : V} {Hs H : Hp} (hev : (Op.rng n tu).ev ts = some w) (o : Opds X.K T Hs H ts [x]) : ∃ j, x = .int j ∧ rngEv tu 0 j = some w := by
  cases o with
  | cons o r =>
    cases r
    rename_i t
    unfold Op.ev at hev
    split at hev <;> first | contradiction | skip
    · rename_i e1 e2
      cases e1; cases e2
      exact ⟨_, opd_int o, hev⟩
    · rename_i e1 e2
      cases e2
theorem rng2_ev {n : Nat} {tu : Bool} {ts : List OT} {w : OT} {x y : V} {Hs H : Hp} (hev : (Op.rng n tu).ev ts = some w) (o : Opds X.K T Hs H ts [x, y]) : ∃ i j, x = .int i ∧ y = .int j ∧ rngEv tu i j = some w := by
  cases o with
  | cons o r =>
    cases r with
    | cons o2 r =>
      cases r
      unfold Op.ev at hev
      split at hev <;> first | contradiction | skip
      · rename_i e1 e2
        cases e2
      · rename_i e1 e2
        cases e1; cases e2
        exact ⟨_, _, opd_int o, opd_int o2, hev⟩
theorem sh_rng {n : Nat} {tu : Bool} (hs : X.env.scope = sc) (hb : ∀ x ∈ T.bn, X.mg x = none) (hc : X.calm = true) (h : opShape T.bn sc (.rng n tu) e = some es) : PE X e (tRC X T (.rng n tu) es) := by
  unfold opShape at h
  split at h <;> first | contradiction | skip
  · rename_i x px y py a q1 q2 heq
    cases heq
    obtain ⟨h1, rfl⟩ := guard_eq h
    simp only [Bool.and_eq_true] at h1
    obtain ⟨⟨⟨⟨⟨⟨k1, k2⟩, k3⟩, k4⟩, k5⟩, k6⟩, k7⟩ := h1
    cases of_decide_eq_true k1
    cases of_decide_eq_true k4
    have ka : isStar a = false := by simpa [nostar] using k7
    refine ⟨fun pins s σ H Q I hw => (pe_listRg hc (gl_of hs k2) (bn_of hb k3) (prg_1 (gl_of hs k5) (bn_of hb k6) (peW X a) (star_cons ka)) rfl).run pins s σ H Q I (wE1 hw fun x H1 ⟨Hs, ts, w, ex, o, hev, q⟩ => ?_)⟩
    obtain ⟨j, rfl, hev⟩ := rng1_ev hev o
    obtain ⟨r1, r2⟩ := rng_of ex hev q
    exact ⟨j, rfl, r1, fun p hp => by simpa using r2 p hp⟩
  · rename_i x px y py a b q1 q2 heq
    cases heq
    obtain ⟨h1, rfl⟩ := guard_eq h
    simp only [Bool.and_eq_true] at h1
    obtain ⟨⟨⟨⟨⟨⟨k1, k2⟩, k3⟩, k4⟩, k5⟩, k6⟩, k7⟩ := h1
    cases of_decide_eq_true k1
    cases of_decide_eq_true k4
    have ka : isStar a = false ∧ isStar b = false := by simpa [nostar] using k7
    refine ⟨fun pins s σ H Q I hw => (pe_listRg hc (gl_of hs k2) (bn_of hb k3) (prg_2 (gl_of hs k5) (bn_of hb k6) (peW X a) (peW X b) (star_cons ka.1) (star_cons ka.2) (star_any (es := [b]) (by simp [ka.2]))) rfl).run pins s σ H Q I (wE2 hw fun x y H1 ⟨Hs, ts, w, ex, o, hev, q⟩ => ?_)⟩
    obtain ⟨i, j, rfl, rfl, hev⟩ := rng2_ev hev o
    obtain ⟨r1, r2⟩ := rng_of ex hev q
    exact ⟨i, j, rfl, rfl, r1, fun p hp => by simpa using r2 p hp⟩
  · rename_i x px y py a q1 q2 heq
    cases heq
    obtain ⟨h1, rfl⟩ := guard_eq h
    simp only [Bool.and_eq_true] at h1
    obtain ⟨⟨⟨⟨⟨⟨k1, k2⟩, k3⟩, k4⟩, k5⟩, k6⟩, k7⟩ := h1
    cases of_decide_eq_true k1
    cases of_decide_eq_true k4
    have ka : isStar a = false := by simpa [nostar] using k7
    refine ⟨fun pins s σ H Q I hw => (pe_tupRg hc (gl_of hs k2) (bn_of hb k3) (prg_1 (gl_of hs k5) (bn_of hb k6) (peW X a) (star_cons ka)) rfl).run pins s σ H Q I (wE1 hw fun x H1 ⟨Hs, ts, w, ex, o, hev, q⟩ => ?_)⟩
    obtain ⟨j, rfl, hev⟩ := rng1_ev hev o
    obtain ⟨r1, r2⟩ := rng_of ex hev q
    exact ⟨j, rfl, r1, fun p hp => by simpa using r2 p hp⟩
  · rename_i x px y py a b q1 q2 heq
    cases heq
    obtain ⟨h1, rfl⟩ := guard_eq h
    simp only [Bool.and_eq_true] at h1
    obtain ⟨⟨⟨⟨⟨⟨k1, k2⟩, k3⟩, k4⟩, k5⟩, k6⟩, k7⟩ := h1
    cases of_decide_eq_true k1
    cases of_decide_eq_true k4
    have ka : isStar a = false ∧ isStar b = false := by simpa [nostar] using k7
    refine ⟨fun pins s σ H Q I hw => (pe_tupRg hc (gl_of hs k2) (bn_of hb k3) (prg_2 (gl_of hs k5) (bn_of hb k6) (peW X a) (peW X b) (star_cons ka.1) (star_cons ka.2) (star_any (es := [b]) (by simp [ka.2]))) rfl).run pins s σ H Q I (wE2 hw fun x y H1 ⟨Hs, ts, w, ex, o, hev, q⟩ => ?_)⟩
    obtain ⟨i, j, rfl, rfl, hev⟩ := rng2_ev hev o
    obtain ⟨r1, r2⟩ := rng_of ex hev q
    exact ⟨i, j, rfl, rfl, r1, fun p hp => by simpa using r2 p hp⟩
theorem sh_meth {m : String} (h : opShape T.bn sc (.meth m) e = some es) : PE X e (tRC X T (.meth m) es) := by
  unfold opShape at h
  split at h <;> first | contradiction | skip
  rename_i m' o nm apos cpos heq
  cases heq
  obtain ⟨h1, rfl⟩ := guard_eq h
  simp only [Bool.and_eq_true] at h1
  obtain ⟨⟨⟨k1, k2⟩, k3⟩, k4⟩ := h1
  cases of_decide_eq_true k1
  cases of_decide_eq_true k2
  refine ⟨fun pins s σ H Q I hw => (pe_bm0 PySem.F.plainAttrs_str PySem.F.slot_str_upper PySem.F.type_str_upper mt_upper (peW X o) (base_of k3) k4).run pins s σ H Q I (wE1 hw fun x H1 ⟨Hs, ts, w, ex, o, hev, q⟩ => ?_)⟩
  obtain ⟨s1, o1, h2⟩ := ev1 (one_ev (o := .meth "upper") (f := methEv "upper") (fun _ => rfl) rfl (fun _ _ _ => rfl)) hev o
  unfold methEv at h2
  split at h2
  · obtain ⟨hz, rfl⟩ := guard_eq h2
    rw [Bool.and_eq_true] at hz
    cases opd_str o1
    exact ⟨rfl, _, rfl, rfl, of_decide_eq_true hz.2, q _ _ _ _ (New.val ex (.str _))⟩
  · cases h2
theorem sh_kin {x : Str} {ng : Bool} {kvs : List (Str × Int)} (hs : X.env.scope = sc) (hk : DctOk X x kvs) (h : opShape T.bn sc (.kin x ng kvs) e = some es) : PE X e (tRC X T (.kin x ng kvs) es) := by
  unfold opShape at h
  split at h <;> first | contradiction | skip
  rename_i x' ng' kv' l o y py pos heq
  cases heq
  obtain ⟨h1, rfl⟩ := guard_eq h
  simp only [Bool.and_eq_true, Bool.not_eq_true'] at h1
  obtain ⟨⟨⟨k1, k2⟩, k3⟩, k4⟩ := h1
  cases of_decide_eq_true k1
  obtain ⟨d, des, n, m1, m2, m3, m4⟩ := hk
  have pn : PE X (.Name x py) (tC (.ref d)) := pe_glob (gl_of hs k2) m1 rfl k3
  have nb : behindInMarks o (.Name x py) = false := rfl
  have key : ∀ {z : Str}, ∃ r, PySem.W.nsIn X.K d z = some r ∧ r.isSome = (kvs.lookup z).isSome := fun {z} => by
    cases hz : kvs.lookup z with
    | none => exact ⟨_, m4 z hz, rfl⟩
    | some n => obtain ⟨t, ht⟩ := m3 z n hz; exact ⟨_, ht, rfl⟩
  cases ng with
  | false =>
    cases of_decide_eq_true k4
    refine ⟨fun pins s σ H Q I hw => (pe_cmpR (op_in_kd m2) (peW X l) pn nb).run pins s σ H Q I (wE1 hw fun x H1 ⟨Hs, ts, w, ex, o, hev, q⟩ => ?_)⟩
    obtain ⟨s1, o1, h2⟩ := ev1 (one_ev (f := kinEv false kvs) (fun _ => rfl) rfl (fun _ _ _ => rfl)) hev o
    unfold kinEv at h2
    split at h2
    · cases Option.some.inj h2
      cases opd_str o1
      obtain ⟨r, r1, r2⟩ := key (z := _)
      refine ⟨_, r, rfl, rfl, r1, ?_⟩
      rw [r2]
      have := q _ _ _ _ (New.val ex (.bl _))
      simpa using this
    · cases h2
  | true =>
    cases of_decide_eq_true k4
    refine ⟨fun pins s σ H Q I hw => (pe_cmpR (op_notIn_kd m2) (peW X l) pn nb).run pins s σ H Q I (wE1 hw fun x H1 ⟨Hs, ts, w, ex, o, hev, q⟩ => ?_)⟩
    obtain ⟨s1, o1, h2⟩ := ev1 (one_ev (f := kinEv true kvs) (fun _ => rfl) rfl (fun _ _ _ => rfl)) hev o
    unfold kinEv at h2
    split at h2
    · cases Option.some.inj h2
      cases opd_str o1
      obtain ⟨r, r1, r2⟩ := key (z := _)
      refine ⟨_, r, rfl, rfl, r1, ?_⟩
      rw [r2]
      have := q _ _ _ _ (New.val ex (.bl _))
      simpa using this
    · cases h2
theorem sh_kinT {x : Str} {ng : Bool} {kvs : List (Str × Int)} (hs : X.env.scope = sc) (hk : DctOk X x kvs) (h : opShape T.bn sc (.kin x ng kvs) e = some es) : PT X e (fun σ H Q => tRC X T (.kin x ng kvs) es σ H fun z H' => ∃ k, z = .bl k ∧ Q k H') := by
  unfold opShape at h
  split at h <;> first | contradiction | skip
  rename_i x' ng' kv' l o y py pos heq
  cases heq
  obtain ⟨h1, rfl⟩ := guard_eq h
  simp only [Bool.and_eq_true, Bool.not_eq_true'] at h1
  obtain ⟨⟨⟨k1, k2⟩, k3⟩, k4⟩ := h1
  cases of_decide_eq_true k1
  obtain ⟨d, des, n, m1, m2, m3, m4⟩ := hk
  have pn : PE X (.Name x py) (tC (.ref d)) := pe_glob (gl_of hs k2) m1 rfl k3
  have nb : behindInMarks o (.Name x py) = false := rfl
  have key : ∀ {z : Str}, ∃ r, PySem.W.nsIn X.K d z = some r ∧ r.isSome = (kvs.lookup z).isSome := fun {z} => by
    cases hz : kvs.lookup z with
    | none => exact ⟨_, m4 z hz, rfl⟩
    | some n => obtain ⟨t, ht⟩ := m3 z n hz; exact ⟨_, ht, rfl⟩
  cases ng with
  | false =>
    cases of_decide_eq_true k4
    refine ⟨fun pins s σ H Q I hw => (pt_cmpR (op_in_kd m2) (peW X l) pn nb).run pins s σ H Q I (wE1 hw fun x H1 ⟨Hs, ts, w, ex, o, hev, q⟩ => ?_)⟩
    obtain ⟨s1, o1, h2⟩ := ev1 (one_ev (f := kinEv false kvs) (fun _ => rfl) rfl (fun _ _ _ => rfl)) hev o
    unfold kinEv at h2
    split at h2
    · cases Option.some.inj h2
      cases opd_str o1
      obtain ⟨r, r1, r2⟩ := key (z := _)
      refine ⟨_, r, rfl, rfl, r1, ?_⟩
      rw [r2]
      have := q _ _ _ _ (New.val ex (.bl _))
      simpa using this
    · cases h2
  | true =>
    cases of_decide_eq_true k4
    refine ⟨fun pins s σ H Q I hw => (pt_cmpR (op_notIn_kd m2) (peW X l) pn nb).run pins s σ H Q I (wE1 hw fun x H1 ⟨Hs, ts, w, ex, o, hev, q⟩ => ?_)⟩
    obtain ⟨s1, o1, h2⟩ := ev1 (one_ev (f := kinEv true kvs) (fun _ => rfl) rfl (fun _ _ _ => rfl)) hev o
    unfold kinEv at h2
    split at h2
    · cases Option.some.inj h2
      cases opd_str o1
      obtain ⟨r, r1, r2⟩ := key (z := _)
      refine ⟨_, r, rfl, rfl, r1, ?_⟩
      rw [r2]
      have := q _ _ _ _ (New.val ex (.bl _))
      simpa using this
    · cases h2
theorem sh_kget {x : Str} {kvs : List (Str × Int)} (hs : X.env.scope = sc) (hk : DctOk X x kvs) (h : opShape T.bn sc (.kget x kvs) e = some es) : PE X e (tRC X T (.kget x kvs) es) := by
  unfold opShape at h
  split at h <;> first | contradiction | skip
  rename_i x' kv' y py b pos heq
  cases heq
  obtain ⟨h1, rfl⟩ := guard_eq h
  simp only [Bool.and_eq_true, Bool.not_eq_true'] at h1
  obtain ⟨⟨⟨k1, k2⟩, k3⟩, k4⟩ := h1
  cases of_decide_eq_true k1
  obtain ⟨d, des, n, m1, m2, m3, m4⟩ := hk
  have pn : PE X (.Name x py) (tC (.ref d)) := pe_glob (gl_of hs k2) m1 rfl k3
  refine ⟨fun pins s σ H Q I hw => (pe_ix ix_kdict pn (peW X b) (plainIx_of k4)).run pins s σ H Q I (wE1 hw fun x H1 ⟨Hs, ts, w, ex, o, hev, q⟩ => ?_)⟩
  obtain ⟨s1, o1, h2⟩ := ev1 (one_ev (f := kgetEv kvs) (fun _ => rfl) rfl (fun _ _ _ => rfl)) hev o
  unfold kgetEv at h2
  split at h2
  · obtain ⟨n', e1, rfl⟩ := Option.map_eq_some_iff.mp h2
    cases opd_str o1
    obtain ⟨t, ht⟩ := m3 _ _ e1
    exact ⟨d, _, .int n', rfl, rfl, ⟨_, _, _, m2.at_, m2.lit, ht, ⟨t, rfl⟩⟩, q _ _ _ _ (New.val ex (.int _))⟩
  · cases h2
theorem sh_rev (h : opShape T.bn sc .rev e = some es) : PE X e (tRC X T .rev es) := by
  unfold opShape at h
  split at h <;> first | contradiction | skip
  rename_i o k p1 p2 p3 pos heq
  cases Option.some.inj h
  refine ⟨fun pins s σ H Q I hw => (pe_revL (peW X o)).run pins s σ H Q I (wE1 hw fun x H1 ⟨Hs, ts, w, ex, o, hev, q⟩ => ?_)⟩
  obtain ⟨s1, o1, h2⟩ := ev1 (one_ev (o := .rev) (f := revEv) (fun _ => rfl) rfl (fun _ _ _ => rfl)) hev o
  obtain ⟨ds, hl, rfl⟩ := Option.map_eq_some_iff.mp h2
  obtain ⟨a, vs, rfl, h3, h4⟩ := opd_litems ex o1 hl
  exact ⟨a, vs, rfl, sq_of h3, fun p hp => q _ _ _ _ (New.newL ex hp h4.reverse)⟩
/-- every operation -/
theorem sh_all {o : Op} (hk : OpK X o) (hs : X.env.scope = sc) (hb : ∀ x ∈ T.bn, X.mg x = none) (hc : X.calm = true) (gd : X.A.guards = some []) (hu : X.A.units + 66 < cLine) (h : opShape T.bn sc o e = some es) : PE X e (tRC X T o es) := by
  cases o with
  | bin b => exact sh_bin h
  | neg => exact sh_neg h
  | cmp c => exact sh_cmp hu h
  | idx => exact sh_idx h
  | fld f => exact sh_fld h
  | bi b => exact sh_bi gd hu hs hb hc h
  | isi tys => exact sh_isi hs hb h
  | rng n k => exact sh_rng hs hb hc h
  | meth m => exact sh_meth h
  | kin x ng kvs => exact sh_kin hs hk h
  | kget x kvs => exact sh_kget hs hk h
  | rev => exact sh_rev h
theorem se_op {W : WX} {ρ : Env} {o : Op} {r : R (List OT × Env)} (hk : OpK X o) (hs : X.env.scope = sc) (hb : ∀ x ∈ T.bn, X.mg x = none) (hc : X.calm = true) (gd : X.A.guards = some []) (hu : X.A.units + 66 < cLine) (h : opShape T.bn sc o e = some es) (ho : SOs X T W es ρ r) :
    SE X T W e ρ (r.bind fun p => match o.ev p.1 with
      | some t => .ok (t, p.2)
      | none => .no) := by
  intro L σ H Hs fp Q h0 k
  rw [cont_bind] at k
  refine wE_of (sh_all hk hs hb hc gd hu h) (ho L σ H Hs fp _ h0 (k.imp (fun p k vs H' Hs' fp' p1 o1 => ?_) fun _ _ x => x))
  cases hev : o.ev p.1 with
  | none => rw [hev] at k; exact k.elim
  | some t =>
    rw [hev] at k
    exact ⟨Hs', p.1, t, p1.st.ex, o1, hev, fun z H2 Hs2 ft n => k z H2 Hs2 fp' ft (p1.post (New.post p1.st n))⟩
end
end CH
end
section
namespace CH
open PySem L2 Evl PyProof.Rows

def gIs : List Nat → TGs
  | [] => gNil
  | i :: is => gCons (gName i) (gIs is)
def gT (K : PySem.W.Frag) : Tg → TG
  | .one i => gName i
  | .tup is => gTup K is.length (gIs is)
def tgNm (N : List Str) (sc : Scope) (fn : Str → Bool) (i : Nat) : Expr → Bool
  | .Name x _ => decide (N[i]? = some x) && locB sc x && (fn x || decide (sc.names.lookup x = some .local))
  | _ => false
def tgNms (N : List Str) (sc : Scope) (fn : Str → Bool) : List Nat → List Expr → Bool
  | [], [] => true
  | i :: is, e :: es => tgNm N sc fn i e && tgNms N sc fn is es
  | _, _ => false
def tgB (N : List Str) (sc : Scope) (fn : Str → Bool) : Tg → Expr → Bool
  | .one i, e => tgNm N sc fn i e
  | .tup is, .Tuple es _ _ => tgNms N sc fn is es
  | .tup _, _ => false
section
variable {X : Cx} {T : Tab} {sc : Scope}
theorem nm_pg {fn : Str → Bool} {i : Nat} {e : Expr} (nd : X.N.Nodup) (hs : X.env.scope = sc) (hf : X.fn = fn) (h : tgNm X.N sc fn i e = true) : PG X e (gName i) ∧ isStar e = false := by
  cases e with
  | Name x pos =>
    simp only [tgNm, Bool.and_eq_true, decide_eq_true_eq, Bool.or_eq_true] at h
    obtain ⟨⟨h1, h2⟩, h3⟩ := h
    refine ⟨pg_name nd h1 (loc_of hs h2) ?_, rfl⟩
    rcases h3 with h3 | h3
    · exact .inl (by rw [hf]; exact h3)
    · exact .inr (by rw [hs]; exact h3)
  | _ => cases h
theorem asg_cons {e : Expr} {es : List Expr} {env : PySem.Env} (h : isStar e = false) : assignEach (e :: es) env = (false, assign e env) :: assignEach es env := by
  cases e <;> first | rfl | cases h
theorem nms_pg {fn : Str → Bool} (nd : X.N.Nodup) (hs : X.env.scope = sc) (hf : X.fn = fn) : ∀ {is : List Nat} {es : List Expr}, tgNms X.N sc fn is es = true → PGs X es (gIs is) ∧ (assignEach es X.env).length = is.length ∧ (assignEach es X.env).findIdx? (·.1) = none
  | [], [], _ => ⟨pgs_nil, rfl, rfl⟩
  | i :: is, e :: es, h => by
    simp only [tgNms, Bool.and_eq_true] at h
    obtain ⟨h1, h2⟩ := nm_pg nd hs hf h.1
    obtain ⟨k1, k2, k3⟩ := nms_pg nd hs hf h.2
    have e1 := asg_cons (es := es) (env := X.env) h2
    refine ⟨pgs_cons h1 k1 (by rw [e1]; rfl), by rw [e1, List.length_cons, k2, List.length_cons], ?_⟩
    rw [e1, List.findIdx?_cons, k3]; rfl
  | [], _ :: _, h => by simp [tgNms] at h
  | _ :: _, [], h => by simp [tgNms] at h
theorem tg_pg {fn : Str → Bool} {tg : Tg} {e : Expr} (nd : X.N.Nodup) (hs : X.env.scope = sc) (hf : X.fn = fn) (hc : X.calm = true) (h : tgB X.N sc fn tg e = true) : PG X e (gT X.K tg) := by
  cases tg with
  | one i => exact (nm_pg nd hs hf h).1
  | tup is =>
    cases e with
    | Tuple es k pos =>
      obtain ⟨k1, k2, k3⟩ := nms_pg nd hs hf (show tgNms X.N sc fn is es = true from h)
      exact pg_tup hc k1 k2 k3
    | _ => cases h
end
section
variable {K : PySem.W.Frag} {T : Tab} {L : List Addr} {σ : L2.St} {Hs H : Hp} {fp : List Addr} {ρ ρ' : Env}
/-- a value stored at a slot -/
theorem StOk.store {i : Nat} {t : OT} {v : V} {f : List Addr} (h : StOk K T L Hs H ρ σ fp) (hi : i < ρ.length) (r : RpO K T Hs H t v f) (d : ∀ a ∈ f, a ∉ fp) (nd : f.Nodup) (nf : ∀ a ∈ f, Hs a = none) (lf : ∀ a ∈ L, a ∉ f) :
    ∃ fp', StOk K T L Hs H (ρ.set i (.ow t)) (σ.set i (some v)) fp' ∧ ∀ a ∈ fp', a ∈ f ∨ a ∈ fp := by
  obtain ⟨fr, r1, sub⟩ := h.rs.forget i none
  obtain ⟨fp', r2, pm⟩ := r1.put (i := i) (by simpa using hi) (by rw [List.getElem?_set_self hi]) r
  rw [List.set_set, List.set_set] at r2
  have mem : ∀ a ∈ fp', a ∈ f ∨ a ∈ fp := fun a ha => (List.mem_append.mp (pm.mem_iff.mp ha)).imp id fun z => sub.subset z
  exact ⟨fp', ⟨h.ex, r2, pm.nodup_iff.mpr (List.nodup_append.mpr ⟨nd, h.nd.sublist sub, fun a ha b hb e => d a ha (e ▸ sub.subset hb)⟩), fun a ha => (mem a ha).elim (nf a) (h.nf a), fun a ha hf => (mem a hf).elim (lf a ha) (h.lf a ha), h.lt⟩, mem⟩
theorem StOk.clear {i : Nat} (h : StOk K T L Hs H ρ σ fp) (x : Option V) : ∃ fp', StOk K T L Hs H (ρ.set i .no) (σ.set i x) fp' ∧ ∀ a ∈ fp', a ∈ fp := by
  obtain ⟨fr, r1, sub⟩ := h.rs.forget i x
  exact ⟨fr, ⟨h.ex, r1, h.nd.sublist sub, fun a ha => h.nf a (sub.subset ha), fun a ha hf => h.lf a ha (sub.subset hf), h.lt⟩, fun a ha => sub.subset ha⟩
theorem set1_ok {pl : List Nat} {i : Nat} {d : D} {x : V} (h : StOk K T L Hs H ρ σ fp) (r : Rp K T Hs d x) (hs : set1 pl i d ρ = some ρ') :
    ∃ fp', StOk K T L Hs H ρ' (σ.set i (some x)) fp' ∧ (∀ a ∈ fp', a ∈ fp) ∧ lks ρ' = lks ρ ∧ (∀ (t : OT), ρ[i]? ≠ some (.lk t)) ∧ i ∉ pl := by
  unfold set1 at hs
  split at hs
  · cases hs
  · rename_i s hn e
    split at hs
    · cases hs
    · rename_i hp
      cases Option.some.inj hs
      have hi := (List.getElem?_eq_some_iff.mp e).1
      obtain ⟨fp', k1, k2⟩ := h.store hi (.sh r) (fun a ha => absurd ha (by simp)) .nil (fun a ha => absurd ha (by simp)) (fun a _ ha => absurd ha (by simp))
      refine ⟨fp', k1, fun a ha => (k2 a ha).elim (fun z => absurd z (by simp)) id, lks_set e ?_, fun t q => ?_, by simpa using hp⟩
      · cases s with
        | lk t => exact (hn t rfl).elim
        | _ => rfl
      · rw [e] at q; cases q; exact hn t rfl
  · cases hs
theorem setgo_ok {pl : List Nat} : ∀ {is : List Nat} {ds : List D} {ρ ρ' : Env} {σ : L2.St} {fp : List Addr} {xs : List V}, StOk K T L Hs H ρ σ fp → Rps K T Hs ds xs → is.length = ds.length → setGo pl is ds ρ = some ρ' →
    ∃ σ' fp', StOk K T L Hs H ρ' σ' fp' ∧ (∀ a ∈ fp', a ∈ fp) ∧ lks ρ' = lks ρ ∧ (∀ j, j ∉ is → σ'[j]? = σ[j]?) ∧ (∀ j ∈ is, j ∉ pl ∧ ∀ (t : OT), ρ[j]? ≠ some (.lk t)) ∧ ∀ Q, Q σ' H → gIs is xs σ H Q
  | [], ds, ρ, ρ', σ, fp, xs, h, r, hl, hs => by
    have hd : ds = [] := List.length_eq_zero_iff.mp hl.symm
    subst hd
    cases r
    cases Option.some.inj (show some ρ = some ρ' from hs)
    exact ⟨σ, fp, h, fun a ha => ha, rfl, fun _ _ => rfl, fun j hj => absurd hj (by simp), fun Q q => ⟨rfl, q⟩⟩
  | i :: is, [], ρ, ρ', σ, fp, xs, h, r, hl, hs => by simp at hl
  | i :: is, d :: ds, ρ, ρ', σ, fp, _, h, .cons (v := x) (vs := xs) r rs, hl, hs => by
    obtain ⟨ρ1, h1, h2⟩ := Option.bind_eq_some_iff.mp (show ((set1 pl i d ρ).bind fun ρ' => setGo pl is ds ρ') = some ρ' from hs)
    obtain ⟨fp1, k1, k2, k3, k4, k5⟩ := set1_ok h r h1
    obtain ⟨σ', fp', m1, m2, m3, m4, m5, m6⟩ := setgo_ok (is := is) k1 rs (by simpa using hl) h2
    refine ⟨σ', fp', m1, fun a ha => k2 a (m2 a ha), m3.trans k3, fun j hj => ?_, fun j hj => ?_, fun Q q => ⟨x, xs, rfl, m6 Q q⟩⟩
    · rw [m4 j fun z => hj (by simp [z]), List.getElem?_set_ne fun z => hj (by simp [z])]
    · rcases List.mem_cons.mp hj with rfl | hj
      · exact ⟨k5, k4⟩
      · refine ⟨(m5 j hj).1, fun t q => ?_⟩
        have e1 : (lks ρ1)[j]? = (lks ρ)[j]? := by rw [k3]
        rw [lks_get, lks_get, q] at e1
        cases z : ρ1[j]? with
        | none => rw [z] at e1; simp at e1
        | some s =>
          rw [z] at e1
          cases s with
          | lk u => exact (m5 j hj).2 u z
          | _ => simp [lkOf] at e1
theorem setTg_ok {pl : List Nat} {tg : Tg} {d : D} {x : V} (h : StOk K T L Hs H ρ σ fp) (r : Rp K T Hs d x) (hs : setTg pl tg d ρ = some ρ') :
    ∃ σ' fp', StOk K T L Hs H ρ' σ' fp' ∧ (∀ a ∈ fp', a ∈ fp) ∧ lks ρ' = lks ρ ∧ (∀ j, j ∉ tg.slots → σ'[j]? = σ[j]?) ∧ (∀ j ∈ tg.slots, j ∉ pl ∧ ∀ (t : OT), ρ[j]? ≠ some (.lk t)) ∧ ∀ Q, Q σ' H → gT K tg x σ H Q := by
  cases tg with
  | one i =>
    obtain ⟨fp1, k1, k2, k3, k4, k5⟩ := set1_ok h r hs
    refine ⟨_, fp1, k1, k2, k3, fun j hj => List.getElem?_set_ne fun z => hj (by simp [Tg.slots, z]), fun j hj => ?_, fun Q q => q⟩
    have : j = i := by simpa [Tg.slots] using hj
    subst this
    exact ⟨k5, k4⟩
  | tup is =>
    obtain ⟨ds, h1, h2⟩ := Option.bind_eq_some_iff.mp (show (d.tupI.bind fun ds => if is.length = ds.length then setGo pl is ds ρ else none) = some ρ' from hs)
    split at h2
    · rename_i hl
      cases r with
      | tup hq rs =>
        cases Option.some.inj h1
        obtain ⟨σ', fp', m1, m2, m3, m4, m5, m6⟩ := setgo_ok h rs hl h2
        exact ⟨σ', fp', m1, m2, m3, m4, m5, fun Q q => ⟨_, _, rfl, ex_t h.ex hq, by rw [← rs.length, hl], m6 Q q⟩⟩
      | _ => cases h1
    · cases h2
/-- a comprehension's own slots are cleared -/
theorem wipe_ok : ∀ {vs : List Nat} {ρ : Env} {σ : L2.St} {fp : List Addr}, StOk K T L Hs H ρ σ fp → ∃ fp', StOk K T L Hs H (wipeE ρ vs) (wipe σ vs) fp' ∧ ∀ a ∈ fp', a ∈ fp
  | [], ρ, σ, fp, h => ⟨fp, h, fun _ ha => ha⟩
  | v :: vs, ρ, σ, fp, h => by
    obtain ⟨fp1, k1, k2⟩ := wipe_ok (vs := vs) h
    obtain ⟨fp2, k3, k4⟩ := k1.clear (i := v) none
    exact ⟨fp2, k3, fun a ha => k2 a (k4 a ha)⟩
theorem wipe_eq {σ σ' : L2.St} : ∀ {vs : List Nat}, σ.length = σ'.length → (∀ j, j ∉ vs → σ'[j]? = σ[j]?) → wipe σ' vs = wipe σ vs := by
  intro vs hl h
  apply List.ext_getElem?
  intro j
  by_cases hj : j ∈ vs
  · have g : ∀ (τ : L2.St) (vs : List Nat), j ∈ vs → j < τ.length → (wipe τ vs)[j]? = some none := by
      intro τ vs
      induction vs with
      | nil => intro h; exact absurd h (by simp)
      | cons v vs ih =>
        intro hm hlt
        unfold wipe
        by_cases e : v = j
        · subst e; rw [List.getElem?_set_self (by rw [wipe_length]; exact hlt)]
        · rw [List.getElem?_set_ne e]
          rcases List.mem_cons.mp hm with z | z
          · exact absurd z.symm e
          · exact ih z hlt
    by_cases hlt : j < σ.length
    · rw [g σ vs hj hlt, g σ' vs hj (by omega)]
    · rw [List.getElem?_eq_none (by rw [wipe_length]; omega), List.getElem?_eq_none (by rw [wipe_length]; omega)]
  · have g : ∀ (τ : L2.St) (vs : List Nat), j ∉ vs → (wipe τ vs)[j]? = τ[j]? := by
      intro τ vs
      induction vs with
      | nil => intro _; rfl
      | cons v vs ih =>
        intro hm
        unfold wipe
        rw [List.getElem?_set_ne fun z => hm (by simp [z])]
        exact ih fun z => hm (by simp [z])
    rw [g σ' vs hj, g σ vs hj, h j hj]
theorem wipe_out2 {σ : L2.St} {j : Nat} : ∀ {vs : List Nat}, j ∉ vs → (wipe σ vs)[j]? = σ[j]?
  | [], _ => rfl
  | v :: vs, hm => by
    unfold wipe
    rw [List.getElem?_set_ne fun z => hm (by simp [z])]
    exact wipe_out2 fun z => hm (by simp [z])
theorem lks_wipe : ∀ {vs : List Nat} {ρ : Env}, (∀ v ∈ vs, ∀ (t : OT), ρ[v]? ≠ some (.lk t)) → lks (wipeE ρ vs) = lks ρ
  | [], ρ, _ => rfl
  | v :: vs, ρ, h => by
    unfold wipeE
    have ih := lks_wipe (vs := vs) (ρ := ρ) fun w hw => h w (by simp [hw])
    rw [← ih]
    by_cases hv : v < (wipeE ρ vs).length
    · refine lks_set (x := (wipeE ρ vs)[v]) (List.getElem?_eq_getElem hv) ?_
      have e : (lks (wipeE ρ vs))[v]? = (lks ρ)[v]? := by rw [ih]
      rw [lks_get, lks_get, List.getElem?_eq_getElem hv] at e
      cases z : (wipeE ρ vs)[v] with
      | lk t =>
        rw [z] at e
        cases y : ρ[v]? with
        | none => rw [y] at e; simp at e
        | some s =>
          rw [y] at e
          cases s with
          | lk u => exact absurd y (h v (by simp) u)
          | _ => simp [lkOf] at e
      | _ => rfl
    · rw [List.set_eq_of_length_le (by omega)]
/-- what the own slots held ahead of the block is there again behind it -/
theorem patch_rs {Hs0 H0 : Hp} : ∀ {m : Nat → Bool} {ρ0 ρ : Env} {σ τ : L2.St} {fp0 fp : List Addr}, RpS K T Hs0 H0 L ρ0 σ fp0 → RpS K T Hs H L ρ τ fp → Ex Hs0 Hs → (∀ j, m j = true → ∀ s, ρ0[j]? = some s → quietSl s = true) → (∀ j, m j = true → ∀ s, ρ[j]? = some s → s = .no) →
    (∀ j, m j = false → τ[j]? = σ[j]?) → ρ.length = ρ0.length → RpS K T Hs H L (patch m ρ0 ρ) σ fp
  | m, _, _, _, _, _, _, .nil, .nil, _, _, _, _, _ => .nil
  | m, s0 :: ρ0, s :: ρ, x :: σ, y :: τ, _, _, r0, r, ex, hq, hn, hv, hl => by
    have tl : ∀ {σ0 : L2.St} {f0 f : List Addr}, RpS K T Hs0 H0 L ρ0 σ f0 → RpS K T Hs H L ρ τ f → RpS K T Hs H L (patch (fun j => m (j + 1)) ρ0 ρ) σ f := fun a b =>
      patch_rs a b ex (fun j h s e => hq (j + 1) h s (by simpa using e)) (fun j h s e => hn (j + 1) h s (by simpa using e)) (fun j h => by simpa using hv (j + 1) h) (by simpa using hl)
    unfold patch
    cases hm : m 0 with
    | true =>
      have e1 := hn 0 hm s (by simp)
      have e2 := hq 0 hm s0 (by simp)
      subst e1
      rw [if_pos rfl]
      cases r with
      | no r =>
        cases r0 with
        | no r0 => exact .no (tl (σ0 := σ) r0 r)
        | ow h0 r0 =>
          cases h0 with
          | sh h0 => exact RpS.ow (f := []) (.sh (h0.mono ex)) (tl (σ0 := σ) r0 r)
          | lst => cases e2
          | obj => cases e2
        | lk => cases e2
    | false =>
      have e1 : y = x := by simpa using hv 0 hm
      subst e1
      rw [if_neg (by simp)]
      have t0 : ∃ f0, RpS K T Hs0 H0 L ρ0 σ f0 := by
        cases r0 with
        | no r0 => exact ⟨_, r0⟩
        | ow h0 r0 => exact ⟨_, r0⟩
        | lk h0 l0 r0 => exact ⟨_, r0⟩
      obtain ⟨f0, t0⟩ := t0
      cases r with
      | no r => exact .no (tl (σ0 := σ) t0 r)
      | ow h r => exact .ow h (tl (σ0 := σ) t0 r)
      | lk h l r => exact .lk h l (tl (σ0 := σ) t0 r)
  | _, [], _ :: _, _, _, _, _, _, _, _, _, _, _, hl => by simp at hl
  | _, _ :: _, [], _, _, _, _, _, _, _, _, _, _, hl => by simp at hl
theorem lks_patch : ∀ {m : Nat → Bool} {ρ0 ρ : Env}, lks ρ = lks ρ0 → lks (patch m ρ0 ρ) = lks ρ0
  | m, [], [], _ => rfl
  | m, a :: as, b :: bs, h => by
    have h' : lkOf b = lkOf a ∧ lks bs = lks as := by simpa [lks] using h
    unfold patch
    show lkOf (if m 0 = true then a else b) :: lks (patch _ as bs) = lkOf a :: lks as
    rw [lks_patch h'.2]
    cases m 0 <;> simp [h'.1]
  | m, [], b :: bs, h => by simp [lks] at h
  | m, a :: as, [], h => by simp [lks] at h
theorem wipeE_get {ρ : Env} {j : Nat} : ∀ {vs : List Nat}, j ∈ vs → ∀ s, (wipeE ρ vs)[j]? = some s → s = .no
  | v :: vs, hj, s, e => by
    unfold wipeE at e
    by_cases hv : v = j
    · subst hv
      obtain ⟨hi, e2⟩ := List.getElem?_eq_some_iff.mp e
      rw [List.getElem_set_self] at e2
      exact e2.symm
    · rw [List.getElem?_set_ne hv] at e
      rcases List.mem_cons.mp hj with z | z
      · exact absurd z.symm hv
      · exact wipeE_get z s e
theorem wipeE_len {ρ : Env} : ∀ {vs : List Nat}, (wipeE ρ vs).length = ρ.length
  | [] => rfl
  | v :: vs => by unfold wipeE; rw [List.length_set, wipeE_len]
/-- a tracked object that no name owns is changed -/
theorem StOk.upd {D : Addr} {o : HO} (h : StOk K T L Hs H ρ σ fp) (n : D ∉ fp) (nl : D ∉ L) (ns : Hs D = none) : StOk K T L Hs (upd H D o) ρ σ fp :=
  ⟨h.ex.mut ns, h.rs.step (Ex.refl _) (fun _ q => q) fun a ha u q => by
    rw [upd_ne (fun z => by subst z; exact ha.elim n nl)]; exact q, h.nd, h.nf, h.lf, fun a ha => ⟨by
    obtain ⟨u, q⟩ := (h.lt a ha).1
    exact ⟨u, by rw [upd_ne (fun z => by subst z; exact nl ha)]; exact q⟩, (h.lt a ha).2⟩⟩
end

/-- J gives the items ds, while P holds -/
structure Walk (K : PySem.W.Frag) (T : Tab) (J : It) (ds : List D) (P : Hp → Hp → List Addr → Prop) : Prop where
  keep : ∀ {H Hs fp H' Hs' fp'}, P H Hs fp → Stp fp H Hs fp' H' Hs' → P H' Hs' fp'
  go : ∀ {i d H Hs fp}, P H Hs fp → Ex Hs H → ds[i]? = some d → J.go i H ∧ ∀ x H', J.yld i H x H' → ∃ Hs', New K T Hs H (.sh d) x H' Hs' []
  stop : ∀ {H Hs fp}, P H Hs fp → Ex Hs H → J.stop ds.length H
/-- the state in which a walk is done, and the way back from it -/
structure Opn (K : PySem.W.Frag) (T : Tab) (L : List Addr) (σ : L2.St) (Hs H : Hp) (fp : List Addr) (ρ : Env) (bk : Env → Env) (L' : List Addr) (ρ' : Env) (H' Hs' : Hp) (fp' : List Addr) : Prop where
  st : StOk K T L' Hs' H' ρ' σ fp'
  back : ∀ {ρ2 : Env} {σ2 : L2.St} {H2 Hs2 : Hp} {fp2 : List Addr} (F : List Addr), (∀ x ∈ F, x ∉ L') → StOk K T L' Hs2 H2 ρ2 σ2 fp2 → Stp (F ++ fp') H' Hs' fp2 H2 Hs2 → lks ρ2 = lks ρ' → (∀ (j : Nat) (u : OT), ρ'[j]? = some (.lk u) → σ2[j]? = σ[j]?) → ∃ fp3, StOk K T L Hs2 H2 (bk ρ2) σ2 fp3 ∧ Stp (F ++ fp) H Hs fp3 H2 Hs2 ∧ lks (bk ρ2) = lks ρ ∧ ∀ x ∈ fp3, x ∈ fp2 ∨ ((∃ o, H' x = some o) ∧ x ∉ fp' ∧ x ∈ L')
  nw : ∀ x, x ∈ fp' ∨ H' x = none → x ∈ fp ∨ H x = none
  nl : ∀ x ∈ L, x ∈ L'
  lw : ∀ x ∈ L', x ∈ L ∨ x ∈ fp
  lkp : ∀ (j : Nat) (u : OT), ρ[j]? = some (.lk u) → ρ'[j]? = some (.lk u)
  len : ρ'.length = ρ.length
/-- an iterable -/
def SI (X : Cx) (T : Tab) (W : WX) (wi : TI) (ρ : Env) (bk : Env → Env) (r : R (List D × Env)) : Prop := ∀ (L : List Addr) (σ : L2.St) (H Hs : Hp) (fp F : List Addr) (R : It → Hp → Prop), StOk X.K T L Hs H ρ σ fp → (∀ a ∈ F, (∃ o, H a = some o) ∧ a ∉ fp ∧ a ∉ L) →
  Cont r (fun p => ∀ J P L' H' Hs' fp', Walk X.K T J p.1 P → P H' Hs' (F ++ fp') → Opn X.K T L σ Hs H fp ρ bk L' p.2 H' Hs' fp' → R J H') (XOk X.K T L σ Hs H fp ρ W) → wi σ H R
section
variable {K : PySem.W.Frag} {T : Tab} {L : List Addr} {σ : L2.St} {Hs H H' Hs' : Hp} {fp fp' : List Addr} {ρ ρ' : Env}
theorem Stp.back (s : Stp fp H Hs fp' H' Hs') (x : Addr) (h : x ∈ fp' ∨ H' x = none) : x ∈ fp ∨ H x = none := by
  rcases h with h | h
  · exact s.nw x h
  · by_cases q : x ∈ fp
    · exact .inl q
    · cases e : H x with
      | none => exact .inr rfl
      | some o => rw [s.fr x o e q] at h; cases h
theorem lks_lk {ρ ρ' : Env} (h : lks ρ' = lks ρ) {j : Nat} {u : OT} (e : ρ[j]? = some (.lk u)) : ρ'[j]? = some (.lk u) := by
  have e1 : (lks ρ')[j]? = (lks ρ)[j]? := by rw [h]
  rw [lks_get, lks_get, e] at e1
  cases z : ρ'[j]? with
  | none => rw [z] at e1; simp at e1
  | some s =>
    rw [z] at e1
    cases s with
    | lk t => simp [lkOf] at e1; rw [e1]
    | _ => simp [lkOf] at e1
theorem lks_len {ρ ρ' : Env} (h : lks ρ' = lks ρ) : ρ'.length = ρ.length := by have := congrArg List.length h; simpa [lks] using this
theorem Pst.opn (p : Pst K T L σ Hs H fp ρ ρ' H' Hs' fp') : Opn K T L σ Hs H fp ρ id L ρ' H' Hs' fp' := ⟨p.st, fun {ρ2 σ2 H2 Hs2 fp2} F _ st sp lk _ => ⟨fp2, st, (p.sp.wider (fp2 := F ++ fp) (fun x hx => by simp [hx]) F fun x hx => by simp [hx]).trans sp, lk.trans p.lk, fun _ h => .inl h⟩, p.sp.back, fun _ h => h, fun _ h => .inl h, fun j u => lks_lk p.lk, lks_len p.lk⟩
/-- where items lie -/
def SrcP (K : PySem.W.Frag) (T : Tab) (t : OT) (a : Addr) (H Hs : Hp) (fp : List Addr) : Prop := ∃ f, RpO K T Hs H t (.ref a) f ∧ ∀ b ∈ f, b ∉ fp
theorem SrcP.keep {t : OT} {a : Addr} (h : SrcP K T t a H Hs fp) (s : Stp fp H Hs fp' H' Hs') : SrcP K T t a H' Hs' fp' := by
  obtain ⟨f, r, d⟩ := h
  exact ⟨f, r.keep d s, fun b hb => s.out (r.tracked b hb) (d b hb)⟩
def OT.isTup : OT → Bool
  | .sh (.tup _) => true
  | _ => false
theorem items_tup {t : OT} {ds : List D} {a : Addr} {f : List Addr} (e : Ex Hs H) (h : RpO K T Hs H t (.ref a) f) (hl : t.items = some ds) : (t.isTup = true → ∃ vs, SqT K H a vs ∧ Rps K T Hs ds vs) ∧ (t.isTup = false → ∃ vs, SqL K H a vs ∧ Rps K T Hs ds vs) := by
  cases h with
  | sh h =>
    cases h with
    | lst h r => cases Option.some.inj hl; exact ⟨fun z => (by cases z), fun _ => ⟨_, sq_of (e _ _ h), r⟩⟩
    | flst h r => cases Option.some.inj hl; exact ⟨fun z => (by cases z), fun _ => ⟨_, ex_l e h, r⟩⟩
    | tup h r => cases Option.some.inj hl; exact ⟨fun _ => ⟨_, ex_t e h, r⟩, fun z => (by cases z)⟩
    | _ => simp [OT.items] at hl
  | lst h r =>
    obtain ⟨r1, rfl⟩ := r.leaves (show leaves _ = some ds from hl)
    exact ⟨fun z => (by cases z), fun _ => ⟨_, sq_of h, r1⟩⟩
  | obj h c r => simp [OT.items] at hl
theorem walk_list {t : OT} {ds : List D} {a : Addr} (hl : t.items = some ds) (hk : t.isTup = false) : Walk K T (Itl K a) ds (SrcP K T t a) where
  keep := fun h s => h.keep s
  go := by
    intro i d H Hs fp ⟨f, r, _⟩ e hd
    obtain ⟨vs, q1, q2⟩ := (items_tup e r hl).2 hk
    obtain ⟨v, h1, h2⟩ := q2.get hd
    refine ⟨⟨vs, v, q1, h1⟩, fun x H' y => ?_⟩
    obtain ⟨rfl, y⟩ := y
    have := y vs q1
    rw [h1] at this
    cases this
    exact ⟨Hs, New.val e h2⟩
  stop := by
    intro H Hs fp ⟨f, r, _⟩ e
    obtain ⟨vs, q1, q2⟩ := (items_tup e r hl).2 hk
    exact ⟨vs, q1, by rw [q2.length]; exact Nat.le_refl _⟩
theorem walk_tup {t : OT} {ds : List D} {a : Addr} (hl : t.items = some ds) (hk : t.isTup = true) : Walk K T (Itt K a) ds (SrcP K T t a) where
  keep := fun h s => h.keep s
  go := by
    intro i d H Hs fp ⟨f, r, _⟩ e hd
    obtain ⟨vs, q1, q2⟩ := (items_tup e r hl).1 hk
    obtain ⟨v, h1, h2⟩ := q2.get hd
    refine ⟨⟨vs, v, q1, h1⟩, fun x H' y => ?_⟩
    obtain ⟨rfl, y⟩ := y
    have := y vs q1
    rw [h1] at this
    cases this
    exact ⟨Hs, New.val e h2⟩
  stop := by
    intro H Hs fp ⟨f, r, _⟩ e
    obtain ⟨vs, q1, q2⟩ := (items_tup e r hl).1 hk
    exact ⟨vs, q1, by rw [q2.length]; exact Nat.le_refl _⟩
theorem walk_rng {lo : Int} {n : Nat} : Walk K T (Itr lo n) ((List.range n).map fun i => .int (lo + (i : Nat))) (fun _ _ _ => True) where
  keep := fun _ _ => trivial
  go := by
    intro i d H Hs fp _ e hd
    obtain ⟨j, h1, rfl⟩ := by rw [List.getElem?_map] at hd; exact Option.map_eq_some_iff.mp hd
    obtain ⟨h3, h2⟩ := List.getElem?_eq_some_iff.mp h1
    rw [List.getElem_range] at h2
    subst h2
    rw [List.length_range] at h3
    clear h1
    have h1 := h3
    refine ⟨h1, fun x H' y => ?_⟩
    obtain ⟨rfl, rfl⟩ := y
    exact ⟨Hs, New.val e (.int _)⟩
  stop := by
    intro H Hs fp _ e
    show n ≤ _
    simp
end
section
variable {X : Cx} {T : Tab} {W : WX} {sc : Scope} {tg e : Expr}
/-- a list or a tuple -/
def iSeq (X : Cx) (e : Expr) : TI := fun σ H R => wE X e σ H fun x H1 => ∃ a, x = .ref a ∧ ((∃ xs, SqL X.K H1 a xs) ∧ R (Itl X.K a) H1 ∨ (∃ xs, SqT X.K H1 a xs) ∧ R (Itt X.K a) H1)
theorem pi_seq : PI X tg e (iSeq X e) := by
  refine ⟨fun pins s σ H R I h => ?_⟩
  refine thn (h pins s I) fun v s1 ⟨x, H1, I1, r1, q1⟩ => ?_
  obtain ⟨a, ex, q⟩ := q1
  subst ex
  cases r1
  rcases q with ⟨⟨xs, hq⟩, q⟩ | ⟨⟨xs, hq⟩, q⟩
  · obtain ⟨its, rv, p, hz⟩ := I1.list hq
    refine wpAny_pyIter_list p.isList ?_
    refine ⟨s1.heap.objs.size, [s1.heap.objs.size], _, _, H1, rfl, I1.kept (t' := s1.toks) fun b o e => Heap.get?_push_of_some _ e, turn_list a _, ⟨_, Heap.get?_push_size _ rfl, rfl, rfl⟩, fun b hb => ?_, q⟩
    have e : b = s1.heap.objs.size := by simpa using hb
    subst e
    exact I1.fpOk (Nat.le_refl _) (I1.hok.fresh (Nat.le_refl _))
  · obtain ⟨its, rv, p, hz⟩ := I1.tuple hq
    refine wpAny_pyIter_tuple (show s1.heap.IsTuple a its.toArray from p) ?_
    refine ⟨s1.heap.objs.size, [s1.heap.objs.size], _, _, H1, rfl, I1.kept (t' := s1.toks) fun b o e => Heap.get?_push_of_some _ e, turn_tuple a _, ⟨_, Heap.get?_push_size _ rfl, rfl, rfl⟩, fun b hb => ?_, q⟩
    have e : b = s1.heap.objs.size := by simpa using hb
    subst e
    exact I1.fpOk (Nat.le_refl _) (I1.hok.fresh (Nat.le_refl _))
theorem src_walk {J : It → Hp → Prop} {t : OT} {ds : List D} {x : V} {f : List Addr} {H Hs : Hp} {fp : List Addr} (ex : Ex Hs H) (r : RpO X.K T Hs H t x f) (d : ∀ a ∈ f, a ∉ fp) (hl : t.items = some ds) (k : ∀ J' P, Walk X.K T J' ds P → P H Hs fp → J J' H) :
    ∃ a, x = .ref a ∧ ((∃ xs, SqL X.K H a xs) ∧ J (Itl X.K a) H ∨ (∃ xs, SqT X.K H a xs) ∧ J (Itt X.K a) H) := by
  obtain ⟨a, vs, rfl, _⟩ := opd_items ex ⟨f, r⟩ hl
  refine ⟨a, rfl, ?_⟩
  cases hk : t.isTup with
  | false =>
    obtain ⟨vs, q1, q2⟩ := (items_tup ex r hl).2 hk
    exact .inl ⟨⟨vs, q1⟩, k _ _ (walk_list hl hk) ⟨f, r, d⟩⟩
  | true =>
    obtain ⟨vs, q1, q2⟩ := (items_tup ex r hl).1 hk
    exact .inr ⟨⟨vs, q1⟩, k _ _ (walk_tup hl hk) ⟨f, r, d⟩⟩
theorem si_e {ρ : Env} {r : R (OT × Env)} (he : SE X T W e ρ r) : SI X T W (iSeq X e) ρ id (r.bind fun p => match p.1.items with
    | some ds => .ok (ds, p.2)
    | none => .no) := by
  intro L σ H Hs fp F R h hF k
  rw [cont_bind] at k
  refine he L σ H Hs fp _ h (k.imp (fun p k v H1 Hs1 fp1 ft p1 => ?_) fun _ _ x => x)
  cases hl : p.1.items with
  | none => rw [hl] at k; exact k.elim
  | some ds =>
    rw [hl] at k
    have d := List.nodup_append.mp p1.nd
    exact src_walk (J := R) (fp := F ++ fp1) p1.st.ex p1.rp (fun a ha hf => by
      rcases List.mem_append.mp hf with hf | hf
      · rcases p1.sp.nw a (by simp [ha]) with z | z
        · exact (hF a hf).2.1 z
        · obtain ⟨o, q⟩ := (hF a hf).1; rw [q] at z; cases z
      · exact d.2.2 a ha a hf rfl) hl fun J P w hp => k J P L H1 Hs1 fp1 w hp p1.pst.opn
theorem si_bor {ρ : Env} {i : Nat} {p : List Str} (hs : X.env.scope = sc) (hp : pathB X.N sc i p e = true) : SI X T W (iSeq X e) ρ (fun ρ2 => unlock ρ ρ2 i) (match ((ρ.tree i).bind fun r => r.getP p).bind OT.items with
    | some ds => .ok (ds, lock ρ i)
    | none => .no) := by
  intro L σ H Hs fp F R h hF k
  cases hq : ((Env.tree ρ i).bind fun r => r.getP p).bind OT.items with
  | none => rw [hq] at k; exact k.elim
  | some ds =>
    rw [hq] at k
    obtain ⟨t, ht, hl⟩ := Option.bind_eq_some_iff.mp hq
    obtain ⟨r, h1, h2⟩ := Option.bind_eq_some_iff.mp ht
    unfold Env.tree at h1
    split at h1
    · rename_i r' e0
      cases Option.some.inj h1
      obtain ⟨x, f, fr, l1, l2, l3, l4⟩ := h.locked e0
      obtain ⟨v, g, r1, r2, _, r3⟩ := path_read hs h.ex l1 l2 hp h2
      have eL : lock ρ i = ρ.set i (.lk r) := by unfold lock; rw [e0]
      have hi := (List.getElem?_eq_some_iff.mp e0).1
      refine r3 _ (src_walk (J := R) (fp := F ++ fr) h.ex r1 (fun a ha hf => by
        rcases List.mem_append.mp hf with hf | hf
        · exact (hF a hf).2.1 (l3.mem_iff.mpr (by simp [r2 a ha]))
        · exact l4.lf a (by simp [r2 a ha]) hf) hl fun J P w hp => k J P (f ++ L) H Hs fr w hp ?_)
      show Opn X.K T L σ Hs H fp ρ (fun ρ2 => unlock ρ ρ2 i) (f ++ L) (lock ρ i) H Hs fr
      rw [eL]
      refine ⟨l4, fun {ρ2 σ2 H2 Hs2 fp2} F hF st sp lk hv => ?_, fun x hx => hx.imp (fun z => l3.mem_iff.mpr (by simp [z])) id, fun x hx => by simp [hx], fun x hx => (List.mem_append.mp hx).symm.imp id fun z => l3.mem_iff.mpr (by simp [z]), fun j u q => by rw [List.getElem?_set_ne fun z => by subst z; rw [e0] at q; cases q]; exact q, by simp⟩
      have eU : unlock ρ ρ2 i = ρ2.set i (.ow r) := by unfold unlock; rw [e0]
      rw [eU]
      obtain ⟨fp3, u1, u2, u3, u4⟩ := Pst.unlocked (F := F) h e0 l1 l2 l3 l4 st sp hF lk (fun j u q => by
        refine hv j u ?_
        rw [List.getElem?_set_ne fun z => by subst z; rw [e0] at q; cases q]
        exact q) (hv i r (by rw [List.getElem?_set_self hi]))
      have nd := List.nodup_append.mp (l3.nodup_iff.mp h.nd)
      exact ⟨fp3, u1, u2, u3, fun x hx => (u4 x hx).symm.imp id fun z => ⟨l2.tracked x z, fun w => nd.2.2 x z x w rfl, by simp [z]⟩⟩
    · rename_i r' e0
      cases Option.some.inj h1
      have eL : lock ρ i = ρ := by unfold lock; rw [e0]
      obtain ⟨x, f, l1, l2, l3⟩ := h.rs.readLk e0
      obtain ⟨v, g, r1, r2, _, r3⟩ := path_read hs h.ex l1 l2 hp h2
      refine r3 _ (src_walk (J := R) (fp := F ++ fp) h.ex r1 (fun a ha hf => by
        rcases List.mem_append.mp hf with hf | hf
        · exact (hF a hf).2.2 (l3 a (r2 a ha))
        · exact h.lf a (l3 a (r2 a ha)) hf) hl fun J P w hp => k J P L H Hs fp w hp ?_)
      show Opn X.K T L σ Hs H fp ρ (fun ρ2 => unlock ρ ρ2 i) L (lock ρ i) H Hs fp
      rw [eL]
      have eU : ∀ ρ2, unlock ρ ρ2 i = ρ2 := fun ρ2 => by unfold unlock; rw [e0]
      exact ⟨h, fun {ρ2 σ2 H2 Hs2 fp2} F hF st sp lk hv => ⟨fp2, by rw [eU]; exact st, sp, by rw [eU]; exact lk, fun _ h => .inl h⟩, fun x hx => hx, fun _ h => h, fun _ h => .inl h, fun _ _ q => q, rfl⟩
    · cases h1
end
end CH
end
section
namespace CH
open PySem L2 Evl PyProof.Rows

theorem Stp.updD {F : List Addr} {H Hs : Hp} {D : Addr} {o : HO} (hD : D ∈ F) : Stp F H Hs F (upd H D o) Hs := ⟨Ex.refl _, fun a u q n => by rw [upd_ne (fun z => by subst z; exact n hD)]; exact q, fun _ h => .inl h, fun _ _ q => .inl q⟩
/-- what is gathered at D beside a state; from H1, Hs1, fp1 -/
structure Acc (K : PySem.W.Frag) (T : Tab) (P : Hp → Hp → List Addr → Prop) (L : List Addr) (H1 Hs1 : Hp) (fp1 : List Addr) (D : Addr) (σ : L2.St) (ρ : Env) (H Hs : Hp) (fp : List Addr) (acc : List OT) (vs : List V) (ft : List Addr) : Prop where
  st : StOk K T L Hs H ρ σ fp
  hp : P H Hs (D :: (ft ++ fp))
  hD : H D = some (.lst vs)
  ra : RpOs K T Hs H acc vs ft
  nd : (D :: (ft ++ fp)).Nodup
  nf : ∀ a ∈ D :: ft, Hs a = none
  nl : ∀ a ∈ L, a ∉ D :: ft
  sp : Stp fp1 H1 Hs1 (D :: (ft ++ fp)) H Hs
section
variable {K : PySem.W.Frag} {T : Tab} {P : Hp → Hp → List Addr → Prop} {L : List Addr} {H1 Hs1 : Hp} {fp1 : List Addr} {D : Addr} {σ σ' : L2.St} {ρ ρ' : Env} {H Hs H' Hs' : Hp} {fp fp' : List Addr} {acc : List OT} {vs : List V} {ft : List Addr}
theorem Acc.held (a : Acc K T P L H1 Hs1 fp1 D σ ρ H Hs fp acc vs ft) : ∀ b ∈ D :: ft, (∃ o, H b = some o) ∧ b ∉ fp := fun b hb => by
  have d := List.nodup_append.mp (show ((D :: ft) ++ fp).Nodup from a.nd)
  refine ⟨?_, fun hf => d.2.2 b hb b hf rfl⟩
  rcases List.mem_cons.mp hb with rfl | hb
  · exact ⟨_, a.hD⟩
  · exact a.ra.tracked b hb
theorem Acc.next (keep : ∀ {H Hs fp H' Hs' fp'}, P H Hs fp → Stp fp H Hs fp' H' Hs' → P H' Hs' fp') (a : Acc K T P L H1 Hs1 fp1 D σ ρ H Hs fp acc vs ft) (st : StOk K T L Hs' H' ρ' σ' fp') (s : Stp fp H Hs fp' H' Hs') : Acc K T P L H1 Hs1 fp1 D σ' ρ' H' Hs' fp' acc vs ft := by
  have hh := a.held
  have w : Stp (D :: (ft ++ fp)) H Hs (D :: (ft ++ fp')) H' Hs' := s.wider (fp2 := D :: (ft ++ fp)) (fun x hx => by simp [hx]) (D :: ft) (fun x hx => by
    rcases List.mem_cons.mp hx with rfl | hx
    · simp
    · simp [hx])
  have d := List.nodup_append.mp (show ((D :: ft) ++ fp).Nodup from a.nd)
  refine ⟨st, keep a.hp w, s.fr D _ a.hD (hh D (by simp)).2, a.ra.keep (fun b hb => (hh b (by simp [hb])).2) s, ?_, fun b hb => s.outHs (hh b hb).1 (hh b hb).2 (a.nf b hb), a.nl, a.sp.trans w⟩
  show ((D :: ft) ++ fp').Nodup
  exact List.nodup_append.mpr ⟨d.1, st.nd, fun b hb c hc e => s.out (hh b hb).1 (hh b hb).2 (e ▸ hc)⟩
theorem Acc.push {t : OT} {y : V} {gt : List Addr} {H2 Hs2 : Hp} {fp2 : List Addr} {ρ2 : Env} (keep : ∀ {H Hs fp H' Hs' fp'}, P H Hs fp → Stp fp H Hs fp' H' Hs' → P H' Hs' fp') (a : Acc K T P L H1 Hs1 fp1 D σ ρ H Hs fp acc vs ft) (p : Post K T L σ Hs H fp ρ t ρ2 y H2 Hs2 fp2 gt) :
    Acc K T P L H1 Hs1 fp1 D σ ρ2 (upd H2 D (.lst (vs ++ [y]))) Hs2 fp2 (acc ++ [t]) (vs ++ [y]) (ft ++ gt) ∧ H2 D = some (.lst vs) := by
  have b := Acc.next (P := P) keep a p.st p.pst.sp
  have hh := a.held
  have hb := b.held
  have pd := List.nodup_append.mp p.nd
  have gn : ∀ x ∈ gt, x ∉ D :: ft := fun x hx hf => by
    rcases p.sp.nw x (by simp [hx]) with z | z
    · exact (hh x hf).2 z
    · obtain ⟨o, q⟩ := (hh x hf).1; rw [q] at z; cases z
  have gD : ∀ x ∈ gt, x ≠ D := fun x hx e => gn x hx (by simp [e])
  have dn := List.nodup_append.mp (show ((D :: ft) ++ fp2).Nodup from b.nd)
  have fD : D ∉ fp2 := (hb D (by simp)).2
  have nd2 : (D :: ((ft ++ gt) ++ fp2)).Nodup := by
    have e : (D :: ((ft ++ gt) ++ fp2)) = (D :: ft) ++ (gt ++ fp2) := by simp
    rw [e]
    exact List.nodup_append.mpr ⟨dn.1, p.nd, fun x hx y hy q => by
      subst q
      rcases List.mem_append.mp hy with hy | hy
      · exact gn x hy hx
      · exact (hb x hx).2 hy⟩
  have w : Stp (D :: (ft ++ fp)) H Hs (D :: (ft ++ gt ++ fp2)) H2 Hs2 := by
    have w0 := p.sp.wider (fp2 := D :: (ft ++ fp)) (fun x hx => by simp [hx]) (D :: ft) (fun x hx => by
      rcases List.mem_cons.mp hx with rfl | hx
      · simp
      · simp [hx])
    refine w0.sub fun x hx => ?_
    simp only [List.mem_cons, List.mem_append] at hx ⊢
    rcases hx with hx | (hx | hx) | hx
    · exact .inl (.inl hx)
    · exact .inl (.inr hx)
    · exact .inr (.inl hx)
    · exact .inr (.inr hx)
  have w2 := w.trans (Stp.updD (D := D) (o := .lst (vs ++ [y])) (F := D :: (ft ++ gt ++ fp2)) (by simp))
  refine ⟨⟨p.st.upd fD (fun h => b.nl D h (by simp)) (b.nf D (by simp)), keep a.hp w2, upd_same, ?_, nd2, fun x hx => ?_, fun x hx hm => ?_, a.sp.trans w2⟩, b.hD⟩
  · have r1 : RpOs K T Hs2 (upd H2 D (.lst (vs ++ [y]))) acc vs ft := b.ra.step (Ex.refl _) fun x hx o q => by
      rw [upd_ne (fun z => by subst z; exact (List.nodup_cons.mp dn.1).1 hx)]; exact q
    have r2 : RpO K T Hs2 (upd H2 D (.lst (vs ++ [y]))) t y gt := p.rp.step (Ex.refl _) fun x hx o q => by rw [upd_ne (gD x hx)]; exact q
    have r3 : RpOs K T Hs2 (upd H2 D (.lst (vs ++ [y]))) [t] [y] gt := by have := RpOs.cons r2 RpOs.nil; rw [List.append_nil] at this; exact this
    exact r1.append r3
  · rcases List.mem_cons.mp hx with rfl | hx
    · exact b.nf x (by simp)
    · rcases List.mem_append.mp hx with hx | hx
      · exact b.nf x (by simp [hx])
      · exact p.nf x hx
  · rcases List.mem_cons.mp hm with rfl | hm
    · exact b.nl x hx (by simp)
    · rcases List.mem_append.mp hm with hm | hm
      · exact b.nl x hx (by simp [hm])
      · exact p.lf x hx hm
/-- where no names own less than before -/
theorem Acc.less (a : Acc K T P L H1 Hs1 fp1 D σ ρ H Hs fp acc vs ft) (keep : ∀ {H Hs fp H' Hs' fp'}, P H Hs fp → Stp fp H Hs fp' H' Hs' → P H' Hs' fp') (st : StOk K T L Hs H ρ' σ' fp') (s : ∀ x ∈ fp', x ∈ fp) : Acc K T P L H1 Hs1 fp1 D σ' ρ' H Hs fp' acc vs ft :=
  Acc.next (P := P) keep a st ((Stp.refl fp H Hs).sub s)
end

/-- a clause's tests -/
def wTs (X : Cx) : List Expr → TT
  | [] => tYes
  | c :: _ => wT X c
def oneTest : List Expr → Bool
  | [] => true
  | [_] => true
  | _ => false
def STs (X : Cx) (T : Tab) (W : WX) (ifs : List Expr) (ρ : Env) (r : R (Bool × Env)) : Prop := ∀ (L : List Addr) (σ : L2.St) (H Hs : Hp) (fp : List Addr) (Q : Bool → Hp → Prop), StOk X.K T L Hs H ρ σ fp →
  Cont r (fun p => ∀ H' Hs' fp', Pst X.K T L σ Hs H fp ρ p.2 H' Hs' fp' → Q p.1 H') (XOk X.K T L σ Hs H fp ρ W) → wTs X ifs σ H Q
abbrev blkC' (X : Cx) (s : Shared) (H : Hp) (scope : Scope) (C : Addr) (cl : List (Str × Addr)) (fp : List Addr) : Cx := X.blk s H scope (compEnvC scope cl C X.env) fp
def tIfs (X : Cx) (scope : Scope) (ifs : List Expr) : TT := fun σ H Q => ∀ (s : Shared) (H0 : Hp) (C : Addr) (cl : List (Str × Addr)) (fp : List Addr), wTs (blkC' X s H0 scope C cl fp) ifs σ H Q
def tElt (X : Cx) (scope : Scope) (elt : Expr) : TE := fun σ H Q => ∀ (s : Shared) (H0 : Hp) (C : Addr) (cl : List (Str × Addr)) (fp : List Addr), wE (blkC' X s H0 scope C cl fp) elt σ H Q
section
variable {X : Cx} {T : Tab} {scope : Scope}
theorem pts_w {ifs : List Expr} (h1 : oneTest ifs = true) (s : Shared) (H : Hp) (C : Addr) (cl : List (Str × Addr)) (fp : List Addr) : PTs (blkC' X s H scope C cl fp) ifs (tIfs X scope ifs) := by
  match ifs, h1 with
  | [], _ => exact ⟨fun pins s1 σ H1 Q I h => pts_nil.run pins s1 σ H1 Q I (h s H C cl fp)⟩
  | [c], _ => exact ⟨fun pins s1 σ H1 Q I h => (pts_one (ptW _ c)).run pins s1 σ H1 Q I (h s H C cl fp)⟩
theorem pe_elt {elt : Expr} (s : Shared) (H : Hp) (C : Addr) (cl : List (Str × Addr)) (fp : List Addr) : PE (blkC' X s H scope C cl fp) elt (tElt X scope elt) := ⟨fun pins s1 σ H1 Q I h => h s H C cl fp pins s1 I⟩
abbrev W0 : WX := fun _ _ _ _ => False
/-- a comprehension's turns, whatever a turn adds -/
theorem loop_core {K : PySem.W.Frag} {P : Hp → Hp → List Addr → Prop} {J : It} {ds : List D} {tg : Tg} {vs : List Nat} {cond : Env → R (Bool × Env)} {step : List OT → Env → R (List OT × Env)} {pl : List Nat} {L : List Addr} {σ : L2.St} {H0 Hs0 H1 Hs1 : Hp} {fp0 fp1 : List Addr} {D : Addr} {ρ0 ρ1 ρ2 : Env} {acc0 ts : List OT} {ys0 : List V} {ft0 : List Addr}
    {tt : TT} {rd : L2.St → Hp → (Hp → Prop) → Prop} {Fin : Hp → Prop}
    (wk : Walk K T J ds P) (sub : ∀ j ∈ tg.slots, j ∈ vs) (nlk : ∀ v ∈ vs, ∀ (t : OT), ρ1[v]? ≠ some (.lk t))
    (ht : ∀ (σ3 : L2.St) (H Hs : Hp) (fp : List Addr) (ρ3 : Env) (b : Bool) (ρ4 : Env) (Q : Bool → Hp → Prop), StOk K T L Hs H ρ3 σ3 fp → cond ρ3 = .ok (b, ρ4) → (∀ H' Hs' fp', Pst K T L σ3 Hs H fp ρ3 ρ4 H' Hs' fp' → Q b H') → tt σ3 H Q)
    (hst : ∀ (σ3 : L2.St) (H Hs : Hp) (fp : List Addr) (ρ4 ρ5 : Env) (acc acc' : List OT) (ys : List V) (ft : List Addr) (Nx : Hp → Prop), Acc K T P L H1 Hs1 fp1 D σ3 ρ4 H Hs fp acc ys ft → step acc ρ4 = .ok (acc', ρ5) →
      (∀ σ5 H' Hs' fp' ys' ft', wipe σ5 vs = wipe σ3 vs → Acc K T P L H1 Hs1 fp1 D σ5 ρ5 H' Hs' fp' acc' ys' ft' → lks ρ5 = lks ρ4 → Nx H') → rd σ3 H Nx)
    (a0 : Acc K T P L H1 Hs1 fp1 D (wipe σ vs) ρ0 H0 Hs0 fp0 acc0 ys0 ft0) (lk0 : lks ρ0 = lks ρ1) (wn0 : ∀ j ∈ vs, ∀ s, ρ0[j]? = some s → s = .no) (hres : lcG cond step pl tg vs ds acc0 ρ0 = .ok (ts, ρ2))
    (fin : ∀ H' Hs' fp' ys' ft', Acc K T P L H1 Hs1 fp1 D (wipe σ vs) ρ2 H' Hs' fp' ts ys' ft' → lks ρ2 = lks ρ1 → (∀ j ∈ vs, ∀ s, ρ2[j]? = some s → s = .no) → Fin H') :
    ∃ W : Nat → Nat → Hp → Prop, (∃ m, W 0 m H0) ∧ ∀ i m H, W i m H → (J.stop i H ∧ Fin H) ∨ (J.go i H ∧ ∃ Nx : Hp → Prop, (∀ H', Nx H' → ∃ m', m' < m ∧ W (i + 1) m' H') ∧ ∀ x H', J.yld i H x H' → gT K tg x (wipe σ vs) H' fun σ2 H2 => wipe σ2 vs = wipe σ vs ∧ tt σ2 H2 fun b H3 =>
      if b = true then rd σ2 H3 Nx else Nx H3) := by
  have hlen : ρ1.length = σ.length := by rw [← lks_len lk0, a0.st.rs.length, wipe_length]
  refine ⟨fun i m H' => m = ds.length - i ∧ i ≤ ds.length ∧ ∃ Hs' ρi fpi acc ys ft, Acc K T P L H1 Hs1 fp1 D (wipe σ vs) ρi H' Hs' fpi acc ys ft ∧ lks ρi = lks ρ1 ∧ (∀ j ∈ vs, ∀ s, ρi[j]? = some s → s = .no) ∧ lcG cond step pl tg vs (ds.drop i) acc ρi = .ok (ts, ρ2),
    ⟨ds.length, by simp, Nat.zero_le _, Hs0, _, fp0, acc0, ys0, ft0, a0, lk0, wn0, by simpa using hres⟩, ?_⟩
  rintro i m H' ⟨rfl, hi, Hs', ρi, fpi, acc, ys, ft, a, lk, wn, ev⟩
  have ilen : ρi.length = σ.length := by rw [a.st.rs.length, wipe_length]
  by_cases hlt : i < ds.length
  · refine .inr ?_
    have hd : ds[i]? = some ds[i] := List.getElem?_eq_getElem hlt
    obtain ⟨g1, g2⟩ := wk.go a.hp a.st.ex hd
    refine ⟨g1, fun H'' => ∃ Hs' ρi fpi acc ys ft, Acc K T P L H1 Hs1 fp1 D (wipe σ vs) ρi H'' Hs' fpi acc ys ft ∧ lks ρi = lks ρ1 ∧ (∀ j ∈ vs, ∀ s, ρi[j]? = some s → s = .no) ∧ lcG cond step pl tg vs (ds.drop (i + 1)) acc ρi = .ok (ts, ρ2),
      fun H'' hx => ⟨ds.length - (i + 1), by omega, rfl, by omega, hx⟩, fun x H2 hy => ?_⟩
    obtain ⟨Hs2, n⟩ := g2 x H2 hy
    have st2 := a.st.grow n.eH n.eS n.le n.dm
    have a2 : Acc K T P L H1 Hs1 fp1 D (wipe σ vs) ρi H2 Hs2 fpi acc ys ft := Acc.next (P := P) wk.keep a st2 ⟨n.eS, fun b o q _ => n.eH b o q, fun _ hb => .inl hb, fun b o q => (n.dm b o q).imp id .inr⟩
    have rx : Rp K T Hs2 ds[i] x := by have := n.rp; cases this with | sh r => exact r
    rw [show ds.drop i = ds[i] :: ds.drop (i + 1) from List.drop_eq_getElem_cons hlt] at ev
    unfold lcG at ev
    split at ev
    · cases ev
    · rename_i ρ3 hset
      obtain ⟨σ3, fp3, k1, k2, k3, k4, k5, k6⟩ := setTg_ok st2 rx hset
      have a3 : Acc K T P L H1 Hs1 fp1 D σ3 ρ3 H2 Hs2 fp3 acc ys ft := Acc.less (P := P) a2 wk.keep k1 k2
      have l3 : σ3.length = σ.length := by
        have e1 : ρ3.length = ρi.length := lks_len k3
        rw [← k1.rs.length, e1, ilen]
      have eww : wipe (wipe σ vs) vs = wipe σ vs := wipe_eq (by rw [wipe_length]) fun j hj => wipe_out2 hj
      have ew : wipe σ3 vs = wipe σ vs := by
        rw [← eww]
        exact wipe_eq (by rw [wipe_length, l3]) fun j hj => k4 j fun z => hj (sub j z)
      refine k6 _ ⟨ew, ?_⟩
      -- behind a turn: the slots cleared
      have again : ∀ {σ5 : L2.St} {H5 Hs5 : Hp} {ρ5 : Env} {fp5 : List Addr} {acc5 : List OT} {ys5 : List V} {ft5 : List Addr}, wipe σ5 vs = wipe σ3 vs → Acc K T P L H1 Hs1 fp1 D σ5 ρ5 H5 Hs5 fp5 acc5 ys5 ft5 → lks ρ5 = lks ρ3 → lcG cond step pl tg vs (ds.drop (i + 1)) acc5 (wipeE ρ5 vs) = .ok (ts, ρ2) →
          ∃ Hs' ρi fpi acc ys ft, Acc K T P L H1 Hs1 fp1 D (wipe σ vs) ρi H5 Hs' fpi acc ys ft ∧ lks ρi = lks ρ1 ∧ (∀ j ∈ vs, ∀ s, ρi[j]? = some s → s = .no) ∧ lcG cond step pl tg vs (ds.drop (i + 1)) acc ρi = .ok (ts, ρ2) := fun {σ5 H5 Hs5 ρ5 fp5 acc5 ys5 ft5} e0 a5 l5 e5 => by
        obtain ⟨fp6, w5, w6⟩ := wipe_ok (vs := vs) a5.st
        have a6 := Acc.less (P := P) a5 wk.keep w5 w6
        rw [e0, ew] at a6
        refine ⟨Hs5, _, fp6, acc5, ys5, ft5, a6, ?_, fun j hj s e => wipeE_get hj s e, e5⟩
        have lall : lks ρ5 = lks ρ1 := by rw [l5, k3, lk]
        rw [lks_wipe, lall]
        intro v hv t q
        exact nlk v hv t (lks_lk lall.symm q)
      cases hc : cond ρ3 with
      | no => rw [hc] at ev; cases ev
      | ex e' ρ' => rw [hc] at ev; cases ev
      | ok cb =>
        obtain ⟨b, ρ4⟩ := cb
        rw [hc] at ev
        refine ht σ3 H2 Hs2 fp3 ρ3 b ρ4 _ k1 hc fun H3 Hs3 fp4 p3 => ?_
        have a4 : Acc K T P L H1 Hs1 fp1 D σ3 ρ4 H3 Hs3 fp4 acc ys ft := Acc.next (P := P) wk.keep a3 p3.st p3.sp
        cases b with
        | false =>
          show (if false = true then _ else _)
          rw [if_neg (by simp)]
          exact again rfl a4 p3.lk ev
        | true =>
          show (if true = true then _ else _)
          rw [if_pos rfl]
          cases hel : step acc ρ4 with
          | no => simp only [hel] at ev; cases ev
          | ex e' ρ' => simp only [hel] at ev; cases ev
          | ok te =>
            obtain ⟨acc', ρ5⟩ := te
            simp only [hel] at ev
            exact hst σ3 H3 Hs3 fp4 ρ4 ρ5 acc acc' ys ft _ a4 hel fun σ5 H' Hs' fp' ys' ft' e5 a5 l5 => again e5 a5 (l5.trans p3.lk) ev
  · have e : i = ds.length := by omega
    subst e
    rw [List.drop_length] at ev
    cases ev
    exact .inl ⟨wk.stop a.hp a.st.ex, fin _ _ _ _ _ a lk wn⟩
/-- one item added -/
theorem push_step {P : Hp → Hp → List Addr → Prop} {J : It} {ds : List D} {elt : Expr} {el : Env → R (OT × Env)} {L : List Addr} {H1 Hs1 : Hp} {fp1 : List Addr} {D : Addr} {vs : List Nat} (wk : Walk X.K T J ds P) (he : ∀ s H C cl fp ρ, SE (blkC' X s H scope C cl fp) T W0 elt ρ (el ρ))
    (σ3 : L2.St) (H Hs : Hp) (fp : List Addr) (ρ4 ρ5 : Env) (acc acc' : List OT) (ys : List V) (ft : List Addr) (Nx : Hp → Prop) (a4 : Acc X.K T P L H1 Hs1 fp1 D σ3 ρ4 H Hs fp acc ys ft) (hs : pushE el acc ρ4 = .ok (acc', ρ5))
    (k : ∀ σ5 H' Hs' fp' ys' ft', wipe σ5 vs = wipe σ3 vs → Acc X.K T P L H1 Hs1 fp1 D σ5 ρ5 H' Hs' fp' acc' ys' ft' → lks ρ5 = lks ρ4 → Nx H') :
    tElt X scope elt σ3 H fun y H4 => ∃ acc, H4 D = some (.lst acc) ∧ acc.length < sizeLine ∧ Nx (upd H4 D (.lst (acc ++ [y]))) := by
  intro s2 H02 C2 cl2 fpb2
  refine he s2 H02 C2 cl2 fpb2 ρ4 L σ3 H Hs fp _ a4.st ?_
  unfold pushE at hs
  cases hel : el ρ4 with
  | no => simp only [hel] at hs; cases hs
  | ex e' ρ' => simp only [hel] at hs; cases hs
  | ok te =>
    obtain ⟨t, ρ6⟩ := te
    simp only [hel] at hs
    intro y H4 Hs4 fp5 ft5 p4
    obtain ⟨a5, hD4⟩ := Acc.push (P := P) wk.keep a4 p4
    split at hs
    · rename_i hz
      cases hs
      exact ⟨ys, hD4, by rw [← a4.ra.length, ← line]; exact hz, k σ3 _ _ _ _ _ rfl a5 p4.lk⟩
    · cases hs
theorem quiet_nlk {ρ : Env} {vs : List Nat} (h : quietAll ρ vs = true) : ∀ v ∈ vs, ∀ (t : OT), ρ[v]? ≠ some (.lk t) := fun v hv t e => by
  unfold quietAll at h
  rw [List.all_eq_true] at h
  have := h v hv
  rw [List.getD_eq_getElem?_getD, e] at this
  cases this
theorem quiet_get {ρ : Env} {vs : List Nat} (h : quietAll ρ vs = true) {j : Nat} (hj : j ∈ vs) {s : Sl} (e : ρ[j]? = some s) : quietSl s = true := by
  unfold quietAll at h
  rw [List.all_eq_true] at h
  have := h j hj
  rw [List.getD_eq_getElem?_getD, e] at this
  exact this
/-- the start of a comprehension: a new list, the slots cleared -/
theorem acc_start {P : Hp → Hp → List Addr → Prop} {J : It} {ds : List D} {L : List Addr} {σ : L2.St} {H1 Hs1 : Hp} {fp1 : List Addr} {ρ1 : Env} {D : Addr} {vs : List Nat} (wk : Walk X.K T J ds P) (hp : P H1 Hs1 fp1) (st : StOk X.K T L Hs1 H1 ρ1 σ fp1) (hD : H1 D = none) :
    ∃ fpw, Acc X.K T P L H1 Hs1 fp1 D (wipe σ vs) (wipeE ρ1 vs) (upd H1 D (.lst [])) Hs1 fpw [] [] [] := by
  obtain ⟨fpw, w1, w2⟩ := wipe_ok (vs := vs) st
  have hDf : ∀ x, (∃ o, H1 x = some o) → x ≠ D := fun x ⟨o, q⟩ e => by subst e; rw [hD] at q; cases q
  have hDs : Hs1 D = none := none_of_ex st.ex hD
  have s0 : Stp fp1 H1 Hs1 (D :: ([] ++ fpw)) (upd H1 D (.lst [])) Hs1 := ⟨Ex.refl _, fun a o q _ => by rw [upd_ne (hDf a ⟨o, q⟩)]; exact q, fun a ha => by
    rcases List.mem_cons.mp ha with rfl | ha
    · exact .inr hD
    · exact .inl (w2 a (by simpa using ha)), fun _ _ q => .inl q⟩
  exact ⟨fpw, w1.upd (fun hf => hDf D (w1.rs.tracked D hf) rfl) (fun hl => hDf D (st.lt D hl).1 rfl) hDs, wk.keep hp s0, upd_same, .nil, List.nodup_cons.mpr ⟨fun hf => hDf D (w1.rs.tracked D (by simpa using hf)) rfl, by simpa using w1.nd⟩,
    fun a ha => by have : a = D := by simpa using ha
                   subst this; exact hDs, fun a ha hm => by have : a = D := by simpa using hm
                                                            subst this; exact hDf a (st.lt a ha).1 rfl, s0⟩
/-- .. and its end -/
theorem acc_end {P : Hp → Hp → List Addr → Prop} {bk : Env → Env} {L L' : List Addr} {σ : L2.St} {H Hs H1 Hs1 H' Hs' : Hp} {fp fp1 fpi : List Addr} {ρ ρ1 ρ2 : Env} {D : Addr} {vs : List Nat} {ts : List OT} {ys : List V} {ft : List Addr} (op : Opn X.K T L σ Hs H fp ρ bk L' ρ1 H1 Hs1 fp1) (hq : quietAll ρ1 vs = true)
    (a : Acc X.K T P L' H1 Hs1 fp1 D (wipe σ vs) ρ2 H' Hs' fpi ts ys ft) (lk : lks ρ2 = lks ρ1) (wn : ∀ j ∈ vs, ∀ s, ρ2[j]? = some s → s = .no) :
    ∃ fp3, Post X.K T L σ Hs H fp ρ (.lst ts) (bk (backE ρ1 ρ2 vs)) (.ref D) H' Hs' fp3 (D :: ft) := by
  have hlen : ρ1.length = σ.length := op.st.rs.length
  have ilen : ρ2.length = σ.length := by rw [a.st.rs.length, wipe_length]
  have dn := List.nodup_append.mp (show ((D :: ft) ++ fpi).Nodup from a.nd)
  have lkp : lks (backE ρ1 ρ2 vs) = lks ρ1 := lks_patch lk
  have rs : RpS X.K T Hs' H' L' (backE ρ1 ρ2 vs) σ fpi := patch_rs op.st.rs a.st.rs a.sp.ex (fun j hj s e => quiet_get hq (by simpa using hj) e) (fun j hj s e => wn j (by simpa using hj) s e) (fun j hj => wipe_out2 fun z => by simp [z] at hj) (by rw [ilen, hlen])
  have stb : StOk X.K T L' Hs' H' (backE ρ1 ρ2 vs) σ fpi := ⟨a.st.ex, rs, a.st.nd, a.st.nf, a.st.lf, a.st.lt⟩
  have spb : Stp fp1 H1 Hs1 fpi H' Hs' := a.sp.sub fun x hx => by simp [hx]
  obtain ⟨fp3, b1, b2, b3, b4⟩ := op.back [] (fun x hx => absurd hx (by simp)) stb spb lkp fun _ _ _ => rfl
  have hh := a.held
  have nw : ∀ x ∈ D :: ft, x ∈ fp1 ∨ H1 x = none := fun x hx => a.sp.nw x (by
    rcases List.mem_cons.mp hx with rfl | hx
    · simp
    · simp [hx])
  have out : ∀ x ∈ D :: ft, x ∉ fp3 := fun x hx hf => by
    rcases b4 x hf with z | ⟨⟨o, z⟩, z2, _⟩
    · exact (hh x hx).2 z
    · rcases nw x hx with w | w
      · exact z2 w
      · rw [z] at w; cases w
  refine ⟨fp3, b1, .lst a.hD a.ra, List.nodup_append.mpr ⟨dn.1, b1.nd, fun x hx y hy e => out x hx (e ▸ hy)⟩, a.nf, fun x hx => a.nl x (op.nl x hx), ⟨b2.ex, b2.fr, fun x hx => ?_, b2.dm⟩, b3⟩
  rcases List.mem_append.mp hx with hx | hx
  · exact op.nw x (nw x hx)
  · exact b2.nw x hx
/-- the tests of a clause, as the loop wants them -/
theorem tests_ok {ifs : List Expr} {cond : Env → R (Bool × Env)} {L : List Addr} (ht : ∀ s H C cl fp ρ, STs (blkC' X s H scope C cl fp) T W0 ifs ρ (cond ρ)) (σ3 : L2.St) (H Hs : Hp) (fp : List Addr) (ρ3 : Env) (b : Bool) (ρ4 : Env) (Q : Bool → Hp → Prop) (st : StOk X.K T L Hs H ρ3 σ3 fp) (hc : cond ρ3 = .ok (b, ρ4))
    (k : ∀ H' Hs' fp', Pst X.K T L σ3 Hs H fp ρ3 ρ4 H' Hs' fp' → Q b H') : tIfs X scope ifs σ3 H Q := by
  intro s H0 C cl fpb
  refine ht s H0 C cl fpb ρ3 L σ3 H Hs fp _ st ?_
  rw [hc]
  exact k
/-- the reading of a comprehension -/
theorem lc_read {wi : TI} {ρ : Env} {bk : Env → Env} {rI : R (List D × Env)} {tg : Tg} {ifs : List Expr} {elt : Expr} {cond : Env → R (Bool × Env)} {el : Env → R (OT × Env)} {pl : List Nat} {W : WX} (si : SI X T W wi ρ bk rI)
    (ht : ∀ s H C cl fp ρ, STs (blkC' X s H scope C cl fp) T W0 ifs ρ (cond ρ)) (he : ∀ s H C cl fp ρ, SE (blkC' X s H scope C cl fp) T W0 elt ρ (el ρ))
    {L : List Addr} {σ : L2.St} {H Hs : Hp} {fp : List Addr} {Q : VK} (h : StOk X.K T L Hs H ρ σ fp)
    (k : Cont (rI.bind fun p => if quietAll p.2 tg.slots = true then
        match lcL cond el pl tg p.1 [] (wipeE p.2 tg.slots) with
        | .ok (ts, ρ2) => .ok (OT.lst ts, bk (backE p.2 ρ2 tg.slots))
        | _ => .no
      else .no) (fun p => ∀ v H' Hs' fp' ft, Post X.K T L σ Hs H fp ρ p.1 p.2 v H' Hs' fp' ft → Q v H') (XOk X.K T L σ Hs H fp ρ W)) :
    tLc wi (gT X.K tg) (tIfs X scope ifs) (tElt X scope elt) tg.slots σ H Q := by
  rw [cont_bind] at k
  refine si L σ H Hs fp [] _ h (fun a ha => absurd ha (by simp)) (k.imp (fun p k J P L' H1 Hs1 fp1 wk hp op => ?_) fun _ _ x => x)
  intro D hD
  obtain ⟨ds, ρ1⟩ := p
  simp only at k wk op
  split at k
  · rename_i hq
    cases hres : lcL cond el pl tg ds [] (wipeE ρ1 tg.slots) with
    | no => rw [hres] at k; exact k.elim
    | ex e' ρ' => rw [hres] at k; exact k.elim
    | ok res =>
      obtain ⟨ts, ρ2⟩ := res
      rw [hres] at k
      obtain ⟨fpw, a0⟩ := acc_start (X := X) (vs := tg.slots) wk (by simpa using hp) op.st hD
      refine loop_core (pl := pl) wk (fun j hj => hj) (quiet_nlk hq) (tests_ok ht) (push_step wk he) a0 (lks_wipe (quiet_nlk hq)) (fun j hj s e => wipeE_get hj s e) hres fun H' Hs' fp' ys' ft' a lk wn => ?_
      obtain ⟨fp3, po⟩ := acc_end op hq a lk wn
      exact k _ _ _ _ _ po
  · exact k.elim
/-- an inner clause -/
def tIn (X : Cx) (scope : Scope) (wi1 : TI) (tg1 : Tg) (ifs1 : List Expr) (elt : Expr) (D : Addr) (σ2 : L2.St) (H3 : Hp) (Nx : Hp → Prop) : Prop := wi1 σ2 H3 fun J1 H4 => ∃ W1 : Nat → Nat → Hp → Prop, (∃ m, W1 0 m H4) ∧ ∀ j k H, W1 j k H →
      (J1.stop j H ∧ Nx H) ∨ (J1.go j H ∧ ∃ Nx1 : Hp → Prop, (∀ H', Nx1 H' → ∃ k', k' < k ∧ W1 (j + 1) k' H') ∧ ∀ x H', J1.yld j H x H' → gT X.K tg1 x (wipe σ2 tg1.slots) H' fun σ3 H5 => wipe σ3 tg1.slots = wipe σ2 tg1.slots ∧ tIfs X scope ifs1 σ3 H5 fun b H6 =>
        if b = true then tElt X scope elt σ3 H6 fun y H7 => ∃ acc, H7 D = some (.lst acc) ∧ acc.length < sizeLine ∧ Nx1 (upd H7 D (.lst (acc ++ [y]))) else Nx1 H6)
/-- the readings of an iterable in a block -/
def tIt (X : Cx) (scope : Scope) (iter : Expr) (wi : Cx → TI) : TI := fun σ H R => ∀ (s : Shared) (H0 : Hp) (C : Addr) (cl : List (Str × Addr)) (fp : List Addr), wi (blkC' X s H0 scope C cl fp) σ H R
theorem inner_step {P : Hp → Hp → List Addr → Prop} {J : It} {ds : List D} {elt : Expr} {el : Env → R (OT × Env)} {ifs1 : List Expr} {cond1 : Env → R (Bool × Env)} {it1 : Env → R (List D × Env)} {bk1 : Env → Env → Env} {wi1 : TI} {tg1 : Tg} {pl : List Nat} {L : List Addr} {H1 Hs1 : Hp} {fp1 : List Addr} {D : Addr} {vs : List Nat} (wk : Walk X.K T J ds P) (sub1 : ∀ j ∈ tg1.slots, j ∈ vs)
    (si : ∀ ρ, SI X T W0 wi1 ρ (bk1 ρ) (it1 ρ)) (ht : ∀ s H C cl fp ρ, STs (blkC' X s H scope C cl fp) T W0 ifs1 ρ (cond1 ρ)) (he : ∀ s H C cl fp ρ, SE (blkC' X s H scope C cl fp) T W0 elt ρ (el ρ))
    (σ3 : L2.St) (H Hs : Hp) (fp : List Addr) (ρ4 ρ5 : Env) (acc acc' : List OT) (ys : List V) (ft : List Addr) (Nx : Hp → Prop) (a4 : Acc X.K T P L H1 Hs1 fp1 D σ3 ρ4 H Hs fp acc ys ft) (hs : inner it1 bk1 cond1 el pl tg1 acc ρ4 = .ok (acc', ρ5))
    (k : ∀ σ5 H' Hs' fp' ys' ft', wipe σ5 vs = wipe σ3 vs → Acc X.K T P L H1 Hs1 fp1 D σ5 ρ5 H' Hs' fp' acc' ys' ft' → lks ρ5 = lks ρ4 → Nx H') : tIn X scope wi1 tg1 ifs1 elt D σ3 H Nx := by
  have hh := a4.held
  unfold inner at hs
  refine si ρ4 L σ3 H Hs fp (D :: ft) _ a4.st (fun x hx => ⟨(hh x hx).1, (hh x hx).2, fun hl => a4.nl x hl hx⟩) ?_
  cases hit : it1 ρ4 with
  | no => rw [hit] at hs; cases hs
  | ex => rw [hit] at hs; cases hs
  | ok p =>
    obtain ⟨es, ρ6⟩ := p
    rw [hit] at hs
    simp only at hs
    split at hs
    · rename_i hq
      cases hres : lcL cond1 el pl tg1 es acc (wipeE ρ6 tg1.slots) with
      | no => rw [hres] at hs; cases hs
      | ex => rw [hres] at hs; cases hs
      | ok res =>
        obtain ⟨ts, ρ7⟩ := res
        rw [hres] at hs
        cases hs
        intro J1 P1 L1 H4 Hs4 fp5 wk1 hp1 op1
        -- what is gathered lies beside the new state too
        have nl1 : ∀ x ∈ L1, x ∉ D :: ft := fun x hx hf => (op1.lw x hx).elim (fun z => a4.nl x z hf) (hh x hf).2
        obtain ⟨fpb, _, s0, _, _⟩ := op1.back [] (fun x hx => absurd hx (by simp)) op1.st (Stp.refl _ _ _) rfl fun _ _ _ => rfl
        have s0 : Stp fp H Hs fpb H4 Hs4 := s0
        have n5 : ∀ x ∈ D :: ft, x ∉ fp5 := fun x hx hf => by
          rcases op1.nw x (.inl hf) with z | z
          · exact (hh x hx).2 z
          · obtain ⟨o, q⟩ := (hh x hx).1; rw [q] at z; cases z
        obtain ⟨fpw, w1, w2⟩ := wipe_ok (vs := tg1.slots) op1.st
        have dn := List.nodup_append.mp (show ((D :: ft) ++ fp).Nodup from a4.nd)
        have a1 : Acc X.K T P1 L1 H4 Hs4 (D :: (ft ++ fp5)) D (wipe σ3 tg1.slots) (wipeE ρ6 tg1.slots) H4 Hs4 fpw acc ys ft := by
          have rs : Stp (D :: (ft ++ fp5)) H4 Hs4 (D :: (ft ++ fpw)) H4 Hs4 := (Stp.refl _ _ _).sub fun x hx => by
            simp only [List.mem_cons, List.mem_append] at hx ⊢
            exact hx.imp id fun z => z.imp id (w2 x)
          refine ⟨w1, wk1.keep hp1 rs, s0.fr D _ a4.hD (hh D (by simp)).2, a4.ra.keep (fun x hx => (hh x (by simp [hx])).2) s0, ?_, fun x hx => s0.outHs (hh x hx).1 (hh x hx).2 (a4.nf x hx), nl1, rs⟩
          show ((D :: ft) ++ fpw).Nodup
          exact List.nodup_append.mpr ⟨dn.1, w1.nd, fun x hx y hy e => n5 x hx (w2 x (e ▸ hy))⟩
        refine loop_core (pl := pl) wk1 (fun j hj => hj) (quiet_nlk hq) (tests_ok ht) (push_step wk1 he) a1 (lks_wipe (quiet_nlk hq)) (fun j hj s e => wipeE_get hj s e) hres fun H' Hs' fp' ys' ft' aF lk wn => ?_
        have nwF : ∀ x, x ∈ D :: (ft' ++ fp') → x ∈ D :: (ft ++ fp) ∨ H x = none := fun x hx => by
          rcases aF.sp.nw x hx with z | z
          · rcases List.mem_append.mp (show x ∈ (D :: ft) ++ fp5 from z) with z | z
            · exact .inl (List.mem_append.mpr (.inl z) : x ∈ (D :: ft) ++ fp)
            · exact (op1.nw x (.inl z)).imp (fun y => (List.mem_append.mpr (.inr y) : x ∈ (D :: ft) ++ fp)) id
          · exact (op1.nw x (.inr z)).imp (fun y => (List.mem_append.mpr (.inr y) : x ∈ (D :: ft) ++ fp)) id
        obtain ⟨fp3, b1, b2, b3, b4⟩ := op1.back (D :: ft) (fun x hx hl => nl1 x hl hx) aF.st (aF.sp.sub fun x hx => by simp [hx]) lk fun j u e => wipe_out2 fun hj => quiet_nlk hq j hj u e
        have out : ∀ x ∈ D :: ft', x ∉ fp3 := fun x hx hf => by
          have dF := List.nodup_append.mp (show ((D :: ft') ++ fp').Nodup from aF.nd)
          rcases b4 x hf with z | ⟨_, _, z⟩
          · exact dF.2.2 x hx x z rfl
          · exact aF.nl x z hx
        have sp2 : Stp (D :: (ft ++ fp)) H Hs (D :: (ft' ++ fp3)) H' Hs' := by
          have b2 : Stp (D :: (ft ++ fp)) H Hs fp3 H' Hs' := b2
          refine ⟨b2.ex, b2.fr, fun x hx => ?_, b2.dm⟩
          rcases List.mem_append.mp (show x ∈ (D :: ft') ++ fp3 from hx) with z | z
          · exact nwF x (List.mem_append.mpr (.inl z) : x ∈ (D :: ft') ++ fp')
          · exact b2.nw x z
        have dF := List.nodup_append.mp (show ((D :: ft') ++ fp').Nodup from aF.nd)
        refine k (wipe σ3 tg1.slots) H' Hs' fp3 ys' ft' ?_ ⟨b1, wk.keep a4.hp sp2, aF.hD, aF.ra, ?_, aF.nf, fun x hx => aF.nl x (op1.nl x hx), a4.sp.trans sp2⟩ b3
        · exact wipe_eq (by rw [wipe_length]) fun j hj => wipe_out2 fun z => hj (sub1 j z)
        · show ((D :: ft') ++ fp3).Nodup
          exact List.nodup_append.mpr ⟨dF.1, b1.nd, fun x hx y hy e => out x hx (e ▸ hy)⟩
    · cases hs
/-- the reading of a comprehension of two clauses -/
theorem lc2_read {wi wi1 : TI} {ρ : Env} {bk : Env → Env} {bk1 : Env → Env → Env} {rI : R (List D × Env)} {it1 : Env → R (List D × Env)} {tg tg1 : Tg} {ifs ifs1 : List Expr} {elt : Expr} {cond cond1 : Env → R (Bool × Env)} {el : Env → R (OT × Env)} {pl : List Nat} {W : WX} (si : SI X T W wi ρ bk rI)
    (ht : ∀ s H C cl fp ρ, STs (blkC' X s H scope C cl fp) T W0 ifs ρ (cond ρ)) (si1 : ∀ ρ, SI X T W0 wi1 ρ (bk1 ρ) (it1 ρ)) (ht1 : ∀ s H C cl fp ρ, STs (blkC' X s H scope C cl fp) T W0 ifs1 ρ (cond1 ρ)) (he : ∀ s H C cl fp ρ, SE (blkC' X s H scope C cl fp) T W0 elt ρ (el ρ))
    {L : List Addr} {σ : L2.St} {H Hs : Hp} {fp : List Addr} {Q : VK} (h : StOk X.K T L Hs H ρ σ fp)
    (k : Cont (rI.bind fun p => if quietAll p.2 (tg.slots ++ tg1.slots) = true then
        match lcG cond (inner it1 bk1 cond1 el pl tg1) pl tg (tg.slots ++ tg1.slots) p.1 [] (wipeE p.2 (tg.slots ++ tg1.slots)) with
        | .ok (ts, ρ2) => .ok (OT.lst ts, bk (backE p.2 ρ2 (tg.slots ++ tg1.slots)))
        | _ => .no
      else .no) (fun p => ∀ v H' Hs' fp' ft, Post X.K T L σ Hs H fp ρ p.1 p.2 v H' Hs' fp' ft → Q v H') (XOk X.K T L σ Hs H fp ρ W)) :
    tLc2 wi (gT X.K tg) (tIfs X scope ifs) wi1 (gT X.K tg1) (tIfs X scope ifs1) (tElt X scope elt) (tg.slots ++ tg1.slots) tg1.slots σ H Q := by
  rw [cont_bind] at k
  refine si L σ H Hs fp [] _ h (fun a ha => absurd ha (by simp)) (k.imp (fun p k J P L' H1 Hs1 fp1 wk hp op => ?_) fun _ _ x => x)
  intro D hD
  obtain ⟨ds, ρ1⟩ := p
  simp only at k wk op
  split at k
  · rename_i hq
    cases hres : lcG cond (inner it1 bk1 cond1 el pl tg1) pl tg (tg.slots ++ tg1.slots) ds [] (wipeE ρ1 (tg.slots ++ tg1.slots)) with
    | no => rw [hres] at k; exact k.elim
    | ex e' ρ' => rw [hres] at k; exact k.elim
    | ok res =>
      obtain ⟨ts, ρ2⟩ := res
      rw [hres] at k
      obtain ⟨fpw, a0⟩ := acc_start (X := X) (vs := tg.slots ++ tg1.slots) wk (by simpa using hp) op.st hD
      refine loop_core (pl := pl) (rd := tIn X scope wi1 tg1 ifs1 elt D) wk (fun j hj => by simp [hj]) (quiet_nlk hq) (tests_ok ht) (inner_step wk (fun j hj => by simp [hj]) si1 ht1 he) a0 (lks_wipe (quiet_nlk hq)) (fun j hj s e => wipeE_get hj s e) hres fun H' Hs' fp' ys' ft' a lk wn => ?_
      obtain ⟨fp3, po⟩ := acc_end op hq a lk wn
      exact k _ _ _ _ _ po
  · exact k.elim
end
end CH
end
section
namespace CH
open PySem L2 Evl PyProof.Rows

/-- what a def of the text promises: the arguments' trees us at vs; behind it the value and the trees as Φ says -/
def spF (K : PySem.W.Frag) (T : Tab) (r : List OT → R (OT × List OT)) (n : Nat) : Sp := fun vs H Q E => vs.length = n ∧ ∃ us Hs fc, StOk K T [] Hs H (us.map .ow) (vs.map some) fc ∧
  Cont (r us) (fun p => ∀ v H' Hs' fc' ft, StOk K T [] Hs' H' (p.2.map .ow) (vs.map some) fc' → RpO K T Hs' H' p.1 v ft → (ft ++ fc').Nodup → (∀ a ∈ ft, Hs' a = none) → Stp fc H Hs (ft ++ fc') H' Hs' → Q v H')
    (fun e _ => ∀ H' Hs' C d, Ex Hs' H' → Stp fc H Hs [] H' Hs' → ExRp K T Hs' H' e C d → E (.ref C) (some d) H')
/-- the arguments' values -/
inductive ArgV (K : PySem.W.Frag) (T : Tab) (Hs : Hp) (σ : L2.St) : CAs → List D → List V → Prop
  | nil : ArgV K T Hs σ .nil [] []
  | val {e : CE} {r : CAs} {d : D} {ds : List D} {v : V} {vs : List V} : Rp K T Hs d v → ArgV K T Hs σ r ds vs → ArgV K T Hs σ (.val e r) (d :: ds) (v :: vs)
  | ref {i : Nat} {r : CAs} {ds : List D} {v : V} {vs : List V} : σ[i]? = some (some v) → ArgV K T Hs σ r ds vs → ArgV K T Hs σ (.ref i r) ds (v :: vs)
section
variable {K : PySem.W.Frag} {T : Tab} {Hs H Hs' H' : Hp} {L : List Addr} {σ : L2.St}
theorem ArgV.mono (e : Ex Hs Hs') : ∀ {as : CAs} {ds : List D} {vs : List V}, ArgV K T Hs σ as ds vs → ArgV K T Hs' σ as ds vs
  | _, _, _, .nil => .nil
  | _, _, _, .val h r => .val (h.mono e) (r.mono e)
  | _, _, _, .ref h r => .ref h (r.mono e)
/-- the arguments' trees are taken out of the state -/
theorem fill_ok : ∀ {as : CAs} {ds : List D} {vs : List V} {ρ : Env} {us : List OT} {fp : List Addr}, ArgV K T Hs σ as ds vs → fillA as ds ρ = some us → RpS K T Hs H L ρ σ fp →
    ∃ fc fr, RpS K T Hs H [] (us.map .ow) (vs.map some) fc ∧ RpS K T Hs H L (goneA as ρ) σ fr ∧ fp.Perm (fc ++ fr)
  | _, _, _, ρ, us, fp, .nil, h, r => by
    cases Option.some.inj (show some [] = some us from h)
    exact ⟨[], fp, .nil, r, .refl _⟩
  | .val e as, d :: ds, v :: vs, ρ, us, fp, .val hv ha, h, r => by
    obtain ⟨us', h1, rfl⟩ := Option.map_eq_some_iff.mp (show (fillA as ds ρ).map (fun us => OT.sh d :: us) = some us from h)
    obtain ⟨fc, fr, k1, k2, k3⟩ := fill_ok ha h1 r
    exact ⟨fc, fr, RpS.ow (f := []) (.sh hv) k1, k2, k3⟩
  | .ref i as, ds, v :: vs, ρ, us, fp, .ref hv ha, h, r => by
    obtain ⟨t, h1, h2⟩ := Option.bind_eq_some_iff.mp (show ((Env.own ρ i).bind fun t => (fillA as ds (ρ.set i .no)).map fun us => t :: us) = some us from h)
    obtain ⟨us', h3, rfl⟩ := Option.map_eq_some_iff.mp h2
    obtain ⟨v', f, fr, q1, q2, q3, q4⟩ := r.takeOut (own_get h1)
    rw [hv] at q1
    cases q1
    obtain ⟨fc, fr', k1, k2, k3⟩ := fill_ok ha h3 q4
    refine ⟨f ++ fc, fr', .ow q2 k1, k2, q3.trans ?_⟩
    rw [List.append_assoc]
    exact List.Perm.append_left f k3
theorem gone_no : ∀ {as : CAs} {ρ : Env} {i : Nat}, ρ[i]? = some .no → (goneA as ρ)[i]? = some .no
  | .nil, ρ, i, h => h
  | .val _ r, ρ, i, h => gone_no (as := r) h
  | .ref j r, ρ, i, h => gone_no (as := r) (by
    by_cases e : j = i
    · subst e
      rw [List.getElem?_set_self (List.getElem?_eq_some_iff.mp h).1]
    · rw [List.getElem?_set_ne e]; exact h)
theorem gone_len : ∀ {as : CAs} {ρ : Env}, (goneA as ρ).length = ρ.length
  | .nil, ρ => rfl
  | .val _ r, ρ => gone_len (as := r)
  | .ref j r, ρ => by unfold goneA; rw [gone_len (as := r), List.length_set]
theorem back_no : ∀ {as : CAs} {ds : List D} {ρ τ τ' : Env} {us ws : List OT} {i : Nat}, fillA as ds ρ = some us → ρ[i]? = some .no → τ[i]? = some .no → backA as ws τ = some τ' → τ'[i]? = some .no
  | .nil, ds, ρ, τ, τ', us, ws, i, h, e, et, b => by cases Option.some.inj (show some τ = some τ' from b); exact et
  | .val _ r, d :: ds, ρ, τ, τ', us, w :: ws, i, h, e, et, b => by
    obtain ⟨us', h1, rfl⟩ := Option.map_eq_some_iff.mp (show (fillA r ds ρ).map (fun us => OT.sh d :: us) = some us from h)
    exact back_no h1 e et b
  | .ref j r, ds, ρ, τ, τ', us, w :: ws, i, h, e, et, b => by
    obtain ⟨t, h1, h2⟩ := Option.bind_eq_some_iff.mp (show ((Env.own ρ j).bind fun t => (fillA r ds (ρ.set j .no)).map fun us => t :: us) = some us from h)
    obtain ⟨us', h3, rfl⟩ := Option.map_eq_some_iff.mp h2
    obtain ⟨τ1, b1, rfl⟩ := Option.map_eq_some_iff.mp (show (backA r ws τ).map (fun ρ' => ρ'.set j (Sl.ow w)) = some τ' from b)
    have hji : j ≠ i := fun z => by subst z; rw [own_get h1] at e; cases e
    rw [List.getElem?_set_ne hji]
    exact back_no h3 (by rw [List.getElem?_set_ne hji]; exact e) et b1
  | .val _ r, [], ρ, τ, τ', us, ws, i, h, e, et, b => by cases h
  | .val _ r, d :: ds, ρ, τ, τ', us, [], i, h, e, et, b => by cases b
  | .ref j r, ds, ρ, τ, τ', us, [], i, h, e, et, b => by cases b
theorem back_len : ∀ {as : CAs} {τ τ' : Env} {ws : List OT}, backA as ws τ = some τ' → τ'.length = τ.length
  | .nil, τ, τ', ws, b => by cases Option.some.inj (show some τ = some τ' from b); rfl
  | .val _ r, τ, τ', w :: ws, b => back_len (as := r) b
  | .ref j r, τ, τ', w :: ws, b => by
    obtain ⟨τ1, b1, rfl⟩ := Option.map_eq_some_iff.mp (show (backA r ws τ).map (fun ρ' => ρ'.set j (Sl.ow w)) = some τ' from b)
    rw [List.length_set, back_len b1]
  | .val _ r, τ, τ', [], b => by cases b
  | .ref j r, τ, τ', [], b => by cases b
/-- .. and laid back behind the call -/
theorem back_ok : ∀ {as : CAs} {ds : List D} {vs : List V} {ρ τ' : Env} {us ws : List OT} {fr fc : List Addr}, ArgV K T Hs σ as ds vs → fillA as ds ρ = some us → RpS K T Hs' H' L (goneA as ρ) σ fr → RpS K T Hs' H' [] (ws.map .ow) (vs.map some) fc → backA as ws (goneA as ρ) = some τ' →
    ∃ fp', RpS K T Hs' H' L τ' σ fp' ∧ ∃ fq, fp'.Perm (fq ++ fr) ∧ fq.Sublist fc
  | .nil, ds, vs, ρ, τ', us, ws, fr, fc, _, h, r, rc, b => by
    cases Option.some.inj (show some (goneA .nil ρ) = some τ' from b)
    exact ⟨fr, r, [], .refl _, List.nil_sublist _⟩
  | .val e as, d :: ds, v :: vs, ρ, τ', us, w :: ws, fr, fc, .val hv ha, h, r, rc, b => by
    obtain ⟨us', h1, rfl⟩ := Option.map_eq_some_iff.mp (show (fillA as ds ρ).map (fun us => OT.sh d :: us) = some us from h)
    cases rc with
    | ow hw rc =>
      obtain ⟨fp', k1, fq, k2, k3⟩ := back_ok ha h1 r rc b
      exact ⟨fp', k1, fq, k2, k3.trans (List.sublist_append_right _ _)⟩
  | .ref j as, ds, v :: vs, ρ, τ', us, w :: ws, fr, fc, .ref hv ha, h, r, rc, b => by
    obtain ⟨t, h1, h2⟩ := Option.bind_eq_some_iff.mp (show ((Env.own ρ j).bind fun t => (fillA as ds (ρ.set j .no)).map fun us => t :: us) = some us from h)
    obtain ⟨us', h3, rfl⟩ := Option.map_eq_some_iff.mp h2
    obtain ⟨τ1, b1, rfl⟩ := Option.map_eq_some_iff.mp (show (backA as ws (goneA as (ρ.set j .no))).map (fun ρ' => ρ'.set j (Sl.ow w)) = some τ' from b)
    cases rc with
    | @ow _ _ f _ _ fc' hw rc =>
      obtain ⟨fp', k1, fq, k2, k3⟩ := back_ok ha h3 r rc b1
      have hj := own_lt h1
      have e0 : (ρ.set j .no)[j]? = some .no := List.getElem?_set_self hj
      have ej := back_no h3 e0 (gone_no (as := as) e0) b1
      have hl : j < τ1.length := by rw [back_len b1, gone_len, List.length_set]; exact hj
      obtain ⟨fp2, m1, m2⟩ := k1.put hl ej hw
      have eσ : σ.set j (some v) = σ := by
        obtain ⟨hi2, e2⟩ := List.getElem?_eq_some_iff.mp hv
        rw [← e2, List.set_getElem_self]
      rw [eσ] at m1
      refine ⟨fp2, m1, f ++ fq, m2.trans ?_, k3.append_left f⟩
      rw [List.append_assoc]
      exact List.Perm.append_left f k2
  | .val _ r, d :: ds, v :: vs, ρ, τ', us, [], fr, fc, _, h, _, _, b => by cases b
  | .ref j r, ds, v :: vs, ρ, τ', us, [], fr, fc, _, h, _, _, b => by cases b
theorem lks_gone : ∀ {as : CAs} {ds : List D} {ρ : Env} {us : List OT}, fillA as ds ρ = some us → lks (goneA as ρ) = lks ρ
  | .nil, _, _, _, _ => rfl
  | .val _ r, d :: ds, ρ, us, h => by
    obtain ⟨us', h1, rfl⟩ := Option.map_eq_some_iff.mp (show (fillA r ds ρ).map (fun us => OT.sh d :: us) = some us from h)
    exact lks_gone (as := r) h1
  | .val _ r, [], ρ, us, h => by cases h
  | .ref j r, ds, ρ, us, h => by
    obtain ⟨t, h1, h2⟩ := Option.bind_eq_some_iff.mp (show ((Env.own ρ j).bind fun t => (fillA r ds (ρ.set j .no)).map fun us => t :: us) = some us from h)
    obtain ⟨us', h3, rfl⟩ := Option.map_eq_some_iff.mp h2
    show lks (goneA r (ρ.set j .no)) = lks ρ
    rw [lks_gone (as := r) h3]
    exact lks_set (own_get h1) rfl
theorem lks_back : ∀ {as : CAs} {ds : List D} {ρ τ τ' : Env} {us ws : List OT}, fillA as ds ρ = some us → (∀ i, ∀ (t : OT), Env.own ρ i = some t → τ[i]? = some .no ∨ ∃ u, τ[i]? = some (.ow u)) → backA as ws τ = some τ' → lks τ' = lks τ
  | .nil, _, _, τ, τ', _, ws, _, _, b => by cases Option.some.inj (show some τ = some τ' from b); rfl
  | .val _ r, d :: ds, ρ, τ, τ', us, w :: ws, h, g, b => by
    obtain ⟨us', h1, rfl⟩ := Option.map_eq_some_iff.mp (show (fillA r ds ρ).map (fun us => OT.sh d :: us) = some us from h)
    exact lks_back h1 g b
  | .val _ r, [], _, _, _, _, _, h, _, _ => by cases h
  | .val _ r, _ :: _, _, _, _, _, [], h, _, b => by cases b
  | .ref j r, _, _, _, _, _, [], h, _, b => by cases b
  | .ref j r, ds, ρ, τ, τ', us, w :: ws, h, g, b => by
    obtain ⟨t, h1, h2⟩ := Option.bind_eq_some_iff.mp (show ((Env.own ρ j).bind fun t => (fillA r ds (ρ.set j .no)).map fun us => t :: us) = some us from h)
    obtain ⟨us', h3, rfl⟩ := Option.map_eq_some_iff.mp h2
    obtain ⟨τ1, b1, rfl⟩ := Option.map_eq_some_iff.mp (show (backA r ws τ).map (fun ρ' => ρ'.set j (Sl.ow w)) = some τ' from b)
    have own' : ∀ i, ∀ (t : OT), Env.own (ρ.set j .no) i = some t → Env.own ρ i = some t := fun i t e => by
      have := own_get e
      by_cases hji : j = i
      · subst hji
        rw [List.getElem?_set_self (own_lt h1)] at this; cases this
      · rw [List.getElem?_set_ne hji] at this
        unfold Env.own; rw [this]
    have ih := lks_back h3 (fun i t e => g i t (own' i t e)) b1
    have hj : j < τ1.length := by
      have e1 := back_len b1
      rcases g j t h1 with z | ⟨u, z⟩
      · rw [e1]; exact (List.getElem?_eq_some_iff.mp z).1
      · rw [e1]; exact (List.getElem?_eq_some_iff.mp z).1
    have e2 : lkOf τ1[j] = none := by
      have e3 : (lks τ1)[j]? = (lks τ)[j]? := by rw [ih]
      rw [lks_get, lks_get, List.getElem?_eq_getElem hj] at e3
      rcases g j t h1 with z | ⟨u, z⟩ <;> (rw [z] at e3; simpa [lkOf] using e3)
    rw [← ih]
    exact lks_set (List.getElem?_eq_getElem hj) (by rw [e2]; rfl)
end
end CH
end
section
namespace CH
open PySem L2 Evl PyProof.Rows

/-- the promise of FnOk, asked only where no guarded built-in is under way -/
structure FnG (P : Program) (w : World) (K : PySem.W.Frag) (mg : Str → Option Value) (base : Heap) (k : Nat) (f : Addr) (fd : FuncData) (ps : List Str) (sp : Sp) : Prop where
  many : ∀ {vs : List V} {H : Hp} {Q : VK} {E : XK}, sp vs H Q E → vs.length = ps.length
  runs : ∀ {A : Around} {below : List PySem.Env} {s : Shared} {H : Hp} {us : List Value} {vs : List V} {Q : VK} {E : XK} {args : Args}, A.guards = some [] → Room k A → Env0 P w K mg base A below s H → Vals vs us → BindsTo s fd args (ps.zip us) → sp vs H Q E →
    codeAny (model P w) A (.call (.ref f) args) (CR (L2.CX P w) below P w H s Q E) s
section
variable {X : Cx} {k : Nat} {f : Addr} {fd : FuncData} {ps : List Str} {sp : Sp} {W : WX} {x : Str} {p pos : Pos} {e : Expr} {es : List Expr} {t : TA}
/-- the call f(e, ..) -/
theorem pe_callG (gd : X.A.guards = some []) (tk : Takes X W) (F : FnG X.prog X.w X.K X.mg X.base k f fd ps sp) (room : Room k X.A) (hg : Gl X x) (hm : X.mg x = some (.ref f)) (hk : PySem.W.keepIn X.K (.ref f) = true) (hb : Binds X.K fd ps []) (hx : (x == ("__debug__" : Str)) = false)
    (ha : PA X (e :: es) t) (h1 : starEach (e :: es) X.env = (false, eval e X.env) :: starEach es X.env) (h2 : (backTo pos (starEach es X.env)).any (·.1) = false) : PE X (.Call (.Name x p) (e :: es) [] pos) (tCallS sp (WE W) t) :=
  ⟨fun pins s σ H Q I h => wpAny_Call_Name_kw (ld_glob I hg hm (PySem.W.callWith_K (h₀ := X.base) I.ok.mod.kin hk (thn (ha.run pos pins s σ H _ I h) fun us s1 ⟨vs, H1, I1, rv, q⟩ => ⟨I1.kIn, by
    have hl := rv.length.symm.trans (F.many q)
    have bd := hb s1 us I1.kIn ((congrArg List.length (List.append_nil us)).trans hl)
    rw [List.append_nil] at bd
    refine wpAny_call (codeAny_mono (F.runs gd room I1.env0 rv bd q) fun r s' z => ?_)
    match r, z with
    | .error u, z => exact passAt tk σ pins H1 s1 u s' I1 z
    | .ok (.ret u), z => exact I1.after z
    | .ok .next, z => exact z.elim
    | .ok .brk, z => exact z.elim
    | .ok .cont, z => exact z.elim⟩) h1 h2) hx)⟩
end
section
variable {P : Program} {w : World} {K : PySem.W.Frag} {mg : Str → Option Value} {base : Heap}
/-- a def of the text, by its body -/
theorem fun_G {x qual : Str} {st : Stmt} {f : Addr} {fd : FuncData} {N ps : List Str} {k : Nat} {sp : Sp} (F : Fun K x qual st f fd) (S : FnScope N ps (defScope st)) (len : ∀ vs H Q E, sp vs H Q E → vs.length = ps.length)
    (body : ∀ (cdv : Value) (A : Around) (below : List PySem.Env) (s : Shared) (H : Hp) (vs : List V) (Q : VK) (E : XK), A.guards = some [] → Room k (A.deeper (envOfC qual (defScope st) s.heap.objs.size f cdv)) → sp vs H Q E →
      ∃ t, PSs (cxOf (L2.CX P w) P w K mg base N qual (defScope st) f cdv A below s H E) (defBody st) t ∧ t { nx := fun _ H' => Q .non H', rt := Q } (L2.start N vs) H) : FnG P w K mg base (k + 1) f fd ps sp := by
  obtain ⟨oc, od, kV, doc, pm, an, cdv, ct, osl, rfl, lk, hcd⟩ := F.ex
  refine ⟨len _ _ _ _, fun {A below s H us vs Q E args} gd room e0 rv bd q => ?_⟩
  have inK : K.In s.heap := e0.mod.kin.keeps fun b o z => (e0.bs b o z).1
  have kinds : ∀ y ∈ ps.zip us, (defScope st).names.lookup y.1 = some .local ∨ ((defScope st).names.lookup y.1 = some .cell ∧ ((cellsFrom (s.heap.objs.size + 1) (defScope st).names []).lookup y.1).isSome = true) := fun y hy =>
    (S.par y.1 (List.of_mem_zip (a := y.1) (b := y.2) hy).1).imp id fun z => ⟨z, PySem.W.cellsFrom_some _ _ _ (.inl z)⟩
  refine codeAny_call_function room.depth (inK _ _ lk) rfl S.co S.gen rfl (PySem.W.codeRec_of inK hcd) (bd _ _ _ _ (wpAny_newFunctionEnv_cells S.kind kinds fun env he s1 ic => ?_))
  subst he
  refine ⟨(e0.mod.nolimit.keeps fun b o z => (e0.bs b o z).1).keeps ic.toInCall.keep, codeAny_func ?_⟩
  obtain ⟨t, ht, hq⟩ := body cdv A below s H vs Q E gd (room.deeper _) q
  refine wpAny_mono (ht.run [] s1 (L2.start N vs) H _ (inv_start S room.hd e0 (len _ _ _ _ q) rv ic) hq) (fun fl s' z => ?_) fun _ _ z => z
  have done : ∀ {σ' : L2.St} {H' : Hp} {v : V} {u : Value}, Inv (cxOf (L2.CX P w) P w K mg base N qual (defScope st) f cdv A below s H E) [] σ' H' s' → RelV v u → Q v H' → L2.CE below P w H s Q u s' := fun {σ' H' v u} J a b => ⟨v, H', J.os, J.bare, J.base, J.hok, a, b⟩
  match fl, z with
  | .ret _, ⟨_, _, _, J, a, b⟩ => exact done J a b
  | .next, ⟨_, _, J, b⟩ => exact done (v := .non) (u := .none) J rfl b
  | .brk, ⟨_, _, _, b⟩ => exact b.elim
  | .cont, ⟨_, _, _, b⟩ => exact b.elim
end
/-- the law's def, called with the script by the claim's caller, from a heap in which the script alone may be tracked -/
theorem law_at {P : Program} {w : World} {K : PySem.W.Frag} {mg mb : Str → Option Value} {k : Nat} {fa a : Addr} {fd : FuncData} {x : Str} {sp : Sp} {s : Shared} {vs : List Value} {H : Hp} {ob : Obj} (only : L2.Only H) (at_ : ∀ b u, H b = some u → b = a ∧ K.lookup a = none)
    (KX : K.In s.heap) (hns : s.heap.Ns mainGlobals mg) (hb : s.heap.Ns builtinsNs mb) (hbb : ∀ x : Str, x ≠ "__name__" → mb x = bootBuiltins x) (hlim : s.heap.NoLimit) (hg : s.gens = #[]) (oa : s.heap.get? a = some ob) (nd : ∀ es ep, ob.data ≠ .dict es ep) (hok : HOk P w H s.heap) (hr : Room k callerA)
    (F : ∀ base : Heap, K.In base → base.Ns mainGlobals mg → FnG P w K mg base k fa fd [x] sp) (bind : BindsTo s fd ⟨[.ref a], []⟩ [(x, .ref a)]) (hsp : sp [.ref a] H (fun v _ => v = .bl true) fun _ _ _ => False)
    (hCX : ∀ e s', L2.CX P w [] H s (fun _ _ _ => False) e s' → False) :
    codeAny (model P w) callerA (.call (.ref fa) ⟨[.ref a], []⟩) (fun r s' => r = .ok (.ret (.bool true)) ∧ OldK s.heap s'.heap ∧ s'.os = s.os ∧ AllBare s'.gens) s := by
  have free : ∀ {b : Addr}, (H b ≠ none → False) → H b = none := fun {b} z => by
    cases q : H b with
    | none => rfl
    | some u => exact (z (by rw [q]; simp)).elim
  have ns : ∀ {b : Addr} {m : Str → Option Value}, s.heap.Ns b m → (L2.hidT s.heap H).Ns b m := fun {b m} ⟨o, es, ep, q, d, r⟩ => ⟨o, es, ep, L2.hidT_get q (free fun z => by
    obtain ⟨u, hu⟩ := Option.ne_none_iff_exists'.mp z
    have := (at_ b u hu).1
    subst this
    rw [oa] at q
    cases q
    exact nd _ _ d), d, r⟩
  have kin : K.In (L2.hidT s.heap H) := fun b o q => L2.hidT_get (KX b o q) (free fun z => by
    obtain ⟨u, hu⟩ := Option.ne_none_iff_exists'.mp z
    have := at_ b u hu
    rw [this.1, this.2] at q
    cases q)
  have e0 : Env0 P w K mg (L2.hidT s.heap H) callerA [] s H := ⟨rfl, ⟨kin, ns hns, ⟨mb, ns hb, hbb⟩, (let ⟨mc, h1, h2⟩ := hlim; ⟨mc, ns h1, h2⟩)⟩, fun _ _ q => L2.of_hidT q, Nat.le_of_eq (L2.hidT_size _ _), trivial, fun _ z => (List.not_mem_nil z).elim, hok, .of_eq hg⟩
  refine codeAny_mono ((F _ kin (ns hns)).runs rfl hr e0 (us := [.ref a]) (.cons (show L2.RelV (.ref a) (.ref a) from rfl) .nil) bind hsp) fun r s' z => ?_
  match r, z with
  | .error e, z => exact (hCX e s' z).elim
  | .ok .next, z => exact z.elim
  | .ok .brk, z => exact z.elim
  | .ok .cont, z => exact z.elim
  | .ok (.ret u), ⟨v, H', os, bare, un, hok', rel, q⟩ =>
    cases (show v = .bl true from q)
    cases (show u = Value.bool true from rel)
    refine ⟨rfl, .of_keep fun b o q => ?_, os, bare⟩
    rcases only b with z | ⟨oz, xs, z⟩
    · exact un.keep b o q z (fun z => (List.not_mem_nil z).elim) (fun z => (List.not_mem_nil z).elim)
    · have q1 := (hok b _ z).1
      rw [q] at q1
      cases q1
      exact (hok' b _ (un.frzs b _ _ z)).1
/-- the goal that k_head leaves, from the promise of the law's def -/
theorem walk_G {l : PySem.W.OpenLaw} {n k : Nat} {q : Program} {loose : List Str} {XP : (Str → Option Value) → Heap → Prop} {YP : World → Heap → Prop} {d : DefRec} {K : Params → PySem.W.Frag} {sp : World → Sp} {x : Str} (hn : l.most = some n) (hn2 : n ≤ sizeLine) (hdf : d.params.defaults = []) (hr : Room k callerA)
    (hY : ∀ (w : World) (h : Heap), YP w h → (K w.params).In h)
    (F : ∀ (w : World) (mg : Str → Option Value) (fa : Addr) (h : Heap), (K w.params).In h → h.Ns mainGlobals mg → mg d.name = some (.ref fa) →
      ∃ fd : FuncData, (∀ (s : Shared) (u : Value), BindsTo s fd ⟨[u], []⟩ [(x, u)]) ∧ ∀ base : Heap, (K w.params).In base → base.Ns mainGlobals mg → FnG l.prog w (K w.params) mg base k fa fd [x] (sp w))
    (hsp : ∀ (w : World) (H : Hp) (a : Addr) (ns : List Int), ns.length ≤ n → SqL (K w.params) H a (ns.map V.int) → sp w [.ref a] H (fun v _ => v = .bl true) fun _ _ _ => False)
    (hCX : ∀ (w : World) (H : Hp) (s : Shared) (e : Value) (s' : Shared), L2.CX l.prog w [] H s (fun _ _ _ => False) e s' → False) :
    PySem.W.WalkO q loose XP YP l.row.toRowW d [] (fun f vs => PySem.call f vs) := by
  refine Att.attach_call hn hdf fun w s₀ s mg mb fa o pm cd doc a vs ns G Y ho hd hcd hmg hobj hints hlen hg => ?_
  have KX := hY w _ Y
  obtain ⟨fd, hb, hF⟩ := F w mg fa _ KX G.T.g hmg
  have rv := vals_ints hints
  have hsz : ns.length ≤ sizeLine := Nat.le_trans hlen hn2
  have nd : ∀ es ep, ({ cls := .type "list", data := .seq vs.toArray } : Obj).data ≠ .dict es ep := fun es ep z => by cases (show Data.seq vs.toArray _ = Data.dict es ep from z)
  cases hk : (K w.params).lookup a with
  | some o' =>
    have z := KX a o' hk
    rw [hobj] at z
    cases z
    exact law_at (vs := vs) (H := fun _ => none) (fun _ => .inl rfl) (fun b u z => by cases z) KX G.T.g G.T.b G.T.builtins G.T.nolimit hg hobj nd (fun b u z => by cases (show (none : Option HO) = some u from z)) hr hF (hb _ _)
      (hsp w _ a ns hlen (.inr ⟨_, vs.toArray, _, hk, rfl, rfl, rfl, by rw [List.size_toArray, hints.length]; exact hsz, by simpa using rv⟩)) fun e s' => hCX w _ s e s'
  | none =>
    have hH : ∀ b u, (if b = a then some (HO.frz { cls := .type "list", data := .seq vs.toArray } (.lst (ns.map V.int))) else none) = some u → b = a ∧ u = .frz { cls := .type "list", data := .seq vs.toArray } (.lst (ns.map V.int)) := fun b u z => by
      by_cases e : b = a
      · rw [if_pos e] at z; exact ⟨e, (Option.some.inj z).symm⟩
      · rw [if_neg e] at z; cases z
    exact law_at (vs := vs) (H := fun b => if b = a then some (.frz { cls := .type "list", data := .seq vs.toArray } (.lst (ns.map V.int))) else none) (fun b => by
        by_cases e : b = a
        · exact .inr ⟨_, _, if_pos e⟩
        · exact .inl (if_neg e)) (fun b u z => ⟨(hH b u z).1, hk⟩) KX G.T.g G.T.b G.T.builtins G.T.nolimit hg hobj nd (fun b u z => by
        obtain ⟨e1, e2⟩ := hH b u z
        subst e1 e2
        exact ⟨hobj, by rw [List.length_map]; exact hsz, vs, _, rv, hobj⟩) hr hF (hb _ _)
      (hsp w _ a ns hlen (.inl (.inr ⟨_, if_pos rfl⟩))) fun e s' => hCX w _ s e s'
end CH
end
section
namespace CH
open PySem L2 Evl PyProof.Rows

def SAs (X : Cx) (T : Tab) (W : WX) (as : CAs) (es : List Expr) (ρ : Env) (r : R (List D × Env)) : Prop := ∀ (L : List Addr) (σ : L2.St) (H Hs : Hp) (fp : List Addr) (Q : List V → Hp → Prop), StOk X.K T L Hs H ρ σ fp →
  Cont r (fun p => ∀ vs H' Hs' fp', Pst X.K T L σ Hs H fp ρ p.2 H' Hs' fp' → ArgV X.K T Hs' σ as p.1 vs → Q vs H') (XOk X.K T L σ Hs H fp ρ W) → wEs X es σ H Q
section
variable {X : Cx} {T : Tab} {W : WX} {sc : Scope} {e : Expr} {es : List Expr} {ρ : Env}
theorem sas_nil : SAs X T W .nil [] ρ (.ok ([], ρ)) := fun L σ H Hs fp Q h k => k [] H Hs fp (Pst.refl h) .nil
theorem sas_val {c : CE} {as : CAs} {re : R (OT × Env)} {rs : Env → R (List D × Env)} (he : SE X T W e ρ re) (hs : ∀ ρ1, SAs X T W as es ρ1 (rs ρ1)) :
    SAs X T W (.val c as) (e :: es) ρ (re.bind fun p => (rs p.2).bind fun q => .ok (p.1.toD :: q.1, q.2)) := by
  intro L σ H Hs fp Q h k
  rw [cont_bind] at k
  refine he L σ H Hs fp _ h (k.imp (fun p k v H1 Hs1 fp1 ft p1 => ?_) fun _ _ x => x)
  rw [cont_bind] at k
  obtain ⟨f1, f2⟩ := p1.freeze
  refine hs p.2 L σ H1 _ fp1 _ f1.st (k.imp (fun q k vs H2 Hs2 fp2 p2 a2 => ?_) fun ex ρ' x => x.later f1)
  exact k (v :: vs) H2 Hs2 fp2 (f1.trans p2) (.val (f2.mono p2.sp.ex) a2)
theorem slot_val {i : Nat} (hs : X.env.scope = sc) (h : slotB X.N sc i e = true) {σ : L2.St} {v : V} (hv : σ[i]? = some (some v)) {H : Hp} {Q : VK} (q : Q v H) : wE X e σ H Q := wE_of (slot_of hs h) ⟨v, hv, q⟩
/-- an argument by reference; its slot holds a value -/
theorem sas_ref {i : Nat} {as : CAs} {r : R (List D × Env)} (hs : X.env.scope = sc) (hp : slotB X.N sc i e = true) (hi : ∃ t, Env.tree ρ i = some t) (hr : SAs X T W as es ρ r) : SAs X T W (.ref i as) (e :: es) ρ r := by
  intro L σ H Hs fp Q h k
  obtain ⟨t, ht⟩ := hi
  obtain ⟨v, f, h1, h2, h3⟩ := h.rs.read ht
  exact slot_val hs hp h1 (hr L σ H Hs fp (fun vs H => Q (v :: vs) H) h (k.imp (fun q k vs H2 Hs2 fp2 p2 a2 => k (v :: vs) H2 Hs2 fp2 p2 (.ref h1 a2)) fun _ _ x => x))
/-- the call of a def -/
theorem se_call {f : Nat} {a : Addr} {fd : FuncData} {ps : List Str} {k : Nat} {x : Str} {p pos : Pos} {Φ : Phi} {as : CAs} {r : R (List D × Env)} (tk : Takes X W)
    (gd : X.A.guards = some []) (F : FnG X.prog X.w X.K X.mg X.base k a fd ps (spF X.K T (Φ f) ps.length)) (hr : Room k X.A) (hg : Gl X x) (hm : X.mg x = some (.ref a)) (hk : PySem.W.keepIn X.K (.ref a) = true) (hb : Binds X.K fd ps []) (hn : ∀ us, Φ f us ≠ .no → us.length = ps.length)
    (hne : es ≠ []) (hst : nostar es = true) (hdb : (x == ("__debug__" : Str)) = false) (ha : SAs X T W as es ρ r) :
    SE X T W (.Call (.Name x p) es [] pos) ρ (r.bind fun q => match fillA as q.1 q.2 with
      | none => .no
      | some us => match Φ f us with
        | .ok (t, ws) => match backA as ws (goneA as q.2) with
          | some ρ2 => .ok (t, ρ2)
          | none => .no
        | .ex e _ => .ex e (goneA as q.2)
        | .no => .no) := by
  intro L σ H Hs fp Q h kk
  cases es with
  | nil => exact absurd rfl hne
  | cons e es =>
    have ke : isStar e = false ∧ nostar es = true := by simpa [nostar] using hst
    refine wE_of (pe_callG gd tk F hr hg hm hk hb hdb (paW X (e :: es) hst) (star_cons ke.1) (star_any ke.2)) ?_
    rw [cont_bind] at kk
    refine ha L σ H Hs fp _ h (kk.imp (fun q kk vs H1 Hs1 fp1 p1 av => ?_) fun _ _ x => x)
    obtain ⟨ds, ρ1⟩ := q
    simp only at kk
    split at kk
    · exact kk.elim
    · rename_i us hus
      have n0 : Φ f us ≠ .no := fun z => by rw [z] at kk; exact kk.elim
      obtain ⟨fc, fr, g1, g2, g3⟩ := fill_ok av hus p1.st.rs
      have nd := g3.nodup_iff.mp p1.st.nd
      have d := List.nodup_append.mp nd
      have sub : ∀ x ∈ fc, x ∈ fp1 := fun x hx => g3.mem_iff.mpr (by simp [hx])
      have subr : ∀ x ∈ fr, x ∈ fp1 := fun x hx => g3.mem_iff.mpr (by simp [hx])
      have rn : ∀ x ∈ fr, x ∉ fc := fun x hx hf => d.2.2 x hf x hx rfl
      have ln : ∀ x ∈ L, x ∉ fc := fun x hx hf => p1.st.lf x hx (sub x hf)
      refine ⟨by have e1 := g1.length; simp at e1; rw [← e1]; exact hn us n0, us, Hs1, fc, ⟨p1.st.ex, g1, d.1, fun x hx => p1.st.nf x (sub x hx), fun x hx => absurd hx (by simp), fun x hx => absurd hx (by simp)⟩, ?_⟩
      cases hΦ : Φ f us with
      | no => exact absurd hΦ n0
      | ok tw =>
        obtain ⟨t, ws⟩ := tw
        rw [hΦ] at kk
        intro v H2 Hs2 fc' ft st rp ndf nf sp
        simp only at kk st
        split at kk
        · rename_i ρ2 hb2
          have fr2 : RpS X.K T Hs2 H2 L (goneA as ρ1) σ fr := g2.step sp.ex (fun _ z => z) fun x hx o q => sp.fr x o q (hx.elim (rn x) (ln x))
          obtain ⟨fp2, m1, fq, m2, m3⟩ := back_ok av hus fr2 st.rs hb2
          have dfc := List.nodup_append.mp ndf
          have tr : ∀ x ∈ fr, ∃ o, H1 x = some o := fun x hx => p1.st.rs.tracked x (subr x hx)
          have out : ∀ x ∈ fr, x ∉ ft ++ fc' := fun x hx => sp.out (tr x hx) (rn x hx)
          have outL : ∀ x ∈ L, x ∉ ft ++ fc' := fun x hx => sp.out (p1.st.lt x hx).1 (ln x hx)
          have mem : ∀ x ∈ fp2, x ∈ fc' ∨ x ∈ fr := fun x hx => (List.mem_append.mp (m2.mem_iff.mp hx)).imp (fun z => m3.subset z) id
          refine kk v H2 Hs2 fp2 ft ⟨⟨st.ex, m1, m2.nodup_iff.mpr (List.nodup_append.mpr ⟨dfc.2.1.sublist m3, d.2.1, fun x hx y hy e => by
              subst e; exact out x hy (by simp [m3.subset hx])⟩), fun x hx => ?_, fun x hx hf => ?_, fun x hx => ⟨?_, sp.outHs (p1.st.lt x hx).1 (ln x hx) (p1.st.lt x hx).2⟩⟩, rp, List.nodup_append.mpr ⟨dfc.1, ?_, fun x hx y hy e => ?_⟩, nf, fun x hx hf => outL x hx (by simp [hf]), ?_, ?_⟩
          · rcases mem x hx with z | z
            · exact st.nf x z
            · exact sp.outHs (tr x z) (rn x z) (p1.st.nf x (subr x z))
          · rcases mem x hf with z | z
            · exact outL x hx (by simp [z])
            · exact p1.st.lf x hx (subr x z)
          · obtain ⟨o, q⟩ := (p1.st.lt x hx).1
            exact ⟨o, sp.fr x o q (ln x hx)⟩
          · exact m2.nodup_iff.mpr (List.nodup_append.mpr ⟨dfc.2.1.sublist m3, d.2.1, fun x hx y hy e => by subst e; exact out x hy (by simp [m3.subset hx])⟩)
          · subst e
            rcases mem x hy with z | z
            · exact dfc.2.2 x hx x z rfl
            · exact out x z (by simp [hx])
          · have w := p1.sp.trans (sp.wider (fp2 := fp1) sub fr subr)
            refine w.sub fun x hx => ?_
            rcases List.mem_append.mp hx with z | z
            · simp [z]
            · rcases mem x z with z | z <;> simp [z]
          · have l1 := lks_gone (as := as) hus
            rw [lks_back hus (fun i t ht => ?_) hb2, l1, p1.lk]
            have e2 : (lks (goneA as ρ1))[i]? = (lks ρ1)[i]? := by rw [l1]
            rw [lks_get, lks_get, own_get ht] at e2
            cases z : (goneA as ρ1)[i]? with
            | none => rw [z] at e2; simp at e2
            | some s =>
              rw [z] at e2
              cases s with
              | no => exact .inl rfl
              | ow u => exact .inr ⟨u, rfl⟩
              | lk u => simp [lkOf] at e2
        · exact kk.elim
      | ex e' ρ' =>
        rw [hΦ] at kk
        intro H2 Hs2 C d' ex sp xr
        simp only at kk
        have tr : ∀ x ∈ fr, ∃ o, H1 x = some o := fun x hx => p1.st.rs.tracked x (subr x hx)
        refine kk H2 Hs2 fr C d' ⟨⟨⟨ex, g2.step sp.ex (fun _ z => z) fun x hx o q => sp.fr x o q (hx.elim (rn x) (ln x)), d.2.1, fun x hx => sp.outHs (tr x hx) (rn x hx) (p1.st.nf x (subr x hx)), fun x hx hf => p1.st.lf x hx (subr x hf), fun x hx => ⟨?_, sp.outHs (p1.st.lt x hx).1 (ln x hx) (p1.st.lt x hx).2⟩⟩, ?_, ?_⟩, xr⟩
        · obtain ⟨o, q⟩ := (p1.st.lt x hx).1
          exact ⟨o, sp.fr x o q (ln x hx)⟩
        · have w := p1.sp.trans (sp.wider (fp2 := fp1) sub fr subr)
          exact w.sub fun x hx => by simp [hx]
        · rw [lks_gone (as := as) hus, p1.lk]
end

section
variable {K : PySem.W.Frag} {T : Tab} {Hs H Hs' H' : Hp} {L : List Addr} {σ : L2.St} {ρ ρ' : Env} {fp fp' : List Addr}
theorem RpOs.split : ∀ {ts : List OT} {vs : List V} {g : List Addr} {k : Nat} {t : OT}, RpOs K T Hs H ts vs g → ts[k]? = some t → ∃ v f g', vs[k]? = some v ∧ RpO K T Hs H t v f ∧ RpOs K T Hs H (ts.eraseIdx k) (vs.eraseIdx k) g' ∧ g.Perm (f ++ g')
  | _, _, _, k, _, .nil, e => by simp at e
  | _, _, _, 0, _, .cons h r, e => by simp at e; subst e; exact ⟨_, _, _, rfl, h, r, .refl _⟩
  | _, _, _, k + 1, _, .cons (f := f1) h r, e => by
    obtain ⟨v, f, g', h1, h2, h3, h4⟩ := RpOs.split (k := k) r (by simpa using e)
    refine ⟨v, f, f1 ++ g', by simpa using h1, h2, .cons h h3, ?_⟩
    exact (List.Perm.append_left f1 h4).trans (by rw [← List.append_assoc, ← List.append_assoc]; exact List.Perm.append_right g' List.perm_append_comm)
theorem RpOs.cut : ∀ {ts : List OT} {vs : List V} {g : List Addr} (n : Nat), RpOs K T Hs H ts vs g → ∃ g1 g2, RpOs K T Hs H (ts.take n) (vs.take n) g1 ∧ RpOs K T Hs H (ts.drop n) (vs.drop n) g2 ∧ g.Perm (g1 ++ g2)
  | _, _, g, 0, r => ⟨[], g, .nil, r, .refl _⟩
  | _, _, _, _ + 1, .nil => ⟨[], [], .nil, .nil, .refl _⟩
  | _, _, _, n + 1, .cons (f := f1) h r => by
    obtain ⟨g1, g2, r1, r2, p⟩ := r.cut n
    exact ⟨f1 ++ g1, g2, .cons h r1, r2, by rw [List.append_assoc]; exact List.Perm.append_left f1 p⟩
theorem RpOs.replace : ∀ {ts : List OT} {vs : List V} {g : List Addr} {j : Nat} {t : OT} {v : V} {f : List Addr}, RpOs K T Hs H ts vs g → j < ts.length → RpO K T Hs H t v f → ∃ g' rest, RpOs K T Hs H (ts.set j t) (vs.set j v) g' ∧ (g ++ f).Perm (g' ++ rest)
  | _, _, _, j, t, v, f, .nil, e, h => by simp at e
  | _, _, _, 0, t, v, f, .cons (f := f1) (g := g1) h0 r, e, h => ⟨f ++ g1, f1, .cons h r, by
      rw [List.append_assoc]
      exact (List.perm_append_comm).trans (List.Perm.append_right f1 List.perm_append_comm)⟩
  | _, _, _, j + 1, t, v, f, .cons (f := f1) (g := g1) h0 r, e, h => by
    obtain ⟨g', rest, h1, h2⟩ := RpOs.replace (j := j) r (by simpa using e) h
    exact ⟨f1 ++ g', rest, .cons h0 h1, by rw [List.append_assoc, List.append_assoc]; exact List.Perm.append_left f1 h2⟩
/-- what a change gives: the value t at y, the new items; the rest is dropped -/
structure MuOk (K : PySem.W.Frag) (T : Tab) (Hs H : Hp) (g : List Addr) (t : OT) (y : V) (us' : List OT) (ws : List V) : Prop where
  out : ∃ g' ft rest, RpO K T Hs H t y ft ∧ RpOs K T Hs H us' ws g' ∧ g.Perm ((ft ++ g') ++ rest)
/-- a name's own list in the state -/
theorem StOk.ownList {i : Nat} {us : List OT} (h : StOk K T L Hs H ρ σ fp) (e : ρ.ownL i = some us) : ∃ a vs g fr, σ[i]? = some (some (.ref a)) ∧ H a = some (.lst vs) ∧ RpOs K T Hs H us vs g ∧ fp.Perm (a :: g ++ fr) ∧ RpS K T Hs H L (ρ.set i .no) σ fr ∧ i < ρ.length ∧ ρ[i]? = some (.ow (.lst us)) := by
  have e0 : ρ[i]? = some (.ow (.lst us)) := by
    unfold Env.ownL at e
    split at e
    · rename_i e1; cases Option.some.inj e; exact e1
    · cases e
  obtain ⟨v, f, fr, h1, h2, h3, h4⟩ := h.rs.takeOut e0
  cases h2 with
  | lst q1 q2 => exact ⟨_, _, _, fr, h1, q1, q2, h3, h4, (List.getElem?_eq_some_iff.mp e0).1, e0⟩
/-- the list at a slot replaced -/
theorem mu_state {i : Nat} {us us' ts : List OT} {ws ys : List V} {a : Addr} {vs : List V} {g fr ft : List Addr} {t : OT} {y : V} {Hs0 H0 : Hp} {fp0 : List Addr} {ρ0 : Env} (ps : Posts K T L σ Hs0 H0 fp0 ρ0 ts ρ ys H Hs fp ft) (hσ : σ[i]? = some (some (.ref a))) (ha : H a = some (.lst vs)) (hu : RpOs K T Hs H us vs g)
    (pm : fp.Perm (a :: g ++ fr)) (hr : RpS K T Hs H L (ρ.set i .no) σ fr) (hi : i < ρ.length) (e0 : ρ[i]? = some (.ow (.lst us))) (m : MuOk K T Hs H (g ++ ft) t y us' ws) :
    ∃ fp' gt, Post K T L σ Hs0 H0 fp0 ρ0 t (ρ.set i (.ow (.lst us'))) y (L2.upd H a (.lst ws)) Hs fp' gt := by
  obtain ⟨g', gt, rest, r1, r2, p2⟩ := m.out
  have nd0 : (ft ++ (a :: g ++ fr)).Nodup := (List.Perm.append_left ft pm).nodup_iff.mp ps.nd
  -- all addresses in one row
  have all : (ft ++ fp).Perm (a :: (gt ++ g' ++ rest) ++ fr) := by
    have z1 : (ft ++ fp).Perm (ft ++ (a :: g ++ fr)) := List.Perm.append_left ft pm
    have z2 : (ft ++ (a :: g ++ fr)).Perm (a :: (g ++ ft) ++ fr) := by
      have : (ft ++ (a :: g ++ fr)) = (ft ++ (a :: g)) ++ fr := by simp
      rw [this]
      refine List.Perm.append_right fr ?_
      exact (List.perm_append_comm).trans (by simp)
    exact (z1.trans z2).trans (List.Perm.append_right fr (List.Perm.cons a p2))
  have ndA : (a :: (gt ++ g' ++ rest) ++ fr).Nodup := all.nodup_iff.mp ps.nd
  have mem : ∀ x, x = a ∨ x ∈ gt ∨ x ∈ g' ∨ x ∈ rest ∨ x ∈ fr → x ∈ ft ++ fp := fun x hx => all.mem_iff.mpr (by
    simp only [List.mem_append, List.mem_cons]
    rcases hx with h | h | h | h | h <;> simp [h])
  have nfA : ∀ x ∈ ft ++ fp, Hs x = none := fun x hx => (List.mem_append.mp hx).elim (ps.nf x) (ps.st.nf x)
  have aN : ∀ x, x ∈ gt ∨ x ∈ g' ∨ x ∈ fr → x ≠ a := fun x hx e => by
    subst e
    have := (List.nodup_cons.mp (show (x :: ((gt ++ g' ++ rest) ++ fr)).Nodup from ndA)).1
    exact this (by simp only [List.mem_append]; rcases hx with h | h | h <;> simp [h])
  have aL : a ∉ L := fun h => (by
    rcases List.mem_append.mp (mem a (.inl rfl)) with z | z
    · exact ps.lf a h z
    · exact ps.st.lf a h z)
  have keep : ∀ x, x ≠ a → ∀ o, H x = some o → (L2.upd H a (.lst ws)) x = some o := fun x hx o q => by rw [upd_ne hx]; exact q
  have k1 : RpOs K T Hs (L2.upd H a (.lst ws)) us' ws g' := r2.step (Ex.refl _) fun x hx => keep x (aN x (.inr (.inl hx)))
  have k2 : RpO K T Hs (L2.upd H a (.lst ws)) t y gt := r1.step (Ex.refl _) fun x hx => keep x (aN x (.inl hx))
  have k3 : RpS K T Hs (L2.upd H a (.lst ws)) L (ρ.set i .no) σ fr := hr.step (Ex.refl _) (fun _ z => z) fun x hx => keep x (by
    rcases hx with hx | hx
    · exact aN x (.inr (.inr hx))
    · exact fun e => aL (e ▸ hx))
  obtain ⟨fp', m1, m2⟩ := k3.put (i := i) (by simpa using hi) (by rw [List.getElem?_set_self hi]) (RpO.lst (upd_same (H := H) (a := a) (o := .lst ws)) k1)
  rw [List.set_set] at m1
  have eσ : σ.set i (some (.ref a)) = σ := by
    obtain ⟨hi2, e2⟩ := List.getElem?_eq_some_iff.mp hσ
    rw [← e2, List.set_getElem_self]
  rw [eσ] at m1
  have sub : ∀ x ∈ fp', x ∈ ft ++ fp := fun x hx => mem x (by
    have := m2.mem_iff.mp hx
    simp only [List.cons_append, List.mem_cons, List.mem_append] at this
    rcases this with h | h | h <;> simp [h])
  have subt : ∀ x ∈ gt, x ∈ ft ++ fp := fun x hx => mem x (.inr (.inl hx))
  have ndn : (gt ++ fp').Nodup := by
    have z : (a :: (gt ++ g') ++ fr).Nodup := by
      refine List.Nodup.sublist ?_ ndA
      simp
    have z2 : (gt ++ (a :: g' ++ fr)).Nodup := by
      refine List.Perm.nodup_iff ?_ |>.mp z
      have : (a :: (gt ++ g') ++ fr) = a :: (gt ++ (g' ++ fr)) := by simp
      rw [this]
      refine List.Perm.symm ?_
      have : (gt ++ (a :: g' ++ fr)) = gt ++ a :: (g' ++ fr) := by simp
      rw [this]
      exact List.perm_middle
    exact (List.Perm.append_left gt m2.symm).nodup_iff.mp z2
  have lt2 : ∀ x ∈ L, x ∉ ft ++ fp := fun x hx hf => (List.mem_append.mp hf).elim (ps.lf x hx) (ps.st.lf x hx)
  refine ⟨fp', gt, ⟨ps.st.ex.mut (nfA a (mem a (.inl rfl))), m1, (List.nodup_append.mp ndn).2.1, fun x hx => nfA x (sub x hx), fun x hx hf => lt2 x hx (sub x hf), fun x hx => ⟨?_, (ps.st.lt x hx).2⟩⟩, k2, ndn, fun x hx => nfA x (subt x hx), fun x hx hf => lt2 x hx (subt x hf), ?_, ?_⟩
  · obtain ⟨o, q⟩ := (ps.st.lt x hx).1
    exact ⟨o, keep x (fun e => aL (e ▸ hx)) o q⟩
  · have w : Stp (ft ++ fp) H Hs (ft ++ fp) (L2.upd H a (.lst ws)) Hs := Stp.updD (D := a) (mem a (.inl rfl))
    exact (ps.sp.trans w).sub fun x hx => (List.mem_append.mp hx).elim (subt x) (sub x)
  · rw [← ps.lk]
    exact lks_set e0 rfl
end
/-- xs.insert(i, y) -/
def rInsert : V → List V → Hp → VK → Prop := fun x vs H Q => ∃ (l : Addr) (xs : List V) (i : Int) (y : V), x = .ref l ∧ vs = [.int i, y] ∧ H l = some (.lst xs) ∧ xs.length < sizeLine ∧ 0 ≤ i ∧ i < 2 ^ 63 ∧ Q .non (L2.upd H l (.lst (xs.take i.toNat ++ [y] ++ xs.drop i.toNat)))
def Mu.nm : Mu → Str
  | .append => "append" | .extend => "extend" | .pop => "pop" | .popAt => "pop" | .insert => "insert" | .setIx => "__setitem__" | .remove => "remove"
section
variable {X : Cx} {T : Tab} {W : WX} {sc : Scope} {e : Expr} {es : List Expr} {ρ : Env}
theorem perm_nil {α : Type} (l : List α) : l.Perm (([] ++ l) ++ []) := by rw [List.append_nil, List.nil_append]
theorem mu_popAt {us ts : List OT} {r : OT × List OT} (h : muEv .popAt us ts = some r) : ∃ i, ts = [.sh (.int i)] ∧ (if -(2 ^ 63) ≤ i ∧ i < 2 ^ 63 then (seqIndex? i us.length).bind fun k => (us[k]?).map fun t => (t, us.eraseIdx k) else none) = some r := by
  unfold muEv at h
  split at h <;> first | contradiction | skip
  all_goals first | (rename_i z _ _ _; cases z; done) | exact ⟨_, rfl, h⟩
theorem mu_setIx {us ts : List OT} {r : OT × List OT} (h : muEv .setIx us ts = some r) : ∃ t i, ts = [t, .sh (.int i)] ∧ ((ixN us.length i).map fun j => (OT.sh .non, us.set j t)) = some r := by
  unfold muEv at h
  split at h <;> first | contradiction | skip
  all_goals exact ⟨_, _, rfl, h⟩
theorem mu_insert {us ts : List OT} {r : OT × List OT} (h : muEv .insert us ts = some r) : ∃ i t, ts = [.sh (.int i), t] ∧ (0 ≤ i ∧ i < 2 ^ 62 ∧ us.length < big) ∧ (OT.sh .non, us.take i.toNat ++ [t] ++ us.drop i.toNat) = r := by
  unfold muEv at h
  split at h <;> first | contradiction | skip
  all_goals
    split at h
    · rename_i hb
      exact ⟨_, _, rfl, hb, Option.some.inj h⟩
    · cases h
def MuR (X : Cx) (m : Mu) (H : Hp) (a : Addr) (ys vs : List V) (y : V) (ws : List V) : Prop := match m with
  | .append => ∀ Q : VK, Q y (L2.upd H a (.lst ws)) → rAppend (.ref a) ys H Q
  | .extend => ∀ Q : VK, Q y (L2.upd H a (.lst ws)) → rExtend (.ref a) ys H Q
  | .pop => ys = [] ∧ ∀ Q : VK, Q y (L2.upd H a (.lst ws)) → rPop (.ref a) [] H Q
  | .popAt => ∀ Q : VK, Q y (L2.upd H a (.lst ws)) → rPopAt (.ref a) ys H Q
  | .insert => ∀ Q : VK, Q y (L2.upd H a (.lst ws)) → rInsert (.ref a) ys H Q
  | .setIx => ∃ v k j, ys = [v, .int k] ∧ L2.ixN vs.length k = some j ∧ ws = vs.set j v
  | _ => False
/-- each change, by the layer's rule -/
theorem mu_rule {m : Mu} {Hs H : Hp} {us us' ts : List OT} {t : OT} {a : Addr} {vs ys : List V} {g ft : List Addr} (ex : Ex Hs H) (ha : H a = some (.lst vs)) (hu : RpOs X.K T Hs H us vs g) (hts : RpOs X.K T Hs H ts ys ft) (hev : muEv m us ts = some (t, us')) :
    ∃ y ws, MuOk X.K T Hs H (g ++ ft) t y us' ws ∧ MuR X m H a ys vs y ws := by
  cases m with
  | append =>
    match ts, hts, hev with
    | [t0], .cons (v := y0) (f := f0) h0 .nil, hev =>
      obtain ⟨hz, e1⟩ := guard_eq (show guard_ (decide (us.length < big)) (OT.sh .non, us ++ [t0]) = some (t, us') from hev)
      cases e1
      refine ⟨.non, vs ++ [y0], ⟨g ++ (f0 ++ []), [], [], .sh .non, hu.append (.cons h0 .nil), by simp⟩, fun Q q => ⟨a, vs, y0, rfl, rfl, ha, ?_, q⟩⟩
      rw [← hu.length, ← line]; exact of_decide_eq_true hz
    | [], _, hev => cases hev
    | _ :: _ :: _, _, hev => cases hev
  | extend =>
    match ts, hts, hev with
    | [t0], .cons (v := y0) (f := f0) h0 .nil, hev =>
      obtain ⟨ds, h1, h2⟩ := Option.bind_eq_some_iff.mp (show (t0.litems.bind fun ds => guard_ (decide (us.length + ds.length ≤ big)) (OT.sh .non, us ++ ds.map OT.sh)) = some (t, us') from hev)
      obtain ⟨hz, e1⟩ := guard_eq h2
      cases e1
      obtain ⟨b, zs, rfl, hb, rs⟩ := opd_litems ex ⟨_, h0⟩ h1
      refine ⟨.non, vs ++ zs, ⟨g ++ [], [], f0, .sh .non, hu.append (.of rs), by simp⟩, fun Q q => ⟨a, b, vs, zs, rfl, rfl, ha, hb, ?_, q⟩⟩
      rw [← hu.length, ← rs.length, ← line]; exact of_decide_eq_true hz
    | [], _, hev => cases hev
    | _ :: _ :: _, _, hev => cases hev
  | pop =>
    match ts, hts, hev with
    | [], .nil, hev =>
      obtain ⟨t0, h1, e1⟩ := Option.map_eq_some_iff.mp (show (us[us.length - 1]?).map (fun t => (t, us.dropLast)) = some (t, us') from hev)
      cases e1
      obtain ⟨v, f, g', h2, h3, h4, h5⟩ := hu.split h1
      have d1 : us.eraseIdx (us.length - 1) = us.dropLast := by rw [List.dropLast_eq_take, List.eraseIdx_eq_take_drop_succ]; simp; omega
      have d2 : vs.eraseIdx (us.length - 1) = vs.dropLast := by rw [hu.length, List.dropLast_eq_take, List.eraseIdx_eq_take_drop_succ]; simp; omega
      rw [d1, d2] at h4
      exact ⟨v, vs.dropLast, ⟨g', f, [], h3, h4, by simpa using h5⟩, rfl, fun Q q => ⟨a, vs, v, rfl, rfl, ha, by rw [← hu.length]; exact h2, q⟩⟩
    | _ :: _, _, hev => cases hev
  | popAt =>
    obtain ⟨i, e0, hv⟩ := mu_popAt hev
    clear hev
    subst e0
    match hts with
    | .cons h0 .nil =>
      split at hv
      · rename_i hb
        obtain ⟨k, h1, h2⟩ := Option.bind_eq_some_iff.mp hv
        obtain ⟨t0, h3, e1⟩ := Option.map_eq_some_iff.mp h2
        cases e1
        obtain ⟨v, f, g', k2, k3, k4, k5⟩ := hu.split h3
        cases h0 with
        | sh h0 =>
          cases h0
          exact ⟨v, _, ⟨g', f, [], k3, k4, by simpa using k5⟩, fun Q q => ⟨a, vs, i, k, v, rfl, rfl, ha, hb.1, hb.2, by rw [← hu.length]; exact h1, k2, q⟩⟩
      · cases hv
  | setIx =>
    obtain ⟨t0, i, e0, hv⟩ := mu_setIx hev
    clear hev
    subst e0
    obtain ⟨j, h1, e1⟩ := Option.map_eq_some_iff.mp hv
    cases e1
    match hts with
    | .cons (v := v0) (f := f0) h0 (.cons (f := f1) h1' .nil) =>
      cases h1' with
      | sh h2 =>
        cases h2
        have hj : j < us.length := by
          have := (ixN_seq h1).2.1
          exact this
        obtain ⟨g', rest, r1, r2⟩ := hu.replace (j := j) hj h0
        exact ⟨.non, vs.set j v0, ⟨g', [], rest, .sh .non, r1, by simpa using r2⟩, v0, i, j, rfl, by rw [← hu.length]; exact h1, rfl⟩
  | insert =>
    obtain ⟨i, t0, e0, ⟨b1, b2, b3⟩, e1⟩ := mu_insert hev
    clear hev
    subst e0
    cases e1
    match hts with
    | .cons h0 (.cons (v := v0) (f := f0) h1 .nil) =>
      cases h0 with
      | sh h0 =>
        cases h0
        obtain ⟨g1, g2, r1, r2, pm⟩ := hu.cut i.toNat
        refine ⟨.non, vs.take i.toNat ++ [v0] ++ vs.drop i.toNat, ⟨g1 ++ f0 ++ g2, [], [], .sh .non, ?_, ?_⟩, fun Q q => ⟨a, vs, i, v0, rfl, rfl, ha, by rw [← hu.length, ← line]; exact b3, b1, by omega, q⟩⟩
        · have r3 : RpOs X.K T Hs H [t0] [v0] f0 := by have := RpOs.cons h1 RpOs.nil; rw [List.append_nil] at this; exact this
          exact (r1.append r3).append r2
        · have p1 : (g1 ++ f0 ++ g2).Perm (g1 ++ g2 ++ f0) := by
            rw [List.append_assoc, List.append_assoc]
            exact List.Perm.append_left g1 List.perm_append_comm
          have p2 : (g ++ f0).Perm (g1 ++ g2 ++ f0) := List.Perm.append_right f0 pm
          simpa using p2.trans p1.symm
  | remove => cases ts <;> cases hev
end
end CH
end
section
namespace CH
open PySem L2 Evl PyProof.Rows

theorem Posts.freeze {K : PySem.W.Frag} {T : Tab} {L : List Addr} {σ : L2.St} {Hs H H' Hs' : Hp} {fp fp' ft : List Addr} {ρ ρ' : Env} {ts : List OT} {vs : List V} (p : Posts K T L σ Hs H fp ρ ts ρ' vs H' Hs' fp' ft) : Pst K T L σ Hs H fp ρ ρ' H' (frz Hs' H' ft) fp' ∧ Rps K T (frz Hs' H' ft) (toDs ts) vs := by
  have d := List.nodup_append.mp p.nd
  have nin : ∀ a ∈ fp', a ∉ ft := fun a ha hf => d.2.2 a hf a ha rfl
  refine ⟨⟨⟨frz_le p.st.ex, p.st.rs.step (frz_ex p.nf) (fun _ q => q) fun _ _ _ q => q, p.st.nd, fun a ha => by rw [frz_out (nin a ha)]; exact p.st.nf a ha, p.st.lf, fun a ha => ⟨(p.st.lt a ha).1, by rw [frz_out (p.lf a ha)]; exact (p.st.lt a ha).2⟩⟩, ⟨p.sp.ex.trans (frz_ex p.nf), p.sp.fr, fun a ha => p.sp.nw a (by simp [ha]), fun a o q => ?_⟩, p.lk⟩, p.rp.frz p.nf fun a ha => ha⟩
  by_cases h : a ∈ ft
  · exact .inr (p.sp.nw a (by simp [h]))
  · rw [frz_out h] at q; exact p.sp.dm a o q
section
variable {X : Cx} {T : Tab} {W : WX} {sc : Scope} {e : Expr} {es : List Expr} {ρ : Env} {pos : Pos}
theorem wT.mono {σ : L2.St} {H : Hp} {Q Q' : Bool → Hp → Prop} (h : wT X e σ H Q) (k : ∀ v H, Q v H → Q' v H) : wT X e σ H Q' := fun pins s I =>
  thn (h pins s I) fun u s' ⟨H', I', q⟩ => ⟨H', I', k u H' q⟩
theorem se_val {d : D} {z : V} (p : PE X e (tC z)) (r : ∀ Hs, Rp X.K T Hs d z) : SE X T W e ρ (.ok (.sh d, ρ)) := fun L σ H Hs fp Q h k => wE_of p (k z H Hs fp [] (Post.val h (r Hs)))
theorem se_v {i : Nat} (hs : X.env.scope = sc) (hp : slotB X.N sc i e = true) : SE X T W e ρ (getV ρ i) := by
  intro L σ H Hs fp Q h k
  unfold getV at k
  split at k
  · rename_i d e0
    obtain ⟨v, f, h1, h2, h3⟩ := h.rs.read e0
    cases h2 with
    | sh h2 => exact slot_val hs hp h1 (k v H Hs fp [] (Post.val h h2))
  · exact k.elim
theorem take_post {L : List Addr} {σ : L2.St} {H Hs : Hp} {fp : List Addr} {i : Nat} {t : OT} (h : StOk X.K T L Hs H ρ σ fp) (ht : Env.own ρ i = some t) : ∃ v f fr, σ[i]? = some (some v) ∧ Post X.K T L σ Hs H fp ρ t (ρ.set i .no) v H Hs fr f := by
  obtain ⟨v, f, fr, h1, h2, h3, h4⟩ := h.rs.takeOut (own_get ht)
  have nd := h3.nodup_iff.mp h.nd
  have d := List.nodup_append.mp nd
  have m : ∀ x, x ∈ f ∨ x ∈ fr → x ∈ fp := fun x hx => h3.mem_iff.mpr (List.mem_append.mpr hx)
  exact ⟨v, f, fr, h1, ⟨h.ex, h4, d.2.1, fun x hx => h.nf x (m x (.inr hx)), fun x hx hf => h.lf x hx (m x (.inr hf)), h.lt⟩, h2, nd, fun x hx => h.nf x (m x (.inl hx)), fun x hx hf => h.lf x hx (m x (.inl hf)), (Stp.refl _ _ _).sub fun x hx => m x (List.mem_append.mp hx), lks_set (own_get ht) rfl⟩
theorem se_take {i : Nat} (hs : X.env.scope = sc) (hp : slotB X.N sc i e = true) : SE X T W e ρ (match ρ.own i with
    | some t => .ok (t, ρ.set i .no)
    | none => .no) := by
  intro L σ H Hs fp Q h k
  cases ht : Env.own ρ i with
  | none => rw [ht] at k; exact k.elim
  | some t =>
    rw [ht] at k
    obtain ⟨v, f, fr, h1, p⟩ := take_post h ht
    exact slot_val hs hp h1 (k v H Hs fr f p)
theorem same_set {σ : L2.St} {i : Nat} {v : V} (h1 : σ[i]? = some (some v)) : σ.set i (some v) = σ := by
  obtain ⟨hi2, e2⟩ := List.getElem?_eq_some_iff.mp h1
  rw [← e2, List.set_getElem_self]
/-- a name's tree is frozen where it is -/
theorem frz_slot {L : List Addr} {σ : L2.St} {H Hs : Hp} {fp : List Addr} {i : Nat} {t : OT} (h : StOk X.K T L Hs H ρ σ fp) (ht : Env.own ρ i = some t) : ∃ v Hs' fp', σ[i]? = some (some v) ∧ Pst X.K T L σ Hs H fp ρ (ρ.set i (.ow (.sh t.toD))) H Hs' fp' ∧ Rp X.K T Hs' t.toD v := by
  obtain ⟨v, f, fr, h1, p⟩ := take_post h ht
  obtain ⟨p1, r1⟩ := p.freeze
  obtain ⟨fp', s1, s2⟩ := p1.st.store (i := i) (by simpa using own_lt ht) (.sh r1) (fun a ha => absurd ha (by simp)) .nil (fun a ha => absurd ha (by simp)) (fun a _ ha => absurd ha (by simp))
  rw [List.set_set, same_set h1] at s1
  exact ⟨v, _, fp', h1, ⟨s1, p1.sp.sub fun a ha => (s2 a ha).elim (fun z => absurd z (by simp)) id, lks_set (own_get ht) rfl⟩, r1⟩
theorem se_mv {i : Nat} (hs : X.env.scope = sc) (hp : slotB X.N sc i e = true) : SE X T W e ρ (match ρ.own i with
    | some t => .ok (.sh t.toD, ρ.set i (.ow (.sh t.toD)))
    | none => .no) := by
  intro L σ H Hs fp Q h k
  cases ht : Env.own ρ i with
  | none => rw [ht] at k; exact k.elim
  | some t =>
    rw [ht] at k
    obtain ⟨v, Hs', fp', h1, p, r⟩ := frz_slot h ht
    exact slot_val hs hp h1 (k v H Hs' fp' [] (p.post (Post.val p.st r)))
/-- a tuple, a list of written items -/
theorem se_tup {x1} {r : R (List OT × Env)} (hn : nostar es = true) (hr : SEs X T W es ρ r) : SE X T W (.Tuple es x1 pos) ρ (r.bind fun p => if p.1.length ≤ big then .ok (.sh (.tup (toDs p.1)), p.2) else .no) := by
  intro L σ H Hs fp Q h k
  rw [cont_bind] at k
  refine wE_of (pe_tup (paW X es hn)) (hr L σ H Hs fp _ h (k.imp (fun p k vs H1 Hs1 fp1 ft p1 => ?_) fun _ _ x => x))
  split at k
  · rename_i hl
    refine ⟨by rw [← p1.rp.length, ← line]; exact hl, fun a ha => ?_⟩
    obtain ⟨f1, f2⟩ := p1.freeze
    exact k _ _ _ _ _ (f1.post (New.post f1.st (New.tup f1.st.ex ha f2)))
  · exact k.elim
theorem se_lst {r : R (List OT × Env)} (hn : nostar es = true) (hr : SEs X T W es ρ r) : SE X T W (.List es pos) ρ (r.bind fun p => if p.1.length ≤ big then .ok (.lst p.1, p.2) else .no) := by
  intro L σ H Hs fp Q h k
  rw [cont_bind] at k
  refine wE_of (pe_lst (paW X es hn)) (hr L σ H Hs fp _ h (k.imp (fun p k vs H1 Hs1 fp1 ft p1 => ?_) fun _ _ x => x))
  split at k
  · rename_i hl
    refine ⟨by rw [← p1.rp.length, ← line]; exact hl, fun a ha => ?_⟩
    have tr : ∀ x ∈ ft ++ fp1, ∃ o, H1 x = some o := fun x hx => (List.mem_append.mp hx).elim (p1.rp.tracked x) (p1.st.rs.tracked x)
    have na : ∀ x, (∃ o, H1 x = some o) → x ≠ a := fun x ⟨o, q⟩ z => by subst z; rw [ha] at q; cases q
    refine k (.ref a) (L2.upd H1 a (.lst vs)) Hs1 fp1 (a :: ft) ⟨p1.st.grow (Ex.new ha) (Ex.refl _) (p1.st.ex.trans (Ex.new ha)) (fun _ _ q => .inl q), .lst upd_same (p1.rp.step (Ex.refl _) fun x hx o q => Ex.new ha x o q), ?_, fun x hx => ?_, fun x hx hf => ?_, ⟨p1.sp.ex, fun x o q n => Ex.new ha x o (p1.sp.fr x o q n), fun x hx => ?_, p1.sp.dm⟩, p1.lk⟩
    · exact List.nodup_cons.mpr ⟨fun hx => na a (tr a hx) rfl, p1.nd⟩
    · rcases List.mem_cons.mp hx with rfl | hx
      · exact none_of_ex p1.st.ex ha
      · exact p1.nf x hx
    · rcases List.mem_cons.mp hf with rfl | hf
      · exact na x (p1.st.lt x hx).1 rfl
      · exact p1.lf x hx hf
    · rcases List.mem_cons.mp hx with rfl | hx
      · exact p1.sp.back x (.inr ha)
      · exact p1.sp.nw x hx
  · exact k.elim
theorem se_one {op : BoolOp} {r : R (OT × Env)} (he : SE X T W e ρ r) : SE X T W (.BoolOp op [e] pos) ρ r := fun L σ H Hs fp Q h k => wE_of (pe_one (peW X e)) (he L σ H Hs fp Q h k)
theorem SE.later {L : List Addr} {σ : L2.St} {H Hs H1 Hs1 : Hp} {fp fp1 : List Addr} {ρ1 : Env} {r : R (OT × Env)} {Q : VK} (he : SE X T W e ρ1 r) (p : Pst X.K T L σ Hs H fp ρ ρ1 H1 Hs1 fp1)
    (k : Cont r (fun p => ∀ v H' Hs' fp' ft, Post X.K T L σ Hs H fp ρ p.1 p.2 v H' Hs' fp' ft → Q v H') (XOk X.K T L σ Hs H fp ρ W)) : wE X e σ H1 Q :=
  he L σ H1 Hs1 fp1 Q p.st (k.imp (fun q k v2 H2 Hs2 fp2 ft2 p2 => k _ _ _ _ _ (p.post p2)) fun ex ρ' x => x.later p)
theorem se_and {a b : Expr} {rest : List Expr} {ra : R (OT × Env)} {rb : Env → R (OT × Env)} (ha : SE X T W a ρ ra) (hb : ∀ ρ1, SE X T W (.BoolOp .And (b :: rest) pos) ρ1 (rb ρ1)) : SE X T W (.BoolOp .And (a :: b :: rest) pos) ρ (ra.bind fun p => match p.1 with
    | .sh (.bl true) => rb p.2
    | .sh (.bl false) => .ok (.sh (.bl false), p.2)
    | _ => .no) := by
  intro L σ H Hs fp Q h k
  rw [cont_bind] at k
  refine wE_of (pe_and (peW X a) (peW X _)) (ha L σ H Hs fp _ h (k.imp (fun p k v H1 Hs1 fp1 ft p1 => ?_) fun _ _ x => x))
  obtain ⟨t, ρ1⟩ := p
  simp only at k p1
  split at k
  · cases opd_bl ⟨_, p1.rp⟩
    exact ⟨true, rfl, (hb ρ1).later p1.pst k⟩
  · cases opd_bl ⟨_, p1.rp⟩
    exact ⟨false, rfl, k (.bl false) H1 Hs1 fp1 [] (p1.pst.post (Post.val p1.st (.bl false)))⟩
  · exact k.elim
theorem se_or {a b : Expr} {rest : List Expr} {ra : R (OT × Env)} {rb : Env → R (OT × Env)} (ha : SE X T W a ρ ra) (hb : ∀ ρ1, SE X T W (.BoolOp .Or (b :: rest) pos) ρ1 (rb ρ1)) : SE X T W (.BoolOp .Or (a :: b :: rest) pos) ρ (ra.bind fun p => match p.1 with
    | .sh (.bl false) => rb p.2
    | .sh (.bl true) => .ok (.sh (.bl true), p.2)
    | _ => .no) := by
  intro L σ H Hs fp Q h k
  rw [cont_bind] at k
  refine wE_of (pe_or (peW X a) (peW X _)) (ha L σ H Hs fp _ h (k.imp (fun p k v H1 Hs1 fp1 ft p1 => ?_) fun _ _ x => x))
  obtain ⟨t, ρ1⟩ := p
  simp only at k p1
  split at k
  · cases opd_bl ⟨_, p1.rp⟩
    exact ⟨false, rfl, (hb ρ1).later p1.pst k⟩
  · cases opd_bl ⟨_, p1.rp⟩
    exact ⟨true, rfl, k (.bl true) H1 Hs1 fp1 [] (p1.pst.post (Post.val p1.st (.bl true)))⟩
  · exact k.elim
theorem se_not {ra : R (OT × Env)} (ha : SE X T W e ρ ra) : SE X T W (.UnaryOp .Not e pos) ρ (ra.bind fun p => match p.1 with
    | .sh (.bl b) => .ok (.sh (.bl (!b)), p.2)
    | _ => .no) := by
  intro L σ H Hs fp Q h k
  rw [cont_bind] at k
  refine wE_of (pe_not (peW X e)) (ha L σ H Hs fp _ h (k.imp (fun p k v H1 Hs1 fp1 ft p1 => ?_) fun _ _ x => x))
  obtain ⟨t, ρ1⟩ := p
  simp only at k p1
  split at k
  · rename_i b
    cases opd_bl ⟨_, p1.rp⟩
    exact ⟨b, rfl, k _ H1 Hs1 fp1 [] (p1.pst.post (Post.val p1.st (.bl _)))⟩
  · exact k.elim
theorem se_ite {c a b : Expr} {rc : R (Bool × Env)} {ra rb : Env → R (OT × Env)} (hc : ST X T W c ρ rc) (ha : ∀ ρ1, SE X T W a ρ1 (ra ρ1)) (hb : ∀ ρ1, SE X T W b ρ1 (rb ρ1)) : SE X T W (.IfExp c a b pos) ρ (rc.bind fun p => if p.1 = true then ra p.2 else rb p.2) := by
  intro L σ H Hs fp Q h k
  rw [cont_bind] at k
  refine wE_of (pe_ifExp (ptW X c) (peW X a) (peW X b)) (hc L σ H Hs fp _ h (k.imp (fun p k H1 Hs1 fp1 p1 => ?_) fun _ _ x => x))
  obtain ⟨t, ρ1⟩ := p
  cases t with
  | true => exact (ha ρ1).later p1 k
  | false => exact (hb ρ1).later p1 k
theorem cm_rule (c : Cm) (hu : X.A.units + 66 < cLine) : OpR X (compareOp c.ast) (rCmS X.K T (cmpEv c)) := by
  cases c
  · exact cs_eq (by omega)
  · exact cs_ne (by omega)
  · exact cs_lt (by omega)
  · exact cs_le
  · exact cs_gt
  · exact cs_ge
  · exact cs_is
  · exact cs_isnot
  · exact cs_in (by omega)
  · exact cs_notin (by omega)
def chainR (o1 o2 : Cm) (ra : R (OT × Env)) (rb rc : Env → R (OT × Env)) : R (OT × Env) := ra.bind fun p => (rb p.2).bind fun q => match cmpEv o1 p.1 q.1 with
    | some true => (rc q.2).bind fun r => match cmpEv o2 q.1 r.1 with
      | some k => .ok (.sh (.bl k), r.2)
      | none => .no
    | some false => .ok (.sh (.bl false), q.2)
    | none => .no
theorem chain_read {o1 o2 : Cm} {a b c : Expr} {ra : R (OT × Env)} {rb rc : Env → R (OT × Env)} (ha : SE X T W a ρ ra) (hb : ∀ ρ1, SE X T W b ρ1 (rb ρ1)) (hc : ∀ ρ1, SE X T W c ρ1 (rc ρ1))
    {L : List Addr} {σ : L2.St} {H Hs : Hp} {fp : List Addr} {Q : VK} (h : StOk X.K T L Hs H ρ σ fp) (k : Cont (chainR o1 o2 ra rb rc) (fun p => ∀ b H' Hs' fp', p.1 = .sh (.bl b) → Pst X.K T L σ Hs H fp ρ p.2 H' Hs' fp' → Q (.bl b) H') (XOk X.K T L σ Hs H fp ρ W)) :
    tChain (rCmS X.K T (cmpEv o1)) (rCmS X.K T (cmpEv o2)) (wE X a) (wE X b) (wE X c) σ H Q := by
  unfold chainR at k
  rw [cont_bind] at k
  refine ha L σ H Hs fp _ h (k.imp (fun p k v H1 Hs1 fp1 ft p1 => ?_) fun _ _ x => x)
  rw [cont_bind] at k
  refine hb p.2 L σ H1 Hs1 fp1 _ p1.st (k.imp (fun q k y H2 Hs2 fp2 ft2 p2 => ?_) fun ex ρ' x => x.later p1.pst)
  have r1 := (p1.hold p2.pst).1
  have p12 := p1.pst.trans p2.pst
  cases hv : cmpEv o1 p.1 q.1 with
  | none => rw [hv] at k; exact k.elim
  | some d =>
    rw [hv] at k
    refine ⟨Hs2, p.1, q.1, d, p2.st.ex, ⟨_, r1⟩, ⟨_, p2.rp⟩, hv, d, rfl, ?_⟩
    cases d with
    | false => exact k false H2 Hs2 fp2 rfl p12
    | true =>
      have k : Cont ((rc q.2).bind fun r => match cmpEv o2 q.1 r.1 with
        | some k => .ok (OT.sh (.bl k), r.2)
        | none => .no) _ _ := k
      rw [cont_bind] at k
      refine hc q.2 L σ H2 Hs2 fp2 _ p2.st (k.imp (fun r k z H3 Hs3 fp3 ft3 p3 => ?_) fun ex ρ' x => x.later p12)
      have r2 := (p2.hold p3.pst).1
      cases hv2 : cmpEv o2 q.1 r.1 with
      | none => rw [hv2] at k; exact k.elim
      | some d2 =>
        rw [hv2] at k
        exact ⟨Hs3, q.1, r.1, d2, p3.st.ex, ⟨_, r2⟩, ⟨_, p3.rp⟩, hv2, k d2 H3 Hs3 fp3 rfl (p12.trans p3.pst)⟩
theorem se_chain {o1 o2 : Cm} {a b c : Expr} {ra : R (OT × Env)} {rb rc : Env → R (OT × Env)} (hu : X.A.units + 66 < cLine) (hm : lastMarks [o1.ast, o2.ast] [b, c] = false) (ha : SE X T W a ρ ra) (hb : ∀ ρ1, SE X T W b ρ1 (rb ρ1)) (hc : ∀ ρ1, SE X T W c ρ1 (rc ρ1)) :
    SE X T W (.Compare a [o1.ast, o2.ast] [b, c] pos) ρ (chainR o1 o2 ra rb rc) := fun L σ H Hs fp Q h k =>
  wE_of (pe_chain (cm_rule o1 hu) (cm_rule o2 hu) (peW X a) (peW X b) (peW X c) hm) (chain_read ha hb hc h (k.imp (fun p k b H' Hs' fp' e p1 => k (.bl b) H' Hs' fp' [] (p1.post (by rw [e]; exact Post.val p1.st (.bl b)))) fun _ _ x => x))
def truR (r : R (OT × Env)) : R (Bool × Env) := r.bind fun p => match truEv p.1 with
  | some b => .ok (b, p.2)
  | none => .no
theorem st_chain {o1 o2 : Cm} {a b c : Expr} {ra : R (OT × Env)} {rb rc : Env → R (OT × Env)} (hu : X.A.units + 66 < cLine) (hm : lastMarks [o1.ast, o2.ast] [b, c] = false) (ha : SE X T W a ρ ra) (hb : ∀ ρ1, SE X T W b ρ1 (rb ρ1)) (hc : ∀ ρ1, SE X T W c ρ1 (rc ρ1)) :
    ST X T W (.Compare a [o1.ast, o2.ast] [b, c] pos) ρ (truR (chainR o1 o2 ra rb rc)) := fun L σ H Hs fp Q h k => by
  unfold truR at k
  rw [cont_bind] at k
  exact wT_of (pt_chain (cm_rule o1 hu) (cm_rule o2 hu) (peW X a) (peW X b) (peW X c) hm) (chain_read ha hb hc h (k.imp (fun p k b H' Hs' fp' e p1 => ⟨b, rfl, by
    rw [e] at k
    exact k H' Hs' fp' p1⟩) fun _ _ x => x))
theorem st_cmp {c : Cm} {r : R (List OT × Env)} (hu : X.A.units + 66 < cLine) (h : opShape T.bn sc (.cmp c) e = some es) (ho : SOs X T W es ρ r) :
    ST X T W e ρ (truR (r.bind fun p => match (Op.cmp c).ev p.1 with
      | some t => .ok (t, p.2)
      | none => .no)) := by
  cases e <;> first | (simp [opShape] at h; done) | skip
  rename_i l ops rs pos
  match ops, rs, h with
  | [o], [rr], h =>
    obtain ⟨h1, rfl⟩ := guard_eq (show guard_ (decide (o = c.ast) && !behindInMarks o rr) [l, rr] = some es from h)
    rw [Bool.and_eq_true, Bool.not_eq_true'] at h1
    obtain ⟨h1, h2⟩ := h1
    cases of_decide_eq_true h1
    intro L σ H Hs fp Q h0 k
    unfold truR at k
    rw [cont_bind, cont_bind] at k
    refine wT_of (pt_cmpR (cm_rule (T := T) c hu) (peW X l) (peW X rr) h2) ?_
    refine wE2 (ho L σ H Hs fp (fun vs H1 => ∀ x y, vs = [x, y] → rCmS X.K T (cmpEv c) x y H1 fun z H' => ∃ k, z = .bl k ∧ Q k H') h0 (k.imp (fun p k vs H' Hs' fp' p1 o1 => ?_) fun _ _ x => x)) fun x y H1 q => q x y rfl
    rintro x y rfl
    cases hev : (Op.cmp c).ev p.1 with
    | none => rw [hev] at k; exact k.elim
    | some t =>
      rw [hev] at k
      obtain ⟨s1, t1, z1, z2, z3⟩ := ev2 (two_ev (f := fun s t => (cmpEv c s t).map fun b => .sh (.bl b)) (fun _ _ => rfl) rfl (fun _ => rfl) (fun _ _ _ _ => rfl)) hev o1
      obtain ⟨b, h3, rfl⟩ := Option.map_eq_some_iff.mp z3
      exact ⟨Hs', s1, t1, b, p1.st.ex, z1, z2, h3, b, rfl, k H' Hs' fp' p1⟩
  | [], _, h => simp [opShape] at h
  | _ :: _ :: _, _, h => simp [opShape] at h
  | [_], [], h => simp [opShape] at h
  | [_], _ :: _ :: _, h => simp [opShape] at h
theorem st_kin {x : Str} {ng : Bool} {kvs : List (Str × Int)} {r : R (List OT × Env)} (hs : X.env.scope = sc) (hk : DctOk X x kvs) (h : opShape T.bn sc (.kin x ng kvs) e = some es) (ho : SOs X T W es ρ r) :
    ST X T W e ρ (truR (r.bind fun p => match (Op.kin x ng kvs).ev p.1 with
      | some t => .ok (t, p.2)
      | none => .no)) := by
  intro L σ H Hs fp Q h0 k
  unfold truR at k
  rw [cont_bind, cont_bind] at k
  refine wT_of (sh_kinT hs hk h) (ho L σ H Hs fp _ h0 (k.imp (fun p k vs H' Hs' fp' p1 o1 => ?_) fun _ _ x => x))
  cases hev : (Op.kin x ng kvs).ev p.1 with
  | none => rw [hev] at k; exact k.elim
  | some t =>
    rw [hev] at k
    refine ⟨Hs', p.1, t, p1.st.ex, o1, hev, fun z H2 Hs2 ft n => ?_⟩
    have pp := p1.post (New.post p1.st n)
    have k : Cont (match truEv t with
      | some b => CH.R.ok (b, p.2)
      | none => .no) _ _ := k
    cases hb : truEv t with
    | none => rw [hb] at k; exact k.elim
    | some b =>
      rw [hb] at k
      obtain ⟨s1, _, h2⟩ := one_ev (f := kinEv ng kvs) (fun _ => rfl) rfl (fun _ _ _ => rfl) _ _ hev
      unfold kinEv at h2
      split at h2
      · cases Option.some.inj h2
        cases Option.some.inj (show some _ = some b from hb)
        have := n.rp
        cases this with
        | sh this => cases this; exact ⟨_, rfl, k H2 Hs2 fp' pp.pst⟩
      · cases h2
/-- an operand alone -/
def SO (X : Cx) (T : Tab) (W : WX) (e : Expr) (ρ : Env) (r : R (OT × Env)) : Prop := ∀ (L : List Addr) (σ : L2.St) (H Hs : Hp) (fp : List Addr) (Q : VK), StOk X.K T L Hs H ρ σ fp →
  Cont r (fun p => ∀ v H' Hs' fp', Pst X.K T L σ Hs H fp ρ p.2 H' Hs' fp' → Opd X.K T Hs' H' p.1 v → Q v H') (XOk X.K T L σ Hs H fp ρ W) → wE X e σ H Q
theorem so_e {r : R (OT × Env)} (he : SE X T W e ρ r) : SO X T W e ρ r := fun L σ H Hs fp Q h k => he L σ H Hs fp Q h (k.imp (fun p k v H' Hs' fp' ft p1 => k v H' Hs' fp' p1.pst ⟨ft, p1.rp⟩) fun _ _ x => x)
theorem so_bor {i : Nat} {p : List Str} (hs : X.env.scope = sc) (hp : pathB X.N sc i p e = true) : SO X T W e ρ (match (ρ.tree i).bind fun r => r.getP p with
    | some t => .ok (t, ρ)
    | none => .no) := by
  intro L σ H Hs fp Q h k
  cases ht : (Env.tree ρ i).bind fun r => r.getP p with
  | none => rw [ht] at k; exact k.elim
  | some t =>
    rw [ht] at k
    obtain ⟨r, h1, h2⟩ := Option.bind_eq_some_iff.mp ht
    obtain ⟨x, f, l1, l2, _⟩ := h.rs.read h1
    obtain ⟨v, g, r1, _, _, r3⟩ := path_read hs h.ex l1 l2 hp h2
    exact r3 _ (k v H Hs fp (Pst.refl h) ⟨g, r1⟩)
def plainTest : Expr → Bool
  | .UnaryOp .Not _ _ => false
  | .BoolOp .. => false
  | .IfExp .. => false
  | .Compare .. => false
  | _ => true
theorem plain_test {a : Expr} {env : PySem.Env} (h : plainTest a = true) : ∀ whole, isTrue a env whole = (do let v ← whole; standAt a.pos; holding [v] (truthy v)) := by
  intro whole
  cases a with
  | UnaryOp op x p => cases op <;> first | rfl | cases h
  | BoolOp => cases h
  | IfExp => cases h
  | Compare => cases h
  | _ => rfl
theorem st_val {r : R (OT × Env)} (hp : plainTest e = true) (ho : SO X T W e ρ r) : ST X T W e ρ (truR r) := by
  intro L σ H Hs fp Q h k
  unfold truR at k
  rw [cont_bind] at k
  refine wT_of (pt_truth (peW X e) (plain_test hp)) (ho L σ H Hs fp _ h (k.imp (fun p k v H' Hs' fp' p1 o1 => ?_) fun _ _ x => x))
  cases hv : truEv p.1 with
  | none => rw [hv] at k; exact k.elim
  | some b =>
    rw [hv] at k
    exact ⟨b, tru_of p1.st.ex o1 hv, k H' Hs' fp' p1⟩
theorem st_not {r : R (Bool × Env)} (h : ST X T W e ρ r) : ST X T W (.UnaryOp .Not e pos) ρ (r.bind fun p => .ok (!p.1, p.2)) := by
  intro L σ H Hs fp Q h0 k
  rw [cont_bind] at k
  exact wT_of (pt_not (ptW X e)) (h L σ H Hs fp _ h0 k)
/-- tests joined -/
def wAll (X : Cx) : List Expr → TT
  | [] => fun _ H Q => Q true H
  | e :: es => fun σ H Q => wT X e σ H fun c H1 => if c = true then wAll X es σ H1 Q else Q false H1
def wAny (X : Cx) : List Expr → TT
  | [] => fun _ H Q => Q false H
  | e :: es => fun σ H Q => wT X e σ H fun c H1 => if c = true then Q true H1 else wAny X es σ H1 Q
theorem pw_all : ∀ {es : List Expr}, es ≠ [] → PW X (.BoolOp .And es pos) (wAll X es)
  | [], h => absurd rfl h
  | [e], _ => ⟨fun wh pins s σ H Q I h => (pw_and1 (ptW X e)).run wh pins s σ H Q I (wT.mono h fun c H1 q => by
    cases c with
    | true => exact q
    | false => exact q)⟩
  | e :: f :: es, _ => pw_and (ptW X e) (pw_all (es := f :: es) (by simp))
theorem pw_any : ∀ {es : List Expr}, es ≠ [] → PW X (.BoolOp .Or es pos) (wAny X es)
  | [], h => absurd rfl h
  | [e], _ => ⟨fun wh pins s σ H Q I h => (pw_or1 (ptW X e)).run wh pins s σ H Q I (wT.mono h fun c H1 q => by
    cases c with
    | true => exact q
    | false => exact q)⟩
  | e :: f :: es, _ => pw_or (ptW X e) (pw_any (es := f :: es) (by simp))
def SAl (X : Cx) (T : Tab) (W : WX) (wl : List Expr → TT) (es : List Expr) (ρ : Env) (r : R (Bool × Env)) : Prop := ∀ (L : List Addr) (σ : L2.St) (H Hs : Hp) (fp : List Addr) (Q : Bool → Hp → Prop), StOk X.K T L Hs H ρ σ fp →
  Cont r (fun p => ∀ H' Hs' fp', Pst X.K T L σ Hs H fp ρ p.2 H' Hs' fp' → Q p.1 H') (XOk X.K T L σ Hs H fp ρ W) → wl es σ H Q
theorem sal_nil : SAl X T W (wAll X) [] ρ (.ok (true, ρ)) := fun L σ H Hs fp Q h k => k H Hs fp (Pst.refl h)
theorem say_nil : SAl X T W (wAny X) [] ρ (.ok (false, ρ)) := fun L σ H Hs fp Q h k => k H Hs fp (Pst.refl h)
theorem sal_cons {r : R (Bool × Env)} {rs : Env → R (Bool × Env)} (he : ST X T W e ρ r) (hs : ∀ ρ1, SAl X T W (wAll X) es ρ1 (rs ρ1)) : SAl X T W (wAll X) (e :: es) ρ (r.bind fun p => if p.1 = true then rs p.2 else .ok (false, p.2)) := by
  intro L σ H Hs fp Q h k
  rw [cont_bind] at k
  refine he L σ H Hs fp _ h (k.imp (fun p k H1 Hs1 fp1 p1 => ?_) fun _ _ x => x)
  obtain ⟨b, ρ1⟩ := p
  cases b with
  | true => exact hs ρ1 L σ H1 Hs1 fp1 Q p1.st (k.imp (fun q k H2 Hs2 fp2 p2 => k _ _ _ (p1.trans p2)) fun ex ρ' x => x.later p1)
  | false => exact k H1 Hs1 fp1 p1
theorem say_cons {r : R (Bool × Env)} {rs : Env → R (Bool × Env)} (he : ST X T W e ρ r) (hs : ∀ ρ1, SAl X T W (wAny X) es ρ1 (rs ρ1)) : SAl X T W (wAny X) (e :: es) ρ (r.bind fun p => if p.1 = true then .ok (true, p.2) else rs p.2) := by
  intro L σ H Hs fp Q h k
  rw [cont_bind] at k
  refine he L σ H Hs fp _ h (k.imp (fun p k H1 Hs1 fp1 p1 => ?_) fun _ _ x => x)
  obtain ⟨b, ρ1⟩ := p
  cases b with
  | false => exact hs ρ1 L σ H1 Hs1 fp1 Q p1.st (k.imp (fun q k H2 Hs2 fp2 p2 => k _ _ _ (p1.trans p2)) fun ex ρ' x => x.later p1)
  | true => exact k H1 Hs1 fp1 p1
theorem st_all {r : R (Bool × Env)} (hn : es ≠ []) (h : SAl X T W (wAll X) es ρ r) : ST X T W (.BoolOp .And es pos) ρ r := fun L σ H Hs fp Q h0 k => wT_of (pw_all hn).pt (h L σ H Hs fp Q h0 k)
theorem st_any {r : R (Bool × Env)} (hn : es ≠ []) (h : SAl X T W (wAny X) es ρ r) : ST X T W (.BoolOp .Or es pos) ρ r := fun L σ H Hs fp Q h0 k => wT_of (pw_any hn).pt (h L σ H Hs fp Q h0 k)
/-- a comprehension's tests: none, one -/
theorem sts_nil : STs X T W [] ρ (.ok (true, ρ)) := fun L σ H Hs fp Q h k => k H Hs fp (Pst.refl h)
theorem sts_one {r : R (Bool × Env)} (he : ST X T W e ρ r) : STs X T W [e] ρ (r.bind fun p => if p.1 = true then .ok (true, p.2) else .ok (false, p.2)) := fun L σ H Hs fp Q h k => by
  rw [cont_bind] at k
  exact he L σ H Hs fp Q h (k.imp (fun p k => by
    obtain ⟨b, ρ1⟩ := p
    cases b <;> exact k) fun _ _ x => x)
end
end CH
end
section
namespace CH
open PySem L2 Evl PyProof.Rows
section
variable {X : Cx} {T : Tab} {W : WX} {sc : Scope} {e : Expr} {es : List Expr} {ρ : Env} {pos : Pos}
theorem few_of {es : List Expr} {env : PySem.Env} {cpos : Pos} (hn : nostar es = true) (hl : es.length < 30) : ((backTo cpos (starEach es env)).all (fun x => !x.1) && (backToKw cpos (keywordEach [] env)).all (fun x => x.1.isSome)
      && decide (es.length + ([] : List Keyword).length + (if ([] : List Keyword).isEmpty then 0 else 1) < 30)) = true := by
  have h1 : (backTo cpos (starEach es env)).all (fun x => !x.1) = true := by
    have h := star_any (es := es) (env := env) (pos := cpos) hn
    rw [List.all_eq_not_any_not]
    simpa using h
  rw [h1]
  have h2 : decide (es.length + ([] : List Keyword).length + (if ([] : List Keyword).isEmpty then 0 else 1) < 30) = true := decide_eq_true (by simpa using hl)
  rw [h2]
  rfl
def muShape (m : Mu) : Expr → Option (Expr × List Expr)
  | .Call (.Attribute o name apos) es [] cpos => guard_ (decide (name = m.nm) && notCallB o && (apos.endLine == cpos.line) && nostar es && decide (es.length < 30) && (match m with
    | .append => decide (es.length = 1)
    | .extend => decide (es.length = 1)
    | .pop => es.isEmpty
    | .popAt => decide (es.length = 1)
    | .insert => decide (es.length = 2)
    | _ => false)) (o, es)
  | _ => none
/-- the reading of a change -/
def tMu (X : Cx) (m : Mu) (o : Expr) (es : List Expr) : TE := fun σ H Q => wE X o σ H fun x H1 => tyV X.K "list" x H1 ∧ wEs X es σ H1 fun ys H2 => ∃ a vs y ws, x = .ref a ∧ H2 a = some (.lst vs) ∧ (∀ Q : VK, Q y (L2.upd H2 a (.lst ws)) → match m with
    | .append => rAppend (.ref a) ys H2 Q
    | .extend => rExtend (.ref a) ys H2 Q
    | .pop => ys = [] ∧ rPop (.ref a) [] H2 Q
    | .popAt => rPopAt (.ref a) ys H2 Q
    | .insert => rInsert (.ref a) ys H2 Q
    | _ => False) ∧ Q y (L2.upd H2 a (.lst ws))
theorem sh_mu {m : Mu} {o : Expr} (h : muShape m e = some (o, es)) : PE X e (tMu X m o es) := by
  unfold muShape at h
  split at h <;> first | contradiction | skip
  rename_i o' name apos es' cpos
  obtain ⟨h1, h2⟩ := guard_eq h
  cases h2
  simp only [Bool.and_eq_true] at h1
  obtain ⟨⟨⟨⟨⟨k1, k2⟩, k3⟩, k4⟩, k5⟩, k6⟩ := h1
  have key : ∀ {id : String} {r : V → List V → Hp → VK → Prop}, Slot "list" m.nm id → typeOf (.builtin id) = pure (.type "method_descriptor") → MtR X id r → es ≠ [] → (∀ a ys H Q, (∀ y ws, (∀ Q : VK, Q y (L2.upd H a (.lst ws)) → match (generalizing := false) m with
      | .append => rAppend (.ref a) ys H Q
      | .extend => rExtend (.ref a) ys H Q
      | .pop => ys = [] ∧ rPop (.ref a) [] H Q
      | .popAt => rPopAt (.ref a) ys H Q
      | .insert => rInsert (.ref a) ys H Q
      | _ => False) → Q y (L2.upd H a (.lst ws)) → r (.ref a) ys H Q)) → PE X (.Call (.Attribute o name apos) es [] cpos) (tMu X m o es) := fun {id r} hs ht hm hne hr => by
    cases of_decide_eq_true k1
    cases es with
    | nil => exact absurd rfl hne
    | cons a as =>
      have ka : isStar a = false ∧ nostar as = true := by simpa [nostar] using k4
      refine ⟨fun pins s σ H Q I hw => (pe_bm PySem.F.plainAttrs_list hs ht hm (peW X o) (paW X (a :: as) k4) (base_of k2) (few_of k4 (of_decide_eq_true k5)) k3 (star_cons ka.1) (star_any ka.2)).run pins s σ H Q I (wE.mono hw fun x H1 ⟨ty, q⟩ => ⟨ty, wEs.mono q fun ys H2 ⟨p, vs, y, ws, e1, e2, e3, e4⟩ => ?_⟩)⟩
      subst e1
      exact hr p ys H2 Q y ws e3 e4
  cases m with
  | append =>
    exact key PySem.F.slot_list_append PySem.F.type_list_append mt_append (fun z => by subst z; simp at k6) fun a ys H Q y ws q w => q Q w
  | extend =>
    exact key PySem.F.slot_list_extend PySem.F.type_list_extend mt_extend (fun z => by subst z; simp at k6) fun a ys H Q y ws q w => q Q w
  | popAt =>
    exact key PySem.F.slot_list_pop PySem.F.type_list_pop mt_popAt (fun z => by subst z; simp at k6) fun a ys H Q y ws q w => q Q w
  | pop =>
    have e0 : es = [] := by simpa using k6
    subst e0
    cases of_decide_eq_true k1
    refine ⟨fun pins s σ H Q I hw => (pe_bm0 PySem.F.plainAttrs_list PySem.F.slot_list_pop PySem.F.type_list_pop mt_pop (peW X o) (base_of k2) k3).run pins s σ H Q I (wE.mono hw fun x H1 ⟨ty, q⟩ => ⟨ty, ?_⟩)⟩
    obtain ⟨p, vs, y, ws, e1, e2, e3, e4⟩ := (show (∃ a vs y ws, x = .ref a ∧ H1 a = some (.lst vs) ∧ (∀ Q : VK, Q y (L2.upd H1 a (.lst ws)) → ([] : List V) = [] ∧ rPop (.ref a) [] H1 Q) ∧ Q y (L2.upd H1 a (.lst ws))) from q)
    subst e1
    exact (e3 Q e4).2
  | insert =>
    exact key PySem.F.slot_list_insert PySem.F.type_list_insert mt_insert (fun z => by subst z; simp at k6) fun a ys H Q y ws q w => q Q w
  | setIx => cases k6
  | remove => cases k6
theorem ownL_get {ρ : Env} {i : Nat} {us : List OT} (e : ρ.ownL i = some us) : ρ[i]? = some (.ow (.lst us)) := by
  unfold Env.ownL at e
  split at e
  · rename_i e1; cases Option.some.inj e; exact e1
  · cases e
theorem se_mu {m : Mu} {o : Expr} {i : Nat} {r : R (List OT × Env)} (hs : X.env.scope = sc) (h : muShape m e = some (o, es)) (hp : slotB X.N sc i o = true) (hr : SEs X T W es ρ r) : SE X T W e ρ (match ρ.ownL i with
    | none => .no
    | some _ => r.bind fun p => match p.2.ownL i with
      | none => .no
      | some us => match muEv m us p.1 with
        | some (t, us') => .ok (t, p.2.set i (.ow (.lst us')))
        | none => .no) := by
  intro L σ H Hs fp Q h0 k
  refine wE_of (sh_mu h) ?_
  cases hl : ρ.ownL i with
  | none => rw [hl] at k; exact k.elim
  | some us0 =>
    rw [hl] at k
    obtain ⟨a, vs0, g0, fr0, h1, h2, _⟩ := h0.ownList hl
    refine slot_val hs hp h1 ⟨.inl ⟨rfl, _, SqL.of h2⟩, ?_⟩
    have k : Cont (r.bind fun p => match p.2.ownL i with
      | none => .no
      | some us => match muEv m us p.1 with
        | some (t, us') => .ok (t, p.2.set i (.ow (.lst us')))
        | none => .no) _ _ := k
    rw [cont_bind] at k
    refine hr L σ H Hs fp _ h0 (k.imp (fun p k ys H1 Hs1 fp1 ft p1 => ?_) fun _ _ x => x)
    cases hl1 : p.2.ownL i with
    | none => rw [hl1] at k; exact k.elim
    | some us =>
      rw [hl1] at k
      cases hev : muEv m us p.1 with
      | none => simp only [hev] at k; exact k.elim
      | some tu =>
        obtain ⟨t, us'⟩ := tu
        simp only [hev] at k
        obtain ⟨a2, vs, g, fr, q1, q2, q3, q4, q5, q6, q7⟩ := p1.st.ownList hl1
        rw [h1] at q1
        cases q1
        obtain ⟨y, ws, mo, mr⟩ := mu_rule p1.st.ex q2 q3 p1.rp hev
        obtain ⟨fp2, gt, po⟩ := mu_state p1 h1 q2 q3 q4 q5 q6 q7 mo
        refine ⟨a, vs, y, ws, rfl, q2, fun Q q => ?_, k y _ Hs1 fp2 gt po⟩
        cases m with
        | append => exact mr Q q
        | extend => exact mr Q q
        | pop => exact ⟨mr.1, mr.2 Q q⟩
        | popAt => exact mr Q q
        | setIx =>
          unfold muShape at h
          split at h <;> first | contradiction | skip
          obtain ⟨z, _⟩ := guard_eq h
          simp at z
        | insert => exact mr Q q
        | remove => exact mr
def wB (X : Cx) : Option Expr → TO
  | none => tNoPart
  | some e => tPart (wE X e)
theorem poW (X : Cx) : ∀ o : Option Expr, PO X o (wB X o)
  | none => po_none
  | some e => po_some (peW X e)
def SB (X : Cx) (T : Tab) (W : WX) (o : Option Expr) (ρ : Env) (r : R (Option Int × Env)) : Prop := ∀ (L : List Addr) (σ : L2.St) (H Hs : Hp) (fp : List Addr) (Q : Option Int → Hp → Prop), StOk X.K T L Hs H ρ σ fp →
  Cont r (fun p => ∀ H' Hs' fp', Pst X.K T L σ Hs H fp ρ p.2 H' Hs' fp' → Q p.1 H') (XOk X.K T L σ Hs H fp ρ W) → wB X o σ H Q
theorem sb_no : SB X T W none ρ (.ok (none, ρ)) := fun L σ H Hs fp Q h k => k H Hs fp (Pst.refl h)
theorem sb_at {r : R (OT × Env)} (he : SE X T W e ρ r) : SB X T W (some e) ρ (r.bind fun p => match p.1 with
    | .sh (.int i) => .ok (some i, p.2)
    | _ => .no) := by
  intro L σ H Hs fp Q h k
  rw [cont_bind] at k
  refine he L σ H Hs fp _ h (k.imp (fun p k v H1 Hs1 fp1 ft p1 => ?_) fun _ _ x => x)
  obtain ⟨t, ρ1⟩ := p
  simp only at k p1
  split at k
  · rename_i i
    exact ⟨i, opd_int ⟨_, p1.rp⟩, k H1 Hs1 fp1 p1.pst⟩
  · exact k.elim
def gB (X : Cx) (lo hi : Option Expr) : L2.St → Hp → ((Option Int × Option Int) → Hp → Prop) → Prop := fun σ H Q => wB X lo σ H fun l H1 => wB X hi σ H1 fun u H2 => Q (l, u) H2
theorem sg_b2 {lo hi : Option Expr} {f g : Env → R (Option Int × Env)} (hl : ∀ ρ, SB X T W lo ρ (f ρ)) (hh : ∀ ρ, SB X T W hi ρ (g ρ)) : SG X T W (gB X lo hi) (fun a b _ _ => a = b) ρ (b2 f g ρ) := by
  intro L σ H Hs fp Q h k
  unfold b2 at k
  rw [cont_bind] at k
  refine hl ρ L σ H Hs fp _ h (k.imp (fun p k H1 Hs1 fp1 p1 => ?_) fun _ _ x => x)
  rw [cont_bind] at k
  exact hh p.2 L σ H1 Hs1 fp1 _ p1.st (k.imp (fun q k H2 Hs2 fp2 p2 => k (p.1, q.1) H2 Hs2 fp2 (p1.trans p2) rfl) fun ex ρ' x => x.later p1)
def slcR (r : R ((OT × (Option Int × Option Int)) × Env)) : R (OT × Env) := r.bind fun p => match slcEv p.1.2.1 p.1.2.2 p.1.1 with
  | some w => .ok (w, p.2)
  | none => .no
theorem se_slc {lo hi : Option Expr} {p2 : Pos} {r : R ((OT × (Option Int × Option Int)) × Env)} (hr : SG X T W (fun σ H (Q : V × (Option Int × Option Int) → Hp → Prop) => wE X e σ H fun x H1 => gB X lo hi σ H1 fun b H2 => Q (x, b) H2) (fun a b Hs H => Opd X.K T Hs H a.1 b.1 ∧ a.2 = b.2) ρ r) :
    SE X T W (.Subscript e (.Slice lo hi none p2) pos) ρ (slcR r) := by
  intro L σ H Hs fp Q h k
  unfold slcR at k
  rw [cont_bind] at k
  refine wE_of (pe_slice sls (peW X e) (poW X lo) (poW X hi)) (hr L σ H Hs fp (fun b H => rSlcS X.K T b.1 b.2.1 b.2.2 H Q) h (k.imp (fun p k b H' Hs' fp' p1 o => ?_) fun _ _ x => x))
  obtain ⟨o1, o2⟩ := o
  cases hv : slcEv p.1.2.1 p.1.2.2 p.1.1 with
  | none => rw [hv] at k; exact k.elim
  | some w =>
    rw [hv] at k
    exact ⟨Hs', p.1.1, w, p1.st.ex, o1, by rw [← o2]; exact hv, fun z H2 Hs2 ft n => k z H2 Hs2 fp' ft (p1.post (New.post p1.st n))⟩
theorem si_rng1 {a : Expr} {r : R (OT × Env)} (ha : SE X T W a ρ r) : SI X T W (iRng1 (wEs X [a])) ρ id (r.bind fun p => match p.1 with
    | .sh (.int j) => if -(2 ^ 62) ≤ j ∧ j < 2 ^ 62 then .ok ((List.range j.toNat).map fun i => .int (i : Nat), p.2) else .no
    | _ => .no) := by
  intro L σ H Hs fp F R h hF k
  rw [cont_bind] at k
  refine ha L σ H Hs fp _ h (k.imp (fun p k v H1 Hs1 fp1 ft p1 => ?_) fun _ _ x => x)
  obtain ⟨t, ρ1⟩ := p
  simp only at k p1
  split at k
  · rename_i j
    cases opd_int ⟨_, p1.rp⟩
    split at k
    · rename_i hb
      refine ⟨j, rfl, hb.1, hb.2, k (Itr 0 j.toNat) (fun _ _ _ => True) L H1 Hs1 fp1 ?_ trivial p1.pst.opn⟩
      have := walk_rng (K := X.K) (T := T) (lo := 0) (n := j.toNat)
      simpa only [Int.zero_add] using this
    · exact k.elim
  · exact k.elim
theorem si_rng2 {a b : Expr} {ra : R (OT × Env)} {rb : Env → R (OT × Env)} (ha : SE X T W a ρ ra) (hb : ∀ ρ1, SE X T W b ρ1 (rb ρ1)) : SI X T W (iRng2 (wEs X [a, b])) ρ id (ra.bind fun p => (rb p.2).bind fun q => match p.1, q.1 with
    | .sh (.int i), .sh (.int j) => if -(2 ^ 62) ≤ i ∧ i < 2 ^ 62 ∧ -(2 ^ 62) ≤ j ∧ j < 2 ^ 62 then .ok ((List.range (j - i).toNat).map fun k => .int (i + (k : Nat)), q.2) else .no
    | _, _ => .no) := by
  intro L σ H Hs fp F R h hF k
  rw [cont_bind] at k
  refine ha L σ H Hs fp _ h (k.imp (fun p k v H1 Hs1 fp1 ft p1 => ?_) fun _ _ x => x)
  rw [cont_bind] at k
  refine hb p.2 L σ H1 Hs1 fp1 _ p1.st (k.imp (fun q k v2 H2 Hs2 fp2 ft2 p2 => ?_) fun ex ρ' x => x.later p1.pst)
  have p12 := p1.pst.trans p2.pst
  obtain ⟨t, ρ1⟩ := p
  obtain ⟨u, ρ2⟩ := q
  simp only at k p1 p2 p12
  split at k
  · cases opd_int ⟨_, p1.rp⟩
    cases opd_int ⟨_, p2.rp⟩
    split at k
    · rename_i hb
      exact ⟨_, _, rfl, hb, k (Itr _ _) (fun _ _ _ => True) L H2 Hs2 fp2 walk_rng trivial p12.opn⟩
    · exact k.elim
  · exact k.elim
theorem zipD_get : ∀ {xs ys : List D} {i : Nat} {d : D}, (zipD xs ys)[i]? = some d → ∃ x y, xs[i]? = some x ∧ ys[i]? = some y ∧ d = .tup [x, y]
  | a :: as, b :: bs, 0, d, h => by simp [zipD] at h; exact ⟨a, b, rfl, rfl, h.symm⟩
  | a :: as, b :: bs, i + 1, d, h => by
    obtain ⟨x, y, h1, h2, h3⟩ := zipD_get (xs := as) (ys := bs) (i := i) (d := d) (by simpa [zipD] using h)
    exact ⟨x, y, by simpa using h1, by simpa using h2, h3⟩
  | [], _, _, _, h => by simp [zipD] at h
  | _ :: _, [], _, _, h => by simp [zipD] at h
theorem zipD_len : ∀ xs ys : List D, xs.length ≤ (zipD xs ys).length ∨ ys.length ≤ (zipD xs ys).length
  | a :: as, b :: bs => by
    have := zipD_len as bs
    simp only [zipD, List.length_cons]
    omega
  | [], _ => .inl (Nat.zero_le _)
  | _ :: _, [] => .inr (Nat.zero_le _)
theorem enmD_get : ∀ {xs : List D} {n i : Nat} {d : D}, (enmD n xs)[i]? = some d → ∃ x, xs[i]? = some x ∧ d = .tup [.int ((n + i : Nat) : Int), x]
  | a :: as, n, 0, d, h => by simp [enmD] at h; exact ⟨a, rfl, h.symm⟩
  | a :: as, n, i + 1, d, h => by
    obtain ⟨x, h1, h2⟩ := enmD_get (xs := as) (n := n + 1) (i := i) (d := d) (by simpa [enmD] using h)
    exact ⟨x, by simpa using h1, by rw [h2]; congr 3; omega⟩
  | [], _, _, _, h => by simp [enmD] at h
theorem enmD_len : ∀ (xs : List D) (n : Nat), (enmD n xs).length = xs.length
  | [], _ => rfl
  | a :: as, n => by simp [enmD, enmD_len as]
/-- a list at an address of which nothing changes -/
def LstAt (K : PySem.W.Frag) (T : Tab) (a : Addr) (ds : List D) (Hs : Hp) : Prop := ∃ vs, SqL K Hs a vs ∧ Rps K T Hs ds vs
def TupAt (K : PySem.W.Frag) (T : Tab) (a : Addr) (ds : List D) (Hs : Hp) : Prop := ∃ vs, SqT K Hs a vs ∧ Rps K T Hs ds vs
theorem LstAt.mono {K : PySem.W.Frag} {a : Addr} {ds : List D} {Hs Hs' : Hp} (e : Ex Hs Hs') (h : LstAt K T a ds Hs) : LstAt K T a ds Hs' := let ⟨vs, h1, h2⟩ := h; ⟨vs, ex_l e h1, h2.mono e⟩
theorem TupAt.mono {K : PySem.W.Frag} {a : Addr} {ds : List D} {Hs Hs' : Hp} (e : Ex Hs Hs') (h : TupAt K T a ds Hs) : TupAt K T a ds Hs' := let ⟨vs, h1, h2⟩ := h; ⟨vs, ex_t e h1, h2.mono e⟩
theorem walk_zL {K : PySem.W.Frag} {a b : Addr} {xs ys : List D} : Walk K T (Itz K a b) (zipD xs ys) (fun _ Hs _ => LstAt K T a xs Hs ∧ LstAt K T b ys Hs) where
  keep := fun h s => ⟨h.1.mono s.ex, h.2.mono s.ex⟩
  go := by
    intro i d H Hs fp ⟨⟨vs, h1, h2⟩, ⟨us, h3, h4⟩⟩ e hd
    obtain ⟨x, y, e1, e2, rfl⟩ := zipD_get hd
    obtain ⟨v, q1, q2⟩ := h2.get e1
    obtain ⟨u, q3, q4⟩ := h4.get e2
    refine ⟨⟨vs, us, v, u, ex_l e h1, ex_l e h3, q1, q3⟩, fun z H' ⟨p, v', u', e3, e4, e5, e6, e7⟩ => ?_⟩
    have k1 := e6 vs (ex_l e h1)
    have k2 := e7 us (ex_l e h3)
    rw [q1] at k1
    rw [q3] at k2
    cases k1
    cases k2
    subst e3 e5
    exact ⟨_, New.tup e e4 (.cons q2 (.cons q4 .nil))⟩
  stop := by
    intro H Hs fp ⟨⟨vs, h1, h2⟩, ⟨us, h3, h4⟩⟩ e
    exact ⟨vs, us, ex_l e h1, ex_l e h3, by rw [← h2.length, ← h4.length]; exact zipD_len xs ys⟩
theorem walk_zT {K : PySem.W.Frag} {a b : Addr} {xs ys : List D} : Walk K T (RZ.ItzT K a b) (zipD xs ys) (fun _ Hs _ => TupAt K T a xs Hs ∧ TupAt K T b ys Hs) where
  keep := fun h s => ⟨h.1.mono s.ex, h.2.mono s.ex⟩
  go := by
    intro i d H Hs fp ⟨⟨vs, h1, h2⟩, ⟨us, h3, h4⟩⟩ e hd
    obtain ⟨x, y, e1, e2, rfl⟩ := zipD_get hd
    obtain ⟨v, q1, q2⟩ := h2.get e1
    obtain ⟨u, q3, q4⟩ := h4.get e2
    refine ⟨⟨vs, us, v, u, ex_t e h1, ex_t e h3, q1, q3⟩, fun z H' ⟨p, v', u', e3, e4, e5, e6, e7⟩ => ?_⟩
    have k1 := e6 vs (ex_t e h1)
    have k2 := e7 us (ex_t e h3)
    rw [q1] at k1
    rw [q3] at k2
    cases k1
    cases k2
    subst e3 e5
    exact ⟨_, New.tup e e4 (.cons q2 (.cons q4 .nil))⟩
  stop := by
    intro H Hs fp ⟨⟨vs, h1, h2⟩, ⟨us, h3, h4⟩⟩ e
    exact ⟨vs, us, ex_t e h1, ex_t e h3, by rw [← h2.length, ← h4.length]; exact zipD_len xs ys⟩
theorem walk_en {K : PySem.W.Frag} {a : Addr} {xs : List D} : Walk K T (Ite K a) (enmD 0 xs) (fun _ Hs _ => LstAt K T a xs Hs) where
  keep := fun h s => h.mono s.ex
  go := by
    intro i d H Hs fp ⟨vs, h1, h2⟩ e hd
    obtain ⟨x, e1, rfl⟩ := enmD_get hd
    obtain ⟨v, q1, q2⟩ := h2.get e1
    refine ⟨⟨vs, v, ex_l e h1, q1⟩, fun z H' ⟨p, v', e3, e4, e5, e6⟩ => ?_⟩
    have k1 := e6 vs (ex_l e h1)
    rw [q1] at k1
    cases k1
    subst e3 e5
    rw [Nat.zero_add]
    exact ⟨_, New.tup e e4 (.cons (.int _) (.cons q2 .nil))⟩
  stop := by
    intro H Hs fp ⟨vs, h1, h2⟩ e
    exact ⟨vs, ex_l e h1, by rw [enmD_len, h2.length]; exact Nat.le_refl _⟩
theorem lst_at {K : PySem.W.Frag} {Hs H : Hp} {d : D} {ds : List D} {v : V} {f : List Addr} (r : RpO K T Hs H (.sh d) v f) (h : d = .lst ds ∨ d = .flst ds) : ∃ a, v = .ref a ∧ LstAt K T a ds Hs := by
  cases r with
  | sh r =>
    rcases h with rfl | rfl
    · cases r with
      | lst h1 h2 => exact ⟨_, rfl, _, sq_of h1, h2⟩
    · cases r with
      | flst h1 h2 => exact ⟨_, rfl, _, h1, h2⟩
theorem tup_at {K : PySem.W.Frag} {Hs H : Hp} {ds : List D} {v : V} {f : List Addr} (r : RpO K T Hs H (.sh (.tup ds)) v f) : ∃ a, v = .ref a ∧ TupAt K T a ds Hs := by
  cases r with
  | sh r => cases r with
    | tup h1 h2 => exact ⟨_, rfl, _, h1, h2⟩
theorem zip_parts {t u : OT} {ds : List D} (h : zipEv t u = some ds) : (∃ xs ys, t = .sh (.tup xs) ∧ u = .sh (.tup ys) ∧ ds = zipD xs ys) ∨ ∃ d1 d2 xs ys, t = .sh d1 ∧ u = .sh d2 ∧ (d1 = .lst xs ∨ d1 = .flst xs) ∧ (d2 = .lst ys ∨ d2 = .flst ys) ∧ ds = zipD xs ys := by
  unfold zipEv at h
  split at h
  · exact .inl ⟨_, _, rfl, rfl, (Option.some.inj h).symm⟩
  · exact .inr ⟨_, _, _, _, rfl, rfl, .inl rfl, .inl rfl, (Option.some.inj h).symm⟩
  · exact .inr ⟨_, _, _, _, rfl, rfl, .inr rfl, .inr rfl, (Option.some.inj h).symm⟩
  · exact .inr ⟨_, _, _, _, rfl, rfl, .inl rfl, .inr rfl, (Option.some.inj h).symm⟩
  · exact .inr ⟨_, _, _, _, rfl, rfl, .inr rfl, .inl rfl, (Option.some.inj h).symm⟩
  · cases h
theorem si_zip {a b : Expr} {ra : R (OT × Env)} {rb : Env → R (OT × Env)} (ha : SE X T W a ρ ra) (hb : ∀ ρ1, SE X T W b ρ1 (rb ρ1)) : SI X T W (RZ.iZipA X.K (wEs X [a, b])) ρ id (ra.bind fun p => (rb p.2).bind fun q => match zipEv p.1 q.1 with
    | some ds => .ok (ds, q.2)
    | none => .no) := by
  intro L σ H Hs fp F R h hF k
  rw [cont_bind] at k
  refine ha L σ H Hs fp _ h (k.imp (fun p k v H1 Hs1 fp1 ft p1 => ?_) fun _ _ x => x)
  rw [cont_bind] at k
  refine hb p.2 L σ H1 Hs1 fp1 _ p1.st (k.imp (fun q k v2 H2 Hs2 fp2 ft2 p2 => ?_) fun ex ρ' x => x.later p1.pst)
  have p12 := p1.pst.trans p2.pst
  cases hz : zipEv p.1 q.1 with
  | none => rw [hz] at k; exact k.elim
  | some ds =>
    rw [hz] at k
    have eS := p2.pst.sp.ex
    rcases zip_parts hz with ⟨xs, ys, e1, e2, rfl⟩ | ⟨d1, d2, xs, ys, e1, e2, f1, f2, rfl⟩
    · obtain ⟨a, rfl, t1⟩ := tup_at (e1 ▸ p1.rp)
      obtain ⟨b, rfl, t2⟩ := tup_at (e2 ▸ p2.rp)
      have t1 := t1.mono eS
      obtain ⟨vs, z1, z2⟩ := id t1
      obtain ⟨us, z3, z4⟩ := id t2
      exact ⟨a, b, vs, us, rfl, .inr ⟨ex_t p2.st.ex z1, ex_t p2.st.ex z3, k _ _ L H2 Hs2 fp2 walk_zT ⟨t1, t2⟩ p12.opn⟩⟩
    · obtain ⟨a, rfl, t1⟩ := lst_at (e1 ▸ p1.rp) f1
      obtain ⟨b, rfl, t2⟩ := lst_at (e2 ▸ p2.rp) f2
      have t1 := t1.mono eS
      obtain ⟨vs, z1, z2⟩ := id t1
      obtain ⟨us, z3, z4⟩ := id t2
      exact ⟨a, b, vs, us, rfl, .inl ⟨ex_l p2.st.ex z1, ex_l p2.st.ex z3, k _ _ L H2 Hs2 fp2 walk_zL ⟨t1, t2⟩ p12.opn⟩⟩
theorem si_enm {a : Expr} {ra : R (OT × Env)} (ha : SE X T W a ρ ra) : SI X T W (iEnum X.K (wEs X [a])) ρ id (ra.bind fun p => match enmEv p.1 with
    | some ds => .ok (ds, p.2)
    | none => .no) := by
  intro L σ H Hs fp F R h hF k
  rw [cont_bind] at k
  refine ha L σ H Hs fp _ h (k.imp (fun p k v H1 Hs1 fp1 ft p1 => ?_) fun _ _ x => x)
  cases hz : enmEv p.1 with
  | none => rw [hz] at k; exact k.elim
  | some ds =>
    rw [hz] at k
    have : ∃ d xs, p.1 = .sh d ∧ (d = .lst xs ∨ d = .flst xs) ∧ ds = enmD 0 xs := by
      unfold enmEv at hz
      split at hz
      · rename_i e1; exact ⟨_, _, e1, .inl rfl, (Option.some.inj hz).symm⟩
      · rename_i e1; exact ⟨_, _, e1, .inr rfl, (Option.some.inj hz).symm⟩
      · cases hz
    obtain ⟨d, xs, e1, f1, rfl⟩ := this
    obtain ⟨a, rfl, t1⟩ := lst_at (e1 ▸ p1.rp) f1
    obtain ⟨vs, z1, z2⟩ := id t1
    exact ⟨a, vs, rfl, ex_l p1.st.ex z1, k _ _ L H1 Hs1 fp1 walk_en t1 p1.pst.opn⟩
theorem blk_scope {s : Shared} {H : Hp} {scope : Scope} {C : Addr} {cl : List (Str × Addr)} {fp : List Addr} (hs : X.env.scope = sc) : (blkC' X s H scope C cl fp).env.scope = relS scope sc := by subst hs; rfl
def notSetB : Expr → Bool
  | .Set .. => false
  | _ => true
theorem notSet {e : Expr} {env : PySem.Env} (h : notSetB e = true) : ∀ x, foldedSetIterable e env x = pure x := by
  intro x
  cases e <;> first | rfl | cases h
theorem se_lc {wi : TI} {bk : Env → Env} {rI : R (List D × Env)} {tg : Tg} {tgE iter elt : Expr} {ifs : List Expr} {scope : Scope} {own : List (Str × Nat)} {cond : Env → R (Bool × Env)} {el : Env → R (OT × Env)} {pl : List Nat}
    (nd : X.N.Nodup) (hs : X.env.scope = sc) (hc : X.calm = true) (hi : PI X tgE iter wi) (hset : notSetB iter = true) (si : SI X T W wi ρ bk rI) (ok : BlkOk X.N sc scope own) (ho : own.map (·.2) = tg.slots)
    (htg : tgB X.N (relS scope sc) (fun x => scope.names.lookup x == some .cell) tg tgE = true) (h1 : oneTest ifs = true)
    (ht : ∀ s H C cl fp ρ, STs (blkC' X s H scope C cl fp) T W0 ifs ρ (cond ρ)) (he : ∀ s H C cl fp ρ, SE (blkC' X s H scope C cl fp) T W0 elt ρ (el ρ)) :
    SE X T W (.ListComp elt [⟨tgE, iter, ifs, 0⟩] scope pos) ρ (rI.bind fun p => if quietAll p.2 tg.slots = true then
        match lcL cond el pl tg p.1 [] (wipeE p.2 tg.slots) with
        | .ok (ts, ρ2) => .ok (OT.lst ts, bk (backE p.2 ρ2 tg.slots))
        | _ => .no
      else .no) := fun L σ H Hs fp Q h k =>
  wE_of (pe_lc hc nd hi (by rw [hs]; exact ok) (fun s H C cl fp => tg_pg (X := blkC' X s H scope C cl fp) nd (blk_scope hs) rfl hc htg) (fun s H C cl fp => pts_w h1 s H C cl fp) (fun s H C cl fp => pe_elt s H C cl fp) (notSet hset)) (by
    rw [ho]
    exact lc_read si ht he h k)
/-- how an iterable is read -/
def wiI (X : Cx) : CI → Expr → TI
  | .rng1 _, .Call _ [y] _ _ => iRng1 (wEs X [y])
  | .rng2 _ _, .Call _ [y, z] _ _ => iRng2 (wEs X [y, z])
  | .zip _ _, .Call _ [y, z] _ _ => RZ.iZipA X.K (wEs X [y, z])
  | .enm _, .Call _ [y] _ _ => iEnum X.K (wEs X [y])
  | _, e => iSeq X e
/-- zip and enumerate fill a tuple of names -/
def isTupE : Expr → Bool
  | .Tuple _ _ _ => true
  | _ => false
theorem isTup_of {e : Expr} (h : isTupE e = true) : ∃ es k p, e = .Tuple es k p := by
  unfold isTupE at h
  split at h
  · exact ⟨_, _, _, rfl⟩
  · cases h
def tgFits (c : CI) (e : Expr) : Bool := match c with
  | .zip _ _ => isTupE e
  | .enm _ => isTupE e
  | _ => true
/-- .. in a block -/
def wiB (X : Cx) (scope : Scope) (c : CI) (e : Expr) : TI := fun σ H R => ∀ (s : Shared) (H0 : Hp) (C : Addr) (cl : List (Str × Addr)) (fp : List Addr), wiI (blkC' X s H0 scope C cl fp) c e σ H R
theorem se_lc2 {wi : TI} {c1 : CI} {bk : Env → Env} {bk1 : Env → Env → Env} {rI : R (List D × Env)} {it1 : Env → R (List D × Env)} {tg tg1 : Tg} {tgE iter tgE1 iter1 elt : Expr} {ifs ifs1 : List Expr} {scope : Scope} {own : List (Str × Nat)} {cond cond1 : Env → R (Bool × Env)} {el : Env → R (OT × Env)} {pl : List Nat}
    (nd : X.N.Nodup) (hs : X.env.scope = sc) (hc : X.calm = true) (hi : PI X tgE iter wi) (hset : notSetB iter = true) (hset1 : notSetB iter1 = true) (si : SI X T W wi ρ bk rI) (ok : BlkOk X.N sc scope own) (ho : own.map (·.2) = tg.slots ++ tg1.slots)
    (htg : tgB X.N (relS scope sc) (fun x => scope.names.lookup x == some .cell) tg tgE = true) (htg1 : tgB X.N (relS scope sc) (fun x => scope.names.lookup x == some .cell) tg1 tgE1 = true) (h1 : oneTest ifs = true) (h2 : oneTest ifs1 = true)
    (hi1 : ∀ s H C cl fp, PI (blkC' X s H scope C cl fp) tgE1 iter1 (wiI (blkC' X s H scope C cl fp) c1 iter1)) (si1 : ∀ s H C cl fp ρ, SI (blkC' X s H scope C cl fp) T W0 (wiI (blkC' X s H scope C cl fp) c1 iter1) ρ (bk1 ρ) (it1 ρ))
    (ht : ∀ s H C cl fp ρ, STs (blkC' X s H scope C cl fp) T W0 ifs ρ (cond ρ)) (ht1 : ∀ s H C cl fp ρ, STs (blkC' X s H scope C cl fp) T W0 ifs1 ρ (cond1 ρ)) (he : ∀ s H C cl fp ρ, SE (blkC' X s H scope C cl fp) T W0 elt ρ (el ρ)) :
    ∃ t, PE X (.ListComp elt [⟨tgE, iter, ifs, 0⟩, ⟨tgE1, iter1, ifs1, 0⟩] scope pos) t ∧ (∀ {i : Nat} {y : Str} {py spos : Pos}, X.N[i]? = some y → X.env.scope.names.lookup y = some .local → swapsWith (.ListComp elt [⟨tgE, iter, ifs, 0⟩, ⟨tgE1, iter1, ifs1, 0⟩] scope pos) (some (.Name y py)) spos.line X.env = pure true → PS X (.Assign [.Name y py] (.ListComp elt [⟨tgE, iter, ifs, 0⟩, ⟨tgE1, iter1, ifs1, 0⟩] scope pos) spos) (tAsg t (gName i))) ∧
      ∀ (L : List Addr) (σ : L2.St) (H Hs : Hp) (fp : List Addr) (Q : VK), StOk X.K T L Hs H ρ σ fp →
      Cont (rI.bind fun p => if quietAll p.2 (tg.slots ++ tg1.slots) = true then
        match lcG cond (inner it1 bk1 cond1 el pl tg1) pl tg (tg.slots ++ tg1.slots) p.1 [] (wipeE p.2 (tg.slots ++ tg1.slots)) with
        | .ok (ts, ρ2) => .ok (OT.lst ts, bk (backE p.2 ρ2 (tg.slots ++ tg1.slots)))
        | _ => .no
      else .no) (fun p => ∀ v H' Hs' fp' ft, Post X.K T L σ Hs H fp ρ p.1 p.2 v H' Hs' fp' ft → Q v H') (XOk X.K T L σ Hs H fp ρ W) → t σ H Q := by
  have ok' : BlkOk X.N X.env.scope scope own := by rw [hs]; exact ok
  have hv : ∀ i ∈ tg1.slots, i ∈ own.map (·.2) := fun i hi => by rw [ho]; simp [hi]
  have g0 : ∀ s H C cl fp, PG (X.blk s H scope (compEnvC scope cl C X.env) fp) tgE (gT X.K tg) := fun s H C cl fp => tg_pg (X := blkC' X s H scope C cl fp) nd (blk_scope hs) rfl hc htg
  have g1 : ∀ s H C cl fp, PG (X.blk s H scope (compEnvC scope cl C X.env) fp) tgE1 (gT X.K tg1) := fun s H C cl fp => tg_pg (X := blkC' X s H scope C cl fp) nd (blk_scope hs) rfl hc htg1
  have hi1' : ∀ s H C cl fp, PI (X.blk s H scope (compEnvC scope cl C X.env) fp) tgE1 iter1 (wiB X scope c1 iter1) := fun s H C cl fp => ⟨fun pins s1 σ H1 R I h => (hi1 s H C cl fp).run pins s1 σ H1 R I (h s H C cl fp)⟩
  have si1' : ∀ ρ, SI X T W0 (wiB X scope c1 iter1) ρ (bk1 ρ) (it1 ρ) := fun ρ L σ H Hs fp F R h hF k s H0 C cl fpb => si1 s H0 C cl fpb ρ L σ H Hs fp F R h hF k
  refine ⟨tLc2 wi (gT X.K tg) (tIfs X scope ifs) (wiB X scope c1 iter1) (gT X.K tg1) (tIfs X scope ifs1) (tElt X scope elt) (own.map (·.2)) tg1.slots,
    pe_lc2 hc nd hi ok' hv g0 (fun s H C cl fp => pts_w h1 s H C cl fp) hi1' g1 (fun s H C cl fp => pts_w h2 s H C cl fp) (fun s H C cl fp => pe_elt s H C cl fp) (notSet hset) (fun env => notSet hset1),
    fun {i y py spos} hy hyl hsw => ps_setLc2 hc nd hy hyl hsw hi ok' hv g0 (fun s H C cl fp => pts_w h1 s H C cl fp) hi1' g1 (fun s H C cl fp => pts_w h2 s H C cl fp) (fun s H C cl fp => pe_elt s H C cl fp) (notSet hset) (fun env => notSet hset1), fun L σ H Hs fp Q h k => ?_⟩
  rw [ho]
  exact lc2_read si ht si1' ht1 he h k
end
end CH
end
section
namespace CH
open PySem PySem.W PySem.Calls PyProof.Rows PySem.HandSPX
/-- self.f = f, one behind the other -/
inductive Stores : List Str → List Stmt → Prop
  | nil : Stores [] []
  | cons {f : Str} {fs : List Str} {r : List Stmt} {q1 q2 q3 q4 : Pos} : Stores fs r → Stores (f :: fs) (.Assign [.Attribute (.Name "self" q1) f q2] (.Name f q3) q4 :: r)
/-- the text of such an __init__ -/
inductive InitIs (fs : List Str) : List Stmt → Prop
  | mk {p0 p1 p2 p3 p4 p5 : Pos} {msg : Str} {k : Nat} {rest : List Stmt} : Stores fs rest → (p2.endLine == p4.line) = true → InitIs fs (.Expr (.Call (.Attribute (.Call (.Name "super" p0) [] [] p1) "__init__" p2) [.Constant (.str msg) k p3] [] p4) p5 :: rest)
/-- what the written part says of such a class, at C, and of its __init__, at fI -/
structure ExTxt (prog : Program) (K : Frag) (mg : Str → Option Value) (C fI : Addr) (fs : List Str) : Prop where
  cls : ∃ nm q N bs bm sn sub ab col dd k0 k1 k2 k3 k5, K.lookup C = some (excClassObj nm q C N bs bm true sn sub ab col dd k0 k1 k2 k3 k5 "ValueError.__new__") ∧ refsVE bm = true
  sa : findIn K (.ref C) "__setattr__" = some (some (.builtin "object.__setattr__"))
  ga : findIn K (.ref C) "__getattribute__" = some (some (.builtin "BaseException.__getattribute__"))
  gg : findIn K (.ref C) "__getattr__" = some none
  noN : ∀ f ∈ fs, findIn K (.ref C) f = some none
  iC : findIn K (.ref C) "__init__" = some (some (.ref fI))
  tC : typeIn K (.ref fI) = some (.type "function")
  kC : keepIn K (.ref C) = true
  exC : subIn K (.ref C) (.type "BaseException") = some true
  veC : subIn K (.ref C) (.type "ValueError") = some true
  tyC : typeIn K (.ref C) = some (.type "type")
  hdC : hasDictIn K C = true
  sup : ks_superIn K C C "__init__" = some (some (.builtin "ValueError.__init__"))
  meC : mroIn K C (.ref C) = some true
  noS : mg "super" = none
  opq : nsIn K cStatics "thirdparty.any" = some none
  top : (prog.main.scope.names.lookup ("super" : Str)).isSome = false
  fld : ∀ f ∈ fs, (f == ("__debug__" : Str)) = false ∧ f ≠ ("self" : Str)
  nd : fs.Nodup
  few : fs.length ≤ 8
  fn : ∃ (oc : Value) (od : Option Addr) (doc pm : Value) (an : Option Addr) (cda cc : Addr) (ct : Value) (osl : Array (Option Value)) (qual : Str) (params : Arguments) (body : List Stmt) (scope : Scope),
    K.lookup fI = some ⟨oc, od, .func (ksFn "__init__" qual params body scope .none .none doc pm an (.ref cda) ct cc), osl⟩ ∧ codeIn K (.ref cda) qual = true ∧
    (∃ (ccl : Value) (cdd : Option Addr) (vs : Array Value) (ccs : Array (Option Value)) (file : Str) (tf : Tok), K.lookup cda = some ⟨ccl, cdd, .fields vs, ccs⟩ ∧ vs[2]? = some (.str file tf) ∧ ((prog.main.file : Str) == file) = true) ∧
    (∃ (cl : Value) (cld : Option Addr) (csl : Array (Option Value)), K.lookup cc = some ⟨cl, cld, .cell (some (.ref C)), csl⟩) ∧
    (∃ ar : Arg, (params.posonlyargs ++ params.args).head? = some ar ∧ ar.arg = "self") ∧
    (∀ (s : Shared) (u : Value) (vs : List Value), vs.length = fs.length → BindsTo s (ksFn "__init__" qual params body scope .none .none doc pm an (.ref cda) ct cc) ⟨u :: vs, []⟩ (("self", u) :: fs.zip vs)) ∧
    scope.names.lookup ("super" : Str) = some .globalImplicit ∧ scope.names.lookup ("__class__" : Str) = some .free ∧ scope.names.lookup ("self" : Str) = some .local ∧ (∀ f ∈ fs, scope.names.lookup f = some .local) ∧
    (∀ x ∈ scope.names, x.2 ≠ .cell) ∧ scope.isCoroutine = false ∧ scope.isGenerator = false ∧ scope.kind = .function ∧ InitIs fs body
theorem kept_but {K : Frag} {h h' : Heap} {x : Addr} (X : K.In h) (hx : K.lookup x = none) (k : ∀ b o, b ≠ x → h.get? b = some o → h'.get? b = some o) : K.In h' := fun a o e =>
  k a o (fun z => by rw [z, hx] at e; cases e) (X a o e)
/-- the fields of a fresh exception's dict -/
def fldF (l : List (Str × Value)) : Str → Option Value := fun y => l.lookup y
section
variable {prog : Program} {w : World} {A : Around} {E : Value → Shared → Prop} {R : Result → Shared → Prop} {hp : Heap} {g : Array GenState} {d : Drawn} {t : Nat} {os : OsState}
/-- self.f = v where the exception has its dict -/
theorem osa_more {K : Frag} {name : Str} {tk : Tok} {v : Value} {x C dx : Addr} {fv : Array Value} {cd : ClassData} {m0 : Str → Option Value} {nl : List Str}
    (X : K.In hp) (hx : hp.get? x = some { cls := .ref C, dict := some dx, data := .fields fv }) (hns : hp.Ns1 dx m0) (hw : Within m0 nl) (hz : nl.length ≤ 1000) (hcd : clsIn K C = some cd) (hm : refsVE cd.mro = true) (hh : cd.hasDict = true)
    (ha : findIn K (.ref C) name = some none)
    (hq : ∀ h' tk', (∀ b o, b ≠ dx → hp.get? b = some o → h'.get? b = some o) → h'.Ns1 dx (fun y => if y = name then some v else m0 y) → R (.ok (.ret .none)) ⟨h', g, d, tk', os⟩) :
    codeAny (model prog w) A (.call (.builtin "object.__setattr__") ⟨[.ref x, .str name tk, v], []⟩) R ⟨hp, g, d, t, os⟩ := by
  obtain ⟨oD, esD, epD, hoD, hdD, _⟩ := hns.count hw
  have I : InstAt hp x { cls := .ref C, dict := some dx, data := .fields fv } C (some oD) := ⟨hx, rfl, rfl, hoD⟩
  have SF := F.store_object
  have ne := refsVE_ne hm
  have hob : cd.mro.contains (.type "object") = true := (refsVE_contains "object" _ hm).trans (by decide +kernel)
  have sub : Looks (model prog w) hp (isInstance (.ref x) (.type "object")) true := I.type.andThen (looks_mroIn X (by unfold mroIn; rw [hcd, Option.bind_some, if_neg (by rw [ne]; decide), hob]))
  refine codeAny_call_builtin SF.slot.plain SF.entry (@check_slot (model prog w) _ _ ⟨hp, g, d, t, os⟩ "object.__setattr__" "object" "__setattr__" (.ref x) [.str name tk, v] [] _ SF.kind SF.split sub (SF.args (.ref x) (.str name tk) v) ?_)
  have hmr : Looks (model prog w) hp (mroOf (.ref C)) cd.mro := (looks_clsIn X hcd).andThen .now
  have L3 : Looks (model prog w) hp (Builtin.ObjectAttr.storeTaker? none) none := .now
  rw [osa_eq, refuse_eq]
  refine wpAny_bind (wpAny_bind (I.type.at (wpAny_bind (hmr.at ?_))))
  rw [refsVE_pass _ _ hm]
  refine wpAny_pure (wpAny_bind (I.type.at (wpAny_bind ((looks_findIn X ha).at (wpAny_bind (L3.at ?_))))))
  have hcls : Looks (model prog w) hp (classData C) cd := looks_clsIn X hcd
  obtain ⟨nm, bs, mro, ns, qn, hd, sn, sb, ab, col, del⟩ := cd
  dsimp only at hh
  subst hh
  unfold Builtin.ObjectAttr.storeInOwnDict Builtin.ObjectAttr.ownDictForStores
  repeat (first | with_reducible refine ESX.store_in_old hns hw hz ?_ | with_reducible refine wpAny_loadPart_at hx ?_ | with_reducible refine hcls.at ?_ | wp_step)
  intro h' tk' hn' hs
  exact hq h' tk' (fun b o hb ho => (hs.2 b hb).trans ho) hn'
end
end CH
end
section
namespace CH
open PySem PySem.W PySem.Calls PyProof.Rows PySem.HandSPX
def stF (m0 : Str → Option Value) : List (Str × Value) → Str → Option Value
  | [] => m0
  | (f, v) :: r => stF (fun y => if y = f then some v else m0 y) r
abbrev excD (C t dx : Addr) : Obj := { cls := .ref C, dict := some dx, data := .fields #[.ref t, .none, .none, .none, .bool false, .none] }
section
variable {prog : Program} {w : World} {A : Around} {E : Value → Shared → Prop} {R : Result → Shared → Prop} {g : Array GenState} {d : Drawn} {os : OsState} {K : Frag} {mg : Str → Option Value} {C fI : Addr}
theorem ld_loc {M : Model} {s : Shared} {env : PySem.Env} {m : Str → Option Value} {x : Str} {pos : Pos} {v : Value} {Q : Value → Shared → Prop} {A : Around} {E : Value → Shared → Prop} (hk : env.scope.kind = .function) (hl : env.kindOf x = some .local) (hd : (x == ("__debug__" : Str)) = false) (hn : s.heap.Ns env.locals m) (hv : m x = some v) (h : Q v s) :
    wpAny M A (eval (.Name x pos) env) Q E s := wpAny_Name (wpAny_loadName_local hk hl hn hv h) hd
theorem stores_more {env : PySem.Env} {m : Str → Option Value} {cd : ClassData} {x dx t1 : Addr} {Q : Flow → Shared → Prop} (hk : env.scope.kind = .function) (hks : env.kindOf "self" = some .local) (hself : m "self" = some (.ref x)) (hL : env.locals ≠ dx) (hxd : x ≠ dx) (hnd : K.lookup dx = none)
    (sa : findIn K (.ref C) "__setattr__" = some (some (.builtin "object.__setattr__"))) (hcd : clsIn K C = some cd) (hm : refsVE cd.mro = true) (hh : cd.hasDict = true) :
    ∀ {fs : List Str} {rest : List Stmt}, Stores fs rest → ∀ (vs : List Value) (h : Heap) (t : Nat) (m0 : Str → Option Value) (nl : List Str), vs.length = fs.length → h.Ns env.locals m → (∀ p ∈ fs.zip vs, m p.1 = some p.2) → (∀ f ∈ fs, env.kindOf f = some .local ∧ (f == ("__debug__" : Str)) = false ∧ findIn K (.ref C) f = some none) →
      K.In h → h.get? x = some (excD C t1 dx) → h.Ns1 dx m0 → Within m0 nl → nl.length + fs.length ≤ 1000 →
      (∀ h' tk, (∀ b o, b ≠ dx → h.get? b = some o → h'.get? b = some o) → h'.Ns1 dx (stF m0 (fs.zip vs)) → Q .next ⟨h', g, d, tk, os⟩) →
      wpAny (model prog w) A (execs rest env) Q E ⟨h, g, d, t, os⟩
  | _, _, .nil, vs, h, t, m0, nl, hl, _, _, _, _, _, hns, _, _, hq => wpAny_execs_nil (hq h t (fun _ _ _ e => e) (by simpa [stF] using hns))
  | _, _, @Stores.cons f fs r q1 q2 q3 q4 S, v :: vs, h, t, m0, nl, hl, hn, hm', hf, X, hx, hns, hw, hz, hq => by
    obtain ⟨hkf, hdf, hnf⟩ := hf f (by simp)
    obtain ⟨oD, esD, epD, hoD, hdD, _⟩ := hns.count hw
    refine wpAny_execs_cons (plainObj_wpAny_Assign_Attribute ?_)
    refine ld_loc hk hkf hdf hn (hm' (f, v) (by simp)) (ld_loc hk hks (by decide) hn hself ?_)
    refine set_plain X (ox := excD C t1 dx) (od := some oD) ⟨hx, rfl, rfl, hoD⟩ sa ?_
    refine osa_more X hx hns hw (by simp only [List.length_cons] at hz; omega) hcd hm hh hnf (fun h' tk k hns' => ?_)
    refine stores_more hk hks hself hL hxd hnd sa hcd hm hh S vs h' tk _ (f :: nl) (by simpa using hl) (hn.at fun o e => k _ o hL e) (fun p hp => hm' p (by simp [hp])) (fun f hf' => hf f (by simp [hf'])) (kept_but X hnd k) (k _ _ hxd hx) hns' (Within.cons f v hw) (by simp only [List.length_cons] at hz ⊢; omega) ?_
    intro h'' tk' k' hns''
    exact hq h'' tk' (fun b o hb e => k' b o hb (k b o hb e)) hns''
end
end CH
end
section
namespace CH
open PySem PySem.W PySem.Calls PyProof.Rows PySem.HandSPX
section
variable {prog : Program} {w : World} {A : Around} {E : Value → Shared → Prop} {h : Heap} {g : Array GenState} {d : Drawn} {t : Nat} {os : OsState}
variable {nm q : Str} {C N : Addr} {bs bm : List Value} {hdct : Bool} {sn : List Str} {sub : List Value} {ab : Bool} {col : Option Bool} {dd : Option Addr} {k0 k1 k2 k3 k5 : Option Value}
/-- ValueError.__init__ bound to the exception, called -/
theorem call_veb {u e t0 : Addr} {rest : List Value} {Q : Value → Shared → Prop}
    (hC : h.get? C = some (excClassObj nm q C N bs bm hdct sn sub ab col dd k0 k1 k2 k3 k5 "ValueError.__new__")) (he : h.get? e = some (excO C t0)) (hu : h.get? u = some (kxs_mw "ValueError.__init__" e)) (hrest : rest.length ≤ sizeLine)
    (hq : ∀ h' t1, (∀ b o, b ≠ e → h.get? b = some o → h'.get? b = some o) → h'.get? e = some (excO C t1) → Q .none ⟨h', g, d, t, os⟩) :
    wpAny (model prog w) A (call (.ref u) rest) Q E ⟨h, g, d, t, os⟩ := by
  refine wpAny_call (codeAny_of_tree ?_)
  show wpAny _ A.in1 (callAny (.ref u) ⟨rest, []⟩) _ _ _
  simp only [callAny]
  refine wpAny_bind (wpAny_load hu ?_)
  simp only [kxs_mw, show (Value.type "method-wrapper" == Value.type "method" || Value.type "method-wrapper" == Value.type "builtin_function_or_method" || Value.type "method-wrapper" == Value.type "method-wrapper") = true by decide, if_true]
  refine KFB.if_so (by decide) ?_
  refine wpAny_bind (check_bound_init F.excBase_ValueError.toExcCallFacts hC he rfl ?_)
  refine wpAny_bind (wpAny_pure (wpAny_pure ?_))
  refine ⟨plainId_quiet F.excBase_ValueError.init.plain _, codeAny_builtin F.excBase_ValueError.initEntry ?_⟩
  rw [Around.under_plainId F.excBase_ValueError.init.plain _]
  wp_walk
  refine hq _ h.objs.size (fun b o hb ho => ?_) ?_
  · rw [Heap.get?_update_other _ _ (Ne.symm hb)]
    exact Heap.get?_push_of_some _ ho
  · rw [Heap.get?_update_self _ (Heap.get?_push_of_some _ he) rfl]
    rfl
end
section
variable {prog : Program} {w : World} {A : Around} {R : Result → Shared → Prop} {s : Shared} {K : Frag} {mg : Str → Option Value} {C fI : Addr} {fs : List Str}
theorem boot_super : bootBuiltins "super" = some (.type "super") := by decide +kernel
def plO (o : Expr) (env : PySem.Env) : Sem Bool := do return (← importBound o env).getD true
theorem he_super {env : PySem.Env} {o : Expr} {name : Str} {p2 p3 p4 : Pos} {c : Const} {km : Nat} (hline : (p2.endLine == p4.line) = true) : eval (.Call (.Attribute o name p2) [.Constant c km p3] [] p4) env = (do
      let ov ← attributeBase o name env (eval o env)
      standAt p2.atName
      let (f, first) ← holding [ov] (getMethod ov name (plO o env))
      callWith p4 f first (backTo p4 (starEach [.Constant c km p3] env)) []) := by
  show (do
    let ov ← attributeBase o name env (eval o env)
    standAt p2.atName
    methodCall o name p2 p4 env ov 1 (backTo p4 (starEach [.Constant c km p3] env)) []) = _
  have h1 : ∀ ov, calleeOf (methodCallForm 1 (backTo p4 (starEach [.Constant c km p3] env)) []) o env ov name = getMethod ov name (plO o env) := fun ov => rfl
  have h2 : methodCallPos (methodCallForm 1 (backTo p4 (starEach [.Constant c km p3] env)) []) o env p2 p4 = pure p4 := by
    unfold methodCallPos
    rw [hline, Bool.or_true, if_pos rfl]
  unfold methodCall
  simp only [h1, h2, pure_bind]
theorem rev_lookup {α : Type} : ∀ (l : List (Str × α)), (l.map (·.1)).Nodup → ∀ p ∈ l, l.reverse.lookup p.1 = some p.2 := by
  intro l
  induction l with
  | nil => intro _ p hp; cases hp
  | cons a l ih =>
    intro hn p hp
    rw [List.map_cons, List.nodup_cons] at hn
    rw [List.reverse_cons, List.lookup_append]
    rcases List.mem_cons.mp hp with rfl | hp
    · have : l.reverse.lookup p.1 = none := by
        rw [List.lookup_eq_none_iff]
        intro q hq
        have hq := List.mem_reverse.mp hq
        have : p.1 ≠ q.1 := fun e => hn.1 (e ▸ List.mem_map_of_mem hq)
        simpa using this
      rw [this]
      simp [List.lookup]
    · rw [ih hn.2 p hp]; rfl
theorem zip_keys {α : Type} : ∀ {fs : List Str} (vs : List α), fs.Nodup → ((fs.zip vs).map (·.1)).Nodup ∧ ∀ p ∈ fs.zip vs, p.1 ∈ fs
  | [], vs, _ => ⟨by simp, by simp⟩
  | f :: fs, [], _ => ⟨by simp, by simp⟩
  | f :: fs, v :: vs, h => by
    rw [List.nodup_cons] at h
    obtain ⟨h1, h2⟩ := zip_keys (fs := fs) vs h.2
    refine ⟨?_, ?_⟩
    · rw [List.zip_cons_cons, List.map_cons, List.nodup_cons]
      refine ⟨fun hm => ?_, h1⟩
      obtain ⟨p, hp, e⟩ := List.mem_map.mp hm
      have := h2 p hp
      rw [e] at this
      exact h.1 this
    · intro p hp
      rw [List.zip_cons_cons] at hp
      rcases List.mem_cons.mp hp with rfl | hp
      · simp
      · exact List.mem_cons_of_mem _ (h2 p hp)
theorem ex_init (T : ExTxt prog K mg C fI fs) (hne : fs ≠ []) {x t0 : Addr} {vs : List Value} (hl : vs.length = fs.length) (M : L2.Mod K mg s.heap) (hx : s.heap.get? x = some (excO C t0)) (hnx : K.lookup x = none) (hroom : A.depth < recursionLimit)
    (hq : ∀ h' tk t1 dx, (∀ b o, b ≠ x → s.heap.get? b = some o → h'.get? b = some o) → s.heap.objs.size ≤ dx → dx ≠ x → h'.get? x = some (excD C t1 dx) → h'.Ns1 dx (stF (fun _ => none) (fs.zip vs)) → R (.ok (.ret .none)) { s with heap := h', toks := tk }) :
    codeAny (model prog w) A (.call (.ref fI) ⟨.ref x :: vs, []⟩) R s := by
  obtain ⟨oc, od, doc, pm, an, cda, cc, ct, osl, qual, params, body, scope, ho, hcd, ⟨ccl, cdd, vs0, ccs, file, tf, hcode, hvs, hfile⟩, ⟨cl, cld, csl, hcell⟩, ⟨ar, har, harn⟩, hbind, hsup, hcls, hself, hfl, hnc, hco, hgen, hkd, hb⟩ := T.fn
  obtain ⟨nm, q, N, bs, bm, sn, sub, ab, col, dd, k0, k1, k2, k3, k5, hC, hbm⟩ := T.cls
  have hcl : clsIn K C = some { name := nm, bases := bs, mro := .ref C :: bm, ns := N, qualname := q, hasDict := true, slotNames := sn, subclasses := sub, abstract := ab, collection := col, hasDel := false } := by unfold clsIn; rw [hC] <;> rfl
  obtain ⟨hp, g, d, tk, os⟩ := s
  refine ks_codeAny_call_defAt (fd := ksFn "__init__" qual params body scope .none .none doc pm an (.ref cda) ct cc) (body := body) (binds := ("self", .ref x) :: fs.zip vs) hroom (M.kin _ _ ho) rfl M.nolimit (codeRec_of M.kin hcd) rfl (hbind _ _ _ hl) hnc ?_ (fun h₁ hns k₁ => ?_) hco hgen hkd
  · intro y hy
    rcases List.mem_cons.mp hy with rfl | hy
    · exact hself
    · exact hfl _ (List.of_mem_zip hy).1
  have X₁ : K.In h₁ := M.kin.keeps k₁
  have hx₁ := k₁ _ _ hx
  have hxC : x ≠ C := fun e => by rw [e, hC] at hnx; cases hnx
  have hlx : hp.objs.size ≠ x := Nat.ne_of_gt (Heap.lt_size hx)
  obtain ⟨arn, aan, app⟩ := ar
  simp only at harn
  subst harn
  obtain ⟨zk, zm⟩ := zip_keys vs T.nd
  have keys : (((("self" : Str), Value.ref x) :: fs.zip vs).map (·.1)).Nodup := by
    rw [List.map_cons, List.nodup_cons]
    refine ⟨fun h => ?_, zk⟩
    obtain ⟨p, hp, e⟩ := List.mem_map.mp h
    exact (T.fld _ (zm p hp)).2 e
  have look := rev_lookup _ keys
  have hselfv := look ((("self" : Str), Value.ref x)) (by simp)
  have hfv : ∀ p ∈ fs.zip vs, ((("self" : Str), Value.ref x) :: fs.zip vs).reverse.lookup p.1 = some p.2 := fun p hp => look p (List.mem_cons_of_mem _ hp)
  generalize ((("self" : Str), Value.ref x) :: fs.zip vs).reverse = rb at hns hselfv hfv ⊢
  obtain ⟨mb, hb1, hb2⟩ := M.blt
  have hC₁ := X₁ _ _ hC
  cases hb with
  | @mk p0 p1 p2 p3 p4 p5 msg km rest S hline =>
    show PySem.wpAt (model prog w) (A.deeper (ksEnv qual scope hp.objs.size fI (.ref cda) cc)) (.func _ (ksEnv qual scope hp.objs.size fI (.ref cda) cc)) (execs _ (ksEnv qual scope hp.objs.size fI (.ref cda) cc)) _ _ _
    refine ks_wpAt_execs_cons (ks_wpAt_Expr_any ?_ (by show (scope.kind == .module && _) = false; rw [hkd]; rfl))
    refine ks_wpAt_MethodCall (pl := plO (.Call (.Name "super" p0) [] [] p1) (ksEnv qual scope hp.objs.size fI (.ref cda) cc)) ?_ (he_super hline)
    refine ks_wpAt_super_base (env := ksEnv qual scope hp.objs.size fI (.ref cda) cc) hsup hcls rfl rfl (X₁ _ _ ho) rfl har rfl (X₁ _ _ hcode) rfl hvs hfile T.top ?_
    refine ks_loadName_global hkd hsup (loadGlobal_builtin (env := ksEnv qual scope hp.objs.size fI (.ref cda) cc) (M.glob.keeps k₁) T.noS (hb1.keeps k₁) ((hb2 _ (by decide)).trans boot_super) ⟨rfl, ?_⟩)
    refine wpAny_loadName_free hkd hcls rfl ⟨_, X₁ _ _ hcell, rfl⟩ ?_
    refine wpAny_loadName_local hkd hself hns hselfv ?_
    refine ks_wpAny_isType_cls hC₁ rfl ⟨rfl, ?_⟩
    refine ks_wpAny_call_super hC₁ rfl hx₁ rfl (fun c e => by cases e) (looks_mroIn X₁ T.meC) (fun h₂ e₂ k₂ => ?_)
    have X₂ := X₁.keeps k₂
    have hx₂ := k₂ _ _ hx₁
    have hC₂ := k₂ _ _ hC₁
    have hsp := T.sup
    unfold ks_superIn at hsp
    rw [hcl] at hsp
    have I₂ : InstAt h₂ x (excO C t0) C none := ⟨hx₂, rfl, rfl, trivial⟩
    have hmro : Looks (model prog w) h₂ (mroOf (.ref C)) (.ref C :: bm) := (looks_clsIn X₂ hcl).andThen .now
    refine kxs_getMethod kxs_ValueError e₂ (looks_opaque X₂ T.opq) hmro rfl X₂ hsp (I₂.type.andThen (looks_subIn X₂ T.veC)) hxC rfl ?_
    have X₃ : K.In (h₂.push (kxs_mw "ValueError.__init__" x)) := X₂.keeps fun b o e => Heap.get?_push_of_some _ e
    have k₃ : ∀ b o, hp.get? b = some o → (h₂.push (kxs_mw "ValueError.__init__" x)).get? b = some o := fun b o e => Heap.get?_push_of_some _ (k₂ b o (k₁ b o e))
    have hx₃ := k₃ _ _ hx
    have hC₃ := X₃ _ _ hC
    have hu : (h₂.push (kxs_mw "ValueError.__init__" x)).get? h₂.objs.size = some (kxs_mw "ValueError.__init__" x) := Heap.get?_push_at rfl rfl
    show wpAny (model prog w) _ (callWith p4 (.ref h₂.objs.size) [] (backTo p4 (starEach (.Constant (.str msg) km p3 :: []) (ksEnv qual scope hp.objs.size fI (.ref cda) cc))) []) _ _ _
    refine kxs_callWith (i := "ValueError.__init__") (x := x) rfl ?_
    refine evalArgs_plain ?_
    refine spliced_more (wpAny_Constant_str (spliced_none ⟨hu, ?_⟩))
    refine call_veb hC₃ hx₃ hu (by rw [sizeLine_eq]; exact (by decide : 1 ≤ 16777216)) (fun h₄ t1 k₄ hx₄ => ?_)
    have X₄ : K.In h₄ := kept_but X₃ hnx k₄
    have L₃ : (h₂.push (kxs_mw "ValueError.__init__" x)).Ns hp.objs.size (fun y => List.lookup y rb) := (hns.keeps k₂).keeps fun b o e => Heap.get?_push_of_some _ e
    have L₄ : h₄.Ns hp.objs.size (fun y => List.lookup y rb) := L₃.at fun o e => k₄ _ o hlx e
    cases S with
    | nil => exact absurd rfl hne
    | @cons f fs r q1 q2 q3 q4 S =>
      cases vs with
      | nil => cases hl
      | cons v vs =>
        have few := T.few
        have fld := T.fld
        have noN := T.noN
        refine PySem.wpAt_of_wpAny ?_
        refine wpAny_execs_cons (plainObj_wpAny_Assign_Attribute ?_)
        refine ld_loc (env := ksEnv qual scope hp.objs.size fI (.ref cda) cc) hkd (hfl f List.mem_cons_self) (fld f List.mem_cons_self).1 L₄ (hfv (f, v) (show (f, v) ∈ (f, v) :: fs.zip vs from List.mem_cons_self)) (ld_loc (env := ksEnv qual scope hp.objs.size fI (.ref cda) cc) hkd hself (by decide) L₄ hselfv ?_)
        refine set_plain X₄ (ox := excO C t1) (od := none) ⟨hx₄, rfl, rfl, trivial⟩ T.sa ?_
        refine exc_osa X₄ hx₄ hcl (show refsVE (.ref C :: bm) = true from hbm) rfl (noN f List.mem_cons_self) (fun h₅ tk₅ dx k₅ dn dne hx₅ hn₅ => ?_)
        have z : hp.objs.size < h₁.objs.size := hns.lt
        have z2 : hp.objs.size < h₄.objs.size := L₄.lt
        have hnd : K.lookup dx = none := by
          cases e : K.lookup dx with
          | none => rfl
          | some o => exact absurd (Heap.lt_size (X₄ _ _ e)) (Nat.not_lt.mpr dn)
        have X₅ : K.In h₅ := kept_but X₄ hnx k₅
        refine stores_more (env := ksEnv qual scope hp.objs.size fI (.ref cda) cc) (m := fun y => List.lookup y rb) (x := x) (dx := dx) (t1 := t1) hkd hself hselfv (Nat.ne_of_lt (Nat.lt_of_lt_of_le z2 dn)) (Ne.symm dne) hnd T.sa hcl (show refsVE (.ref C :: bm) = true from hbm) rfl S vs h₅ tk₅ _ [f] (by simpa using hl) (L₄.at fun o e => k₅ _ o hlx e) (fun p hp => hfv p (show p ∈ (f, v) :: fs.zip vs from List.mem_cons_of_mem _ hp)) (fun f' hf' => ⟨hfl f' (List.mem_cons_of_mem _ hf'), (fld f' (List.mem_cons_of_mem _ hf')).1, noN f' (List.mem_cons_of_mem _ hf')⟩) X₅ hx₅ hn₅ ?_ (by simp only [List.length_cons, List.length_nil] at few ⊢; omega) ?_
        · intro y e
          by_cases hy : y = f
          · simp [hy]
          · exact absurd (if_neg hy) e
        · intro h₆ tk₆ k₆ hn₆
          refine hq h₆ tk₆ t1 dx (fun b o hb e => ?_) (Nat.le_of_lt (Nat.lt_of_lt_of_le z2 dn)) dne (k₆ _ _ (Ne.symm dne) hx₅) hn₆
          have e4 := k₅ b o hb (k₄ b o hb (k₃ b o e))
          have : b ≠ dx := fun q => by
            have := Heap.lt_size (k₄ b o hb (k₃ b o e))
            rw [q] at this
            exact absurd this (Nat.not_lt.mpr dn)
          exact k₆ b o this e4
end
end CH
end
section
namespace CH
open PySem PySem.W PySem.Calls PyProof.Rows PySem.HandSPX
/-- a made exception -/
structure ExMade (h h' : Heap) (e C d : Addr) (l : List (Str × Value)) : Prop where
  keep : ∀ b o, h.get? b = some o → h'.get? b = some o
  new : h.objs.size ≤ e
  obj : ∃ t1, h'.get? e = some (excD C t1 d)
  dbig : h.objs.size ≤ d
  dne : d ≠ e
  ns : h'.Ns1 d (stF (fun _ => none) l)
section
variable {prog : Program} {w : World} {A : Around} {R : Result → Shared → Prop} {s : Shared} {K : Frag} {mg : Str → Option Value} {C fI : Addr} {fs : List Str}
theorem ex_made (T : ExTxt prog K mg C fI fs) (hne : fs ≠ []) {vs : List Value} (hl : vs.length = fs.length) (M : L2.Mod K mg s.heap) (hroom : A.depth + 1 < recursionLimit)
    (hq : ∀ h' tk e d, ExMade s.heap h' e C d (fs.zip vs) → R (.ok (.ret (.ref e))) { s with heap := h', toks := tk }) :
    codeAny (model prog w) A (.call (.ref C) ⟨vs, []⟩) R s := by
  obtain ⟨nm, q, N, bs, bm, sn, sub, ab, col, dd, k0, k1, k2, k3, k5, hC, hbm⟩ := T.cls
  obtain ⟨hp, g, dr, tk, os⟩ := s
  have k : ∀ b o, hp.get? b = some o → ((hp.push (kdv_tup vs)).push (excO C hp.objs.size)).get? b = some o := fun b o e => Heap.get?_push_of_some _ (Heap.get?_push_of_some _ e)
  have hget : ((hp.push (kdv_tup vs)).push (excO C hp.objs.size)).get? (hp.objs.size + 1) = some (excO C hp.objs.size) := by heap_get
  have hnx : K.lookup (hp.objs.size + 1) = none := by
    cases e : K.lookup (hp.objs.size + 1) with
    | none => rfl
    | some o =>
      have z : hp.get? (hp.objs.size + 1) = some o := M.kin _ _ e
      exact absurd (Nat.lt_of_succ_lt (Heap.lt_size z)) (Nat.lt_irrefl _)
  have few := T.few
  refine call_own F.excBase_ValueError (fun X => refsVE_contains X bm hbm) (M.kin _ _ hC) (looks_findIn M.kin T.iC) (fun self => bind_fn M.kin self T.tC) (by rw [sizeLine_eq, hl]; exact Nat.le_trans few (by decide)) ?_
  have M' : L2.Mod K mg ((hp.push (kdv_tup vs)).push (excO C hp.objs.size)) := by
    obtain ⟨mb, b1, b2⟩ := M.blt
    exact ⟨M.kin.keeps k, M.glob.keeps k, ⟨mb, b1.keeps k, b2⟩, M.nolimit.keeps k⟩
  refine ex_init (s := ⟨(hp.push (kdv_tup vs)).push (excO C hp.objs.size), g, dr, tk, os⟩) T hne hl M' hget hnx ?_ fun h' tk' t1 dx k' dn dne hx hns => ?_
  · show A.depth + 1 < recursionLimit
    exact hroom
  · have old : ∀ b o, hp.get? b = some o → h'.get? b = some o := fun b o e => k' b o (Nat.ne_of_lt (Nat.lt_succ_of_lt (Heap.lt_size e))) (k b o e)
    have z : hp.objs.size + 1 + 1 ≤ dx := by
      first
        | (simpa only [Heap.size_push] using dn)
        | exact dn
        | (have q := dn; rw [Heap.size_push, Heap.size_push] at q; exact q)
    exact ⟨rfl, hq h' tk' (hp.objs.size + 1) dx ⟨old, Nat.le_succ _, ⟨t1, hx⟩, Nat.le_trans (Nat.le_trans (Nat.le_succ _) (Nat.le_succ _)) z, dne, hns⟩⟩
end
open L2
section
variable {X : L2.Cx} {C fI : Addr} {fs : List Str}
/-- the fields, as the layer tells them -/
theorem relO_st : ∀ {fs : List Str} {vs : List V} {us : List Value} {m0 : Str → Option Value} {l0 : List (Str × V)}, fs.Nodup → vs.length = fs.length → Vals vs us → (∀ f, RelO (l0.lookup f) (m0 f)) → (∀ f ∈ fs, l0.lookup f = none) →
    ∀ f, RelO ((l0 ++ fs.zip vs).lookup f) (stF m0 (fs.zip us) f)
  | [], vs, us, m0, l0, _, hl, r, h0, _, f => by simpa [stF] using h0 f
  | g :: fs, v :: vs, u :: us, m0, l0, nd, hl, r, h0, hno, f => by
    rw [List.nodup_cons] at nd
    cases r with
    | cons rv r =>
      have e : l0 ++ (g :: fs).zip (v :: vs) = (l0 ++ [(g, v)]) ++ fs.zip vs := by simp
      rw [e]
      refine relO_st (m0 := fun y => if y = g then some u else m0 y) nd.2 (by simpa using hl) r ?_ ?_ f
      · intro f
        rw [List.lookup_append]
        by_cases hf : f = g
        · subst hf
          rw [hno f (by simp), if_pos rfl]
          have : List.lookup f [(f, v)] = some v := by simp [List.lookup]
          rw [this]
          exact rv
        · rw [if_neg hf]
          have : List.lookup f [(g, v)] = none := by
            have : (f == g) = false := by simpa using hf
            simp [List.lookup, this]
          rw [this, Option.or_none]
          exact h0 f
      · intro f hf
        rw [List.lookup_append, hno f (by simp [hf])]
        have : f ≠ g := fun e => nd.1 (e ▸ hf)
        have : (f == g) = false := by simpa using this
        simp [List.lookup, this]
  | g :: fs, v :: vs, [], m0, l0, nd, hl, r, h0, hno, f => by cases r
  | g :: fs, [], us, m0, l0, nd, hl, r, h0, hno, f => by cases hl
end
end CH
end
section
namespace CH
open PySem L2 Evl PyProof.Rows
/-- a clause: its class, the slot of its name, its suite's reading -/
structure Cls where
  c : Value
  i : Option Nat
  ts : Addr → Value → Option Addr → TS
/-- the ends of a suite whose name is in a slot -/
def endsOf (D : Ends) : Option Nat → Ends
  | none => D
  | some i => { nx := fun σ H => D.nx (σ.set i none) H, rt := D.rt, bk := fun σ H => D.bk (σ.set i none) H, ct := fun σ H => D.ct (σ.set i none) H }
def stOf (σ : L2.St) (a : Addr) : Option Nat → L2.St
  | none => σ
  | some i => σ.set i (some (.ref a))
def wMix (K : PySem.W.Frag) (Wout : WX) (D : Ends) : List Cls → WX
  | [] => Wout
  | k :: r => fun cls d σ H => ∃ b, PySem.W.exmOne K cls k.c = some b ∧ (b = true → ∀ a, H a = none → k.ts a cls d (endsOf D k.i) (stOf σ a k.i) H) ∧ (b = false → wMix K Wout D r cls d σ H)
/-- the name a clause gives -/
def NmOk (X : Cx) : Option Str → Option Nat → Prop
  | none, none => True
  | some n, some i => X.N[i]? = some n ∧ X.env.kindOf n = some .local
  | _, _ => False
inductive MixOk (X : Cx) : List ExceptHandler → List Cls → Prop
  | nil : MixOk X [] []
  | cons {x : Str} {k : Cls} {n : Option Str} {b₀ : Stmt} {su : List Stmt} {np p' : Pos} {hds : List ExceptHandler} {l : List Cls} (hc : Names X x k.c) (hn : NmOk X n k.i)
      (hsu : ∀ (a : Addr) (oe : Obj) (cls : Value) (d : Option Addr) (pn : List (Addr × Obj)), Zc cls d oe → (∃ vs, oe.data = .fields vs) → PSs (X.suite a ((a, oe) :: pn)) (b₀ :: su) (k.ts a cls d)) (r : MixOk X hds l) :
      MixOk X (.ExceptHandler (some (.Name x np)) n (b₀ :: su) p' :: hds) (k :: l)
section
variable {X : Cx} {body : List Stmt} {h₀ : ExceptHandler} {hds : List ExceptHandler} {l : List Cls} {pos : Pos} {tb : WX → TS} {Wout : WX}
theorem ps_mix (hs : X.stack = X.env :: X.outer) (hf : X.env.frame = some X.env.locals) (hN : X.N.Nodup) (tk : Takes X Wout)
    (hb : ∀ (W : WX) (pn : List (Addr × Obj)) (xe : Value → Shared → Prop), Takes (X.tr pn xe) W → PassesOwn (model X.prog X.w) X.A X.env xe → PSs (X.tr pn xe) body (tb W))
    (hh : MixOk X (h₀ :: hds) l) : PS X (.Try body (h₀ :: hds) [] [] pos) (fun D σ H => tb (wMix X.K Wout D l) D σ H) := by
  constructor
  intro pins s σ H D I red
  have okX := I.ok
  have frames : X.A.frames = some (X.env :: X.outer) := hs ▸ okX.frames
  refine wpAny_Try_except (wpAny_mono ((hb _ (X.pn ++ pins) (fun e s₁ => wpAny (model X.prog X.w) X.A (noteFrame e X.env) (fun _ s₂ => wpAny (model X.prog X.w) X.A (setFlight e none) (fun _ s₃ => wpAny (model X.prog X.w) X.A (handleBy e X.env (h₀ :: hds)) (SP X pins D) X.xe s₃) X.xe s₂) X.xe s₁)
    ?caught PassesOwn.looking).run [] s σ H D (I.toTry _) red) ?through fun _ _ z => z)
  case through =>
    intro f s1 q
    cases f with
    | next =>
      obtain ⟨_, _, J, z⟩ := q
      exact wpAny_execs_nil ⟨_, _, J.ofTry okX, z⟩
    | brk => obtain ⟨_, _, J, z⟩ := q; exact ⟨_, _, J.ofTry okX, z⟩
    | cont => obtain ⟨_, _, J, z⟩ := q; exact ⟨_, _, J.ofTry okX, z⟩
    | ret u => obtain ⟨_, _, _, J, r, z⟩ := q; exact ⟨_, _, _, J.ofTry okX, r, z⟩
  case caught =>
    rintro u s' ⟨a, B, sI, pins', σ1, H1, cls, d, rfl, Jt, nb, up, sky, na, os, ag, wish⟩
    have J := Jt.ofTry okX
    show wpAny (model X.prog X.w) X.A (noteFrame (.ref a) X.env) _ _ _
    refine Sky.land Zc.steady frames hf (hs ▸ sky) fun g fl upg => ?_
    have Jg : Inv X pins σ1 H1 { s' with heap := g } := J.landed nb fl.1 (up.trans upg) os ag
    obtain ⟨o1, v1, at1, zc1, dt1⟩ := fl.there
    have nofr : a ∉ frs (X.env :: X.outer) := fun hm => by
      obtain ⟨_, o2, at2, nf2⟩ := (fl.2.2.1).mem hm
      rw [at1] at at2
      cases at2
      exact nf2 _ dt1
    have nl : a ≠ X.env.locals := fun z => nofr (List.mem_filterMap.mpr ⟨X.env, by simp, by rw [hf, z]⟩)
    have nfs : a ∉ X.fs := fun hm => by
      obtain ⟨e, he, q⟩ := List.mem_filterMap.mp hm
      exact nofr (List.mem_filterMap.mpr ⟨e, by simp [he], q⟩)
    have suiteI := Jg.suite at1 dt1 na nl nfs
    have tyA : PySem.W.Looks (model X.prog X.w) g (typeOf (.ref a)) cls := fun A Q E t k q => wpAny_typeOf_ref (k _ _ at1) (zc1.1.symm ▸ q)
    have run : ∀ {hl : List ExceptHandler} {cl : List Cls}, MixOk X hl cl → wMix X.K Wout D cl cls d σ1 H1 → wpAny (model X.prog X.w) X.A (handleBy (.ref a) X.env hl) (SP X pins D) X.xe { s' with heap := g } := by
      intro hl cl hm
      induction hm with
      | nil =>
        intro out
        refine wpAny_handleBy_nil ?_
        obtain ⟨_, _, _, o3, v3, T3, oT3, ts3, at3, z3, dt3, i3, hr3⟩ := id fl
        unfold PySem.passOn
        refine wpAny_bind (wpAny_field at3 dt3 i3 ?_)
        rw [if_neg (by simp : ¬ ((Value.ref T3 == Value.none) = true))]
        have leave : wpAny (model X.prog X.w) X.A (setFlight (.ref a) X.env.frame) (fun _ s4 => wpAny (model X.prog X.w) X.A (throw (.ref a) : Sem Flow) (SP X pins D) X.xe s4) X.xe { s' with heap := g } := by
          rw [hf]
          refine HandSPX.setFlight_upZ fl fun g2 hg2 up2 => wpAny_throw (tk _ _ ⟨a, B, sI, pins, σ1, H1, cls, d, rfl, J, nb, (up.trans upg).trans up2, ?_, na, os, ag, out⟩)
          exact .inr (.inr (by rw [hs]; exact hg2))
        first
          | exact wpAny_bind (wpAny_pure (wpAny_bind leave))
          | exact wpAny_bind leave
      | @cons x k n b₀ su np p' hl2 cl2 hc hn hsu r ih =>
        rintro ⟨b, exm, yes, no⟩
        refine wpAny_handleBy_cons (codeAny_handlers_test ?_) (by intro q; cases q)
        have matches_ := PySem.W.exm_one (M := model X.prog X.w) Jg.kIn tyA exm
        have nameOf : ∀ {Q : Value → Shared → Prop} {E : Value → Shared → Prop}, Q k.c { s' with heap := g } → wpAny (model X.prog X.w) (X.A.mark (some (.ref a))) (eval (.Name x np) X.env) Q E { s' with heap := g } := fun {Q E} q => by
          obtain ⟨hg, hdbg, hm | ⟨hm, hv, hnn⟩⟩ := hc
          · exact ld_glob (X := X.suite a ((a, o1) :: (X.pn ++ pins))) suiteI hg hm q hdbg
          · exact ld_blt (X := X.suite a ((a, o1) :: (X.pn ++ pins))) suiteI hg hm hv q hnn hdbg
        refine nameOf (matches_.here ?_)
        cases b with
        | false =>
          show wpAny _ X.A (handleBy (.ref a) X.env hl2) _ _ _
          exact ih (no rfl)
        | true =>
          match n, k, hn, hsu, yes with
          | none, ⟨c, none, ts⟩, _, hsu, yes =>
            refine codeAny_handlers_suite (HandSPX.lands_againZ fl fun g2 fl2 up2 => ?_)
            have J2 : Inv X pins σ1 H1 { s' with heap := g2 } := J.landed nb fl2.1 ((up.trans upg).trans up2) os ag
            obtain ⟨o2, v2, at2, zc2, dt2⟩ := fl2.there
            refine wpAny_mono ((hsu a o2 cls d (X.pn ++ pins) zc2 ⟨_, dt2⟩).run [] _ _ H1 _ (J2.suite at2 dt2 na nl nfs) (yes rfl a na)) (fun f s6 q => ?_) fun _ _ z => z.elim
            cases f with
            | next => obtain ⟨_, _, S, z⟩ := q; exact ⟨_, _, S.unsuite okX, z⟩
            | brk => obtain ⟨_, _, S, z⟩ := q; exact ⟨_, _, S.unsuite okX, z⟩
            | cont => obtain ⟨_, _, S, z⟩ := q; exact ⟨_, _, S.unsuite okX, z⟩
            | ret u => obtain ⟨_, _, _, S, r6, z⟩ := q; exact ⟨_, _, _, S.unsuite okX, r6, z⟩
          | some n, ⟨c, some i, ts⟩, hn, hsu, yes =>
            obtain ⟨hi, hln⟩ := hn
            refine codeAny_handlers_suite_as (HandSPX.lands_againZ fl fun g2 fl2 up2 => ?_)
            have J2 : Inv X pins σ1 H1 { s' with heap := g2 } := J.landed nb fl2.1 ((up.trans upg).trans up2) os ag
            obtain ⟨o2, v2, at2, zc2, dt2⟩ := fl2.there
            refine store_ok (X := X.suite a ((a, o2) :: (X.pn ++ pins))) (v := .ref a) (J2.suite at2 dt2 na nl nfs) hN hi (.inl hln) rfl (fun s5 S5 => ?_) (.inr hln)
            refine wpAny_mono ((hsu a o2 cls d (X.pn ++ pins) zc2 ⟨_, dt2⟩).run [] s5 _ H1 _ S5 (yes rfl a na)) (fun f s6 q => ?_) fun _ _ z => z.elim
            have gone : ∀ {σ6 : L2.St} {H6 : Hp} {Q : Shared → Prop}, Inv (X.suite a ((a, o2) :: (X.pn ++ pins))) [] σ6 H6 s6 → (∀ s7, Inv X pins (σ6.set i none) H6 s7 → Q s7) →
                wpAny (model X.prog X.w) X.A (do bindName X.env n .none; unbindBehindTheSuite X.env n p') (fun _ s7 => Q s7) X.xe s6 := fun {σ6 H6 Q} S6 hq => gone_ok (S6.unsuite okX) hN hi hln hq
            cases f with
            | next => obtain ⟨_, _, S, z⟩ := q; exact gone S fun s7 J7 => ⟨_, _, J7, z⟩
            | brk => obtain ⟨_, _, S, z⟩ := q; exact gone S fun s7 J7 => ⟨_, _, J7, z⟩
            | cont => obtain ⟨_, _, S, z⟩ := q; exact gone S fun s7 J7 => ⟨_, _, J7, z⟩
            | ret u => obtain ⟨_, _, _, S, r6, z⟩ := q; exact gone S fun s7 J7 => ⟨_, _, _, J7, r6, z⟩
    exact run hh wish
end
end CH
end
section
namespace CH
open PySem PySem.Spec PyProof.Rows L2
section
variable {X : L2.Cx} {C fI : Addr} {fs : List Str}
/-- C(e, ..) -/
def tMkEx (C : Addr) (fs : List Str) (ta : TA) : L2.St → Hp → XK → Prop := fun σ H Q => ta σ H fun vs H1 => vs.length = fs.length ∧ ∀ d, H1 d = none → Q (.ref C) (some d) (upd H1 d (.xd (fs.zip vs)))
theorem pmk_ex {x : Str} {a : Expr} {es : List Expr} {ta : TA} {p pos : Pos} {k : Nat} (T : ExTxt X.prog X.K X.mg C fI fs) (hne : fs ≠ []) (hr : Room k X.A) (ha : PA X (a :: es) ta) (hg : Gl X x) (hm : X.mg x = some (.ref C)) (hdb : (x == ("__debug__" : Str)) = false)
    (he : starEach (a :: es) X.env = (false, eval a X.env) :: starEach es X.env) (hpl : (backTo pos (starEach es X.env)).any (·.1) = false) :
    PMk X (.Call (.Name x p) (a :: es) [] pos) (tMkEx C fs ta) := by
  intro pins s σ H Q I h
  refine wpAny_Call_Name_kw (ld_glob I hg hm (hd := hdb) ?_)
  refine PySem.W.callWith_K (h₀ := X.base) I.ok.mod.kin T.kC (thn (ha.run pos pins s σ H _ I h) fun us s1 hh => ?_) he hpl
  obtain ⟨vs, H1, I1, r1, hl, q1⟩ := hh
  refine ⟨I1.kIn, ?_⟩
  show wpAny _ _ (call (.ref C) us) _ _ _
  have hlim := I1.nolimit
  have lus : us.length = fs.length := r1.length.symm.trans hl
  have M : L2.Mod X.K X.mg s1.heap := by
    obtain ⟨mb, b1, b2⟩ := I1.mod.blt
    exact ⟨I1.kIn, I1.mod.glob.keeps I1.bk, ⟨mb, b1.keeps I1.bk, b2⟩, hlim⟩
  obtain ⟨hp, g, dr, tk, os⟩ := s1
  refine wpAny_call (ex_made T hne lus M (by have := hr.dp; omega) fun h' tk' e d Mk => ?_)
  show MkP X pins σ Q (.ref e) ⟨h', g, dr, tk', os⟩
  obtain ⟨t1, hoe⟩ := Mk.obj
  have hns := Mk.ns
  obtain ⟨G', g1, g2⟩ := restrict h' fun b => decide (b ≠ e)
  have gk : ∀ b, b ≠ e → G'.get? b = h'.get? b := fun b hb => g1 b (decide_eq_true hb)
  have ge : G'.get? e = none := g2 e (by simp)
  have old : ∀ b o, hp.get? b = some o → G'.get? b = some o := fun b o q => (gk b (Nat.ne_of_lt (Nat.lt_of_lt_of_le (Heap.lt_size q) Mk.new))).trans (Mk.keep b o q)
  have rel : ∀ f, RelO ((fs.zip vs).lookup f) (stF (fun _ => none) (fs.zip us) f) := by
    have := relO_st (l0 := []) (m0 := fun _ => none) T.nd hl r1 (fun _ => trivial) (fun _ _ => rfl)
    simpa using this
  have ob : ObjOk X.prog X.w (upd H1 d (.xd (fs.zip vs))) G' d (.xd (fs.zip vs)) := ⟨_, hns.at (fun o q => (gk d Mk.dne).trans q), rel⟩
  have J : Inv X pins σ (upd H1 d (.xd (fs.zip vs))) ⟨G', g, dr, tk', os⟩ := I1.laid (t' := tk') old Mk.dbig ob
  refine ⟨e, _, _, ⟨G', g, dr, tk', os⟩, _, .ref C, some d, rfl, J, fun b o q => ?_, ge, hoe, ⟨rfl, rfl⟩, rfl, rfl, ?_, rfl, I1.bare, raises_own T.exC T.tyC, q1 d (I1.hok.fresh Mk.dbig)⟩
  · by_cases hb : b = e
    · have q' : G'.get? b = some o := q
      rw [hb, ge] at q'; cases q'
    · exact (gk b hb).symm.trans q
  · rw [upd_ne (Ne.symm Mk.dne)]
    exact I1.hok.fresh Mk.new
/-- e.f, e the exception that the suite holds (at a; its class cls, its dict d) -/
def tByEx (C : Addr) (f : Str) (a : Addr) (cls : Value) (d : Option Addr) (te : TE) : TE := fun σ H Q => te σ H fun x H1 => x = .ref a ∧ cls = .ref C ∧ ∃ (dd : Addr) (fl : List (Str × V)) (v : V), d = some dd ∧ H1 dd = some (.xd fl) ∧ fl.lookup f = some v ∧ Q v H1
theorem pe_byEx {a : Addr} {oe : Obj} {cls : Value} {d : Option Addr} {pn : List (Addr × Obj)} {e : Expr} {te : TE} {pos : Pos} {f : Str} (T : ExTxt X.prog X.K X.mg C fI fs) (hf : f ∈ fs) (hz : Zc cls d oe) (hfd : ∃ vs, oe.data = .fields vs) (he : PE (X.suite a ((a, oe) :: pn)) e te)
    (hb : attributeBase e f X.env (eval e X.env) = eval e X.env) :
    PE (X.suite a ((a, oe) :: pn)) (.Attribute e f pos) (tByEx C f a cls d te) := by
  refine ⟨fun pins s σ H Q I h => ?_⟩
  refine attr_of hb (thn (he.run pins s σ H _ I h) fun u s1 hh => ?_)
  obtain ⟨x, H1, I1, rx, ex, ec, dd, fl, v, ed, ea, el, q⟩ := hh
  subst ex
  obtain rfl : u = Value.ref a := rx
  subst ec
  subst ed
  obtain ⟨ha, _⟩ := I1.pin (a, oe) (List.mem_append_left _ List.mem_cons_self)
  obtain ⟨vs, hd⟩ := hfd
  have hx : ObjOk X.prog X.w H1 s1.heap dd (.xd fl) := I1.hok dd _ ea
  obtain ⟨mA, hns, hr⟩ := hx
  obtain ⟨od, ho, hl⟩ := lookIn_ns hns
  obtain ⟨u, hu, ru⟩ := RelO.some_of (v := v) (o := mA f) (by rw [← el]; exact hr f)
  have J : PySem.W.InstAt s1.heap a oe C (some od) := ⟨ha, hz.1, by unfold PySem.W.notCls; rw [hd] <;> rfl, by rw [hz.2]; exact ho⟩
  exact HandSPX.exc_get I1.kIn J T.ga T.gg T.exC (PySem.W.findObj_own T.hdC (T.noN f hf) rfl (by rw [hl, hu])) (handed_of ru) ⟨v, H1, I1.tok _, ru, q⟩
end
end CH
end
section
namespace CH
open PySem L2 Evl PyProof.Rows

/-- what the checker knows of a place in the text -/
structure Sg where
  N : List Str
  sc : Scope
  fn : Str → Bool
  bn : List Str
  name : Nat → Str
  ar : Nat → Option Nat
  dcs : List (Str × List (Str × Int))
  exs : List (Str × List Str × List Nat)
def Sg.blk (g : Sg) (scope : Scope) : Sg := { g with sc := relS scope g.sc, fn := fun x => scope.names.lookup x == some .cell }
def constB : D → Expr → Bool
  | .int i, .Constant (.int j) _ _ => decide (i = j)
  | .bl i, .Constant (.bool j) _ _ => i == j
  | .str i, .Constant (.str j) _ _ => decide (i = j)
  | .non, .Constant .none _ _ => true
  | _, _ => false
def ownOf (N : List Str) (vs : List Nat) : List (Str × Nat) := vs.map fun i => (N.getD i "", i)
def blkB (N : List Str) (sc scope : Scope) (own : List (Str × Nat)) : Bool :=
  decide (scope.kind = .function) && (scope.names.all fun y => decide (scope.names.lookup y.1 = some y.2)) && (own.all fun p => decide (N[p.2]? = some p.1)) &&
  (scope.names.all fun y => !decide (y.2 = .free) || (decide (sc.names.lookup y.1 = some .cell) || decide (sc.names.lookup y.1 = some .free))) &&
  (scope.names.all fun y => !(decide (y.2 = .local) || decide (y.2 = .cell)) || ((own.map (·.1)).contains y.1 || !N.contains y.1))
theorem blk_ok {N : List Str} {sc scope : Scope} {own : List (Str × Nat)} (h : blkB N sc scope own = true) : BlkOk N sc scope own := by
  unfold blkB at h
  simp only [Bool.and_eq_true, List.all_eq_true] at h
  obtain ⟨⟨⟨⟨h1, h2⟩, h3⟩, h4⟩, h5⟩ := h
  refine ⟨of_decide_eq_true h1, fun y hy => of_decide_eq_true (h2 y hy), fun p hp => of_decide_eq_true (h3 p hp), fun y hy e => ?_, fun y hy e => ?_⟩
  · have := h4 y hy
    simpa [e] using this
  · have := h5 y hy
    simp only [Bool.or_eq_true, Bool.not_eq_true', Bool.or_eq_false_iff, decide_eq_false_iff_not, List.contains_iff_mem] at this
    rcases this with ⟨z1, z2⟩ | z | z
    · rcases e with e | e
      · exact absurd e z1
      · exact absurd e z2
    · exact .inl z
    · exact .inr (by simpa using z)
def notBlkB : Expr → Bool
  | .Starred .. => false
  | _ => true
def kSlc (f : Expr → Bool) (p q : Option Expr → Bool) : Expr → Bool
  | .Subscript x (.Slice l u none _) _ => f x && p l && q u
  | _ => false
def kTup (f : List Expr → Bool) : Expr → Bool
  | .Tuple es _ _ => nostar es && f es
  | _ => false
def kLst (f : List Expr → Bool) : Expr → Bool
  | .List es _ => nostar es && f es
  | _ => false
def kAnd (f : List Expr → Bool) : Expr → Bool
  | .BoolOp .And es _ => f es
  | _ => false
def kOr (f : List Expr → Bool) : Expr → Bool
  | .BoolOp .Or es _ => f es
  | _ => false
def kNot (f : Expr → Bool) : Expr → Bool
  | .UnaryOp .Not x _ => f x
  | _ => false
def kIte (t a b : Expr → Bool) : Expr → Bool
  | .IfExp c x y _ => t c && a x && b y
  | _ => false
def kChain (o1 o2 : Cm) (a b c : Expr → Bool) : Expr → Bool
  | .Compare x [p, q] [y, z] _ => decide (p = o1.ast) && decide (q = o2.ast) && !lastMarks [p, q] [y, z] && a x && b y && c z
  | _ => false
def kCall (g : Sg) (f : Nat) (as : List Expr → Bool) : Expr → Bool
  | .Call (.Name x _) es [] _ => decide (x = g.name f) && glB g.sc x && !(x == ("__debug__" : Str)) && !es.isEmpty && nostar es && decide (g.ar f = some es.length) && as es
  | _ => false
def kMu (g : Sg) (m : Mu) (i : Nat) (p : List Str) (as : List Expr → Bool) (e : Expr) : Bool := match p, muShape m e with
  | [], some (o, es) => slotB g.N g.sc i o && as es
  | _, _ => false
def kLc (g : Sg) (tg : Tg) (it : Expr → Expr → Bool) (cs : Scope → List Expr → Bool) (el : Scope → Expr → Bool) : Expr → Bool
  | .ListComp x [⟨tgE, iter, ifs, 0⟩] scope _ => notSetB iter && blkB g.N g.sc scope (ownOf g.N tg.slots) && tgB g.N (relS scope g.sc) (fun x => scope.names.lookup x == some .cell) tg tgE && oneTest ifs && it tgE iter && cs scope ifs && el scope x
  | _ => false
def kLc2 (g : Sg) (tg tg1 : Tg) (it : Expr → Expr → Bool) (cs : Scope → List Expr → Bool) (it1 : Scope → Expr → Expr → Bool) (cs1 : Scope → List Expr → Bool) (el : Scope → Expr → Bool) : Expr → Bool
  | .ListComp x [⟨tgE, iter, ifs, 0⟩, ⟨tgE1, iter1, ifs1, 0⟩] scope _ => notSetB iter && notSetB iter1 && blkB g.N g.sc scope (ownOf g.N (tg.slots ++ tg1.slots)) && tgB g.N (relS scope g.sc) (fun x => scope.names.lookup x == some .cell) tg tgE && tgB g.N (relS scope g.sc) (fun x => scope.names.lookup x == some .cell) tg1 tgE1 && oneTest ifs && oneTest ifs1 && it tgE iter && cs scope ifs && it1 scope tgE1 iter1 && cs1 scope ifs1 && el scope x
  | _ => false
def kRng1 (g : Sg) (a : Expr → Bool) : Expr → Bool
  | .Call (.Name x _) [y] [] _ => decide (x = ("range" : Str)) && glB g.sc x && g.bn.contains x && !isStar y && a y
  | _ => false
def kRng2 (g : Sg) (a b : Expr → Bool) : Expr → Bool
  | .Call (.Name x _) [y, z] [] _ => decide (x = ("range" : Str)) && glB g.sc x && g.bn.contains x && !isStar y && !isStar z && a y && b z
  | _ => false
def kZip (g : Sg) (a b : Expr → Bool) : Expr → Bool
  | .Call (.Name x _) [y, z] [] _ => decide (x = ("zip" : Str)) && glB g.sc x && g.bn.contains x && !isStar y && !isStar z && a y && b z
  | _ => false
def kEnm (g : Sg) (a : Expr → Bool) : Expr → Bool
  | .Call (.Name x _) [y] [] _ => decide (x = ("enumerate" : Str)) && glB g.sc x && g.bn.contains x && !isStar y && a y
  | _ => false
def opKB (dcs : List (Str × List (Str × Int))) : Op → Bool
  | .kin x _ kvs => decide (dcs.lookup x = some kvs)
  | .kget x kvs => decide (dcs.lookup x = some kvs)
  | _ => true
def kOp (g : Sg) (o : Op) (f : List Expr → Bool) (e : Expr) : Bool := match opShape g.bn g.sc o e with
  | some es => opKB g.dcs o && f es
  | none => false
def isCmp : CE → Bool
  | .op (.cmp _) _ => true
  | .op (.kin ..) _ => true
  | .chain .. => true
  | _ => false
mutual
def chkE (g : Sg) : CE → Expr → Bool
  | .c d, e => constB d e
  | .v i, e => slotB g.N g.sc i e
  | .mv i, e => slotB g.N g.sc i e
  | .take i, e => slotB g.N g.sc i e
  | .op o as, e => kOp g o (fun es => chkOs g as es) e
  | .slc o lo hi, e => kSlc (fun x => chkO g o x) (fun l => chkB g lo l) (fun u => chkB g hi u) e
  | .tup cs, e => kTup (fun es => chkEs g cs es) e
  | .lst cs, e => kLst (fun es => chkEs g cs es) e
  | .and cs, e => kAnd (fun es => chkEs g cs es) e
  | .or cs, e => kOr (fun es => chkEs g cs es) e
  | .not c, e => kNot (fun x => chkE g c x) e
  | .ite t a b, e => kIte (fun x => chkT g t x) (fun x => chkE g a x) (fun x => chkE g b x) e
  | .chain o1 o2 a b c, e => kChain o1 o2 (fun x => chkE g a x) (fun x => chkE g b x) (fun x => chkE g c x) e
  | .call f as, e => kCall g f (fun es => chkAs g as es) e
  | .mu m i p as, e => kMu g m i p (fun es => chkEs g as es) e
  | .fz c, e => chkE g c e
  | .lc elt tg it cs, e => kLc g tg (fun t x => tgFits it t && chkI g it x) (fun sc es => chkTs (g.blk sc) cs es) (fun sc x => chkE (g.blk sc) elt x) e
  | .lc2 elt tg it cs tg1 it1 cs1, e => kLc2 g tg tg1 (fun t x => tgFits it t && chkI g it x) (fun sc es => chkTs (g.blk sc) cs es) (fun sc t x => tgFits it1 t && chkI (g.blk sc) it1 x) (fun sc es => chkTs (g.blk sc) cs1 es) (fun sc x => chkE (g.blk sc) elt x) e
def chkEs (g : Sg) : CEs → List Expr → Bool
  | .nil, [] => true
  | .cons c r, e :: es => chkE g c e && chkEs g r es
  | _, _ => false
def chkO (g : Sg) : CO → Expr → Bool
  | .e c, e => chkE g c e
  | .bor i p, e => pathB g.N g.sc i p e
def chkOs (g : Sg) : COs → List Expr → Bool
  | .nil, [] => true
  | .cons c r, e :: es => chkO g c e && chkOs g r es
  | _, _ => false
def chkB (g : Sg) : CB → Option Expr → Bool
  | .no, none => true
  | .at c, some e => chkE g c e
  | _, _ => false
def chkAs (g : Sg) : CAs → List Expr → Bool
  | .nil, [] => true
  | .val c r, e :: es => chkE g c e && chkAs g r es
  | .ref i r, e :: es => slotB g.N g.sc i e && chkAs g r es
  | _, _ => false
def chkT (g : Sg) : CT → Expr → Bool
  | .and ts, e => kAnd (fun es => !es.isEmpty && chkTs g ts es) e
  | .or ts, e => kOr (fun es => !es.isEmpty && chkTs g ts es) e
  | .not t, e => kNot (fun x => chkT g t x) e
  | .val (.bor i p), e => pathB g.N g.sc i p e
  | .val (.e c), e => chkE g c e && (plainTest e || isCmp c)
def chkTs (g : Sg) : CTs → List Expr → Bool
  | .nil, [] => true
  | .cons c r, e :: es => chkT g c e && chkTs g r es
  | _, _ => false
def chkI (g : Sg) : CI → Expr → Bool
  | .seq o, e => chkO g o e
  | .rng1 a, e => kRng1 g (fun x => chkE g a x) e
  | .rng2 a b, e => kRng2 g (fun x => chkE g a x) (fun x => chkE g b x) e
  | .enm (.e a), e => kEnm g (fun x => chkE g a x) e
  | .enm (.bor _ _), _ => false
  | .zip (.e a) (.e b), e => kZip g (fun x => chkE g a x) (fun x => chkE g b x) e
  | .zip _ _, _ => false
end
/-- an exception class of the text: its name, its fields, the classes that it stands under -/
abbrev ExC := Str × List Str × List Nat
def ExOk (prog : Program) (K : PySem.W.Frag) (mg : Str → Option Value) (T : Tab) (exs : List ExC) (c : Nat) (k : ExC) : Prop := ∃ C, T.exA c = some C ∧ T.exF c = k.2.1 ∧ mg k.1 = some (.ref C) ∧ (k.2.1 ≠ [] → ∃ fI, ExTxt prog K mg C fI k.2.1) ∧
  ∀ c' k', exs[c']? = some k' → ∃ C', T.exA c' = some C' ∧ PySem.W.exmOne K (.ref C') (.ref C) = some (k'.2.2.contains c)
/-- a place in a running body -/
structure Fits (g : Sg) (X : Cx) (T : Tab) (Φ : Phi) (W : WX) (k : Nat) : Prop where
  n : X.N = g.N
  nd : X.N.Nodup
  sc : X.env.scope = g.sc
  fn : X.fn = g.fn
  calm : X.calm = true
  room : Room k X.A
  gd : X.A.guards = some []
  bt : T.bn = g.bn
  bn : ∀ x ∈ T.bn, X.mg x = none
  tk : Takes X W
  dk : ∀ x kvs, g.dcs.lookup x = some kvs → DctOk X x kvs
  ex : ∀ c k, g.exs[c]? = some k → ExOk X.prog X.K X.mg T g.exs c k
  exR : ∀ c C, T.exA c = some C → ∃ k, g.exs[c]? = some k
  fs : ∀ f n, g.ar f = some n → ∃ a fd ps, ps.length = n ∧ FnG X.prog X.w X.K X.mg X.base k a fd ps (spF X.K T (Φ f) ps.length) ∧ X.mg (g.name f) = some (.ref a) ∧ PySem.W.keepIn X.K (.ref a) = true ∧ Binds X.K fd ps [] ∧ ∀ us, Φ f us ≠ .no → us.length = n
theorem no_takes {X : Cx} : Takes X W0 := fun u s' ⟨_, _, _, _, _, _, _, _, _, _, _, _, _, _, _, _, w⟩ => False.elim w
theorem Fits.blk {g : Sg} {X : Cx} {T : Tab} {Φ : Phi} {W : WX} {k : Nat} (F : Fits g X T Φ W k) (s : Shared) (H : Hp) (scope : Scope) (C : Addr) (cl : List (Str × Addr)) (fp : List Addr) : Fits (g.blk scope) (blkC' X s H scope C cl fp) T Φ W0 k :=
  ⟨F.n, F.nd, blk_scope F.sc, rfl, F.calm, F.room, F.gd, F.bt, F.bn, no_takes, F.dk, F.ex, F.exR, F.fs⟩
theorem Fits.opK {g : Sg} {X : Cx} {T : Tab} {Φ : Phi} {W : WX} {k : Nat} (F : Fits g X T Φ W k) {o : Op} (h : opKB g.dcs o = true) : OpK X o := by
  cases o <;> first | trivial | exact F.dk _ _ (of_decide_eq_true h)
theorem Fits.hu {g : Sg} {X : Cx} {T : Tab} {Φ : Phi} {W : WX} {k : Nat} (F : Fits g X T Φ W k) : X.A.units + 66 < cLine := by
  have := F.room.un
  omega
end CH
end
section
namespace CH
open PySem L2 Evl PyProof.Rows

section
variable {X : Cx} {T : Tab} {W : WX} {e : Expr} {es : List Expr} {ρ : Env}
theorem se_c {d : D} (h : constB d e = true) : SE X T W e ρ (.ok (.sh d, ρ)) := by
  unfold constB at h
  split at h <;> first | contradiction | skip
  · cases of_decide_eq_true h; exact se_val pe_int fun _ => .int _
  · cases eq_of_beq h; exact se_val pe_bl fun _ => .bl _
  · cases of_decide_eq_true h; exact se_val pe_str fun _ => .str _
  · exact se_val pe_non fun _ => .non
theorem se_fz {re : R (OT × Env)} (h : SE X T W e ρ re) : SE X T W e ρ (re.bind fun p => .ok (.sh p.1.toD, p.2)) := fun L σ H Hs fp Q hs k => by
  rw [cont_bind] at k
  refine h L σ H Hs fp Q hs (k.imp (fun p k v H1 Hs1 fp1 ft p1 => ?_) fun _ _ x => x)
  obtain ⟨q, r⟩ := p1.freeze
  exact k v H1 (frz Hs1 H1 ft) fp1 [] (Pst.post q (Post.val q.st r))
theorem se_no : SE X T W e ρ .no := fun _ _ _ _ _ _ _ k => k.elim
theorem own_snd (N : List Str) (vs : List Nat) : (ownOf N vs).map (·.2) = vs := by
  unfold ownOf
  rw [List.map_map]
  exact List.map_id _
theorem bind_eq2 {α β γ : Type} {r : R α} {f g : α → R γ} (h : ∀ a, f a = g a) : r.bind f = r.bind g := by cases r <;> simp [R.bind, h]
end
theorem and_b {a b : Bool} (h : (a && b) = true) : a = true ∧ b = true := by simpa using h
theorem call_fin {X : Cx} {T : Tab} {W : WX} {e : Expr} {ρ : Env} {r r' : R (OT × Env)} (h : SE X T W e ρ r) (q : r = r') : SE X T W e ρ r' := q ▸ h
theorem sos_fin {X : Cx} {T : Tab} {W : WX} {es : List Expr} {ρ : Env} {r r' : R (List OT × Env)} (h : SOs X T W es ρ r) (q : r = r') : SOs X T W es ρ r' := q ▸ h
variable {T : Tab} {Φ : Phi} {pl : List Nat}
mutual
theorem snE : ∀ (c : CE) {g : Sg} {X : Cx} {W : WX} {k : Nat} {e : Expr} {ρ : Env}, Fits g X T Φ W k → chkE g c e = true → SE X T W e ρ (evE Φ pl c ρ)
  | .c d, g, X, W, k, e, ρ, F, h => by rw [evE]; exact se_c (by simpa [chkE] using h)
  | .v i, g, X, W, k, e, ρ, F, h => by rw [evE]; exact se_v F.sc (by rw [F.n]; simpa [chkE] using h)
  | .mv i, g, X, W, k, e, ρ, F, h => by rw [evE]; exact se_mv F.sc (by rw [F.n]; simpa [chkE] using h)
  | .take i, g, X, W, k, e, ρ, F, h => by rw [evE]; exact se_take F.sc (by rw [F.n]; simpa [chkE] using h)
  | .op o as, g, X, W, k, e, ρ, F, h => by
    rw [evE]
    simp only [chkE] at h
    unfold kOp at h
    split at h
    · rename_i es hq
      have h1 := and_b h
      exact se_op (F.opK h1.1) F.sc F.bn F.calm F.gd F.hu (by rw [F.bt]; exact hq) (snOs as F h1.2)
    · cases h
  | .fz c, g, X, W, k, e, ρ, F, h => by rw [evE]; exact se_fz (snE c F (by simpa [chkE] using h))
  | .slc (.e x) lo hi, g, X, W, k, e, ρ, F, h => by
    rw [evE]
    simp only [chkE] at h
    unfold kSlc at h
    split at h
    · have h1 := and_b h
      have h2 := and_b h1.1
      refine call_fin (se_slc (sg_e (snE x F (by simpa [chkO] using h2.1)) fun ρ1 => sg_b2 (fun ρ => snB lo F h2.2) (fun ρ => snB hi F h1.2))) ?_
      unfold slcR
      cases evE Φ pl x ρ with
      | ok p => simp only [R.bind]; cases b2 (fun ρ => evB Φ pl lo ρ) (fun ρ => evB Φ pl hi ρ) p.2 <;> rfl
      | ex => rfl
      | no => rfl
    · cases h
  | .slc (.bor i p) lo hi, g, X, W, k, e, ρ, F, h => by
    rw [evE]
    simp only [chkE] at h
    unfold kSlc at h
    split at h
    · have h1 := and_b h
      have h2 := and_b h1.1
      split
      · rename_i t ht
        refine call_fin (se_slc (sg_bor F.sc (by rw [F.n]; simpa [chkO] using h2.1) ht (sg_b2 (fun ρ => snB lo F h2.2) (fun ρ => snB hi F h1.2)))) ?_
        unfold slcR
        cases b2 (fun ρ => evB Φ pl lo ρ) (fun ρ => evB Φ pl hi ρ) (lock ρ i) <;> rfl
      · exact se_no
    · cases h
  | .tup cs, g, X, W, k, e, ρ, F, h => by
    rw [evE]
    simp only [chkE] at h
    unfold kTup at h
    split at h
    · have h1 := and_b h
      exact se_tup h1.1 (snEs cs F h1.2)
    · cases h
  | .lst cs, g, X, W, k, e, ρ, F, h => by
    rw [evE]
    simp only [chkE] at h
    unfold kLst at h
    split at h
    · have h1 := and_b h
      exact se_lst h1.1 (snEs cs F h1.2)
    · cases h
  | .and cs, g, X, W, k, e, ρ, F, h => by
    rw [evE]
    simp only [chkE] at h
    unfold kAnd at h
    split at h
    · exact snAnd cs F h
    · cases h
  | .or cs, g, X, W, k, e, ρ, F, h => by
    rw [evE]
    simp only [chkE] at h
    unfold kOr at h
    split at h
    · exact snOr cs F h
    · cases h
  | .not c, g, X, W, k, e, ρ, F, h => by
    rw [evE]
    simp only [chkE] at h
    unfold kNot at h
    split at h
    · exact se_not (snE c F h)
    · cases h
  | .ite t a b, g, X, W, k, e, ρ, F, h => by
    rw [evE]
    simp only [chkE] at h
    unfold kIte at h
    split at h
    · have h1 := and_b h
      have h2 := and_b h1.1
      exact se_ite (snT t F h2.1) (fun ρ1 => snE a F h2.2) (fun ρ1 => snE b F h1.2)
    · cases h
  | .chain o1 o2 a b c, g, X, W, k, e, ρ, F, h => by
    rw [evE]
    simp only [chkE] at h
    unfold kChain at h
    split at h
    · have h1 := and_b h
      have h2 := and_b h1.1
      have h3 := and_b h2.1
      have h4 := and_b h3.1
      have h5 := and_b h4.1
      cases of_decide_eq_true h5.1
      cases of_decide_eq_true h5.2
      exact se_chain F.hu (by simpa using h4.2) (snE a F h3.2) (fun ρ1 => snE b F h2.2) (fun ρ1 => snE c F h1.2)
    · cases h
  | .call f as, g, X, W, k, e, ρ, F, h => by
    rw [evE]
    simp only [chkE] at h
    unfold kCall at h
    split at h
    · have h1 := and_b h
      have h2 := and_b h1.1
      have h3 := and_b h2.1
      have h4 := and_b h3.1
      have h5 := and_b h4.1
      have h6 := and_b h5.1
      obtain ⟨a, fd, ps, q1, q2, q3, q4, q5, q6⟩ := F.fs f _ (of_decide_eq_true h2.2)
      cases of_decide_eq_true h6.1
      refine se_call (ρ := ρ) F.tk F.gd q2 F.room (gl_of F.sc h6.2) q3 q4 q5 (by rw [q1]; exact q6) (by simpa using h4.2) h3.2 (by simpa using h5.2) (snAs as F h1.2)
    · cases h
  | .mu m i [] as, g, X, W, k, e, ρ, F, h => by
    rw [evE]
    simp only [chkE] at h
    unfold kMu at h
    split at h
    · rename_i o es hq
      have h1 := and_b h
      exact se_mu F.sc hq (by rw [F.n]; exact h1.1) (snEs as F h1.2)
    · cases h
  | .mu m i (_ :: _) as, g, X, W, k, e, ρ, F, h => by rw [evE]; exact se_no
  | .lc elt tg it cs, g, X, W, k, e, ρ, F, h => by
    rw [evE]
    simp only [chkE] at h
    unfold kLc at h
    split at h
    · have h1 := and_b h
      have h2 := and_b h1.1
      have h3 := and_b h2.1
      have h4 := and_b h3.1
      have h5 := and_b h4.1
      have h6 := and_b h5.1
      have h33 := and_b h3.2
      obtain ⟨w0, w2⟩ := snI it F h33.2
      have w1 := w0 _ h33.1
      refine se_lc (bk := backI it ρ) (pl := pl) F.nd F.sc F.calm w1 h6.1 (w2 ρ) (by rw [F.n]; exact blk_ok h6.2) (by rw [own_snd]) (by rw [F.n]; exact h5.2) h4.2
        (fun s H C cl fp ρ => snTs cs (F.blk s H _ C cl fp) h4.2 h2.2) (fun s H C cl fp ρ => snE elt (F.blk s H _ C cl fp) h1.2)
    · cases h
  | .lc2 elt tg it cs tg1 it1 cs1, g, X, W, k, e, ρ, F, h => by
    simp only [chkE] at h
    unfold kLc2 at h
    split at h
    · simp only [Bool.and_eq_true] at h
      obtain ⟨⟨⟨⟨⟨⟨⟨⟨⟨⟨⟨h1, h2⟩, h3⟩, h4⟩, h5⟩, h6⟩, h7⟩, h8⟩, h9⟩, h10⟩, h11⟩, h12⟩ := h
      have h88 := h8
      have h100 := h10
      obtain ⟨w0, w2⟩ := snI it F h88.2
      have w1 := w0 _ h88.1
      obtain ⟨t, t1, _, t3⟩ := se_lc2 (ρ := ρ) (T := T) (W := W) (c1 := it1) (bk := backI it ρ) (bk1 := fun ρ ρ' => backI it1 ρ ρ') (pl := pl) F.nd F.sc F.calm w1 h1 h2 (w2 ρ) (by rw [F.n]; exact blk_ok h3) (by rw [own_snd]) (by rw [F.n]; exact h4) (by rw [F.n]; exact h5) h6 h7
        (fun s H C cl fp => (snI it1 (F.blk s H _ C cl fp) h100.2).1 _ h100.1) (fun s H C cl fp ρ => (snI it1 (F.blk s H _ C cl fp) h100.2).2 ρ) (fun s H C cl fp ρ => snTs cs (F.blk s H _ C cl fp) h6 h9) (fun s H C cl fp ρ => snTs cs1 (F.blk s H _ C cl fp) h7 h11) (fun s H C cl fp ρ => snE elt (F.blk s H _ C cl fp) h12)
      rw [evE]
      exact fun L σ H Hs fp Q h k => wE_of t1 (t3 L σ H Hs fp Q h k)
    · cases h
theorem snAnd : ∀ (c : CEs) {g : Sg} {X : Cx} {W : WX} {k : Nat} {es : List Expr} {pos : Pos} {ρ : Env}, Fits g X T Φ W k → chkEs g c es = true → SE X T W (.BoolOp .And es pos) ρ (evAnd Φ pl c ρ)
  | .nil, g, X, W, k, es, pos, ρ, F, h => by rw [evAnd]; exact se_no
  | .cons c .nil, g, X, W, k, es, pos, ρ, F, h => by
    rw [evAnd]
    cases es with
    | nil => simp [chkEs] at h
    | cons e es =>
      rw [chkEs] at h
      have h1 := and_b h
      cases es with
      | nil => exact se_one (snE c F h1.1)
      | cons => simp [chkEs] at h1
  | .cons c (.cons d r), g, X, W, k, es, pos, ρ, F, h => by
    rw [evAnd]
    · cases es with
      | nil => simp [chkEs] at h
      | cons e es =>
        rw [chkEs] at h
        have h1 := and_b h
        cases es with
        | nil => simp [chkEs] at h1
        | cons f es => exact se_and (snE c F h1.1) fun ρ1 => snAnd (.cons d r) F h1.2
    · exact fun z => CEs.noConfusion z
theorem snOr : ∀ (c : CEs) {g : Sg} {X : Cx} {W : WX} {k : Nat} {es : List Expr} {pos : Pos} {ρ : Env}, Fits g X T Φ W k → chkEs g c es = true → SE X T W (.BoolOp .Or es pos) ρ (evOr Φ pl c ρ)
  | .nil, g, X, W, k, es, pos, ρ, F, h => by rw [evOr]; exact se_no
  | .cons c .nil, g, X, W, k, es, pos, ρ, F, h => by
    rw [evOr]
    cases es with
    | nil => simp [chkEs] at h
    | cons e es =>
      rw [chkEs] at h
      have h1 := and_b h
      cases es with
      | nil => exact se_one (snE c F h1.1)
      | cons => simp [chkEs] at h1
  | .cons c (.cons d r), g, X, W, k, es, pos, ρ, F, h => by
    rw [evOr]
    · cases es with
      | nil => simp [chkEs] at h
      | cons e es =>
        rw [chkEs] at h
        have h1 := and_b h
        cases es with
        | nil => simp [chkEs] at h1
        | cons f es => exact se_or (snE c F h1.1) fun ρ1 => snOr (.cons d r) F h1.2
    · exact fun z => CEs.noConfusion z
theorem snEs : ∀ (c : CEs) {g : Sg} {X : Cx} {W : WX} {k : Nat} {es : List Expr} {ρ : Env}, Fits g X T Φ W k → chkEs g c es = true → SEs X T W es ρ (evEs Φ pl c ρ)
  | .nil, g, X, W, k, es, ρ, F, h => by
    rw [evEs]
    cases es with
    | nil => exact ses_nil
    | cons => simp [chkEs] at h
  | .cons c r, g, X, W, k, es, ρ, F, h => by
    rw [evEs]
    cases es with
    | nil => simp [chkEs] at h
    | cons e es =>
      rw [chkEs] at h
      have h1 := and_b h
      exact ses_cons (snE c F h1.1) fun ρ1 => snEs r F h1.2
theorem snO : ∀ (c : CO) {g : Sg} {X : Cx} {W : WX} {k : Nat} {e : Expr} {ρ : Env}, Fits g X T Φ W k → chkO g c e = true → SO X T W e ρ (evO Φ pl c ρ)
  | .e c, g, X, W, k, e, ρ, F, h => by rw [evO]; exact so_e (snE c F (by simpa [chkO] using h))
  | .bor i p, g, X, W, k, e, ρ, F, h => by rw [evO]; exact so_bor F.sc (by rw [F.n]; simpa [chkO] using h)
theorem snOs : ∀ (c : COs) {g : Sg} {X : Cx} {W : WX} {k : Nat} {es : List Expr} {ρ : Env}, Fits g X T Φ W k → chkOs g c es = true → SOs X T W es ρ (evOs Φ pl c ρ)
  | .nil, g, X, W, k, es, ρ, F, h => by
    rw [evOs]
    cases es with
    | nil => exact sos_nil
    | cons => simp [chkOs] at h
  | .cons (.e c) r, g, X, W, k, es, ρ, F, h => by
    rw [evOs]
    cases es with
    | nil => simp [chkOs] at h
    | cons e es =>
      rw [chkOs] at h
      have h1 := and_b h
      have := sos_cons (sg_e (snE c (ρ := ρ) F (by simpa [chkO] using h1.1)) fun ρ1 => show SG X T W (fun σ H Q => wEs X es σ H Q) (fun a b Hs H => Opds X.K T Hs H a b) ρ1 (evOs Φ pl r ρ1) from snOs r F h1.2)
      have q : (((evE Φ pl c ρ).bind fun p => (evOs Φ pl r p.2).bind fun q => CH.R.ok ((p.1, q.1), q.2)).bind fun p => CH.R.ok (p.1.1 :: p.1.2, p.2)) = ((evE Φ pl c ρ).bind fun (t, ρ1) => (evOs Φ pl r ρ1).bind fun (ts, ρ2) => .ok (t :: ts, ρ2)) := by
        cases evE Φ pl c ρ with
        | ok p => simp only [R.bind]; cases evOs Φ pl r p.2 <;> rfl
        | ex => rfl
        | no => rfl
      rw [← q]
      exact this
  | .cons (.bor i p) r, g, X, W, k, es, ρ, F, h => by
    rw [evOs]
    cases es with
    | nil => simp [chkOs] at h
    | cons e es =>
      rw [chkOs] at h
      have h1 := and_b h
      split
      · rename_i t ht
        have := sos_cons (sg_bor (W := W) F.sc (by rw [F.n]; simpa [chkO] using h1.1) ht (show SG X T W (fun σ H Q => wEs X es σ H Q) (fun a b Hs H => Opds X.K T Hs H a b) (lock ρ i) (evOs Φ pl r (lock ρ i)) from snOs r F h1.2))
        refine sos_fin this ?_
        cases evOs Φ pl r (lock ρ i) <;> rfl
      · exact fun _ _ _ _ _ _ _ k => k.elim
theorem snB : ∀ (c : CB) {g : Sg} {X : Cx} {W : WX} {k : Nat} {e : Option Expr} {ρ : Env}, Fits g X T Φ W k → chkB g c e = true → SB X T W e ρ (evB Φ pl c ρ)
  | .no, g, X, W, k, e, ρ, F, h => by
    rw [evB]
    cases e with
    | none => exact sb_no
    | some => simp [chkB] at h
  | .at c, g, X, W, k, e, ρ, F, h => by
    rw [evB]
    cases e with
    | none => simp [chkB] at h
    | some e => exact sb_at (snE c F (by simpa [chkB] using h))
theorem snAs : ∀ (c : CAs) {g : Sg} {X : Cx} {W : WX} {k : Nat} {es : List Expr} {ρ : Env}, Fits g X T Φ W k → chkAs g c es = true → SAs X T W c es ρ (evAs Φ pl c ρ)
  | .nil, g, X, W, k, es, ρ, F, h => by
    rw [evAs]
    cases es with
    | nil => exact sas_nil
    | cons => simp [chkAs] at h
  | .val c r, g, X, W, k, es, ρ, F, h => by
    rw [evAs]
    cases es with
    | nil => simp [chkAs] at h
    | cons e es =>
      rw [chkAs] at h
      have h1 := and_b h
      exact sas_val (snE c F h1.1) fun ρ1 => snAs r F h1.2
  | .ref i r, g, X, W, k, es, ρ, F, h => by
    rw [evAs]
    cases es with
    | nil => simp [chkAs] at h
    | cons e es =>
      rw [chkAs] at h
      have h1 := and_b h
      split
      · rename_i hq
        exact sas_ref F.sc (by rw [F.n]; exact h1.1) (Option.isSome_iff_exists.mp hq) (snAs r F h1.2)
      · exact fun _ _ _ _ _ _ _ k => k.elim
theorem snT : ∀ (c : CT) {g : Sg} {X : Cx} {W : WX} {k : Nat} {e : Expr} {ρ : Env}, Fits g X T Φ W k → chkT g c e = true → ST X T W e ρ (evT Φ pl c ρ)
  | .and ts, g, X, W, k, e, ρ, F, h => by
    rw [evT]
    simp only [chkT] at h
    unfold kAnd at h
    split at h
    · have h1 := and_b h
      exact st_all (by simpa using h1.1) (snAll ts F h1.2)
    · cases h
  | .or ts, g, X, W, k, e, ρ, F, h => by
    rw [evT]
    simp only [chkT] at h
    unfold kOr at h
    split at h
    · have h1 := and_b h
      exact st_any (by simpa using h1.1) (snAny ts F h1.2)
    · cases h
  | .not t, g, X, W, k, e, ρ, F, h => by
    rw [evT]
    simp only [chkT] at h
    unfold kNot at h
    split at h
    · exact st_not (snT t F h)
    · cases h
  | .val (.bor i p), g, X, W, k, e, ρ, F, h => by
    rw [evT]
    rw [chkT] at h
    have hp : plainTest e = true := by
      have := path_notCall h
      cases p with
      | nil => cases e <;> first | rfl | (simp [pathB, slotB] at h)
      | cons f p => cases e <;> first | rfl | (simp [pathB] at h)
    exact st_val hp (snO (.bor i p) F (by simpa [chkO] using h))
  | .val (.e c), g, X, W, k, e, ρ, F, h => by
    rw [evT]
    rw [chkT] at h
    have h1 := and_b h
    rw [Bool.or_eq_true] at h1
    rcases h1.2 with hp | hp
    · exact st_val hp (snO (.e c) F (by simpa [chkO] using h1.1))
    · cases c with
      | op o as =>
        cases o with
        | cmp cm =>
          have h2 := h1.1
          simp only [chkE] at h2
          unfold kOp at h2
          split at h2
          · rename_i es hq
            rw [evO, evE]
            exact st_cmp F.hu (by rw [F.bt]; exact hq) (snOs as F (and_b h2).2)
          · cases h2
        | kin x ng kvs =>
          have h2 := h1.1
          simp only [chkE] at h2
          unfold kOp at h2
          split at h2
          · rename_i es hq
            rw [evO, evE]
            exact st_kin F.sc (F.opK (o := .kin x ng kvs) (and_b h2).1) (by rw [F.bt]; exact hq) (snOs as F (and_b h2).2)
          · cases h2
        | _ => cases hp
      | chain o1 o2 a b c =>
        have h2 := h1.1
        simp only [chkE] at h2
        unfold kChain at h2
        rw [evO, evE]
        split at h2
        · have h1 := and_b h2
          have h2 := and_b h1.1
          have h3 := and_b h2.1
          have h4 := and_b h3.1
          have h5 := and_b h4.1
          cases of_decide_eq_true h5.1
          cases of_decide_eq_true h5.2
          exact st_chain F.hu (by simpa using h4.2) (snE a F h3.2) (fun ρ1 => snE b F h2.2) (fun ρ1 => snE c F h1.2)
        · cases h2
      | _ => cases hp
theorem snAll : ∀ (c : CTs) {g : Sg} {X : Cx} {W : WX} {k : Nat} {es : List Expr} {ρ : Env}, Fits g X T Φ W k → chkTs g c es = true → SAl X T W (wAll X) es ρ (evAll Φ pl c ρ)
  | .nil, g, X, W, k, es, ρ, F, h => by
    rw [evAll]
    cases es with
    | nil => exact sal_nil
    | cons => simp [chkTs] at h
  | .cons c r, g, X, W, k, es, ρ, F, h => by
    rw [evAll]
    cases es with
    | nil => simp [chkTs] at h
    | cons e es =>
      rw [chkTs] at h
      have h1 := and_b h
      exact sal_cons (snT c F h1.1) fun ρ1 => snAll r F h1.2
theorem snAny : ∀ (c : CTs) {g : Sg} {X : Cx} {W : WX} {k : Nat} {es : List Expr} {ρ : Env}, Fits g X T Φ W k → chkTs g c es = true → SAl X T W (wAny X) es ρ (evAny Φ pl c ρ)
  | .nil, g, X, W, k, es, ρ, F, h => by
    rw [evAny]
    cases es with
    | nil => exact say_nil
    | cons => simp [chkTs] at h
  | .cons c r, g, X, W, k, es, ρ, F, h => by
    rw [evAny]
    cases es with
    | nil => simp [chkTs] at h
    | cons e es =>
      rw [chkTs] at h
      have h1 := and_b h
      exact say_cons (snT c F h1.1) fun ρ1 => snAny r F h1.2
theorem snTs : ∀ (c : CTs) {g : Sg} {X : Cx} {W : WX} {k : Nat} {es : List Expr} {ρ : Env}, Fits g X T Φ W k → oneTest es = true → chkTs g c es = true → STs X T W es ρ (evAll Φ pl c ρ)
  | .nil, g, X, W, k, es, ρ, F, h1, h => by
    rw [evAll]
    cases es with
    | nil => exact sts_nil
    | cons => simp [chkTs] at h
  | .cons c .nil, g, X, W, k, es, ρ, F, h1, h => by
    rw [evAll]
    cases es with
    | nil => simp [chkTs] at h
    | cons e es =>
      rw [chkTs] at h
      have h1 := and_b h
      cases es with
      | nil =>
        have := sts_one (snT c (ρ := ρ) F h1.1)
        simp only [evAll]
        exact this
      | cons => simp [chkTs] at h1
  | .cons c (.cons d r), g, X, W, k, es, ρ, F, h1, h => by
    cases es with
    | nil => simp [chkTs] at h
    | cons e es =>
      cases es with
      | nil => simp [chkTs] at h
      | cons => simp [oneTest] at h1
theorem snI : ∀ (c : CI) {g : Sg} {X : Cx} {W : WX} {k : Nat} {e : Expr}, Fits g X T Φ W k → chkI g c e = true → (∀ tg, tgFits c tg = true → PI X tg e (wiI X c e)) ∧ ∀ ρ, SI X T W (wiI X c e) ρ (backI c ρ) (evI Φ pl c ρ)
  | .seq (.e c), g, X, W, k, e, F, h => ⟨fun tg _ => pi_seq, fun ρ => by
    rw [evI]
    exact si_e (snE c F (by simpa [chkI, chkO] using h))⟩
  | .seq (.bor i p), g, X, W, k, e, F, h => ⟨fun tg _ => pi_seq, fun ρ => by
    rw [evI]
    exact si_bor F.sc (by rw [F.n]; simpa [chkI, chkO] using h)⟩
  | .rng1 a, g, X, W, k, e, F, h => by
    simp only [chkI] at h
    unfold kRng1 at h
    split at h
    · have h1 := and_b h
      have h2 := and_b h1.1
      have h3 := and_b h2.1
      have h4 := and_b h3.1
      cases of_decide_eq_true h4.1
      refine ⟨fun tg _ => pi_range1 (gl_of F.sc h4.2) (bn_of F.bn (by rw [F.bt]; exact h3.2)) (paW X [_] (by simpa using h2.2)) (star_cons (by simpa using h2.2)), fun ρ => ?_⟩
      rw [evI]
      exact si_rng1 (snE a F h1.2)
    · cases h
  | .rng2 a b, g, X, W, k, e, F, h => by
    simp only [chkI] at h
    unfold kRng2 at h
    split at h
    · rename_i x px y z pos
      have h1 := and_b h
      have h2 := and_b h1.1
      have h3 := and_b h2.1
      have h4 := and_b h3.1
      have h5 := and_b h4.1
      have h6 := and_b h5.1
      cases of_decide_eq_true h6.1
      have ha : isStar y = false := by simpa using h4.2
      have hb : isStar z = false := by simpa using h3.2
      refine ⟨fun tg _ => pi_range2 (gl_of F.sc h6.2) (bn_of F.bn (by rw [F.bt]; exact h5.2)) (paW X [y, z] (by simp [ha, hb])) (by rw [star_cons ha, star_cons hb]; rfl) (star_cons hb), fun ρ => ?_⟩
      rw [evI]
      exact si_rng2 (snE a F h2.2) fun ρ1 => snE b F h1.2
    · cases h
  | .enm (.e a), g, X, W, k, e, F, h => by
    simp only [chkI] at h
    unfold kEnm at h
    split at h
    · have h1 := and_b h
      have h2 := and_b h1.1
      have h3 := and_b h2.1
      have h4 := and_b h3.1
      cases of_decide_eq_true h4.1
      refine ⟨fun tg ht => ?_, fun ρ => ?_⟩
      · obtain ⟨es, kk, tp, rfl⟩ := isTup_of ht
        exact pi_enum (gl_of F.sc h4.2) (bn_of F.bn (by rw [F.bt]; exact h3.2)) (paW X [_] (by simpa using h2.2)) (star_cons (by simpa using h2.2))
      · rw [evI]
        exact si_enm (snE a F h1.2)
    · cases h
  | .enm (.bor _ _), g, X, W, k, e, F, h => by simp [chkI] at h
  | .zip (.e a) (.e b), g, X, W, k, e, F, h => by
    simp only [chkI] at h
    unfold kZip at h
    split at h
    · rename_i x px y z pos
      have h1 := and_b h
      have h2 := and_b h1.1
      have h3 := and_b h2.1
      have h4 := and_b h3.1
      have h5 := and_b h4.1
      have h6 := and_b h5.1
      cases of_decide_eq_true h6.1
      have ha : isStar y = false := by simpa using h4.2
      have hb : isStar z = false := by simpa using h3.2
      refine ⟨fun tg ht => ?_, fun ρ => ?_⟩
      · obtain ⟨es, kk, tp, rfl⟩ := isTup_of ht
        exact RZ.pi_zipA (gl_of F.sc h6.2) (bn_of F.bn (by rw [F.bt]; exact h5.2)) (paW X [y, z] (by simp [ha, hb])) (star_cons ha) (by rw [star_cons hb]; rfl)
      · rw [evI]
        exact si_zip (snE a F h2.2) fun ρ1 => snE b F h1.2
    · cases h
  | .zip (.e _) (.bor _ _), g, X, W, k, e, F, h => by simp [chkI] at h
  | .zip (.bor _ _) _, g, X, W, k, e, F, h => by simp [chkI] at h
end
end CH
end
section
namespace CH
open PySem L2 Evl PyProof.Rows

/-- from a state of a body to a later one -/
structure Pts (pl : List Nat) (K : PySem.W.Frag) (T : Tab) (L : List Addr) (σ : L2.St) (Hs H : Hp) (fp : List Addr) (ρ : Env) (σ' : L2.St) (ρ' : Env) (H' Hs' : Hp) (fp' : List Addr) : Prop where
  st : StOk K T L Hs' H' ρ' σ' fp'
  sp : Stp fp H Hs fp' H' Hs'
  lk : lks ρ' = lks ρ
  lv : ∀ (j : Nat) (u : OT), ρ[j]? = some (.lk u) → σ'[j]? = σ[j]?
  pv : ∀ j ∈ pl, σ'[j]? = σ[j]?
/-- .. with a value that is handed back -/
structure PtsR (pl : List Nat) (K : PySem.W.Frag) (T : Tab) (L : List Addr) (σ : L2.St) (Hs H : Hp) (fp : List Addr) (ρ : Env) (t : OT) (σ' : L2.St) (ρ' : Env) (v : V) (H' Hs' : Hp) (fp' ft : List Addr) : Prop where
  st : StOk K T L Hs' H' ρ' σ' fp'
  rp : RpO K T Hs' H' t v ft
  nd : (ft ++ fp').Nodup
  nf : ∀ a ∈ ft, Hs' a = none
  lf : ∀ a ∈ L, a ∉ ft
  sp : Stp fp H Hs (ft ++ fp') H' Hs'
  lk : lks ρ' = lks ρ
  lv : ∀ (j : Nat) (u : OT), ρ[j]? = some (.lk u) → σ'[j]? = σ[j]?
  pv : ∀ j ∈ pl, σ'[j]? = σ[j]?
def FlOk (pl : List Nat) (K : PySem.W.Frag) (T : Tab) (L : List Addr) (σ : L2.St) (Hs H : Hp) (fp : List Addr) (ρ : Env) (D : Ends) (p : Fl × Env) : Prop := match p.1 with
  | .nx => ∀ σ' H' Hs' fp', Pts pl K T L σ Hs H fp ρ σ' p.2 H' Hs' fp' → D.nx σ' H'
  | .brk => ∀ σ' H' Hs' fp', Pts pl K T L σ Hs H fp ρ σ' p.2 H' Hs' fp' → D.bk σ' H'
  | .ct => ∀ σ' H' Hs' fp', Pts pl K T L σ Hs H fp ρ σ' p.2 H' Hs' fp' → D.ct σ' H'
  | .rt t => ∀ σ' v H' Hs' fp' ft, PtsR pl K T L σ Hs H fp ρ t σ' p.2 v H' Hs' fp' ft → D.rt v H'
def XSOk (pl : List Nat) (K : PySem.W.Frag) (T : Tab) (L : List Addr) (σ : L2.St) (Hs H : Hp) (fp : List Addr) (ρ : Env) (W : WX) (e : Exn) (ρ' : Env) : Prop := ∀ σ' H' Hs' fp' C d, Pts pl K T L σ Hs H fp ρ σ' ρ' H' Hs' fp' → ExRp K T Hs' H' e C d → W (.ref C) (some d) σ' H'
section
variable {pl : List Nat} {K : PySem.W.Frag} {T : Tab} {L : List Addr} {σ σ1 σ' : L2.St} {Hs H Hs1 H1 Hs' H' : Hp} {fp fp1 fp' ft : List Addr} {ρ ρ1 ρ' : Env} {t : OT} {v : V} {D : Ends} {W : WX} {e : Exn}
theorem Pst.pts (p : Pst K T L σ Hs H fp ρ ρ1 H1 Hs1 fp1) : Pts pl K T L σ Hs H fp ρ σ ρ1 H1 Hs1 fp1 := ⟨p.st, p.sp, p.lk, fun _ _ _ => rfl, fun _ _ => rfl⟩
theorem Pts.refl (h : StOk K T L Hs H ρ σ fp) : Pts pl K T L σ Hs H fp ρ σ ρ H Hs fp := (Pst.refl h).pts
theorem Pts.trans (a : Pts pl K T L σ Hs H fp ρ σ1 ρ1 H1 Hs1 fp1) (b : Pts pl K T L σ1 Hs1 H1 fp1 ρ1 σ' ρ' H' Hs' fp') : Pts pl K T L σ Hs H fp ρ σ' ρ' H' Hs' fp' :=
  ⟨b.st, a.sp.trans b.sp, b.lk.trans a.lk, fun j u q => (b.lv j u (lks_lk a.lk q)).trans (a.lv j u q), fun j hj => (b.pv j hj).trans (a.pv j hj)⟩
theorem Pts.ret (a : Pts pl K T L σ Hs H fp ρ σ1 ρ1 H1 Hs1 fp1) (b : PtsR pl K T L σ1 Hs1 H1 fp1 ρ1 t σ' ρ' v H' Hs' fp' ft) : PtsR pl K T L σ Hs H fp ρ t σ' ρ' v H' Hs' fp' ft :=
  ⟨b.st, b.rp, b.nd, b.nf, b.lf, a.sp.trans b.sp, b.lk.trans a.lk, fun j u q => (b.lv j u (lks_lk a.lk q)).trans (a.lv j u q), fun j hj => (b.pv j hj).trans (a.pv j hj)⟩
theorem Post.ptsR (p : Post K T L σ Hs H fp ρ t ρ1 v H1 Hs1 fp1 ft) : PtsR pl K T L σ Hs H fp ρ t σ ρ1 v H1 Hs1 fp1 ft := ⟨p.st, p.rp, p.nd, p.nf, p.lf, p.sp, p.lk, fun _ _ _ => rfl, fun _ _ => rfl⟩
theorem FlOk.later {p : Fl × Env} (k : FlOk pl K T L σ Hs H fp ρ D p) (a : Pts pl K T L σ Hs H fp ρ σ1 ρ1 H1 Hs1 fp1) : FlOk pl K T L σ1 Hs1 H1 fp1 ρ1 D p := by
  unfold FlOk at k ⊢
  split at k
  · exact fun σ' H' Hs' fp' q => k σ' H' Hs' fp' (a.trans q)
  · exact fun σ' H' Hs' fp' q => k σ' H' Hs' fp' (a.trans q)
  · exact fun σ' H' Hs' fp' q => k σ' H' Hs' fp' (a.trans q)
  · exact fun σ' v H' Hs' fp' ft q => k σ' v H' Hs' fp' ft (a.ret q)
theorem XSOk.later (k : XSOk pl K T L σ Hs H fp ρ W e ρ') (a : Pts pl K T L σ Hs H fp ρ σ1 ρ1 H1 Hs1 fp1) : XSOk pl K T L σ1 Hs1 H1 fp1 ρ1 W e ρ' := fun σ' H' Hs' fp' C d q x => k σ' H' Hs' fp' C d (a.trans q) x
theorem XSOk.x (k : XSOk pl K T L σ Hs H fp ρ W e ρ') : XOk K T L σ Hs H fp ρ W e ρ' := fun H' Hs' fp' C d q => k σ H' Hs' fp' C d q.pst.pts q.ex
theorem later_cont {r : R (Fl × Env)} (k : Cont r (FlOk pl K T L σ Hs H fp ρ D) (XSOk pl K T L σ Hs H fp ρ W)) (a : Pts pl K T L σ Hs H fp ρ σ1 ρ1 H1 Hs1 fp1) : Cont r (FlOk pl K T L σ1 Hs1 H1 fp1 ρ1 D) (XSOk pl K T L σ1 Hs1 H1 fp1 ρ1 W) :=
  k.imp (fun p q => q.later a) fun e ρ' q => q.later a
/-- a value stored in a slot of one's own -/
theorem Post.store {i : Nat} (p : Post K T L σ Hs H fp ρ t ρ1 v H1 Hs1 fp1 ft) (hi : ∃ s, ρ1[i]? = some s) (hl : ∀ u, ρ1[i]? ≠ some (.lk u)) (hp : i ∉ pl) : ∃ fp2, Pts pl K T L σ Hs H fp ρ (σ.set i (some v)) (ρ1.set i (.ow t)) H1 Hs1 fp2 := by
  obtain ⟨s, e⟩ := hi
  have d := List.nodup_append.mp p.nd
  obtain ⟨fp2, s1, s2⟩ := p.st.store (i := i) (List.getElem?_eq_some_iff.mp e).1 p.rp (fun a ha hf => d.2.2 a ha a hf rfl) d.1 p.nf p.lf
  refine ⟨fp2, s1, p.sp.sub fun a ha => List.mem_append.mpr (s2 a ha), ?_, fun j u q => List.getElem?_set_ne fun z => ?_, fun j hj => List.getElem?_set_ne fun z => by subst z; exact hp hj⟩
  · rw [← p.lk]
    refine lks_set e ?_
    cases s with
    | lk u => exact absurd e (hl u)
    | _ => rfl
  · subst z
    exact hl u (lks_lk p.lk q)
end
def SS (X : Cx) (T : Tab) (W : WX) (pl : List Nat) (st : Stmt) (ρ : Env) (r : R (Fl × Env)) : Prop := ∀ (L : List Addr) (σ : L2.St) (H Hs : Hp) (fp : List Addr) (D : Ends), StOk X.K T L Hs H ρ σ fp →
  Cont r (FlOk pl X.K T L σ Hs H fp ρ D) (XSOk pl X.K T L σ Hs H fp ρ W) → wS X st D σ H
def SSs (X : Cx) (T : Tab) (W : WX) (pl : List Nat) (sts : List Stmt) (ρ : Env) (r : R (Fl × Env)) : Prop := ∀ (L : List Addr) (σ : L2.St) (H Hs : Hp) (fp : List Addr) (D : Ends), StOk X.K T L Hs H ρ σ fp →
  Cont r (FlOk pl X.K T L σ Hs H fp ρ D) (XSOk pl X.K T L σ Hs H fp ρ W) → wSs X sts D σ H
/-- a reading that is sound -/
def SR (X : Cx) (T : Tab) (W : WX) (t : TE) (ρ : Env) (r : R (OT × Env)) : Prop := ∀ (L : List Addr) (σ : L2.St) (H Hs : Hp) (fp : List Addr) (Q : VK), StOk X.K T L Hs H ρ σ fp →
  Cont r (fun p => ∀ v H' Hs' fp' ft, Post X.K T L σ Hs H fp ρ p.1 p.2 v H' Hs' fp' ft → Q v H') (XOk X.K T L σ Hs H fp ρ W) → t σ H Q
section
variable {X : Cx} {T : Tab} {W : WX} {pl : List Nat} {sc : Scope} {e : Expr} {st : Stmt} {sts : List Stmt} {ρ : Env} {pos : Pos}
theorem sss_nil : SSs X T W pl [] ρ (.ok (.nx, ρ)) := fun L σ H Hs fp D h k => wSs_of pss_nil (k σ H Hs fp (Pts.refl h))
theorem sss_cons {r : R (Fl × Env)} {rs : Env → R (Fl × Env)} (h1 : SS X T W pl st ρ r) (h2 : ∀ ρ1, SSs X T W pl sts ρ1 (rs ρ1)) : SSs X T W pl (st :: sts) ρ (r.bind fun p => match p.1 with
    | .nx => rs p.2
    | f => .ok (f, p.2)) := by
  intro L σ H Hs fp D h k
  rw [cont_bind] at k
  refine wSs_of (pss_cons (psW X st) (pssW X sts)) (h1 L σ H Hs fp { D with nx := wSs X sts D } h (k.imp (fun p k => ?_) fun _ _ x => x))
  obtain ⟨f, ρ1⟩ := p
  cases f with
  | nx => exact fun σ1 H1 Hs1 fp1 q => h2 ρ1 L σ1 H1 Hs1 fp1 D q.st (later_cont k q)
  | brk => exact k
  | ct => exact k
  | rt t => exact k
/-- a name's tree frozen between two statements -/
theorem sss_frz {i : Nat} {rs : Env → R (Fl × Env)} (h2 : ∀ ρ1, SSs X T W pl sts ρ1 (rs ρ1)) : SSs X T W pl sts ρ (match ρ.own i with
    | some t => rs (ρ.set i (.ow (.sh t.toD)))
    | none => .no) := by
  intro L σ H Hs fp D h k
  cases ht : Env.own ρ i with
  | none => rw [ht] at k; exact k.elim
  | some t =>
    rw [ht] at k
    obtain ⟨v, Hs', fp', h1, p, r⟩ := frz_slot h ht
    exact h2 _ L σ H Hs' fp' D p.st (later_cont k p.pts)
theorem ss_nop (hp : PS X st tNext) : SS X T W pl st ρ (.ok (.nx, ρ)) := fun L σ H Hs fp D h k => wS_of hp (k σ H Hs fp (Pts.refl h))
theorem ss_brk : SS X T W pl (.Break pos) ρ (.ok (.brk, ρ)) := fun L σ H Hs fp D h k => wS_of ps_break (k σ H Hs fp (Pts.refl h))
theorem ss_cont : SS X T W pl (.Continue pos) ρ (.ok (.ct, ρ)) := fun L σ H Hs fp D h k => wS_of ps_continue (k σ H Hs fp (Pts.refl h))
theorem ss_retN : SS X T W pl (.Return none pos) ρ (.ok (.rt (.sh .non), ρ)) := fun L σ H Hs fp D h k => wS_of ps_retN (k σ .non H Hs fp [] (Post.val h .non).ptsR)
theorem ss_ex {r : R (OT × Env)} (hs : swapsWith e none pos.line X.env = pure false) (he : SE X T W e ρ r) : SS X T W pl (.Expr e pos) ρ (r.bind fun p => .ok (.nx, p.2)) := by
  intro L σ H Hs fp D h k
  rw [cont_bind] at k
  exact wS_of (ps_expr (peW X e) hs) (he L σ H Hs fp _ h (k.imp (fun p k v H1 Hs1 fp1 ft p1 => k σ H1 Hs1 fp1 p1.pst.pts) fun _ _ x => x.x))
theorem ss_ret {r : R (OT × Env)} (he : SE X T W e ρ r) : SS X T W pl (.Return (some e) pos) ρ (r.bind fun p => .ok (.rt p.1, p.2)) := by
  intro L σ H Hs fp D h k
  rw [cont_bind] at k
  exact wS_of (ps_ret (peW X e)) (he L σ H Hs fp _ h (k.imp (fun p k v H1 Hs1 fp1 ft p1 => k σ v H1 Hs1 fp1 ft p1.ptsR) fun _ _ x => x.x))
theorem ss_ife {c : Expr} {a b : List Stmt} {rc : R (Bool × Env)} {ra rb : Env → R (Fl × Env)} (hc : ST X T W c ρ rc) (ha : ∀ ρ1, SSs X T W pl a ρ1 (ra ρ1)) (hb : ∀ ρ1, SSs X T W pl b ρ1 (rb ρ1)) : SS X T W pl (.If c a b pos) ρ (rc.bind fun p => if p.1 = true then ra p.2 else rb p.2) := by
  intro L σ H Hs fp D h k
  rw [cont_bind] at k
  refine wS_of (ps_if (ptW X c) (pssW X a) (pssW X b)) (hc L σ H Hs fp _ h (k.imp (fun p k H1 Hs1 fp1 p1 => ?_) fun _ _ x => x.x))
  obtain ⟨t, ρ1⟩ := p
  cases t with
  | true => exact ha ρ1 L σ H1 Hs1 fp1 D p1.st (later_cont k p1.pts)
  | false => exact hb ρ1 L σ H1 Hs1 fp1 D p1.st (later_cont k p1.pts)
/-- name = value -/
theorem ss_set {i : Nat} {t : TE} {r : R (OT × Env)} (hp : PS X st (tAsg t (gName i))) (he : SR X T W t ρ r) : SS X T W pl st ρ (r.bind fun p => match p.2[i]? with
    | some (.lk _) => .no
    | some _ => if pl.contains i then .no else .ok (.nx, p.2.set i (.ow p.1))
    | none => .no) := by
  intro L σ H Hs fp D h k
  rw [cont_bind] at k
  refine wS_of hp (he L σ H Hs fp (fun x H1 => gName i x σ H1 D.nx) h (k.imp (fun p k v H1 Hs1 fp1 ft p1 => ?_) fun _ _ x => x.x))
  obtain ⟨u, ρ1⟩ := p
  simp only at k p1
  split at k
  · exact k.elim
  · rename_i s hn e0
    split at k
    · exact k.elim
    · rename_i hpl
      obtain ⟨fp2, q⟩ := p1.store (pl := pl) ⟨s, e0⟩ (fun w z => by rw [e0] at z; cases z; exact hn w rfl) (by simpa using hpl)
      exact k _ H1 Hs1 fp2 q
  · exact k.elim
/-- names = value -/
theorem ss_setT {tg : Tg} {r : R (OT × Env)} (hp : PS X st (tAsg (wE X e) (gT X.K tg))) (he : SE X T W e ρ r) : SS X T W pl st ρ (r.bind fun p => match setTg pl tg p.1.toD p.2 with
    | some ρ2 => .ok (.nx, ρ2)
    | none => .no) := by
  intro L σ H Hs fp D h k
  rw [cont_bind] at k
  refine wS_of hp (he L σ H Hs fp (fun x H1 => gT X.K tg x σ H1 D.nx) h (k.imp (fun p k v H1 Hs1 fp1 ft p1 => ?_) fun _ _ x => x.x))
  cases hs : setTg pl tg p.1.toD p.2 with
  | none => rw [hs] at k; exact k.elim
  | some ρ2 =>
    rw [hs] at k
    obtain ⟨f1, f2⟩ := p1.freeze
    obtain ⟨σ', fp', m1, m2, m3, m4, m5, m6⟩ := setTg_ok f1.st f2 hs
    refine m6 _ (k σ' H1 _ fp' ⟨m1, f1.sp.sub m2, m3.trans f1.lk, fun j u q => m4 j fun z => (m5 j z).2 u (lks_lk f1.lk q), fun j hj => m4 j fun z => (m5 j z).1 hj⟩)
/-- name[i] = value -/
theorem plain_asg {o i : Expr} {env : PySem.Env} (h : plainIxB i = true) : ∀ v, assign (.Subscript o i pos) env v = (do
      let ov ← holding [v] (eval o env)
      let iv ← holding [v, ov] (eval i env)
      standAt pos
      holding [v, ov, iv] (setItem ov iv v)
      release [v, ov, iv] []) := by
  intro v
  cases i <;> first | rfl | cases h
theorem ss_setX {i : Nat} {o ix : Expr} {tpos : Pos} {r : R (List OT × Env)} (hs : X.env.scope = sc) (hp : slotB X.N sc i o = true) (hx : plainIxB ix = true) (hsw : swapsWithSole [.Subscript o ix tpos] e pos.line X.env = pure false) (hw : swappedStores [.Subscript o ix tpos] e X.env = pure none) (hr : SEs X T W [e, ix] ρ r) :
    SS X T W pl (.Assign [.Subscript o ix tpos] e pos) ρ (match ρ.ownL i with
      | none => .no
      | some _ => r.bind fun p => match p.2.ownL i with
        | none => .no
        | some us => match muEv .setIx us p.1 with
          | some (_, us') => .ok (.nx, p.2.set i (.ow (.lst us')))
          | none => .no) := by
  intro L σ H Hs fp D h0 k
  refine wS_of (ps_asg (peW X e) (pg_sub (peW X o) (peW X ix) set_list (plain_asg hx)) hsw hw rfl) ?_
  cases hl : ρ.ownL i with
  | none => rw [hl] at k; exact k.elim
  | some us0 =>
    rw [hl] at k
    obtain ⟨a, vs0, g0, fr0, h1, h2, _⟩ := h0.ownList hl
    have k : Cont (r.bind fun p => match p.2.ownL i with
      | none => .no
      | some us => match muEv .setIx us p.1 with
        | some (_, us') => .ok (Fl.nx, p.2.set i (.ow (.lst us')))
        | none => .no) _ _ := k
    rw [cont_bind] at k
    have main : wEs X [e, ix] σ H fun ys H1 => ∀ x y, ys = [x, y] → rSetL (.ref a) y x H1 fun H3 => D.nx σ H3 := by
      refine hr L σ H Hs fp _ h0 (k.imp (fun p k ys H1 Hs1 fp1 ft p1 => ?_) fun _ _ x => x.x)
      rintro x y rfl
      cases hl1 : p.2.ownL i with
      | none => rw [hl1] at k; exact k.elim
      | some us =>
        rw [hl1] at k
        cases hev : muEv .setIx us p.1 with
        | none => simp only [hev] at k; exact k.elim
        | some tu =>
          obtain ⟨t, us'⟩ := tu
          simp only [hev] at k
          obtain ⟨a2, vs, g, fr, q1, q2, q3, q4, q5, q6, q7⟩ := p1.st.ownList hl1
          rw [h1] at q1
          cases q1
          obtain ⟨y', ws, mo, mr⟩ := mu_rule p1.st.ex q2 q3 p1.rp hev
          obtain ⟨fp2, gt, po⟩ := mu_state p1 h1 q2 q3 q4 q5 q6 q7 mo
          obtain ⟨v, kk, j, z1, z2, z3⟩ := mr
          cases z1
          subst z3
          exact ⟨a, vs, kk, j, rfl, rfl, q2, z2, k σ _ Hs1 fp2 po.pst.pts⟩
    exact wE.mono (show wE X e σ H fun x H1 => wE X ix σ H1 fun y H2 => ∀ x' y', [x, y] = [x', y'] → rSetL (.ref a) y' x' H2 fun H3 => D.nx σ H3 from main) fun x H1 q => slot_val hs hp h1 (wE.mono q fun y H2 q => q x y rfl)
end
end CH
end
section
namespace CH
open PySem L2 Evl PyProof.Rows
section
variable {X : Cx} {T : Tab} {W : WX} {pl : List Nat} {sc : Scope} {ρ : Env} {pos : Pos}
/-- behind a walk, seen from ahead of it -/
theorem Opn.pts {K : PySem.W.Frag} {L L' : List Addr} {σ σ2 : L2.St} {Hs H Hs1 H1 Hs2 H2 : Hp} {fp fp1 fp2 : List Addr} {ρ1 ρ2 : Env} {bk : Env → Env} (op : Opn K T L σ Hs H fp ρ bk L' ρ1 H1 Hs1 fp1) (q : Pts pl K T L' σ Hs1 H1 fp1 ρ1 σ2 ρ2 H2 Hs2 fp2) :
    ∃ fp3, Pts pl K T L σ Hs H fp ρ σ2 (bk ρ2) H2 Hs2 fp3 := by
  obtain ⟨fp3, b1, b2, b3, b4⟩ := op.back [] (fun x hx => absurd hx (by simp)) q.st q.sp q.lk q.lv
  exact ⟨fp3, b1, b2, b3, fun j u z => q.lv j u (op.lkp j u z), q.pv⟩
theorem Opn.ptsR {K : PySem.W.Frag} {L L' : List Addr} {σ σ2 : L2.St} {Hs H Hs1 H1 Hs2 H2 : Hp} {fp fp1 fp2 ft : List Addr} {ρ1 ρ2 : Env} {bk : Env → Env} {t : OT} {v : V} (op : Opn K T L σ Hs H fp ρ bk L' ρ1 H1 Hs1 fp1) (q : PtsR pl K T L' σ Hs1 H1 fp1 ρ1 t σ2 ρ2 v H2 Hs2 fp2 ft) :
    ∃ fp3, PtsR pl K T L σ Hs H fp ρ t σ2 (bk ρ2) v H2 Hs2 fp3 ft := by
  have sp0 : Stp fp1 H1 Hs1 fp2 H2 Hs2 := q.sp.sub fun x hx => by simp [hx]
  obtain ⟨fp3, b1, b2, b3, b4⟩ := op.back [] (fun x hx => absurd hx (by simp)) q.st sp0 q.lk q.lv
  have d := List.nodup_append.mp q.nd
  have nw : ∀ x ∈ ft, x ∈ fp1 ∨ H1 x = none := fun x hx => q.sp.nw x (by simp [hx])
  have out : ∀ x ∈ ft, x ∉ fp3 := fun x hx hf => by
    rcases b4 x hf with z | ⟨⟨o, z⟩, z2, _⟩
    · exact d.2.2 x hx x z rfl
    · rcases nw x hx with w | w
      · exact z2 w
      · rw [z] at w; cases w
  refine ⟨fp3, b1, q.rp, List.nodup_append.mpr ⟨d.1, b1.nd, fun x hx y hy e => out x hx (e ▸ hy)⟩, q.nf, fun x hx => q.lf x (op.nl x hx), ⟨b2.ex, b2.fr, fun x hx => ?_, b2.dm⟩, b3, fun j u z => q.lv j u (op.lkp j u z), q.pv⟩
  rcases List.mem_append.mp hx with hx | hx
  · exact op.nw x (nw x hx)
  · exact b2.nw x hx
theorem ss_for {tgE iter : Expr} {body : List Stmt} {wi : TI} {bk : Env → Env} {rI : R (List D × Env)} {rb : Env → R (Fl × Env)} {tg : Tg} (hpo : PassesOwn (model X.prog X.w) X.A X.env X.xe) (hc : X.calm = true) (hi : PI X tgE iter wi) (hg : PG X tgE (gT X.K tg)) (hset : notSetB iter = true)
    (si : SI X T W wi ρ bk rI) (hb : ∀ ρ1, SSs X T W pl body ρ1 (rb ρ1)) : SS X T W pl (.For tgE iter body [] pos) ρ (rI.bind fun p => match forL rb pl tg p.1 p.2 with
      | .ok (f, ρ2) => .ok (f, bk ρ2)
      | .ex e ρ2 => .ex e (bk ρ2)
      | .no => .no) := by
  intro L σ H Hs fp D h k
  rw [cont_bind] at k
  refine wS_of (ps_for hpo hc hi hg (pssW X body) (notSet hset)) (si L σ H Hs fp [] _ h (fun a ha => absurd ha (by simp)) (k.imp (fun p k J P L' H1 Hs1 fp1 wk hp op => ?_) fun _ _ x => x.x))
  obtain ⟨ds, ρ1⟩ := p
  simp only at k wk op
  refine ⟨fun i m σ' H' => m = ds.length - i ∧ i ≤ ds.length ∧ ∃ ρi Hs' fpi, P H' Hs' fpi ∧ Pts pl X.K T L' σ Hs1 H1 fp1 ρ1 σ' ρi H' Hs' fpi ∧ forL rb pl tg (ds.drop i) ρi = forL rb pl tg ds ρ1, ⟨ds.length, by simp, Nat.zero_le _, ρ1, Hs1, fp1, hp, Pts.refl op.st, by simp⟩, ?_⟩
  rintro i m σ' H' ⟨rfl, hle, ρi, Hs', fpi, hP, q, ev⟩
  by_cases hlt : i < ds.length
  · rw [List.drop_eq_getElem_cons hlt] at ev
    simp only [forL] at ev
    obtain ⟨go, yld⟩ := wk.go hP q.st.ex (List.getElem?_eq_getElem hlt)
    refine .inr ⟨go, _, fun σ' H' z => z, fun x H2 y => ?_⟩
    obtain ⟨Hs2, nw⟩ := yld x H2 y
    have p2 := New.post q.st nw
    have r : Rp X.K T Hs2 ds[i] x := by
      cases nw.rp with
      | sh r => exact r
    cases hs : setTg pl tg ds[i] ρi with
    | none => rw [hs] at ev; rw [← ev] at k; exact k.elim
    | some ρ' =>
      rw [hs] at ev
      obtain ⟨σ3, fp3, m1, m2, m3, m4, m5, m6⟩ := setTg_ok p2.st r hs
      refine m6 _ ?_
      have q23 : Pts pl X.K T L' σ' Hs' H' fpi ρi σ3 ρ' H2 Hs2 fp3 := ⟨m1, p2.pst.sp.sub m2, m3, fun j u z => m4 j fun w => (m5 j w).2 u z, fun j hj => m4 j fun w => (m5 j w).1 hj⟩
      have q3 := q.trans q23
      have hP3 : P H2 Hs2 fp3 := wk.keep hP q23.sp
      refine hb ρ' L' σ3 H2 Hs2 fp3 _ m1 ?_
      cases hr : rb ρ' with
      | no => simp only [hr, R.bind] at ev; rw [← ev] at k; exact k.elim
      | ex e ρ2 =>
        simp only [hr, R.bind] at ev
        rw [← ev] at k
        intro σ4 H4 Hs4 fp4 C d q4 xr
        obtain ⟨fp5, z⟩ := op.pts (q3.trans q4)
        exact k σ4 H4 Hs4 fp5 C d z xr
      | ok fr =>
        obtain ⟨f, ρ2⟩ := fr
        simp only [hr, R.bind] at ev
        cases f with
        | nx => exact fun σ4 H4 Hs4 fp4 q4 => ⟨ds.length - (i + 1), by omega, rfl, hlt, ρ2, Hs4, fp4, wk.keep hP3 q4.sp, q3.trans q4, ev⟩
        | ct => exact fun σ4 H4 Hs4 fp4 q4 => ⟨ds.length - (i + 1), by omega, rfl, hlt, ρ2, Hs4, fp4, wk.keep hP3 q4.sp, q3.trans q4, ev⟩
        | brk =>
          simp only at ev
          rw [← ev] at k
          intro σ4 H4 Hs4 fp4 q4
          obtain ⟨fp5, z⟩ := op.pts (q3.trans q4)
          exact k σ4 H4 Hs4 fp5 z
        | rt t =>
          simp only at ev
          rw [← ev] at k
          intro σ4 v H4 Hs4 fp4 ft q4
          obtain ⟨fp5, z⟩ := op.ptsR (q3.ret q4)
          exact k σ4 v H4 Hs4 fp5 ft z
  · have e : i = ds.length := by omega
    subst e
    rw [List.drop_length] at ev
    simp only [forL] at ev
    rw [← ev] at k
    obtain ⟨fp5, z⟩ := op.pts q
    exact .inl ⟨wk.stop hP q.st.ex, k σ' H' Hs' fp5 z⟩
theorem ss_whl {c : Expr} {body : List Stmt} {rc : Env → R (Bool × Env)} {rb : Env → R (Fl × Env)} {n : Nat} (hpo : PassesOwn (model X.prog X.w) X.A X.env X.xe) (hc : ∀ ρ1, ST X T W c ρ1 (rc ρ1)) (hb : ∀ ρ1, SSs X T W pl body ρ1 (rb ρ1)) : SS X T W pl (.While c body [] pos) ρ (whlL rc rb n ρ) := by
  intro L σ H Hs fp D h k
  refine wS_of (ps_while hpo (ptW X c) (pssW X body)) ?_
  refine ⟨fun m σ' H' => ∃ ρi Hs' fpi, Pts pl X.K T L σ Hs H fp ρ σ' ρi H' Hs' fpi ∧ whlL rc rb m ρi = whlL rc rb n ρ, ⟨n, ρ, Hs, fp, Pts.refl h, rfl⟩, ?_⟩
  rintro m σ' H' ⟨ρi, Hs', fpi, q, ev⟩
  cases m with
  | zero => simp only [whlL] at ev; rw [← ev] at k; exact k.elim
  | succ m =>
    simp only [whlL] at ev
    refine hc ρi L σ' H' Hs' fpi _ q.st ?_
    cases hr : rc ρi with
    | no => simp only [hr, R.bind] at ev; rw [← ev] at k; exact k.elim
    | ex e ρ2 =>
      simp only [hr, R.bind] at ev
      rw [← ev] at k
      exact (XSOk.later k q).x
    | ok br =>
      obtain ⟨b, ρ1⟩ := br
      simp only [hr, R.bind] at ev
      intro H2 Hs2 fp2 p2
      have q2 := q.trans p2.pts
      cases b with
      | false =>
        simp only [Bool.false_eq_true, if_false] at ev ⊢
        rw [← ev] at k
        exact k σ' H2 Hs2 fp2 q2
      | true =>
        simp only [if_true] at ev ⊢
        refine ⟨_, fun σ' H' z => z, ?_⟩
        refine hb ρ1 L σ' H2 Hs2 fp2 _ q2.st ?_
        cases hr2 : rb ρ1 with
        | no => simp only [hr2] at ev; rw [← ev] at k; exact k.elim
        | ex e ρ2 =>
          simp only [hr2] at ev
          rw [← ev] at k
          exact XSOk.later k q2
        | ok fr =>
          obtain ⟨f, ρ2⟩ := fr
          simp only [hr2] at ev
          cases f with
          | nx => exact fun σ4 H4 Hs4 fp4 q4 => ⟨m, by omega, ρ2, Hs4, fp4, q2.trans q4, ev⟩
          | ct => exact fun σ4 H4 Hs4 fp4 q4 => ⟨m, by omega, ρ2, Hs4, fp4, q2.trans q4, ev⟩
          | brk =>
            simp only at ev
            rw [← ev] at k
            exact fun σ4 H4 Hs4 fp4 q4 => k σ4 H4 Hs4 fp4 (q2.trans q4)
          | rt t =>
            simp only at ev
            rw [← ev] at k
            exact fun σ4 v H4 Hs4 fp4 ft q4 => k σ4 v H4 Hs4 fp4 ft (q2.ret q4)
end
def notCompB : Expr → Bool
  | .ListComp .. => false
  | .SetComp .. => false
  | .DictComp .. => false
  | _ => true
def notSwapB : Expr → Bool
  | .ListComp .. => false
  | .SetComp .. => false
  | .DictComp .. => false
  | .Tuple .. => false
  | _ => true
/-- name = value is plainly stored -/
def plainSetB (sc : Scope) (y : Str) (py : Pos) : Expr → Bool
  | .ListComp _ _ _ p => !(py.line == p.line) || !decide (sc.names.lookup y = some .local)
  | .SetComp .. => false
  | .DictComp .. => false
  | _ => true
def swapSetB (sc : Scope) (y : Str) (py : Pos) : Expr → Bool
  | .ListComp _ _ scope p => decide (sc.kind = .function) && decide (sc.names.lookup y = some .local) && (py.line == p.line) && !(scope.names.any fun (n, k) => n == y && (k == .local || k == .cell))
  | _ => false
theorem drop_sw {e : Expr} {l : Nat} {env : PySem.Env} (h : notCompB e = true) : swapsWith e none l env = pure false := by
  cases e <;> first | rfl | cases h
theorem plain_sw {sc : Scope} {y : Str} {py : Pos} {e : Expr} {l : Nat} {env : PySem.Env} (hs : env.scope = sc) (h : plainSetB sc y py e = true) : swapsWith e (some (.Name y py)) l env = pure false := by
  cases e with
  | ListComp a b scope p =>
    have h : (py.line == p.line) = false ∨ (env.kindOf y == some .local) = false := by
      simp only [plainSetB, Bool.or_eq_true, Bool.not_eq_true', decide_eq_false_iff_not] at h
      refine h.imp id fun z => ?_
      have e1 : env.kindOf y = sc.names.lookup y := by rw [← hs]; rfl
      rw [e1]
      simpa using z
    unfold swapsWith
    rcases h with h | h
    · simp only [Expr.pos, h, Bool.and_false, Bool.false_and]
    · simp only [h, Bool.and_false, Bool.false_and]
  | SetComp => cases h
  | DictComp => cases h
  | _ => rfl
theorem tup_sw {e tg : Expr} {l : Nat} {env : PySem.Env} (h : notSwapB e = true) : swapsWithSole [tg] e l env = pure false ∧ swappedStores [tg] e env = pure none := by
  refine ⟨?_, ?_⟩
  · cases e <;> first | rfl | cases h
  · unfold swappedStores
    cases e <;> first | (cases tg <;> rfl) | (cases h; done)
theorem sub_sw {o i e : Expr} {p : Pos} {l : Nat} {env : PySem.Env} : swapsWithSole [.Subscript o i p] e l env = pure false ∧ swappedStores [.Subscript o i p] e env = pure none := by
  refine ⟨?_, ?_⟩
  · cases e <;> rfl
  · unfold swappedStores
    cases e <;> rfl
def nopB : Stmt → Bool
  | .Pass _ => true
  | .Expr (.Constant (.str _) _ _) _ => true
  | .Global _ _ => true
  | _ => false
def brkB : Stmt → Bool
  | .Break _ => true
  | _ => false
def contB : Stmt → Bool
  | .Continue _ => true
  | _ => false
def retNB : Stmt → Bool
  | .Return none _ => true
  | _ => false
def isLc : CE → Bool
  | .lc .. => true
  | .lc2 .. => true
  | _ => false
def kEx (f : Expr → Bool) : Stmt → Bool
  | .Expr e _ => notCompB e && f e
  | _ => false
def kSet (g : Sg) (i : Nat) (lc : Bool) (f : Expr → Bool) : Stmt → Bool
  | .Assign [.Name y py] x _ => tgNm g.N g.sc g.fn i (.Name y py) && f x && (plainSetB g.sc y py x || (lc && swapSetB g.sc y py x))
  | _ => false
def kSetT (g : Sg) (is : List Nat) (f : Expr → Bool) : Stmt → Bool
  | .Assign [tg] x _ => tgB g.N g.sc g.fn (.tup is) tg && notSwapB x && f x && !isStar tg
  | _ => false
def kSetX (g : Sg) (i : Nat) (p : List Str) (f : List Expr → Bool) : Stmt → Bool
  | .Assign [.Subscript o ix _] x _ => p.isEmpty && slotB g.N g.sc i o && plainIxB ix && f [x, ix]
  | _ => false
def kRet (f : Expr → Bool) : Stmt → Bool
  | .Return (some e) _ => f e
  | _ => false
def kIf (t : Expr → Bool) (a b : List Stmt → Bool) : Stmt → Bool
  | .If c x y _ => t c && a x && b y
  | _ => false
def kWhl (t : Expr → Bool) (a : List Stmt → Bool) : Stmt → Bool
  | .While c x [] _ => t c && a x
  | _ => false
def kFor (g : Sg) (tg : Tg) (it : Expr → Expr → Bool) (a : List Stmt → Bool) : Stmt → Bool
  | .For tgE iter x [] _ => tgB g.N g.sc g.fn tg tgE && notSetB iter && it tgE iter && a x
  | _ => false
def isFrz : CS → Bool
  | .frz _ => true
  | _ => false
def kSs (b : Bool) (f : Stmt → Bool) (h : List Stmt → Bool) : List Stmt → Bool
  | ss => if b = true then h ss else match ss with
    | st :: r => f st && h r
    | [] => false
/-- raise C(..) -/
def kRaise (g : Sg) (c n : Nat) (f : List Expr → Bool) : Stmt → Bool
  | .Raise (some (.Call (.Name x _) es [] _)) none _ => (match g.exs[c]? with
    | some k => decide (x = k.1) && decide (k.2.1.length = n) && !k.2.1.isEmpty
    | none => false) && glB g.sc x && !(x == ("__debug__" : Str)) && !es.isEmpty && nostar es && f es
  | _ => false
/-- what a suite hands back -/
def kAt (g : Sg) (h : Hd) : At → Expr → Bool
  | .c d, e => constB d e
  | .v j, e => slotB g.N g.sc j e && !(h.i == some j)
  | .xf j, .Attribute (.Name y p) f _ => (match h.i with
    | some i => slotB g.N g.sc i (.Name y p)
    | none => false) && h.ms.all fun c => match g.exs[c]? with
      | some k => decide (k.2.1[j]? = some f)
      | none => false
  | _, _ => false
def kAts (g : Sg) (h : Hd) : List At → List Expr → Bool
  | [], [] => true
  | a :: r, e :: es => kAt g h a e && kAts g h r es
  | _, _ => false
def kSu (g : Sg) (h : Hd) : List Stmt → Bool
  | [.Return (some e) _] => if h.tup = true then (match e with
    | .Tuple es _ _ => nostar es && kAts g h h.as es
    | _ => false) else (match h.as with
    | [a] => kAt g h a e
    | _ => false)
  | _ => false
def kNm (g : Sg) : Option Str → Option Nat → Bool
  | none, none => true
  | some n, some i => decide (g.N[i]? = some n) && decide (g.sc.names.lookup n = some .local)
  | _, _ => false
def kMs (g : Sg) (h : Hd) : Bool := (List.range g.exs.length).all fun c => h.ms.contains c == (match g.exs[c]? with
  | some k => k.2.2.contains h.c
  | none => false)
def kHds (g : Sg) : List Hd → List ExceptHandler → Bool
  | [], [] => true
  | h :: hs, .ExceptHandler (some (.Name x _)) n su _ :: hds => (match g.exs[h.c]? with
    | some k => decide (x = k.1)
    | none => false) && glB g.sc x && !(x == ("__debug__" : Str)) && kNm g n h.i && kMs g h && kSu g h su && kHds g hs hds
  | _, _ => false
def kTry (g : Sg) (hs : List Hd) (f : List Stmt → Bool) : Stmt → Bool
  | .Try b hds [] [] _ => !hds.isEmpty && kHds g hs hds && f b
  | _ => false
mutual
def chkS (g : Sg) : CS → Stmt → Bool
  | .nop, s => nopB s
  | .brk, s => brkB s
  | .cont, s => contB s
  | .retN, s => retNB s
  | .frz _, _ => false
  | .ex e, s => kEx (fun x => chkE g e x) s
  | .set i e, s => kSet g i (isLc e) (fun x => chkE g e x) s
  | .setT is e, s => kSetT g is (fun x => chkE g e x) s
  | .setF .., _ => false
  | .setX i p ix e, s => kSetX g i p (fun es => chkEs g (.cons e (.cons ix .nil)) es) s
  | .ret e, s => kRet (fun x => chkE g e x) s
  | .ife t a b, s => kIf (fun x => chkT g t x) (fun x => chkSs g a x) (fun x => chkSs g b x) s
  | .whl t a, s => kWhl (fun x => chkT g t x) (fun x => chkSs g a x) s
  | .for_ tg it a, s => kFor g tg (fun t x => tgFits it t && chkI g it x) (fun x => chkSs g a x) s
  | .raise c n as, s => kRaise g c n (fun es => chkEs g as es) s
  | .tr b hs, s => kTry g hs (fun x => chkSs g b x) s
def chkSs (g : Sg) : CSs → List Stmt → Bool
  | .nil, ss => ss.isEmpty
  | .cons s r, ss => kSs (isFrz s) (fun x => chkS g s x) (fun x => chkSs g r x) ss
end
structure FitsS (g : Sg) (X : Cx) (T : Tab) (Φ : Phi) (W : WX) (k : Nat) : Prop extends Fits g X T Φ W k where
  po : PassesOwn (model X.prog X.w) X.A X.env X.xe
  sk : X.stack = X.env :: X.outer
  fr : X.env.frame = some X.env.locals
variable {T : Tab} {Φ : Phi} {pl : List Nat}
/-- the reading of a comprehension -/
theorem sr_lc {elt : CE} {tg : Tg} {it : CI} {cs : CTs} {g : Sg} {X : Cx} {W : WX} {k : Nat} {x : Expr} (F : Fits g X T Φ W k) (h : chkE g (.lc elt tg it cs) x = true) :
    ∃ t, (∀ ρ, SR X T W t ρ (evE Φ pl (.lc elt tg it cs) ρ)) ∧ ∀ {i : Nat} {y : Str} {py spos : Pos}, X.N[i]? = some y → X.env.scope.names.lookup y = some .local → swapsWith x (some (.Name y py)) spos.line X.env = pure true → PS X (.Assign [.Name y py] x spos) (tAsg t (gName i)) := by
  simp only [chkE] at h
  unfold kLc at h
  split at h
  · have h1 := and_b h
    have h2 := and_b h1.1
    have h3 := and_b h2.1
    have h4 := and_b h3.1
    have h5 := and_b h4.1
    have h6 := and_b h5.1
    have h33 := and_b h3.2
    obtain ⟨w0, w2⟩ := snI (pl := pl) it F h33.2
    have w1 := w0 _ h33.1
    have ok := blk_ok h6.2
    have nd := F.nd
    rename_i xE tgE iter ifs scope lpos
    have ok' : BlkOk X.N X.env.scope scope (ownOf g.N tg.slots) := by rw [F.n, F.sc]; exact ok
    refine ⟨tLc (wiI X it iter) (gT X.K tg) (tIfs X scope ifs) (tElt X scope xE) ((ownOf g.N tg.slots).map (·.2)), fun ρ => ?_, fun {i y py spos} hy hyl hsw => ?_⟩
    · rw [evE, own_snd]
      intro L σ H Hs fp Q h k
      exact lc_read (bk := backI it ρ) (pl := pl) (w2 ρ) (fun s H C cl fp ρ => snTs cs (F.blk s H scope C cl fp) h4.2 h2.2) (fun s H C cl fp ρ => snE elt (F.blk s H scope C cl fp) h1.2) h k
    · exact ps_setLc F.calm nd hy hyl hsw w1 ok' (fun s H C cl fp => tg_pg (X := blkC' X s H scope C cl fp) nd (blk_scope F.sc) rfl F.calm (by show tgB X.N _ _ tg tgE = true; rw [F.n]; exact h5.2)) (fun s H C cl fp => pts_w h4.2 s H C cl fp) (fun s H C cl fp => pe_elt s H C cl fp) (notSet h6.1)
  · cases h
theorem sr_lc2 {elt : CE} {tg tg1 : Tg} {it it1 : CI} {cs cs1 : CTs} {g : Sg} {X : Cx} {W : WX} {k : Nat} {x : Expr} {ρ : Env} (F : Fits g X T Φ W k) (h : chkE g (.lc2 elt tg it cs tg1 it1 cs1) x = true) :
    ∃ t, SR X T W t ρ (evE Φ pl (.lc2 elt tg it cs tg1 it1 cs1) ρ) ∧ ∀ {i : Nat} {y : Str} {py spos : Pos}, X.N[i]? = some y → X.env.scope.names.lookup y = some .local → swapsWith x (some (.Name y py)) spos.line X.env = pure true → PS X (.Assign [.Name y py] x spos) (tAsg t (gName i)) := by
  simp only [chkE] at h
  unfold kLc2 at h
  split at h
  · simp only [Bool.and_eq_true] at h
    obtain ⟨⟨⟨⟨⟨⟨⟨⟨⟨⟨⟨h1, h2⟩, h3⟩, h4⟩, h5⟩, h6⟩, h7⟩, h8⟩, h9⟩, h10⟩, h11⟩, h12⟩ := h
    have h88 := h8
    have h100 := h10
    obtain ⟨w0, w2⟩ := snI (pl := pl) it F h88.2
    have w1 := w0 _ h88.1
    obtain ⟨t, _, t2, t3⟩ := se_lc2 (ρ := ρ) (T := T) (W := W) (c1 := it1) (bk := backI it ρ) (bk1 := fun ρ ρ' => backI it1 ρ ρ') (pl := pl) F.nd F.sc F.calm w1 h1 h2 (w2 ρ) (by rw [F.n]; exact blk_ok h3) (by rw [own_snd]) (by rw [F.n]; exact h4) (by rw [F.n]; exact h5) h6 h7
      (fun s H C cl fp => (snI (pl := pl) it1 (F.blk s H _ C cl fp) h100.2).1 _ h100.1) (fun s H C cl fp ρ => (snI (pl := pl) it1 (F.blk s H _ C cl fp) h100.2).2 ρ) (fun s H C cl fp ρ => snTs cs (F.blk s H _ C cl fp) h6 h9) (fun s H C cl fp ρ => snTs cs1 (F.blk s H _ C cl fp) h7 h11) (fun s H C cl fp ρ => snE elt (F.blk s H _ C cl fp) h12)
    refine ⟨t, ?_, t2⟩
    rw [evE]
    exact t3
  · cases h
end CH
end
section
namespace CH
open PySem L2 Evl PyProof.Rows
section
variable {X : Cx} {T : Tab} {Φ : Phi} {W : WX} {pl : List Nat} {g : Sg} {k : Nat} {ρ : Env}
theorem ss_raise {c n : Nat} {x : Str} {es : List Expr} {p pos pos2 : Pos} {kx : ExC} {r : R (List OT × Env)} (F : FitsS g X T Φ W k) (hk : g.exs[c]? = some kx) (hx : x = kx.1) (hn : kx.2.1.length = n) (hne : kx.2.1 ≠ []) (hg : Gl X x) (hdb : (x == ("__debug__" : Str)) = false)
    (hes : es ≠ []) (hst : nostar es = true) (hs : SEs X T W es ρ r) : SS X T W pl (.Raise (some (.Call (.Name x p) es [] pos)) none pos2) ρ (r.bind fun q => if q.1.length = n then .ex ⟨c, toDs q.1⟩ q.2 else .no) := by
  intro L σ H Hs fp D h kk
  obtain ⟨C, hA, hF, hm, hI, _⟩ := F.ex c kx hk
  obtain ⟨fI, Tx⟩ := hI hne
  cases es with
  | nil => exact absurd rfl hes
  | cons e es =>
    have ke : isStar e = false ∧ nostar es = true := by simpa [nostar] using hst
    refine wS_of (ps_raise F.calm F.tk (pmk_ex Tx hne F.room (paW X (e :: es) hst) hg (hx ▸ hm) hdb (star_cons ke.1) (star_any ke.2))) ?_
    rw [cont_bind] at kk
    refine hs L σ H Hs fp _ h (kk.imp (fun q kk vs H1 Hs1 fp1 ft p1 => ?_) fun _ _ x => x.x)
    obtain ⟨ts, ρ1⟩ := q
    simp only at kk p1
    have hlen := p1.rp.length
    split at kk
    · rename_i hl
      have lv : vs.length = kx.2.1.length := by rw [← hlen, hl, hn]
      refine ⟨lv, fun d hd => ?_⟩
      obtain ⟨f1, f2⟩ := p1.freeze
      have eH : Ex H1 (upd H1 d (.xd (kx.2.1.zip vs))) := Ex.new hd
      have st : StOk X.K T L (frz Hs1 H1 ft) (upd H1 d (.xd (kx.2.1.zip vs))) ρ1 σ fp1 := f1.st.grow eH (Ex.refl _) (f1.st.ex.trans eH) fun a o q => .inl q
      have sp : Stp fp H Hs fp1 (upd H1 d (.xd (kx.2.1.zip vs))) (frz Hs1 H1 ft) := ⟨f1.sp.ex, fun a o q hq => eH a o (f1.sp.fr a o q hq), f1.sp.nw, f1.sp.dm⟩
      refine kk σ _ _ fp1 C d ⟨st, sp, f1.lk, fun _ _ _ => rfl, fun _ _ => rfl⟩ ⟨hA, kx.2.1.zip vs, upd_same, ?_, ?_⟩
      · rw [hF, List.map_fst_zip (by omega)]
      · rw [List.map_snd_zip (by omega)]
        exact f2
    · exact kk.elim
/-- the name's slot holds nothing: the state stands where it is stored to -/
theorem slot_ne {σ : L2.St} {a : Addr} {j : Nat} {i : Option Nat} (h : i ≠ some j) : (stOf σ a i)[j]? = σ[j]? := by
  cases i with
  | none => rfl
  | some i => exact List.getElem?_set_ne fun z => h (by rw [z])
theorem zip_at {fl : List (Str × V)} {j : Nat} {f : Str} {v : V} (nd : (fl.map (·.1)).Nodup) (h1 : (fl.map (·.1))[j]? = some f) (h2 : (fl.map (·.2))[j]? = some v) : fl.lookup f = some v := by
  induction fl generalizing j with
  | nil => simp at h1
  | cons p fl ih =>
    rw [List.map_cons, List.nodup_cons] at nd
    cases j with
    | zero =>
      simp only [List.map_cons, List.getElem?_cons_zero, Option.some.injEq] at h1 h2
      subst h1 h2
      obtain ⟨a, b⟩ := p
      simp [List.lookup]
    | succ j =>
      simp only [List.map_cons, List.getElem?_cons_succ] at h1 h2
      have ne : p.1 ≠ f := fun e => nd.1 (e ▸ List.mem_of_getElem? h1)
      obtain ⟨a, b⟩ := p
      have : (f == a) = false := by simpa using Ne.symm ne
      rw [List.lookup_cons, this]
      exact ih nd.2 h1 h2
theorem at_ok {h : Hd} {a0 : At} {e : Expr} {L : List Addr} {σ : L2.St} {H Hs : Hp} {fp : List Addr} {ex : Exn} {C d a : Addr} {oe : Obj} {pn : List (Addr × Obj)} {dv : D} (F : FitsS g X T Φ W k) (st : StOk X.K T L Hs H ρ σ fp) (xr : ExRp X.K T Hs H ex C d) (hm : h.ms.contains ex.cls = true)
    (hb : bareI ρ h.i = true) (z : Zc (.ref C) (some d) oe) (zd : ∃ vs, oe.data = .fields vs) (hk : kAt g h a0 e = true) (hv : atEv ex ρ a0 = some dv) :
    ∃ v, Rp X.K T Hs dv v ∧ ∀ Q, Q v H → wE (X.suite a ((a, oe) :: pn)) e (stOf σ a h.i) H Q := by
  cases a0 with
  | c d0 =>
    cases Option.some.inj (show some d0 = some dv from hv)
    simp only [kAt] at hk
    unfold constB at hk
    split at hk <;> first | contradiction | skip
    · cases of_decide_eq_true hk; exact ⟨_, .int _, fun Q q => wE_of pe_int q⟩
    · cases eq_of_beq hk; exact ⟨_, .bl _, fun Q q => wE_of pe_bl q⟩
    · cases of_decide_eq_true hk; exact ⟨_, .str _, fun Q q => wE_of pe_str q⟩
    · exact ⟨_, .non, fun Q q => wE_of pe_non q⟩
  | v j =>
    simp only [kAt, Bool.and_eq_true, Bool.not_eq_true', beq_eq_false_iff_ne, ne_eq] at hk
    simp only [atEv] at hv
    cases ht : Env.tree ρ j with
    | none => rw [ht] at hv; cases hv
    | some t =>
      rw [ht] at hv
      cases t with
      | sh d0 =>
        cases Option.some.inj (show some d0 = some dv from hv)
        obtain ⟨v, f, e1, r1, _⟩ := st.rs.read ht
        cases r1 with
        | sh r1 =>
          refine ⟨v, r1, fun Q q => ?_⟩
          exact slot_val (X := X.suite a ((a, oe) :: pn)) (sc := g.sc) F.sc (by show slotB X.N g.sc j e = true; rw [F.n]; exact hk.1) (by rw [slot_ne hk.2]; exact e1) q
      | _ => cases hv
  | xf j =>
    obtain ⟨hA, fl, hd, hfl, hrp⟩ := xr
    unfold kAt at hk
    split at hk <;> first | contradiction | skip
    · rename_i j' y p f ps e1
      cases e1
      have h1 := and_b hk
      cases hi : h.i with
      | none => rw [hi] at h1; exact absurd h1.1 (by simp)
      | some i =>
        rw [hi] at h1 hb
        simp only at h1
        have hfs := List.all_eq_true.mp h1.2 ex.cls (by simpa using hm)
        obtain ⟨kx, hkx⟩ := F.exR _ _ hA
        rw [hkx] at hfs
        have hfj : kx.2.1[j]? = some f := of_decide_eq_true hfs
        obtain ⟨C', hA', hF, _, hI, _⟩ := F.ex _ _ hkx
        rw [hA] at hA'
        cases hA'
        have hne : kx.2.1 ≠ [] := fun z => by rw [z] at hfj; simp at hfj
        obtain ⟨fI, Tx⟩ := hI hne
        have hargs : ex.args[j]? = some dv := hv
        obtain ⟨v, hv2, rv⟩ := hrp.get hargs
        rw [hF] at hfl
        have hlook := zip_at (by rw [hfl]; exact Tx.nd) (by rw [hfl]; exact hfj) hv2
        refine ⟨v, rv, fun Q q => ?_⟩
        have hlt : i < σ.length := by
          have hle := st.rs.length
          simp only [bareI] at hb
          cases hz : ρ[i]? with
          | none => rw [hz] at hb; cases hb
          | some s => have := (List.getElem?_eq_some_iff.mp hz).1; omega
        have hsl : (stOf σ a (some i))[i]? = some (some (.ref a)) := List.getElem?_set_self hlt
        exact wE_of (pe_byEx (X := X) Tx (List.mem_of_getElem? hfj) z zd (slot_of (X := X.suite a ((a, oe) :: pn)) (sc := g.sc) F.sc (by show slotB X.N g.sc i (.Name y p) = true; rw [F.n]; exact h1.1)) (base_of rfl))
          ⟨.ref a, hsl, rfl, rfl, d, fl, v, rfl, hd, hlook, q⟩
theorem ats_ok {h : Hd} {L : List Addr} {σ : L2.St} {H Hs : Hp} {fp : List Addr} {ex : Exn} {C d a : Addr} {oe : Obj} {pn : List (Addr × Obj)} (F : FitsS g X T Φ W k) (st : StOk X.K T L Hs H ρ σ fp) (xr : ExRp X.K T Hs H ex C d) (hm : h.ms.contains ex.cls = true)
    (hb : bareI ρ h.i = true) (z : Zc (.ref C) (some d) oe) (zd : ∃ vs, oe.data = .fields vs) : ∀ {as : List At} {es : List Expr} {ds : List D}, kAts g h as es = true → atsEv ex ρ as = some ds →
    ∃ vs, Rps X.K T Hs ds vs ∧ ∀ Q, Q vs H → wEs (X.suite a ((a, oe) :: pn)) es (stOf σ a h.i) H Q
  | [], [], ds, _, hv => by
    cases Option.some.inj (show some [] = some ds from hv)
    exact ⟨[], .nil, fun Q q => q⟩
  | [], _ :: _, _, hk, _ => by simp [kAts] at hk
  | _ :: _, [], _, hk, _ => by simp [kAts] at hk
  | a0 :: as, e :: es, ds, hk, hv => by
    have h1 := and_b (show (kAt g h a0 e && kAts g h as es) = true from hk)
    obtain ⟨dv, e1, e2⟩ := Option.bind_eq_some_iff.mp (show ((atEv ex ρ a0).bind fun d => (atsEv ex ρ as).map fun ds => d :: ds) = some ds from hv)
    obtain ⟨ds', e3, rfl⟩ := Option.map_eq_some_iff.mp e2
    obtain ⟨v, r1, q1⟩ := at_ok (a := a) (oe := oe) (pn := pn) F st xr hm hb z zd h1.1 e1
    obtain ⟨vs, r2, q2⟩ := ats_ok (a := a) (oe := oe) (pn := pn) F st xr hm hb z zd h1.2 e3
    exact ⟨v :: vs, .cons r1 r2, fun Q q => q1 _ (q2 _ q)⟩
/-- the suite of a clause that takes the exception -/
theorem suite_ok {h : Hd} {su : List Stmt} {L : List Addr} {σ : L2.St} {H Hs : Hp} {fp : List Addr} {ex : Exn} {C d a : Addr} {oe : Obj} {pn : List (Addr × Obj)} {D : Ends} (F : FitsS g X T Φ W k) (st : StOk X.K T L Hs H ρ σ fp) (xr : ExRp X.K T Hs H ex C d) (hm : h.ms.contains ex.cls = true)
    (z : Zc (.ref C) (some d) oe) (zd : ∃ vs, oe.data = .fields vs) (hk : kSu g h su = true) (hb : bareI ρ h.i = true) {ds : List CH.D} (hv : atsEv ex ρ h.as = some ds)
    (kk : Cont (hdRet h.tup ds ρ) (FlOk pl X.K T L σ Hs H fp ρ D) (fun _ _ => True)) : wSs (X.suite a ((a, oe) :: pn)) su (endsOf D h.i) (stOf σ a h.i) H := by
  have ert : (endsOf D h.i).rt = D.rt := by cases h.i <;> rfl
  unfold kSu at hk
  split at hk
  · rename_i e pos
    refine wSs_of (pss_one (ps_ret (peW (X.suite a ((a, oe) :: pn)) e))) ?_
    show wE (X.suite a ((a, oe) :: pn)) e (stOf σ a h.i) H fun v H' => (endsOf D h.i).rt v H'
    rw [ert]
    unfold hdRet at kk
    by_cases ht : h.tup = true
    · rw [if_pos ht] at hk kk
      split at hk
      · rename_i es x1 ps
        have h1 := and_b hk
        obtain ⟨vs, r, q⟩ := ats_ok (a := a) (oe := oe) (pn := pn) F st xr hm hb z zd h1.2 hv
        split at kk
        · rename_i hl
          refine wE_of (pe_tup (paW (X.suite a ((a, oe) :: pn)) es h1.1)) (q _ ⟨by rw [← r.length, ← line]; exact hl, fun t hn => ?_⟩)
          exact kk σ _ _ _ fp [] (New.post st (New.tup st.ex hn r)).ptsR
        · exact kk.elim
      · cases hk
    · rw [if_neg ht] at hk kk
      cases hds : h.as with
      | nil => rw [hds] at hk; cases hk
      | cons a0 as =>
        cases as with
        | cons => rw [hds] at hk; cases hk
        | nil =>
          rw [hds] at hk hv
          obtain ⟨dv, e1, e2⟩ := Option.bind_eq_some_iff.mp (show ((atEv ex ρ a0).bind fun d => (atsEv ex ρ []).map fun ds => d :: ds) = some ds from hv)
          cases Option.some.inj (show some [dv] = some ds from e2)
          obtain ⟨v, r, q⟩ := at_ok (a := a) (oe := oe) (pn := pn) F st xr hm hb z zd hk e1
          exact q _ (kk σ v H Hs fp [] (Post.val st r).ptsR)
  · cases hk
/-- the clauses, one after the other -/
theorem hds_ok {D : Ends} (F : FitsS g X T Φ W k) : ∀ {hs : List Hd} {hds : List ExceptHandler}, kHds g hs hds = true → ∃ l : List Cls, MixOk X hds l ∧
    ∀ {L : List Addr} {σ : L2.St} {H Hs : Hp} {fp : List Addr} {ρ : Env} {ex : Exn} {C d : Addr}, StOk X.K T L Hs H ρ σ fp → ExRp X.K T Hs H ex C d → Cont (hdEv hs ex ρ) (FlOk pl X.K T L σ Hs H fp ρ D) (XSOk pl X.K T L σ Hs H fp ρ W) → wMix X.K W D l (.ref C) (some d) σ H
  | [], [], _ => ⟨[], .nil, fun st xr kk => kk _ _ _ _ _ _ (Pts.refl st) xr⟩
  | [], _ :: _, h => by simp [kHds] at h
  | _ :: _, [], h => by simp [kHds] at h
  | h :: hs, hd :: hds, hk => by
    unfold kHds at hk
    split at hk
    · rename_i e1 e2; cases e1
    · rename_i h' hs' x np n su p' hds' e1 e2
      cases e1
      cases e2
      simp only [Bool.and_eq_true, Bool.not_eq_true'] at hk
      obtain ⟨⟨⟨⟨⟨⟨h1, h2⟩, h3⟩, h4⟩, h5⟩, h6⟩, h7⟩ := hk
      obtain ⟨l, m1, m2⟩ := hds_ok F h7
      cases hx : g.exs[h.c]? with
      | none => rw [hx] at h1; cases h1
      | some kx =>
        rw [hx] at h1
        have hxn : x = kx.1 := of_decide_eq_true h1
        obtain ⟨Ch, hA, hF, hm, hI, _⟩ := F.ex _ _ hx
        have hsu : ∃ b₀ su', su = b₀ :: su' := by
          unfold kSu at h6
          split at h6
          · exact ⟨_, _, rfl⟩
          · cases h6
        obtain ⟨b₀, su', rfl⟩ := hsu
        have nm : NmOk X n h.i := by
          cases n with
          | none =>
            cases hi : h.i with
            | none => trivial
            | some i => rw [hi] at h4; cases h4
          | some n =>
            cases hi : h.i with
            | none => rw [hi] at h4; cases h4
            | some i =>
              rw [hi] at h4
              have h8 := and_b (show (decide (g.N[i]? = some n) && decide (g.sc.names.lookup n = some .local)) = true from h4)
              refine ⟨by rw [F.n]; exact of_decide_eq_true h8.1, ?_⟩
              show X.env.scope.names.lookup _ = _
              rw [F.sc]
              exact of_decide_eq_true h8.2
        refine ⟨⟨.ref Ch, h.i, fun a cls d D σ H => ∀ (oe : Obj) (pn : List (Addr × Obj)), Zc cls d oe → (∃ vs, oe.data = .fields vs) → wSs (X.suite a ((a, oe) :: pn)) (b₀ :: su') D σ H⟩ :: l, .cons ⟨gl_of F.sc h2, h3, .inl (hxn ▸ hm)⟩ nm ?_ m1, ?_⟩
        · intro a oe cls d pn z zd
          exact ⟨fun pins s σ H D I hh => hh oe pn z zd pins s I⟩
        · intro L σ H Hs fp ρ ex C d st xr kk
          obtain ⟨ky, hy⟩ := F.exR _ _ xr.1
          have hmt : PySem.W.exmOne X.K (.ref C) (.ref Ch) = some (h.ms.contains ex.cls) := by
            obtain ⟨_, hA2, _, _, _, all⟩ := F.ex _ _ hx
            rw [hA] at hA2
            cases hA2
            obtain ⟨C', hc', hexm⟩ := all ex.cls ky hy
            rw [xr.1] at hc'
            cases hc'
            have hms := List.all_eq_true.mp h5 ex.cls (List.mem_range.mpr (List.getElem?_eq_some_iff.mp hy).1)
            rw [hy] at hms
            rw [hexm, eq_of_beq hms]
          refine ⟨h.ms.contains ex.cls, hmt, fun hb a ha oe pn z zd => ?_, fun hb => ?_⟩
          · unfold hdEv at kk
            rw [if_pos hb] at kk
            by_cases hbare : bareI ρ h.i = true
            · rw [if_pos hbare] at kk
              cases hv : atsEv ex ρ h.as with
              | none => rw [hv] at kk; exact kk.elim
              | some ds =>
                rw [hv] at kk
                exact suite_ok (pl := pl) F st xr hb z zd h6 hbare hv (kk.imp (fun _ q => q) fun _ _ _ => trivial)
            · rw [if_neg hbare] at kk
              exact kk.elim
          · unfold hdEv at kk
            rw [if_neg (by rw [hb]; simp)] at kk
            exact m2 st xr kk
    · cases hk
def tryR (hs : List Hd) : R (Fl × Env) → R (Fl × Env)
  | .ok p => .ok p
  | .ex e ρ1 => hdEv hs e ρ1
  | .no => .no
theorem ss_try {b : List Stmt} {hs : List Hd} {hds : List ExceptHandler} {pos : Pos} {r : R (Fl × Env)} (F : FitsS g X T Φ W k) (hne : hds ≠ []) (hk : kHds g hs hds = true)
    (hb : ∀ (W' : WX) (pn : List (Addr × Obj)) (xe : Value → Shared → Prop), FitsS g (X.tr pn xe) T Φ W' k → SSs (X.tr pn xe) T W' pl b ρ r) :
    SS X T W pl (.Try b hds [] [] pos) ρ (tryR hs r) := by
  intro L σ H Hs fp D h kk
  obtain ⟨l, m1, m2⟩ := hds_ok (pl := pl) (D := D) F hk
  cases hds with
  | nil => exact absurd rfl hne
  | cons h0 hds =>
    refine wS_of (ps_mix (tb := fun W' D σ H => ∀ (pn : List (Addr × Obj)) (xe : Value → Shared → Prop), Takes (X.tr pn xe) W' → PassesOwn (model X.prog X.w) X.A X.env xe → wSs (X.tr pn xe) b D σ H) F.sk F.fr F.nd F.tk (fun W' pn xe tk po => ⟨fun pins s σ H D I hh => hh pn xe tk po pins s I⟩) m1) ?_
    intro pn xe tk po
    have F' : FitsS g (X.tr pn xe) T Φ (wMix X.K W D l) k := ⟨⟨F.n, F.nd, F.sc, F.fn, F.calm, F.room, F.gd, F.bt, F.bn, tk, F.dk, F.ex, F.exR, F.fs⟩, po, F.sk, F.fr⟩
    refine hb _ pn xe F' L σ H Hs fp D h ?_
    cases r with
    | no => exact kk.elim
    | ok p => exact kk
    | ex e ρ1 =>
      intro σ' H' Hs' fp' C d q xr
      exact m2 q.st xr (later_cont kk q)
end
end CH
end
section
namespace CH
open PySem L2 Evl PyProof.Rows
variable {T : Tab} {Φ : Phi} {pl : List Nat}
theorem ss_fin {X : Cx} {W : WX} {st : Stmt} {ρ : Env} {r r' : R (Fl × Env)} (h : SS X T W pl st ρ r) (q : r = r') : SS X T W pl st ρ r' := q ▸ h
theorem sss_fin {X : Cx} {W : WX} {st : List Stmt} {ρ : Env} {r r' : R (Fl × Env)} (h : SSs X T W pl st ρ r) (q : r = r') : SSs X T W pl st ρ r' := q ▸ h
theorem ss_no {X : Cx} {W : WX} {st : Stmt} {ρ : Env} : SS X T W pl st ρ .no := fun _ _ _ _ _ _ _ k => k.elim
theorem nm_parts {X : Cx} {g : Sg} {W : WX} {k : Nat} (F : Fits g X T Φ W k) {i : Nat} {y : Str} {py : Pos} (h : tgNm g.N g.sc g.fn i (.Name y py) = true) : X.N[i]? = some y ∧ Loc X.env.scope y ∧ (X.fn y = true ∨ X.env.scope.names.lookup y = some .local) := by
  simp only [tgNm, Bool.and_eq_true, decide_eq_true_eq, Bool.or_eq_true] at h
  obtain ⟨⟨h1, h2⟩, h3⟩ := h
  refine ⟨by rw [F.n]; exact h1, loc_of F.sc h2, ?_⟩
  rcases h3 with h3 | h3
  · exact .inl (by rw [F.fn]; exact h3)
  · exact .inr (by rw [F.sc]; exact h3)
mutual
theorem snS : ∀ (s : CS) {g : Sg} {X : Cx} {W : WX} {k : Nat} {st : Stmt} {ρ : Env}, FitsS g X T Φ W k → chkS g s st = true → SS X T W pl st ρ (evS Φ pl s ρ)
  | .nop, g, X, W, k, st, ρ, F, h => by
    rw [evS]
    simp only [chkS] at h
    unfold nopB at h
    split at h
    · exact ss_nop ps_pass
    · exact ss_nop ps_doc
    · exact ss_nop ps_global
    · cases h
  | .brk, g, X, W, k, st, ρ, F, h => by
    rw [evS]
    simp only [chkS] at h
    unfold brkB at h
    split at h
    · exact ss_brk
    · cases h
  | .cont, g, X, W, k, st, ρ, F, h => by
    rw [evS]
    simp only [chkS] at h
    unfold contB at h
    split at h
    · exact ss_cont
    · cases h
  | .retN, g, X, W, k, st, ρ, F, h => by
    rw [evS]
    simp only [chkS] at h
    unfold retNB at h
    split at h
    · exact ss_retN
    · cases h
  | .frz i, g, X, W, k, st, ρ, F, h => by simp [chkS] at h
  | .ex e, g, X, W, k, st, ρ, F, h => by
    rw [evS]
    simp only [chkS] at h
    unfold kEx at h
    split at h
    · have h1 := and_b h
      exact ss_ex (drop_sw h1.1) (snE e F.toFits h1.2)
    · cases h
  | .set i e, g, X, W, k, st, ρ, F, h => by
    rw [evS]
    simp only [chkS] at h
    unfold kSet at h
    split at h
    · rename_i y py x pos
      have h1 := and_b h
      have h2 := and_b h1.1
      obtain ⟨z1, z2, z3⟩ := nm_parts F.toFits h2.1
      have h3 : plainSetB g.sc y py x = true ∨ (isLc e && swapSetB g.sc y py x) = true := by rw [← Bool.or_eq_true]; exact h1.2
      rcases h3 with h3 | h3
      · exact ss_set (ps_set F.nd z1 z2 (peW X x) (plain_sw F.sc h3) z3) (snE e F.toFits h2.2)
      · have h4 := and_b h3
        cases e with
        | lc elt tg it cs =>
          obtain ⟨t, t1, t2⟩ := sr_lc (pl := pl) F.toFits h2.2
          have h5 := h4.2
          unfold swapSetB at h5
          split at h5
          · have q1 := and_b h5
            have q2 := and_b q1.1
            have q3 := and_b q2.1
            have l1 : X.env.scope.names.lookup y = some .local := by rw [F.sc]; exact of_decide_eq_true q3.2
            refine ss_set (t2 z1 l1 (sw_true (by rw [F.sc]; exact of_decide_eq_true q3.1) l1 q2.2 ?_)) (t1 ρ)
            simpa using q1.2
          · cases h5
        | lc2 elt tg it cs tg1 it1 cs1 =>
          obtain ⟨t, t1, t2⟩ := sr_lc2 (ρ := ρ) (pl := pl) F.toFits h2.2
          have h5 := h4.2
          unfold swapSetB at h5
          split at h5
          · have q1 := and_b h5
            have q2 := and_b q1.1
            have q3 := and_b q2.1
            have l1 : X.env.scope.names.lookup y = some .local := by rw [F.sc]; exact of_decide_eq_true q3.2
            refine ss_set (t2 z1 l1 (sw_true (by rw [F.sc]; exact of_decide_eq_true q3.1) l1 q2.2 ?_)) t1
            simpa using q1.2
          · cases h5
        | _ => simp [isLc] at h4
    · cases h
  | .setT is e, g, X, W, k, st, ρ, F, h => by
    rw [evS]
    simp only [chkS] at h
    unfold kSetT at h
    split at h
    · have h1 := and_b h
      have h2 := and_b h1.1
      have h3 := and_b h2.1
      obtain ⟨q1, q2⟩ := tup_sw (l := _) (env := X.env) h3.2
      exact ss_setT (tg := .tup is) (ps_asg (peW X _) (tg_pg F.nd F.sc F.fn F.calm (by rw [F.n]; exact h3.1)) q1 q2 (by rw [asg_cons (by simpa using h1.2)]; rfl)) (snE e F.toFits h2.2)
    · cases h
  | .setF i p f e, g, X, W, k, st, ρ, F, h => by simp [chkS] at h
  | .setX i p ix e, g, X, W, k, st, ρ, F, h => by
    simp only [chkS] at h
    unfold kSetX at h
    split at h
    · have h1 := and_b h
      have h2 := and_b h1.1
      have h3 := and_b h2.1
      cases p with
      | nil =>
        rw [evS]
        obtain ⟨q1, q2⟩ := sub_sw (l := _) (env := X.env)
        exact ss_setX F.sc (by rw [F.n]; exact h3.2) h2.2 q1 q2 (snEs (.cons e (.cons ix .nil)) F.toFits h1.2)
      | cons => simp at h3
    · cases h
  | .ret e, g, X, W, k, st, ρ, F, h => by
    rw [evS]
    simp only [chkS] at h
    unfold kRet at h
    split at h
    · exact ss_ret (snE e F.toFits h)
    · cases h
  | .ife t a b, g, X, W, k, st, ρ, F, h => by
    rw [evS]
    simp only [chkS] at h
    unfold kIf at h
    split at h
    · have h1 := and_b h
      have h2 := and_b h1.1
      exact ss_ife (snT t F.toFits h2.1) (fun ρ1 => snSs a F h2.2) (fun ρ1 => snSs b F h1.2)
    · cases h
  | .whl t a, g, X, W, k, st, ρ, F, h => by
    rw [evS]
    simp only [chkS] at h
    unfold kWhl at h
    split at h
    · have h1 := and_b h
      exact ss_whl F.po (fun ρ1 => snT t F.toFits h1.1) (fun ρ1 => snSs a F h1.2)
    · cases h
  | .for_ tg it a, g, X, W, k, st, ρ, F, h => by
    rw [evS]
    simp only [chkS] at h
    unfold kFor at h
    split at h
    · have h1 := and_b h
      have h2 := and_b h1.1
      have h3 := and_b h2.1
      have h22 := and_b h2.2
      obtain ⟨w0, w2⟩ := snI (pl := pl) it F.toFits h22.2
      have w1 := w0 _ h22.1
      exact ss_for (bk := backI it ρ) F.po F.calm w1 (tg_pg F.nd F.sc F.fn F.calm (by rw [F.n]; exact h3.1)) h3.2 (w2 ρ) fun ρ1 => snSs a F h1.2
    · cases h
  | .raise c n as, g, X, W, k, st, ρ, F, h => by
    rw [evS]
    simp only [chkS] at h
    unfold kRaise at h
    split at h
    · rename_i x p es pos p2
      simp only [Bool.and_eq_true, Bool.not_eq_true'] at h
      obtain ⟨⟨⟨⟨⟨h1, h2⟩, h3⟩, h4⟩, h5⟩, h6⟩ := h
      cases hx : g.exs[c]? with
      | none => rw [hx] at h1; cases h1
      | some kx =>
        rw [hx] at h1
        simp only [Bool.and_eq_true, decide_eq_true_eq, Bool.not_eq_true', List.isEmpty_eq_false_iff] at h1
        exact ss_raise F hx h1.1.1 h1.1.2 h1.2 (gl_of F.sc h2) h3 (by simpa using h4) h5 (snEs as F.toFits h6)
    · cases h
  | .tr b hs, g, X, W, k, st, ρ, F, h => by
    rw [evS]
    simp only [chkS] at h
    unfold kTry at h
    split at h
    · rename_i tb th tpos
      simp only [Bool.and_eq_true, Bool.not_eq_true'] at h
      obtain ⟨⟨h1, h2⟩, h3⟩ := h
      have q := ss_try (pos := tpos) (ρ := ρ) F (by simpa using h1) h2 fun W' pn xe F' => snSs b F' h3
      have e : tryR hs (evSs Φ pl b ρ) = (match evSs Φ pl b ρ with
        | .ok p => .ok p
        | .ex e ρ1 => hdEv hs e ρ1
        | .no => .no) := by cases evSs Φ pl b ρ <;> rfl
      rw [e] at q
      exact q
    · cases h
theorem snSs : ∀ (s : CSs) {g : Sg} {X : Cx} {W : WX} {k : Nat} {st : List Stmt} {ρ : Env}, FitsS g X T Φ W k → chkSs g s st = true → SSs X T W pl st ρ (evSs Φ pl s ρ)
  | .nil, g, X, W, k, st, ρ, F, h => by
    rw [evSs]
    simp only [chkSs] at h
    cases st with
    | nil => exact sss_nil
    | cons => simp at h
  | .cons s r, g, X, W, k, st, ρ, F, h => by
    rw [evSs]
    simp only [chkSs] at h
    unfold kSs at h
    by_cases hz : isFrz s = true
    · rw [if_pos hz] at h
      cases s with
      | frz i =>
        refine sss_fin (sss_frz (i := i) fun ρ1 => snSs r F h) ?_
        rw [evS]
        cases Env.own ρ i <;> rfl
      | _ => cases hz
    · rw [if_neg hz] at h
      cases st with
      | nil => cases h
      | cons st sts =>
        have h1 := and_b h
        refine sss_fin (sss_cons (snS s F h1.1) fun ρ1 => snSs r F h1.2) ?_
        cases evS Φ pl s ρ with
        | ok p => obtain ⟨f, ρ1⟩ := p; cases f <;> rfl
        | ex => rfl
        | no => rfl
end
section
variable {K : PySem.W.Frag} {Hs H Hs' H' : Hp} {L : List Addr}
theorem RpS.pad : ∀ {ρ : Env} {σ : L2.St} {fp : List Addr} (n : Nat), RpS K T Hs H L ρ σ fp → RpS K T Hs H L (ρ ++ List.replicate n .no) (σ ++ List.replicate n none) fp
  | _, _, _, 0, .nil => by simpa using RpS.nil
  | _, _, _, n + 1, .nil => by
    rw [List.nil_append, List.nil_append, List.replicate_succ, List.replicate_succ]
    exact .no (by simpa using RpS.pad n (RpS.nil : RpS K T Hs H L [] [] []))
  | _, _, _, n, .no r => .no (r.pad n)
  | _, _, _, n, .ow h r => .ow h (r.pad n)
  | _, _, _, n, .lk h l r => .lk h l (r.pad n)
theorem outs_set {pl : List Nat} {ρ : Env} {n : Nat} {s : Sl} : ∀ {ts : List OT} {m : Nat}, n < m → outs pl (ρ.set n s) m ts = outs pl ρ m ts
  | [], m, h => rfl
  | t :: ts, m, h => by
    unfold outs
    rw [outs_set (ts := ts) (m := m + 1) (by omega)]
    have e : Env.own (ρ.set n s) m = Env.own ρ m := by unfold Env.own; rw [List.getElem?_set_ne (by omega)]
    rw [e]
theorem outs_ok {pl : List Nat} {Hs0 H0 : Hp} {σ : L2.St} : ∀ {ts ws : List OT} {n : Nat} {vs : List V} {ρ : Env} {f0 fp : List Addr}, outs pl ρ n ts = some ws → RpS K T Hs0 H0 [] (ts.map .ow) (vs.map some) f0 → Ex Hs0 Hs →
    (∀ i v, vs[i]? = some v → n + i ∈ pl → σ[n + i]? = some (some v)) → RpS K T Hs H [] ρ σ fp → ∃ fc fr ρ', RpS K T Hs H [] (ws.map .ow) (vs.map some) fc ∧ RpS K T Hs H [] ρ' σ fr ∧ fp.Perm (fc ++ fr)
  | [], ws, n, vs, ρ, f0, fp, h, r0, ex, hv, r => by
    cases Option.some.inj (show some [] = some ws from h)
    cases vs with
    | nil => exact ⟨[], fp, ρ, .nil, r, .refl _⟩
    | cons => cases r0
  | t :: ts, ws, n, [], ρ, f0, fp, h, r0, ex, hv, r => by cases r0
  | t :: ts, ws, n, v :: vs, ρ, f0, fp, h, r0, ex, hv, r => by
    obtain ⟨u, h1, h2⟩ := Option.bind_eq_some_iff.mp h
    obtain ⟨us, h3, rfl⟩ := Option.map_eq_some_iff.mp h2
    have hv' : ∀ i w, vs[i]? = some w → n + 1 + i ∈ pl → σ[n + 1 + i]? = some (some w) := fun i w e m => by
      have := hv (i + 1) w (by simpa using e) (by rw [show n + (i + 1) = n + 1 + i by omega]; exact m)
      rwa [show n + (i + 1) = n + 1 + i by omega] at this
    cases r0 with
    | ow h0 r0 =>
      split at h1
      · rename_i hp
        have hp : n ∈ pl := by simpa using hp
        obtain ⟨v', f, fr, q1, q2, q3, q4⟩ := r.takeOut (own_get h1)
        have e0 := hv 0 v rfl (by simpa using hp)
        simp only [Nat.add_zero] at e0
        rw [e0] at q1
        cases q1
        obtain ⟨fc, fr', ρ', k1, k2, k3⟩ := outs_ok (by rw [outs_set (by omega)]; exact h3) r0 ex hv' q4
        refine ⟨f ++ fc, fr', ρ', .ow q2 k1, k2, q3.trans ?_⟩
        rw [List.append_assoc]
        exact List.Perm.append_left f k3
      · split at h1
        · rename_i d
          cases Option.some.inj h1
          cases h0 with
          | sh h0 =>
            obtain ⟨fc, fr', ρ', k1, k2, k3⟩ := outs_ok h3 r0 ex hv' r
            exact ⟨fc, fr', ρ', RpS.ow (f := []) (.sh (h0.mono ex)) k1, k2, k3⟩
        · cases h1
end
/-- the slots by reference come first -/
def plOk (pl : List Nat) (np : Nat) : Bool := pl.all fun j => decide (j < np)
theorem start_get {N : List Str} {vs : List V} {j : Nat} {v : V} (h : vs[j]? = some v) : (L2.start N vs)[j]? = some (some v) := by
  unfold L2.start
  have hj : j < vs.length := (List.getElem?_eq_some_iff.mp h).1
  rw [List.getElem?_append_left (by simpa using hj), List.getElem?_map, h]; rfl
structure Ent where
  name : Str
  st : Stmt
  N : List Str
  ps : List Str
  fn : Fn
def Ent.sg (e : Ent) (bn : List Str) (name : Nat → Str) (ar : Nat → Option Nat) (dcs : List (Str × List (Str × Int))) (exs : List ExC) : Sg := ⟨e.N, defScope e.st, fun _ => true, bn, name, ar, dcs, exs⟩
def scopeB (N P : List Str) (sc : Scope) : Bool := decide (sc.kind = .function) && !sc.isCoroutine && !sc.isGenerator && decide N.Nodup && decide (N.take P.length = P) && (P.all fun x => decide (sc.names.lookup x = some .local) || decide (sc.names.lookup x = some .cell)) && (sc.names.all fun y => !decide (y.2 = .free))
theorem scope_ok {N P : List Str} {sc : Scope} (h : scopeB N P sc = true) : FnScope N P sc := by
  unfold scopeB at h
  simp only [Bool.and_eq_true, List.all_eq_true, Bool.not_eq_true', decide_eq_true_eq, Bool.or_eq_true, decide_eq_false_iff_not] at h
  obtain ⟨⟨⟨⟨⟨⟨h1, h2⟩, h3⟩, h4⟩, h5⟩, h6⟩, h7⟩ := h
  exact ⟨h1, h2, h3, h4, h5, h6, h7⟩
def Ent.ok (e : Ent) (bn : List Str) (name : Nat → Str) (ar : Nat → Option Nat) (dcs : List (Str × List (Str × Int))) (exs : List ExC) : Bool := scopeB e.N e.ps (defScope e.st) && decide (e.fn.np = e.ps.length) && decide (e.fn.nv = e.N.length) && plOk e.fn.pl e.fn.np && chkSs (e.sg bn name ar dcs exs) e.fn.body (defBody e.st)
section
variable {P : Program} {w : World} {K : PySem.W.Frag} {mg : Str → Option Value} {base : Heap}
theorem fn_ok {x qual : Str} {e : Ent} {f : Addr} {fd : FuncData} {k : Nat} {name : Nat → Str} {ar : Nat → Option Nat} {dcs : List (Str × List (Str × Int))} {exs : List ExC} (F : Fun K x qual e.st f fd) (h : e.ok T.bn name ar dcs exs = true) (hx : ∀ c k, exs[c]? = some k → ExOk P K mg T exs c k) (hxR : ∀ c C, T.exA c = some C → ∃ k, exs[c]? = some k) (hd : ∀ x kvs, dcs.lookup x = some kvs → DctK K w mg x kvs) (hb : ∀ x ∈ T.bn, mg x = none)
    (fs : ∀ f n, ar f = some n → ∃ a fd ps, ps.length = n ∧ FnG P w K mg base k a fd ps (spF K T (Φ f) ps.length) ∧ mg (name f) = some (.ref a) ∧ PySem.W.keepIn K (.ref a) = true ∧ Binds K fd ps [] ∧ ∀ us, Φ f us ≠ .no → us.length = n) :
    FnG P w K mg base (k + 1) f fd e.ps (spF K T (e.fn.run Φ) e.ps.length) := by
  unfold Ent.ok at h
  simp only [Bool.and_eq_true, decide_eq_true_eq] at h
  obtain ⟨⟨⟨⟨h1, h2⟩, h3⟩, h4⟩, h5⟩ := h
  have S := scope_ok h1
  refine fun_G F S (fun vs H Q E q => q.1) fun cdv A outer s H vs Q E gd hr q => ⟨_, pssW _ _, ?_⟩
  obtain ⟨hl, us, Hs, fc, st, kk⟩ := q
  generalize hX : cxOf (L2.CX P w) P w K mg base e.N qual (defScope e.st) f cdv A outer s H E = X
  have FS : FitsS (e.sg T.bn name ar dcs exs) X T Φ (fun cls d _ H => E cls d H) k := by
    subst hX
    exact ⟨⟨rfl, S.nd, rfl, rfl, rfl, hr, gd, rfl, hb, takes_of rfl rfl rfl rfl, hd, hx, hxR, fs⟩, passes_of rfl, rfl, rfl⟩
  have hXK : X.K = K := by subst hX; rfl
  have lus : us.length = vs.length := by have := st.rs.length; simpa using this
  have pl_lt : ∀ j ∈ e.fn.pl, j < vs.length := fun j hj => by
    unfold plOk at h4
    rw [List.all_eq_true] at h4
    have := of_decide_eq_true (h4 j hj)
    omega
  have st0 : StOk X.K T [] Hs H (us.map .ow ++ List.replicate (e.fn.nv - e.fn.np) .no) (L2.start e.N vs) fc := by
    rw [hXK]
    refine ⟨st.ex, ?_, st.nd, st.nf, fun a ha => absurd ha (by simp), fun a ha => absurd ha (by simp)⟩
    have := st.rs.pad (e.fn.nv - e.fn.np)
    rw [show L2.start e.N vs = vs.map some ++ List.replicate (e.fn.nv - e.fn.np) none by unfold L2.start; rw [h3, h2, hl]]
    exact this
  refine snSs (pl := e.fn.pl) e.fn.body FS h5 [] (L2.start e.N vs) H Hs fc _ st0 ?_
  have hpv : ∀ {σ' : L2.St}, (∀ j ∈ e.fn.pl, σ'[j]? = (L2.start e.N vs)[j]?) → ∀ i v, vs[i]? = some v → 0 + i ∈ e.fn.pl → σ'[0 + i]? = some (some v) := fun {σ'} hσ i v e1 hi => by
    rw [Nat.zero_add] at hi ⊢
    rw [hσ i hi]
    exact start_get e1
  have k := kk
  unfold Fn.run at k
  rw [if_pos (by omega)] at k
  cases hev : evSs Φ e.fn.pl e.fn.body (us.map .ow ++ List.replicate (e.fn.nv - e.fn.np) .no) with
  | no => rw [hev] at k; exact k.elim
  | ex ee ρ' =>
    rw [hev] at k
    intro σ' H' Hs' fp' C d q xr
    rw [hXK] at q xr
    exact k H' Hs' C d q.st.ex (q.sp.sub fun a ha => absurd ha (by simp)) xr
  | ok fr =>
    obtain ⟨fl, ρ'⟩ := fr
    rw [hev] at k
    cases fl with
    | brk => exact k.elim
    | ct => exact k.elim
    | nx =>
      intro σ' H' Hs' fp' q
      rw [hXK] at q
      have k : Cont (R.ofO ((outs e.fn.pl ρ' 0 us).map fun us => (OT.sh .non, us))) _ _ := k
      cases ho : outs e.fn.pl ρ' 0 us with
      | none => rw [ho] at k; exact k.elim
      | some ws =>
        rw [ho] at k
        obtain ⟨fc', fr', ρ2, k1, k2, k3⟩ := outs_ok ho st.rs q.sp.ex (hpv q.pv) q.st.rs
        have d := List.nodup_append.mp (k3.nodup_iff.mp q.st.nd)
        have m : ∀ a ∈ fc', a ∈ fp' := fun a ha => k3.mem_iff.mpr (by simp [ha])
        exact k .non H' Hs' fc' [] ⟨q.st.ex, k1, d.1, fun a ha => q.st.nf a (m a ha), fun a ha => absurd ha (by simp), fun a ha => absurd ha (by simp)⟩ (.sh .non) (by simpa using d.1) (fun a ha => absurd ha (by simp)) (q.sp.sub fun a ha => m a (by simpa using ha))
    | rt t =>
      intro σ' v H' Hs' fp' ft q
      rw [hXK] at q
      have k : Cont (R.ofO ((outs e.fn.pl ρ' 0 us).map fun us => (t, us))) _ _ := k
      cases ho : outs e.fn.pl ρ' 0 us with
      | none => rw [ho] at k; exact k.elim
      | some ws =>
        rw [ho] at k
        obtain ⟨fc', fr', ρ2, k1, k2, k3⟩ := outs_ok ho st.rs q.sp.ex (hpv q.pv) q.st.rs
        have d := List.nodup_append.mp (k3.nodup_iff.mp q.st.nd)
        have m : ∀ a ∈ fc', a ∈ fp' := fun a ha => k3.mem_iff.mpr (by simp [ha])
        have dn := List.nodup_append.mp q.nd
        exact k v H' Hs' fc' ft ⟨q.st.ex, k1, d.1, fun a ha => q.st.nf a (m a ha), fun a ha => absurd ha (by simp), fun a ha => absurd ha (by simp)⟩ q.rp (List.nodup_append.mpr ⟨dn.1, d.1, fun a ha b hb => dn.2.2 a ha b (m b hb)⟩) q.nf (q.sp.sub fun a ha => (List.mem_append.mp ha).elim (fun z => by simp [z]) fun z => by simp [m a z])
end
end CH
end
section
namespace CH
open PySem L2 Evl PyProof.Rows
/-- a def as it stands behind the top -/
structure Here (K : PySem.W.Frag) (mg : Str → Option Value) (e : Ent) (a : Addr) (fd : FuncData) : Prop where
  F : Fun K e.name e.name e.st a fd
  m : mg e.name = some (.ref a)
  b : Binds K fd e.ps []
theorem here_mk {e : Ent} {K : PySem.W.Frag} {h : Heap} {mg : Str → Option Value} (X : K.In h) (G : h.Ns mainGlobals mg) {a : Addr} {oc kV doc pm cdv ct : Value} {od an : Option Addr} {osl : Array (Option Value)} (n : PySem.W.nsIn K mainGlobals e.name = some (some (.ref a)))
    (l : K.lookup a = some ⟨oc, od, .func (PySem.W.fnOf e.name e.name (defArgs e.st) (defBody e.st) (defScope e.st) .none kV doc pm an cdv ct), osl⟩) (c : PySem.W.codeIn K cdv e.name = true) (k : PySem.W.keepIn K (.ref a) = true)
    (hb : ∀ (kV doc pm : Value) (an : Option Addr) (cdv ct : Value) (us : List Value), us.length = e.ps.length → bindArgs (PySem.W.fnOf e.name e.name (defArgs e.st) (defBody e.st) (defScope e.st) .none kV doc pm an cdv ct) ⟨us, []⟩ = pure (e.ps.zip us)) :
    ∃ a fd, Here K mg e a fd := by
  have F := fun_mk (st := e.st) l c k
  exact ⟨a, _, F, PySem.W.mg_of X G n, F.binds hb⟩
def nmOf (ents : List Ent) (f : Nat) : Str := match ents[f]? with
  | some e => e.name
  | none => ""
def arOf (ents : List Ent) (f : Nat) : Option Nat := (ents[f]?).map fun e => e.ps.length
def tbOf (ents : List Ent) (f : Nat) : Option Fn := (ents[f]?).map (·.fn)
theorem pick {K : PySem.W.Frag} {mg : Str → Option Value} : ∀ {ents : List Ent}, (∀ e ∈ ents, ∃ a fd, Here K mg e a fd) → ∃ (A : Nat → Addr) (FD : Nat → FuncData), ∀ i e, ents[i]? = some e → Here K mg e (A i) (FD i)
  | [], _ => ⟨fun _ => 0, fun _ => (PySem.W.fnOf "" "" (defArgs (.Pass ⟨0, 0, 0, 0⟩)) [] (defScope (.Pass ⟨0, 0, 0, 0⟩)) .none .none .none .none none .none .none), fun i e h => by simp at h⟩
  | e0 :: r, h => by
    obtain ⟨a, fd, h0⟩ := h e0 (by simp)
    obtain ⟨A, FD, h1⟩ := pick (ents := r) fun e he => h e (by simp [he])
    refine ⟨fun i => match i with
      | 0 => a
      | i + 1 => A i, fun i => match i with
      | 0 => fd
      | i + 1 => FD i, fun i e q => ?_⟩
    cases i with
    | zero => cases (Option.some.inj (show some e0 = some e from q)); exact h0
    | succ i => exact h1 i e (by simpa using q)
/-- where a class of the text stands -/
def clsAt (K : PySem.W.Frag) (x : Str) : Option Addr := match PySem.W.nsIn K mainGlobals x with
  | some (some (.ref C)) => some C
  | _ => none
def tabOf (K : PySem.W.Frag) (bn : List Str) (exs : List ExC) : Tab := ⟨fun _ => none, fun _ => none, fun c => (exs[c]?).bind fun k => clsAt K k.1, fun c => match exs[c]? with
  | some k => k.2.1
  | none => [], fun _ => "", fun _ => "", bn⟩
/-- what is said of a class of the text -/
def ExK (prog : Program) (K : PySem.W.Frag) (mg : Str → Option Value) (exs : List ExC) (c : Nat) (k : ExC) : Prop := ∃ C, clsAt K k.1 = some C ∧ mg k.1 = some (.ref C) ∧ (k.2.1 ≠ [] → ∃ fI, ExTxt prog K mg C fI k.2.1) ∧
  ∀ (c' : Nat) (k' : ExC), exs[c']? = some k' → ∃ C', clsAt K k'.1 = some C' ∧ PySem.W.exmOne K (.ref C') (.ref C) = some (k'.2.2.contains c)
/-- the classes of a text beside one of them -/
def ExmAll (K : PySem.W.Frag) (C : Addr) (c : Nat) : List ExC → Prop
  | [] => True
  | k :: r => (∃ C', clsAt K k.1 = some C' ∧ PySem.W.exmOne K (.ref C') (.ref C) = some (k.2.2.contains c)) ∧ ExmAll K C c r
theorem exmAll_get {K : PySem.W.Frag} {C : Addr} {c : Nat} : ∀ {l : List ExC} {c' : Nat} {k' : ExC}, ExmAll K C c l → l[c']? = some k' → ∃ C', clsAt K k'.1 = some C' ∧ PySem.W.exmOne K (.ref C') (.ref C) = some (k'.2.2.contains c)
  | k :: r, 0, k', h, e => by cases (Option.some.inj (show some k = some k' from e)); exact h.1
  | k :: r, c' + 1, k', h, e => exmAll_get h.2 (by simpa using e)
  | [], _, _, _, e => by simp at e
theorem clsAt_of {K : PySem.W.Frag} {x : Str} {C : Addr} (n : PySem.W.nsIn K mainGlobals x = some (some (.ref C))) : clsAt K x = some C := by unfold clsAt; rw [n]
theorem exk_mk {prog : Program} {K : PySem.W.Frag} {mg : Str → Option Value} {h : Heap} {exs : List ExC} {c : Nat} {k : ExC} {C : Addr} (X : K.In h) (G : h.Ns mainGlobals mg) (n : PySem.W.nsIn K mainGlobals k.1 = some (some (.ref C))) (t : k.2.1 ≠ [] → ∃ fI, ExTxt prog K mg C fI k.2.1) (m : ExmAll K C c exs) : ExK prog K mg exs c k :=
  ⟨C, clsAt_of n, PySem.W.mg_of X G n, t, fun _ _ e => exmAll_get m e⟩
/-- the text of a class over ValueError whose __init__ says super().__init__('..') and stores its parameters, from the facts one by one -/
theorem ext_mk {prog : Program} {K : PySem.W.Frag} {mg : Str → Option Value} {h : Heap} {C fI : Addr} {fs : List Str} (X : K.In h) (G : h.Ns mainGlobals mg)
    {nm q : Str} {N : Addr} {bs bm : List Value} {sn : List Str} {sub : List Value} {ab : Bool} {col : Option Bool} {dd : Option Addr} {k0 k1 k2 k3 k5 : Option Value}
    (cl : K.lookup C = some (excClassObj nm q C N bs bm true sn sub ab col dd k0 k1 k2 k3 k5 "ValueError.__new__")) (rv : PySem.HandSPX.refsVE bm = true)
    (sa : PySem.W.findIn K (.ref C) "__setattr__" = some (some (.builtin "object.__setattr__"))) (ga : PySem.W.findIn K (.ref C) "__getattribute__" = some (some (.builtin "BaseException.__getattribute__"))) (gg : PySem.W.findIn K (.ref C) "__getattr__" = some none)
    (noN : ∀ f ∈ fs, PySem.W.findIn K (.ref C) f = some none) (iC : PySem.W.findIn K (.ref C) "__init__" = some (some (.ref fI))) (tC : PySem.W.typeIn K (.ref fI) = some (.type "function")) (kC : PySem.W.keepIn K (.ref C) = true)
    (exC : PySem.W.subIn K (.ref C) (.type "BaseException") = some true) (veC : PySem.W.subIn K (.ref C) (.type "ValueError") = some true) (tyC : PySem.W.typeIn K (.ref C) = some (.type "type")) (hdC : PySem.W.hasDictIn K C = true)
    (sup : PySem.W.ks_superIn K C C "__init__" = some (some (.builtin "ValueError.__init__"))) (meC : PySem.W.mroIn K C (.ref C) = some true) (noS : PySem.W.nsIn K mainGlobals "super" = some none) (opq : PySem.W.nsIn K cStatics "thirdparty.any" = some none)
    (top : (prog.main.scope.names.lookup ("super" : Str)).isSome = false) (fld : ∀ f ∈ fs, (f == ("__debug__" : Str)) = false ∧ f ≠ ("self" : Str)) (nd : fs.Nodup) (few : fs.length ≤ 8)
    {oc : Value} {od : Option Addr} {doc pm : Value} {an : Option Addr} {cda cc : Addr} {ct : Value} {osl : Array (Option Value)} {qual : Str} {params : Arguments} {body : List Stmt} {scope : Scope}
    (lf : K.lookup fI = some ⟨oc, od, .func (PySem.W.ksFn "__init__" qual params body scope .none .none doc pm an (.ref cda) ct cc), osl⟩) (cd : PySem.W.codeIn K (.ref cda) qual = true)
    {ccl : Value} {cdd : Option Addr} {vs : Array Value} {ccs : Array (Option Value)} {file : Str} {tf : Tok} (lc : K.lookup cda = some ⟨ccl, cdd, .fields vs, ccs⟩) (v2 : vs[2]? = some (.str file tf)) (fl : ((prog.main.file : Str) == file) = true)
    {cl' : Value} {cld : Option Addr} {csl : Array (Option Value)} (lcc : K.lookup cc = some ⟨cl', cld, .cell (some (.ref C)), csl⟩)
    (sf : ∃ ar : Arg, (params.posonlyargs ++ params.args).head? = some ar ∧ ar.arg = "self")
    (bd : ∀ (s : Shared) (u : Value) (vs : List Value), vs.length = fs.length → BindsTo s (PySem.W.ksFn "__init__" qual params body scope .none .none doc pm an (.ref cda) ct cc) ⟨u :: vs, []⟩ (("self", u) :: fs.zip vs))
    (sc : scope.names.lookup ("super" : Str) = some .globalImplicit ∧ scope.names.lookup ("__class__" : Str) = some .free ∧ scope.names.lookup ("self" : Str) = some .local ∧ (∀ f ∈ fs, scope.names.lookup f = some .local) ∧ (∀ x ∈ scope.names, x.2 ≠ .cell) ∧ scope.isCoroutine = false ∧ scope.isGenerator = false ∧ scope.kind = .function)
    (ini : InitIs fs body) : fs ≠ [] → ∃ fI, ExTxt prog K mg C fI fs := fun _ =>
  ⟨fI, ⟨_, _, _, _, _, _, _, _, _, _, _, _, _, _, _, cl, rv⟩, sa, ga, gg, noN, iC, tC, kC, exC, veC, tyC, hdC, sup, meC, PySem.W.mg_none_of X G noS, opq, top, fld, nd, few,
    _, _, _, _, _, _, _, _, _, _, _, _, _, lf, cd, ⟨_, _, _, _, _, _, lc, v2, fl⟩, ⟨_, _, _, lcc⟩, sf, bd, sc.1, sc.2.1, sc.2.2.1, sc.2.2.2.1, sc.2.2.2.2.1, sc.2.2.2.2.2.1, sc.2.2.2.2.2.2.1, sc.2.2.2.2.2.2.2, ini⟩
theorem exs_nil {prog : Program} {K : PySem.W.Frag} {mg : Str → Option Value} : ∀ (c : Nat) (k : ExC), ([] : List ExC)[c]? = some k → ExK prog K mg [] c k := fun c k e => by simp at e
/-- class by class -/
def ExAll (prog : Program) (K : PySem.W.Frag) (mg : Str → Option Value) (exs : List ExC) : Nat → List ExC → Prop
  | _, [] => True
  | c, k :: r => ExK prog K mg exs c k ∧ ExAll prog K mg exs (c + 1) r
theorem exAll_get {prog : Program} {K : PySem.W.Frag} {mg : Str → Option Value} {exs : List ExC} : ∀ {l : List ExC} {n c : Nat} {k : ExC}, ExAll prog K mg exs n l → l[c]? = some k → ExK prog K mg exs (n + c) k
  | k :: r, n, 0, k', h, e => by cases (Option.some.inj (show some k = some k' from e)); exact h.1
  | k :: r, n, c + 1, k', h, e => by
    have := exAll_get (n := n + 1) (c := c) h.2 (by simpa using e)
    rw [show n + (c + 1) = n + 1 + c by omega]; exact this
  | [], _, _, _, _, e => by simp at e
theorem exs_all {prog : Program} {K : PySem.W.Frag} {mg : Str → Option Value} {exs : List ExC} (h : ExAll prog K mg exs 0 exs) : ∀ (c : Nat) (k : ExC), exs[c]? = some k → ExK prog K mg exs c k := fun c k e => by
  have := exAll_get h e
  rwa [Nat.zero_add] at this
theorem exk_ok {prog : Program} {K : PySem.W.Frag} {mg : Str → Option Value} {bn : List Str} {exs : List ExC} (h : ∀ c k, exs[c]? = some k → ExK prog K mg exs c k) : (∀ c k, exs[c]? = some k → ExOk prog K mg (tabOf K bn exs) exs c k) ∧ ∀ c C, (tabOf K bn exs).exA c = some C → ∃ k, exs[c]? = some k := by
  refine ⟨fun c k e => ?_, fun c C e => ?_⟩
  · obtain ⟨C, h1, h2, h3, h4⟩ := h c k e
    refine ⟨C, ?_, ?_, h2, h3, fun c' k' e' => ?_⟩
    · show (exs[c]?).bind _ = _
      rw [e]; exact h1
    · show (match exs[c]? with
        | some k => k.2.1
        | none => []) = _
      rw [e]
    · obtain ⟨C', q1, q2⟩ := h4 c' k' e'
      refine ⟨C', ?_, q2⟩
      show (exs[c']?).bind _ = _
      rw [e']; exact q1
  · obtain ⟨k, h1, _⟩ := Option.bind_eq_some_iff.mp (show ((exs[c]?).bind fun k => clsAt K k.1) = some C from e)
    exact ⟨k, h1⟩
section
variable {P : Program} {w : World} {K : PySem.W.Frag} {mg : Str → Option Value} {base : Heap}
theorem run_ok {T : Tab} {ents : List Ent} {dcs : List (Str × List (Str × Int))} {exs : List ExC} {A : Nat → Addr} {FD : Nat → FuncData} (hs : ∀ i e, ents[i]? = some e → Here K mg e (A i) (FD i)) (hok : ∀ e ∈ ents, e.ok T.bn (nmOf ents) (arOf ents) dcs exs = true) (hd : ∀ x kvs, dcs.lookup x = some kvs → DctK K w mg x kvs) (hb : ∀ x ∈ T.bn, mg x = none) (hx : ∀ c k, exs[c]? = some k → ExOk P K mg T exs c k) (hxR : ∀ c C, T.exA c = some C → ∃ k, exs[c]? = some k) :
    ∀ k i e, ents[i]? = some e → FnG P w K mg base k (A i) (FD i) e.ps (spF K T (runD (tbOf ents) k i) e.ps.length)
  | 0, i, e, h => ⟨fun q => q.1, fun gd hr e0 hv hbi q => by
    obtain ⟨_, us, Hs, fc, st, k⟩ := q
    exact k.elim⟩
  | k + 1, i, e, h => by
    have q : runD (tbOf ents) (k + 1) i = e.fn.run (runD (tbOf ents) k) := by
      funext ts
      simp only [runD, tbOf, h, Option.map_some]
    rw [q]
    refine fn_ok (hs i e h).F (hok e (List.mem_of_getElem? h)) hx hxR hd hb fun f n hf => ?_
    obtain ⟨e', h1, h2⟩ := Option.map_eq_some_iff.mp hf
    refine ⟨A f, FD f, e'.ps, h2, run_ok hs hok hd hb hx hxR k f e' h1, ?_, (hs f e' h1).F.kp, (hs f e' h1).b, fun us hne => ?_⟩
    · unfold nmOf
      rw [h1]
      exact (hs f e' h1).m
    · cases k with
      | zero => exact absurd rfl hne
      | succ k =>
        have q' : runD (tbOf ents) (k + 1) f us = e'.fn.run (runD (tbOf ents) k) us := by simp only [runD, tbOf, h1, Option.map_some]
        rw [q'] at hne
        have ok := hok e' (List.mem_of_getElem? h1)
        unfold Ent.ok at ok
        simp only [Bool.and_eq_true, decide_eq_true_eq] at ok
        unfold Fn.run at hne
        split at hne
        · rename_i hl; rw [hl, ok.1.1.1.2, h2]
        · exact absurd rfl hne
end
/-- a dict of the module as it is written -/
def EsOk : List DictEntry → List (Str × Int) → Prop
  | [], [] => True
  | e :: r, kv :: kvs => (∃ t, e.key = .str kv.1 t) ∧ (∃ t, e.val = .int kv.2 t) ∧ EsOk r kvs
  | _, _ => False
theorem es_find : ∀ {es : List DictEntry} {kvs : List (Str × Int)} {z : Str}, EsOk es kvs → (es.any (·.refKey)) = false ∧ (∀ n, kvs.lookup z = some n → ∃ e t, es.find? (·.key.isStr z) = some e ∧ e.val = .int n t) ∧ (kvs.lookup z = none → es.find? (·.key.isStr z) = none)
  | [], [], z, _ => ⟨rfl, fun n h => by simp at h, fun _ => rfl⟩
  | [], _ :: _, z, h => h.elim
  | _ :: _, [], z, h => h.elim
  | e :: r, (k, v) :: kvs, z, h => by
    obtain ⟨⟨t, h1⟩, ⟨t', h2⟩, h3⟩ := h
    obtain ⟨i1, i2, i3⟩ := es_find (z := z) h3
    have k1 : e.key.isStr z = (z == k) := by
      rw [h1]
      show (k == z) = (z == k)
      exact Bool.eq_iff_iff.mpr (by simp only [beq_iff_eq]; exact eq_comm)
    have k2 : e.refKey = false := by unfold DictEntry.refKey; rw [h1]
    refine ⟨by rw [List.any_cons, k2, i1]; rfl, fun n hn => ?_, fun hn => ?_⟩
    · rw [List.lookup_cons] at hn
      rw [List.find?_cons, k1]
      cases hz : z == k with
      | true => rw [hz] at hn; cases Option.some.inj hn; exact ⟨e, t', rfl, h2⟩
      | false => rw [hz] at hn; exact i2 n hn
    · rw [List.lookup_cons] at hn
      rw [List.find?_cons, k1]
      cases hz : z == k with
      | true => rw [hz] at hn; cases hn
      | false => rw [hz] at hn; exact i3 hn
theorem dct_mk {K : PySem.W.Frag} {w : World} {mg : Str → Option Value} {h : Heap} {x : Str} {kvs : List (Str × Int)} {d : Addr} {es : Array DictEntry} {n : Nat} (X : K.In h) (G : h.Ns mainGlobals mg) (m : PySem.W.nsIn K mainGlobals x = some (some (.ref d))) (l : K.lookup d = some ⟨.type "dict", none, .dict es n, #[]⟩)
    (lit : PySem.W.KeysLit w.params es.toList) (low : (d == sysModules) = false) (h : EsOk es.toList kvs) : DctK K w mg x kvs := by
  refine ⟨d, es, n, PySem.W.mg_of X G m, ⟨l, lit, low⟩, fun z n hz => ?_, fun z hz => ?_⟩
  · obtain ⟨_, i2, _⟩ := es_find (z := z) h
    obtain ⟨e, t, h1, h2⟩ := i2 n hz
    refine ⟨t, ?_⟩
    unfold PySem.W.nsIn
    rw [l]
    dsimp only
    rw [h1]
    dsimp only
    rw [h2]
  · obtain ⟨i1, _, i3⟩ := es_find (z := z) h
    unfold PySem.W.nsIn
    rw [l]
    dsimp only
    rw [i3 hz, i1]
    rfl
theorem dcs_one {K : PySem.W.Frag} {w : World} {mg : Str → Option Value} {y : Str} {kv : List (Str × Int)} {r : List (Str × List (Str × Int))} (h : DctK K w mg y kv) (hr : ∀ x kvs, r.lookup x = some kvs → DctK K w mg x kvs) : ∀ x kvs, List.lookup x ((y, kv) :: r) = some kvs → DctK K w mg x kvs := fun x kvs e => by
  rw [List.lookup_cons] at e
  cases hz : x == y with
  | true => rw [hz] at e; cases Option.some.inj e; rw [eq_of_beq hz]; exact h
  | false => rw [hz] at e; exact hr x kvs e
/-- the goal that k_head leaves -/
theorem walkL {l : PySem.W.OpenLaw} {q : Program} {loose : List Str} {XP : (Str → Option Value) → Heap → Prop} {YP : World → Heap → Prop} {d : DefRec} {K : Params → PySem.W.Frag} {ents : List Ent} {bn : List Str} {dcs : List (Str × List (Str × Int))} {exs : List ExC} {li k : Nat} {e : Ent} {x : Str} (hn : l.most = some 63) (hdf : d.params.defaults = [])
    (hY : ∀ (w : World) (h : Heap), YP w h → (K w.params).In h) (hr : Room k callerA) (hle : ents[li]? = some e) (hps : e.ps = [x]) (hnm : d.name = e.name) (hok : ∀ e ∈ ents, e.ok bn (nmOf ents) (arOf ents) dcs exs = true)
    (hrun : ∀ ns : List Int, ns.length ≤ 63 → ∃ ws, runD (tbOf ents) k li [.sh (.flst (ns.map .int))] = .ok (.sh (.bl true), ws))
    (hbd : ∀ (kV doc pm : Value) (an : Option Addr) (cdv ct : Value) (s : Shared) (u : Value), BindsTo s (PySem.W.fnOf e.name e.name (defArgs e.st) (defBody e.st) (defScope e.st) .none kV doc pm an cdv ct) ⟨[u], []⟩ [(x, u)])
    (F : ∀ (w : World) (mg : Str → Option Value) (h : Heap), (K w.params).In h → h.Ns mainGlobals mg → (∀ e ∈ ents, ∃ a fd, Here (K w.params) mg e a fd) ∧ (∀ x ∈ bn, mg x = none) ∧ (∀ x kvs, dcs.lookup x = some kvs → DctK (K w.params) w mg x kvs) ∧ ∀ c k, exs[c]? = some k → ExK l.prog (K w.params) mg exs c k) :
    PySem.W.WalkO q loose XP YP l.row.toRowW d [] (fun f vs => PySem.call f vs) := by
  refine walk_G (n := 63) (k := k) (x := x) (sp := fun w => spF (K w.params) (tabOf (K w.params) bn exs) (runD (tbOf ents) k li) 1) hn (by decide) hdf hr hY ?_ ?_ ?_
  · intro w mg fa h KX G hmg
    obtain ⟨hs, hb, hd, hx⟩ := F w mg h KX G
    obtain ⟨hx1, hx2⟩ := exk_ok (bn := bn) hx
    obtain ⟨A, FD, hAF⟩ := pick hs
    have H := hAF li e hle
    have ea : fa = A li := by
      rw [hnm, H.m] at hmg
      cases hmg
      rfl
    subst ea
    refine ⟨FD li, fun s u => ?_, fun base _ _ => ?_⟩
    · obtain ⟨oc, od, kV, doc, pm, an, cdv, ct, osl, h1, _, _⟩ := H.F.ex
      rw [h1]
      exact hbd kV doc pm an cdv ct s u
    · have := run_ok (P := l.prog) (w := w) (base := base) (T := tabOf (K w.params) bn exs) hAF hok hd hb hx1 hx2 k li e hle
      rw [hps] at this
      exact this
  · intro w H a ns hl hS
    refine ⟨rfl, [.sh (.flst (ns.map .int))], H, [], ⟨Ex.refl _, RpS.ow (f := []) (.sh (.flst hS (rps_of_ints ns))) .nil, .nil, fun a ha => absurd ha (by simp), fun a ha => absurd ha (by simp), fun a ha => absurd ha (by simp)⟩, ?_⟩
    obtain ⟨ws, e⟩ := hrun ns hl
    rw [e]
    intro v H' Hs' fc' ft _ rp _ _ _
    cases rp with
    | sh r => cases r; rfl
  · intro w H s u s' h
    obtain ⟨_, _, _, _, _, _, _, _, _, _, _, _, z⟩ := h
    exact z
end CH
end
section
namespace CH
open PySem L2 Evl PyProof.Rows
abbrev iT (i : Int) : OT := .sh (.int i)
theorem ev_eq_ii (a b : Int) : Op.ev (.cmp .eq) [.sh (.int a), .sh (.int b)] = some (.sh (.bl (decide (a = b)))) := rfl
theorem ev_ne_ii (a b : Int) : Op.ev (.cmp .ne) [.sh (.int a), .sh (.int b)] = some (.sh (.bl (!decide (a = b)))) := rfl
theorem ev_lt_ii (a b : Int) : Op.ev (.cmp .lt) [.sh (.int a), .sh (.int b)] = some (.sh (.bl (decide (a < b)))) := rfl
theorem ev_le_ii (a b : Int) : Op.ev (.cmp .le) [.sh (.int a), .sh (.int b)] = some (.sh (.bl (decide (a ≤ b)))) := rfl
theorem ev_gt_ii (a b : Int) : Op.ev (.cmp .gt) [.sh (.int a), .sh (.int b)] = some (.sh (.bl (decide (b < a)))) := rfl
theorem ev_ge_ii (a b : Int) : Op.ev (.cmp .ge) [.sh (.int a), .sh (.int b)] = some (.sh (.bl (decide (b ≤ a)))) := rfl
theorem ev_add_ii (a b : Int) : Op.ev (.bin .add) [.sh (.int a), .sh (.int b)] = some (.sh (.int (a + b))) := rfl
theorem ev_sub_ii (a b : Int) : Op.ev (.bin .sub) [.sh (.int a), .sh (.int b)] = some (.sh (.int (a - b))) := rfl
theorem ev_mul_ii (a b : Int) (h : mulOk a b = true) : Op.ev (.bin .mul) [.sh (.int a), .sh (.int b)] = some (.sh (.int (a * b))) := by
  show guard_ (mulOk a b) _ = _; rw [h]; rfl
theorem mulOk_r (a b : Int) (h : -(2 ^ 64) < b ∧ b < 2 ^ 64) : mulOk a b = true := by unfold mulOk; rw [decide_eq_true h, Bool.or_true]
theorem mulOk_l (a b : Int) (h : -(2 ^ 64) < a ∧ a < 2 ^ 64) : mulOk a b = true := by unfold mulOk; rw [decide_eq_true h, Bool.true_or]
theorem ev_mod_ii (a b : Int) (h : 0 < b) : Op.ev (.bin .mod) [.sh (.int a), .sh (.int b)] = some (.sh (.int (a % b))) := by
  show guard_ (decide (0 < b)) _ = _; rw [decide_eq_true h]; rfl
theorem ev_fdiv_ii (a b : Int) (h : 0 < b ∧ b < 1073741824) : Op.ev (.bin .fdiv) [.sh (.int a), .sh (.int b)] = some (.sh (.int (a / b))) := by
  show guard_ (decide (0 < b ∧ b < 1073741824)) _ = _; rw [decide_eq_true h]; rfl
theorem ev_pow_10 (n : Nat) (h : n ≤ 1000000) : Op.ev (.bin .pow) [.sh (.int 10), .sh (.int (n : Int))] = some (.sh (.int (10 ^ n))) := by
  show guard_ (decide (0 ≤ (n : Int) ∧ (n : Int) ≤ 1000000 ∧ (10 : Int).natAbs < 2 ^ 64)) (OT.sh (.int (10 ^ (n : Int).toNat))) = _
  rw [decide_eq_true ⟨by omega, by omega, by decide⟩]; rfl
theorem ev_neg_i (a : Int) : Op.ev .neg [.sh (.int a)] = some (.sh (.int (-a))) := rfl
theorem ev_int_i (a : Int) : Op.ev (.bi .int) [.sh (.int a)] = some (.sh (.int a)) := rfl
theorem ev_abs_i (a : Int) : Op.ev (.bi .abs) [.sh (.int a)] = some (.sh (.int (if a < 0 then -a else a))) := rfl
theorem ev_len_l (ts : List OT) : Op.ev (.bi .len) [.lst ts] = some (.sh (.int ts.length)) := rfl
theorem ev_len_t (ds : List D) : Op.ev (.bi .len) [.sh (.tup ds)] = some (.sh (.int ds.length)) := rfl
theorem ev_len_f (ds : List D) : Op.ev (.bi .len) [.sh (.flst ds)] = some (.sh (.int ds.length)) := rfl
theorem ev_idx (t : OT) (i : Int) : Op.ev .idx [t, .sh (.int i)] = idxEv t i := rfl
theorem tru_b (b : Bool) : truEv (.sh (.bl b)) = some b := rfl
def poolL (a b c : Int) (r : List Int) : List OT := iT a :: iT b :: iT c :: r.map iT
theorem pool_len (a b c : Int) (r : List Int) : (poolL a b c r).length = 3 + r.length := by unfold poolL; simp; omega
theorem leaves_i (l : List Int) : leaves (l.map iT) = some (l.map .int) := by
  induction l with
  | nil => rfl
  | cons a l ih => show (leaves (l.map iT)).map (D.int a :: ·) = _; rw [ih]; rfl
theorem pool_items (a b c : Int) (r : List Int) : OT.items (.lst (poolL a b c r)) = some ((a :: b :: c :: r).map .int) := leaves_i (a :: b :: c :: r)
theorem pool_0 (a b c : Int) (r : List Int) : idxEv (.lst (poolL a b c r)) 0 = some (.sh (.int a)) := by
  show (OT.items (.lst (poolL a b c r))).bind _ = _
  rw [pool_items]
  show (atI ((a :: b :: c :: r).map D.int) ((0 : Nat) : Int)).map OT.sh = _
  rw [atI_nat (v := D.int a) rfl]; rfl
theorem pool_1 (a b c : Int) (r : List Int) : idxEv (.lst (poolL a b c r)) 1 = some (.sh (.int b)) := by
  show (OT.items (.lst (poolL a b c r))).bind _ = _
  rw [pool_items]
  show (atI ((a :: b :: c :: r).map D.int) ((1 : Nat) : Int)).map OT.sh = _
  rw [atI_nat (v := D.int b) rfl]; rfl
theorem pool_2 (a b c : Int) (r : List Int) : idxEv (.lst (poolL a b c r)) 2 = some (.sh (.int c)) := by
  show (OT.items (.lst (poolL a b c r))).bind _ = _
  rw [pool_items]
  show (atI ((a :: b :: c :: r).map D.int) ((2 : Nat) : Int)).map OT.sh = _
  rw [atI_nat (v := D.int c) rfl]; rfl
def cellP (a b c : Int) (r : List Int) (i : Int) : Int := (a :: b :: c :: r).getD i.toNat 0
theorem pool_c (a b c : Int) (r : List Int) (i : Int) (h0 : 0 ≤ i) (h1 : i < 3 + (r.length : Int)) : idxEv (.lst (poolL a b c r)) i = some (.sh (.int (cellP a b c r i))) := by
  show (OT.items (.lst (poolL a b c r))).bind _ = _
  rw [pool_items]
  obtain ⟨n, rfl⟩ : ∃ n : Nat, i = n := ⟨i.toNat, by omega⟩
  have hn : n < (a :: b :: c :: r).length := by simp; omega
  show (atI ((a :: b :: c :: r).map D.int) (n : Int)).map OT.sh = _
  rw [atI_nat (v := D.int ((a :: b :: c :: r)[n])) (by rw [List.getElem?_map, List.getElem?_eq_getElem hn]; rfl)]
  show some (OT.sh (D.int _)) = _
  unfold cellP
  rw [List.getD_eq_getElem?_getD, Int.toNat_natCast, List.getElem?_eq_getElem hn]; rfl
theorem pool_s0 (a b c x : Int) (r : List Int) : muEv .setIx (poolL a b c r) [.sh (.int x), .sh (.int 0)] = some (.sh .non, poolL x b c r) := by
  show (ixN (poolL a b c r).length ((0 : Nat) : Int)).map _ = _
  rw [ixN_nat (by rw [pool_len]; omega)]; rfl
theorem pool_s1 (a b c x : Int) (r : List Int) : muEv .setIx (poolL a b c r) [.sh (.int x), .sh (.int 1)] = some (.sh .non, poolL a x c r) := by
  show (ixN (poolL a b c r).length ((1 : Nat) : Int)).map _ = _
  rw [ixN_nat (by rw [pool_len]; omega)]; rfl
theorem pool_s2 (a b c x : Int) (r : List Int) : muEv .setIx (poolL a b c r) [.sh (.int x), .sh (.int 2)] = some (.sh .non, poolL a b x r) := by
  show (ixN (poolL a b c r).length ((2 : Nat) : Int)).map _ = _
  rw [ixN_nat (by rw [pool_len]; omega)]; rfl
theorem forL_ret {body : Env → R (Fl × Env)} {pl : List Nat} {tg : Tg} {I : Nat → Env → Prop} {Rt : OT → Env → Prop} : ∀ (ds : List D) (n : Nat) (ρ : Env), I n ρ →
    (∀ i d ρ, ds[i]? = some d → I (n + i) ρ → ∃ ρ1 ρ2, setTg pl tg d ρ = some ρ1 ∧ (((body ρ1 = .ok (.nx, ρ2) ∨ body ρ1 = .ok (.ct, ρ2)) ∧ I (n + i + 1) ρ2) ∨ ∃ t, body ρ1 = .ok (.rt t, ρ2) ∧ Rt t ρ2)) →
    (∃ ρ', forL body pl tg ds ρ = .ok (.nx, ρ') ∧ I (n + ds.length) ρ') ∨ ∃ t ρ', forL body pl tg ds ρ = .ok (.rt t, ρ') ∧ Rt t ρ'
  | [], n, ρ, h, _ => .inl ⟨ρ, rfl, h⟩
  | d :: ds, n, ρ, h, st => by
    obtain ⟨ρ1, ρ2, h1, h2⟩ := st 0 d ρ rfl h
    have tail : I (n + 0 + 1) ρ2 → (∃ ρ', forL body pl tg ds ρ2 = .ok (.nx, ρ') ∧ I (n + (d :: ds).length) ρ') ∨ ∃ t ρ', forL body pl tg ds ρ2 = .ok (.rt t, ρ') ∧ Rt t ρ' := fun hI => by
      have := forL_ret ds (n + 1) ρ2 hI fun i d' ρ e hi => by
        have := st (i + 1) d' ρ (by simpa using e) (by rw [show n + (i + 1) = n + 1 + i by omega]; exact hi)
        rw [show n + (i + 1) + 1 = n + 1 + i + 1 by omega] at this
        exact this
      rw [show n + (d :: ds).length = n + 1 + ds.length by simp; omega]
      exact this
    unfold forL
    rw [h1]
    simp only
    rcases h2 with ⟨h2 | h2, h3⟩ | ⟨t, h2, h3⟩
    · rw [h2]; exact tail h3
    · rw [h2]; exact tail h3
    · rw [h2]; exact .inr ⟨t, ρ2, rfl, h3⟩
theorem forL_inv {body : Env → R (Fl × Env)} {pl : List Nat} {tg : Tg} {I : Nat → Env → Prop} (ds : List D) (ρ : Env) (h : I 0 ρ)
    (st : ∀ i d ρ, ds[i]? = some d → I i ρ → ∃ ρ1 ρ2, setTg pl tg d ρ = some ρ1 ∧ body ρ1 = .ok (.nx, ρ2) ∧ I (i + 1) ρ2) : ∃ ρ', forL body pl tg ds ρ = .ok (.nx, ρ') ∧ I ds.length ρ' := by
  rcases forL_ret (I := I) (Rt := fun _ _ => False) (body := body) (pl := pl) (tg := tg) ds 0 ρ h (fun i d ρ e hi => by
    rw [Nat.zero_add] at hi ⊢
    obtain ⟨ρ1, ρ2, h1, h2, h3⟩ := st i d ρ e hi
    exact ⟨ρ1, ρ2, h1, .inl ⟨.inl h2, h3⟩⟩) with ⟨ρ', h1, h2⟩ | ⟨_, _, _, h⟩
  · exact ⟨ρ', h1, by simpa using h2⟩
  · exact h.elim
theorem lcL_inv {cond : Env → R (Bool × Env)} {elt : Env → R (OT × Env)} {pl : List Nat} {tg : Tg} {I : Nat → List OT → Env → Prop} : ∀ (ds : List D) (n : Nat) (acc : List OT) (ρ : Env), I n acc ρ →
    (∀ i d acc ρ, ds[i]? = some d → I (n + i) acc ρ → ∃ ρ1 b ρ2, setTg pl tg d ρ = some ρ1 ∧ cond ρ1 = .ok (b, ρ2) ∧ if b = true then ∃ t ρ3, elt ρ2 = .ok (t, ρ3) ∧ acc.length < big ∧ I (n + i + 1) (acc ++ [t]) (wipeE ρ3 tg.slots) else I (n + i + 1) acc (wipeE ρ2 tg.slots)) →
    ∃ ts ρ', lcL cond elt pl tg ds acc ρ = .ok (ts, ρ') ∧ I (n + ds.length) ts ρ'
  | [], n, acc, ρ, h, _ => ⟨acc, ρ, rfl, h⟩
  | d :: ds, n, acc, ρ, h, st => by
    obtain ⟨ρ1, b, ρ2, h1, h2, h3⟩ := st 0 d acc ρ rfl h
    have tail : ∀ acc' ρ', I (n + 0 + 1) acc' ρ' → ∃ ts ρ2, lcL cond elt pl tg ds acc' ρ' = .ok (ts, ρ2) ∧ I (n + (d :: ds).length) ts ρ2 := fun acc' ρ' hI => by
      have := lcL_inv ds (n + 1) acc' ρ' hI fun i d' acc ρ e hi => by
        have := st (i + 1) d' acc ρ (by simpa using e) (by rw [show n + (i + 1) = n + 1 + i by omega]; exact hi)
        rw [show n + (i + 1) + 1 = n + 1 + i + 1 by omega] at this
        exact this
      rw [show n + (d :: ds).length = n + 1 + ds.length by simp; omega]
      exact this
    unfold lcL at tail ⊢
    unfold lcG
    rw [h1]
    simp only
    rw [h2]
    cases b with
    | false => exact tail _ _ h3
    | true =>
      obtain ⟨t, ρ3, h4, h5, h6⟩ := h3
      have : pushE elt acc ρ2 = .ok (acc ++ [t], ρ3) := by
        unfold pushE
        rw [h4]
        simp only
        rw [if_pos h5]
      simp only
      rw [this]
      exact tail _ _ h6
/-- over items that change nothing -/
theorem lcL_pure {cond : Env → R (Bool × Env)} {elt : Env → R (OT × Env)} {pl : List Nat} {i : Nat} {ρ : Env} {p : D → Bool} {g : D → D} (hi : ρ[i]? = some .no) (hp : i ∉ pl) : ∀ (ds : List D) (acc : List D), acc.length + ds.length ≤ big →
    (∀ d ∈ ds, cond (ρ.set i (.ow (.sh d))) = .ok (p d, ρ.set i (.ow (.sh d))) ∧ (p d = true → elt (ρ.set i (.ow (.sh d))) = .ok (.sh (g d), ρ.set i (.ow (.sh d))))) →
    lcL cond elt pl (.one i) ds (acc.map .sh) ρ = .ok ((acc ++ (ds.filter p).map g).map .sh, ρ)
  | [], acc, _, _ => by simp [lcL, lcG]
  | d :: ds, acc, hl, h => by
    obtain ⟨h1, h2⟩ := h d (by simp)
    have ih := fun acc hl => lcL_pure (cond := cond) (elt := elt) hi hp ds acc hl fun d' hd => h d' (by simp [hd])
    have s1 : setTg pl (.one i) d ρ = some (ρ.set i (.ow (.sh d))) := by
      show set1 pl i d ρ = _
      unfold set1
      rw [hi]
      simp [hp]
    have w1 : wipeE (ρ.set i (.ow (.sh d))) (Tg.slots (.one i)) = ρ := by
      show (ρ.set i (.ow (.sh d))).set i .no = ρ
      rw [List.set_set]
      obtain ⟨hlt, e⟩ := List.getElem?_eq_some_iff.mp hi
      rw [← e, List.set_getElem_self]
    unfold lcL at ih ⊢
    unfold lcG
    rw [s1]
    simp only
    rw [h1]
    simp only [List.length_cons] at hl
    cases hp' : p d with
    | false =>
      simp only
      rw [w1, ih acc (by omega), List.filter_cons_of_neg (by simp [hp'])]
    | true =>
      simp only
      have : pushE elt (acc.map .sh) (ρ.set i (.ow (.sh d))) = .ok ((acc ++ [g d]).map .sh, ρ.set i (.ow (.sh d))) := by
        unfold pushE
        rw [h2 hp']
        simp only
        rw [if_pos (by rw [List.length_map]; omega)]
        simp
      rw [this]
      simp only
      rw [w1, ih (acc ++ [g d]) (by simp; omega), List.filter_cons_of_pos hp']
      simp
/-- .. each of which gives a value -/
theorem lcL_map {α : Type} {cond : Env → R (Bool × Env)} {elt : Env → R (OT × Env)} {pl : List Nat} {i : Nat} {ρ : Env} {mk g : α → D} (hi : ρ[i]? = some .no) (hp : i ∉ pl) (xs : List α) (hl : xs.length ≤ big)
    (hc : ∀ ρ, cond ρ = .ok (true, ρ)) (h : ∀ x ∈ xs, elt (ρ.set i (.ow (.sh (mk x)))) = .ok (.sh (g x), ρ.set i (.ow (.sh (mk x))))) :
    lcL cond elt pl (.one i) (xs.map mk) [] ρ = .ok (xs.map fun x => .sh (g x), ρ) := by
  have key : ∀ (xs : List α) (acc : List OT), acc.length + xs.length ≤ big → (∀ x ∈ xs, elt (ρ.set i (.ow (.sh (mk x)))) = .ok (.sh (g x), ρ.set i (.ow (.sh (mk x))))) → lcL cond elt pl (.one i) (xs.map mk) acc ρ = .ok (acc ++ xs.map fun x => .sh (g x), ρ) := by
    intro xs
    induction xs with
    | nil => intro acc _ _; simp [lcL, lcG]
    | cons x xs ih =>
      intro acc hl h
      have s1 : setTg pl (.one i) (mk x) ρ = some (ρ.set i (.ow (.sh (mk x)))) := by
        show set1 pl i (mk x) ρ = _
        unfold set1
        rw [hi]
        simp [hp]
      have w1 : wipeE (ρ.set i (.ow (.sh (mk x)))) (Tg.slots (.one i)) = ρ := by
        show (ρ.set i (.ow (.sh (mk x)))).set i .no = ρ
        rw [List.set_set]
        obtain ⟨hlt, e⟩ := List.getElem?_eq_some_iff.mp hi
        rw [← e, List.set_getElem_self]
      rw [List.map_cons]
      unfold lcL at ih ⊢
      unfold lcG
      rw [s1]
      simp only
      rw [hc]
      simp only
      simp only [List.length_cons] at hl
      have : pushE elt acc (ρ.set i (.ow (.sh (mk x)))) = .ok (acc ++ [.sh (g x)], ρ.set i (.ow (.sh (mk x)))) := by
        unfold pushE
        rw [h x (by simp)]
        simp only
        rw [if_pos (by omega)]
      rw [this]
      simp only
      rw [w1, ih _ (by simp; omega) fun y hy => h y (by simp [hy])]
      simp
  simpa using key xs [] (by simpa using hl) h
theorem litems_sh (ds : List D) : OT.litems (.lst (ds.map .sh)) = some ds := leaves_map ds
theorem blsD_map (l : List Bool) : blsD (l.map .bl) = some l := by
  induction l with
  | nil => rfl
  | cons a l ih => show (blsD (l.map D.bl)).map (a :: ·) = _; rw [ih]; rfl
theorem ev_all {α : Type} (xs : List α) (f : α → Bool) : Op.ev (.bi .all) [.lst (xs.map fun x => .sh (.bl (f x)))] = some (.sh (.bl (xs.all f))) := by
  have e1 : (xs.map fun x => OT.sh (.bl (f x))) = ((xs.map f).map D.bl).map OT.sh := by rw [List.map_map, List.map_map]; rfl
  rw [e1]
  show (OT.litems _).bind _ = _
  rw [litems_sh]
  show (blsD ((xs.map f).map D.bl)).map _ = _
  rw [blsD_map]
  show some (OT.sh (D.bl ((xs.map f).all id))) = _
  rw [List.all_map]; rfl
theorem cm_le_ii (a b : Int) : cmpEv .le (.sh (.int a)) (.sh (.int b)) = some (decide (a ≤ b)) := rfl
theorem cm_lt_ii (a b : Int) : cmpEv .lt (.sh (.int a)) (.sh (.int b)) = some (decide (a < b)) := rfl
theorem toDs_map {α : Type} (xs : List α) (g : α → D) : toDs (xs.map fun x => .sh (g x)) = xs.map g := by
  induction xs with
  | nil => rfl
  | cons a l ih => show OT.toD (.sh (g a)) :: toDs (l.map fun x => .sh (g x)) = _; rw [ih]; rfl
theorem all_ints {ds : List D} {p : D → Bool} (hp : ∀ d, p d = true → ∃ i, d = .int i) (h : ds.all p = true) : ∃ ns : List Int, ds = ns.map .int := by
  induction ds with
  | nil => exact ⟨[], rfl⟩
  | cons d ds ih =>
    rw [List.all_cons, Bool.and_eq_true] at h
    obtain ⟨i, rfl⟩ := hp d h.1
    obtain ⟨ns, rfl⟩ := ih h.2
    exact ⟨i :: ns, rfl⟩
theorem ev_isi_t (tys : List String) (d : D) : Op.ev (.isi tys) [.sh d] = d.tyName.map fun a => .sh (.bl (tys.any fun b => isTy a b)) := rfl
theorem ss_next {Φ : Phi} {pl : List Nat} {s : CS} {r : CSs} {ρ ρ1 : Env} (h : evS Φ pl s ρ = .ok (.nx, ρ1)) : evSs Φ pl (.cons s r) ρ = evSs Φ pl r ρ1 := by rw [evSs, h]; rfl
theorem ss_stop {Φ : Phi} {pl : List Nat} {s : CS} {r : CSs} {ρ ρ1 : Env} {t : OT} (h : evS Φ pl s ρ = .ok (.rt t, ρ1)) : evSs Φ pl (.cons s r) ρ = .ok (.rt t, ρ1) := by rw [evSs, h]; rfl
theorem ife_t {Φ : Phi} {pl : List Nat} {t : CT} {a b : CSs} {ρ ρ1 : Env} (h : evT Φ pl t ρ = .ok (true, ρ1)) : evS Φ pl (.ife t a b) ρ = evSs Φ pl a ρ1 := by rw [evS, h]; rfl
theorem ife_f {Φ : Phi} {pl : List Nat} {t : CT} {a b : CSs} {ρ ρ1 : Env} (h : evT Φ pl t ρ = .ok (false, ρ1)) : evS Φ pl (.ife t a b) ρ = evSs Φ pl b ρ1 := by rw [evS, h]; rfl
theorem ss_end {Φ : Phi} {pl : List Nat} {s : CS} {ρ : Env} : evSs Φ pl (.cons s .nil) ρ = evS Φ pl s ρ := by
  rw [evSs]
  cases evS Φ pl s ρ with
  | ok p =>
    obtain ⟨f, ρ1⟩ := p
    cases f <;> simp [CH.R.bind, evSs]
  | ex e ρ1 => rfl
  | no => rfl
theorem run_rt {Φ : Phi} {fn : Fn} {ts us : List OT} {ρ : Env} {t : OT} (hl : ts.length = fn.np) (h : evSs Φ fn.pl fn.body (ts.map .ow ++ List.replicate (fn.nv - fn.np) .no) = .ok (.rt t, ρ)) (ho : outs fn.pl ρ 0 ts = some us) : fn.run Φ ts = .ok (t, us) := by
  unfold Fn.run
  rw [if_pos hl, h]
  simp only [ho]
  rfl
end CH
end
section
namespace CH
open PySem L2 Evl PyProof.Rows
theorem patch_same (m : Nat → Bool) : ∀ ρ : Env, patch m ρ ρ = ρ
  | [] => rfl
  | a :: as => by
    show (if m 0 = true then a else a) :: patch (fun j => m (j + 1)) as as = _
    rw [patch_same (fun j => m (j + 1)) as, ite_self]
theorem backE_same (ρ : Env) (vs : List Nat) : backE ρ ρ vs = ρ := patch_same _ ρ
theorem set_no {ρ : Env} {i : Nat} (h : ρ[i]? = some .no) : ρ.set i .no = ρ := by
  obtain ⟨hlt, e⟩ := List.getElem?_eq_some_iff.mp h
  rw [← e, List.set_getElem_self]
theorem wipe_one {ρ : Env} {i : Nat} (h : ρ[i]? = some .no) : wipeE ρ (Tg.slots (.one i)) = ρ := set_no h
theorem quiet_one {ρ : Env} {i : Nat} (h : ρ[i]? = some .no) : quietAll ρ (Tg.slots (.one i)) = true := by
  show ([i].all fun i => quietSl (ρ.getD i (.lk (.sh .non)))) = true
  rw [List.all_cons, List.getD_eq_getElem?_getD, h]; rfl
/-- a comprehension over one name that changes nothing: its values -/
theorem evE_lc {Φ : Phi} {pl : List Nat} {e : CE} {i : Nat} {it : CI} {cs : CTs} {ρ ρ1 : Env} {α : Type} {xs : List α} {mk g : α → D}
    (hI : evI Φ pl it ρ = .ok (xs.map mk, ρ1)) (hn : ρ1[i]? = some .no) (hp : i ∉ pl) (hl : xs.length ≤ big)
    (hc : ∀ ρ, evAll Φ pl cs ρ = .ok (true, ρ)) (h : ∀ x ∈ xs, evE Φ pl e (ρ1.set i (.ow (.sh (mk x)))) = .ok (.sh (g x), ρ1.set i (.ow (.sh (mk x))))) :
    evE Φ pl (.lc e (.one i) it cs) ρ = .ok (.lst (xs.map fun x => .sh (g x)), backI it ρ ρ1) := by
  have lc := lcL_map (cond := fun ρ => evAll Φ pl cs ρ) (elt := fun ρ => evE Φ pl e ρ) (pl := pl) hn hp xs hl hc h
  rw [evE, hI]
  simp only [CH.R.bind]
  rw [if_pos (quiet_one hn), wipe_one hn, lc]
  simp only
  rw [backE_same]
/-- all( .. ) over one -/
theorem evE_all {Φ : Phi} {pl : List Nat} {e : CE} {i : Nat} {it : CI} {cs : CTs} {ρ ρ1 : Env} {α : Type} {xs : List α} {mk : α → D} {f : α → Bool}
    (hI : evI Φ pl it ρ = .ok (xs.map mk, ρ1)) (hn : ρ1[i]? = some .no) (hp : i ∉ pl) (hl : xs.length ≤ big)
    (hc : ∀ ρ, evAll Φ pl cs ρ = .ok (true, ρ)) (h : ∀ x ∈ xs, evE Φ pl e (ρ1.set i (.ow (.sh (mk x)))) = .ok (.sh (.bl (f x)), ρ1.set i (.ow (.sh (mk x))))) :
    evE Φ pl (.op (.bi .all) (.cons (.e (.lc e (.one i) it cs)) .nil)) ρ = .ok (.sh (.bl (xs.all f)), backI it ρ ρ1) := by
  have lc := evE_lc (g := fun x => .bl (f x)) hI hn hp hl hc h
  rw [evE, evOs, lc]
  simp only [CH.R.bind, evOs]
  rw [ev_all]
theorem evE_ret {Φ : Phi} {pl : List Nat} {e : CE} {ρ ρ1 : Env} {t : OT} (h : evE Φ pl e ρ = .ok (t, ρ1)) : evS Φ pl (.ret e) ρ = .ok (.rt t, ρ1) := by
  rw [evS, h]; rfl
theorem evS_set {Φ : Phi} {pl : List Nat} {i : Nat} {e : CE} {ρ ρ1 : Env} {t u : OT} (h : evE Φ pl e ρ = .ok (t, ρ1)) (hi : ρ1[i]? = some .no ∨ ρ1[i]? = some (.ow u)) (hp : pl.contains i = false) : evS Φ pl (.set i e) ρ = .ok (.nx, ρ1.set i (.ow t)) := by
  rw [evS, h]
  simp only [CH.R.bind]
  rcases hi with hi | hi <;> rw [hi] <;> simp only [hp] <;> rfl
theorem range_val {Φ : Phi} {pl : List Nat} {a b : CE} {ρ ρ1 ρ2 : Env} {i j : Int} (h1 : evE Φ pl a ρ = .ok (.sh (.int i), ρ1)) (h2 : evE Φ pl b ρ1 = .ok (.sh (.int j), ρ2)) (hb : -4611686018427387904 ≤ i ∧ i < 4611686018427387904 ∧ -4611686018427387904 ≤ j ∧ j < 4611686018427387904) : evI Φ pl (.rng2 a b) ρ = .ok ((List.range (j - i).toNat).map fun k => .int (i + (k : Nat)), ρ2) := by
  rw [evI, h1]
  show (evE Φ pl b ρ1).bind _ = _
  rw [h2]
  exact if_pos hb
theorem range1_val {Φ : Phi} {pl : List Nat} {b : CE} {ρ ρ2 : Env} {j : Int} (h2 : evE Φ pl b ρ = .ok (.sh (.int j), ρ2)) (hb : -4611686018427387904 ≤ j ∧ j < 4611686018427387904) : evI Φ pl (.rng1 b) ρ = .ok ((List.range j.toNat).map fun k => .int (k : Nat), ρ2) := by
  rw [evI, h2]
  exact if_pos hb
theorem evE_op1 {Φ : Phi} {pl : List Nat} {o : Op} {e : CE} {ρ ρ1 : Env} {t u : OT} (h : evE Φ pl e ρ = .ok (t, ρ1)) (ho : o.ev [t] = some u) : evE Φ pl (.op o (.cons (.e e) .nil)) ρ = .ok (u, ρ1) := by
  rw [evE, evOs, h]
  simp only [CH.R.bind, evOs]
  rw [ho]
theorem evE_op2 {Φ : Phi} {pl : List Nat} {o : Op} {e e' : CE} {ρ ρ1 ρ2 : Env} {t t' u : OT} (h : evE Φ pl e ρ = .ok (t, ρ1)) (h' : evE Φ pl e' ρ1 = .ok (t', ρ2)) (ho : o.ev [t, t'] = some u) : evE Φ pl (.op o (.cons (.e e) (.cons (.e e') .nil))) ρ = .ok (u, ρ2) := by
  rw [evE, evOs, h]
  simp only [CH.R.bind]
  rw [evOs, h']
  simp only [CH.R.bind, evOs]
  rw [ho]
theorem lcL_acc {α : Type} {cond : Env → R (Bool × Env)} {elt : Env → R (OT × Env)} {pl : List Nat} {i : Nat} {ρ : Env} {mk g : α → D} (hi : ρ[i]? = some .no) (hp : i ∉ pl) :
    ∀ (xs : List α) (acc : List OT), acc.length + xs.length ≤ big → (∀ ρ, cond ρ = .ok (true, ρ)) → (∀ x ∈ xs, elt (ρ.set i (.ow (.sh (mk x)))) = .ok (.sh (g x), ρ.set i (.ow (.sh (mk x))))) → lcL cond elt pl (.one i) (xs.map mk) acc ρ = .ok (acc ++ xs.map fun x => .sh (g x), ρ)
  | [], acc, _, _, _ => by simp [lcL, lcG]
  | x :: xs, acc, hl, hc, h => by
    have s1 : setTg pl (.one i) (mk x) ρ = some (ρ.set i (.ow (.sh (mk x)))) := by
      show set1 pl i (mk x) ρ = _
      unfold set1
      rw [hi]
      simp [hp]
    have w1 : wipeE (ρ.set i (.ow (.sh (mk x)))) (Tg.slots (.one i)) = ρ := by
      show (ρ.set i (.ow (.sh (mk x)))).set i .no = ρ
      rw [List.set_set, set_no hi]
    have ih := lcL_acc hi hp xs (acc ++ [.sh (g x)]) (by simp only [List.length_append, List.length_cons, List.length_nil] at hl ⊢; omega) hc fun y hy => h y (by simp [hy])
    rw [List.map_cons]
    unfold lcL at ih ⊢
    unfold lcG
    rw [s1]
    simp only
    rw [hc]
    simp only
    simp only [List.length_cons] at hl
    have : pushE elt acc (ρ.set i (.ow (.sh (mk x)))) = .ok (acc ++ [.sh (g x)], ρ.set i (.ow (.sh (mk x)))) := by
      unfold pushE
      rw [h x (by simp)]
      simp only
      rw [if_pos (by omega)]
    rw [this]
    simp only
    rw [w1, ih]
    simp
theorem inner_val {it : Env → R (List D × Env)} {bk : Env → Env → Env} {cond : Env → R (Bool × Env)} {elt : Env → R (OT × Env)} {pl : List Nat} {tg : Tg} {acc acc' : List OT} {ρ ρ1 ρ2 : Env} {ds : List D}
    (h1 : it ρ = .ok (ds, ρ1)) (hq : quietAll ρ1 tg.slots = true) (h2 : lcL cond elt pl tg ds acc (wipeE ρ1 tg.slots) = .ok (acc', ρ2)) : inner it bk cond elt pl tg acc ρ = .ok (acc', bk ρ ρ2) := by
  unfold inner
  rw [h1]
  simp only
  rw [if_pos hq, h2]
theorem run_ex {Φ : Phi} {fn : Fn} {ts us : List OT} {t : OT} (hl : ts.length = fn.np) (ho : ∀ ρ, outs fn.pl ρ 0 ts = some us) (h : ∃ ρ, evSs Φ fn.pl fn.body (ts.map .ow ++ List.replicate (fn.nv - fn.np) .no) = .ok (.rt t, ρ)) : fn.run Φ ts = .ok (t, us) := by
  obtain ⟨ρ, h⟩ := h
  exact run_rt hl h (ho ρ)
theorem lcG_flat {α : Type} {cond : Env → R (Bool × Env)} {step : List OT → Env → R (List OT × Env)} {pl : List Nat} {tg : Tg} {vs : List Nat} {ρ : Env} {mk : α → D} {g : α → List OT} :
    ∀ (xs : List α) (acc : List OT), acc.length + (xs.flatMap g).length ≤ big → (∀ x ∈ xs, ∃ ρ1 ρ2, setTg pl tg (mk x) ρ = some ρ1 ∧ cond ρ1 = .ok (true, ρ1) ∧ (∀ acc, acc.length + (g x).length ≤ big → step acc ρ1 = .ok (acc ++ g x, ρ2)) ∧ wipeE ρ2 vs = ρ) →
      lcG cond step pl tg vs (xs.map mk) acc ρ = .ok (acc ++ xs.flatMap g, ρ)
  | [], acc, _, _ => by simp [lcG]
  | x :: xs, acc, hl, h => by
    obtain ⟨ρ1, ρ2, h1, h2, h3, h4⟩ := h x (by simp)
    simp only [List.flatMap_cons, List.length_append] at hl
    have ih := lcG_flat (cond := cond) (step := step) (pl := pl) (tg := tg) (vs := vs) (ρ := ρ) xs (acc ++ g x) (by simp only [List.length_append]; omega) fun y hy => h y (by simp [hy])
    rw [List.map_cons]
    unfold lcG
    rw [h1]
    simp only
    rw [h2]
    simp only
    rw [h3 acc (by omega)]
    simp only
    rw [h4, ih]
    simp
end CH
end
section
namespace CH
open PySem L2 Evl PyProof.Rows
mutual
/-- plain data nested at most n deep -/
def D.ok : Nat → D → Bool
  | _, .non => true
  | _, .bl _ => true
  | _, .int _ => true
  | _, .str s => PyData.strOk s
  | n + 1, .tup ds => oks n ds
  | n + 1, .lst ds => oks n ds
  | _, _ => false
def oks : Nat → List D → Bool
  | _, [] => true
  | n, d :: ds => d.ok n && oks n ds
end
mutual
theorem ok_toP : ∀ {n : Nat} {d : D}, d.ok n = true → ∃ p, d.toP = some p ∧ p.canLay0 = true ∧ p.depth ≤ n
  | _, .non, _ => ⟨_, rfl, rfl, Nat.zero_le _⟩
  | _, .bl _, _ => ⟨_, rfl, rfl, Nat.zero_le _⟩
  | _, .int _, _ => ⟨_, rfl, rfl, Nat.zero_le _⟩
  | _, .str s, h => ⟨_, rfl, by simpa [D.ok, PyData.canLay0] using h, Nat.zero_le _⟩
  | n + 1, .tup ds, h => by
    obtain ⟨ps, e, h1, h2⟩ := oks_toPs (n := n) (ds := ds) (by simpa [D.ok] using h)
    exact ⟨.tuple ps, by simp [D.toP, e], by simpa [PyData.canLay0] using h1, by simp only [PyData.depth]; omega⟩
  | n + 1, .lst ds, h => by
    obtain ⟨ps, e, h1, h2⟩ := oks_toPs (n := n) (ds := ds) (by simpa [D.ok] using h)
    exact ⟨.list ps, by simp [D.toP, e], by simpa [PyData.canLay0] using h1, by simp only [PyData.depth]; omega⟩
  | 0, .tup _, h => by simp [D.ok] at h
  | 0, .lst _, h => by simp [D.ok] at h
  | _, .flst _, h => by simp [D.ok] at h
  | _, .ty _, h => by simp [D.ok] at h
  | _, .fn _, h => by simp [D.ok] at h
  | _, .obj .., h => by simp [D.ok] at h
theorem oks_toPs : ∀ {n : Nat} {ds : List D}, oks n ds = true → ∃ ps, toPs ds = some ps ∧ PyData.canLayAll0 ps = true ∧ PyData.depthAll ps ≤ n
  | _, [], _ => ⟨[], rfl, rfl, Nat.zero_le _⟩
  | n, d :: ds, h => by
    have h := Bool.and_eq_true_iff.mp (by simpa [oks] using h)
    obtain ⟨p, e1, h1, h2⟩ := ok_toP h.1
    obtain ⟨ps, e3, h3, h4⟩ := oks_toPs h.2
    exact ⟨p :: ps, by simp [toPs, e1, e3], by simp [PyData.canLayAll0, h1, h3], by simp only [PyData.depthAll]; omega⟩
end
theorem shaped_of_ok {d : D} {p : PyData} {n : Nat} (h : d.ok n = true) (hn : n ≤ 64) (e : d.toP = some p) : SeqAt.shaped p = true := by
  obtain ⟨q, e1, h1, h2⟩ := ok_toP h
  rw [e] at e1
  cases e1
  show (p.canLay0 && decide (p.depth ≤ 64)) = true
  rw [h1, decide_eq_true (by omega)]; rfl
theorem eqD_ok {a b : D} {n : Nat} (ha : a.ok n = true) (hb : b.ok n = true) (hn : n ≤ 64) : eqD a b = some (eq1 a b) := by
  obtain ⟨p, e1, _⟩ := ok_toP ha
  obtain ⟨q, e2, _⟩ := ok_toP hb
  unfold eqD eq1
  rw [e1, e2]
  show (if (SeqAt.shaped p && SeqAt.shaped q) = true then some (PyData.eqv p q) else none) = _
  rw [shaped_of_ok ha hn e1, shaped_of_ok hb hn e2]; rfl
/-- rows, item by item -/
def eqs1 : List D → List D → Bool
  | [], [] => true
  | a :: as, b :: bs => eq1 a b && eqs1 as bs
  | _, _ => false
theorem eqs_ok {n : Nat} : ∀ {as bs : List D} {ps qs : List PyData}, toPs as = some ps → toPs bs = some qs → PyData.eqvAll ps qs = eqs1 as bs
  | [], [], _, _, h, k => by cases h; cases k; rfl
  | [], b :: bs, _, qs, h, k => by
    cases h
    obtain ⟨q, _, k⟩ := Option.bind_eq_some_iff.mp (show (b.toP.bind fun p => (toPs bs).map fun q => p :: q) = some qs from k)
    obtain ⟨qs', _, rfl⟩ := Option.map_eq_some_iff.mp k
    rfl
  | a :: as, [], ps, _, h, k => by
    cases k
    obtain ⟨q, _, h⟩ := Option.bind_eq_some_iff.mp (show (a.toP.bind fun p => (toPs as).map fun q => p :: q) = some ps from h)
    obtain ⟨qs', _, rfl⟩ := Option.map_eq_some_iff.mp h
    rfl
  | a :: as, b :: bs, ps, qs, h, k => by
    obtain ⟨p, h1, h⟩ := Option.bind_eq_some_iff.mp (show (a.toP.bind fun p => (toPs as).map fun q => p :: q) = some ps from h)
    obtain ⟨ps', h2, rfl⟩ := Option.map_eq_some_iff.mp h
    obtain ⟨q, k1, k⟩ := Option.bind_eq_some_iff.mp (show (b.toP.bind fun p => (toPs bs).map fun q => p :: q) = some qs from k)
    obtain ⟨qs', k2, rfl⟩ := Option.map_eq_some_iff.mp k
    simp only [PyData.eqvAll, eqs1, eqs_ok (n := n) h2 k2]
    unfold eq1
    rw [h1, k1]
theorem eq1_tup {n : Nat} {as bs : List D} (ha : oks n as = true) (hb : oks n bs = true) : eq1 (.tup as) (.tup bs) = eqs1 as bs := by
  obtain ⟨ps, e1, _⟩ := oks_toPs ha
  obtain ⟨qs, e2, _⟩ := oks_toPs hb
  unfold eq1
  simp only [D.toP, e1, e2, Option.map_some, PyData.eqv, eqs_ok (n := n) e1 e2]
theorem eq1_lst {n : Nat} {as bs : List D} (ha : oks n as = true) (hb : oks n bs = true) : eq1 (.lst as) (.lst bs) = eqs1 as bs := by
  obtain ⟨ps, e1, _⟩ := oks_toPs ha
  obtain ⟨qs, e2, _⟩ := oks_toPs hb
  unfold eq1
  simp only [D.toP, e1, e2, Option.map_some, PyData.eqv, eqs_ok (n := n) e1 e2]
theorem eq1_int (a b : Int) : eq1 (.int a) (.int b) = decide (a = b) := by
  show (a == b) = _
  exact (Bool.eq_iff_iff).mpr (by simp)
theorem oks_ints (n : Nat) : ∀ ns : List Int, oks n (ns.map .int) = true
  | [] => rfl
  | m :: ns => by simp [oks, D.ok, oks_ints n ns]
theorem oks_map {α : Type} {n : Nat} {f : α → D} (h : ∀ a, (f a).ok n = true) : ∀ xs : List α, oks n (xs.map f) = true
  | [] => rfl
  | x :: xs => by simp [oks, h x, oks_map h xs]
theorem eqs_ints : ∀ as bs : List Int, eqs1 (as.map .int) (bs.map .int) = decide (as = bs)
  | [], [] => rfl
  | [], _ :: _ => rfl
  | _ :: _, [] => rfl
  | a :: as, b :: bs => by
    simp only [List.map_cons, eqs1, eq1_int, eqs_ints as bs, List.cons.injEq, Bool.decide_and]
theorem eqs_len {as bs : List D} (h : as.length ≠ bs.length) : eqs1 as bs = false := by
  induction as generalizing bs with
  | nil => cases bs with
    | nil => exact absurd rfl h
    | cons => rfl
  | cons a as ih => cases bs with
    | nil => rfl
    | cons b bs =>
      rw [eqs1, ih (bs := bs) (fun e => h (by simp [e])), Bool.and_false]
theorem toDs_sh : ∀ ds : List D, toDs (ds.map .sh) = ds
  | [] => rfl
  | d :: ds => by show OT.toD (.sh d) :: toDs (ds.map .sh) = _; rw [toDs_sh ds]; rfl
/-- xs == [] of a list of data -/
theorem ev_eq_nil {n : Nat} {ds : List D} (h : oks n ds = true) (hn : n + 1 ≤ 64) : Op.ev (.cmp .eq) [.lst (ds.map .sh), .lst []] = some (.sh (.bl ds.isEmpty)) := by
  show (eqD (OT.toD (.lst (ds.map .sh))) (OT.toD (.lst []))).map _ = _
  rw [show OT.toD (.lst (ds.map .sh)) = .lst ds by unfold OT.toD; rw [toDs_sh], show OT.toD (.lst []) = .lst [] from rfl, eqD_ok (n := n + 1) (by simpa [D.ok] using h) (by simp [D.ok, oks]) hn, eq1_lst h rfl]
  cases ds <;> rfl
/-- x in a tuple, a list -/
theorem inD_tup {n : Nat} {x : D} {ds : List D} (hx : x.ok n = true) (hd : oks n ds = true) (hn : n + 1 ≤ 64) : inD x (.tup ds) = some (ds.any fun z => eq1 z x) := by
  obtain ⟨p, e1, _⟩ := ok_toP hx
  obtain ⟨qs, e2, hq⟩ := oks_toPs hd
  clear hq
  have sx := shaped_of_ok hx (by omega) e1
  have sd := shaped_of_ok (d := .tup ds) (n := n + 1) (by simpa [D.ok] using hd) hn (p := .tuple qs) (by simp [D.toP, e2])
  unfold inD
  rw [e1]
  simp only [D.toP, e2, Option.map_some, Option.bind_some, sx, sd, Bool.and_self, if_true]
  congr 1
  clear sd
  induction ds generalizing qs with
  | nil => cases e2; rfl
  | cons d ds ih =>
    obtain ⟨q, h1, h⟩ := Option.bind_eq_some_iff.mp (show (d.toP.bind fun p => (toPs ds).map fun q => p :: q) = some qs from e2)
    obtain ⟨qs', h2, rfl⟩ := Option.map_eq_some_iff.mp h
    simp only [List.any_cons]
    rw [ih (by simp [oks] at hd; exact hd.2) qs' h2]
    congr 1
    unfold eq1
    rw [h1, e1]
theorem inD_ints (x : Int) (ns : List Int) : inD (.int x) (.tup (ns.map .int)) = some (decide (x ∈ ns)) := by
  rw [inD_tup (n := 1) rfl (oks_ints 1 ns) (by decide), List.any_map]
  congr 1
  rw [Bool.eq_iff_iff]
  simp [eq1_int, Function.comp]
theorem ev_in_it (x : Int) (ns : List Int) : Op.ev (.cmp .in_) [.sh (.int x), .sh (.tup (ns.map .int))] = some (.sh (.bl (decide (x ∈ ns)))) := by
  show (inD (.int x) (.tup (ns.map .int))).map _ = _
  rw [inD_ints]; rfl

/-- a comprehension over one name with a test -/
theorem lcL_fm {α : Type} {cond : CH.Env → R (Bool × CH.Env)} {elt : CH.Env → R (OT × CH.Env)} {pl : List Nat} {i : Nat} {ρ : CH.Env} {mk g : α → D} {p : α → Bool} (hi : ρ[i]? = some .no) (hp : i ∉ pl) :
    ∀ (xs : List α) (acc : List OT), acc.length + xs.length ≤ big → (∀ x ∈ xs, cond (ρ.set i (.ow (.sh (mk x)))) = .ok (p x, ρ.set i (.ow (.sh (mk x)))) ∧ (p x = true → elt (ρ.set i (.ow (.sh (mk x)))) = .ok (.sh (g x), ρ.set i (.ow (.sh (mk x)))))) →
      lcL cond elt pl (.one i) (xs.map mk) acc ρ = .ok (acc ++ (xs.filter p).map fun x => .sh (g x), ρ)
  | [], acc, _, _ => by simp [lcL, lcG]
  | x :: xs, acc, hl, h => by
    have s1 : setTg pl (.one i) (mk x) ρ = some (ρ.set i (.ow (.sh (mk x)))) := by
      show set1 pl i (mk x) ρ = _
      unfold set1
      rw [hi]
      simp [hp]
    have w1 : wipeE (ρ.set i (.ow (.sh (mk x)))) (Tg.slots (.one i)) = ρ := by
      show (ρ.set i (.ow (.sh (mk x)))).set i .no = ρ
      rw [List.set_set, set_no hi]
    obtain ⟨h1, h2⟩ := h x (by simp)
    have ih := fun acc hl => lcL_fm (cond := cond) (elt := elt) hi hp xs acc hl fun y hy => h y (by simp [hy])
    simp only [List.length_cons] at hl
    rw [List.map_cons]
    unfold lcL at ih ⊢
    unfold lcG
    rw [s1]
    simp only
    rw [h1]
    cases hq : p x with
    | false =>
      simp only
      rw [w1, ih acc (by omega), List.filter_cons_of_neg (by simp [hq])]
    | true =>
      have : pushE elt acc (ρ.set i (.ow (.sh (mk x)))) = .ok (acc ++ [.sh (g x)], ρ.set i (.ow (.sh (mk x)))) := by
        unfold pushE
        rw [h2 hq]
        simp only
        rw [if_pos (by omega)]
      simp only
      rw [this]
      simp only
      rw [w1, ih _ (by simp; omega), List.filter_cons_of_pos hq]
      simp
theorem evE_lcf {Φ : Phi} {pl : List Nat} {e : CH.CE} {i : Nat} {it : CI} {cs : CTs} {ρ ρ1 : CH.Env} {α : Type} {xs : List α} {mk g : α → D} {p : α → Bool}
    (hI : evI Φ pl it ρ = .ok (xs.map mk, ρ1)) (hn : ρ1[i]? = some .no) (hp : i ∉ pl) (hl : xs.length ≤ big)
    (h : ∀ x ∈ xs, evAll Φ pl cs (ρ1.set i (.ow (.sh (mk x)))) = .ok (p x, ρ1.set i (.ow (.sh (mk x)))) ∧ (p x = true → evE Φ pl e (ρ1.set i (.ow (.sh (mk x)))) = .ok (.sh (g x), ρ1.set i (.ow (.sh (mk x)))))) :
    evE Φ pl (.lc e (.one i) it cs) ρ = .ok (.lst ((xs.filter p).map fun x => .sh (g x)), backI it ρ ρ1) := by
  have lc := lcL_fm (cond := fun ρ => evAll Φ pl cs ρ) (elt := fun ρ => evE Φ pl e ρ) (pl := pl) hn hp xs [] (by simpa using hl) h
  rw [evE, hI]
  simp only [CH.R.bind]
  rw [if_pos (quiet_one hn), wipe_one hn, lc]
  simp only
  rw [backE_same]
  simp
theorem cut_map {α β : Type} (f : α → β) (xs : List α) (lo hi : Option Int) : CH.cutD (xs.map f) lo hi = (CH.cutD xs lo hi).map f := by
  unfold CH.cutD; rw [List.length_map, List.map_take, List.map_drop]
mutual
/-- how heavy -/
def D.wt : D → Nat
  | .str s => s.length
  | .int _ => 40
  | .tup ds => wts ds
  | .lst ds => wts ds
  | _ => 1
def wts : List D → Nat
  | [] => 0
  | d :: ds => d.wt + 1 + wts ds
end
mutual
/-- numbers of at most twelve figures -/
def D.small : D → Bool
  | .int i => decide (i.natAbs < 1000000000000)
  | .tup ds => smalls ds
  | .lst ds => smalls ds
  | _ => true
def smalls : List D → Bool
  | [] => true
  | d :: ds => d.small && smalls ds
end
theorem log2_small {n : Nat} (h : n < 1000000000000) : n.log2 < 40 := by
  by_cases h0 : n = 0
  · subst h0; decide
  · exact (Nat.log2_lt h0).mpr (Nat.lt_of_lt_of_le h (by decide))
theorem short_int {i : Int} (h : i.natAbs < 1000000000000) : (PyData.shown (.int i)).length ≤ 13 := by
  show (Str.ofString (toString i)).length ≤ 13
  rw [PyProof.Rows.ofString_len]
  exact int_text_length_le10 (k := 12) (by decide) (by simpa using h)
mutual
theorem D.shows : ∀ {n : Nat} {d : D} {p : PyData}, d.ok n = true → d.small = true → d.toP = some p → p.showable = true ∧ p.leavesShort 13 = true ∧ p.weight ≤ d.wt
  | _, .non, _, _, _, e => by cases e; exact ⟨rfl, rfl, by simp [PyData.weight, D.wt]⟩
  | _, .bl b, _, _, _, e => by cases e; exact ⟨rfl, rfl, by simp [PyData.weight, D.wt]⟩
  | _, .int i, _, _, hs, e => by
    cases e
    have h : i.natAbs < 1000000000000 := by simpa [D.small] using hs
    exact ⟨by simp only [PyData.showable, decide_eq_true_eq]; have := log2_small h; omega, by simp only [PyData.leavesShort, decide_eq_true_eq]; exact short_int h, by
      have := log2_small h
      simp only [PyData.weight, D.wt]
      split <;> omega⟩
  | _, .str s, _, ho, _, e => by
    cases e
    have ho : PyData.strOk s = true := by simpa [D.ok] using ho
    refine ⟨rfl, ?_, by simp [PyData.weight, D.wt]; exact Nat.le_refl _⟩
    simp only [PyData.leavesShort, List.all_eq_true, decide_eq_true_eq]
    intro c hc
    have : (s.cps.all (· < 0x110000)) = true := ho
    rw [Array.all_eq_true'] at this
    have := this c (by simpa using hc)
    have := of_decide_eq_true this
    exact Nat.lt_trans this (by decide)
  | 0, .tup _, _, h, _, _ => by simp [D.ok] at h
  | 0, .lst _, _, h, _, _ => by simp [D.ok] at h
  | n + 1, .tup ds, p, ho, hs, e => by
    obtain ⟨ps, e1, rfl⟩ := Option.map_eq_some_iff.mp (show (toPs ds).map PyData.tuple = some p from e)
    obtain ⟨h1, h2, h3⟩ := D.showsAll (n := n) (ds := ds) (by simpa [D.ok] using ho) (by simpa [D.small] using hs) e1
    exact ⟨by simpa [PyData.showable] using h1, by simpa [PyData.leavesShort] using h2, by simpa [PyData.weight, D.wt] using h3⟩
  | n + 1, .lst ds, p, ho, hs, e => by
    obtain ⟨ps, e1, rfl⟩ := Option.map_eq_some_iff.mp (show (toPs ds).map PyData.list = some p from e)
    obtain ⟨h1, h2, h3⟩ := D.showsAll (n := n) (ds := ds) (by simpa [D.ok] using ho) (by simpa [D.small] using hs) e1
    exact ⟨by simpa [PyData.showable] using h1, by simpa [PyData.leavesShort] using h2, by simpa [PyData.weight, D.wt] using h3⟩
  | _, .flst _, _, h, _, _ => by simp [D.ok] at h
  | _, .ty _, _, h, _, _ => by simp [D.ok] at h
  | _, .fn _, _, h, _, _ => by simp [D.ok] at h
  | _, .obj .., _, h, _, _ => by simp [D.ok] at h
theorem D.showsAll : ∀ {n : Nat} {ds : List D} {ps : List PyData}, oks n ds = true → smalls ds = true → toPs ds = some ps → PyData.showableAll ps = true ∧ PyData.leavesShortAll 13 ps = true ∧ PyData.weightAll ps ≤ wts ds
  | _, [], _, _, _, e => by cases e; exact ⟨rfl, rfl, Nat.le_refl _⟩
  | n, d :: ds, ps, ho, hs, e => by
    obtain ⟨q, k1, k⟩ := Option.bind_eq_some_iff.mp (show (d.toP.bind fun p => (toPs ds).map fun q => p :: q) = some ps from e)
    obtain ⟨qs', k2, rfl⟩ := Option.map_eq_some_iff.mp k
    have ho := Bool.and_eq_true_iff.mp (by simpa [oks] using ho)
    have hs := Bool.and_eq_true_iff.mp (by simpa [smalls] using hs)
    obtain ⟨a1, a2, a3⟩ := D.shows ho.1 hs.1 k1
    obtain ⟨b1, b2, b3⟩ := D.showsAll ho.2 hs.2 k2
    exact ⟨by simp [PyData.showableAll, a1, b1], by simp [PyData.leavesShortAll, a2, b2], by simp only [PyData.weightAll, wts]; omega⟩
end
/-- the text that repr gives a row of data -/
theorem repr_ok {d : D} {n : Nat} (ho : d.ok n = true) (hn : n ≤ 64) (hs : d.small = true) (hw : d.wt ≤ 1048576) (hr : d.isRow = true) : ∃ z, ∀ t : OT, t.toD = d → Op.ev (.bi .repr) [t] = some (.sh (.str z)) := by
  obtain ⟨p, e, h1, h2⟩ := ok_toP ho
  obtain ⟨a1, a2, a3⟩ := D.shows ho hs e
  have hz := PyData.shown_fits (by decide) (by decide) a2 (by rw [show 2 ^ 20 = 1048576 from rfl]; omega)
  rw [← line] at hz
  refine ⟨p.shown, fun t ht => ?_⟩
  show reprEv t = _
  unfold reprEv
  rw [ht, if_pos hr, e]
  show guard_ (SeqAt.shaped p && p.showable && decide (p.shown.length ≤ big)) _ = _
  rw [shaped_of_ok ho hn e, a1, decide_eq_true hz]; rfl
theorem ev_ne_ss (a : Str) : Op.ev (.cmp .ne) [.sh (.str a), .sh (.str a)] = some (.sh (.bl false)) := by
  show some (OT.sh (D.bl (!(a == a)))) = _
  rw [beq_self_eq_true]; rfl
theorem ev_eq_ss (a : Str) : Op.ev (.cmp .eq) [.sh (.str a), .sh (.str a)] = some (.sh (.bl true)) := by
  show some (OT.sh (D.bl (a == a))) = _
  rw [beq_self_eq_true]
end CH
end
section
namespace K70
open PySem CH
def st0 : Stmt := PySem.Challenge.pw_clausehold_k70_parity_clauses.main.body.getD 1 (.Pass ⟨0, 0, 0, 0⟩)
def q0_0 : CS := (.ret (.and (.cons (.op (.isi ["int"]) (.cons (.bor 0 []) .nil)) (.cons (.not (.op (.isi ["bool"]) (.cons (.bor 0 []) .nil))) .nil))))
def b0 : CSs := (.cons q0_0 .nil)
def f0 : Fn := ⟨1, 1, [], b0⟩
def e0 : Ent := ⟨"is_integer", st0, ["value"], ["value"], f0⟩
def st1 : Stmt := PySem.Challenge.pw_clausehold_k70_parity_clauses.main.body.getD 7 (.Pass ⟨0, 0, 0, 0⟩)
def p1_0 : CE := (.and (.cons (.call 0 (.val (.v 2) .nil)) (.cons (.op (.cmp .ne) (.cons (.bor 2 []) (.cons (.e (.c (.int 0))) .nil))) .nil)))
def p1_1 : CTs := .nil
def p1_2 : CSs := (.cons (.ife (.val (.e (.op (.cmp .ge) (.cons (.e (.op (.bi .abs) (.cons (.e (.op .idx (.cons (.bor 0 []) (.cons (.e (.op (.bin .sub) (.cons (.bor 1 []) (.cons (.e (.c (.int 1))) .nil)))) .nil)))) .nil))) (.cons (.e (.op (.bi .abs) (.cons (.e (.op .idx (.cons (.bor 0 []) (.cons (.bor 1 []) .nil)))) .nil))) .nil))))) (.cons (.raise 1 1 (.cons (.v 0) .nil)) .nil) .nil) .nil)
def q1_0 : CS := (.ife (.or (.cons (.not (.val (.e (.op (.isi ["tuple"]) (.cons (.bor 0 []) .nil))))) (.cons (.not (.val (.e (.op (.bi .all) (.cons (.e (.lc p1_0 (.one 2) (.seq (.bor 0 [])) p1_1)) .nil))))) .nil))) (.cons (.raise 1 1 (.cons (.v 0) .nil)) .nil) .nil)
def q1_1 : CS := (.for_ (.one 1) (.rng2 (.c (.int 1)) (.op (.bi .len) (.cons (.bor 0 []) .nil))) p1_2)
def b1 : CSs := (.cons q1_0 (.cons q1_1 .nil))
def f1 : Fn := ⟨1, 3, [], b1⟩
def e1 : Ent := ⟨"need_literals", st1, ["literals", "at", "literal"], ["literals"], f1⟩
def st2 : Stmt := PySem.Challenge.pw_clausehold_k70_parity_clauses.main.body.getD 8 (.Pass ⟨0, 0, 0, 0⟩)
def p2_0 : CE := (.op (.bin .add) (.cons (.bor 6 []) (.cons (.e (.tup (.cons (.v 7) .nil))) .nil)))
def p2_1 : CTs := .nil
def p2_2 : CI := (.seq (.e (.tup (.cons (.c (.int 0)) (.cons (.c (.int 1)) .nil)))))
def p2_3 : CTs := .nil
def p2_4 : CSs := (.cons (.set 2 (.lc2 p2_0 (.one 6) (.seq (.bor 2 [])) p2_1 (.one 7) p2_2 p2_3)) .nil)
def p2_5 : CE := (.ite (.val (.e (.op (.cmp .eq) (.cons (.bor 7 []) (.cons (.e (.c (.int 1))) .nil))))) (.op .neg (.cons (.bor 8 []) .nil)) (.v 8))
def p2_6 : CTs := .nil
def p2_7 : CSs := (.cons (.ife (.val (.e (.op (.cmp .ne) (.cons (.e (.op (.bin .mod) (.cons (.e (.op (.bi .sum) (.cons (.bor 5 []) .nil))) (.cons (.e (.c (.int 2))) .nil)))) (.cons (.bor 1 []) .nil))))) (.cons (.ex (.mu .append 4 [] (.cons (.op (.bi .tuple) (.cons (.e (.lc p2_5 (.tup [8, 7]) (.zip (.e (.v 0)) (.e (.v 5))) p2_6)) .nil)) .nil))) .nil) .nil) .nil)
def q2_0 : CS := (.ex (.call 1 (.val (.v 0) .nil)))
def q2_1 : CS := (.ife (.or (.cons (.not (.val (.e (.call 0 (.val (.v 1) .nil))))) (.cons (.val (.e (.op (.cmp .notin) (.cons (.bor 1 []) (.cons (.e (.tup (.cons (.c (.int 0)) (.cons (.c (.int 1)) .nil)))) .nil))))) .nil))) (.cons (.raise 0 1 (.cons (.v 1) .nil)) .nil) .nil)
def q2_2 : CS := (.set 2 (.lst (.cons (.tup .nil) .nil)))
def q2_3 : CS := (.for_ (.one 3) (.seq (.bor 0 [])) p2_4)
def q2_4 : CS := (.set 4 (.lst .nil))
def q2_5 : CS := (.for_ (.one 5) (.seq (.bor 2 [])) p2_7)
def q2_6 : CS := (.ret (.op (.bi .tuple) (.cons (.bor 4 []) .nil)))
def b2 : CSs := (.cons q2_0 (.cons q2_1 (.cons q2_2 (.cons q2_3 (.cons q2_4 (.cons q2_5 (.cons q2_6 .nil)))))))
def f2 : Fn := ⟨2, 9, [], b2⟩
def e2 : Ent := ⟨"parity_clauses", st2, ["literals", "bit", "rows", "_", "found", "ones", "row", "one", "literal"], ["literals", "bit"], f2⟩
def st3 : Stmt := PySem.Challenge.pw_clausehold_k70_parity_clauses.main.body.getD 10 (.Pass ⟨0, 0, 0, 0⟩)
def p3_0 : CSs := (.cons (.set 2 (.op (.bin .mod) (.cons (.e (.op (.bi .int) (.cons (.e (.op (.bin .add) (.cons (.e (.op (.bin .mul) (.cons (.bor 2 []) (.cons (.e (.c (.int 1009))) .nil)))) (.cons (.bor 3 []) .nil)))) .nil))) (.cons (.e (.c (.int 999983))) .nil)))) .nil)
def q3_0 : CS := (.ife (.val (.e (.op (.cmp .lt) (.cons (.bor 1 []) (.cons (.e (.op (.bi .len) (.cons (.bor 0 []) .nil))) .nil))))) (.cons (.ret (.op .idx (.cons (.bor 0 []) (.cons (.bor 1 []) .nil)))) .nil) .nil)
def q3_1 : CS := (.set 2 (.c (.int 17)))
def q3_2 : CS := (.for_ (.one 3) (.seq (.e (.slc (.bor 0 []) .no (.at (.c (.int 3)))))) p3_0)
def q3_3 : CS := (.ret (.op (.bin .add) (.cons (.e (.op (.bin .mul) (.cons (.bor 2 []) (.cons (.e (.c (.int 64))) .nil)))) (.cons (.bor 1 []) .nil))))
def b3 : CSs := (.cons q3_0 (.cons q3_1 (.cons q3_2 (.cons q3_3 .nil))))
def f3 : Fn := ⟨2, 4, [], b3⟩
def e3 : Ent := ⟨"_law_cell", st3, ["_law_script", "_law_k", "_law_rest", "_law_number"], ["_law_script", "_law_k"], f3⟩
def st4 : Stmt := PySem.Challenge.pw_clausehold_k70_parity_clauses.main.body.getD 11 (.Pass ⟨0, 0, 0, 0⟩)
def p4_0 : CS := (.ex (.mu .append 4 [] (.cons (.op (.bin .mod) (.cons (.e (.op (.bi .int) (.cons (.bor 2 []) .nil))) (.cons (.e (.op .idx (.cons (.bor 1 []) (.cons (.bor 5 []) .nil)))) .nil))) .nil)))
def p4_1 : CS := (.set 2 (.op (.bin .fdiv) (.cons (.bor 2 []) (.cons (.e (.op .idx (.cons (.bor 1 []) (.cons (.bor 5 []) .nil)))) .nil))))
def p4_2 : CS := (.set 6 (.op (.bin .mod) (.cons (.e (.op (.bi .int) (.cons (.e (.op (.bin .add) (.cons (.e (.op (.bin .mul) (.cons (.bor 2 []) (.cons (.e (.c (.int 48271))) .nil)))) (.cons (.e (.op (.bin .mul) (.cons (.e (.op (.bin .add) (.cons (.bor 5 []) (.cons (.e (.c (.int 1))) .nil)))) (.cons (.e (.c (.int 69621))) .nil)))) .nil)))) .nil))) (.cons (.e (.c (.int 2147483647))) .nil))))
def p4_3 : CS := (.set 6 (.op (.bin .mod) (.cons (.e (.op (.bi .int) (.cons (.e (.op (.bin .add) (.cons (.e (.op (.bin .mul) (.cons (.bor 6 []) (.cons (.e (.c (.int 40692))) .nil)))) (.cons (.e (.op (.bin .mul) (.cons (.e (.op (.bin .fdiv) (.cons (.bor 6 []) (.cons (.e (.c (.int 3791))) .nil)))) (.cons (.e (.op (.bin .add) (.cons (.bor 5 []) (.cons (.e (.c (.int 5))) .nil)))) .nil)))) .nil)))) .nil))) (.cons (.e (.c (.int 2147483399))) .nil))))
def p4_4 : CS := (.ex (.mu .append 4 [] (.cons (.op (.bin .mod) (.cons (.e (.op (.bi .int) (.cons (.e (.op (.bin .fdiv) (.cons (.bor 6 []) (.cons (.e (.c (.int 7))) .nil)))) .nil))) (.cons (.e (.op .idx (.cons (.bor 1 []) (.cons (.bor 5 []) .nil)))) .nil))) .nil)))
def p4_5 : CSs := (.cons (.ife (.val (.bor 3 [])) (.cons p4_0 (.cons p4_1 .nil)) (.cons p4_2 (.cons p4_3 (.cons p4_4 .nil)))) .nil)
def q4_0 : CS := (.set 2 (.op (.bi .abs) (.cons (.bor 0 []) .nil)))
def q4_1 : CS := (.set 3 (.op (.cmp .ge) (.cons (.bor 2 []) (.cons (.e (.op (.bin .pow) (.cons (.e (.c (.int 10))) (.cons (.e (.c (.int 18))) .nil)))) .nil))))
def q4_2 : CS := (.ife (.val (.bor 3 [])) (.cons (.set 2 (.op (.bin .sub) (.cons (.bor 2 []) (.cons (.e (.op (.bin .pow) (.cons (.e (.c (.int 10))) (.cons (.e (.c (.int 18))) .nil)))) .nil)))) .nil) (.cons (.ife (.val (.e (.op (.cmp .lt) (.cons (.bor 0 []) (.cons (.e (.c (.int 0))) .nil))))) (.cons (.set 2 (.op (.bin .add) (.cons (.bor 2 []) (.cons (.e (.c (.int 500009))) .nil)))) .nil) .nil) .nil))
def q4_3 : CS := (.set 4 (.lst .nil))
def q4_4 : CS := (.for_ (.one 5) (.rng1 (.op (.bi .len) (.cons (.bor 1 []) .nil))) p4_5)
def q4_5 : CS := (.ret (.take 4))
def b4 : CSs := (.cons q4_0 (.cons q4_1 (.cons q4_2 (.cons q4_3 (.cons q4_4 (.cons q4_5 .nil))))))
def f4 : Fn := ⟨2, 7, [], b4⟩
def e4 : Ent := ⟨"_law_draws", st4, ["_law_cell_here", "_law_limits", "_law_rest", "_law_great", "_law_found", "_law_k", "_law_mixed"], ["_law_cell_here", "_law_limits"], f4⟩
def st5 : Stmt := PySem.Challenge.pw_clausehold_k70_parity_clauses.main.body.getD 12 (.Pass ⟨0, 0, 0, 0⟩)
def p5_0 : CS := (.set 3 (.lst .nil))
def p5_1 : CSs := (.cons (.set 3 (.op (.bin .add) (.cons (.bor 3 []) (.cons (.e (.lst (.cons (.op (.bin .add) (.cons (.bor 4 []) (.cons (.e (.tup (.cons (.v 2) .nil))) .nil))) (.cons (.op (.bin .add) (.cons (.bor 4 []) (.cons (.e (.tup (.cons (.op .neg (.cons (.bor 2 []) .nil)) .nil))) .nil))) .nil)))) .nil)))) .nil)
def p5_2 : CS := (.for_ (.one 4) (.seq (.bor 1 [])) p5_1)
def p5_3 : CS := (.set 1 (.mv 3))
def p5_4 : CSs := (.cons p5_0 (.cons p5_2 (.cons p5_3 .nil)))
def q5_0 : CS := (.set 1 (.lst (.cons (.tup .nil) .nil)))
def q5_1 : CS := (.for_ (.one 2) (.seq (.bor 0 [])) p5_4)
def q5_2 : CS := (.ret (.take 1))
def b5 : CSs := (.cons q5_0 (.cons q5_1 (.cons q5_2 .nil)))
def f5 : Fn := ⟨1, 5, [], b5⟩
def e5 : Ent := ⟨"_law_rows", st5, ["_law_variables", "_law_rows_here", "_law_v", "_law_wider", "_law_row"], ["_law_variables"], f5⟩
def st6 : Stmt := PySem.Challenge.pw_clausehold_k70_parity_clauses.main.body.getD 13 (.Pass ⟨0, 0, 0, 0⟩)
def p6_0 : CS := (.set 6 (.op (.bin .add) (.cons (.e (.c (.int 1))) (.cons (.e (.op .idx (.cons (.bor 3 []) (.cons (.e (.op (.bin .add) (.cons (.e (.c (.int 1))) (.cons (.e (.op (.bin .mul) (.cons (.e (.c (.int 2))) (.cons (.bor 5 []) .nil)))) .nil)))) .nil)))) .nil))))
def p6_1 : CE := (.v 7)
def p6_2 : CTs := (.cons (.val (.e (.op (.cmp .eq) (.cons (.e (.op (.bi .abs) (.cons (.bor 7 []) .nil))) (.cons (.bor 6 []) .nil))))) .nil)
def p6_3 : CE := (.v 7)
def p6_4 : CTs := (.cons (.val (.e (.op (.cmp .lt) (.cons (.e (.op (.bi .abs) (.cons (.bor 7 []) .nil))) (.cons (.bor 6 []) .nil))))) .nil)
def p6_5 : CS := (.ife (.val (.e (.op (.cmp .eq) (.cons (.e (.lc p6_1 (.one 7) (.seq (.bor 4 [])) p6_2)) (.cons (.e (.lst .nil)) .nil))))) (.cons (.ex (.mu .insert 4 [] (.cons (.op (.bi .len) (.cons (.e (.lc p6_3 (.one 7) (.seq (.bor 4 [])) p6_4)) .nil)) (.cons (.op .idx (.cons (.e (.lst (.cons (.mv 6) (.cons (.op .neg (.cons (.bor 6 []) .nil)) .nil)))) (.cons (.e (.op .idx (.cons (.bor 3 []) (.cons (.e (.op (.bin .add) (.cons (.e (.c (.int 2))) (.cons (.e (.op (.bin .mul) (.cons (.e (.c (.int 2))) (.cons (.bor 5 []) .nil)))) .nil)))) .nil)))) .nil))) .nil)))) .nil) .nil)
def p6_6 : CSs := (.cons p6_0 (.cons p6_5 .nil))
def q6_0 : CS := (.set 3 (.call 4 (.val (.v 0) (.val (.op (.bin .add) (.cons (.e (.lst (.cons (.op (.bin .add) (.cons (.bor 1 []) (.cons (.e (.c (.int 1))) .nil))) .nil))) (.cons (.e (.op (.bin .mul) (.cons (.e (.lst (.cons (.v 2) (.cons (.c (.int 2)) .nil)))) (.cons (.bor 1 []) .nil)))) .nil))) .nil))))
def q6_1 : CS := (.set 4 (.lst .nil))
def q6_2 : CS := (.for_ (.one 5) (.rng1 (.op .idx (.cons (.bor 3 []) (.cons (.e (.c (.int 0))) .nil)))) p6_6)
def q6_3 : CS := (.ret (.op (.bi .tuple) (.cons (.bor 4 []) .nil)))
def b6 : CSs := (.cons q6_0 (.cons q6_1 (.cons q6_2 (.cons q6_3 .nil))))
def f6 : Fn := ⟨3, 8, [], b6⟩
def e6 : Ent := ⟨"_law_literals", st6, ["_law_cell_here", "_law_many", "_law_most", "_law_draws_here", "_law_row", "_law_k", "_law_v", "_law_one"], ["_law_cell_here", "_law_many", "_law_most"], f6⟩
def st7 : Stmt := PySem.Challenge.pw_clausehold_k70_parity_clauses.main.body.getD 14 (.Pass ⟨0, 0, 0, 0⟩)
def p7_0 : CS := (.set 6 (.lst .nil))
def p7_1 : CSs := (.cons (.set 6 (.op (.bin .add) (.cons (.bor 6 []) (.cons (.e (.fz (.lst (.cons (.op (.bin .add) (.cons (.bor 5 []) (.cons (.e (.lst (.cons (.c (.int 0)) .nil))) .nil))) (.cons (.op (.bin .add) (.cons (.bor 5 []) (.cons (.e (.lst (.cons (.c (.int 1)) .nil))) .nil))) .nil))))) .nil)))) .nil)
def p7_2 : CS := (.for_ (.one 5) (.seq (.bor 2 [])) p7_1)
def p7_3 : CS := (.set 2 (.mv 6))
def p7_4 : CSs := (.cons p7_0 (.cons p7_2 (.cons p7_3 .nil)))
def p7_5 : CE := (.op .idx (.cons (.e (.lst (.cons (.op .idx (.cons (.bor 0 []) (.cons (.bor 7 []) .nil))) (.cons (.op .neg (.cons (.e (.op .idx (.cons (.bor 0 []) (.cons (.bor 7 []) .nil)))) .nil)) .nil)))) (.cons (.e (.op .idx (.cons (.bor 5 []) (.cons (.bor 7 []) .nil)))) .nil)))
def p7_6 : CTs := .nil
def p7_7 : CSs := (.cons (.ife (.val (.e (.op (.cmp .ne) (.cons (.e (.op (.bin .mod) (.cons (.e (.op (.bi .int) (.cons (.e (.op (.bi .sum) (.cons (.bor 5 []) .nil))) .nil))) (.cons (.e (.c (.int 2))) .nil)))) (.cons (.bor 1 []) .nil))))) (.cons (.ex (.mu .append 4 [] (.cons (.op (.bi .tuple) (.cons (.e (.lc p7_5 (.one 7) (.rng1 (.op (.bi .len) (.cons (.bor 0 []) .nil))) p7_6)) .nil)) .nil))) .nil) .nil) .nil)
def q7_0 : CS := (.set 2 (.fz (.lst (.cons (.lst .nil) .nil))))
def q7_1 : CS := (.for_ (.one 3) (.seq (.bor 0 [])) p7_4)
def q7_2 : CS := (.set 4 (.lst .nil))
def q7_3 : CS := (.for_ (.one 5) (.seq (.bor 2 [])) p7_7)
def q7_4 : CS := (.ret (.op (.bi .tuple) (.cons (.bor 4 []) .nil)))
def b7 : CSs := (.cons q7_0 (.cons q7_1 (.cons q7_2 (.cons q7_3 (.cons q7_4 .nil)))))
def f7 : Fn := ⟨2, 8, [], b7⟩
def e7 : Ent := ⟨"_law_due", st7, ["_law_literals_here", "_law_bit", "_law_rows_here", "_law_literal", "_law_due_here", "_law_row", "_law_wider", "_law_k"], ["_law_literals_here", "_law_bit"], f7⟩
def st8 : Stmt := PySem.Challenge.pw_clausehold_k70_parity_clauses.main.body.getD 15 (.Pass ⟨0, 0, 0, 0⟩)
def p8_0 : CSs := (.cons (.ex (.call 2 (.val (.v 0) (.val (.v 1) .nil)))) .nil)
def q8_0 : CS := (.tr p8_0 [⟨1, [1], (some 2), true, [(.c (.str "literals")), (.xf 0)]⟩, ⟨0, [0], (some 2), true, [(.c (.str "number")), (.xf 0)]⟩])
def q8_1 : CS := (.ret (.c .non))
def b8 : CSs := (.cons q8_0 (.cons q8_1 .nil))
def f8 : Fn := ⟨2, 3, [], b8⟩
def e8 : Ent := ⟨"_law_refused", st8, ["_law_literals_here", "_law_bit", "e"], ["_law_literals_here", "_law_bit"], f8⟩
def st9 : Stmt := PySem.Challenge.pw_clausehold_k70_parity_clauses.main.body.getD 16 (.Pass ⟨0, 0, 0, 0⟩)
def p9_0 : CS := (.set 6 (.call 2 (.val (.mv 2) (.val (.v 3) .nil))))
def p9_1 : CS := (.ife (.val (.e (.op (.cmp .ne) (.cons (.e (.op (.bi .repr) (.cons (.bor 6 []) .nil))) (.cons (.e (.op (.bi .repr) (.cons (.e (.call 7 (.val (.mv 2) (.val (.v 3) .nil)))) .nil))) .nil))))) (.cons (.ret (.c (.bl false))) .nil) .nil)
def p9_2 : CE := (.op (.bi .abs) (.cons (.bor 9 []) .nil))
def p9_3 : CTs := .nil
def p9_4 : CS := (.ife (.val (.e (.op (.cmp .gt) (.cons (.e (.op (.bi .len) (.cons (.bor 2 []) .nil))) (.cons (.e (.c (.int 6))) .nil))))) (.cons .brk .nil) .nil)
def p9_5 : CE := (.v 11)
def p9_6 : CTs := (.cons (.val (.e (.op (.cmp .in_) (.cons (.bor 11 []) (.cons (.bor 7 []) .nil))))) .nil)
def p9_7 : CS := (.set 8 (.op (.cmp .eq) (.cons (.e (.op (.bin .mod) (.cons (.e (.op (.bi .int) (.cons (.e (.op (.bi .len) (.cons (.e (.lc p9_5 (.one 11) (.seq (.bor 2 [])) p9_6)) .nil))) .nil))) (.cons (.e (.c (.int 2))) .nil)))) (.cons (.bor 3 []) .nil))))
def p9_8 : CE := (.v 10)
def p9_9 : CE := (.v 11)
def p9_10 : CTs := (.cons (.val (.e (.op (.cmp .in_) (.cons (.bor 11 []) (.cons (.bor 7 []) .nil))))) .nil)
def p9_11 : CTs := (.cons (.val (.e (.op (.cmp .eq) (.cons (.e (.lc p9_9 (.one 11) (.seq (.bor 10 [])) p9_10)) (.cons (.e (.lst .nil)) .nil))))) .nil)
def p9_12 : CS := (.ife (.val (.e (.op (.cmp .ne) (.cons (.bor 8 []) (.cons (.e (.op (.cmp .eq) (.cons (.e (.lc p9_8 (.one 10) (.seq (.bor 6 [])) p9_11)) (.cons (.e (.lst .nil)) .nil)))) .nil))))) (.cons (.ret (.c (.bl false))) .nil) .nil)
def p9_13 : CSs := (.cons p9_4 (.cons p9_7 (.cons p9_12 .nil)))
def p9_14 : CS := (.for_ (.one 7) (.seq (.e (.call 5 (.val (.lc p9_2 (.one 9) (.seq (.e (.slc (.bor 2 []) .no (.at (.c (.int 7)))))) p9_3) .nil)))) p9_13)
def p9_15 : CSs := (.cons p9_0 (.cons p9_1 (.cons p9_14 .nil)))
def q9_0 : CS := (.set 1 (.call 4 (.val (.call 3 (.val (.v 0) (.val (.c (.int 0)) .nil))) (.val (.lst (.cons (.c (.int 2)) (.cons (.c (.int 9)) (.cons (.c (.int 15)) (.cons (.c (.int 4)) .nil))))) .nil))))
def q9_1 : CS := (.set 2 (.call 6 (.val (.call 3 (.val (.v 0) (.val (.c (.int 1)) .nil))) (.val (.op .idx (.cons (.e (.lst (.cons (.c (.int 6)) (.cons (.c (.int 6)) (.cons (.c (.int 3)) (.cons (.c (.int 9)) .nil)))))) (.cons (.e (.op .idx (.cons (.bor 1 []) (.cons (.e (.c (.int 3))) .nil)))) .nil))) (.val (.c (.int 12)) .nil)))))
def q9_2 : CS := (.for_ (.one 3) (.seq (.e (.lst (.cons (.op .idx (.cons (.bor 1 []) (.cons (.e (.c (.int 0))) .nil))) (.cons (.op (.bin .sub) (.cons (.e (.c (.int 1))) (.cons (.e (.op .idx (.cons (.bor 1 []) (.cons (.e (.c (.int 0))) .nil)))) .nil))) .nil))))) p9_15)
def q9_3 : CS := (.set 4 (.op .idx (.cons (.e (.lst (.cons (.c (.int 2)) (.cons (.op .neg (.cons (.e (.c (.int 1))) .nil)) (.cons (.c .non) (.cons (.c (.str "0")) (.cons (.op (.bin .pow) (.cons (.e (.c (.int 10))) (.cons (.e (.c (.int 9))) .nil))) (.cons (.tup (.cons (.c (.int 0)) .nil)) (.cons (.c (.bl true)) (.cons (.c (.bl false)) (.cons (.c (.str "1")) .nil))))))))))) (.cons (.e (.op .idx (.cons (.bor 1 []) (.cons (.e (.c (.int 1))) .nil)))) .nil))))
def q9_4 : CS := (.set 5 (.op .idx (.cons (.e (.fz (.lst (.cons (.tup (.cons (.c (.int 0)) .nil)) (.cons (.tup (.cons (.c (.int 1)) (.cons (.c (.int 1)) .nil))) (.cons (.tup (.cons (.c (.int 1)) (.cons (.op .neg (.cons (.e (.c (.int 1))) .nil)) .nil))) (.cons (.tup (.cons (.c (.int 2)) (.cons (.c (.int 1)) .nil))) (.cons (.tup (.cons (.c (.bl true)) .nil)) (.cons (.tup (.cons (.c (.str "1")) .nil)) (.cons (.c .non) (.cons (.c (.int 1)) (.cons (.tup (.cons (.c (.int 3)) (.cons (.c (.int 2)) (.cons (.c (.int 4)) .nil)))) (.cons (.tup (.cons (.c (.int 1)) (.cons (.c (.int 3)) (.cons (.c (.int 2)) .nil)))) (.cons (.tup (.cons (.c (.int 1)) (.cons (.c (.str "2")) .nil))) (.cons (.tup (.cons (.c (.int 1)) (.cons (.c (.int 2)) (.cons (.c (.int 0)) .nil)))) (.cons (.lst (.cons (.c (.int 1)) .nil)) (.cons (.lst .nil) (.cons (.tup (.cons (.c (.int 1)) (.cons (.c (.int 2)) (.cons (.op .neg (.cons (.e (.c (.int 2))) .nil)) .nil)))) .nil)))))))))))))))))) (.cons (.e (.op .idx (.cons (.bor 1 []) (.cons (.e (.c (.int 2))) .nil)))) .nil))))
def q9_5 : CS := (.ife (.val (.e (.op (.cmp .ne) (.cons (.e (.op (.bi .repr) (.cons (.e (.call 8 (.val (.mv 2) (.val (.mv 4) .nil)))) .nil))) (.cons (.e (.op (.bi .repr) (.cons (.e (.tup (.cons (.c (.str "number")) (.cons (.mv 4) .nil)))) .nil))) .nil))))) (.cons (.ret (.c (.bl false))) .nil) .nil)
def q9_6 : CS := (.ret (.and (.cons (.op (.cmp .eq) (.cons (.e (.op (.bi .repr) (.cons (.e (.call 8 (.val (.mv 5) (.val (.mv 4) .nil)))) .nil))) (.cons (.e (.op (.bi .repr) (.cons (.e (.tup (.cons (.c (.str "literals")) (.cons (.mv 5) .nil)))) .nil))) .nil))) (.cons (.op (.cmp .eq) (.cons (.e (.op (.bi .repr) (.cons (.e (.call 8 (.val (.mv 5) (.val (.c (.int 0)) .nil)))) .nil))) (.cons (.e (.op (.bi .repr) (.cons (.e (.tup (.cons (.c (.str "literals")) (.cons (.mv 5) .nil)))) .nil))) .nil))) .nil))))
def b9 : CSs := (.cons q9_0 (.cons q9_1 (.cons q9_2 (.cons q9_3 (.cons q9_4 (.cons q9_5 (.cons q9_6 .nil)))))))
def f9 : Fn := ⟨1, 12, [], b9⟩
def e9 : Ent := ⟨"law", st9, ["_law_script", "_law_draws_here", "_law_literals_here", "_law_bit", "_law_bad", "_law_odd", "_law_told", "_law_row", "_law_fits", "_law_literal", "_law_clause", "_law_one"], ["_law_script"], f9⟩
def dcs : List (Str × List (Str × Int)) := []
def exs : List ExC := [("InvalidNumber", ["value"], [0]), ("InvalidLiterals", ["value"], [1])]
def ents : List Ent := [e0, e1, e2, e3, e4, e5, e6, e7, e8, e9]
def bns : List Str := ["abs", "all", "bool", "int", "isinstance", "len", "range", "repr", "sum", "tuple", "zip"]
end K70
end
section
namespace K70
open PySem L2 Evl PyProof.Rows CH
def P (k f : Nat) (ts : List OT) : R (OT × List OT) := runD (tbOf ents) k f ts
theorem step (k f : Nat) (ts : List OT) (fn : Fn) (h : tbOf ents f = some fn) : P (k + 1) f ts = fn.run (P k) ts := by
  unfold P; simp only [runD, h]
theorem t0 : tbOf ents 0 = some f0 := rfl
theorem t1 : tbOf ents 1 = some f1 := rfl
theorem t2 : tbOf ents 2 = some f2 := rfl
theorem t3 : tbOf ents 3 = some f3 := rfl
theorem t4 : tbOf ents 4 = some f4 := rfl
theorem t5 : tbOf ents 5 = some f5 := rfl
theorem t6 : tbOf ents 6 = some f6 := rfl
theorem t7 : tbOf ents 7 = some f7 := rfl
theorem t8 : tbOf ents 8 = some f8 := rfl
theorem t9 : tbOf ents 9 = some f9 := rfl
theorem pow18 : Op.ev (.bin .pow) [.sh (.int 10), .sh (.int 18)] = some (.sh (.int 1000000000000000000)) := ev_pow_10 18 (by decide)
/-- the items of the lists that stand for numbers -/
theorem idx_sl (ns : List Int) (j : Nat) (h : j < ns.length) : idxEv (.sh (.lst (ns.map .int))) (j : Int) = some (.sh (.int (ns.getD j 0))) := by
  have e2 : atI (ns.map D.int) (j : Int) = some (.int (ns.getD j 0)) := atI_nat (by rw [List.getElem?_map, List.getElem?_eq_getElem h, List.getD_eq_getElem?_getD, List.getElem?_eq_getElem h]; rfl)
  show (atI (ns.map D.int) (j : Int)).map OT.sh = _
  rw [e2]; rfl
theorem idx_st (ns : List Int) (j : Nat) (h : j < ns.length) : idxEv (.sh (.tup (ns.map .int))) (j : Int) = some (.sh (.int (ns.getD j 0))) := idx_sl ns j h
theorem idx_sf (ns : List Int) (j : Nat) (h : j < ns.length) : idxEv (.sh (.flst (ns.map .int))) (j : Int) = some (.sh (.int (ns.getD j 0))) := idx_sl ns j h
theorem idx_ow (ns : List Int) (j : Nat) (h : j < ns.length) : idxEv (.lst (ns.map iT)) (j : Int) = some (.sh (.int (ns.getD j 0))) := by
  show (OT.items (.lst (ns.map iT))).bind _ = _
  rw [show OT.items (.lst (ns.map iT)) = some (ns.map .int) from leaves_i ns]
  exact idx_sl ns j h
/-- what a cell's draws are: as many as limits, each below its limit -/
def Within (xs ms : List Int) : Prop := xs.length = ms.length ∧ ∀ i, i < ms.length → 0 ≤ xs.getD i 0 ∧ xs.getD i 0 < ms.getD i 0
def mixA (r i : Int) : Int := (r * 48271 + (i + 1) * 69621) % 2147483647
def mixB (r i : Int) : Int := (mixA r i * 40692 + mixA r i / 3791 * (i + 5)) % 2147483399
theorem ap_i (xs : List Int) (y : Int) (h : xs.length < 1000000) : muEv .append (xs.map iT) [.sh (.int y)] = some (.sh .non, (xs ++ [y]).map iT) := by
  show guard_ (decide ((xs.map iT).length < big)) _ = _
  rw [decide_eq_true (by rw [List.length_map]; simp only [big]; omega)]
  simp [guard_]
abbrev Rho (c : Int) (ms xs : List Int) (r : Int) (i : Int) (g : Bool) (v : Sl) : CH.Env := [.ow (.sh (.int c)), .ow (.sh (.lst (ms.map .int))), .ow (.sh (.int r)), .ow (.sh (.bl g)), .ow (.lst (xs.map iT)), .ow (.sh (.int i)), v]
section
variable (k : Nat) (c : Int) (ms xs : List Int) (r M : Int) (i : Int) (v : Sl)
theorem turn_t (ix : idxEv (.sh (.lst (ms.map .int))) i = some (.sh (.int M))) (hM : 0 < M ∧ M < 1073741824) (hx : xs.length < 1000000) :
    evSs (P k) [] p4_5 (Rho c ms xs r i true v) = .ok (.nx, Rho c ms (xs ++ [r % M]) (r / M) i true v) := by
  have m1 := fun x : Int => ev_mod_ii x M hM.1
  have d1 := fun x : Int => ev_fdiv_ii x M hM
  have ap := ap_i xs (r % M) hx
  unfold p4_5
  rw [ss_end, ife_t (ρ1 := Rho c ms xs r i true v) (by simp [D.tyName, ev_isi_t, isTy, fillA, backA, goneA, cm_le_ii, cm_lt_ii, getV, Fn.run, evSs, evS, evT, evAll, evAny, evO, evE, evOs, evEs, evAs, evB, evAnd, evOr, CH.R.bind, R.ofO, CH.Env.tree, CH.Env.own, CH.Env.ownL, OT.getP, lock, unlock, outs, tru_b, ev_eq_ii, ev_ne_ii, ev_lt_ii, ev_le_ii, ev_gt_ii, ev_ge_ii, ev_add_ii, ev_sub_ii, ev_neg_i, ev_int_i, ev_abs_i, ev_len_l, ev_len_t, ev_len_f, ev_idx, mulOk_r, ev_mul_ii, OT.toD])]
  rw [ss_next (ρ1 := Rho c ms (xs ++ [r % M]) r i true v) (by simp [p4_0, D.tyName, ev_isi_t, isTy, fillA, backA, goneA, cm_le_ii, cm_lt_ii, getV, Fn.run, evSs, evS, evT, evAll, evAny, evO, evE, evOs, evEs, evAs, evB, evAnd, evOr, CH.R.bind, R.ofO, CH.Env.tree, CH.Env.own, CH.Env.ownL, OT.getP, lock, unlock, outs, tru_b, ev_eq_ii, ev_ne_ii, ev_lt_ii, ev_le_ii, ev_gt_ii, ev_ge_ii, ev_add_ii, ev_sub_ii, ev_neg_i, ev_int_i, ev_abs_i, ev_len_l, ev_len_t, ev_len_f, ev_idx, mulOk_r, ev_mul_ii, OT.toD, ix, m1, ap])]
  rw [ss_end]
  simp [p4_1, D.tyName, ev_isi_t, isTy, fillA, backA, goneA, cm_le_ii, cm_lt_ii, getV, Fn.run, evSs, evS, evT, evAll, evAny, evO, evE, evOs, evEs, evAs, evB, evAnd, evOr, CH.R.bind, R.ofO, CH.Env.tree, CH.Env.own, CH.Env.ownL, OT.getP, lock, unlock, outs, tru_b, ev_eq_ii, ev_ne_ii, ev_lt_ii, ev_le_ii, ev_gt_ii, ev_ge_ii, ev_add_ii, ev_sub_ii, ev_neg_i, ev_int_i, ev_abs_i, ev_len_l, ev_len_t, ev_len_f, ev_idx, mulOk_r, ev_mul_ii, OT.toD, ix, d1]
theorem turn_f1 (hv : v = .no ∨ ∃ x, v = .ow (.sh (.int x))) (hi : 0 ≤ i ∧ i < 1000) : evS (P k) [] p4_2 (Rho c ms xs r i false v) = .ok (.nx, Rho c ms xs r i false (.ow (.sh (.int (mixA r i))))) := by
  have m2 := fun x : Int => ev_mod_ii x 2147483647 (by omega)
  unfold mixA
  rcases hv with rfl | ⟨x, rfl⟩ <;> simp [p4_2, D.tyName, ev_isi_t, isTy, fillA, backA, goneA, cm_le_ii, cm_lt_ii, getV, Fn.run, evSs, evS, evT, evAll, evAny, evO, evE, evOs, evEs, evAs, evB, evAnd, evOr, CH.R.bind, R.ofO, CH.Env.tree, CH.Env.own, CH.Env.ownL, OT.getP, lock, unlock, outs, tru_b, ev_eq_ii, ev_ne_ii, ev_lt_ii, ev_le_ii, ev_gt_ii, ev_ge_ii, ev_add_ii, ev_sub_ii, ev_neg_i, ev_int_i, ev_abs_i, ev_len_l, ev_len_t, ev_len_f, ev_idx, mulOk_r, ev_mul_ii, OT.toD, m2]
theorem turn_f2 (a : Int) (hi : 0 ≤ i ∧ i < 1000) : evS (P k) [] p4_3 (Rho c ms xs r i false (.ow (.sh (.int a)))) = .ok (.nx, Rho c ms xs r i false (.ow (.sh (.int ((a * 40692 + a / 3791 * (i + 5)) % 2147483399))))) := by
  have m3 := fun x : Int => ev_mod_ii x 2147483399 (by omega)
  have d2 := fun x : Int => ev_fdiv_ii x 3791 (by omega)
  have mo : ∀ a : Int, mulOk a (i + 5) = true := fun a => mulOk_r _ _ (by omega)
  simp [p4_3, D.tyName, ev_isi_t, isTy, fillA, backA, goneA, cm_le_ii, cm_lt_ii, getV, Fn.run, evSs, evS, evT, evAll, evAny, evO, evE, evOs, evEs, evAs, evB, evAnd, evOr, CH.R.bind, R.ofO, CH.Env.tree, CH.Env.own, CH.Env.ownL, OT.getP, lock, unlock, outs, tru_b, ev_eq_ii, ev_ne_ii, ev_lt_ii, ev_le_ii, ev_gt_ii, ev_ge_ii, ev_add_ii, ev_sub_ii, ev_neg_i, ev_int_i, ev_abs_i, ev_len_l, ev_len_t, ev_len_f, ev_idx, mulOk_r, ev_mul_ii, OT.toD, m3, d2, mo]
theorem turn_f3 (a : Int) (ix : idxEv (.sh (.lst (ms.map .int))) i = some (.sh (.int M))) (hM : 0 < M ∧ M < 1073741824) (hx : xs.length < 1000000) : evS (P k) [] p4_4 (Rho c ms xs r i false (.ow (.sh (.int a)))) = .ok (.nx, Rho c ms (xs ++ [a / 7 % M]) r i false (.ow (.sh (.int a)))) := by
  have m1 := fun x : Int => ev_mod_ii x M hM.1
  have d3 := fun x : Int => ev_fdiv_ii x 7 (by omega)
  have ap := ap_i xs (a / 7 % M) hx
  simp [p4_4, D.tyName, ev_isi_t, isTy, fillA, backA, goneA, cm_le_ii, cm_lt_ii, getV, Fn.run, evSs, evS, evT, evAll, evAny, evO, evE, evOs, evEs, evAs, evB, evAnd, evOr, CH.R.bind, R.ofO, CH.Env.tree, CH.Env.own, CH.Env.ownL, OT.getP, lock, unlock, outs, tru_b, ev_eq_ii, ev_ne_ii, ev_lt_ii, ev_le_ii, ev_gt_ii, ev_ge_ii, ev_add_ii, ev_sub_ii, ev_neg_i, ev_int_i, ev_abs_i, ev_len_l, ev_len_t, ev_len_f, ev_idx, mulOk_r, ev_mul_ii, OT.toD, ix, m1, d3, ap]
theorem turn_f (hv : v = .no ∨ ∃ x, v = .ow (.sh (.int x))) (ix : idxEv (.sh (.lst (ms.map .int))) i = some (.sh (.int M))) (hM : 0 < M ∧ M < 1073741824) (hi : 0 ≤ i ∧ i < 1000) (hx : xs.length < 1000000) :
    evSs (P k) [] p4_5 (Rho c ms xs r i false v) = .ok (.nx, Rho c ms (xs ++ [mixB r i / 7 % M]) r i false (.ow (.sh (.int (mixB r i))))) := by
  unfold p4_5
  rw [ss_end, ife_f (ρ1 := Rho c ms xs r i false v) (by simp [D.tyName, ev_isi_t, isTy, fillA, backA, goneA, cm_le_ii, cm_lt_ii, getV, Fn.run, evSs, evS, evT, evAll, evAny, evO, evE, evOs, evEs, evAs, evB, evAnd, evOr, CH.R.bind, R.ofO, CH.Env.tree, CH.Env.own, CH.Env.ownL, OT.getP, lock, unlock, outs, tru_b, ev_eq_ii, ev_ne_ii, ev_lt_ii, ev_le_ii, ev_gt_ii, ev_ge_ii, ev_add_ii, ev_sub_ii, ev_neg_i, ev_int_i, ev_abs_i, ev_len_l, ev_len_t, ev_len_f, ev_idx, mulOk_r, ev_mul_ii, OT.toD])]
  rw [ss_next (turn_f1 k c ms xs r i v hv hi), ss_next (turn_f2 k c ms xs r i _ hi), ss_end, turn_f3 k c ms xs r M i _ ix hM hx]
  rfl
end
theorem loop_eq (k : Nat) (c : Int) (ms : List Int) (hm : ∀ m ∈ ms, 0 < m ∧ m < 1073741824) (hl : ms.length < 1000) (g : Bool) (r0 : Int) :
    ∃ xs ρ', Within xs ms ∧ forL (fun ρ => evSs (P k) [] p4_5 ρ) [] (.one 5) ((List.range ms.length).map fun k => .int (k : Nat)) [.ow (.sh (.int c)), .ow (.sh (.lst (ms.map .int))), .ow (.sh (.int r0)), .ow (.sh (.bl g)), .ow (.lst []), .no, .no] = .ok (.nx, ρ') ∧
      ∃ a b d, ρ' = [.ow (.sh (.int c)), .ow (.sh (.lst (ms.map .int))), a, .ow (.sh (.bl g)), .ow (.lst (xs.map iT)), b, d] := by
  obtain ⟨ρ', h1, h2⟩ := forL_inv (body := fun ρ => evSs (P k) [] p4_5 ρ) (pl := []) (tg := .one 5)
    (I := fun i ρ => ∃ (xs : List Int) (r : Int) (u v : Sl), ρ = [.ow (.sh (.int c)), .ow (.sh (.lst (ms.map .int))), .ow (.sh (.int r)), .ow (.sh (.bl g)), .ow (.lst (xs.map iT)), u, v] ∧ (u = .no ∨ ∃ x, u = .ow (.sh (.int x))) ∧ (v = .no ∨ ∃ x, v = .ow (.sh (.int x))) ∧ xs.length = i ∧ ∀ j, j < i → 0 ≤ xs.getD j 0 ∧ xs.getD j 0 < ms.getD j 0)
    ((List.range ms.length).map fun k => .int (k : Nat)) [.ow (.sh (.int c)), .ow (.sh (.lst (ms.map .int))), .ow (.sh (.int r0)), .ow (.sh (.bl g)), .ow (.lst []), .no, .no] ⟨[], r0, .no, .no, rfl, .inl rfl, .inl rfl, rfl, fun j h => absurd h (Nat.not_lt_zero j)⟩
    (fun i d ρ e hI => by
      obtain ⟨xs, r, u, v, rfl, hu, hv, hx, hin⟩ := hI
      obtain ⟨i', e1, rfl⟩ := by rw [List.getElem?_map] at e; exact Option.map_eq_some_iff.mp e
      obtain ⟨hi, e1⟩ := List.getElem?_eq_some_iff.mp e1
      rw [List.getElem_range] at e1
      subst e1
      rw [List.length_range] at hi
      have ix := idx_sl ms i hi
      have hmi : 0 < ms.getD i 0 ∧ ms.getD i 0 < 1073741824 := hm _ (by rw [List.getD_eq_getElem?_getD, List.getElem?_eq_getElem hi]; exact List.getElem_mem hi)
      generalize hM : ms.getD i 0 = M at ix hmi
      have ext : ∀ y : Int, 0 ≤ y → y < M → (xs ++ [y]).length = i + 1 ∧ ∀ j, j < i + 1 → 0 ≤ (xs ++ [y]).getD j 0 ∧ (xs ++ [y]).getD j 0 < ms.getD j 0 := fun y h0 h1 => by
        refine ⟨by simp [hx], fun j hj => ?_⟩
        by_cases hji : j < i
        · rw [List.getD_eq_getElem?_getD, List.getElem?_append_left (by omega), ← List.getD_eq_getElem?_getD]
          exact hin j hji
        · have : j = i := by omega
          subst this
          rw [List.getD_eq_getElem?_getD, List.getElem?_append_right (by omega), hx, hM]
          simp [h0, h1]
      have s1 : setTg [] (.one 5) (.int (i : Nat)) [.ow (.sh (.int c)), .ow (.sh (.lst (ms.map .int))), .ow (.sh (.int r)), .ow (.sh (.bl g)), .ow (.lst (xs.map iT)), u, v] = some [.ow (.sh (.int c)), .ow (.sh (.lst (ms.map .int))), .ow (.sh (.int r)), .ow (.sh (.bl g)), .ow (.lst (xs.map iT)), .ow (.sh (.int i)), v] := by
        rcases hu with rfl | ⟨x, rfl⟩ <;> rfl
      cases g with
      | true =>
        obtain ⟨q1, q2⟩ := ext (r % M) (Int.emod_nonneg _ (by omega)) (Int.emod_lt_of_pos _ hmi.1)
        exact ⟨_, _, s1, turn_t k c ms xs r M i v ix hmi (by omega), _, _, _, _, rfl, .inr ⟨_, rfl⟩, hv, q1, q2⟩
      | false =>
        obtain ⟨q1, q2⟩ := ext (mixB r i / 7 % M) (Int.emod_nonneg _ (by omega)) (Int.emod_lt_of_pos _ hmi.1)
        exact ⟨_, _, s1, turn_f k c ms xs r M i v hv ix hmi ⟨by omega, by omega⟩ (by omega), _, _, _, _, rfl, .inr ⟨_, rfl⟩, .inr ⟨_, rfl⟩, q1, q2⟩)
  obtain ⟨xs, r, u, v, rfl, _, _, hx, hin⟩ := h2
  rw [List.length_map, List.length_range] at hx hin
  exact ⟨xs, _, ⟨hx, hin⟩, h1, _, _, _, rfl⟩
theorem draws_eq (k : Nat) (c : Int) (ms : List Int) (hm : ∀ m ∈ ms, 0 < m ∧ m < 1073741824) (hl : ms.length < 1000) :
    ∃ xs, Within xs ms ∧ P (k + 1) 4 [.sh (.int c), .sh (.lst (ms.map .int))] = .ok (.lst (xs.map iT), [.sh (.int c), .sh (.lst (ms.map .int))]) := by
  rw [step k 4 _ f4 t4]
  have ln : Op.ev (.bi .len) [.sh (.lst (ms.map .int))] = some (.sh (.int ms.length)) := by show some (OT.sh (D.int ((ms.map D.int).length : Nat))) = _; rw [List.length_map]
  have hI : ∀ a g, evI (P k) [] (.rng1 (.op (.bi .len) (.cons (.bor 1 []) .nil))) [.ow (.sh (.int c)), .ow (.sh (.lst (ms.map .int))), .ow (.sh (.int a)), .ow (.sh (.bl g)), .ow (.lst []), .no, .no] = .ok ((List.range ms.length).map fun k => .int (k : Nat), [.ow (.sh (.int c)), .ow (.sh (.lst (ms.map .int))), .ow (.sh (.int a)), .ow (.sh (.bl g)), .ow (.lst []), .no, .no]) := fun a g => by
    have := range1_val (Φ := P k) (pl := []) (b := .op (.bi .len) (.cons (.bor 1 []) .nil)) (ρ := [.ow (.sh (.int c)), .ow (.sh (.lst (ms.map .int))), .ow (.sh (.int a)), .ow (.sh (.bl g)), .ow (.lst []), .no, .no]) (ρ2 := [.ow (.sh (.int c)), .ow (.sh (.lst (ms.map .int))), .ow (.sh (.int a)), .ow (.sh (.bl g)), .ow (.lst []), .no, .no]) (j := (ms.length : Int)) (by simp [D.tyName, ev_isi_t, isTy, fillA, backA, goneA, cm_le_ii, cm_lt_ii, getV, Fn.run, evSs, evS, evT, evAll, evAny, evO, evE, evOs, evEs, evAs, evB, evAnd, evOr, CH.R.bind, R.ofO, CH.Env.tree, CH.Env.own, CH.Env.ownL, OT.getP, lock, unlock, outs, tru_b, ev_eq_ii, ev_ne_ii, ev_lt_ii, ev_le_ii, ev_gt_ii, ev_ge_ii, ev_add_ii, ev_sub_ii, ev_neg_i, ev_int_i, ev_abs_i, ev_len_l, ev_len_t, ev_len_f, ev_idx, mulOk_r, ev_mul_ii, OT.toD, ln]) (by omega)
    rw [this, Int.toNat_natCast]
  have fin : ∀ g r0, ∃ xs, Within xs ms ∧ ∃ ρ', evSs (P k) [] (.cons q4_3 (.cons q4_4 (.cons q4_5 .nil))) [.ow (.sh (.int c)), .ow (.sh (.lst (ms.map .int))), .ow (.sh (.int r0)), .ow (.sh (.bl g)), .no, .no, .no] = .ok (.rt (.lst (xs.map iT)), ρ') ∧ ρ'[0]? = some (.ow (.sh (.int c))) ∧ ρ'[1]? = some (.ow (.sh (.lst (ms.map .int)))) := by
    intro g r0
    obtain ⟨xs, ρ', hw, hf, a, b, d, rfl⟩ := loop_eq k c ms hm hl g r0
    refine ⟨xs, hw, [.ow (.sh (.int c)), .ow (.sh (.lst (ms.map .int))), a, .ow (.sh (.bl g)), .no, b, d], ?_, rfl, rfl⟩
    rw [ss_next (ρ1 := [.ow (.sh (.int c)), .ow (.sh (.lst (ms.map .int))), .ow (.sh (.int r0)), .ow (.sh (.bl g)), .ow (.lst []), .no, .no]) (by simp [q4_3, D.tyName, ev_isi_t, isTy, fillA, backA, goneA, cm_le_ii, cm_lt_ii, getV, Fn.run, evSs, evS, evT, evAll, evAny, evO, evE, evOs, evEs, evAs, evB, evAnd, evOr, CH.R.bind, R.ofO, CH.Env.tree, CH.Env.own, CH.Env.ownL, OT.getP, lock, unlock, outs, tru_b, ev_eq_ii, ev_ne_ii, ev_lt_ii, ev_le_ii, ev_gt_ii, ev_ge_ii, ev_add_ii, ev_sub_ii, ev_neg_i, ev_int_i, ev_abs_i, ev_len_l, ev_len_t, ev_len_f, ev_idx, mulOk_r, ev_mul_ii, OT.toD])]
    rw [ss_next (s := q4_4) (ρ1 := [.ow (.sh (.int c)), .ow (.sh (.lst (ms.map .int))), a, .ow (.sh (.bl g)), .ow (.lst (xs.map iT)), b, d]) (by unfold q4_4; rw [evS, hI]; simp only [CH.R.bind, backI]; rw [hf])]
    exact ss_stop (by simp [q4_5, D.tyName, ev_isi_t, isTy, fillA, backA, goneA, cm_le_ii, cm_lt_ii, getV, Fn.run, evSs, evS, evT, evAll, evAny, evO, evE, evOs, evEs, evAs, evB, evAnd, evOr, CH.R.bind, R.ofO, CH.Env.tree, CH.Env.own, CH.Env.ownL, OT.getP, lock, unlock, outs, tru_b, ev_eq_ii, ev_ne_ii, ev_lt_ii, ev_le_ii, ev_gt_ii, ev_ge_ii, ev_add_ii, ev_sub_ii, ev_neg_i, ev_int_i, ev_abs_i, ev_len_l, ev_len_t, ev_len_f, ev_idx, mulOk_r, ev_mul_ii, OT.toD])
  have start : ∀ g A, decide (1000000000000000000 ≤ A) = g → (A = if c < 0 then -c else c) → evSs (P k) [] b4 [.ow (.sh (.int c)), .ow (.sh (.lst (ms.map .int))), .no, .no, .no, .no, .no] = evSs (P k) [] (.cons q4_2 (.cons q4_3 (.cons q4_4 (.cons q4_5 .nil)))) [.ow (.sh (.int c)), .ow (.sh (.lst (ms.map .int))), .ow (.sh (.int A)), .ow (.sh (.bl g)), .no, .no, .no] := by
    intro g A hg hA
    unfold b4
    rw [ss_next (ρ1 := [.ow (.sh (.int c)), .ow (.sh (.lst (ms.map .int))), .ow (.sh (.int A)), .no, .no, .no, .no]) (by rw [hA]; simp [q4_0, D.tyName, ev_isi_t, isTy, fillA, backA, goneA, cm_le_ii, cm_lt_ii, getV, Fn.run, evSs, evS, evT, evAll, evAny, evO, evE, evOs, evEs, evAs, evB, evAnd, evOr, CH.R.bind, R.ofO, CH.Env.tree, CH.Env.own, CH.Env.ownL, OT.getP, lock, unlock, outs, tru_b, ev_eq_ii, ev_ne_ii, ev_lt_ii, ev_le_ii, ev_gt_ii, ev_ge_ii, ev_add_ii, ev_sub_ii, ev_neg_i, ev_int_i, ev_abs_i, ev_len_l, ev_len_t, ev_len_f, ev_idx, mulOk_r, ev_mul_ii, OT.toD])]
    rw [ss_next (ρ1 := [.ow (.sh (.int c)), .ow (.sh (.lst (ms.map .int))), .ow (.sh (.int A)), .ow (.sh (.bl g)), .no, .no, .no]) (by rw [← hg]; simp [q4_1, D.tyName, ev_isi_t, isTy, fillA, backA, goneA, cm_le_ii, cm_lt_ii, getV, Fn.run, evSs, evS, evT, evAll, evAny, evO, evE, evOs, evEs, evAs, evB, evAnd, evOr, CH.R.bind, R.ofO, CH.Env.tree, CH.Env.own, CH.Env.ownL, OT.getP, lock, unlock, outs, tru_b, ev_eq_ii, ev_ne_ii, ev_lt_ii, ev_le_ii, ev_gt_ii, ev_ge_ii, ev_add_ii, ev_sub_ii, ev_neg_i, ev_int_i, ev_abs_i, ev_len_l, ev_len_t, ev_len_f, ev_idx, mulOk_r, ev_mul_ii, OT.toD, pow18])]
  have done : ∀ {t ρ'}, evSs (P k) [] b4 [.ow (.sh (.int c)), .ow (.sh (.lst (ms.map .int))), .no, .no, .no, .no, .no] = .ok (.rt t, ρ') → ρ'[0]? = some (.ow (.sh (.int c))) → ρ'[1]? = some (.ow (.sh (.lst (ms.map .int)))) → f4.run (P k) [.sh (.int c), .sh (.lst (ms.map .int))] = .ok (t, [.sh (.int c), .sh (.lst (ms.map .int))]) := fun {t ρ'} h h0 h1 => run_rt rfl h rfl
  generalize hA : (if c < 0 then -c else c) = A
  by_cases h1 : 1000000000000000000 ≤ A
  · obtain ⟨xs, hw, ρ', hf, h3, h4⟩ := fin true (A - 1000000000000000000)
    refine ⟨xs, hw, done (ρ' := ρ') ?_ h3 h4⟩
    rw [start true A (decide_eq_true h1) hA.symm, ← hf, ss_next (s := q4_2)]
    unfold q4_2
    rw [ife_t (ρ1 := [.ow (.sh (.int c)), .ow (.sh (.lst (ms.map .int))), .ow (.sh (.int A)), .ow (.sh (.bl true)), .no, .no, .no]) (by simp [D.tyName, ev_isi_t, isTy, fillA, backA, goneA, cm_le_ii, cm_lt_ii, getV, Fn.run, evSs, evS, evT, evAll, evAny, evO, evE, evOs, evEs, evAs, evB, evAnd, evOr, CH.R.bind, R.ofO, CH.Env.tree, CH.Env.own, CH.Env.ownL, OT.getP, lock, unlock, outs, tru_b, ev_eq_ii, ev_ne_ii, ev_lt_ii, ev_le_ii, ev_gt_ii, ev_ge_ii, ev_add_ii, ev_sub_ii, ev_neg_i, ev_int_i, ev_abs_i, ev_len_l, ev_len_t, ev_len_f, ev_idx, mulOk_r, ev_mul_ii, OT.toD]), ss_end]
    simp [D.tyName, ev_isi_t, isTy, fillA, backA, goneA, cm_le_ii, cm_lt_ii, getV, Fn.run, evSs, evS, evT, evAll, evAny, evO, evE, evOs, evEs, evAs, evB, evAnd, evOr, CH.R.bind, R.ofO, CH.Env.tree, CH.Env.own, CH.Env.ownL, OT.getP, lock, unlock, outs, tru_b, ev_eq_ii, ev_ne_ii, ev_lt_ii, ev_le_ii, ev_gt_ii, ev_ge_ii, ev_add_ii, ev_sub_ii, ev_neg_i, ev_int_i, ev_abs_i, ev_len_l, ev_len_t, ev_len_f, ev_idx, mulOk_r, ev_mul_ii, OT.toD, pow18]
  · by_cases h2 : c < 0
    · obtain ⟨xs, hw, ρ', hf, h3, h4⟩ := fin false (A + 500009)
      refine ⟨xs, hw, done (ρ' := ρ') ?_ h3 h4⟩
      rw [start false A (decide_eq_false h1) hA.symm, ← hf, ss_next (s := q4_2)]
      unfold q4_2
      rw [ife_f (ρ1 := [.ow (.sh (.int c)), .ow (.sh (.lst (ms.map .int))), .ow (.sh (.int A)), .ow (.sh (.bl false)), .no, .no, .no]) (by simp [D.tyName, ev_isi_t, isTy, fillA, backA, goneA, cm_le_ii, cm_lt_ii, getV, Fn.run, evSs, evS, evT, evAll, evAny, evO, evE, evOs, evEs, evAs, evB, evAnd, evOr, CH.R.bind, R.ofO, CH.Env.tree, CH.Env.own, CH.Env.ownL, OT.getP, lock, unlock, outs, tru_b, ev_eq_ii, ev_ne_ii, ev_lt_ii, ev_le_ii, ev_gt_ii, ev_ge_ii, ev_add_ii, ev_sub_ii, ev_neg_i, ev_int_i, ev_abs_i, ev_len_l, ev_len_t, ev_len_f, ev_idx, mulOk_r, ev_mul_ii, OT.toD]), ss_end, ife_t (ρ1 := [.ow (.sh (.int c)), .ow (.sh (.lst (ms.map .int))), .ow (.sh (.int A)), .ow (.sh (.bl false)), .no, .no, .no]) (by simp [D.tyName, ev_isi_t, isTy, fillA, backA, goneA, cm_le_ii, cm_lt_ii, getV, Fn.run, evSs, evS, evT, evAll, evAny, evO, evE, evOs, evEs, evAs, evB, evAnd, evOr, CH.R.bind, R.ofO, CH.Env.tree, CH.Env.own, CH.Env.ownL, OT.getP, lock, unlock, outs, tru_b, ev_eq_ii, ev_ne_ii, ev_lt_ii, ev_le_ii, ev_gt_ii, ev_ge_ii, ev_add_ii, ev_sub_ii, ev_neg_i, ev_int_i, ev_abs_i, ev_len_l, ev_len_t, ev_len_f, ev_idx, mulOk_r, ev_mul_ii, OT.toD, h2]), ss_end]
      simp [D.tyName, ev_isi_t, isTy, fillA, backA, goneA, cm_le_ii, cm_lt_ii, getV, Fn.run, evSs, evS, evT, evAll, evAny, evO, evE, evOs, evEs, evAs, evB, evAnd, evOr, CH.R.bind, R.ofO, CH.Env.tree, CH.Env.own, CH.Env.ownL, OT.getP, lock, unlock, outs, tru_b, ev_eq_ii, ev_ne_ii, ev_lt_ii, ev_le_ii, ev_gt_ii, ev_ge_ii, ev_add_ii, ev_sub_ii, ev_neg_i, ev_int_i, ev_abs_i, ev_len_l, ev_len_t, ev_len_f, ev_idx, mulOk_r, ev_mul_ii, OT.toD]
    · obtain ⟨xs, hw, ρ', hf, h3, h4⟩ := fin false A
      refine ⟨xs, hw, done (ρ' := ρ') ?_ h3 h4⟩
      rw [start false A (decide_eq_false h1) hA.symm, ← hf, ss_next (s := q4_2)]
      unfold q4_2
      rw [ife_f (ρ1 := [.ow (.sh (.int c)), .ow (.sh (.lst (ms.map .int))), .ow (.sh (.int A)), .ow (.sh (.bl false)), .no, .no, .no]) (by simp [D.tyName, ev_isi_t, isTy, fillA, backA, goneA, cm_le_ii, cm_lt_ii, getV, Fn.run, evSs, evS, evT, evAll, evAny, evO, evE, evOs, evEs, evAs, evB, evAnd, evOr, CH.R.bind, R.ofO, CH.Env.tree, CH.Env.own, CH.Env.ownL, OT.getP, lock, unlock, outs, tru_b, ev_eq_ii, ev_ne_ii, ev_lt_ii, ev_le_ii, ev_gt_ii, ev_ge_ii, ev_add_ii, ev_sub_ii, ev_neg_i, ev_int_i, ev_abs_i, ev_len_l, ev_len_t, ev_len_f, ev_idx, mulOk_r, ev_mul_ii, OT.toD]), ss_end, ife_f (ρ1 := [.ow (.sh (.int c)), .ow (.sh (.lst (ms.map .int))), .ow (.sh (.int A)), .ow (.sh (.bl false)), .no, .no, .no]) (by simp [D.tyName, ev_isi_t, isTy, fillA, backA, goneA, cm_le_ii, cm_lt_ii, getV, Fn.run, evSs, evS, evT, evAll, evAny, evO, evE, evOs, evEs, evAs, evB, evAnd, evOr, CH.R.bind, R.ofO, CH.Env.tree, CH.Env.own, CH.Env.ownL, OT.getP, lock, unlock, outs, tru_b, ev_eq_ii, ev_ne_ii, ev_lt_ii, ev_le_ii, ev_gt_ii, ev_ge_ii, ev_add_ii, ev_sub_ii, ev_neg_i, ev_int_i, ev_abs_i, ev_len_l, ev_len_t, ev_len_f, ev_idx, mulOk_r, ev_mul_ii, OT.toD, h2])]
      simp [D.tyName, ev_isi_t, isTy, fillA, backA, goneA, cm_le_ii, cm_lt_ii, getV, Fn.run, evSs, evS, evT, evAll, evAny, evO, evE, evOs, evEs, evAs, evB, evAnd, evOr, CH.R.bind, R.ofO, CH.Env.tree, CH.Env.own, CH.Env.ownL, OT.getP, lock, unlock, outs, tru_b, ev_eq_ii, ev_ne_ii, ev_lt_ii, ev_le_ii, ev_gt_ii, ev_ge_ii, ev_add_ii, ev_sub_ii, ev_neg_i, ev_int_i, ev_abs_i, ev_len_l, ev_len_t, ev_len_f, ev_idx, mulOk_r, ev_mul_ii, OT.toD]
end K70
end
section
namespace K70
open PySem L2 Evl PyProof.Rows CH
theorem cell_eq (k : Nat) (ns : List Int) (j : Nat) : ∃ c, P (k + 1) 3 [.sh (.flst (ns.map .int)), .sh (.int j)] = .ok (.sh (.int c), [.sh (.flst (ns.map .int)), .sh (.int j)]) := by
  rw [step k 3 _ f3 t3]
  by_cases h : j < ns.length
  · have ix := idx_sf ns j h
    have lt : (j : Int) < ns.length := by omega
    refine ⟨ns.getD j 0, run_rt (ρ := [.ow (.sh (.flst (ns.map .int))), .ow (.sh (.int j)), .no, .no]) rfl (ss_stop (s := q3_0) ?_) rfl⟩
    generalize (j : Int) = jj at ix lt
    show evS (P k) [] q3_0 [.ow (.sh (.flst (ns.map .int))), .ow (.sh (.int jj)), .no, .no] = _
    unfold q3_0
    rw [ife_t (ρ1 := [.ow (.sh (.flst (ns.map .int))), .ow (.sh (.int jj)), .no, .no]) (by simp [D.tyName, ev_isi_t, isTy, fillA, backA, goneA, cm_le_ii, cm_lt_ii, getV, Fn.run, evSs, evS, evT, evAll, evAny, evO, evE, evOs, evEs, evAs, evB, evAnd, evOr, CH.R.bind, R.ofO, CH.Env.tree, CH.Env.own, CH.Env.ownL, OT.getP, lock, unlock, outs, tru_b, ev_eq_ii, ev_ne_ii, ev_lt_ii, ev_le_ii, ev_gt_ii, ev_ge_ii, ev_add_ii, ev_sub_ii, ev_neg_i, ev_int_i, ev_abs_i, ev_len_l, ev_len_t, ev_len_f, ev_idx, mulOk_r, ev_mul_ii, OT.toD, lt]), ss_end]
    simp [D.tyName, ev_isi_t, isTy, fillA, backA, goneA, cm_le_ii, cm_lt_ii, getV, Fn.run, evSs, evS, evT, evAll, evAny, evO, evE, evOs, evEs, evAs, evB, evAnd, evOr, CH.R.bind, R.ofO, CH.Env.tree, CH.Env.own, CH.Env.ownL, OT.getP, lock, unlock, outs, tru_b, ev_eq_ii, ev_ne_ii, ev_lt_ii, ev_le_ii, ev_gt_ii, ev_ge_ii, ev_add_ii, ev_sub_ii, ev_neg_i, ev_int_i, ev_abs_i, ev_len_l, ev_len_t, ev_len_f, ev_idx, mulOk_r, ev_mul_ii, OT.toD, ix]
  · have lt : ¬ ((j : Int) < ns.length) := by omega
    have lp : ∀ (jj r : Int), ∃ r', forL (fun ρ => evSs (P k) [] p3_0 ρ) [] (.one 3) ((CH.cutD ns none (some 3)).map .int) [.ow (.sh (.flst (ns.map .int))), .ow (.sh (.int jj)), .ow (.sh (.int r)), .no] = .ok (.nx, r') ∧ ∃ x u, r' = [.ow (.sh (.flst (ns.map .int))), .ow (.sh (.int jj)), .ow (.sh (.int x)), u] := by
      intro jj r
      obtain ⟨ρ', h1, x, u, _, h2⟩ := forL_inv (body := fun ρ => evSs (P k) [] p3_0 ρ) (pl := []) (tg := .one 3) (I := fun _ ρ => ∃ x u, (u = .no ∨ ∃ y, u = .ow (.sh (.int y))) ∧ ρ = [.ow (.sh (.flst (ns.map .int))), .ow (.sh (.int jj)), .ow (.sh (.int x)), u])
        ((CH.cutD ns none (some 3)).map .int) [.ow (.sh (.flst (ns.map .int))), .ow (.sh (.int jj)), .ow (.sh (.int r)), .no] ⟨r, .no, .inl rfl, rfl⟩ (fun i d ρ e hI => by
          obtain ⟨x, u, hu, rfl⟩ := hI
          obtain ⟨y, _, rfl⟩ := by rw [List.getElem?_map] at e; exact Option.map_eq_some_iff.mp e
          have m1 := fun x : Int => ev_mod_ii x 999983 (by omega)
          refine ⟨[.ow (.sh (.flst (ns.map .int))), .ow (.sh (.int jj)), .ow (.sh (.int x)), .ow (.sh (.int y))], [.ow (.sh (.flst (ns.map .int))), .ow (.sh (.int jj)), .ow (.sh (.int ((x * 1009 + y) % 999983))), .ow (.sh (.int y))], ?_, ?_, _, _, .inr ⟨y, rfl⟩, rfl⟩
          · rcases hu with rfl | ⟨y', rfl⟩ <;> rfl
          · simp [p3_0, D.tyName, ev_isi_t, isTy, fillA, backA, goneA, cm_le_ii, cm_lt_ii, getV, Fn.run, evSs, evS, evT, evAll, evAny, evO, evE, evOs, evEs, evAs, evB, evAnd, evOr, CH.R.bind, R.ofO, CH.Env.tree, CH.Env.own, CH.Env.ownL, OT.getP, lock, unlock, outs, tru_b, ev_eq_ii, ev_ne_ii, ev_lt_ii, ev_le_ii, ev_gt_ii, ev_ge_ii, ev_add_ii, ev_sub_ii, ev_neg_i, ev_int_i, ev_abs_i, ev_len_l, ev_len_t, ev_len_f, ev_idx, mulOk_r, ev_mul_ii, OT.toD, m1])
      exact ⟨ρ', h1, x, u, h2⟩
    obtain ⟨r', h1, x, u, rfl⟩ := lp j 17
    refine ⟨x * 64 + j, run_rt (ρ := [.ow (.sh (.flst (ns.map .int))), .ow (.sh (.int j)), .ow (.sh (.int x)), u]) rfl ?_ rfl⟩
    generalize (j : Int) = jj at lt h1
    show evSs (P k) [] b3 [.ow (.sh (.flst (ns.map .int))), .ow (.sh (.int jj)), .no, .no] = _
    unfold b3
    rw [ss_next (ρ1 := [.ow (.sh (.flst (ns.map .int))), .ow (.sh (.int jj)), .no, .no]) (by
      unfold q3_0
      rw [ife_f (ρ1 := [.ow (.sh (.flst (ns.map .int))), .ow (.sh (.int jj)), .no, .no]) (by simp [D.tyName, ev_isi_t, isTy, fillA, backA, goneA, cm_le_ii, cm_lt_ii, getV, Fn.run, evSs, evS, evT, evAll, evAny, evO, evE, evOs, evEs, evAs, evB, evAnd, evOr, CH.R.bind, R.ofO, CH.Env.tree, CH.Env.own, CH.Env.ownL, OT.getP, lock, unlock, outs, tru_b, ev_eq_ii, ev_ne_ii, ev_lt_ii, ev_le_ii, ev_gt_ii, ev_ge_ii, ev_add_ii, ev_sub_ii, ev_neg_i, ev_int_i, ev_abs_i, ev_len_l, ev_len_t, ev_len_f, ev_idx, mulOk_r, ev_mul_ii, OT.toD, lt])]
      simp [evSs])]
    rw [ss_next (ρ1 := [.ow (.sh (.flst (ns.map .int))), .ow (.sh (.int jj)), .ow (.sh (.int 17)), .no]) (by simp [q3_1, D.tyName, ev_isi_t, isTy, fillA, backA, goneA, cm_le_ii, cm_lt_ii, getV, Fn.run, evSs, evS, evT, evAll, evAny, evO, evE, evOs, evEs, evAs, evB, evAnd, evOr, CH.R.bind, R.ofO, CH.Env.tree, CH.Env.own, CH.Env.ownL, OT.getP, lock, unlock, outs, tru_b, ev_eq_ii, ev_ne_ii, ev_lt_ii, ev_le_ii, ev_gt_ii, ev_ge_ii, ev_add_ii, ev_sub_ii, ev_neg_i, ev_int_i, ev_abs_i, ev_len_l, ev_len_t, ev_len_f, ev_idx, mulOk_r, ev_mul_ii, OT.toD])]
    rw [ss_next (ρ1 := [.ow (.sh (.flst (ns.map .int))), .ow (.sh (.int jj)), .ow (.sh (.int x)), u]) (by
      unfold q3_2
      have it : OT.items (newL (CH.cutD (ns.map D.int) none (some 3))) = some ((CH.cutD ns none (some 3)).map .int) := by rw [cut_map]; exact leaves_map _
      have ei : evI (P k) [] (.seq (.e (.slc (.bor 0 []) .no (.at (.c (.int 3)))))) [.ow (.sh (.flst (ns.map .int))), .ow (.sh (.int jj)), .ow (.sh (.int 17)), .no] = .ok ((CH.cutD ns none (some 3)).map .int, [.ow (.sh (.flst (ns.map .int))), .ow (.sh (.int jj)), .ow (.sh (.int 17)), .no]) := by
        simp [D.tyName, ev_isi_t, isTy, fillA, backA, goneA, cm_le_ii, cm_lt_ii, getV, Fn.run, evSs, evS, evT, evAll, evAny, evO, evE, evOs, evEs, evAs, evB, evAnd, evOr, CH.R.bind, R.ofO, CH.Env.tree, CH.Env.own, CH.Env.ownL, OT.getP, lock, unlock, outs, tru_b, ev_eq_ii, ev_ne_ii, ev_lt_ii, ev_le_ii, ev_gt_ii, ev_ge_ii, ev_add_ii, ev_sub_ii, ev_neg_i, ev_int_i, ev_abs_i, ev_len_l, ev_len_t, ev_len_f, ev_idx, mulOk_r, ev_mul_ii, OT.toD, evI, CH.b2, slcEv, it]
      rw [evS, ei]
      simp only [CH.R.bind, backI]
      rw [h1])]
    exact ss_stop (by simp [q3_3, D.tyName, ev_isi_t, isTy, fillA, backA, goneA, cm_le_ii, cm_lt_ii, getV, Fn.run, evSs, evS, evT, evAll, evAny, evO, evE, evOs, evEs, evAs, evB, evAnd, evOr, CH.R.bind, R.ofO, CH.Env.tree, CH.Env.own, CH.Env.ownL, OT.getP, lock, unlock, outs, tru_b, ev_eq_ii, ev_ne_ii, ev_lt_ii, ev_le_ii, ev_gt_ii, ev_ge_ii, ev_add_ii, ev_sub_ii, ev_neg_i, ev_int_i, ev_abs_i, ev_len_l, ev_len_t, ev_len_f, ev_idx, mulOk_r, ev_mul_ii, OT.toD])
end K70
end
section
namespace K70
open PySem L2 Evl PyProof.Rows CH
def absI (a : Int) : Int := if a < 0 then -a else a
abbrev Inc (ls : List Int) : Prop := ls.Pairwise fun a b => absI a < absI b
def Good (ls : List Int) : Prop := Inc ls ∧ ∀ a ∈ ls, 1 ≤ absI a ∧ absI a ≤ 12
def insAt (ls : List Int) (y w : Int) : List Int := ls.take (ls.filter fun a => decide (absI a < y)).length ++ [w] ++ ls.drop (ls.filter fun a => decide (absI a < y)).length
theorem insAt_mem {ls : List Int} {y w b : Int} (h : b ∈ insAt ls y w) : b ∈ ls ∨ b = w := by
  unfold insAt at h
  rcases List.mem_append.mp h with h | h
  · rcases List.mem_append.mp h with h | h
    · exact .inl (List.mem_of_mem_take h)
    · exact .inr (by simpa using h)
  · exact .inl (List.mem_of_mem_drop h)
theorem insAt_len (ls : List Int) (y w : Int) : (insAt ls y w).length = ls.length + 1 := by
  have h := List.length_filter_le (fun a => decide (absI a < y)) ls
  unfold insAt
  simp only [List.length_append, List.length_take, List.length_drop, List.length_singleton]
  omega
theorem insAt_inc {y w : Int} (hw : absI w = y) : ∀ {ls : List Int}, Inc ls → (∀ a ∈ ls, absI a ≠ y) → Inc (insAt ls y w)
  | [], _, _ => by simp [insAt, Inc]
  | a :: r, h, hn => by
    have hr := List.pairwise_cons.mp h
    have hna := hn a (by simp)
    have ih := insAt_inc hw hr.2 fun b hb => hn b (by simp [hb])
    by_cases hl : absI a < y
    · have e : insAt (a :: r) y w = a :: insAt r y w := by
        unfold insAt
        rw [List.filter_cons_of_pos (by simpa using hl)]
        simp
      rw [e]
      refine List.pairwise_cons.mpr ⟨fun b hb => ?_, ih⟩
      rcases insAt_mem hb with hb | rfl
      · exact hr.1 b hb
      · omega
    · have e0 : (a :: r).filter (fun a => decide (absI a < y)) = [] := by
        rw [List.filter_eq_nil_iff]
        intro b hb
        rcases List.mem_cons.mp hb with rfl | hb
        · simpa using hl
        · have := hr.1 b hb
          simp
          omega
      have e : insAt (a :: r) y w = w :: a :: r := by unfold insAt; rw [e0]; simp
      rw [e]
      refine List.pairwise_cons.mpr ⟨fun b hb => ?_, h⟩
      rcases List.mem_cons.mp hb with rfl | hb
      · omega
      · have := hr.1 b hb
        omega
def lim (M : Nat) : List Int := ((M : Int) + 1) :: (List.replicate M [12, 2]).flatten
theorem lim_at : ∀ M, M < 10 → ∀ k, k < M → (lim M).getD (1 + 2 * k) 0 = 12 ∧ (lim M).getD (2 + 2 * k) 0 = 2 := by decide
theorem lim_all : ∀ M, M < 10 → ∀ m ∈ lim M, 0 < m ∧ m < 1073741824 := by decide
theorem lim_len : ∀ M, M < 10 → (lim M).length = 1 + 2 * M := by decide
theorem toDs_i (xs : List Int) : toDs (xs.map iT) = xs.map .int := toDs_map xs D.int
theorem mul_ev : ∀ M : Nat, M < 10 → Op.ev (.bin .mul) [.lst [.sh (.int 12), .sh (.int 2)], .sh (.int (M : Int))] = some (.lst (((List.replicate M [(12 : Int), 2]).flatten).map iT))
  | 0, _ => rfl
  | 1, _ => rfl
  | 2, _ => rfl
  | 3, _ => rfl
  | 4, _ => rfl
  | 5, _ => rfl
  | 6, _ => rfl
  | 7, _ => rfl
  | 8, _ => rfl
  | 9, _ => rfl
  | n + 10, h => absurd h (by omega)
theorem add_ll (a b : List Int) (h : a.length + b.length ≤ 1000000) : Op.ev (.bin .add) [.lst (a.map iT), .lst (b.map iT)] = some (.lst ((a ++ b).map iT)) := by
  show ((OT.lst (a.map iT)).litems.bind fun x => (OT.lst (b.map iT)).litems.bind fun y => guard_ (decide (x.length + y.length ≤ big)) (newL (x ++ y))) = _
  rw [show (OT.lst (a.map iT)).litems = some (a.map .int) from leaves_i a, show (OT.lst (b.map iT)).litems = some (b.map .int) from leaves_i b]
  show guard_ (decide ((a.map D.int).length + (b.map D.int).length ≤ big)) _ = _
  rw [decide_eq_true (by rw [List.length_map, List.length_map]; simp only [big]; omega)]
  simp [guard_, newL]
  rfl
theorem mu_ins (ts : List OT) (i : Int) (u : OT) (h0 : 0 ≤ i) (h1 : i < 4611686018427387904) (h : ts.length < big) : muEv .insert ts [.sh (.int i), u] = some (.sh .non, ts.take i.toNat ++ [u] ++ ts.drop i.toNat) := by
  unfold muEv
  exact if_pos ⟨h0, h1, h⟩
theorem evS_ins {Φ : Phi} {pl : List Nat} {A B : CH.CE} {ρ : CH.Env} {i : Nat} {N : Int} {u : OT} {us us' : List OT} (hA : evE Φ pl A ρ = .ok (.sh (.int N), ρ)) (hB : evE Φ pl B ρ = .ok (u, ρ)) (ho : CH.Env.ownL ρ i = some us) (mu : muEv .insert us [.sh (.int N), u] = some (.sh .non, us')) :
    evS Φ pl (.ex (.mu .insert i [] (.cons A (.cons B .nil)))) ρ = .ok (.nx, ρ.set i (.ow (.lst us'))) := by
  have e : evEs Φ pl (.cons A (.cons B .nil)) ρ = .ok ([.sh (.int N), u], ρ) := by rw [evEs, hA]; simp only [CH.R.bind]; rw [evEs, hB]; simp only [CH.R.bind, evEs]
  rw [evS, evE, ho]
  simp only [CH.R.bind, e, ho]
  rw [mu]
theorem ins_mu (ls : List Int) (y W : Int) (hl : ls.length < 1000) : muEv .insert (ls.map iT) [.sh (.int (ls.filter fun a => decide (absI a < y)).length), .sh (.int W)] = some (.sh .non, (insAt ls y W).map iT) := by
  have hle := List.length_filter_le (fun a => decide (absI a < y)) ls
  unfold insAt
  generalize (ls.filter fun a => decide (absI a < y)).length = n at hle ⊢
  rw [mu_ins _ _ _ (by omega) (by omega) (by rw [List.length_map]; simp only [big]; omega), Int.toNat_natCast, List.map_append, List.map_append, List.map_take, List.map_drop]
  rfl
section
variable (k : Nat) (c : Int) (M : Int) (xs ls : List Int) (j y : Int)
abbrev RhoL (c M : Int) (xs ls : List Int) (u v : Sl) : CH.Env := [.ow (.sh (.int c)), .ow (.sh (.int M)), .ow (.sh (.int 12)), .ow (.lst (xs.map iT)), .ow (.lst (ls.map iT)), u, v, .no]
theorem l_set (v : Sl) (hv : v = .no ∨ ∃ x, v = .ow (.sh (.int x))) (x : Int) (ix : idxEv (.lst (xs.map iT)) (1 + 2 * j) = some (.sh (.int x))) : evS (P k) [] p6_0 (RhoL c M xs ls (.ow (.sh (.int j))) v) = .ok (.nx, RhoL c M xs ls (.ow (.sh (.int j))) (.ow (.sh (.int (1 + x))))) := by
  have mj := ev_mul_ii 2 j (mulOk_l 2 j (by omega))
  rcases hv with rfl | ⟨z, rfl⟩ <;> simp [p6_0, D.tyName, ev_isi_t, isTy, fillA, backA, goneA, cm_le_ii, cm_lt_ii, getV, Fn.run, evSs, evS, evT, evAll, evAny, evO, evE, evOs, evEs, evAs, evB, evAnd, evOr, CH.R.bind, R.ofO, CH.Env.tree, CH.Env.own, CH.Env.ownL, OT.getP, lock, unlock, outs, tru_b, ev_eq_ii, ev_ne_ii, ev_lt_ii, ev_le_ii, ev_gt_ii, ev_ge_ii, ev_add_ii, ev_sub_ii, ev_neg_i, ev_int_i, ev_abs_i, ev_len_l, ev_len_t, ev_len_f, ev_idx, mulOk_r, ev_mul_ii, OT.toD, ix, mj]
theorem l_I : evI (P k) [] (.seq (.bor 4 [])) (RhoL c M xs ls (.ow (.sh (.int j))) (.ow (.sh (.int y)))) = .ok (ls.map .int, (RhoL c M xs ls (.ow (.sh (.int j))) (.ow (.sh (.int y)))).set 4 (.lk (.lst (ls.map iT)))) := by
  have e : OT.items (.lst (ls.map iT)) = some (ls.map .int) := leaves_i ls
  simp [D.tyName, ev_isi_t, isTy, fillA, backA, goneA, cm_le_ii, cm_lt_ii, getV, Fn.run, evSs, evS, evT, evAll, evAny, evO, evE, evOs, evEs, evAs, evB, evAnd, evOr, CH.R.bind, R.ofO, CH.Env.tree, CH.Env.own, CH.Env.ownL, OT.getP, lock, unlock, outs, tru_b, ev_eq_ii, ev_ne_ii, ev_lt_ii, ev_le_ii, ev_gt_ii, ev_ge_ii, ev_add_ii, ev_sub_ii, ev_neg_i, ev_int_i, ev_abs_i, ev_len_l, ev_len_t, ev_len_f, ev_idx, mulOk_r, ev_mul_ii, OT.toD, evI, e]
theorem l_same (hl : ls.length < 1000) : evE (P k) [] (.lc p6_1 (.one 7) (.seq (.bor 4 [])) p6_2) (RhoL c M xs ls (.ow (.sh (.int j))) (.ow (.sh (.int y)))) = .ok (.lst (((ls.filter fun a => decide (absI a = y)).map .int).map .sh), RhoL c M xs ls (.ow (.sh (.int j))) (.ow (.sh (.int y)))) := by
  have := evE_lcf (Φ := P k) (pl := []) (e := p6_1) (i := 7) (it := .seq (.bor 4 [])) (cs := p6_2) (ρ := RhoL c M xs ls (.ow (.sh (.int j))) (.ow (.sh (.int y)))) (xs := ls) (mk := .int) (g := .int) (p := fun a => decide (absI a = y)) (l_I k c M xs ls j y) rfl (by simp) (by simp only [big]; omega) (fun a _ => ⟨by by_cases hq : absI a = y <;> (unfold absI at hq; simp [p6_2, D.tyName, ev_isi_t, isTy, fillA, backA, goneA, cm_le_ii, cm_lt_ii, getV, Fn.run, evSs, evS, evT, evAll, evAny, evO, evE, evOs, evEs, evAs, evB, evAnd, evOr, CH.R.bind, R.ofO, CH.Env.tree, CH.Env.own, CH.Env.ownL, OT.getP, lock, unlock, outs, tru_b, ev_eq_ii, ev_ne_ii, ev_lt_ii, ev_le_ii, ev_gt_ii, ev_ge_ii, ev_add_ii, ev_sub_ii, ev_neg_i, ev_int_i, ev_abs_i, ev_len_l, ev_len_t, ev_len_f, ev_idx, mulOk_r, ev_mul_ii, OT.toD, absI, hq]), fun _ => by simp [p6_1, D.tyName, ev_isi_t, isTy, fillA, backA, goneA, cm_le_ii, cm_lt_ii, getV, Fn.run, evSs, evS, evT, evAll, evAny, evO, evE, evOs, evEs, evAs, evB, evAnd, evOr, CH.R.bind, R.ofO, CH.Env.tree, CH.Env.own, CH.Env.ownL, OT.getP, lock, unlock, outs, tru_b, ev_eq_ii, ev_ne_ii, ev_lt_ii, ev_le_ii, ev_gt_ii, ev_ge_ii, ev_add_ii, ev_sub_ii, ev_neg_i, ev_int_i, ev_abs_i, ev_len_l, ev_len_t, ev_len_f, ev_idx, mulOk_r, ev_mul_ii, OT.toD]⟩)
  rw [this]
  simp [backI, unlock]
theorem l_less (hl : ls.length < 1000) : evE (P k) [] (.lc p6_3 (.one 7) (.seq (.bor 4 [])) p6_4) (RhoL c M xs ls (.ow (.sh (.int j))) (.ow (.sh (.int y)))) = .ok (.lst (((ls.filter fun a => decide (absI a < y)).map .int).map .sh), RhoL c M xs ls (.ow (.sh (.int j))) (.ow (.sh (.int y)))) := by
  have := evE_lcf (Φ := P k) (pl := []) (e := p6_3) (i := 7) (it := .seq (.bor 4 [])) (cs := p6_4) (ρ := RhoL c M xs ls (.ow (.sh (.int j))) (.ow (.sh (.int y)))) (xs := ls) (mk := .int) (g := .int) (p := fun a => decide (absI a < y)) (l_I k c M xs ls j y) rfl (by simp) (by simp only [big]; omega) (fun a _ => ⟨by by_cases hq : absI a < y <;> (unfold absI at hq; simp [p6_4, D.tyName, ev_isi_t, isTy, fillA, backA, goneA, cm_le_ii, cm_lt_ii, getV, Fn.run, evSs, evS, evT, evAll, evAny, evO, evE, evOs, evEs, evAs, evB, evAnd, evOr, CH.R.bind, R.ofO, CH.Env.tree, CH.Env.own, CH.Env.ownL, OT.getP, lock, unlock, outs, tru_b, ev_eq_ii, ev_ne_ii, ev_lt_ii, ev_le_ii, ev_gt_ii, ev_ge_ii, ev_add_ii, ev_sub_ii, ev_neg_i, ev_int_i, ev_abs_i, ev_len_l, ev_len_t, ev_len_f, ev_idx, mulOk_r, ev_mul_ii, OT.toD, absI, hq]), fun _ => by simp [p6_3, D.tyName, ev_isi_t, isTy, fillA, backA, goneA, cm_le_ii, cm_lt_ii, getV, Fn.run, evSs, evS, evT, evAll, evAny, evO, evE, evOs, evEs, evAs, evB, evAnd, evOr, CH.R.bind, R.ofO, CH.Env.tree, CH.Env.own, CH.Env.ownL, OT.getP, lock, unlock, outs, tru_b, ev_eq_ii, ev_ne_ii, ev_lt_ii, ev_le_ii, ev_gt_ii, ev_ge_ii, ev_add_ii, ev_sub_ii, ev_neg_i, ev_int_i, ev_abs_i, ev_len_l, ev_len_t, ev_len_f, ev_idx, mulOk_r, ev_mul_ii, OT.toD]⟩)
  rw [this]
  simp [backI, unlock]
theorem l_turn (hl : ls.length < 1000) (s : Int) (hs : s = 0 ∨ s = 1) (ix : idxEv (.lst (xs.map iT)) (2 + 2 * j) = some (.sh (.int s))) :
    evS (P k) [] p6_5 (RhoL c M xs ls (.ow (.sh (.int j))) (.ow (.sh (.int y)))) = .ok (.nx, RhoL c M xs (if (ls.filter fun a => decide (absI a = y)).isEmpty = true then insAt ls y (if s = 0 then y else -y) else ls) (.ow (.sh (.int j))) (.ow (.sh (.int y)))) := by
  have e1 := l_same k c M xs ls j y hl
  have e2 := l_less k c M xs ls j y hl
  have en := ev_eq_nil (n := 1) (oks_ints 1 (ls.filter fun a => decide (absI a = y))) (by decide)
  have hT : evT (P k) [] (.val (.e (.op (.cmp .eq) (.cons (.e (.lc p6_1 (.one 7) (.seq (.bor 4 [])) p6_2)) (.cons (.e (.lst .nil)) .nil))))) (RhoL c M xs ls (.ow (.sh (.int j))) (.ow (.sh (.int y)))) = .ok ((ls.filter fun a => decide (absI a = y)).isEmpty, RhoL c M xs ls (.ow (.sh (.int j))) (.ow (.sh (.int y)))) := by
    have e0 : evE (P k) [] (.lst .nil) (RhoL c M xs ls (.ow (.sh (.int j))) (.ow (.sh (.int y)))) = .ok (.lst [], RhoL c M xs ls (.ow (.sh (.int j))) (.ow (.sh (.int y)))) := by simp [evE, evEs, CH.R.bind]
    rw [evT, evO, evE_op2 e1 e0 en]
    simp [CH.R.bind, tru_b]
  unfold p6_5
  cases hq : (ls.filter fun a => decide (absI a = y)).isEmpty with
  | false =>
    rw [ife_f (hq ▸ hT)]
    simp [evSs]
  | true =>
    rw [ife_t (hq ▸ hT), ss_end, if_pos rfl]
    have hn : Op.ev (.bi .len) [.lst (((ls.filter fun a => decide (absI a < y)).map D.int).map .sh)] = some (.sh (.int (ls.filter fun a => decide (absI a < y)).length)) := by
      rw [ev_len_l, List.length_map, List.length_map]
    have e3 := evE_op1 e2 hn
    have hw : idxEv (.lst [.sh (.int y), .sh (.int (-y))]) s = some (.sh (.int (if s = 0 then y else -y))) := by rcases hs with rfl | rfl <;> rfl
    have mu := ins_mu ls y (if s = 0 then y else -y) hl
    have mj := ev_mul_ii 2 j (mulOk_l 2 j (by omega))
    have hb2 : 2 ≤ big := by decide
    exact evS_ins e3 (by simp [D.tyName, ev_isi_t, isTy, fillA, backA, goneA, cm_le_ii, cm_lt_ii, getV, Fn.run, evSs, evS, evT, evAll, evAny, evO, evE, evOs, evEs, evAs, evB, evAnd, evOr, CH.R.bind, R.ofO, CH.Env.tree, CH.Env.own, CH.Env.ownL, OT.getP, lock, unlock, outs, tru_b, ev_eq_ii, ev_ne_ii, ev_lt_ii, ev_le_ii, ev_gt_ii, ev_ge_ii, ev_add_ii, ev_sub_ii, ev_neg_i, ev_int_i, ev_abs_i, ev_len_l, ev_len_t, ev_len_f, ev_idx, mulOk_r, ev_mul_ii, OT.toD, ix, hw, mj, hb2]) rfl mu
end
end K70
end
section
namespace K70
open PySem L2 Evl PyProof.Rows CH
theorem absI_pick (s x : Int) (h : 0 ≤ x) : absI (if s = 0 then x else -x) = x := by
  unfold absI; split <;> split <;> omega
theorem loop6 (k : Nat) (c : Int) (M : Nat) (hM : M < 10) (xs : List Int) (hw : Within xs (lim M)) (n : Nat) (hn : n ≤ M) :
    ∃ ls ρ', Good ls ∧ ls.length ≤ n ∧ forL (fun ρ => evSs (P k) [] p6_6 ρ) [] (.one 5) ((List.range n).map fun i => .int (i : Nat)) (RhoL c M xs [] .no .no) = .ok (.nx, ρ') ∧ ∃ u v, ρ' = RhoL c M xs ls u v := by
  obtain ⟨ρ', h1, ls, u, v, rfl, _, _, hg, hl⟩ := forL_inv (body := fun ρ => evSs (P k) [] p6_6 ρ) (pl := []) (tg := .one 5)
    (I := fun i ρ => ∃ (ls : List Int) (u v : Sl), ρ = RhoL c M xs ls u v ∧ (u = .no ∨ ∃ x, u = .ow (.sh (.int x))) ∧ (v = .no ∨ ∃ x, v = .ow (.sh (.int x))) ∧ Good ls ∧ ls.length ≤ i)
    ((List.range n).map fun i => .int (i : Nat)) (RhoL c M xs [] .no .no) ⟨[], .no, .no, rfl, .inl rfl, .inl rfl, ⟨.nil, fun a h => absurd h (by simp)⟩, Nat.le_refl _⟩
    (fun i d ρ e hI => by
      obtain ⟨ls, u, v, rfl, hu, hv, hg, hl⟩ := hI
      obtain ⟨i', e1, rfl⟩ := by rw [List.getElem?_map] at e; exact Option.map_eq_some_iff.mp e
      obtain ⟨hi, e1⟩ := List.getElem?_eq_some_iff.mp e1
      rw [List.getElem_range] at e1
      subst e1
      rw [List.length_range] at hi
      have hl0 := lim_len M hM
      obtain ⟨a1, a2⟩ := lim_at M hM i (by omega)
      have w1 := hw.2 (1 + 2 * i) (by omega)
      have w2 := hw.2 (2 + 2 * i) (by omega)
      rw [a1] at w1
      rw [a2] at w2
      have x1 := idx_ow xs (1 + 2 * i) (by have := hw.1; omega)
      have x2 := idx_ow xs (2 + 2 * i) (by have := hw.1; omega)
      rw [show ((1 + 2 * i : Nat) : Int) = 1 + 2 * (i : Int) by omega] at x1
      rw [show ((2 + 2 * i : Nat) : Int) = 2 + 2 * (i : Int) by omega] at x2
      generalize xs.getD (1 + 2 * i) 0 = x at x1 w1
      generalize xs.getD (2 + 2 * i) 0 = s at x2 w2
      have s1 : setTg [] (.one 5) (.int (i : Nat)) (RhoL c M xs ls u v) = some (RhoL c M xs ls (.ow (.sh (.int i))) v) := by rcases hu with rfl | ⟨x, rfl⟩ <;> rfl
      have b1 := l_set k c M xs ls (i : Int) v hv x x1
      have b2 := l_turn k c M xs ls (i : Int) (1 + x) (by omega) s (by omega) x2
      have b3 : evSs (P k) [] p6_6 (RhoL c M xs ls (.ow (.sh (.int i))) v) = evS (P k) [] p6_5 (RhoL c M xs ls (.ow (.sh (.int i))) (.ow (.sh (.int (1 + x))))) := by
        unfold p6_6
        rw [ss_next b1, ss_end]
      refine ⟨_, _, s1, b3.trans b2, _, _, _, rfl, .inr ⟨_, rfl⟩, .inr ⟨_, rfl⟩, ?_, ?_⟩
      · split
        · rename_i hq
          have hne : ∀ a ∈ ls, absI a ≠ 1 + x := fun a ha hc => by
            have := List.isEmpty_iff.mp hq
            rw [List.filter_eq_nil_iff] at this
            exact this a ha (by simpa using hc)
          refine ⟨insAt_inc (absI_pick _ _ (by omega)) hg.1 hne, fun a ha => ?_⟩
          rcases insAt_mem ha with ha | rfl
          · exact hg.2 a ha
          · rw [absI_pick _ _ (by omega)]; omega
        · exact hg
      · split
        · rw [insAt_len]; omega
        · omega)
  rw [List.length_map, List.length_range] at hl
  exact ⟨ls, _, hg, hl, h1, u, v, rfl⟩
theorem six_0 (k : Nat) (c MM : Int) (xs L L2 : List Int) {ws : List OT} (mu : Op.ev (.bin .mul) [.lst [.sh (.int 12), .sh (.int 2)], .sh (.int MM)] = some (.lst (L2.map iT))) (ad : Op.ev (.bin .add) [.lst [.sh (.int (MM + 1))], .lst (L2.map iT)] = some (.lst (L.map iT)))
    (hd : P (k + 1) 4 [.sh (.int c), .sh (.lst (L.map D.int))] = .ok (.lst (xs.map iT), [.sh (.int c), .sh (.lst (L.map D.int))])) :
    evS (P (k + 1)) [] q6_0 [.ow (.sh (.int c)), .ow (.sh (.int MM)), .ow (.sh (.int 12)), .no, .no, .no, .no, .no] = .ok (.nx, [.ow (.sh (.int c)), .ow (.sh (.int MM)), .ow (.sh (.int 12)), .ow (.lst (xs.map iT)), .no, .no, .no, .no]) := by
  have hb2 : 2 ≤ big := by decide
  have hb1 : 1 ≤ big := by decide
  have td := toDs_i L
  simp [q6_0, D.tyName, ev_isi_t, isTy, fillA, backA, goneA, cm_le_ii, cm_lt_ii, getV, Fn.run, evSs, evS, evT, evAll, evAny, evO, evE, evOs, evEs, evAs, evB, evAnd, evOr, CH.R.bind, R.ofO, CH.Env.tree, CH.Env.own, CH.Env.ownL, OT.getP, lock, unlock, outs, tru_b, ev_eq_ii, ev_ne_ii, ev_lt_ii, ev_le_ii, ev_gt_ii, ev_ge_ii, ev_add_ii, ev_sub_ii, ev_neg_i, ev_int_i, ev_abs_i, ev_len_l, ev_len_t, ev_len_f, ev_idx, mulOk_r, ev_mul_ii, OT.toD, mu, ad, hb1, hb2, td, hd]
theorem six_I (k : Nat) (c MM : Int) (xs : List Int) (n : Nat) (hn : n < 1000) (x0 : idxEv (.lst (xs.map iT)) 0 = some (.sh (.int n))) : evI (P k) [] (.rng1 (.op .idx (.cons (.bor 3 []) (.cons (.e (.c (.int 0))) .nil)))) (RhoL c MM xs [] .no .no) = .ok ((List.range n).map fun i => .int (i : Nat), RhoL c MM xs [] .no .no) := by
  have := range1_val (Φ := P k) (pl := []) (b := .op .idx (.cons (.bor 3 []) (.cons (.e (.c (.int 0))) .nil))) (ρ := RhoL c MM xs [] .no .no) (ρ2 := RhoL c MM xs [] .no .no) (j := (n : Int)) (by simp [D.tyName, ev_isi_t, isTy, fillA, backA, goneA, cm_le_ii, cm_lt_ii, getV, Fn.run, evSs, evS, evT, evAll, evAny, evO, evE, evOs, evEs, evAs, evB, evAnd, evOr, CH.R.bind, R.ofO, CH.Env.tree, CH.Env.own, CH.Env.ownL, OT.getP, lock, unlock, outs, tru_b, ev_eq_ii, ev_ne_ii, ev_lt_ii, ev_le_ii, ev_gt_ii, ev_ge_ii, ev_add_ii, ev_sub_ii, ev_neg_i, ev_int_i, ev_abs_i, ev_len_l, ev_len_t, ev_len_f, ev_idx, mulOk_r, ev_mul_ii, OT.toD, x0]) (by omega)
  rw [this, Int.toNat_natCast]
theorem six_3 (k : Nat) (c MM : Int) (xs ls : List Int) (u v : Sl) : evS (P k) [] q6_3 (RhoL c MM xs ls u v) = .ok (.rt (.sh (.tup (ls.map .int))), RhoL c MM xs ls u v) := by
  have tu : Op.ev (.bi .tuple) [.lst (ls.map iT)] = some (.sh (.tup (ls.map .int))) := by
    show ((OT.lst (ls.map iT)).litems.map fun ds => OT.sh (.tup ds)) = _
    rw [show (OT.lst (ls.map iT)).litems = some (ls.map .int) from leaves_i ls]; rfl
  simp [q6_3, D.tyName, ev_isi_t, isTy, fillA, backA, goneA, cm_le_ii, cm_lt_ii, getV, Fn.run, evSs, evS, evT, evAll, evAny, evO, evE, evOs, evEs, evAs, evB, evAnd, evOr, CH.R.bind, R.ofO, CH.Env.tree, CH.Env.own, CH.Env.ownL, OT.getP, lock, unlock, outs, tru_b, ev_eq_ii, ev_ne_ii, ev_lt_ii, ev_le_ii, ev_gt_ii, ev_ge_ii, ev_add_ii, ev_sub_ii, ev_neg_i, ev_int_i, ev_abs_i, ev_len_l, ev_len_t, ev_len_f, ev_idx, mulOk_r, ev_mul_ii, OT.toD, tu]
theorem six_run (k : Nat) (c MM : Int) (xs ls : List Int) (n : Nat) (u v : Sl) (h0 : evS (P k) [] q6_0 [.ow (.sh (.int c)), .ow (.sh (.int MM)), .ow (.sh (.int 12)), .no, .no, .no, .no, .no] = .ok (.nx, [.ow (.sh (.int c)), .ow (.sh (.int MM)), .ow (.sh (.int 12)), .ow (.lst (xs.map iT)), .no, .no, .no, .no]))
    (hI : evI (P k) [] (.rng1 (.op .idx (.cons (.bor 3 []) (.cons (.e (.c (.int 0))) .nil)))) (RhoL c MM xs [] .no .no) = .ok ((List.range n).map fun i => .int (i : Nat), RhoL c MM xs [] .no .no))
    (hf : forL (fun ρ => evSs (P k) [] p6_6 ρ) [] (.one 5) ((List.range n).map fun i => .int (i : Nat)) (RhoL c MM xs [] .no .no) = .ok (.nx, RhoL c MM xs ls u v)) : f6.run (P k) [.sh (.int c), .sh (.int MM), .sh (.int 12)] = .ok (.sh (.tup (ls.map .int)), [.sh (.int c), .sh (.int MM), .sh (.int 12)]) := by
  refine run_rt (ρ := RhoL c MM xs ls u v) rfl ?_ rfl
  show evSs (P k) [] b6 [.ow (.sh (.int c)), .ow (.sh (.int MM)), .ow (.sh (.int 12)), .no, .no, .no, .no, .no] = _
  unfold b6
  rw [ss_next h0]
  rw [ss_next (s := q6_1) (ρ1 := RhoL c MM xs [] .no .no) (by simp [q6_1, D.tyName, ev_isi_t, isTy, fillA, backA, goneA, cm_le_ii, cm_lt_ii, getV, Fn.run, evSs, evS, evT, evAll, evAny, evO, evE, evOs, evEs, evAs, evB, evAnd, evOr, CH.R.bind, R.ofO, CH.Env.tree, CH.Env.own, CH.Env.ownL, OT.getP, lock, unlock, outs, tru_b, ev_eq_ii, ev_ne_ii, ev_lt_ii, ev_le_ii, ev_gt_ii, ev_ge_ii, ev_add_ii, ev_sub_ii, ev_neg_i, ev_int_i, ev_abs_i, ev_len_l, ev_len_t, ev_len_f, ev_idx, mulOk_r, ev_mul_ii, OT.toD])]
  rw [ss_next (s := q6_2) (ρ1 := RhoL c MM xs ls u v) (by unfold q6_2; rw [evS, hI]; simp only [CH.R.bind, backI]; rw [hf])]
  exact ss_stop (six_3 k c MM xs ls u v)
theorem lits_eq (k : Nat) (c : Int) (M : Nat) (hM : M < 10) : ∃ ls, Good ls ∧ ls.length ≤ M ∧ P (k + 2) 6 [.sh (.int c), .sh (.int M), .sh (.int 12)] = .ok (.sh (.tup (ls.map .int)), [.sh (.int c), .sh (.int M), .sh (.int 12)]) := by
  rw [step (k + 1) 6 _ f6 t6]
  obtain ⟨xs, hw, hd⟩ := draws_eq k c (lim M) (lim_all M hM) (by rw [lim_len M hM]; omega)
  have hl0 := lim_len M hM
  have w0 := hw.2 0 (by omega)
  rw [show (lim M).getD 0 0 = (M : Int) + 1 from rfl] at w0
  have x0 := idx_ow xs 0 (by have := hw.1; omega)
  rw [show ((0 : Nat) : Int) = 0 from rfl] at x0
  obtain ⟨n, hn⟩ : ∃ n : Nat, xs.getD 0 0 = n := ⟨(xs.getD 0 0).toNat, by omega⟩
  rw [hn] at x0 w0
  obtain ⟨ls, ρ', hg, hl, hf, u, v, rfl⟩ := loop6 (k + 1) c M hM xs hw n (by omega)
  have ad := add_ll [(M : Int) + 1] ((List.replicate M [(12 : Int), 2]).flatten) (by
    have : (lim M).length = 1 + ((List.replicate M [(12 : Int), 2]).flatten).length := by unfold lim; simp; omega
    simp only [List.length_cons, List.length_nil]
    omega)
  exact ⟨ls, hg, by omega, six_run (k + 1) c M xs ls n u v (six_0 k c M xs (lim M) _ (ws := []) (mul_ev M hM) ad hd) (six_I (k + 1) c M xs n (by omega) x0) hf⟩
end K70
end
section
namespace K70
open PySem L2 Evl PyProof.Rows CH
theorem run_nx {Φ : Phi} {fn : CH.Fn} {ts us : List OT} {ρ : CH.Env} (hl : ts.length = fn.np) (h : evSs Φ fn.pl fn.body (ts.map .ow ++ List.replicate (fn.nv - fn.np) .no) = .ok (.nx, ρ)) (ho : outs fn.pl ρ 0 ts = some us) : fn.run Φ ts = .ok (.sh .non, us) := by
  unfold Fn.run
  rw [if_pos hl, h]
  simp only [ho]
  rfl
theorem run_exc {Φ : Phi} {fn : CH.Fn} {ts : List OT} {e : Exn} {ρ : CH.Env} (hl : ts.length = fn.np) (h : evSs Φ fn.pl fn.body (ts.map .ow ++ List.replicate (fn.nv - fn.np) .no) = .ex e ρ) : fn.run Φ ts = .ex e [] := by
  unfold Fn.run
  rw [if_pos hl, h]
theorem ss_exc {Φ : Phi} {pl : List Nat} {s : CS} {r : CSs} {ρ ρ1 : CH.Env} {e : Exn} (h : evS Φ pl s ρ = .ex e ρ1) : evSs Φ pl (.cons s r) ρ = .ex e ρ1 := by rw [evSs, h]; rfl
theorem isint_int (k : Nat) (a : Int) : P (k + 1) 0 [.sh (.int a)] = .ok (.sh (.bl true), [.sh (.int a)]) := by
  rw [step k 0 _ f0 t0]
  simp [f0, b0, q0_0, D.tyName, ev_isi_t, isTy, fillA, backA, goneA, cm_le_ii, cm_lt_ii, getV, Fn.run, evSs, evS, evT, evAll, evAny, evO, evE, evOs, evEs, evAs, evB, evAnd, evOr, CH.R.bind, R.ofO, CH.Env.tree, CH.Env.own, CH.Env.ownL, OT.getP, lock, unlock, outs, tru_b, ev_eq_ii, ev_ne_ii, ev_lt_ii, ev_le_ii, ev_gt_ii, ev_ge_ii, ev_add_ii, ev_sub_ii, ev_neg_i, ev_int_i, ev_abs_i, ev_len_l, ev_len_t, ev_len_f, ev_idx, mulOk_r, ev_mul_ii, OT.toD]
theorem need_all (k : Nat) (ls : List Int) (hl : ls.length < 1000) (hg : ∀ a ∈ ls, a ≠ 0) (w x : Sl) : evE (P (k + 1)) [] (.op (.bi .all) (.cons (.e (.lc p1_0 (.one 2) (.seq (.bor 0 [])) p1_1)) .nil)) [.ow (.sh (.tup (ls.map .int))), w, .no] = .ok (.sh (.bl true), [.ow (.sh (.tup (ls.map .int))), w, .no]) := by
  have hI : evI (P (k + 1)) [] (.seq (.bor 0 [])) [.ow (.sh (.tup (ls.map .int))), w, .no] = .ok (ls.map .int, [.lk (.sh (.tup (ls.map .int))), w, .no]) := by simp [D.tyName, ev_isi_t, isTy, fillA, backA, goneA, cm_le_ii, cm_lt_ii, getV, Fn.run, evSs, evS, evT, evAll, evAny, evO, evE, evOs, evEs, evAs, evB, evAnd, evOr, CH.R.bind, R.ofO, CH.Env.tree, CH.Env.own, CH.Env.ownL, OT.getP, lock, unlock, outs, tru_b, ev_eq_ii, ev_ne_ii, ev_lt_ii, ev_le_ii, ev_gt_ii, ev_ge_ii, ev_add_ii, ev_sub_ii, ev_neg_i, ev_int_i, ev_abs_i, ev_len_l, ev_len_t, ev_len_f, ev_idx, mulOk_r, ev_mul_ii, OT.toD, evI, OT.items]
  have := evE_all (Φ := P (k + 1)) (pl := []) (e := p1_0) (i := 2) (it := .seq (.bor 0 [])) (cs := p1_1) (ρ := [.ow (.sh (.tup (ls.map .int))), w, .no]) (xs := ls) (mk := .int) (f := fun a => decide (a ≠ 0)) hI rfl (by simp) (by simp only [big]; omega) (fun ρ => by simp [p1_1, evAll]) (fun a ha => by
    have e := isint_int k a
    simp [p1_0, D.tyName, ev_isi_t, isTy, fillA, backA, goneA, cm_le_ii, cm_lt_ii, getV, Fn.run, evSs, evS, evT, evAll, evAny, evO, evE, evOs, evEs, evAs, evB, evAnd, evOr, CH.R.bind, R.ofO, CH.Env.tree, CH.Env.own, CH.Env.ownL, OT.getP, lock, unlock, outs, tru_b, ev_eq_ii, ev_ne_ii, ev_lt_ii, ev_le_ii, ev_gt_ii, ev_ge_ii, ev_add_ii, ev_sub_ii, ev_neg_i, ev_int_i, ev_abs_i, ev_len_l, ev_len_t, ev_len_f, ev_idx, mulOk_r, ev_mul_ii, OT.toD, e])
  rw [this, List.all_eq_true.mpr fun a ha => decide_eq_true (hg a ha)]
  simp [backI, unlock]
theorem need_turn (k : Nat) (ls : List Int) (j a b : Int) (i1 : idxEv (.sh (.tup (ls.map .int))) (j - 1) = some (.sh (.int a))) (i2 : idxEv (.sh (.tup (ls.map .int))) j = some (.sh (.int b))) (h : absI a < absI b) :
    evSs (P k) [] p1_2 [.ow (.sh (.tup (ls.map .int))), .ow (.sh (.int j)), .no] = .ok (.nx, [.ow (.sh (.tup (ls.map .int))), .ow (.sh (.int j)), .no]) := by
  have hh : ¬ (if b < 0 then -b else b) ≤ (if a < 0 then -a else a) := by unfold absI at h; omega
  simp [p1_2, D.tyName, ev_isi_t, isTy, fillA, backA, goneA, cm_le_ii, cm_lt_ii, getV, Fn.run, evSs, evS, evT, evAll, evAny, evO, evE, evOs, evEs, evAs, evB, evAnd, evOr, CH.R.bind, R.ofO, CH.Env.tree, CH.Env.own, CH.Env.ownL, OT.getP, lock, unlock, outs, tru_b, ev_eq_ii, ev_ne_ii, ev_lt_ii, ev_le_ii, ev_gt_ii, ev_ge_ii, ev_add_ii, ev_sub_ii, ev_neg_i, ev_int_i, ev_abs_i, ev_len_l, ev_len_t, ev_len_f, ev_idx, mulOk_r, ev_mul_ii, OT.toD, i1, i2, hh]
theorem need_ok (k : Nat) (ls : List Int) (hl : ls.length < 1000) (hg : Good ls) : P (k + 2) 1 [.sh (.tup (ls.map .int))] = .ok (.sh .non, [.sh (.tup (ls.map .int))]) := by
  rw [step (k + 1) 1 _ f1 t1]
  have e0 : evS (P (k + 1)) [] q1_0 [.ow (.sh (.tup (ls.map .int))), .no, .no] = .ok (.nx, [.ow (.sh (.tup (ls.map .int))), .no, .no]) := by
    have e1 := need_all k ls hl (fun a ha hc => by have := hg.2 a ha; subst hc; unfold absI at this; omega) .no .no
    have e2 : evT (P (k + 1)) [] (.val (.e (.op (.bi .all) (.cons (.e (.lc p1_0 (.one 2) (.seq (.bor 0 [])) p1_1)) .nil)))) [.ow (.sh (.tup (ls.map .int))), .no, .no] = .ok (true, [.ow (.sh (.tup (ls.map .int))), .no, .no]) := by
      rw [evT, evO, e1]; rfl
    unfold q1_0
    rw [ife_f (ρ1 := [.ow (.sh (.tup (ls.map .int))), .no, .no]) (by simp [evT, evAny, ↓e2, evO, evE, evOs, CH.R.bind, CH.Env.tree, OT.getP, lock, unlock, ev_isi_t, D.tyName, isTy, tru_b])]
    simp [evSs]
  have hI : evI (P (k + 1)) [] (.rng2 (.c (.int 1)) (.op (.bi .len) (.cons (.bor 0 []) .nil))) [.ow (.sh (.tup (ls.map .int))), .no, .no] = .ok ((List.range ((ls.length : Int) - 1).toNat).map fun i => .int (1 + (i : Nat)), [.ow (.sh (.tup (ls.map .int))), .no, .no]) :=
    range_val (ρ1 := [.ow (.sh (.tup (ls.map .int))), .no, .no]) (i := 1) (j := (ls.length : Int)) (by simp [D.tyName, ev_isi_t, isTy, fillA, backA, goneA, cm_le_ii, cm_lt_ii, getV, Fn.run, evSs, evS, evT, evAll, evAny, evO, evE, evOs, evEs, evAs, evB, evAnd, evOr, CH.R.bind, R.ofO, CH.Env.tree, CH.Env.own, CH.Env.ownL, OT.getP, lock, unlock, outs, tru_b, ev_eq_ii, ev_ne_ii, ev_lt_ii, ev_le_ii, ev_gt_ii, ev_ge_ii, ev_add_ii, ev_sub_ii, ev_neg_i, ev_int_i, ev_abs_i, ev_len_l, ev_len_t, ev_len_f, ev_idx, mulOk_r, ev_mul_ii, OT.toD]) (by simp [D.tyName, ev_isi_t, isTy, fillA, backA, goneA, cm_le_ii, cm_lt_ii, getV, Fn.run, evSs, evS, evT, evAll, evAny, evO, evE, evOs, evEs, evAs, evB, evAnd, evOr, CH.R.bind, R.ofO, CH.Env.tree, CH.Env.own, CH.Env.ownL, OT.getP, lock, unlock, outs, tru_b, ev_eq_ii, ev_ne_ii, ev_lt_ii, ev_le_ii, ev_gt_ii, ev_ge_ii, ev_add_ii, ev_sub_ii, ev_neg_i, ev_int_i, ev_abs_i, ev_len_l, ev_len_t, ev_len_f, ev_idx, mulOk_r, ev_mul_ii, OT.toD]) (by omega)
  obtain ⟨ρ', hf, u, rfl, _⟩ := forL_inv (body := fun ρ => evSs (P (k + 1)) [] p1_2 ρ) (pl := []) (tg := .one 1)
    (I := fun _ ρ => ∃ u, ρ = [.ow (.sh (.tup (ls.map .int))), u, .no] ∧ (u = .no ∨ ∃ x, u = .ow (.sh (.int x))))
    ((List.range ((ls.length : Int) - 1).toNat).map fun i => .int (1 + (i : Nat))) [.ow (.sh (.tup (ls.map .int))), .no, .no] ⟨.no, rfl, .inl rfl⟩ (fun i d ρ e hI => by
      obtain ⟨u, rfl, hu⟩ := hI
      obtain ⟨i', e1, rfl⟩ := by rw [List.getElem?_map] at e; exact Option.map_eq_some_iff.mp e
      obtain ⟨hi, e1⟩ := List.getElem?_eq_some_iff.mp e1
      rw [List.getElem_range] at e1
      subst e1
      rw [List.length_range] at hi
      have i1 := idx_st ls i (by omega)
      have i2 := idx_st ls (i + 1) (by omega)
      have hp := List.pairwise_iff_getElem.mp hg.1 i (i + 1) (by omega) (by omega) (by omega)
      have g1 : ls.getD i 0 = ls[i]'(by omega) := by rw [List.getD_eq_getElem?_getD, List.getElem?_eq_getElem (by omega)]; rfl
      have g2 : ls.getD (i + 1) 0 = ls[i + 1]'(by omega) := by rw [List.getD_eq_getElem?_getD, List.getElem?_eq_getElem (by omega)]; rfl
      rw [← g1, ← g2] at hp
      refine ⟨_, _, ?_, need_turn (k + 1) ls (1 + (i : Int)) _ _ (by rw [show 1 + (i : Int) - 1 = (i : Int) by omega]; exact i1) (by rw [show 1 + (i : Int) = ((i + 1 : Nat) : Int) by omega]; exact i2) hp, _, rfl, .inr ⟨_, rfl⟩⟩
      rcases hu with rfl | ⟨x, rfl⟩ <;> rfl)
  have : evSs (P (k + 1)) [] b1 [.ow (.sh (.tup (ls.map .int))), .no, .no] = .ok (.nx, [.ow (.sh (.tup (ls.map .int))), u, .no]) := by
    unfold b1
    rw [ss_next e0, ss_end]
    unfold q1_1
    rw [evS, hI]
    simp only [CH.R.bind, backI]
    rw [hf]
  exact run_nx rfl this rfl
end K70
end
section
namespace K70
open PySem L2 Evl PyProof.Rows CH
abbrev rD (r : List Int) : D := .tup (r.map .int)
abbrev rowsO (rs : List (List Int)) : OT := .lst ((rs.map rD).map .sh)
def nextB (rs : List (List Int)) : List (List Int) := rs.flatMap fun r => [r ++ [0], r ++ [1]]
def rowsB : Nat → List (List Int)
  | 0 => [[]]
  | m + 1 => nextB (rowsB m)
theorem nextB_len (rs : List (List Int)) : (nextB rs).length = 2 * rs.length := by
  unfold nextB
  induction rs with
  | nil => rfl
  | cons r rs ih => rw [List.flatMap_cons, List.length_append, ih]; simp; omega
theorem rowsB_len : ∀ m, (rowsB m).length = 2 ^ m
  | 0 => rfl
  | m + 1 => by rw [rowsB, nextB_len, rowsB_len m, Nat.pow_succ, Nat.mul_comm]
theorem rowsB_mem : ∀ {m : Nat} {r : List Int}, r ∈ rowsB m ↔ r.length = m ∧ ∀ x ∈ r, x = 0 ∨ x = 1
  | 0, r => by
    rw [rowsB, List.mem_singleton]
    constructor
    · rintro rfl; exact ⟨rfl, fun x h => absurd h (by simp)⟩
    · rintro ⟨h, _⟩; exact List.length_eq_zero_iff.mp h
  | m + 1, r => by
    rw [rowsB, nextB, List.mem_flatMap]
    constructor
    · rintro ⟨q, hq, h⟩
      obtain ⟨h1, h2⟩ := rowsB_mem.mp hq
      have : r = q ++ [0] ∨ r = q ++ [1] := by simpa using h
      rcases this with rfl | rfl
      · exact ⟨by simp [h1], fun x hx => by
          rcases List.mem_append.mp hx with hx | hx
          · exact h2 x hx
          · exact .inl (by simpa using hx)⟩
      · exact ⟨by simp [h1], fun x hx => by
          rcases List.mem_append.mp hx with hx | hx
          · exact h2 x hx
          · exact .inr (by simpa using hx)⟩
    · rintro ⟨h1, h2⟩
      have hne : r ≠ [] := by intro h; subst h; simp at h1
      refine ⟨r.dropLast, rowsB_mem.mpr ⟨by simp [h1], fun x hx => h2 x (List.dropLast_subset r hx)⟩, ?_⟩
      have e := List.dropLast_concat_getLast hne
      rcases h2 _ (List.getLast_mem hne) with z | z <;> (rw [z] at e; simp [e])
theorem pairs_len (rs : List (List Int)) : (rs.flatMap fun r => [OT.sh (rD (r ++ [0])), OT.sh (rD (r ++ [1]))]) = ((nextB rs).map rD).map .sh := by
  unfold nextB
  induction rs with
  | nil => rfl
  | cons r rs ih => rw [List.flatMap_cons, List.flatMap_cons, List.map_append, List.map_append, ih]; rfl
theorem add_rD (r : List Int) (x : Int) (h : r.length < 1000) : Op.ev (.bin .add) [.sh (rD r), .sh (.tup [.int x])] = some (.sh (rD (r ++ [x]))) := by
  show guard_ (decide ((r.map D.int).length + [D.int x].length ≤ big)) (OT.sh (.tup (r.map D.int ++ [.int x]))) = _
  rw [decide_eq_true (by rw [List.length_map]; simp only [List.length_cons, List.length_nil, big]; omega), show r.map D.int ++ [.int x] = (r ++ [x]).map .int by simp]; rfl
/-- rows grow by one -/
theorem rows_lc (k : Nat) (A B u : Sl) (rs : List (List Int)) (hl : rs.length ≤ 100000) (hrs : ∀ r ∈ rs, r.length < 1000) :
    evE (P k) [] (.lc2 p2_0 (.one 6) (.seq (.bor 2 [])) p2_1 (.one 7) p2_2 p2_3) [A, B, .ow (rowsO rs), u, .no, .no, .no, .no, .no] = .ok (rowsO (nextB rs), [A, B, .ow (rowsO rs), u, .no, .no, .no, .no, .no]) := by
  have e0 : OT.items (rowsO rs) = some (rs.map rD) := leaves_map _
  have hI : evI (P k) [] (.seq (.bor 2 [])) [A, B, .ow (rowsO rs), u, .no, .no, .no, .no, .no] = .ok (rs.map rD, [A, B, .lk (rowsO rs), u, .no, .no, .no, .no, .no]) := by
    rw [evI]
    show (match OT.items (rowsO rs) with
      | some ds => R.ok (ds, [A, B, .lk (rowsO rs), u, .no, .no, .no, .no, .no])
      | none => R.no) = _
    rw [e0]
  generalize rowsO rs = RO at hI ⊢
  have key := lcG_flat (cond := fun ρ => evAll (P k) [] p2_1 ρ) (step := inner (fun ρ => evI (P k) [] p2_2 ρ) (fun ρ ρ' => backI p2_2 ρ ρ') (fun ρ => evAll (P k) [] p2_3 ρ) (fun ρ => evE (P k) [] p2_0 ρ) [] (.one 7)) (pl := []) (tg := .one 6) (vs := [6, 7]) (ρ := [A, B, .lk RO, u, .no, .no, .no, .no, .no]) (mk := rD) (g := fun r => [OT.sh (rD (r ++ [0])), OT.sh (rD (r ++ [1]))]) rs []
    (by rw [pairs_len, List.length_map, List.length_map, nextB_len]; simp only [List.length_nil]; unfold big; omega)
    (fun r hr => by
      refine ⟨[A, B, .lk RO, u, .no, .no, .ow (.sh (rD r)), .no, .no], [A, B, .lk RO, u, .no, .no, .ow (.sh (rD r)), .no, .no], rfl, rfl, fun acc ha => ?_, rfl⟩
      have i2 : evI (P k) [] p2_2 [A, B, .lk RO, u, .no, .no, .ow (.sh (rD r)), .no, .no] = .ok ([(0 : Int), 1].map .int, [A, B, .lk RO, u, .no, .no, .ow (.sh (rD r)), .no, .no]) := by
        have hb2 : 2 ≤ big := by decide
        simp [p2_2, D.tyName, ev_isi_t, isTy, fillA, backA, goneA, cm_le_ii, cm_lt_ii, getV, Fn.run, evSs, evS, evT, evAll, evAny, evO, evE, evOs, evEs, evAs, evB, evAnd, evOr, CH.R.bind, R.ofO, CH.Env.tree, CH.Env.own, CH.Env.ownL, OT.getP, lock, unlock, outs, tru_b, ev_eq_ii, ev_ne_ii, ev_lt_ii, ev_le_ii, ev_gt_ii, ev_ge_ii, ev_add_ii, ev_sub_ii, ev_neg_i, ev_int_i, ev_abs_i, ev_len_l, ev_len_t, ev_len_f, ev_idx, mulOk_r, ev_mul_ii, OT.toD, evI, OT.items, toDs, hb2]
      have lc := lcL_acc (cond := fun ρ => evAll (P k) [] p2_3 ρ) (elt := fun ρ => evE (P k) [] p2_0 ρ) (pl := []) (i := 7) (ρ := [A, B, .lk RO, u, .no, .no, .ow (.sh (rD r)), .no, .no]) (mk := D.int) (g := fun x => rD (r ++ [x])) rfl (by simp) [0, 1] acc (by simpa using ha) (fun ρ => rfl) (fun x _ => by
        have ad := add_rD r x (hrs r hr)
        have hb1 : 1 ≤ big := by decide
        generalize rD r = RD at ad ⊢
        simp [p2_0, D.tyName, ev_isi_t, isTy, fillA, backA, goneA, cm_le_ii, cm_lt_ii, getV, Fn.run, evSs, evS, evT, evAll, evAny, evO, evE, evOs, evEs, evAs, evB, evAnd, evOr, CH.R.bind, R.ofO, CH.Env.tree, CH.Env.own, CH.Env.ownL, OT.getP, lock, unlock, outs, tru_b, ev_eq_ii, ev_ne_ii, ev_lt_ii, ev_le_ii, ev_gt_ii, ev_ge_ii, ev_add_ii, ev_sub_ii, ev_neg_i, ev_int_i, ev_abs_i, ev_len_l, ev_len_t, ev_len_f, ev_idx, mulOk_r, ev_mul_ii, OT.toD, toDs, ad, hb1])
      exact inner_val (tg := .one 7) i2 rfl lc)
  rw [evE, hI]
  simp only [CH.R.bind]
  rw [if_pos (by rfl)]
  have w : wipeE [A, B, .lk RO, u, .no, .no, .no, .no, .no] (Tg.slots (.one 6) ++ Tg.slots (.one 7)) = [A, B, .lk RO, u, .no, .no, .no, .no, .no] := rfl
  rw [w, show Tg.slots (.one 6) ++ Tg.slots (.one 7) = [6, 7] from rfl, key]
  simp only
  rw [backE_same, List.nil_append, pairs_len]
  rfl
theorem rows_loop (k : Nat) (ls : List Int) (hl : ls.length < 10) (B : Sl) : ∃ u, forL (fun ρ => evSs (P k) [] p2_4 ρ) [] (.one 3) (ls.map .int) [.lk (.sh (.tup (ls.map .int))), B, .ow (rowsO [[]]), .no, .no, .no, .no, .no, .no] = .ok (.nx, [.lk (.sh (.tup (ls.map .int))), B, .ow (rowsO (rowsB ls.length)), u, .no, .no, .no, .no, .no]) := by
  obtain ⟨ρ', hf, u, _, rfl⟩ := forL_inv (body := fun ρ => evSs (P k) [] p2_4 ρ) (pl := []) (tg := .one 3)
    (I := fun i ρ => ∃ u, (u = .no ∨ ∃ d, u = .ow (.sh d)) ∧ ρ = [.lk (.sh (.tup (ls.map .int))), B, .ow (rowsO (rowsB i)), u, .no, .no, .no, .no, .no])
    (ls.map .int) [.lk (.sh (.tup (ls.map .int))), B, .ow (rowsO [[]]), .no, .no, .no, .no, .no, .no] ⟨.no, .inl rfl, rfl⟩ (fun i d ρ e hI => by
      obtain ⟨u, hu, rfl⟩ := hI
      have hi : i < ls.length := by obtain ⟨h, _⟩ := List.getElem?_eq_some_iff.mp e; simpa using h
      have hp : 2 ^ i ≤ 2 ^ 10 := Nat.pow_le_pow_right (by decide) (by omega)
      have lc := rows_lc k (.lk (.sh (.tup (ls.map .int)))) B (.ow (.sh d)) (rowsB i) (by rw [rowsB_len]; omega) (fun r hr => by have := (rowsB_mem.mp hr).1; omega)
      refine ⟨[.lk (.sh (.tup (ls.map .int))), B, .ow (rowsO (rowsB i)), .ow (.sh d), .no, .no, .no, .no, .no], _, ?_, ?_, .ow (.sh d), .inr ⟨d, rfl⟩, rfl⟩
      · rcases hu with rfl | ⟨x, rfl⟩ <;> rfl
      · show evSs (P k) [] p2_4 _ = _
        unfold p2_4
        rw [ss_end, evS_set (u := rowsO (rowsB i)) lc (.inr rfl) rfl]
        rfl)
  rw [List.length_map] at hf
  exact ⟨u, by simpa using hf⟩
end K70
end
section
namespace K70
open PySem L2 Evl PyProof.Rows CH
def pick (l o : Int) : Int := if o = 1 then -l else l
def clauseOf (ls r : List Int) : List Int := List.zipWith pick ls r
theorem zipD_map : ∀ (ls r : List Int), zipD (ls.map .int) (r.map .int) = (ls.zip r).map fun p => .tup [.int p.1, .int p.2]
  | [], _ => rfl
  | _ :: _, [] => rfl
  | l :: ls, x :: r => by show D.tup [.int l, .int x] :: zipD (ls.map .int) (r.map .int) = _; rw [zipD_map ls r]; rfl
/-- the clause of a row -/
theorem clause_lc (k : Nat) (A B R0 u F : Sl) (ls r : List Int) (hl : ls.length < 1000) (hA : A = .lk (.sh (rD ls)) ∨ A = .ow (.sh (rD ls))) :
    evE (P k) [] (.lc p2_5 (.tup [8, 7]) (.zip (.e (.v 0)) (.e (.v 5))) p2_6) [A, B, R0, u, F, .ow (.sh (rD r)), .no, .no, .no] = .ok (.lst (((clauseOf ls r).map .int).map .sh), [A, B, R0, u, F, .ow (.sh (rD r)), .no, .no, .no]) := by
  have hI : evI (P k) [] (.zip (.e (.v 0)) (.e (.v 5))) [A, B, R0, u, F, .ow (.sh (rD r)), .no, .no, .no] = .ok ((ls.zip r).map fun p => .tup [.int p.1, .int p.2], [A, B, R0, u, F, .ow (.sh (rD r)), .no, .no, .no]) := by
    have z : zipEv (.sh (rD ls)) (.sh (rD r)) = some ((ls.zip r).map fun p => .tup [.int p.1, .int p.2]) := by show some (zipD (ls.map .int) (r.map .int)) = _; rw [zipD_map]
    generalize rD ls = LD at hA z
    generalize rD r = RD at z
    rcases hA with rfl | rfl <;> simp [evI, evE, getV, CH.R.bind, CH.Env.tree, z]
  have key := lcG_flat (cond := fun ρ => evAll (P k) [] p2_6 ρ) (step := pushE (fun ρ => evE (P k) [] p2_5 ρ)) (pl := []) (tg := .tup [8, 7]) (vs := [8, 7]) (ρ := [A, B, R0, u, F, .ow (.sh (rD r)), .no, .no, .no]) (mk := fun p : Int × Int => .tup [.int p.1, .int p.2]) (g := fun p => [OT.sh (.int (pick p.1 p.2))]) (ls.zip r) []
    (by
      have : ((ls.zip r).flatMap fun p => [OT.sh (.int (pick p.1 p.2))]).length ≤ ls.length := by
        simp only [List.length_flatMap, List.length_cons, List.length_nil, Nat.zero_add, List.map_const', List.sum_replicate_nat, Nat.mul_one, List.length_zip]
        exact Nat.min_le_left _ _
      simp only [List.length_nil]; unfold big; omega)
    (fun p hp => by
      generalize rD r = RD
      refine ⟨[A, B, R0, u, F, .ow (.sh RD), .no, .ow (.sh (.int p.2)), .ow (.sh (.int p.1))], [A, B, R0, u, F, .ow (.sh RD), .no, .ow (.sh (.int p.2)), .ow (.sh (.int p.1))], rfl, rfl, fun acc ha => ?_, rfl⟩
      have e : evE (P k) [] p2_5 [A, B, R0, u, F, .ow (.sh RD), .no, .ow (.sh (.int p.2)), .ow (.sh (.int p.1))] = .ok (.sh (.int (pick p.1 p.2)), [A, B, R0, u, F, .ow (.sh RD), .no, .ow (.sh (.int p.2)), .ow (.sh (.int p.1))]) := by
        unfold pick
        by_cases h : p.2 = 1 <;> simp [p2_5, D.tyName, ev_isi_t, isTy, fillA, backA, goneA, cm_le_ii, cm_lt_ii, getV, Fn.run, evSs, evS, evT, evAll, evAny, evO, evE, evOs, evEs, evAs, evB, evAnd, evOr, CH.R.bind, R.ofO, CH.Env.tree, CH.Env.own, CH.Env.ownL, OT.getP, lock, unlock, outs, tru_b, ev_eq_ii, ev_ne_ii, ev_lt_ii, ev_le_ii, ev_gt_ii, ev_ge_ii, ev_add_ii, ev_sub_ii, ev_neg_i, ev_int_i, ev_abs_i, ev_len_l, ev_len_t, ev_len_f, ev_idx, mulOk_r, ev_mul_ii, OT.toD, h]
      unfold pushE
      simp only [e]
      simp only [List.length_cons, List.length_nil] at ha
      rw [if_pos (by omega)])
  rw [evE, hI]
  simp only [CH.R.bind]
  rw [if_pos (by rfl)]
  have w : wipeE [A, B, R0, u, F, .ow (.sh (rD r)), .no, .no, .no] (Tg.slots (.tup [8, 7])) = [A, B, R0, u, F, .ow (.sh (rD r)), .no, .no, .no] := rfl
  unfold lcL
  rw [w, show Tg.slots (.tup [8, 7]) = [8, 7] from rfl, key]
  simp only
  have e2 : ((ls.zip r).flatMap fun p => [OT.sh (.int (pick p.1 p.2))]) = ((clauseOf ls r).map .int).map .sh := by
    clear hI key w hA hl
    unfold clauseOf
    induction ls generalizing r with
    | nil => rfl
    | cons l ls ih => cases r with
      | nil => rfl
      | cons x r => simp only [List.zip_cons_cons, List.flatMap_cons, List.zipWith_cons_cons, List.map_cons]; rw [ih r]; rfl
  rw [backE_same, List.nil_append, e2]
  rfl
def told (ls : List Int) (b : Int) : List (List Int) := ((rowsB ls.length).filter fun r => decide (r.sum % 2 ≠ b)).map (clauseOf ls)
theorem sum_rD (r : List Int) : Op.ev (.bi .sum) [.sh (rD r)] = some (.sh (.int r.sum)) := by
  show (intsD (r.map .int)).map _ = _
  rw [intsD_map]; rfl
theorem tup_l (r : List Int) : Op.ev (.bi .tuple) [.lst ((r.map D.int).map .sh)] = some (.sh (rD r)) := by
  show ((OT.lst ((r.map D.int).map .sh)).litems.map fun ds => OT.sh (.tup ds)) = _
  rw [litems_sh]; rfl
theorem ap_d (ds : List D) (d : D) (h : ds.length < 1000000) : muEv .append (ds.map .sh) [.sh d] = some (.sh .non, (ds ++ [d]).map .sh) := by
  show guard_ (decide ((ds.map OT.sh).length < big)) _ = _
  rw [decide_eq_true (by rw [List.length_map]; simp only [big]; omega)]
  simp [guard_]
theorem found_turn (k : Nat) (A R0 u : Sl) (ls r : List Int) (fs : List (List Int)) (b : Int) (hl : ls.length < 1000) (hf : fs.length < 100000) (hA : A = .lk (.sh (rD ls)) ∨ A = .ow (.sh (rD ls))) :
    evSs (P k) [] p2_7 [A, .ow (.sh (.int b)), R0, u, .ow (rowsO fs), .ow (.sh (rD r)), .no, .no, .no] = .ok (.nx, [A, .ow (.sh (.int b)), R0, u, .ow (rowsO (if r.sum % 2 ≠ b then fs ++ [clauseOf ls r] else fs)), .ow (.sh (rD r)), .no, .no, .no]) := by
  have sm := sum_rD r
  have lc := clause_lc k A (.ow (.sh (.int b))) R0 u (.ow (rowsO fs)) ls r hl hA
  have m2 := fun x : Int => ev_mod_ii x 2 (by omega)
  have e1 : evE (P k) [] (.op (.bi .tuple) (.cons (.e (.lc p2_5 (.tup [8, 7]) (.zip (.e (.v 0)) (.e (.v 5))) p2_6)) .nil)) [A, .ow (.sh (.int b)), R0, u, .ow (rowsO fs), .ow (.sh (rD r)), .no, .no, .no] = .ok (.sh (rD (clauseOf ls r)), [A, .ow (.sh (.int b)), R0, u, .ow (rowsO fs), .ow (.sh (rD r)), .no, .no, .no]) := evE_op1 lc (tup_l _)
  have mu := ap_d (fs.map rD) (rD (clauseOf ls r)) (by rw [List.length_map]; omega)
  unfold p2_7
  rw [ss_end]
  by_cases h : r.sum % 2 = b
  · rw [ife_f (ρ1 := [A, .ow (.sh (.int b)), R0, u, .ow (rowsO fs), .ow (.sh (rD r)), .no, .no, .no]) (by
      clear lc e1 mu
      generalize rowsO fs = FO
      generalize rD r = RD at sm ⊢
      simp [D.tyName, ev_isi_t, isTy, fillA, backA, goneA, cm_le_ii, cm_lt_ii, getV, Fn.run, evSs, evS, evT, evAll, evAny, evO, evE, evOs, evEs, evAs, evB, evAnd, evOr, CH.R.bind, R.ofO, CH.Env.tree, CH.Env.own, CH.Env.ownL, OT.getP, lock, unlock, outs, tru_b, ev_eq_ii, ev_ne_ii, ev_lt_ii, ev_le_ii, ev_gt_ii, ev_ge_ii, ev_add_ii, ev_sub_ii, ev_neg_i, ev_int_i, ev_abs_i, ev_len_l, ev_len_t, ev_len_f, ev_idx, mulOk_r, ev_mul_ii, OT.toD, sm, m2, h]), if_neg (by simp [h])]
    simp [evSs]
  · rw [ife_t (ρ1 := [A, .ow (.sh (.int b)), R0, u, .ow (rowsO fs), .ow (.sh (rD r)), .no, .no, .no]) (by
      clear lc e1 mu
      generalize rowsO fs = FO
      generalize rD r = RD at sm ⊢
      simp [D.tyName, ev_isi_t, isTy, fillA, backA, goneA, cm_le_ii, cm_lt_ii, getV, Fn.run, evSs, evS, evT, evAll, evAny, evO, evE, evOs, evEs, evAs, evB, evAnd, evOr, CH.R.bind, R.ofO, CH.Env.tree, CH.Env.own, CH.Env.ownL, OT.getP, lock, unlock, outs, tru_b, ev_eq_ii, ev_ne_ii, ev_lt_ii, ev_le_ii, ev_gt_ii, ev_ge_ii, ev_add_ii, ev_sub_ii, ev_neg_i, ev_int_i, ev_abs_i, ev_len_l, ev_len_t, ev_len_f, ev_idx, mulOk_r, ev_mul_ii, OT.toD, sm, m2, h]), ss_end, if_pos h]
    have e2 : evEs (P k) [] (.cons (.op (.bi .tuple) (.cons (.e (.lc p2_5 (.tup [8, 7]) (.zip (.e (.v 0)) (.e (.v 5))) p2_6)) .nil)) .nil) [A, .ow (.sh (.int b)), R0, u, .ow (rowsO fs), .ow (.sh (rD r)), .no, .no, .no] = .ok ([.sh (rD (clauseOf ls r))], [A, .ow (.sh (.int b)), R0, u, .ow (rowsO fs), .ow (.sh (rD r)), .no, .no, .no]) := by rw [evEs, e1]; simp only [CH.R.bind, evEs]
    have ho : CH.Env.ownL [A, .ow (.sh (.int b)), R0, u, .ow (rowsO fs), .ow (.sh (rD r)), .no, .no, .no] 4 = some ((fs.map rD).map .sh) := rfl
    rw [evS, evE, ho]
    simp only [CH.R.bind, e2, ho]
    rw [mu]
    simp [List.map_append]
end K70
end
section
namespace K70
open PySem L2 Evl PyProof.Rows CH
theorem found_loop (k : Nat) (A u : Sl) (ls : List Int) (b : Int) (rs : List (List Int)) (hl : ls.length < 1000) (hr : rs.length < 100000) (hA : A = .lk (.sh (rD ls)) ∨ A = .ow (.sh (rD ls))) :
    ∃ v, forL (fun ρ => evSs (P k) [] p2_7 ρ) [] (.one 5) (rs.map rD) [A, .ow (.sh (.int b)), .lk (rowsO rs), u, .ow (rowsO []), .no, .no, .no, .no] = .ok (.nx, [A, .ow (.sh (.int b)), .lk (rowsO rs), u, .ow (rowsO ((rs.filter fun r => decide (r.sum % 2 ≠ b)).map (clauseOf ls))), v, .no, .no, .no]) := by
  obtain ⟨ρ', hf, v, _, rfl⟩ := forL_inv (body := fun ρ => evSs (P k) [] p2_7 ρ) (pl := []) (tg := .one 5)
    (I := fun i ρ => ∃ v, (v = .no ∨ ∃ d, v = .ow (.sh d)) ∧ ρ = [A, .ow (.sh (.int b)), .lk (rowsO rs), u, .ow (rowsO (((rs.take i).filter fun r => decide (r.sum % 2 ≠ b)).map (clauseOf ls))), v, .no, .no, .no])
    (rs.map rD) [A, .ow (.sh (.int b)), .lk (rowsO rs), u, .ow (rowsO []), .no, .no, .no, .no] ⟨.no, .inl rfl, rfl⟩ (fun i d ρ e hI => by
      obtain ⟨v, hv, rfl⟩ := hI
      obtain ⟨r, e1, rfl⟩ := by rw [List.getElem?_map] at e; exact Option.map_eq_some_iff.mp e
      obtain ⟨hi, e2⟩ := List.getElem?_eq_some_iff.mp e1
      have tk : rs.take (i + 1) = rs.take i ++ [r] := by rw [List.take_succ, e1]; rfl
      have hlen : (((rs.take i).filter fun r => decide (r.sum % 2 ≠ b)).map (clauseOf ls)).length < 100000 := by
        rw [List.length_map]
        have := List.length_filter_le (fun r : List Int => decide (r.sum % 2 ≠ b)) (rs.take i)
        rw [List.length_take] at this
        omega
      have tn := found_turn k A (.lk (rowsO rs)) u ls r _ b hl hlen hA
      refine ⟨_, _, ?_, tn, .ow (.sh (rD r)), .inr ⟨_, rfl⟩, ?_⟩
      · rcases hv with rfl | ⟨x, rfl⟩ <;> rfl
      · rw [tk, List.filter_append, List.map_append]
        by_cases h : r.sum % 2 = b
        · rw [if_neg (by simp [h]), List.filter_cons_of_neg (by simp [h])]; simp
        · rw [if_pos h, List.filter_cons_of_pos (by simpa using h)]; simp)
  rw [List.length_map, List.take_length] at hf
  exact ⟨v, hf⟩
theorem notin01 (b : Int) (hb : b = 0 ∨ b = 1) : Op.ev (.cmp .notin) [.sh (.int b), .sh (.tup [.int 0, .int 1])] = some (.sh (.bl false)) := by rcases hb with rfl | rfl <;> rfl
theorem isint_run (k : Nat) (d : D) (h : d.tyName ≠ none) : P (k + 1) 0 [.sh d] = .ok (.sh (.bl (match d with | .int _ => true | _ => false)), [.sh d]) := by
  rw [step k 0 _ f0 t0]
  cases d <;> first | (exact absurd rfl h) | simp [f0, b0, q0_0, D.tyName, ev_isi_t, isTy, fillA, backA, goneA, cm_le_ii, cm_lt_ii, getV, Fn.run, evSs, evS, evT, evAll, evAny, evO, evE, evOs, evEs, evAs, evB, evAnd, evOr, CH.R.bind, R.ofO, CH.Env.tree, CH.Env.own, CH.Env.ownL, OT.getP, lock, unlock, outs, tru_b, ev_eq_ii, ev_ne_ii, ev_lt_ii, ev_le_ii, ev_gt_ii, ev_ge_ii, ev_add_ii, ev_sub_ii, ev_neg_i, ev_int_i, ev_abs_i, ev_len_l, ev_len_t, ev_len_f, ev_idx, mulOk_r, ev_mul_ii, OT.toD]
theorem parity_ok (k : Nat) (ls : List Int) (b : Int) (hg : Good ls) (hl : ls.length < 10) (hb : b = 0 ∨ b = 1) : P (k + 3) 2 [.sh (rD ls), .sh (.int b)] = .ok (.sh (.tup ((told ls b).map rD)), [.sh (rD ls), .sh (.int b)]) := by
  rw [step (k + 2) 2 _ f2 t2]
  have hn : P (k + 2) 1 [.sh (rD ls)] = .ok (.sh .non, [.sh (rD ls)]) := need_ok k ls (by omega) hg
  obtain ⟨u, h3⟩ := rows_loop (k + 2) ls hl (.ow (.sh (.int b)))
  have hp : 2 ^ ls.length ≤ 2 ^ 10 := Nat.pow_le_pow_right (by decide) (by omega)
  obtain ⟨v, h5⟩ := found_loop (k + 2) (.ow (.sh (rD ls))) u ls b (rowsB ls.length) (by omega) (by rw [rowsB_len]; omega) (.inr rfl)
  have ii := isint_int (k + 1) b
  have ni := notin01 b hb
  refine run_rt (ρ := [.ow (.sh (rD ls)), .ow (.sh (.int b)), .ow (rowsO (rowsB ls.length)), u, .ow (rowsO (told ls b)), v, .no, .no, .no]) rfl ?_ rfl
  show evSs (P (k + 2)) [] b2 [.ow (.sh (rD ls)), .ow (.sh (.int b)), .no, .no, .no, .no, .no, .no, .no] = _
  have e2 : evI (P (k + 2)) [] (.seq (.bor 2 [])) [.ow (.sh (rD ls)), .ow (.sh (.int b)), .ow (rowsO (rowsB ls.length)), u, .ow (rowsO []), .no, .no, .no, .no] = .ok ((rowsB ls.length).map rD, [.ow (.sh (rD ls)), .ow (.sh (.int b)), .lk (rowsO (rowsB ls.length)), u, .ow (rowsO []), .no, .no, .no, .no]) := by
    rw [evI]
    show (match OT.items (rowsO (rowsB ls.length)) with
      | some ds => (R.ok (ds, ([.ow (.sh (rD ls)), .ow (.sh (.int b)), .lk (rowsO (rowsB ls.length)), u, .ow (rowsO []), .no, .no, .no, .no] : CH.Env)) : R (List D × CH.Env))
      | none => R.no) = _
    rw [show OT.items (rowsO (rowsB ls.length)) = some ((rowsB ls.length).map rD) from leaves_map _]
  have tu : Op.ev (.bi .tuple) [rowsO (told ls b)] = some (.sh (.tup ((told ls b).map rD))) := by
    show ((OT.lst (((told ls b).map rD).map .sh)).litems.map fun ds => OT.sh (.tup ds)) = _
    rw [litems_sh]; rfl
  have i0 : evI (P (k + 2)) [] (.seq (.bor 0 [])) [.ow (.sh (rD ls)), .ow (.sh (.int b)), .ow (rowsO [[]]), .no, .no, .no, .no, .no, .no] = .ok (ls.map .int, [.lk (.sh (rD ls)), .ow (.sh (.int b)), .ow (rowsO [[]]), .no, .no, .no, .no, .no, .no]) := rfl
  have h5' : forL (fun ρ => evSs (P (k + 2)) [] p2_7 ρ) [] (.one 5) ((rowsB ls.length).map rD) [.ow (.sh (rD ls)), .ow (.sh (.int b)), .lk (rowsO (rowsB ls.length)), u, .ow (rowsO []), .no, .no, .no, .no] = .ok (.nx, [.ow (.sh (rD ls)), .ow (.sh (.int b)), .lk (rowsO (rowsB ls.length)), u, .ow (rowsO (told ls b)), v, .no, .no, .no]) := h5
  have h3' : forL (fun ρ => evSs (P (k + 2)) [] p2_4 ρ) [] (.one 3) (ls.map .int) [.lk (.sh (rD ls)), .ow (.sh (.int b)), .ow (rowsO [[]]), .no, .no, .no, .no, .no, .no] = .ok (.nx, [.lk (.sh (rD ls)), .ow (.sh (.int b)), .ow (rowsO (rowsB ls.length)), u, .no, .no, .no, .no, .no]) := h3
  clear h5 h3
  generalize rowsO (told ls b) = TT at h5' tu ⊢
  generalize (told ls b).map rD = TD at tu ⊢
  generalize rowsO (rowsB ls.length) = RB at h5' h3' e2 ⊢
  generalize (rowsB ls.length).map rD = RD at h5' e2
  generalize ls.map D.int = LI at i0 h3'
  generalize hLD : rD ls = LD at *
  unfold b2
  have hb2 : 2 ≤ big := by decide
  have hb1 : 1 ≤ big := by decide
  rw [ss_next (s := q2_0) (ρ1 := [.ow (.sh LD), .ow (.sh (.int b)), .no, .no, .no, .no, .no, .no, .no]) (by simp [q2_0, D.tyName, ev_isi_t, isTy, fillA, backA, goneA, cm_le_ii, cm_lt_ii, getV, Fn.run, evSs, evS, evT, evAll, evAny, evO, evE, evOs, evEs, evAs, evB, evAnd, evOr, CH.R.bind, R.ofO, CH.Env.tree, CH.Env.own, CH.Env.ownL, OT.getP, lock, unlock, outs, tru_b, ev_eq_ii, ev_ne_ii, ev_lt_ii, ev_le_ii, ev_gt_ii, ev_ge_ii, ev_add_ii, ev_sub_ii, ev_neg_i, ev_int_i, ev_abs_i, ev_len_l, ev_len_t, ev_len_f, ev_idx, mulOk_r, ev_mul_ii, OT.toD, hn])]
  rw [ss_next (s := q2_1) (ρ1 := [.ow (.sh LD), .ow (.sh (.int b)), .no, .no, .no, .no, .no, .no, .no]) (by
    unfold q2_1
    rw [ife_f (ρ1 := [.ow (.sh LD), .ow (.sh (.int b)), .no, .no, .no, .no, .no, .no, .no]) (by simp [D.tyName, ev_isi_t, isTy, fillA, backA, goneA, cm_le_ii, cm_lt_ii, getV, Fn.run, evSs, evS, evT, evAll, evAny, evO, evE, evOs, evEs, evAs, evB, evAnd, evOr, CH.R.bind, R.ofO, CH.Env.tree, CH.Env.own, CH.Env.ownL, OT.getP, lock, unlock, outs, tru_b, ev_eq_ii, ev_ne_ii, ev_lt_ii, ev_le_ii, ev_gt_ii, ev_ge_ii, ev_add_ii, ev_sub_ii, ev_neg_i, ev_int_i, ev_abs_i, ev_len_l, ev_len_t, ev_len_f, ev_idx, mulOk_r, ev_mul_ii, OT.toD, ii, ni, hb2, toDs])]
    simp [evSs])]
  rw [ss_next (s := q2_2) (ρ1 := [.ow (.sh LD), .ow (.sh (.int b)), .ow (rowsO [[]]), .no, .no, .no, .no, .no, .no]) (by simp [q2_2, D.tyName, ev_isi_t, isTy, fillA, backA, goneA, cm_le_ii, cm_lt_ii, getV, Fn.run, evSs, evS, evT, evAll, evAny, evO, evE, evOs, evEs, evAs, evB, evAnd, evOr, CH.R.bind, R.ofO, CH.Env.tree, CH.Env.own, CH.Env.ownL, OT.getP, lock, unlock, outs, tru_b, ev_eq_ii, ev_ne_ii, ev_lt_ii, ev_le_ii, ev_gt_ii, ev_ge_ii, ev_add_ii, ev_sub_ii, ev_neg_i, ev_int_i, ev_abs_i, ev_len_l, ev_len_t, ev_len_f, ev_idx, mulOk_r, ev_mul_ii, OT.toD, hb1, toDs])]
  rw [ss_next (s := q2_3) (ρ1 := [.ow (.sh LD), .ow (.sh (.int b)), .ow RB, u, .no, .no, .no, .no, .no]) (by unfold q2_3; rw [evS, i0]; simp only [CH.R.bind]; rw [h3']; simp [backI, unlock])]
  rw [ss_next (s := q2_4) (ρ1 := [.ow (.sh LD), .ow (.sh (.int b)), .ow RB, u, .ow (rowsO []), .no, .no, .no, .no]) (by simp [q2_4, D.tyName, ev_isi_t, isTy, fillA, backA, goneA, cm_le_ii, cm_lt_ii, getV, Fn.run, evSs, evS, evT, evAll, evAny, evO, evE, evOs, evEs, evAs, evB, evAnd, evOr, CH.R.bind, R.ofO, CH.Env.tree, CH.Env.own, CH.Env.ownL, OT.getP, lock, unlock, outs, tru_b, ev_eq_ii, ev_ne_ii, ev_lt_ii, ev_le_ii, ev_gt_ii, ev_ge_ii, ev_add_ii, ev_sub_ii, ev_neg_i, ev_int_i, ev_abs_i, ev_len_l, ev_len_t, ev_len_f, ev_idx, mulOk_r, ev_mul_ii, OT.toD])]
  rw [ss_next (s := q2_5) (ρ1 := [.ow (.sh LD), .ow (.sh (.int b)), .ow RB, u, .ow TT, v, .no, .no, .no]) (by unfold q2_5; rw [evS, e2]; simp only [CH.R.bind]; rw [h5']; simp [backI, unlock])]
  exact ss_stop (by simp [q2_6, D.tyName, ev_isi_t, isTy, fillA, backA, goneA, cm_le_ii, cm_lt_ii, getV, Fn.run, evSs, evS, evT, evAll, evAny, evO, evE, evOs, evEs, evAs, evB, evAnd, evOr, CH.R.bind, R.ofO, CH.Env.tree, CH.Env.own, CH.Env.ownL, OT.getP, lock, unlock, outs, tru_b, ev_eq_ii, ev_ne_ii, ev_lt_ii, ev_le_ii, ev_gt_ii, ev_ge_ii, ev_add_ii, ev_sub_ii, ev_neg_i, ev_int_i, ev_abs_i, ev_len_l, ev_len_t, ev_len_f, ev_idx, mulOk_r, ev_mul_ii, OT.toD, tu])
end K70
end
section
namespace K70
open PySem L2 Evl PyProof.Rows CH
abbrev lD (r : List Int) : D := .lst (r.map .int)
abbrev lsO (ws : List (List Int)) : OT := .lst ((ws.map lD).map .sh)
theorem toD_newL (ds : List D) : (newL ds).toD = .lst ds := by unfold newL OT.toD; rw [toDs_sh]
theorem add_l (r : List Int) (x : Int) (h : r.length < 1000) : Op.ev (.bin .add) [.sh (lD r), .lst [.sh (.int x)]] = some (newL ((r ++ [x]).map .int)) := by
  show guard_ (decide ((r.map D.int).length + [D.int x].length ≤ big)) (newL (r.map D.int ++ [.int x])) = _
  rw [decide_eq_true (by rw [List.length_map]; simp only [List.length_cons, List.length_nil, big]; omega), show r.map D.int ++ [.int x] = (r ++ [x]).map .int by simp]; rfl
theorem add_w (ws : List (List Int)) (a b : List Int) (h : ws.length < 100000) : Op.ev (.bin .add) [lsO ws, .sh (.lst [lD a, lD b])] = some (lsO (ws ++ [a, b])) := by
  show ((OT.lst ((ws.map lD).map .sh)).litems.bind fun x => (OT.sh (.lst [lD a, lD b])).litems.bind fun y => guard_ (decide (x.length + y.length ≤ big)) (newL (x ++ y))) = _
  rw [litems_sh]
  show guard_ (decide ((ws.map lD).length + [lD a, lD b].length ≤ big)) (newL (ws.map lD ++ [lD a, lD b])) = _
  rw [decide_eq_true (by rw [List.length_map]; simp only [List.length_cons, List.length_nil, big]; omega)]
  simp [guard_, newL]
theorem due_in (k : Nat) (A B C u F v : Sl) (ws : List (List Int)) (r : List Int) (h : ws.length < 100000) (hr : r.length < 1000) :
    evSs (P k) [] p7_1 [A, B, C, u, F, .ow (.sh (lD r)), .ow (lsO ws), v] = .ok (.nx, [A, B, C, u, F, .ow (.sh (lD r)), .ow (lsO (ws ++ [r ++ [0], r ++ [1]])), v]) := by
  have a0 := add_l r 0 hr
  have a1 := add_l r 1 hr
  have aw := add_w ws (r ++ [0]) (r ++ [1]) h
  have t0 := toD_newL ((r ++ [0]).map .int)
  have t1 := toD_newL ((r ++ [1]).map .int)
  have td : OT.toD (.lst [newL ((r ++ [0]).map D.int), newL ((r ++ [1]).map D.int)]) = .lst [lD (r ++ [0]), lD (r ++ [1])] := by
    show D.lst [OT.toD (newL ((r ++ [0]).map D.int)), OT.toD (newL ((r ++ [1]).map D.int))] = _
    rw [t0, t1]
  have hb2 : 2 ≤ big := by decide
  have hb1 : 1 ≤ big := by decide
  generalize lsO (ws ++ [r ++ [0], r ++ [1]]) = W2 at aw ⊢
  generalize lsO ws = W1 at aw ⊢
  generalize newL ((r ++ [0]).map D.int) = N0 at a0 td
  generalize newL ((r ++ [1]).map D.int) = N1 at a1 td
  generalize lD (r ++ [0]) = L0 at td aw
  generalize lD (r ++ [1]) = L1 at td aw
  generalize lD r = LR at a0 a1 ⊢
  simp [p7_1, getV, evSs, evS, evO, evE, evOs, evEs, CH.R.bind, CH.Env.tree, OT.getP, lock, unlock, hb1, hb2, a0, a1, td, aw]
theorem due_mid (k : Nat) (A B u F v : Sl) (w5 w6 : Sl) (rs : List (List Int)) (h : rs.length < 10000) (hr : ∀ r ∈ rs, r.length < 1000) (h5 : w5 = .no ∨ ∃ d, w5 = .ow (.sh d)) (h6 : w6 = .no ∨ ∃ t, w6 = .ow t) :
    ∃ w5', (w5' = .no ∨ ∃ d, w5' = .ow (.sh d)) ∧ evSs (P k) [] p7_4 [A, B, .ow (.sh (.lst (rs.map lD))), u, F, w5, w6, v] = .ok (.nx, [A, B, .ow (.sh (.lst ((nextB rs).map lD))), u, F, w5', .ow (.sh (.lst ((nextB rs).map lD))), v]) := by
  obtain ⟨ρ', hf, z, hz, rfl⟩ := forL_inv (body := fun ρ => evSs (P k) [] p7_1 ρ) (pl := []) (tg := .one 5)
    (I := fun i ρ => ∃ z, (z = .no ∨ ∃ d, z = .ow (.sh d)) ∧ ρ = [A, B, .lk (.sh (.lst (rs.map lD))), u, F, z, .ow (lsO (nextB (rs.take i))), v])
    (rs.map lD) [A, B, .lk (.sh (.lst (rs.map lD))), u, F, w5, .ow (lsO []), v] ⟨w5, h5, rfl⟩ (fun i d ρ e hI => by
      obtain ⟨z, hz, rfl⟩ := hI
      obtain ⟨r, e1, rfl⟩ := by rw [List.getElem?_map] at e; exact Option.map_eq_some_iff.mp e
      obtain ⟨hi, e2⟩ := List.getElem?_eq_some_iff.mp e1
      have tk : rs.take (i + 1) = rs.take i ++ [r] := by rw [List.take_succ, e1]; rfl
      have nx : nextB (rs.take (i + 1)) = nextB (rs.take i) ++ [r ++ [0], r ++ [1]] := by rw [tk]; unfold nextB; rw [List.flatMap_append]; simp
      have tn := due_in k A B (.lk (.sh (.lst (rs.map lD)))) u F v (nextB (rs.take i)) r (by rw [nextB_len, List.length_take]; omega) (hr r (List.mem_of_getElem? e1))
      rw [← nx] at tn
      refine ⟨_, _, ?_, tn, _, .inr ⟨lD r, rfl⟩, rfl⟩
      rcases hz with rfl | ⟨x, rfl⟩ <;> rfl)
  rw [List.length_map, List.take_length] at hf
  refine ⟨z, hz, ?_⟩
  have s0 : evS (P k) [] p7_0 [A, B, .ow (.sh (.lst (rs.map lD))), u, F, w5, w6, v] = .ok (.nx, [A, B, .ow (.sh (.lst (rs.map lD))), u, F, w5, .ow (lsO []), v]) := by rcases h6 with rfl | ⟨t, rfl⟩ <;> rfl
  have tl : OT.toD (lsO (nextB rs)) = .lst ((nextB rs).map lD) := toD_newL _
  generalize hR : rs.map lD = RD at *
  unfold p7_4
  rw [ss_next s0, ss_next (s := p7_2) (ρ1 := [A, B, .ow (.sh (.lst RD)), u, F, z, .ow (lsO (nextB rs)), v]) (by
    unfold p7_2
    have hI : evI (P k) [] (.seq (.bor 2 [])) [A, B, .ow (.sh (.lst RD)), u, F, w5, .ow (lsO []), v] = .ok (RD, [A, B, .lk (.sh (.lst RD)), u, F, w5, .ow (lsO []), v]) := rfl
    rw [evS, hI]
    simp only [CH.R.bind]
    rw [hf]
    simp [backI, unlock])]
  rw [ss_end]
  generalize lsO (nextB rs) = LO at tl ⊢
  simp [p7_3, evS, evE, CH.R.bind, CH.Env.own, tl]
end K70
end
section
namespace K70
open PySem L2 Evl PyProof.Rows CH
theorem due_rows (k : Nat) (ls : List Int) (hl : ls.length < 10) (B : Sl) : ∃ u w5 w6, (w5 = .no ∨ ∃ d, w5 = .ow (.sh d)) ∧ forL (fun ρ => evSs (P k) [] p7_4 ρ) [] (.one 3) (ls.map .int) [.lk (.sh (rD ls)), B, .ow (.sh (.lst [lD []])), .no, .no, .no, .no, .no] = .ok (.nx, [.lk (.sh (rD ls)), B, .ow (.sh (.lst ((rowsB ls.length).map lD))), u, .no, w5, w6, .no]) := by
  obtain ⟨ρ', hf, u, w5, w6, _, h5, _, rfl⟩ := forL_inv (body := fun ρ => evSs (P k) [] p7_4 ρ) (pl := []) (tg := .one 3)
    (I := fun i ρ => ∃ u w5 w6, (u = .no ∨ ∃ d, u = .ow (.sh d)) ∧ (w5 = .no ∨ ∃ d, w5 = .ow (.sh d)) ∧ (w6 = .no ∨ ∃ t, w6 = .ow t) ∧ ρ = [.lk (.sh (rD ls)), B, .ow (.sh (.lst ((rowsB i).map lD))), u, .no, w5, w6, .no])
    (ls.map .int) [.lk (.sh (rD ls)), B, .ow (.sh (.lst [lD []])), .no, .no, .no, .no, .no] ⟨.no, .no, .no, .inl rfl, .inl rfl, .inl rfl, rfl⟩ (fun i d ρ e hI => by
      obtain ⟨u, w5, w6, hu, h5, h6, rfl⟩ := hI
      have hi : i < ls.length := by obtain ⟨h, _⟩ := List.getElem?_eq_some_iff.mp e; simpa using h
      have hp : 2 ^ i ≤ 2 ^ 10 := Nat.pow_le_pow_right (by decide) (by omega)
      obtain ⟨w5', h5', tn⟩ := due_mid k (.lk (.sh (rD ls))) B (.ow (.sh d)) .no .no w5 w6 (rowsB i) (by rw [rowsB_len]; omega) (fun r hr => by have := (rowsB_mem.mp hr).1; omega) h5 h6
      refine ⟨_, _, ?_, tn, .ow (.sh d), w5', _, .inr ⟨d, rfl⟩, h5', .inr ⟨_, rfl⟩, rfl⟩
      rcases hu with rfl | ⟨x, rfl⟩ <;> rfl)
  rw [List.length_map] at hf
  exact ⟨u, w5, w6, h5, hf⟩
theorem clause_range (ls r : List Int) (h : r.length = ls.length) (hr : ∀ x ∈ r, x = 0 ∨ x = 1) : (List.range ls.length).map (fun j => pick (ls.getD j 0) (r.getD j 0)) = clauseOf ls r := by
  unfold clauseOf
  apply List.ext_getElem
  · simp [h]
  · intro j h1 h2
    simp only [List.length_map, List.length_range] at h1
    simp only [List.getElem_map, List.getElem_range, List.getElem_zipWith, List.getD_eq_getElem?_getD]
    rw [List.getElem?_eq_getElem h1, List.getElem?_eq_getElem (by omega)]
    rfl
theorem due_lc (k : Nat) (A B R0 u F w : Sl) (ls r : List Int) (hl : ls.length < 1000) (hr : r.length = ls.length) (hb : ∀ x ∈ r, x = 0 ∨ x = 1) (hA : A = .ow (.sh (rD ls))) :
    evE (P k) [] (.lc p7_5 (.one 7) (.rng1 (.op (.bi .len) (.cons (.bor 0 []) .nil))) p7_6) [A, B, R0, u, F, .ow (.sh (lD r)), w, .no] = .ok (.lst (((clauseOf ls r).map .int).map .sh), [A, B, R0, u, F, .ow (.sh (lD r)), w, .no]) := by
  subst hA
  have ln : Op.ev (.bi .len) [.sh (rD ls)] = some (.sh (.int ls.length)) := by rw [ev_len_t, List.length_map]
  have hI : evI (P k) [] (.rng1 (.op (.bi .len) (.cons (.bor 0 []) .nil))) [.ow (.sh (rD ls)), B, R0, u, F, .ow (.sh (lD r)), w, .no] = .ok ((List.range ls.length).map fun j => .int (j : Nat), [.ow (.sh (rD ls)), B, R0, u, F, .ow (.sh (lD r)), w, .no]) := by
    have := range1_val (Φ := P k) (pl := []) (b := .op (.bi .len) (.cons (.bor 0 []) .nil)) (ρ := [.ow (.sh (rD ls)), B, R0, u, F, .ow (.sh (lD r)), w, .no]) (ρ2 := [.ow (.sh (rD ls)), B, R0, u, F, .ow (.sh (lD r)), w, .no]) (j := (ls.length : Int)) (by
      generalize rD ls = LD at ln ⊢
      simp [D.tyName, ev_isi_t, isTy, fillA, backA, goneA, cm_le_ii, cm_lt_ii, getV, Fn.run, evSs, evS, evT, evAll, evAny, evO, evE, evOs, evEs, evAs, evB, evAnd, evOr, CH.R.bind, R.ofO, CH.Env.tree, CH.Env.own, CH.Env.ownL, OT.getP, lock, unlock, outs, tru_b, ev_eq_ii, ev_ne_ii, ev_lt_ii, ev_le_ii, ev_gt_ii, ev_ge_ii, ev_add_ii, ev_sub_ii, ev_neg_i, ev_int_i, ev_abs_i, ev_len_l, ev_len_t, ev_len_f, ev_idx, mulOk_r, ev_mul_ii, OT.toD, ln]) (by omega)
    rw [this, Int.toNat_natCast]
  have lc := evE_lc (Φ := P k) (pl := []) (e := p7_5) (i := 7) (cs := p7_6) (xs := List.range ls.length) (mk := fun j : Nat => .int (j : Int)) (g := fun j => .int (pick (ls.getD j 0) (r.getD j 0))) hI rfl (by simp) (by rw [List.length_range]; simp only [big]; omega) (fun ρ => by simp [p7_6, evAll]) (fun j hj => by
    have hj := List.mem_range.mp hj
    have i1 := idx_st ls j hj
    have i2 := idx_sl r j (by omega)
    have hb' : r.getD j 0 = 0 ∨ r.getD j 0 = 1 := hb _ (by rw [List.getD_eq_getElem?_getD, List.getElem?_eq_getElem (by omega)]; exact List.getElem_mem (by omega))
    have hw : idxEv (.lst [.sh (.int (ls.getD j 0)), .sh (.int (-(ls.getD j 0)))]) (r.getD j 0) = some (.sh (.int (pick (ls.getD j 0) (r.getD j 0)))) := by
      unfold pick
      rcases hb' with h | h <;> rw [h] <;> rfl
    have hb2 : 2 ≤ big := by decide
    generalize ls.getD j 0 = a at i1 hw ⊢
    generalize r.getD j 0 = o at i2 hw ⊢
    generalize pick a o = q at hw ⊢
    generalize (j : Int) = jj at i1 i2 ⊢
    clear ln hI
    show evE (P k) [] p7_5 [.ow (.sh (rD ls)), B, R0, u, F, .ow (.sh (lD r)), w, .ow (.sh (.int jj))] = .ok (.sh (.int q), [.ow (.sh (rD ls)), B, R0, u, F, .ow (.sh (lD r)), w, .ow (.sh (.int jj))])
    have i1 : idxEv (.sh (rD ls)) jj = some (.sh (.int a)) := i1
    have i2 : idxEv (.sh (lD r)) jj = some (.sh (.int o)) := i2
    generalize rD ls = LD at i1 ⊢
    generalize lD r = RD at i2 ⊢
    simp [p7_5, D.tyName, ev_isi_t, isTy, fillA, backA, goneA, cm_le_ii, cm_lt_ii, getV, Fn.run, evSs, evS, evT, evAll, evAny, evO, evE, evOs, evEs, evAs, evB, evAnd, evOr, CH.R.bind, R.ofO, CH.Env.tree, CH.Env.own, CH.Env.ownL, OT.getP, lock, unlock, outs, tru_b, ev_eq_ii, ev_ne_ii, ev_lt_ii, ev_le_ii, ev_gt_ii, ev_ge_ii, ev_add_ii, ev_sub_ii, ev_neg_i, ev_int_i, ev_abs_i, ev_len_l, ev_len_t, ev_len_f, ev_idx, mulOk_r, ev_mul_ii, OT.toD, i1, i2, hw, hb2])
  rw [lc]
  have : (List.range ls.length).map (fun j => OT.sh (.int (pick (ls.getD j 0) (r.getD j 0)))) = ((clauseOf ls r).map .int).map .sh := by
    rw [← clause_range ls r hr hb, List.map_map, List.map_map]; rfl
  rw [this]
  rfl
theorem sum_lD (r : List Int) : Op.ev (.bi .sum) [.sh (lD r)] = some (.sh (.int r.sum)) := by
  show ((OT.sh (lD r)).litems.bind fun ds => (intsD ds).map fun ns => OT.sh (.int ns.sum)) = _
  show (intsD (r.map .int)).map _ = _
  rw [intsD_map]; rfl
theorem evS_ap {Φ : Phi} {pl : List Nat} {A : CH.CE} {ρ : CH.Env} {i : Nat} {d : D} {ds : List D} (hA : evE Φ pl A ρ = .ok (.sh d, ρ)) (ho : CH.Env.ownL ρ i = some (ds.map .sh)) (h : ds.length < 1000000) :
    evS Φ pl (.ex (.mu .append i [] (.cons A .nil))) ρ = .ok (.nx, ρ.set i (.ow (.lst ((ds ++ [d]).map .sh)))) := by
  have e : evEs Φ pl (.cons A .nil) ρ = .ok ([.sh d], ρ) := by rw [evEs, hA]; simp only [CH.R.bind, evEs]
  have mu := ap_d ds d h
  rw [evS, evE, ho]
  simp only [CH.R.bind, e, ho]
  rw [mu]
theorem due_test (k : Nat) (A R0 u F w : Sl) (LR : D) (b s : Int) (sm : Op.ev (.bi .sum) [.sh LR] = some (.sh (.int s))) :
    evT (P k) [] (.val (.e (.op (.cmp .ne) (.cons (.e (.op (.bin .mod) (.cons (.e (.op (.bi .int) (.cons (.e (.op (.bi .sum) (.cons (.bor 5 []) .nil))) .nil))) (.cons (.e (.c (.int 2))) .nil)))) (.cons (.bor 1 []) .nil))))) [A, .ow (.sh (.int b)), R0, u, F, .ow (.sh LR), w, .no] = .ok (!decide (s % 2 = b), [A, .ow (.sh (.int b)), R0, u, F, .ow (.sh LR), w, .no]) := by
  have m2 := ev_mod_ii s 2 (by omega)
  simp [D.tyName, ev_isi_t, isTy, fillA, backA, goneA, cm_le_ii, cm_lt_ii, getV, Fn.run, evSs, evS, evT, evAll, evAny, evO, evE, evOs, evEs, evAs, evB, evAnd, evOr, CH.R.bind, R.ofO, CH.Env.tree, CH.Env.own, CH.Env.ownL, OT.getP, lock, unlock, outs, tru_b, ev_eq_ii, ev_ne_ii, ev_lt_ii, ev_le_ii, ev_gt_ii, ev_ge_ii, ev_add_ii, ev_sub_ii, ev_neg_i, ev_int_i, ev_abs_i, ev_len_l, ev_len_t, ev_len_f, ev_idx, mulOk_r, ev_mul_ii, OT.toD, sm, m2]
theorem due_turn (k : Nat) (R0 u w : Sl) (ls r : List Int) (fs : List (List Int)) (b : Int) (hl : ls.length < 1000) (hf : fs.length < 100000) (hr : r.length = ls.length) (hb : ∀ x ∈ r, x = 0 ∨ x = 1) :
    evSs (P k) [] p7_7 [.ow (.sh (rD ls)), .ow (.sh (.int b)), R0, u, .ow (rowsO fs), .ow (.sh (lD r)), w, .no] = .ok (.nx, [.ow (.sh (rD ls)), .ow (.sh (.int b)), R0, u, .ow (rowsO (if r.sum % 2 ≠ b then fs ++ [clauseOf ls r] else fs)), .ow (.sh (lD r)), w, .no]) := by
  have ts := due_test k (.ow (.sh (rD ls))) R0 u (.ow (rowsO fs)) w (lD r) b _ (sum_lD r)
  have e1 := evE_op1 (due_lc k (.ow (.sh (rD ls))) (.ow (.sh (.int b))) R0 u (.ow (rowsO fs)) w ls r hl hr hb rfl) (tup_l _)
  have ap := evS_ap (i := 4) (ds := fs.map rD) e1 rfl (by rw [List.length_map]; omega)
  unfold p7_7
  rw [ss_end]
  by_cases h : r.sum % 2 = b
  · rw [decide_eq_true h] at ts
    rw [ife_f ts, if_neg (by simp [h]), evSs]
  · rw [decide_eq_false h] at ts
    rw [ife_t ts, ss_end, ap, if_pos h]
    simp [List.map_append]
end K70
end
section
namespace K70
open PySem L2 Evl PyProof.Rows CH
theorem due_loop (k : Nat) (u w5 w6 : Sl) (ls : List Int) (b : Int) (rs : List (List Int)) (hl : ls.length < 1000) (hr : rs.length < 100000) (hrs : ∀ r ∈ rs, r.length = ls.length ∧ ∀ x ∈ r, x = 0 ∨ x = 1) (h5 : w5 = .no ∨ ∃ d, w5 = .ow (.sh d)) (C : Sl) :
    ∃ v, forL (fun ρ => evSs (P k) [] p7_7 ρ) [] (.one 5) (rs.map lD) [.ow (.sh (rD ls)), .ow (.sh (.int b)), C, u, .ow (rowsO []), w5, w6, .no] = .ok (.nx, [.ow (.sh (rD ls)), .ow (.sh (.int b)), C, u, .ow (rowsO ((rs.filter fun r => decide (r.sum % 2 ≠ b)).map (clauseOf ls))), v, w6, .no]) := by
  obtain ⟨ρ', hf, v, _, rfl⟩ := forL_inv (body := fun ρ => evSs (P k) [] p7_7 ρ) (pl := []) (tg := .one 5)
    (I := fun i ρ => ∃ v, (v = .no ∨ ∃ d, v = .ow (.sh d)) ∧ ρ = [.ow (.sh (rD ls)), .ow (.sh (.int b)), C, u, .ow (rowsO (((rs.take i).filter fun r => decide (r.sum % 2 ≠ b)).map (clauseOf ls))), v, w6, .no])
    (rs.map lD) [.ow (.sh (rD ls)), .ow (.sh (.int b)), C, u, .ow (rowsO []), w5, w6, .no] ⟨w5, h5, rfl⟩ (fun i d ρ e hI => by
      obtain ⟨v, hv, rfl⟩ := hI
      obtain ⟨r, e1, rfl⟩ := by rw [List.getElem?_map] at e; exact Option.map_eq_some_iff.mp e
      obtain ⟨hi, e2⟩ := List.getElem?_eq_some_iff.mp e1
      have tk : rs.take (i + 1) = rs.take i ++ [r] := by rw [List.take_succ, e1]; rfl
      have hlen : (((rs.take i).filter fun r => decide (r.sum % 2 ≠ b)).map (clauseOf ls)).length < 100000 := by
        rw [List.length_map]
        have := List.length_filter_le (fun r : List Int => decide (r.sum % 2 ≠ b)) (rs.take i)
        rw [List.length_take] at this
        omega
      have hq := hrs r (List.mem_of_getElem? e1)
      have tn := due_turn k C u w6 ls r _ b hl hlen hq.1 hq.2
      refine ⟨_, _, ?_, tn, .ow (.sh (lD r)), .inr ⟨_, rfl⟩, ?_⟩
      · rcases hv with rfl | ⟨x, rfl⟩ <;> rfl
      · rw [tk, List.filter_append, List.map_append]
        by_cases h : r.sum % 2 = b
        · rw [if_neg (by simp [h]), List.filter_cons_of_neg (by simp [h])]; simp
        · rw [if_pos h, List.filter_cons_of_pos (by simpa using h)]; simp)
  rw [List.length_map, List.take_length] at hf
  exact ⟨v, hf⟩
theorem due_ok (k : Nat) (ls : List Int) (b : Int) (hl : ls.length < 10) : P (k + 1) 7 [.sh (rD ls), .sh (.int b)] = .ok (.sh (.tup ((told ls b).map rD)), [.sh (rD ls), .sh (.int b)]) := by
  rw [step k 7 _ f7 t7]
  obtain ⟨u, w5, w6, h5, h1⟩ := due_rows k ls hl (.ow (.sh (.int b)))
  have hp : 2 ^ ls.length ≤ 2 ^ 10 := Nat.pow_le_pow_right (by decide) (by omega)
  obtain ⟨v, h3⟩ := due_loop k u w5 w6 ls b (rowsB ls.length) (by omega) (by rw [rowsB_len]; omega) (fun r hr => rowsB_mem.mp hr) h5 (.lk (.sh (.lst ((rowsB ls.length).map lD))))
  refine run_rt (ρ := [.ow (.sh (rD ls)), .ow (.sh (.int b)), .ow (.sh (.lst ((rowsB ls.length).map lD))), u, .ow (rowsO (told ls b)), v, w6, .no]) rfl ?_ rfl
  show evSs (P k) [] b7 [.ow (.sh (rD ls)), .ow (.sh (.int b)), .no, .no, .no, .no, .no, .no] = _
  have e2 : evI (P k) [] (.seq (.bor 2 [])) [.ow (.sh (rD ls)), .ow (.sh (.int b)), .ow (.sh (.lst ((rowsB ls.length).map lD))), u, .ow (rowsO []), w5, w6, .no] = .ok ((rowsB ls.length).map lD, [.ow (.sh (rD ls)), .ow (.sh (.int b)), .lk (.sh (.lst ((rowsB ls.length).map lD))), u, .ow (rowsO []), w5, w6, .no]) := rfl
  have tu : Op.ev (.bi .tuple) [rowsO (told ls b)] = some (.sh (.tup ((told ls b).map rD))) := by
    show ((OT.lst (((told ls b).map rD).map .sh)).litems.map fun ds => OT.sh (.tup ds)) = _
    rw [litems_sh]; rfl
  have i0 : evI (P k) [] (.seq (.bor 0 [])) [.ow (.sh (rD ls)), .ow (.sh (.int b)), .ow (.sh (.lst [lD []])), .no, .no, .no, .no, .no] = .ok (ls.map .int, [.lk (.sh (rD ls)), .ow (.sh (.int b)), .ow (.sh (.lst [lD []])), .no, .no, .no, .no, .no]) := rfl
  have h3' : forL (fun ρ => evSs (P k) [] p7_7 ρ) [] (.one 5) ((rowsB ls.length).map lD) [.ow (.sh (rD ls)), .ow (.sh (.int b)), .lk (.sh (.lst ((rowsB ls.length).map lD))), u, .ow (rowsO []), w5, w6, .no] = .ok (.nx, [.ow (.sh (rD ls)), .ow (.sh (.int b)), .lk (.sh (.lst ((rowsB ls.length).map lD))), u, .ow (rowsO (told ls b)), v, w6, .no]) := h3
  clear h3
  have q0 : evS (P k) [] q7_0 [.ow (.sh (rD ls)), .ow (.sh (.int b)), .no, .no, .no, .no, .no, .no] = .ok (.nx, [.ow (.sh (rD ls)), .ow (.sh (.int b)), .ow (.sh (.lst [lD []])), .no, .no, .no, .no, .no]) := rfl
  generalize rowsO (told ls b) = TT at h3' tu ⊢
  generalize (told ls b).map rD = TD at tu ⊢
  generalize (rowsB ls.length).map lD = RB at h3' h1 e2 ⊢
  generalize ls.map D.int = LI at i0 h1
  generalize hLD : rD ls = LD at *
  unfold b7
  rw [ss_next q0]
  rw [ss_next (s := q7_1) (ρ1 := [.ow (.sh LD), .ow (.sh (.int b)), .ow (.sh (.lst RB)), u, .no, w5, w6, .no]) (by unfold q7_1; rw [evS, i0]; simp only [CH.R.bind]; rw [h1]; simp [backI, unlock])]
  rw [ss_next (s := q7_2) (ρ1 := [.ow (.sh LD), .ow (.sh (.int b)), .ow (.sh (.lst RB)), u, .ow (rowsO []), w5, w6, .no]) (by simp [q7_2, D.tyName, ev_isi_t, isTy, fillA, backA, goneA, cm_le_ii, cm_lt_ii, getV, Fn.run, evSs, evS, evT, evAll, evAny, evO, evE, evOs, evEs, evAs, evB, evAnd, evOr, CH.R.bind, R.ofO, CH.Env.tree, CH.Env.own, CH.Env.ownL, OT.getP, lock, unlock, outs, tru_b, ev_eq_ii, ev_ne_ii, ev_lt_ii, ev_le_ii, ev_gt_ii, ev_ge_ii, ev_add_ii, ev_sub_ii, ev_neg_i, ev_int_i, ev_abs_i, ev_len_l, ev_len_t, ev_len_f, ev_idx, mulOk_r, ev_mul_ii, OT.toD])]
  rw [ss_next (s := q7_3) (ρ1 := [.ow (.sh LD), .ow (.sh (.int b)), .ow (.sh (.lst RB)), u, .ow TT, v, w6, .no]) (by unfold q7_3; rw [evS, e2]; simp only [CH.R.bind]; rw [h3']; simp [backI, unlock])]
  exact ss_stop (by simp [q7_4, D.tyName, ev_isi_t, isTy, fillA, backA, goneA, cm_le_ii, cm_lt_ii, getV, Fn.run, evSs, evS, evT, evAll, evAny, evO, evE, evOs, evEs, evAs, evB, evAnd, evOr, CH.R.bind, R.ofO, CH.Env.tree, CH.Env.own, CH.Env.ownL, OT.getP, lock, unlock, outs, tru_b, ev_eq_ii, ev_ne_ii, ev_lt_ii, ev_le_ii, ev_gt_ii, ev_ge_ii, ev_add_ii, ev_sub_ii, ev_neg_i, ev_int_i, ev_abs_i, ev_len_l, ev_len_t, ev_len_f, ev_idx, mulOk_r, ev_mul_ii, OT.toD, tu])
end K70
end
section
namespace K70
open PySem L2 Evl PyProof.Rows CH
theorem parity_lit (k : Nat) (a d : D) (h : P k 1 [.sh a] = .ex ⟨1, [a]⟩ []) : P (k + 1) 2 [.sh a, .sh d] = .ex ⟨1, [a]⟩ [] := by
  rw [step k 2 _ f2 t2]
  refine run_exc (ρ := [.ow (.sh a), .ow (.sh d), .no, .no, .no, .no, .no, .no, .no]) rfl ?_
  show evSs (P k) [] b2 [.ow (.sh a), .ow (.sh d), .no, .no, .no, .no, .no, .no, .no] = _
  unfold b2
  exact ss_exc (by simp [q2_0, D.tyName, ev_isi_t, isTy, fillA, backA, goneA, cm_le_ii, cm_lt_ii, getV, Fn.run, evSs, evS, evT, evAll, evAny, evO, evE, evOs, evEs, evAs, evB, evAnd, evOr, CH.R.bind, R.ofO, CH.Env.tree, CH.Env.own, CH.Env.ownL, OT.getP, lock, unlock, outs, tru_b, ev_eq_ii, ev_ne_ii, ev_lt_ii, ev_le_ii, ev_gt_ii, ev_ge_ii, ev_add_ii, ev_sub_ii, ev_neg_i, ev_int_i, ev_abs_i, ev_len_l, ev_len_t, ev_len_f, ev_idx, mulOk_r, ev_mul_ii, OT.toD, h])
/-- bits that are none -/
def badBit (d : D) : Prop := d.tyName ≠ none ∧ ∀ i, d = .int i → i ≠ 0 ∧ i ≠ 1
theorem notin_bad (i : Int) (h : i ≠ 0 ∧ i ≠ 1) : Op.ev (.cmp .notin) [.sh (.int i), .sh (.tup [.int 0, .int 1])] = some (.sh (.bl true)) := by
  show Option.map (fun b => OT.sh (D.bl b)) (Option.map (fun x => !x) (inD (D.int i) (D.tup (List.map D.int [0, 1])))) = _
  rw [inD_ints, decide_eq_false (by simp [h.1, h.2])]; rfl
theorem parity_num (k : Nat) (ls : List Int) (d : D) (hg : Good ls) (hl : ls.length < 10) (hd : badBit d) : P (k + 3) 2 [.sh (rD ls), .sh d] = .ex ⟨0, [d]⟩ [] := by
  rw [step (k + 2) 2 _ f2 t2]
  have hn : P (k + 2) 1 [.sh (rD ls)] = .ok (.sh .non, [.sh (rD ls)]) := need_ok k ls (by omega) hg
  refine run_exc (ρ := [.ow (.sh (rD ls)), .ow (.sh d), .no, .no, .no, .no, .no, .no, .no]) rfl ?_
  show evSs (P (k + 2)) [] b2 [.ow (.sh (rD ls)), .ow (.sh d), .no, .no, .no, .no, .no, .no, .no] = _
  have ii := isint_run (k + 1) d hd.1
  have hb2 : 2 ≤ big := by decide
  generalize rD ls = LD at hn ⊢
  have ht : evT (P (k + 2)) [] (.or (.cons (.not (.val (.e (.call 0 (.val (.v 1) .nil))))) (.cons (.val (.e (.op (.cmp .notin) (.cons (.bor 1 []) (.cons (.e (.tup (.cons (.c (.int 0)) (.cons (.c (.int 1)) .nil)))) .nil))))) .nil))) [.ow (.sh LD), .ow (.sh d), .no, .no, .no, .no, .no, .no, .no] = .ok (true, [.ow (.sh LD), .ow (.sh d), .no, .no, .no, .no, .no, .no, .no]) := by
    cases d with
    | int i =>
      have ni := notin_bad i (hd.2 i rfl)
      simp [D.tyName, ev_isi_t, isTy, fillA, backA, goneA, cm_le_ii, cm_lt_ii, getV, Fn.run, evSs, evS, evT, evAll, evAny, evO, evE, evOs, evEs, evAs, evB, evAnd, evOr, CH.R.bind, R.ofO, CH.Env.tree, CH.Env.own, CH.Env.ownL, OT.getP, lock, unlock, outs, tru_b, ev_eq_ii, ev_ne_ii, ev_lt_ii, ev_le_ii, ev_gt_ii, ev_ge_ii, ev_add_ii, ev_sub_ii, ev_neg_i, ev_int_i, ev_abs_i, ev_len_l, ev_len_t, ev_len_f, ev_idx, mulOk_r, ev_mul_ii, OT.toD, ii, ni, hb2, toDs]
    | _ => simp [D.tyName, ev_isi_t, isTy, fillA, backA, goneA, cm_le_ii, cm_lt_ii, getV, Fn.run, evSs, evS, evT, evAll, evAny, evO, evE, evOs, evEs, evAs, evB, evAnd, evOr, CH.R.bind, R.ofO, CH.Env.tree, CH.Env.own, CH.Env.ownL, OT.getP, lock, unlock, outs, tru_b, ev_eq_ii, ev_ne_ii, ev_lt_ii, ev_le_ii, ev_gt_ii, ev_ge_ii, ev_add_ii, ev_sub_ii, ev_neg_i, ev_int_i, ev_abs_i, ev_len_l, ev_len_t, ev_len_f, ev_idx, mulOk_r, ev_mul_ii, OT.toD, ii]
  unfold b2
  rw [ss_next (s := q2_0) (ρ1 := [.ow (.sh LD), .ow (.sh d), .no, .no, .no, .no, .no, .no, .no]) (by simp [q2_0, D.tyName, ev_isi_t, isTy, fillA, backA, goneA, cm_le_ii, cm_lt_ii, getV, Fn.run, evSs, evS, evT, evAll, evAny, evO, evE, evOs, evEs, evAs, evB, evAnd, evOr, CH.R.bind, R.ofO, CH.Env.tree, CH.Env.own, CH.Env.ownL, OT.getP, lock, unlock, outs, tru_b, ev_eq_ii, ev_ne_ii, ev_lt_ii, ev_le_ii, ev_gt_ii, ev_ge_ii, ev_add_ii, ev_sub_ii, ev_neg_i, ev_int_i, ev_abs_i, ev_len_l, ev_len_t, ev_len_f, ev_idx, mulOk_r, ev_mul_ii, OT.toD, hn])]
  refine ss_exc ?_
  unfold q2_1
  rw [ife_t ht, ss_end]
  simp [D.tyName, ev_isi_t, isTy, fillA, backA, goneA, cm_le_ii, cm_lt_ii, getV, Fn.run, evSs, evS, evT, evAll, evAny, evO, evE, evOs, evEs, evAs, evB, evAnd, evOr, CH.R.bind, R.ofO, CH.Env.tree, CH.Env.own, CH.Env.ownL, OT.getP, lock, unlock, outs, tru_b, ev_eq_ii, ev_ne_ii, ev_lt_ii, ev_le_ii, ev_gt_ii, ev_ge_ii, ev_add_ii, ev_sub_ii, ev_neg_i, ev_int_i, ev_abs_i, ev_len_l, ev_len_t, ev_len_f, ev_idx, mulOk_r, ev_mul_ii, OT.toD, toDs]
theorem refused_ex (k : Nat) (a d e : D) (c : Nat) (w : Str) (hc : (c = 1 ∧ w = "literals") ∨ (c = 0 ∧ w = "number")) (h : P k 2 [.sh a, .sh d] = .ex ⟨c, [e]⟩ []) : P (k + 1) 8 [.sh a, .sh d] = .ok (.sh (.tup [.str w, e]), [.sh a, .sh d]) := by
  rw [step k 8 _ f8 t8]
  refine run_rt (ρ := [.ow (.sh a), .ow (.sh d), .no]) rfl ?_ rfl
  show evSs (P k) [] b8 [.ow (.sh a), .ow (.sh d), .no] = _
  have hb2 : 2 ≤ big := by decide
  have e1 : evSs (P k) [] p8_0 [.ow (.sh a), .ow (.sh d), .no] = .ex ⟨c, [e]⟩ [.ow (.sh a), .ow (.sh d), .no] := by
    unfold p8_0
    exact ss_exc (by simp [D.tyName, ev_isi_t, isTy, fillA, backA, goneA, cm_le_ii, cm_lt_ii, getV, Fn.run, evSs, evS, evT, evAll, evAny, evO, evE, evOs, evEs, evAs, evB, evAnd, evOr, CH.R.bind, R.ofO, CH.Env.tree, CH.Env.own, CH.Env.ownL, OT.getP, lock, unlock, outs, tru_b, ev_eq_ii, ev_ne_ii, ev_lt_ii, ev_le_ii, ev_gt_ii, ev_ge_ii, ev_add_ii, ev_sub_ii, ev_neg_i, ev_int_i, ev_abs_i, ev_len_l, ev_len_t, ev_len_f, ev_idx, mulOk_r, ev_mul_ii, OT.toD, h])
  unfold b8
  refine ss_stop (s := q8_0) ?_
  unfold q8_0
  rw [evS, e1]
  rcases hc with ⟨rfl, rfl⟩ | ⟨rfl, rfl⟩ <;> simp [hdEv, bareI, atsEv, atEv, hdRet, hb2]
def bads : List D := [.int 2, .int (-1), .non, .str "0", .int 1000000000, .tup [.int 0], .bl true, .bl false, .str "1"]
def odds : List D := [.tup [.int 0], .tup [.int 1, .int 1], .tup [.int 1, .int (-1)], .tup [.int 2, .int 1], .tup [.bl true], .tup [.str "1"], .non, .int 1, .tup [.int 3, .int 2, .int 4], .tup [.int 1, .int 3, .int 2], .tup [.int 1, .str "2"], .tup [.int 1, .int 2, .int 0], .lst [.int 1], .lst [], .tup [.int 1, .int 2, .int (-2)]]
theorem bads_bad : ∀ d ∈ bads, badBit d := by
  intro d hd
  simp only [bads, List.mem_cons, List.not_mem_nil, or_false] at hd
  rcases hd with rfl | rfl | rfl | rfl | rfl | rfl | rfl | rfl | rfl <;> exact ⟨by simp [D.tyName], fun i h => by cases h <;> decide⟩
theorem odds_ex : ∀ d ∈ odds, P 16 1 [.sh d] = .ex ⟨1, [d]⟩ [] := by
  intro d hd
  simp only [odds, List.mem_cons, List.not_mem_nil, or_false] at hd
  rcases hd with rfl | rfl | rfl | rfl | rfl | rfl | rfl | rfl | rfl | rfl | rfl | rfl | rfl | rfl | rfl <;> kernel_rfl
theorem refused_lit (a d : D) (h : a ∈ odds) : P 18 8 [.sh a, .sh d] = .ok (.sh (.tup [.str "literals", a]), [.sh a, .sh d]) := refused_ex 17 a d a 1 _ (.inl ⟨rfl, rfl⟩) (parity_lit 16 a d (odds_ex a h))
theorem refused_num (ls : List Int) (d : D) (hg : Good ls) (hl : ls.length < 10) (h : d ∈ bads) : P 18 8 [.sh (rD ls), .sh d] = .ok (.sh (.tup [.str "number", d]), [.sh (rD ls), .sh d]) := refused_ex 17 _ d d 0 _ (.inr ⟨rfl, rfl⟩) (parity_num 14 ls d hg hl (bads_bad d h))
end K70
end
section
namespace K70
open PySem L2 Evl PyProof.Rows CH
def nextS (v : Int) (rs : List (List Int)) : List (List Int) := rs.flatMap fun r => [r ++ [v], r ++ [-v]]
def signsFrom : List (List Int) → List Int → List (List Int)
  | rs, [] => rs
  | rs, v :: vs => signsFrom (nextS v rs) vs
theorem nextS_len (v : Int) (rs : List (List Int)) : (nextS v rs).length = 2 * rs.length := by
  unfold nextS
  induction rs with
  | nil => rfl
  | cons r rs ih => rw [List.flatMap_cons, List.length_append, ih]; simp; omega
theorem signs_take (rs : List (List Int)) : ∀ (vs : List Int) (i : Nat) (v : Int), vs[i]? = some v → signsFrom rs (vs.take (i + 1)) = nextS v (signsFrom rs (vs.take i))
  | [], _, _, h => by simp at h
  | w :: vs, 0, v, h => by cases (Option.some.inj (show some w = some v from h)); rfl
  | w :: vs, i + 1, v, h => by
    show signsFrom (nextS w rs) (vs.take (i + 1)) = nextS v (signsFrom (nextS w rs) (vs.take i))
    exact signs_take (nextS w rs) vs i v (by simpa using h)
theorem signs_len (rs : List (List Int)) : ∀ (vs : List Int), (signsFrom rs vs).length = rs.length * 2 ^ vs.length
  | [] => by simp [signsFrom]
  | v :: vs => by rw [signsFrom, signs_len (nextS v rs) vs, nextS_len, List.length_cons, Nat.pow_succ]; rw [Nat.mul_comm 2, Nat.mul_assoc, Nat.mul_comm 2]
theorem signs_row (rs : List (List Int)) (n : Nat) (h : ∀ r ∈ rs, r.length = n) : ∀ (vs : List Int), ∀ r ∈ signsFrom rs vs, r.length = n + vs.length
  | [], r, hr => by simpa using h r hr
  | v :: vs, r, hr => by
    have h' : ∀ r ∈ nextS v rs, r.length = n + 1 := fun r hr => by
      unfold nextS at hr
      obtain ⟨q, hq, hr⟩ := List.mem_flatMap.mp hr
      have : r = q ++ [v] ∨ r = q ++ [-v] := by simpa using hr
      rcases this with rfl | rfl <;> simp [h q hq]
    have := signs_row (nextS v rs) (n + 1) h' vs r hr
    rw [List.length_cons]
    omega
theorem add_wr (ws : List (List Int)) (a b : List Int) (h : ws.length < 100000) : Op.ev (.bin .add) [rowsO ws, .lst [.sh (rD a), .sh (rD b)]] = some (rowsO (ws ++ [a, b])) := by
  show ((OT.lst ((ws.map rD).map .sh)).litems.bind fun x => (OT.lst [.sh (rD a), .sh (rD b)]).litems.bind fun y => guard_ (decide (x.length + y.length ≤ big)) (newL (x ++ y))) = _
  rw [litems_sh]
  show guard_ (decide ((ws.map rD).length + [rD a, rD b].length ≤ big)) (newL (ws.map rD ++ [rD a, rD b])) = _
  rw [decide_eq_true (by rw [List.length_map]; simp only [List.length_cons, List.length_nil, big]; omega)]
  simp [guard_, newL]
theorem s_in (k : Nat) (A R1 : Sl) (v : Int) (ws : List (List Int)) (r : List Int) (h : ws.length < 100000) (hr : r.length < 1000) :
    evSs (P k) [] p5_1 [A, R1, .ow (.sh (.int v)), .ow (rowsO ws), .ow (.sh (rD r))] = .ok (.nx, [A, R1, .ow (.sh (.int v)), .ow (rowsO (ws ++ [r ++ [v], r ++ [-v]])), .ow (.sh (rD r))]) := by
  have a0 := add_rD r v hr
  have a1 := add_rD r (-v) hr
  have aw := add_wr ws (r ++ [v]) (r ++ [-v]) h
  have hb2 : 2 ≤ big := by decide
  have hb1 : 1 ≤ big := by decide
  generalize rowsO (ws ++ [r ++ [v], r ++ [-v]]) = W2 at aw ⊢
  generalize rowsO ws = W1 at aw ⊢
  generalize rD (r ++ [v]) = L0 at a0 aw
  generalize rD (r ++ [-v]) = L1 at a1 aw
  generalize rD r = LR at a0 a1 ⊢
  simp [p5_1, D.tyName, ev_isi_t, isTy, fillA, backA, goneA, cm_le_ii, cm_lt_ii, getV, Fn.run, evSs, evS, evT, evAll, evAny, evO, evE, evOs, evEs, evAs, evB, evAnd, evOr, CH.R.bind, R.ofO, CH.Env.tree, CH.Env.own, CH.Env.ownL, OT.getP, lock, unlock, outs, tru_b, ev_eq_ii, ev_ne_ii, ev_lt_ii, ev_le_ii, ev_gt_ii, ev_ge_ii, ev_add_ii, ev_sub_ii, ev_neg_i, ev_int_i, ev_abs_i, ev_len_l, ev_len_t, ev_len_f, ev_idx, mulOk_r, ev_mul_ii, OT.toD, toDs, hb1, hb2, a0, a1, aw]
theorem s_mid (k : Nat) (A w3 w4 R1 : Sl) (v : Int) (rs : List (List Int)) (h : rs.length < 10000) (hr : ∀ r ∈ rs, r.length < 1000) (h3 : w3 = .no ∨ ∃ t, w3 = .ow t) (h4 : w4 = .no ∨ ∃ d, w4 = .ow (.sh d)) (t : OT) (hR : R1 = .ow t) (ht : t.items = some (rs.map rD)) :
    ∃ w4', (w4' = .no ∨ ∃ d, w4' = .ow (.sh d)) ∧ evSs (P k) [] p5_4 [A, R1, .ow (.sh (.int v)), w3, w4] = .ok (.nx, [A, .ow (.sh (.lst ((nextS v rs).map rD))), .ow (.sh (.int v)), .ow (.sh (.lst ((nextS v rs).map rD))), w4']) := by
  subst hR
  obtain ⟨ρ', hf, z, hz, rfl⟩ := forL_inv (body := fun ρ => evSs (P k) [] p5_1 ρ) (pl := []) (tg := .one 4)
    (I := fun i ρ => ∃ z, (z = .no ∨ ∃ d, z = .ow (.sh d)) ∧ ρ = [A, .lk t, .ow (.sh (.int v)), .ow (rowsO (nextS v (rs.take i))), z])
    (rs.map rD) [A, .lk t, .ow (.sh (.int v)), .ow (rowsO []), w4] ⟨w4, h4, rfl⟩ (fun i d ρ e hI => by
      obtain ⟨z, hz, rfl⟩ := hI
      obtain ⟨r, e1, rfl⟩ := by rw [List.getElem?_map] at e; exact Option.map_eq_some_iff.mp e
      obtain ⟨hi, e2⟩ := List.getElem?_eq_some_iff.mp e1
      have tk : rs.take (i + 1) = rs.take i ++ [r] := by rw [List.take_succ, e1]; rfl
      have nx : nextS v (rs.take (i + 1)) = nextS v (rs.take i) ++ [r ++ [v], r ++ [-v]] := by rw [tk]; unfold nextS; rw [List.flatMap_append]; simp
      have tn := s_in k A (.lk t) v (nextS v (rs.take i)) r (by rw [nextS_len, List.length_take]; omega) (hr r (List.mem_of_getElem? e1))
      rw [← nx] at tn
      refine ⟨_, _, ?_, tn, _, .inr ⟨rD r, rfl⟩, rfl⟩
      rcases hz with rfl | ⟨x, rfl⟩ <;> rfl)
  rw [List.length_map, List.take_length] at hf
  refine ⟨z, hz, ?_⟩
  have s0 : evS (P k) [] p5_0 [A, .ow t, .ow (.sh (.int v)), w3, w4] = .ok (.nx, [A, .ow t, .ow (.sh (.int v)), .ow (rowsO []), w4]) := by rcases h3 with rfl | ⟨t, rfl⟩ <;> rfl
  have tl : OT.toD (rowsO (nextS v rs)) = .lst ((nextS v rs).map rD) := toD_newL _
  unfold p5_4
  rw [ss_next s0, ss_next (s := p5_2) (ρ1 := [A, .ow t, .ow (.sh (.int v)), .ow (rowsO (nextS v rs)), z]) (by
    unfold p5_2
    have hI : evI (P k) [] (.seq (.bor 1 [])) [A, .ow t, .ow (.sh (.int v)), .ow (rowsO []), w4] = .ok (rs.map rD, [A, .lk t, .ow (.sh (.int v)), .ow (rowsO []), w4]) := by
      rw [evI]
      show (match OT.items t with
        | some ds => (R.ok (ds, ([A, .lk t, .ow (.sh (.int v)), .ow (rowsO []), w4] : CH.Env)) : R (List D × CH.Env))
        | none => R.no) = _
      rw [ht]
    rw [evS, hI]
    simp only [CH.R.bind]
    rw [hf]
    simp [backI, unlock])]
  rw [ss_end]
  generalize rowsO (nextS v rs) = LO at tl ⊢
  simp [p5_3, evS, evE, CH.R.bind, CH.Env.own, tl]
end K70
end
section
namespace K70
open PySem L2 Evl PyProof.Rows CH
theorem signs_ok (k : Nat) (vs : List Int) (hl : vs.length < 8) : ∃ t, OT.items t = some ((signsFrom [[]] vs).map rD) ∧ P (k + 1) 5 [.sh (.lst (vs.map .int))] = .ok (t, [.sh (.lst (vs.map .int))]) := by
  rw [step k 5 _ f5 t5]
  obtain ⟨ρ', hf, t, u, w3, w4, hu, _, _, ht, rfl⟩ := forL_inv (body := fun ρ => evSs (P k) [] p5_4 ρ) (pl := []) (tg := .one 2)
    (I := fun i ρ => ∃ t u w3 w4, (u = .no ∨ ∃ d, u = .ow (.sh d)) ∧ (w3 = .no ∨ ∃ t, w3 = .ow t) ∧ (w4 = .no ∨ ∃ d, w4 = .ow (.sh d)) ∧ OT.items t = some ((signsFrom [[]] (vs.take i)).map rD) ∧ ρ = [.lk (.sh (.lst (vs.map .int))), .ow t, u, w3, w4])
    (vs.map .int) [.lk (.sh (.lst (vs.map .int))), .ow (rowsO [[]]), .no, .no, .no] ⟨rowsO [[]], .no, .no, .no, .inl rfl, .inl rfl, .inl rfl, rfl, rfl⟩ (fun i d ρ e hI => by
      obtain ⟨t, u, w3, w4, hu, h3, h4, ht, rfl⟩ := hI
      obtain ⟨v, e1, rfl⟩ := by rw [List.getElem?_map] at e; exact Option.map_eq_some_iff.mp e
      obtain ⟨hi, e2⟩ := List.getElem?_eq_some_iff.mp e1
      have hp : 2 ^ (vs.take i).length ≤ 2 ^ 8 := Nat.pow_le_pow_right (by decide) (by rw [List.length_take]; omega)
      obtain ⟨w4', h4', tn⟩ := s_mid k (.lk (.sh (.lst (vs.map .int)))) w3 w4 (.ow t) v (signsFrom [[]] (vs.take i)) (by rw [signs_len]; simp only [List.length_cons, List.length_nil]; omega) (fun r hr => by
        have := signs_row [[]] 0 (by simp) (vs.take i) r hr
        rw [List.length_take] at this
        omega) h3 h4 t rfl ht
      refine ⟨[.lk (.sh (.lst (vs.map .int))), .ow t, .ow (.sh (.int v)), w3, w4], _, ?_, tn, _, _, _, _, .inr ⟨_, rfl⟩, .inr ⟨_, rfl⟩, h4', ?_, rfl⟩
      · rcases hu with rfl | ⟨x, rfl⟩ <;> rfl
      · rw [signs_take [[]] vs i v e1]; rfl)
  rw [List.length_map, List.take_length] at ht
  refine ⟨t, ht, run_rt (ρ := [.ow (.sh (.lst (vs.map .int))), .no, u, w3, w4]) rfl ?_ rfl⟩
  show evSs (P k) [] b5 [.ow (.sh (.lst (vs.map .int))), .no, .no, .no, .no] = _
  have q0 : evS (P k) [] q5_0 [.ow (.sh (.lst (vs.map .int))), .no, .no, .no, .no] = .ok (.nx, [.ow (.sh (.lst (vs.map .int))), .ow (rowsO [[]]), .no, .no, .no]) := rfl
  have hI : evI (P k) [] (.seq (.bor 0 [])) [.ow (.sh (.lst (vs.map .int))), .ow (rowsO [[]]), .no, .no, .no] = .ok (vs.map .int, [.lk (.sh (.lst (vs.map .int))), .ow (rowsO [[]]), .no, .no, .no]) := rfl
  unfold b5
  rw [ss_next q0, ss_next (s := q5_1) (ρ1 := [.ow (.sh (.lst (vs.map .int))), .ow t, u, w3, w4]) (by
    unfold q5_1
    rw [evS, hI]
    simp only [CH.R.bind]
    rw [hf]
    simp [backI, unlock])]
  exact ss_stop (by simp [q5_2, evS, evE, CH.R.bind, CH.Env.own])
/-- how many of the literals are in the row -/
def fits (ls row : List Int) : Int := ((ls.filter fun a => decide (a ∈ row)).length : Int)
def noneIn (row c : List Int) : Bool := (c.filter fun a => decide (a ∈ row)).isEmpty
/-- a row of signs: each variable once, by one of its signs -/
def SignRow : List Int → List Int → Prop
  | [], [] => True
  | v :: vs, x :: xs => (x = v ∨ x = -v) ∧ SignRow vs xs
  | _, _ => False
theorem signRow_snoc : ∀ {vs xs : List Int} {v x : Int}, SignRow vs xs → (x = v ∨ x = -v) → SignRow (vs ++ [v]) (xs ++ [x])
  | [], [], v, x, _, h => ⟨h, trivial⟩
  | w :: vs, y :: xs, v, x, hr, h => ⟨hr.1, signRow_snoc hr.2 h⟩
  | [], _ :: _, _, _, hr, _ => hr.elim
  | _ :: _, [], _, _, hr, _ => hr.elim
theorem signs_signRow : ∀ (vs ws : List Int) (rs : List (List Int)), (∀ r ∈ rs, SignRow ws r) → ∀ r ∈ signsFrom rs vs, SignRow (ws ++ vs) r
  | [], ws, rs, h, r, hr => by rw [List.append_nil]; exact h r hr
  | v :: vs, ws, rs, h, r, hr => by
    have := signs_signRow vs (ws ++ [v]) (nextS v rs) (fun r hr => by
      unfold nextS at hr
      obtain ⟨q, hq, hr⟩ := List.mem_flatMap.mp hr
      have : r = q ++ [v] ∨ r = q ++ [-v] := by simpa using hr
      rcases this with rfl | rfl
      · exact signRow_snoc (h q hq) (.inl rfl)
      · exact signRow_snoc (h q hq) (.inr rfl)) r hr
    rw [List.append_assoc] at this
    exact this
end K70
end
section
namespace K70
open PySem L2 Evl PyProof.Rows CH
theorem abs_cases (a x : Int) (h : x = absI a ∨ x = -absI a) : x = a ∨ x = -a := by unfold absI at h; split at h <;> omega
theorem abs_neg (a : Int) : absI (-a) = absI a := by unfold absI; split <;> split <;> omega
theorem abs_of (a x : Int) (h : x = a ∨ x = -a) : absI x = absI a := by rcases h with rfl | rfl; rfl; exact abs_neg a
theorem row_abs : ∀ {ls row : List Int} {y : Int}, SignRow (ls.map absI) row → y ∈ row → ∃ a ∈ ls, absI y = absI a
  | [], [], y, _, h => absurd h (by simp)
  | a :: ls, x :: xs, y, hr, h => by
    rcases List.mem_cons.mp h with rfl | h
    · exact ⟨a, by simp, abs_of a y (abs_cases a y hr.1)⟩
    · obtain ⟨b, hb, e⟩ := row_abs hr.2 h
      exact ⟨b, by simp [hb], e⟩
  | [], _ :: _, _, hr, _ => hr.elim
  | _ :: _, [], _, hr, _ => hr.elim
/-- of each literal just one sign stands in the row -/
theorem row_one : ∀ {ls row : List Int}, Inc ls → (∀ a ∈ ls, 1 ≤ absI a) → SignRow (ls.map absI) row → ∀ a ∈ ls, (-a ∈ row ↔ ¬ a ∈ row)
  | [], [], _, _, _, a, ha => absurd ha (by simp)
  | b :: ls, x :: xs, hi, hz, hr, a, ha => by
    have hp := List.pairwise_cons.mp hi
    have hx := abs_cases b x hr.1
    have nx : ∀ y : Int, absI y = absI b → y ∉ xs := fun y hy hm => by
      obtain ⟨c, hc, e⟩ := row_abs hr.2 hm
      have := hp.1 c hc
      omega
    rcases List.mem_cons.mp ha with rfl | ha
    · have z := hz a (by simp)
      have n1 := nx a rfl
      have n2 := nx (-a) (abs_neg a)
      have hne : a ≠ -a := fun e => by unfold absI at z; split at z <;> omega
      simp only [List.mem_cons, n1, n2, or_false]
      rcases hx with rfl | rfl
      · constructor
        · intro e; exact absurd e.symm hne
        · intro e; exact absurd rfl e
      · constructor
        · intro _ e; exact hne e
        · intro _; rfl
    · have ih := row_one hp.2 (fun c hc => hz c (by simp [hc])) hr.2 a ha
      have hlt := hp.1 a ha
      have ea : a ≠ x := fun e => by have := abs_of b x hx; rw [← e] at this; omega
      have eb : -a ≠ x := fun e => by have := abs_of b x hx; rw [← e, abs_neg] at this; omega
      simp only [List.mem_cons, ea, eb, false_or]
      exact ih
  | [], _ :: _, _, _, hr, _, _ => hr.elim
  | _ :: _, [], _, _, hr, _, _ => hr.elim
def ind (ls row : List Int) : List Int := ls.map fun a => if a ∈ row then 1 else 0
theorem ind_sum (ls row : List Int) : (ind ls row).sum = fits ls row := by
  unfold ind fits
  induction ls with
  | nil => rfl
  | cons a ls ih =>
    rw [List.map_cons, List.sum_cons, ih]
    by_cases h : a ∈ row
    · rw [if_pos h, List.filter_cons_of_pos (by simpa using h), List.length_cons]; omega
    · rw [if_neg h, List.filter_cons_of_neg (by simpa using h)]; omega
theorem ind_rows (ls row : List Int) : ind ls row ∈ rowsB ls.length := by
  refine rowsB_mem.mpr ⟨by simp [ind], fun x hx => ?_⟩
  obtain ⟨a, _, rfl⟩ := List.mem_map.mp hx
  split
  · exact .inr rfl
  · exact .inl rfl
theorem none_clause : ∀ {ls r row : List Int}, (∀ a ∈ ls, (-a ∈ row ↔ ¬ a ∈ row)) → r.length = ls.length → (∀ x ∈ r, x = 0 ∨ x = 1) → noneIn row (clauseOf ls r) = decide (r = ind ls row)
  | [], [], row, _, _, _ => rfl
  | a :: ls, o :: r, row, h, hl, hb => by
    have ih := none_clause (ls := ls) (r := r) (row := row) (fun b hb => h b (by simp [hb])) (by simpa using hl) fun x hx => hb x (by simp [hx])
    have ha := h a (by simp)
    have e : noneIn row (clauseOf (a :: ls) (o :: r)) = (decide (pick a o ∉ row) && noneIn row (clauseOf ls r)) := by
      unfold noneIn clauseOf
      rw [List.zipWith_cons_cons]
      by_cases hp : pick a o ∈ row
      · rw [List.filter_cons_of_pos (by simpa using hp)]; simp [hp]
      · rw [List.filter_cons_of_neg (by simpa using hp)]; simp [hp]
    rw [e, ih, ← Bool.decide_and, decide_eq_decide]
    unfold ind
    rw [List.map_cons, List.cons.injEq]
    refine and_congr ?_ Iff.rfl
    unfold pick
    rcases hb o (by simp) with rfl | rfl
    · rw [if_neg (by decide)]
      by_cases hm : a ∈ row <;> simp [hm]
    · rw [if_pos rfl, ha]
      by_cases hm : a ∈ row <;> simp [hm]
  | [], _ :: _, _, _, hl, _ => by simp at hl
  | _ :: _, [], _, _, hl, _ => by simp at hl
/-- the clauses of a bit are all true at a row just if the parity is that bit -/
theorem told_row (ls row : List Int) (b : Int) (hg : Good ls) (hr : SignRow (ls.map absI) row) : ((told ls b).filter (noneIn row)).isEmpty = decide (fits ls row % 2 = b) := by
  have one := row_one hg.1 (fun a ha => (hg.2 a ha).1) hr
  rw [Bool.eq_iff_iff, List.isEmpty_iff, List.filter_eq_nil_iff, decide_eq_true_eq]
  constructor
  · intro h
    by_cases hq : fits ls row % 2 = b
    · exact hq
    · refine absurd ?_ (h (clauseOf ls (ind ls row)) ?_)
      · obtain ⟨h1, h2⟩ := rowsB_mem.mp (ind_rows ls row)
        rw [none_clause one h1 h2]
        simp
      · unfold told
        refine List.mem_map.mpr ⟨ind ls row, List.mem_filter.mpr ⟨ind_rows ls row, ?_⟩, rfl⟩
        rw [ind_sum]
        simpa using hq
  · intro hq c hc hn
    unfold told at hc
    obtain ⟨r, hr', rfl⟩ := List.mem_map.mp hc
    obtain ⟨h1, h2⟩ := List.mem_filter.mp hr'
    obtain ⟨h3, h4⟩ := rowsB_mem.mp h1
    rw [none_clause one h3 h4, decide_eq_true_eq] at hn
    subst hn
    rw [ind_sum] at h2
    simp [hq] at h2
end K70
end
section
namespace K70
open PySem L2 Evl PyProof.Rows CH
abbrev RhoW (S X1 : Sl) (ls : List Int) (b : Int) (TD : D) (row : List Int) (w8 w10 : Sl) : CH.Env := [S, X1, .ow (.sh (rD ls)), .ow (.sh (.int b)), .no, .no, .ow (.sh TD), .ow (.sh (rD row)), w8, .no, w10, .no]
theorem w_in (k : Nat) (a : Int) (S X1 L2' B T w8 w10 : Sl) (row : List Int) : evAll (P k) [] p9_6 [S, X1, L2', B, .no, .no, T, .ow (.sh (rD row)), w8, .no, w10, .ow (.sh (.int a))] = .ok (decide (a ∈ row), [S, X1, L2', B, .no, .no, T, .ow (.sh (rD row)), w8, .no, w10, .ow (.sh (.int a))]) := by
  have e : Op.ev (.cmp .in_) [.sh (.int a), .sh (rD row)] = some (.sh (.bl (decide (a ∈ row)))) := ev_in_it a row
  generalize rD row = RD at e ⊢
  generalize decide (a ∈ row) = q at e ⊢
  cases q <;> simp [p9_6, D.tyName, ev_isi_t, isTy, fillA, backA, goneA, cm_le_ii, cm_lt_ii, getV, Fn.run, evSs, evS, evT, evAll, evAny, evO, evE, evOs, evEs, evAs, evB, evAnd, evOr, CH.R.bind, R.ofO, CH.Env.tree, CH.Env.own, CH.Env.ownL, OT.getP, lock, unlock, outs, tru_b, ev_eq_ii, ev_ne_ii, ev_lt_ii, ev_le_ii, ev_gt_ii, ev_ge_ii, ev_add_ii, ev_sub_ii, ev_neg_i, ev_int_i, ev_abs_i, ev_len_l, ev_len_t, ev_len_f, ev_idx, mulOk_r, ev_mul_ii, OT.toD, e]
theorem w_in2 (k : Nat) (a : Int) (S X1 L2' B T w8 w10 : Sl) (row : List Int) : evAll (P k) [] p9_10 [S, X1, L2', B, .no, .no, T, .ow (.sh (rD row)), w8, .no, w10, .ow (.sh (.int a))] = .ok (decide (a ∈ row), [S, X1, L2', B, .no, .no, T, .ow (.sh (rD row)), w8, .no, w10, .ow (.sh (.int a))]) := w_in k a S X1 L2' B T w8 w10 row
theorem w_lits (k : Nat) (S X1 w8 : Sl) (ls row : List Int) (b : Int) (TD : D) (hl : ls.length < 1000) : evE (P k) [] (.lc p9_5 (.one 11) (.seq (.bor 2 [])) p9_6) (RhoW S X1 ls b TD row w8 .no) = .ok (.lst (((ls.filter fun a => decide (a ∈ row)).map .int).map .sh), RhoW S X1 ls b TD row w8 .no) := by
  have hI : evI (P k) [] (.seq (.bor 2 [])) (RhoW S X1 ls b TD row w8 .no) = .ok (ls.map .int, [S, X1, .lk (.sh (rD ls)), .ow (.sh (.int b)), .no, .no, .ow (.sh TD), .ow (.sh (rD row)), w8, .no, .no, .no]) := rfl
  have := evE_lcf (Φ := P k) (pl := []) (e := p9_5) (i := 11) (cs := p9_6) (xs := ls) (g := .int) (p := fun a => decide (a ∈ row)) hI rfl (by simp) (by simp only [big]; omega) (fun a _ => ⟨w_in k a S X1 _ _ _ w8 .no row, fun _ => by simp [p9_5, evE, getV, CH.Env.tree]⟩)
  rw [this]
  simp [backI, unlock, List.map_map]
theorem w_cls (k : Nat) (S X1 L2' w8 : Sl) (c row : List Int) (B T : Sl) (hl : c.length < 1000) : evAll (P k) [] p9_11 [S, X1, L2', B, .no, .no, T, .ow (.sh (rD row)), w8, .no, .ow (.sh (rD c)), .no] = .ok (noneIn row c, [S, X1, L2', B, .no, .no, T, .ow (.sh (rD row)), w8, .no, .ow (.sh (rD c)), .no]) := by
  have hI : evI (P k) [] (.seq (.bor 10 [])) [S, X1, L2', B, .no, .no, T, .ow (.sh (rD row)), w8, .no, .ow (.sh (rD c)), .no] = .ok (c.map .int, [S, X1, L2', B, .no, .no, T, .ow (.sh (rD row)), w8, .no, .lk (.sh (rD c)), .no]) := rfl
  have lc := evE_lcf (Φ := P k) (pl := []) (e := p9_9) (i := 11) (cs := p9_10) (xs := c) (g := .int) (p := fun a => decide (a ∈ row)) hI rfl (by simp) (by simp only [big]; omega) (fun a _ => ⟨w_in2 k a S X1 _ _ _ w8 (.lk (.sh (rD c))) row, fun _ => by simp [p9_9, evE, getV, CH.Env.tree]⟩)
  have e1 : (List.map (fun x => OT.sh (D.int x)) (c.filter fun a => decide (a ∈ row))) = ((c.filter fun a => decide (a ∈ row)).map D.int).map .sh := by rw [List.map_map]; rfl
  rw [e1] at lc
  have en := ev_eq_nil (n := 1) (oks_ints 1 (c.filter fun a => decide (a ∈ row))) (by decide)
  have e0 : evE (P k) [] (.lst .nil) (backI (.seq (.bor 10 [])) [S, X1, L2', B, .no, .no, T, .ow (.sh (rD row)), w8, .no, .ow (.sh (rD c)), .no] [S, X1, L2', B, .no, .no, T, .ow (.sh (rD row)), w8, .no, .lk (.sh (rD c)), .no]) = .ok (.lst [], [S, X1, L2', B, .no, .no, T, .ow (.sh (rD row)), w8, .no, .ow (.sh (rD c)), .no]) := rfl
  have e2 := evE_op2 lc e0 en
  have e3 : ((c.filter fun a => decide (a ∈ row)).map D.int).isEmpty = noneIn row c := by unfold noneIn; cases c.filter fun a => decide (a ∈ row) <;> rfl
  rw [e3] at e2
  unfold p9_11
  rw [evAll, evT, evO, e2]
  generalize noneIn row c = q
  cases q <;> rfl
theorem w_told (k : Nat) (S X1 w8 : Sl) (ls row : List Int) (b : Int) (ts : List (List Int)) (hl : ts.length < 100000) (hc : ∀ c ∈ ts, c.length < 1000) : evE (P k) [] (.lc p9_8 (.one 10) (.seq (.bor 6 [])) p9_11) (RhoW S X1 ls b (.tup (ts.map rD)) row w8 .no) = .ok (.lst (((ts.filter (noneIn row)).map rD).map .sh), RhoW S X1 ls b (.tup (ts.map rD)) row w8 .no) := by
  have hI : evI (P k) [] (.seq (.bor 6 [])) (RhoW S X1 ls b (.tup (ts.map rD)) row w8 .no) = .ok (ts.map rD, [S, X1, .ow (.sh (rD ls)), .ow (.sh (.int b)), .no, .no, .lk (.sh (.tup (ts.map rD))), .ow (.sh (rD row)), w8, .no, .no, .no]) := rfl
  have := evE_lcf (Φ := P k) (pl := []) (e := p9_8) (i := 10) (cs := p9_11) (xs := ts) (g := rD) (p := noneIn row) hI rfl (by simp) (by simp only [big]; omega) (fun c hm => ⟨w_cls k S X1 _ w8 c row _ _ (hc c hm), fun _ => by simp [p9_8, evE, getV, CH.Env.tree]⟩)
  rw [this]
  simp [backI, unlock, List.map_map]
end K70
end
section
namespace K70
open PySem L2 Evl PyProof.Rows CH
theorem ev_ne_bb (q : Bool) : Op.ev (.cmp .ne) [.sh (.bl q), .sh (.bl q)] = some (.sh (.bl false)) := by cases q <;> rfl
theorem x_len (k : Nat) (S X1 w8 : Sl) (ls row : List Int) (b : Int) (TD : D) : evT (P k) [] (.val (.e (.op (.cmp .gt) (.cons (.e (.op (.bi .len) (.cons (.bor 2 []) .nil))) (.cons (.e (.c (.int 6))) .nil))))) (RhoW S X1 ls b TD row w8 .no) = .ok (decide (6 < (ls.length : Int)), RhoW S X1 ls b TD row w8 .no) := by
  have ln : Op.ev (.bi .len) [.sh (rD ls)] = some (.sh (.int ls.length)) := by rw [ev_len_t, List.length_map]
  unfold RhoW
  generalize (ls.length : Int) = n at ln ⊢
  generalize rD ls = LD at ln ⊢
  generalize rD row = RD
  simp [D.tyName, ev_isi_t, isTy, fillA, backA, goneA, cm_le_ii, cm_lt_ii, getV, Fn.run, evSs, evS, evT, evAll, evAny, evO, evE, evOs, evEs, evAs, evB, evAnd, evOr, CH.R.bind, R.ofO, CH.Env.tree, CH.Env.own, CH.Env.ownL, OT.getP, lock, unlock, outs, tru_b, ev_eq_ii, ev_ne_ii, ev_lt_ii, ev_le_ii, ev_gt_ii, ev_ge_ii, ev_add_ii, ev_sub_ii, ev_neg_i, ev_int_i, ev_abs_i, ev_len_l, ev_len_t, ev_len_f, ev_idx, mulOk_r, ev_mul_ii, OT.toD, ln]
theorem x_fit (k : Nat) (S X1 w8 : Sl) (ls row : List Int) (b : Int) (TD : D) (hl : ls.length < 1000) (h8 : w8 = .no ∨ ∃ u, w8 = .ow u) : evS (P k) [] p9_7 (RhoW S X1 ls b TD row w8 .no) = .ok (.nx, RhoW S X1 ls b TD row (.ow (.sh (.bl (decide (fits ls row % 2 = b))))) .no) := by
  have e1 := w_lits k S X1 w8 ls row b TD hl
  have e2 := evE_op1 e1 (show Op.ev (.bi .len) [.lst (((ls.filter fun a => decide (a ∈ row)).map D.int).map .sh)] = some (.sh (.int (fits ls row))) by rw [ev_len_l, List.length_map, List.length_map]; rfl)
  have e3 := evE_op1 e2 (ev_int_i _)
  have e4 := evE_op2 e3 (show evE (P k) [] (.c (.int 2)) (RhoW S X1 ls b TD row w8 .no) = .ok (.sh (.int 2), RhoW S X1 ls b TD row w8 .no) by rw [evE]) (ev_mod_ii _ 2 (by omega))
  have e5 : evE (P k) [] (.op (.cmp .eq) (.cons (.e (.op (.bin .mod) (.cons (.e (.op (.bi .int) (.cons (.e (.op (.bi .len) (.cons (.e (.lc p9_5 (.one 11) (.seq (.bor 2 [])) p9_6)) .nil))) .nil))) (.cons (.e (.c (.int 2))) .nil)))) (.cons (.bor 3 []) .nil))) (RhoW S X1 ls b TD row w8 .no) = .ok (.sh (.bl (decide (fits ls row % 2 = b))), RhoW S X1 ls b TD row w8 .no) := by
    rw [evE, evOs, e4]
    clear e1 e2 e3 e4
    generalize fits ls row = n
    unfold RhoW
    generalize rD ls = LD
    generalize rD row = RD
    simp [evOs, CH.R.bind, CH.Env.tree, OT.getP, lock, unlock, ev_eq_ii]
  unfold p9_7
  rcases h8 with rfl | ⟨u, rfl⟩
  · rw [evS_set (u := .sh .non) e5 (.inl rfl) rfl]; rfl
  · rw [evS_set (u := u) e5 (.inr rfl) rfl]; rfl
theorem x_chk (k : Nat) (S X1 : Sl) (ls row : List Int) (b : Int) (ts : List (List Int)) (hl : ts.length < 100000) (hc : ∀ c ∈ ts, c.length < 1000) (q : Bool) (hq : (ts.filter (noneIn row)).isEmpty = q) : evS (P k) [] p9_12 (RhoW S X1 ls b (.tup (ts.map rD)) row (.ow (.sh (.bl q))) .no) = .ok (.nx, RhoW S X1 ls b (.tup (ts.map rD)) row (.ow (.sh (.bl q))) .no) := by
  have e1 := w_told k S X1 (.lk (.sh (.bl q))) ls row b ts hl hc
  have e0 : evE (P k) [] (.lst .nil) (RhoW S X1 ls b (.tup (ts.map rD)) row (.lk (.sh (.bl q))) .no) = .ok (.lst [], RhoW S X1 ls b (.tup (ts.map rD)) row (.lk (.sh (.bl q))) .no) := rfl
  have en := ev_eq_nil (n := 2) (oks_map (f := rD) (n := 2) (fun r => by show oks 1 (r.map D.int) = true; exact oks_ints 1 r) (ts.filter (noneIn row))) (by decide)
  have e2 := evE_op2 e1 e0 en
  have e3 : ((ts.filter (noneIn row)).map rD).isEmpty = q := by rw [← hq]; cases ts.filter (noneIn row) <;> rfl
  rw [e3] at e2
  have hO : evOs (P k) [] (.cons (.e (.op (.cmp .eq) (.cons (.e (.lc p9_8 (.one 10) (.seq (.bor 6 [])) p9_11)) (.cons (.e (.lst .nil)) .nil)))) .nil) (RhoW S X1 ls b (.tup (ts.map rD)) row (.lk (.sh (.bl q))) .no) = .ok ([.sh (.bl q)], RhoW S X1 ls b (.tup (ts.map rD)) row (.lk (.sh (.bl q))) .no) := by
    rw [evOs, e2]; simp only [CH.R.bind, evOs]
  have ht : evT (P k) [] (.val (.e (.op (.cmp .ne) (.cons (.bor 8 []) (.cons (.e (.op (.cmp .eq) (.cons (.e (.lc p9_8 (.one 10) (.seq (.bor 6 [])) p9_11)) (.cons (.e (.lst .nil)) .nil)))) .nil))))) (RhoW S X1 ls b (.tup (ts.map rD)) row (.ow (.sh (.bl q))) .no) = .ok (false, RhoW S X1 ls b (.tup (ts.map rD)) row (.ow (.sh (.bl q))) .no) := by
    clear e0 e1 e2 e3 en
    have nb := ev_ne_bb q
    unfold RhoW at hO ⊢
    generalize (D.tup (ts.map rD)) = TD at hO ⊢
    generalize rD ls = LD at hO ⊢
    generalize rD row = RD at hO ⊢
    simp only [evT, evO, evE]
    rw [evOs]
    simp [CH.Env.tree, OT.getP, lock, unlock, hO, nb, tru_b, CH.R.bind]
  unfold p9_12
  rw [ife_f ht, evSs]
theorem x_turn (k : Nat) (S X1 w8 : Sl) (ls row : List Int) (b : Int) (ts : List (List Int)) (hl : ts.length < 100000) (hc : ∀ c ∈ ts, c.length < 1000) (hl6 : ls.length ≤ 6) (h8 : w8 = .no ∨ ∃ u, w8 = .ow u) (hq : (ts.filter (noneIn row)).isEmpty = decide (fits ls row % 2 = b)) :
    evSs (P k) [] p9_13 (RhoW S X1 ls b (.tup (ts.map rD)) row w8 .no) = .ok (.nx, RhoW S X1 ls b (.tup (ts.map rD)) row (.ow (.sh (.bl (decide (fits ls row % 2 = b))))) .no) := by
  unfold p9_13
  have e4 : evS (P k) [] p9_4 (RhoW S X1 ls b (.tup (ts.map rD)) row w8 .no) = .ok (.nx, RhoW S X1 ls b (.tup (ts.map rD)) row w8 .no) := by
    have := x_len k S X1 w8 ls row b (.tup (ts.map rD))
    rw [decide_eq_false (by omega)] at this
    unfold p9_4
    rw [ife_f this, evSs]
  rw [ss_next e4, ss_next (x_fit k S X1 w8 ls row b _ (by omega) h8), ss_end]
  exact x_chk k S X1 ls row b ts hl hc _ hq
end K70
end
section
namespace K70
open PySem L2 Evl PyProof.Rows CH
theorem x_loop (k : Nat) (S X1 w7 w8 : Sl) (ls : List Int) (b : Int) (ts rows : List (List Int)) (hl : ts.length < 100000) (hc : ∀ c ∈ ts, c.length < 1000) (hl6 : ls.length ≤ 6) (h7 : w7 = .no ∨ ∃ d, w7 = .ow (.sh d)) (h8 : w8 = .no ∨ ∃ u, w8 = .ow u)
    (hq : ∀ row ∈ rows, (ts.filter (noneIn row)).isEmpty = decide (fits ls row % 2 = b)) :
    ∃ w7' w8', (w7' = .no ∨ ∃ d, w7' = .ow (.sh d)) ∧ (w8' = .no ∨ ∃ u, w8' = .ow u) ∧ forL (fun ρ => evSs (P k) [] p9_13 ρ) [] (.one 7) (rows.map rD) [S, X1, .ow (.sh (rD ls)), .ow (.sh (.int b)), .no, .no, .ow (.sh (.tup (ts.map rD))), w7, w8, .no, .no, .no] =
      .ok (.nx, [S, X1, .ow (.sh (rD ls)), .ow (.sh (.int b)), .no, .no, .ow (.sh (.tup (ts.map rD))), w7', w8', .no, .no, .no]) := by
  obtain ⟨ρ', hf, w7', w8', h7', h8', rfl⟩ := forL_inv (body := fun ρ => evSs (P k) [] p9_13 ρ) (pl := []) (tg := .one 7)
    (I := fun _ ρ => ∃ w7 w8, (w7 = .no ∨ ∃ d, w7 = .ow (.sh d)) ∧ (w8 = .no ∨ ∃ u, w8 = .ow u) ∧ ρ = [S, X1, .ow (.sh (rD ls)), .ow (.sh (.int b)), .no, .no, .ow (.sh (.tup (ts.map rD))), w7, w8, .no, .no, .no])
    (rows.map rD) [S, X1, .ow (.sh (rD ls)), .ow (.sh (.int b)), .no, .no, .ow (.sh (.tup (ts.map rD))), w7, w8, .no, .no, .no] ⟨w7, w8, h7, h8, rfl⟩ (fun i d ρ e hI => by
      obtain ⟨w7, w8, h7, h8, rfl⟩ := hI
      obtain ⟨row, e1, rfl⟩ := by rw [List.getElem?_map] at e; exact Option.map_eq_some_iff.mp e
      have tn := x_turn k S X1 w8 ls row b ts hl hc hl6 h8 (hq row (List.mem_of_getElem? e1))
      refine ⟨_, _, ?_, tn, .ow (.sh (rD row)), _, .inr ⟨_, rfl⟩, .inr ⟨_, rfl⟩, rfl⟩
      rcases h7 with rfl | ⟨x, rfl⟩ <;> rfl)
  exact ⟨w7', w8', h7', h8', hf⟩
theorem x_brk (k : Nat) (S X1 w7 w8 : Sl) (ls : List Int) (b : Int) (TD : D) (rows : List (List Int)) (h6 : 6 < ls.length) (h7 : w7 = .no ∨ ∃ d, w7 = .ow (.sh d)) :
    ∃ w7', (w7' = .no ∨ ∃ d, w7' = .ow (.sh d)) ∧ forL (fun ρ => evSs (P k) [] p9_13 ρ) [] (.one 7) (rows.map rD) [S, X1, .ow (.sh (rD ls)), .ow (.sh (.int b)), .no, .no, .ow (.sh TD), w7, w8, .no, .no, .no] =
      .ok (.nx, [S, X1, .ow (.sh (rD ls)), .ow (.sh (.int b)), .no, .no, .ow (.sh TD), w7', w8, .no, .no, .no]) := by
  cases rows with
  | nil => exact ⟨w7, h7, rfl⟩
  | cons row rows =>
    refine ⟨.ow (.sh (rD row)), .inr ⟨_, rfl⟩, ?_⟩
    have s1 : setTg [] (.one 7) (rD row) [S, X1, .ow (.sh (rD ls)), .ow (.sh (.int b)), .no, .no, .ow (.sh TD), w7, w8, .no, .no, .no] = some (RhoW S X1 ls b TD row w8 .no) := by rcases h7 with rfl | ⟨x, rfl⟩ <;> rfl
    have e4 : evSs (P k) [] p9_13 (RhoW S X1 ls b TD row w8 .no) = .ok (.brk, RhoW S X1 ls b TD row w8 .no) := by
      have := x_len k S X1 w8 ls row b TD
      rw [decide_eq_true (by omega)] at this
      unfold p9_13
      rw [evSs]
      have e : evS (P k) [] p9_4 (RhoW S X1 ls b TD row w8 .no) = .ok (.brk, RhoW S X1 ls b TD row w8 .no) := by
        unfold p9_4
        rw [ife_t this, ss_end, evS]
      rw [e]; rfl
    rw [List.map_cons]
    unfold forL
    rw [s1]
    simp only [e4, CH.R.bind]
end K70
end
section
namespace K70
open PySem L2 Evl PyProof.Rows CH
def first7 (ls : List Int) : List Int := CH.cutD ls none (some 7)
theorem first7_len (ls : List Int) : (first7 ls).length ≤ 7 := by
  unfold first7 CH.cutD
  rw [List.length_take]
  have h1 : HT.sIx ls.length ls.length (some 7) ≤ 7 := by simp [HT.sIx]; omega
  omega
theorem first7_all (ls : List Int) (h : ls.length ≤ 6) : first7 ls = ls := by
  unfold first7 CH.cutD
  have h1 : HT.sIx ls.length 0 none = 0 := by simp [HT.sIx]
  have h2 : HT.sIx ls.length ls.length (some 7) = ls.length := by simp [HT.sIx]; omega
  rw [h1, h2, List.drop_zero, Nat.sub_zero, List.take_length]
theorem z_I (k : Nat) (S X1 B T w7 w8 : Sl) (ls : List Int) : evI (P (k + 1)) [] (.seq (.e (.call 5 (.val (.lc p9_2 (.one 9) (.seq (.e (.slc (.bor 2 []) .no (.at (.c (.int 7)))))) p9_3) .nil)))) [S, X1, .ow (.sh (rD ls)), B, .no, .no, T, w7, w8, .no, .no, .no] = .ok ((signsFrom [[]] ((first7 ls).map absI)).map rD, [S, X1, .ow (.sh (rD ls)), B, .no, .no, T, w7, w8, .no, .no, .no]) := by
  obtain ⟨t, ht, hs⟩ := signs_ok k ((first7 ls).map absI) (by rw [List.length_map]; have := first7_len ls; omega)
  have sl : slcEv none (some 7) (.sh (rD ls)) = some (.sh (rD (first7 ls))) := by show some (OT.sh (.tup (CH.cutD (ls.map .int) none (some 7)))) = _; rw [cut_map]; rfl
  have hI : evI (P (k + 1)) [] (.seq (.e (.slc (.bor 2 []) .no (.at (.c (.int 7)))))) [S, X1, .ow (.sh (rD ls)), B, .no, .no, T, w7, w8, .no, .no, .no] = .ok ((first7 ls).map .int, [S, X1, .ow (.sh (rD ls)), B, .no, .no, T, w7, w8, .no, .no, .no]) := by
    have it : OT.items (.sh (rD (first7 ls))) = some ((first7 ls).map .int) := rfl
    generalize rD (first7 ls) = F7 at sl it
    generalize rD ls = LD at sl ⊢
    simp [evI, evE, evB, CH.b2, CH.R.bind, CH.Env.tree, OT.getP, lock, unlock, sl, it]
  have lc := evE_lc (Φ := P (k + 1)) (pl := []) (e := p9_2) (i := 9) (cs := p9_3) (xs := first7 ls) (g := fun a => .int (absI a)) hI rfl (by simp) (by have := first7_len ls; simp only [big]; omega) (fun ρ => by simp [p9_3, evAll]) (fun a _ => by
    generalize rD ls = LD
    simp [p9_2, D.tyName, ev_isi_t, isTy, fillA, backA, goneA, cm_le_ii, cm_lt_ii, getV, Fn.run, evSs, evS, evT, evAll, evAny, evO, evE, evOs, evEs, evAs, evB, evAnd, evOr, CH.R.bind, R.ofO, CH.Env.tree, CH.Env.own, CH.Env.ownL, OT.getP, lock, unlock, outs, tru_b, ev_eq_ii, ev_ne_ii, ev_lt_ii, ev_le_ii, ev_gt_ii, ev_ge_ii, ev_add_ii, ev_sub_ii, ev_neg_i, ev_int_i, ev_abs_i, ev_len_l, ev_len_t, ev_len_f, ev_idx, mulOk_r, ev_mul_ii, OT.toD, absI])
  have e1 : (OT.lst ((first7 ls).map fun a => OT.sh (.int (absI a)))).toD = .lst (((first7 ls).map absI).map .int) := by
    show D.lst (toDs ((first7 ls).map fun a => OT.sh (.int (absI a)))) = _
    rw [toDs_map, List.map_map]; rfl
  rw [evI, evE, evAs, lc]
  simp only [CH.R.bind, evAs, e1, fillA, Option.map_some, hs, backA, goneA]
  rw [ht]
  rfl
end K70
end
section
namespace K70
open PySem L2 Evl PyProof.Rows CH
theorem wts_ints : ∀ ns : List Int, wts (ns.map .int) = 41 * ns.length
  | [] => rfl
  | n :: ns => by rw [List.map_cons, wts, wts_ints ns, List.length_cons]; show 40 + 1 + _ = _; omega
theorem wts_rows {m : Nat} : ∀ ts : List (List Int), (∀ c ∈ ts, c.length ≤ m) → wts (ts.map rD) ≤ ts.length * (41 * m + 1)
  | [], _ => Nat.zero_le _
  | c :: ts, h => by
    have ih := wts_rows ts fun c hc => h c (by simp [hc])
    have h0 := h c (by simp)
    have e : (rD c).wt = 41 * c.length := wts_ints c
    have e2 : (ts.length + 1) * (41 * m + 1) = ts.length * (41 * m + 1) + (41 * m + 1) := Nat.succ_mul _ _
    rw [List.map_cons, wts, e, List.length_cons, e2]
    omega
theorem smalls_ints : ∀ ns : List Int, (∀ a ∈ ns, a.natAbs < 1000000000000) → smalls (ns.map .int) = true
  | [], _ => rfl
  | n :: ns, h => by
    rw [List.map_cons, smalls, smalls_ints ns fun a ha => h a (by simp [ha])]
    simp [D.small, h n (by simp)]
theorem smalls_rows : ∀ ts : List (List Int), (∀ c ∈ ts, ∀ a ∈ c, a.natAbs < 1000000000000) → smalls (ts.map rD) = true
  | [], _ => rfl
  | c :: ts, h => by
    rw [List.map_cons, smalls, smalls_rows ts fun c hc => h c (by simp [hc])]
    have : (rD c).small = true := smalls_ints c (h c (by simp))
    simp [this]
theorem clause_len (ls r : List Int) : (clauseOf ls r).length ≤ ls.length := by unfold clauseOf; rw [List.length_zipWith]; exact Nat.min_le_left _ _
theorem clause_small : ∀ (ls r : List Int), (∀ a ∈ ls, absI a ≤ 12) → ∀ x ∈ clauseOf ls r, x.natAbs < 1000000000000
  | [], _, _, x, hx => by simp [clauseOf] at hx
  | _ :: _, [], _, x, hx => by simp [clauseOf] at hx
  | a :: ls, o :: r, h, x, hx => by
    have h0 := h a (by simp)
    have : x = pick a o ∨ x ∈ clauseOf ls r := by simpa [clauseOf] using hx
    rcases this with rfl | hx
    · unfold absI at h0; unfold pick; split <;> split at h0 <;> omega
    · exact clause_small ls r (fun a ha => h a (by simp [ha])) x hx
theorem told_len (ls : List Int) (b : Int) : (told ls b).length ≤ 2 ^ ls.length := by
  unfold told
  rw [List.length_map, ← rowsB_len]
  exact List.length_filter_le _ _
theorem told_cl (ls : List Int) (b : Int) : ∀ c ∈ told ls b, c.length ≤ ls.length := fun c hc => by
  unfold told at hc
  obtain ⟨r, _, rfl⟩ := List.mem_map.mp hc
  exact clause_len ls r
theorem told_repr (ls : List Int) (b : Int) (hg : Good ls) (hl : ls.length < 10) : ∃ z, ∀ t : OT, t.toD = .tup ((told ls b).map rD) → Op.ev (.bi .repr) [t] = some (.sh (.str z)) := by
  refine repr_ok (n := 3) ?_ (by decide) ?_ ?_ rfl
  · show oks 2 ((told ls b).map rD) = true
    exact oks_map (f := rD) (n := 2) (fun r => by show oks 1 (r.map D.int) = true; exact oks_ints 1 r) _
  · show smalls ((told ls b).map rD) = true
    refine smalls_rows _ fun c hc a ha => ?_
    unfold told at hc
    obtain ⟨r, _, rfl⟩ := List.mem_map.mp hc
    exact clause_small ls r (fun a ha => (hg.2 a ha).2) a ha
  · show wts ((told ls b).map rD) ≤ 1048576
    have h1 := wts_rows (m := 9) (told ls b) fun c hc => by have := told_cl ls b c hc; omega
    have h2 := told_len ls b
    have h3 : 2 ^ ls.length ≤ 2 ^ 9 := Nat.pow_le_pow_right (by decide) (by omega)
    have h4 : (told ls b).length * (41 * 9 + 1) ≤ 512 * 370 := Nat.mul_le_mul (by omega) (by decide)
    omega
end K70
end
section
namespace K70
open PySem L2 Evl PyProof.Rows CH
theorem b_ask (S X1 w6 w7 w8 : Sl) (LD TD : D) (b : Int) (h6 : w6 = .no ∨ ∃ u, w6 = .ow u) (hp : P 18 2 [.sh LD, .sh (.int b)] = .ok (.sh TD, [.sh LD, .sh (.int b)])) :
    evS (P 18) [] p9_0 [S, X1, .ow (.sh LD), .ow (.sh (.int b)), .no, .no, w6, w7, w8, .no, .no, .no] = .ok (.nx, [S, X1, .ow (.sh LD), .ow (.sh (.int b)), .no, .no, .ow (.sh TD), w7, w8, .no, .no, .no]) := by
  rcases h6 with rfl | ⟨u, rfl⟩ <;> simp [p9_0, D.tyName, ev_isi_t, isTy, fillA, backA, goneA, cm_le_ii, cm_lt_ii, getV, Fn.run, evSs, evS, evT, evAll, evAny, evO, evE, evOs, evEs, evAs, evB, evAnd, evOr, CH.R.bind, R.ofO, CH.Env.tree, CH.Env.own, CH.Env.ownL, OT.getP, lock, unlock, outs, tru_b, ev_eq_ii, ev_ne_ii, ev_lt_ii, ev_le_ii, ev_gt_ii, ev_ge_ii, ev_add_ii, ev_sub_ii, ev_neg_i, ev_int_i, ev_abs_i, ev_len_l, ev_len_t, ev_len_f, ev_idx, mulOk_r, ev_mul_ii, OT.toD, hp]
theorem b_same (S X1 w7 w8 : Sl) (LD TD : D) (b : Int) (z : Str) (hz : Op.ev (.bi .repr) [.sh TD] = some (.sh (.str z))) (hd : P 18 7 [.sh LD, .sh (.int b)] = .ok (.sh TD, [.sh LD, .sh (.int b)])) :
    evS (P 18) [] p9_1 [S, X1, .ow (.sh LD), .ow (.sh (.int b)), .no, .no, .ow (.sh TD), w7, w8, .no, .no, .no] = .ok (.nx, [S, X1, .ow (.sh LD), .ow (.sh (.int b)), .no, .no, .ow (.sh TD), w7, w8, .no, .no, .no]) := by
  have hn := ev_ne_ss z
  unfold p9_1
  rw [ife_f (ρ1 := [S, X1, .ow (.sh LD), .ow (.sh (.int b)), .no, .no, .ow (.sh TD), w7, w8, .no, .no, .no]) (by simp [D.tyName, ev_isi_t, isTy, fillA, backA, goneA, cm_le_ii, cm_lt_ii, getV, Fn.run, evSs, evS, evT, evAll, evAny, evO, evE, evOs, evEs, evAs, evB, evAnd, evOr, CH.R.bind, R.ofO, CH.Env.tree, CH.Env.own, CH.Env.ownL, OT.getP, lock, unlock, outs, tru_b, ev_eq_ii, ev_ne_ii, ev_lt_ii, ev_le_ii, ev_gt_ii, ev_ge_ii, ev_add_ii, ev_sub_ii, ev_neg_i, ev_int_i, ev_abs_i, ev_len_l, ev_len_t, ev_len_f, ev_idx, mulOk_r, ev_mul_ii, OT.toD, hz, hd, hn]), evSs]
theorem bit_ok (S X1 w6 w7 w8 : Sl) (ls : List Int) (b : Int) (hg : Good ls) (hl : ls.length < 10) (hb : b = 0 ∨ b = 1) (h6 : w6 = .no ∨ ∃ u, w6 = .ow u) (h7 : w7 = .no ∨ ∃ d, w7 = .ow (.sh d)) (h8 : w8 = .no ∨ ∃ u, w8 = .ow u) :
    ∃ w6' w7' w8', (w6' = .no ∨ ∃ u, w6' = .ow u) ∧ (w7' = .no ∨ ∃ d, w7' = .ow (.sh d)) ∧ (w8' = .no ∨ ∃ u, w8' = .ow u) ∧ evSs (P 18) [] p9_15 [S, X1, .ow (.sh (rD ls)), .ow (.sh (.int b)), .no, .no, w6, w7, w8, .no, .no, .no] = .ok (.nx, [S, X1, .ow (.sh (rD ls)), .ow (.sh (.int b)), .no, .no, w6', w7', w8', .no, .no, .no]) := by
  obtain ⟨z, hz⟩ := told_repr ls b hg hl
  have s0 := b_ask S X1 w6 w7 w8 (rD ls) _ b h6 (parity_ok 15 ls b hg hl hb)
  have s1 := b_same S X1 w7 w8 (rD ls) _ b z (hz _ rfl) (due_ok 17 ls b hl)
  have hI := z_I 17 S X1 (.ow (.sh (.int b))) (.ow (.sh (.tup ((told ls b).map rD)))) w7 w8 ls
  have hlp : ∃ w7' w8', (w7' = .no ∨ ∃ d, w7' = .ow (.sh d)) ∧ (w8' = .no ∨ ∃ u, w8' = .ow u) ∧ forL (fun ρ => evSs (P 18) [] p9_13 ρ) [] (.one 7) ((signsFrom [[]] ((first7 ls).map absI)).map rD) [S, X1, .ow (.sh (rD ls)), .ow (.sh (.int b)), .no, .no, .ow (.sh (.tup ((told ls b).map rD))), w7, w8, .no, .no, .no] = .ok (.nx, [S, X1, .ow (.sh (rD ls)), .ow (.sh (.int b)), .no, .no, .ow (.sh (.tup ((told ls b).map rD))), w7', w8', .no, .no, .no]) := by
    by_cases h : ls.length ≤ 6
    · have hp : 2 ^ ls.length ≤ 2 ^ 9 := Nat.pow_le_pow_right (by decide) (by omega)
      refine x_loop 18 S X1 w7 w8 ls b (told ls b) _ (by have := told_len ls b; omega) (fun c hc => by have := told_cl ls b c hc; omega) h h7 h8 fun row hr => ?_
      rw [first7_all ls h] at hr
      exact told_row ls row b hg (signs_signRow (ls.map absI) [] [[]] (by simp [SignRow]) row hr)
    · obtain ⟨w7', h7', e⟩ := x_brk 18 S X1 w7 w8 ls b (.tup ((told ls b).map rD)) (signsFrom [[]] ((first7 ls).map absI)) (by omega) h7
      exact ⟨w7', w8, h7', h8, e⟩
  obtain ⟨w7', w8', h7', h8', hf⟩ := hlp
  refine ⟨.ow (.sh (.tup ((told ls b).map rD))), w7', w8', .inr ⟨_, rfl⟩, h7', h8', ?_⟩
  unfold p9_15
  rw [ss_next s0, ss_next s1, ss_end]
  unfold p9_14
  rw [evS, hI]
  simp only [CH.R.bind]
  rw [hf]
  rfl
end K70
end
section
namespace K70
open PySem L2 Evl PyProof.Rows CH
theorem num_repr : ∀ d ∈ bads, ∃ z, ∀ t : OT, t.toD = .tup [.str "number", d] → Op.ev (.bi .repr) [t] = some (.sh (.str z)) := by
  intro d hd
  simp only [bads, List.mem_cons, List.not_mem_nil, or_false] at hd
  rcases hd with rfl | rfl | rfl | rfl | rfl | rfl | rfl | rfl | rfl <;> exact repr_ok (n := 3) (by decide +kernel) (by decide) (by decide +kernel) (by decide +kernel) rfl
theorem lit_repr : ∀ d ∈ odds, ∃ z, ∀ t : OT, t.toD = .tup [.str "literals", d] → Op.ev (.bi .repr) [t] = some (.sh (.str z)) := by
  intro d hd
  simp only [odds, List.mem_cons, List.not_mem_nil, or_false] at hd
  rcases hd with rfl | rfl | rfl | rfl | rfl | rfl | rfl | rfl | rfl | rfl | rfl | rfl | rfl | rfl | rfl <;> exact repr_ok (n := 3) (by decide +kernel) (by decide) (by decide +kernel) (by decide +kernel) rfl
theorem pick_M (i : Int) (h0 : 0 ≤ i) (h1 : i < 4) : ∃ M : Nat, M < 10 ∧ idxEv (.lst [.sh (.int 6), .sh (.int 6), .sh (.int 3), .sh (.int 9)]) i = some (.sh (.int (M : Int))) := by
  have : i = 0 ∨ i = 1 ∨ i = 2 ∨ i = 3 := by omega
  rcases this with rfl | rfl | rfl | rfl
  · exact ⟨6, by decide, rfl⟩
  · exact ⟨6, by decide, rfl⟩
  · exact ⟨3, by decide, rfl⟩
  · exact ⟨9, by decide, rfl⟩
theorem pick_bad (i : Int) (h0 : 0 ≤ i) (h1 : i < 9) : ∃ d ∈ bads, idxEv (.lst (bads.map .sh)) i = some (.sh d) := by
  have : i = 0 ∨ i = 1 ∨ i = 2 ∨ i = 3 ∨ i = 4 ∨ i = 5 ∨ i = 6 ∨ i = 7 ∨ i = 8 := by omega
  rcases this with rfl | rfl | rfl | rfl | rfl | rfl | rfl | rfl | rfl <;> exact ⟨_, by simp [bads], rfl⟩
theorem pick_odd (i : Int) (h0 : 0 ≤ i) (h1 : i < 15) : ∃ d ∈ odds, idxEv (.sh (.lst odds)) i = some (.sh d) := by
  have : i = 0 ∨ i = 1 ∨ i = 2 ∨ i = 3 ∨ i = 4 ∨ i = 5 ∨ i = 6 ∨ i = 7 ∨ i = 8 ∨ i = 9 ∨ i = 10 ∨ i = 11 ∨ i = 12 ∨ i = 13 ∨ i = 14 := by omega
  rcases this with rfl | rfl | rfl | rfl | rfl | rfl | rfl | rfl | rfl | rfl | rfl | rfl | rfl | rfl | rfl <;> exact ⟨_, by simp [odds], rfl⟩
end K70
end
section
namespace K70
open PySem L2 Evl PyProof.Rows CH
abbrev RhoF (F : D) (a1 a2 a3 a4 a5 a6 a7 a8 : Sl) : CH.Env := [.ow (.sh F), a1, a2, a3, a4, a5, a6, a7, a8, .no, .no, .no]
theorem f_0 (F : D) (c : Int) (X : OT) (hc : P 18 3 [.sh F, .sh (.int 0)] = .ok (.sh (.int c), [.sh F, .sh (.int 0)])) (hd : P 18 4 [.sh (.int c), .sh (.lst [.int 2, .int 9, .int 15, .int 4])] = .ok (X, [.sh (.int c), .sh (.lst [.int 2, .int 9, .int 15, .int 4])])) :
    evS (P 18) [] q9_0 (RhoF F .no .no .no .no .no .no .no .no) = .ok (.nx, RhoF F (.ow X) .no .no .no .no .no .no .no) := by
  have hb4 : 4 ≤ big := by decide
  simp [q9_0, D.tyName, ev_isi_t, isTy, fillA, backA, goneA, cm_le_ii, cm_lt_ii, getV, Fn.run, evSs, evS, evT, evAll, evAny, evO, evE, evOs, evEs, evAs, evB, evAnd, evOr, CH.R.bind, R.ofO, CH.Env.tree, CH.Env.own, CH.Env.ownL, OT.getP, lock, unlock, outs, tru_b, ev_eq_ii, ev_ne_ii, ev_lt_ii, ev_le_ii, ev_gt_ii, ev_ge_ii, ev_add_ii, ev_sub_ii, ev_neg_i, ev_int_i, ev_abs_i, ev_len_l, ev_len_t, ev_len_f, ev_idx, mulOk_r, ev_mul_ii, OT.toD, toDs, hc, hd, hb4]
theorem f_1 (F L : D) (c M i : Int) (X : OT) (x3 : idxEv X 3 = some (.sh (.int i))) (pm : idxEv (.lst [.sh (.int 6), .sh (.int 6), .sh (.int 3), .sh (.int 9)]) i = some (.sh (.int M))) (hc : P 18 3 [.sh F, .sh (.int 1)] = .ok (.sh (.int c), [.sh F, .sh (.int 1)])) (hl : P 18 6 [.sh (.int c), .sh (.int M), .sh (.int 12)] = .ok (.sh L, [.sh (.int c), .sh (.int M), .sh (.int 12)])) :
    evS (P 18) [] q9_1 (RhoF F (.ow X) .no .no .no .no .no .no .no) = .ok (.nx, RhoF F (.ow X) (.ow (.sh L)) .no .no .no .no .no .no) := by
  have hb4 : 4 ≤ big := by decide
  simp [q9_1, D.tyName, ev_isi_t, isTy, fillA, backA, goneA, cm_le_ii, cm_lt_ii, getV, Fn.run, evSs, evS, evT, evAll, evAny, evO, evE, evOs, evEs, evAs, evB, evAnd, evOr, CH.R.bind, R.ofO, CH.Env.tree, CH.Env.own, CH.Env.ownL, OT.getP, lock, unlock, outs, tru_b, ev_eq_ii, ev_ne_ii, ev_lt_ii, ev_le_ii, ev_gt_ii, ev_ge_ii, ev_add_ii, ev_sub_ii, ev_neg_i, ev_int_i, ev_abs_i, ev_len_l, ev_len_t, ev_len_f, ev_idx, mulOk_r, ev_mul_ii, OT.toD, toDs, hc, hl, hb4, x3, pm]
theorem f_3 (F L d : D) (i : Int) (X : OT) (a3 a6 a7 a8 : Sl) (x1 : idxEv X 1 = some (.sh (.int i))) (pb : idxEv (.lst (bads.map .sh)) i = some (.sh d)) :
    evS (P 18) [] q9_3 (RhoF F (.ow X) (.ow (.sh L)) a3 .no .no a6 a7 a8) = .ok (.nx, RhoF F (.ow X) (.ow (.sh L)) a3 (.ow (.sh d)) .no a6 a7 a8) := by
  have hb : 9 ≤ big := by decide
  have hb1 : 1 ≤ big := by decide
  have pw : Op.ev (.bin .pow) [.sh (.int 10), .sh (.int 9)] = some (.sh (.int 1000000000)) := ev_pow_10 9 (by decide)
  simp only [bads, List.map_cons, List.map_nil] at pb
  simp [q9_3, D.tyName, ev_isi_t, isTy, fillA, backA, goneA, cm_le_ii, cm_lt_ii, getV, Fn.run, evSs, evS, evT, evAll, evAny, evO, evE, evOs, evEs, evAs, evB, evAnd, evOr, CH.R.bind, R.ofO, CH.Env.tree, CH.Env.own, CH.Env.ownL, OT.getP, lock, unlock, outs, tru_b, ev_eq_ii, ev_ne_ii, ev_lt_ii, ev_le_ii, ev_gt_ii, ev_ge_ii, ev_add_ii, ev_sub_ii, ev_neg_i, ev_int_i, ev_abs_i, ev_len_l, ev_len_t, ev_len_f, ev_idx, mulOk_r, ev_mul_ii, OT.toD, toDs, hb, hb1, pw, x1, pb]
end K70
end
section
namespace K70
open PySem L2 Evl PyProof.Rows CH
theorem f_4 (F L d o : D) (i : Int) (X : OT) (a3 a6 a7 a8 : Sl) (x2 : idxEv X 2 = some (.sh (.int i))) (pb : idxEv (.sh (.lst odds)) i = some (.sh o)) :
    evS (P 18) [] q9_4 (RhoF F (.ow X) (.ow (.sh L)) a3 (.ow (.sh d)) .no a6 a7 a8) = .ok (.nx, RhoF F (.ow X) (.ow (.sh L)) a3 (.ow (.sh d)) (.ow (.sh o)) a6 a7 a8) := by
  have hb : 15 ≤ big := by decide
  have hb1 : 1 ≤ big := by decide
  have hb2 : 2 ≤ big := by decide
  have hb3 : 3 ≤ big := by decide
  simp only [odds] at pb
  simp [q9_4, D.tyName, ev_isi_t, isTy, fillA, backA, goneA, cm_le_ii, cm_lt_ii, getV, Fn.run, evSs, evS, evT, evAll, evAny, evO, evE, evOs, evEs, evAs, evB, evAnd, evOr, CH.R.bind, R.ofO, CH.Env.tree, CH.Env.own, CH.Env.ownL, OT.getP, lock, unlock, outs, tru_b, ev_eq_ii, ev_ne_ii, ev_lt_ii, ev_le_ii, ev_gt_ii, ev_ge_ii, ev_add_ii, ev_sub_ii, ev_neg_i, ev_int_i, ev_abs_i, ev_len_l, ev_len_t, ev_len_f, ev_idx, mulOk_r, ev_mul_ii, OT.toD, toDs, hb, hb1, hb2, hb3, x2, pb]
theorem f_5 (F L d o : D) (X : OT) (a3 a6 a7 a8 : Sl) (z : Str) (hr : P 18 8 [.sh L, .sh d] = .ok (.sh (.tup [.str "number", d]), [.sh L, .sh d])) (hz : ∀ t : OT, t.toD = .tup [.str "number", d] → Op.ev (.bi .repr) [t] = some (.sh (.str z))) :
    evS (P 18) [] q9_5 (RhoF F (.ow X) (.ow (.sh L)) a3 (.ow (.sh d)) (.ow (.sh o)) a6 a7 a8) = .ok (.nx, RhoF F (.ow X) (.ow (.sh L)) a3 (.ow (.sh d)) (.ow (.sh o)) a6 a7 a8) := by
  have hb2 : 2 ≤ big := by decide
  have h1 := hz (.sh (.tup [.str "number", d])) rfl
  have hn := ev_ne_ss z
  unfold q9_5
  rw [ife_f (ρ1 := RhoF F (.ow X) (.ow (.sh L)) a3 (.ow (.sh d)) (.ow (.sh o)) a6 a7 a8) (by simp [D.tyName, ev_isi_t, isTy, fillA, backA, goneA, cm_le_ii, cm_lt_ii, getV, Fn.run, evSs, evS, evT, evAll, evAny, evO, evE, evOs, evEs, evAs, evB, evAnd, evOr, CH.R.bind, R.ofO, CH.Env.tree, CH.Env.own, CH.Env.ownL, OT.getP, lock, unlock, outs, tru_b, ev_eq_ii, ev_ne_ii, ev_lt_ii, ev_le_ii, ev_gt_ii, ev_ge_ii, ev_add_ii, ev_sub_ii, ev_neg_i, ev_int_i, ev_abs_i, ev_len_l, ev_len_t, ev_len_f, ev_idx, mulOk_r, ev_mul_ii, OT.toD, toDs, hb2, h1, hr, hn]), evSs]
theorem f_6 (F L d o : D) (X : OT) (a3 a6 a7 a8 : Sl) (z : Str) (hr : ∀ e, P 18 8 [.sh o, .sh e] = .ok (.sh (.tup [.str "literals", o]), [.sh o, .sh e])) (hz : ∀ t : OT, t.toD = .tup [.str "literals", o] → Op.ev (.bi .repr) [t] = some (.sh (.str z))) :
    evS (P 18) [] q9_6 (RhoF F (.ow X) (.ow (.sh L)) a3 (.ow (.sh d)) (.ow (.sh o)) a6 a7 a8) = .ok (.rt (.sh (.bl true)), RhoF F (.ow X) (.ow (.sh L)) a3 (.ow (.sh d)) (.ow (.sh o)) a6 a7 a8) := by
  have hb2 : 2 ≤ big := by decide
  have h1 := hz (.sh (.tup [.str "literals", o])) rfl
  have hn := ev_eq_ss z
  simp [q9_6, D.tyName, ev_isi_t, isTy, fillA, backA, goneA, cm_le_ii, cm_lt_ii, getV, Fn.run, evSs, evS, evT, evAll, evAny, evO, evE, evOs, evEs, evAs, evB, evAnd, evOr, CH.R.bind, R.ofO, CH.Env.tree, CH.Env.own, CH.Env.ownL, OT.getP, lock, unlock, outs, tru_b, ev_eq_ii, ev_ne_ii, ev_lt_ii, ev_le_ii, ev_gt_ii, ev_ge_ii, ev_add_ii, ev_sub_ii, ev_neg_i, ev_int_i, ev_abs_i, ev_len_l, ev_len_t, ev_len_f, ev_idx, mulOk_r, ev_mul_ii, OT.toD, toDs, hb2, h1, hr, hn]
end K70
end
section
namespace K70
open PySem L2 Evl PyProof.Rows CH
theorem f_2 (F : D) (ls : List Int) (b : Int) (X : OT) (hg : Good ls) (hl : ls.length < 10) (hb : b = 0 ∨ b = 1) (x0 : idxEv X 0 = some (.sh (.int b))) :
    ∃ a3 a6 a7 a8, evS (P 18) [] q9_2 (RhoF F (.ow X) (.ow (.sh (rD ls))) .no .no .no .no .no .no) = .ok (.nx, RhoF F (.ow X) (.ow (.sh (rD ls))) a3 .no .no a6 a7 a8) := by
  have hI : evI (P 18) [] (.seq (.e (.lst (.cons (.op .idx (.cons (.bor 1 []) (.cons (.e (.c (.int 0))) .nil))) (.cons (.op (.bin .sub) (.cons (.e (.c (.int 1))) (.cons (.e (.op .idx (.cons (.bor 1 []) (.cons (.e (.c (.int 0))) .nil)))) .nil))) .nil))))) (RhoF F (.ow X) (.ow (.sh (rD ls))) .no .no .no .no .no .no) = .ok ([b, 1 - b].map .int, RhoF F (.ow X) (.ow (.sh (rD ls))) .no .no .no .no .no .no) := by
    have hb2 : 2 ≤ big := by decide
    generalize rD ls = LD
    simp [evI, D.tyName, ev_isi_t, isTy, fillA, backA, goneA, cm_le_ii, cm_lt_ii, getV, Fn.run, evSs, evS, evT, evAll, evAny, evO, evE, evOs, evEs, evAs, evB, evAnd, evOr, CH.R.bind, R.ofO, CH.Env.tree, CH.Env.own, CH.Env.ownL, OT.getP, lock, unlock, outs, tru_b, ev_eq_ii, ev_ne_ii, ev_lt_ii, ev_le_ii, ev_gt_ii, ev_ge_ii, ev_add_ii, ev_sub_ii, ev_neg_i, ev_int_i, ev_abs_i, ev_len_l, ev_len_t, ev_len_f, ev_idx, mulOk_r, ev_mul_ii, OT.toD, OT.items, leaves, x0, hb2]
  obtain ⟨ρ', hf, a3, a6, a7, a8, _, _, _, _, rfl⟩ := forL_inv (body := fun ρ => evSs (P 18) [] p9_15 ρ) (pl := []) (tg := .one 3)
    (I := fun _ ρ => ∃ a3 a6 a7 a8, (a3 = .no ∨ ∃ d, a3 = .ow (.sh d)) ∧ (a6 = .no ∨ ∃ u, a6 = .ow u) ∧ (a7 = .no ∨ ∃ d, a7 = .ow (.sh d)) ∧ (a8 = .no ∨ ∃ u, a8 = .ow u) ∧ ρ = RhoF F (.ow X) (.ow (.sh (rD ls))) a3 .no .no a6 a7 a8)
    ([b, 1 - b].map .int) (RhoF F (.ow X) (.ow (.sh (rD ls))) .no .no .no .no .no .no) ⟨.no, .no, .no, .no, .inl rfl, .inl rfl, .inl rfl, .inl rfl, rfl⟩ (fun i d ρ e hI => by
      obtain ⟨a3, a6, a7, a8, h3, h6, h7, h8, rfl⟩ := hI
      obtain ⟨c, e1, rfl⟩ := by rw [List.getElem?_map] at e; exact Option.map_eq_some_iff.mp e
      have hc : c = 0 ∨ c = 1 := by
        have := List.mem_of_getElem? e1
        simp at this
        omega
      obtain ⟨w6, w7, w8, h6', h7', h8', tn⟩ := bit_ok (.ow (.sh F)) (.ow X) a6 a7 a8 ls c hg hl hc h6 h7 h8
      refine ⟨RhoF F (.ow X) (.ow (.sh (rD ls))) (.ow (.sh (.int c))) .no .no a6 a7 a8, _, ?_, tn, _, w6, w7, w8, .inr ⟨_, rfl⟩, h6', h7', h8', rfl⟩
      rcases h3 with rfl | ⟨x, rfl⟩ <;> rfl)
  refine ⟨a3, a6, a7, a8, ?_⟩
  unfold q9_2
  rw [evS, hI]
  simp only [CH.R.bind, hf]
  rfl
end K70
end
section
namespace K70
open PySem L2 Evl PyProof.Rows CH
theorem law_run (ns : List Int) : P 19 9 [.sh (.flst (ns.map .int))] = .ok (.sh (.bl true), [.sh (.flst (ns.map .int))]) := by
  rw [step 18 9 _ f9 t9]
  obtain ⟨c0, hc0⟩ := cell_eq 17 ns 0
  obtain ⟨c1, hc1⟩ := cell_eq 17 ns 1
  obtain ⟨xs, hw, hd⟩ := draws_eq 17 c0 [2, 9, 15, 4] (by decide) (by decide)
  have l4 : xs.length = 4 := hw.1
  have w0 := hw.2 0 (by decide)
  have w1 := hw.2 1 (by decide)
  have w2 := hw.2 2 (by decide)
  have w3 := hw.2 3 (by decide)
  simp only [List.getD_cons_zero, List.getD_cons_succ] at w0 w1 w2 w3
  have x0 := idx_ow xs 0 (by omega)
  have x1 := idx_ow xs 1 (by omega)
  have x2 := idx_ow xs 2 (by omega)
  have x3 := idx_ow xs 3 (by omega)
  obtain ⟨M, hM, pm⟩ := pick_M _ w3.1 w3.2
  obtain ⟨d, hdm, pb⟩ := pick_bad _ w1.1 w1.2
  obtain ⟨o, hom, po⟩ := pick_odd _ w2.1 w2.2
  obtain ⟨ls, hg, hlM, hL⟩ := lits_eq 16 c1 M hM
  have hl : ls.length < 10 := by omega
  obtain ⟨z1, hz1⟩ := num_repr d hdm
  obtain ⟨z2, hz2⟩ := lit_repr o hom
  have s0 := f_0 _ c0 _ hc0 hd
  have s1 := f_1 _ _ c1 M _ _ x3 pm hc1 hL
  obtain ⟨a3, a6, a7, a8, s2⟩ := f_2 (.flst (ns.map .int)) ls _ (.lst (xs.map iT)) hg hl (by omega) x0
  have s3 := f_3 (.flst (ns.map .int)) (rD ls) d _ (.lst (xs.map iT)) a3 a6 a7 a8 x1 pb
  have s4 := f_4 (.flst (ns.map .int)) (rD ls) d o _ (.lst (xs.map iT)) a3 a6 a7 a8 x2 po
  have s5 := f_5 (.flst (ns.map .int)) (rD ls) d o (.lst (xs.map iT)) a3 a6 a7 a8 z1 (refused_num ls d hg hl hdm) hz1
  have s6 := f_6 (.flst (ns.map .int)) (rD ls) d o (.lst (xs.map iT)) a3 a6 a7 a8 z2 (fun e => refused_lit o e hom) hz2
  refine run_rt (ρ := RhoF (.flst (ns.map .int)) (.ow (.lst (xs.map iT))) (.ow (.sh (rD ls))) a3 (.ow (.sh d)) (.ow (.sh o)) a6 a7 a8) rfl ?_ rfl
  show evSs (P 18) [] b9 (RhoF (.flst (ns.map .int)) .no .no .no .no .no .no .no .no) = _
  unfold b9
  rw [ss_next s0, ss_next s1, ss_next s2, ss_next s3, ss_next s4, ss_next s5]
  exact ss_stop s6
theorem hrun : ∀ ns : List Int, ns.length ≤ 63 → ∃ ws, runD (tbOf ents) 19 9 [.sh (.flst (ns.map .int))] = .ok (.sh (.bl true), ws) := fun ns _ => ⟨_, law_run ns⟩
end K70
end
namespace K70
section
open PySem L2 Evl PyProof.Rows CH
theorem ok0 : e0.ok bns (nmOf ents) (arOf ents) dcs exs = true := by decide +kernel
theorem ok1 : e1.ok bns (nmOf ents) (arOf ents) dcs exs = true := by decide +kernel
theorem ok2 : e2.ok bns (nmOf ents) (arOf ents) dcs exs = true := by decide +kernel
theorem ok3 : e3.ok bns (nmOf ents) (arOf ents) dcs exs = true := by decide +kernel
theorem ok4 : e4.ok bns (nmOf ents) (arOf ents) dcs exs = true := by decide +kernel
theorem ok5 : e5.ok bns (nmOf ents) (arOf ents) dcs exs = true := by decide +kernel
theorem ok6 : e6.ok bns (nmOf ents) (arOf ents) dcs exs = true := by decide +kernel
theorem ok7 : e7.ok bns (nmOf ents) (arOf ents) dcs exs = true := by decide +kernel
theorem ok8 : e8.ok bns (nmOf ents) (arOf ents) dcs exs = true := by decide +kernel
theorem ok9 : e9.ok bns (nmOf ents) (arOf ents) dcs exs = true := by decide +kernel
theorem oks : ∀ e ∈ ents, e.ok bns (nmOf ents) (arOf ents) dcs exs = true := by
  have h : ∀ e, e ∈ ents ↔ e ∈ [e0, e1, e2, e3, e4, e5, e6, e7, e8, e9] := fun e => Iff.rfl
  intro e he
  rw [h] at he
  simp only [List.mem_cons, List.not_mem_nil, or_false] at he
  rcases he with rfl | rfl | rfl | rfl | rfl | rfl | rfl | rfl | rfl | rfl
  · exact ok0
  · exact ok1
  · exact ok2
  · exact ok3
  · exact ok4
  · exact ok5
  · exact ok6
  · exact ok7
  · exact ok8
  · exact ok9
theorem top_mk {K : PySem.W.Frag} {w : World} {h : Heap} {mg : Str → Option Value} (X : K.In h) (G : h.Ns mainGlobals mg)
    {g0 : Addr} {od0 an0 : Option Addr} {sl0 : Array (Option Value)} {oc0 kV0 dc0 pm0 cd0 ct0 : Value}
    {g1 : Addr} {od1 an1 : Option Addr} {sl1 : Array (Option Value)} {oc1 kV1 dc1 pm1 cd1 ct1 : Value}
    {g2 : Addr} {od2 an2 : Option Addr} {sl2 : Array (Option Value)} {oc2 kV2 dc2 pm2 cd2 ct2 : Value}
    {g3 : Addr} {od3 an3 : Option Addr} {sl3 : Array (Option Value)} {oc3 kV3 dc3 pm3 cd3 ct3 : Value}
    {g4 : Addr} {od4 an4 : Option Addr} {sl4 : Array (Option Value)} {oc4 kV4 dc4 pm4 cd4 ct4 : Value}
    {g5 : Addr} {od5 an5 : Option Addr} {sl5 : Array (Option Value)} {oc5 kV5 dc5 pm5 cd5 ct5 : Value}
    {g6 : Addr} {od6 an6 : Option Addr} {sl6 : Array (Option Value)} {oc6 kV6 dc6 pm6 cd6 ct6 : Value}
    {g7 : Addr} {od7 an7 : Option Addr} {sl7 : Array (Option Value)} {oc7 kV7 dc7 pm7 cd7 ct7 : Value}
    {g8 : Addr} {od8 an8 : Option Addr} {sl8 : Array (Option Value)} {oc8 kV8 dc8 pm8 cd8 ct8 : Value}
    {g9 : Addr} {od9 an9 : Option Addr} {sl9 : Array (Option Value)} {oc9 kV9 dc9 pm9 cd9 ct9 : Value}
    (a0 : PySem.W.nsIn K mainGlobals e0.name = some (some (.ref g0))) (l0 : K.lookup g0 = some ⟨oc0, od0, .func (PySem.W.fnOf e0.name e0.name (defArgs e0.st) (defBody e0.st) (defScope e0.st) .none kV0 dc0 pm0 an0 cd0 ct0), sl0⟩) (c0 : PySem.W.codeIn K cd0 e0.name = true) (k0 : PySem.W.keepIn K (.ref g0) = true)
    (a1 : PySem.W.nsIn K mainGlobals e1.name = some (some (.ref g1))) (l1 : K.lookup g1 = some ⟨oc1, od1, .func (PySem.W.fnOf e1.name e1.name (defArgs e1.st) (defBody e1.st) (defScope e1.st) .none kV1 dc1 pm1 an1 cd1 ct1), sl1⟩) (c1 : PySem.W.codeIn K cd1 e1.name = true) (k1 : PySem.W.keepIn K (.ref g1) = true)
    (a2 : PySem.W.nsIn K mainGlobals e2.name = some (some (.ref g2))) (l2 : K.lookup g2 = some ⟨oc2, od2, .func (PySem.W.fnOf e2.name e2.name (defArgs e2.st) (defBody e2.st) (defScope e2.st) .none kV2 dc2 pm2 an2 cd2 ct2), sl2⟩) (c2 : PySem.W.codeIn K cd2 e2.name = true) (k2 : PySem.W.keepIn K (.ref g2) = true)
    (a3 : PySem.W.nsIn K mainGlobals e3.name = some (some (.ref g3))) (l3 : K.lookup g3 = some ⟨oc3, od3, .func (PySem.W.fnOf e3.name e3.name (defArgs e3.st) (defBody e3.st) (defScope e3.st) .none kV3 dc3 pm3 an3 cd3 ct3), sl3⟩) (c3 : PySem.W.codeIn K cd3 e3.name = true) (k3 : PySem.W.keepIn K (.ref g3) = true)
    (a4 : PySem.W.nsIn K mainGlobals e4.name = some (some (.ref g4))) (l4 : K.lookup g4 = some ⟨oc4, od4, .func (PySem.W.fnOf e4.name e4.name (defArgs e4.st) (defBody e4.st) (defScope e4.st) .none kV4 dc4 pm4 an4 cd4 ct4), sl4⟩) (c4 : PySem.W.codeIn K cd4 e4.name = true) (k4 : PySem.W.keepIn K (.ref g4) = true)
    (a5 : PySem.W.nsIn K mainGlobals e5.name = some (some (.ref g5))) (l5 : K.lookup g5 = some ⟨oc5, od5, .func (PySem.W.fnOf e5.name e5.name (defArgs e5.st) (defBody e5.st) (defScope e5.st) .none kV5 dc5 pm5 an5 cd5 ct5), sl5⟩) (c5 : PySem.W.codeIn K cd5 e5.name = true) (k5 : PySem.W.keepIn K (.ref g5) = true)
    (a6 : PySem.W.nsIn K mainGlobals e6.name = some (some (.ref g6))) (l6 : K.lookup g6 = some ⟨oc6, od6, .func (PySem.W.fnOf e6.name e6.name (defArgs e6.st) (defBody e6.st) (defScope e6.st) .none kV6 dc6 pm6 an6 cd6 ct6), sl6⟩) (c6 : PySem.W.codeIn K cd6 e6.name = true) (k6 : PySem.W.keepIn K (.ref g6) = true)
    (a7 : PySem.W.nsIn K mainGlobals e7.name = some (some (.ref g7))) (l7 : K.lookup g7 = some ⟨oc7, od7, .func (PySem.W.fnOf e7.name e7.name (defArgs e7.st) (defBody e7.st) (defScope e7.st) .none kV7 dc7 pm7 an7 cd7 ct7), sl7⟩) (c7 : PySem.W.codeIn K cd7 e7.name = true) (k7 : PySem.W.keepIn K (.ref g7) = true)
    (a8 : PySem.W.nsIn K mainGlobals e8.name = some (some (.ref g8))) (l8 : K.lookup g8 = some ⟨oc8, od8, .func (PySem.W.fnOf e8.name e8.name (defArgs e8.st) (defBody e8.st) (defScope e8.st) .none kV8 dc8 pm8 an8 cd8 ct8), sl8⟩) (c8 : PySem.W.codeIn K cd8 e8.name = true) (k8 : PySem.W.keepIn K (.ref g8) = true)
    (a9 : PySem.W.nsIn K mainGlobals e9.name = some (some (.ref g9))) (l9 : K.lookup g9 = some ⟨oc9, od9, .func (PySem.W.fnOf e9.name e9.name (defArgs e9.st) (defBody e9.st) (defScope e9.st) .none kV9 dc9 pm9 an9 cd9 ct9), sl9⟩) (c9 : PySem.W.codeIn K cd9 e9.name = true) (k9 : PySem.W.keepIn K (.ref g9) = true)
    (z0 : PySem.W.nsIn K mainGlobals "abs" = some none)
    (z1 : PySem.W.nsIn K mainGlobals "all" = some none)
    (z2 : PySem.W.nsIn K mainGlobals "bool" = some none)
    (z3 : PySem.W.nsIn K mainGlobals "int" = some none)
    (z4 : PySem.W.nsIn K mainGlobals "isinstance" = some none)
    (z5 : PySem.W.nsIn K mainGlobals "len" = some none)
    (z6 : PySem.W.nsIn K mainGlobals "range" = some none)
    (z7 : PySem.W.nsIn K mainGlobals "repr" = some none)
    (z8 : PySem.W.nsIn K mainGlobals "sum" = some none)
    (z9 : PySem.W.nsIn K mainGlobals "tuple" = some none)
    (z10 : PySem.W.nsIn K mainGlobals "zip" = some none)
    (noS : PySem.W.nsIn K mainGlobals "super" = some none) (opq : PySem.W.nsIn K cStatics "thirdparty.any" = some none)
    {C0 fI0 : Addr} (n_0 : PySem.W.nsIn K mainGlobals "InvalidNumber" = some (some (.ref C0)))
    {nm0 q0 : Str} {N0 : Addr} {bs0 bm0 : List Value} {sn0 : List Str} {sub0 : List Value} {ab0 : Bool} {col0 : Option Bool} {dd0 : Option Addr} {ka0 kb0 kc0 kd0 ke0 : Option Value}
    (cl0 : K.lookup C0 = some (excClassObj nm0 q0 C0 N0 bs0 bm0 true sn0 sub0 ab0 col0 dd0 ka0 kb0 kc0 kd0 ke0 "ValueError.__new__")) (rv0 : PySem.HandSPX.refsVE bm0 = true)
    (sa0 : PySem.W.findIn K (.ref C0) "__setattr__" = some (some (.builtin "object.__setattr__"))) (ga0 : PySem.W.findIn K (.ref C0) "__getattribute__" = some (some (.builtin "BaseException.__getattribute__"))) (gg0 : PySem.W.findIn K (.ref C0) "__getattr__" = some none)
    (no0_0 : PySem.W.findIn K (.ref C0) "value" = some none)
    (iC0 : PySem.W.findIn K (.ref C0) "__init__" = some (some (.ref fI0))) (tC0 : PySem.W.typeIn K (.ref fI0) = some (.type "function")) (kC0 : PySem.W.keepIn K (.ref C0) = true)
    (exC0 : PySem.W.subIn K (.ref C0) (.type "BaseException") = some true) (veC0 : PySem.W.subIn K (.ref C0) (.type "ValueError") = some true) (tyC0 : PySem.W.typeIn K (.ref C0) = some (.type "type")) (hdC0 : PySem.W.hasDictIn K C0 = true)
    (sup0 : PySem.W.ks_superIn K C0 C0 "__init__" = some (some (.builtin "ValueError.__init__"))) (meC0 : PySem.W.mroIn K C0 (.ref C0) = some true)
    {oc_0 : Value} {od_0 : Option Addr} {doc0 pm_0 : Value} {an_0 : Option Addr} {cda0 cc0 : Addr} {ct_0 : Value} {osl0 : Array (Option Value)} {qual0 : Str} {params0 : Arguments} {body0 : List Stmt} {scope0 : Scope}
    (lf0 : K.lookup fI0 = some ⟨oc_0, od_0, .func (PySem.W.ksFn "__init__" qual0 params0 body0 scope0 .none .none doc0 pm_0 an_0 (.ref cda0) ct_0 cc0), osl0⟩) (cd_0 : PySem.W.codeIn K (.ref cda0) qual0 = true)
    {ccl0 : Value} {cdd0 : Option Addr} {vs0 : Array Value} {ccs0 : Array (Option Value)} {file0 : Str} {tf0 : Tok} (lc0 : K.lookup cda0 = some ⟨ccl0, cdd0, .fields vs0, ccs0⟩) (v20 : vs0[2]? = some (.str file0 tf0)) (fl0 : ((PySem.Challenge.pw_clausehold_k70_parity_clauses.main.file : Str) == file0) = true)
    {cl_0 : Value} {cld0 : Option Addr} {csl0 : Array (Option Value)} (lcc0 : K.lookup cc0 = some ⟨cl_0, cld0, .cell (some (.ref C0)), csl0⟩)
    (sf0 : ∃ ar : Arg, (params0.posonlyargs ++ params0.args).head? = some ar ∧ ar.arg = "self")
    (bd0 : ∀ (s : Shared) (u : Value) (vs : List Value), vs.length = 1 → BindsTo s (PySem.W.ksFn "__init__" qual0 params0 body0 scope0 .none .none doc0 pm_0 an_0 (.ref cda0) ct_0 cc0) ⟨u :: vs, []⟩ (("self", u) :: List.zip ["value"] vs))
    (sc0 : scope0.names.lookup ("super" : Str) = some .globalImplicit ∧ scope0.names.lookup ("__class__" : Str) = some .free ∧ scope0.names.lookup ("self" : Str) = some .local ∧ (∀ f ∈ (["value"] : List Str), scope0.names.lookup f = some .local) ∧ (∀ x ∈ scope0.names, x.2 ≠ .cell) ∧ scope0.isCoroutine = false ∧ scope0.isGenerator = false ∧ scope0.kind = .function)
    (ini0 : InitIs ["value"] body0)
    {C1 fI1 : Addr} (n_1 : PySem.W.nsIn K mainGlobals "InvalidLiterals" = some (some (.ref C1)))
    {nm1 q1 : Str} {N1 : Addr} {bs1 bm1 : List Value} {sn1 : List Str} {sub1 : List Value} {ab1 : Bool} {col1 : Option Bool} {dd1 : Option Addr} {ka1 kb1 kc1 kd1 ke1 : Option Value}
    (cl1 : K.lookup C1 = some (excClassObj nm1 q1 C1 N1 bs1 bm1 true sn1 sub1 ab1 col1 dd1 ka1 kb1 kc1 kd1 ke1 "ValueError.__new__")) (rv1 : PySem.HandSPX.refsVE bm1 = true)
    (sa1 : PySem.W.findIn K (.ref C1) "__setattr__" = some (some (.builtin "object.__setattr__"))) (ga1 : PySem.W.findIn K (.ref C1) "__getattribute__" = some (some (.builtin "BaseException.__getattribute__"))) (gg1 : PySem.W.findIn K (.ref C1) "__getattr__" = some none)
    (no1_0 : PySem.W.findIn K (.ref C1) "value" = some none)
    (iC1 : PySem.W.findIn K (.ref C1) "__init__" = some (some (.ref fI1))) (tC1 : PySem.W.typeIn K (.ref fI1) = some (.type "function")) (kC1 : PySem.W.keepIn K (.ref C1) = true)
    (exC1 : PySem.W.subIn K (.ref C1) (.type "BaseException") = some true) (veC1 : PySem.W.subIn K (.ref C1) (.type "ValueError") = some true) (tyC1 : PySem.W.typeIn K (.ref C1) = some (.type "type")) (hdC1 : PySem.W.hasDictIn K C1 = true)
    (sup1 : PySem.W.ks_superIn K C1 C1 "__init__" = some (some (.builtin "ValueError.__init__"))) (meC1 : PySem.W.mroIn K C1 (.ref C1) = some true)
    {oc_1 : Value} {od_1 : Option Addr} {doc1 pm_1 : Value} {an_1 : Option Addr} {cda1 cc1 : Addr} {ct_1 : Value} {osl1 : Array (Option Value)} {qual1 : Str} {params1 : Arguments} {body1 : List Stmt} {scope1 : Scope}
    (lf1 : K.lookup fI1 = some ⟨oc_1, od_1, .func (PySem.W.ksFn "__init__" qual1 params1 body1 scope1 .none .none doc1 pm_1 an_1 (.ref cda1) ct_1 cc1), osl1⟩) (cd_1 : PySem.W.codeIn K (.ref cda1) qual1 = true)
    {ccl1 : Value} {cdd1 : Option Addr} {vs1 : Array Value} {ccs1 : Array (Option Value)} {file1 : Str} {tf1 : Tok} (lc1 : K.lookup cda1 = some ⟨ccl1, cdd1, .fields vs1, ccs1⟩) (v21 : vs1[2]? = some (.str file1 tf1)) (fl1 : ((PySem.Challenge.pw_clausehold_k70_parity_clauses.main.file : Str) == file1) = true)
    {cl_1 : Value} {cld1 : Option Addr} {csl1 : Array (Option Value)} (lcc1 : K.lookup cc1 = some ⟨cl_1, cld1, .cell (some (.ref C1)), csl1⟩)
    (sf1 : ∃ ar : Arg, (params1.posonlyargs ++ params1.args).head? = some ar ∧ ar.arg = "self")
    (bd1 : ∀ (s : Shared) (u : Value) (vs : List Value), vs.length = 1 → BindsTo s (PySem.W.ksFn "__init__" qual1 params1 body1 scope1 .none .none doc1 pm_1 an_1 (.ref cda1) ct_1 cc1) ⟨u :: vs, []⟩ (("self", u) :: List.zip ["value"] vs))
    (sc1 : scope1.names.lookup ("super" : Str) = some .globalImplicit ∧ scope1.names.lookup ("__class__" : Str) = some .free ∧ scope1.names.lookup ("self" : Str) = some .local ∧ (∀ f ∈ (["value"] : List Str), scope1.names.lookup f = some .local) ∧ (∀ x ∈ scope1.names, x.2 ≠ .cell) ∧ scope1.isCoroutine = false ∧ scope1.isGenerator = false ∧ scope1.kind = .function)
    (ini1 : InitIs ["value"] body1)
    (m0_0 : PySem.W.exmOne K (.ref C0) (.ref C0) = some true)
    (m0_1 : PySem.W.exmOne K (.ref C0) (.ref C1) = some false)
    (m1_0 : PySem.W.exmOne K (.ref C1) (.ref C0) = some false)
    (m1_1 : PySem.W.exmOne K (.ref C1) (.ref C1) = some true)
    : (∀ e ∈ ents, ∃ a fd, Here K mg e a fd) ∧ (∀ x ∈ bns, mg x = none) ∧ (∀ x kvs, dcs.lookup x = some kvs → DctK K w mg x kvs) ∧ ∀ c k, exs[c]? = some k → ExK PySem.Challenge.pw_clausehold_k70_parity_clauses K mg exs c k := by
  refine ⟨?_, ?_, ?_, exs_all ⟨exk_mk (c := 0) (k := ("InvalidNumber", ["value"], [0])) X G n_0 (ext_mk X G cl0 rv0 sa0 ga0 gg0 (by simp only [List.forall_mem_cons]; exact ⟨no0_0, fun _ h => absurd h (by simp)⟩) iC0 tC0 kC0 exC0 veC0 tyC0 hdC0 sup0 meC0 noS opq (by decide +kernel) (by decide +kernel) (by decide +kernel) (by decide) lf0 cd_0 lc0 v20 fl0 lcc0 sf0 bd0 sc0 ini0) ⟨⟨C0, clsAt_of n_0, m0_0⟩, ⟨C1, clsAt_of n_1, m1_0⟩, trivial⟩, exk_mk (c := 1) (k := ("InvalidLiterals", ["value"], [1])) X G n_1 (ext_mk X G cl1 rv1 sa1 ga1 gg1 (by simp only [List.forall_mem_cons]; exact ⟨no1_0, fun _ h => absurd h (by simp)⟩) iC1 tC1 kC1 exC1 veC1 tyC1 hdC1 sup1 meC1 noS opq (by decide +kernel) (by decide +kernel) (by decide +kernel) (by decide) lf1 cd_1 lc1 v21 fl1 lcc1 sf1 bd1 sc1 ini1) ⟨⟨C0, clsAt_of n_0, m0_1⟩, ⟨C1, clsAt_of n_1, m1_1⟩, trivial⟩, trivial⟩⟩
  · unfold ents
    simp only [List.forall_mem_cons]
    exact ⟨here_mk X G a0 l0 c0 k0 (fun _ _ _ _ _ _ us hl => match us, hl with | [_], _ => rfl), here_mk X G a1 l1 c1 k1 (fun _ _ _ _ _ _ us hl => match us, hl with | [_], _ => rfl), here_mk X G a2 l2 c2 k2 (fun _ _ _ _ _ _ us hl => match us, hl with | [_, _], _ => rfl), here_mk X G a3 l3 c3 k3 (fun _ _ _ _ _ _ us hl => match us, hl with | [_, _], _ => rfl), here_mk X G a4 l4 c4 k4 (fun _ _ _ _ _ _ us hl => match us, hl with | [_, _], _ => rfl), here_mk X G a5 l5 c5 k5 (fun _ _ _ _ _ _ us hl => match us, hl with | [_], _ => rfl), here_mk X G a6 l6 c6 k6 (fun _ _ _ _ _ _ us hl => match us, hl with | [_, _, _], _ => rfl), here_mk X G a7 l7 c7 k7 (fun _ _ _ _ _ _ us hl => match us, hl with | [_, _], _ => rfl), here_mk X G a8 l8 c8 k8 (fun _ _ _ _ _ _ us hl => match us, hl with | [_, _], _ => rfl), here_mk X G a9 l9 c9 k9 (fun _ _ _ _ _ _ us hl => match us, hl with | [_], _ => rfl), fun _ h => absurd h (by simp)⟩
  · unfold bns
    simp only [List.forall_mem_cons]
    exact ⟨PySem.W.mg_none_of X G z0, PySem.W.mg_none_of X G z1, PySem.W.mg_none_of X G z2, PySem.W.mg_none_of X G z3, PySem.W.mg_none_of X G z4, PySem.W.mg_none_of X G z5, PySem.W.mg_none_of X G z6, PySem.W.mg_none_of X G z7, PySem.W.mg_none_of X G z8, PySem.W.mg_none_of X G z9, PySem.W.mg_none_of X G z10, fun _ h => absurd h (by simp)⟩
  · exact fun x kvs h => by simp [dcs] at h
end
end K70
open PySem PySem.W PyProof.Rows
set_option maxRecDepth 100000 in
set_option maxHeartbeats 0 in
theorem PySem.Challenge.cw_clausehold_k70_parity_clauses_holds : PySem.Challenge.rw_clausehold_k70_parity_clauses.Holds := by
  w_on; o_law; k_head; (case hw => w_witness2)
  k_fill
  refine CH.walkL (li := 9) (k := 19) (bn := K70.bns) (ents := K70.ents) (dcs := K70.dcs) (exs := K70.exs) (l := PySem.Challenge.rw_clausehold_k70_parity_clauses) (e := K70.e9) (x := "_law_script") rfl rfl (fun w h Y => PySem.W.kIn_of Y) ⟨rfl, by decide, by decide⟩ rfl rfl rfl K70.oks K70.hrun (fun _ _ _ _ _ _ _ _ => .of_eq rfl) ?F
  case F =>
    intro w mg h KX G
    refine' K70.top_mk KX G ?a0 ?l0 ?c0 ?k0 ?a1 ?l1 ?c1 ?k1 ?a2 ?l2 ?c2 ?k2 ?a3 ?l3 ?c3 ?k3 ?a4 ?l4 ?c4 ?k4 ?a5 ?l5 ?c5 ?k5 ?a6 ?l6 ?c6 ?k6 ?a7 ?l7 ?c7 ?k7 ?a8 ?l8 ?c8 ?k8 ?a9 ?l9 ?c9 ?k9 ?z0 ?z1 ?z2 ?z3 ?z4 ?z5 ?z6 ?z7 ?z8 ?z9 ?z10  ?noS ?opq ?n_0 ?cl0 ?rv0 ?sa0 ?ga0 ?gg0 ?no0_0 ?iC0 ?tC0 ?kC0 ?exC0 ?veC0 ?tyC0 ?hdC0 ?sup0 ?meC0 ?lf0 ?cd_0 ?lc0 ?v20 ?fl0 ?lcc0 ?sf0 ?bd0 ?sc0 ?ini0 ?n_1 ?cl1 ?rv1 ?sa1 ?ga1 ?gg1 ?no1_0 ?iC1 ?tC1 ?kC1 ?exC1 ?veC1 ?tyC1 ?hdC1 ?sup1 ?meC1 ?lf1 ?cd_1 ?lc1 ?v21 ?fl1 ?lcc1 ?sf1 ?bd1 ?sc1 ?ini1 ?m0_0 ?m0_1 ?m1_0 ?m1_1
    (case noS => k_is); (case opq => k_is)
    (case n_0 => k_is)
    (case cl0 => k_is)
    (case rv0 => decide +kernel)
    (case sa0 => k_is)
    (case ga0 => k_is)
    (case gg0 => k_is)
    (case no0_0 => k_is)
    (case iC0 => k_is)
    (case tC0 => k_is)
    (case kC0 => k_is)
    (case exC0 => k_is)
    (case veC0 => k_is)
    (case tyC0 => k_is)
    (case hdC0 => k_is)
    (case sup0 => ks_is); (case meC0 => k_is); (case lf0 => k_is); (case cd_0 => k_is); (case lc0 => k_is); (case v20 => rfl); (case fl0 => decide +kernel); (case lcc0 => k_is)
    (case sf0 => exact ⟨_, rfl, rfl⟩); (case bd0 => exact fun s u vs hl => match vs, hl with | [_], _ => .of_eq rfl); (case sc0 => decide +kernel)
    (case ini0 => exact .mk (.cons .nil) rfl)
    (case n_1 => k_is)
    (case cl1 => k_is)
    (case rv1 => decide +kernel)
    (case sa1 => k_is)
    (case ga1 => k_is)
    (case gg1 => k_is)
    (case no1_0 => k_is)
    (case iC1 => k_is)
    (case tC1 => k_is)
    (case kC1 => k_is)
    (case exC1 => k_is)
    (case veC1 => k_is)
    (case tyC1 => k_is)
    (case hdC1 => k_is)
    (case sup1 => ks_is); (case meC1 => k_is); (case lf1 => k_is); (case cd_1 => k_is); (case lc1 => k_is); (case v21 => rfl); (case fl1 => decide +kernel); (case lcc1 => k_is)
    (case sf1 => exact ⟨_, rfl, rfl⟩); (case bd1 => exact fun s u vs hl => match vs, hl with | [_], _ => .of_eq rfl); (case sc1 => decide +kernel)
    (case ini1 => exact .mk (.cons .nil) rfl)
    (case m0_0 => kernel_rfl)
    (case m0_1 => kernel_rfl)
    (case m1_0 => kernel_rfl)
    (case m1_1 => kernel_rfl)
    (case a0 => k_is); (case l0 => k_is); (case c0 => k_is); (case k0 => k_is)
    (case a1 => k_is); (case l1 => k_is); (case c1 => k_is); (case k1 => k_is)
    (case a2 => k_is); (case l2 => k_is); (case c2 => k_is); (case k2 => k_is)
    (case a3 => k_is); (case l3 => k_is); (case c3 => k_is); (case k3 => k_is)
    (case a4 => k_is); (case l4 => k_is); (case c4 => k_is); (case k4 => k_is)
    (case a5 => k_is); (case l5 => k_is); (case c5 => k_is); (case k5 => k_is)
    (case a6 => k_is); (case l6 => k_is); (case c6 => k_is); (case k6 => k_is)
    (case a7 => k_is); (case l7 => k_is); (case c7 => k_is); (case k7 => k_is)
    (case a8 => k_is); (case l8 => k_is); (case c8 => k_is); (case k8 => k_is)
    (case a9 => k_is); (case l9 => k_is); (case c9 => k_is); (case k9 => k_is)
    (case z0 => k_is)
    (case z1 => k_is)
    (case z2 => k_is)
    (case z3 => k_is)
    (case z4 => k_is)
    (case z5 => k_is)
    (case z6 => k_is)
    (case z7 => k_is)
    (case z8 => k_is)
    (case z9 => k_is)
    (case z10 => k_is)

