import PyProof.Rows.All
import Wide.All
import OpenK.AllK
import Wide.FinOn
import KE.KStateDown
import HandS.ForMost
import HandS.ForExc
import HandS.Head0
import HandS.Head1
import HandS.Head2
import HandS.HeadEnd
import HandS.HeadHook1
import HandS.HeadHook2
import HandS.HeadHook3
import HandS.HeadHook4
import KE.SortData
import KE.DataEq
import HandS.Text
import HandS.SetKeys
import HandS.Strs
import KE.GoesSet
import HandS.TupAny
import HandS.TupMul
import HandS.Wide
import HandS.Deep
import HandS.TupLe
import HandS.Style
import HandS.RaiseMore
import HandS.IsInst
import HandS.More
import KE.KeyNested
import KE.KUnpackStar
import HandS.Small
import HandS.Defaults
import HandS.DictComp
import KE.KDictList
import HandS.SetBool
import HandS.SortKw
import KE.DatumOrd
import KE.Datum
import HandS.Codes
import PySem.Challenge.RW_leavechain_k79_trees_judged
set_option Elab.async false
section PartEvCore
set_option autoImplicit false
set_option linter.all false
/-! EvCore: a small interpreter for the Python of this program: values without a heap; lists and dicts that are changed in place live in one slot (owned), objects of classes in a store. -/
namespace EV
open PySem

/-- plain data: what never changes -/
abbrev D := PyData

/-- an exception: its class, its fields -/
structure Exn where
  c : Str
  fs : List (Str × D)
/-- .. as data: a dict with None as a key is no dict of the text -/
def xoD (x : Exn) : D := .dict ((.none, .str x.c) :: x.fs.map fun p => (.str p.1, p.2))
def xoF : List (D × D) → Option (List (Str × D))
  | [] => some []
  | (.str f, d) :: r => (xoF r).map ((f, d) :: ·)
  | _ => none
def xoOf : D → Option Exn
  | .dict ((.none, .str c) :: r) => (xoF r).map fun fs => ⟨c, fs⟩
  | _ => none

/-- what stands in a slot, in an object's field, or comes of an expression -/
inductive T where
  /-- plain data -/
  | pl (d : D)
  /-- a list, dict, set that this place alone holds -/
  | ol (ds : List D) | od (kvs : List (D × D)) | os (ds : List D)
  /-- the same, locked while it is walked -/
  | kl (ds : List D) | kd (kvs : List (D × D))
  /-- a list, dict of somebody else, to be looked at -/
  | bl (ds : List D) | bd (kvs : List (D × D))
  /-- the script -/
  | sl (ds : List D)
  /-- a list, dict, tuple of such -/
  | nl (ts : List T) | nd (kvs : List (D × T)) | nt (ts : List T)
  /-- an object of a class, an exception, nothing -/
  | ob (n : Nat) | un

structure O where
  c : String
  fs : List (String × T)

structure S where
  vs : List T
  os : List O

inductive Res (α : Type) where
  | ok (a : α) (s : S) | ex (x : Exn) (s : S) | bad

@[inline] def Res.bd {α β : Type} (r : Res α) (f : α → S → Res β) : Res β := match r with
  | .ok a s => f a s
  | .ex x s => .ex x s
  | .bad => .bad
@[simp] theorem bd_ok {α β : Type} (a : α) (s : S) (f : α → S → Res β) : Res.bd (.ok a s) f = f a s := rfl
@[simp] theorem bd_ex {α β : Type} (x : Exn) (s : S) (f : α → S → Res β) : Res.bd (.ex x s : Res α) f = .ex x s := rfl
@[simp] theorem bd_bad {α β : Type} (f : α → S → Res β) : Res.bd (.bad : Res α) f = .bad := rfl
/-- a pure answer, or bad -/
def lift {α : Type} (o : Option α) (s : S) : Res α := match o with
  | some a => .ok a s
  | none => .bad
@[simp] theorem lift_some {α : Type} (a : α) (s : S) : lift (some a) s = .ok a s := rfl
@[simp] theorem lift_none {α : Type} (s : S) : lift (none : Option α) s = .bad := rfl

/-! ### the tree -/
/-- a target of a for or a comprehension, of a plain assignment -/
inductive G where
  | nm (i : Nat)
  | tp (gs : List G)
  | tps (gs : List G) (st : Nat) (hs : List G)

inductive Md where
  /-- to hand on, to look at, to move, to return -/
  | e | v | m | r
/-- the arms of a choice -/
def Md.arm : Md → Md
  | .r => .r
  | _ => .e

mutual
inductive E where
  | var (i : Nat) | lit (d : D) | con (x : String)
  | tup (n : Bool) (es : List E) | lst (n : Bool) (es : List E) | dct (n : Bool) (ks vs : List E)
  | bin (op : Operator) (a b : E) | neg (a : E) | not (a : E) | and (a b : E) | or (a b : E) | ite (c a b : E)
  | cmp (op : CmpOp) (a b : E) | chn (o1 o2 : CmpOp) (a b c : E)
  | idx (a i : E) | slc (a lo hi : E) | rev (a : E)
  | att (a : E) (f : String)
  | bi (f : String) (as : List E) | bik (f : String) (a : E) (k : String) (b : E)
  | isi (a : E) (ts : List Str)
  | call (f : String) (as : List Ar) (ks : List String) (bs : List E)
  | exc (c : String) (as bs : List E)
  | new (c : String) (as : List Ar) (ks : List String) (bs : List E)
  | met (a : E) (m : String) (as : List E)
  | mut (a : E) (m : String) (as : List E)
  | obm (a : E) (m : String) (as : List Ar) (ks : List String) (bs : List E)
  | lc (n : Bool) (elt : E) (own : List Nat) (g : G) (it : It) (c : E)
  | sc (elt : E) (own : List Nat) (g : G) (it : It) (c : E)
  | dc (n : Bool) (key elt : E) (own : List Nat) (g : G) (it : It) (c : E)
/-- an argument of a def: a value; a slot, lent or its value; to be looked at; moved -/
inductive Ar where
  | e (a : E) | s (i : Nat) | b (i : Nat) | be (a : E) | mv (a : E)
/-- what is walked -/
inductive It where
  | rng (a : E) | rng2 (a b : E) | rngd (a b : E)
  | enum (a : E) (k : Int) | zip (a b : E) | items (a : E) | vals (a : E)
  | own (i : Nat) | fld (a : E) (f : String) | gen (a : E)
end

inductive C where
  | asg (g : G) (e : E) | asS (a i e : E) | asA (a : E) (f : String) (e : E) | as2 (a i b j e e' : E)
  | aug (i : Nat) (op : Operator) (e : E) | augS (a i : E) (op : Operator) (e : E)
  | exp (e : E) | ret (e : E)
  | ite (c : E) (a b : List C) | whl (c : E) (b : List C) | for (g : G) (it : It) (b : List C)
  | rai (c : Str) (as : List E)
  | tri (b : List C) (cs : List Str) (n : Option Nat) (h : List C)
  | pas | brk | cnt

inductive Fl where
  | nx | rt (t : T) | br | ct

/-- what a call comes to: the answer, what the arguments are behind it, the objects -/
inductive CRes where
  | ok (t : T) (outs : List T) (os : List O) | ex (x : Exn) (outs : List T) (os : List O) | bad

structure Pm where
  /-- a def of the text, called with its positional arguments, its keywords' names and values -/
  cal : String → List T → List String → List T → List O → CRes
  con : String → Option D
  /-- whether one class stands under another one, of exceptions -/
  sub : Str → Str → Bool
  /-- the fields that an exception class takes; none: a text -/
  xf : Str → Option (List Str)
  fuel : Nat
  /-- slots that hold what the caller lent -/
  fix : List Nat

/-! ### values -/
/-- as data; a thing that may be handed on -/
def T.dat : T → Option D
  | .pl d => some d
  | .ol ds => some (.list ds)
  | .od kvs => some (.dict kvs)
  | _ => none
/-- as data, to be looked at -/
def T.vw : T → Option D
  | .pl d => some d
  | .ol ds => some (.list ds)
  | .kl ds => some (.list ds)
  | .od kvs => some (.dict kvs)
  | .kd kvs => some (.dict kvs)
  | .bl ds => some (.list ds)
  | .bd kvs => some (.dict kvs)
  | .sl ds => some (.list ds)
  | _ => none
/-- .. the script left out -/
def T.vx : T → Option D
  | .sl _ => none
  | t => t.vw
/-- to be looked at by a callee -/
def T.bor : T → T
  | .pl (.list ds) => .bl ds
  | .pl (.dict kvs) => .bd kvs
  | .ol ds => .bl ds
  | .kl ds => .bl ds
  | .od kvs => .bd kvs
  | .kd kvs => .bd kvs
  | t => t

def okKey : D → Bool
  | .int _ => true
  | .str _ => true
  | _ => false
def keyEq : D → D → Bool
  | .int a, .int b => a == b
  | .str a, .str b => a == b
  | _, _ => false
def dget {α : Type} : List (D × α) → D → Option α
  | [], _ => none
  | (k, v) :: r, j => if keyEq k j then some v else dget r j
def dhas {α : Type} (kvs : List (D × α)) (j : D) : Bool := (dget kvs j).isSome
def dput {α : Type} (kvs : List (D × α)) (j : D) (v : α) : List (D × α) :=
  if dhas kvs j then kvs.map (fun p => if keyEq p.1 j then (p.1, v) else p) else kvs ++ [(j, v)]

def okD (d : D) : Bool := d.plain && decide (d.depth ≤ 40)
mutual
/-- == where a dict may lie within: from the left, to the first that differs -/
def eqX : D → D → Option Bool
  | .tuple xs, .tuple ys => eqXs xs ys
  | .dict _, .dict _ => none
  | .dict _, _ => some false
  | _, .dict _ => some false
  | a, b => if okD a && okD b then some (PyData.eqv a b) else none
def eqXs : List D → List D → Option Bool
  | [], [] => some true
  | x :: xs, y :: ys => match eqX x y with
    | some true => eqXs xs ys
    | r => r
  | _, _ => some false
end
def eqD (a b : D) : Option Bool := if okD a && okD b then some (PyData.eqv a b) else none

/-- i as a place among n -/
def ixN (n : Nat) (i : Int) : Option Nat := if 0 ≤ i then (if i < n then some i.toNat else none) else if -(n : Int) ≤ i then some (i + n).toNat else none
def atI {α : Type} (xs : List α) (i : Int) : Option α := (ixN xs.length i).bind fun j => xs[j]?
def cut {α : Type} (xs : List α) (lo hi : Option Int) : List α := (xs.drop (HT.sIx xs.length 0 lo)).take (HT.sIx xs.length xs.length hi - HT.sIx xs.length 0 lo)
def cutS (z : Str) (lo hi : Option Int) : Str := ⟨(cut z.cps.toList lo hi).toArray⟩
def chars (z : Str) : List D := z.cps.toList.map fun c => .str ⟨#[c]⟩

def getI (t : T) (i : D) : Option T := match t, i with
  | .pl (.list ds), .int i => (atI ds i).map .pl
  | .ol ds, .int i => (atI ds i).map .pl
  | .kl ds, .int i => (atI ds i).map .pl
  | .bl ds, .int i => (atI ds i).map .pl
  | .sl ds, .int i => (atI ds i).map .pl
  | .pl (.tuple ds), .int i => (atI ds i).map .pl
  | .pl (.str z), .int i => if z.length ≤ 1000000 then (atI (chars z) i).map .pl else none
  | .pl (.dict kvs), i => if okKey i then (dget kvs i).map .pl else none
  | .od kvs, i => if okKey i then (dget kvs i).map .pl else none
  | .kd kvs, i => if okKey i then (dget kvs i).map .pl else none
  | .bd kvs, i => if okKey i then (dget kvs i).map .pl else none
  | .nl ts, .int i => atI ts i
  | .nt ts, .int i => atI ts i
  | .nd kvs, i => if okKey i then dget kvs i else none
  | _, _ => none
/-- a new thing at a place -/
def setI (t : T) (i : D) (u : T) : Option T := match t, i with
  | .ol ds, .int i => (ixN ds.length i).bind fun j => u.dat.map fun d => .ol (ds.set j d)
  | .od kvs, i => if okKey i && decide (kvs.length ≤ 1000000) then u.dat.map fun d => .od (dput kvs i d) else none
  | _, _ => none

def big : Int := 18446744073709551616
def mulOk (i j : Int) : Bool := decide (-big < i ∧ i < big) || decide (-big < j ∧ j < big) || decide (i.natAbs < 2 ^ 400 ∧ j.natAbs < 2 ^ 400)
def rep {α : Type} (xs : List α) (n : Int) : List α := (List.replicate n.toNat xs).flatten
def repS (z : Str) (n : Int) : Str := ⟨(rep z.cps.toList n).toArray⟩
def binD (op : Operator) (a b : D) : Option T := match op, a, b with
  | .Add, .int i, .int j => some (.pl (.int (i + j)))
  | .Add, .str x, .str y => if x.length + y.length ≤ 1000000 then some (.pl (.str (x ++ y))) else none
  | .Add, .list xs, .list ys => if xs.length + ys.length ≤ 1000000 then some (.ol (xs ++ ys)) else none
  | .Add, .tuple xs, .tuple ys => if xs.length + ys.length ≤ 1000000 then some (.pl (.tuple (xs ++ ys))) else none
  | .Sub, .int i, .int j => some (.pl (.int (i - j)))
  | .Mult, .int i, .int j => if mulOk i j then some (.pl (.int (i * j))) else none
  | .Mult, .list xs, .int j => if -(2 ^ 63) ≤ j ∧ j ≤ 1000 ∧ xs.length ≤ 1000 then some (.ol (rep xs j)) else none
  | .Mult, .tuple xs, .int j => if 2 ≤ j ∧ j ≤ 1000 ∧ xs.length ≤ 1000 then some (.pl (.tuple (rep xs j))) else none
  | .Mult, .str z, .int j => if 1 ≤ j ∧ j ≤ 1000 ∧ z.length ≤ 1000 then some (.pl (.str (repS z j))) else none
  | .FloorDiv, .int i, .int j => if 0 < j ∧ j < 1073741824 then some (.pl (.int (i / j))) else none
  | .Mod, .int i, .int j => if 0 < j then some (.pl (.int (i % j))) else none
  | .Pow, .int i, .int j => if 0 ≤ j ∧ j ≤ 64 ∧ i.natAbs < 2 ^ 64 then some (.pl (.int (i ^ j.toNat))) else none
  | _, _, _ => none

def ltD : D → D → Option Bool
  | .int i, .int j => some (decide (i < j))
  | .str x, .str y => some (decide (x.cps.toList < y.cps.toList))
  | _, _ => none
def leD : D → D → Option Bool
  | .int i, .int j => some (decide (i ≤ j))
  | .str x, .str y => some (!decide (y.cps.toList < x.cps.toList))
  | _, _ => none
def allOk (d : D) (ds : List D) : Bool := okD d && ds.all okD
def isD (a b : D) : Option Bool := match b with
  | .none => match a with
    | .none => some true
    | _ => some false
  | .bool b => match a with
    | .bool c => some (decide (c = b))
    | _ => none
  | _ => none
def inD (a b : D) : Option Bool := match b with
  | .list ds => if allOk a ds then some (ds.any fun d => PyData.eqv d a) else none
  | .tuple ds => if allOk a ds then some (ds.any fun d => PyData.eqv d a) else none
  | .dict kvs => if okKey a then some (dhas kvs a) else none
  | .str z => match a with
    | .str y => some (!(Builtin.Str.occurrences z y 0 z.length 1).isEmpty)
    | _ => none
  | _ => none
def eqV (a b : D) : Option Bool := eqD a b
def cmpD (op : CmpOp) (a b : D) : Option Bool := match op with
  | .Eq => eqV a b
  | .NotEq => (eqV a b).map (!·)
  | .Lt => ltD a b
  | .LtE => leD a b
  | .Gt => ltD b a
  | .GtE => leD b a
  | .Is => isD a b
  | .IsNot => (isD a b).map (!·)
  | .In => inD a b
  | .NotIn => (inD a b).map (!·)

def truD : D → Option Bool
  | .bool b => some b
  | _ => none

/-- sorted: by the library's order of data -/
def sortD (ds : List D) : List D := ds.mergeSort fun a b => !(W.dataLt b a)
def sortable (ds : List D) : Bool := ds.all fun d => okD d && ds.all fun e => W.alike d e
def maxI : List Int → Option Int
  | [] => none
  | x :: xs => some (xs.foldl max x)
def minI : List Int → Option Int
  | [] => none
  | x :: xs => some (xs.foldl min x)
def intsD : List D → Option (List Int)
  | [] => some []
  | .int i :: r => (intsD r).map (i :: ·)
  | _ => none
def boolsD : List D → Option (List Bool)
  | [] => some []
  | .bool i :: r => (boolsD r).map (i :: ·)
  | _ => none
def strsD : List D → Option (List Str)
  | [] => some []
  | .str i :: r => (strsD r).map (i :: ·)
  | _ => none
def pairsD : List D → Option (List (D × D))
  | [] => some []
  | .tuple [k, v] :: r => if okKey k then (pairsD r).map ((k, v) :: ·) else none
  | _ => none
def dmake {α : Type} (acc : List (D × α)) : List (D × α) → List (D × α)
  | [] => acc
  | (k, v) :: r => dmake (dput acc k v) r
/-- each the first time that it is met -/
def firsts : List D → List D → List D
  | acc, [] => acc
  | acc, d :: r => if acc.any (keyEq d) then firsts acc r else firsts (acc ++ [d]) r
def joinS (sep : Str) : List Str → Str
  | [] => ⟨#[]⟩
  | [x] => x
  | x :: r => x ++ sep ++ joinS sep r

/-- the items of a thing that may be walked -/
def items (t : T) : Option (List D) := match t.vw with
  | some (.list ds) => some ds
  | some (.tuple ds) => some ds
  | some (.str z) => some (chars z)
  | some (.dict kvs) => some (kvs.map (·.1))
  | _ => match t with
    | .os ds => some ds
    | _ => none

def typeIs (d : D) (ty : Str) : Bool := match d with
  | .none => false
  | .bool _ => decide (ty = "bool") || decide (ty = "int")
  | .int _ => decide (ty = "int")
  | .str _ => decide (ty = "str")
  | .list _ => decide (ty = "list")
  | .tuple _ => decide (ty = "tuple")
  | .dict _ => decide (ty = "dict")

def zipD : List D → List D → List D
  | x :: xs, y :: ys => .tuple [x, y] :: zipD xs ys
  | _, _ => []
def enumD : Int → List D → List D
  | _, [] => []
  | k, x :: xs => .tuple [.int k, x] :: enumD (k + 1) xs
def rangeD (lo : Int) : Nat → List D
  | 0 => []
  | n + 1 => .int lo :: rangeD (lo + 1) n
def rangeDn (lo : Int) : Nat → List D
  | 0 => []
  | n + 1 => .int lo :: rangeDn (lo - 1) n
def indexD (ds : List D) (d : D) : Option Nat := ds.findIdx? fun e => PyData.eqv e d
def lenT (t : T) : Option Nat := match t with
  | .nl ts => some ts.length
  | .nd kvs => some kvs.length
  | .os ds => some ds.length
  | t => match t.vw with
    | some (.list ds) => some ds.length
    | some (.tuple ds) => some ds.length
    | some (.str z) => if z.length ≤ 1000000 then some z.length else none
    | some (.dict kvs) => some kvs.length
    | _ => none
def small (n : Nat) : Bool := decide (n ≤ 1000000)

/-- the items of a list -/
def listT (t : T) : Option (List D) := match t.vw with
  | some (.list ds) => some ds
  | _ => none
/-- built-ins of values -/
def biLen : List T → Option T
  | [t] => (lenT t).map fun (n : Nat) => .pl (.int (n : Int))
  | _ => none
def biMax : List T → Option T
  | [.pl (.int i), .pl (.int j)] => some (.pl (.int (if j > i then j else i)))
  | [t] => (listT t).bind fun ds => (intsD ds).bind fun is => (maxI is).map fun i => .pl (.int i)
  | _ => none
def biMin : List T → Option T
  | [.pl (.int i), .pl (.int j)] => some (.pl (.int (if j < i then j else i)))
  | [t] => (listT t).bind fun ds => (intsD ds).bind fun is => (minI is).map fun i => .pl (.int i)
  | _ => none
def biSum : List T → Option T
  | [t] => (listT t).bind fun ds => (intsD ds).map fun is => .pl (.int is.sum)
  | _ => none
def biStr : List T → Option T
  | [.pl (.int i)] => if i.natAbs < 10 ^ 100 then some (.pl (.str (toString i))) else none
  | [.pl (.str x)] => some (.pl (.str x))
  | _ => none
def biAbs : List T → Option T
  | [.pl (.int i)] => some (.pl (.int (if i < 0 then -i else i)))
  | _ => none
def biInt : List T → Option T
  | [.pl (.int i)] => some (.pl (.int i))
  | [.pl (.bool b)] => some (.pl (.int (if b then 1 else 0)))
  | _ => none
def biAll : List T → Option T
  | [t] => (listT t).bind fun ds => (boolsD ds).map fun bs => .pl (.bool (bs.all id))
  | _ => none
def biAny : List T → Option T
  | [t] => (listT t).bind fun ds => (boolsD ds).map fun bs => .pl (.bool (bs.any id))
  | _ => none
def biList : List T → Option T
  | [t] => match t.vw with
    | some (.list ds) => some (.ol ds)
    | some (.tuple ds) => some (.ol ds)
    | _ => none
  | _ => none
def biTup : List T → Option T
  | [t] => match t.vw with
    | some (.list ds) => some (.pl (.tuple ds))
    | some (.tuple ds) => some (.pl (.tuple ds))
    | _ => none
  | _ => none
/-- the items of a thing that is sorted -/
def itemsS (t : T) : Option (List D) := match t with
  | .os ds => some ds
  | t => match t.vw with
    | some (.list ds) => some ds
    | some (.dict kvs) => some (kvs.map (·.1))
    | _ => none
def sortKind (ds : List D) : Bool := ds.all (fun d => match d with | .tuple (_ :: _) => true | _ => false) || ds.all (fun d => match d with | .none => false | .tuple _ => false | _ => true)
def biSorted : List T → Option T
  | [t] => (itemsS t).bind fun ds => if sortable ds && sortKind ds && small ds.length then some (.ol (sortD ds)) else none
  | _ => none
def biSet : List T → Option T
  | [t] => (listT t).bind fun ds => if ds.all okKey && decide (ds.length ≤ 4000) then some (.os (firsts [] ds)) else none
  | _ => none
def biVals : List T → Option T
  | [t] => match t.vw with
    | some (.dict kvs) => some (.ol (kvs.map (·.2)))
    | _ => none
  | _ => none
def biZip : List T → Option T
  | [t, u] => (items t).bind fun ks => (items u).bind fun vs => if ks.all okKey then some (.od (dmake [] (ks.zip vs))) else none
  | _ => none
def ndOf : List T → Option (List (D × T))
  | [] => some []
  | .nt [.pl k, v] :: r => if okKey k then (ndOf r).map ((k, v) :: ·) else none
  | _ => none
def biDict : List T → Option T
  | [t] => match t.vw with
    | some (.dict kvs) => some (.od kvs)
    | some (.list ds) => (pairsD ds).map fun ps => .od (dmake [] ps)
    | _ => none
  | _ => none
def biT (f : String) (ts : List T) : Option T :=
  if f = "len" then biLen ts else if f = "max" then biMax ts else if f = "min" then biMin ts else if f = "sum" then biSum ts else if f = "str" then biStr ts else if f = "abs" then biAbs ts
  else if f = "int" then biInt ts else if f = "all" then biAll ts else if f = "any" then biAny ts else if f = "list" then biList ts else if f = "tuple" then biTup ts else if f = "sorted" then biSorted ts
  else if f = "set" then biSet ts else if f = "listvals" then biVals ts else if f = "dictzip" then biZip ts else if f = "dict" then biDict ts else none

def isNoneD : D → Bool
  | .none => true
  | _ => false
/-- methods of a value that is left as it is -/
def meGet : T → List T → Option T
  | t, [.pl k] => match t.vw with
    | some (.dict kvs) => if okKey k then some (.pl ((dget kvs k).getD .none)) else if isNoneD k then some (.pl .none) else none
    | _ => none
  | t, [.pl k, .pl d] => match t.vw with
    | some (.dict kvs) => if okKey k then some (.pl ((dget kvs k).getD d)) else none
    | _ => none
  | _, _ => none
def meIndex : T → List T → Option T
  | t, [.pl d] => (listT t).bind fun ds => if SeqAt.shaped (.list ds) && SeqAt.shaped d then (indexD ds d).map fun (n : Nat) => .pl (.int (n : Int)) else none
  | _, _ => none
def meJoin : T → List T → Option T
  | t, [u] => (match t.vw with | some (.str sep) => some sep | _ => none).bind fun sep => (match u.vw with
    | some (.list ds) => some ds
    | some (.tuple ds) => some ds
    | _ => none).bind fun ds => (strsD ds).bind fun xs => if (xs.map Str.length).sum + xs.length * sep.length ≤ 1000000 then some (.pl (.str (Txt.join sep xs))) else none
  | _, _ => none
def metT (t : T) (m : String) (ts : List T) : Option T :=
  if m = "get" then meGet t ts else if m = "index" then meIndex t ts else if m = "join" then meJoin t ts else none
def isDictT (t : T) : Bool := match t.vw with | some (.dict _) => true | _ => false
def isListT (t : T) : Bool := match t.vw with | some (.list _) => true | _ => false
def isStrT (t : T) : Bool := match t.vw with | some (.str _) => true | _ => false
/-- what it must be -/
def metOk (t : T) (m : String) : Bool := if m = "get" then isDictT t else if m = "index" then isListT t else if m = "join" then isStrT t else false

/-- methods that change a list, a dict of data: the answer, the thing behind it -/
def muApp : T → List D → Option (D × T)
  | .ol ds, [d] => if small ds.length then some (.none, .ol (ds ++ [d])) else none
  | _, _ => none
def muExt : T → List D → Option (D × T)
  | .ol ds, [.list es] => if small ds.length && small es.length then some (.none, .ol (ds ++ es)) else none
  | _, _ => none
def muPop : T → List D → Option (D × T)
  | .ol ds, [.int i] => if small ds.length then (ixN ds.length i).bind fun j => ds[j]?.map fun d => (d, .ol (ds.eraseIdx j)) else none
  | .ol ds, [] => ds[ds.length - 1]?.map fun d => (d, .ol ds.dropLast)
  | _, _ => none
def muIns : T → List D → Option (D × T)
  | .ol ds, [.int i, d] => if 0 ≤ i ∧ i ≤ 1000000 ∧ small ds.length then some (.none, .ol (ds.take i.toNat ++ [d] ++ ds.drop i.toNat)) else none
  | _, _ => none
def muRev : T → List D → Option (D × T)
  | .ol ds, [] => some (.none, .ol ds.reverse)
  | _, _ => none
def muSet : T → List D → Option (D × T)
  | .od kvs, [k, d] => if okKey k && small kvs.length then (match dget kvs k with
      | some w => some (w, .od kvs)
      | none => some (d, .od (dput kvs k d))) else none
  | _, _ => none
def mutD (t : T) (m : String) (ds : List D) : Option (D × T) :=
  if m = "append" then muApp t ds else if m = "extend" then muExt t ds else if m = "pop" then muPop t ds else if m = "insert" then muIns t ds else if m = "reverse" then muRev t ds
  else if m = "setdefault" then muSet t ds else none
/-- what it must be -/
def mutOk (t : T) (m : String) : Bool := match t with
  | .ol _ => m != "setdefault"
  | .od _ => m == "setdefault"
  | _ => false
/-- a list of lists, objects .. -/
def mutN (t : T) (m : String) (ts : List T) : Option (T × T) := match m, t, ts with
  | "append", .nl us, [u] => if small us.length then some (.pl .none, .nl (us ++ [u])) else none
  | "pop", .nl us, [] => us.getLast?.map fun u => (u, .nl us.dropLast)
  | _, _, _ => none
def isMut (m : String) : Bool := m == "append" || m == "extend" || m == "pop" || m == "insert" || m == "remove" || m == "reverse" || m == "setdefault"

/-! ### places -/
inductive Rt where
  | s (i : Nat) | o (n : Nat) (f : String)
structure Pl where
  r : Rt
  p : List D
def fget : List (String × T) → String → Option T
  | [], _ => none
  | (g, t) :: r, f => if g = f then some t else fget r f
def fput : List (String × T) → String → T → List (String × T)
  | [], f, u => [(f, u)]
  | (g, t) :: r, f, u => if g = f then (g, u) :: r else (g, t) :: fput r f u
def getR (s : S) : Rt → Option T
  | .s i => s.vs[i]?
  | .o n f => s.os[n]?.bind fun o => fget o.fs f
def setR (s : S) (t : T) : Rt → S
  | .s i => { s with vs := s.vs.set i t }
  | .o n f => { s with os := s.os.modify n fun o => { o with fs := fput o.fs f t } }
def getP : T → List D → Option T
  | t, [] => some t
  | t, d :: p => (getI t d).bind fun u => getP u p
def setP : T → List D → T → Option T
  | _, [], u => some u
  | t, d :: p, u => (getI t d).bind fun v => (setP v p u).bind fun w => setI t d w
def getPl (s : S) (q : Pl) : Option T := (getR s q.r).bind fun t => getP t q.p
def setPl (s : S) (q : Pl) (u : T) : Option S := (getR s q.r).bind fun t => (setP t q.p u).map fun t' => setR s t' q.r

def plOf (d : D) : Res T → Res T := id

/-- an argument: a value, or the slot that lends it -/
inductive A where
  | v (t : T) | s (i : Nat) | b (i : Nat)
def lent : T → Bool
  | .ol _ | .od _ | .nl _ | .nd _ => true
  | _ => false
def borOk : T → Bool
  | .un => false
  | .os _ => false
  | .nl _ => false
  | .nd _ => false
  | .nt _ => false
  | _ => true
/-- the arguments themselves; the slots that lend them are empty then -/
def take : List A → S → Option (List T × S)
  | [], s => some ([], s)
  | .v t :: r, s => (take r s).map fun p => (t :: p.1, p.2)
  | .s i :: r, s => match s.vs[i]? with
    | some t => if lent t then (take r { s with vs := s.vs.set i .un }).map fun p => (t :: p.1, p.2) else none
    | none => none
  | .b i :: r, s => match s.vs[i]? with
    | some t => if borOk t then (take r { s with vs := s.vs.set i .un }).map fun p => (t.bor :: p.1, p.2) else none
    | none => none
def slotOk : T → Bool
  | .un => false
  | .kl _ => false
  | .kd _ => false
  | .bl _ => false
  | .bd _ => false
  | .sl _ => false
  | _ => true
/-- they are put back; vs: the slots as they were -/
def back (vs : List T) : List A → List T → S → Option S
  | [], _, s => some s
  | .v _ :: r, _ :: us, s => back vs r us s
  | .s i :: r, u :: us, s => if slotOk u then back vs r us { s with vs := s.vs.set i u } else match u with
    | .un => back vs r us s
    | _ => none
  | .b i :: r, _ :: us, s => match vs[i]? with
    | some t => back vs r us { s with vs := s.vs.set i t }
    | none => none
  | _, [], _ => none

def setSlots (s : S) : List Nat → T → S
  | [], _ => s
  | i :: r, t => setSlots { s with vs := s.vs.set i t } r t

/-! ### targets -/
def asgN (fix : List Nat) (i : Nat) (t : T) (s : S) : Res Unit := if fix.contains i || !slotOk t || decide (s.vs.length ≤ i) then .bad else .ok () { s with vs := s.vs.set i t }
mutual
def asgG (fix : List Nat) : G → T → S → Res Unit
  | .nm i, t, s => asgN fix i t s
  | .tp gs, t, s => match t with
    | .pl (.tuple ds) => if ds.length = gs.length then asgGs fix gs (ds.map .pl) s else .bad
    | _ => .bad
  | .tps gs i hs, t, s => match t with
    | .pl (.tuple ds) => if gs.length + hs.length ≤ ds.length then
        (asgGs fix gs ((ds.take gs.length).map .pl) s).bd fun _ s => (asgN fix i (.ol ((ds.drop gs.length).take (ds.length - gs.length - hs.length))) s).bd fun _ s => asgGs fix hs ((ds.drop (ds.length - hs.length)).map .pl) s
      else .bad
    | _ => .bad
def asgGs (fix : List Nat) : List G → List T → S → Res Unit
  | [], [], s => .ok () s
  | g :: gs, t :: ts, s => (asgG fix g t s).bd fun _ s => asgGs fix gs ts s
  | _, _, _ => .bad
end

/-! ### expressions -/
/-- no call lies in it -/
def quiet : E → Bool
  | .var _ | .lit _ | .con _ => true
  | .idx a i => quiet a && quiet i
  | .att a _ => quiet a
  | .bin _ a b => quiet a && quiet b
  | .neg a => quiet a
  | _ => false

/-- a slot's thing handed on -/
def slotE (i : Nat) (s : S) : Res T := match s.vs[i]? with
  | some (.pl d) => .ok (.pl d) s
  | some (.ob n) => .ok (.ob n) s
  | some (.ol ds) => .ok (.pl (.list ds)) { s with vs := s.vs.set i (.pl (.list ds)) }
  | some (.od kvs) => .ok (.pl (.dict kvs)) { s with vs := s.vs.set i (.pl (.dict kvs)) }
  | _ => .bad
def slotV (i : Nat) (s : S) : Res T := match s.vs[i]? with
  | some .un => .bad
  | some t => .ok t s
  | none => .bad
def slotM (fix : List Nat) (i : Nat) (s : S) : Res T := if fix.contains i then slotE i s else match s.vs[i]? with
  | some (.kl _) => .bad
  | some (.kd _) => .bad
  | some (.bl _) => .bad
  | some (.bd _) => .bad
  | some (.sl _) => .bad
  | some .un => .bad
  | some (.pl d) => .ok (.pl d) s
  | some (.ob n) => .ok (.ob n) s
  | some t => .ok t { s with vs := s.vs.set i .un }
  | none => .bad
def slot (fix : List Nat) (m : Md) (i : Nat) (s : S) : Res T := match m with
  | .e => slotE i s
  | .v => slotV i s
  | .m => slotM fix i s
  | .r => slotM fix i s
/-- a part of a thing: handed on it must be plain -/
def part (m : Md) (t : T) (s : S) : Res T := match m with
  | .v => .ok t s
  | _ => match t with
    | .pl d => .ok (.pl d) s
    | .ob n => .ok (.ob n) s
    | _ => .bad
def pob : T → Bool
  | .pl _ => true
  | .ob _ => true
  | _ => false
/-- whether nobody holds it -/
def tmpE : E → T → Bool
  | .var _, _ => false
  | .att .., t => pob t
  | .idx .., t => pob t
  | _, _ => true
/-- what was looked at, as it is behind what was evaluated since -/
def late (a : E) (t : T) (q : Bool) (s : S) : Res T := match a with
  | .var i => slotV i s
  | .att .. => (match t with
    | .pl _ => .ok t s
    | .ob _ => .ok t s
    | _ => .bad)
  | .idx .. => (match t with
    | .pl _ => .ok t s
    | .ob _ => .ok t s
    | _ => .bad)
  | _ => .ok t s
def toB (r : Res T) : Res Bool := r.bd fun t s => match t with
  | .pl (.bool b) => .ok b s
  | _ => .bad
def toI (r : Res T) : Res Int := r.bd fun t s => match t with
  | .pl (.int b) => .ok b s
  | _ => .bad
/-- a bound of a slice -/
def toO (e : E) (f : S → Res T) (s : S) : Res (Option Int) := match e with
  | .lit .none => .ok none s
  | _ => (toI (f s)).bd fun i s => .ok (some i) s
def toD (r : Res T) : Res D := r.bd fun t s => lift t.dat s
def toP (r : Res T) : Res D := r.bd fun t s => match t with
  | .pl d => .ok d s
  | _ => .bad
/-- two, to be looked at -/
def two (a b : E) (f g : S → Res T) (s : S) : Res (D × D) := (f s).bd fun x s => (g s).bd fun y s => (late a x (quiet b) s).bd fun x s => (lift x.vw s).bd fun x s => (lift y.vw s).bd fun y s => .ok (x, y) s
def twx (a b : E) (f g : S → Res T) (s : S) : Res (D × D) := (f s).bd fun x s => (g s).bd fun y s => (late a x (quiet b) s).bd fun x s => (lift x.vx s).bd fun x s => (lift y.vx s).bd fun y s => .ok (x, y) s
/-- a temporary thing as an argument -/
def T.frz : T → T
  | .ol ds => .pl (.list ds)
  | .od kvs => .pl (.dict kvs)
  | t => t

def lockR (r : Rt) (s : S) : Res (List D × Option Rt) := match getR s r with
  | some (.ol ds) => .ok (ds, some r) (setR s (.kl ds) r)
  | some (.od kvs) => .ok (kvs.map (·.1), some r) (setR s (.kd kvs) r)
  | some t => match items t with
    | some ds => .ok (ds, none) s
    | none => .bad
  | none => .bad
/-- the items of a list, tuple, text -/
def walkT (t : T) : Option (List D) := match t.vw with
  | some (.list ds) => some ds
  | some (.tuple ds) => some ds
  | some (.str z) => some (chars z)
  | _ => none
/-- a slot's thing that is walked: what the slot alone holds is frozen -/
def ownI (i : Nat) (s : S) : Res (List D × Option Rt) := match s.vs[i]? with
  | some (.ol ds) => .ok (ds, none) { s with vs := s.vs.set i (.pl (.list ds)) }
  | some (.od kvs) => .ok (kvs.map (·.1), none) { s with vs := s.vs.set i (.pl (.dict kvs)) }
  | some (.pl (.dict kvs)) => .ok (kvs.map (·.1), none) s
  | some t => (match walkT t with
    | some ds => .ok (ds, none) s
    | none => .bad)
  | none => .bad
def unlock (r : Option Rt) (s : S) : Option S := match r with
  | none => some s
  | some r => match getR s r with
    | some (.kl ds) => some (setR s (.ol ds) r)
    | some (.kd kvs) => some (setR s (.od kvs) r)
    | _ => none

/-- a thing that is walked by its parts: handed on, or somebody else's -/
def held (a : E) (f : S → Res T) (s : S) : Res D := match a with
  | .var i => (match s.vs[i]? with
    | some (.bl ds) => .ok (.list ds) s
    | some (.bd kvs) => .ok (.dict kvs) s
    | _ => toD (f s))
  | _ => toD (f s)
/-- the items that are kept, what each makes -/
def compL {β : Type} (f : D → S → Res (Option β)) : List D → S → Res (List β)
  | [], s => .ok [] s
  | d :: r, s => (f d s).bd fun o s => (compL f r s).bd fun bs s => .ok (match o with | some b => b :: bs | none => bs) s
def setOpt (vs : List T) (i : Nat) : Option T → List T
  | some t => vs.set i t
  | none => vs
def putBack (vs vs0 : List T) : List Nat → List T
  | [] => vs
  | i :: r => putBack (setOpt vs i vs0[i]?) vs0 r
/-- all slots but the comprehension's own ones -/
def fixC (n : Nat) (own fix : List Nat) : List Nat := (List.range n).filter (fun i => !own.contains i) ++ fix
def ownOk (vs : List T) : List Nat → Bool
  | [] => true
  | i :: r => (match vs[i]? with
    | some .un => true
    | some t => pob t
    | none => false) && ownOk vs r
/-- a turn of a comprehension -/
def turnC {β : Type} (fix own : List Nat) (g : G) (c : S → Res T) (e : S → Res β) (d : D) (s : S) : Res (Option β) :=
  (asgG (fixC s.vs.length own fix) g (.pl d) s).bd fun _ s => (toB (c s)).bd fun b s => if b then (e s).bd fun t s => .ok (some t) (setSlots s own .un) else .ok none (setSlots s own .un)
/-- a comprehension: its own slots are empty at each turn, and are behind it as they were -/
def comp {β : Type} (fix own : List Nat) (g : G) (c : S → Res T) (e : S → Res β) (p : List D × Option Rt) (s : S) : Res (List β) :=
  if ownOk s.vs own && decide (p.1.length ≤ 1000000) then
  match compL (turnC fix own g c e) p.1 (setSlots s own .un) with
  | .ok bs s1 => (match unlock p.2 { s1 with vs := putBack s1.vs s.vs own } with
    | some s2 => .ok bs s2
    | none => .bad)
  | _ => .bad
  else .bad
def dats : List T → Option (List D)
  | [] => some []
  | t :: ts => t.dat.bind fun d => (dats ts).map (d :: ·)

def calls (P : Pm) (f : String) (xs : List A) (ks : List String) (us : List T) (s : S) : Res T := match take xs s with
  | some (ts, s1) => (match P.cal f ts ks us s1.os with
    | .ok r outs os => if slotOk r then (match back s.vs xs outs { s1 with os := os } with
      | some s => .ok r s
      | none => .bad) else .bad
    | .ex x outs os => (match back s.vs xs outs { s1 with os := os } with
      | some s => .ex x s
      | none => .bad)
    | .bad => .bad)
  | none => .bad
/-- a new object: its place, then its __init__ -/
def make (P : Pm) (c : String) (xs : List A) (ks : List String) (us : List T) (s : S) : Res T := match take xs s with
  | some (ts, s1) => (match P.cal (c ++ ".__init__") (.ob s1.os.length :: ts) ks us (s1.os ++ [⟨c, []⟩]) with
    | .ok _ (_ :: outs) os => (match back s.vs xs outs { s1 with os := os } with
      | some s' => .ok (.ob s1.os.length) s'
      | none => .bad)
    | .ex x (_ :: outs) os => (match back s.vs xs outs { s1 with os := os } with
      | some s' => .ex x s'
      | none => .bad)
    | _ => .bad)
  | none => .bad
def excOf (c : Str) (fs : List Str) (ds : List D) : Option Exn := match fs, ds with
  | [], [_] => some ⟨c, []⟩
  | [f], [d] => some ⟨c, [(f, d)]⟩
  | _, _ => none
def isiT (sub : Str → Str → Bool) (t : T) (ts : List Str) : Option Bool := t.vw.map fun d => match xoOf d with
  | some x => ts.any fun c => sub x.c c
  | none => ts.any (typeIs d)
def bikT (f k : String) (t : T) (d : D) : Option D := match f, k, (listT t).bind intsD with
  | "max", "default", some is => some (match maxI is with | some i => .int i | none => d)
  | "min", "default", some is => some (match minI is with | some i => .int i | none => d)
  | _, _, _ => none

mutual
def ev (P : Pm) : E → Md → S → Res T
  | .var i, m, s => slot P.fix m i s
  | .lit d, _, s => .ok (.pl d) s
  | .con x, _, s => lift ((P.con x).map .pl) s
  | .tup n es, _, s => if n then (evL P es .m s).bd fun ts s => .ok (.nt ts) s else (evD P es s).bd fun ds s => .ok (.pl (.tuple ds)) s
  | .lst n es, _, s => if n then (evL P es .m s).bd fun ts s => .ok (.nl ts) s else (evD P es s).bd fun ds s => .ok (.ol ds) s
  | .dct n ks vs, _, s => (evD P ks s).bd fun ks s => if ks.all okKey then
      (if n then (evL P vs .m s).bd fun ts s => .ok (.nd (dmake [] (ks.zip ts))) s else (evD P vs s).bd fun ds s => .ok (.od (dmake [] (ks.zip ds))) s) else .bad
  | .bin op a b, _, s => (twx a b (ev P a .v) (ev P b .v) s).bd fun p s => lift (binD op p.1 p.2) s
  | .neg a, _, s => (toI (ev P a .e s)).bd fun i s => .ok (.pl (.int (-i))) s
  | .not a, _, s => (toB (ev P a .e s)).bd fun b s => .ok (.pl (.bool (!b))) s
  | .and a b, _, s => (toB (ev P a .e s)).bd fun x s => if x then (toB (ev P b .e s)).bd fun y s => .ok (.pl (.bool y)) s else .ok (.pl (.bool false)) s
  | .or a b, _, s => (toB (ev P a .e s)).bd fun x s => if x then .ok (.pl (.bool true)) s else (toB (ev P b .e s)).bd fun y s => .ok (.pl (.bool y)) s
  | .ite c a b, m, s => (toB (ev P c .e s)).bd fun x s => if x then ev P a m.arm s else ev P b m.arm s
  | .cmp op a b, _, s => (two a b (ev P a .v) (ev P b .v) s).bd fun p s => lift ((cmpD op p.1 p.2).map fun b => .pl (.bool b)) s
  | .chn o1 o2 a b c, _, s => (toP (ev P a .e s)).bd fun x s => (toP (ev P b .e s)).bd fun y s => (lift (cmpD o1 x y) s).bd fun k s =>
      if k then (toP (ev P c .e s)).bd fun z s => lift ((cmpD o2 y z).map fun b => .pl (.bool b)) s else .ok (.pl (.bool false)) s
  | .idx a i, m, s => (ev P a .v s).bd fun t s => (toP (ev P i .e s)).bd fun j s => (late a t (quiet i) s).bd fun t s => (lift (getI t j) s).bd fun u s => part m u s
  | .slc a lo hi, _, s => (ev P a .v s).bd fun t s => (toO lo (ev P lo .e) s).bd fun l s => (toO hi (ev P hi .e) s).bd fun h s => (late a t (quiet lo && quiet hi) s).bd fun t s => (match t.vw with
    | some (.list ds) => .ok (.ol (cut ds l h)) s
    | some (.tuple ds) => .ok (.pl (.tuple (cut ds l h))) s
    | some (.str z) => if z.length ≤ 1000000 then .ok (.pl (.str (cutS z l h))) s else .bad
    | _ => .bad)
  | .rev a, _, s => (ev P a .v s).bd fun t s => (match t.vw with
    | some (.list ds) => .ok (.ol ds.reverse) s
    | some (.tuple ds) => .ok (.pl (.tuple ds.reverse)) s
    | _ => .bad)
  | .att a f, m, s => (ev P a .e s).bd fun t s => (match t with
    | .ob n => (lift (getR s (.o n f)) s).bd fun u s => part m u s
    | .pl d => (lift ((xoOf d).bind fun x => x.fs.lookup (Str.ofString f)) s).bd fun d s => .ok (.pl d) s
    | _ => .bad)
  | .bi f as, _, s => (evV P as s).bd fun ts s => lift (biT f ts) s
  | .bik f a k b, _, s => (ev P a .v s).bd fun t s => (toP (ev P b .e s)).bd fun d s => (late a t (quiet b) s).bd fun t s => lift ((bikT f k t d).map .pl) s
  | .isi a ts, _, s => (ev P a .v s).bd fun t s => lift ((isiT P.sub t ts).map fun b => .pl (.bool b)) s
  | .call f as ks bs, _, s => (evA P as s).bd fun xs s => (evL P bs .e s).bd fun us s => calls P f xs ks (us.map T.frz) s
  | .exc c as bs, _, s => (match P.xf (Str.ofString c) with
    | some fs => (evD P as s).bd fun ds s => (evD P bs s).bd fun es s => lift ((excOf (Str.ofString c) fs (ds ++ es)).map fun x => .pl (xoD x)) s
    | none => .bad)
  | .new c as ks bs, _, s => (evA P as s).bd fun xs s => (evL P bs .e s).bd fun us s => make P c xs ks (us.map T.frz) s
  | .mut a m as, _, s => (evP P a s).bd fun q s => (match getPl s q with
    | some t0 => if mutOk t0 m then (evD P as s).bd fun ds s => (match getPl s q with
        | some t => (match mutD t m ds with
          | some (r, t') => (match setPl s q t' with
            | some s => .ok (.pl r) s
            | none => .bad)
          | none => .bad)
        | none => .bad)
      else .bad
    | none => .bad)
  | .met a m as, _, s => (ev P a .v s).bd fun t s => if metOk t m then (evV P as s).bd fun ts s => (late a t (as.all quiet) s).bd fun t s => lift (metT t m ts) s else .bad
  | .obm a m as ks bs, _, s => (ev P a .e s).bd fun t s => (match t with
    | .ob n => (match s.os[n]? with
      | some o => (evA P as s).bd fun xs s => (evL P bs .e s).bd fun us s => calls P (o.c ++ "." ++ m) (.v (.ob n) :: xs) ks (us.map T.frz) s
      | none => .bad)
    | _ => .bad)
  | .lc n elt own g it c, _, s => (evI P it s).bd fun p s => if n then (comp P.fix own g (ev P c .e) (ev P elt .m) p s).bd fun ts s => .ok (.nl ts) s
      else (comp P.fix own g (ev P c .e) (fun s => toD (ev P elt .e s)) p s).bd fun ds s => .ok (.ol ds) s
  | .sc elt own g it c, _, s => (evI P it s).bd fun p s => (comp P.fix own g (ev P c .e) (fun s => toD (ev P elt .e s)) p s).bd fun ds s => if ds.all okKey && decide (ds.length ≤ 4000) then .ok (.os (firsts [] ds)) s else .bad
  | .dc n key elt own g it c, _, s => (evI P it s).bd fun p s =>
      if n then (comp P.fix own g (ev P c .e) (fun s => (toP (ev P key .e s)).bd fun k s => (ev P elt .m s).bd fun t s => .ok (k, t) s) p s).bd fun ps s => if ps.all (fun q => okKey q.1) then .ok (.nd (dmake [] ps)) s else .bad
      else (comp P.fix own g (ev P c .e) (fun s => (toP (ev P key .e s)).bd fun k s => (toD (ev P elt .e s)).bd fun t s => .ok (k, t) s) p s).bd fun ps s => if ps.all (fun q => okKey q.1) then .ok (.od (dmake [] ps)) s else .bad
/-- several, handed on as data -/
def evD (P : Pm) : List E → S → Res (List D)
  | [], s => .ok [] s
  | e :: es, s => (toD (ev P e .e s)).bd fun d s => (evD P es s).bd fun ds s => .ok (d :: ds) s
def evL (P : Pm) : List E → Md → S → Res (List T)
  | [], _, s => .ok [] s
  | e :: es, m, s => (ev P e m s).bd fun t s => (evL P es m s).bd fun ts s => .ok (t :: ts) s
/-- several, to be looked at -/
def evV (P : Pm) : List E → S → Res (List T)
  | [], s => .ok [] s
  | e :: es, s => (ev P e .v s).bd fun t s => (evV P es s).bd fun ts s => (late e t (es.all quiet) s).bd fun t s => .ok (t :: ts) s
/-- arguments of a def -/
def evA (P : Pm) : List Ar → S → Res (List A)
  | [], s => .ok [] s
  | a :: as, s => (evG P a s).bd fun x s => (evA P as s).bd fun xs s => .ok (x :: xs) s
def evG (P : Pm) : Ar → S → Res A
  | .e a, s => (ev P a .e s).bd fun t s => if pob t.frz then .ok (.v t.frz) s else .bad
  | .s i, s => (match s.vs[i]? with
    | some t => if lent t then .ok (.s i) s else (slotE i s).bd fun t s => .ok (.v t) s
    | none => .bad)
  | .b i, s => (match s.vs[i]? with
    | some t => if borOk t then .ok (.b i) s else .bad
    | none => .bad)
  | .be a, s => (ev P a .v s).bd fun t s => if tmpE a t && borOk t then .ok (.v t.bor) s else .bad
  | .mv a, s => (ev P a .m s).bd fun t s => .ok (.v t) s
/-- a place -/
def evP (P : Pm) : E → S → Res Pl
  | .var i, s => .ok ⟨.s i, []⟩ s
  | .att a f, s => (ev P a .e s).bd fun t s => (match t with
    | .ob n => .ok ⟨.o n f, []⟩ s
    | _ => .bad)
  | .idx a i, s => (evP P a s).bd fun q s => (toP (ev P i .e s)).bd fun j s => .ok ⟨q.r, q.p ++ [j]⟩ s
  | _, _ => .bad
/-- what is walked: its items; the place that is locked meanwhile -/
def evI (P : Pm) : It → S → Res (List D × Option Rt)
  | .rng a, s => (toI (ev P a .e s)).bd fun n s => if -1000000 ≤ n ∧ n ≤ 1000000 then .ok (rangeD 0 n.toNat, none) s else .bad
  | .rng2 a b, s => (toI (ev P a .e s)).bd fun m s => (toI (ev P b .e s)).bd fun n s => if -1000000 ≤ m ∧ m ≤ 1000000 ∧ -1000000 ≤ n ∧ n ≤ 1000000 then .ok (rangeD m (n - m).toNat, none) s else .bad
  | .rngd a b, s => (toI (ev P a .e s)).bd fun m s => (toI (ev P b .e s)).bd fun n s => if m ≤ 1000000 ∧ -1000000 ≤ n ∧ n ≤ 1000000 then .ok (rangeDn m (m - n).toNat, none) s else .bad
  | .enum a k, s => (held a (ev P a .e) s).bd fun d s => (match d with
    | .list ds => .ok (enumD k ds, none) s
    | .tuple ds => .ok (enumD k ds, none) s
    | _ => .bad)
  | .zip a b, s => (held a (ev P a .e) s).bd fun d s => (held b (ev P b .e) s).bd fun e s => (match items (.pl d), items (.pl e) with
    | some ds, some es => .ok (zipD ds es, none) s
    | _, _ => .bad)
  | .items a, s => (toD (ev P a .e s)).bd fun d s => (match d with
    | .dict kvs => .ok (kvs.map fun p => .tuple [p.1, p.2], none) s
    | _ => .bad)
  | .vals a, s => (toD (ev P a .e s)).bd fun d s => (match d with
    | .dict kvs => .ok (kvs.map (·.2), none) s
    | _ => .bad)
  | .own i, s => ownI i s
  | .fld a f, s => (ev P a .e s).bd fun t s => (match t with
    | .ob n => lockR (.o n f) s
    | _ => .bad)
  | .gen a, s => (ev P a .v s).bd fun t s => if tmpE a t then (lift (walkT t) s).bd fun ds s => .ok (ds, none) s else .bad
end

/-! ### statements -/
def forL (fix : List Nat) (g : G) (body : S → Res Fl) : List D → S → Res Fl
  | [], s => .ok .nx s
  | d :: r, s => (asgG fix g (.pl d) s).bd fun _ s => (body s).bd fun f s => match f with
    | .nx => forL fix g body r s
    | .ct => forL fix g body r s
    | .br => .ok .nx s
    | .rt t => .ok (.rt t) s
def whlL (c : S → Res Bool) (body : S → Res Fl) : Nat → S → Res Fl
  | 0, _ => .bad
  | n + 1, s => (c s).bd fun b s => if b then (body s).bd fun f s => (match f with
    | .nx => whlL c body n s
    | .ct => whlL c body n s
    | .br => .ok .nx s
    | .rt t => .ok (.rt t) s) else .ok .nx s
def fixR : Option Rt → List Nat → List Nat
  | some (.s i), fix => i :: fix
  | _, fix => fix
/-- a loop's end: the place is free again -/
def ended (q : Option Rt) (r : Res Fl) : Res Fl := match r with
  | .ok f s => (match unlock q s with
    | some s => .ok f s
    | none => .bad)
  | .ex x s => (match unlock q s with
    | some s => .ex x s
    | none => .bad)
  | .bad => .bad
def setAt (q : Pl) (i : D) (u : T) (s : S) : Res Unit := match getPl s q with
  | some t => (match setI t i u with
    | some t' => (match setPl s q t' with
      | some s => .ok () s
      | none => .bad)
    | none => .bad)
  | none => .bad
def placeOk (s : S) (q : Pl) : Bool := match getPl s q with
  | some t => lent t
  | none => false
def setFld (n : Nat) (f : String) (u : T) (s : S) : Res Unit := match getR s (.o n f) with
  | some (.kl _) => .bad
  | some (.kd _) => .bad
  | _ => match s.os[n]? with
    | some _ => .ok () (setR s u (.o n f))
    | none => .bad

mutual
def exC (P : Pm) : C → S → Res Fl
  | .asg g e, s => (ev P e .e s).bd fun t s => (asgG P.fix g t s).bd fun _ s => .ok .nx s
  | .asS a i e, s => (ev P e .e s).bd fun u s => (evP P a s).bd fun q s => if placeOk s q then (toP (ev P i .e s)).bd fun j s => (setAt q j u s).bd fun _ s => .ok .nx s else .bad
  | .asA a f e, s => (ev P e .m s).bd fun u s => (ev P a .e s).bd fun t s => (match t with
    | .ob n => (setFld n f u s).bd fun _ s => .ok .nx s
    | _ => .bad)
  | .as2 a i b j e e', s => (toP (ev P e .e s)).bd fun x s => (toP (ev P e' .e s)).bd fun y s =>
      (evP P a s).bd fun q s => if placeOk s q then (toP (ev P i .e s)).bd fun i s => (setAt q i (.pl x) s).bd fun _ s =>
      (evP P b s).bd fun q s => if placeOk s q then (toP (ev P j .e s)).bd fun j s => (setAt q j (.pl y) s).bd fun _ s => .ok .nx s else .bad
      else .bad
  | .aug i op e, s => (toI (slotE i s)).bd fun x s => (toI (ev P e .e s)).bd fun y s => if op == .Add then (asgG P.fix (.nm i) (.pl (.int (x + y))) s).bd fun _ s => .ok .nx s else .bad
  | .augS a i op e, s => (evP P a s).bd fun q s => (toP (ev P i .e s)).bd fun j s => (match (getPl s q).bind fun t => getI t j with
    | some (.pl x) => (toP (ev P e .e s)).bd fun y s => (lift (binD op x y) s).bd fun t s => (match t with
      | .pl d => (setAt q j (.pl d) s).bd fun _ s => .ok .nx s
      | _ => .bad)
    | _ => .bad)
  | .exp e, s => (ev P e .e s).bd fun _ s => .ok .nx s
  | .ret e, s => (ev P e .r s).bd fun t s => .ok (.rt t) s
  | .ite c a b, s => (toB (ev P c .e s)).bd fun x s => if x then exCs P a s else exCs P b s
  | .whl c b, s => whlL (fun s => toB (ev P c .e s)) (exCs P b) P.fuel s
  | .for g it b, s => (evI P it s).bd fun p s => ended p.2 (forL (fixR p.2 P.fix) g (exCs { P with fix := fixR p.2 P.fix } b) p.1 s)
  | .rai c as, s => (match P.xf c with
    | some fs => (evD P as s).bd fun ds s => (match excOf c fs ds with
      | some x => .ex x s
      | none => .bad)
    | none => .bad)
  | .tri b cs n h, s => (match exCs P b s with
    | .ex x s => if cs.any (P.sub x.c) then (match n with
        | none => exCs P h s
        | some i => (asgG P.fix (.nm i) (.pl (xoD x)) s).bd fun _ s => (exCs P h s).bd fun f s => .ok f { s with vs := s.vs.set i .un })
      else .ex x s
    | r => r)
  | .pas, s => .ok .nx s
  | .brk, s => .ok .br s
  | .cnt, s => .ok .ct s
def exCs (P : Pm) : List C → S → Res Fl
  | [], s => .ok .nx s
  | c :: r, s => (exC P c s).bd fun f s => match f with
    | .nx => exCs P r s
    | f => .ok f s
end

/-! ### defs -/
structure FD where
  ps : List String
  /-- the keyword-only ones behind them, with their defaults (none: no default) -/
  kw : List (String × Option D)
  n : Nat
  body : List C

def kwFill (ks : List String) (us : List T) : List (String × Option D) → Option (List T)
  | [] => some []
  | (k, d) :: r => (match (ks.zip us).lookup k with
    | some t => some t
    | none => d.map .pl).bind fun t => (kwFill ks us r).map (t :: ·)
def posFill (ks : List String) (us : List T) : List String → Option (List T)
  | [] => some []
  | k :: r => ((ks.zip us).lookup k).bind fun t => (posFill ks us r).map (t :: ·)
/-- the parameters' things -/
def binds (fd : FD) (ts : List T) (ks : List String) (us : List T) : Option (List T) :=
  if ts.length ≤ fd.ps.length then (posFill ks us (fd.ps.drop ts.length)).bind fun more => (kwFill ks us fd.kw).map fun kws => ts ++ more ++ kws else none
def fixOf : Nat → List T → List Nat
  | _, [] => []
  | k, t :: r => if lent t then k :: fixOf (k + 1) r else fixOf (k + 1) r
/-- what the lent arguments are behind it -/
def outsOf : List T → List T → List T
  | [], _ => []
  | t :: ts, us => (if lent t then us.head?.getD .un else .un) :: outsOf ts us.tail
def runF (P : Pm) (fd : FD) (ts : List T) (os : List O) : CRes :=
  match exCs { P with fix := fixOf 0 ts } fd.body ⟨ts ++ List.replicate (fd.n - ts.length) .un, os⟩ with
  | .ok .nx s => .ok (.pl .none) (outsOf ts s.vs) s.os
  | .ok (.rt t) s => .ok t (outsOf ts s.vs) s.os
  | .ok _ _ => .bad
  | .ex x s => .ex x (outsOf ts s.vs) s.os
  | .bad => .bad

/-- the text: its defs, its constants, its exceptions -/
structure Tx where
  fd : String → Option FD
  con : String → Option D
  sub : Str → Str → Bool
  xf : Str → Option (List Str)
  fuel : Nat
def call (X : Tx) : Nat → String → List T → List String → List T → List O → CRes
  | 0, _, _, _, _, _ => .bad
  | n + 1, f, ts, ks, us, os => match X.fd f with
    | some fd => (match binds fd ts ks us with
      | some ts => runF ⟨call X n, X.con, X.sub, X.xf, X.fuel, []⟩ fd ts os
      | none => .bad)
    | none => .bad
end EV
end PartEvCore
section PartEvRel
set_option autoImplicit false
set_option linter.all false
set_option maxRecDepth 100000
/-! EvRel: how the interpreter's data lie in the hand layer's heap. -/
namespace EV
open PySem PySem.Spec PyProof.Rows L2

/-- a list, a tuple of the written part -/
def KL (K : PySem.W.Frag) (a : Addr) (xs : List V) : Prop :=
  ∃ (o : Obj) (its : Array Value) (n : Nat), K.lookup a = some o ∧ o.cls = .type "list" ∧ o.dict = none ∧ o.data = .seq its n ∧ its.size ≤ sizeLine ∧ Vals xs its.toList
def KT (K : PySem.W.Frag) (a : Addr) (xs : List V) : Prop :=
  ∃ (o : Obj) (its : Array Value) (n : Nat), K.lookup a = some o ∧ o.cls = .type "tuple" ∧ o.data = .seq its n ∧ its.size ≤ sizeLine ∧ Vals xs its.toList
def keyD : Key → D
  | .inl i => .int i
  | .inr x => .str x

mutual
inductive Pd (K : PySem.W.Frag) (F : Hp) : V → D → Prop
  | non : Pd K F .non .none
  | bl (b : Bool) : Pd K F (.bl b) (.bool b)
  | int (i : Int) : Pd K F (.int i) (.int i)
  | str (x : Str) : Pd K F (.str x) (.str x)
  | lst {a : Addr} {xs : List V} {ds : List D} : F a = some (.lst xs) → PdAll K F xs ds → Pd K F (.ref a) (.list ds)
  | tup {a : Addr} {xs : List V} {ds : List D} : F a = some (.tup xs) ∨ KT K a xs → PdAll K F xs ds → Pd K F (.ref a) (.tuple ds)
  | dic {a : Addr} {kvs : List (Key × V)} {ds : List (D × D)} : F a = some (.dK kvs) → PdKv K F kvs ds → Pd K F (.ref a) (.dict ds)
inductive PdAll (K : PySem.W.Frag) (F : Hp) : List V → List D → Prop
  | nil : PdAll K F [] []
  | cons {v : V} {vs : List V} {d : D} {ds : List D} : Pd K F v d → PdAll K F vs ds → PdAll K F (v :: vs) (d :: ds)
inductive PdKv (K : PySem.W.Frag) (F : Hp) : List (Key × V) → List (D × D) → Prop
  | nil : PdKv K F [] []
  | cons {k : Key} {v : V} {vs : List (Key × V)} {d : D} {ds : List (D × D)} : Pd K F v d → PdKv K F vs ds → PdKv K F ((k, v) :: vs) ((keyD k, d) :: ds)
end
section
variable {K : PySem.W.Frag} {F F' H : Hp}
/-- more is frozen -/
def Sub (F F' : Hp) : Prop := ∀ a o, F a = some o → F' a = some o
theorem Sub.refl (F : Hp) : Sub F F := fun _ _ h => h
theorem Sub.trans {F F' F'' : Hp} (a : Sub F F') (b : Sub F' F'') : Sub F F'' := fun c o h => b c o (a c o h)
mutual
theorem Pd.mono (h : Sub F F') : ∀ {v : V} {d : D}, Pd K F v d → Pd K F' v d
  | _, _, .non => .non
  | _, _, .bl b => .bl b
  | _, _, .int i => .int i
  | _, _, .str x => .str x
  | _, _, .lst e r => .lst (h _ _ e) (PdAll.mono h r)
  | _, _, .tup e r => .tup (e.imp_left (h _ _)) (PdAll.mono h r)
  | _, _, .dic e r => .dic (h _ _ e) (PdKv.mono h r)
theorem PdAll.mono (h : Sub F F') : ∀ {v : List V} {d : List D}, PdAll K F v d → PdAll K F' v d
  | _, _, .nil => .nil
  | _, _, .cons a r => .cons (Pd.mono h a) (PdAll.mono h r)
theorem PdKv.mono (h : Sub F F') : ∀ {v : List (Key × V)} {d : List (D × D)}, PdKv K F v d → PdKv K F' v d
  | _, _, .nil => .nil
  | _, _, .cons a r => .cons (Pd.mono h a) (PdKv.mono h r)
end
theorem PdAll.length : ∀ {v : List V} {d : List D}, PdAll K F v d → v.length = d.length
  | _, _, .nil => rfl
  | _, _, .cons _ r => congrArg Nat.succ r.length
theorem PdAll.get : ∀ {v : List V} {d : List D} {i : Nat} {x : D}, PdAll K F v d → d[i]? = some x → ∃ y, v[i]? = some y ∧ Pd K F y x
  | _, _, _, _, .nil, e => by simp at e
  | _, _, 0, _, .cons a r, e => by simp at e; subst e; exact ⟨_, rfl, a⟩
  | _, _, i + 1, x, .cons a r, e => by simpa using PdAll.get (i := i) (x := x) r (by simpa using e)
theorem PdAll.get' : ∀ {v : List V} {d : List D} {i : Nat} {y : V}, PdAll K F v d → v[i]? = some y → ∃ x, d[i]? = some x ∧ Pd K F y x
  | _, _, _, _, .nil, e => by simp at e
  | _, _, 0, _, .cons a r, e => by simp at e; subst e; exact ⟨_, rfl, a⟩
  | _, _, i + 1, x, .cons a r, e => by simpa using PdAll.get' (i := i) (y := x) r (by simpa using e)
theorem PdAll.append : ∀ {v w : List V} {d e : List D}, PdAll K F v d → PdAll K F w e → PdAll K F (v ++ w) (d ++ e)
  | _, _, _, _, .nil, s => s
  | _, _, _, _, .cons a r, s => .cons a (PdAll.append r s)
theorem PdAll.take : ∀ {v : List V} {d : List D} (n : Nat), PdAll K F v d → PdAll K F (v.take n) (d.take n)
  | _, _, 0, _ => .nil
  | _, _, _ + 1, .nil => .nil
  | _, _, n + 1, .cons a r => .cons a (PdAll.take n r)
theorem PdAll.drop : ∀ {v : List V} {d : List D} (n : Nat), PdAll K F v d → PdAll K F (v.drop n) (d.drop n)
  | _, _, 0, r => r
  | _, _, _ + 1, .nil => .nil
  | _, _, n + 1, .cons _ r => PdAll.drop n r
theorem PdAll.set {y : V} {x : D} (p : Pd K F y x) : ∀ {v : List V} {d : List D} (n : Nat), PdAll K F v d → PdAll K F (v.set n y) (d.set n x)
  | _, _, _, .nil => .nil
  | _, _, 0, .cons _ r => .cons p r
  | _, _, n + 1, .cons a r => .cons a (PdAll.set p n r)
theorem PdAll.reverse : ∀ {v : List V} {d : List D}, PdAll K F v d → PdAll K F v.reverse d.reverse
  | _, _, .nil => .nil
  | _, _, .cons a r => by
    rw [List.reverse_cons, List.reverse_cons]
    exact (PdAll.reverse r).append (.cons a .nil)
theorem PdAll.snoc {v : List V} {d : List D} {y : V} {x : D} (r : PdAll K F v d) (p : Pd K F y x) : PdAll K F (v ++ [y]) (d ++ [x]) := r.append (.cons p .nil)
theorem PdAll.erase : ∀ {v : List V} {d : List D} (n : Nat), PdAll K F v d → PdAll K F (v.eraseIdx n) (d.eraseIdx n)
  | _, _, _, .nil => .nil
  | _, _, 0, .cons _ r => r
  | _, _, n + 1, .cons a r => .cons a (PdAll.erase n r)
theorem PdAll.ints : ∀ {v : List V} {is : List Int}, PdAll K F v (is.map PyData.int) → v = is.map V.int
  | _, [], h => by cases h; rfl
  | _, i :: is, h => by
    cases h with
    | cons a r => cases a; rw [PdAll.ints r]; rfl
theorem PdAll.of_ints : ∀ (is : List Int), PdAll K F (is.map V.int) (is.map PyData.int)
  | [] => .nil
  | i :: is => .cons (.int i) (PdAll.of_ints is)

/-- what is frozen stands in H (a dict may be locked) -/
def FH (F H : Hp) : Prop := ∀ a o, F a = some o → H a = some o ∨ ∃ kvs ob, o = .dK kvs ∧ H a = some (.frz ob o)
theorem FH.rd {F H : Hp} (h : FH F H) {a : Addr} {o : HO} (e : F a = some o) : Rd H a o := (h a o e).imp_right fun ⟨_, ob, _, z⟩ => ⟨ob, z⟩
theorem FH.lst {F H : Hp} (h : FH F H) {a : Addr} {xs : List V} (e : F a = some (.lst xs)) : H a = some (.lst xs) := (h a _ e).resolve_right fun ⟨_, _, z, _⟩ => nomatch z
theorem FH.tup {F H : Hp} (h : FH F H) {a : Addr} {xs : List V} (e : F a = some (.tup xs)) : H a = some (.tup xs) := (h a _ e).resolve_right fun ⟨_, _, z, _⟩ => nomatch z
theorem FH.no {F H : Hp} (h : FH F H) {a : Addr} (e : H a = none) : F a = none := by
  cases q : F a with
  | none => rfl
  | some o => rcases h a o q with z | ⟨_, _, _, z⟩ <;> (rw [e] at z; cases z)
/-- v looks like the datum d at H: the top of it may be changed later -/
inductive Lk (K : PySem.W.Frag) (F H : Hp) : V → D → Prop
  | pd {v : V} {d : D} : Pd K F v d → Lk K F H v d
  | lst {a : Addr} {xs : List V} {ds : List D} : SqL K H a xs → PdAll K F xs ds → Lk K F H (.ref a) (.list ds)
  | dic {a : Addr} {kvs : List (Key × V)} {ds : List (D × D)} : Rd H a (.dK kvs) → PdKv K F kvs ds → Lk K F H (.ref a) (.dict ds)
/-- .. a list stands by itself -/
inductive Lx (K : PySem.W.Frag) (F H : Hp) : V → D → Prop
  | pd {v : V} {d : D} : Pd K F v d → Lx K F H v d
  | lst {a : Addr} {xs : List V} {ds : List D} : H a = some (.lst xs) → PdAll K F xs ds → Lx K F H (.ref a) (.list ds)
  | dic {a : Addr} {kvs : List (Key × V)} {ds : List (D × D)} : Rd H a (.dK kvs) → PdKv K F kvs ds → Lx K F H (.ref a) (.dict ds)
theorem Lx.lk {v : V} {d : D} (h : Lx K F H v d) : Lk K F H v d := by
  cases h with
  | pd h => exact .pd h
  | lst e r => exact .lst (.inl (.inl e)) r
  | dic e r => exact .dic e r
theorem Lx.seqL (fh : FH F H) {v : V} {ds : List D} (h : Lx K F H v (.list ds)) : ∃ a xs, v = .ref a ∧ H a = some (.lst xs) ∧ PdAll K F xs ds := by
  cases h with
  | pd h => cases h with
    | lst e r => exact ⟨_, _, rfl, fh.lst e, r⟩
  | lst e r => exact ⟨_, _, rfl, e, r⟩
theorem Lk.seqL (fh : FH F H) {v : V} {ds : List D} (h : Lk K F H v (.list ds)) : ∃ a xs, v = .ref a ∧ SqL K H a xs ∧ PdAll K F xs ds := by
  cases h with
  | pd h => cases h with
    | lst e r => exact ⟨_, _, rfl, .inl (.inl (fh.lst e)), r⟩
  | lst e r => exact ⟨_, _, rfl, e, r⟩
theorem Lk.seqT (fh : FH F H) {v : V} {ds : List D} (h : Lk K F H v (.tuple ds)) : ∃ a xs, v = .ref a ∧ SqT K H a xs ∧ PdAll K F xs ds := by
  cases h with
  | pd h => cases h with
    | tup e r => exact ⟨_, _, rfl, e.elim (fun e => .inl (.inl (fh.tup e))) .inr, r⟩
theorem Lk.dict (fh : FH F H) {v : V} {ds : List (D × D)} (h : Lk K F H v (.dict ds)) : ∃ a kvs, v = .ref a ∧ Rd H a (.dK kvs) ∧ PdKv K F kvs ds := by
  cases h with
  | pd h => cases h with
    | dic e r => exact ⟨_, _, rfl, fh.rd e, r⟩
  | dic e r => exact ⟨_, _, rfl, e, r⟩
theorem Lk.int {v : V} {i : Int} (h : Lk K F H v (.int i)) : v = .int i := by cases h with | pd h => cases h; rfl
theorem Lk.str {v : V} {i : Str} (h : Lk K F H v (.str i)) : v = .str i := by cases h with | pd h => cases h; rfl
theorem Lk.bool {v : V} {i : Bool} (h : Lk K F H v (.bool i)) : v = .bl i := by cases h with | pd h => cases h; rfl
theorem Lk.none {v : V} (h : Lk K F H v .none) : v = .non := by cases h with | pd h => cases h; rfl
mutual
theorem Pd.dp (fh : FH F H) : ∀ {v : V} {d : D}, Pd K F v d → d.plain = true → Dp K H v d
  | _, _, .non, _ => .non
  | _, _, .bl b, _ => .bl b
  | _, _, .int i, _ => .int i
  | _, _, .str x, _ => .str x
  | _, _, .lst e r, p => .lst (.inl (.inl (fh.lst e))) (PdAll.dp fh r p)
  | _, _, .tup e r, p => .tup (e.elim (fun e => .inl (.inl (fh.tup e))) .inr) (PdAll.dp fh r p)
  | _, _, .dic _ _, p => nomatch p
theorem PdAll.dp (fh : FH F H) : ∀ {v : List V} {d : List D}, PdAll K F v d → PyData.plainAll d = true → DpAll K H v d
  | _, _, .nil, _ => .nil
  | _, _, .cons a r, p => by
    have p' := Bool.and_eq_true_iff.mp (show (_ && _) = true from p)
    exact .cons (Pd.dp fh a p'.1) (PdAll.dp fh r p'.2)
end
theorem Lk.dp (fh : FH F H) {v : V} {d : D} (h : Lk K F H v d) (p : d.plain = true) : Dp K H v d := by
  cases h with
  | pd h => exact h.dp fh p
  | lst e r => exact .lst e (r.dp fh p)
  | dic _ _ => exact nomatch p

/-! ### dicts -/
theorem keyEq_iff {k j : Key} : keyEq (keyD k) (keyD j) = decide (k = j) := by
  cases k <;> cases j <;> simp [keyD, keyEq, Bool.beq_eq_decide_eq]
theorem okKey_iff {d : D} (h : okKey d = true) : ∃ k, d = keyD k := by
  cases d with
  | int i => exact ⟨.inl i, rfl⟩
  | str i => exact ⟨.inr i, rfl⟩
  | _ => exact nomatch h
theorem PdKv.val : ∀ {kvs : List (Key × V)} {ds : List (D × D)} (j : Key), PdKv K F kvs ds →
    (∃ v d, valV kvs j = some v ∧ dget ds (keyD j) = some d ∧ Pd K F v d) ∨ (valV kvs j = none ∧ dget ds (keyD j) = none)
  | _, _, j, .nil => .inr ⟨rfl, rfl⟩
  | _, _, j, .cons (k := k) (v := v) (d := d) (vs := vs) (ds := ds) a r => by
    unfold dget
    rw [keyEq_iff]
    by_cases e : k = j
    · rw [decide_eq_true e, valV_pos (p := (k, v)) e]
      exact .inl ⟨v, d, rfl, rfl, a⟩
    · rw [decide_eq_false e, valV_neg (p := (k, v)) e]
      exact PdKv.val j r
theorem PdKv.length : ∀ {v : List (Key × V)} {d : List (D × D)}, PdKv K F v d → v.length = d.length
  | _, _, .nil => rfl
  | _, _, .cons _ r => congrArg Nat.succ r.length
theorem PdKv.append : ∀ {v w : List (Key × V)} {d e : List (D × D)}, PdKv K F v d → PdKv K F w e → PdKv K F (v ++ w) (d ++ e)
  | _, _, _, _, .nil, s => s
  | _, _, _, _, .cons a r, s => .cons a (PdKv.append r s)
theorem PdKv.any : ∀ {kvs : List (Key × V)} {ds : List (D × D)} (j : Key), PdKv K F kvs ds → (kvs.any fun kv => decide (kv.1 = j)) = dhas ds (keyD j) := fun {kvs ds} j h => by
  rw [valV_any]
  unfold dhas
  rcases h.val j with ⟨v, d, e1, e2, _⟩ | ⟨e1, e2⟩ <;> rw [e1, e2] <;> rfl
theorem PdKv.repl (j : Key) {y : V} {x : D} (p : Pd K F y x) : ∀ {kvs : List (Key × V)} {ds : List (D × D)}, PdKv K F kvs ds →
    PdKv K F (kvs.map fun kv => if kv.1 = j then (kv.1, y) else kv) (ds.map fun q => if keyEq q.1 (keyD j) then (q.1, x) else q)
  | _, _, .nil => .nil
  | _, _, .cons (k := k) (v := w) (d := d) (vs := vs) (ds := ds) a r => by
    rw [List.map_cons, List.map_cons]
    have ih := PdKv.repl j p r
    simp only [keyEq_iff]
    by_cases e : k = j
    · rw [if_pos e, decide_eq_true e, if_pos rfl]
      exact .cons p ih
    · rw [if_neg e, decide_eq_false e, if_neg Bool.false_ne_true]
      exact .cons a ih
theorem PdKv.put {kvs : List (Key × V)} {ds : List (D × D)} (j : Key) {v : V} {d : D} (r : PdKv K F kvs ds) (p : Pd K F v d) : PdKv K F (putK kvs j v) (dput ds (keyD j) d) := by
  unfold putK dput
  rw [r.any j]
  split
  · exact r.repl j p
  · exact r.append (.cons p .nil)
end
end EV
end PartEvRel
section PartEvSet
set_option autoImplicit false
set_option linter.all false
set_option maxRecDepth 100000
/-! EvSet: sets of numbers and texts, in the heap. -/
namespace EV
open PySem PySem.Spec PyProof.Rows L2
instance decMemK (k : Key) (ks : List Key) : Decidable (k ∈ ks) := @List.instDecidableMemOfLawfulBEq Key instBEqOfDecidableEq inferInstance k ks
def kOf (e : Int × Value) : Key := match e.2 with
  | .int k _ => .inl k
  | .str x _ => .inr x
  | _ => .inl 0
def GoodK (w : World) (e : Int × Value) : Prop := keyIs (kOf e) e.2 = true ∧ e.1 = keyH w (kOf e)
theorem goodK_mk {w : World} {k : Key} {v : Value} (h : keyIs k v = true) : kOf (keyH w k, v) = k ∧ GoodK w (keyH w k, v) := by
  rcases keyIs_shape h with ⟨i, t, rfl, rfl⟩ | ⟨x, t, rfl, rfl⟩
  · exact ⟨rfl, keyIs_int i t, rfl⟩
  · exact ⟨rfl, keyIs_str x t, rfl⟩
theorem keyIs_scan {k : Key} {v : Value} (h : keyIs k v = true) : v.scannable = true := by
  rcases keyIs_shape h with ⟨i, t, rfl, rfl⟩ | ⟨x, t, rfl, rfl⟩ <;> rfl
/-- the set at a, its things in the order in which they came -/
def SetM (w : World) (h : Heap) (a : Addr) (ks : List Key) : Prop :=
  ∃ o es ep t, h.get? a = some o ∧ o.ExactSet ∧ o.data = .set es ep t ∧ (∀ e ∈ es.toList, GoodK w e) ∧ (es.toList.map kOf).Perm ks ∧ ks.Nodup ∧
    es.size < scanBound ∧ t.fits es.size = true ∧ Ris t.place.toList ∧ (w.params.followText "set-order" = true ∨ t.led = true)
def addK (ks : List Key) (k : Key) : List Key := if k ∈ ks then ks else ks ++ [k]
section
variable {P : Program} {w : World} {h h' : Heap} {a : Addr} {ks : List Key}
theorem SetM.at (R : SetM w h a ks) (k : ∀ o, h.get? a = some o → h'.get? a = some o) : SetM w h' a ks := by
  obtain ⟨o, es, ep, t, ho, r⟩ := R
  exact ⟨o, es, ep, t, k o ho, r⟩
theorem goodK_elems {l : List (Int × Value)} (g : ∀ e ∈ l, GoodK w e) : ElemsOf (mixKind P w) l := fun e he => by
  obtain ⟨h1, h2⟩ := g e he
  exact ⟨⟨kOf e, h1, h2⟩, keyIs_scan h1⟩
theorem goodK_is {e : Int × Value} (g : GoodK w e) (k : Key) : (mixKind P w).is k e.2 = true ↔ kOf e = k := by
  constructor
  · intro z
    exact (mixKind P w).inj e.2 _ _ g.1 z
  · rintro rfl
    exact g.1
theorem goodK_mem {l : List (Int × Value)} (g : ∀ e ∈ l, GoodK w e) (k : Key) : k ∈ l.map kOf ↔ ∃ e ∈ l, (mixKind P w).is k e.2 = true := by
  rw [List.mem_map]
  constructor
  · rintro ⟨e, he, q⟩
    exact ⟨e, he, (goodK_is (g e he) k).2 q⟩
  · rintro ⟨e, he, q⟩
    exact ⟨e, he, (goodK_is (g e he) k).1 q⟩
theorem SetM.setOf (R : SetM w h a ks) : h.SetOf (mixKind P w) a (fun k => decide (k ∈ ks)) ks.length := by
  obtain ⟨o, es, ep, t, ho, hx, hd, g, pm, nd, hb, hf, _⟩ := R
  exact ⟨o, es, ep, t, ho, hx, hd, goodK_elems g, fun k => by rw [decide_eq_true_eq, ← goodK_mem g k, pm.mem_iff], hb, hf, by rw [← Array.length_toList, ← List.length_map (f := kOf), pm.length_eq]⟩
end
section
variable {P : Program} {w : World} {A : Around} {E : Value → Shared → Prop} {s : Shared} {a : Addr} {ks : List Key}
theorem setM_tail {g : Bool → Sem Unit} (hg : ∀ (b : Bool) (s₁ : Shared) (Q' : Unit → Shared → Prop), Q' () s₁ → wpAny (model P w) A (g b) Q' E s₁)
    {o : Obj} {es : Array (Int × Value)} {ep : Nat} {t : SetTable} (ho : s.heap.get? a = some o) (hex : o.ExactSet) (hd : o.data = .set es ep t)
    {es1 : Array (Int × Value)} {t2 : SetTable} {ks1 : List Key} (g1 : ∀ e ∈ es1.toList, GoodK w e) (p1 : (es1.toList.map kOf).Perm ks1) (nd1 : ks1.Nodup)
    (hb1 : es1.size < scanBound) (hf2 : t2.fits es1.size = true) (hr : Ris t2.place.toList) (hl : w.params.followText "set-order" = true ∨ t2.led = true) {wasDummy : Bool} {R : Option Bool → Shared → Prop}
    (hR : ∀ h', Heap.SameBut a s.heap h' → SetM w h' a ks1 → R (some true) { s with heap := h' }) :
    wpAny (model P w) A (do
        storeSet a es1 t2
        if (!wasDummy && t2.tooFull) = true then do
            g (relayAll t2 es1 (SetTable.grown es1.size)).2.2
            storeSet a (relayAll t2 es1 (SetTable.grown es1.size)).1 (relayAll t2 es1 (SetTable.grown es1.size)).2.1
            pure (some true)
          else pure (some true)) R E s := by
  refine wpAny_bind (wpAny_storeSet_of ho hd ?_ (fits_of_scanBound hb1))
  have ho1 := store_at (es' := es1) (t' := t2) ho hd
  have sb1 := Heap.SameBut.update s.heap a (Obj.putSet es1 t2)
  split
  · have pm := relayAll_perm t2 es1 (SetTable.grown es1.size)
    have hf3 := relayAll_fits t2 es1 (SetTable.grown es1.size)
    have hr3 := relayAll_ris t2 es1 (SetTable.grown es1.size)
    have hl3 := relayAll_led t2 es1 (SetTable.grown es1.size)
    generalize relayAll t2 es1 (SetTable.grown es1.size) = Z at pm hf3 hr3 hl3 ⊢
    obtain ⟨es2, t3, gave⟩ := Z
    dsimp only at pm hf3 hr3 hl3 ⊢
    have hsz : es2.size = es1.size := by rw [← Array.length_toList, pm.length_eq, Array.length_toList]
    have hb2 : es2.size < scanBound := by rw [hsz]; exact hb1
    refine wpAny_bind (hg _ _ _ ?_)
    refine wpAny_bind (wpAny_storeSet_of ho1 rfl ?_ (fits_of_scanBound hb2))
    have ho2 := store_at (es' := es2) (t' := t3) ho1 rfl
    refine wpAny_pure (hR _ (sb1.trans (Heap.SameBut.update _ a _)) ?_)
    exact ⟨_, es2, _, t3, ho2, hex, rfl, fun e he => g1 e (pm.mem_iff.mp he), (pm.map kOf).trans p1, nd1, hb2, hf3, hr3, hl.imp id fun z => by rw [hl3]; exact z⟩
  · exact wpAny_pure (hR _ sb1 ⟨_, es1, _, t2, ho1, hex, rfl, g1, p1, nd1, hb1, hf2, hr, hl⟩)
theorem setM_hashed {k : Key} {v : Value} {Q : Bool → Shared → Prop} (hv : keyIs k v = true) (R : SetM w s.heap a ks) (room : ks.length + 1 < scanBound)
    (hQ : ∀ (b : Bool) h', Heap.SameBut a s.heap h' → SetM w h' a (addK ks k) → Q b { s with heap := h' }) :
    wpAny (model P w) A (setAddHashed a v ((mixKind P w).hash k)) Q E s := by
  obtain ⟨o, es, ep, t, ho, hex, hd, g, pe, nd, hb, hf, hr, hl⟩ := R
  have hkey : (mixKind P w).is k v = true := hv
  have hsc : v.scannable = true := keyIs_scan hv
  have hel : ElemsOf (mixKind P w) es.toList := goodK_elems g
  unfold setAddHashed setAddHashedIn
  refine wpAny_holding (wpAny_bind (wpAny_setState_of ho hd hf ?_))
  dsimp only
  rw [byScan_of hsc hb hel]
  simp only [↓reduceIte]
  unfold setAddByScan
  refine wpAny_bind ?_
  refine wpAny_bind (wpAny_rule ?_)
  refine wpAny_bind (wpAny_setScan_of hkey ho hd hf hel ?_)
  cases hfi : List.findIdx? (fun e => (mixKind P w).is k e.2) es.toList with
  | some j =>
    dsimp only
    obtain ⟨hj, pj, _⟩ := List.findIdx?_eq_some_iff_getElem.mp hfi
    have hk : k ∈ ks := pe.mem_iff.mp ((goodK_mem (P := P) (w := w) g k).2 ⟨es.toList[j], List.getElem_mem hj, pj⟩)
    refine wpAny_pure (wpAny_pure ?_)
    exact hQ false s.heap (Heap.SameBut.refl a s.heap) (by unfold addK; rw [if_pos hk]; exact ⟨o, es, ep, t, ho, hex, hd, g, pe, nd, hb, hf, hr, hl⟩)
  | none =>
    dsimp only
    have hnk : k ∉ ks := fun z => by
      obtain ⟨e, he, q⟩ := (goodK_mem (P := P) (w := w) g k).1 (pe.mem_iff.mpr z)
      have c := List.findIdx?_eq_none_iff.mp hfi e he
      rw [q] at c
      cases c
    have hgw : ∀ (b : Bool) {s₁ : Shared} {Q' : Unit → Shared → Prop}, Q' () s₁ → wpAny (model P w) A (match b with | true => rule "set.scan.the-table-gave-way" | false => pure ()) Q' E s₁ :=
      fun b s₁ Q' q => by cases b <;> first | exact wpAny_pure q | exact wpAny_rule q
    have pm := layNew_perm t es ((mixKind P w).hash k) v
    have hf1 := layNew_fits t es ((mixKind P w).hash k) v
    have hr1 := layNew_ris t es ((mixKind P w).hash k) v hr
    have hl1 := layNew_led t es ((mixKind P w).hash k) v
    generalize layNew t es ((mixKind P w).hash k) v = Z at pm hf1 hr1 hl1 ⊢
    obtain ⟨es1, t1, wasDummy, gave⟩ := Z
    dsimp only at pm hf1 hr1 hl1 ⊢
    rw [Array.toList_push] at pm
    obtain ⟨km, kg⟩ := goodK_mk (w := w) hv
    have pk : (es1.toList.map kOf).Perm (ks ++ [k]) := by
      have q := pm.map kOf
      rw [List.map_append] at q
      refine q.trans ?_
      show (es.toList.map kOf ++ [kOf (keyH w k, v)]).Perm (ks ++ [k])
      rw [km]
      exact pe.append_right _
    have g1 : ∀ e ∈ es1.toList, GoodK w e := fun e he => by
      rcases List.mem_append.mp (pm.mem_iff.mp he) with z | z
      · exact g e z
      · rw [List.mem_singleton.mp z]; exact kg
    have nd1 : (ks ++ [k]).Nodup := List.nodup_append.mpr ⟨nd, by simp, fun x hx y hy => by rw [List.mem_singleton.mp hy]; exact fun e => hnk (e ▸ hx)⟩
    have hsz : es1.size = ks.length + 1 := by rw [← Array.length_toList, ← List.length_map (f := kOf), pk.length_eq, List.length_append]; rfl
    have hb1 : es1.size < scanBound := by rw [hsz]; exact room
    have hled : w.params.followText "set-order" = true ∨ t1.led = true := hl.imp id fun z => by rw [hl1]; exact z
    have fin : ∀ h', Heap.SameBut a s.heap h' → SetM w h' a (ks ++ [k]) → Q true { s with heap := h' } := fun h' sb r => hQ true h' sb (by unfold addK; rw [if_neg hnk]; exact r)
    refine wpAny_bind (hgw _ ?_)
    split
    · refine wpAny_bind ?_
      rw [hashByValue_scannable 8 hsc]
      refine wpAny_pure ?_
      refine setM_tail ?_ ho hex hd g1 pk nd1 hb1 ?_ ?_ ?_ ?_
      · intro b s₁ Q' q; cases b <;> first | exact wpAny_pure q | exact wpAny_rule q
      · first | (split <;> first | exact hf1 | exact SetTable.fits_plain_off hf1) | exact hf1
      · first | (split <;> exact hr1) | exact hr1
      · first | (split <;> exact hled) | exact hled
      · intro h' sb r; dsimp only; exact wpAny_pure (fin h' sb r)
    · refine wpAny_bind (wpAny_pure ?_)
      simp only [↓reduceIte]
      refine setM_tail ?_ ho hex hd g1 pk nd1 hb1 hf1 hr1 hled ?_
      · intro b s₁ Q' q; cases b <;> first | exact wpAny_pure q | exact wpAny_rule q
      · intro h' sb r; dsimp only; exact wpAny_pure (fin h' sb r)
/-- found.add(k) -/
theorem setM_add {k : Key} {v : Value} {Q : Value → Shared → Prop} (hv : keyIs k v = true) (R : SetM w s.heap a ks) (room : ks.length + 1 < scanBound)
    (hQ : ∀ h', Heap.SameBut a s.heap h' → SetM w h' a (addK ks k) → Q .none { s with heap := h', toks := s.toks + 1 }) :
    wpAny (model P w) A (PySem.call (.builtin "set.add") [.ref a, v]) Q E s := by
  have hS : s.heap.SetOf (mixKind P w) a (fun k => decide (k ∈ ks)) ks.length := R.setOf
  refine wpAny_call_entry PySem.F.slot_set_add hS.typeIs PySem.F.entry_set_add ?_ (PySem.F.args_set_add_2 _ _)
  unfold Builtin.«set.add» Builtin.Frozenset.oneOther
  simp only [List.isEmpty_nil, bind_assoc]
  unfold Builtin.Frozenset.addrOf setAdd
  refine wpAny_bind (wpAny_pure ?_)
  try dsimp only
  refine wpAny_bind (wpAny_pure ?_)
  try dsimp only
  refine wpAny_bind ?_
  refine wpAny_holding ?_
  refine wpAny_bind ((mixKind P w).pyHash hv ?_)
  refine setM_hashed (s := { s with toks := s.toks + 1 }) hv R room fun b h' sb r => ?_
  show wpAny _ _ (ret Value.none) _ _ _
  exact wpAny_pure ⟨_, rfl, hQ h' sb r⟩
theorem setM_fresh {h : Heap} (w : World) : SetM w (h.push { cls := .type "set", dict := none, data := .set #[] 0 (.fresh 0 0 (!w.params.followText "set-order")) }) h.objs.size [] :=
  ⟨_, #[], 0, _, Heap.get?_push_size _ rfl, ⟨rfl, rfl, rfl⟩, rfl, (fun e he => by simp at he), List.Perm.refl _, List.nodup_nil, (by decide), (by rfl), List.Pairwise.nil, by
    show _ ∨ (!w.params.followText "set-order") = true
    cases w.params.followText "set-order"
    · exact .inr rfl
    · exact .inl rfl⟩
end
end EV
end PartEvSet
section PartEvSet2
set_option autoImplicit false
set_option linter.all false
set_option maxRecDepth 100000
/-! EvSet2: set(a list). -/
namespace EV
open PySem PySem.Spec PyProof.Rows L2
def addKs (acc : List Key) : List Key → List Key
  | [] => acc
  | k :: r => addKs (addK acc k) r
theorem addK_len (acc : List Key) (k : Key) : (addK acc k).length ≤ acc.length + 1 := by
  unfold addK
  split
  · omega
  · rw [List.length_append]; exact Nat.le_refl _
theorem addKs_snoc (k : Key) : ∀ (r acc : List Key), addKs acc (r ++ [k]) = addK (addKs acc r) k
  | [], acc => rfl
  | j :: r, acc => addKs_snoc k r (addK acc j)
theorem addKs_len : ∀ (r acc : List Key), (addKs acc r).length ≤ acc.length + r.length
  | [], acc => Nat.le_refl _
  | k :: r, acc => by
    have a := addKs_len r (addK acc k)
    have b := addK_len acc k
    rw [List.length_cons]
    unfold addKs
    omega
section
variable {P : Program} {w : World} {A : Around} {R : Result → Shared → Prop} {I : Addr} {fp wr : List Addr} {G : Array GenState → Array GenState → Prop} {n : Nat} {Pv : Nat → Value → Prop} {St : Nat → Shared → Prop}
theorem setM_loop (W : WalksS P w A.in1 I fp wr G n Pv St) (S : Addr) (hSf : S ∉ fp) (ks : List Key) (hl : ks.length = n) (hval : ∀ i v, Pv i v → ∃ k, ks[i]? = some k ∧ keyIs k v = true) (hb : n + 1 < scanBound) :
    ∀ (k i : Nat) (s : Shared), n - i = k → i ≤ n → St i s → SetM w s.heap S (addKs [] (ks.take i)) →
      (∀ s', Moved (S :: wr) G s s' → SetM w s'.heap S (addKs [] ks) → R (.ok (.ret .none)) s') →
      codeAny (model P w) A (.builtin "set.update.loop" ⟨[.ref S, .ref I], []⟩) R s := by
  have hSw : S ∉ wr := fun h => hSf (W.sub _ h)
  have hsub : ∀ b ∈ wr, b ∈ S :: wr := fun b hb => List.mem_cons_of_mem _ hb
  intro k
  induction k with
  | zero =>
    intro i s hk hi hst hS hR
    have hin : i = n := by omega
    subst hin
    rw [List.take_of_length_le (by omega)] at hS
    refine codeAny_builtin PyProof.Rows.F.entry_set_update_loop ?_
    rw [Around.under_plainId PyProof.Rows.F.plain_set_update_loop _]
    show wpAny _ A.in1 (pyNext (.ref I) >>= _) _ _ s
    refine wpAny_bind (W.done s _ _ hst fun s' hm => ?_)
    show wpAny _ A.in1 (ret Value.none) _ _ s'
    exact wpAny_pure (hR s' (hm.mono hsub) (hS.at (hm.heap S · hSw)))
  | succ k ih =>
    intro i s hk hi hst hS hR
    have hlt : i < n := by omega
    refine codeAny_builtin PyProof.Rows.F.entry_set_update_loop ?_
    rw [Around.under_plainId PyProof.Rows.F.plain_set_update_loop _]
    show wpAny _ A.in1 (pyNext (.ref I) >>= _) _ _ s
    refine wpAny_bind (W.item i s _ _ hlt hst fun v s' hP hst' hm => ?_)
    obtain ⟨key, hk1, hk2⟩ := hval i v hP
    have hS' : SetM w s'.heap S (addKs [] (ks.take i)) := hS.at (hm.heap S · hSw)
    show wpAny _ A.in1 (holding [v] (setAdd S v) >>= _) _ _ s'
    refine wpAny_bind (wpAny_holding ?_)
    unfold setAdd
    refine wpAny_holding ?_
    refine wpAny_bind ((mixKind P w).pyHash (k := key) hk2 ?_)
    have hroom : (addKs [] (ks.take i)).length + 1 < scanBound := by
      have := addKs_len (ks.take i) []
      rw [List.length_take, List.length_nil] at this
      omega
    refine setM_hashed (s := { s' with toks := s'.toks + 1 }) hk2 hS' hroom fun b h' hsb hS2 => ?_
    have hSi : SetM w h' S (addKs [] (ks.take (i + 1))) := by
      rw [List.take_succ, hk1, Option.toList_some, addKs_snoc]
      exact hS2
    refine wpAny_pure ⟨plainId_quiet PyProof.Rows.F.plain_set_update_loop _, ih (i + 1) _ (by omega) hlt (W.frame _ s' _ _ hst' (Nat.le_succ _) fun b hb o e => ?_) hSi fun s'' hm'' hS'' => ?_⟩
    · rw [hsb.2 b (fun h : b = S => hSf (by rw [← h]; exact hb))]; exact e
    · refine hR s'' (Moved.trans W.gtrans ((hm.mono hsub).then_heap (Nat.le_succ _) fun b o hb e => ?_) hm'') hS''
      rw [hsb.2 b (fun h : b = S => hb (by rw [h]; exact List.mem_cons_self))]; exact e
end
section
variable {P : Program} {w : World} {A : Around} {E : Value → Shared → Prop} {s : Shared}
theorem code_setM_new (a : Value) {Q₁ : Value → Shared → Prop}
    (h : Q₁ (.ref s.heap.objs.size) { s with heap := s.heap.push { cls := .type "set", dict := none, data := .set #[] 0 (.fresh 0 0 (!w.params.followText "set-order")) } }) :
    codeAny (model P w) A (.call (.builtin "set.__new__") ⟨[.type "set", a], []⟩) (wants Q₁ E) s := by
  refine codeAny_of_tree ?_
  show wpAny _ A.in1 (do checkBuiltinCall "set.__new__" ⟨[.type "set", a], []⟩; again (.builtin "set.__new__" ⟨[.type "set", a], []⟩)) _ _ s
  refine wpAny_bind (wpAny_of_eq (PySem.F.newCall_set_1 a) (wpAny_pure ⟨plainId_quiet PySem.F.plain_set_new _, codeAny_builtin PySem.F.entry_set_new ?_⟩))
  rw [Around.under_plainId PySem.F.plain_set_new _]
  unfold Builtin.«set.__new__» Builtin.Frozenset.newClass
  have hsub := sub_set_self
  obtain ⟨hp, g, d, tk, os⟩ := s
  dsimp only
  wp_walk
  refine wpAny_askSetting (wpAny_pure ?_)
  dsimp only
  simp only [newObj]
  refine wpAny_bind (wpAny_alloc (wpAny_pure ?_))
  exact wpAny_pure h
set_option maxHeartbeats 3200000 in
theorem call_setM {l : Addr} {items : Array Value} {ks : List Key} {Q : Value → Shared → Prop}
    (hh : A.handled = none) (hl : s.heap.IsList l items) (hsz : ks.length = items.size) (hi : ∀ (i : Nat) (v : Value), items[i]? = some v → ∃ k, ks[i]? = some k ∧ keyIs k v = true) (hb : items.size + 1 < scanBound)
    (h : ∀ (h' : Heap) (tk : Nat), SetM w h' s.heap.objs.size (addKs [] ks) →
      (∀ b o, b < s.heap.objs.size → s.heap.get? b = some o → h'.get? b = some o) → Q (.ref s.heap.objs.size) { s with heap := h', toks := tk }) :
    wpAny (model P w) A (PySem.call (.type "set") [.ref l]) Q E s := by
  obtain ⟨c, tl, hmro⟩ := PySem.F.called_set.mro
  have hmade := PySem.F.called_set.made
  have hsub := PySem.F.called_set.sub
  refine wpAny_call (codeAny_of_tree ?_)
  show wpAny _ _ (callAny (.type "set") _) _ _ _
  refine wpAny_pure ⟨Code.quiet_builtin _ (by decide +kernel), codeAny_builtin PySem.F.entry_type_call ?_⟩
  rw [Around.under_plain (weight_type_call_type "set" [.ref l] []) rfl]
  have h1 := PySem.F.called_set.notType
  have h2 := PySem.F.called_set.canCreate
  have hct := PySem.F.typeCall_set_1 (.ref l)
  repeat (any_goals (first | assumption | wp_step))
  have new := code_setM_new (P := P) (w := w) (A := A.in1) (s := s) (.ref l) (E := E) (Q₁ := fun obj s₁ => obj = .ref s.heap.objs.size ∧ s₁ = { s with heap := s.heap.push { cls := .type "set", dict := none, data := .set #[] 0 (.fresh 0 0 (!w.params.followText "set-order")) } }) ⟨rfl, rfl⟩
  have hfr := setM_fresh (h := s.heap) w
  generalize (!w.params.followText "set-order") = led at new hfr
  refine codeAny_mono new fun r s₁ hr => ?_
  cases r with
  | error e => exact hr
  | ok fl =>
    cases fl with
    | ret obj =>
      obtain ⟨rfl, rfl⟩ := hr
      have hS : (s.heap.push { cls := .type "set", dict := none, data := .set #[] 0 (.fresh 0 0 led) }).get? s.heap.objs.size = some { cls := .type "set", dict := none, data := .set #[] 0 (.fresh 0 0 led) } := Heap.get?_push_size _ rfl
      have hT : Shared.TypeIs { s with heap := s.heap.push { cls := .type "set", dict := none, data := .set #[] 0 (.fresh 0 0 led) } } (.ref s.heap.objs.size) "set" := ⟨_, hS, rfl⟩
      have hli := PySem.F.called_set.init.lookup
      have hbi := PySem.F.called_set.init.bind (.ref s.heap.objs.size)
      repeat (any_goals (first | assumption | wp_step))
      refine codeAny_mono (codeAny_call_builtin (R := wants (fun r s₂ => r = .none ∧ ∃ h' tk, s₂ = { s with heap := h', toks := tk } ∧
          SetM w h' s.heap.objs.size (addKs [] ks) ∧ (∀ b o, b < s.heap.objs.size → s.heap.get? b = some o → h'.get? b = some o)) E) PySem.F.called_set.init.plain PySem.F.entry_set_init (check_set_init_1 hT ?_)) fun r₂ s₂ hr₂ => ?_
      · obtain ⟨ol, hol, hcl, nl, hdl⟩ := hl
        obtain ⟨ocls, odict, odata, oslots⟩ := ol
        simp only at hcl hdl
        subst hcl; subst hdl
        have hol' : (s.heap.push { cls := .type "set", dict := none, data := .set #[] 0 (.fresh 0 0 led) }).get? l = some { cls := .type "list", dict := odict, data := .seq items nl, slots := oslots } := Heap.get?_push_of_some _ hol
        have hsls := PySem.F.sub_list_set
        have hslf := PySem.F.sub_list_frozenset
        have hne : (Value.type "list" == Value.type "dict") = false := by decide
        have hl1 : (s.heap.push { cls := .type "set", dict := none, data := .set #[] 0 (.fresh 0 0 led) }).IsList l items := ⟨_, hol', rfl, nl, rfl⟩
        unfold Builtin.«set.__init__» noKeywords Builtin.Frozenset.updateFrom
        generalize hPI : pyIter = PI
        wp_walk
        subst hPI
        refine wpAny_pyIter_list hl1 ?_
        refine wpAny_bind (wpAny_runValue ?_)
        have hlS : l < s.heap.objs.size := Heap.lt_size hol
        have hh3 : A.in1.in1.in1.handled = none := by simp [hh]
        have hneI : l ≠ (s.heap.push { cls := .type "set", dict := none, data := .set #[] 0 (.fresh 0 0 led) }).objs.size := by
          rw [Heap.size_push]; exact Nat.ne_of_lt (Nat.lt_succ_of_lt hlS)
        have hSf : s.heap.objs.size ∉ [(s.heap.push { cls := .type "set", dict := none, data := .set #[] 0 (.fresh 0 0 led) }).objs.size, l] := by
          rw [Heap.size_push]; simp only [List.mem_cons, List.mem_singleton, List.not_mem_nil, or_false, not_or]
          exact ⟨Nat.ne_of_lt (Nat.lt_succ_self _), Nat.ne_of_gt hlS⟩
        refine setM_loop ((Walks.list hh3 _ l hneI items).toS) s.heap.objs.size hSf ks hsz hi hb (items.size - 0) 0 _ (by omega) (Nat.zero_le _)
          ⟨⟨_, Heap.get?_push_size _ rfl, rfl, rfl⟩, (hl1.push _)⟩ ?hS0 ?hR
        case hS0 =>
          exact hfr.at fun o e => Heap.get?_push_of_some _ e
        case hR =>
          intro s' hm hS'
          obtain ⟨h', g', d', tk', os'⟩ := s'
          have eg : g' = s.gens := hm.gens
          have ed : d' = s.drawn := hm.drawn
          have eo : os' = s.os := hm.os
          subst eg; subst ed; subst eo
          show wpAny _ _ _ _ _ _
          refine wpAny_pure ?_
          show wpAny _ _ (ret Value.none) _ _ _
          refine wpAny_pure ⟨rfl, h', tk', rfl, hS', fun b o hb e => ?_⟩
          have hb1 : b ≠ s.heap.objs.size := Nat.ne_of_lt hb
          have hb2 : b ≠ (s.heap.push { cls := .type "set", dict := none, data := .set #[] 0 (.fresh 0 0 led) }).objs.size := by
            rw [Heap.size_push]; exact Nat.ne_of_lt (Nat.lt_succ_of_lt hb)
          exact hm.heap b o (by simp only [List.mem_cons, List.mem_singleton, List.not_mem_nil, or_false, not_or]; exact ⟨hb1, hb2⟩) (Heap.get?_push_of_some _ (Heap.get?_push_of_some _ e))
      · cases r₂ with
        | error e => exact hr₂
        | ok fl₂ =>
          cases fl₂ with
          | ret r =>
            obtain ⟨rfl, h', tk, rfl, hS', hk'⟩ := hr₂
            repeat (any_goals (first | assumption | wp_step))
            exact h _ _ hS' hk'
          | _ => exact hr₂.elim
    | _ => exact hr.elim
end
end EV
end PartEvSet2
section PartEvSet3
set_option autoImplicit false
set_option linter.all false
set_option maxRecDepth 100000
/-! EvSet3: sorted(a set). -/
namespace EV
open PySem PySem.Spec PyProof.Rows L2
def sortK (ks : List Key) : List Key := ks.mergeSort (PySem.W.dataLe false keyD)
section
variable {P : Program} {w : World} {A : Around} {E : Value → Shared → Prop} {s : Shared} {a : Addr} {ks : List Key}
theorem each_keys : ∀ {vs : List Value}, (∀ v ∈ vs, keyIs (kOf (0, v)) v = true) → PySem.W.EachIs (fun v k => keyIs k v = true) vs (vs.map fun v => kOf (0, v))
  | [], _ => .nil
  | v :: vs, h => .cons (h v List.mem_cons_self) (each_keys fun u hu => h u (List.mem_cons_of_mem _ hu))
theorem reads_key {h : Heap} {k : Key} {v : Value} (e : keyIs k v = true) : Reads h v (keyD k) [] := by
  rcases keyIs_shape e with ⟨i, t, rfl, rfl⟩ | ⟨x, t, rfl, rfl⟩
  · exact .int i t
  · exact .str x t
theorem sorted_setM {Q : Value → Shared → Prop} (R : SetM w s.heap a ks) (hh : A.handled = none) (hal : PySem.W.AllAlike (ks.map keyD)) (hu : A.units + 4 < cLine)
    (hQ : ∀ s' p (out : List Value) (c : Nat) (bs : List Key), (∀ b o, s.heap.get? b = some o → s'.heap.get? b = some o) → s'.gens = s.gens → s'.os = s.os → s.heap.objs.size ≤ p →
      s'.heap.get? p = some (seqObj "list" out.toArray c) → PySem.W.EachIs (fun v k => keyIs k v = true) out (sortK bs) → bs.Perm ks → Q (.ref p) s') :
    wpAny (model P w) A (PySem.call (.builtin "sorted") [.ref a]) Q E s := by
  obtain ⟨o, es, ep, t, ho, hex, hd, g, pe, nd, hb, hf, hr, hl⟩ := R
  refine Calls.call_function_entry kind_sorted plain_sorted entry_sorted (args_sorted1 _) ?_
  unfold Builtin.«sorted»
  refine wpAny_bind (m := checkCount "sorted" 1 1 _) (wpAny_pure ?_)
  refine wpAny_bind (collect_set (A := A.in1) hh ⟨o, ho, hex.1, hd⟩ hf hb hr hl fun s1 vs k1 hz g1 o1 pm => ?_)
  have hvk : ∀ v ∈ vs, keyIs (kOf (0, v)) v = true := fun v hv => by
    obtain ⟨e, he, q⟩ := List.mem_map.mp (pm.mem_iff.mp hv)
    have := (g e he).1
    rw [← q]
    exact this
  have pk : (vs.map fun v => kOf (0, v)).Perm ks := by
    have q := pm.map fun v => kOf (0, v)
    rw [List.map_map] at q
    exact q.trans pe
  have hvl : vs.length = es.size := by rw [pm.length_eq, List.length_map, Array.length_toList]
  have hsz : vs.length ≤ sizeLine := by rw [hvl]; exact fits_of_scanBound hb
  refine wpAny_bind (wpAny_newList ?_ hsz)
  have hoL : (s1.heap.push (seqObj "list" vs.toArray 0)).get? s1.heap.objs.size = some (seqObj "list" vs.toArray 0) := Heap.get?_push_size _ rfl
  have hE := each_keys hvk
  have al : PySem.W.AllAlike ((vs.map fun v => kOf (0, v)).map keyD) := fun d hd d' hd' => hal d ((pk.map keyD).mem_iff.mp hd) d' ((pk.map keyD).mem_iff.mp hd')
  refine wpAny_bind (wpAny_holding (PySem.W.list_sort_data (enc := keyD) hoL hE (hE.mono fun v k h => ⟨[], reads_key h, fun z => nomatch z⟩) al (.inr fun d hd => ?_) (by rw [List.length_map]; exact hsz) (fun k _ => ?_) fun out hlo heo => ?_))
  · obtain ⟨k, _, rfl⟩ := List.mem_map.mp hd
    cases k <;> exact ⟨(fun z => nomatch z), (fun xs z => nomatch z)⟩
  · cases k <;> (show _ + 1 + 0 < cLine; simp; omega)
  obtain ⟨c, hc⟩ := sortedHeap_at (vs := vs) (out := out.toArray) hoL
  refine wpAny_pure ⟨_, rfl, hQ _ s1.heap.objs.size out c _ (fun b u e => ?_) g1 o1 hz hc heo pk⟩
  have q := k1 b u e
  have hlt := Heap.lt_size q
  show (sortedHeap (s1.heap.push (seqObj "list" vs.toArray 0)) s1.heap.objs.size vs out.toArray).get? b = some u
  rw [sortedHeap_old (Nat.ne_of_lt hlt) (by rw [size_push']; exact Nat.lt_succ_of_lt hlt)]
  exact Heap.get?_push_of_some _ q
end
end EV
end PartEvSet3
section PartEvState
set_option autoImplicit false
set_option linter.all false
set_option maxRecDepth 100000
/-! EvState: the interpreter's state in the layer's slots and heap: what is frozen, what is owned. -/
namespace EV
open PySem PySem.Spec L2

/-- the law's world -/
structure Wd where
  P : Program
  w : World
  K : PySem.W.Frag
  mg : Str → Option Value

/-- who owns: a slot, an object -/
inductive Ow where
  | s (i : Nat) | o (n : Nat)
  deriving DecidableEq
/-- what is not seen in the interpreter's state: what is frozen, where the objects stand, what each owner has -/
structure Gh where
  F : Hp
  γ : List Addr
  ow : Ow → List Addr
  /-- what the caller lent to be looked at -/
  bo : List Addr

/-- a set in the heap, its things in the order met -/
def SetO (w : World) (a : Addr) (ks : List Key) : HO := .ext fun h => SetM w h a ks
def SetD (Z : Wd) (H : Hp) (a : Addr) (ds : List D) : Prop := ∃ ks : List Key, H a = some (SetO Z.w a ks) ∧ ds = ks.map keyD

/-- where it is looked at but not owned -/
def isB : T → Bool
  | .bl _ => true
  | .bd _ => true
  | .sl _ => true
  | .kl _ => true
  | .kd _ => true
  | _ => false
mutual
inductive Tr (Z : Wd) (F : Hp) (γ : List Addr) (H : Hp) : V → T → List Addr → Prop
  | pl {v : V} {d : D} : Pd Z.K F v d → Tr Z F γ H v (.pl d) []
  | ol {a : Addr} {xs : List V} {ds : List D} : H a = some (.lst xs) → PdAll Z.K F xs ds → Tr Z F γ H (.ref a) (.ol ds) [a]
  | kl {a : Addr} {xs : List V} {ds : List D} : H a = some (.lst xs) → PdAll Z.K F xs ds → Tr Z F γ H (.ref a) (.kl ds) []
  | od {a : Addr} {kvs : List (Key × V)} {ds : List (D × D)} : H a = some (.dK kvs) → PdKv Z.K F kvs ds → Tr Z F γ H (.ref a) (.od ds) [a]
  | kd {a : Addr} {kvs : List (Key × V)} {ds : List (D × D)} : Rd H a (.dK kvs) → PdKv Z.K F kvs ds → Tr Z F γ H (.ref a) (.kd ds) []
  | os {a : Addr} {ds : List D} : SetD Z H a ds → Tr Z F γ H (.ref a) (.os ds) [a]
  | bl {a : Addr} {xs : List V} {ds : List D} : H a = some (.lst xs) → PdAll Z.K F xs ds → Tr Z F γ H (.ref a) (.bl ds) []
  | sl {a : Addr} {xs : List V} {ds : List D} : SqL Z.K H a xs → PdAll Z.K F xs ds → Tr Z F γ H (.ref a) (.sl ds) []
  | bd {a : Addr} {kvs : List (Key × V)} {ds : List (D × D)} : Rd H a (.dK kvs) → PdKv Z.K F kvs ds → Tr Z F γ H (.ref a) (.bd ds) []
  | nl {a : Addr} {xs : List V} {ts : List T} {cs : List Addr} : H a = some (.lst xs) → TrAll Z F γ H xs ts cs → Tr Z F γ H (.ref a) (.nl ts) (a :: cs)
  | nd {a : Addr} {kvs : List (Key × V)} {ts : List (D × T)} {cs : List Addr} : H a = some (.dK kvs) → TrKv Z F γ H kvs ts cs → Tr Z F γ H (.ref a) (.nd ts) (a :: cs)
  | nt {a : Addr} {xs : List V} {ts : List T} {cs : List Addr} : F a = some (.tup xs) → TrAll Z F γ H xs ts cs → Tr Z F γ H (.ref a) (.nt ts) cs
  | ob {a : Addr} {n : Nat} : γ[n]? = some a → Tr Z F γ H (.ref a) (.ob n) []
inductive TrAll (Z : Wd) (F : Hp) (γ : List Addr) (H : Hp) : List V → List T → List Addr → Prop
  | nil : TrAll Z F γ H [] [] []
  | cons {v : V} {vs : List V} {t : T} {ts : List T} {cs cs' : List Addr} : isB t = false → Tr Z F γ H v t cs → TrAll Z F γ H vs ts cs' → TrAll Z F γ H (v :: vs) (t :: ts) (cs ++ cs')
inductive TrKv (Z : Wd) (F : Hp) (γ : List Addr) (H : Hp) : List (Key × V) → List (D × T) → List Addr → Prop
  | nil : TrKv Z F γ H [] [] []
  | cons {k : Key} {v : V} {vs : List (Key × V)} {t : T} {ts : List (D × T)} {cs cs' : List Addr} : isB t = false → Tr Z F γ H v t cs → TrKv Z F γ H vs ts cs' → TrKv Z F γ H ((k, v) :: vs) ((keyD k, t) :: ts) (cs ++ cs')
end
inductive TrFs (Z : Wd) (F : Hp) (γ : List Addr) (H : Hp) : List (Str × V) → List (String × T) → List Addr → Prop
  | nil : TrFs Z F γ H [] [] []
  | cons {f : String} {v : V} {vs : List (Str × V)} {t : T} {ts : List (String × T)} {cs cs' : List Addr} : isB t = false → Tr Z F γ H v t cs → TrFs Z F γ H vs ts cs' → TrFs Z F γ H ((Str.ofString f, v) :: vs) ((f, t) :: ts) (cs ++ cs')
/-- an object of a class of the text -/
def ObR (Z : Wd) (F : Hp) (γ : List Addr) (H : Hp) (a : Addr) (o : O) (cs : List Addr) : Prop :=
  ∃ (C dx : Addr) (fs : List (Str × V)) (cs' : List Addr), Z.mg (Str.ofString o.c) = some (.ref C) ∧ H a = some (.ins C dx fs) ∧ H dx = some (.own a) ∧ TrFs Z F γ H fs o.fs cs' ∧ cs = a :: dx :: cs'
section
variable {Z : Wd} {F F' H H' : Hp} {γ γ' : List Addr}
theorem Rd.same {H H' : Hp} {a : Addr} {u : HO} (k : ∀ o, H a = some o → H' a = some o) (h : Rd H a u) : Rd H' a u := by
  rcases h with h | ⟨o, h⟩
  · exact .inl (k _ h)
  · exact .inr ⟨o, k _ h⟩
/-- it stands as it stood, but for a lock on a dict -/
def Kp (H H' : Hp) (a : Addr) : Prop := ∀ o, H a = some o → H' a = some o ∨ ∃ kvs ob, o = .dK kvs ∧ H' a = some (.frz ob o)
theorem Kp.of {H H' : Hp} {a : Addr} (k : ∀ o, H a = some o → H' a = some o) : Kp H H' a := fun o e => .inl (k o e)
theorem Kp.rd {H H' : Hp} {a : Addr} {u : HO} (k : Kp H H' a) (h : Rd H a u) : Rd H' a u := by
  rcases h with h | ⟨o, h⟩
  · rcases k _ h with q | ⟨_, ob, _, q⟩
    · exact .inl q
    · exact .inr ⟨ob, q⟩
  · rcases k _ h with q | ⟨_, _, z, _⟩
    · exact .inr ⟨o, q⟩
    · cases z
theorem Kp.lst {H H' : Hp} {a : Addr} {xs : List V} (k : Kp H H' a) (h : H a = some (.lst xs)) : H' a = some (.lst xs) := (k _ h).resolve_right fun ⟨_, _, z, _⟩ => nomatch z
theorem Kp.ne {H H' : Hp} {a : Addr} (k : Kp H H' a) (h : H a ≠ none) : H' a ≠ none := by
  cases e : H a with
  | none => exact absurd e h
  | some o => rcases k o e with q | ⟨_, _, _, q⟩ <;> (rw [q]; exact fun z => nomatch z)
theorem pre_get {γ γ' : List Addr} (hγ : ∃ r, γ' = γ ++ r) {n : Nat} {a : Addr} (h : γ[n]? = some a) : γ'[n]? = some a := by
  obtain ⟨r, rfl⟩ := hγ
  rw [List.getElem?_append_left (List.getElem?_eq_some_iff.mp h).1]
  exact h
/-- what is looked at only: it stands in the written part, or is kept -/
def Bo (Z : Wd) (F : Hp) (v : V) (t : T) (R : Addr → Prop) : Prop := ∀ a, v = .ref a → isB t = true → R a ∨ ∃ xs ds, KL Z.K a xs ∧ PdAll Z.K F xs ds ∧ t = .sl ds
theorem Bo.no {v : V} {t : T} {R : Addr → Prop} (h : isB t = false) : Bo Z F v t R := fun a _ e => by rw [h] at e; cases e
theorem Bo.imp {v : V} {t : T} {R R' : Addr → Prop} (h : Bo Z F v t R) (hF : Sub F F') (k : ∀ a, R a → R' a) : Bo Z F' v t R' := fun a e b => by
  rcases h a e b with r | ⟨xs, ds, r, p, q⟩
  · exact .inl (k a r)
  · exact .inr ⟨xs, ds, r, p.mono hF, q⟩
mutual
theorem Tr.keep (hF : Sub F F') (hγ : ∃ r, γ' = γ ++ r) : ∀ {v : V} {t : T} {cs : List Addr}, (∀ a ∈ cs, ∀ o, H a = some o → H' a = some o) → Bo Z F v t (fun a => Kp H H' a) → Tr Z F γ H v t cs → Tr Z F' γ' H' v t cs
  | _, _, _, _, _, .pl p => .pl (p.mono hF)
  | _, _, _, k, _, .ol e p => .ol (k _ (by simp) _ e) (p.mono hF)
  | _, _, _, _, b, .kl e p => by
    rcases b _ rfl rfl with r | ⟨xs, ds, q, p', z⟩
    · exact .kl (r.lst e) (p.mono hF)
    · cases z
  | _, _, _, k, _, .od e p => .od (k _ (by simp) _ e) (p.mono hF)
  | _, _, _, _, b, .kd e p => by
    rcases b _ rfl rfl with r | ⟨xs, ds, q, p', z⟩
    · exact .kd (r.rd e) (p.mono hF)
    · cases z
  | _, _, _, k, _, .os ⟨S, e, r⟩ => .os ⟨S, k _ (by simp) _ e, r⟩
  | _, _, _, _, b, .bl e p => by
    rcases b _ rfl rfl with r | ⟨xs, ds, q, p', z⟩
    · exact .bl (r.lst e) (p.mono hF)
    · cases z
  | _, _, _, _, b, .sl e p => by
    rcases b _ rfl rfl with r | ⟨xs, ds, q, p', z⟩
    · exact .sl (e.imp_left fun z => r.rd z) (p.mono hF)
    · cases z
      exact .sl (.inr q) (p'.mono hF)
  | _, _, _, _, b, .bd e p => by
    rcases b _ rfl rfl with r | ⟨xs, ds, q, p', z⟩
    · exact .bd (r.rd e) (p.mono hF)
    · cases z
  | _, _, _, k, _, .nl e p => .nl (k _ (by simp) _ e) (TrAll.keep hF hγ (fun a h => k a (List.mem_cons_of_mem _ h)) p)
  | _, _, _, k, _, .nd e p => .nd (k _ (by simp) _ e) (TrKv.keep hF hγ (fun a h => k a (List.mem_cons_of_mem _ h)) p)
  | _, _, _, k, _, .nt e p => .nt (hF _ _ e) (TrAll.keep hF hγ k p)
  | _, _, _, _, _, .ob e => .ob (pre_get hγ e)
theorem TrAll.keep (hF : Sub F F') (hγ : ∃ r, γ' = γ ++ r) : ∀ {v : List V} {t : List T} {cs : List Addr}, (∀ a ∈ cs, ∀ o, H a = some o → H' a = some o) → TrAll Z F γ H v t cs → TrAll Z F' γ' H' v t cs
  | _, _, _, _, .nil => .nil
  | _, _, _, k, .cons b a r => .cons b (Tr.keep hF hγ (fun b h => k b (List.mem_append_left _ h)) (Bo.no b) a) (TrAll.keep hF hγ (fun b h => k b (List.mem_append_right _ h)) r)
theorem TrKv.keep (hF : Sub F F') (hγ : ∃ r, γ' = γ ++ r) : ∀ {v : List (Key × V)} {t : List (D × T)} {cs : List Addr}, (∀ a ∈ cs, ∀ o, H a = some o → H' a = some o) → TrKv Z F γ H v t cs → TrKv Z F' γ' H' v t cs
  | _, _, _, _, .nil => .nil
  | _, _, _, k, .cons b a r => .cons b (Tr.keep hF hγ (fun b h => k b (List.mem_append_left _ h)) (Bo.no b) a) (TrKv.keep hF hγ (fun b h => k b (List.mem_append_right _ h)) r)
end
theorem TrFs.keep (hF : Sub F F') (hγ : ∃ r, γ' = γ ++ r) : ∀ {v : List (Str × V)} {t : List (String × T)} {cs : List Addr}, (∀ a ∈ cs, ∀ o, H a = some o → H' a = some o) → TrFs Z F γ H v t cs → TrFs Z F' γ' H' v t cs
  | _, _, _, _, .nil => .nil
  | _, _, _, k, .cons b a r => .cons b (Tr.keep hF hγ (fun b h => k b (List.mem_append_left _ h)) (Bo.no b) a) (TrFs.keep hF hγ (fun b h => k b (List.mem_append_right _ h)) r)
theorem ObR.keep (hF : Sub F F') (hγ : ∃ r, γ' = γ ++ r) {a : Addr} {o : O} {cs : List Addr} (k : ∀ a ∈ cs, ∀ o, H a = some o → H' a = some o) : ObR Z F γ H a o cs → ObR Z F' γ' H' a o cs
  | ⟨C, dx, fs, cs', h1, h2, h3, h4, e⟩ => by
    subst e
    exact ⟨C, dx, fs, cs', h1, k _ (by simp) _ h2, k _ (by simp) _ h3, h4.keep hF hγ fun b h => k b (List.mem_cons_of_mem _ (List.mem_cons_of_mem _ h)), rfl⟩
end

/-- the interpreter's state lies in the slots σ and the heap H -/
structure Rel (Z : Wd) (g : Gh) (s : S) (σ : L2.St) (H : Hp) : Prop where
  len : s.vs.length = σ.length
  slot : ∀ i t, s.vs[i]? = some t → t = .un ∨ ∃ v, σ[i]? = some (some v) ∧ Tr Z g.F g.γ H v t (g.ow (.s i)) ∧ Bo Z g.F v t fun a => a ∈ g.bo
  emp : ∀ i, s.vs[i]? = some .un ∨ s.vs[i]? = none → g.ow (.s i) = []
  glen : g.γ.length = s.os.length
  obj : ∀ n o a, s.os[n]? = some o → g.γ[n]? = some a → ObR Z g.F g.γ H a o (g.ow (.o n))
  oemp : ∀ n, s.os[n]? = none → g.ow (.o n) = []
  frz : FH g.F H
  own : ∀ p a, a ∈ g.ow p → g.F a = none ∧ H a ≠ none
  dis : ∀ p q a, a ∈ g.ow p → a ∈ g.ow q → p = q
  nd : ∀ p, (g.ow p).Nodup
  bor : ∀ a ∈ g.bo, H a ≠ none ∧ ∀ p, a ∉ g.ow p
/-- from one state to a later one: what is tracked and not owned is kept -/
structure Ext (g : Gh) (H : Hp) (g' : Gh) (H' : Hp) : Prop where
  sub : Sub g.F g'.F
  γ : ∃ r, g'.γ = g.γ ++ r
  keep : ∀ a o, H a = some o → (∀ p, a ∉ g.ow p) → H' a = some o ∨ ∃ kvs ob, o = .dK kvs ∧ g.F a ≠ none ∧ H' a = some (.frz ob o)
  own : ∀ p a, a ∈ g'.ow p → (∃ q, a ∈ g.ow q) ∨ H a = none
  frz : ∀ a, g'.F a ≠ none → g.F a ≠ none ∨ (∃ q, a ∈ g.ow q) ∨ H a = none
  bo : g'.bo = g.bo
theorem Ext.refl (g : Gh) (H : Hp) : Ext g H g H := ⟨Sub.refl _, ⟨[], by simp⟩, fun _ _ h _ => .inl h, fun p _ h => .inl ⟨p, h⟩, fun _ h => .inl h, rfl⟩
theorem Ext.back {g g' : Gh} {H H' : Hp} (x : Ext g H g' H') {a : Addr} (h : H' a = none) : (∃ q, a ∈ g.ow q) ∨ H a = none := by
  by_cases c : ∃ q, a ∈ g.ow q
  · exact .inl c
  · cases e : H a with
    | none => exact .inr rfl
    | some o =>
      rcases x.keep a o e fun p hp => c ⟨p, hp⟩ with q | ⟨_, _, _, _, q⟩ <;> (rw [q] at h; cases h)
theorem Ext.trans {g g1 g2 : Gh} {H H1 H2 : Hp} (x : Ext g H g1 H1) (y : Ext g1 H1 g2 H2) : Ext g H g2 H2 where
  sub := x.sub.trans y.sub
  γ := by
    obtain ⟨r, e⟩ := x.γ
    obtain ⟨r', e'⟩ := y.γ
    exact ⟨r ++ r', by rw [e', e, List.append_assoc]⟩
  keep := fun a o h n => by
    have n1 : ∀ p, a ∉ g1.ow p := fun p hp => by
      rcases x.own p a hp with ⟨q, hq⟩ | e
      · exact n q hq
      · rw [h] at e; cases e
    rcases x.keep a o h n with q | ⟨kvs, ob, rfl, hF, q⟩
    · rcases y.keep a o q n1 with q2 | ⟨kvs, ob, rfl, hF, q2⟩
      · exact .inl q2
      · refine .inr ⟨kvs, ob, rfl, ?_, q2⟩
        rcases x.frz a hF with z | ⟨p, hp⟩ | z
        · exact z
        · exact absurd hp (n p)
        · rw [h] at z; cases z
    · rcases y.keep a _ q n1 with q2 | ⟨_, _, z, _⟩
      · exact .inr ⟨kvs, ob, rfl, hF, q2⟩
      · cases z
  own := fun p a hp => by
    rcases y.own p a hp with ⟨q, hq⟩ | e
    · exact x.own q a hq
    · exact x.back e
  frz := fun a h => by
    rcases y.frz a h with h | ⟨q, hq⟩ | e
    · exact x.frz a h
    · exact .inr (x.own q a hq)
    · exact .inr (x.back e)
  bo := y.bo.trans x.bo
/-- a thing at hand that nobody owns -/
def Tmp (Z : Wd) (g : Gh) (H : Hp) (v : V) (t : T) (cs : List Addr) : Prop :=
  Tr Z g.F g.γ H v t cs ∧ cs.Nodup ∧ (∀ a ∈ cs, g.F a = none ∧ H a ≠ none ∧ (∀ p, a ∉ g.ow p) ∧ a ∉ g.bo) ∧ Bo Z g.F v t fun a => H a ≠ none ∧ ∀ p, a ∉ g.ow p
theorem kept_of {g g' : Gh} {H H' : Hp} (x : Ext g H g' H') {a : Addr} (h : H a ≠ none) (n : ∀ p, a ∉ g.ow p) : Kp H H' a ∧ H' a ≠ none ∧ (∀ p, a ∉ g'.ow p) ∧ (g.F a = none → g'.F a = none ∧ ∀ o, H a = some o → H' a = some o) := by
  have k : Kp H H' a := fun o e => (x.keep a o e n).imp_right fun ⟨kvs, ob, z1, _, z2⟩ => ⟨kvs, ob, z1, z2⟩
  refine ⟨k, k.ne h, fun p hp => ?_, fun hF => ⟨?_, fun o e => (x.keep a o e n).resolve_right fun ⟨_, _, _, z, _⟩ => z hF⟩⟩
  · rcases x.own p a hp with ⟨q, hq⟩ | e
    · exact n q hq
    · exact h e
  · cases e : g'.F a with
    | none => rfl
    | some o =>
      rcases x.frz a (by rw [e]; exact fun z => nomatch z) with q | ⟨q, hq⟩ | q
      · exact absurd hF q
      · exact absurd hq (n q)
      · exact absurd q h
theorem Tmp.ext {Z : Wd} {g g' : Gh} {H H' : Hp} {v : V} {t : T} {cs : List Addr} (h : Tmp Z g H v t cs) (x : Ext g H g' H') : Tmp Z g' H' v t cs := by
  obtain ⟨h1, h2, h3, h4⟩ := h
  refine ⟨h1.keep x.sub x.γ (fun a ha => ((kept_of x (h3 a ha).2.1 (h3 a ha).2.2.1).2.2.2 (h3 a ha).1).2) (h4.imp (Sub.refl _) fun a ha => (kept_of x ha.1 ha.2).1), h2, fun a ha => ?_, h4.imp x.sub fun a ha => ?_⟩
  · obtain ⟨_, k2, k3, k4⟩ := kept_of x (h3 a ha).2.1 (h3 a ha).2.2.1
    exact ⟨(k4 (h3 a ha).1).1, k2, k3, by rw [x.bo]; exact (h3 a ha).2.2.2⟩
  · obtain ⟨_, k2, k3, _⟩ := kept_of x ha.1 ha.2
    exact ⟨k2, k3⟩
/-- a thing that may be looked at -/
def Vw (Z : Wd) (g : Gh) (H : Hp) (v : V) (t : T) : Prop := ∃ cs, Tr Z g.F g.γ H v t cs
theorem Tmp.vw {Z : Wd} {g : Gh} {H : Hp} {v : V} {t : T} {cs : List Addr} (h : Tmp Z g H v t cs) : Vw Z g H v t := ⟨cs, h.1⟩
theorem Vw.lk {Z : Wd} {g : Gh} {H : Hp} {v : V} {t : T} {d : D} (h : Vw Z g H v t) (e : t.vw = some d) : Lk Z.K g.F H v d := by
  obtain ⟨cs, h⟩ := h
  cases h <;> first | (cases e; done) | skip
  case pl p => cases e; exact .pd p
  case ol a p => cases e; exact .lst (.inl (.inl a)) p
  case kl a p => cases e; exact .lst (.inl (.inl a)) p
  case od a p => cases e; exact .dic (.inl a) p
  case kd a p => cases e; exact .dic a p
  case bl a p => cases e; exact .lst (.inl (.inl a)) p
  case sl a p => cases e; exact .lst a p
  case bd a p => cases e; exact .dic a p
theorem Vw.lx {Z : Wd} {g : Gh} {H : Hp} {v : V} {t : T} {d : D} (h : Vw Z g H v t) (e : t.vx = some d) : Lx Z.K g.F H v d := by
  obtain ⟨cs, h⟩ := h
  cases h <;> first | (cases e; done) | skip
  case pl p => cases e; exact .pd p
  case ol a p => cases e; exact .lst a p
  case kl a p => cases e; exact .lst a p
  case od a p => cases e; exact .dic (.inl a) p
  case kd a p => cases e; exact .dic a p
  case bl a p => cases e; exact .lst a p
  case bd a p => cases e; exact .dic a p
theorem Vw.pd {Z : Wd} {g : Gh} {H : Hp} {v : V} {d : D} (h : Vw Z g H v (.pl d)) : Pd Z.K g.F v d := by
  obtain ⟨cs, h⟩ := h
  cases h with | pl p => exact p
theorem Tmp.pl {Z : Wd} {g : Gh} {H : Hp} {v : V} {d : D} (h : Pd Z.K g.F v d) : Tmp Z g H v (.pl d) [] := ⟨.pl h, List.nodup_nil, fun _ h => (nomatch h), Bo.no rfl⟩

/-! ### a new thing -/
/-- what an operation makes: nothing that was tracked is changed -/
structure Nw (Z : Wd) (F H : Hp) (v : V) (t : T) (F' H' : Hp) : Prop where
  same : Same H H'
  sub : Sub F F'
  new : ∀ a, F' a ≠ none → F a ≠ none ∨ (H a = none ∧ F' a = H' a)
  tr : ∃ cs, (∀ γ, Tr Z F' γ H' v t cs) ∧ cs.Nodup ∧ (∀ a ∈ cs, F' a = none ∧ H a = none ∧ H' a ≠ none) ∧ isB t = false
theorem Nw.pd {Z : Wd} {F H : Hp} {v : V} {d : D} (h : Pd Z.K F v d) : Nw Z F H v (.pl d) F H :=
  ⟨Same.refl _, Sub.refl _, fun _ h => .inl h, [], fun _ => .pl h, List.nodup_nil, fun _ h => (nomatch h), rfl⟩
theorem Nw.lst {Z : Wd} {F H : Hp} {p : Addr} {xs : List V} {ds : List D} (hF : FH F H) (hp : H p = none) (h : PdAll Z.K F xs ds) : Nw Z F H (.ref p) (.ol ds) F (upd H p (.lst xs)) :=
  ⟨fun b o e => by rw [upd_ne (ne_of_none e hp)]; exact e, Sub.refl _, fun _ h => .inl h, [p], fun _ => .ol upd_same h, by simp, fun a ha => by
    obtain rfl : a = p := by simpa using ha
    exact ⟨hF.no hp, hp, by rw [upd_same]; exact fun z => nomatch z⟩, rfl⟩
theorem Nw.dic {Z : Wd} {F H : Hp} {p : Addr} {xs : List (Key × V)} {ds : List (D × D)} (hF : FH F H) (hp : H p = none) (h : PdKv Z.K F xs ds) : Nw Z F H (.ref p) (.od ds) F (upd H p (.dK xs)) :=
  ⟨fun b o e => by rw [upd_ne (ne_of_none e hp)]; exact e, Sub.refl _, fun _ h => .inl h, [p], fun _ => .od upd_same h, by simp, fun a ha => by
    obtain rfl : a = p := by simpa using ha
    exact ⟨hF.no hp, hp, by rw [upd_same]; exact fun z => nomatch z⟩, rfl⟩
theorem Sub.upd {F H : Hp} {p : Addr} {o : HO} (hF : FH F H) (hp : H p = none) : Sub F (L2.upd F p o) := fun a u e => by
  rw [upd_ne]
  · exact e
  · intro z
    subst z
    rw [hF.no hp] at e
    cases e
theorem Nw.tup {Z : Wd} {F H : Hp} {p : Addr} {xs : List V} {ds : List D} (hF : FH F H) (hp : H p = none) (h : PdAll Z.K F xs ds) : Nw Z F H (.ref p) (.pl (.tuple ds)) (upd F p (.tup xs)) (upd H p (.tup xs)) :=
  ⟨fun b o e => by rw [upd_ne (ne_of_none e hp)]; exact e, Sub.upd hF hp, fun a h => by
    by_cases e : a = p
    · subst e; exact .inr ⟨hp, by rw [upd_same, upd_same]⟩
    · rw [upd_ne e] at h; exact .inl h,
  [], fun _ => .pl (.tup (.inl upd_same) (h.mono (Sub.upd hF hp))), by simp, fun _ h => (nomatch h), rfl⟩
def Gh.fr (g : Gh) (F : Hp) : Gh := { g with F := F }
theorem FH.new {F H F' H' : Hp} (hF : FH F H) (s : Same H H') (hs : Sub F F') (n : ∀ a, F' a ≠ none → F a ≠ none ∨ (H a = none ∧ F' a = H' a)) : FH F' H' := fun a o e => by
  rcases n a (by rw [e]; exact fun z => nomatch z) with h | ⟨_, h⟩
  · cases q : F a with
    | none => exact absurd q h
    | some u =>
      have e' := hs a u q
      rw [e] at e'
      cases e'
      exact (hF a _ q).imp (s a _) fun ⟨kvs, ob, z1, z2⟩ => ⟨kvs, ob, z1, s a _ z2⟩
  · exact .inl (by rw [← h, e])
theorem Rel.new {Z : Wd} {g : Gh} {s : S} {σ : L2.St} {H F' H' : Hp} {v : V} {t : T} (r : Rel Z g s σ H) (n : Nw Z g.F H v t F' H') : Rel Z (g.fr F') s σ H' ∧ Ext g H (g.fr F') H' ∧ ∃ cs, Tmp Z (g.fr F') H' v t cs := by
  have kp : ∀ a, (∀ o, H a = some o → H' a = some o) := fun a o => n.same a o
  have x : Ext g H (g.fr F') H' := ⟨n.sub, ⟨[], by simp [Gh.fr]⟩, fun a o h _ => .inl (n.same a o h), fun p a h => .inl ⟨p, h⟩, fun a h => (n.new a h).imp_right fun h => .inr h.1, rfl⟩
  refine ⟨⟨r.len, fun i t h => ?_, r.emp, r.glen, fun m o a h1 h2 => (r.obj m o a h1 h2).keep n.sub ⟨[], by simp [Gh.fr]⟩ fun b _ => kp b, r.oemp, r.frz.new n.same n.sub n.new, fun p a h => ?_, r.dis, r.nd, fun a h => ⟨?_, (r.bor a h).2⟩⟩, x, ?_⟩
  · rcases r.slot i t h with e | ⟨v, e, tr, b⟩
    · exact .inl e
    · exact .inr ⟨v, e, tr.keep n.sub ⟨[], by simp [Gh.fr]⟩ (fun b _ => kp b) (b.imp (Sub.refl _) fun a _ => Kp.of (kp a)), b.imp n.sub fun a h => h⟩
  · obtain ⟨h1, h2⟩ := r.own p a h
    refine ⟨?_, ?_⟩
    · show F' a = none
      cases e : F' a with
      | none => rfl
      | some o =>
        rcases n.new a (by rw [e]; exact fun z => nomatch z) with q | ⟨q, _⟩
        · exact absurd h1 q
        · exact absurd q h2
    · cases e : H a with
      | none => exact absurd e h2
      | some o => rw [kp a o e]; exact fun z => nomatch z
  · cases e : H a with
    | none => exact absurd e (r.bor a h).1
    | some o => rw [kp a o e]; exact fun z => nomatch z
  · obtain ⟨cs, h1, h2, h3, h4⟩ := n.tr
    exact ⟨cs, h1 _, h2, fun a ha => ⟨(h3 a ha).1, (h3 a ha).2.2, fun p hp => (r.own p a hp).2 (h3 a ha).2.1, fun hb => (r.bor a hb).1 (h3 a ha).2.1⟩, Bo.no h4⟩
end EV
end PartEvState
section PartEvOps
set_option autoImplicit false
set_option linter.all false
set_option maxRecDepth 100000
/-! EvOps: operators by the interpreter's data. -/
namespace EV
open PySem PySem.Spec L2
/-- X runs in the world Z -/
structure In (X : Cx) (Z : Wd) : Prop where
  P : X.prog = Z.P
  w : X.w = Z.w
  K : X.K = Z.K
  mg : X.mg = Z.mg
section
variable {X : Cx} {Z : Wd}
theorem _root_.L2.OpR.imp {f : Value → Value → Sem Value} {r r' : R2} (h : OpR X f r) (k : ∀ x y H Q, r' x y H Q → r x y H Q) : OpR X f r' := fun pins s σ H x y v u Q I rx ry q => h pins s σ H x y v u Q I rx ry (k _ _ _ _ q)
theorem _root_.L2.PE.imp {e : Expr} {t t' : TE} (h : PE X e t) (k : ∀ σ H Q, t' σ H Q → t σ H Q) : PE X e t' := ⟨fun pins s σ H Q I q => h.run pins s σ H Q I (k _ _ _ q)⟩
theorem _root_.L2.PT.imp {e : Expr} {t t' : TT} (h : PT X e t) (k : ∀ σ H Q, t' σ H Q → t σ H Q) : PT X e t' := ⟨fun pins s σ H Q I q => h.run pins s σ H Q I (k _ _ _ q)⟩
theorem _root_.L2.PS.imp {e : Stmt} {t t' : TS} (h : PS X e t) (k : ∀ D σ H, t' D σ H → t D σ H) : PS X e t' := ⟨fun pins s σ H D I q => h.run pins s σ H D I (k _ _ _ q)⟩
theorem _root_.L2.PSs.imp {e : List Stmt} {t t' : TS} (h : PSs X e t) (k : ∀ D σ H, t' D σ H → t D σ H) : PSs X e t' := ⟨fun pins s σ H D I q => h.run pins s σ H D I (k _ _ _ q)⟩
theorem _root_.L2.PA.imp {e : List Expr} {t t' : TA} (h : PA X e t) (k : ∀ σ H Q, t' σ H Q → t σ H Q) : PA X e t' := ⟨fun pos pins s σ H Q I q => h.run pos pins s σ H Q I (k _ _ _ q)⟩

/-- a binary operation -/
def rBin (Z : Wd) (op : Operator) : R2 := fun x y H Q => ∃ F dx dy t, FH F H ∧ Lx Z.K F H x dx ∧ Lx Z.K F H y dy ∧ binD op dx dy = some t ∧ ∀ v F' H', Nw Z F H v t F' H' → Q v H'
theorem Nw.int {F H : Hp} {i : Int} : Nw Z F H (.int i) (.pl (.int i)) F H := Nw.pd (.int i)
theorem Nw.str {F H : Hp} {i : Str} : Nw Z F H (.str i) (.pl (.str i)) F H := Nw.pd (.str i)
theorem small_line {n : Nat} (h : n ≤ 1000000) : n ≤ sizeLine := Nat.le_trans h (by decide)
theorem PdAll.rep {K : PySem.W.Frag} {F : Hp} {xs : List V} {ds : List D} (r : PdAll K F xs ds) : ∀ n : Nat, PdAll K F (List.replicate n xs).flatten (List.replicate n ds).flatten
  | 0 => .nil
  | n + 1 => by
    rw [List.replicate_succ, List.replicate_succ, List.flatten_cons, List.flatten_cons]
    exact r.append (PdAll.rep r n)
theorem mulOk_c {i j : Int} (h : mulOk i j = true) : CMul i j ∨ CMulW i j := by
  unfold mulOk big at h
  simp only [Bool.or_eq_true, decide_eq_true_eq] at h
  rcases h with (h | h) | h
  · exact .inl (.inl ⟨by omega, by omega⟩)
  · exact .inl (.inr ⟨by omega, by omega⟩)
  · exact .inr (wide_mul h.1 h.2 (by decide) (by decide) (by decide))
theorem Lx.int {K : PySem.W.Frag} {F H : Hp} {v : V} {i : Int} (h : Lx K F H v (.int i)) : v = .int i := h.lk.int
theorem Lx.str {K : PySem.W.Frag} {F H : Hp} {v : V} {i : Str} (h : Lx K F H v (.str i)) : v = .str i := h.lk.str

theorem size_rep_nat (its : List Nat) : ∀ (m : Nat), (List.foldl (fun x1 x2 => x1 ++ x2) #[] (List.replicate m its.toArray)) = (List.replicate m its).flatten.toArray := by
  have key : ∀ (m : Nat) (acc : List Nat), List.foldl (fun x1 x2 => x1 ++ x2) acc.toArray (List.replicate m its.toArray) = (acc ++ (List.replicate m its).flatten).toArray := by
    intro m
    induction m with
    | zero => intro acc; simp
    | succ n ih =>
      intro acc
      rw [List.replicate_succ, List.replicate_succ, List.foldl_cons, List.flatten_cons]
      have : acc.toArray ++ its.toArray = (acc ++ its).toArray := by simp
      rw [this, ih, List.append_assoc]
  intro m
  have := key m []
  rwa [List.nil_append] at this
theorem rep_nil {α : Type} (j : Int) : rep ([] : List α) j = [] := by
  unfold rep
  induction j.toNat with
  | zero => rfl
  | succ n ih => rw [List.replicate_succ, List.flatten_cons, ih]; rfl
set_option maxHeartbeats 4000000 in
theorem tuple_mulE (l : Addr) (items : Array Value) (n : Nat) (dd : Option Addr) (sl : Array (Option Value)) (x : Int) (u : Tok) (c0 : (decide (x < -(2 ^ 63)) || decide (x ≥ 2 ^ 63)) = false) (c1 : (items.isEmpty || x == 1) = true) :
    Meets (Builtin.«tuple.__mul__» ⟨[.ref l, .int x u], []⟩) (fun _ R s => s.heap.get? l = some { cls := .type "tuple", dict := dd, data := .seq items n, slots := sl } ∧
      R (.ok (.ret (Value.ref l))) s) :=
  .of_wp fun prog w A R s h => by
    obtain ⟨hp, g, d, tk, os⟩ := s
    obtain ⟨hl, h⟩ := h
    have f1 := AutoSeq1.idx_int
    wp_walk using wpAny_loadPart' hl
    repeat (first
      | (refine wpAny_ite_false (decide_eq_false (by rw [c0]; exact Bool.false_ne_true)) ?_; wp_walk using wpAny_loadPart' hl)
      | (refine wpAny_ite_true (decide_eq_true (by rw [c1])) ?_; wp_walk using wpAny_loadPart' hl))
    exact ⟨_, rfl, h⟩
theorem tup_mul0 {prog : Program} {w : World} {A : Around} {E : Value → Shared → Prop} {s : Shared} {l : Addr} {k : Int} {t : Tok} {Q : Value → Shared → Prop} (ht : PyProof.Rows.IsTup s.heap l #[]) (h1 : 2 ≤ k) (h2 : k ≤ 1000) (h : Q (.ref l) s) :
    wpAny (model prog w) A (binaryOp .Mult (.ref l) (.int k t)) Q E s := by
  obtain ⟨⟨cls, dd, data, sl⟩, ho, hc, n, hd⟩ := ht
  simp only at hc hd
  subst hc hd
  have c0 : (decide (k < -(2 ^ 63)) || decide (k ≥ 2 ^ 63)) = false := by
    rw [decide_eq_false (by omega), decide_eq_false (by omega)]; rfl
  exact wpAny_binaryOp_repeat_ref (T := "tuple") (U := "int") (by decide) ⟨_, ho, rfl⟩ (fun s' => typeIs_int s' k t) noFill_tuple_mul F.fills_int_mul F.slot_int_rmul repeat_tuple F.slot_int_index.lookup
    (call_meets F.slot_int_rmul (typeIs_int s k t) F.entry_int_rmul (F.args_int_rmul_2 _ _) (int_rmul_tuple k t l #[] n dd sl)
      ⟨ho, rfl, ⟨_, ho, rfl⟩, call_meets F.slot_tuple_mul ⟨_, ho, rfl⟩ F.entry_tuple_mul (F.args_tuple_mul_2 _ _) (tuple_mulE l #[] n dd sl k t c0 rfl) ⟨ho, h⟩⟩)
theorem str_mul {prog : Program} {w : World} {A : Around} {E : Value → Shared → Prop} {s : Shared} {z : Str} {k : Int} {t t' : Tok} {Q : Value → Shared → Prop} (h1 : 1 ≤ k) (h2 : k ≤ 1000) (h3 : z.length ≤ 1000) (h : ∀ tk tks, Q (.str (repS z k) tk) { s with toks := tks }) :
    wpAny (model prog w) A (binaryOp .Mult (.str z t) (.int k t')) Q E s := by
  have len : ∀ m : Nat, (List.replicate m z.cps.toList).flatten.length = m * z.length := fun m => by
    rw [PyProof.Rows.lm_len_rep_flat]; rfl
  have hm : k.toNat * z.length ≤ 1000000 := Nat.le_trans (Nat.mul_le_mul (show k.toNat ≤ 1000 by omega) h3) (by decide)
  refine P.mul_str (by rw [decide_eq_false (by omega), decide_eq_false (by omega)]; rfl) (fun _ _ => ?_) (fun _ _ => ?_) ?_
  · have : (2 ^ 63 - 1) / k ≥ 1000 := (Int.le_ediv_iff_mul_le (by omega)).mpr (by omega)
    omega
  · unfold PySem.Builtin.Str.tooLong
    exact decide_eq_false (by rw [sizeLine_eq, Nat.mul_comm]; omega)
  · rw [if_neg (by omega)]
    by_cases c : (k == 1 || z.length == 0) = true
    · rw [if_pos c]
      have e : repS z k = z := by
        unfold repS rep
        rcases Bool.or_eq_true_iff.mp c with c | c
        · have e1 : k = 1 := by simpa using c
          subst e1
          show (⟨([z.cps.toList].flatten).toArray⟩ : Str) = z
          simp
        · have e0 : z.length = 0 := by simpa using c
          have e1 : z.cps.toList = [] := List.eq_nil_of_length_eq_zero (by simpa [Str.length] using e0)
          have e2 := rep_nil (α := Nat) k
          unfold rep at e2
          rw [e1, e2]
          have : z.cps = #[] := by simpa using e1
          cases z; simp_all
      have h' := h t s.toks
      rw [e] at h'
      exact h'
    · rw [if_neg c]
      have e : (⟨(List.replicate k.toNat z.cps).foldl (· ++ ·) #[]⟩ : Str) = repS z k := by
        unfold repS rep
        have := size_rep_nat z.cps.toList k.toNat
        rw [Array.toArray_toList] at this
        rw [this]
      rw [e]
      refine ⟨?_, h _ _⟩
      show (repS z k).length ≤ sizeLine
      show ((List.replicate k.toNat z.cps.toList).flatten.toArray).size ≤ sizeLine
      rw [List.size_toArray, len, sizeLine_eq]
      omega
theorem op_bin (hZ : In X Z) (op : Operator) : OpR X (binaryOp op) (rBin Z op) := by
  intro pins s σ H x y v u Q I rx ry ⟨F, dx, dy, t, fh, hx, hy, e, q⟩
  unfold binD at e
  split at e
  -- int + int
  · cases e
    exact op_add pins s σ H x y v u Q I rx ry ⟨_, _, hx.int, hy.int, q _ _ _ Nw.int⟩
  -- str + str
  · split at e
    · rename_i hl
      cases e
      exact op_add_str pins s σ H x y v u Q I rx ry ⟨_, _, hx.str, hy.str, small_line hl, q _ _ _ Nw.str⟩
    · cases e
  -- list + list
  · split at e
    · rename_i hl
      cases e
      obtain ⟨a, xs, e1, hH, r⟩ := hx.seqL fh
      obtain ⟨b, ys, e2, hH2, r2⟩ := hy.seqL fh
      refine op_cat pins s σ H x y v u Q I rx ry ⟨a, b, xs, ys, e1, e2, hH, hH2, ?_, fun p hp => q _ _ _ (Nw.lst fh hp (r.append r2))⟩
      rw [r.length, r2.length]; exact small_line hl
    · cases e
  -- tuple + tuple
  · split at e
    · rename_i hl
      cases e
      obtain ⟨a, xs, e1, hH, r⟩ := hx.lk.seqT fh
      obtain ⟨b, ys, e2, hH2, r2⟩ := hy.lk.seqT fh
      cases hx with
      | pd p1 =>
        cases hy with
        | pd p2 =>
          refine op_catA pins s σ H x y v u Q I rx ry ⟨a, b, xs, ys, e1, e2, by rw [hZ.K]; exact hH, by rw [hZ.K]; exact hH2, by rw [r.length, r2.length]; exact small_line hl, fun z => ?_, fun z1 z2 => ?_, fun z1 z2 p hp => ?_⟩
          · subst z e2; cases r
            exact q _ _ _ (Nw.pd (by simpa using p2))
          · subst z2 e1; cases r2
            exact q _ _ _ (Nw.pd (by simpa using p1))
          · exact q _ _ _ (Nw.tup fh hp (r.append r2))
    · cases e
  -- int - int
  · cases e
    exact op_sub pins s σ H x y v u Q I rx ry ⟨_, _, hx.int, hy.int, q _ _ _ Nw.int⟩
  -- int * int
  · split at e
    · rename_i hl
      cases e
      rcases mulOk_c hl with c | c
      · exact op_mul pins s σ H x y v u Q I rx ry ⟨_, _, hx.int, hy.int, c, q _ _ _ Nw.int⟩
      · exact op_mulW pins s σ H x y v u Q I rx ry ⟨_, _, hx.int, hy.int, c, q _ _ _ Nw.int⟩
    · cases e
  -- list * int
  · split at e
    · rename_i hl
      cases e
      obtain ⟨a, xs, e1, hH, r⟩ := hx.seqL fh
      refine op_rep pins s σ H x y v u Q I rx ry ⟨a, _, xs, e1, hy.int, hH, hl.1, by omega, ?_, fun p hp => q _ _ _ (Nw.lst fh hp (r.rep _))⟩
      rw [r.length]
      exact small_line (Nat.le_trans (Nat.mul_le_mul hl.2.2 (show _ ≤ 1000 by omega)) (by decide))
    · cases e
  -- tuple * int
  · split at e
    · rename_i hl
      cases e
      obtain ⟨a, xs, e1, hH, r⟩ := hx.lk.seqT fh
      by_cases hn : xs = []
      · subst hn e1
        cases r
        cases hx with
        | pd p1 =>
          have ey := hy.int
          subst ey
          cases rx
          obtain ⟨t, rfl⟩ := ry
          obtain ⟨its, rv, ht, hs⟩ := I.tuple (xs := []) (by rw [hZ.K]; exact hH)
          cases rv
          exact tup_mul0 ht hl.1 hl.2.1 ⟨.ref a, H, I, rfl, q _ _ _ (Nw.pd (by rw [rep_nil]; exact p1))⟩
      · refine op_repT pins s σ H x y v u Q I rx ry ⟨a, _, xs, e1, hy.int, by rw [hZ.K]; exact hH, hn, hl.1, hl.2.1, by rw [r.length]; exact hl.2.2, fun p hp => q _ _ _ (Nw.tup fh hp (r.rep _))⟩
    · cases e
  -- str * int
  · split at e
    · rename_i hl
      cases e
      obtain rfl := hx.str
      obtain rfl := hy.int
      obtain ⟨t, rfl⟩ := rx
      obtain ⟨t', rfl⟩ := ry
      exact str_mul hl.1 hl.2.1 hl.2.2 fun tk tks => ⟨.str _, H, I.tok _, ⟨_, rfl⟩, q _ _ _ Nw.str⟩
    · cases e
  -- int // int
  · split at e
    · rename_i hl
      cases e
      exact op_fdiv pins s σ H x y v u Q I rx ry ⟨_, _, hx.int, hy.int, hl, q _ _ _ Nw.int⟩
    · cases e
  -- int % int
  · split at e
    · rename_i hl
      cases e
      exact op_mod pins s σ H x y v u Q I rx ry ⟨_, _, hx.int, hy.int, hl, q _ _ _ Nw.int⟩
    · cases e
  -- int ** int
  · split at e
    · rename_i hl
      cases e
      exact op_pow pins s σ H x y v u Q I rx ry ⟨_, _, hx.int, hy.int, ⟨hl.1, by omega, hl.2.2⟩, q _ _ _ Nw.int⟩
    · cases e
  · cases e

/-! ### comparisons -/
def rCmp (Z : Wd) (op : CmpOp) : R2 := fun x y H Q => ∃ F dx dy b, FH F H ∧ Lk Z.K F H x dx ∧ Lk Z.K F H y dy ∧ cmpD op dx dy = some b ∧ Q (.bl b) H
theorem okD_pl {d : D} (h : okD d = true) : d.plain = true ∧ d.depth ≤ 40 := by
  unfold okD at h
  rw [Bool.and_eq_true] at h
  exact ⟨h.1, of_decide_eq_true h.2⟩
theorem okAll_pl : ∀ {ds : List D}, ds.all okD = true → PyData.plainAll ds = true ∧ PyData.depthAll ds ≤ 40
  | [], _ => ⟨rfl, Nat.zero_le _⟩
  | d :: ds, h => by
    rw [List.all_cons, Bool.and_eq_true] at h
    obtain ⟨p1, p2⟩ := okD_pl h.1
    obtain ⟨q1, q2⟩ := okAll_pl h.2
    refine ⟨by rw [PyData.plainAll, p1, q1]; rfl, ?_⟩
    rw [PyData.depthAll]
    exact Nat.max_le.mpr ⟨p2, q2⟩
theorem Lk.reads {pins : List (Addr × Obj)} {s : Shared} {σ : L2.St} {F H : Hp} {v : V} {u : Value} {d : D} (hZ : In X Z) (I : Inv X pins σ H s) (fh : FH F H) (h : Lk Z.K F H v d) (p : d.plain = true) (r : RelV v u) : ∃ as, PySem.Reads s.heap u d as := by
  refine Dp.reads I d v u ?_ r
  rw [hZ.K]
  exact h.dp fh p
theorem eq_ok (hZ : In X Z) (hu : X.A.units + 64 < cLine) {pins : List (Addr × Obj)} {s : Shared} {σ : L2.St} {H : Hp} {x y : V} {v u : Value} {Q : VK} {F : Hp} {dx dy : D} {b : Bool} (I : Inv X pins σ H s) (rx : RelV x v) (ry : RelV y u) (fh : FH F H) (hx : Lk Z.K F H x dx) (hy : Lk Z.K F H y dy)
    (e : eqV dx dy = some b) : (∀ (q : Q (.bl b) H), wpAny (model X.prog X.w) X.A (compareOp .Eq v u) (EP X pins σ Q) X.xe s) ∧ (∀ (q : Q (.bl (!b)) H), wpAny (model X.prog X.w) X.A (compareOp .NotEq v u) (EP X pins σ Q) X.xe s) := by
  unfold eqV eqD at e
  split at e
  · rename_i h
    rw [Bool.and_eq_true] at h
    cases e
    obtain ⟨p1, p2⟩ := okD_pl h.1
    obtain ⟨q1, q2⟩ := okD_pl h.2
    obtain ⟨as, r1⟩ := hx.reads hZ I fh p1 rx
    obtain ⟨bs, r2⟩ := hy.reads hZ I fh q1 ry
    have hd : X.A.units + min dx.depth dy.depth < cLine := by
      have := Nat.min_le_left dx.depth dy.depth
      omega
    exact ⟨fun q => SeqAt.eq_plain r1 r2 p1 q1 hd ⟨.bl _, H, I, rfl, q⟩, fun q => SeqAt.ne_plain r1 r2 p1 q1 hd ⟨.bl _, H, I, rfl, q⟩⟩
  · cases e
theorem Lk.non_iff {K : PySem.W.Frag} {F H : Hp} {v : V} {d : D} (h : Lk K F H v d) : (v = .non) ↔ d = .none := by
  constructor
  · intro e
    subst e
    cases h with | pd h => cases h; rfl
  · intro e
    subst e
    exact h.none
theorem isD_none {a : D} {b : Bool} (h : isD a .none = some b) : (a = .none ∧ b = true) ∨ (a ≠ .none ∧ b = false) := by
  cases a <;> first | (cases h; done) | (cases h; exact .inl ⟨rfl, rfl⟩) | (cases h; exact .inr ⟨(fun z => nomatch z), rfl⟩)
theorem is_ok {F H : Hp} {x y : V} {dx dy : D} {b : Bool} (hx : Lk Z.K F H x dx) (hy : Lk Z.K F H y dy) (e : isD dx dy = some b) :
    (y = .non ∧ b = decide (x = .non)) ∨ ∃ c d, x = .bl c ∧ y = .bl d ∧ b = decide (c = d) := by
  cases dy with
  | none =>
    refine .inl ⟨hy.none, ?_⟩
    rcases isD_none e with ⟨z, rfl⟩ | ⟨z, rfl⟩
    · exact (decide_eq_true (hx.non_iff.mpr z)).symm
    · exact (decide_eq_false fun q => z (hx.non_iff.mp q)).symm
  | bool d =>
    cases dx with
    | bool c =>
      have e : some (decide (c = d)) = some b := e
      cases e
      exact .inr ⟨c, d, hx.bool, hy.bool, rfl⟩
    | _ => cases e
  | _ => cases e
theorem in_ok (hZ : In X Z) (hu : X.A.units + 64 < cLine) {pins : List (Addr × Obj)} {s : Shared} {σ : L2.St} {H : Hp} {x y : V} {v u : Value} {Q : VK} {F : Hp} {dx dy : D} {b : Bool} (I : Inv X pins σ H s) (rx : RelV x v) (ry : RelV y u) (fh : FH F H) (hx : Lk Z.K F H x dx) (hy : Lk Z.K F H y dy)
    (e : inD dx dy = some b) : (∀ (q : Q (.bl b) H), wpAny (model X.prog X.w) X.A (compareOp .In v u) (EP X pins σ Q) X.xe s) ∧ (∀ (q : Q (.bl (!b)) H), wpAny (model X.prog X.w) X.A (compareOp .NotIn v u) (EP X pins σ Q) X.xe s) := by
  unfold inD at e
  split at e
  · rename_i ds
    split at e
    · rename_i h
      unfold allOk at h
      rw [Bool.and_eq_true] at h
      cases e
      obtain ⟨p1, p2⟩ := okD_pl h.1
      obtain ⟨q1, q2⟩ := okAll_pl h.2
      obtain ⟨as, r1⟩ := hx.reads hZ I fh p1 rx
      obtain ⟨bs, r2⟩ := hy.reads hZ I fh q1 ry
      have hd : X.A.units + 1 + min (PyData.depthAll ds) dx.depth < cLine := by
        have := Nat.min_le_left (PyData.depthAll ds) dx.depth
        omega
      exact ⟨fun q => SeqAt.in_list_data r2 r1 q1 p1 hd ⟨.bl _, H, I, rfl, q⟩, fun q => SeqAt.notIn_list_data r2 r1 q1 p1 hd ⟨.bl _, H, I, rfl, q⟩⟩
    · cases e
  · rename_i ds
    split at e
    · rename_i h
      unfold allOk at h
      rw [Bool.and_eq_true] at h
      cases e
      obtain ⟨p1, p2⟩ := okD_pl h.1
      obtain ⟨q1, q2⟩ := okAll_pl h.2
      obtain ⟨as, r1⟩ := hx.reads hZ I fh p1 rx
      obtain ⟨bs, r2⟩ := hy.reads hZ I fh q1 ry
      have hd : X.A.units + 1 + min (PyData.depthAll ds) dx.depth < cLine := by
        have := Nat.min_le_left (PyData.depthAll ds) dx.depth
        omega
      exact ⟨fun q => SeqAt.in_tuple_data r2 r1 q1 p1 hd ⟨.bl _, H, I, rfl, q⟩, fun q => SeqAt.notIn_tuple_data r2 r1 q1 p1 hd ⟨.bl _, H, I, rfl, q⟩⟩
    · cases e
  · split at e
    · rename_i h
      cases e
      obtain ⟨k, rfl⟩ := okKey_iff h
      obtain ⟨a, kvs, rfl, hH, r⟩ := hy.dict fh
      have ex : x = kV k := by
        cases k with
        | inl i => exact hx.int
        | inr z => exact hx.str
      subst ex
      have g : DGet H a (kV k) (valV kvs k) := .inl ⟨kvs, k, hH, rfl, rfl⟩
      have eb := (r.any k).symm.trans (valV_any k kvs)
      obtain rfl : u = Value.ref a := ry
      rw [eb]
      exact ⟨fun q => d_in (by omega) I g rx fun s3 I3 => ⟨.bl _, H, I3, rfl, q⟩, fun q => d_notIn (by omega) I g rx fun s3 I3 => ⟨.bl _, H, I3, rfl, q⟩⟩
    · cases e
  · split at e
    · cases e
      have ex := hx.str
      have ey := hy.str
      exact ⟨fun q => op_in_str pins s σ H x y v u Q I rx ry ⟨_, _, ex, ey, q⟩, fun q => op_notin_str pins s σ H x y v u Q I rx ry ⟨_, _, ex, ey, q⟩⟩
    · cases e
  · cases e
theorem op_cmp (hZ : In X Z) (hu : X.A.units + 64 < cLine) (op : CmpOp) : OpR X (compareOp op) (rCmp Z op) := by
  intro pins s σ H x y v u Q I rx ry ⟨F, dx, dy, b, fh, hx, hy, e, q⟩
  have lt : ∀ {x y : V} {v u : Value} {dx dy : D}, RelV x v → RelV y u → Lk Z.K F H x dx → Lk Z.K F H y dy → ltD dx dy = some b → (∃ i j, x = .int i ∧ y = .int j ∧ b = decide (i < j)) ∨ (∃ i j, x = .str i ∧ y = .str j ∧ b = decide (i.cps.toList < j.cps.toList)) := by
    intro x y v u dx dy rx ry hx hy e
    unfold ltD at e
    split at e
    · cases e; exact .inl ⟨_, _, hx.int, hy.int, rfl⟩
    · cases e; exact .inr ⟨_, _, hx.str, hy.str, rfl⟩
    · cases e
  have le : ∀ {x y : V} {v u : Value} {dx dy : D}, RelV x v → RelV y u → Lk Z.K F H x dx → Lk Z.K F H y dy → leD dx dy = some b → (∃ i j, x = .int i ∧ y = .int j ∧ b = decide (i ≤ j)) ∨ (∃ i j, x = .str i ∧ y = .str j ∧ b = !decide (j.cps.toList < i.cps.toList)) := by
    intro x y v u dx dy rx ry hx hy e
    unfold leD at e
    split at e
    · cases e; exact .inl ⟨_, _, hx.int, hy.int, rfl⟩
    · cases e; exact .inr ⟨_, _, hx.str, hy.str, rfl⟩
    · cases e
  cases op with
  | Eq => exact (eq_ok hZ hu I rx ry fh hx hy e).1 q
  | NotEq =>
    obtain ⟨b', e', rfl⟩ := Option.map_eq_some_iff.mp (show (eqV dx dy).map (!·) = some b from e)
    exact (eq_ok hZ hu I rx ry fh hx hy e').2 q
  | Lt =>
    rcases lt rx ry hx hy e with ⟨i, j, rfl, rfl, rfl⟩ | ⟨i, j, rfl, rfl, rfl⟩
    · exact op_lt pins s σ H _ _ v u Q I rx ry ⟨_, _, rfl, rfl, q⟩
    · exact op_lt_str pins s σ H _ _ v u Q I rx ry ⟨_, _, rfl, rfl, q⟩
  | LtE =>
    rcases le rx ry hx hy e with ⟨i, j, rfl, rfl, rfl⟩ | ⟨i, j, rfl, rfl, rfl⟩
    · exact op_le pins s σ H _ _ v u Q I rx ry ⟨_, _, rfl, rfl, q⟩
    · exact op_le_str pins s σ H _ _ v u Q I rx ry ⟨_, _, rfl, rfl, q⟩
  | Gt =>
    rcases lt ry rx hy hx e with ⟨i, j, rfl, rfl, rfl⟩ | ⟨i, j, rfl, rfl, rfl⟩
    · exact op_gt pins s σ H _ _ v u Q I rx ry ⟨_, _, rfl, rfl, q⟩
    · exact op_gt_str pins s σ H _ _ v u Q I rx ry ⟨_, _, rfl, rfl, q⟩
  | GtE =>
    rcases le ry rx hy hx e with ⟨i, j, rfl, rfl, rfl⟩ | ⟨i, j, rfl, rfl, rfl⟩
    · exact op_ge pins s σ H _ _ v u Q I rx ry ⟨_, _, rfl, rfl, q⟩
    · exact op_ge_str pins s σ H _ _ v u Q I rx ry ⟨_, _, rfl, rfl, q⟩
  | Is =>
    rcases is_ok hx hy e with ⟨rfl, rfl⟩ | ⟨c, d, rfl, rfl, rfl⟩
    · exact op_isN pins s σ H _ _ v u Q I rx ry ⟨rfl, q⟩
    · exact op_is_bl pins s σ H _ _ v u Q I rx ry ⟨_, _, rfl, rfl, q⟩
  | IsNot =>
    obtain ⟨b', e', rfl⟩ := Option.map_eq_some_iff.mp (show (isD dx dy).map (!·) = some b from e)
    rcases is_ok hx hy e' with ⟨rfl, rfl⟩ | ⟨c, d, rfl, rfl, rfl⟩
    · exact op_notN pins s σ H _ _ v u Q I rx ry ⟨rfl, q⟩
    · exact op_isnot_bl pins s σ H _ _ v u Q I rx ry ⟨_, _, rfl, rfl, q⟩
  | In => exact (in_ok hZ hu I rx ry fh hx hy e).1 q
  | NotIn =>
    obtain ⟨b', e', rfl⟩ := Option.map_eq_some_iff.mp (show (inD dx dy).map (!·) = some b from e)
    exact (in_ok hZ hu I rx ry fh hx hy e').2 q
end
end EV
end PartEvOps
section PartEvExp
set_option autoImplicit false
set_option linter.all false
set_option maxRecDepth 100000
/-! EvExp: expressions of the interpreter by the hand layer's rules. -/
namespace EV
open PySem PySem.Spec L2

/-! ### answers as wished -/
def Res.sat {α : Type} (r : Res α) (K : α → S → Prop) (W : Exn → S → Prop) : Prop := match r with
  | .ok a s => K a s
  | .ex x s => W x s
  | .bad => False
theorem sat_bd {α β : Type} {r : Res α} {f : α → S → Res β} {K : β → S → Prop} {W : Exn → S → Prop} : (r.bd f).sat K W = r.sat (fun a s => (f a s).sat K W) W := by cases r <;> rfl
theorem Res.sat.imp {α : Type} {r : Res α} {K K' : α → S → Prop} {W : Exn → S → Prop} (h : r.sat K W) (k : ∀ a s, K a s → K' a s) : r.sat K' W := by
  cases r with
  | ok a s => exact k a s h
  | ex x s => exact h
  | bad => exact h
theorem sat_lift {α : Type} {o : Option α} {s : S} {K : α → S → Prop} {W : Exn → S → Prop} (h : (lift o s).sat K W) : ∃ a, o = some a ∧ K a s := by
  cases o with
  | none => exact h.elim
  | some a => exact ⟨a, rfl, h⟩

/-- they were owned, or are new -/
def Fo (g0 : Gh) (H0 : Hp) (cs : List Addr) : Prop := ∀ a ∈ cs, (∃ q, a ∈ g0.ow q) ∨ H0 a = none
theorem Fo.nil {g0 : Gh} {H0 : Hp} : Fo g0 H0 [] := fun _ h => nomatch h
theorem Fo.pre {g0 g1 : Gh} {H0 H1 : Hp} {cs : List Addr} (x : Ext g0 H0 g1 H1) (h : Fo g1 H1 cs) : Fo g0 H0 cs := fun a ha => by
  rcases h a ha with ⟨q, hq⟩ | e
  · exact x.own q a hq
  · exact x.back e
/-- a thing at hand, made since g0, H0 -/
def Tm (Z : Wd) (g0 : Gh) (H0 : Hp) (g : Gh) (H : Hp) (v : V) (t : T) : Prop := ∃ cs, Tmp Z g H v t cs ∧ Fo g0 H0 cs
section
variable {Z : Wd} {g0 g1 g g' : Gh} {H0 H1 H H' : Hp} {v : V} {t : T}
theorem Tm.vw (h : Tm Z g0 H0 g H v t) : Vw Z g H v t := let ⟨_, a, _⟩ := h; a.vw
theorem Tm.ext (h : Tm Z g0 H0 g H v t) (x : Ext g H g' H') : Tm Z g0 H0 g' H' v t := let ⟨cs, a, b⟩ := h; ⟨cs, a.ext x, b⟩
theorem Tm.pre (x : Ext g0 H0 g1 H1) (h : Tm Z g1 H1 g H v t) : Tm Z g0 H0 g H v t := let ⟨cs, a, b⟩ := h; ⟨cs, a, b.pre x⟩
theorem Tm.pl {d : D} (h : Pd Z.K g.F v d) : Tm Z g0 H0 g H v (.pl d) := ⟨[], Tmp.pl h, Fo.nil⟩
end
/-- of what kind the layer's answer is -/
def Kd (Z : Wd) (g0 : Gh) (H0 : Hp) (g : Gh) (H : Hp) (σ : L2.St) (m : Md) (e : E) (v : V) (t : T) : Prop := match m with
  | .v => (match e with
    | .var i => σ[i]? = some (some v) ∧ Vw Z g H v t
    | .att _ _ => Vw Z g H v t ∧ (pob t = true → Tm Z g0 H0 g H v t)
    | .idx _ _ => Vw Z g H v t ∧ (pob t = true → Tm Z g0 H0 g H v t)
    | _ => Tm Z g0 H0 g H v t)
  | _ => Tm Z g0 H0 g H v t
section
variable {Z : Wd} {g0 g00 g g' : Gh} {H0 H00 H H' : Hp} {σ : L2.St} {m : Md} {e : E} {v : V} {t : T} {s s' : S}
theorem Kd.of (h : Tm Z g0 H0 g H v t) (hv : ∀ i, e = .var i → m = .v → σ[i]? = some (some v)) : Kd Z g0 H0 g H σ m e v t := by
  unfold Kd
  cases m with
  | v =>
    cases e with
    | var i => exact ⟨hv i rfl rfl, h.vw⟩
    | att a f => exact ⟨h.vw, fun _ => h⟩
    | idx a i => exact ⟨h.vw, fun _ => h⟩
    | _ => exact h
  | _ => exact h
theorem Kd.vw (h : Kd Z g0 H0 g H σ m e v t) : Vw Z g H v t := by
  unfold Kd at h
  cases m with
  | v =>
    cases e with
    | var i => exact h.2
    | att a f => exact h.1
    | idx a i => exact h.1
    | _ => exact Tm.vw h
  | _ => exact Tm.vw h
theorem Kd.tm (h : Kd Z g0 H0 g H σ .e e v t) : Tm Z g0 H0 g H v t := h
end
/-- an expression as the interpreter reads it -/
def RdE (Z : Wd) (P : Pm) (W : Exn → S → Prop) (e : E) (m : Md) : TE := fun σ H Q => ∃ g s, Rel Z g s σ H ∧
  (ev P e m s).sat (fun t s' => ∀ g' H' v, Rel Z g' s' σ H' → Ext g H g' H' → Kd Z g H g' H' σ m e v t → Q v H') W
def RdT (Z : Wd) (P : Pm) (W : Exn → S → Prop) (e : E) : TT := fun σ H Q => ∃ g s, Rel Z g s σ H ∧
  (toB (ev P e .e s)).sat (fun b s' => ∀ g' H', Rel Z g' s' σ H' → Ext g H g' H' → Q b H') W
/-- several, as data -/
def RdD (Z : Wd) (P : Pm) (W : Exn → S → Prop) (es : List E) : TA := fun σ H Q => ∃ g s, Rel Z g s σ H ∧
  (evD P es s).sat (fun ds s' => ∀ g' H' vs, Rel Z g' s' σ H' → Ext g H g' H' → PdAll Z.K g'.F vs ds → Q vs H') W

section
variable {Z : Wd} {g g1 g2 : Gh} {H H1 H2 : Hp} {σ : L2.St} {s s1 s2 : S} {v : V} {t : T} {W : Exn → S → Prop}
theorem Rel.pl (r : Rel Z g s σ H) {i : Nat} {t : T} (h : s.vs[i]? = some t) (hu : t ≠ .un) : ∃ v, σ[i]? = some (some v) ∧ Tr Z g.F g.γ H v t (g.ow (.s i)) ∧ Bo Z g.F v t fun a => a ∈ g.bo := (r.slot i t h).resolve_left hu
theorem slotV_ok (r : Rel Z g s σ H) {i : Nat} {K : T → S → Prop} (h : (slotV i s).sat K W) : ∃ v t, σ[i]? = some (some v) ∧ Vw Z g H v t ∧ K t s := by
  unfold slotV at h
  split at h
  · exact h.elim
  · rename_i t e n
    obtain ⟨v, e1, e2, _⟩ := r.pl n (fun z => e z)
    exact ⟨v, t, e1, ⟨_, e2⟩, h⟩
  · exact h.elim
theorem late_ok {g0 : Gh} {H0 : Hp} {a : E} {q : Bool} {K : T → S → Prop} (k : Kd Z g0 H0 g1 H1 σ .v a v t) (x : Ext g1 H1 g2 H2) (r : Rel Z g2 s2 σ H2) (h : (late a t q s2).sat K W) : ∃ t', Vw Z g2 H2 v t' ∧ K t' s2 := by
  have tmp : Tm Z g0 H0 g1 H1 v t → K t s2 → ∃ t', Vw Z g2 H2 v t' ∧ K t' s2 := fun z h => ⟨t, (z.ext x).vw, h⟩
  have part : (Vw Z g1 H1 v t ∧ (pob t = true → Tm Z g0 H0 g1 H1 v t)) → (match t with
    | .pl _ => Res.ok t s2
    | .ob _ => Res.ok t s2
    | _ => Res.bad).sat K W → ∃ t', Vw Z g2 H2 v t' ∧ K t' s2 := by
    intro ⟨_, z⟩ h
    cases t <;> first | exact h.elim | exact tmp (z rfl) h
  cases a with
  | var i =>
    obtain ⟨v', t', e1, e2, e3⟩ := slotV_ok r h
    have e0 : σ[i]? = some (some v) := k.1
    rw [e0] at e1
    cases e1
    exact ⟨t', e2, e3⟩
  | att a f => exact part k h
  | idx a f => exact part k h
  | _ => exact tmp k h
end
section
variable {X : Cx} {Z : Wd} {P : Pm} {W : Exn → S → Prop} {a b c : Expr} {ea eb ec : E} {pos : Pos} {m : Md}
/-- two things that are looked at -/
theorem two_ok {g : Gh} {s : S} {σ : L2.St} {H : Hp} {K : D × D → S → Prop} {R : V → V → Hp → Prop} (r : Rel Z g s σ H) (h : (two ea eb (ev P ea .v) (ev P eb .v) s).sat K W)
    (k : ∀ dx dy s' g' H' x y, Rel Z g' s' σ H' → Ext g H g' H' → Lk Z.K g'.F H' x dx → Lk Z.K g'.F H' y dy → K (dx, dy) s' → R x y H') :
    RdE Z P W ea .v σ H fun x H1 => RdE Z P W eb .v σ H1 fun y H2 => R x y H2 := by
  unfold two at h
  rw [sat_bd] at h
  refine ⟨g, s, r, h.imp fun x s1 h1 g1 H1 v1 r1 x1 k1 => ?_⟩
  rw [sat_bd] at h1
  refine ⟨g1, s1, r1, h1.imp fun y s2 h2 g2 H2 v2 r2 x2 k2 => ?_⟩
  rw [sat_bd] at h2
  obtain ⟨t', vw, h3⟩ := late_ok k1 x2 r2 h2
  rw [sat_bd] at h3
  obtain ⟨dx, e1, h4⟩ := sat_lift h3
  rw [sat_bd] at h4
  obtain ⟨dy, e2, h5⟩ := sat_lift h4
  exact k dx dy s2 g2 H2 v1 v2 r2 (x1.trans x2) (vw.lk e1) (k2.vw.lk e2) h5
theorem twx_ok {g : Gh} {s : S} {σ : L2.St} {H : Hp} {K : D × D → S → Prop} {R : V → V → Hp → Prop} (r : Rel Z g s σ H) (h : (twx ea eb (ev P ea .v) (ev P eb .v) s).sat K W)
    (k : ∀ dx dy s' g' H' x y, Rel Z g' s' σ H' → Ext g H g' H' → Lx Z.K g'.F H' x dx → Lx Z.K g'.F H' y dy → K (dx, dy) s' → R x y H') :
    RdE Z P W ea .v σ H fun x H1 => RdE Z P W eb .v σ H1 fun y H2 => R x y H2 := by
  unfold twx at h
  rw [sat_bd] at h
  refine ⟨g, s, r, h.imp fun x s1 h1 g1 H1 v1 r1 x1 k1 => ?_⟩
  rw [sat_bd] at h1
  refine ⟨g1, s1, r1, h1.imp fun y s2 h2 g2 H2 v2 r2 x2 k2 => ?_⟩
  rw [sat_bd] at h2
  obtain ⟨t', vw, h3⟩ := late_ok k1 x2 r2 h2
  rw [sat_bd] at h3
  obtain ⟨dx, e1, h4⟩ := sat_lift h3
  rw [sat_bd] at h4
  obtain ⟨dy, e2, h5⟩ := sat_lift h4
  exact k dx dy s2 g2 H2 v1 v2 r2 (x1.trans x2) (vw.lx e1) (k2.vw.lx e2) h5
theorem Rel.newT {g : Gh} {s : S} {σ : L2.St} {H F' H' : Hp} {v : V} {t : T} (r : Rel Z g s σ H) (n : Nw Z g.F H v t F' H') : Rel Z (g.fr F') s σ H' ∧ Ext g H (g.fr F') H' ∧ Tm Z g H (g.fr F') H' v t := by
  obtain ⟨r2, x2, _⟩ := r.new n
  refine ⟨r2, x2, ?_⟩
  obtain ⟨cs, h1, h2, h3, h4⟩ := n.tr
  exact ⟨cs, ⟨h1 _, h2, fun a ha => ⟨(h3 a ha).1, (h3 a ha).2.2, fun p hp => (r.own p a hp).2 (h3 a ha).2.1, fun hb => (r.bor a hb).1 (h3 a ha).2.1⟩, Bo.no h4⟩, fun a ha => .inr (h3 a ha).2.1⟩
theorem noVar {e : E} {m : Md} {σ : L2.St} {v : V} (h : ∀ i, e ≠ .var i) : ∀ i, e = .var i → m = .v → σ[i]? = some (some v) := fun i q => absurd q (h i)
/-- a plain answer -/
theorem fin_pl {g g' : Gh} {s' : S} {σ : L2.St} {H H' : Hp} {e : E} {v : V} {d : D} {Q : VK} (he : ∀ i, e ≠ .var i)
    (h : ∀ g' H' v, Rel Z g' s' σ H' → Ext g H g' H' → Kd Z g H g' H' σ m e v (.pl d) → Q v H') (r : Rel Z g' s' σ H') (x : Ext g H g' H') (p : Pd Z.K g'.F v d) : Q v H' :=
  h g' H' v r x (Kd.of (Tm.pl p) (noVar he))
theorem fin_new {g g' : Gh} {s' : S} {σ : L2.St} {H H' H'' F'' : Hp} {e : E} {v : V} {t : T} {Q : VK} (he : ∀ i, e ≠ .var i)
    (h : ∀ g' H' v, Rel Z g' s' σ H' → Ext g H g' H' → Kd Z g H g' H' σ m e v t → Q v H') (r : Rel Z g' s' σ H') (x : Ext g H g' H') (n : Nw Z g'.F H' v t F'' H'') : Q v H'' := by
  obtain ⟨r2, x2, t2⟩ := r.newT n
  exact h _ H'' v r2 (x.trans x2) (Kd.of (t2.pre x) (noVar he))

theorem rd_bin (hZ : In X Z) {op : Operator} (ha : PE X a (RdE Z P W ea .v)) (hb : PE X b (RdE Z P W eb .v)) : PE X (.BinOp a op b pos) (RdE Z P W (.bin op ea eb) m) :=
  (pe_op (op_bin hZ op) ha hb).imp fun σ H Q ⟨g, s, r, h⟩ => by
    unfold ev at h
    rw [sat_bd] at h
    refine twx_ok r h fun dx dy s' g' H' x y r' x' hx hy h' => ?_
    obtain ⟨t, e, h'⟩ := sat_lift h'
    exact ⟨g'.F, dx, dy, t, r'.frz, hx, hy, e, fun v F' H'' n => fin_new (by intro i z; cases z) h' r' x' n⟩
theorem rd_cmp (hZ : In X Z) (hu : X.A.units + 64 < cLine) {op : CmpOp} (ha : PE X a (RdE Z P W ea .v)) (hb : PE X b (RdE Z P W eb .v)) (hm : behindInMarks op b = false) : PE X (.Compare a [op] [b] pos) (RdE Z P W (.cmp op ea eb) m) :=
  (pe_cmpR (op_cmp hZ hu op) ha hb hm).imp fun σ H Q ⟨g, s, r, h⟩ => by
    unfold ev at h
    rw [sat_bd] at h
    refine two_ok r h fun dx dy s' g' H' x y r' x' hx hy h' => ?_
    obtain ⟨t, e, h'⟩ := sat_lift h'
    obtain ⟨b', e2, rfl⟩ := Option.map_eq_some_iff.mp e
    exact ⟨g'.F, dx, dy, b', r'.frz, hx, hy, e2, fin_pl (by intro i z; cases z) h' r' x' (.bl b')⟩
theorem rdt_cmp (hZ : In X Z) (hu : X.A.units + 64 < cLine) {op : CmpOp} (ha : PE X a (RdE Z P W ea .v)) (hb : PE X b (RdE Z P W eb .v)) (hm : behindInMarks op b = false) : PT X (.Compare a [op] [b] pos) (RdT Z P W (.cmp op ea eb)) :=
  (pt_cmpR (op_cmp hZ hu op) ha hb hm).imp fun σ H Q ⟨g, s, r, h⟩ => by
    unfold toB ev at h
    rw [sat_bd, sat_bd] at h
    refine two_ok r h fun dx dy s' g' H' x y r' x' hx hy h' => ?_
    obtain ⟨t, e, h'⟩ := sat_lift h'
    obtain ⟨b', e2, rfl⟩ := Option.map_eq_some_iff.mp e
    exact ⟨g'.F, dx, dy, b', r'.frz, hx, hy, e2, b', rfl, h' g' H' r' x'⟩
end

/-! ### freezing -/
section
variable {Z : Wd} {g : Gh} {s : S} {σ : L2.St} {H : Hp} {a : Addr} {o : HO} {v : V} {t : T} {d : D} {g0 : Gh} {H0 : Hp}
/-- ow without an owner -/
def Gh.free (g : Gh) (p : Ow) : Gh := { g with ow := fun q => if q = p then [] else g.ow q }
theorem Gh.free_at {p : Ow} : (g.free p).ow p = [] := if_pos rfl
theorem Gh.free_ne {p q : Ow} (h : q ≠ p) : (g.free p).ow q = g.ow q := if_neg h
theorem Gh.free_mem {p q : Ow} {b : Addr} (h : b ∈ (g.free p).ow q) : q ≠ p ∧ b ∈ g.ow q := by
  by_cases e : q = p
  · subst e; rw [Gh.free_at] at h; exact nomatch h
  · rw [Gh.free_ne e] at h; exact ⟨e, h⟩
theorem Gh.free_nm {p : Ow} {b : Addr} (h : ∀ q, b ∉ g.ow q) : ∀ q, b ∉ (g.free p).ow q := fun q z => h q (Gh.free_mem z).2
/-- a slot is emptied: what it owned is at hand -/
theorem Rel.free (r : Rel Z g s σ H) (i : Nat) : Rel Z (g.free (.s i)) { s with vs := s.vs.set i .un } σ H ∧ Ext g H (g.free (.s i)) H := by
  refine ⟨⟨by rw [List.length_set]; exact r.len, fun j t h => ?_, fun j h => ?_, r.glen, fun n o a h1 h2 => ?_, fun n h => ?_, r.frz, fun p a h => r.own p a (Gh.free_mem h).2, fun p q a h1 h2 => r.dis p q a (Gh.free_mem h1).2 (Gh.free_mem h2).2, fun p => ?_, fun a h => ⟨(r.bor a h).1, Gh.free_nm (r.bor a h).2⟩⟩, ⟨Sub.refl _, ⟨[], by simp [Gh.free]⟩, fun a o h _ => .inl h, fun p a h => .inl ⟨p, (Gh.free_mem h).2⟩, fun a h => .inl h, rfl⟩⟩
  · have h : (s.vs.set i .un)[j]? = some t := h
    by_cases e : i = j
    · subst e
      rw [List.getElem?_set] at h
      simp only [if_true] at h
      split at h
      · cases h; exact .inl rfl
      · cases h
    · rw [List.getElem?_set_ne e] at h
      refine (r.slot j t h).imp_right fun ⟨v, h1, h2, h3⟩ => ⟨v, h1, ?_, h3⟩
      rw [Gh.free_ne (by intro z; cases z; exact e rfl)]
      exact h2
  · by_cases e : i = j
    · subst e; exact Gh.free_at
    · rw [Gh.free_ne (by intro z; cases z; exact e rfl)]
      have h : (s.vs.set i .un)[j]? = some .un ∨ (s.vs.set i .un)[j]? = none := h
      rw [List.getElem?_set_ne e] at h
      exact r.emp j h
  · rw [Gh.free_ne (by intro z; cases z)]
    exact r.obj n o a h1 h2
  · rw [Gh.free_ne (by intro z; cases z)]
    exact r.oemp n h
  · by_cases e : p = .s i
    · subst e; rw [Gh.free_at]; exact List.nodup_nil
    · rw [Gh.free_ne e]; exact r.nd p
/-- .. as a thing at hand -/
theorem Rel.taken (r : Rel Z g s σ H) {i : Nat} (h : s.vs[i]? = some t) (hu : t ≠ .un) (hb : isB t = false) :
    ∃ v, σ[i]? = some (some v) ∧ Tm Z g H (g.free (.s i)) H v t := by
  obtain ⟨v, h1, h2, h3⟩ := r.pl h hu
  refine ⟨v, h1, g.ow (.s i), ⟨h2, r.nd _, fun a ha => ⟨(r.own _ a ha).1, (r.own _ a ha).2, fun p hp => ?_, fun hb => (r.bor a hb).2 _ ha⟩, Bo.no hb⟩, fun a ha => .inl ⟨_, ha⟩⟩
  obtain ⟨n, hp⟩ := Gh.free_mem hp
  exact n (r.dis _ _ a hp ha)
/-- a list or dict at hand is frozen -/
theorem Rel.more (r : Rel Z g s σ H) (hF : g.F a = none) (hH : H a = some o) (hn : ∀ p, a ∉ g.ow p) :
    Rel Z (g.fr (upd g.F a o)) s σ H ∧ Sub g.F (upd g.F a o) := by
  have hs : Sub g.F (upd g.F a o) := fun b u e => by
    rw [upd_ne]
    · exact e
    · intro z; subst z; rw [hF] at e; cases e
  refine ⟨⟨r.len, fun i t h => ?_, r.emp, r.glen, fun m o a h1 h2 => (r.obj m o a h1 h2).keep hs ⟨[], by simp [Gh.fr]⟩ fun b _ o h => h, r.oemp, fun b u e => ?_, fun p b h => ⟨?_, (r.own p b h).2⟩, r.dis, r.nd, r.bor⟩, hs⟩
  · exact (r.slot i t h).imp_right fun ⟨v, e, tr, b⟩ => ⟨v, e, tr.keep hs ⟨[], by simp [Gh.fr]⟩ (fun b _ o h => h) (b.imp (Sub.refl _) fun a _ => Kp.of fun o h => h), b.imp hs fun a h => h⟩
  · have e : upd g.F a o b = some u := e
    by_cases z : b = a
    · subst z; rw [upd_same] at e; cases e; exact .inl hH
    · rw [upd_ne z] at e; exact r.frz b u e
  · show upd g.F a o b = none
    rw [upd_ne]
    · exact (r.own p b h).1
    · intro z; subst z; exact hn p h
theorem Ext.more {F' : Hp} (x : Ext g0 H0 g H) (hs : Sub g.F F') (hn : ∀ b, F' b ≠ none → g.F b ≠ none ∨ (∃ q, b ∈ g0.ow q) ∨ H0 b = none) : Ext g0 H0 (g.fr F') H :=
  ⟨x.sub.trans hs, x.γ, x.keep, x.own, fun b h => (hn b h).elim (x.frz b) .inr, x.bo⟩
theorem freezeA (r : Rel Z g s σ H) (x : Ext g0 H0 g H) (hF : g.F a = none) (hH : H a = some o) (hn : ∀ p, a ∉ g.ow p) (ho : (∃ q, a ∈ g0.ow q) ∨ H0 a = none) :
    ∃ F', Rel Z (g.fr F') s σ H ∧ Ext g0 H0 (g.fr F') H ∧ Sub g.F F' ∧ F' a = some o := by
  obtain ⟨r2, hs⟩ := r.more hF hH hn
  refine ⟨_, r2, x.more hs fun b h => ?_, hs, upd_same⟩
  by_cases z : b = a
  · subst z; exact .inr ho
  · rw [upd_ne z] at h; exact .inl h
/-- as data -/
theorem Tm.freeze (h : Tm Z g0 H0 g H v t) (e : t.dat = some d) (r : Rel Z g s σ H) (x : Ext g0 H0 g H) : ∃ F', Rel Z (g.fr F') s σ H ∧ Ext g0 H0 (g.fr F') H ∧ Sub g.F F' ∧ Pd Z.K F' v d := by
  obtain ⟨cs, ⟨h1, h2, h3, h4⟩, h5⟩ := h
  cases h1 <;> first | (cases e; done) | skip
  case pl p => cases e; exact ⟨g.F, r, x, Sub.refl _, p⟩
  case ol hH p =>
    cases e
    obtain ⟨F', r2, x2, s2, e2⟩ := freezeA r x (h3 _ (by simp)).1 hH (h3 _ (by simp)).2.2.1 (h5 _ (by simp))
    exact ⟨F', r2, x2, s2, .lst e2 (p.mono s2)⟩
  case od hH p =>
    cases e
    obtain ⟨F', r2, x2, s2, e2⟩ := freezeA r x (h3 _ (by simp)).1 hH (h3 _ (by simp)).2.2.1 (h5 _ (by simp))
    exact ⟨F', r2, x2, s2, .dic e2 (p.mono s2)⟩
theorem Ext.fr {F' : Hp} (x : Ext g0 H0 g H) (y : Ext g0 H0 (g.fr F') H) : True := True.intro
end
end EV
end PartEvExp
section PartEvExp2
set_option autoImplicit false
set_option linter.all false
set_option maxRecDepth 100000
/-! EvExp2: names, constants, displays, and, or, not, chains, subscripts. -/
namespace EV
open PySem PySem.Spec L2

section
variable {Z : Wd} {g g0 g' : Gh} {s s' : S} {σ : L2.St} {H H0 H' : Hp} {v : V} {t : T} {d : D} {i : Nat} {W : Exn → S → Prop}
/-- a plain datum is put at an empty slot -/
theorem Rel.put (r : Rel Z g s σ H) (he : g.ow (.s i) = []) (hv : σ[i]? = some (some v)) (tr : Tr Z g.F g.γ H v t []) (hb : isB t = false) (hu : t ≠ .un) :
    Rel Z g { s with vs := s.vs.set i t } σ H := by
  refine ⟨by rw [List.length_set]; exact r.len, fun j u h => ?_, fun j h => ?_, r.glen, r.obj, r.oemp, r.frz, r.own, r.dis, r.nd, r.bor⟩
  · have h : (s.vs.set i t)[j]? = some u := h
    by_cases e : i = j
    · subst e
      rw [List.getElem?_set] at h
      simp only [if_true] at h
      split at h
      · cases h
        exact .inr ⟨v, hv, by rw [he]; exact tr, Bo.no hb⟩
      · cases h
    · rw [List.getElem?_set_ne e] at h
      exact r.slot j u h
  · by_cases e : i = j
    · subst e; exact he
    · have h : (s.vs.set i t)[j]? = some .un ∨ (s.vs.set i t)[j]? = none := h
      rw [List.getElem?_set_ne e] at h
      exact r.emp j h
theorem Tr.noCs {F : Hp} {γ : List Addr} {cs : List Addr} (h : Tr Z F γ H v t cs) (p : pob t = true) : cs = [] := by
  cases h <;> first | rfl | cases p
theorem Tm.pob {g1 : Gh} {H1 : Hp} (h : Vw Z g H v t) (p : pob t = true) : Tm Z g1 H1 g H v t := by
  obtain ⟨cs, h⟩ := h
  obtain rfl := h.noCs p
  refine ⟨[], ⟨h, List.nodup_nil, (fun _ h => nomatch h), Bo.no ?_⟩, Fo.nil⟩
  cases t <;> first | rfl | cases p
theorem set_set {vs : List T} {a b : T} : (vs.set i a).set i b = vs.set i b := by simp
theorem slotE_ok (r : Rel Z g s σ H) {K : T → S → Prop} (h : (slotE i s).sat K W) : ∃ v t g' s', σ[i]? = some (some v) ∧ K t s' ∧ Rel Z g' s' σ H ∧ Ext g H g' H ∧ Tm Z g H g' H v t := by
  have frz : ∀ {t : T} {d : D}, s.vs[i]? = some t → t ≠ .un → isB t = false → t.dat = some d → K (.pl d) { s with vs := s.vs.set i (.pl d) } →
      ∃ v t g' s', σ[i]? = some (some v) ∧ K t s' ∧ Rel Z g' s' σ H ∧ Ext g H g' H ∧ Tm Z g H g' H v t := by
    intro t d e hu hb hd h
    obtain ⟨r1, x1⟩ := r.free i
    obtain ⟨v, e1, tm⟩ := r.taken e hu hb
    obtain ⟨F', r2, x2, s2, p⟩ := tm.freeze hd r1 x1
    have r3 := r2.put (t := .pl d) (Gh.free_at (g := g)) e1 (.pl p) rfl (fun z => nomatch z)
    simp only [set_set] at r3
    exact ⟨v, _, _, _, e1, h, r3, x2, Tm.pl p⟩
  unfold slotE at h
  split at h
  · rename_i d e
    obtain ⟨v, e1, e2, _⟩ := r.pl e (fun z => nomatch z)
    exact ⟨v, _, g, s, e1, h, r, Ext.refl _ _, Tm.pob ⟨_, e2⟩ rfl⟩
  · rename_i n e
    obtain ⟨v, e1, e2, _⟩ := r.pl e (fun z => nomatch z)
    exact ⟨v, _, g, s, e1, h, r, Ext.refl _ _, Tm.pob ⟨_, e2⟩ rfl⟩
  · rename_i ds e
    exact frz e (fun z => nomatch z) rfl rfl h
  · rename_i ds e
    exact frz e (fun z => nomatch z) rfl rfl h
  · exact h.elim
theorem slotM_ok {fix : List Nat} (r : Rel Z g s σ H) {K : T → S → Prop} (h : (slotM fix i s).sat K W) : ∃ v t g' s', σ[i]? = some (some v) ∧ K t s' ∧ Rel Z g' s' σ H ∧ Ext g H g' H ∧ Tm Z g H g' H v t := by
  unfold slotM at h
  split at h
  · exact slotE_ok r h
  · split at h <;> first | exact h.elim | skip
    · rename_i d e
      obtain ⟨v, e1, e2, _⟩ := r.pl e (fun z => nomatch z)
      exact ⟨v, _, g, s, e1, h, r, Ext.refl _ _, Tm.pob ⟨_, e2⟩ rfl⟩
    · rename_i n e
      obtain ⟨v, e1, e2, _⟩ := r.pl e (fun z => nomatch z)
      exact ⟨v, _, g, s, e1, h, r, Ext.refl _ _, Tm.pob ⟨_, e2⟩ rfl⟩
    · rename_i t n1 n2 n3 n4 n5 n6 n7 n8 e
      obtain ⟨r1, x1⟩ := r.free i
      have hb : isB t = false := by
        cases t <;> first | rfl | exact absurd rfl (n1 _) | exact absurd rfl (n2 _) | exact absurd rfl (n3 _) | exact absurd rfl (n4 _) | exact absurd rfl (n5 _)
      obtain ⟨v, e1, tm⟩ := r.taken e (fun z => n6 z) hb
      exact ⟨v, t, _, _, e1, h, r1, x1, tm⟩
end

section
variable {X : Cx} {Z : Wd} {P : Pm} {W : Exn → S → Prop} {a b c : Expr} {ea eb ec : E} {pos : Pos} {m : Md} {es : List E} {as : List Expr}
theorem rd_var {i : Nat} {x : Str} (hN : X.N[i]? = some x) (hv : Vis X.env.scope x) (hd : (x == ("__debug__" : Str)) = false) (hcd : (x == ("__classdict__" : Str)) = false) : PE X (.Name x pos) (RdE Z P W (.var i) m) :=
  (pe_var hN hv hd hcd).imp fun σ H Q ⟨g, s, r, h⟩ => by
    unfold ev slot at h
    cases m with
    | v =>
      obtain ⟨v, t, e1, e2, h⟩ := slotV_ok r h
      exact ⟨v, e1, h g H v r (Ext.refl _ _) ⟨e1, e2⟩⟩
    | e =>
      obtain ⟨v, t, g', s', e1, h, r', x, tm⟩ := slotE_ok r h
      exact ⟨v, e1, h g' H v r' x tm⟩
    | m =>
      obtain ⟨v, t, g', s', e1, h, r', x, tm⟩ := slotM_ok r h
      exact ⟨v, e1, h g' H v r' x tm⟩
    | r =>
      obtain ⟨v, t, g', s', e1, h, r', x, tm⟩ := slotM_ok r h
      exact ⟨v, e1, h g' H v r' x tm⟩
theorem rd_c {v : V} {d : D} {e : Expr} (he : PE X e (tC v)) (hp : ∀ F, Pd Z.K F v d) : PE X e (RdE Z P W (.lit d) m) :=
  he.imp fun σ H Q ⟨g, s, r, h⟩ => by
    unfold ev at h
    exact h g H v r (Ext.refl _ _) (Kd.of (Tm.pl (hp _)) (by intro i z; cases z))
theorem rd_con {x : String} {v : V} {d : D} {e : Expr} (he : PE X e (tC v)) (hp : ∀ F, Pd Z.K F v d) (hc : P.con x = some d) : PE X e (RdE Z P W (.con x) m) :=
  he.imp fun σ H Q ⟨g, s, r, h⟩ => by
    unfold ev at h
    rw [hc] at h
    exact h g H v r (Ext.refl _ _) (Kd.of (Tm.pl (hp _)) (by intro i z; cases z))

/-! ### truth -/
theorem toB_ok {r : Res T} {K : Bool → S → Prop} (h : (toB r).sat K W) : r.sat (fun t s => ∃ b, t = .pl (.bool b) ∧ K b s) W := by
  unfold toB at h
  rw [sat_bd] at h
  refine h.imp fun t s h => ?_
  split at h
  · exact ⟨_, rfl, h⟩
  · exact h.elim
theorem toI_ok {r : Res T} {K : Int → S → Prop} (h : (toI r).sat K W) : r.sat (fun t s => ∃ b, t = .pl (.int b) ∧ K b s) W := by
  unfold toI at h
  rw [sat_bd] at h
  refine h.imp fun t s h => ?_
  split at h
  · exact ⟨_, rfl, h⟩
  · exact h.elim
theorem toP_ok {r : Res T} {K : D → S → Prop} (h : (toP r).sat K W) : r.sat (fun t s => ∃ d, t = .pl d ∧ K d s) W := by
  unfold toP at h
  rw [sat_bd] at h
  refine h.imp fun t s h => ?_
  split at h
  · exact ⟨_, rfl, h⟩
  · exact h.elim
theorem toD_ok {r : Res T} {K : D → S → Prop} (h : (toD r).sat K W) : r.sat (fun t s => ∃ d, t.dat = some d ∧ K d s) W := by
  unfold toD at h
  rw [sat_bd] at h
  exact h.imp fun t s h => sat_lift h
theorem Pd.bool {K : PySem.W.Frag} {F : Hp} {v : V} {b : Bool} (h : Pd K F v (.bool b)) : v = .bl b := by cases h; rfl
theorem Pd.int' {K : PySem.W.Frag} {F : Hp} {v : V} {b : Int} (h : Pd K F v (.int b)) : v = .int b := by cases h; rfl
/-- a test's reading to an expression's -/
theorem rd_toB {σ : L2.St} {H : Hp} {g : Gh} {s : S} {K : Bool → S → Prop} {R : V → Hp → Prop} (r : Rel Z g s σ H) (h : (toB (ev P ea .e s)).sat K W)
    (k : ∀ b s' g' H', Rel Z g' s' σ H' → Ext g H g' H' → K b s' → R (.bl b) H') : RdE Z P W ea .e σ H R :=
  ⟨g, s, r, (toB_ok h).imp fun t s' ⟨b, e, h'⟩ g' H' v r' x' k' => by
    subst e
    obtain rfl := k'.vw.pd.bool
    exact k b s' g' H' r' x' h'⟩
/-- an int's -/
theorem rd_toI {σ : L2.St} {H : Hp} {g : Gh} {s : S} {K : Int → S → Prop} {R : V → Hp → Prop} (r : Rel Z g s σ H) (h : (toI (ev P ea .e s)).sat K W)
    (k : ∀ b s' g' H', Rel Z g' s' σ H' → Ext g H g' H' → K b s' → R (.int b) H') : RdE Z P W ea .e σ H R :=
  ⟨g, s, r, (toI_ok h).imp fun t s' ⟨b, e, h'⟩ g' H' v r' x' k' => by
    subst e
    obtain rfl := k'.vw.pd.int'
    exact k b s' g' H' r' x' h'⟩
theorem rd_toP {σ : L2.St} {H : Hp} {g : Gh} {s : S} {K : D → S → Prop} {R : V → Hp → Prop} (r : Rel Z g s σ H) (h : (toP (ev P ea .e s)).sat K W)
    (k : ∀ d s' g' H' v, Rel Z g' s' σ H' → Ext g H g' H' → Pd Z.K g'.F v d → K d s' → R v H') : RdE Z P W ea .e σ H R :=
  ⟨g, s, r, (toP_ok h).imp fun t s' ⟨b, e, h'⟩ g' H' v r' x' k' => by
    subst e
    exact k b s' g' H' v r' x' k'.vw.pd h'⟩
theorem rd_toD {σ : L2.St} {H : Hp} {g : Gh} {s : S} {K : D → S → Prop} {R : V → Hp → Prop} (r : Rel Z g s σ H) (h : (toD (ev P ea .e s)).sat K W)
    (k : ∀ d s' g' H' v, Rel Z g' s' σ H' → Ext g H g' H' → Pd Z.K g'.F v d → K d s' → R v H') : RdE Z P W ea .e σ H R :=
  ⟨g, s, r, (toD_ok h).imp fun t s' ⟨d, e, h'⟩ g' H' v r' x' k' => by
    obtain ⟨F', r2, x2, s2, p⟩ := (Kd.tm k').freeze e r' x'
    exact k d s' _ H' v r2 x2 p h'⟩
theorem rdt_toB {σ : L2.St} {H : Hp} {g : Gh} {s : S} {K : Bool → S → Prop} {R : Bool → Hp → Prop} (r : Rel Z g s σ H) (h : (toB (ev P ea .e s)).sat K W)
    (k : ∀ b s' g' H', Rel Z g' s' σ H' → Ext g H g' H' → K b s' → R b H') : RdT Z P W ea σ H R :=
  ⟨g, s, r, h.imp fun b s' h' g' H' r' x' => k b s' g' H' r' x' h'⟩
/-- a test of a value -/
theorem rdt_val (h : PE X a (RdE Z P W ea .e)) (he : ∀ whole, isTrue a X.env whole = (do let v ← whole; standAt a.pos; holding [v] (truthy v))) : PT X a (RdT Z P W ea) :=
  (pt_val h he).imp fun σ H Q ⟨g, s, r, h⟩ => rd_toB r h fun b s' g' H' r' x' h' => ⟨b, rfl, h' g' H' r' x'⟩
theorem rd_not (ha : PE X a (RdE Z P W ea .e)) : PE X (.UnaryOp .Not a pos) (RdE Z P W (.not ea) m) :=
  (pe_not ha).imp fun σ H Q ⟨g, s, r, h⟩ => by
    unfold ev at h
    rw [sat_bd] at h
    exact rd_toB r h fun b s' g' H' r' x' h' => ⟨b, rfl, fin_pl (by intro i z; cases z) h' r' x' (.bl _)⟩
theorem rdt_not (ha : PT X a (RdT Z P W ea)) : PT X (.UnaryOp .Not a pos) (RdT Z P W (.not ea)) :=
  (pt_not ha).imp fun σ H Q ⟨g, s, r, h⟩ => by
    unfold toB ev at h
    rw [sat_bd, sat_bd] at h
    exact rdt_toB r h fun b s' g' H' r' x' h' => h' g' H' r' x'
variable {rest : List Expr}
theorem rd_and (ha : PE X a (RdE Z P W ea .e)) (hb : PE X (.BoolOp .And (b :: rest) pos) (RdE Z P W eb .e)) : PE X (.BoolOp .And (a :: b :: rest) pos) (RdE Z P W (.and ea eb) m) :=
  (pe_and ha hb).imp fun σ H Q ⟨g, s, r, h⟩ => by
    unfold ev at h
    rw [sat_bd] at h
    refine rd_toB r h fun b s' g' H' r' x' h' => ⟨b, rfl, ?_⟩
    cases b with
    | false => exact fin_pl (by intro i z; cases z) h' r' x' (.bl _)
    | true =>
      simp only [if_true] at h' ⊢
      rw [sat_bd] at h'
      exact rd_toB r' h' fun b s2 g2 H2 r2 x2 h2 => fin_pl (by intro i z; cases z) h2 r2 (x'.trans x2) (.bl _)
theorem rd_or (ha : PE X a (RdE Z P W ea .e)) (hb : PE X (.BoolOp .Or (b :: rest) pos) (RdE Z P W eb .e)) : PE X (.BoolOp .Or (a :: b :: rest) pos) (RdE Z P W (.or ea eb) m) :=
  (pe_or ha hb).imp fun σ H Q ⟨g, s, r, h⟩ => by
    unfold ev at h
    rw [sat_bd] at h
    refine rd_toB r h fun b s' g' H' r' x' h' => ⟨b, rfl, ?_⟩
    cases b with
    | true => exact fin_pl (by intro i z; cases z) h' r' x' (.bl _)
    | false =>
      simp only [Bool.false_eq_true, if_false] at h' ⊢
      rw [sat_bd] at h'
      exact rd_toB r' h' fun b s2 g2 H2 r2 x2 h2 => fin_pl (by intro i z; cases z) h2 r2 (x'.trans x2) (.bl _)
theorem PT.pw1 (ha : PT X a (RdT Z P W ea)) : PW X (.BoolOp .And [a] pos) (RdT Z P W ea) ∧ PW X (.BoolOp .Or [a] pos) (RdT Z P W ea) := ⟨pw_and1 ha, pw_or1 ha⟩
theorem rdw_and (ha : PT X a (RdT Z P W ea)) (hb : PW X (.BoolOp .And (b :: rest) pos) (RdT Z P W eb)) : PW X (.BoolOp .And (a :: b :: rest) pos) (RdT Z P W (.and ea eb)) :=
  ⟨fun wh pins s σ H Q I ⟨g, s0, r, h⟩ => (pw_and ha hb).run wh pins s σ H Q I (by
    unfold toB ev at h
    rw [sat_bd, sat_bd] at h
    refine rdt_toB r h fun b s' g' H' r' x' h' => ?_
    cases b with
    | false => exact h' g' H' r' x'
    | true =>
      simp only [if_true] at h' ⊢
      rw [sat_bd] at h'
      exact rdt_toB r' h' fun b s2 g2 H2 r2 x2 h2 => h2 g2 H2 r2 (x'.trans x2))⟩
theorem rdw_or (ha : PT X a (RdT Z P W ea)) (hb : PW X (.BoolOp .Or (b :: rest) pos) (RdT Z P W eb)) : PW X (.BoolOp .Or (a :: b :: rest) pos) (RdT Z P W (.or ea eb)) :=
  ⟨fun wh pins s σ H Q I ⟨g, s0, r, h⟩ => (pw_or ha hb).run wh pins s σ H Q I (by
    unfold toB ev at h
    rw [sat_bd, sat_bd] at h
    refine rdt_toB r h fun b s' g' H' r' x' h' => ?_
    cases b with
    | true => exact h' g' H' r' x'
    | false =>
      simp only [Bool.false_eq_true, if_false] at h' ⊢
      rw [sat_bd] at h'
      exact rdt_toB r' h' fun b s2 g2 H2 r2 x2 h2 => h2 g2 H2 r2 (x'.trans x2))⟩
theorem Kd.arm {g0 g : Gh} {H0 H : Hp} {σ : L2.St} {v : V} {t : T} {m : Md} {e e' : E} (h : Kd Z g0 H0 g H σ m.arm e v t) (he : ∀ i, e' ≠ .var i) : Kd Z g0 H0 g H σ m e' v t := by
  have : Tm Z g0 H0 g H v t := by cases m <;> exact h
  exact Kd.of this (noVar he)
theorem Kd.pre {g00 g0 g : Gh} {H00 H0 H : Hp} {σ : L2.St} {v : V} {t : T} {m : Md} {e : E} (x : Ext g00 H00 g0 H0) (h : Kd Z g0 H0 g H σ m e v t) : Kd Z g00 H00 g H σ m e v t := by
  unfold Kd at h ⊢
  cases m with
  | v =>
    cases e with
    | var i => exact h
    | att a f => exact ⟨h.1, fun z => (h.2 z).pre x⟩
    | idx a f => exact ⟨h.1, fun z => (h.2 z).pre x⟩
    | _ => exact Tm.pre x h
  | _ => exact Tm.pre x h
theorem rd_ite (hc : PT X c (RdT Z P W ec)) (ha : PE X a (RdE Z P W ea m.arm)) (hb : PE X b (RdE Z P W eb m.arm)) : PE X (.IfExp c a b pos) (RdE Z P W (.ite ec ea eb) m) :=
  (pe_ifExp hc ha hb).imp fun σ H Q ⟨g, s, r, h⟩ => by
    unfold ev at h
    rw [sat_bd] at h
    refine rdt_toB r h fun b s' g' H' r' x' h' => ?_
    cases b with
    | true =>
      simp only [if_true] at h' ⊢
      exact ⟨g', s', r', h'.imp fun t s2 h2 g2 H2 v r2 x2 k2 => h2 g2 H2 v r2 (x'.trans x2) ((k2.pre x').arm (by intro i z; cases z))⟩
    | false =>
      simp only [Bool.false_eq_true, if_false] at h' ⊢
      exact ⟨g', s', r', h'.imp fun t s2 h2 g2 H2 v r2 x2 k2 => h2 g2 H2 v r2 (x'.trans x2) ((k2.pre x').arm (by intro i z; cases z))⟩
/-! ### chains, signs -/
theorem rd_neg (ha : PE X a (RdE Z P W ea .e)) : PE X (.UnaryOp .USub a pos) (RdE Z P W (.neg ea) m) :=
  (pe_un un_neg ha).imp fun σ H Q ⟨g, s, r, h⟩ => by
    unfold ev at h
    rw [sat_bd] at h
    exact rd_toI r h fun i s' g' H' r' x' h' => ⟨i, rfl, fin_pl (by intro i z; cases z) h' r' x' (.int _)⟩
theorem chain_core (hZ : In X Z) {o1 o2 : CmpOp} {σ : L2.St} {H : Hp} {g : Gh} {s : S} {K : T → S → Prop} {R : V → Hp → Prop} (r : Rel Z g s σ H)
    (h : (ev P (.chn o1 o2 ea eb ec) m s).sat K W) (k : ∀ b s' g' H', Rel Z g' s' σ H' → Ext g H g' H' → K (.pl (.bool b)) s' → R (.bl b) H') :
    tChain (rCmp Z o1) (rCmp Z o2) (RdE Z P W ea .e) (RdE Z P W eb .e) (RdE Z P W ec .e) σ H R := by
  unfold ev at h
  rw [sat_bd] at h
  refine rd_toP r h fun x s1 g1 H1 v1 r1 x1 p1 h1 => ?_
  rw [sat_bd] at h1
  refine rd_toP r1 h1 fun y s2 g2 H2 v2 r2 x2 p2 h2 => ?_
  rw [sat_bd] at h2
  obtain ⟨b, e, h3⟩ := sat_lift h2
  refine ⟨g2.F, x, y, b, r2.frz, .pd (p1.mono x2.sub), .pd p2, e, b, rfl, ?_⟩
  cases b with
  | false => exact k false s2 g2 H2 r2 (x1.trans x2) h3
  | true =>
    simp only [if_true] at h3 ⊢
    rw [sat_bd] at h3
    refine rd_toP r2 h3 fun z s3 g3 H3 v3 r3 x3 p3 h4 => ?_
    obtain ⟨t, e', h4⟩ := sat_lift h4
    obtain ⟨b', e2, rfl⟩ := Option.map_eq_some_iff.mp e'
    exact ⟨g3.F, y, z, b', r3.frz, .pd (p2.mono x3.sub), .pd p3, e2, k b' s3 g3 H3 r3 ((x1.trans x2).trans x3) h4⟩
theorem rd_chn (hZ : In X Z) (hu : X.A.units + 64 < cLine) {o1 o2 : CmpOp} (ha : PE X a (RdE Z P W ea .e)) (hb : PE X b (RdE Z P W eb .e)) (hc : PE X c (RdE Z P W ec .e)) (hm : lastMarks [o1, o2] [b, c] = false) :
    PE X (.Compare a [o1, o2] [b, c] pos) (RdE Z P W (.chn o1 o2 ea eb ec) m) :=
  (pe_chain (op_cmp hZ hu o1) (op_cmp hZ hu o2) ha hb hc hm).imp fun σ H Q ⟨g, s, r, h⟩ =>
    chain_core hZ r h fun b s' g' H' r' x' h' => fin_pl (by intro i z; cases z) h' r' x' (.bl _)
theorem rdt_chn (hZ : In X Z) (hu : X.A.units + 64 < cLine) {o1 o2 : CmpOp} (ha : PE X a (RdE Z P W ea .e)) (hb : PE X b (RdE Z P W eb .e)) (hc : PE X c (RdE Z P W ec .e)) (hm : lastMarks [o1, o2] [b, c] = false) :
    PT X (.Compare a [o1, o2] [b, c] pos) (RdT Z P W (.chn o1 o2 ea eb ec)) :=
  (pt_chain (op_cmp hZ hu o1) (op_cmp hZ hu o2) ha hb hc hm).imp fun σ H Q ⟨g, s, r, h⟩ =>
    chain_core hZ r (toB_ok h) fun b s' g' H' r' x' ⟨b', e, h'⟩ => ⟨b, rfl, by cases e; exact h' g' H' r' x'⟩

/-! ### several, displays -/
theorem rdd_nil : PA X [] (RdD Z P W []) := pa_nil.imp fun σ H Q ⟨g, s, r, h⟩ => h g H [] r (Ext.refl _ _) .nil
theorem rdd_cons (ha : PE X a (RdE Z P W ea .e)) (hr : PA X as (RdD Z P W es)) (hs : starEach (a :: as) X.env = (false, eval a X.env) :: starEach as X.env) : PA X (a :: as) (RdD Z P W (ea :: es)) :=
  (pa_cons ha hr hs).imp fun σ H Q ⟨g, s, r, h⟩ => by
    unfold evD at h
    rw [sat_bd] at h
    refine rd_toD r h fun d s1 g1 H1 v r1 x1 p1 h1 => ?_
    rw [sat_bd] at h1
    exact ⟨g1, s1, r1, h1.imp fun ds s2 h2 g2 H2 vs r2 x2 p2 => h2 g2 H2 (v :: vs) r2 (x1.trans x2) (.cons (p1.mono x2.sub) p2)⟩
theorem evD_len : ∀ {es : List E} {s : S} {K : List D → S → Prop}, (evD P es s).sat K W → (evD P es s).sat (fun ds s' => ds.length = es.length ∧ K ds s') W
  | [], s, K, h => ⟨rfl, h⟩
  | e :: es, s, K, h => by
    unfold evD at h ⊢
    rw [sat_bd] at h ⊢
    refine h.imp fun d s1 h1 => ?_
    rw [sat_bd] at h1 ⊢
    exact (evD_len h1).imp fun ds s2 ⟨e2, h2⟩ => ⟨by simp [e2], h2⟩
theorem rdd_len {σ : L2.St} {H : Hp} {g : Gh} {s : S} {K : List D → S → Prop} {R : List V → Hp → Prop} (r : Rel Z g s σ H) (h : (evD P es s).sat K W)
    (k : ∀ ds s' g' H' vs, Rel Z g' s' σ H' → Ext g H g' H' → PdAll Z.K g'.F vs ds → ds.length = es.length → K ds s' → R vs H') : RdD Z P W es σ H R :=
  ⟨g, s, r, (evD_len h).imp fun ds s' ⟨e, h'⟩ g' H' vs r' x' p' => k ds s' g' H' vs r' x' p' e h'⟩
theorem rd_tup {x1} (h : PA X as (RdD Z P W es)) (hl : es.length ≤ 1000) : PE X (.Tuple as x1 pos) (RdE Z P W (.tup false es) m) :=
  (pe_tup h).imp fun σ H Q ⟨g, s, r, h⟩ => by
    unfold ev at h
    simp only [Bool.false_eq_true, if_false] at h
    rw [sat_bd] at h
    refine rdd_len r h fun ds s' g' H' vs r' x' p' e h' => ⟨by rw [p'.length, e]; exact small_line (Nat.le_trans hl (by decide)), fun p hp => ?_⟩
    exact fin_new (by intro i z; cases z) h' r' x' (Nw.tup r'.frz hp p')
theorem rd_lst (h : PA X as (RdD Z P W es)) (hl : es.length ≤ 1000) : PE X (.List as pos) (RdE Z P W (.lst false es) m) :=
  (pe_lst h).imp fun σ H Q ⟨g, s, r, h⟩ => by
    unfold ev at h
    simp only [Bool.false_eq_true, if_false] at h
    rw [sat_bd] at h
    refine rdd_len r h fun ds s' g' H' vs r' x' p' e h' => ⟨by rw [p'.length, e]; exact small_line (Nat.le_trans hl (by decide)), fun p hp => ?_⟩
    exact fin_new (by intro i z; cases z) h' r' x' (Nw.lst r'.frz hp p')
theorem rd_dct0 : PE X (.Dict [] [] pos) (RdE Z P W (.dct false [] []) m) :=
  pe_dnewK.imp fun σ H Q ⟨g, s, r, h⟩ p hp => by
    unfold ev evD at h
    simp only [bd_ok, List.all_nil, if_true, Bool.false_eq_true, if_false, evD] at h
    exact fin_new (by intro i z; cases z) h r (Ext.refl _ _) (Nw.dic r.frz hp .nil)
end
end EV
end PartEvExp2
section PartEvSub
set_option autoImplicit false
set_option linter.all false
set_option maxRecDepth 100000
/-! EvSub: subscripts, slices. -/
namespace EV
open PySem PySem.Spec PyProof.Rows L2
section
variable {Z : Wd} {F : Hp} {γ : List Addr} {H : Hp}
theorem TrAll.length : ∀ {xs : List V} {ts : List T} {cs : List Addr}, TrAll Z F γ H xs ts cs → xs.length = ts.length
  | _, _, _, .nil => rfl
  | _, _, _, .cons _ _ r => congrArg Nat.succ r.length
theorem TrAll.get : ∀ {xs : List V} {ts : List T} {cs : List Addr} {i : Nat} {t : T}, TrAll Z F γ H xs ts cs → ts[i]? = some t → ∃ v cs', xs[i]? = some v ∧ Tr Z F γ H v t cs'
  | _, _, _, _, _, .nil, e => by simp at e
  | _, _, _, 0, _, .cons _ a r, e => by simp at e; subst e; exact ⟨_, _, rfl, a⟩
  | _, _, _, i + 1, t, .cons _ _ r, e => by simpa using TrAll.get (i := i) (t := t) r (by simpa using e)
theorem TrKv.val : ∀ {kvs : List (Key × V)} {ts : List (D × T)} {cs : List Addr} {j : Key} {t : T}, TrKv Z F γ H kvs ts cs → dget ts (keyD j) = some t → ∃ v cs', valV kvs j = some v ∧ Tr Z F γ H v t cs'
  | _, _, _, _, _, .nil, e => by cases e
  | _, _, _, j, t, .cons (k := k) (v := v) (t := u) (vs := vs) (ts := ts) _ a r, e => by
    unfold dget at e
    rw [keyEq_iff] at e
    by_cases h : k = j
    · rw [decide_eq_true h] at e
      rw [valV_pos (p := (k, v)) h]
      simp only [if_true] at e
      cases e
      exact ⟨v, _, rfl, a⟩
    · rw [decide_eq_false h] at e
      rw [valV_neg (p := (k, v)) h]
      exact TrKv.val r e
theorem atI_eq {α : Type} {xs : List α} {i : Int} : L2.atI xs i = atI xs i := rfl
theorem atI_pd {K : PySem.W.Frag} {xs : List V} {ds : List D} {i : Int} {d : D} (r : PdAll K F xs ds) (e : atI ds i = some d) : ∃ v, L2.atI xs i = some v ∧ Pd K F v d := by
  rw [atI_eq]
  unfold atI at e ⊢
  rw [r.length]
  cases h : ixN ds.length i with
  | none => rw [h] at e; cases e
  | some j =>
    rw [h] at e
    exact r.get e
theorem atI_tr {xs : List V} {ts : List T} {cs : List Addr} {i : Int} {t : T} (r : TrAll Z F γ H xs ts cs) (e : atI ts i = some t) : ∃ v cs', L2.atI xs i = some v ∧ Tr Z F γ H v t cs' := by
  rw [atI_eq]
  unfold atI at e ⊢
  rw [r.length]
  cases h : ixN ts.length i with
  | none => rw [h] at e; cases e
  | some j =>
    rw [h] at e
    exact r.get e
theorem atI_map {α β : Type} {f : α → β} {xs : List α} {i : Int} {b : β} (e : atI (xs.map f) i = some b) : ∃ a, L2.atI xs i = some a ∧ b = f a := by
  rw [atI_eq]
  unfold atI at e ⊢
  rw [List.length_map] at e
  cases h : ixN xs.length i with
  | none => rw [h] at e; cases e
  | some j =>
    rw [h] at e
    simp only [Option.bind_some, List.getElem?_map, Option.map_eq_some_iff] at e ⊢
    obtain ⟨a, e1, e2⟩ := e
    exact ⟨a, e1, e2.symm⟩
def rIx (Z : Wd) : R2 := fun x y H Q => ∃ F γ t d u, FH F H ∧ (∃ cs, Tr Z F γ H x t cs) ∧ Pd Z.K F y d ∧ getI t d = some u ∧ ∀ v, (∃ cs, Tr Z F γ H v u cs) → Q v H
variable {X : Cx}
theorem ix_dictV {value slice : Expr} {pins : List (Addr × Obj)} {s : Shared} {σ : L2.St} {a : Addr} {y z : V} {u : Value} {Q : VK} (hu : X.A.units + 64 < cLine) (I : Inv X pins σ H s) (g : DGet H a y (some z)) (ry : RelV y u)
    (hs : subscripted slice false (.ref a) u = operate [.ref a, u] (getItem (.ref a) u)) (q : Q z H) : wpAny (model X.prog X.w) X.A (subscriptTail value slice (.ref a) u) (EP X pins σ Q) X.xe s := by
  have hT := dict_typeIs I g
  unfold subscriptTail
  refine wpAny_bind ?_
  rw [getitemInPython_of_ne hT.not_modules]
  refine wpAny_bind (wpAny_specialOf hT PySem.F.slot_dict_getitem.lookup ?_)
  have fin : wpAny (model X.prog X.w) X.A (subscripted slice false (.ref a) u) (fun r s₃ => wpAny (model X.prog X.w) X.A (letTemporaryGo value (.ref a) r >>= fun _ => pure r) (EP X pins σ Q) X.xe s₃) X.xe s := by
    rw [hs]
    exact wpAny_operating (d_getItem (by omega) I g ry fun w' s3 I3 rw' => wpAny_bind (wpAny_letTemporaryGo (wpAny_pure ⟨z, H, I3, rw', q⟩)))
  first
    | exact wpAny_pure (wpAny_bind fin)
    | exact wpAny_bind (wpAny_pure (wpAny_bind fin))
    | exact wpAny_bind fin
theorem ix_ok (hZ : In X Z) (hu : X.A.units + 64 < cLine) : IxR X (rIx Z) := by
  intro value slice pins s σ H x y v u Q I rx ry ⟨F, γ, t, d, w, fh, ⟨cs, tr⟩, pd, e, q⟩ hs
  have lst : ∀ {a : Addr} {xs : List V} {ds : List D} {i : Int}, x = .ref a → SqL X.K H a xs → PdAll Z.K F xs ds → y = .int i → (atI ds i).map T.pl = some w →
      wpAny (model X.prog X.w) X.A (subscriptTail value slice v u) (EP X pins σ Q) X.xe s := by
    intro a xs ds i ex hq r ey e
    obtain ⟨d', e2, rfl⟩ := Option.map_eq_some_iff.mp e
    obtain ⟨z, e1, p⟩ := atI_pd r e2
    exact ix_list value slice pins s σ H x y v u Q I rx ry ⟨a, xs, i, z, ex, ey, hq, e1, q z ⟨[], .pl p⟩⟩ hs
  have dct : ∀ {a : Addr} {kvs : List (Key × V)} {ds : List (D × D)}, x = .ref a → Rd H a (.dK kvs) → PdKv Z.K F kvs ds → (if okKey d then (dget ds d).map T.pl else none) = some w →
      wpAny (model X.prog X.w) X.A (subscriptTail value slice v u) (EP X pins σ Q) X.xe s := by
    intro a kvs ds ex hq r e
    split at e
    · rename_i hk
      obtain ⟨d', e3, rfl⟩ := Option.map_eq_some_iff.mp e
      obtain ⟨k, rfl⟩ := okKey_iff hk
      rcases r.val k with ⟨z, d2, e1, e2, p⟩ | ⟨_, e2⟩
      · rw [e2] at e3; cases e3
        have ey : y = kV k := by
          cases k with
          | inl i => cases pd; rfl
          | inr i => cases pd; rfl
        subst ex
        obtain rfl : v = Value.ref a := rx
        exact ix_dictV hu I (.inl ⟨kvs, k, hq, ey, e1.symm⟩) ry hs (q z ⟨[], .pl p⟩)
      · rw [e2] at e3; cases e3
    · cases e
  cases tr with
  | pl p =>
    cases p with
    | non => cases e
    | bl _ => cases e
    | int _ => cases e
    | str z =>
      cases pd <;> first | (cases e; done) | skip
      case int i =>
      have e : (if z.length ≤ 1000000 then (atI (chars z) i).map T.pl else none) = some w := e
      split at e
      · rename_i hl
        obtain ⟨d', e3, rfl⟩ := Option.map_eq_some_iff.mp e
        unfold chars at e3
        obtain ⟨c, e1, rfl⟩ := atI_map e3
        exact ix_str value slice pins s σ H _ _ v u Q I rx ry ⟨z, i, c, rfl, rfl, small_line hl, e1, q _ ⟨[], .pl (.str _)⟩⟩ hs
      · cases e
    | lst hF r =>
      cases pd <;> first | (cases e; done) | skip
      case int i => exact lst rfl (.inl (.inl (fh.lst hF))) r rfl e
    | tup hF r =>
      cases pd <;> first | (cases e; done) | skip
      case int i =>
      obtain ⟨d', e3, rfl⟩ := Option.map_eq_some_iff.mp (show (atI _ i).map T.pl = some w from e)
      obtain ⟨z, e1, p⟩ := atI_pd r e3
      exact ix_tup value slice pins s σ H _ _ v u Q I rx ry ⟨_, _, i, z, rfl, rfl, by rw [hZ.K]; exact hF.elim (fun e => .inl (.inl (fh.tup e))) .inr, e1, q z ⟨[], .pl p⟩⟩ hs
    | dic hF r => exact dct rfl (fh.rd hF) r e
  | ol hH r =>
    cases pd <;> first | (cases e; done) | skip
    case int i => exact lst rfl (.inl (.inl hH)) r rfl e
  | kl hH r =>
    cases pd <;> first | (cases e; done) | skip
    case int i => exact lst rfl (.inl (.inl hH)) r rfl e
  | bl hH r =>
    cases pd <;> first | (cases e; done) | skip
    case int i => exact lst rfl (.inl (.inl hH)) r rfl e
  | sl hH r =>
    cases pd <;> first | (cases e; done) | skip
    case int i => exact lst rfl (by rw [hZ.K]; exact hH) r rfl e
  | od hH r => exact dct rfl (.inl hH) r e
  | kd hH r => exact dct rfl hH r e
  | bd hH r => exact dct rfl hH r e
  | os hH => cases pd <;> cases e
  | ob hH => cases pd <;> cases e
  | nl hH r =>
    cases pd <;> first | (cases e; done) | skip
    case int i =>
    obtain ⟨z, cs', e1, tr⟩ := atI_tr r e
    exact ix_list value slice pins s σ H _ _ v u Q I rx ry ⟨_, _, i, z, rfl, rfl, .inl (.inl hH), e1, q z ⟨_, tr⟩⟩ hs
  | nt hH r =>
    cases pd <;> first | (cases e; done) | skip
    case int i =>
    obtain ⟨z, cs', e1, tr⟩ := atI_tr r e
    exact ix_tup value slice pins s σ H _ _ v u Q I rx ry ⟨_, _, i, z, rfl, rfl, .inl (.inl (fh.tup hH)), e1, q z ⟨_, tr⟩⟩ hs
  | nd hH r =>
    rename_i ts _
    have e : (if okKey d then dget ts d else none) = some w := by cases d <;> exact e
    split at e
    · rename_i hk
      obtain ⟨k, rfl⟩ := okKey_iff hk
      obtain ⟨z, cs', e1, tr⟩ := r.val e
      have ey : y = kV k := by
        cases k with
        | inl i => cases pd; rfl
        | inr i => cases pd; rfl
      obtain rfl : v = Value.ref _ := rx
      exact ix_dictV hu I (.inl ⟨_, k, .inl hH, ey, e1.symm⟩) ry hs (q z ⟨_, tr⟩)
    · cases e
end
section
variable {X : Cx} {Z : Wd} {P : Pm} {W : Exn → S → Prop} {a b : Expr} {ea eb : E} {pos : Pos} {m : Md}
theorem Vw.part {g0 g : Gh} {H0 H : Hp} {σ : L2.St} {v : V} {u : T} {s : S} {K : T → S → Prop} {e i : E} (vw : Vw Z g H v u) (h : (part m u s).sat K W) : K u s ∧ Kd Z g0 H0 g H σ m (.idx e i) v u := by
  unfold EV.part at h
  cases m with
  | v => exact ⟨h, vw, fun p => Tm.pob vw p⟩
  | _ => cases u <;> first | exact h.elim | exact ⟨h, Tm.pob vw rfl⟩
theorem rd_idx (hZ : In X Z) (hu : X.A.units + 64 < cLine) (ha : PE X a (RdE Z P W ea .v)) (hb : PE X b (RdE Z P W eb .e)) (hs : PlainIx b) : PE X (.Subscript a b pos) (RdE Z P W (.idx ea eb) m) :=
  (pe_ix (ix_ok hZ hu) ha hb hs).imp fun σ H Q ⟨g, s, r, h⟩ => by
    unfold ev at h
    rw [sat_bd] at h
    refine ⟨g, s, r, h.imp fun x s1 h1 g1 H1 v1 r1 x1 k1 => ?_⟩
    rw [sat_bd] at h1
    refine rd_toP r1 h1 fun d s2 g2 H2 v2 r2 x2 p2 h2 => ?_
    rw [sat_bd] at h2
    obtain ⟨t', vw, h3⟩ := late_ok k1 x2 r2 h2
    rw [sat_bd] at h3
    obtain ⟨u, e, h4⟩ := sat_lift h3
    refine ⟨g2.F, g2.γ, t', d, u, r2.frz, vw, p2, e, fun v tr => ?_⟩
    obtain ⟨h5, kd⟩ := Vw.part (g0 := g) (H0 := H) (σ := σ) (e := ea) (i := eb) (g := g2) (H := H2) tr h4
    exact h5 g2 H2 v r2 (x1.trans x2) kd

/-! ### slices -/
def rSl (Z : Wd) : V → Option Int → Option Int → Hp → VK → Prop := fun x lo hi H Q => ∃ F d t, FH F H ∧ Lk Z.K F H x d ∧ (match d with
    | .list ds => some (T.ol (cut ds lo hi))
    | .tuple ds => some (T.pl (.tuple (cut ds lo hi)))
    | .str z => if z.length ≤ 1000000 then some (T.pl (.str (EV.cutS z lo hi))) else none
    | _ => none) = some t ∧ ∀ v F' H', Nw Z F H v t F' H' → Q v H'
theorem PdAll.cut {K : PySem.W.Frag} {F : Hp} {xs : List V} {ds : List D} (r : PdAll K F xs ds) (lo hi : Option Int) : PdAll K F (cutV xs lo hi) (EV.cut ds lo hi) := by
  unfold cutV EV.cut
  rw [r.length]
  exact (r.drop _).take _
theorem sl_ok (hZ : In X Z) : SlR X (rSl Z) := by
  intro pins s σ H x v vl vu lo hi sl Q I rx hs pl pu ⟨F, d, t, fh, lk, e, q⟩
  split at e
  · cases e
    obtain ⟨a, xs, e1, hq, r⟩ := lk.seqL fh
    exact sl_list pins s σ H x v vl vu lo hi sl Q I rx hs pl pu ⟨a, xs, e1, by rw [hZ.K]; exact hq, fun p hp => q _ _ _ (Nw.lst fh hp (r.cut lo hi))⟩
  · cases e
    obtain ⟨a, xs, e1, hq, r⟩ := lk.seqT fh
    have pd : ∀ {ds : List D}, Lk Z.K F H x (.tuple ds) → Pd Z.K F x (.tuple ds) := fun h => by cases h with | pd h => exact h
    refine sl_tupA pins s σ H x v vl vu lo hi sl Q I rx hs pl pu ⟨a, xs, e1, by rw [hZ.K]; exact hq, fun z => ?_, fun z p hp => q _ _ _ (Nw.tup fh hp (r.cut lo hi))⟩
    rename_i ds
    have ec : EV.cut ds lo hi = ds := by
      unfold EV.cut
      rw [← r.length, z.1, z.2]
      simp [r.length]
    subst e1
    exact q _ _ _ (Nw.pd (by rw [ec]; exact pd lk))
  · split at e
    · rename_i hl
      cases e
      obtain rfl := lk.str
      exact sl_str pins s σ H _ v vl vu lo hi sl Q I rx hs pl pu ⟨_, rfl, small_line hl, q _ _ _ Nw.str⟩
    · cases e
  · cases e
/-- a bound of a slice: none where it is not written -/
def RdO (Z : Wd) (P : Pm) (W : Exn → S → Prop) (e : E) : TO := fun σ H Q => ∃ g s, Rel Z g s σ H ∧
  (toO e (ev P e .e) s).sat (fun b s' => ∀ g' H', Rel Z g' s' σ H' → Ext g H g' H' → Q b H') W
theorem rdo_none : PO X none (RdO Z P W (.lit .none)) := ⟨fun pins s σ H Q I ⟨g, s0, r, h⟩ => po_none.run pins s σ H Q I (by
  unfold toO at h
  exact h g H r (Ext.refl _ _))⟩
/-- a bound that is written: an int -/
theorem rdo_some (ha : PE X a (RdE Z P W ea .e)) (hn : ea ≠ .lit .none) : PO X (some a) (RdO Z P W ea) :=
  ⟨fun pins s σ H Q I ⟨g, s0, r, h⟩ => (po_some ha).run pins s σ H Q I (by
    unfold toO at h
    split at h
    · exact absurd rfl hn
    · rw [sat_bd] at h
      exact rd_toI r h fun b s' g' H' r' x' h' => ⟨b, rfl, h' g' H' r' x'⟩)⟩
variable {lo hi : Option Expr} {el eh : E} {p2 : Pos}
theorem rd_slc (hZ : In X Z) (ha : PE X a (RdE Z P W ea .v)) (hl : PO X lo (RdO Z P W el)) (hh : PO X hi (RdO Z P W eh)) : PE X (.Subscript a (.Slice lo hi none p2) pos) (RdE Z P W (.slc ea el eh) m) :=
  (pe_slice (sl_ok hZ) ha hl hh).imp fun σ H Q ⟨g, s, r, h⟩ => by
    unfold ev at h
    rw [sat_bd] at h
    refine ⟨g, s, r, h.imp fun x s1 h1 g1 H1 v1 r1 x1 k1 => ?_⟩
    rw [sat_bd] at h1
    refine ⟨g1, s1, r1, h1.imp fun l s2 h2 g2 H2 r2 x2 => ?_⟩
    rw [sat_bd] at h2
    refine ⟨g2, s2, r2, h2.imp fun u s3 h3 g3 H3 r3 x3 => ?_⟩
    rw [sat_bd] at h3
    obtain ⟨t', vw, h4⟩ := late_ok k1 (x2.trans x3) r3 h3
    have x4 := x1.trans (x2.trans x3)
    cases hv : t'.vw with
    | none => rw [hv] at h4; exact h4.elim
    | some d =>
      rw [hv] at h4
      have lk := vw.lk hv
      have fin : ∀ {t : T}, (∀ g' H' v, Rel Z g' s3 σ H' → Ext g H g' H' → Kd Z g H g' H' σ m (.slc ea el eh) v t → Q v H') → ∀ v F' H', Nw Z g3.F H3 v t F' H' → Q v H' :=
        fun k v F' H' n => fin_new (by intro i z; cases z) k r3 x4 n
      cases d with
      | list ds => exact ⟨g3.F, _, _, r3.frz, lk, rfl, fin h4⟩
      | tuple ds => exact ⟨g3.F, _, _, r3.frz, lk, rfl, fin h4⟩
      | str z =>
        simp only at h4
        split at h4
        · rename_i hz
          exact ⟨g3.F, _, _, r3.frz, lk, if_pos hz, fin h4⟩
        · exact h4.elim
      | _ => exact h4.elim
end
end EV
end PartEvSub
section PartEvBi
set_option autoImplicit false
set_option linter.all false
set_option maxRecDepth 100000
/-! EvBi: built-in functions of things that are looked at. -/
namespace EV
open PySem PySem.Spec PyProof.Rows L2
abbrev VwAll (Z : Wd) (g : Gh) (H : Hp) : List V → List T → Prop := Paired (Vw Z g H)
def RdV (Z : Wd) (P : Pm) (W : Exn → S → Prop) (es : List E) : TA := fun σ H Q => ∃ g s, Rel Z g s σ H ∧
  (evV P es s).sat (fun ts s' => ∀ g' H' vs, Rel Z g' s' σ H' → Ext g H g' H' → VwAll Z g' H' vs ts → Q vs H') W
/-- a built-in by the interpreter's things -/
def rBi (Z : Wd) (f : String) : List V → Hp → VK → Prop := fun xs H Q => ∃ g ts t, FH g.F H ∧ VwAll Z g H xs ts ∧ biT f ts = some t ∧ ∀ v F' H', Nw Z g.F H v t F' H' → Q v H'
section
variable {X : Cx} {Z : Wd} {P : Pm} {W : Exn → S → Prop} {a b : Expr} {ea eb : E} {es : List E} {as : List Expr} {pos : Pos} {m : Md}
theorem rdv_nil : PA X [] (RdV Z P W []) := pa_nil.imp fun σ H Q ⟨g, s, r, h⟩ => h g H [] r (Ext.refl _ _) .nil
theorem rdv_cons (ha : PE X a (RdE Z P W ea .v)) (hr : PA X as (RdV Z P W es)) (hs : starEach (a :: as) X.env = (false, eval a X.env) :: starEach as X.env) : PA X (a :: as) (RdV Z P W (ea :: es)) :=
  (pa_cons ha hr hs).imp fun σ H Q ⟨g, s, r, h⟩ => by
    unfold evV at h
    rw [sat_bd] at h
    refine ⟨g, s, r, h.imp fun x s1 h1 g1 H1 v1 r1 x1 k1 => ?_⟩
    rw [sat_bd] at h1
    refine ⟨g1, s1, r1, h1.imp fun ts s2 h2 g2 H2 vs r2 x2 p2 => ?_⟩
    rw [sat_bd] at h2
    obtain ⟨t', vw, h3⟩ := late_ok k1 x2 r2 h2
    exact h3 g2 H2 (v1 :: vs) r2 (x1.trans x2) (.cons vw p2)
theorem bi_core {f : String} (σ : L2.St) (H : Hp) (Q : VK) (h : RdE Z P W (.bi f es) m σ H Q) : tCB (rBi Z f) (RdV Z P W es) σ H Q := by
  obtain ⟨g, s, r, h⟩ := h
  unfold ev at h
  rw [sat_bd] at h
  refine ⟨g, s, r, h.imp fun ts s1 h1 g1 H1 vs r1 x1 p1 => ?_⟩
  obtain ⟨t, e, h2⟩ := sat_lift h1
  exact ⟨g1, ts, t, r1.frz, p1, e, fun v F' H' n => fin_new (by intro i z; cases z) h2 r1 x1 n⟩
/-- f(e, ..), f a built-in function, a built-in type -/
theorem rd_bi {f : String} {id : String} {x : Str} {p : Pos} (hc : CallR X (.builtin id) (rBi Z f)) (hg : Gl X x) (hm : X.mg x = none) (hv : bootBuiltins x = some (.builtin id)) (ha : PA X (a :: as) (RdV Z P W es)) (hn : x ≠ "__name__") (hdb : (x == ("__debug__" : Str)) = false)
    (he : starEach (a :: as) X.env = (false, eval a X.env) :: starEach as X.env) (hpl : (backTo pos (starEach as X.env)).any (·.1) = false) : PE X (.Call (.Name x p) (a :: as) [] pos) (RdE Z P W (.bi f es) m) :=
  (pe_callB hc hg hm hv ha hn hdb he hpl).imp fun σ H Q h => bi_core σ H Q h
theorem rd_ty {f : String} {T : String} {x : Str} {p : Pos} (hc : CallR X (.type T) (rBi Z f)) (hg : Gl X x) (hm : X.mg x = none) (hv : bootBuiltins x = some (.type T)) (ha : PA X (a :: as) (RdV Z P W es)) (hn : x ≠ "__name__") (hdb : (x == ("__debug__" : Str)) = false)
    (he : starEach (a :: as) X.env = (false, eval a X.env) :: starEach as X.env) (hpl : (backTo pos (starEach as X.env)).any (·.1) = false) : PE X (.Call (.Name x p) (a :: as) [] pos) (RdE Z P W (.bi f es) m) :=
  (pe_callTy hc hg hm hv ha hn hdb he hpl).imp fun σ H Q h => bi_core σ H Q h
end
section
variable {X : Cx} {Z : Wd} {g : Gh} {H : Hp}
theorem lenT_vw {t : T} {n : Nat} (h : lenT t = some n) : (∃ d, t.vw = some d ∧ ((∃ ds, d = .list ds ∧ n = ds.length) ∨ (∃ ds, d = .tuple ds ∧ n = ds.length) ∨ (∃ z, d = .str z ∧ z.length ≤ 1000000 ∧ n = z.length) ∨ ∃ kvs, d = .dict kvs ∧ n = kvs.length)) ∨
    (∃ ts, t = .nl ts ∧ n = ts.length) ∨ (∃ ts, t = .nd ts ∧ n = ts.length) ∨ ∃ ds, t = .os ds ∧ n = ds.length := by
  unfold lenT at h
  split at h
  · cases h; exact .inr (.inl ⟨_, rfl, rfl⟩)
  · cases h; exact .inr (.inr (.inl ⟨_, rfl, rfl⟩))
  · cases h; exact .inr (.inr (.inr ⟨_, rfl, rfl⟩))
  · split at h
    · rename_i e; cases h; exact .inl ⟨_, e, .inl ⟨_, rfl, rfl⟩⟩
    · rename_i e; cases h; exact .inl ⟨_, e, .inr (.inl ⟨_, rfl, rfl⟩)⟩
    · rename_i e
      split at h
      · cases h; exact .inl ⟨_, e, .inr (.inr (.inl ⟨_, rfl, by assumption, rfl⟩))⟩
      · cases h
    · rename_i e; cases h; exact .inl ⟨_, e, .inr (.inr (.inr ⟨_, rfl, rfl⟩))⟩
    · cases h
theorem TrKv.length {F : Hp} {γ : List Addr} : ∀ {xs : List (Key × V)} {ts : List (D × T)} {cs : List Addr}, TrKv Z F γ H xs ts cs → xs.length = ts.length
  | _, _, _, .nil => rfl
  | _, _, _, .cons _ _ r => congrArg Nat.succ r.length
theorem one_vw {xs : List V} {t : T} (h : VwAll Z g H xs [t]) : ∃ x, xs = [x] ∧ Vw Z g H x t := by
  cases h with
  | cons a r => cases r; exact ⟨_, rfl, a⟩
theorem setO_ok {w : World} {P : Program} {H : Hp} {h : Heap} {a : Addr} {ks : List Key} (R : SetM w h a ks) : ObjOk P w H h a (SetO w a ks) := by
  have ⟨o, _, _, _, ho, _⟩ := R
  exact ⟨R, ⟨o, ho⟩, fun h1 h2 p k => SetM.at p k⟩
theorem setO_ok2 {w w' : World} {P : Program} {H : Hp} {h : Heap} {a : Addr} {ks : List Key} (e : w = w') (R : SetM w h a ks) : ObjOk P w H h a (SetO w' a ks) := by subst e; exact setO_ok R
theorem setO_at {pins : List (Addr × Obj)} {σ : L2.St} {H : Hp} {s : Shared} {a : Addr} {ks : List Key} (I : Inv X pins σ H s) (ha : H a = some (SetO X.w a ks)) : SetM X.w s.heap a ks := (I.hok a _ ha).1
theorem cr_len (hZ : In X Z) : CallR X (.builtin "len") (rBi Z "len") := by
  intro pins s σ H xs us Q I r ⟨g, ts, t, fh, vw, e, q⟩
  have e : biLen ts = some t := e
  unfold biLen at e
  split at e <;> first | (cases e; done) | skip
  rename_i t1 _
  obtain ⟨n, e2, rfl⟩ := Option.map_eq_some_iff.mp e
  obtain ⟨x, rfl, vx⟩ := one_vw vw
  have fin := q _ _ _ (Nw.int (Z := Z) (F := g.F) (H := H) (i := n))
  rcases lenT_vw e2 with ⟨d, e1, c⟩ | ⟨us', rfl, rfl⟩ | ⟨us', rfl, rfl⟩ | ⟨ds, rfl, rfl⟩
  · have lk := vx.lk e1
    rcases c with ⟨ds, rfl, rfl⟩ | ⟨ds, rfl, rfl⟩ | ⟨z, rfl, hz, rfl⟩ | ⟨kvs, rfl, rfl⟩
    · obtain ⟨p, ys, rfl, hq, rr⟩ := lk.seqL fh
      exact call_len_seq pins s σ H _ us Q I r ⟨p, ys, rfl, .inl (by rw [hZ.K]; exact hq), by rw [rr.length]; exact fin⟩
    · obtain ⟨p, ys, rfl, hq, rr⟩ := lk.seqT fh
      exact call_len_seq pins s σ H _ us Q I r ⟨p, ys, rfl, .inr (by rw [hZ.K]; exact hq), by rw [rr.length]; exact fin⟩
    · obtain rfl := lk.str
      exact call_len_str pins s σ H _ us Q I r ⟨z, rfl, small_line hz, fin⟩
    · obtain ⟨p, ys, rfl, hq, rr⟩ := lk.dict fh
      obtain ⟨u, rfl, ru⟩ := vals1 r
      cases ru
      exact d_len I hq fun t s' I' => ⟨.int ys.length, H, I', ⟨t, rfl⟩, by rw [rr.length]; exact fin⟩
  · obtain ⟨cs, tr⟩ := vx
    cases tr with
    | nl hH rr => exact call_len_seq pins s σ H _ us Q I r ⟨_, _, rfl, .inl (.inl (.inl hH)), by rw [rr.length]; exact fin⟩
  · obtain ⟨cs, tr⟩ := vx
    cases tr with
    | nd hH rr =>
      obtain ⟨u, rfl, ru⟩ := vals1 r
      cases ru
      exact d_len I (.inl hH) fun t s' I' => ⟨.int _, H, I', ⟨t, rfl⟩, by rw [rr.length]; exact fin⟩
  · obtain ⟨cs, tr⟩ := vx
    cases tr with
    | os hS =>
      obtain ⟨ks, hH, rfl⟩ := hS
      obtain ⟨u, rfl, ru⟩ := vals1 r
      cases ru
      have R := setO_at (ks := ks) I (by rw [hH, hZ.w])
      obtain ⟨o, es, ep, t, ho, hex, hd, _, pm, _, hb, hf, _⟩ := R
      have hn : es.size = ks.length := by rw [← Array.length_toList, ← List.length_map (f := kOf), pm.length_eq]
      have hb' : es.size < 5000000 := Nat.lt_of_lt_of_le hb (by unfold scanBound; decide)
      rw [List.length_map] at fin
      exact call_len_set ho hex hd hf (by omega) ⟨.int ks.length, H, I.tok _, ⟨_, by rw [hn]⟩, fin⟩

theorem listT_vw {t : T} {ds : List D} {x : V} (hZ : In X Z) (fh : FH g.F H) (e : listT t = some ds) (v : Vw Z g H x t) : ∃ p ys, x = .ref p ∧ SqL X.K H p ys ∧ PdAll Z.K g.F ys ds := by
  unfold listT at e
  split at e
  · rename_i e1
    cases e
    obtain ⟨p, ys, h1, h2, h3⟩ := (v.lk e1).seqL fh
    exact ⟨p, ys, h1, by rw [hZ.K]; exact h2, h3⟩
  · cases e
theorem intsD_map : ∀ {ds : List D} {is : List Int}, intsD ds = some is → ds = is.map PyData.int
  | [], is, h => by cases h; rfl
  | .int i :: r, is, h => by
    obtain ⟨js, e, rfl⟩ := Option.map_eq_some_iff.mp (show (intsD r).map (i :: ·) = some is from h)
    rw [intsD_map e]; rfl
  | .none :: _, _, h => nomatch h
  | .bool _ :: _, _, h => nomatch h
  | .str _ :: _, _, h => nomatch h
  | .list _ :: _, _, h => nomatch h
  | .tuple _ :: _, _, h => nomatch h
  | .dict _ :: _, _, h => nomatch h
theorem boolsD_map : ∀ {ds : List D} {is : List Bool}, boolsD ds = some is → ds = is.map PyData.bool
  | [], is, h => by cases h; rfl
  | .bool i :: r, is, h => by
    obtain ⟨js, e, rfl⟩ := Option.map_eq_some_iff.mp (show (boolsD r).map (i :: ·) = some is from h)
    rw [boolsD_map e]; rfl
  | .none :: _, _, h => nomatch h
  | .int _ :: _, _, h => nomatch h
  | .str _ :: _, _, h => nomatch h
  | .list _ :: _, _, h => nomatch h
  | .tuple _ :: _, _, h => nomatch h
  | .dict _ :: _, _, h => nomatch h
theorem PdAll.bools {K : PySem.W.Frag} {F : Hp} : ∀ {v : List V} {is : List Bool}, PdAll K F v (is.map PyData.bool) → v = is.map V.bl
  | _, [], h => by cases h; rfl
  | _, i :: is, h => by
    cases h with
    | cons a r => cases a; rw [PdAll.bools r]; rfl
theorem foldl_max_mem : ∀ (is : List Int) (i : Int), is.foldl max i = i ∨ is.foldl max i ∈ is
  | [], i => .inl rfl
  | j :: r, i => by
    rw [List.foldl_cons]
    rcases foldl_max_mem r (max i j) with h | h
    · rw [h]
      by_cases c : i ≤ j
      · rw [Int.max_eq_right c]; exact .inr List.mem_cons_self
      · rw [Int.max_eq_left (by omega)]; exact .inl rfl
    · exact .inr (List.mem_cons_of_mem _ h)
theorem foldl_max_le : ∀ (is : List Int) (i : Int), i ≤ is.foldl max i ∧ ∀ j ∈ is, j ≤ is.foldl max i
  | [], i => ⟨Int.le_refl _, fun _ h => nomatch h⟩
  | j :: r, i => by
    rw [List.foldl_cons]
    obtain ⟨h1, h2⟩ := foldl_max_le r (max i j)
    refine ⟨by omega, fun k hk => ?_⟩
    rcases List.mem_cons.mp hk with rfl | hk
    · omega
    · exact h2 k hk
theorem foldl_min_mem : ∀ (is : List Int) (i : Int), is.foldl min i = i ∨ is.foldl min i ∈ is
  | [], i => .inl rfl
  | j :: r, i => by
    rw [List.foldl_cons]
    rcases foldl_min_mem r (min i j) with h | h
    · rw [h]
      by_cases c : i ≤ j
      · rw [Int.min_eq_left c]; exact .inl rfl
      · rw [Int.min_eq_right (by omega)]; exact .inr List.mem_cons_self
    · exact .inr (List.mem_cons_of_mem _ h)
theorem foldl_min_le : ∀ (is : List Int) (i : Int), is.foldl min i ≤ i ∧ ∀ j ∈ is, is.foldl min i ≤ j
  | [], i => ⟨Int.le_refl _, fun _ h => nomatch h⟩
  | j :: r, i => by
    rw [List.foldl_cons]
    obtain ⟨h1, h2⟩ := foldl_min_le r (min i j)
    refine ⟨by omega, fun k hk => ?_⟩
    rcases List.mem_cons.mp hk with rfl | hk
    · omega
    · exact h2 k hk
theorem maxI_is {is : List Int} {i m : Int} (h : maxI is = some i) (h1 : m ∈ is) (h2 : ∀ y, y ∈ is → y ≤ m) : m = i ∧ 0 < is.length := by
  cases is with
  | nil => cases h
  | cons j r =>
    cases h
    refine ⟨?_, Nat.succ_pos _⟩
    have a : m ≤ r.foldl max j := by
      rcases List.mem_cons.mp h1 with rfl | h1
      · exact (foldl_max_le r m).1
      · exact (foldl_max_le r j).2 m h1
    have b : r.foldl max j ≤ m := by
      rcases foldl_max_mem r j with e | e
      · rw [e]; exact h2 j List.mem_cons_self
      · exact h2 _ (List.mem_cons_of_mem _ e)
    omega
theorem minI_is {is : List Int} {i m : Int} (h : minI is = some i) (h1 : m ∈ is) (h2 : ∀ y, y ∈ is → m ≤ y) : m = i ∧ 0 < is.length := by
  cases is with
  | nil => cases h
  | cons j r =>
    cases h
    refine ⟨?_, Nat.succ_pos _⟩
    have a : r.foldl min j ≤ m := by
      rcases List.mem_cons.mp h1 with rfl | h1
      · exact (foldl_min_le r m).1
      · exact (foldl_min_le r j).2 m h1
    have b : m ≤ r.foldl min j := by
      rcases foldl_min_mem r j with e | e
      · rw [e]; exact h2 j List.mem_cons_self
      · exact h2 _ (List.mem_cons_of_mem _ e)
    omega
theorem two_int {i j : Int} {xs : List V} (h : VwAll Z g H xs [.pl (.int i), .pl (.int j)]) : xs = [.int i, .int j] := by
  cases h with
  | cons a r =>
    cases r with
    | cons b r => cases r; rw [a.pd.int', b.pd.int']
theorem one_int {i : Int} {xs : List V} (h : VwAll Z g H xs [.pl (.int i)]) : xs = [.int i] := by
  obtain ⟨x, rfl, a⟩ := one_vw h
  rw [a.pd.int']
theorem cr_max (hZ : In X Z) (hc : X.calm = true) : CallR X (.builtin "max") (rBi Z "max") := by
  intro pins s σ H xs us Q I r ⟨g, ts, t, fh, vw, e, q⟩
  have e : biMax ts = some t := e
  unfold biMax at e
  split at e <;> first | (cases e; done) | skip
  · cases e
    exact call_max2 hc pins s σ H xs us Q I r ⟨_, _, two_int vw, q _ _ _ Nw.int⟩
  · obtain ⟨ds, e1, e2⟩ := Option.bind_eq_some_iff.mp e
    obtain ⟨is, e3, e4⟩ := Option.bind_eq_some_iff.mp e2
    obtain ⟨i, e5, rfl⟩ := Option.map_eq_some_iff.mp e4
    obtain ⟨x, rfl, vx⟩ := one_vw vw
    obtain ⟨p, ys, rfl, hq, rr⟩ := listT_vw hZ fh e1 vx
    rw [intsD_map e3] at rr
    rw [rr.ints] at hq
    exact L2.cr_max hc pins s σ H _ us Q I r ⟨p, is, rfl, hq, by cases is with | nil => cases e5 | cons _ _ => exact Nat.succ_pos _, fun m h1 h2 => by
      obtain ⟨rfl, _⟩ := maxI_is e5 h1 h2
      exact q _ _ _ Nw.int⟩
theorem cr_min (hZ : In X Z) (hc : X.calm = true) : CallR X (.builtin "min") (rBi Z "min") := by
  intro pins s σ H xs us Q I r ⟨g, ts, t, fh, vw, e, q⟩
  have e : biMin ts = some t := e
  unfold biMin at e
  split at e <;> first | (cases e; done) | skip
  · cases e
    exact call_min2 hc pins s σ H xs us Q I r ⟨_, _, two_int vw, q _ _ _ Nw.int⟩
  · obtain ⟨ds, e1, e2⟩ := Option.bind_eq_some_iff.mp e
    obtain ⟨is, e3, e4⟩ := Option.bind_eq_some_iff.mp e2
    obtain ⟨i, e5, rfl⟩ := Option.map_eq_some_iff.mp e4
    obtain ⟨x, rfl, vx⟩ := one_vw vw
    obtain ⟨p, ys, rfl, hq, rr⟩ := listT_vw hZ fh e1 vx
    rw [intsD_map e3] at rr
    rw [rr.ints] at hq
    exact L2.cr_min hc pins s σ H _ us Q I r ⟨p, is, rfl, hq, by cases is with | nil => cases e5 | cons _ _ => exact Nat.succ_pos _, fun m h1 h2 => by
      obtain ⟨rfl, _⟩ := minI_is e5 h1 h2
      exact q _ _ _ Nw.int⟩
theorem cr_sum (hZ : In X Z) (hc : X.calm = true) : CallR X (.builtin "sum") (rBi Z "sum") := by
  intro pins s σ H xs us Q I r ⟨g, ts, t, fh, vw, e, q⟩
  have e : biSum ts = some t := e
  unfold biSum at e
  split at e <;> first | (cases e; done) | skip
  obtain ⟨ds, e1, e2⟩ := Option.bind_eq_some_iff.mp e
  obtain ⟨is, e3, rfl⟩ := Option.map_eq_some_iff.mp e2
  obtain ⟨x, rfl, vx⟩ := one_vw vw
  obtain ⟨p, ys, rfl, hq, rr⟩ := listT_vw hZ fh e1 vx
  rw [intsD_map e3] at rr
  rw [rr.ints] at hq
  exact L2.cr_sum hc pins s σ H _ us Q I r ⟨p, is, rfl, hq, q _ _ _ Nw.int⟩
theorem Nw.bool {F : Hp} {b : Bool} : Nw Z F H (.bl b) (.pl (.bool b)) F H := Nw.pd (.bl b)
theorem cr_all (hZ : In X Z) (hc : X.calm = true) : CallR X (.builtin "all") (rBi Z "all") := by
  intro pins s σ H xs us Q I r ⟨g, ts, t, fh, vw, e, q⟩
  have e : biAll ts = some t := e
  unfold biAll at e
  split at e <;> first | (cases e; done) | skip
  obtain ⟨ds, e1, e2⟩ := Option.bind_eq_some_iff.mp e
  obtain ⟨is, e3, rfl⟩ := Option.map_eq_some_iff.mp e2
  obtain ⟨x, rfl, vx⟩ := one_vw vw
  obtain ⟨p, ys, rfl, hq, rr⟩ := listT_vw hZ fh e1 vx
  rw [boolsD_map e3] at rr
  rw [rr.bools] at hq
  exact L2.cr_all hc pins s σ H _ us Q I r ⟨p, is, rfl, hq, q _ _ _ Nw.bool⟩
theorem cr_any (hZ : In X Z) (hc : X.calm = true) : CallR X (.builtin "any") (rBi Z "any") := by
  intro pins s σ H xs us Q I r ⟨g, ts, t, fh, vw, e, q⟩
  have e : biAny ts = some t := e
  unfold biAny at e
  split at e <;> first | (cases e; done) | skip
  obtain ⟨ds, e1, e2⟩ := Option.bind_eq_some_iff.mp e
  obtain ⟨is, e3, rfl⟩ := Option.map_eq_some_iff.mp e2
  obtain ⟨x, rfl, vx⟩ := one_vw vw
  obtain ⟨p, ys, rfl, hq, rr⟩ := listT_vw hZ fh e1 vx
  rw [boolsD_map e3] at rr
  rw [rr.bools] at hq
  exact L2.cr_any hc pins s σ H _ us Q I r ⟨p, is, rfl, hq, q _ _ _ Nw.bool⟩
theorem cr_abs : CallR X (.builtin "abs") (rBi Z "abs") := by
  intro pins s σ H xs us Q I r ⟨g, ts, t, fh, vw, e, q⟩
  have e : biAbs ts = some t := e
  unfold biAbs at e
  split at e <;> first | (cases e; done) | skip
  cases e
  exact call_abs pins s σ H _ us Q I r ⟨_, one_int vw, q _ _ _ Nw.int⟩
theorem cr_int : CallR X (.type "int") (rBi Z "int") := by
  intro pins s σ H xs us Q I r ⟨g, ts, t, fh, vw, e, q⟩
  have e : biInt ts = some t := e
  unfold biInt at e
  split at e <;> first | (cases e; done) | skip
  · cases e
    exact call_int1 pins s σ H _ us Q I r (.inl ⟨_, one_int vw, q _ _ _ Nw.int⟩)
  · cases e
    obtain ⟨x, rfl, vx⟩ := one_vw vw
    rw [vx.pd.bool] at r
    exact call_int1 pins s σ H _ us Q I r (.inr ⟨_, rfl, q _ _ _ Nw.int⟩)
theorem cr_str : CallR X (.type "str") (rBi Z "str") := by
  intro pins s σ H xs us Q I r ⟨g, ts, t, fh, vw, e, q⟩
  have e : biStr ts = some t := e
  unfold biStr at e
  split at e <;> first | (cases e; done) | skip
  · rename_i i _
    split at e
    · rename_i hi
      cases e
      refine call_str_int pins s σ H _ us Q I r ⟨_, one_int vw, ?_, q _ _ _ Nw.str⟩
      by_cases h0 : i.natAbs = 0
      · rw [h0]; decide
      · exact (Nat.log2_lt h0).mpr (Nat.lt_of_lt_of_le hi (show 10 ^ 100 ≤ 2 ^ 1920 by decide))
    · cases e
  · cases e
    obtain ⟨x, rfl, vx⟩ := one_vw vw
    have ex := (vx.lk rfl).str
    subst ex
    exact SkE.call_str_str pins s σ H _ us Q I r ⟨_, rfl, q _ _ _ Nw.str⟩
theorem cr_list (hZ : In X Z) : CallR X (.type "list") (rBi Z "list") := by
  intro pins s σ H xs us Q I r ⟨g, ts, t, fh, vw, e, q⟩
  have e : biList ts = some t := e
  unfold biList at e
  split at e <;> first | (cases e; done) | skip
  obtain ⟨x, rfl, vx⟩ := one_vw vw
  split at e
  · rename_i e1
    cases e
    obtain ⟨p, ys, rfl, hq, rr⟩ := (vx.lk e1).seqL fh
    exact call_list_of pins s σ H _ us Q I r ⟨p, ys, rfl, .inl (by rw [hZ.K]; exact hq), fun l hl => q _ _ _ (Nw.lst fh hl rr)⟩
  · rename_i e1
    cases e
    obtain ⟨p, ys, rfl, hq, rr⟩ := (vx.lk e1).seqT fh
    exact call_list_of pins s σ H _ us Q I r ⟨p, ys, rfl, .inr (by rw [hZ.K]; exact hq), fun l hl => q _ _ _ (Nw.lst fh hl rr)⟩
  · cases e
theorem cr_tuple (hZ : In X Z) : CallR X (.type "tuple") (rBi Z "tuple") := by
  intro pins s σ H xs us Q I r ⟨g, ts, t, fh, vw, e, q⟩
  have e : biTup ts = some t := e
  unfold biTup at e
  split at e <;> first | (cases e; done) | skip
  obtain ⟨x, rfl, vx⟩ := one_vw vw
  split at e
  · rename_i e1
    cases e
    obtain ⟨p, ys, rfl, hq, rr⟩ := (vx.lk e1).seqL fh
    exact call_tuple_of pins s σ H _ us Q I r ⟨p, ys, rfl, .inl ⟨by rw [hZ.K]; exact hq, fun l hl => q _ _ _ (Nw.tup fh hl rr)⟩⟩
  · rename_i ds e1
    cases e
    have pd : Pd Z.K g.F x (.tuple ds) := by cases vx.lk e1 with | pd h => exact h
    obtain ⟨p, ys, rfl, hq, rr⟩ := (vx.lk e1).seqT fh
    exact call_tuple_of pins s σ H _ us Q I r ⟨p, ys, rfl, .inr ⟨by rw [hZ.K]; exact hq, q _ _ _ (Nw.pd pd)⟩⟩
  · cases e
end
end EV
end PartEvBi
section PartEvMet
set_option autoImplicit false
set_option linter.all false
set_option maxRecDepth 100000
/-! EvMet: isinstance, methods. -/
namespace EV
open PySem PySem.Spec PyProof.Rows L2

/-! ### isinstance -/
def tyName : D → String
  | .none => "NoneType"
  | .bool _ => "bool"
  | .int _ => "int"
  | .str _ => "str"
  | .list _ => "list"
  | .tuple _ => "tuple"
  | .dict _ => "dict"
def tyKnown (ty : String) : Bool := ty == "bool" || ty == "int" || ty == "str" || ty == "list" || ty == "tuple" || ty == "dict"
theorem kit_known {ty : String} (h : tyKnown ty = true) (d : D) : kitB (tyName d) ty = some (typeIs d (Str.ofString ty)) := by
  unfold tyKnown at h
  simp only [Bool.or_eq_true, beq_iff_eq] at h
  rcases h with ((((rfl | rfl) | rfl) | rfl) | rfl) | rfl <;> cases d <;> (simp only [tyName, typeIs]; decide +kernel)
section
variable {X : Cx} {Z : Wd} {g : Gh} {H F : Hp}
theorem Lk.tyx (hZ : In X Z) (fh : FH F H) {v : V} {d : D} (h : Lk Z.K F H v d) : TyX X.K H v (.type (tyName d)) := by
  have lst : ∀ {a : Addr} {xs : List V}, SqL Z.K H a xs → TyX X.K H (.ref a) (.type "list") := by
    intro a xs hq
    rcases hq with (e | ⟨o, e⟩) | ⟨o, its, n, e, c, _⟩
    · exact .base (.lst e)
    · exact .base (.frz e)
    · exact .kList (by rw [hZ.K]; exact e) c
  have dic : ∀ {a : Addr} {kvs : List (L2.Key × V)}, Rd H a (.dK kvs) → TyX X.K H (.ref a) (.type "dict") := by
    intro a xs hq
    rcases hq with e | ⟨o, e⟩
    · exact .base (.dK e)
    · exact .fDict e
  cases h with
  | lst e r => exact lst e
  | dic e r => exact dic e
  | pd p =>
    cases p with
    | non => exact .base .non
    | bl b => exact .base (.bl b)
    | int i => exact .base (.int i)
    | str x => exact .base (.str x)
    | lst e r => exact lst (.inl (.inl (fh.lst e)))
    | dic e r => exact dic (fh.rd e)
    | tup e r =>
      rcases e with e | ⟨o, its, n, e, c, _⟩
      · exact .base (.tup (fh.tup e))
      · exact .kTuple (by rw [hZ.K]; exact e) c
theorem xoOf_lk {K : PySem.W.Frag} {v : V} {d : D} (h : Lk K F H v d) : xoOf d = none := by
  have kv : ∀ {kvs : List (L2.Key × V)} {ds : List (D × D)}, PdKv K F kvs ds → xoOf (.dict ds) = none := by
    intro kvs ds r
    cases r with
    | nil => rfl
    | cons a r =>
      rename_i k _ _ _ _
      cases k <;> rfl
  cases h with
  | pd p => cases p <;> first | rfl | (rename_i r; exact kv r)
  | lst _ _ => rfl
  | dic _ r => exact kv r
variable {P : Pm} {W : Exn → S → Prop} {a b : Expr} {ea eb : E} {es : List E} {as : List Expr} {pos : Pos} {m : Md}
theorem rd_isi (hZ : In X Z) {ty : String} {p1 p2 : Pos} (ha : PE X a (RdE Z P W ea .v)) (hty : tyKnown ty = true) (hg : Gl X "isinstance") (hm : X.mg "isinstance" = none) (hg2 : Gl X (Str.ofString ty)) (hm2 : X.mg (Str.ofString ty) = none)
    (he : starEach [a, .Name (Str.ofString ty) p2] X.env = (false, eval a X.env) :: starEach [.Name (Str.ofString ty) p2] X.env) :
    PE X (.Call (.Name "isinstance" p1) [a, .Name (Str.ofString ty) p2] [] pos) (RdE Z P W (.isi ea [Str.ofString ty]) m) := by
  have hv : bootBuiltins (Str.ofString ty) = some (.type ty) ∧ Str.ofString ty ≠ "__name__" ∧ (Str.ofString ty == ("__debug__" : Str)) = false := by
    unfold tyKnown at hty
    simp only [Bool.or_eq_true, beq_iff_eq] at hty
    rcases hty with ((((rfl | rfl) | rfl) | rfl) | rfl) | rfl <;> exact ⟨by decide +kernel, by decide, by decide⟩
  have h2 : PE X (.Name (Str.ofString ty) p2) (tC (.ty ty)) := pe_bltn hg2 hm2 hv.1 rfl hv.2.1 hv.2.2
  have hA : PA X [a, .Name (Str.ofString ty) p2] (tCons (RdE Z P W ea .v) (tCons (tC (.ty ty)) tNil)) := pa_cons ha (pa_cons h2 pa_nil rfl) he
  refine (pe_callB call_isi hg hm (by decide +kernel) hA (by decide) (by decide) he (by rfl)).imp fun σ H Q ⟨g, s, r, h⟩ => ?_
  unfold ev at h
  rw [sat_bd] at h
  refine ⟨g, s, r, h.imp fun t s1 h1 g1 H1 v r1 x1 k1 => ?_⟩
  obtain ⟨t', e, h2⟩ := sat_lift h1
  obtain ⟨b, e2, rfl⟩ := Option.map_eq_some_iff.mp e
  unfold isiT at e2
  obtain ⟨d, e3, e4⟩ := Option.map_eq_some_iff.mp e2
  have lk := k1.vw.lk e3
  rw [xoOf_lk lk] at e4
  have e4 : (typeIs d (Str.ofString ty) || false) = b := e4
  rw [Bool.or_false] at e4
  refine ⟨v, .ty ty, _, .type ty, b, rfl, .ty ty, lk.tyx hZ r1.frz, kit_ty (by rw [← e4]; exact kit_known hty d), ?_⟩
  exact fin_pl (by intro i z; cases z) h2 r1 x1 (.bl b)
end
end EV
end PartEvMet
section PartEvAst
set_option autoImplicit false
set_option linter.all false
set_option maxRecDepth 100000
/-! EvAst: what is seen of the text. -/
namespace EV
open PySem PySem.Spec PyProof.Rows L2
def noStar : Expr → Bool
  | .Starred _ _ => false
  | _ => true
def noSuper : Expr → Bool
  | .Call (.Name id _) [] [] _ => id != "super"
  | _ => true
def noSlice : Expr → Bool
  | .Slice _ _ _ _ => false
  | _ => true
def noComp : Expr → Bool
  | .ListComp _ _ _ _ => false
  | .SetComp _ _ _ _ => false
  | .DictComp _ _ _ _ _ => false
  | _ => true
def plainTest : Expr → Bool
  | .UnaryOp .Not _ _ => false
  | .BoolOp _ _ _ => false
  | .IfExp _ _ _ _ => false
  | .Compare _ _ _ _ => false
  | _ => true
theorem starEach_cons {e : Expr} {es : List Expr} {env : Env} (h : noStar e = true) : starEach (e :: es) env = (false, eval e env) :: starEach es env := by
  cases e <;> first | rfl | cases h
theorem starEach_all {env : Env} : ∀ {es : List Expr}, es.all noStar = true → starEach es env = es.map fun e => (false, eval e env)
  | [], _ => rfl
  | e :: es, h => by
    rw [List.all_cons, Bool.and_eq_true] at h
    rw [starEach_cons h.1, starEach_all h.2]
    rfl
theorem attrBase {o : Expr} {f : Str} {env : Env} (h : noSuper o = true) : attributeBase o f env (eval o env) = eval o env := by
  cases o <;> try rfl
  rename_i fn as ks p
  cases fn <;> try rfl
  rename_i id p2
  cases as <;> try rfl
  cases ks <;> try rfl
  have h : (id != "super") = true := h
  unfold attributeBase
  simp only [h, Bool.true_or, if_true]
theorem plainIx {b : Expr} (h : noSlice b = true) : PlainIx b := by
  intro o i
  cases b <;> first | rfl | cases h
theorem plainTest_ok {e : Expr} {env : Env} (h : plainTest e = true) : ∀ whole, isTrue e env whole = (do let v ← whole; standAt e.pos; holding [v] (truthy v)) := by
  intro whole
  cases e <;> first | rfl | cases h | skip
  rename_i op x p
  cases op <;> first | rfl | cases h
theorem noSwap {e : Expr} {t : Option Expr} {n : Nat} {env : Env} (h : noComp e = true) : swapsWith e t n env = pure false := by
  cases e <;> first | rfl | cases h
theorem backTo_any {pos : Pos} {env : Env} : ∀ {es : List Expr}, es.all noStar = true → (backTo pos (starEach es env)).any (·.1) = false
  | [], _ => rfl
  | e :: es, h => by
    rw [List.all_cons, Bool.and_eq_true] at h
    rw [starEach_cons h.1]
    show (false || (backTo pos (starEach es env)).any (·.1)) = false
    rw [backTo_any h.2]; rfl
theorem backTo_few {pos : Pos} {env : Env} : ∀ {es : List Expr}, es.all noStar = true → (backTo pos (starEach es env)).all (fun x => !x.1) = true
  | [], _ => rfl
  | e :: es, h => by
    rw [List.all_cons, Bool.and_eq_true] at h
    rw [starEach_cons h.1]
    show (true && (backTo pos (starEach es env)).all (fun x => !x.1)) = true
    rw [backTo_few h.2]; rfl
theorem callFew {pos : Pos} {env : Env} {es : List Expr} (h : es.all noStar = true) (hl : es.length ≤ 20) :
    ((backTo pos (starEach es env)).all (fun x => !x.1) && (backToKw pos (keywordEach [] env)).all (fun x => x.1.isSome) && decide (es.length + ([] : List Keyword).length + (if ([] : List Keyword).isEmpty then 0 else 1) < 30)) = true := by
  rw [backTo_few h]
  show (true && true && decide (es.length + 0 + 0 < 30)) = true
  rw [decide_eq_true (by omega)]
  rfl
theorem backTo_trees {pos : Pos} {env : Env} : ∀ {es : List Expr}, es.all noStar = true → backTo pos (starEach es env) = es.map fun e => (false, eval e env)
  | [], _ => rfl
  | e :: es, h => by
    rw [List.all_cons, Bool.and_eq_true] at h
    rw [starEach_cons h.1]
    show (false, eval e env) :: backTo pos (starEach es env) = _
    rw [backTo_trees h.2]; rfl
end EV
end PartEvAst
section PartEvGn
set_option autoImplicit false
set_option linter.all false
set_option maxRecDepth 100000
/-! EvGn: d.get(None). -/
namespace EV
open PySem PySem.Spec PyProof.Rows L2
def optIs : Option Key → Value → Bool
  | none, .none => true
  | none, _ => false
  | some k, v => keyIs k v
theorem optIs_none {v : Value} (h : optIs none v = true) : v = .none := by
  cases v <;> first | rfl | cases h
theorem keyIs_nn {k : Key} (h : keyIs k .none = true) : False := by
  rcases keyIs_shape h with ⟨_, _, _, e⟩ | ⟨_, _, _, e⟩ <;> cases e
def optKind (prog : Program) (w : World) : PySem.KeyKind prog w (Option Key) where
  is := optIs
  hash := fun k => match k with
    | none => NestedKey.hash w .none
    | some k => keyH w k
  inj := fun v a b ha hb => by
    cases a with
    | none =>
      cases optIs_none ha
      cases b with
      | none => rfl
      | some k => exact (keyIs_nn hb).elim
    | some j =>
      cases b with
      | none => cases optIs_none hb; exact (keyIs_nn ha).elim
      | some k => exact congrArg some ((mixKind prog w).inj v j k ha hb)
  byValue := fun k v h => by
    cases k with
    | none => cases optIs_none h; rfl
    | some k => exact (mixKind prog w).byValue k v h
  pyHash := fun {A E s k v Q} hv h => by
    cases k with
    | none =>
      cases optIs_none hv
      exact W.pyHash_slot (T := "NoneType") rfl F.slot_NoneType_hash F.entry_NoneType_hash (F.args_NoneType_hash_1 _) (beq_builtin_none _) (.inl rfl) (wpAny_bind (wpAny_pure (wpAny_bind (wpAny_mkInt (wpAny_pure ⟨_, _, rfl, h⟩)))))
    | some k => exact (mixKind prog w).pyHash hv h
  eqBool := fun {A E s a b u v Q} hu hv h => by
    cases a with
    | none =>
      cases optIs_none hu
      cases b with
      | none => cases optIs_none hv; exact (SeqAt.EqAt.same .none) _ _ _ _ h
      | some k =>
        rcases keyIs_shape hv with ⟨j, t, rfl, rfl⟩ | ⟨y, t, rfl, rfl⟩
        · exact SeqAt.EqAt.none_int j t _ _ _ _ h
        · exact SeqAt.EqAt.none_str y t _ _ _ _ h
    | some j =>
      cases b with
      | none =>
        cases optIs_none hv
        rcases keyIs_shape hu with ⟨j, t, rfl, rfl⟩ | ⟨y, t, rfl, rfl⟩
        · exact SeqAt.EqAt.int_none j t _ _ _ _ h
        · exact SeqAt.EqAt.str_none y t _ _ _ _ h
      | some k =>
        refine (mixKind prog w).eqBool hu hv ?_
        have : decide (some j = some k) = decide (j = k) := by simp
        rw [← this]; exact h
  «strs» := fun k x t v h => by
    cases k with
    | none => cases h
    | some k => exact (mixKind prog w).strs k x t v h
theorem mapOf_opt {prog : Program} {w : World} {h : Heap} {a : Addr} {f : Key → Option Value} (m : h.MapOf (mixKind prog w) a f) : h.MapOf (optKind prog w) a fun k => k.bind f := by
  obtain ⟨o, es, ep, h1, h2, h3, h4, h5⟩ := m
  refine ⟨o, es, ep, h1, h2, h3, fun e he => ?_, fun k => ?_⟩
  · obtain ⟨k, k1, k2⟩ := h4 e he
    exact ⟨some k, k1, k2⟩
  · cases k with
    | none =>
      unfold findBy
      have : es.find? (fun e => (optKind prog w).is none e.key) = none := by
        rw [Array.find?_eq_none]
        intro e he z
        obtain ⟨k, k1, _⟩ := h4 e he
        have e1 : e.key = .none := optIs_none z
        rw [e1] at k1
        exact keyIs_nn k1
      rw [this]; rfl
    | some k => exact h5 k
section
variable {X : Cx} {pins : List (Addr × Obj)} {σ : L2.St} {H : Hp} {s : Shared} {a : Addr} {A : Around} {E : Value → Shared → Prop}
theorem d_getN {kvs : List (Key × V)} {Q : Value → Shared → Prop} (I : Inv X pins σ H s) (e : Rd H a (.dK kvs)) (h : ∀ s', Inv X pins σ H s' → Q .none s') :
    wpAny (model X.prog X.w) A (PySem.call (.builtin "dict.get") [.ref a, .none]) Q E s := by
  obtain ⟨z, hd, vs, rel, dd⟩ := dk_rd I.hok e
  exact call_meetsIn PySem.F.slot_dict_get dd.typeIs PySem.F.entry_dict_get (PySem.F.args_dict_get_2 _ _) (meets_dict_get (optKind X.prog X.w) (k := none) a (show optIs none Value.none = true from rfl) hd) ⟨_, mapOf_opt dd.mapOf, h _ (I.tok _)⟩
end
section
variable {X : Cx} {o e : Expr} {apos cpos : Pos} {td ty : TE}
/-- d.get(y): y a key or None -/
def tDGetN (td ty : TE) : TE := fun σ H Q => td σ H fun x H1 => ∃ a, x = .ref a ∧ IsD H1 a ∧ ty σ H1 fun y H2 => (∃ o, DGet H2 a y o ∧ Q (o.getD .non) H2) ∨ (y = .non ∧ (∃ kvs, Rd H2 a (.dK kvs)) ∧ Q .non H2)
theorem pe_dgetN (hu : X.A.units + 1 < cLine) (ho : PE X o td) (he : PE X e ty) (m : M1 X o "get" apos e cpos) : PE X (.Call (.Attribute o "get" apos) [e] [] cpos) (tDGetN td ty) := by
  refine ⟨fun pins s σ H Q I h => ?_⟩
  refine wpAny_Call_method m.base m.few m.line PySem.F.plainAttrs_dict PySem.F.slot_dict_get PySem.F.type_dict_get (thn (ho.run pins s σ H _ I h) fun u s1 ⟨x, H1, I1, rx, a, ex, d, q1⟩ => ?_)
  subst ex
  obtain rfl : u = Value.ref a := rx
  obtain ⟨t1, t2, _⟩ := isD_at I1 d
  refine ⟨t1, t2, ?_⟩
  rw [m.trees]
  refine Calls.callWith_builtin rfl (Calls.evalArgs_plain (Calls.spliced_cons (thn (he.run pins s1 σ H1 _ I1 q1) fun iv s2 ⟨y, H2, I2, ry, q2⟩ => Calls.spliced_nil ?_)))
  rcases q2 with ⟨ov, g, q2⟩ | ⟨ey, ⟨kvs, rd⟩, q2⟩
  · exact d_get1 hu I2 g ry fun w' s3 I3 rw' => ⟨_, H2, I3, rw', q2⟩
  · subst ey
    cases (show iv = Value.none from ry)
    exact d_getN I2 rd fun s3 I3 => ⟨.non, H2, I3, rfl, q2⟩
end
end EV
end PartEvGn
section PartEvMeth
set_option autoImplicit false
set_option linter.all false
set_option maxRecDepth 100000
/-! EvMeth: methods of lists, dicts, texts. -/
namespace EV
open PySem PySem.Spec PyProof.Rows L2
def rMet (Z : Wd) (m : String) : V → List V → Hp → VK → Prop := fun x xs H Q => ∃ g t ts u, FH g.F H ∧ Vw Z g H x t ∧ VwAll Z g H xs ts ∧ metT t m ts = some u ∧ ∀ v F' H', Nw Z g.F H v u F' H' → Q v H'
section
variable {X : Cx} {Z : Wd} {P : Pm} {W : Exn → S → Prop} {a b c : Expr} {ea eb ec : E} {es : List E} {as : List Expr} {pos apos : Pos} {m : Md} {g : Gh} {H : Hp}
theorem met_core {T nm : String} (ty : ∀ g H x t, FH g.F H → Vw Z g H x t → metOk t nm = true → tyV X.K T x H) (σ : L2.St) (H : Hp) (Q : VK) (h : RdE Z P W (.met ea nm es) m σ H Q) : tBM X.K T (rMet Z nm) (RdE Z P W ea .v) (RdV Z P W es) σ H Q := by
  obtain ⟨g, s, r, h⟩ := h
  unfold ev at h
  rw [sat_bd] at h
  refine ⟨g, s, r, h.imp fun t s1 h1 g1 H1 v r1 x1 k1 => ?_⟩
  split at h1
  · rename_i hk
    refine ⟨ty g1 H1 v t r1.frz k1.vw hk, ?_⟩
    rw [sat_bd] at h1
    refine ⟨g1, s1, r1, h1.imp fun ts s2 h2 g2 H2 vs r2 x2 p2 => ?_⟩
    rw [sat_bd] at h2
    obtain ⟨t', vw, h3⟩ := late_ok k1 x2 r2 h2
    obtain ⟨u, e, h4⟩ := sat_lift h3
    exact ⟨g2, t', ts, u, r2.frz, vw, p2, e, fun v F' H' n => fin_new (by intro i z; cases z) h4 r2 (x1.trans x2) n⟩
  · exact h1.elim
theorem ty_list (hZ : In X Z) {x : V} {t : T} (fh : FH g.F H) (vw : Vw Z g H x t) (h : metOk t "index" = true) : tyV X.K "list" x H := by
  have h : isListT t = true := h
  unfold isListT at h
  split at h
  · rename_i ds e
    obtain ⟨p, ys, rfl, hq, _⟩ := (vw.lk e).seqL fh
    exact .inl ⟨rfl, ys, by rw [hZ.K]; exact hq⟩
  · cases h
theorem ty_str {x : V} {t : T} (fh : FH g.F H) (vw : Vw Z g H x t) (h : metOk t "join" = true) : tyV X.K "str" x H := by
  have h : isStrT t = true := h
  unfold isStrT at h
  split at h
  · rename_i e
    obtain rfl := (vw.lk e).str
    rfl
  · cases h
theorem strsD_map : ∀ {ds : List D} {is : List Str}, strsD ds = some is → ds = is.map PyData.str
  | [], is, h => by cases h; rfl
  | .str i :: r, is, h => by
    obtain ⟨js, e, rfl⟩ := Option.map_eq_some_iff.mp (show (strsD r).map (i :: ·) = some is from h)
    rw [strsD_map e]; rfl
  | .none :: _, _, h => nomatch h
  | .int _ :: _, _, h => nomatch h
  | .bool _ :: _, _, h => nomatch h
  | .list _ :: _, _, h => nomatch h
  | .tuple _ :: _, _, h => nomatch h
  | .dict _ :: _, _, h => nomatch h
theorem PdAll.strs {K : PySem.W.Frag} {F : Hp} : ∀ {v : List V} {is : List Str}, PdAll K F v (is.map PyData.str) → v = is.map V.str
  | _, [], h => by cases h; rfl
  | _, i :: is, h => by
    cases h with
    | cons a r => cases a; rw [PdAll.strs r]; rfl
theorem mt_joinR (hZ : In X Z) : MtR X "str.join" (rMet Z "join") := by
  intro pins s σ H x xs v us Q I rx rs ⟨g, t, ts, u, fh, vx, vw, e, q⟩
  have e : meJoin t ts = some u := e
  unfold meJoin at e
  split at e <;> first | (cases e; done) | skip
  rename_i w
  obtain ⟨sep, e0, e⟩ := Option.bind_eq_some_iff.mp e
  obtain ⟨ds, e1, e2⟩ := Option.bind_eq_some_iff.mp e
  obtain ⟨ys, e3, e4⟩ := Option.bind_eq_some_iff.mp e2
  split at e4
  · rename_i hl
    cases e4
    have ex : x = .str sep := by
      split at e0
      · rename_i es
        cases e0
        exact (vx.lk es).str
      · cases e0
    subst ex
    obtain ⟨y, rfl, vy⟩ := one_vw vw
    have hp : ∃ p, y = .ref p ∧ (SqL X.K H p (ys.map V.str) ∨ SqT X.K H p (ys.map V.str)) := by
      split at e1
      · rename_i ew
        cases e1
        obtain ⟨p, zs, rfl, hq, rr⟩ := (vy.lk ew).seqL fh
        rw [strsD_map e3] at rr
        rw [rr.strs] at hq
        exact ⟨p, rfl, .inl (by rw [hZ.K]; exact hq)⟩
      · rename_i ew
        cases e1
        obtain ⟨p, zs, rfl, hq, rr⟩ := (vy.lk ew).seqT fh
        rw [strsD_map e3] at rr
        rw [rr.strs] at hq
        exact ⟨p, rfl, .inr (by rw [hZ.K]; exact hq)⟩
      · cases e1
    obtain ⟨p, rfl, hp⟩ := hp
    exact mt_join pins s σ H _ _ v us Q I rx rs ⟨sep, p, ys, rfl, rfl, hp, Nat.le_trans hl (show 1000000 ≤ 16777216 by decide), q _ _ _ Nw.str⟩
  · cases e4
theorem rd_join (hZ : In X Z) (ha : PE X a (RdE Z P W ea .v)) (hA : PA X [b] (RdV Z P W es)) (h1 : noSuper a = true) (h2 : noStar b = true) (hl : (apos.endLine == pos.line) = true) :
    PE X (.Call (.Attribute a "join" apos) [b] [] pos) (RdE Z P W (.met ea "join" es) m) :=
  (pe_bm PySem.F.plainAttrs_str PySem.F.slot_str_join PySem.F.type_str_join (mt_joinR hZ) ha hA (attrBase h1) (callFew (by simp [h2]) (by simp)) hl (starEach_cons h2) rfl).imp
    fun σ H Q h => met_core (fun g H x t fh vw h => ty_str fh vw h) σ H Q h
theorem findIdx_first {p : D → Bool} : ∀ {ds : List D} {j : Nat}, ds.findIdx? p = some j → ∃ z, ds[j]? = some z ∧ p z = true ∧ ∀ (m : Nat) (z' : D), m < j → ds[m]? = some z' → p z' = false := by
  intro ds j h
  obtain ⟨hj, h1, h2⟩ := List.findIdx?_eq_some_iff_getElem.mp h
  refine ⟨ds[j], List.getElem?_eq_getElem hj, h1, fun m z' hm e => ?_⟩
  obtain ⟨hm', rfl⟩ := List.getElem?_eq_some_iff.mp e
  simpa using h2 m hm
mutual
theorem plain_lay : ∀ {d : D}, d.canLay0 = true → d.plain = true
  | .none, _ => rfl
  | .bool _, _ => rfl
  | .int _, _ => rfl
  | .str _, _ => rfl
  | .list xs, h => plain_layA (ds := xs) h
  | .tuple xs, h => plain_layA (ds := xs) h
  | .dict _, h => nomatch h
theorem plain_layA : ∀ {ds : List D}, PyData.canLayAll0 ds = true → PyData.plainAll ds = true
  | [], _ => rfl
  | d :: ds, h => by
    have h' := Bool.and_eq_true_iff.mp (show (_ && _) = true from h)
    rw [PyData.plainAll, plain_lay h'.1, plain_layA h'.2]; rfl
end
theorem mt_indexR (hZ : In X Z) (hu : X.A.units + 65 < cLine) : MtR X "list.index" (rMet Z "index") := by
  intro pins s σ H x xs v us Q I rx rs ⟨g, t, ts, u, fh, vx, vw, e, q⟩
  have e : meIndex t ts = some u := e
  unfold meIndex at e
  split at e <;> first | (cases e; done) | skip
  rename_i d _
  obtain ⟨ds, e1, e2⟩ := Option.bind_eq_some_iff.mp e
  split at e2
  · rename_i hl
    rw [Bool.and_eq_true] at hl
    obtain ⟨j, e3, rfl⟩ := Option.map_eq_some_iff.mp e2
    obtain ⟨y, rfl, vy⟩ := one_vw vw
    have hd : PyData.plain d = true := plain_lay (SeqAt.canLay_of_shaped hl.2)
    have hds : PyData.plain (.list ds) = true := plain_lay (SeqAt.canLay_of_shaped hl.1)
    unfold listT at e1
    split at e1
    · rename_i et
      cases e1
      obtain ⟨p, zs, rfl, hq, rr⟩ := (vx.lk et).seqL fh
      obtain ⟨z, f1, f2, f3⟩ := findIdx_first e3
      refine mt_indexD hu pins s σ H _ _ v us Q I rx rs ⟨p, y, d, ds, j, z, rfl, rfl, ?_, ?_, hl.1, hl.2, f1, f2, f3, q _ _ _ Nw.int⟩
      · rw [hZ.K]; exact (vx.lk et).dp fh hds
      · rw [hZ.K]; exact (vy.lk rfl).dp fh hd
    · cases e1
  · cases e2
theorem rd_index (hZ : In X Z) (hu : X.A.units + 65 < cLine) (ha : PE X a (RdE Z P W ea .v)) (hA : PA X [b] (RdV Z P W es)) (h1 : noSuper a = true) (h2 : noStar b = true) (hl : (apos.endLine == pos.line) = true) :
    PE X (.Call (.Attribute a "index" apos) [b] [] pos) (RdE Z P W (.met ea "index" es) m) :=
  (pe_bm PySem.F.plainAttrs_list PySem.F.slot_list_index PySem.F.type_list_index (mt_indexR hZ hu) ha hA (attrBase h1) (callFew (by simp [h2]) (by simp)) hl (starEach_cons h2) rfl).imp
    fun σ H Q h => met_core (fun g H x t fh vw h => ty_list hZ fh vw h) σ H Q h
theorem rd_get1 (hu : X.A.units + 64 < cLine) (ha : PE X a (RdE Z P W ea .v)) (hb : PE X b (RdE Z P W eb .v)) (h1 : noSuper a = true) (h2 : noStar b = true) (hl : (apos.endLine == pos.line) = true) :
    PE X (.Call (.Attribute a "get" apos) [b] [] pos) (RdE Z P W (.met ea "get" [eb]) m) :=
  (pe_dgetN (by omega) ha hb ⟨attrBase h1, callFew (by simp [h2]) (by simp), hl, by rw [backTo_trees (by simp [h2])]; rfl⟩).imp fun σ H Q ⟨g, s, r, h⟩ => by
    unfold ev at h
    rw [sat_bd] at h
    refine ⟨g, s, r, h.imp fun t s1 h1 g1 H1 v r1 x1 k1 => ?_⟩
    split at h1
    · rename_i hk
      have hk : isDictT t = true := hk
      unfold isDictT at hk
      split at hk
      · rename_i kvs et
        obtain ⟨p, ks, rfl, hq, _⟩ := (k1.vw.lk et).dict r1.frz
        refine ⟨p, rfl, .inl ⟨ks, hq⟩, ?_⟩
        unfold evV at h1
        simp only [sat_bd] at h1
        refine ⟨g1, s1, r1, h1.imp fun u s2 h2 g2 H2 w r2 x2 k2 => ?_⟩
        unfold evV at h2
        have h2 : (late eb u (([] : List E).all quiet) s2).sat _ W := h2
        obtain ⟨u', vu, h3⟩ := late_ok k2 (Ext.refl _ _) r2 h2
        have h3 : (late ea t ([eb].all quiet) s2).sat _ W := h3
        obtain ⟨t', vw, h4⟩ := late_ok k1 x2 r2 h3
        obtain ⟨ans, e, h5⟩ := sat_lift h4
        have e : meGet t' [u'] = some ans := e
        cases u' with
        | pl d =>
          have e : (match t'.vw with
            | some (.dict kvs) => if okKey d then some (T.pl ((dget kvs d).getD .none)) else if isNoneD d then some (T.pl .none) else none
            | _ => none) = some ans := e
          split at e
          · rename_i kvs' et'
            split at e
            · rename_i hk
              cases e
              obtain ⟨k, rfl⟩ := okKey_iff hk
              obtain ⟨p', ks', ep, hq', rr⟩ := (vw.lk et').dict r2.frz
              cases ep
              have ew : w = kV k := by
                cases k with
                | inl i => exact vu.pd.int'
                | inr i => exact (vu.lk rfl).str
              refine .inl ⟨valV ks' k, .inl ⟨ks', k, hq', ew, rfl⟩, ?_⟩
              rcases rr.val k with ⟨z, d2, e1, e2, p⟩ | ⟨e1, e2⟩
              · rw [e1]
                rw [e2] at h5
                exact fin_pl (by intro i z; cases z) h5 r2 (x1.trans x2) p
              · rw [e1]
                rw [e2] at h5
                exact fin_pl (by intro i z; cases z) h5 r2 (x1.trans x2) .non
            · split at e
              · rename_i hn
                cases e
                obtain rfl : d = .none := by cases d <;> first | rfl | cases hn
                obtain ⟨p', ks', ep, hq', _⟩ := (vw.lk et').dict r2.frz
                cases ep
                exact .inr ⟨(vu.lk rfl).none, ⟨ks', hq'⟩, fin_pl (by intro i z; cases z) h5 r2 (x1.trans x2) .non⟩
              · cases e
          · cases e
        | _ => cases e
      · cases hk
    · exact h1.elim
end
end EV
end PartEvMeth
section PartEvMut
set_option autoImplicit false
set_option linter.all false
set_option maxRecDepth 100000
/-! EvMut: methods that change a list or dict; writing at a place. -/
namespace EV
open PySem PySem.Spec PyProof.Rows L2
section
variable {Z : Wd} {g : Gh} {s : S} {σ : L2.St} {H : Hp} {a : Addr} {o : HO} {t t' : T} {i : Nat}
theorem upd_keep {b : Addr} (h : b ≠ a) : ∀ u, H b = some u → upd H a o b = some u := fun u e => by rw [upd_ne h]; exact e
/-- the thing that a slot alone holds is changed -/
theorem Rel.write (r : Rel Z g s σ H) (ho : g.ow (.s i) = [a]) (hv : σ[i]? = some (some (.ref a))) (tr : Tr Z g.F g.γ (upd H a o) (.ref a) t' [a]) (hb : isB t' = false) (hu : t' ≠ .un) :
    Rel Z g { s with vs := s.vs.set i t' } σ (upd H a o) ∧ Ext g H g (upd H a o) := by
  have ha : a ∈ g.ow (.s i) := by rw [ho]; exact List.mem_singleton.mpr rfl
  have hF := (r.own _ _ ha).1
  have other : ∀ p, p ≠ .s i → ∀ b ∈ g.ow p, b ≠ a := fun p hp b hb z => by
    subst z
    exact hp (r.dis _ _ _ hb ha)
  have nob : ∀ b, (∀ p, b ∉ g.ow p) → b ≠ a := fun b n z => by subst z; exact n _ ha
  refine ⟨⟨by rw [List.length_set]; exact r.len, fun j u h => ?_, fun j h => ?_, r.glen, fun m ob c h1 h2 => (r.obj m ob c h1 h2).keep (Sub.refl _) ⟨[], by simp⟩ fun b hb => upd_keep (other _ (by intro z; cases z) b hb), r.oemp, fun b u e => ?_, fun p b hb => ⟨(r.own p b hb).1, ?_⟩, r.dis, r.nd, fun b hb => ⟨?_, (r.bor b hb).2⟩⟩, ⟨Sub.refl _, ⟨[], by simp⟩, fun b u e n => .inl (upd_keep (nob b n) u e), fun p b hb => .inl ⟨p, hb⟩, fun b h => .inl h, rfl⟩⟩
  · have h : (s.vs.set i t')[j]? = some u := h
    by_cases e : i = j
    · subst e
      rw [List.getElem?_set] at h
      simp only [if_true] at h
      split at h
      · cases h
        exact .inr ⟨_, hv, by rw [ho]; exact tr, Bo.no hb⟩
      · cases h
    · rw [List.getElem?_set_ne e] at h
      exact (r.slot j u h).imp_right fun ⟨v, e1, e2, e3⟩ => ⟨v, e1, e2.keep (Sub.refl _) ⟨[], by simp⟩ (fun b hb => upd_keep (other _ (by intro z; cases z; exact e rfl) b hb)) (e3.imp (Sub.refl _) fun b n => Kp.of (upd_keep (nob b (r.bor b n).2))), e3⟩
  · by_cases e : i = j
    · subst e
      have h : (s.vs.set i t')[i]? = some .un ∨ (s.vs.set i t')[i]? = none := h
      rw [List.getElem?_set] at h
      simp only [if_true] at h
      split at h
      · rcases h with h | h
        · exact absurd (Option.some.inj h) hu
        · cases h
      · rename_i hl
        exact r.emp i (.inr (List.getElem?_eq_none_iff.mpr (by omega)))
    · have h : (s.vs.set i t')[j]? = some .un ∨ (s.vs.set i t')[j]? = none := h
      rw [List.getElem?_set_ne e] at h
      exact r.emp j h
  · have hba : b ≠ a := fun z => by subst z; rw [hF] at e; cases e
    rw [upd_ne hba]
    exact r.frz b u e
  · by_cases e : b = a
    · subst e; rw [upd_same]; exact fun z => nomatch z
    · rw [upd_ne e]; exact (r.own p b hb).2
  · rw [upd_ne (nob b (r.bor b hb).2)]; exact (r.bor b hb).1
theorem muts_ol {m : String} (h : mutOk t m = true) : (∃ ds, t = .ol ds ∧ m ≠ "setdefault") ∨ ∃ kvs, t = .od kvs ∧ m = "setdefault" := by
  cases t <;> first | (cases h; done) | skip
  · exact .inl ⟨_, rfl, by simpa [mutOk] using h⟩
  · exact .inr ⟨_, rfl, by simpa [mutOk] using h⟩
theorem Rel.ol (r : Rel Z g s σ H) {ds : List D} (h : s.vs[i]? = some (.ol ds)) : ∃ a xs, σ[i]? = some (some (.ref a)) ∧ H a = some (.lst xs) ∧ PdAll Z.K g.F xs ds ∧ g.ow (.s i) = [a] := by
  obtain ⟨v, e1, e2, _⟩ := r.pl h (fun z => nomatch z)
  generalize hc : g.ow (.s i) = cs at e2
  cases e2 with
  | ol hH p => exact ⟨_, _, e1, hH, p, rfl⟩
theorem Rel.od (r : Rel Z g s σ H) {ds : List (D × D)} (h : s.vs[i]? = some (.od ds)) : ∃ a xs, σ[i]? = some (some (.ref a)) ∧ H a = some (.dK xs) ∧ PdKv Z.K g.F xs ds ∧ g.ow (.s i) = [a] := by
  obtain ⟨v, e1, e2, _⟩ := r.pl h (fun z => nomatch z)
  generalize hc : g.ow (.s i) = cs at e2
  cases e2 with
  | od hH p => exact ⟨_, _, e1, hH, p, rfl⟩
end
theorem mutD_ol {t : T} {nm : String} {es : List D} {r : D × T} (hn : nm ≠ "setdefault") (h : mutD t nm es = some r) : ∃ ds, t = .ol ds := by
  unfold mutD at h
  split at h
  · cases t <;> first | exact ⟨_, rfl⟩ | cases h
  split at h
  · cases t <;> first | exact ⟨_, rfl⟩ | cases h
  split at h
  · cases t <;> first | exact ⟨_, rfl⟩ | cases h
  split at h
  · cases t <;> first | exact ⟨_, rfl⟩ | cases h
  split at h
  · cases t <;> first | exact ⟨_, rfl⟩ | cases h
  first
    | (split at h
       · exact absurd (by assumption) hn
       · cases h)
    | cases h
section
variable {X : Cx} {Z : Wd} {P : Pm} {W : Exn → S → Prop} {a b c : Expr} {es : List E} {as : List Expr} {pos apos : Pos} {m : Md} {i : Nat} {x : Str}
/-- a method that changes the list of a slot, by its rule -/
theorem mut_core {nm : String} {rr : V → List V → Hp → VK → Prop} (hn : nm ≠ "setdefault")
    (rule : ∀ (g : Gh) (H : Hp) (a : Addr) (xs : List V) (ds : List D) (vs : List V) (es : List D) (d : D) (t' : T) (Q : VK), FH g.F H → H a = some (.lst xs) → PdAll Z.K g.F xs ds → PdAll Z.K g.F vs es → mutD (.ol ds) nm es = some (d, t') →
      (∀ v ys ds', t' = .ol ds' → PdAll Z.K g.F ys ds' → Pd Z.K g.F v d → Q v (upd H a (.lst ys))) → rr (.ref a) vs H Q)
    (hr : ∀ {ds : List D} {es : List D} {d : D} {t' : T}, mutD (.ol ds) nm es = some (d, t') → ∃ ds', t' = .ol ds')
    (σ : L2.St) (H : Hp) (Q : VK) (h : RdE Z P W (.mut (.var i) nm es) m σ H Q) : tBM X.K "list" rr (tVar i) (RdD Z P W es) σ H Q := by
  obtain ⟨g, s, r, h⟩ := h
  unfold ev evP at h
  simp only [bd_ok] at h
  have gp : ∀ s : S, getPl s ⟨.s i, []⟩ = s.vs[i]? := fun s => by
    unfold getPl getR
    simp only [getP]
    cases s.vs[i]? <;> rfl
  rw [gp] at h
  cases hs : s.vs[i]? with
  | none => rw [hs] at h; exact h.elim
  | some t0 =>
    rw [hs] at h
    simp only at h
    cases hk : mutOk t0 nm with
    | false =>
      rw [hk] at h
      exact h.elim
    | true =>
      rw [hk] at h
      simp only [if_true] at h
      rcases muts_ol hk with ⟨ds0, rfl, _⟩ | ⟨_, _, z⟩
      · obtain ⟨a, xs, e1, e2, e3, e4⟩ := r.ol hs
        refine ⟨.ref a, e1, .inl ⟨rfl, xs, .inl (.inl e2)⟩, g, s, r, ?_⟩
        rw [sat_bd] at h
        refine h.imp fun es' s1 h1 g1 H1 vs r1 x1 p1 => ?_
        rw [gp] at h1
        cases hs1 : s1.vs[i]? with
        | none => rw [hs1] at h1; exact h1.elim
        | some t1 =>
          rw [hs1] at h1
          simp only at h1
          cases hm : mutD t1 nm es' with
          | none => rw [hm] at h1; exact h1.elim
          | some dt =>
            obtain ⟨d, t'⟩ := dt
            rw [hm] at h1
            simp only at h1
            have sp : setPl s1 ⟨.s i, []⟩ t' = some { s1 with vs := s1.vs.set i t' } := by
              unfold setPl getR
              simp only [hs1, Option.bind_some, setP, Option.map_some, setR]
            rw [sp] at h1
            obtain ⟨ds1, rfl⟩ := mutD_ol hn hm
            · obtain ⟨b, ys, f1, f2, f3, f4⟩ := r1.ol hs1
              rw [e1] at f1
              cases f1
              obtain ⟨ds', rfl⟩ := hr hm
              refine rule g1 H1 a ys ds1 vs es' d _ Q r1.frz f2 f3 p1 hm fun v zs ds2 et p2 pd => ?_
              cases et
              obtain ⟨r2, x2⟩ := r1.write (o := .lst zs) f4 e1 (.ol upd_same p2) rfl (fun z => nomatch z)
              exact h1 g1 _ v r2 (x1.trans x2) (Kd.of (Tm.pl pd) (by intro i z; cases z))
      · exact absurd z hn
theorem PdAll.one {K : PySem.W.Frag} {F : Hp} {vs : List V} {d : D} (h : PdAll K F vs [d]) : ∃ v, vs = [v] ∧ Pd K F v d := by
  cases h with | cons a r => cases r; exact ⟨_, rfl, a⟩
theorem PdAll.dropLast {K : PySem.W.Frag} {F : Hp} : ∀ {v : List V} {d : List D}, PdAll K F v d → PdAll K F v.dropLast d.dropLast
  | _, _, .nil => .nil
  | _, _, .cons a .nil => .nil
  | _, _, .cons a (.cons b r) => .cons a (PdAll.dropLast (.cons b r))
variable {px : Pos}
theorem rd_append (hN : X.N[i]? = some x) (hv : Vis X.env.scope x) (hd : (x == ("__debug__" : Str)) = false) (hcd : (x == ("__classdict__" : Str)) = false) (hA : PA X [b] (RdD Z P W es)) (h2 : noStar b = true) (hl : (apos.endLine == pos.line) = true) :
    PE X (.Call (.Attribute (.Name x px) "append" apos) [b] [] pos) (RdE Z P W (.mut (.var i) "append" es) m) :=
  (pe_bm PySem.F.plainAttrs_list PySem.F.slot_list_append PySem.F.type_list_append mt_append (pe_var hN hv hd hcd) hA rfl (callFew (by simp [h2]) (by simp)) hl (starEach_cons h2) rfl).imp
    fun σ H Q h => mut_core (nm := "append") (by decide) (fun g H a xs ds vs es d t' Q fh hH p pe e q => by
      have e : muApp (.ol ds) es = some (d, t') := e
      unfold muApp at e
      split at e <;> first | (cases e; done) | skip
      rename_i d0 heq _
      cases heq
      split at e
      · rename_i hz
        cases e
        obtain ⟨v, rfl, pv⟩ := pe.one
        refine ⟨a, xs, v, rfl, rfl, hH, ?_, q _ _ _ rfl (p.snoc pv) .non⟩
        have := of_decide_eq_true hz
        rw [p.length, sizeLine_eq]; omega
      · cases e) (fun {ds es d t'} e => by
      have e : muApp (.ol ds) es = some (d, t') := e
      unfold muApp at e
      split at e <;> first | (cases e; done) | skip
      split at e
      · cases e; exact ⟨_, rfl⟩
      · cases e) σ H Q h
theorem rd_pop0 (hN : X.N[i]? = some x) (hv : Vis X.env.scope x) (hd : (x == ("__debug__" : Str)) = false) (hcd : (x == ("__classdict__" : Str)) = false) (hl : (apos.endLine == pos.line) = true) :
    PE X (.Call (.Attribute (.Name x px) "pop" apos) [] [] pos) (RdE Z P W (.mut (.var i) "pop" []) m) :=
  (pe_bm0 PySem.F.plainAttrs_list PySem.F.slot_list_pop PySem.F.type_list_pop mt_pop (pe_var hN hv hd hcd) rfl hl).imp
    fun σ H Q h => by
      obtain ⟨v, e1, e2, g, s, r, h⟩ := mut_core (nm := "pop") (rr := fun x vs H Q => vs = [] → rPop x [] H Q) (by decide) (fun g H a xs ds vs es d t' Q fh hH p pe e q z => by
        subst z
        cases pe
        have e : (ds[ds.length - 1]?.map fun d => (d, T.ol ds.dropLast)) = some (d, t') := e
        obtain ⟨d', e1, e2⟩ := Option.map_eq_some_iff.mp e
        cases e2
        obtain ⟨y, f1, f2⟩ := p.get e1
        exact ⟨a, xs, y, rfl, rfl, hH, by rw [p.length]; exact f1, q _ _ _ rfl p.dropLast f2⟩) (fun {ds es d t'} e => by
        have e : muPop (.ol ds) es = some (d, t') := e
        unfold muPop at e
        split at e <;> first | (cases e; done) | skip
        · split at e
          · obtain ⟨j, _, e⟩ := Option.bind_eq_some_iff.mp e
            obtain ⟨d', _, e⟩ := Option.map_eq_some_iff.mp e
            cases e; exact ⟨_, rfl⟩
          · cases e
        · obtain ⟨d', _, e⟩ := Option.map_eq_some_iff.mp e
          cases e; exact ⟨_, rfl⟩) σ H Q h
      unfold evD at h
      exact ⟨v, e1, e2, h g H [] r (Ext.refl _ _) .nil rfl⟩
theorem rd_popAt (hN : X.N[i]? = some x) (hv : Vis X.env.scope x) (hd : (x == ("__debug__" : Str)) = false) (hcd : (x == ("__classdict__" : Str)) = false) (hA : PA X [b] (RdD Z P W es)) (he : es ≠ []) (h2 : noStar b = true) (hl : (apos.endLine == pos.line) = true) :
    PE X (.Call (.Attribute (.Name x px) "pop" apos) [b] [] pos) (RdE Z P W (.mut (.var i) "pop" es) m) :=
  (pe_bm PySem.F.plainAttrs_list PySem.F.slot_list_pop PySem.F.type_list_pop mt_popAt (pe_var hN hv hd hcd) hA rfl (callFew (by simp [h2]) (by simp)) hl (starEach_cons h2) rfl).imp
    fun σ H Q h => by
      obtain ⟨v, e1, e2, g, s, r, h⟩ := mut_core (nm := "pop") (rr := fun x vs H Q => vs ≠ [] → rPopAt x vs H Q) (by decide) (fun g H a xs ds vs es d t' Q fh hH p pe e q z => by
        have e : muPop (.ol ds) es = some (d, t') := e
        unfold muPop at e
        split at e <;> first | (cases e; done) | skip
        · rename_i k heq _
          cases heq
          split at e
          · rename_i hz
            obtain ⟨j, f1, e⟩ := Option.bind_eq_some_iff.mp e
            obtain ⟨d', f2, e⟩ := Option.map_eq_some_iff.mp e
            cases e
            obtain ⟨v, rfl, pv⟩ := pe.one
            obtain rfl := pv.int'
            obtain ⟨y, f3, f4⟩ := p.get f2
            have hz := of_decide_eq_true hz
            obtain ⟨g1, g2, g3, g4⟩ := L2.ixN_seq (show L2.ixN ds.length k = some j from f1)
            exact ⟨a, xs, k, j, y, rfl, rfl, hH, by omega, by omega, by rw [p.length]; exact g1, f3, q _ _ _ rfl (p.erase j) f4⟩
          · cases e
        · cases pe; exact absurd rfl z) (fun {ds es d t'} e => by
        have e : muPop (.ol ds) es = some (d, t') := e
        unfold muPop at e
        split at e <;> first | (cases e; done) | skip
        · split at e
          · obtain ⟨j, _, e⟩ := Option.bind_eq_some_iff.mp e
            obtain ⟨d', _, e⟩ := Option.map_eq_some_iff.mp e
            cases e; exact ⟨_, rfl⟩
          · cases e
        · obtain ⟨d', _, e⟩ := Option.map_eq_some_iff.mp e
          cases e; exact ⟨_, rfl⟩) σ H Q h
      refine ⟨v, e1, e2, g, s, r, (evD_len h).imp fun ds s' ⟨hl, h'⟩ g' H' vs r' x' p' => h' g' H' vs r' x' p' fun z => ?_⟩
      have := p'.length
      rw [hl, z] at this
      exact he (List.eq_nil_of_length_eq_zero this.symm)
end
end EV
end PartEvMut
section PartEvIt
set_option autoImplicit false
set_option linter.all false
set_option maxRecDepth 100000
/-! EvIt: what is walked. -/
namespace EV
open PySem PySem.Spec PyProof.Rows L2
section
variable {Z : Wd} {g g' : Gh} {s : S} {σ : L2.St} {H H' : Hp} {v : V} {t : T} {a : Addr} {xs : List V} {ds : List D}
/-- it will stand as it is -/
def StL (Z : Wd) (g : Gh) (H : Hp) (a : Addr) (xs : List V) : Prop := (Rd H a (.lst xs) ∧ ∀ p, a ∉ g.ow p) ∨ KL Z.K a xs
theorem StL.ext (h : StL Z g H a xs) (x : Ext g H g' H') : SqL Z.K H' a xs := by
  rcases h with ⟨h, n⟩ | h
  · exact .inl (Kp.rd (fun o e => (x.keep a o e n).imp_right fun ⟨kvs, ob, z1, _, z2⟩ => ⟨kvs, ob, z1, z2⟩) h)
  · exact .inr h
theorem Tr.stl {cs : List Addr} (r : Rel Z g s σ H) (h : Tr Z g.F g.γ H v t cs) (hc : ∀ a ∈ cs, ∀ p, a ∉ g.ow p) (hb : Bo Z g.F v t fun a => ∀ p, a ∉ g.ow p) (e : t.vw = some (.list ds)) : ∃ a xs, v = .ref a ∧ StL Z g H a xs ∧ PdAll Z.K g.F xs ds := by
  cases h <;> first | (cases e; done) | skip
  case pl p =>
    cases e
    cases p with
    | lst hF r' => exact ⟨_, _, rfl, .inl ⟨.inl (r.frz.lst hF), fun p hp => by rw [(r.own p _ hp).1] at hF; cases hF⟩, r'⟩
  case ol hH p => cases e; exact ⟨_, _, rfl, .inl ⟨.inl hH, hc _ (by simp)⟩, p⟩
  case kl hH p =>
    cases e
    rcases hb _ rfl rfl with q | ⟨_, _, _, _, z⟩
    · exact ⟨_, _, rfl, .inl ⟨.inl hH, q⟩, p⟩
    · cases z
  case bl hH p =>
    cases e
    rcases hb _ rfl rfl with q | ⟨_, _, _, _, z⟩
    · exact ⟨_, _, rfl, .inl ⟨.inl hH, q⟩, p⟩
    · cases z
  case sl hH p =>
    cases e
    rcases hb _ rfl rfl with q | ⟨xs', ds', k, p', z⟩
    · rcases hH with hH | hH
      · exact ⟨_, _, rfl, .inl ⟨hH, q⟩, p⟩
      · exact ⟨_, _, rfl, .inr hH, p⟩
    · cases z
      exact ⟨_, _, rfl, .inr k, p'⟩
/-- an iterator's items -/
def Src (Z : Wd) (g : Gh) (H : Hp) (J : L2.It) (ds : List D) : Prop := ∀ g' H', Ext g H g' H' → FH g'.F H' → ∀ i, (ds.length ≤ i → J.stop i H') ∧
  ∀ d, ds[i]? = some d → J.go i H' ∧ ∀ x H'', J.yld i H' x H'' → ∃ F'', Nw Z g'.F H' x (.pl d) F'' H''
theorem src_list (h : StL Z g H a xs) (p : PdAll Z.K g.F xs ds) : Src Z g H (Itl Z.K a) ds := fun g' H' x fh i => by
  have hq := h.ext x
  refine ⟨fun hl => ⟨xs, hq, by rw [p.length]; exact hl⟩, fun d e => ?_⟩
  obtain ⟨y, e1, pd⟩ := p.get e
  exact ⟨⟨xs, y, hq, e1⟩, fun z H'' ⟨e2, hy⟩ => by
    have := hy xs hq
    rw [e1] at this
    cases this
    subst e2
    exact ⟨_, Nw.pd (pd.mono x.sub)⟩⟩
theorem src_tup (h : g.F a = some (.tup xs) ∨ KT Z.K a xs) (p : PdAll Z.K g.F xs ds) : Src Z g H (Itt Z.K a) ds := fun g' H' x fh i => by
  have hq : SqT Z.K H' a xs := h.elim (fun e => .inl (.inl (fh.tup (x.sub _ _ e)))) .inr
  refine ⟨fun hl => ⟨xs, hq, by rw [p.length]; exact hl⟩, fun d e => ?_⟩
  obtain ⟨y, e1, pd⟩ := p.get e
  exact ⟨⟨xs, y, hq, e1⟩, fun z H'' ⟨e2, hy⟩ => by
    have := hy xs hq
    rw [e1] at this
    cases this
    subst e2
    exact ⟨_, Nw.pd (pd.mono x.sub)⟩⟩
theorem rangeD_get : ∀ {n : Nat} {lo : Int} {i : Nat} {d : D}, (rangeD lo n)[i]? = some d → i < n ∧ d = .int (lo + i)
  | 0, _, _, _, h => by simp [rangeD] at h
  | n + 1, lo, 0, d, h => by
    simp [rangeD] at h
    exact ⟨Nat.succ_pos _, by rw [← h]; simp⟩
  | n + 1, lo, i + 1, d, h => by
    have h : (rangeD (lo + 1) n)[i]? = some d := by simpa [rangeD] using h
    obtain ⟨h1, h2⟩ := rangeD_get h
    exact ⟨Nat.succ_lt_succ h1, by rw [h2]; congr 1; push_cast; omega⟩
theorem rangeD_len : ∀ {n : Nat} {lo : Int}, (rangeD lo n).length = n
  | 0, _ => rfl
  | n + 1, lo => by rw [rangeD, List.length_cons, rangeD_len]
theorem src_rng {lo : Int} {n : Nat} : Src Z g H (Itr lo n) (rangeD lo n) := fun g' H' x fh i => by
  refine ⟨fun hl => by rw [rangeD_len] at hl; exact hl, fun d e => ?_⟩
  obtain ⟨h1, rfl⟩ := rangeD_get e
  exact ⟨h1, fun z H'' ⟨e1, e2⟩ => by subst e1 e2; exact ⟨_, Nw.int⟩⟩
theorem src_str {z : Str} : Src Z g H (Its z) (chars z) := fun g' H' x fh i => by
  have hlen : (chars z).length = z.cps.size := by unfold chars; simp
  refine ⟨fun hl => by rw [hlen] at hl; exact hl, fun d e => ?_⟩
  unfold chars at e
  rw [List.getElem?_map] at e
  obtain ⟨c, e1, rfl⟩ := Option.map_eq_some_iff.mp e
  have e1 : z.cps[i]? = some c := by rw [← Array.getElem?_toList]; exact e1
  refine ⟨(Array.getElem?_eq_some_iff.mp e1).1, fun y H'' ⟨e2, c', e3, e4⟩ => ?_⟩
  rw [e1] at e3
  cases e3
  subst e2 e4
  exact ⟨_, Nw.str⟩
end
/-- what is walked, as the interpreter reads it -/
def RdI (Z : Wd) (P : Pm) (W : Exn → S → Prop) (it : EV.It) : TI := fun σ H R => ∃ g s, Rel Z g s σ H ∧
  (evI P it s).sat (fun p s' => ∀ g' H' (J : L2.It), Rel Z g' s' σ H' → Ext g H g' H' → p.2 = none → Src Z g' H' J p.1 → R J H') W
section
variable {X : Cx} {Z : Wd} {P : Pm} {W : Exn → S → Prop} {a b tg : Expr} {ea eb : E} {pos p : Pos} {i : Nat} {x : Str} {m : Md}
theorem rdi_rng (hg : Gl X "range") (hm : X.mg "range" = none) (ha : PE X a (RdE Z P W ea .e)) (h1 : noStar a = true) : PI X tg (.Call (.Name "range" p) [a] [] pos) (RdI Z P W (.rng ea)) :=
  ⟨fun pins s σ H R I ⟨g, s0, r, h⟩ => (pi_range1 hg hm (pa_cons ha pa_nil (starEach_cons h1)) (starEach_cons h1)).run pins s σ H R I (by
    unfold evI at h
    rw [sat_bd] at h
    refine rd_toI r h fun n s' g' H' r' x' h' => ?_
    split at h'
    · exact ⟨n, rfl, by omega, by omega, h' g' H' _ r' x' rfl src_rng⟩
    · exact h'.elim)⟩
theorem rdi_rng2 (hg : Gl X "range") (hm : X.mg "range" = none) (ha : PE X a (RdE Z P W ea .e)) (hb : PE X b (RdE Z P W eb .e)) (h1 : noStar a = true) (h2 : noStar b = true) : PI X tg (.Call (.Name "range" p) [a, b] [] pos) (RdI Z P W (.rng2 ea eb)) :=
  ⟨fun pins s σ H R I ⟨g, s0, r, h⟩ => (pi_range2 hg hm (pa_cons ha (pa_cons hb pa_nil (starEach_cons h2)) (starEach_cons h1)) (by rw [starEach_cons h1, starEach_cons h2]; rfl) (starEach_cons h2)).run pins s σ H R I (by
    unfold evI at h
    rw [sat_bd] at h
    refine rd_toI r h fun m s' g' H' r' x' h' => ?_
    rw [sat_bd] at h'
    refine rd_toI r' h' fun n s2 g2 H2 r2 x2 h2 => ?_
    split at h2
    · exact ⟨m, n, rfl, by omega, h2 g2 H2 _ r2 (x'.trans x2) rfl src_rng⟩
    · exact h2.elim)⟩
theorem Tr.stt {g : Gh} {H : Hp} {v : V} {t : T} {ds : List D} {cs : List Addr} (h : Tr Z g.F g.γ H v t cs) (e : t.vw = some (.tuple ds)) : ∃ a xs, v = .ref a ∧ (g.F a = some (.tup xs) ∨ KT Z.K a xs) ∧ PdAll Z.K g.F xs ds := by
  cases h <;> first | (cases e; done) | skip
  case pl p =>
    cases e
    cases p with
    | tup hF r => exact ⟨_, _, rfl, hF, r⟩
theorem StL.sq {g : Gh} {H : Hp} {a : Addr} {xs : List V} (h : StL Z g H a xs) : SqL Z.K H a xs := h.ext (Ext.refl _ _)
/-- a value that is walked -/
theorem walk_run (hZ : In X Z) (ha : PE X a (RdE Z P W ea m)) {pins : List (Addr × Obj)} {s : Shared} {σ : L2.St} {H : Hp} {R : L2.It → Hp → Prop} (I : Inv X pins σ H s) {g : Gh} {s0 : S} (r : Rel Z g s0 σ H)
    (h : (ev P ea m s0).sat (fun t s' => ∃ ds, walkT t = some ds ∧ ∀ g' H' v, Rel Z g' s' σ H' → Ext g H g' H' → Kd Z g H g' H' σ m ea v t →
      (∃ cs, Tr Z g'.F g'.γ H' v t cs ∧ (∀ a ∈ cs, ∀ p, a ∉ g'.ow p) ∧ Bo Z g'.F v t fun a => ∀ p, a ∉ g'.ow p) ∧ ∀ J, Src Z g' H' J ds → R J H') W) :
    wpAny (model X.prog X.w) X.A (eval a X.env) (fun v s1 => wpAny (model X.prog X.w) X.A (pyIter v) (PIE X pins σ tg R) X.xe s1) X.xe s := by
  cases hev : ev P ea m s0 with
  | bad => rw [hev] at h; exact h.elim
  | ex x s' =>
    rw [hev] at h
    exact (pi_list ha).run pins s σ H R I ⟨g, s0, r, by rw [hev]; exact h⟩
  | ok t s' =>
    rw [hev] at h
    obtain ⟨ds, hw, h⟩ := h
    unfold walkT at hw
    split at hw
    · rename_i e1
      cases hw
      refine (pi_list ha).run pins s σ H R I ⟨g, s0, r, ?_⟩
      rw [hev]
      intro g' H' v r' x' k'
      obtain ⟨⟨cs, tr, h1, h2⟩, h3⟩ := h g' H' v r' x' k'
      obtain ⟨a', xs, ev', st, pd⟩ := tr.stl r' h1 h2 e1
      exact ⟨a', ev', ⟨xs, by rw [hZ.K]; exact st.sq⟩, by rw [hZ.K]; exact h3 _ (src_list st pd)⟩
    · rename_i e1
      cases hw
      refine (pi_tup ha).run pins s σ H R I ⟨g, s0, r, ?_⟩
      rw [hev]
      intro g' H' v r' x' k'
      obtain ⟨⟨cs, tr, h1, h2⟩, h3⟩ := h g' H' v r' x' k'
      obtain ⟨a', xs, ev', st, pd⟩ := tr.stt e1
      exact ⟨a', ev', ⟨xs, by rw [hZ.K]; exact st.elim (fun e => .inl (.inl (r'.frz.tup e))) .inr⟩, by rw [hZ.K]; exact h3 _ (src_tup st pd)⟩
    · rename_i z e1
      cases hw
      refine (pi_str ha).run pins s σ H R I ⟨g, s0, r, ?_⟩
      rw [hev]
      intro g' H' v r' x' k'
      obtain ⟨_, h3⟩ := h g' H' v r' x' k'
      exact ⟨z, (k'.vw.lk e1).str, h3 _ src_str⟩
    · cases hw
theorem Tm.loose {g0 g : Gh} {H0 H : Hp} {v : V} {t : T} (h : Tm Z g0 H0 g H v t) : ∃ cs, Tr Z g.F g.γ H v t cs ∧ (∀ a ∈ cs, ∀ p, a ∉ g.ow p) ∧ Bo Z g.F v t fun a => ∀ p, a ∉ g.ow p :=
  let ⟨cs, ⟨a, _, c, d⟩, _⟩ := h
  ⟨cs, a, fun b hb => (c b hb).2.2.1, d.imp (Sub.refl _) fun b hb => hb.2⟩
theorem Kd.tmpE {g0 g : Gh} {H0 H : Hp} {σ : L2.St} {e : E} {v : V} {t : T} (h : Kd Z g0 H0 g H σ .v e v t) (k : tmpE e t = true) : Tm Z g0 H0 g H v t := by
  cases e with
  | var i => cases k
  | att a f => exact h.2 k
  | idx a f => exact h.2 k
  | _ => exact h
theorem rdi_gen (hZ : In X Z) (ha : PE X a (RdE Z P W ea .v)) : PI X tg a (RdI Z P W (.gen ea)) :=
  ⟨fun pins s σ H R I ⟨g, s0, r, h⟩ => walk_run hZ ha I r (by
    unfold evI at h
    rw [sat_bd] at h
    refine h.imp fun t s1 h1 => ?_
    split at h1
    · rename_i hk
      rw [sat_bd] at h1
      obtain ⟨ds, e, h2⟩ := sat_lift h1
      exact ⟨ds, e, fun g' H' v r' x' k' => ⟨(k'.tmpE hk).loose, fun J hJ => h2 g' H' J r' x' rfl hJ⟩⟩
    · exact h1.elim)⟩
end
end EV
end PartEvIt
section PartEvDw
set_option autoImplicit false
set_option linter.all false
set_option maxRecDepth 100000
/-! EvDw: dicts that are walked: what is frozen is locked from then on. -/
namespace EV
open PySem PySem.Spec PyProof.Rows L2
section
variable {K : PySem.W.Frag} {F : Hp}
theorem PdKv.get : ∀ {kvs : List (Key × V)} {ds : List (D × D)} {i : Nat} {q : D × D}, PdKv K F kvs ds → ds[i]? = some q → ∃ k v, kvs[i]? = some (k, v) ∧ q.1 = keyD k ∧ Pd K F v q.2
  | _, _, _, _, .nil, e => by simp at e
  | _, _, 0, _, .cons a r, e => by simp at e; subst e; exact ⟨_, _, rfl, rfl, a⟩
  | _, _, i + 1, x, .cons a r, e => by simpa using PdKv.get (i := i) (q := x) r (by simpa using e)
theorem pd_key (k : Key) : Pd K F (kV k) (keyD k) := by
  cases k with
  | inl i => exact .int i
  | inr x => exact .str x
end
section
variable {Z : Wd} {g g' : Gh} {s : S} {σ : L2.St} {H H' : Hp} {a : Addr} {kvs : List (Key × V)} {ds : List (D × D)} {od : Obj}
theorem kp_lock (hH : H a = some (.dK kvs)) (b : Addr) : Kp H (upd H a (.frz od (.dK kvs))) b := fun o e => by
  by_cases h : b = a
  · subst h
    rw [hH] at e
    cases e
    exact .inr ⟨kvs, od, rfl, upd_same⟩
  · rw [upd_ne h]; exact .inl e
theorem Rel.lock (r : Rel Z g s σ H) (hF : g.F a = some (.dK kvs)) (hH : H a = some (.dK kvs)) : Rel Z g s σ (upd H a (.frz od (.dK kvs))) ∧ Ext g H g (upd H a (.frz od (.dK kvs))) := by
  have own : ∀ p, ∀ b ∈ g.ow p, b ≠ a := fun p b hb z => by
    subst z
    rw [(r.own p _ hb).1] at hF
    cases hF
  refine ⟨⟨r.len, fun j t e => ?_, r.emp, r.glen, fun m ob c q1 q2 => (r.obj m ob c q1 q2).keep (Sub.refl _) ⟨[], by simp⟩ fun b hb => upd_keep (own _ b hb), r.oemp, fun b u e => ?_, fun p b hb => ⟨(r.own p b hb).1, ?_⟩, r.dis, r.nd, fun b hb => ⟨(kp_lock hH b).ne (r.bor b hb).1, (r.bor b hb).2⟩⟩,
    ⟨Sub.refl _, ⟨[], by simp⟩, fun b u e n => ?_, fun p b hb => .inl ⟨p, hb⟩, fun b h => .inl h, rfl⟩⟩
  · exact (r.slot j t e).imp_right fun ⟨v, e1, e2, e3⟩ => ⟨v, e1, e2.keep (Sub.refl _) ⟨[], by simp⟩ (fun b hb => upd_keep (own _ b hb)) (e3.imp (Sub.refl _) fun b _ => kp_lock hH b), e3⟩
  · by_cases h : b = a
    · subst h
      rw [hF] at e
      cases e
      exact .inr ⟨kvs, od, rfl, upd_same⟩
    · rw [upd_ne h]; exact r.frz b u e
  · rw [upd_ne (own p b hb)]; exact (r.own p b hb).2
  · by_cases h : b = a
    · subst h
      rw [hH] at e
      cases e
      exact .inr ⟨kvs, od, rfl, by rw [hF]; exact Option.some_ne_none _, upd_same⟩
    · rw [upd_ne h]; exact .inl e
theorem frz_stay (x : Ext g H g' H') (hH : H a = some (.frz od (.dK kvs))) (n : ∀ p, a ∉ g.ow p) : H' a = some (.frz od (.dK kvs)) :=
  (x.keep a _ hH n).resolve_right fun ⟨_, _, z, _⟩ => nomatch z
theorem src_keys (hH : H a = some (.frz od (.dK kvs))) (n : ∀ p, a ∉ g.ow p) (p : PdKv Z.K g.F kvs ds) : Src Z g H (Itk a od kvs) (ds.map (·.1)) := fun g' H' x fh i => by
  have hq := frz_stay x hH n
  refine ⟨fun hl => ⟨hq, by rw [p.length]; simpa using hl⟩, fun d e => ?_⟩
  rw [List.getElem?_map] at e
  obtain ⟨q, e1, rfl⟩ := Option.map_eq_some_iff.mp e
  obtain ⟨k, v, e2, e3, _⟩ := p.get e1
  refine ⟨⟨hq, (List.getElem?_eq_some_iff.mp e2).1⟩, fun z H'' ⟨e4, k', v', e5, e6⟩ => ?_⟩
  rw [e2] at e5
  cases e5
  subst e4 e6
  exact ⟨_, Nw.pd (by rw [e3]; exact pd_key k)⟩
theorem src_vals (hH : H a = some (.frz od (.dK kvs))) (n : ∀ p, a ∉ g.ow p) (p : PdKv Z.K g.F kvs ds) : Src Z g H (Itd a od kvs) (ds.map (·.2)) := fun g' H' x fh i => by
  have hq := frz_stay x hH n
  refine ⟨fun hl => ⟨hq, by rw [p.length]; simpa using hl⟩, fun d e => ?_⟩
  rw [List.getElem?_map] at e
  obtain ⟨q, e1, rfl⟩ := Option.map_eq_some_iff.mp e
  obtain ⟨k, v, e2, e3, e7⟩ := p.get e1
  refine ⟨⟨hq, (List.getElem?_eq_some_iff.mp e2).1⟩, fun z H'' ⟨e4, k', e5⟩ => ?_⟩
  rw [e2] at e5
  cases e5
  subst e4
  exact ⟨_, Nw.pd (e7.mono x.sub)⟩
theorem src_items (hH : H a = some (.frz od (.dK kvs))) (n : ∀ p, a ∉ g.ow p) (p : PdKv Z.K g.F kvs ds) : Src Z g H (Iti a od kvs) (ds.map fun p => .tuple [p.1, p.2]) := fun g' H' x fh i => by
  have hq := frz_stay x hH n
  refine ⟨fun hl => ⟨hq, by rw [p.length]; simpa using hl⟩, fun d e => ?_⟩
  rw [List.getElem?_map] at e
  obtain ⟨q, e1, rfl⟩ := Option.map_eq_some_iff.mp e
  obtain ⟨k, v, e2, e3, e7⟩ := p.get e1
  refine ⟨⟨hq, (List.getElem?_eq_some_iff.mp e2).1⟩, fun z H'' ⟨b, k', v', e5, e6, e8, e9⟩ => ?_⟩
  rw [e2] at e5
  cases e5
  subst e6 e9
  exact ⟨_, Nw.tup fh e8 (.cons (by rw [e3]; exact pd_key k) (.cons (e7.mono x.sub) .nil))⟩
end
theorem Tm.plD {Z : Wd} {g0 g : Gh} {H0 H : Hp} {v : V} {d : D} (h : Tm Z g0 H0 g H v (.pl d)) : Pd Z.K g.F v d :=
  let ⟨_, ⟨a, _⟩, _⟩ := h
  Vw.pd ⟨_, a⟩
/-- what evaluating a frozen dict and locking it comes to -/
def LkQ (mk : Addr → Obj → List (Key × V) → L2.It) (R : L2.It → Hp → Prop) : V → Hp → Prop := fun v H1 => ∃ d kv, v = .ref d ∧ ((∃ o, H1 d = some (.frz o (.dK kv)) ∧ R (mk d o kv) H1) ∨ (H1 d = some (.dK kv) ∧ ∀ o, R (mk d o kv) (upd H1 d (.frz o (.dK kv)))))
section
variable {X : Cx} {Z : Wd} {P : Pm} {W : Exn → S → Prop} {a b tg : Expr} {ea eb : E} {pos p : Pos} {i : Nat} {x : Str} {m : Md}
theorem lkq_of {mk : Addr → Obj → List (Key × V) → L2.It} {items : List (D × D) → List D} (src : ∀ {g : Gh} {H : Hp} {a : Addr} {kvs : List (Key × V)} {ds : List (D × D)} {od : Obj}, H a = some (.frz od (.dK kvs)) → (∀ p, a ∉ g.ow p) → PdKv Z.K g.F kvs ds → Src Z g H (mk a od kvs) (items ds))
    {g g' : Gh} {H H' : Hp} {s' : S} {σ : L2.St} {v : V} {kvs : List (D × D)} {R : L2.It → Hp → Prop} (r : Rel Z g' s' σ H') (x : Ext g H g' H') (pd : Pd Z.K g'.F v (.dict kvs))
    (h : ∀ g' H' J, Rel Z g' s' σ H' → Ext g H g' H' → Src Z g' H' J (items kvs) → R J H') : LkQ mk R v H' := by
  cases pd with
  | dic hF pk =>
    rename_i d kv
    have no : ∀ p, d ∉ g'.ow p := fun p hp => by rw [(r.own p _ hp).1] at hF; cases hF
    rcases r.frz d _ hF with q | ⟨_, od, e, q⟩
    · refine ⟨d, kv, rfl, .inr ⟨q, fun o => ?_⟩⟩
      obtain ⟨r2, x2⟩ := r.lock (od := o) hF q
      exact h g' _ _ r2 (x.trans x2) (src upd_same no pk)
    · cases e
      exact ⟨d, kv, rfl, .inl ⟨od, q, h g' _ _ r x (src q no pk)⟩⟩
/-- a dict that is walked by its keys -/
theorem walkD_run (hZ : In X Z) (ha : PE X a (RdE Z P W ea m)) {pins : List (Addr × Obj)} {σ : L2.St} {s : Shared} {H : Hp} {R : L2.It → Hp → Prop} (I : Inv X pins σ H s) {g : Gh} {s0 : S} (r : Rel Z g s0 σ H)
    (h : (ev P ea m s0).sat (fun t s' => ∃ kvs, ∀ g' H' v, Rel Z g' s' σ H' → Ext g H g' H' → Kd Z g H g' H' σ m ea v t → Pd Z.K g'.F v (.dict kvs) ∧ ∀ g' H' J, Rel Z g' s' σ H' → Ext g H g' H' → Src Z g' H' J (kvs.map (·.1)) → R J H') W) :
    wpAny (model X.prog X.w) X.A (eval a X.env) (fun v s1 => wpAny (model X.prog X.w) X.A (pyIter v) (PIE X pins σ tg R) X.xe s1) X.xe s := by
  refine thn (ha.run pins s σ H (LkQ Itk R) I ⟨g, s0, r, h.imp fun t s' ⟨kvs, h⟩ g' H' v r' x' k' => lkq_of (items := fun ds => ds.map (·.1)) src_keys r' x' (h g' H' v r' x' k').1 (h g' H' v r' x' k').2⟩) fun u s1 ⟨x, H1, I1, rx, d, kv, ex, q⟩ => ?_
  subst ex
  obtain rfl : u = Value.ref d := rx
  rcases q with ⟨o, hd, q⟩ | ⟨hd, q⟩
  · obtain ⟨hs, hgd, hx, es, ep, vs, hdt, hsz, kv, hm⟩ := I1.frzK hd
    refine iter_keys hs hgd hx hdt (pi_one (tk := s1.toks) I1 _ (turn_keys _ hdt) ⟨_, Heap.get?_push_size _ rfl, rfl, ?_⟩ q)
    rw [hsz] <;> rfl
  · obtain ⟨od, I2⟩ := I1.lock hd True.intro
    obtain ⟨hs, hgd, hx, es, ep, vs, hdt, hsz, kv, hm⟩ := I2.frzK upd_same
    refine iter_keys hs hgd hx hdt (pi_one (tk := s1.toks) I2 _ (turn_keys _ hdt) ⟨_, Heap.get?_push_size _ rfl, rfl, ?_⟩ (q od))
    rw [hsz] <;> rfl
theorem rdi_items {elts : List Expr} {kk : Nat} {tpos apos cpos : Pos} (he : PE X a (RdE Z P W ea .e)) (hbase : attributeBase a "items" X.env (eval a X.env) = eval a X.env) (hline : (apos.endLine == cpos.line) = true) :
    PI X (.Tuple elts kk tpos) (.Call (.Attribute a "items" apos) [] [] cpos) (RdI Z P W (.items ea)) := by
  refine ⟨fun pins s σ H R I ⟨g, s0, r, h⟩ => ?_⟩
  unfold evI at h
  rw [sat_bd] at h
  refine wpAny_Call_method (T := "dict") (id := "dict.items") hbase rfl hline F.plainAttrs_dict F.slot_dict_items F.type_dict_items (thn (he.run pins s σ H (LkQ Iti R) I ?_) fun u s1 ⟨x, H1, I1, rx, d, kvs, ex, q⟩ => ?_)
  · refine rd_toD r h fun d s' g' H' v r' x' pd h' => ?_
    cases d with
    | dict kvs => exact lkq_of (items := fun ds => ds.map fun p => .tuple [p.1, p.2]) src_items r' x' pd fun g2 H2 J r2 x2 hJ => h' g2 H2 J r2 x2 rfl hJ
    | _ => exact h'.elim
  · subst ex
    obtain rfl : u = Value.ref d := rx
    obtain ⟨o, H2, I1, hd, q⟩ : ∃ o H2, Inv X pins σ H2 s1 ∧ H2 d = some (.frz o (.dK kvs)) ∧ R (Iti d o kvs) H2 := by
      rcases q with ⟨o, hd, q⟩ | ⟨hd, q⟩
      · exact ⟨o, H1, I1, hd, q⟩
      · obtain ⟨od, I2⟩ := I1.lock hd True.intro
        exact ⟨od, _, I2, upd_same, q od⟩
    obtain ⟨hs, hgd, hx, es, ep, vs, hdt, hsz, kv, hm⟩ := I1.frzK hd
    have hl : kvs.length = vs.length := Paired.length kv
    refine ⟨hm.dictOf.typeIs, hm.dictOf.mapOf.noDict, ?_⟩
    have I2 : Inv X pins σ H2 { s1 with heap := s1.heap.push { cls := .type "dict_items", data := .fields #[.ref d] } } := I1.kept (t' := s1.toks) fun b ob q => Heap.get?_push_of_some _ q
    have fin : wpAny (model X.prog X.w) X.A (pyIter (.ref s1.heap.objs.size)) (PIE X pins σ (.Tuple elts kk tpos) R) X.xe { s1 with heap := s1.heap.push { cls := .type "dict_items", data := .fields #[.ref d] } } := by
      refine wpAny_pyIter_items (d := d) (knd := mixKind X.prog X.w) ⟨_, Heap.get?_push_size _ rfl, rfl, rfl⟩ (hm.push _) (pi_one (tk := s1.toks) I2 _ (turn_items _ hdt) ⟨.none, .none, ?_⟩ q)
      rw [hl]
      exact Heap.get?_push_size _ rfl
    show wpAny _ _ (callWith cpos (.builtin "dict.items") [.ref d] [] []) _ X.xe s1
    exact method_meetsIn F.slot_dict_items F.entry_dict_items rfl (PySem.evalArgs_none ⟨rfl, hm.dictOf.typeIs, F.args_dict_items_1 _, _, meets_dict_items (mixKind X.prog X.w) d hs, ⟨vs, hm.dictOf⟩, fin⟩)
theorem rdi_own (hZ : In X Z) (hN : X.N[i]? = some x) (hv : Vis X.env.scope x) (hd : (x == ("__debug__" : Str)) = false) (hcd : (x == ("__classdict__" : Str)) = false) : PI X tg (.Name x p) (RdI Z P W (.own i)) :=
  ⟨fun pins s σ H R I ⟨g, s0, r, h⟩ => by
    unfold evI ownI at h
    split at h
    · rename_i ds e
      refine walk_run (P := P) (W := W) (m := .e) hZ (rd_var hN hv hd hcd) I r ?_
      unfold ev slot slotE
      rw [e]
      exact ⟨ds, rfl, fun g' H' v r' x' k' => ⟨(Kd.tm k').loose, fun J hJ => h g' H' J r' x' rfl hJ⟩⟩
    · rename_i kvs e
      refine walkD_run (P := P) (W := W) (m := .e) hZ (rd_var hN hv hd hcd) I r ?_
      unfold ev slot slotE
      rw [e]
      exact ⟨kvs, fun g' H' v r' x' k' => ⟨(Kd.tm k').plD, fun g2 H2 J r2 x2 hJ => h g2 H2 J r2 x2 rfl hJ⟩⟩
    · rename_i kvs e
      refine walkD_run (P := P) (W := W) (m := .e) hZ (rd_var hN hv hd hcd) I r ?_
      unfold ev slot slotE
      rw [e]
      exact ⟨kvs, fun g' H' v r' x' k' => ⟨(Kd.tm k').plD, fun g2 H2 J r2 x2 hJ => h g2 H2 J r2 x2 rfl hJ⟩⟩
    · rename_i t nt nd np e
      split at h
      · rename_i ds hw
        have hu : t ≠ .un := by rintro rfl; cases hw
        refine walk_run (P := P) (W := W) (m := .v) hZ (rd_var hN hv hd hcd) I r ?_
        have hsl : slotV i s0 = .ok t s0 := by
          unfold slotV
          rw [e]
          cases t <;> first | rfl | exact absurd rfl hu
        unfold ev slot
        rw [hsl]
        refine ⟨ds, hw, fun g' H' v r' x' k' => ⟨?_, fun J hJ => h g' H' J r' x' rfl hJ⟩⟩
        obtain ⟨v', e1, e2, e3⟩ := r'.pl e hu
        have e0 : σ[i]? = some (some v) := k'.1
        rw [e0] at e1
        cases e1
        have hc : g'.ow (.s i) = [] := by
          cases t <;> first | (cases hw; done) | skip
          · exact e2.noCs rfl
          · exact absurd rfl (nt _)
          all_goals
            generalize g'.ow (.s i) = cs at e2
            cases e2 <;> first | rfl | cases hw
        exact ⟨_, e2, (by rw [hc]; exact fun _ h => nomatch h), e3.imp (Sub.refl _) fun a ha => (r'.bor a ha).2⟩
      · exact h.elim
    · exact h.elim⟩
end
end EV
end PartEvDw
section PartEvAsg
set_option autoImplicit false
set_option linter.all false
set_option maxRecDepth 100000
/-! EvAsg: targets. -/
namespace EV
open PySem PySem.Spec PyProof.Rows L2
def Gh.put (g : Gh) (p : Ow) (cs : List Addr) : Gh := { g with ow := fun q => if q = p then cs else g.ow q }
theorem Gh.put_at {g : Gh} {p : Ow} {cs : List Addr} : (g.put p cs).ow p = cs := if_pos rfl
theorem Gh.put_ne {g : Gh} {p q : Ow} {cs : List Addr} (h : q ≠ p) : (g.put p cs).ow q = g.ow q := if_neg h
/-- the slots that stay -/
def Fx (fix : List Nat) (σ σ' : L2.St) : Prop := σ'.length = σ.length ∧ ∀ i, fix.contains i = true → σ'[i]? = σ[i]?
theorem Fx.refl {fix : List Nat} {σ : L2.St} : Fx fix σ σ := ⟨rfl, fun _ _ => rfl⟩
theorem Fx.trans {fix : List Nat} {σ σ1 σ2 : L2.St} (a : Fx fix σ σ1) (b : Fx fix σ1 σ2) : Fx fix σ σ2 := ⟨b.1.trans a.1, fun i h => (b.2 i h).trans (a.2 i h)⟩
section
variable {Z : Wd} {g ga : Gh} {s : S} {σ : L2.St} {H Ha : Hp} {v : V} {t : T} {i : Nat}
theorem slotOk_b (h : slotOk t = true) : isB t = false ∧ t ≠ .un := by
  cases t <;> first | (cases h; done) | exact ⟨rfl, fun z => nomatch z⟩
theorem Rel.asg (r : Rel Z g s σ H) (x : Ext ga Ha g H) (tm : Tm Z ga Ha g H v t) (hi : i < s.vs.length) (ok : slotOk t = true) :
    ∃ g', Rel Z g' { s with vs := s.vs.set i t } (σ.set i (some v)) H ∧ Ext ga Ha g' H ∧ g'.F = g.F := by
  obtain ⟨cs, ⟨h1, h2, h3, h4⟩, h5⟩ := tm
  obtain ⟨hb, hu⟩ := slotOk_b ok
  have hiσ : i < σ.length := by rw [← r.len]; exact hi
  have sne : ∀ {j : Nat}, i ≠ j → (Ow.s j) ≠ .s i := fun h z => by cases z; exact h rfl
  refine ⟨g.put (.s i) cs, ⟨by rw [List.length_set, List.length_set]; exact r.len, fun j u h => ?_, fun j h => ?_, r.glen, fun n o a q1 q2 => by rw [Gh.put_ne (by intro z; cases z)]; exact r.obj n o a q1 q2, fun n h => by rw [Gh.put_ne (by intro z; cases z)]; exact r.oemp n h, r.frz, fun p a h => ?_, fun p q a q1 q2 => ?_, fun p => ?_, fun a h => ⟨(r.bor a h).1, fun p hp => ?_⟩⟩, ⟨x.sub, x.γ, x.keep, fun p a h => ?_, x.frz, x.bo⟩, rfl⟩
  · have h : (s.vs.set i t)[j]? = some u := h
    by_cases e : i = j
    · subst e
      rw [List.getElem?_set_self hi] at h
      cases h
      exact .inr ⟨v, List.getElem?_set_self hiσ, by rw [Gh.put_at]; exact h1, Bo.no hb⟩
    · rw [List.getElem?_set_ne e] at h
      refine (r.slot j u h).imp_right fun ⟨w, e1, e2, e3⟩ => ⟨w, by rw [List.getElem?_set_ne e]; exact e1, ?_, e3⟩
      rw [Gh.put_ne (sne e)]; exact e2
  · by_cases e : i = j
    · subst e
      have h : (s.vs.set i t)[i]? = some .un ∨ (s.vs.set i t)[i]? = none := h
      rw [List.getElem?_set_self hi] at h
      rcases h with h | h
      · exact absurd (Option.some.inj h) hu
      · cases h
    · have h : (s.vs.set i t)[j]? = some .un ∨ (s.vs.set i t)[j]? = none := h
      rw [List.getElem?_set_ne e] at h
      rw [Gh.put_ne (sne e)]
      exact r.emp j h
  · by_cases e : p = .s i
    · subst e; rw [Gh.put_at] at h; exact ⟨(h3 a h).1, (h3 a h).2.1⟩
    · rw [Gh.put_ne e] at h; exact r.own p a h
  · by_cases e1 : p = .s i <;> by_cases e2 : q = .s i
    · rw [e1, e2]
    · subst e1; rw [Gh.put_at] at q1; rw [Gh.put_ne e2] at q2; exact absurd q2 ((h3 a q1).2.2.1 q)
    · subst e2; rw [Gh.put_at] at q2; rw [Gh.put_ne e1] at q1; exact absurd q1 ((h3 a q2).2.2.1 p)
    · rw [Gh.put_ne e1] at q1; rw [Gh.put_ne e2] at q2; exact r.dis p q a q1 q2
  · by_cases e : p = .s i
    · subst e; rw [Gh.put_at]; exact h2
    · rw [Gh.put_ne e]; exact r.nd p
  · by_cases e : p = .s i
    · subst e; rw [Gh.put_at] at hp; exact (h3 a hp).2.2.2 h
    · rw [Gh.put_ne e] at hp; exact (r.bor a h).2 p hp
  · by_cases e : p = .s i
    · subst e; rw [Gh.put_at] at h; exact h5 a h
    · rw [Gh.put_ne e] at h; exact x.own p a h
theorem Fx.set {fix : List Nat} (h : fix.contains i = false) : Fx fix σ (σ.set i (some v)) := ⟨List.length_set, fun j hj => by
  have : i ≠ j := fun e => by subst e; rw [h] at hj; cases hj
  rw [List.getElem?_set_ne this]⟩
end
/-- a target, as the interpreter reads it -/
def RdG (Z : Wd) (fix : List Nat) (W : Exn → S → Prop) (gt : G) : TG := fun v σ H Q => ∃ ga Ha g s t, Rel Z g s σ H ∧ Ext ga Ha g H ∧ Tm Z ga Ha g H v t ∧
  (asgG fix gt t s).sat (fun _ s' => ∀ g' σ' H', Rel Z g' s' σ' H' → Ext ga Ha g' H' → Sub g.F g'.F → Fx fix σ σ' → Q σ' H') W
def RdGs (Z : Wd) (fix : List Nat) (W : Exn → S → Prop) (gs : List G) : TGs := fun vs σ H Q => ∃ ga Ha g s ds, Rel Z g s σ H ∧ Ext ga Ha g H ∧ PdAll Z.K g.F vs ds ∧ ds.length = gs.length ∧
  (asgGs fix gs (ds.map .pl) s).sat (fun _ s' => ∀ g' σ' H', Rel Z g' s' σ' H' → Ext ga Ha g' H' → Sub g.F g'.F → Fx fix σ σ' → Q σ' H') W
theorem PG.imp {X : Cx} {e : Expr} {t t' : TG} (h : PG X e t) (k : ∀ v σ H Q, t' v σ H Q → t v σ H Q) : PG X e t' := ⟨fun pins s σ H v u Q I r q => h.run pins s σ H v u Q I r (k _ _ _ _ q)⟩
theorem PGs.imp {X : Cx} {e : List Expr} {t t' : TGs} (h : PGs X e t) (k : ∀ v σ H Q, t' v σ H Q → t v σ H Q) : PGs X e t' := ⟨fun pins s σ H v u Q I r q => h.run pins s σ H v u Q I r (k _ _ _ _ q)⟩
section
variable {X : Cx} {Z : Wd} {W : Exn → S → Prop} {fix : List Nat} {i k : Nat} {x : Str} {pos : Pos} {gs : List G} {es : List Expr} {e : Expr} {gt : G}
theorem asgN_ok {t : T} {s : S} {K : Unit → S → Prop} (h : (asgN fix i t s).sat K W) : fix.contains i = false ∧ slotOk t = true ∧ i < s.vs.length ∧ K () { s with vs := s.vs.set i t } := by
  unfold asgN at h
  split at h
  · exact h.elim
  · rename_i hn
    simp only [Bool.or_eq_true, Bool.not_eq_true', decide_eq_true_eq, not_or, Bool.not_eq_true, Bool.not_eq_false] at hn
    exact ⟨hn.1.1, hn.1.2, by omega, h⟩
theorem rg_name (hN : X.N.Nodup) (hi : X.N[i]? = some x) (hx : Loc X.env.scope x) (hf : X.fn x = true ∨ X.env.scope.names.lookup x = some .local) : PG X (.Name x pos) (RdG Z fix W (.nm i)) :=
  PG.imp (pg_name hN hi hx hf) fun v σ H Q ⟨ga, Ha, g, s, t, r, x, tm, h⟩ => by
    unfold asgG at h
    obtain ⟨h1, h2, h3, h4⟩ := asgN_ok h
    obtain ⟨g', r', x', eF⟩ := r.asg x tm h3 h2
    exact h4 g' _ H r' x' (by rw [eF]; exact Sub.refl _) (Fx.set h1)
theorem assignEach_cons {e : Expr} {es : List Expr} {env : Env} (h : noStar e = true) : assignEach (e :: es) env = (false, assign e env) :: assignEach es env := by
  cases e <;> first | rfl | cases h
theorem assignEach_len {env : Env} : ∀ {es : List Expr}, es.all noStar = true → (assignEach es env).length = es.length ∧ (assignEach es env).findIdx? (·.1) = none
  | [], _ => ⟨rfl, rfl⟩
  | e :: es, h => by
    rw [List.all_cons, Bool.and_eq_true] at h
    obtain ⟨h1, h2⟩ := assignEach_len (env := env) h.2
    rw [assignEach_cons h.1]
    refine ⟨by rw [List.length_cons, List.length_cons, h1], ?_⟩
    rw [List.findIdx?_cons]
    simp only [Bool.false_eq_true, if_false, h2, Option.map_none]
theorem rgs_nil : PGs X [] (RdGs Z fix W []) := PGs.imp pgs_nil fun vs σ H Q ⟨ga, Ha, g, s, ds, r, x, pd, hl, h⟩ => by
  have : ds = [] := List.eq_nil_of_length_eq_zero hl
  subst this
  cases pd
  unfold asgGs at h
  exact ⟨rfl, h g σ H r x (Sub.refl _) Fx.refl⟩
theorem rgs_cons (h1 : PG X e (RdG Z fix W gt)) (h2 : PGs X es (RdGs Z fix W gs)) (hs : noStar e = true) : PGs X (e :: es) (RdGs Z fix W (gt :: gs)) :=
  PGs.imp (pgs_cons h1 h2 (by rw [assignEach_cons hs]; rfl)) fun vs σ H Q ⟨ga, Ha, g, s, ds, r, x, pd, hl, h⟩ => by
    cases pd with
    | nil => cases hl
    | cons a rr =>
      rw [List.map_cons] at h
      unfold asgGs at h
      rw [sat_bd] at h
      refine ⟨_, _, rfl, ga, Ha, g, s, _, r, x, Tm.pl a, h.imp fun _ s1 h1 g1 σ1 H1 r1 x1 sb f1 => ?_⟩
      exact ⟨ga, Ha, g1, s1, _, r1, x1, rr.mono sb, by simpa using hl, h1.imp fun _ s2 h2 g2 σ2 H2 r2 x2 sb2 f2 => h2 g2 σ2 H2 r2 x2 (sb.trans sb2) (f1.trans f2)⟩
theorem rg_tup (hc : X.calm = true) (hK : X.K = Z.K) (h : PGs X es (RdGs Z fix W gs)) (hl : es.length = gs.length) (hs : es.all noStar = true) : PG X (.Tuple es k pos) (RdG Z fix W (.tp gs)) :=
  PG.imp (pg_tup (n := es.length) hc h (assignEach_len hs).1 (assignEach_len hs).2) fun v σ H Q ⟨ga, Ha, g, s, t, r, x, tm, h⟩ => by
    unfold asgG at h
    split at h
    · rename_i ds
      split at h
      · rename_i hd
        obtain ⟨a, xs, rfl, hq, pd⟩ := (tm.vw.lk rfl).seqT r.frz
        exact ⟨a, xs, rfl, by rw [hK]; exact hq, by rw [pd.length, hd, hl], ga, Ha, g, s, ds, r, x, pd, hd, h⟩
      · exact h.elim
    · exact h.elim
end
end EV
end PartEvAsg
section PartEvStar
set_option autoImplicit false
set_option linter.all false
set_option maxRecDepth 100000
/-! EvStar: a, b, *rest = a tuple. -/
namespace EV
open PySem PySem.Spec PyProof.Rows L2
section
variable {X : Cx} {Z : Wd} {W : Exn → S → Prop} {fix : List Nat} {i k : Nat} {x : Str} {pos pos' : Pos} {gs : List G} {es : List Expr} {e : Expr} {gt : G}
/-- the tuple's first things, and a new list of the others -/
def gStar (K : PySem.W.Frag) (n : Nat) (t : TGs) : TG := fun v σ H Q => ∃ a xs, v = .ref a ∧ SqT K H a xs ∧ n ≤ xs.length ∧ ∀ p, H p = none → t (xs.take n ++ [.ref p]) σ (upd H p (.lst (xs.drop n))) Q
theorem vals_take {xs : List V} {us : List Value} (h : Vals xs us) (n : Nat) : Vals (xs.take n) (us.take n) ∧ Vals (xs.drop n) (us.drop n) := by
  induction h generalizing n with
  | nil => rw [List.take_nil, List.drop_nil, List.take_nil, List.drop_nil]; exact And.intro .nil .nil
  | cons a r ih =>
    cases n with
    | zero => exact And.intro .nil (.cons a r)
    | succ n => exact And.intro (.cons a (ih n).1) (ih n).2
theorem vals_append {xs ys : List V} {us ws : List Value} (h : Vals xs us) (h' : Vals ys ws) : Vals (xs ++ ys) (us ++ ws) := by
  induction h with
  | nil => exact h'
  | cons a r ih => exact .cons a ih
theorem pg_star {t : TGs} {n : Nat} (hc : X.calm = true) (h : PGs X es t) (hn : (assignEach es X.env).length = n + 1) (hst : (assignEach es X.env).findIdx? (·.1) = some n) : PG X (.Tuple es k pos) (gStar X.K n t) := by
  refine ⟨fun pins s σ H v u Q I r hw => ?_⟩
  obtain ⟨l, xs, e1, hq, hl, hw⟩ := hw
  subst e1
  cases r
  obtain ⟨its, rv, ht, hz⟩ := I.tuple hq
  have hh := I.ok.hd hc
  have hlen := rv.length
  rw [PyProof.Rows.assign_Tuple]
  refine wpAny_bind (wpAny_standAt ?_)
  unfold unpack
  rw [hn, hst]
  refine wpAny_bind (wpAny_holding ?_)
  have hlt : l ≠ s.heap.objs.size := by obtain ⟨o, ho, _⟩ := ht; exact Nat.ne_of_lt (Heap.lt_size ho)
  have hll : l < s.heap.objs.size := by obtain ⟨o, ho, _⟩ := ht; exact Heap.lt_size ho
  unfold unpackItems
  refine wpAny_bind ?_
  unfold notIterableAtAll
  refine wpAny_bind (wpAny_specialOf ht.typeIs slot_tuple_iter.lookup ?_)
  refine wpAny_pure ?_
  simp only [Bool.false_eq_true, if_false]
  refine wpAny_bind (wpAny_holding (iter_tuple ht ?_))
  refine wpAny_bind (wpAny_holding (draw_tuple hlt n 0 _ _ ⟨_, Heap.get?_push_size _ rfl, rfl, rfl⟩ (ht.push _) (by simp; omega) fun h₁ hit₁ hs₁ => ?_))
  have hl₁ : IsTup h₁ l its.toArray := (ht.push _).extBut hs₁.extBut hlt
  rw [Nat.zero_add] at hit₁
  have hit₁' := hit₁
  obtain ⟨oi, hoi, _⟩ := hit₁'
  have hl₁' := hl₁
  obtain ⟨ol, hol, _⟩ := hl₁'
  rw [List.drop_zero]
  have hfl : (its.toArray.toList.take n).length = n := by rw [List.length_take]; simp; omega
  rw [if_neg (show ¬ ((its.toArray.toList.take n).length < n) by rw [hfl]; omega)]
  refine wpAny_bind (wpAny_holding (PySem.W.kun_collect (s := { s with heap := h₁ }) (T := "tuple_iterator") (.inr (.inr (.inr rfl))) (Walks.tuple (A := X.A.in1) hh s.heap.objs.size l hlt its.toArray) (fun j u st => st.1.typeIs) (k := n) (by simp; omega) ⟨hit₁, hl₁⟩ (Heap.lt_size hoi) (Heap.lt_size hol) (fun h₂ tk hk => ?_) (by simp; omega)))
  have hrl : (its.toArray.toList.drop n).length = its.length - n := by rw [List.length_drop]
  show wpAny _ _ (if (its.toArray.toList.drop n).length < n + 1 - 1 - n then _ else _) _ _ _
  rw [if_neg (by omega)]
  show wpAny _ _ (newList ((its.toArray.toList.drop n).take ((its.toArray.toList.drop n).length - (n + 1 - 1 - n))) >>= fun d => pure (its.toArray.toList.take n ++ [d] ++ (its.toArray.toList.drop n).drop ((its.toArray.toList.drop n).length - (n + 1 - 1 - n)))) _ _ _
  rw [show (its.toArray.toList.drop n).length - (n + 1 - 1 - n) = (its.toArray.toList.drop n).length by omega, List.take_length, List.drop_length]
  have he : ∀ b o, s.heap.get? b = some o → h₂.get? b = some o := fun b o e => hk b o (Nat.ne_of_lt (Heap.lt_size e)) (hs₁.extBut b o (Nat.ne_of_lt (Heap.lt_size e)) (Heap.get?_push_of_some _ e))
  have I1 : Inv X pins σ H { s with heap := h₂, toks := tk } := I.kept (t' := tk) he
  refine wpAny_bind (wpAny_newList (wpAny_pure ?_) (by rw [hrl]; omega))
  have I2 : Inv X pins σ (upd H h₂.objs.size (.lst (xs.drop n))) { s with heap := h₂.push { cls := .type "list", data := .seq (its.drop n).toArray }, toks := tk } :=
    I1.laid (t' := tk) (fun b o e => Heap.get?_push_of_some _ e) (Nat.le_refl _) (show ObjOk X.prog X.w _ _ _ (.lst (xs.drop n)) from ⟨by rw [List.length_drop]; omega, its.drop n, 0, (vals_take rv n).2, Heap.get?_push_size _ rfl⟩)
  rw [List.append_nil]
  refine h.run pins _ σ _ (xs.take n ++ [.ref h₂.objs.size]) _ Q I2 (vals_append (by simpa using (vals_take rv n).1) (.cons (show RelV (.ref h₂.objs.size) (.ref h₂.objs.size) from rfl) .nil)) (hw _ (I1.hok.fresh (Nat.le_refl _)))
theorem pgs_starred {t : TG} (h1 : PG X e t) : PGs X [.Starred e pos'] (gCons t gNil) := by
  refine ⟨fun pins s σ H vs us Q I r h => ?_⟩
  obtain ⟨v, vr, e1, h⟩ := h
  subst e1
  cases r with
  | cons r rr =>
    show wpAny _ _ (assignInOrder [assign e X.env] _) _ _ _
    refine assignInOrder_cons (thn (h1.run pins s σ H _ _ _ I r h) fun _ s1 ⟨σ1, H1, I1, q1⟩ => ?_)
    exact (pgs_nil (X := X)).run pins s1 σ1 H1 _ _ Q I1 rr q1
/-- plain things, and a thing at hand -/
def RdGS (Z : Wd) (fix : List Nat) (W : Exn → S → Prop) (gs : List G) (i : Nat) : TGs := fun vs σ H Q => ∃ ga Ha g s ds xs v t, vs = xs ++ [v] ∧ Rel Z g s σ H ∧ Ext ga Ha g H ∧ PdAll Z.K g.F xs ds ∧ ds.length = gs.length ∧ Tm Z ga Ha g H v t ∧
  ((asgGs fix gs (ds.map .pl) s).bd fun _ s => asgN fix i t s).sat (fun _ s' => ∀ g' σ' H', Rel Z g' s' σ' H' → Ext ga Ha g' H' → Sub g.F g'.F → Fx fix σ σ' → Q σ' H') W
theorem rgS_nil (h1 : PG X e (RdG Z fix W (.nm i))) : PGs X [.Starred e pos'] (RdGS Z fix W [] i) := PGs.imp (pgs_starred h1) fun vs σ H Q ⟨ga, Ha, g, s, ds, xs, v, t, ev, r, x, pd, hl, tm, h⟩ => by
  have : ds = [] := List.eq_nil_of_length_eq_zero hl
  subst this
  cases pd
  subst ev
  rw [sat_bd, List.map_nil] at h
  unfold asgGs at h
  exact ⟨v, [], rfl, ga, Ha, g, s, t, r, x, tm, by unfold asgG; exact Res.sat.imp h fun _ s' h g' σ' H' r' x' sb f => ⟨rfl, h g' σ' H' r' x' sb f⟩⟩
theorem rgS_cons (h1 : PG X e (RdG Z fix W gt)) (h2 : PGs X es (RdGS Z fix W gs i)) (hs : noStar e = true) : PGs X (e :: es) (RdGS Z fix W (gt :: gs) i) :=
  PGs.imp (pgs_cons h1 h2 (by rw [assignEach_cons hs]; rfl)) fun vs σ H Q ⟨ga, Ha, g, s, ds, xs, v, t, ev, r, x, pd, hl, tm, h⟩ => by
    subst ev
    cases pd with
    | nil => cases hl
    | cons a rr =>
      rw [List.map_cons] at h
      unfold asgGs at h
      rw [sat_bd, sat_bd] at h
      refine ⟨_, _, rfl, g, H, g, s, _, r, Ext.refl _ _, Tm.pl a, h.imp fun _ s1 h1 g1 σ1 H1 r1 x1 sb f1 => ?_⟩
      refine ⟨ga, Ha, g1, s1, _, _, v, t, rfl, r1, x.trans x1, rr.mono sb, by simpa using hl, tm.ext x1, ?_⟩
      rw [sat_bd]
      exact h1.imp fun _ s2 h2 => h2.imp fun _ s3 h3 g3 σ3 H3 r3 x3 sb3 f3 => h3 g3 σ3 H3 r3 x3 (sb.trans sb3) (f1.trans f3)
theorem starN_len {env : Env} : ∀ {gs : List G} {es : List Expr}, (es.take gs.length).all noStar = true → es.length = gs.length + 1 → (∃ y p, es.drop gs.length = [.Starred y p]) → (assignEach es env).length = gs.length + 1 ∧ (assignEach es env).findIdx? (·.1) = some gs.length
  | [], es, _, _, ⟨y, p, e⟩ => by
    rw [show es = [.Starred y p] from e]
    exact ⟨rfl, rfl⟩
  | g :: gs, [], _, h, _ => by cases h
  | g :: gs, e :: es, h, hl, he => by
    rw [List.length_cons, List.take_succ_cons, List.all_cons, Bool.and_eq_true] at h
    obtain ⟨h1, h2⟩ := starN_len (env := env) h.2 (by simpa using hl) (by simpa using he)
    rw [assignEach_cons h.1]
    refine ⟨by rw [List.length_cons, List.length_cons, h1], ?_⟩
    rw [List.findIdx?_cons]
    simp only [Bool.false_eq_true, if_false, h2, Option.map_some, List.length_cons]
theorem pdAll_take {K : PySem.W.Frag} {F : Hp} {xs : List V} {ds : List D} (h : PdAll K F xs ds) (n : Nat) : PdAll K F (xs.take n) (ds.take n) ∧ PdAll K F (xs.drop n) (ds.drop n) := by
  induction xs generalizing ds n with
  | nil => cases h; rw [List.take_nil, List.drop_nil, List.take_nil, List.drop_nil]; exact And.intro .nil .nil
  | cons v xs ih =>
    cases h with
    | cons a r =>
      cases n with
      | zero => exact And.intro .nil (.cons a r)
      | succ n => exact And.intro (.cons a (ih r n).1) (ih r n).2
theorem rg_star (hc : X.calm = true) (hK : X.K = Z.K) (h : PGs X es (RdGS Z fix W gs i)) (hl : es.length = gs.length + 1) (hs : (es.take gs.length).all noStar = true) (hd : ∃ y p, es.drop gs.length = [.Starred y p]) : PG X (.Tuple es k pos) (RdG Z fix W (.tps gs i [])) :=
  PG.imp (pg_star (n := gs.length) hc h (starN_len hs hl hd).1 (starN_len hs hl hd).2) fun v σ H Q ⟨ga, Ha, g, s, t, r, x, tm, h⟩ => by
    unfold asgG at h
    split at h
    · rename_i ds
      split at h
      · rename_i hd
        obtain ⟨a, xs, rfl, hq, pd⟩ := (tm.vw.lk rfl).seqT r.frz
        refine ⟨a, xs, rfl, by rw [hK]; exact hq, by rw [pd.length]; simpa using hd, fun p hp => ?_⟩
        obtain ⟨r', x', tm'⟩ := r.newT (Nw.lst r.frz hp (pdAll_take pd gs.length).2)
        refine ⟨ga, Ha, _, s, _, _, _, _, rfl, r', x.trans x', (pdAll_take pd gs.length).1, by rw [List.length_take]; simp at hd; omega, tm'.pre x, ?_⟩
        rw [sat_bd] at h ⊢
        refine h.imp fun _ s1 h => ?_
        rw [sat_bd] at h
        simp only [List.length_nil, Nat.sub_zero, List.drop_length, List.map_nil] at h
        rw [List.take_of_length_le (by rw [List.length_drop]; omega)] at h
        refine h.imp fun _ s2 h => ?_
        unfold asgGs at h
        exact fun g' σ' H' r' x' sb f => h g' σ' H' r' x' sb f
      · exact h.elim
    · exact h.elim
end
end EV
end PartEvStar
section PartEvSt
set_option autoImplicit false
set_option linter.all false
set_option maxRecDepth 100000
/-! EvSt: statements. -/
namespace EV
open PySem PySem.Spec PyProof.Rows L2
/-- how a statement ended, as is wanted -/
def EndF (Z : Wd) (g : Gh) (H : Hp) (g' : Gh) (H' : Hp) (D : Ends) (σ' : L2.St) : Fl → Prop
  | .nx => D.nx σ' H'
  | .br => D.bk σ' H'
  | .ct => D.ct σ' H'
  | .rt t => ∀ v, Tm Z g H g' H' v t → D.rt v H'
def RdS (Z : Wd) (P : Pm) (W : Exn → S → Prop) (c : C) : TS := fun D σ H => ∃ g s, Rel Z g s σ H ∧
  (exC P c s).sat (fun f s' => ∀ g' σ' H', Rel Z g' s' σ' H' → Ext g H g' H' → Fx P.fix σ σ' → EndF Z g H g' H' D σ' f) W
def RdSs (Z : Wd) (P : Pm) (W : Exn → S → Prop) (cs : List C) : TS := fun D σ H => ∃ g s, Rel Z g s σ H ∧
  (exCs P cs s).sat (fun f s' => ∀ g' σ' H', Rel Z g' s' σ' H' → Ext g H g' H' → Fx P.fix σ σ' → EndF Z g H g' H' D σ' f) W
section
variable {X : Cx} {Z : Wd} {P : Pm} {W : Exn → S → Prop} {a b : Expr} {ea eb : E} {st : Stmt} {sts sts' : List Stmt} {c : C} {cs cs' : List C} {pos p : Pos} {i : Nat} {x : Str}
theorem EndF.pre {g0 g g' : Gh} {H0 H H' : Hp} {D : Ends} {σ' : L2.St} {f : Fl} (x : Ext g0 H0 g H) (h : EndF Z g0 H0 g' H' D σ' f) : EndF Z g H g' H' D σ' f := by
  cases f with
  | rt t => exact fun v tm => h v (tm.pre x)
  | _ => exact h
theorem rs_nil : PSs X [] (RdSs Z P W []) := pss_nil.imp fun D σ H ⟨g, s, r, h⟩ => by
  unfold exCs at h
  exact h g σ H r (Ext.refl _ _) Fx.refl
theorem rs_cons (h1 : PS X st (RdS Z P W c)) (h2 : PSs X sts (RdSs Z P W cs)) : PSs X (st :: sts) (RdSs Z P W (c :: cs)) :=
  (pss_cons h1 h2).imp fun D σ H ⟨g, s, r, h⟩ => by
    unfold exCs at h
    rw [sat_bd] at h
    refine ⟨g, s, r, h.imp fun f s1 h1 g1 σ1 H1 r1 x1 f1 => ?_⟩
    cases f with
    | nx => exact ⟨g1, s1, r1, h1.imp fun f s2 h2 g2 σ2 H2 r2 x2 f2 => (h2 g2 σ2 H2 r2 (x1.trans x2) (f1.trans f2)).pre x1⟩
    | br => exact h1 g1 σ1 H1 r1 x1 f1
    | ct => exact h1 g1 σ1 H1 r1 x1 f1
    | rt t => exact h1 g1 σ1 H1 r1 x1 f1
theorem rs_pass : PS X (.Pass pos) (RdS Z P W .pas) := ps_pass.imp fun D σ H ⟨g, s, r, h⟩ => h g σ H r (Ext.refl _ _) Fx.refl
theorem rs_break : PS X (.Break pos) (RdS Z P W .brk) := ps_break.imp fun D σ H ⟨g, s, r, h⟩ => h g σ H r (Ext.refl _ _) Fx.refl
theorem rs_cont : PS X (.Continue pos) (RdS Z P W .cnt) := ps_continue.imp fun D σ H ⟨g, s, r, h⟩ => h g σ H r (Ext.refl _ _) Fx.refl
theorem rs_exp (ha : PE X a (RdE Z P W ea .e)) (hc : noComp a = true) : PS X (.Expr a pos) (RdS Z P W (.exp ea)) :=
  (ps_expr ha (noSwap hc)).imp fun D σ H ⟨g, s, r, h⟩ => by
    unfold exC at h
    rw [sat_bd] at h
    exact ⟨g, s, r, h.imp fun t s1 h1 g1 H1 v r1 x1 k1 => h1 g1 σ H1 r1 x1 Fx.refl⟩
theorem rs_ret (ha : PE X a (RdE Z P W ea .r)) : PS X (.Return (some a) pos) (RdS Z P W (.ret ea)) :=
  (ps_ret ha).imp fun D σ H ⟨g, s, r, h⟩ => by
    unfold exC at h
    rw [sat_bd] at h
    exact ⟨g, s, r, h.imp fun t s1 h1 g1 H1 v r1 x1 k1 => h1 g1 σ H1 r1 x1 Fx.refl v k1⟩
theorem rs_retN : PS X (.Return none pos) (RdS Z P W (.ret (.lit .none))) :=
  ps_retN.imp fun D σ H ⟨g, s, r, h⟩ => by
    unfold exC ev at h
    exact h g σ H r (Ext.refl _ _) Fx.refl .non (Tm.pl .non)
theorem rs_if {c : Expr} {ec : E} (hc : PT X c (RdT Z P W ec)) (ha : PSs X sts (RdSs Z P W cs)) (hb : PSs X sts' (RdSs Z P W cs')) : PS X (.If c sts sts' pos) (RdS Z P W (.ite ec cs cs')) :=
  (ps_if hc ha hb).imp fun D σ H ⟨g, s, r, h⟩ => by
    unfold exC at h
    rw [sat_bd] at h
    refine rdt_toB r h fun b s1 g1 H1 r1 x1 h1 => ?_
    cases b with
    | true =>
      simp only [if_true] at h1 ⊢
      exact ⟨g1, s1, r1, h1.imp fun f s2 h2 g2 σ2 H2 r2 x2 f2 => (h2 g2 σ2 H2 r2 (x1.trans x2) f2).pre x1⟩
    | false =>
      simp only [Bool.false_eq_true, if_false] at h1 ⊢
      exact ⟨g1, s1, r1, h1.imp fun f s2 h2 g2 σ2 H2 r2 x2 f2 => (h2 g2 σ2 H2 r2 (x1.trans x2) f2).pre x1⟩
theorem asg_core {te : TE} {g : TG} {gt : G} {D : Ends} {σ : L2.St} {H : Hp} (h : RdS Z P W (.asg gt ea) D σ H) : tAsg (RdE Z P W ea .e) (RdG Z P.fix W gt) D σ H := by
  obtain ⟨g, s, r, h⟩ := h
  unfold exC at h
  rw [sat_bd] at h
  refine ⟨g, s, r, h.imp fun t s1 h1 g1 H1 v r1 x1 k1 => ?_⟩
  rw [sat_bd] at h1
  exact ⟨g, H, g1, s1, t, r1, x1, k1, h1.imp fun _ s2 h2 g2 σ2 H2 r2 x2 _ f2 => h2 g2 σ2 H2 r2 x2 f2⟩
theorem rs_asgN {px : Pos} (hN : X.N.Nodup) (hi : X.N[i]? = some x) (hx : Loc X.env.scope x) (hf : X.fn x = true ∨ X.env.scope.names.lookup x = some .local) (ha : PE X a (RdE Z P W ea .e)) (hs : swapsWith a (some (.Name x px)) pos.line X.env = pure false) :
    PS X (.Assign [.Name x px] a pos) (RdS Z P W (.asg (.nm i) ea)) :=
  (ps_asg ha (rg_name (W := W) (fix := P.fix) hN hi hx hf) hs rfl rfl).imp fun D σ H h => asg_core (te := fun _ _ _ => True) (g := fun _ _ _ _ => True) h
theorem noSwapSole {t a : Expr} {n : Nat} {env : Env} (h : noComp a = true) : swapsWithSole [t] a n env = pure false := noSwap h
theorem rs_asgT {es : List Expr} {k : Nat} {px : Pos} {gt : G} (hg : PG X (.Tuple es k px) (RdG Z P.fix W gt)) (ha : PE X a (RdE Z P W ea .e)) (hs : noComp a = true) (hw : swappedStores [.Tuple es k px] a X.env = pure none) :
    PS X (.Assign [.Tuple es k px] a pos) (RdS Z P W (.asg gt ea)) :=
  (ps_asg ha hg (noSwapSole hs) hw rfl).imp fun D σ H h => asg_core (te := fun _ _ _ => True) (g := fun _ _ _ _ => True) h
/-! ### while -/
theorem rs_while {c : Expr} {ec : E} (hp : PassesOwn (model X.prog X.w) X.A X.env X.xe) (hc : PT X c (RdT Z P W ec)) (hb : PSs X sts (RdSs Z P W cs)) : PS X (.While c sts [] pos) (RdS Z P W (.whl ec cs)) :=
  (ps_while hp hc hb).imp fun D σ H ⟨g, s, r, h⟩ => by
    unfold exC at h
    refine ⟨fun n σ1 H1 => ∃ g1 s1, Rel Z g1 s1 σ1 H1 ∧ Ext g H g1 H1 ∧ Fx P.fix σ σ1 ∧ (whlL (fun s => toB (ev P ec .e s)) (exCs P cs) n s1).sat (fun f s' => ∀ g' σ' H', Rel Z g' s' σ' H' → Ext g H g' H' → Fx P.fix σ σ' → EndF Z g H g' H' D σ' f) W,
      ⟨P.fuel, g, s, r, Ext.refl _ _, Fx.refl, h⟩, fun m σ1 H1 ⟨g1, s1, r1, x1, f1, h1⟩ => ?_⟩
    cases m with
    | zero => exact h1.elim
    | succ n =>
      unfold whlL at h1
      rw [sat_bd] at h1
      refine rdt_toB r1 h1 fun b s2 g2 H2 r2 x2 h2 => ?_
      cases b with
      | false =>
        simp only [Bool.false_eq_true, if_false] at h2 ⊢
        exact h2 g2 σ1 H2 r2 (x1.trans x2) f1
      | true =>
        simp only [if_true] at h2 ⊢
        rw [sat_bd] at h2
        have x12 := x1.trans x2
        refine ⟨fun σ' H' => ∃ g1 s1, Rel Z g1 s1 σ' H' ∧ Ext g H g1 H' ∧ Fx P.fix σ σ' ∧ (whlL (fun s => toB (ev P ec .e s)) (exCs P cs) n s1).sat (fun f s' => ∀ g' σ' H', Rel Z g' s' σ' H' → Ext g H g' H' → Fx P.fix σ σ' → EndF Z g H g' H' D σ' f) W,
          fun σ' H' k => ⟨n, Nat.lt_succ_self _, k⟩, g2, s2, r2, h2.imp fun f s3 h3 g3 σ3 H3 r3 x3 f3 => ?_⟩
        have x13 := x12.trans x3
        have f13 := f1.trans f3
        cases f with
        | nx => exact ⟨g3, s3, r3, x13, f13, h3⟩
        | ct => exact ⟨g3, s3, r3, x13, f13, h3⟩
        | br => exact h3 g3 σ3 H3 r3 x13 f13
        | rt t => exact fun v tm => h3 g3 σ3 H3 r3 x13 f13 v (tm.pre x12)
/-! ### for -/
theorem fixR_none {fix : List Nat} : fixR none fix = fix := rfl
theorem ended_none {r : Res Fl} : ended none r = r := by cases r <;> rfl
theorem rs_for {it : EV.It} {gt : G} {tg iter : Expr} (hp : PassesOwn (model X.prog X.w) X.A X.env X.xe) (hc : X.calm = true) (hi : PI X tg iter (RdI Z P W it)) (hg : PG X tg (RdG Z P.fix W gt)) (hb : PSs X sts (RdSs Z P W cs))
    (hs : ∀ x, foldedSetIterable iter X.env x = pure x) : PS X (.For tg iter sts [] pos) (RdS Z P W (.for gt it cs)) :=
  (ps_for hp hc hi hg hb hs).imp fun D σ H ⟨g, s, r, h⟩ => by
    unfold exC at h
    rw [sat_bd] at h
    refine ⟨g, s, r, h.imp fun p s0 h0 g0 H0 J r0 x0 hn src => ?_⟩
    obtain ⟨ds, q⟩ := p
    obtain rfl : q = none := hn
    have src : Src Z g0 H0 J ds := src
    simp only [ended_none, fixR_none] at h0
    have h0 : (forL P.fix gt (exCs P cs) ds s0).sat (fun f s' => ∀ g' σ' H', Rel Z g' s' σ' H' → Ext g H g' H' → Fx P.fix σ σ' → EndF Z g H g' H' D σ' f) W := h0
    refine ⟨fun i m σ1 H1 => m = ds.length - i ∧ ∃ g1 s1, Rel Z g1 s1 σ1 H1 ∧ Ext g0 H0 g1 H1 ∧ Fx P.fix σ σ1 ∧ (forL P.fix gt (exCs P cs) (ds.drop i) s1).sat (fun f s' => ∀ g' σ' H', Rel Z g' s' σ' H' → Ext g H g' H' → Fx P.fix σ σ' → EndF Z g H g' H' D σ' f) W,
      ⟨ds.length, rfl, g0, s0, r0, Ext.refl _ _, Fx.refl, h0⟩, fun i m σ1 H1 ⟨em, g1, s1, r1, x1, f1, h1⟩ => ?_⟩
    have xx := x0.trans x1
    obtain ⟨st, tk⟩ := src g1 H1 x1 r1.frz i
    by_cases hl : ds.length ≤ i
    · refine .inl ⟨st hl, ?_⟩
      rw [List.drop_eq_nil_of_le hl] at h1
      exact h1 g1 σ1 H1 r1 xx f1
    · have hl : i < ds.length := Nat.lt_of_not_le hl
      obtain ⟨go, yl⟩ := tk ds[i] (List.getElem?_eq_getElem hl)
      rw [List.drop_eq_getElem_cons hl] at h1
      unfold forL at h1
      rw [sat_bd] at h1
      refine .inr ⟨go, fun σ' H' => ∃ g1 s1, Rel Z g1 s1 σ' H' ∧ Ext g0 H0 g1 H' ∧ Fx P.fix σ σ' ∧ (forL P.fix gt (exCs P cs) (ds.drop (i + 1)) s1).sat (fun f s' => ∀ g' σ' H', Rel Z g' s' σ' H' → Ext g H g' H' → Fx P.fix σ σ' → EndF Z g H g' H' D σ' f) W,
        fun σ' H' k => ⟨ds.length - (i + 1), by omega, rfl, k⟩, fun y H2 hy => ?_⟩
      obtain ⟨F2, nw⟩ := yl y H2 hy
      obtain ⟨r2, x2, tm2⟩ := r1.newT nw
      refine ⟨g1, H1, _, s1, _, r2, x2, tm2, h1.imp fun _ s3 h3 g3 σ3 H3 r3 x3 _ f3 => ?_⟩
      rw [sat_bd] at h3
      refine ⟨g3, s3, r3, h3.imp fun f s4 h4 g4 σ4 H4 r4 x4 f4 => ?_⟩
      have xa := x1.trans (x3.trans x4)
      have fa := f1.trans (f3.trans f4)
      cases f with
      | nx => exact ⟨g4, s4, r4, xa, fa, h4⟩
      | ct => exact ⟨g4, s4, r4, xa, fa, h4⟩
      | br => exact h4 g4 σ4 H4 r4 (x0.trans xa) fa
      | rt t => exact fun v tm => h4 g4 σ4 H4 r4 (x0.trans xa) fa v (tm.pre (xx.trans x3))
/-! ### o[i] = .. -/
def rSetI : TSet := fun o i v H Q => rSetL o i v H Q ∨ L2.rSetD o i v H Q
theorem set_any (hu : X.A.units + 64 < cLine) : PSet X rSetI := by
  intro pins s σ H o i v ov iv u Q I ro ri rv h
  rcases h with h | h
  · exact set_list pins s σ H o i v ov iv u Q I ro ri rv h
  · exact L2.set_dict (by omega) pins s σ H o i v ov iv u Q I ro ri rv h
theorem setI_od {kvs : List (D × D)} {d : D} {u t' : T} (h : setI (.od kvs) d u = some t') : okKey d = true ∧ kvs.length ≤ 1000000 ∧ ∃ e, u.dat = some e ∧ t' = .od (dput kvs d e) := by
  have h : (if okKey d && decide (kvs.length ≤ 1000000) then u.dat.map fun e => T.od (dput kvs d e) else none) = some t' := by cases d <;> exact h
  split at h
  · rename_i hk
    rw [Bool.and_eq_true] at hk
    obtain ⟨e, e2, rfl⟩ := Option.map_eq_some_iff.mp h
    exact ⟨hk.1, of_decide_eq_true hk.2, e, e2, rfl⟩
  · cases h
theorem getPl_s {s : S} : getPl s ⟨.s i, []⟩ = s.vs[i]? := by
  unfold getPl getR
  simp only [getP]
  cases s.vs[i]? <;> rfl
theorem setPl_s {s : S} {t t' : T} (h : s.vs[i]? = some t) : setPl s ⟨.s i, []⟩ t' = some { s with vs := s.vs.set i t' } := by
  unfold setPl getR
  simp only [h, Option.bind_some, setP, Option.map_some, setR]
theorem setAt_ok {g0 g : Gh} {H0 H : Hp} {s : S} {σ : L2.St} {j : D} {u : T} {v vj : V} {o : V} {K : Unit → S → Prop} {Q : Hp → Prop} (r : Rel Z g s σ H) (x : Ext g0 H0 g H) (tm : Tm Z g0 H0 g H v u) (pj : Pd Z.K g.F vj j) (ho : σ[i]? = some (some o))
    (h : (setAt ⟨.s i, []⟩ j u s).sat K W) (k : ∀ s' g' H', Rel Z g' s' σ H' → Ext g0 H0 g' H' → K () s' → Q H') : rSetI o vj v H Q := by
  unfold setAt at h
  rw [getPl_s] at h
  cases hs : s.vs[i]? with
  | none => rw [hs] at h; exact h.elim
  | some t =>
    rw [hs] at h
    simp only at h
    cases hi : setI t j u with
    | none => rw [hi] at h; exact h.elim
    | some t' =>
      rw [hi] at h
      simp only [setPl_s hs] at h
      cases t <;> first | (cases j <;> cases hi; done) | skip
      case ol ds =>
        cases j <;> first | (cases hi; done) | skip
        case int n =>
        obtain ⟨m, e1, h2⟩ := Option.bind_eq_some_iff.mp (show (ixN ds.length n).bind _ = some t' from hi)
        obtain ⟨e, e2, rfl⟩ := Option.map_eq_some_iff.mp h2
        obtain ⟨F', r2, x2, s2, pd⟩ := tm.freeze e2 r x
        obtain ⟨b, xs, f1, f2, f3, f4⟩ := r2.ol hs
        rw [ho] at f1
        cases f1
        have f3' := PdAll.set pd m f3
        obtain ⟨r3, x3⟩ := r2.write (o := .lst (xs.set m v)) f4 ho (.ol upd_same f3') rfl (fun z => nomatch z)
        exact .inl ⟨b, xs, n, m, rfl, pj.int', f2, by rw [f3.length]; exact e1, k _ _ _ r3 (x2.trans x3) h⟩
      case od kvs =>
        obtain ⟨hk, hz, e, e2, rfl⟩ := setI_od hi
        obtain ⟨q, rfl⟩ := okKey_iff hk
        obtain ⟨F', r2, x2, s2, pd⟩ := tm.freeze e2 r x
        obtain ⟨b, xs, f1, f2, f3, f4⟩ := r2.od hs
        rw [ho] at f1
        cases f1
        have f3' := f3.put q pd
        obtain ⟨r3, x3⟩ := r2.write (o := .dK (putK xs q v)) f4 ho (.od upd_same f3') rfl (fun z => nomatch z)
        have ej : vj = kV q := by
          cases q with
          | inl n => exact pj.int'
          | inr n => cases pj; rfl
        exact .inr ⟨b, _, rfl, .inl ⟨xs, q, f2, ej, by rw [f3.length, sizeLine_eq]; omega, rfl⟩, k _ _ _ r3 (x2.trans x3) h⟩
theorem subAsg {i : Expr} {o : Expr} {env : Env} (h : noSlice i = true) : ∀ v, assign (.Subscript o i pos) env v = (do
      let ov ← holding [v] (eval o env)
      let iv ← holding [v, ov] (eval i env)
      standAt pos
      holding [v, ov, iv] (setItem ov iv v)
      release [v, ov, iv] []) := by
  intro v
  cases i <;> first | rfl | cases h
theorem rs_asS {px ps : Pos} {ie : Expr} {ei : E} (hu : X.A.units + 64 < cLine) (hN : X.N[i]? = some x) (hv : Vis X.env.scope x) (hd : (x == ("__debug__" : Str)) = false) (hcd : (x == ("__classdict__" : Str)) = false) (ha : PE X a (RdE Z P W ea .e)) (hi : PE X ie (RdE Z P W ei .e))
    (hs : noComp a = true) (h2 : noSlice ie = true) : PS X (.Assign [.Subscript (.Name x px) ie ps] a pos) (RdS Z P W (.asS (.var i) ei ea)) :=
  (ps_asg ha (pg_sub (pe_var hN hv hd hcd) hi (set_any hu) (subAsg h2)) (noSwapSole hs) rfl rfl).imp fun D σ H ⟨g, s, r, h⟩ => by
    unfold exC at h
    rw [sat_bd] at h
    refine ⟨g, s, r, h.imp fun u s1 h1 g1 H1 v r1 x1 k1 => ?_⟩
    unfold evP at h1
    simp only [bd_ok] at h1
    split at h1
    · rename_i hk
      unfold placeOk at hk
      rw [getPl_s] at hk
      cases hs1 : s1.vs[i]? with
      | none => rw [hs1] at hk; cases hk
      | some t =>
        rw [hs1] at hk
        obtain ⟨o, ho, _⟩ := r1.pl hs1 (fun z => by subst z; cases hk)
        refine ⟨o, ho, ?_⟩
        rw [sat_bd] at h1
        refine rd_toP r1 h1 fun j s2 g2 H2 vj r2 x2 pj h2 => ?_
        rw [sat_bd] at h2
        exact setAt_ok r2 (x1.trans x2) ((Kd.tm k1).ext x2) pj ho h2 fun s' g' H' r' x' hk => hk g' σ H' r' x' Fx.refl
    · exact h1.elim
end
end EV
end PartEvSt
section PartEvCall
set_option autoImplicit false
set_option linter.all false
set_option maxRecDepth 100000
/-! EvCall: calls of defs. -/
namespace EV
open PySem PySem.Spec PyProof.Rows L2
/-- an argument's value -/
def AOk (Z : Wd) (g : Gh) (H : Hp) (σ : L2.St) (v : V) : A → Prop
  | .v t => Tmp Z g H v t []
  | .s i => σ[i]? = some (some v)
  | .b i => σ[i]? = some (some v)
abbrev AAll (Z : Wd) (g : Gh) (H : Hp) (σ : L2.St) : List V → List A → Prop := Paired (AOk Z g H σ)
section
variable {Z : Wd} {g g0 g1 : Gh} {H H0 H1 : Hp} {σ : L2.St} {s : S} {v : V} {t : T}
theorem AOk.ext {a : A} (h : AOk Z g H σ v a) (x : Ext g H g1 H1) : AOk Z g1 H1 σ v a := by
  cases a with
  | v t => exact Tmp.ext h x
  | s i => exact h
  | b i => exact h
theorem AAll.ext {vs : List V} {as : List A} (h : AAll Z g H σ vs as) (x : Ext g H g1 H1) : AAll Z g1 H1 σ vs as := Paired.mapP h fun _ _ h => h.ext x
/-- what is lent stands apart -/
structure Tk (Z : Wd) (vs0 : List T) (g2 : Gh) (H : Hp) (X : List Addr) (xs : List A) (vs : List V) (ts : List T) (css hss : List (List Addr)) : Prop where
  tmp : ∀ (j : Nat) v t, vs[j]? = some v → ts[j]? = some t → ∃ cs, css[j]? = some cs ∧ Tmp Z g2 H v t cs
  l1 : vs.length = ts.length
  l2 : css.length = ts.length
  l3 : xs.length = ts.length
  nd : css.flatten.Nodup
  sub : ∀ a ∈ css.flatten, a ∈ hss.flatten
  lnt : ∀ (j : Nat) cs, css[j]? = some cs → hss[j]? = some cs ∨ cs = []
  hnd : hss.flatten.Nodup
  l4 : hss.length = ts.length
  ap : ∀ a ∈ hss.flatten, a ∉ X
  fre : ∀ a ∈ hss.flatten, (∀ p, a ∉ g2.ow p) ∧ g2.F a = none ∧ H a ≠ none ∧ a ∉ g2.bo
  bo : ∀ (j : Nat) v t a, vs[j]? = some v → ts[j]? = some t → isB t = true → v = .ref a → a ∉ X ∧ a ∉ css.flatten ∨ ∃ xs ds, KL Z.K a xs ∧ PdAll Z.K g2.F xs ds ∧ t = .sl ds
  held : ∀ (j : Nat) i v, xs[j]? = some (.b i) → vs[j]? = some v → ∃ t0 hs, vs0[i]? = some t0 ∧ t0 ≠ .un ∧ hss[j]? = some hs ∧ css[j]? = some [] ∧ Tr Z g2.F g2.γ H v t0 hs ∧ Bo Z g2.F v t0 fun a => a ∈ g2.bo
/-- what a caller lends of a thing -/
theorem Tr.bor {F : Hp} {γ : List Addr} {cs : List Addr} (fh : FH F H) (h : Tr Z F γ H v t cs) (ok : borOk t = true) : Tr Z F γ H v t.bor [] := by
  cases h with
  | pl p =>
    cases p with
    | lst e r => exact .bl (fh.lst e) r
    | dic e r => exact .bd (fh.rd e) r
    | non => exact .pl .non
    | bl b => exact .pl (.bl b)
    | int i => exact .pl (.int i)
    | str x => exact .pl (.str x)
    | tup e r => exact .pl (.tup e r)
  | ol e r => exact .bl e r
  | kl e r => exact .bl e r
  | od e r => exact .bd (.inl e) r
  | kd e r => exact .bd e r
  | bl e r => exact .bl e r
  | bd e r => exact .bd e r
  | sl e r => exact .sl e r
  | ob e => exact .ob e
  | os _ => cases ok
  | nl _ _ => cases ok
  | nd _ _ => cases ok
  | nt _ _ => cases ok
/-- where a lent thing stands -/
theorem bor_at {cs : List Addr} {a : Addr} (r : Rel Z g s σ H) (h : Tr Z g.F g.γ H v t cs) (hb : Bo Z g.F v t fun a => a ∈ g.bo) (e : v = .ref a) (ib : isB t.bor = true) :
    a ∈ cs ∨ g.F a ≠ none ∨ a ∈ g.bo ∨ ∃ xs ds, KL Z.K a xs ∧ PdAll Z.K g.F xs ds ∧ t.bor = .sl ds := by
  subst e
  cases h with
  | pl p =>
    cases p with
    | lst e r => exact .inr (.inl (by rw [e]; exact fun z => nomatch z))
    | dic e r => exact .inr (.inl (by rw [e]; exact fun z => nomatch z))
    | tup e r => cases ib
  | ol e r => exact .inl (by simp)
  | od e r => exact .inl (by simp)
  | kl e r => rcases hb _ rfl rfl with h | ⟨_, _, _, _, z⟩; exact .inr (.inr (.inl h)); cases z
  | kd e r => rcases hb _ rfl rfl with h | ⟨_, _, _, _, z⟩; exact .inr (.inr (.inl h)); cases z
  | bl e r => rcases hb _ rfl rfl with h | ⟨_, _, _, _, z⟩; exact .inr (.inr (.inl h)); cases z
  | bd e r => rcases hb _ rfl rfl with h | ⟨_, _, _, _, z⟩; exact .inr (.inr (.inl h)); cases z
  | sl e r => rcases hb _ rfl rfl with h | ⟨xs, ds, k, p, z⟩; exact .inr (.inr (.inl h)); exact .inr (.inr (.inr ⟨xs, ds, k, p, z⟩))
  | ob e => cases ib
  | os _ => cases ib
  | nl _ _ => cases ib
  | nd _ _ => cases ib
  | nt _ _ => cases ib
theorem Rel.takenT {i : Nat} (r : Rel Z g s σ H) (h : s.vs[i]? = some t) (hu : t ≠ .un) (hb : isB t = false) : ∃ v, σ[i]? = some (some v) ∧ Tmp Z (g.free (.s i)) H v t (g.ow (.s i)) := by
  obtain ⟨v, h1, h2, h3⟩ := r.pl h hu
  refine ⟨v, h1, h2, r.nd _, fun a ha => ⟨(r.own _ a ha).1, (r.own _ a ha).2, fun p hp => ?_, fun hb => (r.bor a hb).2 _ ha⟩, Bo.no hb⟩
  obtain ⟨n, hp⟩ := Gh.free_mem hp
  exact n (r.dis _ _ a hp ha)
theorem lent_b (h : lent t = true) : isB t = false ∧ t ≠ .un := by
  cases t <;> first | (cases h; done) | exact ⟨rfl, fun z => nomatch z⟩
theorem take_ok {vs0 : List T} : ∀ {xs : List A} {vs : List V} {g : Gh} {s s2 : S} {X : List Addr} {ts : List T}, Rel Z g s σ H → AAll Z g0 H σ vs xs → (g.F = g0.F ∧ g.γ = g0.γ ∧ g.bo = g0.bo ∧ ∀ p a, a ∈ g.ow p → a ∈ g0.ow p) →
    (∀ a ∈ X, (∃ q, a ∈ g0.ow q) ∧ g0.F a = none ∧ a ∉ g0.bo ∧ ∀ p, a ∉ g.ow p) → (∀ (i : Nat) t, s.vs[i]? = some t → t ≠ .un → vs0[i]? = some t) → take xs s = some (ts, s2) →
    ∃ g2 css hss, Rel Z g2 s2 σ H ∧ Ext g H g2 H ∧ g2.F = g.F ∧ g2.γ = g.γ ∧ s2.os = s.os ∧ Tk Z vs0 g2 H X xs vs ts css hss ∧ (∀ a ∈ hss.flatten, ∃ q, a ∈ g.ow q) := by
  intro xs
  induction xs with
  | nil =>
    intro vs g s s2 X ts r ha hg hX hv0 h
    cases ha
    cases h
    exact ⟨g, [], [], r, Ext.refl _ _, rfl, rfl, rfl, ⟨fun j v t e => by simp at e, rfl, rfl, rfl, List.nodup_nil, fun a h => h, fun j cs e => by simp at e, List.nodup_nil, rfl, fun a h => by simp at h, fun a h => by simp at h, fun j v t a e => by simp at e, fun j i v e => by simp at e⟩, fun a h => by simp at h⟩
  | cons x xs ih =>
    intro vs g s s2 X ts r ha hg hX hv0 h
    have hvs0 : ∀ i0, ∀ (i : Nat) t, (s.vs.set i0 T.un)[i]? = some t → t ≠ .un → vs0[i]? = some t := fun i0 i t e hu => by
      by_cases c : i0 = i
      · subst c
        rw [List.getElem?_set] at e
        simp only [if_true] at e
        split at e
        · cases e; exact absurd rfl hu
        · cases e
      · rw [List.getElem?_set_ne c] at e
        exact hv0 i t e hu
    have freeG : ∀ i, (g.free (.s i)).F = g0.F ∧ (g.free (.s i)).γ = g0.γ ∧ (g.free (.s i)).bo = g0.bo ∧ ∀ p a, a ∈ (g.free (.s i)).ow p → a ∈ g0.ow p := fun i =>
      ⟨hg.1, hg.2.1, hg.2.2.1, fun p a h => hg.2.2.2 p a (Gh.free_mem h).2⟩
    have freeX : ∀ i, ∀ a ∈ X ++ g.ow (.s i), (∃ q, a ∈ g0.ow q) ∧ g0.F a = none ∧ a ∉ g0.bo ∧ ∀ p, a ∉ (g.free (.s i)).ow p := fun i a ha => by
      rcases List.mem_append.mp ha with ha | ha
      · obtain ⟨q1, q2, q3, q4⟩ := hX a ha
        exact ⟨q1, q2, q3, fun p hp => q4 p (Gh.free_mem hp).2⟩
      · refine ⟨⟨_, hg.2.2.2 _ a ha⟩, by rw [← hg.1]; exact (r.own _ a ha).1, fun hb => (r.bor a (by rw [hg.2.2.1]; exact hb)).2 _ ha, fun p hp => ?_⟩
        obtain ⟨n, hp⟩ := Gh.free_mem hp
        exact n (r.dis _ _ a hp ha)
    cases ha with
    | @cons v _ vs _ hv hvs =>
      cases x with
      | v t =>
        obtain ⟨⟨ts', s'⟩, h1, h2⟩ := Option.map_eq_some_iff.mp (show (take xs s).map _ = some (ts, s2) from h)
        cases h2
        obtain ⟨g2, css, hss, r2, x2, eF, eγ, eo, tk, ow⟩ := ih r hvs hg hX hv0 h1
        refine ⟨g2, [] :: css, [] :: hss, r2, x2, eF, eγ, eo, ⟨fun j v' t' e1 e2 => ?_, by simp [tk.l1], by simp [tk.l2], by simp [tk.l3], by simpa using tk.nd, by simpa using tk.sub, fun j cs e => ?_, by simpa using tk.hnd, by simp [tk.l4], by simpa using tk.ap, by simpa using tk.fre, fun j v' t' a e1 e2 e3 e4 => ?_, fun j i v' e1 e2 => ?_⟩, by simpa using ow⟩
        · cases j with
          | zero =>
            cases e1; cases e2
            obtain ⟨t1, t2, t3, t4⟩ := (show Tmp Z g0 H v t [] from hv)
            refine ⟨[], rfl, ?_⟩
            have x0 : Tmp Z g H v t [] := ⟨by rw [hg.1, hg.2.1]; exact t1, t2, (fun _ h => nomatch h), by rw [hg.1]; exact t4.imp (Sub.refl _) fun a h => ⟨h.1, fun p hp => h.2 p (hg.2.2.2 p a hp)⟩⟩
            exact x0.ext x2
          | succ j => exact tk.tmp j v' t' e1 e2
        · cases j with
          | zero => cases e; exact .inr rfl
          | succ j => exact tk.lnt j cs e
        · cases j with
          | zero =>
            cases e1; cases e2
            obtain ⟨t1, t2, t3, t4⟩ := (show Tmp Z g0 H v t [] from hv)
            rcases t4 a e4 e3 with ⟨_, hn⟩ | ⟨ys, ds, k1, k2, k3⟩
            · refine .inl ⟨fun hx => ?_, fun hc => ?_⟩
              · obtain ⟨q, hq⟩ := (hX a hx).1
                exact hn q hq
              · obtain ⟨q, hq⟩ := ow a (tk.sub a (by simpa using hc))
                exact hn q (hg.2.2.2 q a hq)
            · exact .inr ⟨ys, ds, k1, by rw [eF, hg.1]; exact k2, k3⟩
          | succ j => exact (tk.bo j v' t' a e1 e2 e3 e4).imp_left fun ⟨q1, q2⟩ => ⟨q1, by simpa using q2⟩
        · cases j with
          | zero => cases e1
          | succ j => exact tk.held j i v' e1 e2
      | s i =>
        have hv : σ[i]? = some (some v) := hv
        cases hs : s.vs[i]? with
        | none =>
          unfold take at h
          rw [hs] at h
          cases h
        | some t =>
          unfold take at h
          rw [hs] at h
          simp only at h
          split at h
          · rename_i hl
            obtain ⟨⟨ts', s'⟩, h1, h2⟩ := Option.map_eq_some_iff.mp h
            cases h2
            obtain ⟨hb, hu⟩ := lent_b hl
            obtain ⟨w, e0, tm⟩ := r.takenT hs hu hb
            rw [hv] at e0
            cases e0
            obtain ⟨rf, xf⟩ := r.free i
            obtain ⟨g2, css, hss, r2, x2, eF, eγ, eo, tk, ow⟩ := ih rf hvs (freeG i) (freeX i) (hvs0 i) h1
            have dj : ∀ a ∈ g.ow (.s i), a ∉ hss.flatten := fun a ha hc => tk.ap a hc (List.mem_append_right _ ha)
            have tm2 := tm.ext x2
            refine ⟨g2, g.ow (.s i) :: css, g.ow (.s i) :: hss, r2, xf.trans x2, eF, eγ, eo, ⟨fun j v' t' e1 e2 => ?_, by simp [tk.l1], by simp [tk.l2], by simp [tk.l3], ?_, fun a ha => ?_, fun j cs e => ?_, ?_, by simp [tk.l4], fun a ha => ?_, fun a ha => ?_, fun j v' t' a e1 e2 e3 e4 => ?_, fun j i' v' e1 e2 => ?_⟩, fun a ha => ?_⟩
            · cases j with
              | zero => cases e1; cases e2; exact ⟨_, rfl, tm2⟩
              | succ j => exact tk.tmp j v' t' e1 e2
            · rw [List.flatten_cons, List.nodup_append]
              exact ⟨r.nd _, tk.nd, fun a ha b hb e => by subst e; exact dj a ha (tk.sub a hb)⟩
            · rw [List.flatten_cons] at ha ⊢
              rcases List.mem_append.mp ha with ha | ha
              · exact List.mem_append_left _ ha
              · exact List.mem_append_right _ (tk.sub a ha)
            · cases j with
              | zero => cases e; exact .inl rfl
              | succ j => exact tk.lnt j cs e
            · rw [List.flatten_cons, List.nodup_append]
              exact ⟨r.nd _, tk.hnd, fun a ha b hb e => by subst e; exact dj a ha hb⟩
            · rw [List.flatten_cons] at ha
              rcases List.mem_append.mp ha with ha | ha
              · exact fun hx => (hX a hx).2.2.2 _ ha
              · exact fun hx => tk.ap a ha (List.mem_append_left _ hx)
            · rw [List.flatten_cons] at ha
              rcases List.mem_append.mp ha with ha | ha
              · obtain ⟨q1, q2, q3, q4⟩ := tm2.2.2.1 a ha
                exact ⟨q3, q1, q2, q4⟩
              · exact tk.fre a ha
            · cases j with
              | zero => cases e1; cases e2; rw [hb] at e3; cases e3
              | succ j =>
                refine (tk.bo j v' t' a e1 e2 e3 e4).imp_left fun ⟨q1, q2⟩ => ⟨fun hx => q1 (List.mem_append_left _ hx), fun hc => ?_⟩
                rw [List.flatten_cons] at hc
                rcases List.mem_append.mp hc with hc | hc
                · exact q1 (List.mem_append_right _ hc)
                · exact q2 hc
            · cases j with
              | zero => cases e1
              | succ j => exact tk.held j i' v' e1 e2
            · rw [List.flatten_cons] at ha
              rcases List.mem_append.mp ha with ha | ha
              · exact ⟨_, ha⟩
              · obtain ⟨q, hq⟩ := ow a ha
                exact ⟨q, (Gh.free_mem hq).2⟩
          · cases h
      | b i =>
        have hv : σ[i]? = some (some v) := hv
        cases hs : s.vs[i]? with
        | none =>
          unfold take at h
          rw [hs] at h
          cases h
        | some t =>
          unfold take at h
          rw [hs] at h
          simp only at h
          split at h
          · rename_i hl
            obtain ⟨⟨ts', s'⟩, h1, h2⟩ := Option.map_eq_some_iff.mp h
            cases h2
            have hu : t ≠ .un := fun z => by subst z; cases hl
            obtain ⟨w, e0, tr, hb⟩ := r.pl hs hu
            rw [hv] at e0
            cases e0
            obtain ⟨rf, xf⟩ := r.free i
            obtain ⟨g2, css, hss, r2, x2, eF, eγ, eo, tk, ow⟩ := ih rf hvs (freeG i) (freeX i) (hvs0 i) h1
            have dj : ∀ a ∈ g.ow (.s i), a ∉ hss.flatten := fun a ha hc => tk.ap a hc (List.mem_append_right _ ha)
            have at_ : ∀ a, v = .ref a → isB t.bor = true → (a ∈ g.ow (.s i) ∨ g.F a ≠ none ∨ a ∈ g.bo) ∨ ∃ xs ds, KL Z.K a xs ∧ PdAll Z.K g.F xs ds ∧ t.bor = .sl ds := fun a e ib => by
              rcases bor_at r tr hb e ib with q | q | q | q
              · exact .inl (.inl q)
              · exact .inl (.inr (.inl q))
              · exact .inl (.inr (.inr q))
              · exact .inr q
            have tm : Tmp Z (g.free (.s i)) H v t.bor [] := by
              refine ⟨tr.bor r.frz hl, List.nodup_nil, (fun _ h => nomatch h), fun a e ib => ?_⟩
              rcases at_ a e ib with (q | q | q) | q
              · refine .inl ⟨(r.own _ a q).2, fun p hp => ?_⟩
                obtain ⟨n, hp⟩ := Gh.free_mem hp
                exact n (r.dis _ _ a hp q)
              · refine .inl ⟨fun z => q (r.frz.no z), fun p hp => q (r.own p a (Gh.free_mem hp).2).1⟩
              · exact .inl ⟨(r.bor a q).1, Gh.free_nm (r.bor a q).2⟩
              · exact .inr q
            -- the held addresses
            have hfr : ∀ a ∈ g.ow (.s i), (∀ p, a ∉ g2.ow p) ∧ g2.F a = none ∧ H a ≠ none ∧ a ∉ g2.bo := fun a ha => by
              have hn := (r.own _ a ha).2
              obtain ⟨_, _, k3, k4⟩ := kept_of x2 hn (fun p hp => by
                obtain ⟨n, hp⟩ := Gh.free_mem hp
                exact n (r.dis _ _ a hp ha))
              exact ⟨k3, (k4 (r.own _ a ha).1).1, hn, by rw [x2.bo]; exact fun hb => (r.bor a hb).2 _ ha⟩
            refine ⟨g2, [] :: css, g.ow (.s i) :: hss, r2, xf.trans x2, eF, eγ, eo, ⟨fun j v' t' e1 e2 => ?_, by simp [tk.l1], by simp [tk.l2], by simp [tk.l3], by simpa using tk.nd, fun a ha => ?_, fun j cs e => ?_, ?_, by simp [tk.l4], fun a ha => ?_, fun a ha => ?_, fun j v' t' a e1 e2 e3 e4 => ?_, fun j i' v' e1 e2 => ?_⟩, fun a ha => ?_⟩
            · cases j with
              | zero => cases e1; cases e2; exact ⟨[], rfl, tm.ext x2⟩
              | succ j => exact tk.tmp j v' t' e1 e2
            · rw [List.flatten_cons]
              exact List.mem_append_right _ (tk.sub a (by simpa using ha))
            · cases j with
              | zero => cases e; exact .inr rfl
              | succ j => exact tk.lnt j cs e
            · rw [List.flatten_cons, List.nodup_append]
              exact ⟨r.nd _, tk.hnd, fun a ha b hb e => by subst e; exact dj a ha hb⟩
            · rw [List.flatten_cons] at ha
              rcases List.mem_append.mp ha with ha | ha
              · exact fun hx => (hX a hx).2.2.2 _ ha
              · exact fun hx => tk.ap a ha (List.mem_append_left _ hx)
            · rw [List.flatten_cons] at ha
              rcases List.mem_append.mp ha with ha | ha
              · exact hfr a ha
              · exact tk.fre a ha
            · cases j with
              | zero =>
                cases e1; cases e2
                rcases at_ a e4 e3 with q | ⟨ys, ds, k1, k2, k3⟩
                · refine .inl ⟨fun hx => ?_, fun hc => ?_⟩
                  · rcases q with q | q | q
                    · exact (hX a hx).2.2.2 _ q
                    · exact q (by rw [hg.1]; exact (hX a hx).2.1)
                    · exact (hX a hx).2.2.1 (by rw [← hg.2.2.1]; exact q)
                  · obtain ⟨p, hp⟩ := ow a (tk.sub a (by simpa using hc))
                    obtain ⟨n, hp⟩ := Gh.free_mem hp
                    rcases q with q | q | q
                    · exact n (r.dis _ _ a hp q)
                    · exact q (r.own p a hp).1
                    · exact (r.bor a q).2 p hp
                · exact .inr ⟨ys, ds, k1, by rw [eF]; exact k2, k3⟩
              | succ j => exact (tk.bo j v' t' a e1 e2 e3 e4).imp_left fun ⟨q1, q2⟩ => ⟨fun hx => q1 (List.mem_append_left _ hx), by simpa using q2⟩
            · cases j with
              | zero =>
                cases e1; cases e2
                exact ⟨t, _, hv0 i t hs hu, hu, rfl, rfl, by rw [eF, eγ]; exact tr, by rw [eF, x2.bo]; exact hb⟩
              | succ j => exact tk.held j i' v' e1 e2
            · rw [List.flatten_cons] at ha
              rcases List.mem_append.mp ha with ha | ha
              · exact ⟨_, ha⟩
              · obtain ⟨q, hq⟩ := ow a ha
                exact ⟨q, (Gh.free_mem hq).2⟩
          · cases h
end
end EV
end PartEvCall
section PartEvCall2
set_option autoImplicit false
set_option linter.all false
set_option maxRecDepth 100000
/-! EvCall2: into a def and back. -/
namespace EV
open PySem PySem.Spec PyProof.Rows L2
open Classical in
noncomputable def bosOf (g2 : Gh) (H : Hp) (css : List (List Addr)) : List V → List T → List Addr
  | .ref a :: vs, t :: ts => if isB t = true ∧ H a ≠ none ∧ (∀ p, a ∉ g2.ow p) ∧ a ∉ css.flatten then a :: bosOf g2 H css vs ts else bosOf g2 H css vs ts
  | _ :: vs, _ :: ts => bosOf g2 H css vs ts
  | _, _ => []
theorem bosOf_mem {g2 : Gh} {H : Hp} {css : List (List Addr)} {a : Addr} : ∀ {vs : List V} {ts : List T}, a ∈ bosOf g2 H css vs ts → H a ≠ none ∧ (∀ p, a ∉ g2.ow p) ∧ a ∉ css.flatten := by
  intro vs
  induction vs with
  | nil => intro ts h; simp [bosOf] at h
  | cons v vs ih =>
    intro ts h
    cases ts with
    | nil => cases v <;> simp [bosOf] at h
    | cons t ts =>
      cases v with
      | ref b =>
        unfold bosOf at h
        split at h
        · rename_i c
          rcases List.mem_cons.mp h with rfl | h
          · exact c.2
          · exact ih h
        · exact ih h
      | _ => exact ih (by simpa [bosOf] using h)
theorem bosOf_at {g2 : Gh} {H : Hp} {css : List (List Addr)} {a : Addr} {t : T} (hb : isB t = true) (h1 : H a ≠ none) (h2 : ∀ p, a ∉ g2.ow p) (h3 : a ∉ css.flatten) : ∀ {vs : List V} {ts : List T} {j : Nat}, vs[j]? = some (.ref a) → ts[j]? = some t → a ∈ bosOf g2 H css vs ts := by
  intro vs
  induction vs with
  | nil => intro ts j e; simp at e
  | cons v vs ih =>
    intro ts j e1 e2
    cases ts with
    | nil => simp at e2
    | cons u ts =>
      cases j with
      | zero =>
        cases e1; cases e2
        unfold bosOf
        rw [if_pos ⟨hb, h1, h2, h3⟩]
        exact List.mem_cons_self
      | succ j =>
        have := ih (ts := ts) (j := j) (by simpa using e1) (by simpa using e2)
        cases v with
        | ref b =>
          unfold bosOf
          split
          · exact List.mem_cons_of_mem _ this
          · exact this
        | _ => simpa [bosOf] using this
/-- the callee's ghost -/
noncomputable def calleeG (g2 : Gh) (H : Hp) (vs : List V) (ts : List T) (css : List (List Addr)) : Gh :=
  ⟨g2.F, g2.γ, fun p => match p with
    | .s j => css[j]?.getD []
    | .o n => g2.ow (.o n), bosOf g2 H css vs ts⟩
theorem flat_get {css : List (List Addr)} {j : Nat} {a : Addr} (h : a ∈ css[j]?.getD []) : a ∈ css.flatten := by
  cases e : css[j]? with
  | none => rw [e] at h; exact nomatch h
  | some cs =>
    rw [e] at h
    exact List.mem_flatten.mpr ⟨cs, List.mem_of_getElem? e, h⟩
theorem flat_nd : ∀ {css : List (List Addr)} {j k : Nat} {a : Addr}, css.flatten.Nodup → a ∈ css[j]?.getD [] → a ∈ css[k]?.getD [] → j = k
  | [], _, _, _, _, h, _ => by simp at h
  | c :: css, 0, 0, _, _, _, _ => rfl
  | c :: css, j + 1, k + 1, a, nd, h1, h2 => by
    rw [List.flatten_cons, List.nodup_append] at nd
    exact congrArg Nat.succ (flat_nd (a := a) nd.2.1 (by simpa using h1) (by simpa using h2))
  | c :: css, 0, k + 1, a, nd, h1, h2 => by
    rw [List.flatten_cons, List.nodup_append] at nd
    exact absurd rfl (nd.2.2 a (by simpa using h1) a (flat_get (by simpa using h2)))
  | c :: css, j + 1, 0, a, nd, h1, h2 => by
    rw [List.flatten_cons, List.nodup_append] at nd
    exact absurd rfl (nd.2.2 a (by simpa using h2) a (flat_get (by simpa using h1)))
section
variable {Z : Wd} {g g0 g2 g' : Gh} {H H' : Hp} {σ : L2.St} {s s2 : S} {vs0 : List T} {X : List Addr} {xs : List A} {vs : List V} {ts outs : List T} {css hss : List (List Addr)} {os' : List O}
theorem callee_rel (r : Rel Z g2 s2 σ H) (tk : Tk Z vs0 g2 H X xs vs ts css hss) : Rel Z (calleeG g2 H vs ts css) ⟨ts, s2.os⟩ (vs.map some) H := by
  have tr : ∀ (j : Nat) t, ts[j]? = some t → ∃ v cs, vs[j]? = some v ∧ css[j]? = some cs ∧ Tmp Z g2 H v t cs := fun j t e => by
    have hj : j < vs.length := by rw [tk.l1]; exact (List.getElem?_eq_some_iff.mp e).1
    obtain ⟨cs, e1, tm⟩ := tk.tmp j vs[j] t (List.getElem?_eq_getElem hj) e
    exact ⟨_, cs, List.getElem?_eq_getElem hj, e1, tm⟩
  have inO : ∀ (j : Nat) a, a ∈ css[j]?.getD [] → ∃ v t cs, css[j]? = some cs ∧ a ∈ cs ∧ Tmp Z g2 H v t cs := fun j a h => by
    cases e : css[j]? with
    | none => rw [e] at h; exact nomatch h
    | some cs =>
      rw [e] at h
      have hj : j < ts.length := by rw [← tk.l2]; exact (List.getElem?_eq_some_iff.mp e).1
      obtain ⟨v, cs', _, e2, tm⟩ := tr j ts[j] (List.getElem?_eq_getElem hj)
      rw [e] at e2
      cases e2
      exact ⟨v, _, cs, rfl, h, tm⟩
  refine ⟨by rw [List.length_map, tk.l1], fun j t e => .inr ?_, fun j e => ?_, r.glen, r.obj, r.oemp, r.frz, fun p a h => ?_, fun p q a h1 h2 => ?_, fun p => ?_, fun a h => ?_⟩
  · obtain ⟨v, cs, e1, e2, tm⟩ := tr j t e
    refine ⟨v, by rw [List.getElem?_map, e1]; rfl, ?_, fun a ea ib => ?_⟩
    · show Tr Z g2.F g2.γ H v t (css[j]?.getD [])
      rw [e2]; exact tm.1
    · rcases tm.2.2.2 a ea ib with ⟨h1, h2⟩ | h
      · rcases tk.bo j v t a e1 e ib ea with ⟨_, h3⟩ | h
        · subst ea
          exact .inl (bosOf_at ib h1 h2 h3 e1 e)
        · exact .inr h
      · exact .inr h
  · show css[j]?.getD [] = []
    rcases e with e | e
    · obtain ⟨v, cs, _, _, tm⟩ := tr j _ e
      have := tm.1
      cases this
    · have : css[j]? = none := List.getElem?_eq_none_iff.mpr (by rw [tk.l2]; exact List.getElem?_eq_none_iff.mp e)
      rw [this]; rfl
  · cases p with
    | s j =>
      obtain ⟨v, t, cs, _, hc, tm⟩ := inO j a h
      exact ⟨(tm.2.2.1 a hc).1, (tm.2.2.1 a hc).2.1⟩
    | o n => exact r.own (.o n) a h
  · cases p with
    | s j =>
      cases q with
      | s k => rw [flat_nd tk.nd h1 h2]
      | o n =>
        obtain ⟨v, t, cs, _, hc, tm⟩ := inO j a h1
        exact absurd h2 ((tm.2.2.1 a hc).2.2.1 (.o n))
    | o n =>
      cases q with
      | s k =>
        obtain ⟨v, t, cs, _, hc, tm⟩ := inO k a h2
        exact absurd h1 ((tm.2.2.1 a hc).2.2.1 (.o n))
      | o m => exact r.dis (.o n) (.o m) a h1 h2
  · cases p with
    | s j =>
      show (css[j]?.getD []).Nodup
      cases e : css[j]? with
      | none => exact List.nodup_nil
      | some cs =>
        have hj : j < ts.length := by rw [← tk.l2]; exact (List.getElem?_eq_some_iff.mp e).1
        obtain ⟨v, cs', _, e2, tm⟩ := tr j ts[j] (List.getElem?_eq_getElem hj)
        rw [e] at e2
        cases e2
        exact tm.2.1
    | o n => exact r.nd (.o n)
  · obtain ⟨h1, h2, h3⟩ := bosOf_mem h
    refine ⟨h1, fun p hp => ?_⟩
    cases p with
    | s j => exact h3 (flat_get hp)
    | o n => exact h2 (.o n) hp
/-- the caller's ghost behind the call, the lent slots still empty -/
def afterG (g2 g' : Gh) : Gh := ⟨g'.F, g'.γ, fun p => match p with
    | .s i => g2.ow (.s i)
    | .o n => g'.ow (.o n), g2.bo⟩
theorem after_rel (r0 : Rel Z g s σ H) (x0 : Ext g H g2 H) (r : Rel Z g2 s2 σ H) (tk : Tk Z vs0 g2 H X xs vs ts css hss) (ow : ∀ a ∈ hss.flatten, ∃ q, a ∈ g.ow q) (rc : Rel Z g' ⟨outs, os'⟩ (vs.map some) H') (xc : Ext (calleeG g2 H vs ts css) H g' H') :
    Rel Z (afterG g2 g') { s2 with os := os' } σ H' ∧ Ext g H (afterG g2 g') H' := by
  have ncs : ∀ p a, a ∈ g2.ow p → a ∉ css.flatten := fun p a h hc => (tk.fre a (tk.sub a hc)).1 p h
  have nbc : ∀ a ∈ g2.bo, a ∉ css.flatten := fun a h hc => (tk.fre a (tk.sub a hc)).2.2.2 h
  -- not owned by the callee
  have un : ∀ a, a ∉ css.flatten → (∀ n, a ∉ g2.ow (.o n)) → ∀ p, a ∉ (calleeG g2 H vs ts css).ow p := fun a h1 h2 p hp => by
    cases p with
    | s j => exact h1 (flat_get hp)
    | o n => exact h2 n hp
  have own2 : ∀ p a, a ∈ (calleeG g2 H vs ts css).ow p → (∃ q, a ∈ g.ow q) ∨ H a = none := fun p a h => by
    cases p with
    | s j => exact .inl (ow a (tk.sub a (flat_get h)))
    | o n => exact x0.own (.o n) a h
  have kpS : ∀ i a, a ∈ g2.ow (.s i) → ∀ p, a ∉ (calleeG g2 H vs ts css).ow p := fun i a h => un a (ncs _ a h) fun n hn => by
    have := r.dis (.s i) (.o n) a h hn
    cases this
  have kpB : ∀ a ∈ g2.bo, ∀ p, a ∉ (calleeG g2 H vs ts css).ow p := fun a h => un a (nbc a h) fun n hn => (r.bor a h).2 _ hn
  have kp : ∀ a, H a ≠ none → (∀ p, a ∉ (calleeG g2 H vs ts css).ow p) → Kp H H' a ∧ H' a ≠ none ∧ (∀ p, a ∉ g'.ow p) ∧ (g2.F a = none → g'.F a = none ∧ ∀ o, H a = some o → H' a = some o) := fun a h1 h2 => kept_of xc h1 h2
  refine ⟨⟨r.len, fun i t e => ?_, r.emp, rc.glen, fun n o a h1 h2 => rc.obj n o a h1 h2, rc.oemp, rc.frz, fun p a h => ?_, fun p q a h1 h2 => ?_, fun p => ?_, fun a h => ?_⟩, ⟨x0.sub.trans xc.sub, ?_, fun a o h n => ?_, fun p a h => ?_, fun a h => ?_, x0.bo⟩⟩
  · refine (r.slot i t e).imp_right fun ⟨v, e1, e2, e3⟩ => ⟨v, e1, ?_, e3.imp xc.sub fun a h => h⟩
    exact e2.keep xc.sub xc.γ (fun a h => ((kp a (r.own _ a h).2 (kpS i a h)).2.2.2 (r.own _ a h).1).2) (e3.imp (Sub.refl _) fun a h => (kp a (r.bor a h).1 (kpB a h)).1)
  · cases p with
    | s i =>
      obtain ⟨_, k2, _, k4⟩ := kp a (r.own _ a h).2 (kpS i a h)
      exact ⟨(k4 (r.own _ a h).1).1, k2⟩
    | o n => exact rc.own (.o n) a h
  · cases p with
    | s i =>
      cases q with
      | s j => exact r.dis _ _ a h1 h2
      | o n => exact absurd h2 ((kp a (r.own _ a h1).2 (kpS i a h1)).2.2.1 (.o n))
    | o n =>
      cases q with
      | s j => exact absurd h1 ((kp a (r.own _ a h2).2 (kpS j a h2)).2.2.1 (.o n))
      | o m => exact rc.dis _ _ a h1 h2
  · cases p with
    | s i => exact r.nd (.s i)
    | o n => exact rc.nd (.o n)
  · obtain ⟨_, k2, k3, _⟩ := kp a (r.bor a h).1 (kpB a h)
    refine ⟨k2, fun p hp => ?_⟩
    cases p with
    | s i => exact (r.bor a h).2 _ hp
    | o n => exact k3 _ hp
  · obtain ⟨q1, e1⟩ := x0.γ
    obtain ⟨q2, e2⟩ := xc.γ
    exact ⟨q1 ++ q2, by show g'.γ = _; rw [e2, ← List.append_assoc, ← e1]; rfl⟩
  · refine (xc.keep a o h (un a (fun hc => ?_) fun m hm => ?_)).imp_right fun ⟨kvs, ob, z1, z2, z3⟩ => ⟨kvs, ob, z1, ?_, z3⟩
    · obtain ⟨q, hq⟩ := ow a (tk.sub a hc)
      exact n q hq
    · rcases x0.own _ a hm with ⟨q, hq⟩ | e
      · exact n q hq
      · rw [h] at e; cases e
    · rcases x0.frz a z2 with q | ⟨q, hq⟩ | e
      · exact q
      · exact absurd hq (n q)
      · rw [h] at e; cases e
  · cases p with
    | s i => exact x0.own (.s i) a h
    | o n =>
      rcases xc.own (.o n) a h with ⟨q, hq⟩ | e
      · exact own2 q a hq
      · exact .inr e
  · rcases xc.frz a h with h | ⟨q, hq⟩ | e
    · exact x0.frz a h
    · exact .inr (own2 q a hq)
    · exact .inr (.inr e)
end
end EV
end PartEvCall2
section PartEvCall3
set_option autoImplicit false
set_option linter.all false
set_option maxRecDepth 100000
/-! EvCall3: what was lent is put back; the call of a def. -/
namespace EV
open PySem PySem.Spec PyProof.Rows L2
section
variable {Z : Wd} {g : Gh} {s : S} {σ : L2.St} {H : Hp} {v : V} {t : T} {i : Nat} {cs : List Addr}
theorem Rel.restore (r : Rel Z g s σ H) (hv : σ[i]? = some (some v)) (tr : Tr Z g.F g.γ H v t cs) (bo : Bo Z g.F v t fun a => a ∈ g.bo) (hu : t ≠ .un) (nd : cs.Nodup) (h3 : ∀ a ∈ cs, g.F a = none ∧ H a ≠ none ∧ (∀ p, a ∉ g.ow p) ∧ a ∉ g.bo) :
    Rel Z (g.put (.s i) cs) { s with vs := s.vs.set i t } σ H := by
  have hi : i < s.vs.length := by rw [r.len]; exact (List.getElem?_eq_some_iff.mp hv).1
  have sne : ∀ {j : Nat}, i ≠ j → (Ow.s j) ≠ .s i := fun h z => by cases z; exact h rfl
  refine ⟨by rw [List.length_set]; exact r.len, fun j u h => ?_, fun j h => ?_, r.glen, fun n o a q1 q2 => by rw [Gh.put_ne (by intro z; cases z)]; exact r.obj n o a q1 q2, fun n h => by rw [Gh.put_ne (by intro z; cases z)]; exact r.oemp n h, r.frz, fun p a h => ?_, fun p q a q1 q2 => ?_, fun p => ?_, fun a h => ⟨(r.bor a h).1, fun p hp => ?_⟩⟩
  · have h : (s.vs.set i t)[j]? = some u := h
    by_cases e : i = j
    · subst e
      rw [List.getElem?_set_self hi] at h
      cases h
      exact .inr ⟨v, hv, by rw [Gh.put_at]; exact tr, bo⟩
    · rw [List.getElem?_set_ne e] at h
      refine (r.slot j u h).imp_right fun ⟨w, e1, e2, e3⟩ => ⟨w, e1, ?_, e3⟩
      rw [Gh.put_ne (sne e)]; exact e2
  · by_cases e : i = j
    · subst e
      have h : (s.vs.set i t)[i]? = some .un ∨ (s.vs.set i t)[i]? = none := h
      rw [List.getElem?_set_self hi] at h
      rcases h with h | h
      · exact absurd (Option.some.inj h) hu
      · cases h
    · have h : (s.vs.set i t)[j]? = some .un ∨ (s.vs.set i t)[j]? = none := h
      rw [List.getElem?_set_ne e] at h
      rw [Gh.put_ne (sne e)]
      exact r.emp j h
  · by_cases e : p = .s i
    · subst e; rw [Gh.put_at] at h; exact ⟨(h3 a h).1, (h3 a h).2.1⟩
    · rw [Gh.put_ne e] at h; exact r.own p a h
  · by_cases e1 : p = .s i <;> by_cases e2 : q = .s i
    · rw [e1, e2]
    · subst e1; rw [Gh.put_at] at q1; rw [Gh.put_ne e2] at q2; exact absurd q2 ((h3 a q1).2.2.1 q)
    · subst e2; rw [Gh.put_at] at q2; rw [Gh.put_ne e1] at q1; exact absurd q1 ((h3 a q2).2.2.1 p)
    · rw [Gh.put_ne e1] at q1; rw [Gh.put_ne e2] at q2; exact r.dis p q a q1 q2
  · by_cases e : p = .s i
    · subst e; rw [Gh.put_at]; exact nd
    · rw [Gh.put_ne e]; exact r.nd p
  · by_cases e : p = .s i
    · subst e; rw [Gh.put_at] at hp; exact (h3 a hp).2.2.2 h
    · rw [Gh.put_ne e] at hp; exact (r.bor a h).2 p hp
inductive BkOk (Z : Wd) (vs0 : List T) (F : Hp) (γ : List Addr) (bo : List Addr) (H : Hp) (σ : L2.St) : List A → List T → List (List Addr) → Prop
  | nil {outs : List T} : BkOk Z vs0 F γ bo H σ [] outs []
  | v {t u : T} {xs : List A} {outs : List T} {ins : List (List Addr)} : BkOk Z vs0 F γ bo H σ xs outs ins → BkOk Z vs0 F γ bo H σ (.v t :: xs) (u :: outs) ([] :: ins)
  | s {i : Nat} {v : V} {u : T} {cs : List Addr} {xs : List A} {outs : List T} {ins : List (List Addr)} : σ[i]? = some (some v) → u = .un ∨ Tr Z F γ H v u cs → BkOk Z vs0 F γ bo H σ xs outs ins → BkOk Z vs0 F γ bo H σ (.s i :: xs) (u :: outs) (cs :: ins)
  | b {i : Nat} {v : V} {u t0 : T} {cs : List Addr} {xs : List A} {outs : List T} {ins : List (List Addr)} : σ[i]? = some (some v) → vs0[i]? = some t0 → t0 ≠ .un → Tr Z F γ H v t0 cs → (Bo Z F v t0 fun a => a ∈ bo) → BkOk Z vs0 F γ bo H σ xs outs ins →
      BkOk Z vs0 F γ bo H σ (.b i :: xs) (u :: outs) (cs :: ins)
theorem back_ok {vs0 : List T} {xs : List A} {outs : List T} {ins : List (List Addr)} {F : Hp} {γ bo : List Addr} (B : BkOk Z vs0 F γ bo H σ xs outs ins) : ∀ {g : Gh} {s s3 : S}, Rel Z g s σ H → g.F = F → g.γ = γ → g.bo = bo → ins.flatten.Nodup →
    (∀ a ∈ ins.flatten, g.F a = none ∧ H a ≠ none ∧ (∀ p, a ∉ g.ow p) ∧ a ∉ g.bo) → back vs0 xs outs s = some s3 →
    ∃ g3, Rel Z g3 s3 σ H ∧ g3.F = F ∧ g3.γ = γ ∧ g3.bo = bo ∧ ∀ p a, a ∈ g3.ow p → a ∈ g.ow p ∨ a ∈ ins.flatten := by
  induction B with
  | nil =>
    intro g s s3 r e1 e2 e3 _ _ h
    cases h
    exact ⟨g, r, e1, e2, e3, fun p a h => .inl h⟩
  | v B ih =>
    intro g s s3 r e1 e2 e3 nd fr h
    obtain ⟨g3, r3, f1, f2, f3, f4⟩ := ih r e1 e2 e3 (by simpa using nd) (by simpa using fr) h
    exact ⟨g3, r3, f1, f2, f3, by simpa using f4⟩
  | @s i v u cs xs outs ins hv tr B ih =>
    intro g s s3 r e1 e2 e3 nd fr h
    rw [List.flatten_cons, List.nodup_append] at nd
    unfold back at h
    split at h
    · rename_i ok
      obtain ⟨hb, hu⟩ := slotOk_b ok
      have tr := tr.resolve_left hu
      have r1 := r.restore (t := u) hv (by rw [e1, e2]; exact tr) (Bo.no hb) hu nd.1 fun a ha => fr a (by rw [List.flatten_cons]; exact List.mem_append_left _ ha)
      obtain ⟨g3, r3, f1, f2, f3, f4⟩ := ih r1 e1 e2 e3 nd.2.1 (fun a ha => by
        obtain ⟨q1, q2, q3, q4⟩ := fr a (by rw [List.flatten_cons]; exact List.mem_append_right _ ha)
        refine ⟨q1, q2, fun p hp => ?_, q4⟩
        by_cases e : p = .s i
        · subst e; rw [Gh.put_at] at hp; exact nd.2.2 a hp a ha rfl
        · rw [Gh.put_ne e] at hp; exact q3 p hp) h
      refine ⟨g3, r3, f1, f2, f3, fun p a ha => ?_⟩
      rw [List.flatten_cons]
      rcases f4 p a ha with ha | ha
      · by_cases e : p = .s i
        · subst e; rw [Gh.put_at] at ha; exact .inr (List.mem_append_left _ ha)
        · rw [Gh.put_ne e] at ha; exact .inl ha
      · exact .inr (List.mem_append_right _ ha)
    · split at h
      · obtain ⟨g3, r3, f1, f2, f3, f4⟩ := ih r e1 e2 e3 nd.2.1 (fun a ha => fr a (by rw [List.flatten_cons]; exact List.mem_append_right _ ha)) h
        exact ⟨g3, r3, f1, f2, f3, fun p a ha => (f4 p a ha).imp_right fun h => by rw [List.flatten_cons]; exact List.mem_append_right _ h⟩
      · cases h
  | @b i v u t0 cs xs outs ins hv h0 hu tr bb B ih =>
    intro g s s3 r e1 e2 e3 nd fr h
    rw [List.flatten_cons, List.nodup_append] at nd
    unfold back at h
    rw [h0] at h
    have r1 := r.restore (t := t0) hv (by rw [e1, e2]; exact tr) (by rw [e1, e3]; exact bb) hu nd.1 fun a ha => fr a (by rw [List.flatten_cons]; exact List.mem_append_left _ ha)
    obtain ⟨g3, r3, f1, f2, f3, f4⟩ := ih r1 e1 e2 e3 nd.2.1 (fun a ha => by
      obtain ⟨q1, q2, q3, q4⟩ := fr a (by rw [List.flatten_cons]; exact List.mem_append_right _ ha)
      refine ⟨q1, q2, fun p hp => ?_, q4⟩
      by_cases e : p = .s i
      · subst e; rw [Gh.put_at] at hp; exact nd.2.2 a hp a ha rfl
      · rw [Gh.put_ne e] at hp; exact q3 p hp) h
    refine ⟨g3, r3, f1, f2, f3, fun p a ha => ?_⟩
    rw [List.flatten_cons]
    rcases f4 p a ha with ha | ha
    · by_cases e : p = .s i
      · subst e; rw [Gh.put_at] at ha; exact .inr (List.mem_append_left _ ha)
      · rw [Gh.put_ne e] at ha; exact .inl ha
    · exact .inr (List.mem_append_right _ ha)
end
/-- what a def does, as the interpreter says -/
def SpF (Z : Wd) (np : Nat) (cr : List T → List O → CRes) : Sp := fun vs H Q E => vs.length = np ∧ ∃ g ts os, Rel Z g ⟨ts, os⟩ (vs.map some) H ∧ match cr ts os with
  | .ok t outs os' => ∀ g' H' v, Rel Z g' ⟨outs, os'⟩ (vs.map some) H' → Ext g H g' H' → Tm Z g H g' H' v t → Q v H'
  | .ex _ _ _ => False
  | .bad => False
theorem AAll.get {Z : Wd} {g : Gh} {H : Hp} {σ : L2.St} : ∀ {vs : List V} {xs : List A} {k : Nat} {v : V} {x : A}, AAll Z g H σ vs xs → vs[k]? = some v → xs[k]? = some x → AOk Z g H σ v x
  | _, _, _, _, _, .nil, e, _ => by simp at e
  | _, _, 0, _, _, .cons a _, e1, e2 => by cases e1; cases e2; exact a
  | _, _, k + 1, _, _, .cons _ r, e1, e2 => AAll.get (k := k) r (by simpa using e1) (by simpa using e2)
theorem flat_each : ∀ {css : List (List Addr)} {j : Nat} {cs : List Addr}, css.flatten.Nodup → css[j]? = some cs → cs.Nodup
  | [], _, _, _, h => by simp at h
  | c :: css, 0, cs, nd, h => by
    cases h
    rw [List.flatten_cons, List.nodup_append] at nd
    exact nd.1
  | c :: css, j + 1, cs, nd, h => by
    rw [List.flatten_cons, List.nodup_append] at nd
    exact flat_each nd.2.1 (by simpa using h)
/-! ### the lists that come back -/
def entOf (g' : Gh) (hss : List (List Addr)) (xs : List A) (k : Nat) : List Addr := match xs[k]? with
  | some (.s _) => g'.ow (.s k)
  | some (.b _) => hss[k]?.getD []
  | _ => []
def insFrom (ent : Nat → List Addr) : Nat → Nat → List (List Addr)
  | _, 0 => []
  | j, n + 1 => ent j :: insFrom ent (j + 1) n
theorem mem_from {ent : Nat → List Addr} {a : Addr} : ∀ {n j : Nat}, a ∈ (insFrom ent j n).flatten → ∃ k, j ≤ k ∧ a ∈ ent k
  | 0, j, h => by simp [insFrom] at h
  | n + 1, j, h => by
    unfold insFrom at h
    rw [List.flatten_cons] at h
    rcases List.mem_append.mp h with h | h
    · exact ⟨j, Nat.le_refl _, h⟩
    · obtain ⟨k, h1, h2⟩ := mem_from h
      exact ⟨k, by omega, h2⟩
theorem nodup_from {ent : Nat → List Addr} (h1 : ∀ k, (ent k).Nodup) (h2 : ∀ j k a, a ∈ ent j → a ∈ ent k → j = k) : ∀ (n j : Nat), (insFrom ent j n).flatten.Nodup
  | 0, j => by simp [insFrom]
  | n + 1, j => by
    unfold insFrom
    rw [List.flatten_cons, List.nodup_append]
    refine ⟨h1 j, nodup_from h1 h2 n (j + 1), fun a ha b hb e => ?_⟩
    subst e
    obtain ⟨k, hk, ha'⟩ := mem_from hb
    have := h2 j k a ha ha'
    omega
section
variable {Z : Wd} {g g2 g' : Gh} {H H' : Hp} {σ : L2.St} {s s2 s3 : S} {xs : List A} {vs : List V} {ts outs : List T} {css hss : List (List Addr)} {os' : List O}
theorem mk_bk {vs0 : List T} {F : Hp} {γ bo : List Addr} {xs0 : List A} {outs0 : List T} {ent : Nat → List Addr}
    (hs : ∀ (k : Nat) i, xs0[k]? = some (.s i) → ∃ v, σ[i]? = some (some v) ∧ ∀ u, outs0[k]? = some u → u = .un ∨ Tr Z F γ H v u (ent k))
    (hb : ∀ (k : Nat) i, xs0[k]? = some (.b i) → ∃ v t0, σ[i]? = some (some v) ∧ vs0[i]? = some t0 ∧ t0 ≠ .un ∧ Tr Z F γ H v t0 (ent k) ∧ Bo Z F v t0 fun a => a ∈ bo)
    (hv : ∀ (k : Nat) t, xs0[k]? = some (.v t) → ent k = []) :
    ∀ {xs : List A} {outs : List T} {j : Nat} {s s3 : S}, (∀ k, xs[k]? = xs0[j + k]?) → (∀ k, outs[k]? = outs0[j + k]?) → back vs0 xs outs s = some s3 → BkOk Z vs0 F γ bo H σ xs outs (insFrom ent j xs.length) := by
  intro xs
  induction xs with
  | nil => intro outs j s s3 _ _ _; exact .nil
  | cons x xs ih =>
    intro outs j s s3 e1 e2 h
    have x0 : xs0[j]? = some x := by have := e1 0; simpa using this.symm
    have e1' : ∀ k, xs[k]? = xs0[j + 1 + k]? := fun k => by have := e1 (k + 1); rw [show j + 1 + k = j + (k + 1) by omega]; simpa using this
    cases outs with
    | nil => cases x <;> cases h
    | cons u outs =>
      have u0 : outs0[j]? = some u := by have := e2 0; simpa using this.symm
      have e2' : ∀ k, outs[k]? = outs0[j + 1 + k]? := fun k => by have := e2 (k + 1); rw [show j + 1 + k = j + (k + 1) by omega]; simpa using this
      show BkOk Z vs0 F γ bo H σ (x :: xs) (u :: outs) (ent j :: insFrom ent (j + 1) xs.length)
      cases x with
      | v t =>
        rw [hv j t x0]
        exact .v (ih (s := s) (s3 := s3) e1' e2' h)
      | s i =>
        obtain ⟨v, h1, h2⟩ := hs j i x0
        unfold back at h
        split at h
        · exact .s h1 (h2 u u0) (ih e1' e2' h)
        · split at h
          · exact .s h1 (h2 _ u0) (ih e1' e2' h)
          · cases h
      | b i =>
        obtain ⟨v, t0, h1, h2, h3, h4, h5⟩ := hb j i x0
        unfold back at h
        rw [h2] at h
        exact .b h1 h2 h3 h4 h5 (ih e1' e2' h)
theorem call_rel (r0 : Rel Z g s σ H) (ha : AAll Z g H σ vs xs) (ht : take xs s = some (ts, s2)) :
    ∃ gc, Rel Z gc ⟨ts, s2.os⟩ (vs.map some) H ∧ ∀ g' H' outs os' s3, Rel Z g' ⟨outs, os'⟩ (vs.map some) H' → Ext gc H g' H' → back s.vs xs outs { s2 with os := os' } = some s3 →
      ∃ g3, Rel Z g3 s3 σ H' ∧ Ext g H g3 H' ∧ ∀ v t, isB t = false → Tm Z gc H g' H' v t → Tm Z g H g3 H' v t := by
  obtain ⟨g2, css, hss, r, x0, eF, eγ, eo, tk, ow⟩ := take_ok (vs0 := s.vs) (g0 := g) (X := []) r0 ha ⟨rfl, rfl, rfl, fun _ _ h => h⟩ (fun a h => nomatch h) (fun i t h _ => h) ht
  refine ⟨calleeG g2 H vs ts css, callee_rel r tk, fun g' H' outs os' s3 rc xc hb => ?_⟩
  obtain ⟨ra, xa⟩ := after_rel r0 x0 r tk ow rc xc
  have kp : ∀ a, H a ≠ none → (∀ p, a ∉ (calleeG g2 H vs ts css).ow p) → Kp H H' a ∧ H' a ≠ none ∧ (∀ p, a ∉ g'.ow p) ∧ (g2.F a = none → g'.F a = none ∧ ∀ o, H a = some o → H' a = some o) := fun a h1 h2 => kept_of xc h1 h2
  -- what is held for a borrowed slot is not the callee's
  have hld : ∀ (k : Nat) i a, xs[k]? = some (.b i) → a ∈ hss[k]?.getD [] → (∀ p, a ∉ (calleeG g2 H vs ts css).ow p) ∧ H a ≠ none ∧ g2.F a = none ∧ a ∉ g2.bo ∧ (∀ p, a ∉ g2.ow p) := fun k i a hx hk => by
    have hfl := flat_get hk
    obtain ⟨f1, f2, f3, f4⟩ := tk.fre a hfl
    have hv : k < vs.length := by rw [tk.l1, ← tk.l3]; exact (List.getElem?_eq_some_iff.mp hx).1
    obtain ⟨t0, hs, _, _, _, ec, _, _⟩ := tk.held k i vs[k] hx (List.getElem?_eq_getElem hv)
    refine ⟨fun p hp => ?_, f3, f2, f4, f1⟩
    cases p with
    | o n => exact f1 (.o n) hp
    | s j =>
      have hp : a ∈ css[j]?.getD [] := hp
      cases e : css[j]? with
      | none => rw [e] at hp; exact nomatch hp
      | some cs =>
        rw [e] at hp
        have hp : a ∈ cs := hp
        rcases tk.lnt j cs e with h | h
        · have : j = k := flat_nd (a := a) tk.hnd (by rw [h]; exact hp) hk
          subst this
          rw [ec] at e
          cases e
          exact nomatch hp
        · subst h; exact nomatch hp
  have ent_s : ∀ (k : Nat) i, xs[k]? = some (.s i) → entOf g' hss xs k = g'.ow (.s k) := fun k i h => by unfold entOf; rw [h]
  have ent_b : ∀ (k : Nat) i, xs[k]? = some (.b i) → entOf g' hss xs k = hss[k]?.getD [] := fun k i h => by unfold entOf; rw [h]
  have ent_in : ∀ (k : Nat) a, a ∈ entOf g' hss xs k → (∃ i, xs[k]? = some (.s i) ∧ a ∈ g'.ow (.s k)) ∨ ∃ i, xs[k]? = some (.b i) ∧ a ∈ hss[k]?.getD [] := fun k a h => by
    unfold entOf at h
    split at h
    · exact .inl ⟨_, by assumption, h⟩
    · exact .inr ⟨_, by assumption, h⟩
    · exact nomatch h
  have sb : ∀ (j k : Nat) i a, xs[k]? = some (.b i) → a ∈ hss[k]?.getD [] → a ∉ g'.ow (.s j) := fun j k i a hx hk hp => by
    obtain ⟨h1, h2, _⟩ := hld k i a hx hk
    exact (kp a h2 h1).2.2.1 _ hp
  have B : BkOk Z s.vs g'.F g'.γ g2.bo H' σ xs outs (insFrom (entOf g' hss xs) 0 xs.length) := by
    refine mk_bk (xs0 := xs) (outs0 := outs) (fun k i hx => ?_) (fun k i hx => ?_) (fun k t hx => by unfold entOf; rw [hx]) (fun k => by rw [Nat.zero_add]) (fun k => by rw [Nat.zero_add]) hb
    · have hk : k < vs.length := by rw [tk.l1, ← tk.l3]; exact (List.getElem?_eq_some_iff.mp hx).1
      have av : AOk Z g H σ vs[k] (.s i) := ha.get (List.getElem?_eq_getElem hk) hx
      refine ⟨vs[k], av, fun u hu => ?_⟩
      rw [ent_s k i hx]
      refine (rc.slot k u hu).imp_right fun ⟨v', e1, e2, _⟩ => ?_
      rw [List.getElem?_map, List.getElem?_eq_getElem hk] at e1
      cases e1
      exact e2
    · have hk : k < vs.length := by rw [tk.l1, ← tk.l3]; exact (List.getElem?_eq_some_iff.mp hx).1
      have av : AOk Z g H σ vs[k] (.b i) := ha.get (List.getElem?_eq_getElem hk) hx
      obtain ⟨t0, hs, e0, hu, e1, e2, tr, bo⟩ := tk.held k i vs[k] hx (List.getElem?_eq_getElem hk)
      refine ⟨vs[k], t0, av, e0, hu, ?_, bo.imp xc.sub fun a h => h⟩
      rw [ent_b k i hx, e1]
      refine tr.keep xc.sub xc.γ (fun a h => ?_) (bo.imp (Sub.refl _) fun a h => ?_)
      · obtain ⟨h1, h2, h3, _⟩ := hld k i a hx (by rw [e1]; exact h)
        exact ((kp a h2 h1).2.2.2 h3).2
      · refine (kp a (r.bor a h).1 fun p hp => ?_).1
        cases p with
        | s j => exact (tk.fre a (tk.sub a (flat_get hp))).2.2.2 h
        | o n => exact (r.bor a h).2 (.o n) hp
  have fr : ∀ a ∈ (insFrom (entOf g' hss xs) 0 xs.length).flatten, (afterG g2 g').F a = none ∧ H' a ≠ none ∧ (∀ p, a ∉ (afterG g2 g').ow p) ∧ a ∉ (afterG g2 g').bo := fun a h => by
    obtain ⟨k, _, h⟩ := mem_from h
    rcases ent_in k a h with ⟨i, hx, h⟩ | ⟨i, hx, h⟩
    · obtain ⟨q1, q2⟩ := rc.own _ a h
      have hfr : a ∈ css.flatten ∨ (∃ n, a ∈ g2.ow (.o n)) ∨ H a = none := by
        rcases xc.own _ a h with ⟨p, hp⟩ | e
        · cases p with
          | s j => exact .inl (flat_get hp)
          | o n => exact .inr (.inl ⟨n, hp⟩)
        · exact .inr (.inr e)
      refine ⟨q1, q2, fun p hp => ?_, fun hb => ?_⟩
      · cases p with
        | o n =>
          have := rc.dis (.s k) (.o n) a h hp
          cases this
        | s j =>
          have hp : a ∈ g2.ow (.s j) := hp
          rcases hfr with q | ⟨n, q⟩ | q
          · exact (tk.fre a (tk.sub a q)).1 _ hp
          · have := r.dis (.s j) (.o n) a hp q
            cases this
          · exact (r.own _ a hp).2 q
      · have hb : a ∈ g2.bo := hb
        rcases hfr with q | ⟨n, q⟩ | q
        · exact (tk.fre a (tk.sub a q)).2.2.2 hb
        · exact (r.bor a hb).2 _ q
        · exact (r.bor a hb).1 q
    · obtain ⟨h1, h2, h3, h4, h5⟩ := hld k i a hx h
      obtain ⟨_, k2, k3, k4⟩ := kp a h2 h1
      refine ⟨(k4 h3).1, k2, fun p hp => ?_, h4⟩
      cases p with
      | s j => exact h5 _ hp
      | o n => exact k3 _ hp
  have ndA : (insFrom (entOf g' hss xs) 0 xs.length).flatten.Nodup := nodup_from (fun k => by
    unfold entOf
    split
    · exact rc.nd _
    · cases e : hss[k]? with
      | none => exact List.nodup_nil
      | some hs =>
        exact flat_each tk.hnd e
    · exact List.nodup_nil) (fun j k a h1 h2 => by
    rcases ent_in j a h1 with ⟨i, hx, h1⟩ | ⟨i, hx, h1⟩ <;> rcases ent_in k a h2 with ⟨i', hx', h2⟩ | ⟨i', hx', h2⟩
    · have := rc.dis _ _ a h1 h2
      cases this
      rfl
    · exact absurd h1 (sb j k i' a hx' h2)
    · exact absurd h2 (sb k j i a hx h1)
    · exact flat_nd tk.hnd h1 h2) _ _
  obtain ⟨g3, r3, f1, f2, f3, f4⟩ := back_ok B ra rfl rfl rfl ndA fr hb
  · have inG : ∀ a, a ∈ (insFrom (entOf g' hss xs) 0 xs.length).flatten → (∃ q, a ∈ g.ow q) ∨ H a = none := fun a h => by
      obtain ⟨k, _, h⟩ := mem_from h
      rcases ent_in k a h with ⟨i, hx, h⟩ | ⟨i, hx, h⟩
      · rcases xc.own _ a h with ⟨p, hp⟩ | e
        · cases p with
          | s j => exact .inl (ow a (tk.sub a (flat_get hp)))
          | o n => exact x0.own (.o n) a hp
        · exact .inr e
      · exact .inl (ow a (flat_get h))
    refine ⟨g3, r3, ⟨by rw [f1]; exact xa.sub, by rw [f2]; exact xa.γ, xa.keep, fun p a h => ?_, fun a h => xa.frz a (by rw [f1] at h; exact h), by rw [f3]; exact xa.bo⟩, fun v t ib tm => ?_⟩
    · rcases f4 p a h with h | h
      · exact xa.own p a h
      · exact inG a h
    · obtain ⟨cs, ⟨t1, t2, t3, t4⟩, t5⟩ := tm
      have fo : ∀ a ∈ cs, (∃ q, a ∈ g.ow q) ∨ H a = none := fun a h => by
        rcases t5 a h with ⟨p, hp⟩ | e
        · cases p with
          | s j => exact .inl (ow a (tk.sub a (flat_get hp)))
          | o n => exact x0.own (.o n) a hp
        · exact .inr e
      have nown : ∀ a, (∀ p, a ∉ g'.ow p) → (∀ j, a ∉ g2.ow (.s j)) → (∀ (k : Nat) i, xs[k]? = some (A.b i) → a ∉ hss[k]?.getD []) → ∀ p, a ∉ g3.ow p := fun a n1 n2 n3 p hp => by
        rcases f4 p a hp with hp | hp
        · cases p with
          | s j => exact n2 _ hp
          | o n => exact n1 _ hp
        · obtain ⟨k, _, hp⟩ := mem_from hp
          rcases ent_in k a hp with ⟨i, hx, hp⟩ | ⟨i, hx, hp⟩
          · exact n1 _ hp
          · exact n3 k i hx hp
      have cs2 : ∀ a ∈ cs, (∀ j, a ∉ g2.ow (.s j)) ∧ a ∉ g2.bo ∧ ∀ (k : Nat) i, xs[k]? = some (A.b i) → a ∉ hss[k]?.getD [] := fun a h => by
        rcases t5 a h with ⟨p, hp⟩ | e
        · cases p with
          | s j =>
            obtain ⟨q1, q2, q3, q4⟩ := tk.fre a (tk.sub a (flat_get hp))
            exact ⟨fun j => q1 _, q4, fun k i hx hk => (hld k i a hx hk).1 _ hp⟩
          | o n =>
            have hp : a ∈ g2.ow (.o n) := hp
            refine ⟨fun p hq => ?_, fun hb => (r.bor a hb).2 _ hp, fun k i hx hk => (hld k i a hx hk).2.2.2.2 _ hp⟩
            have := r.dis _ _ a hp hq
            cases this
        · exact ⟨fun p hp => (r.own _ a hp).2 e, fun hb => (r.bor a hb).1 e, fun k i hx hk => (hld k i a hx hk).2.1 e⟩
      refine ⟨cs, ⟨by rw [f1, f2]; exact t1, t2, fun a h => ?_, ?_⟩, fo⟩
      · obtain ⟨q1, q2, q3, q4⟩ := t3 a h
        obtain ⟨c1, c2, c3⟩ := cs2 a h
        exact ⟨by rw [f1]; exact q1, q2, nown a q3 c1 c3, by rw [f3]; exact c2⟩
      · exact Bo.no ib
end
end EV
end PartEvCall3
section PartEvFn
set_option autoImplicit false
set_option linter.all false
set_option maxRecDepth 100000
/-! EvFn: arguments, calls of defs, defs. -/
namespace EV
open PySem PySem.Spec PyProof.Rows L2
def RdG1 (Z : Wd) (P : Pm) (W : Exn → S → Prop) (a : Ar) : TE := fun σ H Q => ∃ g s, Rel Z g s σ H ∧
  (evG P a s).sat (fun x s' => ∀ g' H' v, Rel Z g' s' σ H' → Ext g H g' H' → AOk Z g' H' σ v x → Q v H') W
def RdA (Z : Wd) (P : Pm) (W : Exn → S → Prop) (as : List Ar) : TA := fun σ H Q => ∃ g s, Rel Z g s σ H ∧
  (evA P as s).sat (fun xs s' => ∀ g' H' vs, Rel Z g' s' σ H' → Ext g H g' H' → AAll Z g' H' σ vs xs → Q vs H') W
section
variable {X : Cx} {Z : Wd} {P : Pm} {W : Exn → S → Prop} {a b : Expr} {ea eb : E} {ar : Ar} {ars : List Ar} {as : List Expr} {pos p : Pos} {i : Nat} {x : Str} {m : Md}
theorem pob_frz {g0 g : Gh} {H0 H : Hp} {s : S} {σ : L2.St} {v : V} {t : T} (tm : Tm Z g0 H0 g H v t) (h : pob t.frz = true) (r : Rel Z g s σ H) (x : Ext g0 H0 g H) : ∃ F', Rel Z (g.fr F') s σ H ∧ Ext g0 H0 (g.fr F') H ∧ Tmp Z (g.fr F') H v t.frz [] := by
  have pl : ∀ {d : D}, t.dat = some d → t.frz = .pl d → ∃ F', Rel Z (g.fr F') s σ H ∧ Ext g0 H0 (g.fr F') H ∧ Tmp Z (g.fr F') H v t.frz [] := fun {d} e1 e2 => by
    obtain ⟨F', r2, x2, s2, pd⟩ := tm.freeze e1 r x
    exact ⟨F', r2, x2, by rw [e2]; exact Tmp.pl pd⟩
  cases t <;> first | (cases h; done) | skip
  · exact pl rfl rfl
  · exact pl rfl rfl
  · exact pl rfl rfl
  · rename_i n
    obtain ⟨cs, ⟨t1, t2, t3, t4⟩, _⟩ := tm
    obtain rfl := t1.noCs rfl
    exact ⟨g.F, r, x, t1, t2, t3, t4⟩
theorem rg_e (ha : PE X a (RdE Z P W ea .e)) : PE X a (RdG1 Z P W (.e ea)) := ha.imp fun σ H Q ⟨g, s, r, h⟩ => by
  unfold evG at h
  rw [sat_bd] at h
  refine ⟨g, s, r, h.imp fun t s1 h1 g1 H1 v r1 x1 k1 => ?_⟩
  split at h1
  · rename_i hp
    obtain ⟨F', r2, x2, tm⟩ := pob_frz (Kd.tm k1) hp r1 x1
    exact h1 _ H1 v r2 x2 tm
  · exact h1.elim
theorem rg_be (ha : PE X a (RdE Z P W ea .v)) : PE X a (RdG1 Z P W (.be ea)) := ha.imp fun σ H Q ⟨g, s, r, h⟩ => by
  unfold evG at h
  rw [sat_bd] at h
  refine ⟨g, s, r, h.imp fun t s1 h1 g1 H1 v r1 x1 k1 => ?_⟩
  split at h1
  · rename_i hp
    rw [Bool.and_eq_true] at hp
    obtain ⟨cs, ⟨t1, t2, t3, t4⟩, _⟩ := k1.tmpE hp.1
    refine h1 g1 H1 v r1 x1 ⟨t1.bor r1.frz hp.2, List.nodup_nil, (fun _ h => nomatch h), fun a e ib => ?_⟩
    subst e
    cases t1 with
    | pl p =>
      cases p with
      | lst e r => exact .inl ⟨(by rw [r1.frz.lst e]; exact fun z => nomatch z), (fun p hp => by rw [(r1.own p _ hp).1] at e; cases e)⟩
      | dic e r => exact .inl ⟨(fun z => by rw [r1.frz.no z] at e; cases e), (fun p hp => by rw [(r1.own p _ hp).1] at e; cases e)⟩
      | tup e r => cases ib
    | ol e r => exact .inl ⟨(t3 _ (by simp)).2.1, (t3 _ (by simp)).2.2.1⟩
    | od e r => exact .inl ⟨(t3 _ (by simp)).2.1, (t3 _ (by simp)).2.2.1⟩
    | kl e r => rcases t4 _ rfl rfl with h | ⟨_, _, _, _, z⟩; exact .inl h; cases z
    | kd e r => rcases t4 _ rfl rfl with h | ⟨_, _, _, _, z⟩; exact .inl h; cases z
    | bl e r => rcases t4 _ rfl rfl with h | ⟨_, _, _, _, z⟩; exact .inl h; cases z
    | bd e r => rcases t4 _ rfl rfl with h | ⟨_, _, _, _, z⟩; exact .inl h; cases z
    | sl e r => rcases t4 _ rfl rfl with h | ⟨xs, ds, k, p, z⟩; exact .inl h; exact .inr ⟨xs, ds, k, p, z⟩
    | ob e => cases ib
    | os _ => cases ib
    | nl _ _ => cases ib
    | nd _ _ => cases ib
    | nt _ _ => cases ib
  · exact h1.elim
theorem rg_b (hN : X.N[i]? = some x) (hv : Vis X.env.scope x) (hd : (x == ("__debug__" : Str)) = false) (hcd : (x == ("__classdict__" : Str)) = false) : PE X (.Name x p) (RdG1 Z P W (.b i)) :=
  (pe_var hN hv hd hcd).imp fun σ H Q ⟨g, s, r, h⟩ => by
    unfold evG at h
    split at h
    · rename_i t e
      split at h
      · rename_i ok
        obtain ⟨v, e1, _⟩ := r.pl e (fun z => by subst z; cases ok)
        exact ⟨v, e1, h g H v r (Ext.refl _ _) e1⟩
      · exact h.elim
    · exact h.elim
theorem slotE_pob {s : S} {K : T → S → Prop} (h : (slotE i s).sat K W) : (slotE i s).sat (fun t s => pob t = true ∧ K t s) W := by
  unfold slotE at h ⊢
  split at h <;> first | exact h.elim | exact ⟨rfl, h⟩
theorem rg_s (hN : X.N[i]? = some x) (hv : Vis X.env.scope x) (hd : (x == ("__debug__" : Str)) = false) (hcd : (x == ("__classdict__" : Str)) = false) : PE X (.Name x p) (RdG1 Z P W (.s i)) :=
  (pe_var hN hv hd hcd).imp fun σ H Q ⟨g, s, r, h⟩ => by
    unfold evG at h
    split at h
    · rename_i t e
      split at h
      · rename_i ok
        obtain ⟨v, e1, _⟩ := r.pl e (lent_b ok).2
        exact ⟨v, e1, h g H v r (Ext.refl _ _) e1⟩
      · rename_i nl
        rw [sat_bd] at h
        obtain ⟨v, t', g', s', e1, ⟨hp, h⟩, r', x', tm⟩ := slotE_ok r (slotE_pob h)
        refine ⟨v, e1, h g' H v r' x' ?_⟩
        obtain ⟨cs, t1, _⟩ := tm
        obtain rfl := t1.1.noCs hp
        exact t1
    · exact h.elim
theorem rda_nil : PA X [] (RdA Z P W []) := pa_nil.imp fun σ H Q ⟨g, s, r, h⟩ => h g H [] r (Ext.refl _ _) .nil
theorem rda_cons (ha : PE X a (RdG1 Z P W ar)) (hr : PA X as (RdA Z P W ars)) (hs : noStar a = true) : PA X (a :: as) (RdA Z P W (ar :: ars)) :=
  (pa_cons ha hr (starEach_cons hs)).imp fun σ H Q ⟨g, s, r, h⟩ => by
    unfold evA at h
    rw [sat_bd] at h
    refine ⟨g, s, r, h.imp fun y s1 h1 g1 H1 v r1 x1 k1 => ?_⟩
    rw [sat_bd] at h1
    exact ⟨g1, s1, r1, h1.imp fun ys s2 h2 g2 H2 vs r2 x2 k2 => h2 g2 H2 (v :: vs) r2 (x1.trans x2) (.cons (k1.ext x2) k2)⟩
end
/-! ### longer, shorter -/
section
variable {Z : Wd} {g : Gh} {H : Hp} {ts ts' : List T} {os : List O} {σ σ' : L2.St}
theorem Rel.grow {n : Nat} (r : Rel Z g ⟨ts, os⟩ σ H) : Rel Z g ⟨ts ++ List.replicate n .un, os⟩ (σ ++ List.replicate n none) H := by
  have hl : ts.length = σ.length := r.len
  refine ⟨by simp [hl], fun i t h => ?_, fun i h => ?_, r.glen, r.obj, r.oemp, r.frz, r.own, r.dis, r.nd, r.bor⟩
  · have h : (ts ++ List.replicate n T.un)[i]? = some t := h
    by_cases c : i < ts.length
    · rw [List.getElem?_append_left c] at h
      rw [List.getElem?_append_left (by rw [← hl]; exact c)]
      exact r.slot i t h
    · rw [List.getElem?_append_right (by omega), List.getElem?_replicate] at h
      split at h
      · cases h; exact .inl rfl
      · cases h
  · have h : (ts ++ List.replicate n T.un)[i]? = some .un ∨ (ts ++ List.replicate n T.un)[i]? = none := h
    by_cases c : i < ts.length
    · rw [List.getElem?_append_left c] at h
      exact r.emp i h
    · exact r.emp i (.inr (List.getElem?_eq_none_iff.mpr (by show ts.length ≤ i; omega)))
theorem Rel.growP {vs dvs : List V} {dds : List D} (r : Rel Z g ⟨ts, os⟩ (vs.map some) H) (p : PdAll Z.K g.F dvs dds) : Rel Z g ⟨ts ++ dds.map .pl, os⟩ ((vs ++ dvs).map some) H := by
  have hl : ts.length = vs.length := by have := r.len; simpa using this
  have hp := p.length
  refine ⟨by simp [hl, hp], fun i t h => ?_, fun i h => ?_, r.glen, r.obj, r.oemp, r.frz, r.own, r.dis, r.nd, r.bor⟩
  · have h : (ts ++ dds.map T.pl)[i]? = some t := h
    rw [List.map_append]
    by_cases c : i < ts.length
    · rw [List.getElem?_append_left c] at h
      rw [List.getElem?_append_left (by simp; omega)]
      exact r.slot i t h
    · rw [List.getElem?_append_right (by omega), List.getElem?_map] at h
      obtain ⟨d, e, rfl⟩ := Option.map_eq_some_iff.mp h
      obtain ⟨v, e1, pd⟩ := p.get e
      refine .inr ⟨v, ?_, ?_, Bo.no rfl⟩
      · rw [List.getElem?_append_right (by simp; omega), List.getElem?_map]
        rw [show i - (vs.map some).length = i - ts.length by simp [hl], e1]
        rfl
      · rw [r.emp i (.inr (List.getElem?_eq_none_iff.mpr (by show ts.length ≤ i; omega)))]
        exact .pl pd
  · have h : (ts ++ dds.map T.pl)[i]? = some .un ∨ (ts ++ dds.map T.pl)[i]? = none := h
    by_cases c : i < ts.length
    · rw [List.getElem?_append_left c] at h
      exact r.emp i h
    · exact r.emp i (.inr (List.getElem?_eq_none_iff.mpr (by show ts.length ≤ i; omega)))
theorem Rel.shrink (r : Rel Z g ⟨ts ++ ts', os⟩ (σ ++ σ') H) (hl : ts.length = σ.length) (hu : ∀ t ∈ ts', t = .un) : Rel Z g ⟨ts, os⟩ σ H := by
  refine ⟨hl, fun i t h => ?_, fun i h => ?_, r.glen, r.obj, r.oemp, r.frz, r.own, r.dis, r.nd, r.bor⟩
  · have h : ts[i]? = some t := h
    have c : i < ts.length := (List.getElem?_eq_some_iff.mp h).1
    have := r.slot i t (by show (ts ++ ts')[i]? = _; rw [List.getElem?_append_left c]; exact h)
    rw [List.getElem?_append_left (by rw [← hl]; exact c)] at this
    exact this
  · have h : ts[i]? = some .un ∨ ts[i]? = none := h
    refine r.emp i ?_
    show (ts ++ ts')[i]? = some .un ∨ (ts ++ ts')[i]? = none
    by_cases c : i < ts.length
    · rw [List.getElem?_append_left c]; exact h
    · rw [List.getElem?_append_right (by omega)]
      cases e : ts'[i - ts.length]? with
      | none => exact .inr rfl
      | some t => rw [hu t (List.mem_of_getElem? e)]; exact .inl rfl
theorem outsOf_get : ∀ {ts us : List T} {j : Nat}, (outsOf ts us)[j]? = ts[j]?.map fun t => if lent t then us[j]?.getD .un else .un
  | [], us, j => by simp [outsOf]
  | t :: ts, [], 0 => by simp [outsOf]
  | t :: ts, u :: us, 0 => by simp [outsOf]
  | t :: ts, [], j + 1 => by
    show (outsOf ts [])[j]? = _
    rw [outsOf_get]
    simp
  | t :: ts, u :: us, j + 1 => by
    show (outsOf ts us)[j]? = _
    rw [outsOf_get]
    simp
theorem outsOf_len : ∀ {ts us : List T}, (outsOf ts us).length = ts.length
  | [], _ => rfl
  | t :: ts, us => congrArg Nat.succ outsOf_len
theorem fixOf_has : ∀ {ts : List T} {k j : Nat} {t : T}, ts[j]? = some t → lent t = true → (fixOf k ts).contains (k + j) = true
  | [], _, _, _, h, _ => by simp at h
  | u :: ts, k, 0, t, h, hl => by
    cases h
    unfold fixOf
    rw [if_pos hl]
    simp
  | u :: ts, k, j + 1, t, h, hl => by
    have := fixOf_has (k := k + 1) (j := j) (t := t) (by simpa using h) hl
    unfold fixOf
    split
    · rw [show k + (j + 1) = k + 1 + j by omega]
      simp only [List.contains_cons, this, Bool.or_true]
    · rw [show k + (j + 1) = k + 1 + j by omega]
      exact this
end
end EV
end PartEvFn
section PartEvFn2
set_option autoImplicit false
set_option linter.all false
set_option maxRecDepth 100000
/-! EvFn2: defs and their calls. -/
namespace EV
open PySem PySem.Spec PyProof.Rows L2
def Gh.leave (g : Gh) (ts : List T) : Gh := { g with ow := fun p => match p with
  | .s j => if ts[j]?.map lent = some true then g.ow (.s j) else []
  | .o n => g.ow (.o n) }
theorem Gh.leave_sub {g : Gh} {ts : List T} {p : Ow} {a : Addr} (h : a ∈ (g.leave ts).ow p) : a ∈ g.ow p := by
  cases p with
  | s j =>
    have h : a ∈ (if ts[j]?.map lent = some true then g.ow (.s j) else []) := h
    split at h
    · exact h
    · exact nomatch h
  | o n => exact h
section
variable {Z : Wd} {g g' : Gh} {H H' : Hp} {ts : List T} {vs : List V} {s' : S} {σ0 σ' : L2.St}
theorem Rel.leave (r : Rel Z g' s' σ' H') (hl : ts.length = vs.length) (h0 : ∀ (j : Nat) v, vs[j]? = some v → σ0[j]? = some (some v)) (fx : Fx (fixOf 0 ts) σ0 σ') : Rel Z (g'.leave ts) ⟨outsOf ts s'.vs, s'.os⟩ (vs.map some) H' := by
  refine ⟨by simp [outsOf_len, hl], fun j u h => ?_, fun j h => ?_, r.glen, r.obj, r.oemp, r.frz, fun p a h => r.own p a (Gh.leave_sub h), fun p q a h1 h2 => r.dis p q a (Gh.leave_sub h1) (Gh.leave_sub h2), fun p => ?_, fun a h => ⟨(r.bor a h).1, fun p hp => (r.bor a h).2 p (Gh.leave_sub hp)⟩⟩
  · have h : (outsOf ts s'.vs)[j]? = some u := h
    rw [outsOf_get] at h
    obtain ⟨t, ht, e⟩ := Option.map_eq_some_iff.mp h
    split at e
    · rename_i hn
      cases hu : s'.vs[j]? with
      | none => rw [hu] at e; exact .inl e.symm
      | some w =>
        rw [hu] at e
        have e : w = u := e
        subst e
        refine (r.slot j w hu).imp_right fun ⟨v', e1, e2, e3⟩ => ?_
        have hj : j < vs.length := by rw [← hl]; exact (List.getElem?_eq_some_iff.mp ht).1
        have hf := fx.2 j (by have := fixOf_has (k := 0) ht hn; rwa [Nat.zero_add] at this)
        rw [h0 j vs[j] (List.getElem?_eq_getElem hj), e1] at hf
        cases hf
        refine ⟨vs[j], by rw [List.getElem?_map, List.getElem?_eq_getElem hj]; rfl, ?_, e3⟩
        show Tr Z g'.F g'.γ H' vs[j] w (if ts[j]?.map lent = some true then g'.ow (.s j) else [])
        rw [if_pos (by rw [ht]; simp [hn])]
        exact e2
    · exact .inl e.symm
  · show (if ts[j]?.map lent = some true then g'.ow (.s j) else []) = []
    split
    · rename_i hn
      obtain ⟨t, ht, hn⟩ := Option.map_eq_some_iff.mp hn
      have h : (outsOf ts s'.vs)[j]? = some .un ∨ (outsOf ts s'.vs)[j]? = none := h
      rw [outsOf_get, ht] at h
      simp only [Option.map_some, hn, if_true] at h
      rcases h with h | h
      · refine r.emp j ?_
        cases hu : s'.vs[j]? with
        | none => exact .inr rfl
        | some w => rw [hu] at h; exact .inl (by simpa using h)
      · cases h
    · rfl
  · cases p with
    | s j =>
      show (if ts[j]?.map lent = some true then g'.ow (.s j) else []).Nodup
      split
      · exact r.nd _
      · exact List.nodup_nil
    | o n => exact r.nd _
theorem Ext.leave (x : Ext g H g' H') : Ext g H (g'.leave ts) H' := ⟨x.sub, x.γ, x.keep, fun p a h => x.own p a (Gh.leave_sub h), x.frz, x.bo⟩
theorem Tm.leave {v : V} {t : T} (h : Tm Z g H g' H' v t) : Tm Z g H (g'.leave ts) H' v t := by
  obtain ⟨cs, ⟨t1, t2, t3, t4⟩, t5⟩ := h
  exact ⟨cs, ⟨t1, t2, fun a ha => ⟨(t3 a ha).1, (t3 a ha).2.1, fun p hp => (t3 a ha).2.2.1 p (Gh.leave_sub hp), (t3 a ha).2.2.2⟩, t4.imp (Sub.refl _) fun a h => ⟨h.1, fun p hp => h.2 p (Gh.leave_sub hp)⟩⟩, t5⟩
end
/-- no exception -/
def noX : Exn → S → Prop := fun _ _ => False
theorem start_get {N : List Str} {vs : List V} {j : Nat} {v : V} (h : vs[j]? = some v) : (L2.start N vs)[j]? = some (some v) := by
  unfold L2.start
  rw [List.getElem?_append_left (by simpa using (List.getElem?_eq_some_iff.mp h).1), List.getElem?_map, h]
  rfl
/-- a def keeps what the interpreter says -/
theorem fn_ok {CX : CXT} {P : Program} {w : World} {K : PySem.W.Frag} {mg : Str → Option Value} {base : Heap} {k : Nat} {x qual : Str} {params : Arguments} {body : List Stmt} {scope : Scope} {dvs : List V} {kws : List (Str × V)} {f : Addr} {fd : FuncData} {N ps : List Str} {Z : Wd} {Pr : Pm} {fi : FD}
    (F : FunD K x qual params body scope dvs kws f fd) (S : FnScope N ps scope) (hn : fi.n = N.length)
    (hbody : ∀ (cdv : Value) (A : Around) (outer : List Env) (s : Shared) (H : Hp) (E : XK) (fix : List Nat), Room k (A.deeper (envOfC qual scope s.heap.objs.size f cdv)) → PSs (cxOf CX P w K mg base N qual scope f cdv A outer s H E) body (RdSs Z { Pr with fix := fix } noX fi.body)) :
    FnOk P w K mg base CX (k + 1) f fd ps (SpF Z ps.length fun ts os => runF Pr fi ts os) := by
  refine F.ok S (fun vs H Q E h => h.1) fun cdv A outer s H vs Q E hr ⟨hl, g, ts, os, r, h⟩ => ⟨_, hbody cdv A outer s H E (fixOf 0 ts) hr, ?_⟩
  have hlen : ts.length = vs.length := by have := r.len; simpa using this
  refine ⟨g, ⟨ts ++ List.replicate (fi.n - ts.length) .un, os⟩, by unfold L2.start; rw [← hn, ← hlen]; exact r.grow, ?_⟩
  dsimp only [runF] at h
  cases he : exCs { Pr with fix := fixOf 0 ts } fi.body ⟨ts ++ List.replicate (fi.n - ts.length) .un, os⟩ with
  | bad => rw [he] at h; exact h.elim
  | ex y s' => rw [he] at h; exact h.elim
  | ok fl s' =>
    rw [he] at h
    have lv : ∀ {g' : Gh} {σ' : L2.St} {H' : Hp}, Rel Z g' s' σ' H' → Fx (fixOf 0 ts) (L2.start N vs) σ' → Rel Z (g'.leave ts) ⟨outsOf ts s'.vs, s'.os⟩ (vs.map some) H' := fun r' fx => r'.leave hlen (fun j v e => start_get e) fx
    cases fl with
    | nx => exact fun g' σ' H' r' x' fx => h _ H' .non (lv r' fx) x'.leave (Tm.pl .non)
    | rt t => exact fun g' σ' H' r' x' fx v tm => h _ H' v (lv r' fx) x'.leave tm.leave
    | br => exact h.elim
    | ct => exact h.elim
section
variable {X : Cx} {Z : Wd} {P : Pm} {a : Expr} {ars : List Ar} {as : List Expr} {pos p : Pos} {x : Str} {m : Md} {CX : CXT} {k : Nat} {f : Addr} {fd : FuncData} {ps : List Str} {dvs : List V} {ds : List Value}
theorem back_app {vs0 : List T} {more : List T} : ∀ {xs : List A} {o1 : List T} {s : S}, xs.length = o1.length → back vs0 xs (o1 ++ more) s = back vs0 xs o1 s
  | [], [], s, _ => by cases more <;> rfl
  | .v t :: xs, u :: o1, s, h => by
    show back vs0 xs (o1 ++ more) s = back vs0 xs o1 s
    exact back_app (by simpa using h)
  | .s i :: xs, u :: o1, s, h => by
    show back vs0 (.s i :: xs) (u :: (o1 ++ more)) s = back vs0 (.s i :: xs) (u :: o1) s
    unfold back
    rw [back_app (xs := xs) (o1 := o1) (by simpa using h), back_app (xs := xs) (o1 := o1) (by simpa using h)]
  | .b i :: xs, u :: o1, s, h => by
    show back vs0 (.b i :: xs) (u :: (o1 ++ more)) s = back vs0 (.b i :: xs) (u :: o1) s
    unfold back
    cases vs0[i]? with
    | none => rfl
    | some t => exact back_app (by simpa using h)
theorem take_len : ∀ {xs : List A} {s s2 : S} {ts : List T}, take xs s = some (ts, s2) → xs.length = ts.length
  | [], _, _, _, h => by cases h; rfl
  | .v t :: xs, s, s2, ts, h => by
    obtain ⟨⟨ts', s'⟩, h1, h2⟩ := Option.map_eq_some_iff.mp (show (take xs s).map _ = some (ts, s2) from h)
    cases h2
    exact congrArg Nat.succ (take_len h1)
  | .s i :: xs, s, s2, ts, h => by
    unfold take at h
    split at h
    · split at h
      · obtain ⟨⟨ts', s'⟩, h1, h2⟩ := Option.map_eq_some_iff.mp h
        cases h2
        exact congrArg Nat.succ (take_len h1)
      · cases h
    · cases h
  | .b i :: xs, s, s2, ts, h => by
    unfold take at h
    split at h
    · split at h
      · obtain ⟨⟨ts', s'⟩, h1, h2⟩ := Option.map_eq_some_iff.mp h
        cases h2
        exact congrArg Nat.succ (take_len h1)
      · cases h
    · cases h
theorem drop_un : ∀ {ts : List T} {dds : List D} {us : List T}, (∀ t ∈ (outsOf (ts ++ dds.map .pl) us).drop ts.length, t = .un) := by
  intro ts dds us t h
  obtain ⟨j, hj⟩ := List.mem_iff_getElem?.mp h
  rw [List.getElem?_drop, outsOf_get, List.getElem?_append_right (by omega), List.getElem?_map] at hj
  obtain ⟨u, e, rfl⟩ := Option.map_eq_some_iff.mp hj
  obtain ⟨d, _, rfl⟩ := Option.map_eq_some_iff.mp e
  rfl
/-- the outs of a run are as many as its arguments -/
theorem runF_outs {Pr : Pm} {fi : FD} {ts : List T} {os : List O} {t : T} {outs : List T} {os' : List O} (h : runF Pr fi ts os = .ok t outs os') : ∃ us, outs = outsOf ts us := by
  unfold runF at h
  split at h <;> cases h <;> exact ⟨_, rfl⟩
/-- f(e, ..); the defaults dvs fill up -/
theorem evA_len : ∀ {ars : List Ar} {s : S} {K : List A → S → Prop} {W : Exn → S → Prop}, (evA P ars s).sat K W → (evA P ars s).sat (fun xs s' => xs.length = ars.length ∧ K xs s') W
  | [], s, K, W, h => ⟨rfl, h⟩
  | e :: es, s, K, W, h => by
    unfold evA at h ⊢
    rw [sat_bd] at h ⊢
    refine h.imp fun d s1 h1 => ?_
    rw [sat_bd] at h1 ⊢
    exact (evA_len h1).imp fun ds s2 ⟨e2, h2⟩ => ⟨by simp [e2], h2⟩
theorem call_core {cr : List T → List O → CRes} (hout : ∀ ts os t outs os', cr ts os = .ok t outs os' → ∃ us, outs = outsOf ts us) {fn : String} {dds : List D} {np : Nat} {E : XK} (hnp : ars.length + dds.length = np) (hcal : ∀ ts os, ts.length = ars.length → P.cal fn ts [] [] os = cr (ts ++ dds.map .pl) os) (hdv : ∀ F, PdAll Z.K F dvs dds)
    (σ : L2.St) (H : Hp) (Q : VK) (h : RdE Z P noX (.call fn ars [] []) m σ H Q) : tCall (SpF Z np cr) dvs E (RdA Z P noX ars) σ H Q := by
  obtain ⟨g, s, r, h⟩ := h
  unfold ev at h
  rw [sat_bd] at h
  refine ⟨g, s, r, (evA_len h).imp fun xs s1 ⟨hxl, h1⟩ g1 H1 vs r1 x1 k1 => ?_⟩
  unfold evL at h1
  simp only [bd_ok, List.map_nil] at h1
  unfold calls at h1
  cases ht : take xs s1 with
  | none => rw [ht] at h1; exact h1.elim
  | some tp =>
    obtain ⟨ts, s2⟩ := tp
    rw [ht] at h1
    have hlx := take_len ht
    have htl : ts.length = ars.length := by rw [← hlx, hxl]
    simp only [hcal ts _ htl] at h1
    split at h1
    · rename_i t outs os' hr
      have hr : cr (ts ++ dds.map T.pl) s2.os = .ok t outs os' := hr
      split at h1
      · rename_i ok
        cases hb : back s1.vs xs outs { s2 with os := os' } with
        | none => rw [hb] at h1; exact h1.elim
        | some s3 =>
          rw [hb] at h1
          obtain ⟨gc, rc, fin⟩ := call_rel r1 k1 ht
          have hvl : vs.length = ts.length := by have := rc.len; simpa using this.symm
          refine ⟨by rw [List.length_append, hvl, (hdv (fun _ => none)).length, htl]; exact hnp, gc, ts ++ dds.map .pl, s2.os, rc.growP (hdv _), ?_⟩
          rw [hr]
          intro g' H' v rr xx tm
          obtain ⟨us, eo⟩ := hout _ _ _ _ _ hr
          have e1 : outs = outs.take ts.length ++ outs.drop ts.length := (List.take_append_drop _ _).symm
          have hlo : outs.length = ts.length + dds.length := by rw [eo, outsOf_len, List.length_append, List.length_map]
          have hlt : (outs.take ts.length).length = ts.length := by rw [List.length_take]; omega
          rw [e1, back_app (by rw [hlx, hlt])] at hb
          rw [e1, List.map_append] at rr
          have r4 := rr.shrink (by rw [hlt]; simp [hvl]) (by rw [eo]; exact drop_un)
          obtain ⟨g3, r3, x3, tm3⟩ := fin g' H' _ os' s3 r4 xx hb
          obtain ⟨ib, _⟩ := slotOk_b ok
          exact h1 g3 H' v r3 (x1.trans x3) (Kd.of ((tm3 v t ib tm).pre x1) (by intro i z; cases z))
      · exact h1.elim
    · rename_i y outs os' hr
      split at h1
      · exact h1.elim
      · exact h1.elim
    · exact h1.elim
theorem rd_call {cr : List T → List O → CRes} (hout : ∀ ts os t outs os', cr ts os = .ok t outs os' → ∃ us, outs = outsOf ts us) {fn : String} {dds : List D} {np : Nat} {E : XK} (hnp : ars.length + dds.length = np) (hcal : ∀ ts os, ts.length = ars.length → P.cal fn ts [] [] os = cr (ts ++ dds.map .pl) os) (hdv : ∀ F, PdAll Z.K F dvs dds)
    (F : FnOk X.prog X.w X.K X.mg X.base CX k f fd ps (SpF Z np cr)) (hr : Room k X.A) (hg : Gl X x) (hm : X.mg x = some (.ref f)) (hk : PySem.W.keepIn X.K (.ref f) = true) (hb : Binds X.K fd ps ds) (hd : Vals dvs ds) (hx : Passes CX X E)
    (ha : PA X (a :: as) (RdA Z P noX ars)) (hdb : (x == ("__debug__" : Str)) = false) (hs : (a :: as).all noStar = true) : PE X (.Call (.Name x p) (a :: as) [] pos) (RdE Z P noX (.call fn ars [] []) m) := by
  have hs' := hs
  rw [List.all_cons, Bool.and_eq_true] at hs'
  exact (pe_call F hr hg hm hk hb hd hx ha hdb (starEach_cons hs'.1) (backTo_any hs'.2)).imp fun σ H Q h => call_core hout hnp hcal hdv σ H Q h
end
end EV
end PartEvFn2
section PartEvComp
set_option autoImplicit false
set_option linter.all false
set_option maxRecDepth 100000
/-! EvComp: comprehensions. -/
namespace EV
open PySem PySem.Spec PyProof.Rows L2
section
variable {Z : Wd} {g g0 g1 g2 : Gh} {H H0 H1 H2 : Hp} {s s1 s2 : S} {σ σ1 : L2.St} {D : Addr} {o : HO} {own : List Nat} {vs : List T}
/-- a slot that is empty may hold anything -/
theorem Rel.reσ {i : Nat} {x : Option V} (r : Rel Z g s σ H) (h : s.vs[i]? = some .un ∨ s.vs[i]? = none) : Rel Z g s (σ.set i x) H := by
  refine ⟨by rw [List.length_set]; exact r.len, fun j t e => ?_, r.emp, r.glen, r.obj, r.oemp, r.frz, r.own, r.dis, r.nd, r.bor⟩
  by_cases c : i = j
  · subst c
    rcases h with h | h
    · rw [h] at e; cases e; exact .inl rfl
    · rw [h] at e; cases e
  · rw [List.getElem?_set_ne c]
    exact r.slot j t e
theorem setSlots_os : ∀ {own : List Nat} {s : S} {t : T}, (setSlots s own t).os = s.os
  | [], _, _ => rfl
  | i :: r, s, t => by unfold setSlots; rw [setSlots_os]
theorem setSlots_len : ∀ {own : List Nat} {s : S} {t : T}, (setSlots s own t).vs.length = s.vs.length
  | [], _, _ => rfl
  | i :: r, s, t => by unfold setSlots; rw [setSlots_len]; simp
theorem setSlots_get : ∀ {own : List Nat} {s : S} {j : Nat}, (setSlots s own .un).vs[j]? = if own.contains j then s.vs[j]?.map fun _ => T.un else s.vs[j]?
  | [], s, j => by simp [setSlots]
  | i :: r, s, j => by
    unfold setSlots
    rw [setSlots_get]
    by_cases c : i = j
    · subst c
      simp only [List.contains_cons, beq_self_eq_true, Bool.true_or, if_true]
      rw [List.getElem?_set]
      simp only [if_true]
      by_cases h : i < s.vs.length
      · rw [if_pos h, List.getElem?_eq_getElem h]; split <;> rfl
      · rw [if_neg h, List.getElem?_eq_none_iff.mpr (by omega)]; split <;> rfl
    · have : (i :: r).contains j = r.contains j := by
        simp only [List.contains_cons]
        have : (j == i) = false := beq_eq_false_iff_ne.mpr (Ne.symm c)
        rw [this, Bool.false_or]
      rw [this]
      show (if r.contains j then (s.vs.set i T.un)[j]?.map _ else (s.vs.set i T.un)[j]?) = _
      rw [List.getElem?_set_ne c]
/-- the own slots are emptied -/
theorem Rel.wiped : ∀ {own : List Nat} {g : Gh} {s : S} {σ : L2.St}, Rel Z g s σ H → ∃ g', Rel Z g' (setSlots s own .un) σ H ∧ Ext g H g' H ∧ g'.F = g.F ∧ ∀ p a, a ∈ g'.ow p → a ∈ g.ow p
  | [], g, s, σ, r => ⟨g, r, Ext.refl _ _, rfl, fun _ _ h => h⟩
  | i :: own, g, s, σ, r => by
    obtain ⟨r1, x1⟩ := r.free i
    obtain ⟨g', r2, x2, eF, sb⟩ := Rel.wiped (own := own) r1
    exact ⟨g', r2, x1.trans x2, eF, fun p a h => (Gh.free_mem (sb p a h)).2⟩
theorem wipe_get {σ : L2.St} {j : Nat} : ∀ {own : List Nat}, (L2.wipe σ own)[j]? = if own.contains j then σ[j]?.map fun _ => none else σ[j]?
  | [] => by simp [L2.wipe]
  | i :: r => by
    unfold L2.wipe
    by_cases c : i = j
    · subst c
      simp only [List.contains_cons, beq_self_eq_true, Bool.true_or, if_true]
      rw [List.getElem?_set]
      simp only [if_true]
      by_cases h : i < σ.length
      · rw [if_pos (by rw [wipe_length]; exact h), List.getElem?_eq_getElem h]; rfl
      · rw [if_neg (by rw [wipe_length]; exact h), List.getElem?_eq_none_iff.mpr (by omega)]; rfl
    · have : (i :: r).contains j = r.contains j := by
        simp only [List.contains_cons]
        have : (j == i) = false := beq_eq_false_iff_ne.mpr (Ne.symm c)
        rw [this, Bool.false_or]
      rw [List.getElem?_set_ne c, wipe_get, this]
theorem Rel.wipeσ (r : Rel Z g s σ H) (h : ∀ j, own.contains j = true → s.vs[j]? = some .un ∨ s.vs[j]? = none) : Rel Z g s (L2.wipe σ own) H := by
  refine ⟨by rw [wipe_length]; exact r.len, fun j t e => ?_, r.emp, r.glen, r.obj, r.oemp, r.frz, r.own, r.dis, r.nd, r.bor⟩
  by_cases c : own.contains j = true
  · rcases h j c with h | h
    · rw [h] at e; cases e; exact .inl rfl
    · rw [h] at e; cases e
  · rw [wipe_get, if_neg c]
    exact r.slot j t e
theorem setSlots_un {j : Nat} (h : own.contains j = true) : (setSlots s own .un).vs[j]? = some .un ∨ (setSlots s own .un).vs[j]? = none := by
  rw [setSlots_get, if_pos h]
  cases s.vs[j]? with
  | none => exact .inr rfl
  | some t => exact .inl rfl
/-- .. at the turn's start -/
theorem Rel.wipeT (r : Rel Z g s σ1 H) (e : L2.wipe σ1 own = L2.wipe σ own) : ∃ g', Rel Z g' (setSlots s own .un) (L2.wipe σ own) H ∧ Ext g H g' H ∧ g'.F = g.F ∧ ∀ p a, a ∈ g'.ow p → a ∈ g.ow p := by
  obtain ⟨g', r1, x1, eF, sb⟩ := r.wiped (own := own)
  exact ⟨g', by rw [← e]; exact r1.wipeσ fun j h => setSlots_un h, x1, eF, sb⟩
theorem wipe_same {fix : List Nat} {σ2 : L2.St} {n : Nat} (hn : n = σ1.length) (f : Fx (fixC n own fix) σ1 σ2) : L2.wipe σ2 own = L2.wipe σ1 own := by
  refine List.ext_getElem? fun j => ?_
  rw [wipe_get, wipe_get]
  by_cases c : own.contains j = true
  · rw [if_pos c, if_pos c]
    by_cases h : j < σ1.length
    · rw [List.getElem?_eq_getElem h, List.getElem?_eq_getElem (by rw [f.1]; exact h)]; rfl
    · rw [List.getElem?_eq_none_iff.mpr (by rw [f.1]; omega), List.getElem?_eq_none_iff.mpr (by omega)]
  · rw [if_neg c, if_neg c]
    by_cases h : j < σ1.length
    · refine f.2 j ?_
      unfold fixC
      rw [List.contains_iff_mem]
      refine List.mem_append_left _ (List.mem_filter.mpr ⟨List.mem_range.mpr (by omega), ?_⟩)
      simpa using c
    · rw [List.getElem?_eq_none_iff.mpr (by rw [f.1]; omega), List.getElem?_eq_none_iff.mpr (by omega)]
theorem setOpt_len {a : List T} {i : Nat} {o : Option T} : (setOpt a i o).length = a.length := by
  cases o with
  | none => rfl
  | some t => exact List.length_set
theorem putBack_len : ∀ {own : List Nat} {a b : List T}, (putBack a b own).length = a.length
  | [], _, _ => rfl
  | i :: r, a, b => by
    unfold putBack
    rw [putBack_len, setOpt_len]
theorem putBack_get : ∀ {own : List Nat} {a b : List T} {j : Nat}, a.length = b.length → (putBack a b own)[j]? = if own.contains j then b[j]? else a[j]?
  | [], _, _, _, _ => by simp [putBack]
  | i :: r, a, b, j, hl => by
    unfold putBack
    rw [putBack_get (by rw [setOpt_len]; exact hl)]
    by_cases c : i = j
    · subst c
      simp only [List.contains_cons, beq_self_eq_true, Bool.true_or, if_true]
      split
      · rfl
      · cases e : b[i]? with
        | none =>
          show a[i]? = none
          rw [List.getElem?_eq_none_iff] at e ⊢
          omega
        | some t =>
          show (a.set i t)[i]? = some t
          rw [List.getElem?_set_self (by rw [hl]; exact (List.getElem?_eq_some_iff.mp e).1)]
    · have : (i :: r).contains j = r.contains j := by
        simp only [List.contains_cons]
        have : (j == i) = false := beq_eq_false_iff_ne.mpr (Ne.symm c)
        rw [this, Bool.false_or]
      rw [this]
      split
      · rfl
      · cases b[i]? with
        | none => rfl
        | some t => exact List.getElem?_set_ne c
theorem ownOk_get : ∀ {own : List Nat} {vs : List T} {j : Nat}, ownOk vs own = true → own.contains j = true → ∃ t, vs[j]? = some t ∧ (t = .un ∨ pob t = true)
  | [], _, _, _, h => by simp at h
  | i :: r, vs, j, h, hj => by
    unfold ownOk at h
    rw [Bool.and_eq_true] at h
    by_cases c : i = j
    · subst c
      have h1 := h.1
      split at h1
      · exact ⟨_, by assumption, .inl rfl⟩
      · exact ⟨_, by assumption, .inr h1⟩
      · cases h1
    · have hj' : r.contains j = true := by
        simp only [List.contains_cons] at hj
        have : (j == i) = false := beq_eq_false_iff_ne.mpr (Ne.symm c)
        rw [this, Bool.false_or] at hj
        exact hj
      exact ownOk_get h.2 hj'
/-- behind the comprehension: the own slots as they were -/
theorem Rel.unwipe (r1 : Rel Z g1 s1 σ H1) (x : Ext g1 H1 g2 H2) (r : Rel Z g2 s (L2.wipe σ own) H2) (ho : ownOk s1.vs own = true) (hu : ∀ j, own.contains j = true → s.vs[j]? = some .un ∨ s.vs[j]? = none) :
    Rel Z g2 { s with vs := putBack s.vs s1.vs own } σ H2 := by
  have hl : s.vs.length = s1.vs.length := by rw [r.len, r1.len, wipe_length]
  refine ⟨by rw [putBack_len, hl]; exact r1.len, fun j t e => ?_, fun j e => ?_, r.glen, r.obj, r.oemp, r.frz, r.own, r.dis, r.nd, r.bor⟩
  · have e : (putBack s.vs s1.vs own)[j]? = some t := e
    rw [putBack_get hl] at e
    by_cases c : own.contains j = true
    · rw [if_pos c] at e
      obtain ⟨t', e', k⟩ := ownOk_get ho c
      rw [e] at e'
      cases e'
      rcases k with rfl | k
      · exact .inl rfl
      · have hne : t ≠ .un := fun z => by subst z; cases k
        obtain ⟨v, e1, e2, _⟩ := r1.pl e hne
        have hb : isB t = false := by cases t <;> first | rfl | cases k
        obtain h0 := e2.noCs k
        rw [h0] at e2
        refine .inr ⟨v, e1, ?_, Bo.no hb⟩
        rw [r.emp j (hu j c)]
        exact e2.keep x.sub x.γ (fun _ h => nomatch h) (Bo.no hb)
    · rw [if_neg c] at e
      have := r.slot j t e
      rw [wipe_get, if_neg c] at this
      exact this
  · have e : (putBack s.vs s1.vs own)[j]? = some .un ∨ (putBack s.vs s1.vs own)[j]? = none := e
    rw [putBack_get hl] at e
    by_cases c : own.contains j = true
    · exact r.emp j (hu j c)
    · rw [if_neg c] at e
      exact r.emp j e
/-- a thing at hand is changed -/
def Loose (g : Gh) (H : Hp) (D : Addr) : Prop := g.F D = none ∧ (∀ p, D ∉ g.ow p) ∧ D ∉ g.bo
theorem Rel.touch (r : Rel Z g s σ H) (l : Loose g H D) : Rel Z g s σ (upd H D o) := by
  obtain ⟨h1, h2, h3⟩ := l
  have own : ∀ p, ∀ b ∈ g.ow p, b ≠ D := fun p b hb z => by subst z; exact h2 p hb
  refine ⟨r.len, fun j t e => ?_, r.emp, r.glen, fun m ob c q1 q2 => (r.obj m ob c q1 q2).keep (Sub.refl _) ⟨[], by simp⟩ fun b hb => upd_keep (own _ b hb), r.oemp, fun b u e => ?_, fun p b hb => ⟨(r.own p b hb).1, ?_⟩, r.dis, r.nd, fun b hb => ⟨?_, (r.bor b hb).2⟩⟩
  · exact (r.slot j t e).imp_right fun ⟨v, e1, e2, e3⟩ => ⟨v, e1, e2.keep (Sub.refl _) ⟨[], by simp⟩ (fun b hb => upd_keep (own _ b hb)) (e3.imp (Sub.refl _) fun b n => Kp.of (upd_keep (fun z => by subst z; exact h3 n))), e3⟩
  · have : b ≠ D := fun z => by subst z; rw [h1] at e; cases e
    rw [upd_ne this]
    exact r.frz b u e
  · rw [upd_ne (own p b hb)]; exact (r.own p b hb).2
  · rw [upd_ne (fun z => by subst z; exact h3 hb)]; exact (r.bor b hb).1
theorem Ext.touch (x : Ext g0 H0 g H) (hD : H0 D = none) : Ext g0 H0 g (upd H D o) :=
  ⟨x.sub, x.γ, fun a u e n => by rw [upd_ne (fun z => by subst z; rw [hD] at e; cases e)]; exact x.keep a u e n, x.own, x.frz, x.bo⟩
theorem Loose.ext {g' : Gh} {H' : Hp} (l : Loose g H D) (hH : H D ≠ none) (x : Ext g H g' H') : Loose g' H' D ∧ (∀ o, H D = some o → H' D = some o) := by
  obtain ⟨k1, k2, k3, k4⟩ := kept_of x hH l.2.1
  exact ⟨⟨(k4 l.1).1, k3, by rw [x.bo]; exact l.2.2⟩, (k4 l.1).2⟩
end
end EV
end PartEvComp
section PartEvLc
set_option autoImplicit false
set_option linter.all false
set_option maxRecDepth 100000
/-! EvLc: list comprehensions. -/
namespace EV
open PySem PySem.Spec PyProof.Rows L2
/-- the slots that stay are said later -/
def RdGa (Z : Wd) (W : Exn → S → Prop) (gt : G) : TG := fun v σ H Q => ∃ fix, RdG Z fix W gt v σ H Q
theorem rga {X : Cx} {Z : Wd} {W : Exn → S → Prop} {gt : G} {tg : Expr} (h : ∀ fix, PG X tg (RdG Z fix W gt)) : PG X tg (RdGa Z W gt) := ⟨fun pins s σ H v u Q I r ⟨fix, q⟩ => (h fix).run pins s σ H v u Q I r q⟩
section
variable {Z : Wd} {P : Pm} {W : Exn → S → Prop} {g g1 : Gh} {H H1 : Hp} {σ : L2.St} {s s1 : S} {own : List Nat} {gt : G} {ec ee : E} {J : L2.It} {ds : List D}
theorem comp_ok {β : Type} {fix : List Nat} {c : S → Res T} {e : S → Res β} {ds : List D} {K : List β → S → Prop} (h : (comp fix own gt c e (ds, none) s).sat K W) :
    ownOk s.vs own = true ∧ ds.length ≤ 1000000 ∧ ∃ bs s1, compL (turnC fix own gt c e) ds (setSlots s own .un) = .ok bs s1 ∧ K bs { s1 with vs := putBack s1.vs s.vs own } := by
  unfold comp at h
  split at h
  · rename_i hk
    rw [Bool.and_eq_true] at hk
    refine ⟨hk.1, of_decide_eq_true hk.2, ?_⟩
    split at h
    · exact ⟨_, _, by assumption, h⟩
    · exact h.elim
  · exact h.elim
theorem bd_ok_inv {α β : Type} {r : Res α} {f : α → S → Res β} {b : β} {s' : S} (h : r.bd f = .ok b s') : ∃ a s, r = .ok a s ∧ f a s = .ok b s' := by
  cases r with
  | ok a s => exact ⟨a, s, rfl, h⟩
  | ex x s => cases h
  | bad => cases h
theorem compL_cons {β : Type} {f : D → S → Res (Option β)} {d : D} {r : List D} {bs : List β} {s s' : S} (h : compL f (d :: r) s = .ok bs s') : ∃ o s1 bs', f d s = .ok o s1 ∧ compL f r s1 = .ok bs' s' ∧ bs = match o with | some b => b :: bs' | none => bs' := by
  unfold compL at h
  obtain ⟨o, s1, h1, h2⟩ := bd_ok_inv h
  obtain ⟨bs', s2, h3, h4⟩ := bd_ok_inv h2
  cases h4
  exact ⟨o, s1, bs', h1, h3, rfl⟩
/-- the walk of a comprehension that lays its items at D, in any way: Acc what stands at D behind some items -/
theorem comp_walk {β : Type} {fix : List Nat} {e : S → Res β} {D : Addr} {Acc : Gh → Hp → List β → Prop} {Q : V → Hp → Prop} {body : L2.St → Hp → (Hp → Prop) → Prop} (r1 : Rel Z g1 s1 σ H1) (src : Src Z g1 H1 J ds) (hD : H1 D = none)
    {bs : List β} {sE : S} (hl : ds.length ≤ 1000000) (ho : ownOk s1.vs own = true) (hc : compL (turnC fix own gt (ev P ec .e) e) ds (setSlots s1 own .un) = .ok bs sE) {H0 : Hp} (eH : ∃ o, H0 = upd H1 D o)
    (a0 : ∀ g', g'.F = g1.F → Acc g' H0 [])
    (am : ∀ {g g' : Gh} {H H' : Hp} {bs : List β}, Acc g H bs → Sub g.F g'.F → (∀ o, H D = some o → H' D = some o) → Acc g' H' bs)
    (ae : ∀ {g : Gh} {s s' : S} {b : β} {σ : L2.St} {H : Hp} {Nx : Hp → Prop} {bs' : List β}, b ∈ bs → Rel Z g s σ H → e s = .ok b s' → Loose g H D → H D ≠ none → Acc g H bs' → (bs'.length < 1000000 ∧ bs'.length < bs.length) →
      (∀ g' H' o, Rel Z g' s' σ H' → Ext g H g' H' → (∀ g'', g''.F = g'.F → Acc g'' (upd H' D o) (bs' ++ [b])) → Nx (upd H' D o)) → body σ H Nx)
    (fin : ∀ g3 H3, Rel Z g3 { sE with vs := putBack sE.vs s1.vs own } σ H3 → Ext g1 H1 g3 H3 → Loose g3 H3 D → H3 D ≠ none → Acc g3 H3 bs → Q (.ref D) H3) :
    ∃ W' : Nat → Nat → Hp → Prop, (∃ m, W' 0 m H0) ∧ ∀ i m H, W' i m H → (J.stop i H ∧ Q (.ref D) H) ∨ (J.go i H ∧ ∃ Nx : Hp → Prop, (∀ H', Nx H' → ∃ m', m' < m ∧ W' (i + 1) m' H') ∧
      ∀ x H', J.yld i H x H' → RdGa Z W gt x (L2.wipe σ own) H' fun σ2 H2 => L2.wipe σ2 own = L2.wipe σ own ∧ RdT Z P W ec σ2 H2 fun b H3 => if b = true then body σ2 H3 Nx else Nx H3) := by
  obtain ⟨o0, rfl⟩ := eH
  refine ⟨fun i m H2 => m = ds.length - i ∧ ∃ g2 s2 bs0 rest, Rel Z g2 s2 (L2.wipe σ own) H2 ∧ Ext g1 H1 g2 H2 ∧ Loose g2 H2 D ∧ H2 D ≠ none ∧ Acc g2 H2 bs0 ∧ bs0.length ≤ i ∧ (∀ j, own.contains j = true → s2.vs[j]? = some .un ∨ s2.vs[j]? = none) ∧
    compL (turnC fix own gt (ev P ec .e) e) (ds.drop i) s2 = .ok rest sE ∧ bs = bs0 ++ rest, ⟨ds.length, rfl, ?_⟩, fun i m H2 ⟨em, g2, s2, bs0, rest, r2, x2, lo, hn, acc, hb, hu, hcl, ebs⟩ => ?_⟩
  · obtain ⟨g2, r2, x2, eF, sb⟩ := r1.wipeT (own := own) (σ := σ) rfl
    have lo : Loose g2 H1 D := ⟨by rw [eF]; exact r1.frz.no hD, fun p hp => (r1.own p D (sb p D hp)).2 hD, by rw [x2.bo]; exact fun h => (r1.bor D h).1 hD⟩
    exact ⟨g2, _, [], bs, r2.touch lo, x2.touch hD, ⟨lo.1, lo.2.1, lo.2.2⟩, (by rw [upd_same]; exact fun z => nomatch z), a0 g2 eF, Nat.zero_le _, fun j h => setSlots_un h, hc, rfl⟩
  · obtain ⟨st, tk⟩ := src g2 H2 x2 r2.frz i
    by_cases hi : ds.length ≤ i
    · rw [List.drop_eq_nil_of_le hi] at hcl
      cases hcl
      rw [List.append_nil] at ebs
      subst ebs
      exact .inl ⟨st hi, fin g2 H2 (r1.unwipe x2 r2 ho hu) x2 lo hn acc⟩
    · have hi : i < ds.length := Nat.lt_of_not_le hi
      obtain ⟨go, yl⟩ := tk ds[i] (List.getElem?_eq_getElem hi)
      rw [List.drop_eq_getElem_cons hi] at hcl
      obtain ⟨o, s3, rest', ht, hcl', erest⟩ := compL_cons hcl
      unfold turnC at ht
      obtain ⟨_, s4, hg, ht⟩ := bd_ok_inv ht
      obtain ⟨b, s5, hcnd, ht⟩ := bd_ok_inv ht
      refine .inr ⟨go, fun H3 => ∃ g3 bs1, Rel Z g3 s3 (L2.wipe σ own) H3 ∧ Ext g1 H1 g3 H3 ∧ Loose g3 H3 D ∧ H3 D ≠ none ∧ Acc g3 H3 bs1 ∧ bs1.length ≤ i + 1 ∧ bs = bs1 ++ rest', fun H3 ⟨g3, bs1, q1, q2, q3, q4, q5, q6, q7⟩ => ⟨ds.length - (i + 1), by omega, rfl, g3, s3, bs1, rest', q1, q2, q3, q4, q5, q6, fun j h => ?_, hcl', q7⟩, fun y H3 hy => ?_⟩
      · split at ht
        · obtain ⟨t, s6, _, ht⟩ := bd_ok_inv ht
          cases ht
          exact setSlots_un h
        · cases ht
          exact setSlots_un h
      · obtain ⟨F3, nw⟩ := yl y H3 hy
        obtain ⟨r3, x3, tm3⟩ := r2.newT nw
        refine ⟨fixC s2.vs.length own fix, g2, H2, _, s2, _, r3, x3, tm3, ?_⟩
        rw [hg]
        intro g4 σ4 H4 r4 x4 _ f4
        have ew : L2.wipe σ4 own = L2.wipe σ own := by
          have := wipe_same (own := own) r3.len f4
          rw [this]
          refine List.ext_getElem? fun j => ?_
          rw [wipe_get, wipe_get]
          by_cases c : own.contains j = true
          · rw [if_pos c, if_pos c]; cases σ[j]? <;> rfl
          · rw [if_neg c, if_neg c]
        refine ⟨ew, g4, s4, r4, ?_⟩
        rw [hcnd]
        intro g5 H5 r5 x5
        have x25 := x4.trans x5
        obtain ⟨lo5, k5⟩ := lo.ext hn x25
        have hn5 : H5 D ≠ none := by
          cases e : H2 D with
          | none => exact absurd e hn
          | some u => rw [k5 u e]; exact fun z => nomatch z
        have acc5 := am acc x25.sub k5
        cases b with
        | false =>
          cases ht
          obtain ⟨g6, r6, x6, eF, sb⟩ := r5.wipeT ew
          exact ⟨g6, bs0, r6, (x2.trans x25).trans x6, ⟨by rw [eF]; exact lo5.1, fun p hp => lo5.2.1 p (sb p D hp), by rw [x6.bo]; exact lo5.2.2⟩, hn5, am acc5 x6.sub fun _ h => h, by omega, by rw [ebs, erest]⟩
        | true =>
          simp only [if_true] at ht ⊢
          obtain ⟨t, s6, he, ht⟩ := bd_ok_inv ht
          cases ht
          refine ae (by rw [ebs, erest]; simp) r5 he lo5 hn5 acc5 ⟨by omega, by rw [ebs, erest]; simp⟩ fun g7 H7 o8 r7 x7 a8 => ?_
          have x27 := x25.trans x7
          obtain ⟨lo7, k7⟩ := lo.ext hn x27
          obtain ⟨g9, r9, x9, eF, sb⟩ := r7.wipeT (own := own) ew
          have lo9 : Loose g9 H7 D := ⟨by rw [eF]; exact lo7.1, fun p hp => lo7.2.1 p (sb p D hp), by rw [x9.bo]; exact lo7.2.2⟩
          exact ⟨g9, bs0 ++ [t], r9.touch lo9, (((x2.trans x27).trans x9).touch hD), ⟨lo9.1, lo9.2.1, lo9.2.2⟩, (by rw [upd_same]; exact fun z => nomatch z), a8 g9 eF, by simp; omega, by rw [ebs, erest]; simp⟩
end
section
variable {X : Cx} {Z : Wd} {P : Pm} {W : Exn → S → Prop} {elt tg iter : Expr} {ifs : List Expr} {scope : Scope} {ownN : List (Str × Nat)} {pos : Pos} {gt : G} {it : EV.It} {ec ee : E} {m : Md} {own : List Nat}
theorem lc_imp {σ : L2.St} {H : Hp} {Q : VK} (h : RdE Z P W (.lc false ee own gt it ec) m σ H Q) : tLc (RdI Z P W it) (RdGa Z W gt) (RdT Z P W ec) (RdE Z P W ee .e) own σ H Q := by
    obtain ⟨g, s, r, h⟩ := h
    unfold ev at h
    rw [sat_bd] at h
    simp only [Bool.false_eq_true, if_false] at h
    refine ⟨g, s, r, h.imp fun p s1 h1 g1 H1 J r1 x1 hn src D hD => ?_⟩
    obtain ⟨ds, q⟩ := p
    obtain rfl : q = none := hn
    rw [sat_bd] at h1
    obtain ⟨ho, hl, bs, sE, hcl, k⟩ := comp_ok h1
    refine comp_walk (Acc := fun g' H' bs => ∃ acc, H' D = some (.lst acc) ∧ PdAll Z.K g'.F acc bs) (body := fun σ2 H3 Nx => RdE Z P W ee .e σ2 H3 fun y H4 => ∃ acc, H4 D = some (.lst acc) ∧ acc.length < sizeLine ∧ Nx (upd H4 D (.lst (acc ++ [y])))) r1 src hD hl ho hcl ⟨_, rfl⟩
      (fun g' _ => ⟨[], upd_same, .nil⟩) (fun ⟨acc, a1, a2⟩ sb kp => ⟨acc, kp _ a1, a2.mono sb⟩) (fun {g s s' b σ H Nx bs'} _ r' he' lo' hn' acc' hb k' => ?_) fun g3 H3 r3 x3 lo hn3 ⟨acc, a1, a2⟩ => ?_
    · refine rd_toD (K := fun d s'' => d = b ∧ s'' = s') r' (by rw [he']; exact ⟨rfl, rfl⟩) fun d s'' g' H' v r2 x2 pd ⟨e1, e2⟩ => ?_
      subst e1 e2
      obtain ⟨acc, a1, a2⟩ := acc'
      have a2' := a2.mono x2.sub
      exact ⟨acc, (lo'.ext hn' x2).2 _ a1, by rw [a2.length, sizeLine_eq]; omega, k' g' H' _ r2 x2 fun g'' eF => ⟨acc ++ [v], upd_same, by rw [eF]; exact a2'.snoc pd⟩⟩
    · have hDo : (∃ q, D ∈ g.ow q) ∨ H D = none := x1.back hD
      refine k g3 H3 (.ref D) r3 (x1.trans x3) (Kd.of ⟨[D], ⟨.ol a1 a2, by simp, fun a ha => ?_, Bo.no rfl⟩, fun a ha => ?_⟩ (by intro i z; cases z))
      · obtain rfl : a = D := by simpa using ha
        exact ⟨lo.1, hn3, lo.2.1, lo.2.2⟩
      · obtain rfl : a = D := by simpa using ha
        exact hDo
theorem rd_lc (hc : X.calm = true) (hN : X.N.Nodup) (hi : PI X tg iter (RdI Z P W it)) (ok : BlkOk X.N X.env.scope scope ownN) (eo : ownN.map (·.2) = own)
    (hg : ∀ (s : Shared) (H : Hp) (C : Addr) (cl : List (Str × Addr)) (fp : List Addr) (fix : List Nat), PG (X.blk s H scope (compEnvC scope cl C X.env) fp) tg (RdG Z fix W gt))
    (ht : ∀ (s : Shared) (H : Hp) (C : Addr) (cl : List (Str × Addr)) (fp : List Addr), PTs (X.blk s H scope (compEnvC scope cl C X.env) fp) ifs (RdT Z P W ec))
    (he : ∀ (s : Shared) (H : Hp) (C : Addr) (cl : List (Str × Addr)) (fp : List Addr), PE (X.blk s H scope (compEnvC scope cl C X.env) fp) elt (RdE Z P W ee .e)) (hs : ∀ x, foldedSetIterable iter X.env x = pure x) :
    PE X (.ListComp elt [⟨tg, iter, ifs, 0⟩] scope pos) (RdE Z P W (.lc false ee own gt it ec) m) :=
  (pe_lc hc hN hi ok (fun s H C cl fp => rga (hg s H C cl fp)) ht he hs).imp fun σ H Q h => by
    subst eo
    exact lc_imp h
theorem dmake_snoc {α : Type} : ∀ (ps acc : List (D × α)) (k : D) (v : α), dmake acc (ps ++ [(k, v)]) = dput (dmake acc ps) k v
  | [], acc, k, v => rfl
  | (k', v') :: r, acc, k, v => dmake_snoc r (dput acc k' v') k v
theorem dput_len {α : Type} {kvs : List (D × α)} {k : D} {v : α} : (dput kvs k v).length ≤ kvs.length + 1 := by
  unfold dput
  split <;> simp
theorem dmake_len {α : Type} : ∀ (ps acc : List (D × α)), (dmake acc ps).length ≤ acc.length + ps.length
  | [], acc => by simp [dmake]
  | (k, v) :: r, acc => by
    have h1 := dmake_len r (dput acc k v)
    have h2 := dput_len (kvs := acc) (k := k) (v := v)
    show (dmake (dput acc k v) r).length ≤ _
    rw [List.length_cons]
    omega
theorem dc_imp {ek : E} {σ : L2.St} {H : Hp} {Q : VK} (h : RdE Z P W (.dc false ek ee own gt it ec) m σ H Q) : tDc (RdI Z P W it) (RdGa Z W gt) (RdT Z P W ec) (RdE Z P W ek .e) (RdE Z P W ee .e) own σ H Q := by
    obtain ⟨g, s, r, h⟩ := h
    unfold ev at h
    rw [sat_bd] at h
    simp only [Bool.false_eq_true, if_false] at h
    refine ⟨g, s, r, h.imp fun p s1 h1 g1 H1 J r1 x1 hn src D hD => ?_⟩
    obtain ⟨ds, q⟩ := p
    obtain rfl : q = none := hn
    rw [sat_bd] at h1
    obtain ⟨ho, hl, bs, sE, hcl, k⟩ := comp_ok h1
    split at k
    · rename_i hall
      refine comp_walk (Acc := fun g' H' bs' => ∃ acc, H' D = some (.dK acc) ∧ PdKv Z.K g'.F acc (dmake [] bs')) (body := fun σ2 H3 Nx => RdE Z P W ek .e σ2 H3 fun y H4 => RdE Z P W ee .e σ2 H4 fun z H5 => ∃ kvs k, y = kV k ∧ H5 D = some (.dK kvs) ∧ kvs.length < sizeLine ∧ Nx (upd H5 D (.dK (putK kvs k z)))) r1 src hD hl ho hcl ⟨_, rfl⟩
        (fun g' _ => ⟨[], upd_same, .nil⟩) (fun ⟨acc, a1, a2⟩ sb kp => ⟨acc, kp _ a1, a2.mono sb⟩) (fun {g s s' b σ H Nx bs'} hbm r' he' lo' hn' acc' hb k' => ?_) fun g3 H3 r3 x3 lo hn3 ⟨acc, a1, a2⟩ => ?_
      · obtain ⟨bk, bv⟩ := b
        obtain ⟨kd, s6, hk6, he6⟩ := bd_ok_inv he'
        obtain ⟨vd, s7, hv7, he7⟩ := bd_ok_inv he6
        cases he7
        have hok : okKey bk = true := List.all_eq_true.mp hall (bk, bv) hbm
        obtain ⟨q, rfl⟩ := okKey_iff hok
        refine rd_toP (K := fun d s'' => d = keyD q ∧ s'' = s6) r' (by rw [hk6]; exact ⟨rfl, rfl⟩) fun d s'' g' H' v r2 x2 pd ⟨e1, e2⟩ => ?_
        subst e1 e2
        refine rd_toD (K := fun d s'' => d = bv ∧ s'' = s') r2 (by rw [hv7]; exact ⟨rfl, rfl⟩) fun d s'' g5 H5 w r5 x5 pd5 ⟨e1, e2⟩ => ?_
        subst e1 e2
        obtain ⟨acc, a1, a2⟩ := acc'
        have x25 := x2.trans x5
        have a2' := a2.mono x25.sub
        have ev' : v = kV q := by
          cases q with
          | inl n => exact pd.int'
          | inr n => cases pd; rfl
        have hlen : acc.length < sizeLine := by
          have h1 := dmake_len bs' []
          rw [a2.length, sizeLine_eq]
          simp only [List.length_nil, Nat.zero_add] at h1
          omega
        exact ⟨acc, q, ev', (lo'.ext hn' x25).2 _ a1, hlen, k' g5 H5 _ r5 x25 fun g'' eF => ⟨putK acc q w, upd_same, by rw [eF, dmake_snoc]; exact a2'.put q pd5⟩⟩
      · have hDo : (∃ q, D ∈ g.ow q) ∨ H D = none := x1.back hD
        refine k g3 H3 (.ref D) r3 (x1.trans x3) (Kd.of ⟨[D], ⟨.od a1 a2, by simp, fun a ha => ?_, Bo.no rfl⟩, fun a ha => ?_⟩ (by intro i z; cases z))
        · obtain rfl : a = D := by simpa using ha
          exact ⟨lo.1, hn3, lo.2.1, lo.2.2⟩
        · obtain rfl : a = D := by simpa using ha
          exact hDo
    · exact k.elim
theorem rd_dc {kx vx : Expr} {ek : E} (hc : X.calm = true) (hN : X.N.Nodup) (hi : PI X tg iter (RdI Z P W it)) (ok : BlkOk X.N X.env.scope scope ownN) (eo : ownN.map (·.2) = own)
    (hg : ∀ (s : Shared) (H : Hp) (C : Addr) (cl : List (Str × Addr)) (fp : List Addr) (fix : List Nat), PG (X.blk s H scope (compEnvC scope cl C X.env) fp) tg (RdG Z fix W gt))
    (ht : ∀ (s : Shared) (H : Hp) (C : Addr) (cl : List (Str × Addr)) (fp : List Addr), PTs (X.blk s H scope (compEnvC scope cl C X.env) fp) ifs (RdT Z P W ec))
    (hk : ∀ (s : Shared) (H : Hp) (C : Addr) (cl : List (Str × Addr)) (fp : List Addr), PE (X.blk s H scope (compEnvC scope cl C X.env) fp) kx (RdE Z P W ek .e))
    (he : ∀ (s : Shared) (H : Hp) (C : Addr) (cl : List (Str × Addr)) (fp : List Addr), PE (X.blk s H scope (compEnvC scope cl C X.env) fp) vx (RdE Z P W ee .e)) (hs : ∀ x, foldedSetIterable iter X.env x = pure x) :
    PE X (.DictComp kx vx [⟨tg, iter, ifs, 0⟩] scope pos) (RdE Z P W (.dc false ek ee own gt it ec) m) :=
  (pe_dc hc hN hi ok (fun s H C cl fp => rga (hg s H C cl fp)) ht hk he hs).imp fun σ H Q h => by
    subst eo
    exact dc_imp h
/-- no condition -/
theorem pts_none {X : Cx} : PTs X [] (RdT Z P W (.lit (.bool true))) := ⟨fun pins s σ H Q I ⟨g, s0, r, h⟩ => pts_nil.run pins s σ H Q I (h g H r (Ext.refl _ _))⟩
end
end EV
end PartEvLc
section PartEvBi2
set_option autoImplicit false
set_option linter.all false
set_option maxRecDepth 100000
/-! EvBi2: set(a list), sorted(a set). -/
namespace EV
open PySem PySem.Spec PyProof.Rows L2
theorem any_keyEq (acc : List Key) (k : Key) : (acc.map keyD).any (keyEq (keyD k)) = decide (k ∈ acc) := by
  rw [List.any_map, Bool.eq_iff_iff, List.any_eq_true, decide_eq_true_eq]
  constructor
  · rintro ⟨j, hj, q⟩
    have q : keyEq (keyD k) (keyD j) = true := q
    rw [keyEq_iff, decide_eq_true_eq] at q
    rw [q]; exact hj
  · intro hk
    exact ⟨k, hk, by show keyEq (keyD k) (keyD k) = true; rw [keyEq_iff]; exact decide_eq_true rfl⟩
theorem addKs_firsts : ∀ (ks acc : List Key), firsts (acc.map keyD) (ks.map keyD) = (addKs acc ks).map keyD
  | [], acc => rfl
  | k :: r, acc => by
    have e := any_keyEq acc k
    show (if (acc.map keyD).any (keyEq (keyD k)) then firsts (acc.map keyD) (r.map keyD) else firsts (acc.map keyD ++ [keyD k]) (r.map keyD)) = (addKs (addK acc k) r).map keyD
    rw [e]
    unfold addK
    by_cases h : k ∈ acc
    · rw [decide_eq_true h, if_pos rfl, if_pos h]; exact addKs_firsts r acc
    · rw [decide_eq_false h, if_neg Bool.false_ne_true, if_neg h, ← addKs_firsts r (acc ++ [k]), List.map_append]; rfl
theorem keys_of : ∀ {ds : List D}, ds.all okKey = true → ∃ ks : List Key, ds = ks.map keyD
  | [], _ => ⟨[], rfl⟩
  | d :: ds, h => by
    rw [List.all_cons, Bool.and_eq_true] at h
    obtain ⟨k, rfl⟩ := okKey_iff h.1
    obtain ⟨ks, rfl⟩ := keys_of h.2
    exact ⟨k :: ks, rfl⟩
theorem PdAll.keysV {K : PySem.W.Frag} {F : Hp} : ∀ {v : List V} {ks : List Key}, PdAll K F v (ks.map keyD) → v = ks.map kV
  | _, [], h => by cases h; rfl
  | _, k :: ks, h => by
    cases h with
    | cons a r =>
      rw [PdAll.keysV r]
      cases k <;> (cases a; rfl)
theorem vals_keyIs : ∀ {ks : List Key} {its : List Value}, Vals (ks.map kV) its → ∀ (i : Nat) (v : Value), its[i]? = some v → ∃ k, ks[i]? = some k ∧ keyIs k v = true
  | [], _, h, i, v, e => by cases h; simp at e
  | k :: ks, _, h, i, v, e => by
    cases h with
    | cons a r =>
      cases i with
      | zero =>
        have e : some _ = some v := e
        cases e
        exact ⟨k, rfl, by
          cases k with
          | inl i => obtain ⟨t, rfl⟩ := a; exact keyIs_int i t
          | inr x => obtain ⟨t, rfl⟩ := a; exact keyIs_str x t⟩
      | succ i => exact vals_keyIs r i v e
section
variable {X : Cx} {Z : Wd} {g : Gh} {H : Hp}
theorem Nw.set {F H : Hp} {p : Addr} {ks : List Key} (hF : FH F H) (hp : H p = none) : Nw Z F H (.ref p) (.os (ks.map keyD)) F (upd H p (SetO Z.w p ks)) :=
  ⟨fun b o e => by rw [upd_ne (ne_of_none e hp)]; exact e, Sub.refl _, fun _ h => .inl h, [p], fun _ => .os ⟨ks, upd_same, rfl⟩, by simp, fun a ha => by
    obtain rfl : a = p := by simpa using ha
    exact ⟨hF.no hp, hp, by rw [upd_same]; exact fun z => nomatch z⟩, rfl⟩
theorem cr_set (hZ : In X Z) (hc : X.calm = true) : CallR X (.type "set") (rBi Z "set") := by
  intro pins s σ H xs us Q I r ⟨g, ts, t, fh, vw, e, q⟩
  have e : biSet ts = some t := e
  unfold biSet at e
  split at e <;> first | (cases e; done) | skip
  obtain ⟨ds, e1, e2⟩ := Option.bind_eq_some_iff.mp e
  split at e2
  · rename_i hk
    rw [Bool.and_eq_true, decide_eq_true_eq] at hk
    cases e2
    obtain ⟨x, rfl, vx⟩ := one_vw vw
    obtain ⟨p, ys, rfl, hq, rr⟩ := listT_vw hZ fh e1 vx
    obtain ⟨ks, rfl⟩ := keys_of hk.1
    rw [rr.keysV] at hq
    rw [List.length_map] at hk
    obtain ⟨u, rfl, ru⟩ := vals1 r
    cases ru
    obtain ⟨its, rv, pl, hz⟩ := I.list hq
    have hl : ks.length = its.length := by have := rv.length; rwa [List.length_map] at this
    refine call_setM (I.ok.hd hc) pl.isList (ks := ks) (by simpa using hl) (fun i v hv => vals_keyIs rv i v (by simpa using hv)) (by simp; unfold scanBound; omega) fun h' tk hS hk' => ?_
    have hn : H s.heap.objs.size = none := I.hok.fresh (Nat.le_refl _)
    refine ⟨.ref _, _, I.laid (t' := tk) (fun b u e => hk' b u (Heap.lt_size e) e) (Nat.le_refl _) (setO_ok2 hZ.w hS), rfl, ?_⟩
    have ef := addKs_firsts ks []
    rw [List.map_nil] at ef
    rw [ef] at q
    exact q _ _ _ (Nw.set (Z := Z) (ks := addKs [] ks) fh hn)
  · cases e2
end
end EV
end PartEvBi2
section PartEvBi3
set_option autoImplicit false
set_option linter.all false
set_option maxRecDepth 100000
/-! EvBi3: sorted. -/
namespace EV
open PySem PySem.Spec PyProof.Rows L2
theorem lex_keys {a b : Key} (h1 : PySem.W.dataLe false keyD a b = true) (h2 : PySem.W.dataLe false keyD b a = true) : a = b := by
  have h1 : (!lexLt itemOrd (PySem.W.keyToks (keyD b)) (PySem.W.keyToks (keyD a))) = true := h1
  have h2 : (!lexLt itemOrd (PySem.W.keyToks (keyD a)) (PySem.W.keyToks (keyD b))) = true := h2
  rw [Bool.not_eq_true'] at h1 h2
  have e := lex_total (O := itemOrd) _ _ h2 h1
  cases a with
  | inl i => cases b with
    | inl j => simp only [keyD, PySem.W.keyToks] at e; cases e; rfl
    | inr y => simp only [keyD, PySem.W.keyToks] at e; cases e
  | inr x => cases b with
    | inl j => simp only [keyD, PySem.W.keyToks] at e; cases e
    | inr y =>
      simp only [keyD, PySem.W.keyToks, List.cons.injEq, Sum.inr.injEq, and_true] at e
      rw [PySem.W.str_of_cps e]
theorem le_total : PySem.W.TotalLe (PySem.W.dataLe false keyD) := PySem.W.sortLe_total _ false _
theorem sortK_perm {bs ks : List Key} (p : bs.Perm ks) : sortK bs = sortK ks :=
  List.Perm.eq_of_pairwise (le := fun a b => PySem.W.dataLe false keyD a b = true) (fun a b _ _ h1 h2 => lex_keys h1 h2) (PySem.W.sort_pairwise le_total bs) (PySem.W.sort_pairwise le_total ks)
    (((List.mergeSort_perm _ _).trans p).trans (List.mergeSort_perm _ _).symm)
theorem sortD_keys (ks : List Key) : sortD (ks.map keyD) = (sortK ks).map keyD := (List.map_mergeSort (f := keyD) (r := PySem.W.dataLe false keyD) (s := fun a b => !(PySem.W.dataLt b a)) (l := ks) fun a _ b _ => rfl).symm
theorem all_alike {ds : List D} (h : sortable ds = true) : PySem.W.AllAlike ds := fun d hd e he => by
  have a := List.all_eq_true.mp h d hd
  rw [Bool.and_eq_true] at a
  exact List.all_eq_true.mp a.2 e he
theorem each_vals : ∀ {out : List Value} {ks : List Key}, PySem.W.EachIs (fun v k => keyIs k v = true) out ks → Vals (ks.map kV) out
  | _, _, .nil => .nil
  | _, k :: _, .cons h r => .cons (by
      rcases keyIs_shape h with ⟨i, t, rfl, rfl⟩ | ⟨x, t, rfl, rfl⟩
      · exact ⟨t, rfl⟩
      · exact ⟨t, rfl⟩) (each_vals r)
theorem pd_keys {K : PySem.W.Frag} {F : Hp} : ∀ (ks : List Key), PdAll K F (ks.map kV) (ks.map keyD)
  | [] => .nil
  | .inl i :: r => .cons (.int i) (pd_keys r)
  | .inr x :: r => .cons (.str x) (pd_keys r)
section
variable {X : Cx} {Z : Wd} {g : Gh} {H : Hp}
/-- a new list behind a call that changes nothing else -/
theorem laid_any {pins : List (Addr × Obj)} {σ : L2.St} {s s' : Shared} {p : Addr} {o : HO} (I : Inv X pins σ H s) (k : ∀ b u, s.heap.get? b = some u → s'.heap.get? b = some u) (hg : s'.gens = s.gens) (ho : s'.os = s.os) (hp : s.heap.objs.size ≤ p)
    (new : ObjOk X.prog X.w (upd H p o) s'.heap p o) : Inv X pins σ (upd H p o) s' :=
  I.call' (ch := []) ho (Un.laid k hp (I.hok.fresh hp)) (I.hok.laid k hp new) (by rw [hg]; exact I.bare) (fun _ z => nomatch z)
theorem sorted_os (hZ : In X Z) (hc : X.calm = true) (hu : X.A.units + 65 < cLine) {pins : List (Addr × Obj)} {σ : L2.St} {s : Shared} {p : Addr} {ks : List Key} {Q : VK} (I : Inv X pins σ H s) (fh : FH g.F H) (hp : H p = some (SetO Z.w p ks)) (hal : PySem.W.AllAlike (ks.map keyD))
    (hs : ks.length ≤ 1000000) (q : ∀ v F' H', Nw Z g.F H v (.ol (sortD (ks.map keyD))) F' H' → Q v H') : wpAny (model X.prog X.w) X.A (PySem.call (.builtin "sorted") [.ref p]) (EP X pins σ Q) X.xe s := by
  have R := setO_at (ks := ks) I (by rw [hp, hZ.w])
  refine sorted_setM R (I.ok.hd hc) hal (by omega) fun s' d out c bs k hg ho hd hl he pb => ?_
  have hn : H d = none := I.hok.fresh hd
  have es : sortK bs = sortK ks := sortK_perm pb
  rw [es] at he
  have hz : ((sortK ks).map kV).length ≤ sizeLine := by
    rw [List.length_map, show (sortK ks).length = ks.length from List.length_mergeSort _, sizeLine_eq]; omega
  have J := laid_any (o := .lst ((sortK ks).map kV)) I k hg ho hd ⟨hz, out, c, each_vals he, hl⟩
  rw [sortD_keys] at q
  exact ⟨.ref d, _, J, rfl, q _ _ _ (Nw.lst fh hn (pd_keys _))⟩
/-! a list -/
theorem each_of {K : PySem.W.Frag} {F : Hp} : ∀ {xs : List V} {its : List Value} {ds : List D}, Vals xs its → PdAll K F xs ds → PySem.W.EachIs (fun u d => ∃ x, RelV x u ∧ Pd K F x d) its ds
  | _, _, _, .nil, .nil => .nil
  | _, _, _, .cons a r, .cons b q => .cons ⟨_, a, b⟩ (each_of r q)
theorem of_each {K : PySem.W.Frag} {F : Hp} : ∀ {its : List Value} {ds : List D}, PySem.W.EachIs (fun u d => ∃ x, RelV x u ∧ Pd K F x d) its ds → ∃ xs, Vals xs its ∧ PdAll K F xs ds
  | _, _, .nil => ⟨[], .nil, .nil⟩
  | _, _, .cons ⟨x, a, b⟩ r => by
    obtain ⟨xs, h1, h2⟩ := of_each r
    exact ⟨x :: xs, .cons a h1, .cons b h2⟩
theorem sortable_ok {ds : List D} (h : sortable ds = true) {d : D} (hd : d ∈ ds) : d.plain = true ∧ d.depth ≤ 40 := by
  have a := List.all_eq_true.mp h d hd
  rw [Bool.and_eq_true] at a
  have b := a.1
  unfold okD at b
  rw [Bool.and_eq_true, decide_eq_true_eq] at b
  exact b
theorem sortKind_ok {ds : List D} (h : sortKind ds = true) : PySem.W.Sortable ds := by
  unfold sortKind at h
  rw [Bool.or_eq_true, List.all_eq_true, List.all_eq_true] at h
  rcases h with h | h
  · refine .inl fun d hd => ?_
    have := h d hd
    split at this
    · exact ⟨_, _, rfl⟩
    · cases this
  · refine .inr fun d hd => ?_
    have := h d hd
    split at this
    · cases this
    · cases this
    · rename_i h1 h2
      exact ⟨h1, h2⟩
theorem each_reads {pins : List (Addr × Obj)} {σ : L2.St} {s : Shared} (hZ : In X Z) (I : Inv X pins σ H s) (fh : FH g.F H) : ∀ {its : List Value} {ds : List D}, (∀ d ∈ ds, d.plain = true) → PySem.W.EachIs (fun u d => ∃ x, RelV x u ∧ Pd Z.K g.F x d) its ds → PySem.W.EachIs (fun v d => ∃ as, Reads s.heap v d as) its ds
  | _, _, _, .nil => .nil
  | _, d :: _, h, .cons ⟨x, a, b⟩ r => .cons (Dp.reads I d x _ (by rw [hZ.K]; exact b.dp fh (h d List.mem_cons_self)) a) (each_reads hZ I fh (fun e he => h e (List.mem_cons_of_mem _ he)) r)
theorem sorted_ol (hZ : In X Z) (hu : X.A.units + 65 < cLine) {pins : List (Addr × Obj)} {σ : L2.St} {s : Shared} {p : Addr} {ys : List V} {ds : List D} {Q : VK} (I : Inv X pins σ H s) (fh : FH g.F H) (hp : SqL X.K H p ys) (pd : PdAll Z.K g.F ys ds) (h1 : sortable ds = true) (h2 : sortKind ds = true)
    (hs : ds.length ≤ 1000000) (q : ∀ v F' H', Nw Z g.F H v (.ol (sortD ds)) F' H' → Q v H') : wpAny (model X.prog X.w) X.A (PySem.call (.builtin "sorted") [.ref p]) (EP X pins σ Q) X.xe s := by
  obtain ⟨its, rv, pl, hz⟩ := I.list hp
  have e := each_of rv pd
  refine PySem.W.sorted_data (vs := its) (bs := ds) (enc := id) pl.isList e (each_reads hZ I fh (fun d hd => (sortable_ok h1 hd).1) e) (by rw [List.map_id]; exact all_alike h1) (by rw [List.map_id]; exact sortKind_ok h2) (by rw [sizeLine_eq]; omega) (fun b hb => ?_) fun out hl he => ?_
  · have := (sortable_ok h1 hb).2
    show X.A.units + 2 + b.depth < cLine
    omega
  · obtain ⟨zs, r1, r2⟩ := of_each he
    obtain ⟨c, hc⟩ := sortedAll_at s.heap its out.toArray
    have hd : s.heap.objs.size ≤ s.heap.objs.size + 1 := Nat.le_succ _
    have hn : H (s.heap.objs.size + 1) = none := I.hok.fresh hd
    have hlen : zs.length ≤ sizeLine := by rw [r1.length, hl, sizeLine_eq]; omega
    have r2 : PdAll Z.K g.F zs (sortD ds) := r2
    exact ⟨.ref _, _, I.laid (o := .lst zs) (t' := s.toks) (fun b o e => sortedAll_old e) hd ⟨hlen, out, c, r1, hc⟩, rfl, q _ _ _ (Nw.lst fh hn r2)⟩
/-! a dict -/
theorem collect_dict {P : Program} {w : World} {A : Around} {E : Value → Shared → Prop} {s : Shared} {d : Addr} {kvs : List (Key × Value)} {ep : Nat} {Q : List Value → Shared → Prop} (lo : (d == sysModules) = false) (hh : A.handled = none) (hm : s.heap.DictAt (mixKind P w) d kvs ep) (hz : kvs.length ≤ sizeLine)
    (hQ : ∀ s' out, (∀ b o, s.heap.get? b = some o → s'.heap.get? b = some o) → s.heap.objs.size ≤ s'.heap.objs.size → s'.gens = s.gens → s'.os = s.os → out.length = kvs.length → (∀ (j : Nat) v, out[j]? = some v → ∃ k x, kvs[j]? = some (k, x) ∧ keyIs k v = true) → Q out s') :
    wpAny (model P w) A (collect (.ref d)) Q E s := by
  have hlt := hm.lt_size
  have hSd : s.heap.objs.size ≠ d := Nat.ne_of_gt hlt
  unfold collect
  refine wpAny_bind (wpAny_runValue (codeAny_builtin PySem.F.entry_proto_collect ?_))
  rw [Around.under_plainId PySem.F.plain_proto_collect _]
  show wpAny _ A.in1 (newList [] >>= fun l => again (.builtin "list.__iadd__" ⟨[l, .ref d], []⟩)) _ _ s
  refine wpAny_bind (wpAny_newObj_type ?_)
  refine wpAny_pure ⟨plainId_quiet PySem.F.plain_list_iadd _, codeAny_builtin PySem.F.entry_list_iadd ?_⟩
  rw [Around.under_plainId PySem.F.plain_list_iadd _]
  have hS : (s.heap.push { cls := .type "list", data := .seq ([] : List Value).toArray }).get? s.heap.objs.size = some { cls := .type "list", data := .seq ([] : List Value).toArray } := Heap.get?_push_size _ rfl
  show wpAny _ A.in1 (Builtin.List.listExtendWith (.ref s.heap.objs.size) (.ref d) (.ref s.heap.objs.size)) _ _ _
  refine PySem.W.kdl_extend (R := wants _ E) (s := { s with heap := s.heap.push { cls := .type "list", data := .seq ([] : List Value).toArray } }) (PySem.W.kdl_dict (knd := mixKind P w) (kvs := kvs) (ep := ep) lo) hh (hm.push _) s.heap.objs.size hSd hSd _ 0 hS (fun h' tk acc c k hS' ha => ?_) hz
  show wpAny _ A (load s.heap.objs.size >>= _) _ _ _
  refine wpAny_bind (wpAny_load hS' ?_)
  refine wpAny_pure ?_
  show Q acc.toList _
  refine hQ _ acc.toList (fun b u e => k b u (Nat.ne_of_lt (Heap.lt_size e)) (Heap.get?_push_of_some _ e)) (Nat.le_of_lt (Heap.lt_size hS')) rfl rfl (by rw [Array.length_toList]; exact ha.1) fun j v e => ?_
  exact ha.2 j v (by rw [← Array.getElem?_toList]; exact e)
theorem keys_at : ∀ {out : List Value} {kvs : List (Key × Value)}, out.length = kvs.length → (∀ (j : Nat) v, out[j]? = some v → ∃ k x, kvs[j]? = some (k, x) ∧ keyIs k v = true) → PySem.W.EachIs (fun v k => keyIs k v = true) out (kvs.map (·.1))
  | [], [], _, _ => .nil
  | [], _ :: _, h, _ => by simp at h
  | _ :: _, [], h, _ => by simp at h
  | v :: out, p :: kvs, hl, h => by
    obtain ⟨k, x, e, hk⟩ := h 0 v rfl
    simp only [List.getElem?_cons_zero, Option.some.injEq] at e
    subst e
    exact .cons hk (keys_at (by simpa using hl) fun j u hu => by simpa using h (j + 1) u (by simpa using hu))
theorem kv_keys {K : PySem.W.Frag} {F : Hp} : ∀ {kvs : List (Key × V)} {ds : List (D × D)}, PdKv K F kvs ds → ds.map (·.1) = (kvs.map (·.1)).map keyD
  | _, _, .nil => rfl
  | _, _, .cons _ r => by rw [List.map_cons, List.map_cons, List.map_cons, kv_keys r]
theorem kv_fst : ∀ {xs : List (Key × V)} {vs : List (Key × Value)}, KV xs vs → vs.map (·.1) = xs.map (·.1)
  | _, _, .nil => rfl
  | _, _, .cons a r => by rw [List.map_cons, List.map_cons, kv_fst r, a.1]
theorem KV.len : ∀ {xs : List (Key × V)} {vs : List (Key × Value)}, KV xs vs → vs.length = xs.length
  | _, _, .nil => rfl
  | _, _, .cons _ r => congrArg Nat.succ (KV.len r)
theorem sorted_od (hZ : In X Z) (hc : X.calm = true) (hu : X.A.units + 65 < cLine) {pins : List (Addr × Obj)} {σ : L2.St} {s : Shared} {p : Addr} {kvs : List (Key × V)} {ds : List (D × D)} {Q : VK} (I : Inv X pins σ H s) (fh : FH g.F H) (hp : Rd H p (.dK kvs)) (pd : PdKv Z.K g.F kvs ds)
    (hal : PySem.W.AllAlike (ds.map (·.1))) (hs : ds.length ≤ 1000000) (q : ∀ v F' H', Nw Z g.F H v (.ol (sortD (ds.map (·.1)))) F' H' → Q v H') : wpAny (model X.prog X.w) X.A (PySem.call (.builtin "sorted") [.ref p]) (EP X pins σ Q) X.xe s := by
  obtain ⟨z, lo, vs, rel, dd⟩ := dk_rd I.hok hp
  obtain ⟨ep, da⟩ := dd.dictAt
  have hvl : vs.length = kvs.length := KV.len rel
  refine Calls.call_function_entry kind_sorted plain_sorted entry_sorted (args_sorted1 _) ?_
  unfold Builtin.«sorted»
  refine wpAny_bind (m := checkCount "sorted" 1 1 _) (wpAny_pure ?_)
  refine wpAny_bind (collect_dict (A := X.A.in1) lo (I.ok.hd hc) da (by rw [hvl]; exact z) fun s1 out k1 hz g1 o1 ol oi => ?_)
  have hE := keys_at ol oi
  rw [kv_fst rel] at hE
  have hsz : out.length ≤ sizeLine := by rw [ol, hvl]; exact z
  refine wpAny_bind (wpAny_newList ?_ hsz)
  have hoL : (s1.heap.push (seqObj "list" out.toArray 0)).get? s1.heap.objs.size = some (seqObj "list" out.toArray 0) := Heap.get?_push_size _ rfl
  rw [kv_keys pd] at hal q
  refine wpAny_bind (wpAny_holding (PySem.W.list_sort_data (enc := keyD) hoL hE (hE.mono fun v k h => ⟨[], reads_key h, fun z => nomatch z⟩) hal (.inr fun d hd => ?_) (by rw [List.length_map]; exact z) (fun k _ => ?_) fun out' hlo heo => ?_))
  · obtain ⟨k, _, rfl⟩ := List.mem_map.mp hd
    cases k <;> exact ⟨(fun z => nomatch z), (fun xs z => nomatch z)⟩
  · cases k <;> (show _ + 1 + 0 < cLine; simp; omega)
  obtain ⟨c, hc'⟩ := sortedHeap_at (vs := out) (out := out'.toArray) hoL
  have hn : H s1.heap.objs.size = none := I.hok.fresh hz
  have hlen : ((sortK (kvs.map (·.1))).map kV).length ≤ sizeLine := by
    rw [List.length_map, show (sortK (kvs.map (·.1))).length = (kvs.map (·.1)).length from List.length_mergeSort _, List.length_map]; exact z
  have heo : PySem.W.EachIs (fun v k => keyIs k v = true) out' (sortK (kvs.map (·.1))) := heo
  refine wpAny_pure ⟨_, rfl, ⟨.ref s1.heap.objs.size, _, laid_any (o := .lst ((sortK (kvs.map (·.1))).map kV)) I (fun b u e => ?_) g1 o1 hz ⟨hlen, out', c, each_vals heo, hc'⟩, rfl, ?_⟩⟩
  · have q := k1 b u e
    have hlt := Heap.lt_size q
    show (sortedHeap (s1.heap.push (seqObj "list" out.toArray 0)) s1.heap.objs.size out out'.toArray).get? b = some u
    rw [sortedHeap_old (Nat.ne_of_lt hlt) (by rw [size_push']; exact Nat.lt_succ_of_lt hlt)]
    exact Heap.get?_push_of_some _ q
  · rw [sortD_keys] at q
    exact q _ _ _ (Nw.lst fh hn (pd_keys _))
/-- sorted(x): a list, a dict, a set -/
theorem cr_sorted (hZ : In X Z) (hc : X.calm = true) (hu : X.A.units + 65 < cLine) : CallR X (.builtin "sorted") (rBi Z "sorted") := by
  intro pins s σ H xs us Q I r ⟨g, ts, t, fh, vw, e, q⟩
  have e : biSorted ts = some t := e
  unfold biSorted at e
  split at e <;> first | (cases e; done) | skip
  obtain ⟨ds, e1, e2⟩ := Option.bind_eq_some_iff.mp e
  split at e2
  · rename_i hk
    rw [Bool.and_eq_true, Bool.and_eq_true] at hk
    obtain ⟨⟨k1, k2⟩, k3⟩ := hk
    have k3 : ds.length ≤ 1000000 := of_decide_eq_true k3
    cases e2
    obtain ⟨x, rfl, vx⟩ := one_vw vw
    obtain ⟨u, rfl, ru⟩ := vals1 r
    unfold itemsS at e1
    split at e1
    · cases e1
      obtain ⟨cs, tr⟩ := vx
      cases tr with
      | os hS =>
        obtain ⟨ks, hH, rfl⟩ := hS
        cases ru
        rw [List.length_map] at k3
        exact sorted_os hZ hc hu I fh hH (all_alike k1) k3 q
    · split at e1
      · rename_i e3
        cases e1
        obtain ⟨p, ys, rfl, hq, pd⟩ := (vx.lk e3).seqL fh
        cases ru
        exact sorted_ol hZ hu I fh (by rw [hZ.K]; exact hq) pd k1 k2 k3 q
      · rename_i e3
        cases e1
        obtain ⟨p, ys, rfl, hq, pd⟩ := (vx.lk e3).dict fh
        cases ru
        rw [List.length_map] at k3
        exact sorted_od hZ hc hu I fh hq pd (all_alike k1) k3 q
      · cases e1
  · cases e2
end
end EV
end PartEvBi3
section PartEvSc
set_option autoImplicit false
set_option linter.all false
set_option maxRecDepth 100000
/-! EvSc: set comprehensions whose things are numbers or texts. -/
namespace EV
open PySem PySem.Spec PyProof.Rows L2
/-- the set at D gets one more thing -/
theorem put_key {X : Cx} {pins : List (Addr × Obj)} {σ : L2.St} {H : Hp} {s : Shared} {E : Value → Shared → Prop} {D : Addr} {ks : List Key} {k : Key} {u : Value} {R : Value → Shared → Prop} (I : Inv X pins σ H s) (hD : H D = some (SetO X.w D ks)) (room : ks.length + 1 < scanBound) (ru : RelV (kV k) u)
    (h : ∀ v s', Inv X pins σ (upd H D (SetO X.w D (addK ks k))) s' → R v s') : wpAny (model X.prog X.w) X.A (PySem.call (.builtin "set.add") [.ref D, u]) R E s :=
  setM_add (kV_is (P := X.prog) (w := X.w) ru) (setO_at I hD) room fun h' sb new => h _ _ <|
    I.write (e := D) (t' := s.toks + 1) (by rw [hD]; trivial) (.inl rfl) (fun b v hb hv => (sb.2 b hb).trans hv) (by have ⟨o, _, _, _, ho, _⟩ := new; exact ⟨o, ho⟩) (setO_ok new)
/-- what a set comprehension comes to: D is the new set -/
def tSet (w : World) (wi : TI) (gt : TG) (tt : TT) (te : TE) (own : List Nat) : TE := fun σ H Q => wi σ H fun J H1 => ∀ D, H1 D = none → ∃ W : Nat → Nat → Hp → Prop, (∃ m, W 0 m (upd H1 D (SetO w D []))) ∧
  ∀ i m H, W i m H → (J.stop i H ∧ Q (.ref D) H) ∨ (J.go i H ∧ ∃ Nx : Hp → Prop, (∀ H', Nx H' → ∃ m', m' < m ∧ W (i + 1) m' H') ∧
    ∀ x H', J.yld i H x H' → gt x (L2.wipe σ own) H' fun σ2 H2 => L2.wipe σ2 own = L2.wipe σ own ∧ tt σ2 H2 fun b H3 =>
      if b = true then te σ2 H3 fun y H4 => ∃ ks k, y = kV k ∧ H4 D = some (SetO w D ks) ∧ ks.length + 1 < scanBound ∧ Nx (upd H4 D (SetO w D (addK ks k))) else Nx H3)
section
variable {X : Cx} {elt tg iter : Expr} {ifs : List Expr} {scope : Scope} {ownN : List (Str × Nat)} {pos : Pos} {wi : TI} {gt : TG} {tt : TT} {te : TE}
/-- the block's context when its set is new at D -/
theorem set_block {pins : List (Addr × Obj)} {σ : L2.St} {H : Hp} {s s' : Shared} {fp : List Addr} {D : Addr} (hN : X.N.Nodup) (ok : BlkOk X.N X.env.scope scope ownN) (I : Inv X pins σ H s) (eD : s.heap.objs.size = D)
    (es : s' = { s with heap := s.heap.push { cls := .type "set", dict := none, data := .set #[] 0 (.fresh 0 0 (!X.w.params.followText "set-order")) } })
    (kp : ∀ b ∈ fp, b < s.heap.objs.size ∧ FpOk X pins H b) :
    Inv X pins σ (upd H D (SetO X.w D [])) s' ∧ (∀ b o, s.heap.get? b = some o → s'.heap.get? b = some o) ∧ (∀ b ∈ fp, FpOk X pins (upd H D (SetO X.w D [])) b ∧ b < s'.heap.objs.size) ∧
    Inv (X.blk s' (upd H D (SetO X.w D [])) scope (compEnvC scope (cellsFrom (s'.heap.objs.size + 1) scope.names (cloFrom X.env.cells scope.names [])) s'.heap.objs.size X.env) fp) [] (L2.wipe σ (ownN.map (·.2))) (upd H D (SetO X.w D [])) { s' with heap := pushCells (s'.heap.push { cls := .type "dict", data := .dict #[] }) scope.names } := by
  subst es eD
  have I' : Inv X pins σ (upd H s.heap.objs.size (SetO X.w s.heap.objs.size [])) { s with heap := s.heap.push { cls := .type "set", dict := none, data := .set #[] 0 (.fresh 0 0 (!X.w.params.followText "set-order")) } } :=
    I.laid (t' := s.toks) (fun b o e => Heap.get?_push_of_some _ e) (Nat.le_refl _) (setO_ok (setM_fresh X.w))
  have q : ∀ b ∈ fp, FpOk X pins (upd H s.heap.objs.size (SetO X.w s.heap.objs.size [])) b ∧ b < (s.heap.push { cls := .type "set", dict := none, data := .set #[] 0 (.fresh 0 0 (!X.w.params.followText "set-order")) } : Heap).objs.size := fun b hb => by
    obtain ⟨lt, z, y⟩ := kp b hb
    exact ⟨⟨by rw [upd_ne (Nat.ne_of_lt lt)]; exact z, y⟩, by rw [Heap.size_push]; exact Nat.lt_succ_of_lt lt⟩
  exact ⟨I', fun b o e => Heap.get?_push_of_some _ e, q, block_start I' ok hN q⟩
theorem set_comp {pins : List (Addr × Obj)} {s : Shared} {σ : L2.St} {H : Hp} {Q : VK} {pos' : Pos} {use : Option (Value → Sem Unit)} {Qf : Value → Shared → Prop} (hc : X.calm = true) (hN : X.N.Nodup) (I : Inv X pins σ H s) (hi : PI X tg iter wi) (ok : BlkOk X.N X.env.scope scope ownN)
    (hg : ∀ (s : Shared) (H : Hp) (C : Addr) (cl : List (Str × Addr)) (fp : List Addr), PG (X.blk s H scope (compEnvC scope cl C X.env) fp) tg gt)
    (ht : ∀ (s : Shared) (H : Hp) (C : Addr) (cl : List (Str × Addr)) (fp : List Addr), PTs (X.blk s H scope (compEnvC scope cl C X.env) fp) ifs tt)
    (he : ∀ (s : Shared) (H : Hp) (C : Addr) (cl : List (Str × Addr)) (fp : List Addr), PE (X.blk s H scope (compEnvC scope cl C X.env) fp) elt te) (hs : ∀ x, foldedSetIterable iter X.env x = pure x)
    (h : tSet X.w wi gt tt te (ownN.map (·.2)) σ H Q)
    (fin : ∀ D C s' m H', Inv X pins σ H' s' → Q (.ref D) H' → s'.heap.Ns C m → FpOk X pins H' C → compPost (model X.prog X.w) X.A X.xe use Qf (.ref D) C (.ok .next) s') :
    wpAny (model X.prog X.w) X.A (comprehension (.SetComp elt [⟨tg, iter, ifs, 0⟩] scope pos) scope X.env pos' (newSet (.type "set")) false (eval iter X.env) use) Qf X.xe s := by
  have fr : ∀ y ∈ scope.names, y.2 = .free → ∃ c, X.env.cells.lookup y.1 = some c := fun y hy e => (ok.free y hy e).elim (fun k => I.ok.has _ (.inl k)) fun k => I.ok.has _ (.inr k)
  refine wpAny_comprehension_free (use := use) rfl hs (closure_ok fr) ok.kind (fun y hy e => by rw [ok.uniq y hy, e]) (thn (hi.run pins s σ H _ I h) fun _ s1 h1 => thn h1 fun _ s2 h2 => ?_)
  obtain ⟨it, fp, tn, J, H2, rfl, I2, T, t0, hfp, q⟩ := h2
  refine PpSet.newSet_ok (newEnv_comp ?_)
  obtain ⟨W, ⟨m0, w0⟩, turn⟩ := q s2.heap.objs.size (I2.hok.fresh (Nat.le_refl _))
  generalize e3 : ({ s2 with heap := s2.heap.push { cls := .type "set", dict := none, data := .set #[] 0 (.fresh 0 0 (!X.w.params.followText "set-order")) } } : Shared) = s3
  obtain ⟨I3, k3, f3, I4⟩ := set_block hN ok I2 rfl e3.symm fun b hb => ⟨let ⟨_, e, _⟩ := T.obj _ _ t0 b hb; Heap.lt_size e, hfp b hb⟩
  generalize s2.heap.objs.size = D at w0 turn I3 f3 I4 ⊢
  generalize eH : upd H2 D (SetO X.w D []) = H3 at w0 I3 f3 I4
  have pg := hg s3 H3 s3.heap.objs.size (cellsFrom (s3.heap.objs.size + 1) scope.names (cloFrom X.env.cells scope.names [])) fp
  have pt := ht s3 H3 s3.heap.objs.size (cellsFrom (s3.heap.objs.size + 1) scope.names (cloFrom X.env.cells scope.names [])) fp
  have pe := he s3 H3 s3.heap.objs.size (cellsFrom (s3.heap.objs.size + 1) scope.names (cloFrom X.env.cells scope.names [])) fp
  have goal : ∀ s4 : Shared, s4 = { s3 with heap := pushCells (s3.heap.push { cls := .type "dict", data := .dict #[] }) scope.names } → Inv (X.blk s3 H3 scope (compEnvC scope (cellsFrom (s3.heap.objs.size + 1) scope.names (cloFrom X.env.cells scope.names [])) s3.heap.objs.size X.env) fp) [] (L2.wipe σ (ownN.map (·.2))) H3 s4 → tn 0 s4.heap →
      codeAny (model X.prog X.w) X.A (.compStart (.SetComp elt [⟨tg, iter, ifs, 0⟩] scope pos) 0 (.ref it) (.ref D) (compEnvC scope (cellsFrom (s3.heap.objs.size + 1) scope.names (cloFrom X.env.cells scope.names [])) s3.heap.objs.size X.env)) (compPost (model X.prog X.w) X.A X.xe use Qf (.ref D) s3.heap.objs.size) s4 := by
    intro s4 _ I4 t4
    have eL : (compEnvC scope (cellsFrom (s3.heap.objs.size + 1) scope.names (cloFrom X.env.cells scope.names [])) s3.heap.objs.size X.env).locals = s3.heap.objs.size := rfl
    generalize compEnvC scope (cellsFrom (s3.heap.objs.size + 1) scope.names (cloFrom X.env.cells scope.names [])) s3.heap.objs.size X.env = ce at pg pt pe I4 eL ⊢
    have still : ∀ {σ' : L2.St} {H' : Hp} {s' : Shared}, Inv (X.blk s3 H3 scope ce fp) [] σ' H' s' → (∀ b ∈ fp, H' b = none) → ∀ b ∈ fp, FpOk (X.blk s3 H3 scope ce fp) [] H' b := fun I' n b hb =>
      ⟨n b hb, (I'.ok.exf b hb).1, I'.ok.exfs b hb, .inl hb, fun x c e => (I'.ok.exf b hb).2 x c e, fun p hp => absurd (show p ∈ ([] : List (Addr × Obj)) ++ [] from hp) (by simp)⟩
    have run : codeAny (model X.prog X.w) X.A (.compLoop (.SetComp elt [⟨tg, iter, ifs, 0⟩] scope pos) 0 (.ref it) (.ref D) ce) (compPost (model X.prog X.w) X.A X.xe use Qf (.ref D) s3.heap.objs.size) s4 := by
      refine PpSet.compLoopS_any (fun n s' => ∃ i H', Inv (X.blk s3 H3 scope ce fp) [] (L2.wipe σ (ownN.map (·.2))) H' s' ∧ tn i s'.heap ∧ (∀ b ∈ fp, H' b = none) ∧ W i n H') ?_ m0 ⟨0, H3, I4, t4, fun b hb => (f3 b hb).1.1, w0⟩
      rintro n s5 ⟨i, H5, I5, t5, n5, w5⟩
      rcases turn i n H5 w5 with ⟨stop, qq⟩ | ⟨go, Nx, back, step⟩
      · refine thnF (T.done (X.blk s3 H3 scope ce fp) rfl rfl rfl hc i [] s5 _ H5 (fun _ _ => False) I5 (still I5 n5) t5 stop) fun r s6 ⟨er, I6⟩ => ?_
        subst er
        obtain ⟨m, ns, _⟩ := I6.loc
        have lk : H5 ce.locals = none := I6.free
        have ns : s6.heap.Ns ce.locals m := ns
        rw [eL] at lk ns
        exact fin D _ s6 m H5 (I3.call' (ch := fp) I6.os I6.base I6.hok I6.bare fun b hb => let z := (f3 b hb).1; ⟨z.2.2.2.1, z.2.1, z.2.2.2.2.1, z.2.2.2.2.2⟩) qq ns (I3.fpOk (Nat.le_refl _) lk)
      · refine thnF (T.item (X.blk s3 H3 scope ce fp) rfl rfl rfl hc i [] s5 _ H5 (fun _ _ => False) I5 (still I5 n5) t5 go) fun r s6 ⟨u, er, h6⟩ => ?_
        subst er
        refine thnF h6 fun _ s7 ⟨x, H7, I7, r7, y7, t7, n7⟩ => ?_
        refine thnF (pg.run _ s7 _ H7 x u _ (I7.pinned (still I7 n7) (T.obj _ _ t7)) r7 (step x H7 y7)) fun _ s8 ⟨σ8, H8, I8, ew, q8⟩ => ?_
        have next : ∀ {s' : Shared} {H' : Hp}, Inv (X.blk s3 H3 scope ce fp) ([] ++ pinsAt fp s7.heap) σ8 H' s' → Nx H' → ∃ m, m < n ∧ ∃ i H', Inv (X.blk s3 H3 scope ce fp) [] (L2.wipe σ (ownN.map (·.2))) H' s' ∧ tn i s'.heap ∧ (∀ b ∈ fp, H' b = none) ∧ W i m H' := fun {s' H'} I' nx => by
          obtain ⟨m', lt, w'⟩ := back H' nx
          have pin : ∀ b ∈ fp, ∀ o, s7.heap.get? b = some o → s'.heap.get? b = some o ∧ H' b = none := fun b hb o e => (I'.pin (b, o) (List.mem_append_right _ (List.mem_append_right _ (mem_pinsAt hb e)))).imp_right (·.1)
          refine ⟨m', lt, i + 1, H', (I'.unpinned (pins := [])).weak (by rw [← ew, wipe_length]) (fun j v e => (wipe_some (ew ▸ e)).1), T.keep _ _ _ t7 fun b hb o e => (pin b hb o e).1, fun b hb => ?_, w'⟩
          obtain ⟨o, e, _⟩ := T.obj _ _ t7 b hb
          exact (pin b hb o e).2
        refine thnF (pt.run _ s8 σ8 H8 _ I8 q8) fun b s9 ⟨H9, I9, q9⟩ => ?_
        cases b with
        | false => exact next I9 q9
        | true =>
          refine thnF (pe.run _ s9 σ8 H9 _ I9 q9) fun z s10 ⟨y, H10, I10, r10, ks, k, ey, hD, room, nx⟩ => ?_
          subst ey
          exact put_key (X := X.blk s3 H3 scope ce fp) I10 hD room r10 fun _ s11 I11 => next I11 nx
    exact PpSet.codeAny_compStart_set run (T.self X.A 0 _ _ _ t4 run)
  exact goal _ rfl I4 (T.keep _ _ _ t0 fun b _ o e => pushCells_keeps _ _ _ _ (Heap.get?_push_of_some _ (k3 b o e)))
theorem pe_set (hc : X.calm = true) (hN : X.N.Nodup) (hi : PI X tg iter wi) (ok : BlkOk X.N X.env.scope scope ownN)
    (hg : ∀ (s : Shared) (H : Hp) (C : Addr) (cl : List (Str × Addr)) (fp : List Addr), PG (X.blk s H scope (compEnvC scope cl C X.env) fp) tg gt)
    (ht : ∀ (s : Shared) (H : Hp) (C : Addr) (cl : List (Str × Addr)) (fp : List Addr), PTs (X.blk s H scope (compEnvC scope cl C X.env) fp) ifs tt)
    (he : ∀ (s : Shared) (H : Hp) (C : Addr) (cl : List (Str × Addr)) (fp : List Addr), PE (X.blk s H scope (compEnvC scope cl C X.env) fp) elt te) (hs : ∀ x, foldedSetIterable iter X.env x = pure x) :
    PE X (.SetComp elt [⟨tg, iter, ifs, 0⟩] scope pos) (tSet X.w wi gt tt te (ownN.map (·.2))) := ⟨fun pins s σ H Q I h => by
  rw [PpSet.eval_SetComp]
  refine set_comp hc hN I hi ok hg ht he hs h fun D C s' m H' I' q ns f => ⟨m, ns, fun h'' sb => ?_⟩
  obtain ⟨f0, f1, _, f3, f4, f5⟩ := f
  exact ⟨.ref D, H', I'.turned (t' := s'.toks) (fun b o hb e => (sb.2 b hb).trans e) f0 f1 f3 f4 f5, rfl, q⟩⟩
end
section
variable {X : Cx} {Z : Wd} {P : Pm} {W : Exn → S → Prop} {elt tg iter : Expr} {ifs : List Expr} {scope : Scope} {ownN : List (Str × Nat)} {pos : Pos} {gt : G} {it : EV.It} {ec ee : E} {m : Md} {own : List Nat}
theorem firsts_snoc : ∀ (r acc : List D) (d : D), firsts acc (r ++ [d]) = if (firsts acc r).any (keyEq d) then firsts acc r else firsts acc r ++ [d]
  | [], acc, d => by
    show (if acc.any (keyEq d) then firsts acc [] else firsts (acc ++ [d]) []) = _
    rfl
  | e :: r, acc, d => by
    show (if acc.any (keyEq e) then firsts acc (r ++ [d]) else firsts (acc ++ [e]) (r ++ [d])) = if (if acc.any (keyEq e) then firsts acc r else firsts (acc ++ [e]) r).any (keyEq d) then (if acc.any (keyEq e) then firsts acc r else firsts (acc ++ [e]) r) else (if acc.any (keyEq e) then firsts acc r else firsts (acc ++ [e]) r) ++ [d]
    by_cases c : acc.any (keyEq e) = true
    · rw [if_pos c, if_pos c]; exact firsts_snoc r acc d
    · rw [if_neg c, if_neg c]; exact firsts_snoc r (acc ++ [e]) d
theorem firsts_len : ∀ (r acc : List D), (firsts acc r).length ≤ acc.length + r.length
  | [], acc => Nat.le_refl _
  | e :: r, acc => by
    unfold firsts
    have h1 := firsts_len r acc
    have h2 := firsts_len r (acc ++ [e])
    simp only [List.length_append, List.length_cons, List.length_nil] at h1 h2 ⊢
    split <;> omega
theorem sc_imp (hZ : In X Z) {σ : L2.St} {H : Hp} {Q : VK} (h : RdE Z P W (.sc ee own gt it ec) m σ H Q) : tSet X.w (RdI Z P W it) (RdGa Z W gt) (RdT Z P W ec) (RdE Z P W ee .e) own σ H Q := by
    obtain ⟨g, s, r, h⟩ := h
    unfold ev at h
    rw [sat_bd] at h
    refine ⟨g, s, r, h.imp fun p s1 h1 g1 H1 J r1 x1 hn src D hD => ?_⟩
    obtain ⟨ds, q⟩ := p
    obtain rfl : q = none := hn
    rw [sat_bd] at h1
    obtain ⟨ho, hl, bs, sE, hcl, k⟩ := comp_ok h1
    rw [hZ.w]
    split at k
    · rename_i hall
      rw [Bool.and_eq_true, decide_eq_true_eq] at hall
      refine comp_walk (Acc := fun g' H' bs' => ∃ ks : List Key, H' D = some (SetO Z.w D ks) ∧ firsts [] bs' = ks.map keyD) (body := fun σ2 H3 Nx => RdE Z P W ee .e σ2 H3 fun y H4 => ∃ ks k, y = kV k ∧ H4 D = some (SetO Z.w D ks) ∧ ks.length + 1 < scanBound ∧ Nx (upd H4 D (SetO Z.w D (addK ks k)))) r1 src hD hl ho hcl ⟨_, rfl⟩
        (fun g' _ => ⟨[], upd_same, rfl⟩) (fun ⟨ks, a1, a2⟩ sb kp => ⟨ks, kp _ a1, a2⟩) (fun {g s s' b σ H Nx bs'} hbm r' he' lo' hn' acc' hb k' => ?_) fun g3 H3 r3 x3 lo hn3 ⟨ks, a1, a2⟩ => ?_
      · obtain ⟨q, rfl⟩ := okKey_iff (List.all_eq_true.mp hall.1 b hbm)
        refine rd_toD (K := fun d s'' => d = keyD q ∧ s'' = s') r' (by rw [he']; exact ⟨rfl, rfl⟩) fun d s'' g' H' v r2 x2 pd ⟨e1, e2⟩ => ?_
        subst e1 e2
        obtain ⟨ks, a1, a2⟩ := acc'
        have ev' : v = kV q := by cases q <;> (cases pd; rfl)
        have hlen : ks.length + 1 < scanBound := by
          have h1 := firsts_len bs' []
          rw [a2, List.length_map, List.length_nil] at h1
          unfold scanBound
          omega
        refine ⟨ks, q, ev', (lo'.ext hn' x2).2 _ a1, hlen, k' g' H' _ r2 x2 fun g'' _ => ⟨addK ks q, upd_same, ?_⟩⟩
        rw [firsts_snoc, a2, any_keyEq]
        unfold addK
        by_cases c : q ∈ ks
        · rw [if_pos c, decide_eq_true c, if_pos rfl]
        · rw [if_neg c, decide_eq_false c, if_neg Bool.false_ne_true, List.map_append]; rfl
      · have hDo : (∃ q, D ∈ g.ow q) ∨ H D = none := x1.back hD
        refine k g3 H3 (.ref D) r3 (x1.trans x3) (Kd.of ⟨[D], ⟨.os ⟨ks, a1, a2⟩, by simp, fun a ha => ?_, Bo.no rfl⟩, fun a ha => ?_⟩ (by intro i z; cases z))
        · obtain rfl : a = D := by simpa using ha
          exact ⟨lo.1, hn3, lo.2.1, lo.2.2⟩
        · obtain rfl : a = D := by simpa using ha
          exact hDo
    · exact k.elim
theorem rd_sc (hZ : In X Z) (hc : X.calm = true) (hN : X.N.Nodup) (hi : PI X tg iter (RdI Z P W it)) (ok : BlkOk X.N X.env.scope scope ownN) (eo : ownN.map (·.2) = own)
    (hg : ∀ (s : Shared) (H : Hp) (C : Addr) (cl : List (Str × Addr)) (fp : List Addr) (fix : List Nat), PG (X.blk s H scope (compEnvC scope cl C X.env) fp) tg (RdG Z fix W gt))
    (ht : ∀ (s : Shared) (H : Hp) (C : Addr) (cl : List (Str × Addr)) (fp : List Addr), PTs (X.blk s H scope (compEnvC scope cl C X.env) fp) ifs (RdT Z P W ec))
    (he : ∀ (s : Shared) (H : Hp) (C : Addr) (cl : List (Str × Addr)) (fp : List Addr), PE (X.blk s H scope (compEnvC scope cl C X.env) fp) elt (RdE Z P W ee .e)) (hs : ∀ x, foldedSetIterable iter X.env x = pure x) :
    PE X (.SetComp elt [⟨tg, iter, ifs, 0⟩] scope pos) (RdE Z P W (.sc ee own gt it ec) m) :=
  (pe_set hc hN hi ok (fun s H C cl fp => rga (hg s H C cl fp)) ht he hs).imp fun σ H Q h => by
    subst eo
    exact sc_imp hZ h
end
end EV
end PartEvSc
section PartEvCa
set_option autoImplicit false
set_option linter.all false
set_option maxRecDepth 100000
/-! EvCa: a comprehension that is given to a name at once. -/
namespace EV
open PySem PySem.Spec PyProof.Rows L2
section
variable {X : Cx} {Z : Wd} {P : Pm} {W : Exn → S → Prop} {elt tg iter : Expr} {ifs : List Expr} {scope : Scope} {ownN : List (Str × Nat)} {pos spos py : Pos} {gt : G} {it : EV.It} {ec ee ek : E} {own : List Nat} {i : Nat} {y : Str}
theorem RdE.weak {e : E} {m : Md} {σ : L2.St} {H : Hp} {Q Q' : VK} (h : RdE Z P W e m σ H Q) (k : ∀ v H', Q v H' → Q' v H') : RdE Z P W e m σ H Q' := by
  obtain ⟨g, s, r, h⟩ := h
  exact ⟨g, s, r, h.imp fun t s' h' g' H' v r' x' kd => k _ _ (h' g' H' v r' x' kd)⟩
theorem rg_imp {fix : List Nat} {v : V} {σ : L2.St} {H : Hp} {Q : L2.St → Hp → Prop} (h : RdG Z fix W (.nm i) v σ H Q) : gName i v σ H Q := by
  obtain ⟨ga, Ha, g, s, t, r, x, tm, h⟩ := h
  unfold asgG at h
  obtain ⟨h1, h2, h3, h4⟩ := asgN_ok h
  obtain ⟨g', r', x', eF⟩ := r.asg x tm h3 h2
  exact h4 g' _ H r' x' (by rw [eF]; exact Sub.refl _) (Fx.set h1)
theorem asg_split {ea : E} {D : Ends} {σ : L2.St} {H : Hp} (h : RdS Z P W (.asg (.nm i) ea) D σ H) : tAsg (RdE Z P W ea .e) (gName i) D σ H :=
  RdE.weak (asg_core (te := fun _ _ _ => True) (g := fun _ _ _ _ => True) h) fun v H' q => rg_imp q
/-- a comprehension's text -/
def compOf : Expr → Option (Scope × Pos)
  | .ListComp _ _ s p => some (s, p)
  | .SetComp _ _ s p => some (s, p)
  | .DictComp _ _ _ s p => some (s, p)
  | _ => none
/-- whether the value goes to the name within the comprehension's frame -/
def swB (sc : Scope) (y : Str) (py : Pos) (e : Expr) : Bool := match compOf e with
  | none => false
  | some (s, p) => sc.names.lookup y == some .local && py.line == p.line && !(s.names.any fun (n, k) => n == y && (k == .local || k == .cell))
theorem swB_ok {sc : Scope} {e : Expr} {l : Nat} {env : Env} (hk : env.scope.kind = .function) (hs : env.scope = sc) : swapsWith e (some (.Name y py)) l env = pure (swB sc y py e) := by
  subst hs
  have hb : env.blockKind = .function := by unfold Env.blockKind; rw [hk]; rfl
  cases e <;> first
    | rfl
    | (unfold swapsWith swB compOf
       simp only [hb, Expr.pos]
       show pure _ = pure _
       congr 1)
/-- the value goes to the name; the block's names are let go -/
theorem use_name {pins : List (Addr × Obj)} {σ : L2.St} {H' : Hp} {s' : Shared} {D : Ends} {L C : Addr} {m : Str → Option Value} (hN : X.N.Nodup) (hy : X.N[i]? = some y) (hl : X.env.scope.names.lookup y = some .local) (I : Inv X pins σ H' s') (q : gName i (.ref L) σ H' D.nx) (ns : s'.heap.Ns C m) (f : FpOk X pins H' C) :
    compPost (model X.prog X.w) X.A X.xe (some (assign (.Name y py) X.env)) (fun _ s' => SP X pins D .next s') (.ref L) C (.ok .next) s' := by
  show wpAny _ _ (assign (.Name y py) X.env (.ref L)) _ _ _
  refine wpAny_assign_Name (store_ok2 (v := V.ref L) I hN hy (.inl hl) rfl (fun s2 I2 ⟨a, sb, ha⟩ => ?_) (.inr hl))
  obtain ⟨f0, f1, _, f3, f4, f5⟩ := f
  refine ⟨m, ns.sameBut sb (fun e => ?_), fun h3 sb3 => ⟨_, H', I2.turned (t' := s2.toks) (fun b o hb e => (sb3.2 b hb).trans e) f0 f1 f3 f4 f5, q⟩⟩
  rcases ha with z | z
  · exact f1 (e.trans z)
  · exact f4 y a z e.symm
variable (hc : X.calm = true) (hN : X.N.Nodup) (hy : X.N[i]? = some y) (hl : X.env.scope.names.lookup y = some .local) (hi : PI X tg iter (RdI Z P W it)) (ok : BlkOk X.N X.env.scope scope ownN) (eo : ownN.map (·.2) = own)
  (hg : ∀ (s : Shared) (H : Hp) (C : Addr) (cl : List (Str × Addr)) (fp : List Addr) (fix : List Nat), PG (X.blk s H scope (compEnvC scope cl C X.env) fp) tg (RdG Z fix W gt))
  (ht : ∀ (s : Shared) (H : Hp) (C : Addr) (cl : List (Str × Addr)) (fp : List Addr), PTs (X.blk s H scope (compEnvC scope cl C X.env) fp) ifs (RdT Z P W ec))
  (he : ∀ (s : Shared) (H : Hp) (C : Addr) (cl : List (Str × Addr)) (fp : List Addr), PE (X.blk s H scope (compEnvC scope cl C X.env) fp) elt (RdE Z P W ee .e)) (hs : ∀ x, foldedSetIterable iter X.env x = pure x)
include hc hN hy hl hi ok eo hg ht he hs
theorem rs_asgL (hw : swapsWith (.ListComp elt [⟨tg, iter, ifs, 0⟩] scope pos) (some (.Name y py)) spos.line X.env = pure true) :
    PS X (.Assign [.Name y py] (.ListComp elt [⟨tg, iter, ifs, 0⟩] scope pos) spos) (RdS Z P W (.asg (.nm i) (.lc false ee own gt it ec))) := by
  refine ⟨fun pins s σ H D I h => ?_⟩
  have h := asg_split h
  subst eo
  rw [exec_Assign_Name_used _ _ _ _ hw]
  refine wpAny_bind (wpAny_standAt (wpAny_bind (wpAny_bind (thn (?_ : wpAny _ X.A (comprehension _ scope X.env (firstIterPos [⟨tg, iter, ifs, 0⟩] pos) (newList []) false (eval iter X.env) (some (assign (.Name y py) X.env))) (fun _ s' => SP X pins D .next s') X.xe s) fun _ s' q => wpAny_pure (wpAny_pure q)))))
  exact lc_core hc hN I hi ok (fun s H C cl fp => rga (hg s H C cl fp)) ht he hs (lc_imp h) fun L C s' m H' I' q ns f => use_name hN hy hl I' q ns f
theorem rs_asgSc (hZ : In X Z) (hw : swapsWith (.SetComp elt [⟨tg, iter, ifs, 0⟩] scope pos) (some (.Name y py)) spos.line X.env = pure true) :
    PS X (.Assign [.Name y py] (.SetComp elt [⟨tg, iter, ifs, 0⟩] scope pos) spos) (RdS Z P W (.asg (.nm i) (.sc ee own gt it ec))) := by
  refine ⟨fun pins s σ H D I h => ?_⟩
  have h := asg_split h
  subst eo
  rw [exec_Assign_Name_used _ _ _ _ hw]
  refine wpAny_bind (wpAny_standAt (wpAny_bind (wpAny_bind (thn (?_ : wpAny _ X.A (comprehension _ scope X.env (firstIterPos [⟨tg, iter, ifs, 0⟩] pos) (newSet (.type "set")) false (eval iter X.env) (some (assign (.Name y py) X.env))) (fun _ s' => SP X pins D .next s') X.xe s) fun _ s' q => wpAny_pure (wpAny_pure q)))))
  exact set_comp hc hN I hi ok (fun s H C cl fp => rga (hg s H C cl fp)) ht he hs (sc_imp hZ h) fun L C s' m H' I' q ns f => use_name hN hy hl I' q ns f
theorem rs_asgDc {kx : Expr} (hk : ∀ (s : Shared) (H : Hp) (C : Addr) (cl : List (Str × Addr)) (fp : List Addr), PE (X.blk s H scope (compEnvC scope cl C X.env) fp) kx (RdE Z P W ek .e))
    (hw : swapsWith (.DictComp kx elt [⟨tg, iter, ifs, 0⟩] scope pos) (some (.Name y py)) spos.line X.env = pure true) :
    PS X (.Assign [.Name y py] (.DictComp kx elt [⟨tg, iter, ifs, 0⟩] scope pos) spos) (RdS Z P W (.asg (.nm i) (.dc false ek ee own gt it ec))) := by
  refine ⟨fun pins s σ H D I h => ?_⟩
  have h := asg_split h
  subst eo
  rw [exec_Assign_Name_used _ _ _ _ hw]
  refine wpAny_bind (wpAny_standAt (wpAny_bind (wpAny_bind (thn (?_ : wpAny _ X.A (comprehension _ scope X.env (firstIterPos [⟨tg, iter, ifs, 0⟩] pos) newDict false (eval iter X.env) (some (assign (.Name y py) X.env))) (fun _ s' => SP X pins D .next s') X.xe s) fun _ s' q => wpAny_pure (wpAny_pure q)))))
  exact dc_core hc hN I hi ok (fun s H C cl fp => rga (hg s H C cl fp)) ht hk he hs (dc_imp h) fun L C s' m H' I' q ns f => use_name hN hy hl I' q ns f
end
end EV
end PartEvCa
section PartEvRev
set_option autoImplicit false
set_option linter.all false
set_option maxRecDepth 100000
set_option maxHeartbeats 4000000
/-! EvRev: x[::-1] of a list or a tuple. -/
namespace EV.Rv
open PySem PySem.Calls PySem.Spec PyProof.Rows HT
section
variable {prog : Program} {w : World} {A : Around} {E : Value → Shared → Prop} {s : Shared}
theorem pick (xs : Array Value) : ((List.range xs.size).filterMap fun (m : Nat) => xs[(((xs.size : Int) - 1) + (m : Int) * (-1)).toNat]?).toArray = xs.toList.reverse.toArray := by
  rw [← PySem.W.krv_all xs, ← List.filterMap_reverse, ← PySem.W.krv_range, List.filterMap_map]
  congr 1
  have go : ∀ l : List Nat, (∀ k ∈ l, k < xs.size) → l.filterMap (fun (m : Nat) => xs[(((xs.size : Int) - 1) + (m : Int) * (-1)).toNat]?) = l.filterMap ((fun x => xs[x]?) ∘ fun k => xs.size - 1 - k) := by
    intro l
    induction l with
    | nil => exact fun _ => rfl
    | cons k l ih =>
      intro h
      have hk := h k List.mem_cons_self
      have e : (((xs.size : Int) - 1) + (k : Int) * (-1)).toNat = xs.size - 1 - k := by omega
      simp only [List.filterMap_cons, Function.comp, e, ih fun j hj => h j (List.mem_cons_of_mem _ hj)]
  exact go _ fun k hk => List.mem_range.mp hk
theorem places (n : Nat) : Builtin.Slice.slicePlaces ((n : Int) - 1) (-1) (-1) = n := by
  unfold Builtin.Slice.slicePlaces
  rw [if_neg (by decide), show (- -1 : Int) = 1 by decide, Int.ediv_one]
  split <;> omega
theorem applied {sl : Addr} {t : Tok} {n : Nat} {Q : Int × Int × Nat → Shared → Prop} (hs : s.heap.IsSliceOf sl .none .none (.int (-1) t)) (h : Q ((n : Int) - 1, -1, n) s) :
    wpAny (model prog w) A (Builtin.Slice.sliceApplied (.ref sl) (pure (n : Int))) Q E s := by
  obtain ⟨o, ho, hc, hd⟩ := id hs
  unfold Builtin.Slice.sliceApplied
  unfold Builtin.Slice.sliceFields
  have f1 : ∀ {Q : Value → Shared → Prop} {i : Nat} {x : Value}, #[Value.none, .none, .int (-1) t][i]? = some x → Q x s → wpAny (model prog w) A (field (.ref sl) i) Q E s := fun e q => wpAny_field ho hd e q
  refine wpAny_bind (wpAny_bind (f1 (x := .none) rfl (wpAny_bind (f1 (x := .none) rfl (wpAny_bind (f1 (x := .int (-1) t) rfl (wpAny_pure ?_)))))))
  refine wpAny_bind (slicePart_int (i := -1) (u := t) ?_)
  refine wpAny_of_eq (if_neg (by decide)) ?_
  show Q ((n : Int) - 1, (-1 : Int), Builtin.Slice.slicePlaces ((n : Int) - 1) (-1) (-1)) s
  rw [places n]
  exact h
theorem itemT {t sl : Addr} {items : Array Value} {tk : Tok} {Q : Value → Shared → Prop} (ht : IsTup s.heap t items) (hs : s.heap.IsSliceOf sl .none .none (.int (-1) tk)) (hz : items.size ≤ sizeLine)
    (h : Q (.ref s.heap.objs.size) { s with heap := s.heap.push { cls := .type "tuple", data := .seq items.toList.reverse.toArray } }) :
    wpAny (model prog w) A (getItem (.ref t) (.ref sl)) Q E s := by
  have hk : sizeOk (.seq items.toList.reverse.toArray) := by
    show items.toList.reverse.toArray.size ≤ sizeLine
    simpa using hz
  have hTs : s.TypeIs (.ref sl) "slice" := let ⟨o, a, b, _⟩ := id hs; ⟨o, a, b⟩
  unfold getItem
  refine wpAny_holding ?_
  first | refine wpAny_bind (wpAny_pure ?_) | skip
  refine wpAny_bind (wpAny_sequenceKey ht.typeIs (by decide) (wpAny_bind ?_))
  refine wpAny_callSpecial?_slot (name := Str.ofString "__getitem__") ht.typeIs slot_tuple_getitem (wpAny_call_entry slot_tuple_getitem ht.typeIs entry_tuple_getitem ?_ (args_tuple_getitem _ _))
  show wpAny _ _ (Builtin.Tuple.tupleItemsOf (.ref t) >>= fun _ => _) _ _ s
  refine wpAny_bind (tupleItemsOf_ ht (wpAny_bind (wpAny_typeOf hTs ?_)))
  rw [if_pos (by decide)]
  refine wpAny_bind (applied (n := items.size) hs ?_)
  have hno : ¬ (((items.size : Int) - 1 == 0 && (-1 : Int) == 1 && items.size == items.size) = true) := by simp
  show wpAny _ _ (if ((items.size : Int) - 1 == 0 && (-1 : Int) == 1 && items.size == items.size) = true then _ else _) _ _ s
  rw [if_neg hno, pick]
  first
    | exact wpAny_bind (m := Builtin.Tuple.tupleExact _) (wpAny_newObj_type (wpAny_pure ⟨_, rfl, wpAny_pure h⟩) hk)
    | exact wpAny_bind (m := Builtin.Tuple.tupleExact _) (wpAny_newObj_type (wpAny_bind (wpAny_pure (wpAny_pure ⟨_, rfl, wpAny_pure h⟩))) hk)
    | exact wpAny_bind (wpAny_bind (m := Builtin.Tuple.tupleExact _) (wpAny_newObj_type (wpAny_pure (wpAny_pure ⟨_, rfl, wpAny_pure h⟩)) hk))
    | exact wpAny_bind (wpAny_bind (m := Builtin.Tuple.tupleExact _) (wpAny_newObj_type (wpAny_pure ⟨_, rfl, wpAny_pure h⟩) hk))
end
end EV.Rv
namespace EV
open PySem PySem.Calls PySem.Spec PyProof.Rows L2
def tRevA (K : PySem.W.Frag) (te : TE) : TE := fun σ H Q => te σ H fun x H1 => ∃ a xs, x = .ref a ∧ ((SqL K H1 a xs ∧ ∀ p, H1 p = none → Q (.ref p) (upd H1 p (.lst xs.reverse))) ∨ (SqT K H1 a xs ∧ ∀ p, H1 p = none → Q (.ref p) (upd H1 p (.tup xs.reverse))))
theorem pe_revA {X : Cx} {e : Expr} {te : TE} {k : Nat} {p1 p2 p3 pos : Pos} (he : PE X e te) : PE X (.Subscript e (.Slice none none (some (.UnaryOp .USub (.Constant (.int 1) k p1) p2)) p3) pos) (tRevA X.K te) :=
  ⟨fun pins s σ H Q I h => Subscript_ (thn (he.run pins s σ H _ I h) fun v s1 ⟨x, H1, I1, r1, a, xs, ex, q⟩ => by
    subst ex
    cases r1
    refine wpAny_Slice (thn (po_none.run pins s1 σ H1 (fun o H2 => o = none ∧ H2 = H1) I1 ⟨rfl, rfl⟩) fun vl s2 ⟨l, H2, I2, pl, el, e2⟩ => ?_)
    subst el e2; cases pl
    refine thn (po_none.run pins s2 σ H2 (fun o H3 => o = none ∧ H3 = H2) I2 ⟨rfl, rfl⟩) fun vu s3 ⟨u, H3, I3, pu, eu, e3⟩ => ?_
    subst eu e3; cases pu
    refine thn ((po_some (pe_un un_neg pe_int) : PO X (some (.UnaryOp .USub (.Constant (.int 1) k p1) p2)) _).run pins s3 σ H3 (fun o H4 => o = some (-1) ∧ H4 = H3) I3 ⟨1, rfl, -1, rfl, rfl, rfl⟩) fun vs s4 ⟨o, H4, I4, ps, eo, e4⟩ => ?_
    subst eo e4
    cases ps with
    | int _ tk =>
    have I5 : Inv X pins σ H4 { s4 with heap := s4.heap.push { cls := .type "slice", data := .fields #[.none, .none, .int (-1) tk] } } := I4.kept (t' := s4.toks) fun b ob q => Heap.get?_push_of_some _ q
    show wpAny (model X.prog X.w) X.A (subscriptTail e (.Slice none none (some (.UnaryOp .USub (.Constant (.int 1) k p1) p2)) p3) (.ref a) (.ref s4.heap.objs.size)) (EP X pins σ Q) X.xe _
    rcases q with ⟨hx, q⟩ | ⟨hx, q⟩
    · obtain ⟨its, r, ht, hz⟩ := I5.list hx
      have hlen := r.length
      refine tail_any (ops := [.ref a, .ref s4.heap.objs.size]) ht.isList.typeIs PySem.slot_list_getitem.lookup ?_ (by with_unfolding_all rfl)
      refine wpAny_getItem_list_slice ht.isList (Heap.IsSliceOf.new _ _ _ _) .none .none (.int _ tk) (by decide) ?_ (by rw [List.size_toArray]; omega)
      rw [PySem.W.krv_pick]
      exact ⟨.ref _, _, I5.laid (t' := s4.toks) (o := .lst xs.reverse) (fun b ob q => Heap.get?_push_of_some _ q) (Nat.le_refl _) ⟨by rw [List.length_reverse]; exact hz, _, 0, r.reverse, Heap.get?_push_size _ rfl⟩, rfl, q _ (I5.hok.fresh (Nat.le_refl _))⟩
    · obtain ⟨its, r, ht, hz⟩ := I5.tuple hx
      have hlen := r.length
      refine tail_any (ops := [.ref a, .ref s4.heap.objs.size]) ht.typeIs PyProof.Rows.slot_tuple_getitem.lookup ?_ (by with_unfolding_all rfl)
      refine Rv.itemT ht (Heap.IsSliceOf.new _ _ _ _) (by rw [List.size_toArray]; omega) ?_
      exact ⟨.ref _, _, I5.laid (t' := s4.toks) (o := .tup xs.reverse) (fun b ob q => Heap.get?_push_of_some _ q) (Nat.le_refl _) ⟨by rw [List.length_reverse]; exact hz, _, r.reverse, IsTup.new _ _⟩, rfl, q _ (I5.hok.fresh (Nat.le_refl _))⟩)⟩
section
variable {X : Cx} {Z : Wd} {P : Pm} {W : Exn → S → Prop} {a : Expr} {ea : E} {m : Md} {k : Nat} {p1 p2 p3 pos : Pos}
theorem rd_rev (hZ : In X Z) (ha : PE X a (RdE Z P W ea .v)) : PE X (.Subscript a (.Slice none none (some (.UnaryOp .USub (.Constant (.int 1) k p1) p2)) p3) pos) (RdE Z P W (.rev ea) m) :=
  (pe_revA ha).imp fun σ H Q ⟨g, s, r, h⟩ => by
    unfold ev at h
    rw [sat_bd] at h
    refine ⟨g, s, r, h.imp fun x s1 h1 g1 H1 v1 r1 x1 k1 => ?_⟩
    have vw := k1.vw
    cases hv : x.vw with
    | none => rw [hv] at h1; exact h1.elim
    | some d =>
      rw [hv] at h1
      have lk := vw.lk hv
      cases d with
      | list ds =>
        obtain ⟨p, xs, e1, hq, rr⟩ := lk.seqL r1.frz
        exact ⟨p, xs, e1, .inl ⟨by rw [hZ.K]; exact hq, fun p hp => fin_new (by intro i z; cases z) h1 r1 x1 (Nw.lst r1.frz hp rr.reverse)⟩⟩
      | tuple ds =>
        obtain ⟨p, xs, e1, hq, rr⟩ := lk.seqT r1.frz
        exact ⟨p, xs, e1, .inr ⟨by rw [hZ.K]; exact hq, fun p hp => fin_new (by intro i z; cases z) h1 r1 x1 (Nw.tup r1.frz hp rr.reverse)⟩⟩
      | _ => exact h1.elim
end
end EV
end PartEvRev
section PartEvDsp
set_option autoImplicit false
set_option linter.all false
set_option maxRecDepth 100000
set_option maxHeartbeats 4000000
/-! EvDsp: {k: v} of one entry. -/
namespace EV
open PySem PySem.Spec PyProof.Rows L2
section
variable {X : Cx} {Z : Wd} {P : Pm} {W : Exn → S → Prop} {m : Md} {kx vx : Expr} {ek ee : E} {pos : Pos}
theorem rd_dct1 (hk : PE X kx (RdE Z P W ek .e)) (hv : PE X vx (RdE Z P W ee .e)) : PE X (.Dict [some kx] [vx] pos) (RdE Z P W (.dct false [ek] [ee]) m) :=
  (pe_disp (pps_cons hk hv pps_nil) rfl rfl (fun z => nomatch z) (by simp)).imp fun σ H Q ⟨g, s, r, h⟩ p hp => by
    have lo : Loose g H p := ⟨?a, fun q hq => (r.own q p hq).2 hp, fun hq => (r.bor p hq).1 hp⟩
    case a =>
      cases e : g.F p with
      | none => rfl
      | some o => rcases r.frz.rd e with q | ⟨_, q⟩ <;> rw [hp] at q <;> cases q
    have r0 := r.touch (o := .dK []) lo
    have x0 : Ext g H g (upd H p (.dK [])) := (Ext.refl g H).touch hp
    have lo0 : Loose g (upd H p (.dK [])) p := lo
    have hn0 : upd H p (.dK []) p ≠ none := by rw [upd_same]; exact fun z => nomatch z
    unfold ev evD at h
    simp only [evD] at h
    rw [sat_bd, sat_bd] at h
    refine rd_toD r0 h fun kd s1 g1 H1 x r1 x1 pk h1 => ?_
    rw [sat_bd] at h1
    have h1 : (if ([kd].all okKey) = true then (if false = true then _ else _) else Res.bad).sat _ W := h1
    split at h1
    · rename_i hok
      have hok : okKey kd = true := by simpa using hok
      obtain ⟨q, rfl⟩ := okKey_iff hok
      rw [if_neg (by decide), sat_bd, sat_bd] at h1
      refine rd_toD r1 h1 fun vd s2 g2 H2 y r2 x2 pv h2 => ?_
      have x12 := x1.trans x2
      obtain ⟨lo2, kp⟩ := lo0.ext hn0 x12
      have ex : x = kV q := by
        cases q with
        | inl n => exact pk.int'
        | inr n => cases pk; rfl
      have hp2 := kp _ upd_same
      refine ⟨hp2, [(q, y)], by rw [ex]; rfl, by simp, ?_⟩
      have h2 : (Res.ok (T.od (dput [] (keyD q) vd)) s2).sat (fun t s' => ∀ g' H' v, Rel Z g' s' σ H' → Ext g H g' H' → Kd Z g H g' H' σ m (.dct false [ek] [ee]) v t → Q v H') W := h2
      refine h2 g2 _ (.ref p) (r2.touch lo2) ((x0.trans x12).touch hp) (Kd.of ⟨[p], ⟨.od upd_same (PdKv.put q .nil pv), by simp, fun a ha => ?_, Bo.no rfl⟩, fun a ha => ?_⟩ (by intro i z; cases z))
      · obtain rfl : a = p := by simpa using ha
        exact ⟨lo2.1, by rw [upd_same]; exact fun z => (nomatch z), lo2.2.1, lo2.2.2⟩
      · obtain rfl : a = p := by simpa using ha
        exact .inr hp
    · exact h1.elim
end
end EV
end PartEvDsp
section PartEvBi4
set_option autoImplicit false
set_option linter.all false
set_option maxRecDepth 100000
/-! EvBi4: dict(a dict), dict(a list of pairs). -/
namespace EV
open PySem PySem.Spec PyProof.Rows L2
section
variable {X : Cx} {Z : Wd} {K : PySem.W.Frag} {F H : Hp}
theorem keyV {k : Key} {v : V} (h : Pd K F v (keyD k)) : v = kV k := by
  cases k with
  | inl n => exact h.int'
  | inr n => cases h; rfl
theorem pairs_of (fh : FH F H) : ∀ {ys : List V} {ds : List D} {ps acc : List (D × D)} {kvs0 : List (Key × V)}, PdAll K F ys ds → pairsD ds = some ps → PdKv K F kvs0 acc →
    ∃ (as : List Addr) (kvs : List (Key × V)), ys = as.map V.ref ∧ Paired (fun p kv => SqT K H p [kV kv.1, kv.2]) as kvs ∧ PdKv K F (mergeK kvs0 kvs) (dmake acc ps)
  | [], _, ps, acc, kvs0, h, e, r => by
    cases h
    cases e
    exact ⟨[], [], rfl, .nil, r⟩
  | y :: ys, d :: ds, ps, acc, kvs0, h, e, r => by
    cases h with
    | cons hp ht =>
    unfold pairsD at e
    split at e
    · cases ‹_ :: _ = []›
    · rename_i k v r' q
      cases q
      split at e
      · rename_i hk
        obtain ⟨ps', e', rfl⟩ := Option.map_eq_some_iff.mp e
        obtain ⟨j, rfl⟩ := okKey_iff hk
        obtain ⟨a, xs, rfl, hq, rr⟩ := (Lk.pd hp).seqT fh
        cases rr with
        | cons p1 rr =>
        cases rr with
        | cons p2 rr =>
        cases rr
        obtain ⟨as, kvs, rfl, pp, rk⟩ := pairs_of fh ht e' (r.put j p2)
        refine ⟨a :: as, (j, _) :: kvs, rfl, .cons ?_ pp, rk⟩
        rw [keyV p1] at hq
        exact hq
      · cases e
    · cases e
theorem cr_dict (hZ : In X Z) (hc : X.calm = true) : CallR X (.type "dict") (rBi Z "dict") := by
  intro pins s σ H xs us Q I r ⟨g, ts, t, fh, vw, e, q⟩
  have e : biDict ts = some t := e
  unfold biDict at e
  split at e
  · obtain ⟨x, rfl, vx⟩ := one_vw vw
    split at e
    · rename_i hv
      cases e
      obtain ⟨a, kvs, rfl, rd, pk⟩ := (vx.lk hv).dict fh
      exact call_dictD pins s σ H _ us Q I r ⟨a, kvs, rfl, rd, fun p hp => q _ _ _ (Nw.dic fh hp pk)⟩
    · rename_i hv
      obtain ⟨ps, e1, rfl⟩ := Option.map_eq_some_iff.mp e
      obtain ⟨a, ys, rfl, hq, rr⟩ := (vx.lk hv).seqL fh
      obtain ⟨as, kvs, rfl, pp, rk⟩ := pairs_of fh rr e1 .nil
      exact call_dictP hc pins s σ H _ us Q I r ⟨a, as, kvs, rfl, by rw [hZ.K]; exact hq, by rw [hZ.K]; exact pp, fun p hp => q _ _ _ (Nw.dic fh hp rk)⟩
    · cases e
  · cases e
end
end EV
end PartEvBi4
section PartEvXt
set_option autoImplicit false
set_option linter.all false
set_option maxRecDepth 100000
/-! EvXt: list(d.values()), max(.., default=..), name += e, extend. -/
namespace EV
open PySem PySem.Spec PyProof.Rows L2
theorem PdKv.vals {K : PySem.W.Frag} {F : Hp} : ∀ {kvs : List (Key × V)} {ds : List (D × D)}, PdKv K F kvs ds → PdAll K F (kvs.map (·.2)) (ds.map (·.2))
  | _, _, .nil => .nil
  | _, _, .cons a r => .cons a r.vals
/-! ### list(d.values()) -/
def tListVals (te : TE) : TE := fun σ H Q => te σ H fun x H1 => ∃ d kvs, x = .ref d ∧ Rd H1 d (.dK kvs) ∧ ∀ p, H1 p = none → Q (.ref p) (upd H1 p (.lst (kvs.map (·.2))))
section
variable {X : Cx} {e : Expr} {te : TE} {p apos cpos pos : Pos}
theorem Inv.dK {pins : List (Addr × Obj)} {σ : L2.St} {H : Hp} {s : Shared} {d : Addr} {kvs : List (Key × V)} (I : Inv X pins σ H s) (h : Rd H d (.dK kvs)) :
    (d == sysModules) = false ∧ kvs.length ≤ sizeLine ∧ ∃ (vs : List (Key × Value)) (ep : Nat), KV kvs vs ∧ s.heap.DictAt (mixKind X.prog X.w) d vs ep := by
  rcases h with h | ⟨o, h⟩
  · obtain ⟨hz, hs0, vs, kv, hdo⟩ := I.hok d _ h
    obtain ⟨ep, hat⟩ := hdo.dictAt
    exact ⟨hs0, hz, vs, ep, kv, hat⟩
  · obtain ⟨_, hz, hs0, vs, kv, hdo⟩ := I.hok d _ h
    obtain ⟨ep, hat⟩ := hdo.dictAt
    exact ⟨hs0, hz, vs, ep, kv, hat⟩
theorem pe_listVals (hc : X.calm = true) (he : PE X e te) (hg : Gl X "list") (hm : X.mg "list" = none) (hv : bootBuiltins "list" = some (.type "list")) (hbase : attributeBase e "values" X.env (eval e X.env) = eval e X.env) (hline : (apos.endLine == cpos.line) = true)
    (hs : starEach [.Call (.Attribute e "values" apos) [] [] cpos] X.env = (false, eval (.Call (.Attribute e "values" apos) [] [] cpos) X.env) :: starEach [] X.env := by rfl) :
    PE X (.Call (.Name "list" p) [.Call (.Attribute e "values" apos) [] [] cpos] [] pos) (tListVals te) := by
  refine ⟨fun pins s σ H Q I hq => ?_⟩
  refine wpAny_Call_Name_kw (ld_blt I hg hm hv ?_)
  refine PyProof.Rows.callWith_type1 ?_ hs rfl
  rw [hs]
  show wpAny _ _ (spliced ((false, eval (.Call (.Attribute e "values" apos) [] [] cpos) X.env) :: backTo pos (starEach [] X.env))) _ _ s
  refine Calls.spliced_cons ?_
  refine wpAny_Call_method (T := "dict") (id := "dict.values") hbase rfl hline F.plainAttrs_dict F.slot_dict_values F.type_dict_values (thn (he.run pins s σ H _ I hq) fun u s1 ⟨x, H1, I1, rx, d, kvs, ex, hd, q⟩ => ?_)
  subst ex
  obtain rfl : u = Value.ref d := rx
  obtain ⟨hs0, hz, vs, ep, kv, hat⟩ := Inv.dK I1 hd
  have lk : kvs.length = vs.length := Paired.length kv
  have I2 : Inv X pins σ H1 { s1 with heap := s1.heap.push { cls := .type "dict_values", data := .fields #[.ref d] } } := I1.kept (t' := s1.toks) fun b ob q => Heap.get?_push_of_some _ q
  refine ⟨hat.dictOf.typeIs, hat.dictOf.mapOf.noDict, ?_⟩
  show wpAny _ _ (callWith cpos (.builtin "dict.values") [.ref d] [] []) _ X.xe s1
  refine method_meetsIn F.slot_dict_values F.entry_dict_values rfl (PySem.evalArgs_none ⟨rfl, hat.dictOf.typeIs, F.args_dict_values_1 _, _, meets_dict_values (mixKind X.prog X.w) d hs0, ⟨vs, hat.dictOf⟩, ?_⟩)
  refine Calls.spliced_nil ?_
  refine PySem.W.kdl_call (PySem.W.kdl_values (knd := mixKind X.prog X.w) (kvs := vs) (ep := ep) (d := d)) (I1.ok.hd hc) ⟨⟨_, Heap.get?_push_size _ rfl, rfl, rfl⟩, hat.push _⟩ (by omega) fun h' tk acc c hk hS hacc => ?_
  refine ⟨.ref (s1.heap.push { cls := .type "dict_values", data := .fields #[.ref d] }).objs.size, upd H1 (s1.heap.push { cls := .type "dict_values", data := .fields #[.ref d] }).objs.size (.lst (kvs.map (·.2))), I2.laid (t' := tk) hk (Nat.le_refl _) ⟨by rw [List.length_map]; exact hz, acc.toList, c, ?_, by rw [Array.toArray_toList]; exact hS⟩, rfl, q _ (I2.hok.fresh (Nat.le_refl _))⟩
  refine vals_of_idx _ _ (by rw [List.length_map, Array.length_toList, lk]; exact hacc.1) fun j u hj => ?_
  obtain ⟨k, hk'⟩ := hacc.2 j u (by rw [← Array.getElem?_toList]; exact hj)
  have hjl : j < kvs.length := by rw [lk]; exact (List.getElem?_eq_some_iff.mp hk').1
  obtain ⟨u', e1, rv⟩ := kv_get kv (List.getElem?_eq_getElem hjl : kvs[j]? = some (kvs[j].1, kvs[j].2))
  rw [hk'] at e1
  cases e1
  exact ⟨kvs[j].2, by rw [List.getElem?_map, List.getElem?_eq_getElem hjl]; rfl, rv⟩
theorem rd_listVals {Z : Wd} {P : Pm} {W : Exn → S → Prop} {ea : E} {m : Md} (hc : X.calm = true) (he : PE X e (RdE Z P W ea .v)) (hg : Gl X "list") (hm : X.mg "list" = none) (h1 : noSuper e = true) (hline : (apos.endLine == cpos.line) = true) :
    PE X (.Call (.Name "list" p) [.Call (.Attribute e "values" apos) [] [] cpos] [] pos) (RdE Z P W (.bi "listvals" [ea]) m) :=
  (pe_listVals hc he hg hm (by decide +kernel) (attrBase h1) hline).imp fun σ H Q ⟨g, s, r, h⟩ => by
    unfold ev at h
    rw [sat_bd] at h
    unfold evV at h
    rw [sat_bd] at h
    refine ⟨g, s, r, h.imp fun x s1 h1 g1 H1 v1 r1 x1 k1 => ?_⟩
    rw [sat_bd] at h1
    unfold evV at h1
    have h1 := (show ((late ea x ([].all quiet) s1).bd fun t s => Res.ok (t :: []) s).sat _ W from h1)
    rw [sat_bd] at h1
    obtain ⟨t', vw, h3⟩ := late_ok k1 (Ext.refl _ _) r1 h1
    obtain ⟨t, e, h4⟩ := sat_lift h3
    have e : biVals [t'] = some t := e
    have e : (match t'.vw with | some (.dict kvs) => some (T.ol (kvs.map (·.2))) | _ => none) = some t := e
    split at e
    · rename_i kvs hv
      cases e
      obtain ⟨a, ks, rfl, rd, pk⟩ := (vw.lk hv).dict r1.frz
      exact ⟨a, ks, rfl, rd, fun p hp => fin_new (by intro i z; cases z) h4 r1 x1 (Nw.lst r1.frz hp pk.vals)⟩
    · cases e
/-! ### max(.., default=..) -/
def rMaxDf (Z : Wd) : List V → List V → Hp → VK → Prop := fun xs zs H Q => ∃ (g : Gh) (t : T) (d r : D), FH g.F H ∧ VwAll Z g H xs [t] ∧ (∃ z, zs = [z] ∧ Pd Z.K g.F z d) ∧ bikT "max" "default" t d = some r ∧ ∀ v, Pd Z.K g.F v r → Q v H
theorem maxOf_foldl : ∀ (ys : List Int) (y : Int), PySem.W.maxOf y ys = ys.foldl max y
  | [], y => rfl
  | z :: ys, y => by
    have e : (if PySem.W.DatumOrd.lt y z = true then z else y) = max y z := by
      show (if decide (y < z) = true then z else y) = _
      by_cases h : y < z
      · rw [if_pos (decide_eq_true h), Int.max_eq_right (by omega)]
      · rw [if_neg (by simpa using h), Int.max_eq_left (by omega)]
    show ys.foldl _ (if PySem.W.DatumOrd.lt y z = true then z else y) = ys.foldl max (max y z)
    rw [e]
    exact maxOf_foldl ys (max y z)
theorem cr_maxDf {Z : Wd} (hZ : In X Z) (hu : X.A.units + 1 < cLine) (hc : X.calm = true) : CallRK X (.builtin "max") [Str.ofString "default"] (rMaxDf Z) := by
  intro pins s σ H xs zs us ws Q I rx rz ⟨g, t, d, r, fh, vw, ⟨z, ez, pz⟩, e, q⟩
  subst ez
  obtain ⟨x, rfl, vx⟩ := one_vw vw
  obtain ⟨is, e1, e2⟩ : ∃ is, (listT t).bind intsD = some is ∧ (match maxI is with | some i => PyData.int i | none => d) = r := by
    have e : (match (listT t).bind intsD with | some is => some (match maxI is with | some i => PyData.int i | none => d) | none => none) = some r := by
      rw [← e]; unfold bikT; cases (listT t).bind intsD <;> rfl
    cases h : (listT t).bind intsD with
    | none => rw [h] at e; cases e
    | some is => rw [h] at e; exact ⟨is, rfl, Option.some.inj e⟩
  obtain ⟨ds, e3, e4⟩ := Option.bind_eq_some_iff.mp e1
  obtain ⟨p, ys, rfl, hq, rr⟩ := listT_vw hZ fh e3 vx
  rw [intsD_map e4] at rr
  rw [rr.ints] at hq
  obtain ⟨its, rv, hl, _⟩ := I.list hq
  rw [Vals.ref1 rx]
  cases rz with
  | cons rzz rn =>
    cases rn
    rename_i w
    refine PySem.W.max_list_datum_default (α := Int) (d := w) (I.ok.hd hc) hl.isList (PySem.W.HoldAll.of_ints rv.ints) hu (fun e0 h' tk hk => ?_) fun y ys' i v h' tk e0 hi hv hk => ?_
    · subst e0
      refine ⟨z, H, I.kept hk, rzz, q _ ?_⟩
      rw [← e2]; exact pz
    · subst e0
      have ev : (match maxI (y :: ys') with | some i => PyData.int i | none => d) = .int (PySem.W.maxOf y ys') := by rw [maxOf_foldl]; rfl
      rw [ev] at e2
      obtain ⟨as, hv⟩ := hv
      cases hv
      exact ⟨.int _, H, I.kept hk, ⟨_, rfl⟩, q _ (by rw [← e2]; exact .int _)⟩
theorem rd_maxDf {Z : Wd} {P : Pm} {W : Exn → S → Prop} {a b : Expr} {ea eb : E} {m : Md} {kpos : Pos} (hZ : In X Z) (hu : X.A.units + 1 < cLine) (hc : X.calm = true) (hg : Gl X "max") (hm : X.mg "max" = none) (ha : PE X a (RdE Z P W ea .v)) (hb : PE X b (RdE Z P W eb .e)) (h1 : noStar a = true) :
    PE X (.Call (.Name "max" p) [a] [⟨some "default", b, kpos⟩] pos) (RdE Z P W (.bik "max" ea "default" eb) m) :=
  (pe_callBK (cr_maxDf hZ hu hc) hg hm (by decide +kernel) (pa_cons ha pa_nil (starEach_cons h1)) (pk_cons hb pk_nil) (by decide) (by decide) (by rw [starEach_cons h1]; rfl) (by rw [starEach_cons h1]; rfl) rfl rfl rfl).imp fun σ H Q ⟨g, s, r, h⟩ => by
    unfold ev at h
    rw [sat_bd] at h
    refine ⟨g, s, r, h.imp fun x s1 h1 g1 H1 v1 r1 x1 k1 => ?_⟩
    rw [sat_bd] at h1
    refine rd_toP r1 h1 fun d s2 g2 H2 z r2 x2 pd h2 => ?_
    rw [sat_bd] at h2
    obtain ⟨t', vw, h3⟩ := late_ok k1 x2 r2 h2
    obtain ⟨t, e, h4⟩ := sat_lift h3
    obtain ⟨rd, e2, rfl⟩ := Option.map_eq_some_iff.mp e
    exact ⟨g2, t', d, rd, r2.frz, .cons vw .nil, ⟨z, rfl, pd⟩, e2, fun v pv => fin_new (by intro i z; cases z) h4 r2 (x1.trans x2) (Nw.pd pv)⟩
/-! ### name += e -/
theorem rs_aug {Z : Wd} {P : Pm} {W : Exn → S → Prop} {b : Expr} {eb : E} {i : Nat} {x : Str} {px : Pos} (hN : X.N.Nodup) (hi : X.N[i]? = some x) (hx : Loc X.env.scope x) (hf : X.fn x = true ∨ X.env.scope.names.lookup x = some .local) (hb : PE X b (RdE Z P W eb .e)) :
    PS X (.AugAssign (.Name x px) .Add b pos) (RdS Z P W (.aug i .Add eb)) :=
  (ps_aug hN hi hx hb ip_add hf).imp fun D σ H ⟨g, s, r, h⟩ => by
    unfold exC at h
    rw [sat_bd] at h
    obtain ⟨v, t, g1, s1, e1, ⟨n, rfl, h1⟩, r1, x1, tm⟩ := slotE_ok r (toI_ok h)
    obtain rfl := (Tm.plD tm).int'
    rw [sat_bd] at h1
    refine ⟨_, e1, rd_toI r1 h1 fun k s2 g2 H2 r2 x2 h2 => ⟨n, k, rfl, rfl, ?_⟩⟩
    have h2 : ((asgG P.fix (.nm i) (.pl (.int (n + k))) s2).bd fun _ s => Res.ok Fl.nx s).sat _ W := h2
    rw [sat_bd] at h2
    unfold asgG at h2
    obtain ⟨f1, f2, f3, f4⟩ := asgN_ok h2
    obtain ⟨g', r', x', eF⟩ := r2.asg x2 (Tm.pl (.int (n + k))) f3 f2
    exact f4 g' _ H2 r' (x1.trans x') (Fx.set f1)
/-! ### extend -/
theorem rd_extend {Z : Wd} {P : Pm} {W : Exn → S → Prop} {b : Expr} {es : List E} {i : Nat} {x : Str} {px : Pos} {m : Md} (hN : X.N[i]? = some x) (hv : Vis X.env.scope x) (hd : (x == ("__debug__" : Str)) = false) (hcd : (x == ("__classdict__" : Str)) = false) (hA : PA X [b] (RdD Z P W es)) (h2 : noStar b = true) (hl : (apos.endLine == pos.line) = true) :
    PE X (.Call (.Attribute (.Name x px) "extend" apos) [b] [] pos) (RdE Z P W (.mut (.var i) "extend" es) m) :=
  (pe_bm PySem.F.plainAttrs_list PySem.F.slot_list_extend PySem.F.type_list_extend mt_extend (pe_var hN hv hd hcd) hA rfl (callFew (by simp [h2]) (by simp)) hl (starEach_cons h2) rfl).imp
    fun σ H Q h => mut_core (nm := "extend") (by decide) (fun g H a xs ds vs es d t' Q fh hH p pe e q => by
      have e : muExt (.ol ds) es = some (d, t') := e
      unfold muExt at e
      split at e <;> first | (cases e; done) | skip
      rename_i es0 heq _
      cases heq
      split at e
      · rename_i hz
        cases e
        obtain ⟨v, rfl, pv⟩ := pe.one
        cases pv with
        | lst hF pa =>
          rename_i b zs
          refine ⟨a, b, xs, zs, rfl, rfl, hH, fh.lst hF, ?_, q _ _ _ rfl (p.append pa) .non⟩
          rw [Bool.and_eq_true] at hz
          have h3 := of_decide_eq_true hz.1
          have h4 := of_decide_eq_true hz.2
          rw [p.length, pa.length, sizeLine_eq]; omega
      · cases e) (fun {ds es d t'} e => by
      have e : muExt (.ol ds) es = some (d, t') := e
      unfold muExt at e
      split at e <;> first | (cases e; done) | skip
      split at e
      · cases e; exact ⟨_, rfl⟩
      · cases e) σ H Q h
end
end EV
end PartEvXt
section PartEvAs2
set_option autoImplicit false
set_option linter.all false
set_option maxRecDepth 100000
set_option maxHeartbeats 2000000
/-! EvAs2: x[i], x[j] = a, b. -/
namespace EV
open PySem PySem.Spec PyProof.Rows L2
theorem toP_toD {r : Res T} {K : D → S → Prop} {W : Exn → S → Prop} (h : (toP r).sat K W) : (toD r).sat K W := by
  unfold toP at h
  unfold toD
  cases r with
  | ok t s =>
    cases t <;> first | exact h | exact h.elim
  | ex x s => exact h
  | bad => exact h
theorem ev_tup2 {P : Pm} {a b : E} {s : S} : ev P (.tup false [a, b]) .e s = (toD (ev P a .e s)).bd fun x s => (toD (ev P b .e s)).bd fun y s => .ok (.pl (.tuple [x, y])) s := by
  simp only [ev, evD, Bool.false_eq_true, if_false]
  cases toD (ev P a .e s) with
  | ok x s1 =>
    simp only [bd_ok]
    cases toD (ev P b .e s1) with
    | ok y s2 => rfl
    | ex e s2 => rfl
    | bad => rfl
  | ex e s1 => rfl
  | bad => rfl
theorem swap_sub {a b d e : Expr} {c f p : Pos} {k : Nat} {v : Expr} {env : Env} : swappedStores [.Tuple [.Subscript a b c, .Subscript d e f] k p] v env = pure none := by
  unfold swappedStores
  cases v <;> first | rfl | skip
  rename_i vs k2 p2
  dsimp only
  split
  · rfl
  · split
    · rfl
    · rfl
section
variable {X : Cx} {Z : Wd} {P : Pm} {W : Exn → S → Prop} {i : Nat} {x : Str}
/-- one place is given its value -/
theorem put_ok {ei : E} {q : D} {v : V} {g0 g : Gh} {H0 H : Hp} {s : S} {σ : L2.St} {Kc : S → Res Fl} {Fin : Fl → S → Prop} {Q : Hp → Prop} (r : Rel Z g s σ H) (x : Ext g0 H0 g H) (pv : Pd Z.K g.F v q)
    (h : (if placeOk s ⟨.s i, []⟩ = true then (toP (ev P ei .e s)).bd fun j s => (setAt ⟨.s i, []⟩ j (.pl q) s).bd fun _ s => Kc s else Res.bad).sat Fin W)
    (k : ∀ s' g' H', Rel Z g' s' σ H' → Ext g0 H0 g' H' → Ext g H g' H' → (Kc s').sat Fin W → Q H') : ∃ o, σ[i]? = some (some o) ∧ RdE Z P W ei .e σ H fun vj H2 => rSetI o vj v H2 Q := by
  split at h
  · rename_i hk
    unfold placeOk at hk
    rw [getPl_s] at hk
    cases hs1 : s.vs[i]? with
    | none => rw [hs1] at hk; cases hk
    | some t =>
      rw [hs1] at hk
      obtain ⟨o, ho, _⟩ := r.pl hs1 (fun z => by subst z; cases hk)
      refine ⟨o, ho, ?_⟩
      rw [sat_bd] at h
      refine rd_toP r h fun j s2 g2 H2 vj r2 x2 pj h2 => ?_
      rw [sat_bd] at h2
      exact setAt_ok r2 x2 (Tm.pl (pv.mono x2.sub)) pj ho h2 fun s' g' H' r' x' hk => k s' g' H' r' (x.trans x') x' hk
  · exact h.elim
theorem rs_as2 {px px' ps ps' pt pv pos : Pos} {kt : Nat} {x1 : Nat} {i1 i2 e1 e2 : Expr} {ei ej ea eb : E} (hu : X.A.units + 64 < cLine) (hc : X.calm = true) (hK : X.K = Z.K) (hN : X.N[i]? = some x) (hv : Vis X.env.scope x) (hd : (x == ("__debug__" : Str)) = false) (hcd : (x == ("__classdict__" : Str)) = false)
    (ha : PE X e1 (RdE Z P W ea .e)) (hb : PE X e2 (RdE Z P W eb .e)) (hi : PE X i1 (RdE Z P W ei .e)) (hj : PE X i2 (RdE Z P W ej .e)) (n1 : noSlice i1 = true) (n2 : noSlice i2 = true) (s1 : noStar e1 = true) (s2 : noStar e2 = true) :
    PS X (.Assign [.Tuple [.Subscript (.Name x px) i1 ps, .Subscript (.Name x px') i2 ps'] kt pt] (.Tuple [e1, e2] x1 pv) pos) (RdS Z P W (.as2 (.var i) ei (.var i) ej ea eb)) :=
  (ps_asg (rd_tup (m := .e) (P := P) (W := W) (es := [ea, eb]) (rdd_cons ha (rdd_cons hb rdd_nil (starEach_cons s2)) (starEach_cons s1)) (by simp)) (pg_tup hc (pgs_cons (pg_sub (pe_var hN hv hd hcd) hi (set_any hu) (subAsg n1)) (pgs_cons (pg_sub (pe_var hN hv hd hcd) hj (set_any hu) (subAsg n2)) pgs_nil))) rfl swap_sub rfl).imp fun D σ H ⟨g, s, r, h⟩ => by
    unfold exC at h
    rw [sat_bd] at h
    have h' : (ev P (.tup false [ea, eb]) .e s).sat (fun t s2 => ∃ a b, t = .pl (.tuple [a, b]) ∧ ((evP P (.var i) s2).bd fun q s => if placeOk s q then (toP (ev P ei .e s)).bd fun j s => (setAt q j (.pl a) s).bd fun _ s =>
      (evP P (.var i) s).bd fun q s => if placeOk s q then (toP (ev P ej .e s)).bd fun j s => (setAt q j (.pl b) s).bd fun _ s => .ok .nx s else .bad else .bad).sat (fun f s' => ∀ g' σ' H', Rel Z g' s' σ' H' → Ext g H g' H' → Fx P.fix σ σ' → EndF Z g H g' H' D σ' f) W) W := by
      rw [ev_tup2, sat_bd]
      refine (toP_toD h).imp fun a s1 h1 => ?_
      rw [sat_bd] at h1 ⊢
      exact (toP_toD h1).imp fun b s2 h2 => ⟨a, b, rfl, h2⟩
    refine ⟨g, s, r, h'.imp fun t s2 ⟨a, b, et, h2⟩ g2 H2 v r2 x2 k2 => ?_⟩
    subst et
    obtain ⟨ad, xs, rfl, hq, rr⟩ := (Lk.pd k2.vw.pd).seqT r2.frz
    cases rr with
    | cons p1 rr =>
    cases rr with
    | cons p2 rr =>
    cases rr
    rename_i v1 v2
    refine ⟨ad, [v1, v2], rfl, by rw [hK]; exact hq, rfl, v1, [v2], rfl, ?_⟩
    unfold evP at h2
    simp only [bd_ok] at h2
    refine put_ok r2 x2 p1 h2 fun s3 g3 H3 r3 x3 x23 h3 => ⟨v2, [], rfl, ?_⟩
    exact put_ok r3 x3 (p2.mono x23.sub) h3 fun s4 g4 H4 r4 x4 _ h4 => ⟨rfl, h4 g4 σ H4 r4 x4 Fx.refl⟩
end
end EV
end PartEvAs2
section PartEvChk
set_option autoImplicit false
set_option linter.all false
set_option maxRecDepth 100000
/-! EvChk: whether a tree is the text. -/
namespace EV
open PySem PySem.Spec PyProof.Rows L2
structure Gam where
  N : List Str
  con : List String
  fns : List (String × Nat)
  free : List String
def visB (sc : Scope) (x : Str) : Bool := sc.names.lookup x == some .local || sc.names.lookup x == some .cell || sc.names.lookup x == some .free
/-- which cells may be stored to -/
def allL : Str → Bool := fun _ => true
def cellB (scope : Scope) : Str → Bool := fun x => scope.names.lookup x == some .cell
def locB (sc : Scope) (lv : Str → Bool) (x : Str) : Bool := sc.names.lookup x == some .local || (lv x && sc.names.lookup x == some .cell)
def glB (sc : Scope) (x : Str) : Bool := sc.names.lookup x == some .globalImplicit
def nmB (x : Str) : Bool := !(x == ("__debug__" : Str)) && !(x == ("__classdict__" : Str))
def slB (Γ : Gam) (sc : Scope) (i : Nat) (x : Str) : Bool := Γ.N[i]? == some x && visB sc x && nmB x
def freB (Γ : Gam) (sc : Scope) (f : String) (x : Str) : Bool := x == Str.ofString f && glB sc x && Γ.free.contains f
def litB : D → Expr → Bool
  | .int i, .Constant (.int j) _ _ => i == j
  | .bool i, .Constant (.bool j) _ _ => i == j
  | .none, .Constant .none _ _ => true
  | .str i, .Constant (.str j) _ _ => i == j
  | _, _ => false
def biFn (f : String) : Bool := f == "len" || f == "max" || f == "min" || f == "sum" || f == "all" || f == "any" || f == "abs" || f == "sorted"
def biTy (f : String) : Bool := f == "int" || f == "str" || f == "list" || f == "tuple" || f == "set" || f == "dict"
def lineB (a b : Pos) : Bool := a.endLine == b.line
def noTup : Expr → Bool
  | .Tuple _ _ _ => false
  | _ => true
def noSet : Expr → Bool
  | .Set _ _ _ => false
  | _ => true
def litNone : E → Bool
  | .lit .none => true
  | _ => false
def litTrue : E → Bool
  | .lit (.bool true) => true
  | _ => false
mutual
def chkG (Γ : Gam) (sc : Scope) (lv : Str → Bool) : G → Expr → Bool
  | .nm i, e => match e with
    | .Name x _ => Γ.N[i]? == some x && locB sc lv x
    | _ => false
  | .tp gs, e => match e with
    | .Tuple es _ _ => es.all noStar && decide (es.length = gs.length) && chkGs Γ sc lv gs es
    | _ => false
  | .tps gs i hs, e => match e with
    | .Tuple es _ _ => hs.isEmpty && chkGS Γ sc lv i gs es
    | _ => false
/-- .. and a star behind them -/
def chkGS (Γ : Gam) (sc : Scope) (lv : Str → Bool) (i : Nat) : List G → List Expr → Bool
  | [], es => match es with
    | [.Starred (.Name x _) _] => Γ.N[i]? == some x && locB sc lv x
    | _ => false
  | g :: gs, es => match es with
    | e :: es => noStar e && chkG Γ sc lv g e && chkGS Γ sc lv i gs es
    | [] => false
def chkGs (Γ : Gam) (sc : Scope) (lv : Str → Bool) : List G → List Expr → Bool
  | [], es => es.isEmpty
  | g :: gs, es => match es with
    | e :: es => noStar e && chkG Γ sc lv g e && chkGs Γ sc lv gs es
    | [] => false
end
def ownNames (Γ : Gam) : List Nat → Option (List (Str × Nat))
  | [] => some []
  | i :: r => match Γ.N[i]?, ownNames Γ r with
    | some x, some l => some ((x, i) :: l)
    | _, _ => none
def blkB (Γ : Gam) (sc scope : Scope) (ownN : List (Str × Nat)) : Bool :=
  decide (scope.kind = .function) && scope.names.all (fun y => scope.names.lookup y.1 == some y.2) &&
  scope.names.all (fun y => !(y.2 == .free) || sc.names.lookup y.1 == some .cell || sc.names.lookup y.1 == some .free) &&
  scope.names.all (fun y => !(y.2 == .local || y.2 == .cell) || (ownN.map (·.1)).contains y.1 || !Γ.N.contains y.1)
mutual
def chkE (Γ : Gam) (sc : Scope) : E → Expr → Bool
  | .var i, e => match e with
    | .Name x _ => slB Γ sc i x
    | _ => false
  | .lit d, e => litB d e
  | .con c, e => match e with
    | .Name x _ => x == Str.ofString c && glB sc x && nmB x && Γ.con.contains c
    | _ => false
  | .tup n es, e => match e with
    | .Tuple as _ _ => !n && decide (es.length ≤ 1000) && chkEs Γ sc es as
    | _ => false
  | .lst n es, e => match e with
    | .List as _ => !n && decide (es.length ≤ 1000) && chkEs Γ sc es as
    | _ => false
  | .dct n ks vs, e => match e with
    | .Dict [] [] _ => !n && ks.isEmpty && vs.isEmpty
    | .Dict [some k] [v] _ => !n && chkEs Γ sc ks [k] && chkEs Γ sc vs [v]
    | _ => false
  | .rev a, e => match e with
    | .Subscript x (.Slice none none (some (.UnaryOp .USub (.Constant (.int 1) _ _) _)) _) _ => chkE Γ sc a x
    | _ => false
  | .bin op a b, e => match e with
    | .BinOp x op' y _ => op == op' && chkE Γ sc a x && chkE Γ sc b y
    | _ => false
  | .neg a, e => match e with
    | .UnaryOp .USub x _ => chkE Γ sc a x
    | _ => false
  | .not a, e => match e with
    | .UnaryOp .Not x _ => chkE Γ sc a x
    | _ => false
  | .and a b, e => match e with
    | .BoolOp .And (x :: y :: r) p => chkE Γ sc a x && (match r with
      | [] => chkE Γ sc b y
      | _ => chkE Γ sc b (.BoolOp .And (y :: r) p))
    | _ => false
  | .or a b, e => match e with
    | .BoolOp .Or (x :: y :: r) p => chkE Γ sc a x && (match r with
      | [] => chkE Γ sc b y
      | _ => chkE Γ sc b (.BoolOp .Or (y :: r) p))
    | _ => false
  | .ite c a b, e => match e with
    | .IfExp t x y _ => chkT Γ sc c t && chkE Γ sc a x && chkE Γ sc b y
    | _ => false
  | .cmp op a b, e => match e with
    | .Compare x [op'] [y] _ => op == op' && !behindInMarks op y && chkE Γ sc a x && chkE Γ sc b y
    | _ => false
  | .chn o1 o2 a b c, e => match e with
    | .Compare x [o1', o2'] [y, z] _ => o1 == o1' && o2 == o2' && !lastMarks [o1, o2] [y, z] && chkE Γ sc a x && chkE Γ sc b y && chkE Γ sc c z
    | _ => false
  | .idx a i, e => match e with
    | .Subscript x j _ => noSlice j && chkE Γ sc a x && chkE Γ sc i j
    | _ => false
  | .slc a lo hi, e => match e with
    | .Subscript x (.Slice l u none _) _ => chkE Γ sc a x && (match l with
      | none => litNone lo
      | some y => !litNone lo && chkE Γ sc lo y) && (match u with
      | none => litNone hi
      | some y => !litNone hi && chkE Γ sc hi y)
    | _ => false
  | .bi f es, e => match e with
    | .Call (.Name x _) (a :: as) [] _ => if f == "listvals" then (match a, as with
      | .Call (.Attribute y n ap) [] [] cp, [] => freB Γ sc "list" x && n == "values" && noSuper y && lineB ap cp && chkEs Γ sc es [y]
      | _, _ => false) else (biFn f || biTy f) && freB Γ sc f x && chkEs Γ sc es (a :: as)
    | _ => false
  | .bik f a k b, e => match e with
    | .Call (.Name x _) [y] [⟨some kw, z, _⟩] _ => f == "max" && k == "default" && kw == "default" && freB Γ sc "max" x && noStar y && chkE Γ sc a y && chkE Γ sc b z
    | _ => false
  | .isi a ts, e => match e, ts with
    | .Call (.Name x _) [y, .Name z _] [] _, [ty] => freB Γ sc "isinstance" x && noStar y && (["bool", "int", "str", "list", "tuple", "dict"].any fun t => ty == Str.ofString t && freB Γ sc t z) && chkE Γ sc a y
    | _, _ => false
  | .call f as ks bs, e => match e, ks, bs with
    | .Call (.Name x _) (a :: r) [] _, [], [] => x == Str.ofString f && glB sc x && nmB x && Γ.fns.contains (f, as.length) && (a :: r).all noStar && chkAs Γ sc as (a :: r)
    | _, _, _ => false
  | .met a m es, e => match e with
    | .Call (.Attribute x n ap) [y] [] p => noSuper x && noStar y && lineB ap p && chkE Γ sc a x && chkEs Γ sc es [y] && ((m == "join" && n == "join") || (m == "index" && n == "index") || (m == "get" && n == "get"))
    | _ => false
  | .mut a m es, e => match e, a with
    | .Call (.Attribute (.Name x _) n ap) [y] [] p, .var i => slB Γ sc i x && noStar y && lineB ap p && chkEs Γ sc es [y] && ((m == "append" && n == "append") || (m == "pop" && n == "pop") || (m == "extend" && n == "extend"))
    | .Call (.Attribute (.Name x _) n ap) [] [] p, .var i => slB Γ sc i x && lineB ap p && chkEs Γ sc es [] && (m == "pop" && n == "pop")
    | _, _ => false
  | .lc n elt own g it c, e => match e, ownNames Γ own with
    | .ListComp x [⟨tg, iter, ifs, a⟩] scope _, some ownN => !n && a == 0 && noSet iter && blkB Γ sc scope ownN && chkI Γ sc it tg iter && chkG Γ (relS scope sc) (cellB scope) g tg && chkE Γ (relS scope sc) elt x && (match ifs with
      | [] => litTrue c
      | [t] => chkT Γ (relS scope sc) c t
      | _ => false)
    | _, _ => false
  | .sc elt own g it c, e => match e, ownNames Γ own with
    | .SetComp x [⟨tg, iter, ifs, a⟩] scope _, some ownN => a == 0 && noSet iter && blkB Γ sc scope ownN && chkI Γ sc it tg iter && chkG Γ (relS scope sc) (cellB scope) g tg && chkE Γ (relS scope sc) elt x && (match ifs with
      | [] => litTrue c
      | [t] => chkT Γ (relS scope sc) c t
      | _ => false)
    | _, _ => false
  | .dc n key elt own g it c, e => match e, ownNames Γ own with
    | .DictComp kx x [⟨tg, iter, ifs, a⟩] scope _, some ownN => !n && a == 0 && noSet iter && blkB Γ sc scope ownN && chkI Γ sc it tg iter && chkG Γ (relS scope sc) (cellB scope) g tg && chkE Γ (relS scope sc) key kx && chkE Γ (relS scope sc) elt x && (match ifs with
      | [] => litTrue c
      | [t] => chkT Γ (relS scope sc) c t
      | _ => false)
    | _, _ => false
  | _, _ => false
def chkT (Γ : Gam) (sc : Scope) : E → Expr → Bool
  | .not a, e => match e with
    | .UnaryOp .Not x _ => chkT Γ sc a x
    | _ => false
  | .and a b, e => match e with
    | .BoolOp .And (x :: y :: r) p => chkT Γ sc a x && (match r with
      | [] => chkT Γ sc b y
      | _ => chkT Γ sc b (.BoolOp .And (y :: r) p))
    | _ => false
  | .or a b, e => match e with
    | .BoolOp .Or (x :: y :: r) p => chkT Γ sc a x && (match r with
      | [] => chkT Γ sc b y
      | _ => chkT Γ sc b (.BoolOp .Or (y :: r) p))
    | _ => false
  | .cmp op a b, e => match e with
    | .Compare x [op'] [y] _ => op == op' && !behindInMarks op y && chkE Γ sc a x && chkE Γ sc b y
    | _ => false
  | .chn o1 o2 a b c, e => match e with
    | .Compare x [o1', o2'] [y, z] _ => o1 == o1' && o2 == o2' && !lastMarks [o1, o2] [y, z] && chkE Γ sc a x && chkE Γ sc b y && chkE Γ sc c z
    | _ => false
  | .ite _ _ _, _ => false
  | a, e => plainTest e && chkE Γ sc a e
def chkEs (Γ : Gam) (sc : Scope) : List E → List Expr → Bool
  | [], as => as.isEmpty
  | e :: es, as => match as with
    | a :: as => noStar a && chkE Γ sc e a && chkEs Γ sc es as
    | [] => false
def chkA (Γ : Gam) (sc : Scope) : Ar → Expr → Bool
  | .e a, e => chkE Γ sc a e
  | .be a, e => chkE Γ sc a e
  | .s i, e => match e with
    | .Name x _ => slB Γ sc i x
    | _ => false
  | .b i, e => match e with
    | .Name x _ => slB Γ sc i x
    | _ => false
  | .mv _, _ => false
def chkAs (Γ : Gam) (sc : Scope) : List Ar → List Expr → Bool
  | [], as => as.isEmpty
  | e :: es, as => match as with
    | a :: as => noStar a && chkA Γ sc e a && chkAs Γ sc es as
    | [] => false
def chkI (Γ : Gam) (sc : Scope) : It → Expr → Expr → Bool
  | .rng a, _, e => match e with
    | .Call (.Name x _) [y] [] _ => freB Γ sc "range" x && noStar y && chkE Γ sc a y
    | _ => false
  | .rng2 a b, _, e => match e with
    | .Call (.Name x _) [y, z] [] _ => freB Γ sc "range" x && noStar y && noStar z && chkE Γ sc a y && chkE Γ sc b z
    | _ => false
  | .own i, _, e => match e with
    | .Name x _ => slB Γ sc i x
    | _ => false
  | .gen a, _, e => chkE Γ sc a e
  | .items a, tg, e => match tg, e with
    | .Tuple _ _ _, .Call (.Attribute x n ap) [] [] p => n == "items" && noSuper x && lineB ap p && chkE Γ sc a x
    | _, _ => false
  | _, _, _ => false
end
/-- a comprehension and its tree -/
def chkSw (e : E) (v : Expr) : Bool := match e, v with
  | .lc _ _ _ _ _ _, .ListComp _ _ _ _ => true
  | .sc _ _ _ _ _, .SetComp _ _ _ _ => true
  | .dc _ _ _ _ _ _ _, .DictComp _ _ _ _ _ => true
  | _, _ => false
mutual
def chkC (Γ : Gam) (sc : Scope) : C → Stmt → Bool
  | .asg g e, st => match st with
    | .Assign [t] v p => chkE Γ sc e v && (match t, g with
      | .Name x px, .nm i => Γ.N[i]? == some x && locB sc allL x && (noComp v || !swB sc x px v || chkSw e v)
      | .Tuple es k px, g => noComp v && noTup v && chkG Γ sc allL g t
      | _, _ => false)
    | _ => false
  | .asS a i e, st => match st, a with
    | .Assign [.Subscript (.Name x _) j _] v _, .var n => slB Γ sc n x && noComp v && noSlice j && chkE Γ sc e v && chkE Γ sc i j
    | _, _ => false
  | .as2 a i b j e e', st => match st, a, b with
    | .Assign [.Tuple [.Subscript (.Name x _) ie _, .Subscript (.Name y _) je _] _ _] (.Tuple [v, v'] _ _) _, .var n, .var k => n == k && slB Γ sc n x && y == x && noSlice ie && noSlice je && noStar v && noStar v' && chkE Γ sc e v && chkE Γ sc e' v' && chkE Γ sc i ie && chkE Γ sc j je
    | _, _, _ => false
  | .aug i op e, st => match st with
    | .AugAssign (.Name x _) op' v _ => Γ.N[i]? == some x && locB sc allL x && op == .Add && op' == .Add && chkE Γ sc e v
    | _ => false
  | .exp e, st => match st with
    | .Expr v _ => noComp v && chkE Γ sc e v
    | _ => false
  | .ret e, st => match st with
    | .Return (some v) _ => chkE Γ sc e v
    | .Return none _ => litNone e
    | _ => false
  | .ite c a b, st => match st with
    | .If t x y _ => chkT Γ sc c t && chkCs Γ sc a x && chkCs Γ sc b y
    | _ => false
  | .whl c b, st => match st with
    | .While t x [] _ => chkT Γ sc c t && chkCs Γ sc b x
    | _ => false
  | .for g it b, st => match st with
    | .For t iter x [] _ => chkG Γ sc allL g t && chkI Γ sc it t iter && noSet iter && chkCs Γ sc b x
    | _ => false
  | .pas, st => match st with
    | .Pass _ => true
    | _ => false
  | .brk, st => match st with
    | .Break _ => true
    | _ => false
  | .cnt, st => match st with
    | .Continue _ => true
    | _ => false
  | _, _ => false
def chkCs (Γ : Gam) (sc : Scope) : List C → List Stmt → Bool
  | [], sts => sts.isEmpty
  | c :: cs, sts => match sts with
    | st :: sts => chkC Γ sc c st && chkCs Γ sc cs sts
    | [] => false
end
end EV
end PartEvChk
section PartEvChk2
set_option autoImplicit false
set_option linter.all false
set_option maxRecDepth 100000
/-! EvChk2: what is checked holds. -/
namespace EV
open PySem PySem.Spec PyProof.Rows L2
/-- a def that may be called with n arguments -/
def FnF (X : Cx) (Z : Wd) (P : Pm) (f : String) (n : Nat) : Prop :=
  ∃ (k : Nat) (a : Addr) (fd : FuncData) (ps : List Str) (dvs : List V) (ds : List Value) (dds : List D) (np : Nat) (cr : List T → List O → CRes), (∀ ts os t outs os', cr ts os = .ok t outs os' → ∃ us, outs = outsOf ts us) ∧ n + dds.length = np ∧ (∀ ts os, ts.length = n → P.cal f ts [] [] os = cr (ts ++ dds.map .pl) os) ∧ (∀ F, PdAll Z.K F dvs dds) ∧
    FnOk X.prog X.w X.K X.mg X.base (fun _ _ _ _ _ _ => False) k a fd ps (SpF Z np cr) ∧ Room k X.A ∧ X.mg (Str.ofString f) = some (.ref a) ∧ PySem.W.keepIn X.K (.ref a) = true ∧ Binds X.K fd ps ds ∧ Vals dvs ds
structure Good (Γ : Gam) (Z : Wd) (P : Pm) (X : Cx) (sc : Scope) (lv : Str → Bool) : Prop where
  hZ : In X Z
  hu : X.A.units + 65 < cLine
  hc : X.calm = true
  hN : X.N = Γ.N
  nd : Γ.N.Nodup
  sc : X.env.scope = sc
  lv : ∀ x, lv x = true → X.fn x = true
  xe : X.xe = fun _ _ => False
  fr : ∀ x : String, Γ.free.contains x = true → X.mg (Str.ofString x) = none
  con : ∀ x : String, Γ.con.contains x = true → ∃ d v u, P.con x = some d ∧ X.mg (Str.ofString x) = some u ∧ RelV v u ∧ ∀ F, Pd Z.K F v d
  fns : ∀ f n, Γ.fns.contains (f, n) = true → FnF X Z P f n
section
variable {Γ : Gam} {Z : Wd} {P : Pm} {X : Cx} {sc : Scope} {lv : Str → Bool}
theorem Good.vis (G : Good Γ Z P X sc lv) {x : Str} (h : visB sc x = true) : Vis X.env.scope x := by
  unfold visB at h
  rw [G.sc]
  simp only [Bool.or_eq_true, beq_iff_eq] at h
  rcases h with (h | h) | h
  · exact .inl h
  · exact .inr (.inl h)
  · exact .inr (.inr h)
theorem Good.gl (G : Good Γ Z P X sc lv) {x : Str} (h : glB sc x = true) : Gl X x := by
  unfold glB at h
  have h : sc.names.lookup x = some .globalImplicit := by simpa using h
  show X.env.scope.names.lookup x = some .globalImplicit
  rw [G.sc]; exact h
theorem Good.loc (G : Good Γ Z P X sc lv) {x : Str} (h : locB sc lv x = true) : Loc X.env.scope x ∧ (X.fn x = true ∨ X.env.scope.names.lookup x = some .local) := by
  unfold locB at h
  rw [G.sc]
  simp only [Bool.or_eq_true, Bool.and_eq_true, beq_iff_eq] at h
  rcases h with h | ⟨h1, h2⟩
  · exact ⟨.inl h, .inr h⟩
  · exact ⟨.inr h2, .inl (G.lv x h1)⟩
theorem nm_ok {x : Str} (h : nmB x = true) : (x == ("__debug__" : Str)) = false ∧ (x == ("__classdict__" : Str)) = false := by
  unfold nmB at h
  simpa using h
theorem Good.sl (G : Good Γ Z P X sc lv) {i : Nat} {x : Str} (h : slB Γ sc i x = true) : X.N[i]? = some x ∧ Vis X.env.scope x ∧ (x == ("__debug__" : Str)) = false ∧ (x == ("__classdict__" : Str)) = false := by
  unfold slB at h
  simp only [Bool.and_eq_true, beq_iff_eq] at h
  exact ⟨by rw [G.hN]; exact h.1.1, G.vis h.1.2, (nm_ok h.2).1, (nm_ok h.2).2⟩
theorem Good.fre (G : Good Γ Z P X sc lv) {f : String} {x : Str} (h : freB Γ sc f x = true) : x = Str.ofString f ∧ Gl X x ∧ X.mg x = none := by
  unfold freB at h
  simp only [Bool.and_eq_true, beq_iff_eq] at h
  obtain ⟨⟨rfl, h2⟩, h3⟩ := h
  exact ⟨rfl, G.gl h2, G.fr f h3⟩
theorem Good.hu64 (G : Good Γ Z P X sc lv) : X.A.units + 64 < cLine := by have := G.hu; omega
theorem ownNames_ok : ∀ {own : List Nat} {l : List (Str × Nat)}, ownNames Γ own = some l → l.map (·.2) = own ∧ ∀ p ∈ l, Γ.N[p.2]? = some p.1
  | [], l, h => by cases h; exact ⟨rfl, fun p h => nomatch h⟩
  | i :: r, l, h => by
    unfold ownNames at h
    split at h
    · rename_i x l' e1 e2
      cases h
      obtain ⟨h1, h2⟩ := ownNames_ok e2
      refine ⟨by simp [h1], fun p hp => ?_⟩
      rcases List.mem_cons.mp hp with rfl | hp
      · exact e1
      · exact h2 p hp
    · cases h
theorem Good.blkOk (G : Good Γ Z P X sc lv) {scope : Scope} {ownN : List (Str × Nat)} {own : List Nat} (ho : ownNames Γ own = some ownN) (h : blkB Γ sc scope ownN = true) : BlkOk X.N X.env.scope scope ownN := by
  unfold blkB at h
  simp only [Bool.and_eq_true, decide_eq_true_eq, List.all_eq_true, Bool.or_eq_true, Bool.not_eq_true', beq_iff_eq] at h
  obtain ⟨⟨⟨h1, h2⟩, h3⟩, h4⟩ := h
  refine ⟨h1, h2, fun p hp => by rw [G.hN]; exact (ownNames_ok ho).2 p hp, fun y hy e => ?_, fun y hy e => ?_⟩
  · rw [G.sc]
    rcases h3 y hy with (h | h) | h
    · rw [e] at h; simp at h
    · exact .inl h
    · exact .inr h
  · rcases h4 y hy with (h | h) | h
    · rcases e with e | e <;> (rw [e] at h; simp at h)
    · exact .inl (by simpa using h)
    · exact .inr (by rw [G.hN]; simpa using h)
theorem Good.blk (G : Good Γ Z P X sc lv) (s : Shared) (H : Hp) (scope : Scope) (C : Addr) (cl : List (Str × Addr)) (fp : List Addr) : Good Γ Z P (X.blk s H scope (compEnvC scope cl C X.env) fp) (relS scope sc) (cellB scope) :=
  ⟨⟨G.hZ.P, G.hZ.w, G.hZ.K, G.hZ.mg⟩, G.hu, G.hc, G.hN, G.nd, by rw [← G.sc]; rfl, (fun x h => h), rfl, G.fr, G.con, G.fns⟩
theorem lit_ok {d : D} {e : Expr} (h : litB d e = true) : ∃ v, PE X e (tC v) ∧ ∀ F, Pd Z.K F v d := by
  unfold litB at h
  split at h <;> first | (cases h; done) | skip
  · rw [beq_iff_eq] at h; subst h; exact ⟨_, pe_int, fun _ => .int _⟩
  · rw [beq_iff_eq] at h; subst h; exact ⟨_, pe_bl, fun _ => .bl _⟩
  · exact ⟨_, pe_non, fun _ => .non⟩
  · rw [beq_iff_eq] at h; subst h; exact ⟨_, pe_str, fun _ => .str _⟩
theorem litNone_ok {e : E} (h : litNone e = true) : e = .lit .none := by
  unfold litNone at h
  split at h
  · rfl
  · cases h
theorem litNone_no {e : E} (h : litNone e = false) : e ≠ .lit .none := by
  rintro rfl
  cases h
theorem litTrue_ok {e : E} (h : litTrue e = true) : e = .lit (.bool true) := by
  unfold litTrue at h
  split at h
  · rfl
  · cases h
theorem noSet_ok {e : Expr} {env : Env} (h : noSet e = true) : ∀ x, foldedSetIterable e env x = pure x := by
  intro x
  cases e <;> first | rfl | cases h
mutual
theorem chkG_ok (G : Good Γ Z P X sc lv) (fix : List Nat) : ∀ (g : EV.G) (e : Expr), chkG Γ sc lv g e = true → PG X e (RdG Z fix noX g)
  | .nm i, e, h => by
    cases e <;> first | (cases h; done) | skip
    case Name x p =>
    have h : (Γ.N[i]? == some x && locB sc lv x) = true := h
    rw [Bool.and_eq_true, beq_iff_eq] at h
    obtain ⟨h1, h2⟩ := G.loc h.2
    exact rg_name (by rw [G.hN]; exact G.nd) (by rw [G.hN]; exact h.1) h1 h2
  | .tp gs, e, h => by
    cases e <;> first | (cases h; done) | skip
    case Tuple es k p =>
    have h : (es.all noStar && decide (es.length = gs.length) && chkGs Γ sc lv gs es) = true := h
    rw [Bool.and_eq_true, Bool.and_eq_true, decide_eq_true_eq] at h
    exact rg_tup G.hc G.hZ.K (chkGs_ok G fix gs es h.2) h.1.2 h.1.1
  | .tps gs i hs, e, h => by
    cases e <;> first | (cases h; done) | skip
    case Tuple es k p =>
    have h : (hs.isEmpty && chkGS Γ sc lv i gs es) = true := h
    rw [Bool.and_eq_true] at h
    obtain rfl := List.isEmpty_iff.mp h.1
    obtain ⟨h1, h2, h3, h4⟩ := chkGS_ok G fix i gs es h.2
    exact rg_star G.hc G.hZ.K h1 h2 h3 h4
theorem chkGS_ok (G : Good Γ Z P X sc lv) (fix : List Nat) (i : Nat) : ∀ (gs : List EV.G) (es : List Expr), chkGS Γ sc lv i gs es = true → PGs X es (RdGS Z fix noX gs i) ∧ es.length = gs.length + 1 ∧ (es.take gs.length).all noStar = true ∧ ∃ y p, es.drop gs.length = [.Starred y p]
  | [], es, h => by
    unfold chkGS at h
    split at h
    · rename_i x p p'
      rw [Bool.and_eq_true, beq_iff_eq] at h
      obtain ⟨h1, h2⟩ := G.loc h.2
      exact ⟨rgS_nil (rg_name (by rw [G.hN]; exact G.nd) (by rw [G.hN]; exact h.1) h1 h2), rfl, rfl, _, _, rfl⟩
    · cases h
  | g :: gs, es, h => by
    cases es <;> first | (cases h; done) | skip
    rename_i e es
    have h : (noStar e && chkG Γ sc lv g e && chkGS Γ sc lv i gs es) = true := h
    rw [Bool.and_eq_true, Bool.and_eq_true] at h
    obtain ⟨h1, h2, h3, h4⟩ := chkGS_ok G fix i gs es h.2
    exact ⟨rgS_cons (chkG_ok G fix g e h.1.2) h1 h.1.1, by rw [List.length_cons, List.length_cons, h2], by rw [List.length_cons, List.take_succ_cons, List.all_cons, h.1.1, h3]; rfl, by rw [List.length_cons, List.drop_succ_cons]; exact h4⟩
theorem chkGs_ok (G : Good Γ Z P X sc lv) (fix : List Nat) : ∀ (gs : List EV.G) (es : List Expr), chkGs Γ sc lv gs es = true → PGs X es (RdGs Z fix noX gs)
  | [], es, h => by
    cases es <;> first | (cases h; done) | skip
    exact rgs_nil
  | g :: gs, es, h => by
    cases es <;> first | (cases h; done) | skip
    rename_i e es
    have h : (noStar e && chkG Γ sc lv g e && chkGs Γ sc lv gs es) = true := h
    rw [Bool.and_eq_true, Bool.and_eq_true] at h
    exact rgs_cons (chkG_ok G fix g e h.1.2) (chkGs_ok G fix gs es h.2) h.1.1
end
end
/-- several expressions, each checked -/
inductive Each (Z : Wd) (P : Pm) (X : Cx) : List E → List Expr → Prop
  | nil : Each Z P X [] []
  | cons {e : E} {a : Expr} {es : List E} {as : List Expr} : noStar a = true → (∀ m, PE X a (RdE Z P noX e m)) → Each Z P X es as → Each Z P X (e :: es) (a :: as)
section
variable {Z : Wd} {P : Pm} {X : Cx} {es : List E} {as : List Expr}
theorem Each.ns (h : Each Z P X es as) : as.all noStar = true := by
  induction h with
  | nil => rfl
  | cons a _ _ ih => rw [List.all_cons, a, ih]; rfl
theorem Each.d (h : Each Z P X es as) : PA X as (RdD Z P noX es) := by
  induction h with
  | nil => exact rdd_nil
  | cons a b _ ih => exact rdd_cons (b .e) ih (starEach_cons a)
theorem Each.v (h : Each Z P X es as) : PA X as (RdV Z P noX es) := by
  induction h with
  | nil => exact rdv_nil
  | cons a b _ ih => exact rdv_cons (b .v) ih (starEach_cons a)
end
section
variable {Γ : Gam} {Z : Wd} {P : Pm} {X : Cx} {sc : Scope} {lv : Str → Bool}
theorem bi_ok (G : Good Γ Z P X sc lv) {f : String} {es : List E} {a : Expr} {as : List Expr} {x : Str} {p pos : Pos} {m : Md} (hk : (biFn f || biTy f) = true) (hf : freB Γ sc f x = true) (he : Each Z P X es (a :: as)) :
    PE X (.Call (.Name x p) (a :: as) [] pos) (RdE Z P noX (.bi f es) m) := by
  obtain ⟨rfl, hg, hm⟩ := G.fre hf
  have hs := he.ns
  rw [List.all_cons, Bool.and_eq_true] at hs
  have st := starEach_cons (es := as) (env := X.env) hs.1
  have bt := backTo_any (pos := pos) (env := X.env) hs.2
  unfold biFn biTy at hk
  simp only [Bool.or_eq_true, beq_iff_eq] at hk
  rcases hk with (((((((rfl | rfl) | rfl) | rfl) | rfl) | rfl) | rfl) | rfl) | (((((rfl | rfl) | rfl) | rfl) | rfl) | rfl)
  · exact rd_bi (cr_len G.hZ) hg hm (by decide +kernel) he.v (by decide) (by decide) st bt
  · exact rd_bi (cr_max G.hZ G.hc) hg hm (by decide +kernel) he.v (by decide) (by decide) st bt
  · exact rd_bi (cr_min G.hZ G.hc) hg hm (by decide +kernel) he.v (by decide) (by decide) st bt
  · exact rd_bi (cr_sum G.hZ G.hc) hg hm (by decide +kernel) he.v (by decide) (by decide) st bt
  · exact rd_bi (cr_all G.hZ G.hc) hg hm (by decide +kernel) he.v (by decide) (by decide) st bt
  · exact rd_bi (cr_any G.hZ G.hc) hg hm (by decide +kernel) he.v (by decide) (by decide) st bt
  · exact rd_bi cr_abs hg hm (by decide +kernel) he.v (by decide) (by decide) st bt
  · exact rd_bi (cr_sorted G.hZ G.hc G.hu) hg hm (by decide +kernel) he.v (by decide) (by decide) st bt
  · exact rd_ty cr_int hg hm (by decide +kernel) he.v (by decide) (by decide) st bt
  · exact rd_ty cr_str hg hm (by decide +kernel) he.v (by decide) (by decide) st bt
  · exact rd_ty (cr_list G.hZ) hg hm (by decide +kernel) he.v (by decide) (by decide) st bt
  · exact rd_ty (cr_tuple G.hZ) hg hm (by decide +kernel) he.v (by decide) (by decide) st bt
  · exact rd_ty (cr_set G.hZ G.hc) hg hm (by decide +kernel) he.v (by decide) (by decide) st bt
  · exact rd_ty (cr_dict G.hZ G.hc) hg hm (by decide +kernel) he.v (by decide) (by decide) st bt
theorem call_ok (G : Good Γ Z P X sc lv) {f : String} {ars : List Ar} {a : Expr} {as : List Expr} {x : Str} {p pos : Pos} {m : Md} (hx : x = Str.ofString f) (hg : glB sc x = true) (hn : nmB x = true) (hf : Γ.fns.contains (f, ars.length) = true) (hs : (a :: as).all noStar = true)
    (hA : PA X (a :: as) (RdA Z P noX ars)) : PE X (.Call (.Name x p) (a :: as) [] pos) (RdE Z P noX (.call f ars [] []) m) := by
  obtain ⟨k, ad, fd, ps, dvs, ds, dds, np, cr, h0, h1, h2, h3, h4, h5, h6, h7, h8, h9⟩ := G.fns f _ hf
  subst hx
  exact rd_call (E := fun _ _ _ => False) h0 h1 h2 h3 h4 h5 (G.gl hg) h6 h7 h8 h9 (fun _ _ _ _ _ _ _ h => h.elim) hA (nm_ok hn).1 hs
end
end EV
end PartEvChk2
section PartEvChk3
set_option autoImplicit false
set_option linter.all false
set_option maxRecDepth 100000
set_option maxHeartbeats 2000000
/-! EvChk3: the checker holds. -/
namespace EV
open PySem PySem.Spec PyProof.Rows L2
variable {Γ : Gam} {Z : Wd} {P : Pm}
theorem and2 {a b : Bool} (h : (a && b) = true) : a = true ∧ b = true := Bool.and_eq_true_iff.mp h
mutual
theorem chkE_ok : ∀ (e : E) (a : Expr) {X : Cx} {sc : Scope} {lv : Str → Bool}, Good Γ Z P X sc lv → chkE Γ sc e a = true → ∀ m, PE X a (RdE Z P noX e m)
  | .var i, a, X, sc, lv, G, h, m => by
    unfold chkE at h
    cases a <;> first | (cases h; done) | skip
    case Name x p =>
    obtain ⟨h1, h2, h3, h4⟩ := G.sl (show slB Γ sc i x = true from h)
    exact rd_var h1 h2 h3 h4
  | .lit d, a, X, sc, lv, G, h, m => by
    unfold chkE at h
    obtain ⟨v, h1, h2⟩ := lit_ok (X := X) (Z := Z) (show litB d a = true from h)
    exact rd_c h1 h2
  | .con c, a, X, sc, lv, G, h, m => by
    unfold chkE at h
    cases a <;> first | (cases h; done) | skip
    case Name x p =>
    obtain ⟨h, h4⟩ := and2 (show (x == Str.ofString c && glB sc x && nmB x && Γ.con.contains c) = true from h)
    obtain ⟨h, h3⟩ := and2 h
    obtain ⟨h1, h2⟩ := and2 h
    have h1 : x = Str.ofString c := by simpa using h1
    subst h1
    obtain ⟨d, v, u, e1, e2, e3, e4⟩ := G.con c h4
    exact rd_con (pe_glob (G.gl h2) e2 e3 (nm_ok h3).1) e4 e1
  | .tup n es, a, X, sc, lv, G, h, m => by
    unfold chkE at h
    cases a <;> first | (cases h; done) | skip
    case Tuple as k p =>
    obtain ⟨h, h3⟩ := and2 (show (!n && decide (es.length ≤ 1000) && chkEs Γ sc es as) = true from h)
    obtain ⟨h1, h2⟩ := and2 h
    cases n <;> first | (cases h1; done) | skip
    exact rd_tup (chkEs_ok es as G h3).d (of_decide_eq_true h2)
  | .lst n es, a, X, sc, lv, G, h, m => by
    unfold chkE at h
    cases a <;> first | (cases h; done) | skip
    case List as p =>
    obtain ⟨h, h3⟩ := and2 (show (!n && decide (es.length ≤ 1000) && chkEs Γ sc es as) = true from h)
    obtain ⟨h1, h2⟩ := and2 h
    cases n <;> first | (cases h1; done) | skip
    exact rd_lst (chkEs_ok es as G h3).d (of_decide_eq_true h2)
  | .dct n ks vs, a, X, sc, lv, G, h, m => by
    unfold chkE at h
    cases a <;> first | (cases h; done) | skip
    case Dict k v p =>
    have one : ∀ {es : List E} {x : Expr}, Each Z P X es [x] → ∃ e, es = [e] ∧ ∀ m, PE X x (RdE Z P noX e m) := fun {es x} q => by
      cases q with
      | cons _ h1 t => cases t; exact ⟨_, rfl, h1⟩
    cases k with
    | nil =>
      cases v <;> first | (cases h; done) | skip
      obtain ⟨h, h2⟩ := and2 (show (!n && ks.isEmpty && vs.isEmpty) = true from h)
      obtain ⟨h0, h1⟩ := and2 h
      cases ks <;> first | (cases h1; done) | skip
      cases vs <;> first | (cases h2; done) | skip
      cases n <;> first | (cases h0; done) | skip
      exact rd_dct0
    | cons k0 kr =>
      cases k0 <;> first | (cases h; done) | skip
      cases kr <;> first | (cases h; done) | skip
      cases v <;> first | (cases h; done) | skip
      rename_i k v vr
      cases vr <;> first | (cases h; done) | skip
      obtain ⟨h, h2⟩ := and2 (show (!n && chkEs Γ sc ks [k] && chkEs Γ sc vs [v]) = true from h)
      obtain ⟨h0, h1⟩ := and2 h
      cases n <;> first | (cases h0; done) | skip
      obtain ⟨ek, rfl, hk⟩ := one (chkEs_ok ks _ G h1)
      obtain ⟨ev, rfl, hv⟩ := one (chkEs_ok vs _ G h2)
      exact rd_dct1 (hk .e) (hv .e)
  | .bin op a b, e, X, sc, lv, G, h, m => by
    unfold chkE at h
    cases e <;> first | (cases h; done) | skip
    case BinOp x op' y p =>
    obtain ⟨h, h3⟩ := and2 (show (op == op' && chkE Γ sc a x && chkE Γ sc b y) = true from h)
    obtain ⟨h1, h2⟩ := and2 h
    have h1 : op = op' := by simpa using h1
    subst h1
    exact rd_bin G.hZ (chkE_ok a x G h2 .v) (chkE_ok b y G h3 .v)
  | .neg a, e, X, sc, lv, G, h, m => by
    unfold chkE at h
    cases e <;> first | (cases h; done) | skip
    case UnaryOp op x p =>
    cases op <;> first | (cases h; done) | skip
    exact rd_neg (chkE_ok a x G h .e)
  | .not a, e, X, sc, lv, G, h, m => by
    unfold chkE at h
    cases e <;> first | (cases h; done) | skip
    case UnaryOp op x p =>
    cases op <;> first | (cases h; done) | skip
    exact rd_not (chkE_ok a x G h .e)
  | .and a b, e, X, sc, lv, G, h, m => by
    unfold chkE at h
    cases e <;> first | (cases h; done) | skip
    case BoolOp op l p =>
    cases op <;> first | (cases h; done) | skip
    cases l with
    | nil => cases h
    | cons x l =>
      cases l with
      | nil => cases h
      | cons y r =>
        cases r with
        | nil =>
          obtain ⟨h1, h2⟩ := and2 (show (chkE Γ sc a x && chkE Γ sc b y) = true from h)
          exact rd_and (chkE_ok a x G h1 .e) (pe_one (chkE_ok b y G h2 .e))
        | cons z r =>
          obtain ⟨h1, h2⟩ := and2 (show (chkE Γ sc a x && chkE Γ sc b (.BoolOp .And (y :: z :: r) p)) = true from h)
          exact rd_and (chkE_ok a x G h1 .e) (chkE_ok b _ G h2 .e)
  | .or a b, e, X, sc, lv, G, h, m => by
    unfold chkE at h
    cases e <;> first | (cases h; done) | skip
    case BoolOp op l p =>
    cases op <;> first | (cases h; done) | skip
    cases l with
    | nil => cases h
    | cons x l =>
      cases l with
      | nil => cases h
      | cons y r =>
        cases r with
        | nil =>
          obtain ⟨h1, h2⟩ := and2 (show (chkE Γ sc a x && chkE Γ sc b y) = true from h)
          exact rd_or (chkE_ok a x G h1 .e) (pe_one (chkE_ok b y G h2 .e))
        | cons z r =>
          obtain ⟨h1, h2⟩ := and2 (show (chkE Γ sc a x && chkE Γ sc b (.BoolOp .Or (y :: z :: r) p)) = true from h)
          exact rd_or (chkE_ok a x G h1 .e) (chkE_ok b _ G h2 .e)
  | .ite c a b, e, X, sc, lv, G, h, m => by
    unfold chkE at h
    cases e <;> first | (cases h; done) | skip
    case IfExp t x y p =>
    obtain ⟨h, h3⟩ := and2 (show (chkT Γ sc c t && chkE Γ sc a x && chkE Γ sc b y) = true from h)
    obtain ⟨h1, h2⟩ := and2 h
    exact rd_ite (chkT_ok c t G h1).1 (chkE_ok a x G h2 _) (chkE_ok b y G h3 _)
  | .cmp op a b, e, X, sc, lv, G, h, m => by
    unfold chkE at h
    cases e <;> first | (cases h; done) | skip
    case Compare x ops ys p =>
    cases ops with
    | nil => cases h
    | cons op' ops =>
      cases ops with
      | cons _ _ => cases ys with
        | nil => cases h
        | cons _ ys => cases ys <;> cases h
      | nil =>
        cases ys with
        | nil => cases h
        | cons y ys =>
          cases ys with
          | cons _ _ => cases h
          | nil =>
            obtain ⟨h, h4⟩ := and2 (show (op == op' && !behindInMarks op y && chkE Γ sc a x && chkE Γ sc b y) = true from h)
            obtain ⟨h, h3⟩ := and2 h
            obtain ⟨h1, h2⟩ := and2 h
            have h1 : op = op' := by simpa using h1
            subst h1
            exact rd_cmp G.hZ G.hu64 (chkE_ok a x G h3 .v) (chkE_ok b y G h4 .v) (by simpa using h2)
  | .chn o1 o2 a b c, e, X, sc, lv, G, h, m => by
    unfold chkE at h
    split at h
    · obtain ⟨h, h6⟩ := and2 h
      obtain ⟨h, h5⟩ := and2 h
      obtain ⟨h, h4⟩ := and2 h
      obtain ⟨h, h3⟩ := and2 h
      obtain ⟨h1, h2⟩ := and2 h
      have h1 := eq_of_beq h1
      have h2 := eq_of_beq h2
      subst h1 h2
      exact rd_chn G.hZ G.hu64 (chkE_ok a _ G h4 .e) (chkE_ok b _ G h5 .e) (chkE_ok c _ G h6 .e) (by simpa using h3)
    · cases h
  | .idx a i, e, X, sc, lv, G, h, m => by
    unfold chkE at h
    cases e <;> first | (cases h; done) | skip
    case Subscript x j p =>
    obtain ⟨h, h3⟩ := and2 (show (noSlice j && chkE Γ sc a x && chkE Γ sc i j) = true from h)
    obtain ⟨h1, h2⟩ := and2 h
    exact rd_idx G.hZ G.hu64 (chkE_ok a x G h2 .v) (chkE_ok i j G h3 .e) (plainIx h1)
  | .slc a lo hi, e, X, sc, lv, G, h, m => by
    unfold chkE at h
    cases e <;> first | (cases h; done) | skip
    case Subscript x j p =>
    cases j <;> first | (cases h; done) | skip
    case Slice l u st p2 =>
    cases st <;> first | (cases h; done) | skip
    dsimp only at h
    obtain ⟨h, h3⟩ := and2 h
    obtain ⟨h1, h2⟩ := and2 h
    refine rd_slc G.hZ (chkE_ok a x G h1 .v) ?_ ?_
    · cases l with
      | none => rw [litNone_ok h2]; exact rdo_none
      | some y =>
        obtain ⟨h4, h5⟩ := and2 (show (!litNone lo && chkE Γ sc lo y) = true from h2)
        exact rdo_some (chkE_ok lo y G h5 .e) (litNone_no (by simpa using h4))
    · cases u with
      | none => rw [litNone_ok h3]; exact rdo_none
      | some y =>
        obtain ⟨h4, h5⟩ := and2 (show (!litNone hi && chkE Γ sc hi y) = true from h3)
        exact rdo_some (chkE_ok hi y G h5 .e) (litNone_no (by simpa using h4))
  | .bi f es, e, X, sc, lv, G, h, m => by
    unfold chkE at h
    cases e <;> first | (cases h; done) | skip
    case Call fn as ks p =>
    cases fn <;> first | (cases h; done) | skip
    case Name x p1 =>
    cases as <;> first | (cases h; done) | skip
    cases ks <;> first | (cases h; done) | skip
    rename_i a as
    simp only at h
    by_cases hf : (f == "listvals") = true
    · rw [if_pos hf] at h
      obtain rfl := eq_of_beq hf
      split at h
      · rename_i y n ap cp
        obtain ⟨h, h5⟩ := and2 h
        obtain ⟨h, h4⟩ := and2 h
        obtain ⟨h, h3⟩ := and2 h
        obtain ⟨h1, h2⟩ := and2 h
        obtain rfl := eq_of_beq h2
        obtain ⟨rfl, g1, g2⟩ := G.fre h1
        have hE := chkEs_ok es [y] G h5
        cases hE with
        | cons _ b r =>
          cases r
          exact rd_listVals G.hc (b .v) g1 g2 h3 h4
      · cases h
    · rw [if_neg hf] at h
      obtain ⟨h, h3⟩ := and2 h
      obtain ⟨h1, h2⟩ := and2 h
      exact bi_ok G h1 h2 (chkEs_ok es (a :: as) G h3)
  | .bik f a k b, e, X, sc, lv, G, h, m => by
    unfold chkE at h
    split at h
    · rename_i x p1 y kw z kp p
      obtain ⟨h, h7⟩ := and2 h
      obtain ⟨h, h6⟩ := and2 h
      obtain ⟨h, h5⟩ := and2 h
      obtain ⟨h, h4⟩ := and2 h
      obtain ⟨h, h3⟩ := and2 h
      obtain ⟨h1, h2⟩ := and2 h
      obtain rfl := eq_of_beq h1
      obtain rfl := eq_of_beq h2
      obtain rfl := eq_of_beq h3
      obtain ⟨rfl, g1, g2⟩ := G.fre h4
      exact rd_maxDf G.hZ (by have := G.hu; omega) G.hc g1 g2 (chkE_ok a _ G h6 .v) (chkE_ok b _ G h7 .e) h5
    · cases h
  | .isi a ts, e, X, sc, lv, G, h, m => by
    unfold chkE at h
    split at h
    · rename_i x p1 y z p2 p ty
      obtain ⟨h, h4⟩ := and2 h
      obtain ⟨h, h3⟩ := and2 h
      obtain ⟨h1, h2⟩ := and2 h
      obtain ⟨rfl, g1, g2⟩ := G.fre h1
      obtain ⟨t, ht, h3⟩ := List.any_eq_true.mp h3
      obtain ⟨h5, h6⟩ := and2 h3
      have h5 := eq_of_beq h5
      subst h5
      obtain ⟨rfl, g3, g4⟩ := G.fre h6
      have hk : tyKnown t = true := by
        simp only [List.mem_cons, List.not_mem_nil, or_false] at ht
        rcases ht with rfl | rfl | rfl | rfl | rfl | rfl <;> decide
      exact rd_isi G.hZ (chkE_ok a y G h4 .v) hk g1 g2 g3 g4 (starEach_cons h2)
    · cases h
  | .call f ars ks bs, e, X, sc, lv, G, h, m => by
    unfold chkE at h
    cases e <;> first | (cases h; done) | skip
    case Call fn as kws p =>
    cases fn <;> first | (cases h; done) | skip
    case Name x p1 =>
    cases as <;> first | (cases h; done) | skip
    cases kws <;> first | (cases h; done) | skip
    cases ks <;> first | (cases h; done) | skip
    cases bs <;> first | (cases h; done) | skip
    rename_i a as
    obtain ⟨h, h6⟩ := and2 (show (x == Str.ofString f && glB sc x && nmB x && Γ.fns.contains (f, ars.length) && (a :: as).all noStar && chkAs Γ sc ars (a :: as)) = true from h)
    obtain ⟨h, h5⟩ := and2 h
    obtain ⟨h, h4⟩ := and2 h
    obtain ⟨h, h3⟩ := and2 h
    obtain ⟨h1, h2⟩ := and2 h
    exact call_ok G (by simpa using h1) h2 h3 h4 h5 (chkAs_ok ars (a :: as) G h6)
  | .met a mn es, e, X, sc, lv, G, h, m => by
    unfold chkE at h
    split at h
    · obtain ⟨h, h6⟩ := and2 h
      obtain ⟨h, h5⟩ := and2 h
      obtain ⟨h, h4⟩ := and2 h
      obtain ⟨h, h3⟩ := and2 h
      obtain ⟨h1, h2⟩ := and2 h
      have he := chkEs_ok es _ G h5
      simp only [Bool.or_eq_true, Bool.and_eq_true, beq_iff_eq] at h6
      rcases h6 with (⟨rfl, rfl⟩ | ⟨rfl, rfl⟩) | ⟨rfl, rfl⟩
      · exact rd_join G.hZ (chkE_ok a _ G h4 .v) he.v h1 h2 h3
      · exact rd_index G.hZ G.hu (chkE_ok a _ G h4 .v) he.v h1 h2 h3
      · cases he with
        | cons _ b r =>
          cases r
          exact rd_get1 G.hu64 (chkE_ok a _ G h4 .v) (b .v) h1 h2 h3
    · cases h
  | .mut a mn es, e, X, sc, lv, G, h, m => by
    unfold chkE at h
    split at h
    · obtain ⟨h, h5⟩ := and2 h
      obtain ⟨h, h4⟩ := and2 h
      obtain ⟨h, h3⟩ := and2 h
      obtain ⟨h1, h2⟩ := and2 h
      obtain ⟨g1, g2, g3, g4⟩ := G.sl h1
      have he := chkEs_ok es _ G h4
      simp only [Bool.or_eq_true, Bool.and_eq_true, beq_iff_eq] at h5
      rcases h5 with (⟨rfl, rfl⟩ | ⟨rfl, rfl⟩) | ⟨rfl, rfl⟩
      · exact rd_append g1 g2 g3 g4 he.d h2 h3
      · exact rd_popAt g1 g2 g3 g4 he.d (by cases he; exact fun z => nomatch z) h2 h3
      · exact rd_extend g1 g2 g3 g4 he.d h2 h3
    · obtain ⟨h, h5⟩ := and2 h
      obtain ⟨h, h4⟩ := and2 h
      obtain ⟨h1, h2⟩ := and2 h
      obtain ⟨g1, g2, g3, g4⟩ := G.sl h1
      have he := chkEs_ok es _ G h4
      simp only [Bool.and_eq_true, beq_iff_eq] at h5
      obtain ⟨rfl, rfl⟩ := h5
      cases he
      exact rd_pop0 g1 g2 g3 g4 h2
    · cases h
  | .lc n elt own g it c, e, X, sc, lv, G, h, m => by
    unfold chkE at h
    split at h
    · rename_i x tg iter ifs a scope p ownN ho
      obtain ⟨h, h8⟩ := and2 h
      obtain ⟨h, h7⟩ := and2 h
      obtain ⟨h, h6⟩ := and2 h
      obtain ⟨h, h5⟩ := and2 h
      obtain ⟨h, h4⟩ := and2 h
      obtain ⟨h, h3⟩ := and2 h
      obtain ⟨h1, h2⟩ := and2 h
      have h2 := eq_of_beq h2
      subst h2
      cases n <;> first | (cases h1; done) | skip
      refine rd_lc G.hc (by rw [G.hN]; exact G.nd) (chkI_ok it iter tg G h5) (G.blkOk ho h4) (ownNames_ok ho).1 (fun s H C cl fp fix => chkG_ok (G.blk s H scope C cl fp) fix g tg h6) (fun s H C cl fp => ?_)
        (fun s H C cl fp => chkE_ok elt x (G.blk s H scope C cl fp) h7 .e) (noSet_ok h3)
      split at h8
      · rw [litTrue_ok h8]; exact pts_none
      · exact pts_one (chkT_ok c _ (G.blk s H scope C cl fp) h8).1
      · cases h8
    · cases h
  | .rev a, e, X, sc, lv, G, h, m => by
    unfold chkE at h
    split at h
    · exact rd_rev G.hZ (chkE_ok a _ G h .v)
    · cases h
  | .att _ _, _, _, _, _, _, h, _ => by unfold chkE at h; cases h
  | .exc _ _ _, _, _, _, _, _, h, _ => by unfold chkE at h; cases h
  | .new _ _ _ _, _, _, _, _, _, h, _ => by unfold chkE at h; cases h
  | .obm _ _ _ _ _, _, _, _, _, _, h, _ => by unfold chkE at h; cases h
  | .sc elt own g it c, e, X, sc, lv, G, h, m => by
    unfold chkE at h
    split at h
    · rename_i x tg iter ifs a scope p ownN ho
      obtain ⟨h, h8⟩ := and2 h
      obtain ⟨h, h7⟩ := and2 h
      obtain ⟨h, h6⟩ := and2 h
      obtain ⟨h, h5⟩ := and2 h
      obtain ⟨h, h4⟩ := and2 h
      obtain ⟨h2, h3⟩ := and2 h
      have h2 := eq_of_beq h2
      subst h2
      refine rd_sc G.hZ G.hc (by rw [G.hN]; exact G.nd) (chkI_ok it iter tg G h5) (G.blkOk ho h4) (ownNames_ok ho).1 (fun s H C cl fp fix => chkG_ok (G.blk s H scope C cl fp) fix g tg h6) (fun s H C cl fp => ?_)
        (fun s H C cl fp => chkE_ok elt x (G.blk s H scope C cl fp) h7 .e) (noSet_ok h3)
      split at h8
      · rw [litTrue_ok h8]; exact pts_none
      · exact pts_one (chkT_ok c _ (G.blk s H scope C cl fp) h8).1
      · cases h8
    · cases h
  | .dc n key elt own g it c, e, X, sc, lv, G, h, m => by
    unfold chkE at h
    split at h
    · rename_i kx x tg iter ifs a scope p ownN ho
      obtain ⟨h, h8⟩ := and2 h
      obtain ⟨h, h7⟩ := and2 h
      obtain ⟨h, h9⟩ := and2 h
      obtain ⟨h, h6⟩ := and2 h
      obtain ⟨h, h5⟩ := and2 h
      obtain ⟨h, h4⟩ := and2 h
      obtain ⟨h, h3⟩ := and2 h
      obtain ⟨h1, h2⟩ := and2 h
      have h2 := eq_of_beq h2
      subst h2
      cases n <;> first | (cases h1; done) | skip
      refine rd_dc G.hc (by rw [G.hN]; exact G.nd) (chkI_ok it iter tg G h5) (G.blkOk ho h4) (ownNames_ok ho).1 (fun s H C cl fp fix => chkG_ok (G.blk s H scope C cl fp) fix g tg h6) (fun s H C cl fp => ?_)
        (fun s H C cl fp => chkE_ok key kx (G.blk s H scope C cl fp) h9 .e) (fun s H C cl fp => chkE_ok elt x (G.blk s H scope C cl fp) h7 .e) (noSet_ok h3)
      split at h8
      · rw [litTrue_ok h8]; exact pts_none
      · exact pts_one (chkT_ok c _ (G.blk s H scope C cl fp) h8).1
      · cases h8
    · cases h
theorem chkT_ok : ∀ (e : E) (a : Expr) {X : Cx} {sc : Scope} {lv : Str → Bool}, Good Γ Z P X sc lv → chkT Γ sc e a = true → PT X a (RdT Z P noX e) ∧ ∀ op l p, a = .BoolOp op l p → PW X a (RdT Z P noX e)
  | .not b, a, X, sc, lv, G, h => by
    unfold chkT at h
    split at h
    · exact ⟨rdt_not (chkT_ok b _ G h).1, fun _ _ _ z => nomatch z⟩
    · cases h
  | .and c b, a, X, sc, lv, G, h => by
    unfold chkT at h
    split at h
    · rename_i x y r p
      obtain ⟨h1, h2⟩ := and2 h
      have k1 := (chkT_ok c x G h1).1
      have key : PW X (.BoolOp .And (x :: y :: r) p) (RdT Z P noX (.and c b)) := by
        split at h2
        · exact rdw_and k1 (pw_and1 (chkT_ok b y G h2).1)
        · exact rdw_and k1 ((chkT_ok b _ G h2).2 _ _ _ rfl)
      exact ⟨key.pt, fun _ _ _ _ => key⟩
    · cases h
  | .or c b, a, X, sc, lv, G, h => by
    unfold chkT at h
    split at h
    · rename_i x y r p
      obtain ⟨h1, h2⟩ := and2 h
      have k1 := (chkT_ok c x G h1).1
      have key : PW X (.BoolOp .Or (x :: y :: r) p) (RdT Z P noX (.or c b)) := by
        split at h2
        · exact rdw_or k1 (pw_or1 (chkT_ok b y G h2).1)
        · exact rdw_or k1 ((chkT_ok b _ G h2).2 _ _ _ rfl)
      exact ⟨key.pt, fun _ _ _ _ => key⟩
    · cases h
  | .cmp op c b, a, X, sc, lv, G, h => by
    unfold chkT at h
    split at h
    · obtain ⟨h, h4⟩ := and2 h
      obtain ⟨h, h3⟩ := and2 h
      obtain ⟨h1, h2⟩ := and2 h
      have h1 := eq_of_beq h1
      subst h1
      exact ⟨rdt_cmp G.hZ G.hu64 (chkE_ok c _ G h3 .v) (chkE_ok b _ G h4 .v) (by simpa using h2), fun _ _ _ z => nomatch z⟩
    · cases h
  | .chn o1 o2 c b d, a, X, sc, lv, G, h => by
    unfold chkT at h
    split at h
    · obtain ⟨h, h6⟩ := and2 h
      obtain ⟨h, h5⟩ := and2 h
      obtain ⟨h, h4⟩ := and2 h
      obtain ⟨h, h3⟩ := and2 h
      obtain ⟨h1, h2⟩ := and2 h
      have h1 := eq_of_beq h1
      have h2 := eq_of_beq h2
      subst h1 h2
      exact ⟨rdt_chn G.hZ G.hu64 (chkE_ok c _ G h4 .e) (chkE_ok b _ G h5 .e) (chkE_ok d _ G h6 .e) (by simpa using h3), fun _ _ _ z => nomatch z⟩
    · cases h
  | .ite _ _ _, a, X, sc, lv, G, h => by unfold chkT at h; cases h
  | .var i, a, X, sc', lv, G, h => by
    have h := and2 (show (plainTest a && chkE Γ sc' (.var i) a) = true by unfold chkT at h; exact h)
    exact ⟨rdt_val (chkE_ok (.var i) a G h.2 .e) (plainTest_ok h.1), fun op l p z => by subst z; cases h.1⟩
  | .lit d, a, X, sc', lv, G, h => by
    have h := and2 (show (plainTest a && chkE Γ sc' (.lit d) a) = true by unfold chkT at h; exact h)
    exact ⟨rdt_val (chkE_ok (.lit d) a G h.2 .e) (plainTest_ok h.1), fun op l p z => by subst z; cases h.1⟩
  | .con c, a, X, sc', lv, G, h => by
    have h := and2 (show (plainTest a && chkE Γ sc' (.con c) a) = true by unfold chkT at h; exact h)
    exact ⟨rdt_val (chkE_ok (.con c) a G h.2 .e) (plainTest_ok h.1), fun op l p z => by subst z; cases h.1⟩
  | .tup n es, a, X, sc', lv, G, h => by
    have h := and2 (show (plainTest a && chkE Γ sc' (.tup n es) a) = true by unfold chkT at h; exact h)
    exact ⟨rdt_val (chkE_ok (.tup n es) a G h.2 .e) (plainTest_ok h.1), fun op l p z => by subst z; cases h.1⟩
  | .lst n es, a, X, sc', lv, G, h => by
    have h := and2 (show (plainTest a && chkE Γ sc' (.lst n es) a) = true by unfold chkT at h; exact h)
    exact ⟨rdt_val (chkE_ok (.lst n es) a G h.2 .e) (plainTest_ok h.1), fun op l p z => by subst z; cases h.1⟩
  | .dct n ks vs, a, X, sc', lv, G, h => by
    have h := and2 (show (plainTest a && chkE Γ sc' (.dct n ks vs) a) = true by unfold chkT at h; exact h)
    exact ⟨rdt_val (chkE_ok (.dct n ks vs) a G h.2 .e) (plainTest_ok h.1), fun op l p z => by subst z; cases h.1⟩
  | .bin op x y, a, X, sc', lv, G, h => by
    have h := and2 (show (plainTest a && chkE Γ sc' (.bin op x y) a) = true by unfold chkT at h; exact h)
    exact ⟨rdt_val (chkE_ok (.bin op x y) a G h.2 .e) (plainTest_ok h.1), fun op l p z => by subst z; cases h.1⟩
  | .neg x, a, X, sc', lv, G, h => by
    have h := and2 (show (plainTest a && chkE Γ sc' (.neg x) a) = true by unfold chkT at h; exact h)
    exact ⟨rdt_val (chkE_ok (.neg x) a G h.2 .e) (plainTest_ok h.1), fun op l p z => by subst z; cases h.1⟩
  | .idx x y, a, X, sc', lv, G, h => by
    have h := and2 (show (plainTest a && chkE Γ sc' (.idx x y) a) = true by unfold chkT at h; exact h)
    exact ⟨rdt_val (chkE_ok (.idx x y) a G h.2 .e) (plainTest_ok h.1), fun op l p z => by subst z; cases h.1⟩
  | .slc x y z, a, X, sc', lv, G, h => by
    have h := and2 (show (plainTest a && chkE Γ sc' (.slc x y z) a) = true by unfold chkT at h; exact h)
    exact ⟨rdt_val (chkE_ok (.slc x y z) a G h.2 .e) (plainTest_ok h.1), fun op l p z => by subst z; cases h.1⟩
  | .rev x, a, X, sc', lv, G, h => by
    have h := and2 (show (plainTest a && chkE Γ sc' (.rev x) a) = true by unfold chkT at h; exact h)
    exact ⟨rdt_val (chkE_ok (.rev x) a G h.2 .e) (plainTest_ok h.1), fun op l p z => by subst z; cases h.1⟩
  | .att x f, a, X, sc', lv, G, h => by
    have h := and2 (show (plainTest a && chkE Γ sc' (.att x f) a) = true by unfold chkT at h; exact h)
    exact ⟨rdt_val (chkE_ok (.att x f) a G h.2 .e) (plainTest_ok h.1), fun op l p z => by subst z; cases h.1⟩
  | .bi f es, a, X, sc', lv, G, h => by
    have h := and2 (show (plainTest a && chkE Γ sc' (.bi f es) a) = true by unfold chkT at h; exact h)
    exact ⟨rdt_val (chkE_ok (.bi f es) a G h.2 .e) (plainTest_ok h.1), fun op l p z => by subst z; cases h.1⟩
  | .bik f x k y, a, X, sc', lv, G, h => by
    have h := and2 (show (plainTest a && chkE Γ sc' (.bik f x k y) a) = true by unfold chkT at h; exact h)
    exact ⟨rdt_val (chkE_ok (.bik f x k y) a G h.2 .e) (plainTest_ok h.1), fun op l p z => by subst z; cases h.1⟩
  | .isi x ts, a, X, sc', lv, G, h => by
    have h := and2 (show (plainTest a && chkE Γ sc' (.isi x ts) a) = true by unfold chkT at h; exact h)
    exact ⟨rdt_val (chkE_ok (.isi x ts) a G h.2 .e) (plainTest_ok h.1), fun op l p z => by subst z; cases h.1⟩
  | .call f as ks bs, a, X, sc', lv, G, h => by
    have h := and2 (show (plainTest a && chkE Γ sc' (.call f as ks bs) a) = true by unfold chkT at h; exact h)
    exact ⟨rdt_val (chkE_ok (.call f as ks bs) a G h.2 .e) (plainTest_ok h.1), fun op l p z => by subst z; cases h.1⟩
  | .exc c as bs, a, X, sc', lv, G, h => by
    have h := and2 (show (plainTest a && chkE Γ sc' (.exc c as bs) a) = true by unfold chkT at h; exact h)
    exact ⟨rdt_val (chkE_ok (.exc c as bs) a G h.2 .e) (plainTest_ok h.1), fun op l p z => by subst z; cases h.1⟩
  | .new c as ks bs, a, X, sc', lv, G, h => by
    have h := and2 (show (plainTest a && chkE Γ sc' (.new c as ks bs) a) = true by unfold chkT at h; exact h)
    exact ⟨rdt_val (chkE_ok (.new c as ks bs) a G h.2 .e) (plainTest_ok h.1), fun op l p z => by subst z; cases h.1⟩
  | .met x m as, a, X, sc', lv, G, h => by
    have h := and2 (show (plainTest a && chkE Γ sc' (.met x m as) a) = true by unfold chkT at h; exact h)
    exact ⟨rdt_val (chkE_ok (.met x m as) a G h.2 .e) (plainTest_ok h.1), fun op l p z => by subst z; cases h.1⟩
  | .mut x m as, a, X, sc', lv, G, h => by
    have h := and2 (show (plainTest a && chkE Γ sc' (.mut x m as) a) = true by unfold chkT at h; exact h)
    exact ⟨rdt_val (chkE_ok (.mut x m as) a G h.2 .e) (plainTest_ok h.1), fun op l p z => by subst z; cases h.1⟩
  | .obm x m as ks bs, a, X, sc', lv, G, h => by
    have h := and2 (show (plainTest a && chkE Γ sc' (.obm x m as ks bs) a) = true by unfold chkT at h; exact h)
    exact ⟨rdt_val (chkE_ok (.obm x m as ks bs) a G h.2 .e) (plainTest_ok h.1), fun op l p z => by subst z; cases h.1⟩
  | .lc n x o g it c, a, X, sc', lv, G, h => by
    have h := and2 (show (plainTest a && chkE Γ sc' (.lc n x o g it c) a) = true by unfold chkT at h; exact h)
    exact ⟨rdt_val (chkE_ok (.lc n x o g it c) a G h.2 .e) (plainTest_ok h.1), fun op l p z => by subst z; cases h.1⟩
  | .sc x o g it c, a, X, sc', lv, G, h => by
    have h := and2 (show (plainTest a && chkE Γ sc' (.sc x o g it c) a) = true by unfold chkT at h; exact h)
    exact ⟨rdt_val (chkE_ok (.sc x o g it c) a G h.2 .e) (plainTest_ok h.1), fun op l p z => by subst z; cases h.1⟩
  | .dc n k x o g it c, a, X, sc', lv, G, h => by
    have h := and2 (show (plainTest a && chkE Γ sc' (.dc n k x o g it c) a) = true by unfold chkT at h; exact h)
    exact ⟨rdt_val (chkE_ok (.dc n k x o g it c) a G h.2 .e) (plainTest_ok h.1), fun op l p z => by subst z; cases h.1⟩
theorem chkEs_ok : ∀ (es : List E) (as : List Expr) {X : Cx} {sc : Scope} {lv : Str → Bool}, Good Γ Z P X sc lv → chkEs Γ sc es as = true → Each Z P X es as
  | [], as, X, sc, lv, G, h => by
    unfold chkEs at h
    cases as <;> first | (cases h; done) | skip
    exact .nil
  | e :: es, as, X, sc, lv, G, h => by
    unfold chkEs at h
    cases as <;> first | (cases h; done) | skip
    rename_i a as
    obtain ⟨h, h3⟩ := and2 (show (noStar a && chkE Γ sc e a && chkEs Γ sc es as) = true from h)
    obtain ⟨h1, h2⟩ := and2 h
    exact .cons h1 (chkE_ok e a G h2) (chkEs_ok es as G h3)
theorem chkA_ok : ∀ (e : Ar) (a : Expr) {X : Cx} {sc : Scope} {lv : Str → Bool}, Good Γ Z P X sc lv → chkA Γ sc e a = true → PE X a (RdG1 Z P noX e)
  | .e a, e, X, sc, lv, G, h => rg_e (chkE_ok a e G (by unfold chkA at h; exact h) .e)
  | .be a, e, X, sc, lv, G, h => rg_be (chkE_ok a e G (by unfold chkA at h; exact h) .v)
  | .s i, a, X, sc, lv, G, h => by
    unfold chkA at h
    cases a <;> first | (cases h; done) | skip
    case Name x p =>
    obtain ⟨h1, h2, h3, h4⟩ := G.sl (show slB Γ sc i x = true from h)
    exact rg_s h1 h2 h3 h4
  | .b i, a, X, sc, lv, G, h => by
    unfold chkA at h
    cases a <;> first | (cases h; done) | skip
    case Name x p =>
    obtain ⟨h1, h2, h3, h4⟩ := G.sl (show slB Γ sc i x = true from h)
    exact rg_b h1 h2 h3 h4
  | .mv _, _, _, _, _, _, h => by unfold chkA at h; cases h
theorem chkAs_ok : ∀ (es : List Ar) (as : List Expr) {X : Cx} {sc : Scope} {lv : Str → Bool}, Good Γ Z P X sc lv → chkAs Γ sc es as = true → PA X as (RdA Z P noX es)
  | [], as, X, sc, lv, G, h => by
    unfold chkAs at h
    cases as <;> first | (cases h; done) | skip
    exact rda_nil
  | e :: es, as, X, sc, lv, G, h => by
    unfold chkAs at h
    cases as <;> first | (cases h; done) | skip
    rename_i a as
    obtain ⟨h, h3⟩ := and2 (show (noStar a && chkA Γ sc e a && chkAs Γ sc es as) = true from h)
    obtain ⟨h1, h2⟩ := and2 h
    exact rda_cons (chkA_ok e a G h2) (chkAs_ok es as G h3) h1
theorem chkI_ok : ∀ (it : EV.It) (a tg : Expr) {X : Cx} {sc : Scope} {lv : Str → Bool}, Good Γ Z P X sc lv → chkI Γ sc it tg a = true → PI X tg a (RdI Z P noX it)
  | .own i, a, tg, X, sc, lv, G, h => by
    unfold chkI at h
    cases a <;> first | (cases h; done) | skip
    case Name x p =>
    obtain ⟨h1, h2, h3, h4⟩ := G.sl (show slB Γ sc i x = true from h)
    exact rdi_own G.hZ h1 h2 h3 h4
  | .gen a, e, tg, X, sc, lv, G, h => rdi_gen G.hZ (chkE_ok a e G (by unfold chkI at h; exact h) .v)
  | .rng b, a, tg, X, sc, lv, G, h => by
    unfold chkI at h
    split at h
    · obtain ⟨h, h3⟩ := and2 h
      obtain ⟨h1, h2⟩ := and2 h
      obtain ⟨rfl, g1, g2⟩ := G.fre h1
      exact rdi_rng g1 g2 (chkE_ok b _ G h3 .e) h2
    · cases h
  | .rng2 b c, a, tg, X, sc, lv, G, h => by
    unfold chkI at h
    split at h
    · obtain ⟨h, h5⟩ := and2 h
      obtain ⟨h, h4⟩ := and2 h
      obtain ⟨h, h3⟩ := and2 h
      obtain ⟨h1, h2⟩ := and2 h
      obtain ⟨rfl, g1, g2⟩ := G.fre h1
      exact rdi_rng2 g1 g2 (chkE_ok b _ G h4 .e) (chkE_ok c _ G h5 .e) h2 h3
    · cases h
  | .rngd _ _, a, tg, X, sc, lv, G, h => by unfold chkI at h; cases h
  | .enum _ _, a, tg, X, sc, lv, G, h => by unfold chkI at h; cases h
  | .zip _ _, a, tg, X, sc, lv, G, h => by unfold chkI at h; cases h
  | .items b, a, tg, X, sc, lv, G, h => by
    unfold chkI at h
    split at h
    · rename_i x n ap p
      obtain ⟨h, h4⟩ := and2 h
      obtain ⟨h, h3⟩ := and2 h
      obtain ⟨h1, h2⟩ := and2 h
      obtain rfl := eq_of_beq h1
      exact rdi_items (chkE_ok b _ G h4 .e) (attrBase h2) h3
    · cases h
  | .vals _, a, tg, X, sc, lv, G, h => by unfold chkI at h; cases h
  | .fld _ _, a, tg, X, sc, lv, G, h => by unfold chkI at h; cases h
end
end EV
end PartEvChk3
section PartEvChk4
set_option autoImplicit false
set_option linter.all false
set_option maxRecDepth 100000
set_option maxHeartbeats 2000000
/-! EvChk4: statements, defs. -/
namespace EV
open PySem PySem.Spec PyProof.Rows L2
section
variable {Γ : Gam} {Z : Wd} {P : Pm} {X : Cx} {sc : Scope}
theorem noTup_sw {t a : Expr} {env : Env} (h : noTup a = true) : swappedStores [t] a env = pure none := by
  cases t <;> first | rfl | (cases a <;> first | rfl | cases h)
theorem Good.po (G : Good Γ Z P X sc allL) : PassesOwn (model X.prog X.w) X.A X.env X.xe := by
  rw [G.xe]
  exact PassesOwn.never
/-- a comprehension that goes to its name within the block's frame -/
theorem asgSw {X : Cx} {sc : Scope} {e : E} {v : Expr} {x : Str} {i : Nat} {px p : Pos} (G : Good Γ Z P X sc allL) (nN : X.N.Nodup) (iN : X.N[i]? = some x) (hl : X.env.scope.names.lookup x = some .local) (h4 : chkSw e v = true) (h : chkE Γ sc e v = true)
    (hw : swapsWith v (some (.Name x px)) p.line X.env = pure true) : PS X (.Assign [.Name x px] v p) (RdS Z P noX (.asg (.nm i) e)) := by
  unfold chkSw at h4
  split at h4
  · rename_i n elt own g it c x0 gens scope p0
    unfold chkE at h
    split at h
    · rename_i x1 tg iter ifs a scope1 p1 ownN eq ho
      cases eq
      obtain ⟨h, h8⟩ := and2 h
      obtain ⟨h, h7⟩ := and2 h
      obtain ⟨h, h6⟩ := and2 h
      obtain ⟨h, h5⟩ := and2 h
      obtain ⟨h, h4⟩ := and2 h
      obtain ⟨h, h3⟩ := and2 h
      obtain ⟨h1, h2⟩ := and2 h
      have h2 := eq_of_beq h2
      subst h2
      cases n <;> first | (cases h1; done) | skip
      refine rs_asgL G.hc nN iN hl (chkI_ok it iter tg G h5) (G.blkOk ho h4) (ownNames_ok ho).1 (fun s H C cl fp fix => chkG_ok (G.blk s H scope C cl fp) fix g tg h6) (fun s H C cl fp => ?_) (fun s H C cl fp => chkE_ok elt _ (G.blk s H scope C cl fp) h7 .e) (noSet_ok h3) hw
      split at h8
      · rw [litTrue_ok h8]; exact pts_none
      · exact pts_one (chkT_ok c _ (G.blk s H scope C cl fp) h8).1
      · cases h8
    · cases h
  · rename_i elt own g it c x0 gens scope p0
    unfold chkE at h
    split at h
    · rename_i x1 tg iter ifs a scope1 p1 ownN eq ho
      cases eq
      obtain ⟨h, h8⟩ := and2 h
      obtain ⟨h, h7⟩ := and2 h
      obtain ⟨h, h6⟩ := and2 h
      obtain ⟨h, h5⟩ := and2 h
      obtain ⟨h, h4⟩ := and2 h
      obtain ⟨h2, h3⟩ := and2 h
      have h2 := eq_of_beq h2
      subst h2
      refine rs_asgSc G.hc nN iN hl (chkI_ok it iter tg G h5) (G.blkOk ho h4) (ownNames_ok ho).1 (fun s H C cl fp fix => chkG_ok (G.blk s H scope C cl fp) fix g tg h6) (fun s H C cl fp => ?_) (fun s H C cl fp => chkE_ok elt _ (G.blk s H scope C cl fp) h7 .e) (noSet_ok h3) G.hZ hw
      split at h8
      · rw [litTrue_ok h8]; exact pts_none
      · exact pts_one (chkT_ok c _ (G.blk s H scope C cl fp) h8).1
      · cases h8
    · cases h
  · rename_i n key elt own g it c k0 x0 gens scope p0
    unfold chkE at h
    split at h
    · rename_i k1 x1 tg iter ifs a scope1 p1 ownN eq ho
      cases eq
      obtain ⟨h, h8⟩ := and2 h
      obtain ⟨h, h7⟩ := and2 h
      obtain ⟨h, h9⟩ := and2 h
      obtain ⟨h, h6⟩ := and2 h
      obtain ⟨h, h5⟩ := and2 h
      obtain ⟨h, h4⟩ := and2 h
      obtain ⟨h, h3⟩ := and2 h
      obtain ⟨h1, h2⟩ := and2 h
      have h2 := eq_of_beq h2
      subst h2
      cases n <;> first | (cases h1; done) | skip
      refine rs_asgDc G.hc nN iN hl (chkI_ok it iter tg G h5) (G.blkOk ho h4) (ownNames_ok ho).1 (fun s H C cl fp fix => chkG_ok (G.blk s H scope C cl fp) fix g tg h6) (fun s H C cl fp => ?_) (fun s H C cl fp => chkE_ok elt _ (G.blk s H scope C cl fp) h7 .e) (noSet_ok h3) (fun s H C cl fp => chkE_ok key _ (G.blk s H scope C cl fp) h9 .e) hw
      split at h8
      · rw [litTrue_ok h8]; exact pts_none
      · exact pts_one (chkT_ok c _ (G.blk s H scope C cl fp) h8).1
      · cases h8
    · cases h
  · cases h4
mutual
theorem chkC_ok (G : Good Γ Z P X sc allL) : ∀ (c : C) (st : Stmt), chkC Γ sc c st = true → PS X st (RdS Z P noX c)
  | .asg g e, st, h => by
    unfold chkC at h
    split at h
    · rename_i t v p
      obtain ⟨h1, h2⟩ := and2 h
      have he := chkE_ok e v G h1 .e
      split at h2
      · rename_i x px i
        obtain ⟨h2, h4⟩ := and2 h2
        obtain ⟨h2, h3⟩ := and2 h2
        obtain ⟨k1, k2⟩ := G.loc h3
        have nN : X.N.Nodup := by rw [G.hN]; exact G.nd
        have iN : X.N[i]? = some x := by rw [G.hN]; exact eq_of_beq h2
        by_cases c1 : noComp v = true
        · exact rs_asgN nN iN k1 k2 he (noSwap c1)
        · have sw : ∀ {pins : List (Addr × Obj)} {s : Shared} {σ : L2.St} {H : Hp}, Inv X pins σ H s → swapsWith v (some (.Name x px)) p.line X.env = pure (swB sc x px v) := fun I => swB_ok I.ok.kind G.sc
          by_cases c2 : swB sc x px v = true
          · have h4 : chkSw e v = true := by rw [c2, Bool.not_true, Bool.or_false] at h4; exact (Bool.or_eq_true _ _ ▸ h4).resolve_left c1
            have hl : X.env.scope.names.lookup x = some .local := by
              unfold swB at c2
              split at c2
              · cases c2
              · rw [G.sc]; exact eq_of_beq (and2 (and2 c2).1).1
            exact ⟨fun pins s σ H D I h => (asgSw G nN iN hl h4 h1 (by rw [sw I, c2])).run pins s σ H D I h⟩
          · exact ⟨fun pins s σ H D I h => (rs_asgN nN iN k1 k2 he (by rw [sw I]; rw [Bool.not_eq_true] at c2; rw [c2])).run pins s σ H D I h⟩
      · rename_i es k px
        obtain ⟨h2, h4⟩ := and2 h2
        obtain ⟨h2, h3⟩ := and2 h2
        exact rs_asgT (chkG_ok G P.fix g _ h4) he h2 (noTup_sw h3)
      · cases h2
    · cases h
  | .asS a i e, st, h => by
    unfold chkC at h
    split at h
    · obtain ⟨h, h5⟩ := and2 h
      obtain ⟨h, h4⟩ := and2 h
      obtain ⟨h, h3⟩ := and2 h
      obtain ⟨h1, h2⟩ := and2 h
      obtain ⟨g1, g2, g3, g4⟩ := G.sl h1
      exact rs_asS G.hu64 g1 g2 g3 g4 (chkE_ok e _ G h4 .e) (chkE_ok i _ G h5 .e) h2 h3
    · cases h
  | .exp e, st, h => by
    unfold chkC at h
    split at h
    · obtain ⟨h1, h2⟩ := and2 h
      exact rs_exp (chkE_ok e _ G h2 .e) h1
    · cases h
  | .ret e, st, h => by
    unfold chkC at h
    split at h
    · exact rs_ret (chkE_ok e _ G h .r)
    · rw [litNone_ok h]; exact rs_retN
    · cases h
  | .ite c a b, st, h => by
    unfold chkC at h
    split at h
    · obtain ⟨h, h3⟩ := and2 h
      obtain ⟨h1, h2⟩ := and2 h
      exact rs_if (chkT_ok c _ G h1).1 (chkCs_ok G a _ h2) (chkCs_ok G b _ h3)
    · cases h
  | .whl c b, st, h => by
    unfold chkC at h
    split at h
    · obtain ⟨h1, h2⟩ := and2 h
      exact rs_while G.po (chkT_ok c _ G h1).1 (chkCs_ok G b _ h2)
    · cases h
  | .for g it b, st, h => by
    unfold chkC at h
    split at h
    · obtain ⟨h, h4⟩ := and2 h
      obtain ⟨h, h3⟩ := and2 h
      obtain ⟨h1, h2⟩ := and2 h
      exact rs_for G.po G.hc (chkI_ok it _ _ G h2) (chkG_ok G P.fix g _ h1) (chkCs_ok G b _ h4) (noSet_ok h3)
    · cases h
  | .pas, st, h => by
    unfold chkC at h
    split at h
    · exact rs_pass
    · cases h
  | .brk, st, h => by
    unfold chkC at h
    split at h
    · exact rs_break
    · cases h
  | .cnt, st, h => by
    unfold chkC at h
    split at h
    · exact rs_cont
    · cases h
  | .asA _ _ _, st, h => by unfold chkC at h; cases h
  | .as2 a i b j e e', st, h => by
    unfold chkC at h
    split at h
    · obtain ⟨h, h11⟩ := and2 h
      obtain ⟨h, h10⟩ := and2 h
      obtain ⟨h, h9⟩ := and2 h
      obtain ⟨h, h8⟩ := and2 h
      obtain ⟨h, h7⟩ := and2 h
      obtain ⟨h, h6⟩ := and2 h
      obtain ⟨h, h5⟩ := and2 h
      obtain ⟨h, h4⟩ := and2 h
      obtain ⟨h, h3⟩ := and2 h
      obtain ⟨h1, h2⟩ := and2 h
      obtain ⟨g1, g2, g3, g4⟩ := G.sl h2
      have e1 := eq_of_beq h1
      have e2 := eq_of_beq h3
      subst e1 e2
      exact rs_as2 G.hu64 G.hc G.hZ.K g1 g2 g3 g4 (chkE_ok e _ G h8 .e) (chkE_ok e' _ G h9 .e) (chkE_ok i _ G h10 .e) (chkE_ok j _ G h11 .e) h4 h5 h6 h7
    · cases h
  | .aug i op e, st, h => by
    unfold chkC at h
    split at h
    · rename_i x px op' v p
      obtain ⟨h, h5⟩ := and2 h
      obtain ⟨h, h4⟩ := and2 h
      obtain ⟨h, h3⟩ := and2 h
      obtain ⟨h1, h2⟩ := and2 h
      obtain rfl := eq_of_beq h3
      obtain rfl := eq_of_beq h4
      obtain ⟨l1, l2⟩ := G.loc h2
      exact rs_aug (by rw [G.hN]; exact G.nd) (by rw [G.hN]; exact eq_of_beq h1) l1 l2 (chkE_ok e v G h5 .e)
    · cases h
  | .augS _ _ _ _, st, h => by unfold chkC at h; cases h
  | .rai _ _, st, h => by unfold chkC at h; cases h
  | .tri _ _ _ _, st, h => by unfold chkC at h; cases h
theorem chkCs_ok (G : Good Γ Z P X sc allL) : ∀ (cs : List C) (sts : List Stmt), chkCs Γ sc cs sts = true → PSs X sts (RdSs Z P noX cs)
  | [], sts, h => by
    unfold chkCs at h
    cases sts <;> first | (cases h; done) | skip
    exact rs_nil
  | c :: cs, sts, h => by
    unfold chkCs at h
    split at h
    · obtain ⟨h1, h2⟩ := and2 h
      exact rs_cons (chkC_ok G c _ h1) (chkCs_ok G cs _ h2)
    · cases h
end
end
def scopeB (N ps : List Str) (sc : Scope) : Bool :=
  decide (sc.kind = .function) && !sc.isCoroutine && !sc.isGenerator && decide N.Nodup && decide (N.take ps.length = ps) && ps.all (fun x => sc.names.lookup x == some .local || sc.names.lookup x == some .cell) && sc.names.all fun y => !(y.2 == .free)
theorem scopeB_ok {N ps : List Str} {sc : Scope} (h : scopeB N ps sc = true) : FnScope N ps sc := by
  unfold scopeB at h
  simp only [Bool.and_eq_true, decide_eq_true_eq, Bool.not_eq_true', List.all_eq_true, Bool.or_eq_true, beq_iff_eq] at h
  obtain ⟨⟨⟨⟨⟨⟨h1, h2⟩, h3⟩, h4⟩, h5⟩, h6⟩, h7⟩ := h
  refine ⟨h1, h2, h3, h4, h5, fun x hx => ?_, fun y hy e => ?_⟩
  · simpa using h6 x hx
  · have := h7 y hy
    rw [e] at this
    simp at this
/-- the world of all defs -/
structure Uni (Z : Wd) (con : List String) (free : List String) (P : Pm) : Prop where
  mod : True
  fr : ∀ x : String, free.contains x = true → Z.mg (Str.ofString x) = none
  con : ∀ x : String, con.contains x = true → ∃ d v u, P.con x = some d ∧ Z.mg (Str.ofString x) = some u ∧ RelV v u ∧ ∀ F, Pd Z.K F v d
/-- a def that was checked keeps what the interpreter says: its callees by hyp -/
theorem def_ok {Z : Wd} {base : Heap} {P : Pm} {N ps : List Str} {con free : List String} {fns : List (String × Nat)} {k : Nat} {x qual : Str} {params : Arguments} {body : List Stmt} {scope : Scope} {dvs : List V} {kws : List (Str × V)} {f : Addr} {fd : FuncData} {fi : FD}
    (F : FunD Z.K x qual params body scope dvs kws f fd) (hS : scopeB N ps scope = true) (hn : fi.n = N.length) (U : Uni Z con free P) (hc : chkCs ⟨N, con, fns, free⟩ scope fi.body body = true)
    (hf : ∀ g n, fns.contains (g, n) = true → ∀ X : Cx, In X Z → X.base = base → Room k X.A → FnF X Z P g n) :
    FnOk Z.P Z.w Z.K Z.mg base (fun _ _ _ _ _ _ => False) (k + 1) f fd ps (SpF Z ps.length fun ts os => runF P fi ts os) := by
  have S := scopeB_ok hS
  refine fn_ok F S hn fun cdv A outer s H E fix hr => PSs.nox ?_
  have G : Good ⟨N, con, fns, free⟩ Z { P with fix := fix } (cxOf (fun _ _ _ _ _ _ => False) Z.P Z.w Z.K Z.mg base N qual scope f cdv A outer s H E).nox scope allL := by
    refine ⟨⟨rfl, rfl, rfl, rfl⟩, ?_, rfl, rfl, S.nd, rfl, fun _ _ => rfl, rfl, U.fr, U.con, fun g n h => ?_⟩
    · have := hr.un
      show (A.deeper _).units + 65 < cLine
      omega
    · exact hf g n h _ ⟨rfl, rfl, rfl, rfl⟩ rfl hr
  exact chkCs_ok G fi.body body hc
end EV
end PartEvChk4
section PartEvUni
set_option autoImplicit false
set_option linter.all false
set_option maxRecDepth 100000
/-! EvUni: all defs of a text together. -/
namespace EV
open PySem PySem.Spec PyProof.Rows L2
/-! ### constants of the written part -/
mutual
def pdB (K : PySem.W.Frag) : D → Value → Bool
  | .none, u => match u with
    | .none => true
    | _ => false
  | .bool b, u => match u with
    | .bool c => b == c
    | _ => false
  | .int i, u => match u with
    | .int j _ => i == j
    | _ => false
  | .str x, u => match u with
    | .str y _ => x == y
    | _ => false
  | .tuple ds, u => match u with
    | .ref a => (match K.lookup a with
      | some ⟨.type c, _, .seq its _, _⟩ => c == "tuple" && decide (its.size ≤ 1000) && pdBs K ds its.toList
      | _ => false)
    | _ => false
  | .list _, _ => false
  | .dict _, _ => false
def pdBs (K : PySem.W.Frag) : List D → List Value → Bool
  | [], us => us.isEmpty
  | d :: ds, us => match us with
    | u :: us => pdB K d u && pdBs K ds us
    | [] => false
end
mutual
theorem pdB_ok {K : PySem.W.Frag} : ∀ (d : D) (u : Value), pdB K d u = true → ∃ v, RelV v u ∧ ∀ F, Pd K F v d
  | .none, u, h => by
    unfold pdB at h
    split at h
    · exact ⟨.non, rfl, fun _ => .non⟩
    · cases h
  | .bool b, u, h => by
    unfold pdB at h
    split at h
    · have := eq_of_beq h; subst this; exact ⟨.bl _, rfl, fun _ => .bl _⟩
    · cases h
  | .int b, u, h => by
    unfold pdB at h
    split at h
    · have := eq_of_beq h; subst this; exact ⟨.int _, ⟨_, rfl⟩, fun _ => .int _⟩
    · cases h
  | .str b, u, h => by
    unfold pdB at h
    split at h
    · have := eq_of_beq h; subst this; exact ⟨.str _, ⟨_, rfl⟩, fun _ => .str _⟩
    · cases h
  | .tuple ds, u, h => by
    unfold pdB at h
    split at h
    · rename_i a
      split at h
      · rename_i c od its n sl e
        obtain ⟨h, h3⟩ := and2 h
        obtain ⟨h1, h2⟩ := and2 h
        have h1 := eq_of_beq h1
        subst h1
        obtain ⟨vs, k1, k2⟩ := pdBs_ok ds its.toList h3
        exact ⟨.ref a, rfl, fun F => .tup (.inr ⟨_, its, n, e, rfl, rfl, Nat.le_trans (of_decide_eq_true h2) (by rw [sizeLine_eq]; decide), k1⟩) (k2 F)⟩
      · cases h
    · cases h
  | .list _, u, h => by unfold pdB at h; cases h
  | .dict _, u, h => by unfold pdB at h; cases h
theorem pdBs_ok {K : PySem.W.Frag} : ∀ (ds : List D) (us : List Value), pdBs K ds us = true → ∃ vs, Vals vs us ∧ ∀ F, PdAll K F vs ds
  | [], us, h => by
    unfold pdBs at h
    cases us <;> first | (cases h; done) | skip
    exact ⟨[], .nil, fun _ => .nil⟩
  | d :: ds, us, h => by
    unfold pdBs at h
    split at h
    · obtain ⟨h1, h2⟩ := and2 h
      obtain ⟨v, k1, k2⟩ := pdB_ok d _ h1
      obtain ⟨vs, k3, k4⟩ := pdBs_ok ds _ h2
      exact ⟨v :: vs, .cons k1 k3, fun F => .cons (k2 F) (k4 F)⟩
    · cases h
end
/-! ### all defs -/
/-- what a call at this level comes to -/
def crOf (X : Tx) (fi : FD) : Nat → List T → List O → CRes
  | 0 => fun _ _ => .bad
  | n + 1 => fun ts os => runF ⟨call X n, X.con, X.sub, X.xf, X.fuel, []⟩ fi ts os
theorem crOf_outs {X : Tx} {fi : FD} : ∀ (n : Nat) (ts : List T) (os : List O) (t : T) (outs : List T) (os' : List O), crOf X fi n ts os = .ok t outs os' → ∃ us, outs = outsOf ts us
  | 0, _, _, _, _, _, h => nomatch h
  | n + 1, ts, os, t, outs, os', h => runF_outs h
theorem binds_plain {fi : FD} {ts l : List T} (h : ts.length = fi.ps.length) (hk : kwFill [] [] fi.kw = some l) : binds fi ts [] [] = some (ts ++ l) := by
  unfold binds
  rw [if_pos (by omega), show fi.ps.drop ts.length = [] from List.drop_eq_nil_of_le (by omega), hk]
  simp [posFill]
/-- a def of the text as the checker has it -/
structure Ent where
  nm : String
  fi : FD
  N : List Str
  d : He.DefD
  ps : List Str
  dds : List D
/-- what may be called, with how many -/
structure EntOk (Z : Wd) (X : Tx) (tbl : List Ent) (fns : List (String × Nat)) (con free : List String) (e : Ent) : Prop where
  fd : ∃ fd ds, FunD Z.K e.d.name e.d.qual e.d.params e.d.body e.d.scope (e.d.dvs Z.K) (e.d.kws Z.K) (He.fAd Z.K e.d.at_) fd ∧ Binds Z.K fd e.ps ds ∧ ∃ dvs, Vals dvs ds ∧ ∀ F, PdAll Z.K F dvs e.dds
  xfd : X.fd e.nm = some e.fi
  mg : Z.mg (Str.ofString e.nm) = some (.ref (He.fAd Z.K e.d.at_))
  kw : kwFill [] [] e.fi.kw = some (e.dds.map .pl)
  pl : e.fi.ps.length + e.dds.length = e.ps.length
  sc : scopeB e.N e.ps e.d.scope = true
  n : e.fi.n = e.N.length
  chk : chkCs ⟨e.N, con, fns, free⟩ e.d.scope e.fi.body e.d.body = true
theorem all_ok {Z : Wd} {base : Heap} {X : Tx} {tbl : List Ent} {fns : List (String × Nat)} {con free : List String} (U : ∀ n, Uni Z con free ⟨call X n, X.con, X.sub, X.xf, X.fuel, []⟩) (ok : ∀ e ∈ tbl, EntOk Z X tbl fns con free e)
    (hf : ∀ g n, fns.contains (g, n) = true → ∃ e ∈ tbl, e.nm = g ∧ n = e.fi.ps.length) :
    ∀ n, ∀ e ∈ tbl, ∃ fd, FunD Z.K e.d.name e.d.qual e.d.params e.d.body e.d.scope (e.d.dvs Z.K) (e.d.kws Z.K) (He.fAd Z.K e.d.at_) fd ∧
      FnOk Z.P Z.w Z.K Z.mg base (fun _ _ _ _ _ _ => False) n (He.fAd Z.K e.d.at_) fd e.ps (SpF Z e.ps.length (crOf X e.fi n)) := by
  intro n
  induction n with
  | zero =>
    intro e he
    obtain ⟨fd, ds, F, _⟩ := (ok e he).fd
    refine ⟨fd, F, ⟨fun vs H Q E h => h.1, fun A outer s H args us vs Q E _ _ _ _ hs => ?_⟩⟩
    obtain ⟨_, g, ts, os, _, h⟩ := hs
    exact h.elim
  | succ n ih =>
    intro e he
    have o := ok e he
    obtain ⟨fd, ds, F, _⟩ := o.fd
    refine ⟨fd, F, ?_⟩
    refine def_ok (P := ⟨call X n, X.con, X.sub, X.xf, X.fuel, []⟩) F o.sc o.n (U n) o.chk fun g k hg Y hY hB hr => ?_
    obtain ⟨e2, he2, rfl, rfl⟩ := hf g k hg
    have o2 := ok e2 he2
    obtain ⟨fd2, F2, K2⟩ := ih e2 he2
    obtain ⟨fd3, ds, F3, hb, dvs, hv, hp⟩ := o2.fd
    have efd : fd2 = fd3 := by
      obtain ⟨_, _, _, _, _, _, _, _, _, _, _, lk, _⟩ := F2.ex
      obtain ⟨_, _, _, _, _, _, _, _, _, _, _, lk3, _⟩ := F3.ex
      rw [lk] at lk3
      cases lk3
      rfl
    subst efd
    refine ⟨n, _, fd2, e2.ps, dvs, ds, e2.dds, e2.ps.length, crOf X e2.fi n, crOf_outs n, o2.pl, fun ts os hl => ?_, hp, ?_, hr, by rw [hY.mg]; exact o2.mg, by rw [hY.K]; exact F2.kp, by rw [hY.K]; exact hb, hv⟩
    · show call X n e2.nm ts [] [] os = _
      cases n with
      | zero => rfl
      | succ m =>
        unfold call
        rw [o2.xfd]
        simp only [binds_plain hl o2.kw]
        rfl
    · rw [hY.P, hY.w, hY.K, hY.mg, hB]; exact K2
/-! ### the law's def -/
theorem law_start {Z : Wd} {H : Hp} {a : Addr} {ns : List Int} (h : SqL Z.K H a (ns.map V.int)) : ∃ g, Rel Z g ⟨[.sl (ns.map PyData.int)], []⟩ ([V.ref a].map some) H := by
  have mk : ∀ bo : List Addr, (∀ b ∈ bo, H b ≠ none) → (a ∈ bo ∨ KL Z.K a (ns.map V.int)) → Rel Z ⟨fun _ => none, [], fun _ => [], bo⟩ ⟨[.sl (ns.map PyData.int)], []⟩ ([V.ref a].map some) H := fun bo hb ha => by
    refine ⟨rfl, fun i t e => ?_, fun _ _ => rfl, rfl, fun n o b e => by simp at e, fun _ _ => rfl, (fun b o e => nomatch e), (fun p b e => nomatch e), (fun p q b e => nomatch e), fun _ => List.nodup_nil, fun b hb' => ⟨hb b hb', (fun p hp => nomatch hp)⟩⟩
    cases i with
    | zero =>
      cases e
      exact .inr ⟨.ref a, rfl, .sl h (PdAll.of_ints ns), fun b eb _ => by
        cases eb
        exact ha.imp_right fun k => ⟨_, _, k, PdAll.of_ints ns, rfl⟩⟩
    | succ i => simp at e
  rcases h with h | h
  · refine ⟨_, mk [a] (fun b hb => ?_) (.inl List.mem_cons_self)⟩
    obtain rfl : b = a := by simpa using hb
    rcases h with e | ⟨o, e⟩ <;> (rw [e]; exact fun z => nomatch z)
  · exact ⟨_, mk [] (fun b hb => nomatch hb) (.inr h)⟩
theorem law_sp {Z : Wd} {X : Tx} {fi : FD} {n : Nat} {H : Hp} {a : Addr} {ns : List Int} (h : SqL Z.K H a (ns.map V.int)) (hl : ∃ outs os', crOf X fi n [.sl (ns.map PyData.int)] [] = .ok (.pl (.bool true)) outs os') :
    SpF Z 1 (crOf X fi n) [.ref a] H (fun v _ => v = .bl true) fun _ _ _ => False := by
  obtain ⟨g, r⟩ := law_start h
  obtain ⟨outs, os', e⟩ := hl
  refine ⟨rfl, g, _, _, r, ?_⟩
  rw [e]
  intro g' H' v _ _ tm
  exact tm.vw.pd.bool
/-- facts by names, of all defs and constants -/
def cB (K : PySem.W.Frag) (cons : List (String × D)) : Bool := cons.all fun c => match PySem.W.nsIn K mainGlobals (Str.ofString c.1) with
  | some (some u) => pdB K c.2 u
  | _ => false
theorem cB_ok {K : PySem.W.Frag} {cons : List (String × D)} {h : Heap} {mg : Str → Option Value} (X : K.In h) (G : h.Ns mainGlobals mg) (c : cB K cons = true) {x : String} (hx : (cons.map (·.1)).contains x = true) : ∃ d v u, cons.lookup x = some d ∧ mg (Str.ofString x) = some u ∧ RelV v u ∧ ∀ F, Pd K F v d := by
  induction cons with
  | nil => simp at hx
  | cons p r ih =>
    obtain ⟨y, d⟩ := p
    unfold cB at c
    rw [List.all_cons] at c
    obtain ⟨c1, c2⟩ := and2 c
    by_cases e : x = y
    · subst e
      split at c1
      · rename_i u hu
        obtain ⟨v, k1, k2⟩ := pdB_ok d u c1
        exact ⟨d, v, u, by simp [List.lookup_cons], PySem.W.mg_of X G hu, k1, k2⟩
      · cases c1
    · have hne : (x == y) = false := beq_eq_false_iff_ne.mpr e
      have hx' : (r.map (·.1)).contains x = true := by
        rw [List.map_cons, List.contains_cons, hne, Bool.false_or] at hx
        exact hx
      obtain ⟨d', v, u, k1, k2⟩ := ih c2 hx'
      exact ⟨d', v, u, by rw [List.lookup_cons, hne]; exact k1, k2⟩
end EV
end PartEvUni
section PartEvChkF
set_option autoImplicit false
set_option linter.all false
set_option maxRecDepth 100000
/-! EvChkF: the checker once more, such that the kernel can run it. -/
namespace EV
open PySem PySem.Spec PyProof.Rows L2
mutual
def chkF (Γ : Gam) : E → Bool → Scope → Expr → Bool
  | .var i, t, sc, e => (!t || plainTest e) && (match e with
    | .Name x _ => slB Γ sc i x
    | _ => false)
  | .lit d, t, sc, e => (!t || plainTest e) && (litB d e)
  | .con c, t, sc, e => (!t || plainTest e) && (match e with
    | .Name x _ => x == Str.ofString c && glB sc x && nmB x && Γ.con.contains c
    | _ => false)
  | .tup n es, t, sc, e => (!t || plainTest e) && (match e with
    | .Tuple as _ _ => !n && decide (es.length ≤ 1000) && chkFs Γ es sc as
    | _ => false)
  | .lst n es, t, sc, e => (!t || plainTest e) && (match e with
    | .List as _ => !n && decide (es.length ≤ 1000) && chkFs Γ es sc as
    | _ => false)
  | .dct n ks vs, t, sc, e => (!t || plainTest e) && (match e with
    | .Dict [] [] _ => !n && ks.isEmpty && vs.isEmpty
    | .Dict [some k] [v] _ => !n && chkFs Γ ks sc [k] && chkFs Γ vs sc [v]
    | _ => false)
  | .rev a, t, sc, e => (!t || plainTest e) && (match e with
    | .Subscript x (.Slice none none (some (.UnaryOp .USub (.Constant (.int 1) _ _) _)) _) _ => chkF Γ a false sc x
    | _ => false)
  | .bin op a b, t, sc, e => (!t || plainTest e) && (match e with
    | .BinOp x op' y _ => op == op' && chkF Γ a false sc x && chkF Γ b false sc y
    | _ => false)
  | .neg a, t, sc, e => (!t || plainTest e) && (match e with
    | .UnaryOp .USub x _ => chkF Γ a false sc x
    | _ => false)
  | .not a, t, sc, e => match e with
    | .UnaryOp .Not x _ => chkF Γ a t sc x
    | _ => false
  | .and a b, t, sc, e => match e with
    | .BoolOp .And (x :: y :: r) p => chkF Γ a t sc x && (match r with
      | [] => chkF Γ b t sc y
      | _ => chkF Γ b t sc (.BoolOp .And (y :: r) p))
    | _ => false
  | .or a b, t, sc, e => match e with
    | .BoolOp .Or (x :: y :: r) p => chkF Γ a t sc x && (match r with
      | [] => chkF Γ b t sc y
      | _ => chkF Γ b t sc (.BoolOp .Or (y :: r) p))
    | _ => false
  | .ite c a b, t, sc, e => !t && (match e with
    | .IfExp t x y _ => chkF Γ c true sc t && chkF Γ a false sc x && chkF Γ b false sc y
    | _ => false)
  | .cmp op a b, t, sc, e => match e with
    | .Compare x [op'] [y] _ => op == op' && !behindInMarks op y && chkF Γ a false sc x && chkF Γ b false sc y
    | _ => false
  | .chn o1 o2 a b c, t, sc, e => match e with
    | .Compare x [o1', o2'] [y, z] _ => o1 == o1' && o2 == o2' && !lastMarks [o1, o2] [y, z] && chkF Γ a false sc x && chkF Γ b false sc y && chkF Γ c false sc z
    | _ => false
  | .idx a i, t, sc, e => (!t || plainTest e) && (match e with
    | .Subscript x j _ => noSlice j && chkF Γ a false sc x && chkF Γ i false sc j
    | _ => false)
  | .slc a lo hi, t, sc, e => (!t || plainTest e) && (match e with
    | .Subscript x (.Slice l u none _) _ => chkF Γ a false sc x && (match l with
      | none => litNone lo
      | some y => !litNone lo && chkF Γ lo false sc y) && (match u with
      | none => litNone hi
      | some y => !litNone hi && chkF Γ hi false sc y)
    | _ => false)
  | .bi f es, t, sc, e => (!t || plainTest e) && (match e with
    | .Call (.Name x _) (a :: as) [] _ => if f == "listvals" then (match a, as with
      | .Call (.Attribute y n ap) [] [] cp, [] => freB Γ sc "list" x && n == "values" && noSuper y && lineB ap cp && chkFs Γ es sc [y]
      | _, _ => false) else (biFn f || biTy f) && freB Γ sc f x && chkFs Γ es sc (a :: as)
    | _ => false)
  | .bik f a k b, t, sc, e => (!t || plainTest e) && (match e with
    | .Call (.Name x _) [y] [⟨some kw, z, _⟩] _ => f == "max" && k == "default" && kw == "default" && freB Γ sc "max" x && noStar y && chkF Γ a false sc y && chkF Γ b false sc z
    | _ => false)
  | .isi a ts, t, sc, e => (!t || plainTest e) && (match e, ts with
    | .Call (.Name x _) [y, .Name z _] [] _, [ty] => freB Γ sc "isinstance" x && noStar y && (["bool", "int", "str", "list", "tuple", "dict"].any fun t => ty == Str.ofString t && freB Γ sc t z) && chkF Γ a false sc y
    | _, _ => false)
  | .call f as ks bs, t, sc, e => (!t || plainTest e) && (match e, ks, bs with
    | .Call (.Name x _) (a :: r) [] _, [], [] => x == Str.ofString f && glB sc x && nmB x && Γ.fns.contains (f, as.length) && (a :: r).all noStar && chkFas Γ as sc (a :: r)
    | _, _, _ => false)
  | .met a m es, t, sc, e => (!t || plainTest e) && (match e with
    | .Call (.Attribute x n ap) [y] [] p => noSuper x && noStar y && lineB ap p && chkF Γ a false sc x && chkFs Γ es sc [y] && ((m == "join" && n == "join") || (m == "index" && n == "index") || (m == "get" && n == "get"))
    | _ => false)
  | .mut a m es, t, sc, e => (!t || plainTest e) && (match e, a with
    | .Call (.Attribute (.Name x _) n ap) [y] [] p, .var i => slB Γ sc i x && noStar y && lineB ap p && chkFs Γ es sc [y] && ((m == "append" && n == "append") || (m == "pop" && n == "pop") || (m == "extend" && n == "extend"))
    | .Call (.Attribute (.Name x _) n ap) [] [] p, .var i => slB Γ sc i x && lineB ap p && chkFs Γ es sc [] && (m == "pop" && n == "pop")
    | _, _ => false)
  | .lc n elt own g it c, t, sc, e => (!t || plainTest e) && (match e, ownNames Γ own with
    | .ListComp x [⟨tg, iter, ifs, a⟩] scope _, some ownN => !n && a == 0 && noSet iter && blkB Γ sc scope ownN && chkFi Γ it sc tg iter && chkG Γ (relS scope sc) (cellB scope) g tg && chkF Γ elt false (relS scope sc) x && (match ifs with
      | [] => litTrue c
      | [t] => chkF Γ c true (relS scope sc) t
      | _ => false)
    | _, _ => false)
  | .sc elt own g it c, t, sc, e => (!t || plainTest e) && (match e, ownNames Γ own with
    | .SetComp x [⟨tg, iter, ifs, a⟩] scope _, some ownN => a == 0 && noSet iter && blkB Γ sc scope ownN && chkFi Γ it sc tg iter && chkG Γ (relS scope sc) (cellB scope) g tg && chkF Γ elt false (relS scope sc) x && (match ifs with
      | [] => litTrue c
      | [t] => chkF Γ c true (relS scope sc) t
      | _ => false)
    | _, _ => false)
  | .dc n key elt own g it c, t, sc, e => (!t || plainTest e) && (match e, ownNames Γ own with
    | .DictComp kx x [⟨tg, iter, ifs, a⟩] scope _, some ownN => !n && a == 0 && noSet iter && blkB Γ sc scope ownN && chkFi Γ it sc tg iter && chkG Γ (relS scope sc) (cellB scope) g tg && chkF Γ key false (relS scope sc) kx && chkF Γ elt false (relS scope sc) x && (match ifs with
      | [] => litTrue c
      | [t] => chkF Γ c true (relS scope sc) t
      | _ => false)
    | _, _ => false)
  | _, _, _, _ => false
def chkFs (Γ : Gam) : List E → Scope → List Expr → Bool
  | [], sc, as => as.isEmpty
  | e :: es, sc, as => match as with
    | a :: as => noStar a && chkF Γ e false sc a && chkFs Γ es sc as
    | [] => false
def chkFa (Γ : Gam) : Ar → Scope → Expr → Bool
  | .e a, sc, e => chkF Γ a false sc e
  | .be a, sc, e => chkF Γ a false sc e
  | .s i, sc, e => match e with
    | .Name x _ => slB Γ sc i x
    | _ => false
  | .b i, sc, e => match e with
    | .Name x _ => slB Γ sc i x
    | _ => false
  | .mv _, sc, _ => false
def chkFas (Γ : Gam) : List Ar → Scope → List Expr → Bool
  | [], sc, as => as.isEmpty
  | e :: es, sc, as => match as with
    | a :: as => noStar a && chkFa Γ e sc a && chkFas Γ es sc as
    | [] => false
def chkFi (Γ : Gam) : It → Scope → Expr → Expr → Bool
  | .rng a, sc, _, e => match e with
    | .Call (.Name x _) [y] [] _ => freB Γ sc "range" x && noStar y && chkF Γ a false sc y
    | _ => false
  | .rng2 a b, sc, _, e => match e with
    | .Call (.Name x _) [y, z] [] _ => freB Γ sc "range" x && noStar y && noStar z && chkF Γ a false sc y && chkF Γ b false sc z
    | _ => false
  | .own i, sc, _, e => match e with
    | .Name x _ => slB Γ sc i x
    | _ => false
  | .gen a, sc, _, e => chkF Γ a false sc e
  | .items a, sc, tg, e => match tg, e with
    | .Tuple _ _ _, .Call (.Attribute x n ap) [] [] p => n == "items" && noSuper x && lineB ap p && chkF Γ a false sc x
    | _, _ => false
  | _, _, _, _ => false
end
mutual
theorem chkF_eq (Γ : Gam) : ∀ (e : E) (sc : Scope) (a : Expr), chkF Γ e false sc a = chkE Γ sc e a ∧ chkF Γ e true sc a = chkT Γ sc e a
  | .var i, sc, x => by
    refine ⟨?_, ?_⟩
    · unfold chkF chkE
      simp only [Bool.not_false, Bool.true_or, Bool.true_and]
      try rfl
    · unfold chkF chkT chkE
      simp only [Bool.not_true, Bool.false_or]
      try rfl
  | .lit d, sc, x => by
    refine ⟨?_, ?_⟩
    · unfold chkF chkE
      simp only [Bool.not_false, Bool.true_or, Bool.true_and]
      try rfl
    · unfold chkF chkT chkE
      simp only [Bool.not_true, Bool.false_or]
      try rfl
  | .con c, sc, x => by
    refine ⟨?_, ?_⟩
    · unfold chkF chkE
      simp only [Bool.not_false, Bool.true_or, Bool.true_and]
      try rfl
    · unfold chkF chkT chkE
      simp only [Bool.not_true, Bool.false_or]
      try rfl
  | .tup n es, sc, x => by
    have h0 : ∀ sc y, chkFs Γ es sc y = chkEs Γ sc es y := fun sc y => chkFs_eq Γ es sc y
    refine ⟨?_, ?_⟩
    · unfold chkF chkE
      simp only [Bool.not_false, Bool.true_or, Bool.true_and, h0]
      try rfl
    · unfold chkF chkT chkE
      simp only [Bool.not_true, Bool.false_or, Bool.false_and, h0]
      try rfl
  | .lst n es, sc, x => by
    have h0 : ∀ sc y, chkFs Γ es sc y = chkEs Γ sc es y := fun sc y => chkFs_eq Γ es sc y
    refine ⟨?_, ?_⟩
    · unfold chkF chkE
      simp only [Bool.not_false, Bool.true_or, Bool.true_and, h0]
      try rfl
    · unfold chkF chkT chkE
      simp only [Bool.not_true, Bool.false_or, Bool.false_and, h0]
      try rfl
  | .dct n ks vs, sc, x => by
    have h0 : ∀ sc y, chkFs Γ ks sc y = chkEs Γ sc ks y := fun sc y => chkFs_eq Γ ks sc y
    have h1 : ∀ sc y, chkFs Γ vs sc y = chkEs Γ sc vs y := fun sc y => chkFs_eq Γ vs sc y
    refine ⟨?_, ?_⟩
    · unfold chkF chkE
      simp only [Bool.not_false, Bool.true_or, Bool.true_and, h0, h1]
      try rfl
    · unfold chkF chkT chkE
      simp only [Bool.not_true, Bool.false_or, h0, h1]
      try rfl
  | .bin op a b, sc, x => by
    have h0 : ∀ sc y, chkF Γ a false sc y = chkE Γ sc a y := fun sc y => (chkF_eq Γ a sc y).1
    have k0 : ∀ sc y, chkF Γ a true sc y = chkT Γ sc a y := fun sc y => (chkF_eq Γ a sc y).2
    have h1 : ∀ sc y, chkF Γ b false sc y = chkE Γ sc b y := fun sc y => (chkF_eq Γ b sc y).1
    have k1 : ∀ sc y, chkF Γ b true sc y = chkT Γ sc b y := fun sc y => (chkF_eq Γ b sc y).2
    refine ⟨?_, ?_⟩
    · unfold chkF chkE
      simp only [Bool.not_false, Bool.true_or, Bool.true_and, h0, k0, h1, k1]
      try rfl
    · unfold chkF chkT chkE
      simp only [Bool.not_true, Bool.false_or, Bool.false_and, h0, k0, h1, k1]
      try rfl
  | .neg a, sc, x => by
    have h0 : ∀ sc y, chkF Γ a false sc y = chkE Γ sc a y := fun sc y => (chkF_eq Γ a sc y).1
    have k0 : ∀ sc y, chkF Γ a true sc y = chkT Γ sc a y := fun sc y => (chkF_eq Γ a sc y).2
    refine ⟨?_, ?_⟩
    · unfold chkF chkE
      simp only [Bool.not_false, Bool.true_or, Bool.true_and, h0, k0]
      try rfl
    · unfold chkF chkT chkE
      simp only [Bool.not_true, Bool.false_or, Bool.false_and, h0, k0]
      try rfl
  | .not a, sc, x => by
    have h0 : ∀ sc y, chkF Γ a false sc y = chkE Γ sc a y := fun sc y => (chkF_eq Γ a sc y).1
    have k0 : ∀ sc y, chkF Γ a true sc y = chkT Γ sc a y := fun sc y => (chkF_eq Γ a sc y).2
    refine ⟨?_, ?_⟩
    · unfold chkF chkE
      simp only [Bool.not_false, Bool.true_or, Bool.true_and, h0, k0]
      try rfl
    · unfold chkF chkT
      simp only [Bool.not_true, Bool.false_or, Bool.false_and, h0, k0]
      try rfl
  | .and a b, sc, x => by
    have h0 : ∀ sc y, chkF Γ a false sc y = chkE Γ sc a y := fun sc y => (chkF_eq Γ a sc y).1
    have k0 : ∀ sc y, chkF Γ a true sc y = chkT Γ sc a y := fun sc y => (chkF_eq Γ a sc y).2
    have h1 : ∀ sc y, chkF Γ b false sc y = chkE Γ sc b y := fun sc y => (chkF_eq Γ b sc y).1
    have k1 : ∀ sc y, chkF Γ b true sc y = chkT Γ sc b y := fun sc y => (chkF_eq Γ b sc y).2
    refine ⟨?_, ?_⟩
    · unfold chkF chkE
      simp only [Bool.not_false, Bool.true_or, Bool.true_and, h0, k0, h1, k1]
      try rfl
    · unfold chkF chkT
      simp only [Bool.not_true, Bool.false_or, Bool.false_and, h0, k0, h1, k1]
      try rfl
  | .or a b, sc, x => by
    have h0 : ∀ sc y, chkF Γ a false sc y = chkE Γ sc a y := fun sc y => (chkF_eq Γ a sc y).1
    have k0 : ∀ sc y, chkF Γ a true sc y = chkT Γ sc a y := fun sc y => (chkF_eq Γ a sc y).2
    have h1 : ∀ sc y, chkF Γ b false sc y = chkE Γ sc b y := fun sc y => (chkF_eq Γ b sc y).1
    have k1 : ∀ sc y, chkF Γ b true sc y = chkT Γ sc b y := fun sc y => (chkF_eq Γ b sc y).2
    refine ⟨?_, ?_⟩
    · unfold chkF chkE
      simp only [Bool.not_false, Bool.true_or, Bool.true_and, h0, k0, h1, k1]
      try rfl
    · unfold chkF chkT
      simp only [Bool.not_true, Bool.false_or, Bool.false_and, h0, k0, h1, k1]
      try rfl
  | .ite c a b, sc, x => by
    have h0 : ∀ sc y, chkF Γ c false sc y = chkE Γ sc c y := fun sc y => (chkF_eq Γ c sc y).1
    have k0 : ∀ sc y, chkF Γ c true sc y = chkT Γ sc c y := fun sc y => (chkF_eq Γ c sc y).2
    have h1 : ∀ sc y, chkF Γ a false sc y = chkE Γ sc a y := fun sc y => (chkF_eq Γ a sc y).1
    have k1 : ∀ sc y, chkF Γ a true sc y = chkT Γ sc a y := fun sc y => (chkF_eq Γ a sc y).2
    have h2 : ∀ sc y, chkF Γ b false sc y = chkE Γ sc b y := fun sc y => (chkF_eq Γ b sc y).1
    have k2 : ∀ sc y, chkF Γ b true sc y = chkT Γ sc b y := fun sc y => (chkF_eq Γ b sc y).2
    refine ⟨?_, ?_⟩
    · unfold chkF chkE
      simp only [Bool.not_false, Bool.true_or, Bool.true_and, h0, k0, h1, k1, h2, k2]
      try rfl
    · unfold chkF chkT
      simp only [Bool.not_true, Bool.false_or, Bool.false_and, h0, k0, h1, k1, h2, k2]
      try rfl
  | .cmp op a b, sc, x => by
    have h0 : ∀ sc y, chkF Γ a false sc y = chkE Γ sc a y := fun sc y => (chkF_eq Γ a sc y).1
    have k0 : ∀ sc y, chkF Γ a true sc y = chkT Γ sc a y := fun sc y => (chkF_eq Γ a sc y).2
    have h1 : ∀ sc y, chkF Γ b false sc y = chkE Γ sc b y := fun sc y => (chkF_eq Γ b sc y).1
    have k1 : ∀ sc y, chkF Γ b true sc y = chkT Γ sc b y := fun sc y => (chkF_eq Γ b sc y).2
    refine ⟨?_, ?_⟩
    · unfold chkF chkE
      simp only [Bool.not_false, Bool.true_or, Bool.true_and, h0, k0, h1, k1]
      try rfl
    · unfold chkF chkT
      simp only [Bool.not_true, Bool.false_or, Bool.false_and, h0, k0, h1, k1]
      try rfl
  | .chn o1 o2 a b c, sc, x => by
    have h0 : ∀ sc y, chkF Γ a false sc y = chkE Γ sc a y := fun sc y => (chkF_eq Γ a sc y).1
    have k0 : ∀ sc y, chkF Γ a true sc y = chkT Γ sc a y := fun sc y => (chkF_eq Γ a sc y).2
    have h1 : ∀ sc y, chkF Γ b false sc y = chkE Γ sc b y := fun sc y => (chkF_eq Γ b sc y).1
    have k1 : ∀ sc y, chkF Γ b true sc y = chkT Γ sc b y := fun sc y => (chkF_eq Γ b sc y).2
    have h2 : ∀ sc y, chkF Γ c false sc y = chkE Γ sc c y := fun sc y => (chkF_eq Γ c sc y).1
    have k2 : ∀ sc y, chkF Γ c true sc y = chkT Γ sc c y := fun sc y => (chkF_eq Γ c sc y).2
    refine ⟨?_, ?_⟩
    · unfold chkF chkE
      simp only [Bool.not_false, Bool.true_or, Bool.true_and, h0, k0, h1, k1, h2, k2]
      try rfl
    · unfold chkF chkT
      simp only [Bool.not_true, Bool.false_or, Bool.false_and, h0, k0, h1, k1, h2, k2]
      try rfl
  | .idx a i, sc, x => by
    have h0 : ∀ sc y, chkF Γ a false sc y = chkE Γ sc a y := fun sc y => (chkF_eq Γ a sc y).1
    have k0 : ∀ sc y, chkF Γ a true sc y = chkT Γ sc a y := fun sc y => (chkF_eq Γ a sc y).2
    have h1 : ∀ sc y, chkF Γ i false sc y = chkE Γ sc i y := fun sc y => (chkF_eq Γ i sc y).1
    have k1 : ∀ sc y, chkF Γ i true sc y = chkT Γ sc i y := fun sc y => (chkF_eq Γ i sc y).2
    refine ⟨?_, ?_⟩
    · unfold chkF chkE
      simp only [Bool.not_false, Bool.true_or, Bool.true_and, h0, k0, h1, k1]
      try rfl
    · unfold chkF chkT chkE
      simp only [Bool.not_true, Bool.false_or, Bool.false_and, h0, k0, h1, k1]
      try rfl
  | .slc a lo hi, sc, x => by
    have h0 : ∀ sc y, chkF Γ a false sc y = chkE Γ sc a y := fun sc y => (chkF_eq Γ a sc y).1
    have k0 : ∀ sc y, chkF Γ a true sc y = chkT Γ sc a y := fun sc y => (chkF_eq Γ a sc y).2
    have h1 : ∀ sc y, chkF Γ lo false sc y = chkE Γ sc lo y := fun sc y => (chkF_eq Γ lo sc y).1
    have k1 : ∀ sc y, chkF Γ lo true sc y = chkT Γ sc lo y := fun sc y => (chkF_eq Γ lo sc y).2
    have h2 : ∀ sc y, chkF Γ hi false sc y = chkE Γ sc hi y := fun sc y => (chkF_eq Γ hi sc y).1
    have k2 : ∀ sc y, chkF Γ hi true sc y = chkT Γ sc hi y := fun sc y => (chkF_eq Γ hi sc y).2
    refine ⟨?_, ?_⟩
    · unfold chkF chkE
      simp only [Bool.not_false, Bool.true_or, Bool.true_and, h0, k0, h1, k1, h2, k2]
      try rfl
    · unfold chkF chkT chkE
      simp only [Bool.not_true, Bool.false_or, Bool.false_and, h0, k0, h1, k1, h2, k2]
      try rfl
  | .rev a, sc, x => by
    have h0 : ∀ sc y, chkF Γ a false sc y = chkE Γ sc a y := fun sc y => (chkF_eq Γ a sc y).1
    refine ⟨?_, ?_⟩
    · unfold chkF chkE
      simp only [Bool.not_false, Bool.true_or, Bool.true_and, h0]
      try rfl
    · unfold chkF chkT chkE
      simp only [Bool.not_true, Bool.false_or, h0]
      try rfl
  | .att _ _, sc, x => by
    refine ⟨?_, ?_⟩
    · unfold chkF chkE; rfl
    · unfold chkF chkT chkE; rw [Bool.and_false]
  | .bi f es, sc, x => by
    have h0 : ∀ sc y, chkFs Γ es sc y = chkEs Γ sc es y := fun sc y => chkFs_eq Γ es sc y
    refine ⟨?_, ?_⟩
    · unfold chkF chkE
      simp only [Bool.not_false, Bool.true_or, Bool.true_and, h0]
      try rfl
    · unfold chkF chkT chkE
      simp only [Bool.not_true, Bool.false_or, Bool.false_and, h0]
      try rfl
  | .bik f a k b, sc, x => by
    have h0 : ∀ sc y, chkF Γ a false sc y = chkE Γ sc a y := fun sc y => (chkF_eq Γ a sc y).1
    have h1 : ∀ sc y, chkF Γ b false sc y = chkE Γ sc b y := fun sc y => (chkF_eq Γ b sc y).1
    refine ⟨?_, ?_⟩
    · unfold chkF chkE
      simp only [Bool.not_false, Bool.true_or, Bool.true_and, h0, h1]
      try rfl
    · unfold chkF chkT chkE
      simp only [Bool.not_true, Bool.false_or, Bool.false_and, h0, h1]
      try rfl
  | .isi a ts, sc, x => by
    have h0 : ∀ sc y, chkF Γ a false sc y = chkE Γ sc a y := fun sc y => (chkF_eq Γ a sc y).1
    have k0 : ∀ sc y, chkF Γ a true sc y = chkT Γ sc a y := fun sc y => (chkF_eq Γ a sc y).2
    refine ⟨?_, ?_⟩
    · unfold chkF chkE
      simp only [Bool.not_false, Bool.true_or, Bool.true_and, h0, k0]
      try rfl
    · unfold chkF chkT chkE
      simp only [Bool.not_true, Bool.false_or, Bool.false_and, h0, k0]
      try rfl
  | .call f as ks bs, sc, x => by
    have h0 : ∀ sc y, chkFas Γ as sc y = chkAs Γ sc as y := fun sc y => chkFas_eq Γ as sc y
    refine ⟨?_, ?_⟩
    · unfold chkF chkE
      simp only [Bool.not_false, Bool.true_or, Bool.true_and, h0]
      try rfl
    · unfold chkF chkT chkE
      simp only [Bool.not_true, Bool.false_or, Bool.false_and, h0]
      try rfl
  | .exc _ _ _, sc, x => by
    refine ⟨?_, ?_⟩
    · unfold chkF chkE; rfl
    · unfold chkF chkT chkE; rw [Bool.and_false]
  | .new _ _ _ _, sc, x => by
    refine ⟨?_, ?_⟩
    · unfold chkF chkE; rfl
    · unfold chkF chkT chkE; rw [Bool.and_false]
  | .met a m es, sc, x => by
    have h0 : ∀ sc y, chkF Γ a false sc y = chkE Γ sc a y := fun sc y => (chkF_eq Γ a sc y).1
    have k0 : ∀ sc y, chkF Γ a true sc y = chkT Γ sc a y := fun sc y => (chkF_eq Γ a sc y).2
    have h1 : ∀ sc y, chkFs Γ es sc y = chkEs Γ sc es y := fun sc y => chkFs_eq Γ es sc y
    refine ⟨?_, ?_⟩
    · unfold chkF chkE
      simp only [Bool.not_false, Bool.true_or, Bool.true_and, h0, k0, h1]
      try rfl
    · unfold chkF chkT chkE
      simp only [Bool.not_true, Bool.false_or, Bool.false_and, h0, k0, h1]
      try rfl
  | .mut a m es, sc, x => by
    have h0 : ∀ sc y, chkFs Γ es sc y = chkEs Γ sc es y := fun sc y => chkFs_eq Γ es sc y
    refine ⟨?_, ?_⟩
    · unfold chkF chkE
      simp only [Bool.not_false, Bool.true_or, Bool.true_and, h0]
      try rfl
    · unfold chkF chkT chkE
      simp only [Bool.not_true, Bool.false_or, Bool.false_and, h0]
      try rfl
  | .obm _ _ _ _ _, sc, x => by
    refine ⟨?_, ?_⟩
    · unfold chkF chkE; rfl
    · unfold chkF chkT chkE; rw [Bool.and_false]
  | .lc n elt own g it c, sc, x => by
    have h0 : ∀ sc y, chkF Γ elt false sc y = chkE Γ sc elt y := fun sc y => (chkF_eq Γ elt sc y).1
    have k0 : ∀ sc y, chkF Γ elt true sc y = chkT Γ sc elt y := fun sc y => (chkF_eq Γ elt sc y).2
    have h1 : ∀ sc tg y, chkFi Γ it sc tg y = chkI Γ sc it tg y := fun sc tg y => chkFi_eq Γ it sc tg y
    have h2 : ∀ sc y, chkF Γ c false sc y = chkE Γ sc c y := fun sc y => (chkF_eq Γ c sc y).1
    have k2 : ∀ sc y, chkF Γ c true sc y = chkT Γ sc c y := fun sc y => (chkF_eq Γ c sc y).2
    refine ⟨?_, ?_⟩
    · unfold chkF chkE
      simp only [Bool.not_false, Bool.true_or, Bool.true_and, h0, k0, h1, h2, k2]
      try rfl
    · unfold chkF chkT chkE
      simp only [Bool.not_true, Bool.false_or, Bool.false_and, h0, k0, h1, h2, k2]
      try rfl
  | .sc elt own g it c, sc, x => by
    have h0 : ∀ sc y, chkF Γ elt false sc y = chkE Γ sc elt y := fun sc y => (chkF_eq Γ elt sc y).1
    have k0 : ∀ sc y, chkF Γ elt true sc y = chkT Γ sc elt y := fun sc y => (chkF_eq Γ elt sc y).2
    have h1 : ∀ sc tg y, chkFi Γ it sc tg y = chkI Γ sc it tg y := fun sc tg y => chkFi_eq Γ it sc tg y
    have h2 : ∀ sc y, chkF Γ c false sc y = chkE Γ sc c y := fun sc y => (chkF_eq Γ c sc y).1
    have k2 : ∀ sc y, chkF Γ c true sc y = chkT Γ sc c y := fun sc y => (chkF_eq Γ c sc y).2
    refine ⟨?_, ?_⟩
    · unfold chkF chkE
      simp only [Bool.not_false, Bool.true_or, Bool.true_and, h0, k0, h1, h2, k2]
      try rfl
    · unfold chkF chkT chkE
      simp only [Bool.not_true, Bool.false_or, Bool.false_and, h0, k0, h1, h2, k2]
      try rfl
  | .dc n key elt own g it c, sc, x => by
    have h0 : ∀ sc y, chkF Γ key false sc y = chkE Γ sc key y := fun sc y => (chkF_eq Γ key sc y).1
    have k0 : ∀ sc y, chkF Γ key true sc y = chkT Γ sc key y := fun sc y => (chkF_eq Γ key sc y).2
    have h1 : ∀ sc y, chkF Γ elt false sc y = chkE Γ sc elt y := fun sc y => (chkF_eq Γ elt sc y).1
    have k1 : ∀ sc y, chkF Γ elt true sc y = chkT Γ sc elt y := fun sc y => (chkF_eq Γ elt sc y).2
    have h2 : ∀ sc tg y, chkFi Γ it sc tg y = chkI Γ sc it tg y := fun sc tg y => chkFi_eq Γ it sc tg y
    have h3 : ∀ sc y, chkF Γ c false sc y = chkE Γ sc c y := fun sc y => (chkF_eq Γ c sc y).1
    have k3 : ∀ sc y, chkF Γ c true sc y = chkT Γ sc c y := fun sc y => (chkF_eq Γ c sc y).2
    refine ⟨?_, ?_⟩
    · unfold chkF chkE
      simp only [Bool.not_false, Bool.true_or, Bool.true_and, h0, k0, h1, k1, h2, h3, k3]
      try rfl
    · unfold chkF chkT chkE
      simp only [Bool.not_true, Bool.false_or, Bool.false_and, h0, k0, h1, k1, h2, h3, k3]
      try rfl
theorem chkFs_eq (Γ : Gam) : ∀ (es : List E) (sc : Scope) (as : List Expr), chkFs Γ es sc as = chkEs Γ sc es as
  | [], sc, as => by unfold chkFs chkEs; rfl
  | e :: es, sc, as => by
    have h0 : ∀ sc y, chkF Γ e false sc y = chkE Γ sc e y := fun sc y => (chkF_eq Γ e sc y).1
    have h1 : ∀ sc y, chkFs Γ es sc y = chkEs Γ sc es y := fun sc y => chkFs_eq Γ es sc y
    unfold chkFs chkEs
    simp only [h0, h1]
    try rfl
theorem chkFa_eq (Γ : Gam) : ∀ (a : Ar) (sc : Scope) (x : Expr), chkFa Γ a sc x = chkA Γ sc a x
  | .e a, sc, x => by
    have h0 : ∀ sc y, chkF Γ a false sc y = chkE Γ sc a y := fun sc y => (chkF_eq Γ a sc y).1
    unfold chkFa chkA
    simp only [h0]
    try rfl
  | .be a, sc, x => by
    have h0 : ∀ sc y, chkF Γ a false sc y = chkE Γ sc a y := fun sc y => (chkF_eq Γ a sc y).1
    unfold chkFa chkA
    simp only [h0]
    try rfl
  | .s i, sc, x => by unfold chkFa chkA; rfl
  | .b i, sc, x => by unfold chkFa chkA; rfl
  | .mv _, sc, x => by unfold chkFa chkA; rfl
theorem chkFas_eq (Γ : Gam) : ∀ (es : List Ar) (sc : Scope) (as : List Expr), chkFas Γ es sc as = chkAs Γ sc es as
  | [], sc, as => by unfold chkFas chkAs; rfl
  | e :: es, sc, as => by
    have h0 : ∀ sc y, chkFa Γ e sc y = chkA Γ sc e y := fun sc y => chkFa_eq Γ e sc y
    have h1 : ∀ sc y, chkFas Γ es sc y = chkAs Γ sc es y := fun sc y => chkFas_eq Γ es sc y
    unfold chkFas chkAs
    simp only [h0, h1]
    try rfl
theorem chkFi_eq (Γ : Gam) : ∀ (it : It) (sc : Scope) (tg x : Expr), chkFi Γ it sc tg x = chkI Γ sc it tg x
  | .rng a, sc, tg, x => by
    have h0 : ∀ sc y, chkF Γ a false sc y = chkE Γ sc a y := fun sc y => (chkF_eq Γ a sc y).1
    unfold chkFi chkI
    simp only [h0]
    try rfl
  | .rng2 a b, sc, tg, x => by
    have h0 : ∀ sc y, chkF Γ a false sc y = chkE Γ sc a y := fun sc y => (chkF_eq Γ a sc y).1
    have h1 : ∀ sc y, chkF Γ b false sc y = chkE Γ sc b y := fun sc y => (chkF_eq Γ b sc y).1
    unfold chkFi chkI
    simp only [h0, h1]
    try rfl
  | .own i, sc, tg, x => by unfold chkFi chkI; rfl
  | .gen a, sc, tg, x => by
    have h0 : ∀ sc y, chkF Γ a false sc y = chkE Γ sc a y := fun sc y => (chkF_eq Γ a sc y).1
    unfold chkFi chkI
    simp only [h0]
    try rfl
  | .rngd _ _, sc, tg, x => by unfold chkFi chkI; rfl
  | .enum _ _, sc, tg, x => by unfold chkFi chkI; rfl
  | .zip _ _, sc, tg, x => by unfold chkFi chkI; rfl
  | .items a, sc, tg, x => by
    have h0 : ∀ sc y, chkF Γ a false sc y = chkE Γ sc a y := fun sc y => (chkF_eq Γ a sc y).1
    unfold chkFi chkI
    simp only [h0]
    try rfl
  | .vals _, sc, tg, x => by unfold chkFi chkI; rfl
  | .fld _ _, sc, tg, x => by unfold chkFi chkI; rfl
end
mutual
def chkFC (Γ : Gam) (sc : Scope) : C → Stmt → Bool
  | .asg g e, st => match st with
    | .Assign [t] v p => chkF Γ e false sc v && (match t, g with
      | .Name x px, .nm i => Γ.N[i]? == some x && locB sc allL x && (noComp v || !swB sc x px v || chkSw e v)
      | .Tuple es k px, g => noComp v && noTup v && chkG Γ sc allL g t
      | _, _ => false)
    | _ => false
  | .asS a i e, st => match st, a with
    | .Assign [.Subscript (.Name x _) j _] v _, .var n => slB Γ sc n x && noComp v && noSlice j && chkF Γ e false sc v && chkF Γ i false sc j
    | _, _ => false
  | .as2 a i b j e e', st => match st, a, b with
    | .Assign [.Tuple [.Subscript (.Name x _) ie _, .Subscript (.Name y _) je _] _ _] (.Tuple [v, v'] _ _) _, .var n, .var k => n == k && slB Γ sc n x && y == x && noSlice ie && noSlice je && noStar v && noStar v' && chkF Γ e false sc v && chkF Γ e' false sc v' && chkF Γ i false sc ie && chkF Γ j false sc je
    | _, _, _ => false
  | .aug i op e, st => match st with
    | .AugAssign (.Name x _) op' v _ => Γ.N[i]? == some x && locB sc allL x && op == .Add && op' == .Add && chkF Γ e false sc v
    | _ => false
  | .exp e, st => match st with
    | .Expr v _ => noComp v && chkF Γ e false sc v
    | _ => false
  | .ret e, st => match st with
    | .Return (some v) _ => chkF Γ e false sc v
    | .Return none _ => litNone e
    | _ => false
  | .ite c a b, st => match st with
    | .If t x y _ => chkF Γ c true sc t && chkFCs Γ sc a x && chkFCs Γ sc b y
    | _ => false
  | .whl c b, st => match st with
    | .While t x [] _ => chkF Γ c true sc t && chkFCs Γ sc b x
    | _ => false
  | .for g it b, st => match st with
    | .For t iter x [] _ => chkG Γ sc allL g t && chkFi Γ it sc t iter && noSet iter && chkFCs Γ sc b x
    | _ => false
  | .pas, st => match st with
    | .Pass _ => true
    | _ => false
  | .brk, st => match st with
    | .Break _ => true
    | _ => false
  | .cnt, st => match st with
    | .Continue _ => true
    | _ => false
  | _, _ => false
def chkFCs (Γ : Gam) (sc : Scope) : List C → List Stmt → Bool
  | [], sts => sts.isEmpty
  | c :: cs, sts => match sts with
    | st :: sts => chkFC Γ sc c st && chkFCs Γ sc cs sts
    | [] => false
end
mutual
theorem chkFC_eq (Γ : Gam) (sc : Scope) : ∀ (c : C) (st : Stmt), chkFC Γ sc c st = chkC Γ sc c st
  | .asg g e, st => by
    have h0 : ∀ sc y, chkF Γ e false sc y = chkE Γ sc e y := fun sc y => (chkF_eq Γ e sc y).1
    unfold chkFC chkC
    simp only [h0]
    try rfl
  | .asS a i e, st => by
    have h0 : ∀ sc y, chkF Γ i false sc y = chkE Γ sc i y := fun sc y => (chkF_eq Γ i sc y).1
    have h1 : ∀ sc y, chkF Γ e false sc y = chkE Γ sc e y := fun sc y => (chkF_eq Γ e sc y).1
    unfold chkFC chkC
    simp only [h0, h1]
    try rfl
  | .asA _ _ _, st => by unfold chkFC chkC; rfl
  | .as2 a i b j e e', st => by
    have h0 : ∀ sc y, chkF Γ i false sc y = chkE Γ sc i y := fun sc y => (chkF_eq Γ i sc y).1
    have h1 : ∀ sc y, chkF Γ e false sc y = chkE Γ sc e y := fun sc y => (chkF_eq Γ e sc y).1
    have h2 : ∀ sc y, chkF Γ j false sc y = chkE Γ sc j y := fun sc y => (chkF_eq Γ j sc y).1
    have h3 : ∀ sc y, chkF Γ e' false sc y = chkE Γ sc e' y := fun sc y => (chkF_eq Γ e' sc y).1
    unfold chkFC chkC
    simp only [h0, h1, h2, h3]
    try rfl
  | .aug i op e, st => by
    have h0 : ∀ sc y, chkF Γ e false sc y = chkE Γ sc e y := fun sc y => (chkF_eq Γ e sc y).1
    unfold chkFC chkC
    simp only [h0]
    try rfl
  | .augS _ _ _ _, st => by unfold chkFC chkC; rfl
  | .exp e, st => by
    have h0 : ∀ sc y, chkF Γ e false sc y = chkE Γ sc e y := fun sc y => (chkF_eq Γ e sc y).1
    unfold chkFC chkC
    simp only [h0]
    try rfl
  | .ret e, st => by
    have h0 : ∀ sc y, chkF Γ e false sc y = chkE Γ sc e y := fun sc y => (chkF_eq Γ e sc y).1
    unfold chkFC chkC
    simp only [h0]
    try rfl
  | .ite c a b, st => by
    have h0 : ∀ sc y, chkF Γ c true sc y = chkT Γ sc c y := fun sc y => (chkF_eq Γ c sc y).2
    have h1 : ∀ y, chkFCs Γ sc a y = chkCs Γ sc a y := fun y => chkFCs_eq Γ sc a y
    have h2 : ∀ y, chkFCs Γ sc b y = chkCs Γ sc b y := fun y => chkFCs_eq Γ sc b y
    unfold chkFC chkC
    simp only [h0, h1, h2]
    try rfl
  | .whl c b, st => by
    have h0 : ∀ sc y, chkF Γ c true sc y = chkT Γ sc c y := fun sc y => (chkF_eq Γ c sc y).2
    have h1 : ∀ y, chkFCs Γ sc b y = chkCs Γ sc b y := fun y => chkFCs_eq Γ sc b y
    unfold chkFC chkC
    simp only [h0, h1]
    try rfl
  | .for g it b, st => by
    have h0 : ∀ sc tg y, chkFi Γ it sc tg y = chkI Γ sc it tg y := fun sc tg y => chkFi_eq Γ it sc tg y
    have h1 : ∀ y, chkFCs Γ sc b y = chkCs Γ sc b y := fun y => chkFCs_eq Γ sc b y
    unfold chkFC chkC
    simp only [h0, h1]
    try rfl
  | .rai _ _, st => by unfold chkFC chkC; rfl
  | .tri _ _ _ _, st => by unfold chkFC chkC; rfl
  | .pas , st => by unfold chkFC chkC; rfl
  | .brk , st => by unfold chkFC chkC; rfl
  | .cnt , st => by unfold chkFC chkC; rfl
theorem chkFCs_eq (Γ : Gam) (sc : Scope) : ∀ (cs : List C) (sts : List Stmt), chkFCs Γ sc cs sts = chkCs Γ sc cs sts
  | [], sts => by unfold chkFCs chkCs; rfl
  | c :: cs, sts => by
    have h0 : ∀ y, chkFC Γ sc c y = chkC Γ sc c y := fun y => chkFC_eq Γ sc c y
    have h1 : ∀ y, chkFCs Γ sc cs y = chkCs Γ sc cs y := fun y => chkFCs_eq Γ sc cs y
    unfold chkFCs chkCs
    simp only [h0, h1]
    try rfl
end
end EV
end PartEvChkF
section PartEvTop
set_option autoImplicit false
set_option linter.all false
set_option maxRecDepth 100000
/-! EvTop: a law by its tables. -/
namespace EV
open PySem PySem.Spec PyProof.Rows L2
/-- how an entry's arguments are bound -/
def EntB (e : Ent) : Prop := ∀ (K : PySem.W.Frag) (fd : FuncData), FunD K e.d.name e.d.qual e.d.params e.d.body e.d.scope (e.d.dvs K) (e.d.kws K) (He.fAd K e.d.at_) fd →
  ∃ ds, Binds K fd e.ps ds ∧ ∃ dvs, Vals dvs ds ∧ ∀ F, PdAll K F dvs e.dds
/-- a default as data -/
def dvB : He.Dv → D → Bool
  | .non, .none => true
  | .bl b, .bool c => b == c
  | .int i, .int j => i == j
  | .str x, .str y => x == y
  | _, _ => false
def dvsB : List (Str × He.Dv) → List D → Bool
  | [], [] => true
  | q :: qs, d :: ds => dvB q.2 d && dvsB qs ds
  | _, _ => false
theorem dvB_ok {K : PySem.W.Frag} {v : He.Dv} {d : D} (h : dvB v d = true) (F : Hp) : Pd K F (v.v K) d := by
  unfold dvB at h
  split at h <;> first | (cases h; done) | skip
  · exact .non
  · have := eq_of_beq h; subst this; exact .bl _
  · have := eq_of_beq h; subst this; exact .int _
  · have := eq_of_beq h; subst this; exact .str _
theorem dvsB_ok {K : PySem.W.Frag} (F : Hp) : ∀ {qs : List (Str × He.Dv)} {ds : List D}, dvsB qs ds = true → PdAll K F (qs.map fun q => q.2.v K) ds
  | [], [], _ => .nil
  | [], _ :: _, h => nomatch h
  | _ :: _, [], h => nomatch h
  | q :: qs, d :: ds, h => by
    obtain ⟨h1, h2⟩ := and2 (show (dvB q.2 d && dvsB qs ds) = true from h)
    exact .cons (dvB_ok h1 F) (dvsB_ok F h2)
theorem entB0 {e : Ent} (h1 : e.d.dfl = []) (h2 : e.dds = [])
    (h : ∀ (kV doc pm : Value) (an : Option Addr) (cdv ct : Value) (us : List Value), us.length = e.ps.length → bindArgs (PySem.W.fnOf e.d.name e.d.qual e.d.params e.d.body e.d.scope .none kV doc pm an cdv ct) ⟨us, []⟩ = pure (e.ps.zip us)) : EntB e := fun K fd F => by
  have e1 : e.d.dvs K = [] := by unfold He.DefD.dvs; rw [h1]; rfl
  rw [e1] at F
  rw [h2]
  exact ⟨[], F.bindsN h, [], .nil, fun _ => .nil⟩
theorem entBk {e : Ent} (n : Nat) (h1 : e.d.dfl = []) (hk : e.d.kwd ≠ []) (hn : n + e.d.kwd.length = e.ps.length) (hd : dvsB e.d.kwd e.dds = true)
    (h : ∀ (D : Addr) (doc pm : Value) (an : Option Addr) (cdv ct : Value) (us ks : List Value), us.length = n → ks.length = e.d.kwd.length →
      KwChain D ((e.d.kwd.map (·.1)).zip ks) (bindArgs (PySem.W.fnOf e.d.name e.d.qual e.d.params e.d.body e.d.scope .none (.ref D) doc pm an cdv ct) ⟨us, []⟩) (e.ps.zip (us ++ ks))) : EntB e := fun K fd F => by
  have e1 : e.d.dvs K = [] := by unfold He.DefD.dvs; rw [h1]; rfl
  rw [e1] at F
  have ek : (e.d.kws K).map (·.1) = e.d.kwd.map (·.1) := by unfold He.DefD.kws; rw [List.map_map]; rfl
  have el : (e.d.kws K).length = e.d.kwd.length := by unfold He.DefD.kws; rw [List.length_map]
  have ne : e.d.kws K ≠ [] := fun z => by unfold He.DefD.kws at z; exact hk (List.map_eq_nil_iff.mp z)
  obtain ⟨ds, r, b⟩ := F.binds0 (ps := e.ps) n ne (by rw [el]; exact hn) fun D doc pm an cdv ct us ks l1 l2 => by rw [ek]; exact h D doc pm an cdv ct us ks l1 (l2.trans el)
  refine ⟨ds, b, _, r, fun F' => ?_⟩
  have := dvsB_ok (K := K) F' hd
  unfold He.DefD.kws
  rw [List.map_map]
  exact this
/-- what is checked of all entries -/
def allB (tbl : List Ent) (fns : List (String × Nat)) (con free : List String) : Bool := tbl.all fun e => chkFCs ⟨e.N, con, fns, free⟩ e.d.scope e.fi.body e.d.body && scopeB e.N e.ps e.d.scope && e.fi.n == e.N.length
def kwEq : Option (List T) → List D → Bool
  | some [], [] => true
  | some (.pl d :: ts), e :: ds => litEq d e && kwEq (some ts) ds
  | _, _ => false
where litEq : D → D → Bool
  | .none, .none => true
  | .bool b, .bool c => b == c
  | .int b, .int c => b == c
  | .str b, .str c => b == c
  | _, _ => false
theorem litEq_ok {d e : D} (h : kwEq.litEq d e = true) : d = e := by
  unfold kwEq.litEq at h
  split at h <;> first | (cases h; done) | rfl | (have := eq_of_beq h; subst this; rfl)
theorem kwEq_ok : ∀ {l : List T} {ds : List D}, kwEq (some l) ds = true → l = ds.map .pl
  | [], [], _ => rfl
  | [], _ :: _, h => nomatch h
  | t :: ts, [], h => by cases t <;> exact nomatch h
  | .pl d :: ts, e :: ds, h => by
    obtain ⟨h1, h2⟩ := and2 (show (kwEq.litEq d e && kwEq (some ts) ds) = true from h)
    rw [litEq_ok h1, kwEq_ok h2]; rfl
  | .ol _ :: _, _ :: _, h => nomatch h
  | .od _ :: _, _ :: _, h => nomatch h
  | .os _ :: _, _ :: _, h => nomatch h
  | .kl _ :: _, _ :: _, h => nomatch h
  | .kd _ :: _, _ :: _, h => nomatch h
  | .bl _ :: _, _ :: _, h => nomatch h
  | .bd _ :: _, _ :: _, h => nomatch h
  | .sl _ :: _, _ :: _, h => nomatch h
  | .nl _ :: _, _ :: _, h => nomatch h
  | .nd _ :: _, _ :: _, h => nomatch h
  | .nt _ :: _, _ :: _, h => nomatch h
  | .ob _ :: _, _ :: _, h => nomatch h
  | .un :: _, _ :: _, h => nomatch h
/-- what else is asked of an entry -/
def restB (fds : List (String × FD)) (e : Ent) : Bool := (match fds.lookup e.nm with
    | some fi => true
    | none => false) && kwEq (kwFill [] [] e.fi.kw) e.dds && (e.fi.ps.length + e.dds.length == e.ps.length)
structure LawT where
  tbl : List Ent
  fns : List (String × Nat)
  free : List String
  cons : List (String × D)
  fa : List He.Fa
  X : Tx
  el : Ent
structure LawOk (L : LawT) : Prop where
  con : ∀ x, L.X.con x = L.cons.lookup x
  chk : allB L.tbl L.fns (L.cons.map (·.1)) L.free = true
  fd : ∀ e ∈ L.tbl, L.X.fd e.nm = some e.fi
  at_ : ∀ e ∈ L.tbl, ∃ x : Str, x = Str.ofString e.nm ∧ e.d.at_ = (x, none) ∧ He.Fa.glo x ∈ L.fa
  kw : ∀ e ∈ L.tbl, kwEq (kwFill [] [] e.fi.kw) e.dds = true
  pl : ∀ e ∈ L.tbl, e.fi.ps.length + e.dds.length = e.ps.length
  bd : ∀ e ∈ L.tbl, EntB e
  fr : ∀ x, L.free.contains x = true → He.Fa.free (Str.ofString x) ∈ L.fa
  fn : ∀ g n, L.fns.contains (g, n) = true → ∃ e ∈ L.tbl, e.nm = g ∧ n = e.fi.ps.length
  law : L.el ∈ L.tbl
  nm : L.el.nm = "law"
  lps : L.el.ps = [("script" : Str)]
  lkw : L.el.d.dfl = []
  lb : ∀ (kV doc pm : Value) (an : Option Addr) (cdv ct : Value) (us : List Value), us.length = 1 → bindArgs (PySem.W.fnOf L.el.d.name L.el.d.qual L.el.d.params L.el.d.body L.el.d.scope .none kV doc pm an cdv ct) ⟨us, []⟩ = pure ([("script" : Str)].zip us)
/-- the law's def over the head's facts -/
theorem law_fn {L : LawT} (O : LawOk L) {P : Program} {w : World} {K : PySem.W.Frag} {h : Heap} {mg : Str → Option Value} (XK : K.In h) (G : h.Ns mainGlobals mg) (c : He.SaysX L.fa (L.tbl.map (·.d)) [] [] (fun K => cB K L.cons) w h K) (k : Nat)
    (math : ∀ ns : List Int, ns.length ≤ 63 → ∃ outs os', crOf L.X L.el.fi k [.sl (ns.map PyData.int)] [] = .ok (.pl (.bool true)) outs os') {fa : Addr} (hfa : mg ("law" : Str) = some (.ref fa)) :
    ∃ (fd : FuncData) (sp : Sp), (∀ (s : Shared) (u : Value), BindsTo s fd ⟨[u], []⟩ [("script", u)]) ∧
      (∀ (H : Hp) (a : Addr) (ns : List Int), ns.length ≤ 63 → Only H → SqL K H a (ns.map V.int) → sp [.ref a] H (fun v _ => v = .bl true) fun _ _ _ => False) ∧
      ∀ base : Heap, K.In base → base.Ns mainGlobals mg → FnOk P w K mg base (fun _ _ _ _ _ _ => False) k fa fd ["script"] sp := by
  have cd : He.SaysD L.fa (L.tbl.map (·.d)) K := He.SaysT.d c.t
  have U : ∀ n, Uni (⟨P, w, K, mg⟩ : Wd) (L.cons.map (·.1)) L.free ⟨call L.X n, L.X.con, L.X.sub, L.X.xf, L.X.fuel, []⟩ := fun n => ⟨trivial, fun x hx => He.free_ok XK G (cd.facts (O.fr x hx)), fun x hx => by
    obtain ⟨d, v, u, e1, e2, e3, e4⟩ := cB_ok XK G c.more hx
    exact ⟨d, v, u, (O.con x).trans e1, e2, e3, e4⟩⟩
  have ok : ∀ e ∈ L.tbl, EntOk (⟨P, w, K, mg⟩ : Wd) L.X L.tbl L.fns (L.cons.map (·.1)) L.free e := fun e he => by
    obtain ⟨fd, F⟩ := cd.defs (List.mem_map.mpr ⟨e, he, rfl⟩)
    obtain ⟨ds, b1, b2⟩ := O.bd e he K fd F
    obtain ⟨x, ex, ea, hg⟩ := O.at_ e he
    have hchk := List.all_eq_true.mp O.chk e he
    obtain ⟨h1, h2⟩ := and2 hchk
    obtain ⟨h3, h4⟩ := and2 h1
    have hk := O.kw e he
    cases q : kwFill [] [] e.fi.kw with
    | none => rw [q] at hk; cases hd : e.dds <;> (rw [hd] at hk; cases hk)
    | some l =>
      rw [q] at hk
      exact ⟨⟨fd, ds, F, b1, b2⟩, O.fd e he, by rw [← ex, ea]; exact He.glo_ok XK G (cd.facts hg), by rw [q, kwEq_ok hk], O.pl e he, h4, eq_of_beq h2, by rw [← chkFCs_eq]; exact h3⟩
  obtain ⟨fd, F, K2⟩ := all_ok (base := h) U ok O.fn k L.el O.law
  have efa : fa = He.fAd K L.el.d.at_ := by
    have := (ok L.el O.law).mg
    rw [O.nm] at this
    have e2 : some (Value.ref fa) = some (.ref (He.fAd K L.el.d.at_)) := hfa.symm.trans this
    cases e2
    rfl
  have e1 : L.el.d.dvs K = [] := by unfold He.DefD.dvs; rw [O.lkw]; rfl
  refine ⟨fd, SpF (⟨P, w, K, mg⟩ : Wd) 1 (crOf L.X L.el.fi k), fun s u => ?_, fun H a ns hl _ hS => law_sp (Z := ⟨P, w, K, mg⟩) hS (math ns hl), fun base hb hn => ?_⟩
  · have F' := F
    rw [e1] at F'
    exact FunD.bindsA (ps := ["script"]) F' O.lb s [u] rfl
  · obtain ⟨fd', F', K3⟩ := all_ok (base := base) U ok O.fn k L.el O.law
    have : fd' = fd := by
      obtain ⟨_, _, _, _, _, _, _, _, _, _, _, lk, _⟩ := F.ex
      obtain ⟨_, _, _, _, _, _, _, _, _, _, _, lk', _⟩ := F'.ex
      rw [lk] at lk'
      cases lk'
      rfl
    subst this
    rw [O.lps] at K3
    rw [efa]
    exact K3
end EV
end PartEvTop
section PartLb
set_option linter.all false
set_option maxRecDepth 100000
/-! Lb: the trees of the defs that several laws share. -/
namespace Lb
open EV PySem
def d_is_name : FD := ⟨["thing"], [], 2,
  [.ret (.and (.isi (.var 0) ["str"]) (.and (.chn .LtE .LtE (.lit (.int 1)) (.bi "len" [(.var 0)]) (.con "MOST_LETTERS")) (.bi "all" [(.lc false (.cmp .In (.var 1) (.con "SMALL")) [1] (.nm 1) (.own 0) (.lit (.bool true)))])))]⟩
def n_is_name : List Str := ["thing", "sign"]
def d_is_whole : FD := ⟨["thing"], [], 1,
  [.ret (.and (.isi (.var 0) ["int"]) (.not (.isi (.var 0) ["bool"])))]⟩
def n_is_whole : List Str := ["thing"]
def d_is_between : FD := ⟨["thing", "low", "high"], [], 3,
  [.ret (.and (.call "is_whole" [.b 0] [] []) (.chn .LtE .LtE (.var 1) (.var 0) (.var 2)))]⟩
def n_is_between : List Str := ["thing", "low", "high"]
def d_is_number : FD := ⟨["thing"], [], 1,
  [.ret (.call "is_between" [.b 0, .e (.lit (.int 0)), .be (.con "GREATEST")] [] [])]⟩
def n_is_number : List Str := ["thing"]
def d_are_moments : FD := ⟨["since", "until"], [], 2,
  [.ret (.and (.call "is_between" [.b 0, .e (.lit (.int 0)), .be (.con "LAST_MOMENT")] [] []) (.and (.call "is_between" [.b 1, .e (.lit (.int 0)), .be (.con "LAST_MOMENT")] [] []) (.cmp .Lt (.var 0) (.var 1))))]⟩
def n_are_moments : List Str := ["since", "until"]
def d_is_under : FD := ⟨["under", "number"], [], 2,
  [.ret (.or (.cmp .Is (.var 0) (.lit .none)) (.call "is_between" [.b 0, .e (.lit (.int 0)), .e (.bin .Sub (.var 1) (.lit (.int 1)))] [] []))]⟩
def n_is_under : List Str := ["under", "number"]
def d_is_leave : FD := ⟨["thing"], [], 11,
  [.ite (.or (.not (.isi (.var 0) ["tuple"])) (.cmp .NotEq (.bi "len" [(.var 0)]) (.lit (.int 9))))
     [.ret (.lit (.bool false))]
     [],
   .asg (.tp [(.nm 1), (.nm 2), (.nm 3), (.nm 4), (.nm 5), (.nm 6), (.nm 7), (.nm 8), (.nm 9)]) (.var 0),
   .ite (.or (.not (.call "is_number" [.b 1] [] [])) (.or (.not (.bi "all" [(.lc false (.call "is_name" [.b 10] [] []) [10] (.nm 10) (.gen (.tup false [(.var 2), (.var 4), (.var 5)])) (.lit (.bool true)))])) (.cmp .Eq (.var 4) (.var 5))))
     [.ret (.lit (.bool false))]
     [],
   .ite (.or (.not (.isi (.var 3) ["tuple"])) (.cmp .NotIn (.var 3) (.con "KINDS_OF_DEEDS")))
     [.ret (.lit (.bool false))]
     [],
   .ret (.and (.call "are_moments" [.b 6, .b 7] [] []) (.and (.call "is_between" [.b 8, .e (.lit (.int 0)), .be (.con "MOST_PASSES")] [] []) (.call "is_under" [.b 9, .b 1] [] [])))]⟩
def n_is_leave : List Str := ["thing", "number", "room", "deeds", "giver", "holder", "since", "until", "passes", "under", "name"]
def d_as_leave : FD := ⟨["row"], [("number", some (.int 0)), ("room", some (.str "room")), ("under", some .none)], 10,
  [.asg (.tp [(.nm 4), (.nm 5), (.nm 6), (.nm 7), (.nm 8), (.nm 9)]) (.var 0),
   .ret (.tup false [(.var 1), (.var 2), (.var 6), (.var 4), (.var 5), (.var 7), (.var 8), (.var 9), (.var 3)])]⟩
def n_as_leave : List Str := ["row", "number", "room", "under", "giver", "holder", "deeds", "since", "until", "passes"]
def d_is_row_of : FD := ⟨["many", "thing"], [], 2,
  [.ret (.and (.isi (.var 1) ["tuple"]) (.cmp .Eq (.bi "len" [(.var 1)]) (.var 0)))]⟩
def n_is_row_of : List Str := ["many", "thing"]
def d_is_tie : FD := ⟨["thing"], [], 4,
  [.ite (.not (.call "is_row_of" [.e (.lit (.int 4)), .b 0] [] []))
     [.ret (.lit (.bool false))]
     [],
   .asg (.tps [(.nm 1), (.nm 2)] 3 []) (.var 0),
   .ret (.call "is_leave" [.e (.call "as_leave" [.e (.tup false [(.var 1), (.var 2), (.con "BOTH"), (.idx (.var 3) (.lit (.int 0))), (.idx (.var 3) (.lit (.int 1))), (.lit (.int 0))])] [] [])] [] [])]⟩
def n_is_tie : List Str := ["thing", "giver", "receiver", "span"]
def d_is_wish : FD := ⟨["owner", "thing"], [], 6,
  [.ite (.not (.call "is_row_of" [.e (.lit (.int 4)), .b 1] [] []))
     [.ret (.lit (.bool false))]
     [],
   .asg (.tp [(.nm 2), (.nm 3), (.nm 4), (.nm 5)]) (.var 1),
   .ret (.call "is_leave" [.e (.call "as_leave" [.e (.tup false [(.var 0), (.var 2), (.var 3), (.var 4), (.var 5), (.lit (.int 0))])] [] [])] [] [])]⟩
def n_is_wish : List Str := ["owner", "thing", "actor", "deeds", "since", "until"]
def d_names_in : FD := ⟨["trust"], [], 8,
  [.asg (.tp [(.nm 1), (.nm 2), (.nm 3)]) (.var 0),
   .asg (.nm 4) (.bin .Add (.bin .Add (.lc false (.idx (.var 5) (.lit (.int 0))) [5] (.nm 5) (.own 3) (.lit (.bool true))) (.lc false (.idx (.var 6) (.lit (.int 0))) [6] (.nm 6) (.own 2) (.lit (.bool true)))) (.lc false (.idx (.var 6) (.lit (.int 1))) [6] (.nm 6) (.own 2) (.lit (.bool true)))),
   .ret (.dc false (.var 7) (.lit (.bool true)) [7] (.nm 7) (.own 4) (.cmp .NotEq (.var 7) (.var 1)))]⟩
def n_names_in : List Str := ["trust", "owner", "ties", "wishes", "found", "wish", "tie", "name"]
def d_is_trust : FD := ⟨["thing"], [], 7,
  [.ite (.not (.call "is_row_of" [.e (.lit (.int 3)), .b 0] [] []))
     [.ret (.lit (.bool false))]
     [],
   .asg (.tp [(.nm 1), (.nm 2), (.nm 3)]) (.var 0),
   .ite (.or (.not (.isi (.var 2) ["tuple"])) (.or (.cmp .Gt (.bi "len" [(.var 2)]) (.con "MOST_TIES")) (.not (.bi "all" [(.lc false (.call "is_tie" [.s 5] [] []) [5] (.nm 5) (.own 2) (.lit (.bool true)))]))))
     [.ret (.lit (.bool false))]
     [],
   .ite (.or (.not (.isi (.var 3) ["tuple"])) (.not (.chn .LtE .LtE (.lit (.int 1)) (.bi "len" [(.var 3)]) (.con "MOST_WISHES"))))
     [.ret (.lit (.bool false))]
     [],
   .ite (.not (.bi "all" [(.lc false (.call "is_wish" [.s 1, .s 6] [] []) [6] (.nm 6) (.own 3) (.lit (.bool true)))]))
     [.ret (.lit (.bool false))]
     [],
   .asg (.nm 4) (.sc (.idx (.var 6) (.lit (.int 0))) [6] (.nm 6) (.own 3) (.lit (.bool true))),
   .ret (.and (.cmp .Eq (.bi "len" [(.var 4)]) (.bi "len" [(.var 3)])) (.cmp .LtE (.bi "len" [(.call "names_in" [.s 0] [] [])]) (.con "MOST_NAMES")))]⟩
def n_is_trust : List Str := ["thing", "owner", "ties", "wishes", "actors", "tie", "wish"]
def d_law_cell_at : FD := ⟨["script", "k"], [], 2,
  [.ite (.cmp .Lt (.var 1) (.bi "len" [(.var 0)]))
     [.ret (.idx (.var 0) (.var 1))]
     [],
   .ret (.lit (.int 0))]⟩
def n_law_cell_at : List Str := ["script", "k"]
def d_law_pool : FD := ⟨["cell", "place"], [], 2,
  [.ret (.lst false [(.bi "max" [(.bin .Sub (.var 0) (.bin .Pow (.lit (.int 10)) (.lit (.int 18)))), (.lit (.int 0))]), (.bin .Mod (.bin .Add (.bin .Mod (.var 0) (.lit (.int 2147483629))) (.bin .Mult (.lit (.int 40009)) (.var 1))) (.lit (.int 2147483629))), (.lit (.int 0))])]⟩
def n_law_pool : List Str := ["cell", "place"]
def d_law_draw : FD := ⟨["pool", "many"], [], 4,
  [.asS (.var 0) (.lit (.int 2)) (.bin .Add (.idx (.var 0) (.lit (.int 2))) (.lit (.int 1))),
   .asg (.nm 2) (.bin .Mod (.bin .Pow (.bin .Add (.bin .Add (.idx (.var 0) (.lit (.int 1))) (.bin .Mult (.bin .Mult (.lit (.int 7)) (.idx (.var 0) (.lit (.int 2)))) (.idx (.var 0) (.lit (.int 2))))) (.lit (.int 1))) (.lit (.int 2))) (.lit (.int 2147483587))),
   .asS (.var 0) (.lit (.int 1)) (.bin .Mod (.bin .Add (.bin .Mult (.var 2) (.lit (.int 69621))) (.bin .Mult (.lit (.int 40692)) (.idx (.var 0) (.lit (.int 2))))) (.lit (.int 2147483629))),
   .asg (.nm 3) (.bin .Mod (.bin .FloorDiv (.idx (.var 0) (.lit (.int 1))) (.lit (.int 64))) (.var 1)),
   .ite (.cmp .Gt (.idx (.var 0) (.lit (.int 0))) (.lit (.int 0)))
     [.asg (.nm 3) (.bin .Mod (.idx (.var 0) (.lit (.int 0))) (.var 1)),
      .asS (.var 0) (.lit (.int 0)) (.bin .FloorDiv (.idx (.var 0) (.lit (.int 0))) (.var 1))]
     [],
   .ret (.var 3)]⟩
def n_law_draw : List Str := ["pool", "many", "stir", "found"]
def d_law_names : FD := ⟨["pool", "many"], [], 9,
  [.asg (.nm 2) (.lit (.str "abcdefghijklmnopqrstuvwxyz")),
   .asg (.nm 3) (.lst false []),
   .for (.nm 4) (.rng (.var 1))
     [.asg (.nm 5) (.met (.lit (.str "")) "join" [(.lc false (.idx (.var 2) (.call "_law_draw" [.s 0, .e (.lit (.int 26))] [] [])) [6] (.nm 6) (.rng (.bin .Add (.lit (.int 1)) (.call "_law_draw" [.s 0, .e (.lit (.int 8))] [] []))) (.lit (.bool true)))]),
      .ite (.and (.cmp .NotEq (.var 3) (.lst false [])) (.cmp .Eq (.call "_law_draw" [.s 0, .e (.lit (.int 3))] [] []) (.lit (.int 0))))
        [.asg (.nm 5) (.slc (.bin .Add (.idx (.var 3) (.neg (.lit (.int 1)))) (.var 5)) (.lit .none) (.lit (.int 8)))]
        [],
      .exp (.mut (.var 3) "append" [(.idx (.lc false (.var 7) [7] (.nm 7) (.gen (.bin .Add (.lst false [(.var 5)]) (.lc false (.var 8) [8] (.nm 8) (.own 2) (.lit (.bool true))))) (.cmp .NotIn (.var 7) (.var 3))) (.lit (.int 0)))])],
   .ret (.var 3)]⟩
def n_law_names : List Str := ["pool", "many", "letters", "names", "k", "word", "j", "one", "letter"]
def d_law_span : FD := ⟨["pool", "way"], [], 3,
  [.asg (.nm 2) (.call "_law_draw" [.s 0, .e (.lit (.int 12))] [] []),
   .ite (.cmp .Eq (.var 1) (.lit (.int 0)))
     [.ret (.tup false [(.lit (.int 0)), (.lit (.int 1000000))])]
     [],
   .ite (.cmp .Eq (.var 1) (.lit (.int 1)))
     [.ret (.tup false [(.var 2), (.bin .Add (.bin .Add (.var 2) (.lit (.int 1))) (.call "_law_draw" [.s 0, .e (.lit (.int 12))] [] []))])]
     [],
   .ret (.tup false [(.bin .FloorDiv (.var 2) (.lit (.int 3))), (.bin .Add (.lit (.int 20)) (.call "_law_draw" [.s 0, .e (.lit (.int 6))] [] []))])]⟩
def n_law_span : List Str := ["pool", "way", "since"]
def d_law_trust : FD := ⟨["pool", "most"], [], 13,
  [.asg (.nm 2) (.call "_law_names" [.s 0, .e (.bin .Add (.lit (.int 2)) (.call "_law_draw" [.s 0, .b 1] [] []))] [] []),
   .asg (.nm 3) (.call "_law_draw" [.s 0, .e (.lit (.int 4))] [] []),
   .asg (.nm 4) (.lst false []),
   .for (.nm 5) (.rng2 (.lit (.int 1)) (.bi "len" [(.var 2)]))
     [.ite (.cmp .Gt (.call "_law_draw" [.s 0, .e (.lit (.int 6))] [] []) (.lit (.int 0)))
        [.exp (.mut (.var 4) "append" [(.bin .Add (.tup false [(.idx (.var 2) (.call "_law_draw" [.s 0, .b 5] [] [])), (.idx (.var 2) (.var 5))]) (.call "_law_span" [.s 0, .be (.idx (.lst false [(.lit (.int 0)), (.lit (.int 1)), (.lit (.int 2)), (.bin .Mod (.var 5) (.lit (.int 3)))]) (.var 3))] [] []))])]
        []],
   .for (.nm 5) (.rng (.call "_law_draw" [.s 0, .e (.bin .Sub (.lit (.int 21)) (.bi "len" [(.var 4)]))] [] []))
     [.asg (.nm 6) (.call "_law_draw" [.s 0, .be (.bi "len" [(.var 2)])] [] []),
      .asg (.nm 7) (.bin .Mod (.bin .Add (.bin .Add (.var 6) (.lit (.int 1))) (.call "_law_draw" [.s 0, .e (.bin .Sub (.bi "len" [(.var 2)]) (.lit (.int 1)))] [] [])) (.bi "len" [(.var 2)])),
      .exp (.mut (.var 4) "append" [(.bin .Add (.tup false [(.idx (.var 2) (.var 6)), (.idx (.var 2) (.var 7))]) (.call "_law_span" [.s 0, .be (.idx (.lst false [(.lit (.int 0)), (.lit (.int 1)), (.lit (.int 2)), (.bin .Mod (.var 5) (.lit (.int 3)))]) (.var 3))] [] []))])],
   .asg (.nm 8) (.slc (.var 2) (.lit (.int 1)) (.lit .none)),
   .asg (.nm 9) (.lst false []),
   .for (.nm 5) (.rng (.bin .Add (.lit (.int 1)) (.call "_law_draw" [.s 0, .be (.bi "min" [(.lit (.int 6)), (.bi "len" [(.var 8)])])] [] [])))
     [.asg (.nm 10) (.mut (.var 8) "pop" [(.call "_law_draw" [.s 0, .be (.bi "len" [(.var 8)])] [] [])]),
      .asg (.nm 11) (.call "_law_draw" [.s 0, .e (.lit (.int 20))] [] []),
      .asg (.nm 12) (.idx (.lst false [(.tup false [(.lit (.str "look"))]), (.tup false [(.lit (.str "set"))]), (.tup false [(.lit (.str "look")), (.lit (.str "set"))])]) (.call "_law_draw" [.s 0, .e (.lit (.int 3))] [] [])),
      .exp (.mut (.var 9) "append" [(.tup false [(.var 10), (.var 12), (.var 11), (.bin .Add (.bin .Add (.var 11) (.lit (.int 1))) (.call "_law_draw" [.s 0, .e (.lit (.int 6))] [] []))])])],
   .ret (.tup false [(.idx (.var 2) (.lit (.int 0))), (.bi "tuple" [(.var 4)]), (.bi "tuple" [(.var 9)])])]⟩
def n_law_trust : List Str := ["pool", "most", "names", "kind", "ties", "k", "one", "other", "left", "wishes", "actor", "since", "deeds"]
def d_law_others : FD := ⟨["trust"], [], 5,
  [.asg (.nm 1) (.bin .Add (.bin .Add (.lc false (.idx (.var 2) (.lit (.int 0))) [2] (.nm 2) (.gen (.idx (.var 0) (.lit (.int 2)))) (.lit (.bool true))) (.lc false (.idx (.var 3) (.lit (.int 0))) [3] (.nm 3) (.gen (.idx (.var 0) (.lit (.int 1)))) (.lit (.bool true)))) (.lc false (.idx (.var 3) (.lit (.int 1))) [3] (.nm 3) (.gen (.idx (.var 0) (.lit (.int 1)))) (.lit (.bool true)))),
   .ret (.bi "sorted" [(.bi "set" [(.lc false (.var 4) [4] (.nm 4) (.own 1) (.cmp .NotEq (.var 4) (.idx (.var 0) (.lit (.int 0)))))])])]⟩
def n_law_others : List Str := ["trust", "names", "wish", "tie", "name"]
def d_law_is_name : FD := ⟨["thing"], [], 2,
  [.ret (.and (.chn .LtE .LtE (.lit (.int 1)) (.bi "len" [(.var 0)]) (.lit (.int 8))) (.cmp .Eq (.lc false (.var 1) [1] (.nm 1) (.own 0) (.not (.chn .LtE .LtE (.lit (.str "a")) (.var 1) (.lit (.str "z"))))) (.lst false [])))]⟩
def n_law_is_name : List Str := ["thing", "sign"]
def d_law_is_span : FD := ⟨["since", "until"], [], 2,
  [.ret (.and (.cmp .LtE (.lit (.int 0)) (.var 0)) (.and (.cmp .Lt (.var 0) (.var 1)) (.cmp .LtE (.var 1) (.lit (.int 1000000)))))]⟩
def n_law_is_span : List Str := ["since", "until"]
def d_law_is_deeds : FD := ⟨["deeds"], [], 1,
  [.ret (.cmp .In (.var 0) (.lst false [(.tup false [(.lit (.str "look"))]), (.tup false [(.lit (.str "set"))]), (.tup false [(.lit (.str "look")), (.lit (.str "set"))])]))]⟩
def n_law_is_deeds : List Str := ["deeds"]
def d_law_truth : FD := ⟨["found", "due"], [], 2,
  [.ret (.and (.isi (.var 0) ["bool"]) (.cmp .Eq (.var 0) (.var 1)))]⟩
def n_law_truth : List Str := ["found", "due"]
def d_lies_within : FD := ⟨["leave", "other"], [], 21,
  [.asg (.tp [(.nm 2), (.nm 3), (.nm 4), (.nm 5), (.nm 6), (.nm 7), (.nm 8), (.nm 9), (.nm 10)]) (.var 0),
   .asg (.tp [(.nm 11), (.nm 12), (.nm 13), (.nm 14), (.nm 15), (.nm 16), (.nm 17), (.nm 18), (.nm 19)]) (.var 1),
   .ite (.or (.cmp .NotEq (.var 12) (.var 3)) (.or (.cmp .NotEq (.var 15) (.var 5)) (.not (.bi "all" [(.lc false (.cmp .In (.var 20) (.var 13)) [20] (.nm 20) (.own 4) (.lit (.bool true)))]))))
     [.ret (.lit (.bool false))]
     [],
   .ret (.and (.cmp .LtE (.var 16) (.var 7)) (.and (.cmp .LtE (.var 8) (.var 17)) (.cmp .Lt (.var 9) (.var 18))))]⟩
def n_lies_within : List Str := ["leave", "other", "number", "room", "deeds", "giver", "holder", "since", "until", "passes", "under", "above", "place", "may", "owner", "keeper", "begun", "ended", "more", "higher", "deed"]
def d_is_spanned : FD := ⟨["trust", "giver", "receiver", "span"], [], 10,
  [.asg (.tp [(.nm 4), (.nm 5)]) (.var 3),
   .for (.tp [(.nm 6), (.nm 7), (.nm 8), (.nm 9)]) (.gen (.idx (.var 0) (.lit (.int 1))))
     [.ite (.and (.cmp .Eq (.tup false [(.var 6), (.var 7)]) (.tup false [(.var 1), (.var 2)])) (.and (.cmp .LtE (.var 8) (.var 4)) (.cmp .LtE (.var 5) (.var 9))))
        [.ret (.lit (.bool true))]
        []],
   .ret (.lit (.bool false))]⟩
def n_is_spanned : List Str := ["trust", "giver", "receiver", "span", "since", "until", "one", "other", "first", "last"]
def d_is_borne : FD := ⟨["rows", "wish"], [], 13,
  [.asg (.tp [(.nm 2), (.nm 3), (.nm 4), (.nm 5)]) (.var 1),
   .ite (.cmp .NotIn (.var 2) (.var 0))
     [.ret (.lit (.bool false))]
     [],
   .asg (.tp [(.nm 6), (.nm 7), (.nm 8), (.nm 9), (.nm 10), (.nm 11)]) (.idx (.var 0) (.var 2)),
   .ret (.and (.bi "all" [(.lc false (.cmp .In (.var 12) (.var 8)) [12] (.nm 12) (.own 3) (.lit (.bool true)))]) (.and (.cmp .LtE (.var 9) (.var 4)) (.cmp .LtE (.var 5) (.var 10))))]⟩
def n_is_borne : List Str := ["rows", "wish", "actor", "deeds", "since", "until", "giver", "holder", "told", "first", "last", "passes", "deed"]
def d_is_plan : FD := ⟨["trust", "thing"], [], 11,
  [.ite (.or (.not (.isi (.var 1) ["tuple"])) (.not (.bi "all" [(.lc false (.call "is_row_of" [.e (.lit (.int 6)), .b 3] [] []) [3] (.nm 3) (.own 1) (.lit (.bool true)))])))
     [.ret (.lit (.bool false))]
     [],
   .ite (.not (.bi "all" [(.lc false (.call "is_leave" [.e (.call "as_leave" [.s 3] [] [])] [] []) [3] (.nm 3) (.own 1) (.lit (.bool true)))]))
     [.ret (.lit (.bool false))]
     [],
   .asg (.nm 2) (.dc false (.idx (.var 3) (.lit (.int 1))) (.var 3) [3] (.nm 3) (.own 1) (.lit (.bool true))),
   .ite (.or (.cmp .NotEq (.lc false (.idx (.var 3) (.lit (.int 1))) [3] (.nm 3) (.own 1) (.lit (.bool true))) (.bi "sorted" [(.var 2)])) (.cmp .In (.idx (.var 0) (.lit (.int 0))) (.var 2)))
     [.ret (.lit (.bool false))]
     [],
   .for (.nm 3) (.own 1)
     [.asg (.tp [(.nm 4), (.nm 5), (.nm 6), (.nm 7), (.nm 8), (.nm 9)]) (.var 3),
      .ite (.not (.call "is_spanned" [.b 0, .s 4, .s 5, .e (.tup false [(.var 7), (.var 8)])] [] []))
        [.ret (.lit (.bool false))]
        [],
      .ite (.and (.cmp .NotEq (.var 4) (.idx (.var 0) (.lit (.int 0)))) (.or (.cmp .NotIn (.var 4) (.var 2)) (.not (.call "lies_within" [.e (.call "as_leave" [.s 3] [] []), .e (.call "as_leave" [.e (.idx (.var 2) (.var 4))] [] [])] [] []))))
        [.ret (.lit (.bool false))]
        []],
   .ret (.bi "all" [(.lc false (.call "is_borne" [.b 2, .s 10] [] []) [10] (.nm 10) (.gen (.idx (.var 0) (.lit (.int 2)))) (.lit (.bool true)))])]⟩
def n_is_plan : List Str := ["trust", "thing", "rows", "row", "giver", "holder", "deeds", "since", "until", "passes", "wish"]
def d_law_lies : FD := ⟨["trust", "giver", "holder", "since", "until"], [], 7,
  [.asg (.nm 5) (.lc false (.var 6) [6] (.nm 6) (.gen (.idx (.var 0) (.lit (.int 1)))) (.cmp .Eq (.slc (.var 6) (.lit .none) (.lit (.int 2))) (.tup false [(.var 1), (.var 2)]))),
   .ret (.cmp .NotEq (.lc false (.var 6) [6] (.nm 6) (.own 5) (.and (.cmp .LtE (.idx (.var 6) (.lit (.int 2))) (.var 3)) (.cmp .LtE (.var 4) (.idx (.var 6) (.lit (.int 3)))))) (.lst false []))]⟩
def n_law_lies : List Str := ["trust", "giver", "holder", "since", "until", "some", "tie"]
def d_law_up : FD := ⟨["case", "actor"], [], 4,
  [.asg (.nm 2) (.lst false []),
   .asg (.nm 3) (.var 1),
   .whl (.cmp .In (.var 3) (.var 0))
     [.ite (.cmp .In (.var 3) (.var 2))
        [.ret (.lit .none)]
        [],
      .exp (.mut (.var 2) "append" [(.var 3)]),
      .asg (.nm 3) (.idx (.var 0) (.var 3))],
   .ret (.var 2)]⟩
def n_law_up : List Str := ["case", "actor", "found", "here"]
def d_law_below : FD := ⟨["trust", "case", "actor"], [], 4,
  [.ret (.lc false (.var 3) [3] (.nm 3) (.gen (.idx (.var 0) (.lit (.int 2)))) (.and (.cmp .In (.idx (.var 3) (.lit (.int 0))) (.var 1)) (.cmp .In (.var 2) (.call "_law_up" [.b 1, .e (.idx (.var 3) (.lit (.int 0)))] [] []))))]⟩
def n_law_below : List Str := ["trust", "case", "actor", "wish"]
def d_law_fits : FD := ⟨["trust", "case"], [], 6,
  [.ite (.cmp .NotEq (.lc false (.var 2) [2] (.nm 2) (.own 1) (.cmp .Is (.call "_law_up" [.b 1, .s 2] [] []) (.lit .none))) (.lst false []))
     [.ret (.lit (.bool false))]
     [],
   .for (.nm 2) (.own 1)
     [.asg (.nm 3) (.call "_law_below" [.b 0, .b 1, .b 2] [] []),
      .ite (.cmp .Eq (.var 3) (.lst false []))
        [.ret (.lit (.bool false))]
        [],
      .asg (.nm 4) (.bi "min" [(.lc false (.idx (.var 5) (.lit (.int 2))) [5] (.nm 5) (.own 3) (.lit (.bool true)))]),
      .ite (.not (.call "_law_lies" [.b 0, .e (.idx (.var 1) (.var 2)), .s 2, .b 4, .be (.bi "max" [(.lc false (.idx (.var 5) (.lit (.int 3))) [5] (.nm 5) (.own 3) (.lit (.bool true)))])] [] []))
        [.ret (.lit (.bool false))]
        []],
   .ret (.lit (.bool true))]⟩
def n_law_fits : List Str := ["trust", "case", "actor", "some", "first", "wish"]
def d_law_next : FD := ⟨["trust", "case"], [], 6,
  [.asg (.nm 2) (.lc false (.idx (.var 4) (.lit (.int 0))) [4] (.nm 4) (.own 1) (.lit (.bool true))),
   .for (.nm 3) (.gen (.bin .Add (.lc false (.idx (.var 5) (.lit (.int 0))) [5] (.nm 5) (.gen (.idx (.var 0) (.lit (.int 2)))) (.lit (.bool true))) (.lc false (.idx (.var 4) (.lit (.int 1))) [4] (.nm 4) (.own 1) (.lit (.bool true)))))
     [.ite (.and (.cmp .NotEq (.var 3) (.idx (.var 0) (.lit (.int 0)))) (.cmp .NotIn (.var 3) (.var 2)))
        [.ret (.var 3)]
        []],
   .ret (.lit .none)]⟩
def n_law_next : List Str := ["trust", "case", "settled", "name", "pair", "wish"]
def d_law_tied : FD := ⟨["trust", "actor"], [], 3,
  [.ret (.bi "sorted" [(.bi "set" [(.lc false (.idx (.var 2) (.lit (.int 0))) [2] (.nm 2) (.gen (.idx (.var 0) (.lit (.int 1)))) (.cmp .Eq (.idx (.var 2) (.lit (.int 1))) (.var 1)))])])]⟩
def n_law_tied : List Str := ["trust", "actor", "tie"]
def d_law_case : FD := ⟨["pool", "trust"], [], 6,
  [.asg (.nm 2) (.lst false []),
   .asg (.nm 3) (.call "_law_next" [.b 1, .b 2] [] []),
   .whl (.and (.cmp .IsNot (.var 3) (.lit .none)) (.cmp .NotEq (.call "_law_tied" [.b 1, .b 3] [] []) (.lst false [])))
     [.asg (.nm 4) (.call "_law_tied" [.b 1, .b 3] [] []),
      .exp (.mut (.var 2) "append" [(.tup false [(.var 3), (.idx (.var 4) (.call "_law_draw" [.s 0, .be (.bi "len" [(.var 4)])] [] []))])]),
      .asg (.nm 3) (.call "_law_next" [.b 1, .b 2] [] [])],
   .asg (.nm 5) (.bi "dict" [(.var 2)]),
   .ite (.and (.cmp .Is (.var 3) (.lit .none)) (.call "_law_fits" [.b 1, .e (.var 5)] [] []))
     [.ret (.var 5)]
     [],
   .ret (.lit .none)]⟩
def n_law_case : List Str := ["pool", "trust", "case", "goal", "some", "found"]
def d_law_passed : FD := ⟨["case", "actor"], [], 5,
  [.asg (.nm 2) (.lit (.int 0)),
   .for (.nm 3) (.own 0)
     [.asg (.nm 4) (.call "_law_up" [.b 0, .s 3] [] []),
      .ite (.cmp .In (.var 1) (.var 4))
        [.asg (.nm 2) (.bi "max" [(.var 2), (.met (.var 4) "index" [(.var 1)])])]
        []],
   .ret (.var 2)]⟩
def n_law_passed : List Str := ["case", "actor", "found", "other", "way"]
def d_law_rows : FD := ⟨["trust", "case"], [], 10,
  [.asg (.nm 2) (.lst false []),
   .for (.nm 3) (.gen (.bi "sorted" [(.var 1)]))
     [.asg (.nm 4) (.call "_law_below" [.b 0, .b 1, .b 3] [] []),
      .asg (.nm 5) (.bi "tuple" [(.lc false (.var 8) [8] (.nm 8) (.gen (.lst false [(.lit (.str "look")), (.lit (.str "set"))])) (.cmp .NotEq (.lc false (.var 9) [9] (.nm 9) (.own 4) (.cmp .In (.var 8) (.idx (.var 9) (.lit (.int 1))))) (.lst false [])))]),
      .asg (.nm 6) (.bi "min" [(.lc false (.idx (.var 9) (.lit (.int 2))) [9] (.nm 9) (.own 4) (.lit (.bool true)))]),
      .asg (.nm 7) (.bi "max" [(.lc false (.idx (.var 9) (.lit (.int 3))) [9] (.nm 9) (.own 4) (.lit (.bool true)))]),
      .exp (.mut (.var 2) "append" [(.tup false [(.idx (.var 1) (.var 3)), (.var 3), (.var 5), (.var 6), (.var 7), (.call "_law_passed" [.e (.var 1), .b 3] [] [])])])],
   .ret (.bi "tuple" [(.var 2)])]⟩
def n_law_rows : List Str := ["trust", "case", "found", "actor", "some", "deeds", "first", "last", "deed", "wish"]
def d_law_drawn_rows : FD := ⟨["pool", "trust"], [], 4,
  [.for (.nm 2) (.rng (.lit (.int 6)))
     [.asg (.nm 3) (.call "_law_case" [.s 0, .b 1] [] []),
      .ite (.cmp .IsNot (.var 3) (.lit .none))
        [.ret (.call "_law_rows" [.b 1, .e (.var 3)] [] [])]
        []],
   .ret (.tup false [])]⟩
def n_law_drawn_rows : List Str := ["pool", "trust", "turn", "case"]
def d_law_within : FD := ⟨["row", "other"], [], 9,
  [.asg (.tp [(.nm 2), (.nm 3), (.nm 4), (.nm 5), (.nm 6), (.nm 7)]) (.var 0),
   .ite (.or (.cmp .NotEq (.idx (.var 1) (.lit (.int 1))) (.var 2)) (.cmp .NotEq (.lc false (.var 8) [8] (.nm 8) (.own 4) (.cmp .NotIn (.var 8) (.idx (.var 1) (.lit (.int 2))))) (.lst false [])))
     [.ret (.lit (.bool false))]
     [],
   .ret (.and (.cmp .LtE (.idx (.var 1) (.lit (.int 3))) (.var 5)) (.and (.cmp .LtE (.var 6) (.idx (.var 1) (.lit (.int 4)))) (.cmp .Gt (.idx (.var 1) (.lit (.int 5))) (.var 7))))]⟩
def n_law_within : List Str := ["row", "other", "giver", "holder", "deeds", "since", "until", "passes", "deed"]
def d_law_is_plan : FD := ⟨["trust", "rows"], [], 15,
  [.asg (.nm 2) (.lc false (.idx (.var 9) (.lit (.int 1))) [9] (.nm 9) (.own 1) (.lit (.bool true))),
   .ite (.or (.cmp .NotEq (.var 2) (.bi "sorted" [(.bi "set" [(.var 2)])])) (.cmp .In (.idx (.var 0) (.lit (.int 0))) (.var 2)))
     [.ret (.lit (.bool false))]
     [],
   .for (.tp [(.nm 3), (.nm 4), (.nm 5), (.nm 6), (.nm 7), (.nm 8)]) (.own 1)
     [.ite (.not (.call "_law_lies" [.b 0, .s 3, .s 4, .b 6, .b 7] [] []))
        [.ret (.lit (.bool false))]
        []],
   .for (.nm 9) (.own 1)
     [.asg (.nm 10) (.lc false (.var 13) [13] (.nm 13) (.own 1) (.call "_law_within" [.s 9, .b 13] [] [])),
      .ite (.and (.cmp .NotEq (.idx (.var 9) (.lit (.int 0))) (.idx (.var 0) (.lit (.int 0)))) (.cmp .Eq (.var 10) (.lst false [])))
        [.ret (.lit (.bool false))]
        []],
   .for (.tp [(.nm 11), (.nm 5), (.nm 6), (.nm 7)]) (.gen (.idx (.var 0) (.lit (.int 2))))
     [.asg (.nm 12) (.lc false (.var 9) [9] (.nm 9) (.own 1) (.and (.cmp .Eq (.idx (.var 9) (.lit (.int 1))) (.var 11)) (.and (.cmp .LtE (.idx (.var 9) (.lit (.int 3))) (.var 6)) (.cmp .LtE (.var 7) (.idx (.var 9) (.lit (.int 4))))))),
      .ite (.cmp .Eq (.lc false (.var 9) [9] (.nm 9) (.own 12) (.cmp .Eq (.lc false (.var 14) [14] (.nm 14) (.own 5) (.cmp .NotIn (.var 14) (.idx (.var 9) (.lit (.int 2))))) (.lst false []))) (.lst false []))
        [.ret (.lit (.bool false))]
        []],
   .ret (.lit (.bool true))]⟩
def n_law_is_plan : List Str := ["trust", "rows", "holders", "giver", "holder", "deeds", "since", "until", "passes", "row", "over", "actor", "some", "other", "deed"]
def d_next_actor : FD := ⟨["trust", "case"], [], 7,
  [.asg (.tp [(.nm 2), (.nm 3), (.nm 4)]) (.var 0),
   .for (.nm 5) (.gen (.bin .Add (.lc false (.idx (.var 6) (.lit (.int 0))) [6] (.nm 6) (.own 4) (.lit (.bool true))) (.bi "listvals" [(.var 1)])))
     [.ite (.and (.cmp .NotEq (.var 5) (.var 2)) (.cmp .NotIn (.var 5) (.var 1)))
        [.ret (.var 5)]
        []],
   .ret (.lit .none)]⟩
def n_next_actor : List Str := ["trust", "case", "owner", "ties", "wishes", "name", "wish"]
def d_givers_of : FD := ⟨["trust", "actor"], [], 6,
  [.ret (.bi "sorted" [(.sc (.var 2) [2, 3, 4, 5] (.tp [(.nm 2), (.nm 3), (.nm 4), (.nm 5)]) (.gen (.idx (.var 0) (.lit (.int 1)))) (.cmp .Eq (.var 3) (.var 1)))])]⟩
def n_givers_of : List Str := ["trust", "actor", "giver", "receiver", "since", "until"]
def d_comes_to : FD := ⟨["case", "first", "actor"], [], 5,
  [.asg (.nm 3) (.var 1),
   .for (.nm 4) (.rng (.bin .Add (.bi "len" [(.var 0)]) (.lit (.int 1))))
     [.ite (.cmp .Eq (.var 3) (.var 2))
        [.ret (.lit (.bool true))]
        [],
      .asg (.nm 3) (.met (.var 0) "get" [(.var 3)])],
   .ret (.lit (.bool false))]⟩
def n_comes_to : List Str := ["case", "first", "actor", "here", "turn"]
def d_wishes_below : FD := ⟨["trust", "case", "actor"], [], 4,
  [.ret (.lc false (.var 3) [3] (.nm 3) (.gen (.idx (.var 0) (.lit (.int 2)))) (.and (.cmp .In (.idx (.var 3) (.lit (.int 0))) (.var 1)) (.call "comes_to" [.b 1, .e (.idx (.var 3) (.lit (.int 0))), .b 2] [] [])))]⟩
def n_wishes_below : List Str := ["trust", "case", "actor", "wish"]
def d_span_of : FD := ⟨["wishes"], [], 2,
  [.ret (.tup false [(.bi "min" [(.lc false (.idx (.var 1) (.lit (.int 2))) [1] (.nm 1) (.own 0) (.lit (.bool true)))]), (.bi "max" [(.lc false (.idx (.var 1) (.lit (.int 3))) [1] (.nm 1) (.own 0) (.lit (.bool true)))])])]⟩
def n_span_of : List Str := ["wishes", "wish"]
def d_is_late : FD := ⟨["trust", "case", "actor"], [], 3,
  [.ret (.not (.call "is_spanned" [.b 0, .e (.idx (.var 1) (.var 2)), .s 2, .e (.call "span_of" [.be (.call "wishes_below" [.b 0, .b 1, .b 2] [] [])] [] [])] [] []))]⟩
def n_is_late : List Str := ["trust", "case", "actor"]
def d_bar_of : FD := ⟨["trust", "case", "actor"], [], 4,
  [.ite (.call "comes_to" [.b 1, .e (.idx (.var 1) (.var 2)), .b 2] [] [])
     [.ret (.tup false [(.lit (.str "ring")), (.var 2)])]
     [],
   .asg (.nm 3) (.var 2),
   .whl (.cmp .In (.var 3) (.var 1))
     [.ite (.call "is_late" [.b 0, .b 1, .s 3] [] [])
        [.ret (.tup false [(.lit (.str "time")), (.var 3)])]
        [],
      .asg (.nm 3) (.idx (.var 1) (.var 3))],
   .ret (.lit .none)]⟩
def n_bar_of : List Str := ["trust", "case", "actor", "here"]
def d_gone_through : FD := ⟨["trust", "most", "case"], [], 9,
  [.asg (.nm 3) (.call "next_actor" [.s 0, .b 2] [] []),
   .ite (.cmp .Is (.var 3) (.lit .none))
     [.ret (.tup false [(.lit (.bool false)), (.var 2)])]
     [],
   .ite (.and (.cmp .IsNot (.var 1) (.lit .none)) (.cmp .GtE (.bi "len" [(.var 2)]) (.var 1)))
     [.ret (.tup false [(.lit (.bool true)), (.tup false [(.lit (.str "many"))])])]
     [],
   .asg (.nm 4) (.lst false []),
   .for (.nm 5) (.gen (.call "givers_of" [.b 0, .b 3] [] []))
     [.asg (.nm 6) (.bi "dict" [(.var 2)]),
      .asS (.var 6) (.var 3) (.var 5),
      .asg (.nm 7) (.call "bar_of" [.b 0, .b 6, .s 3] [] []),
      .ite (.cmp .Is (.var 7) (.lit .none))
        [.asg (.tp [(.nm 8), (.nm 7)]) (.call "gone_through" [.s 0, .b 1, .e (.var 6)] [] []),
         .ite (.not (.var 8))
           [.ret (.tup false [(.lit (.bool false)), (.var 7)])]
           []]
        [],
      .exp (.mut (.var 4) "append" [(.tup false [(.var 5), (.var 7)])])],
   .ret (.tup false [(.lit (.bool true)), (.tup false [(.lit (.str "giver")), (.var 3), (.bi "tuple" [(.var 4)])])])]⟩
def n_gone_through : List Str := ["trust", "most", "case", "actor", "trees", "giver", "further", "tree", "is_barred"]
def d_passes_of : FD := ⟨["case", "actor"], [], 4,
  [.ret (.bik "max" (.lc false (.bin .Add (.call "passes_of" [.e (.var 0), .b 2] [] []) (.lit (.int 1))) [2, 3] (.tp [(.nm 2), (.nm 3)]) (.items (.var 0)) (.cmp .Eq (.var 3) (.var 1))) "default" (.lit (.int 0)))]⟩
def n_passes_of : List Str := ["case", "actor", "other", "giver"]
def d_plan_of : FD := ⟨["trust", "case"], [], 10,
  [.asg (.nm 2) (.lst false []),
   .for (.nm 3) (.gen (.bi "sorted" [(.var 1)]))
     [.asg (.nm 4) (.call "wishes_below" [.b 0, .b 1, .b 3] [] []),
      .asg (.tp [(.nm 5), (.nm 6)]) (.call "span_of" [.b 4] [] []),
      .asg (.nm 7) (.bi "tuple" [(.lc false (.var 8) [8] (.nm 8) (.gen (.con "BOTH")) (.bi "any" [(.lc false (.cmp .In (.var 8) (.idx (.var 9) (.lit (.int 1)))) [9] (.nm 9) (.own 4) (.lit (.bool true)))]))]),
      .exp (.mut (.var 2) "append" [(.tup false [(.idx (.var 1) (.var 3)), (.var 3), (.var 7), (.var 5), (.var 6), (.call "passes_of" [.e (.var 1), .b 3] [] [])])])],
   .ret (.bi "tuple" [(.var 2)])]⟩
def n_plan_of : List Str := ["trust", "case", "found", "actor", "wishes", "since", "until", "deeds", "deed", "wish"]
def d_least_plan : FD := ⟨["trust"], [], 5,
  [.asg (.tp [(.nm 1), (.nm 2)]) (.call "gone_through" [.s 0, .e (.lit .none), .e (.dct false [] [])] [] []),
   .ite (.var 1)
     [.ret (.tup false [(.lit (.str "none")), (.var 2)])]
     [],
   .asg (.nm 3) (.lit .none),
   .asg (.nm 4) (.lit (.int 0)),
   .asg (.tp [(.nm 1), (.nm 2)]) (.call "gone_through" [.s 0, .b 4, .e (.dct false [] [])] [] []),
   .whl (.var 1)
     [.asg (.nm 3) (.var 2),
      .aug 4 .Add (.lit (.int 1)),
      .asg (.tp [(.nm 1), (.nm 2)]) (.call "gone_through" [.s 0, .b 4, .e (.dct false [] [])] [] [])],
   .ret (.tup false [(.lit (.str "plan")), (.call "plan_of" [.b 0, .e (.var 2)] [] []), (.var 3)])]⟩
def n_least_plan : List Str := ["trust", "is_barred", "found", "fewer", "most"]
def d_is_bar : FD := ⟨["trust", "case", "tree"], [], 5,
  [.asg (.tp [(.nm 3), (.nm 4)]) (.var 2),
   .ite (.or (.not (.isi (.var 4) ["str"])) (.cmp .NotIn (.var 4) (.var 1)))
     [.ret (.lit (.bool false))]
     [],
   .ite (.cmp .Eq (.var 3) (.lit (.str "ring")))
     [.ret (.call "comes_to" [.b 1, .e (.idx (.var 1) (.var 4)), .b 4] [] [])]
     [],
   .ret (.and (.cmp .Eq (.var 3) (.lit (.str "time"))) (.call "is_late" [.b 0, .b 1, .s 4] [] []))]⟩
def n_is_bar : List Str := ["trust", "case", "tree", "word", "actor"]
def d_holds_at : FD := ⟨["trust", "most", "case", "tree"], [], 10,
  [.asg (.nm 4) (.call "next_actor" [.s 0, .b 2] [] []),
   .ite (.cmp .Eq (.var 3) (.tup false [(.lit (.str "many"))]))
     [.ret (.and (.cmp .IsNot (.var 4) (.lit .none)) (.and (.cmp .IsNot (.var 1) (.lit .none)) (.cmp .GtE (.bi "len" [(.var 2)]) (.var 1))))]
     [],
   .ite (.call "is_row_of" [.e (.lit (.int 2)), .b 3] [] [])
     [.ret (.call "is_bar" [.b 0, .b 2, .s 3] [] [])]
     [],
   .ite (.or (.not (.call "is_row_of" [.e (.lit (.int 3)), .b 3] [] [])) (.or (.cmp .NotEq (.idx (.var 3) (.lit (.int 0))) (.lit (.str "giver"))) (.or (.cmp .Is (.var 4) (.lit .none)) (.cmp .NotEq (.idx (.var 3) (.lit (.int 1))) (.var 4)))))
     [.ret (.lit (.bool false))]
     [],
   .asg (.nm 5) (.idx (.var 3) (.lit (.int 2))),
   .ite (.or (.not (.isi (.var 5) ["tuple"])) (.not (.bi "all" [(.lc false (.call "is_row_of" [.e (.lit (.int 2)), .b 9] [] []) [9] (.nm 9) (.own 5) (.lit (.bool true)))])))
     [.ret (.lit (.bool false))]
     [],
   .ite (.cmp .NotEq (.lc false (.idx (.var 9) (.lit (.int 0))) [9] (.nm 9) (.own 5) (.lit (.bool true))) (.call "givers_of" [.b 0, .b 4] [] []))
     [.ret (.lit (.bool false))]
     [],
   .for (.tp [(.nm 6), (.nm 7)]) (.own 5)
     [.asg (.nm 8) (.bi "dict" [(.var 2)]),
      .asS (.var 8) (.var 4) (.var 6),
      .ite (.not (.call "holds_at" [.s 0, .b 1, .b 8, .s 7] [] []))
        [.ret (.lit (.bool false))]
        []],
   .ret (.lit (.bool true))]⟩
def n_holds_at : List Str := ["trust", "most", "case", "tree", "actor", "rows", "giver", "further", "behind", "row"]
def d_tree_holds : FD := ⟨["trust", "most", "tree"], [], 3,
  [.ret (.call "holds_at" [.s 0, .b 1, .be (.dct false [] []), .s 2] [] [])]⟩
def n_tree_holds : List Str := ["trust", "most", "tree"]
def d_law_some_way : FD := ⟨["trust", "holders"], [], 10,
  [.asg (.nm 2) (.lst false [(.dct false [] [])]),
   .for (.nm 3) (.own 1)
     [.asg (.nm 4) (.lc false (.idx (.var 9) (.lit (.int 0))) [9] (.nm 9) (.gen (.idx (.var 0) (.lit (.int 1)))) (.and (.cmp .Eq (.idx (.var 9) (.lit (.int 1))) (.var 3)) (.or (.cmp .Eq (.idx (.var 9) (.lit (.int 0))) (.idx (.var 0) (.lit (.int 0)))) (.cmp .In (.idx (.var 9) (.lit (.int 0))) (.var 1))))),
      .asg (.nm 5) (.lst false []),
      .for (.nm 6) (.own 2)
        [.for (.nm 7) (.gen (.bi "sorted" [(.bi "set" [(.var 4)])]))
           [.asg (.nm 8) (.bi "dict" [(.var 6)]),
            .asS (.var 8) (.var 3) (.var 7),
            .exp (.mut (.var 5) "append" [(.var 8)])]],
      .asg (.nm 2) (.var 5)],
   .for (.nm 6) (.own 2)
     [.ite (.call "_law_fits" [.b 0, .e (.var 6)] [] [])
        [.ret (.lit (.bool true))]
        []],
   .ret (.lit (.bool false))]⟩
def n_law_some_way : List Str := ["trust", "holders", "ways", "holder", "givers", "longer", "way", "giver", "more", "tie"]
def d_law_least : FD := ⟨["trust"], [], 7,
  [.asg (.nm 1) (.lc false (.idx (.var 6) (.lit (.int 0))) [6] (.nm 6) (.gen (.idx (.var 0) (.lit (.int 2)))) (.lit (.bool true))),
   .asg (.nm 2) (.lst false [(.lst false [])]),
   .for (.nm 3) (.gen (.lc false (.var 3) [3] (.nm 3) (.gen (.call "_law_others" [.b 0] [] [])) (.cmp .NotIn (.var 3) (.var 1))))
     [.asg (.nm 2) (.bin .Add (.var 2) (.lc false (.bin .Add (.var 5) (.lst false [(.var 3)])) [5] (.nm 5) (.own 2) (.lit (.bool true))))],
   .for (.nm 4) (.rng (.bi "len" [(.var 2)]))
     [.for (.nm 5) (.own 2)
        [.ite (.and (.cmp .Eq (.bi "len" [(.var 5)]) (.var 4)) (.call "_law_some_way" [.b 0, .e (.bin .Add (.var 1) (.var 5))] [] []))
           [.ret (.bin .Add (.bi "len" [(.var 1)]) (.var 4))]
           []]],
   .ret (.lit .none)]⟩
def n_law_least : List Str := ["trust", "wanted", "lots", "name", "size", "lot", "wish"]
def d_law_comes : FD := ⟨["case", "first", "goal"], [], 6,
  [.asg (.nm 3) (.bi "dict" [(.var 0)]),
   .asg (.nm 4) (.var 1),
   .for (.nm 5) (.rng (.bin .Add (.bi "len" [(.var 0)]) (.lit (.int 1))))
     [.ite (.cmp .Eq (.var 4) (.var 2))
        [.ret (.lit (.bool true))]
        [],
      .asg (.nm 4) (.met (.var 3) "get" [(.var 4)])],
   .ret (.lit (.bool false))]⟩
def n_law_comes : List Str := ["case", "first", "goal", "givers", "here", "turn"]
def d_law_late : FD := ⟨["trust", "case", "actor"], [], 8,
  [.asg (.nm 3) (.lc false (.idx (.var 6) (.lit (.int 0))) [6] (.nm 6) (.own 1) (.lit (.bool true))),
   .asg (.nm 4) (.lc false (.var 7) [7] (.nm 7) (.gen (.idx (.var 0) (.lit (.int 2)))) (.and (.cmp .In (.idx (.var 7) (.lit (.int 0))) (.var 3)) (.call "_law_comes" [.b 1, .e (.idx (.var 7) (.lit (.int 0))), .b 2] [] []))),
   .asg (.nm 5) (.bi "min" [(.lc false (.idx (.var 7) (.lit (.int 2))) [7] (.nm 7) (.own 4) (.lit (.bool true)))]),
   .ret (.not (.call "_law_lies" [.b 0, .e (.idx (.bi "dict" [(.var 1)]) (.var 2)), .s 2, .b 5, .be (.bi "max" [(.lc false (.idx (.var 7) (.lit (.int 3))) [7] (.nm 7) (.own 4) (.lit (.bool true)))])] [] []))]⟩
def n_law_late : List Str := ["trust", "case", "actor", "settled", "some", "first", "pair", "wish"]
def d_law_holds : FD := ⟨["trust", "most", "case", "tree"], [], 9,
  [.asg (.nm 4) (.call "_law_next" [.b 0, .b 2] [] []),
   .ite (.or (.not (.isi (.var 3) ["tuple"])) (.cmp .Eq (.var 3) (.tup false [])))
     [.ret (.lit (.bool false))]
     [],
   .ite (.cmp .Eq (.var 3) (.tup false [(.lit (.str "many"))]))
     [.ret (.and (.cmp .IsNot (.var 4) (.lit .none)) (.and (.cmp .IsNot (.var 1) (.lit .none)) (.cmp .GtE (.bi "len" [(.var 2)]) (.var 1))))]
     [],
   .ite (.and (.cmp .In (.idx (.var 3) (.lit (.int 0))) (.lst false [(.lit (.str "ring")), (.lit (.str "time"))])) (.cmp .Eq (.bi "len" [(.var 3)]) (.lit (.int 2))))
     [.ite (.cmp .NotIn (.idx (.var 3) (.lit (.int 1))) (.lc false (.idx (.var 7) (.lit (.int 0))) [7] (.nm 7) (.own 2) (.lit (.bool true))))
        [.ret (.lit (.bool false))]
        [],
      .ite (.cmp .Eq (.idx (.var 3) (.lit (.int 0))) (.lit (.str "time")))
        [.ret (.call "_law_late" [.b 0, .b 2, .e (.idx (.var 3) (.lit (.int 1)))] [] [])]
        [],
      .ret (.call "_law_comes" [.b 2, .e (.idx (.bi "dict" [(.var 2)]) (.idx (.var 3) (.lit (.int 1)))), .be (.idx (.var 3) (.lit (.int 1)))] [] [])]
     [],
   .ite (.or (.cmp .NotEq (.idx (.var 3) (.lit (.int 0))) (.lit (.str "giver"))) (.or (.cmp .Is (.var 4) (.lit .none)) (.cmp .NotEq (.idx (.var 3) (.lit (.int 1))) (.var 4))))
     [.ret (.lit (.bool false))]
     [],
   .ite (.cmp .NotEq (.lc false (.idx (.var 8) (.lit (.int 0))) [8] (.nm 8) (.gen (.idx (.var 3) (.lit (.int 2)))) (.lit (.bool true))) (.call "_law_tied" [.b 0, .b 4] [] []))
     [.ret (.lit (.bool false))]
     [],
   .for (.tp [(.nm 5), (.nm 6)]) (.gen (.idx (.var 3) (.lit (.int 2))))
     [.ite (.not (.call "_law_holds" [.b 0, .b 1, .e (.bin .Add (.var 2) (.lst false [(.tup false [(.var 4), (.var 5)])])), .b 6] [] []))
        [.ret (.lit (.bool false))]
        []],
   .ret (.lit (.bool true))]⟩
def n_law_holds : List Str := ["trust", "most", "case", "tree", "goal", "giver", "rest", "pair", "row"]
def d_law_grown : FD := ⟨["pool", "trust", "most", "case"], [], 9,
  [.asg (.nm 4) (.call "_law_next" [.b 1, .b 3] [] []),
   .asg (.nm 5) (.bin .Mult (.lst false [(.tup false [(.lit (.str "many"))])]) (.bi "int" [(.and (.cmp .IsNot (.var 4) (.lit .none)) (.and (.cmp .IsNot (.var 2) (.lit .none)) (.cmp .GtE (.bi "len" [(.var 3)]) (.var 2))))])),
   .for (.tp [(.nm 6), (.nm 7)]) (.own 3)
     [.ite (.call "_law_comes" [.b 3, .s 7, .b 6] [] [])
        [.exp (.mut (.var 5) "append" [(.tup false [(.lit (.str "ring")), (.var 6)])])]
        [],
      .ite (.call "_law_late" [.b 1, .b 3, .s 6] [] [])
        [.exp (.mut (.var 5) "append" [(.tup false [(.lit (.str "time")), (.var 6)])])]
        []],
   .ite (.and (.cmp .NotEq (.var 5) (.lst false [])) (.or (.cmp .Is (.var 4) (.lit .none)) (.or (.cmp .Eq (.idx (.var 5) (.lit (.int 0))) (.tup false [(.lit (.str "many"))])) (.cmp .Gt (.call "_law_draw" [.s 0, .e (.lit (.int 5))] [] []) (.lit (.int 0))))))
     [.ret (.idx (.var 5) (.call "_law_draw" [.s 0, .be (.bi "len" [(.var 5)])] [] []))]
     [],
   .ite (.cmp .Is (.var 4) (.lit .none))
     [.ret (.tup false [(.lit (.str "time")), (.idx (.idx (.var 3) (.neg (.lit (.int 1)))) (.lit (.int 0)))])]
     [],
   .asg (.nm 8) (.lc false (.tup false [(.var 7), (.call "_law_grown" [.s 0, .b 1, .b 2, .e (.bin .Add (.var 3) (.lst false [(.tup false [(.var 4), (.var 7)])]))] [] [])]) [7] (.nm 7) (.gen (.call "_law_tied" [.b 1, .b 4] [] [])) (.lit (.bool true))),
   .ret (.tup false [(.lit (.str "giver")), (.var 4), (.bi "tuple" [(.var 8)])])]⟩
def n_law_grown : List Str := ["pool", "trust", "most", "case", "goal", "bars", "actor", "giver", "rows"]
def d_law_wider : FD := ⟨["pool", "trust", "rows"], [], 7,
  [.asg (.nm 3) (.lst false []),
   .for (.nm 4) (.own 2)
     [.asg (.nm 5) (.lc false (.var 6) [6] (.nm 6) (.gen (.idx (.var 1) (.lit (.int 1)))) (.and (.cmp .Eq (.slc (.var 6) (.lit .none) (.lit (.int 2))) (.slc (.var 4) (.lit .none) (.lit (.int 2)))) (.and (.cmp .LtE (.idx (.var 6) (.lit (.int 2))) (.idx (.var 4) (.lit (.int 3)))) (.cmp .LtE (.idx (.var 4) (.lit (.int 4))) (.idx (.var 6) (.lit (.int 3))))))),
      .ite (.and (.cmp .Eq (.idx (.var 4) (.lit (.int 0))) (.idx (.var 1) (.lit (.int 0)))) (.cmp .NotEq (.var 5) (.lst false [])))
        [.asg (.nm 6) (.idx (.var 5) (.call "_law_draw" [.s 0, .be (.bi "len" [(.var 5)])] [] [])),
         .asg (.nm 4) (.bin .Add (.bin .Add (.bin .Add (.slc (.var 4) (.lit .none) (.lit (.int 2))) (.tup false [(.tup false [(.lit (.str "look")), (.lit (.str "set"))])])) (.slc (.var 6) (.lit (.int 2)) (.lit .none))) (.tup false [(.lit (.int 6))]))]
        [],
      .exp (.mut (.var 3) "append" [(.var 4)])],
   .ret (.bi "tuple" [(.var 3)])]⟩
def n_law_wider : List Str := ["pool", "trust", "rows", "found", "row", "some", "tie"]
def d_wall : FD := ⟨["k"], [], 1,
  [.whl (.lit (.bool true))
     [.pas]]⟩
def n_wall : List Str := ["k"]
def d_is_worth : FD := ⟨["thing"], [], 1,
  [.ret (.call "is_between" [.b 0, .be (.neg (.con "GREATEST")), .be (.con "GREATEST")] [] [])]⟩
def n_is_worth : List Str := ["thing"]
def d_is_room : FD := ⟨["thing"], [], 1,
  [.ret (.and (.isi (.var 0) ["tuple"]) (.and (.cmp .Eq (.bi "len" [(.var 0)]) (.lit (.int 2))) (.and (.call "is_name" [.be (.idx (.var 0) (.lit (.int 0)))] [] []) (.call "is_worth" [.be (.idx (.var 0) (.lit (.int 1)))] [] []))))]⟩
def n_is_room : List Str := ["thing"]
def d_is_rooms : FD := ⟨["thing"], [], 3,
  [.ite (.or (.not (.isi (.var 0) ["dict"])) (.not (.chn .LtE .LtE (.lit (.int 1)) (.bi "len" [(.var 0)]) (.con "MOST_ROOMS"))))
     [.ret (.lit (.bool false))]
     [],
   .ret (.bi "all" [(.lc false (.and (.call "is_name" [.b 1] [] []) (.call "is_room" [.b 2] [] [])) [1, 2] (.tp [(.nm 1), (.nm 2)]) (.items (.var 0)) (.lit (.bool true)))])]⟩
def n_is_rooms : List Str := ["thing", "name", "room"]
def d_plan_leaves : FD := ⟨["trust", "plan", "room"], [], 8,
  [.asg (.nm 3) (.dct false [(.idx (.var 0) (.lit (.int 0)))] [(.lit .none)]),
   .asg (.nm 4) (.lst false []),
   .asg (.nm 5) (.bi "list" [(.var 1)]),
   .whl (.cmp .NotEq (.var 5) (.lst false []))
     [.asg (.nm 6) (.idx (.lc false (.var 7) [7] (.nm 7) (.own 5) (.cmp .In (.idx (.var 7) (.lit (.int 0))) (.var 3))) (.lit (.int 0))),
      .exp (.mut (.var 5) "remove" [(.var 6)]),
      .asS (.var 3) (.idx (.var 6) (.lit (.int 1))) (.bi "len" [(.var 4)]),
      .exp (.mut (.var 4) "append" [(.call "as_leave" [.s 6] ["number", "room", "under"] [(.bi "len" [(.var 4)]), (.var 2), (.idx (.var 3) (.idx (.var 6) (.lit (.int 0))))])])],
   .ret (.var 4)]⟩
def n_plan_leaves : List Str := ["trust", "plan", "room", "numbers", "found", "left", "row", "one"]
def d_Ledger_init : FD := ⟨["self", "rooms"], [], 5,
  [.ite (.not (.call "is_rooms" [.e (.var 1)] [] []))
     [.rai "NoHall" [(.lit (.str "no rooms"))]]
     [],
   .asA (.var 0) "owners_held" (.dc false (.var 2) (.var 3) [2, 3, 4] (.tp [(.nm 2), (.tp [(.nm 3), (.nm 4)])]) (.items (.var 1)) (.lit (.bool true))),
   .asA (.var 0) "now_held" (.lit (.int 0)),
   .asA (.var 0) "given_held" (.lst false []),
   .asA (.var 0) "gone_held" (.dct false [] [])]⟩
def n_Ledger_init : List Str := ["self", "rooms", "name", "owner", "worth"]
def d_Ledger_move_on : FD := ⟨["self", "moment"], [], 2,
  [.exp (.call "_wall" [.e (.lit (.int 0))] [] [])]⟩
def n_Ledger_move_on : List Str := ["self", "moment"]
def d_Ledger_moment : FD := ⟨["self"], [], 1,
  [.ret (.att (.var 0) "now_held")]⟩
def n_Ledger_moment : List Str := ["self"]
def d_Ledger_leaves : FD := ⟨["self"], [], 1,
  [.ret (.bi "list" [(.att (.var 0) "given_held")])]⟩
def n_Ledger_leaves : List Str := ["self"]
def d_Ledger_taken : FD := ⟨["self"], [], 1,
  [.ret (.bi "dict" [(.att (.var 0) "gone_held")])]⟩
def n_Ledger_taken : List Str := ["self"]
def d_Ledger_need_room : FD := ⟨["self", "room"], [], 2,
  [.ite (.or (.not (.isi (.var 1) ["str"])) (.cmp .NotIn (.var 1) (.att (.var 0) "owners_held")))
     [.rai "NoRoom" [(.lit (.str "no such room"))]]
     []]⟩
def n_Ledger_need_room : List Str := ["self", "room"]
def d_Ledger_need_leave : FD := ⟨["self", "number"], [], 2,
  [.ite (.not (.call "is_between" [.b 1, .e (.lit (.int 0)), .e (.bin .Sub (.bi "len" [(.att (.var 0) "given_held")]) (.lit (.int 1)))] [] []))
     [.rai "NoLeave" [(.lit (.str "no such leave"))]]
     []]⟩
def n_Ledger_need_leave : List Str := ["self", "number"]
def d_Ledger_line_of : FD := ⟨["self", "leave"], [], 3,
  [.asg (.nm 2) (.lst false [(.var 1)]),
   .whl (.cmp .IsNot (.idx (.idx (.var 2) (.neg (.lit (.int 1)))) (.lit (.int 8))) (.lit .none))
     [.exp (.mut (.var 2) "append" [(.idx (.att (.var 0) "given_held") (.idx (.idx (.var 2) (.neg (.lit (.int 1)))) (.lit (.int 8))))])],
   .ret (.rev (.var 2))]⟩
def n_Ledger_line_of : List Str := ["self", "leave", "found"]
def d_Ledger_cause_against : FD := ⟨["self", "leave"], [], 2,
  [.ite (.cmp .In (.idx (.var 1) (.lit (.int 0))) (.att (.var 0) "gone_held"))
     [.ret (.lit (.str "taken"))]
     [],
   .ite (.cmp .Lt (.att (.var 0) "now_held") (.idx (.var 1) (.lit (.int 5))))
     [.ret (.lit (.str "early"))]
     [],
   .ret (.ite (.cmp .Lt (.att (.var 0) "now_held") (.idx (.var 1) (.lit (.int 6)))) (.lit .none) (.lit (.str "over")))]⟩
def n_Ledger_cause_against : List Str := ["self", "leave"]
def d_Ledger_first_fallen : FD := ⟨["self", "leave"], [], 4,
  [.for (.nm 2) (.gen (.obm (.var 0) "line_of" [.s 1] [] []))
     [.asg (.nm 3) (.obm (.var 0) "cause_against" [.b 2] [] []),
      .ite (.cmp .IsNot (.var 3) (.lit .none))
        [.ret (.tup false [(.idx (.var 2) (.lit (.int 0))), (.var 3)])]
        []],
   .ret (.lit .none)]⟩
def n_Ledger_first_fallen : List Str := ["self", "leave", "link", "cause"]
def d_Ledger_is_lost : FD := ⟨["self", "leave"], [], 3,
  [.ret (.bi "any" [(.lc false (.cmp .In (.obm (.var 0) "cause_against" [.b 2] [] []) (.tup false [(.lit (.str "taken")), (.lit (.str "over"))])) [2] (.nm 2) (.gen (.obm (.var 0) "line_of" [.s 1] [] [])) (.lit (.bool true)))])]⟩
def n_Ledger_is_lost : List Str := ["self", "leave", "link"]
def d_Ledger_stands : FD := ⟨["self", "number"], [], 2,
  [.exp (.obm (.var 0) "need_leave" [.b 1] [] []),
   .ret (.cmp .Is (.obm (.var 0) "first_fallen" [.e (.idx (.att (.var 0) "given_held") (.var 1))] [] []) (.lit .none))]⟩
def n_Ledger_stands : List Str := ["self", "number"]
def d_Ledger_of_holder : FD := ⟨["self", "actor", "deed", "room"], [], 5,
  [.ret (.lc false (.var 4) [4] (.nm 4) (.fld (.var 0) "given_held") (.and (.cmp .Eq (.idx (.var 4) (.lit (.int 4))) (.var 1)) (.and (.cmp .Eq (.idx (.var 4) (.lit (.int 1))) (.var 3)) (.cmp .In (.var 2) (.idx (.var 4) (.lit (.int 2)))))))]⟩
def n_Ledger_of_holder : List Str := ["self", "actor", "deed", "room", "leave"]
def d_Ledger_chain : FD := ⟨["self", "actor", "deed", "room"], [], 6,
  [.exp (.obm (.var 0) "need_room" [.b 3] [] []),
   .ite (.cmp .Eq (.idx (.att (.var 0) "owners_held") (.var 3)) (.var 1))
     [.ret (.tup false [])]
     [],
   .for (.nm 4) (.gen (.obm (.var 0) "of_holder" [.b 1, .b 2, .b 3] [] []))
     [.ite (.cmp .Is (.obm (.var 0) "first_fallen" [.s 4] [] []) (.lit .none))
        [.ret (.bi "tuple" [(.lc false (.idx (.var 5) (.lit (.int 0))) [5] (.nm 5) (.gen (.obm (.var 0) "line_of" [.s 4] [] [])) (.lit (.bool true)))])]
        []],
   .ret (.lit .none)]⟩
def n_Ledger_chain : List Str := ["self", "actor", "deed", "room", "leave", "link"]
def d_Ledger_why_not : FD := ⟨["self", "actor", "deed", "room"], [], 4,
  [.exp (.call "_wall" [.e (.lit (.int 1))] [] [])]⟩
def n_Ledger_why_not : List Str := ["self", "actor", "deed", "room"]
def d_Ledger_give : FD := ⟨["self", "giver", "deeds", "room", "holder", "since", "until"], [("passes", some (.int 0))], 11,
  [.exp (.obm (.var 0) "need_room" [.b 3] [] []),
   .asg (.nm 8) (.tup false [(.bi "len" [(.att (.var 0) "given_held")]), (.var 3), (.var 2), (.var 1), (.var 4), (.var 5), (.var 6), (.var 7), (.lit .none)]),
   .ite (.or (.not (.call "is_leave" [.s 8] [] [])) (.cmp .LtE (.var 6) (.att (.var 0) "now_held")))
     [.rai "NoGift" [(.lit (.str "no leave to give"))]]
     [],
   .ite (.cmp .NotEq (.var 1) (.idx (.att (.var 0) "owners_held") (.var 3)))
     [.asg (.nm 9) (.lc false (.var 10) [10] (.nm 10) (.fld (.var 0) "given_held") (.and (.call "lies_within" [.s 8, .s 10] [] []) (.not (.obm (.var 0) "is_lost" [.s 10] [] [])))),
      .ite (.cmp .Eq (.var 9) (.lst false []))
        [.rai "NotLet" [(.lit (.str "nothing to pass on"))]]
        [],
      .asg (.nm 8) (.bin .Add (.slc (.var 8) (.lit .none) (.lit (.int 8))) (.tup false [(.idx (.idx (.var 9) (.lit (.int 0))) (.lit (.int 0)))]))]
     [],
   .exp (.mut (.att (.var 0) "given_held") "append" [(.var 8)]),
   .ret (.idx (.var 8) (.lit (.int 0)))]⟩
def n_Ledger_give : List Str := ["self", "giver", "deeds", "room", "holder", "since", "until", "passes", "leave", "above", "other"]
def d_Ledger_take : FD := ⟨["self", "actor", "number"], [], 3,
  [.exp (.call "_wall" [.e (.lit (.int 2))] [] [])]⟩
def n_Ledger_take : List Str := ["self", "actor", "number"]
end Lb
end PartLb
section PartEvM
set_option autoImplicit false
set_option linter.all false
set_option maxRecDepth 100000
set_option exponentiation.threshold 500
/-! EvM: running the interpreter in a proof. -/
namespace EV
open PySem
@[simp] theorem sm_ev_1 : type_of% @ev.eq_1 := @ev.eq_1
@[simp] theorem sm_ev_2 : type_of% @ev.eq_2 := @ev.eq_2
@[simp] theorem sm_ev_3 : type_of% @ev.eq_3 := @ev.eq_3
@[simp] theorem sm_ev_4 : type_of% @ev.eq_4 := @ev.eq_4
@[simp] theorem sm_ev_5 : type_of% @ev.eq_5 := @ev.eq_5
@[simp] theorem sm_ev_6 : type_of% @ev.eq_6 := @ev.eq_6
@[simp] theorem sm_ev_7 : type_of% @ev.eq_7 := @ev.eq_7
@[simp] theorem sm_ev_8 : type_of% @ev.eq_8 := @ev.eq_8
@[simp] theorem sm_ev_9 : type_of% @ev.eq_9 := @ev.eq_9
@[simp] theorem sm_ev_10 : type_of% @ev.eq_10 := @ev.eq_10
@[simp] theorem sm_ev_11 : type_of% @ev.eq_11 := @ev.eq_11
@[simp] theorem sm_ev_12 : type_of% @ev.eq_12 := @ev.eq_12
@[simp] theorem sm_ev_13 : type_of% @ev.eq_13 := @ev.eq_13
@[simp] theorem sm_ev_14 : type_of% @ev.eq_14 := @ev.eq_14
@[simp] theorem sm_ev_15 : type_of% @ev.eq_15 := @ev.eq_15
@[simp] theorem sm_ev_16 : type_of% @ev.eq_16 := @ev.eq_16
@[simp] theorem sm_ev_17 : type_of% @ev.eq_17 := @ev.eq_17
@[simp] theorem sm_ev_18 : type_of% @ev.eq_18 := @ev.eq_18
@[simp] theorem sm_ev_19 : type_of% @ev.eq_19 := @ev.eq_19
@[simp] theorem sm_ev_20 : type_of% @ev.eq_20 := @ev.eq_20
@[simp] theorem sm_ev_21 : type_of% @ev.eq_21 := @ev.eq_21
@[simp] theorem sm_ev_22 : type_of% @ev.eq_22 := @ev.eq_22
@[simp] theorem sm_ev_23 : type_of% @ev.eq_23 := @ev.eq_23
@[simp] theorem sm_ev_24 : type_of% @ev.eq_24 := @ev.eq_24
@[simp] theorem sm_ev_25 : type_of% @ev.eq_25 := @ev.eq_25
@[simp] theorem sm_ev_26 : type_of% @ev.eq_26 := @ev.eq_26
@[simp] theorem sm_ev_27 : type_of% @ev.eq_27 := @ev.eq_27
@[simp] theorem sm_ev_28 : type_of% @ev.eq_28 := @ev.eq_28
@[simp] theorem sm_ev_29 : type_of% @ev.eq_29 := @ev.eq_29
@[simp] theorem sm_ev_30 : type_of% @ev.eq_30 := @ev.eq_30
@[simp] theorem sm_evD_1 : type_of% @evD.eq_1 := @evD.eq_1
@[simp] theorem sm_evD_2 : type_of% @evD.eq_2 := @evD.eq_2
@[simp] theorem sm_evL_1 : type_of% @evL.eq_1 := @evL.eq_1
@[simp] theorem sm_evL_2 : type_of% @evL.eq_2 := @evL.eq_2
@[simp] theorem sm_evV_1 : type_of% @evV.eq_1 := @evV.eq_1
@[simp] theorem sm_evV_2 : type_of% @evV.eq_2 := @evV.eq_2
@[simp] theorem sm_evA_1 : type_of% @evA.eq_1 := @evA.eq_1
@[simp] theorem sm_evA_2 : type_of% @evA.eq_2 := @evA.eq_2
@[simp] theorem sm_evG_1 : type_of% @evG.eq_1 := @evG.eq_1
@[simp] theorem sm_evG_2 : type_of% @evG.eq_2 := @evG.eq_2
@[simp] theorem sm_evG_3 : type_of% @evG.eq_3 := @evG.eq_3
@[simp] theorem sm_evG_4 : type_of% @evG.eq_4 := @evG.eq_4
@[simp] theorem sm_evG_5 : type_of% @evG.eq_5 := @evG.eq_5
@[simp] theorem sm_evP_1 : type_of% @evP.eq_1 := @evP.eq_1
@[simp] theorem sm_evP_2 : type_of% @evP.eq_2 := @evP.eq_2
@[simp] theorem sm_evP_3 : type_of% @evP.eq_3 := @evP.eq_3
@[simp] theorem sm_evP_4 : type_of% @evP.eq_4 := @evP.eq_4
@[simp] theorem sm_evI_1 : type_of% @evI.eq_1 := @evI.eq_1
@[simp] theorem sm_evI_2 : type_of% @evI.eq_2 := @evI.eq_2
@[simp] theorem sm_evI_3 : type_of% @evI.eq_3 := @evI.eq_3
@[simp] theorem sm_evI_4 : type_of% @evI.eq_4 := @evI.eq_4
@[simp] theorem sm_evI_5 : type_of% @evI.eq_5 := @evI.eq_5
@[simp] theorem sm_evI_6 : type_of% @evI.eq_6 := @evI.eq_6
@[simp] theorem sm_evI_7 : type_of% @evI.eq_7 := @evI.eq_7
@[simp] theorem sm_evI_8 : type_of% @evI.eq_8 := @evI.eq_8
@[simp] theorem sm_evI_9 : type_of% @evI.eq_9 := @evI.eq_9
@[simp] theorem sm_evI_10 : type_of% @evI.eq_10 := @evI.eq_10
@[simp] theorem sm_exC_1 : type_of% @exC.eq_1 := @exC.eq_1
@[simp] theorem sm_exC_2 : type_of% @exC.eq_2 := @exC.eq_2
@[simp] theorem sm_exC_3 : type_of% @exC.eq_3 := @exC.eq_3
@[simp] theorem sm_exC_4 : type_of% @exC.eq_4 := @exC.eq_4
@[simp] theorem sm_exC_5 : type_of% @exC.eq_5 := @exC.eq_5
@[simp] theorem sm_exC_6 : type_of% @exC.eq_6 := @exC.eq_6
@[simp] theorem sm_exC_7 : type_of% @exC.eq_7 := @exC.eq_7
@[simp] theorem sm_exC_8 : type_of% @exC.eq_8 := @exC.eq_8
@[simp] theorem sm_exC_9 : type_of% @exC.eq_9 := @exC.eq_9
@[simp] theorem sm_exC_10 : type_of% @exC.eq_10 := @exC.eq_10
@[simp] theorem sm_exC_11 : type_of% @exC.eq_11 := @exC.eq_11
@[simp] theorem sm_exC_12 : type_of% @exC.eq_12 := @exC.eq_12
@[simp] theorem sm_exC_13 : type_of% @exC.eq_13 := @exC.eq_13
@[simp] theorem sm_exC_14 : type_of% @exC.eq_14 := @exC.eq_14
@[simp] theorem sm_exC_15 : type_of% @exC.eq_15 := @exC.eq_15
@[simp] theorem sm_exC_16 : type_of% @exC.eq_16 := @exC.eq_16
@[simp] theorem sm_exCs_1 : type_of% @exCs.eq_1 := @exCs.eq_1
@[simp] theorem sm_exCs_2 : type_of% @exCs.eq_2 := @exCs.eq_2
@[simp] theorem sm_slot_1 : type_of% @slot.eq_1 := @slot.eq_1
@[simp] theorem sm_slot_2 : type_of% @slot.eq_2 := @slot.eq_2
@[simp] theorem sm_slot_3 : type_of% @slot.eq_3 := @slot.eq_3
@[simp] theorem sm_slot_4 : type_of% @slot.eq_4 := @slot.eq_4
@[simp] theorem sm_slotE_1 : type_of% @slotE.eq_1 := @slotE.eq_1
@[simp] theorem sm_slotV_1 : type_of% @slotV.eq_1 := @slotV.eq_1
@[simp] theorem sm_slotM_1 : type_of% @slotM.eq_1 := @slotM.eq_1
@[simp] theorem sm_part_1 : type_of% @part.eq_1 := @part.eq_1
@[simp] theorem sm_part_2 : type_of% @part.eq_2 := @part.eq_2
@[simp] theorem sm_part_3 : type_of% @part.eq_3 := @part.eq_3
@[simp] theorem sm_part_4 : type_of% @part.eq_4 := @part.eq_4
@[simp] theorem sm_pob_1 : type_of% @pob.eq_1 := @pob.eq_1
@[simp] theorem sm_pob_2 : type_of% @pob.eq_2 := @pob.eq_2
@[simp] theorem sm_pob_3 : type_of% @pob.eq_3 := @pob.eq_3
@[simp] theorem sm_tmpE_1 : type_of% @tmpE.eq_1 := @tmpE.eq_1
@[simp] theorem sm_tmpE_2 : type_of% @tmpE.eq_2 := @tmpE.eq_2
@[simp] theorem sm_tmpE_3 : type_of% @tmpE.eq_3 := @tmpE.eq_3
@[simp] theorem sm_tmpE_4 : type_of% @tmpE.eq_4 := @tmpE.eq_4
@[simp] theorem sm_late_1 : type_of% @late.eq_1 := @late.eq_1
@[simp] theorem sm_late_2 : type_of% @late.eq_2 := @late.eq_2
@[simp] theorem sm_late_3 : type_of% @late.eq_3 := @late.eq_3
@[simp] theorem sm_late_4 : type_of% @late.eq_4 := @late.eq_4
@[simp] theorem sm_late_5 : type_of% @late.eq_5 := @late.eq_5
@[simp] theorem sm_late_6 : type_of% @late.eq_6 := @late.eq_6
@[simp] theorem sm_late_7 : type_of% @late.eq_7 := @late.eq_7
@[simp] theorem sm_late_8 : type_of% @late.eq_8 := @late.eq_8
@[simp] theorem sm_toB_1 : type_of% @toB.eq_1 := @toB.eq_1
@[simp] theorem sm_toI_1 : type_of% @toI.eq_1 := @toI.eq_1
@[simp] theorem sm_toO_1 : type_of% @toO.eq_1 := @toO.eq_1
@[simp] theorem sm_toO_2 : type_of% @toO.eq_2 := @toO.eq_2
@[simp] theorem sm_toD_1 : type_of% @toD.eq_1 := @toD.eq_1
@[simp] theorem sm_toP_1 : type_of% @toP.eq_1 := @toP.eq_1
@[simp] theorem sm_two_1 : type_of% @two.eq_1 := @two.eq_1
@[simp] theorem sm_twx_1 : type_of% @twx.eq_1 := @twx.eq_1
@[simp] theorem sm_T_frz_1 : type_of% @T.frz.eq_1 := @T.frz.eq_1
@[simp] theorem sm_T_frz_2 : type_of% @T.frz.eq_2 := @T.frz.eq_2
@[simp] theorem sm_T_frz_3 : type_of% @T.frz.eq_3 := @T.frz.eq_3
@[simp] theorem sm_quiet_1 : type_of% @quiet.eq_1 := @quiet.eq_1
@[simp] theorem sm_quiet_2 : type_of% @quiet.eq_2 := @quiet.eq_2
@[simp] theorem sm_quiet_3 : type_of% @quiet.eq_3 := @quiet.eq_3
@[simp] theorem sm_quiet_4 : type_of% @quiet.eq_4 := @quiet.eq_4
@[simp] theorem sm_quiet_5 : type_of% @quiet.eq_5 := @quiet.eq_5
@[simp] theorem sm_quiet_6 : type_of% @quiet.eq_6 := @quiet.eq_6
@[simp] theorem sm_quiet_7 : type_of% @quiet.eq_7 := @quiet.eq_7
@[simp] theorem sm_quiet_8 : type_of% @quiet.eq_8 := @quiet.eq_8
@[simp] theorem sm_T_dat_1 : type_of% @T.dat.eq_1 := @T.dat.eq_1
@[simp] theorem sm_T_dat_2 : type_of% @T.dat.eq_2 := @T.dat.eq_2
@[simp] theorem sm_T_dat_3 : type_of% @T.dat.eq_3 := @T.dat.eq_3
@[simp] theorem sm_T_dat_4 : type_of% @T.dat.eq_4 := @T.dat.eq_4
@[simp] theorem sm_T_vw_1 : type_of% @T.vw.eq_1 := @T.vw.eq_1
@[simp] theorem sm_T_vw_2 : type_of% @T.vw.eq_2 := @T.vw.eq_2
@[simp] theorem sm_T_vw_3 : type_of% @T.vw.eq_3 := @T.vw.eq_3
@[simp] theorem sm_T_vw_4 : type_of% @T.vw.eq_4 := @T.vw.eq_4
@[simp] theorem sm_T_vw_5 : type_of% @T.vw.eq_5 := @T.vw.eq_5
@[simp] theorem sm_T_vw_6 : type_of% @T.vw.eq_6 := @T.vw.eq_6
@[simp] theorem sm_T_vw_7 : type_of% @T.vw.eq_7 := @T.vw.eq_7
@[simp] theorem sm_T_vw_8 : type_of% @T.vw.eq_8 := @T.vw.eq_8
@[simp] theorem sm_T_vw_9 : type_of% @T.vw.eq_9 := @T.vw.eq_9
@[simp] theorem sm_T_vx_1 : type_of% @T.vx.eq_1 := @T.vx.eq_1
@[simp] theorem sm_T_vx_2 : type_of% @T.vx.eq_2 := @T.vx.eq_2
@[simp] theorem sm_T_bor_1 : type_of% @T.bor.eq_1 := @T.bor.eq_1
@[simp] theorem sm_T_bor_2 : type_of% @T.bor.eq_2 := @T.bor.eq_2
@[simp] theorem sm_T_bor_3 : type_of% @T.bor.eq_3 := @T.bor.eq_3
@[simp] theorem sm_T_bor_4 : type_of% @T.bor.eq_4 := @T.bor.eq_4
@[simp] theorem sm_T_bor_5 : type_of% @T.bor.eq_5 := @T.bor.eq_5
@[simp] theorem sm_T_bor_6 : type_of% @T.bor.eq_6 := @T.bor.eq_6
@[simp] theorem sm_T_bor_7 : type_of% @T.bor.eq_7 := @T.bor.eq_7
@[simp] theorem sm_okKey_1 : type_of% @okKey.eq_1 := @okKey.eq_1
@[simp] theorem sm_okKey_2 : type_of% @okKey.eq_2 := @okKey.eq_2
@[simp] theorem sm_okKey_3 : type_of% @okKey.eq_3 := @okKey.eq_3
@[simp] theorem sm_keyEq_1 : type_of% @keyEq.eq_1 := @keyEq.eq_1
@[simp] theorem sm_keyEq_2 : type_of% @keyEq.eq_2 := @keyEq.eq_2
@[simp] theorem sm_keyEq_3 : type_of% @keyEq.eq_3 := @keyEq.eq_3
@[simp] theorem sm_getI_1 : type_of% @getI.eq_1 := @getI.eq_1
@[simp] theorem sm_getI_2 : type_of% @getI.eq_2 := @getI.eq_2
@[simp] theorem sm_getI_3 : type_of% @getI.eq_3 := @getI.eq_3
@[simp] theorem sm_getI_4 : type_of% @getI.eq_4 := @getI.eq_4
@[simp] theorem sm_getI_5 : type_of% @getI.eq_5 := @getI.eq_5
@[simp] theorem sm_getI_6 : type_of% @getI.eq_6 := @getI.eq_6
@[simp] theorem sm_getI_7 : type_of% @getI.eq_7 := @getI.eq_7
@[simp] theorem sm_getI_8 : type_of% @getI.eq_8 := @getI.eq_8
@[simp] theorem sm_getI_9 : type_of% @getI.eq_9 := @getI.eq_9
@[simp] theorem sm_getI_10 : type_of% @getI.eq_10 := @getI.eq_10
@[simp] theorem sm_getI_11 : type_of% @getI.eq_11 := @getI.eq_11
@[simp] theorem sm_getI_12 : type_of% @getI.eq_12 := @getI.eq_12
@[simp] theorem sm_getI_13 : type_of% @getI.eq_13 := @getI.eq_13
@[simp] theorem sm_getI_14 : type_of% @getI.eq_14 := @getI.eq_14
@[simp] theorem sm_getI_15 : type_of% @getI.eq_15 := @getI.eq_15
@[simp] theorem sm_setI_1 : type_of% @setI.eq_1 := @setI.eq_1
@[simp] theorem sm_setI_2 : type_of% @setI.eq_2 := @setI.eq_2
@[simp] theorem sm_setI_3 : type_of% @setI.eq_3 := @setI.eq_3
@[simp] theorem sm_binD_1 : type_of% @binD.eq_1 := @binD.eq_1
@[simp] theorem sm_binD_2 : type_of% @binD.eq_2 := @binD.eq_2
@[simp] theorem sm_binD_3 : type_of% @binD.eq_3 := @binD.eq_3
@[simp] theorem sm_binD_4 : type_of% @binD.eq_4 := @binD.eq_4
@[simp] theorem sm_binD_5 : type_of% @binD.eq_5 := @binD.eq_5
@[simp] theorem sm_binD_6 : type_of% @binD.eq_6 := @binD.eq_6
@[simp] theorem sm_binD_7 : type_of% @binD.eq_7 := @binD.eq_7
@[simp] theorem sm_binD_8 : type_of% @binD.eq_8 := @binD.eq_8
@[simp] theorem sm_binD_9 : type_of% @binD.eq_9 := @binD.eq_9
@[simp] theorem sm_binD_10 : type_of% @binD.eq_10 := @binD.eq_10
@[simp] theorem sm_binD_11 : type_of% @binD.eq_11 := @binD.eq_11
@[simp] theorem sm_binD_12 : type_of% @binD.eq_12 := @binD.eq_12
@[simp] theorem sm_binD_13 : type_of% @binD.eq_13 := @binD.eq_13
@[simp] theorem sm_ltD_1 : type_of% @ltD.eq_1 := @ltD.eq_1
@[simp] theorem sm_ltD_2 : type_of% @ltD.eq_2 := @ltD.eq_2
@[simp] theorem sm_ltD_3 : type_of% @ltD.eq_3 := @ltD.eq_3
@[simp] theorem sm_leD_1 : type_of% @leD.eq_1 := @leD.eq_1
@[simp] theorem sm_leD_2 : type_of% @leD.eq_2 := @leD.eq_2
@[simp] theorem sm_leD_3 : type_of% @leD.eq_3 := @leD.eq_3
@[simp] theorem sm_isD_1 : type_of% @isD.eq_1 := @isD.eq_1
@[simp] theorem sm_isD_2 : type_of% @isD.eq_2 := @isD.eq_2
@[simp] theorem sm_isD_3 : type_of% @isD.eq_3 := @isD.eq_3
@[simp] theorem sm_isD_4 : type_of% @isD.eq_4 := @isD.eq_4
@[simp] theorem sm_isD_5 : type_of% @isD.eq_5 := @isD.eq_5
@[simp] theorem sm_cmpD_1 : type_of% @cmpD.eq_1 := @cmpD.eq_1
@[simp] theorem sm_cmpD_2 : type_of% @cmpD.eq_2 := @cmpD.eq_2
@[simp] theorem sm_cmpD_3 : type_of% @cmpD.eq_3 := @cmpD.eq_3
@[simp] theorem sm_cmpD_4 : type_of% @cmpD.eq_4 := @cmpD.eq_4
@[simp] theorem sm_cmpD_5 : type_of% @cmpD.eq_5 := @cmpD.eq_5
@[simp] theorem sm_cmpD_6 : type_of% @cmpD.eq_6 := @cmpD.eq_6
@[simp] theorem sm_cmpD_7 : type_of% @cmpD.eq_7 := @cmpD.eq_7
@[simp] theorem sm_cmpD_8 : type_of% @cmpD.eq_8 := @cmpD.eq_8
@[simp] theorem sm_cmpD_9 : type_of% @cmpD.eq_9 := @cmpD.eq_9
@[simp] theorem sm_cmpD_10 : type_of% @cmpD.eq_10 := @cmpD.eq_10
@[simp] theorem sm_items_1 : type_of% @items.eq_1 := @items.eq_1
@[simp] theorem sm_items_2 : type_of% @items.eq_2 := @items.eq_2
@[simp] theorem sm_itemsS_1 : type_of% @itemsS.eq_1 := @itemsS.eq_1
@[simp] theorem sm_itemsS_2 : type_of% @itemsS.eq_2 := @itemsS.eq_2
@[simp] theorem sm_walkT_1 : type_of% @walkT.eq_1 := @walkT.eq_1
@[simp] theorem sm_isiT_1 : type_of% @isiT.eq_1 := @isiT.eq_1
@[simp] theorem sm_xoOf_1 : type_of% @xoOf.eq_1 := @xoOf.eq_1
@[simp] theorem sm_xoOf_2 : type_of% @xoOf.eq_2 := @xoOf.eq_2
@[simp] theorem sm_lenT_1 : type_of% @lenT.eq_1 := @lenT.eq_1
@[simp] theorem sm_lenT_2 : type_of% @lenT.eq_2 := @lenT.eq_2
@[simp] theorem sm_lenT_3 : type_of% @lenT.eq_3 := @lenT.eq_3
@[simp] theorem sm_lenT_4 : type_of% @lenT.eq_4 := @lenT.eq_4
@[simp] theorem sm_listT_1 : type_of% @listT.eq_1 := @listT.eq_1
@[simp] theorem sm_isDictT_1 : type_of% @isDictT.eq_1 := @isDictT.eq_1
@[simp] theorem sm_isListT_1 : type_of% @isListT.eq_1 := @isListT.eq_1
@[simp] theorem sm_isStrT_1 : type_of% @isStrT.eq_1 := @isStrT.eq_1
@[simp] theorem sm_metOk_1 : type_of% @metOk.eq_1 := @metOk.eq_1
@[simp] theorem sm_mutOk_1 : type_of% @mutOk.eq_1 := @mutOk.eq_1
@[simp] theorem sm_mutOk_2 : type_of% @mutOk.eq_2 := @mutOk.eq_2
@[simp] theorem sm_mutOk_3 : type_of% @mutOk.eq_3 := @mutOk.eq_3
@[simp] theorem sm_muApp_1 : type_of% @muApp.eq_1 := @muApp.eq_1
@[simp] theorem sm_muApp_2 : type_of% @muApp.eq_2 := @muApp.eq_2
@[simp] theorem sm_muPop_1 : type_of% @muPop.eq_1 := @muPop.eq_1
@[simp] theorem sm_muPop_2 : type_of% @muPop.eq_2 := @muPop.eq_2
@[simp] theorem sm_muPop_3 : type_of% @muPop.eq_3 := @muPop.eq_3
@[simp] theorem sm_muExt_1 : type_of% @muExt.eq_1 := @muExt.eq_1
@[simp] theorem sm_muExt_2 : type_of% @muExt.eq_2 := @muExt.eq_2
@[simp] theorem sm_muIns_1 : type_of% @muIns.eq_1 := @muIns.eq_1
@[simp] theorem sm_muIns_2 : type_of% @muIns.eq_2 := @muIns.eq_2
@[simp] theorem sm_muRev_1 : type_of% @muRev.eq_1 := @muRev.eq_1
@[simp] theorem sm_muRev_2 : type_of% @muRev.eq_2 := @muRev.eq_2
@[simp] theorem sm_muSet_1 : type_of% @muSet.eq_1 := @muSet.eq_1
@[simp] theorem sm_muSet_2 : type_of% @muSet.eq_2 := @muSet.eq_2
@[simp] theorem sm_meGet_1 : type_of% @meGet.eq_1 := @meGet.eq_1
@[simp] theorem sm_meGet_2 : type_of% @meGet.eq_2 := @meGet.eq_2
@[simp] theorem sm_meGet_3 : type_of% @meGet.eq_3 := @meGet.eq_3
@[simp] theorem sm_meJoin_1 : type_of% @meJoin.eq_1 := @meJoin.eq_1
@[simp] theorem sm_meJoin_2 : type_of% @meJoin.eq_2 := @meJoin.eq_2
@[simp] theorem sm_getR_1 : type_of% @getR.eq_1 := @getR.eq_1
@[simp] theorem sm_getR_2 : type_of% @getR.eq_2 := @getR.eq_2
@[simp] theorem sm_setR_1 : type_of% @setR.eq_1 := @setR.eq_1
@[simp] theorem sm_setR_2 : type_of% @setR.eq_2 := @setR.eq_2
@[simp] theorem sm_setP_1 : type_of% @setP.eq_1 := @setP.eq_1
@[simp] theorem sm_setP_2 : type_of% @setP.eq_2 := @setP.eq_2
@[simp] theorem sm_getP_1 : type_of% @getP.eq_1 := @getP.eq_1
@[simp] theorem sm_getP_2 : type_of% @getP.eq_2 := @getP.eq_2
@[simp] theorem sm_getPl_1 : type_of% @getPl.eq_1 := @getPl.eq_1
@[simp] theorem sm_setPl_1 : type_of% @setPl.eq_1 := @setPl.eq_1
@[simp] theorem sm_lent_1 : type_of% @lent.eq_1 := @lent.eq_1
@[simp] theorem sm_lent_2 : type_of% @lent.eq_2 := @lent.eq_2
@[simp] theorem sm_lent_3 : type_of% @lent.eq_3 := @lent.eq_3
@[simp] theorem sm_lent_4 : type_of% @lent.eq_4 := @lent.eq_4
@[simp] theorem sm_lent_5 : type_of% @lent.eq_5 := @lent.eq_5
@[simp] theorem sm_borOk_1 : type_of% @borOk.eq_1 := @borOk.eq_1
@[simp] theorem sm_borOk_2 : type_of% @borOk.eq_2 := @borOk.eq_2
@[simp] theorem sm_borOk_3 : type_of% @borOk.eq_3 := @borOk.eq_3
@[simp] theorem sm_borOk_4 : type_of% @borOk.eq_4 := @borOk.eq_4
@[simp] theorem sm_borOk_5 : type_of% @borOk.eq_5 := @borOk.eq_5
@[simp] theorem sm_borOk_6 : type_of% @borOk.eq_6 := @borOk.eq_6
@[simp] theorem sm_take_1 : type_of% @take.eq_1 := @take.eq_1
@[simp] theorem sm_take_2 : type_of% @take.eq_2 := @take.eq_2
@[simp] theorem sm_take_3 : type_of% @take.eq_3 := @take.eq_3
@[simp] theorem sm_take_4 : type_of% @take.eq_4 := @take.eq_4
@[simp] theorem sm_slotOk_1 : type_of% @slotOk.eq_1 := @slotOk.eq_1
@[simp] theorem sm_slotOk_2 : type_of% @slotOk.eq_2 := @slotOk.eq_2
@[simp] theorem sm_slotOk_3 : type_of% @slotOk.eq_3 := @slotOk.eq_3
@[simp] theorem sm_slotOk_4 : type_of% @slotOk.eq_4 := @slotOk.eq_4
@[simp] theorem sm_slotOk_5 : type_of% @slotOk.eq_5 := @slotOk.eq_5
@[simp] theorem sm_slotOk_6 : type_of% @slotOk.eq_6 := @slotOk.eq_6
@[simp] theorem sm_slotOk_7 : type_of% @slotOk.eq_7 := @slotOk.eq_7
@[simp] theorem sm_back_1 : type_of% @back.eq_1 := @back.eq_1
@[simp] theorem sm_back_2 : type_of% @back.eq_2 := @back.eq_2
@[simp] theorem sm_back_3 : type_of% @back.eq_3 := @back.eq_3
@[simp] theorem sm_back_4 : type_of% @back.eq_4 := @back.eq_4
@[simp] theorem sm_back_5 : type_of% @back.eq_5 := @back.eq_5
@[simp] theorem sm_back_6 : type_of% @back.eq_6 := @back.eq_6
@[simp] theorem sm_setSlots_1 : type_of% @setSlots.eq_1 := @setSlots.eq_1
@[simp] theorem sm_setSlots_2 : type_of% @setSlots.eq_2 := @setSlots.eq_2
@[simp] theorem sm_asgN_1 : type_of% @asgN.eq_1 := @asgN.eq_1
@[simp] theorem sm_asgG_1 : type_of% @asgG.eq_1 := @asgG.eq_1
@[simp] theorem sm_asgG_2 : type_of% @asgG.eq_2 := @asgG.eq_2
@[simp] theorem sm_asgG_3 : type_of% @asgG.eq_3 := @asgG.eq_3
@[simp] theorem sm_asgG_4 : type_of% @asgG.eq_4 := @asgG.eq_4
@[simp] theorem sm_asgG_5 : type_of% @asgG.eq_5 := @asgG.eq_5
@[simp] theorem sm_asgGs_1 : type_of% @asgGs.eq_1 := @asgGs.eq_1
@[simp] theorem sm_asgGs_2 : type_of% @asgGs.eq_2 := @asgGs.eq_2
@[simp] theorem sm_asgGs_3 : type_of% @asgGs.eq_3 := @asgGs.eq_3
@[simp] theorem sm_ownI_1 : type_of% @ownI.eq_1 := @ownI.eq_1
@[simp] theorem sm_held_1 : type_of% @held.eq_1 := @held.eq_1
@[simp] theorem sm_held_2 : type_of% @held.eq_2 := @held.eq_2
@[simp] theorem sm_calls_1 : type_of% @calls.eq_1 := @calls.eq_1
@[simp] theorem sm_setAt_1 : type_of% @setAt.eq_1 := @setAt.eq_1
@[simp] theorem sm_placeOk_1 : type_of% @placeOk.eq_1 := @placeOk.eq_1
@[simp] theorem sm_fixR_1 : type_of% @fixR.eq_1 := @fixR.eq_1
@[simp] theorem sm_fixR_2 : type_of% @fixR.eq_2 := @fixR.eq_2
@[simp] theorem sm_ended_1 : type_of% @ended.eq_1 := @ended.eq_1
@[simp] theorem sm_ended_2 : type_of% @ended.eq_2 := @ended.eq_2
@[simp] theorem sm_ended_3 : type_of% @ended.eq_3 := @ended.eq_3
@[simp] theorem sm_unlock_1 : type_of% @unlock.eq_1 := @unlock.eq_1
@[simp] theorem sm_unlock_2 : type_of% @unlock.eq_2 := @unlock.eq_2
@[simp] theorem sm_fixOf_1 : type_of% @fixOf.eq_1 := @fixOf.eq_1
@[simp] theorem sm_fixOf_2 : type_of% @fixOf.eq_2 := @fixOf.eq_2
@[simp] theorem sm_outsOf_1 : type_of% @outsOf.eq_1 := @outsOf.eq_1
@[simp] theorem sm_outsOf_2 : type_of% @outsOf.eq_2 := @outsOf.eq_2
@[simp] theorem sm_Md_arm_1 : type_of% @Md.arm.eq_1 := @Md.arm.eq_1
@[simp] theorem sm_Md_arm_2 : type_of% @Md.arm.eq_2 := @Md.arm.eq_2
@[simp] theorem sm_biLen_1 : type_of% @biLen.eq_1 := @biLen.eq_1
@[simp] theorem sm_biLen_2 : type_of% @biLen.eq_2 := @biLen.eq_2
@[simp] theorem sm_biMax_1 : type_of% @biMax.eq_1 := @biMax.eq_1
@[simp] theorem sm_biMax_2 : type_of% @biMax.eq_2 := @biMax.eq_2
@[simp] theorem sm_biMax_3 : type_of% @biMax.eq_3 := @biMax.eq_3
@[simp] theorem sm_biMin_1 : type_of% @biMin.eq_1 := @biMin.eq_1
@[simp] theorem sm_biMin_2 : type_of% @biMin.eq_2 := @biMin.eq_2
@[simp] theorem sm_biMin_3 : type_of% @biMin.eq_3 := @biMin.eq_3
@[simp] theorem sm_biStr_1 : type_of% @biStr.eq_1 := @biStr.eq_1
@[simp] theorem sm_biStr_2 : type_of% @biStr.eq_2 := @biStr.eq_2
@[simp] theorem sm_biStr_3 : type_of% @biStr.eq_3 := @biStr.eq_3
@[simp] theorem sm_biAbs_1 : type_of% @biAbs.eq_1 := @biAbs.eq_1
@[simp] theorem sm_biAbs_2 : type_of% @biAbs.eq_2 := @biAbs.eq_2
@[simp] theorem sm_biInt_1 : type_of% @biInt.eq_1 := @biInt.eq_1
@[simp] theorem sm_biInt_2 : type_of% @biInt.eq_2 := @biInt.eq_2
@[simp] theorem sm_biInt_3 : type_of% @biInt.eq_3 := @biInt.eq_3
@[simp] theorem sm_biList_1 : type_of% @biList.eq_1 := @biList.eq_1
@[simp] theorem sm_biList_2 : type_of% @biList.eq_2 := @biList.eq_2
@[simp] theorem sm_biTup_1 : type_of% @biTup.eq_1 := @biTup.eq_1
@[simp] theorem sm_biTup_2 : type_of% @biTup.eq_2 := @biTup.eq_2
@[simp] theorem sm_small_1 : type_of% @small.eq_1 := @small.eq_1
@[simp] theorem sm_kwFill_1 : type_of% @kwFill.eq_1 := @kwFill.eq_1
@[simp] theorem sm_kwFill_2 : type_of% @kwFill.eq_2 := @kwFill.eq_2
@[simp] theorem sm_posFill_1 : type_of% @posFill.eq_1 := @posFill.eq_1
@[simp] theorem sm_posFill_2 : type_of% @posFill.eq_2 := @posFill.eq_2
@[simp] theorem sm_setOpt_1 : type_of% @setOpt.eq_1 := @setOpt.eq_1
@[simp] theorem sm_setOpt_2 : type_of% @setOpt.eq_2 := @setOpt.eq_2
@[simp] theorem sm_putBack_1 : type_of% @putBack.eq_1 := @putBack.eq_1
@[simp] theorem sm_putBack_2 : type_of% @putBack.eq_2 := @putBack.eq_2
@[simp] theorem sm_ownOk_1 : type_of% @ownOk.eq_1 := @ownOk.eq_1
@[simp] theorem sm_ownOk_2 : type_of% @ownOk.eq_2 := @ownOk.eq_2
@[simp] theorem sm_lift_1 : type_of% @lift.eq_1 := @lift.eq_1
@[simp] theorem sm_lift_2 : type_of% @lift.eq_2 := @lift.eq_2
@[simp] theorem sm_biAll_1 : type_of% @biAll.eq_1 := @biAll.eq_1
@[simp] theorem sm_biAll_2 : type_of% @biAll.eq_2 := @biAll.eq_2
@[simp] theorem sm_biAny_1 : type_of% @biAny.eq_1 := @biAny.eq_1
@[simp] theorem sm_biAny_2 : type_of% @biAny.eq_2 := @biAny.eq_2
@[simp] theorem sm_biSum_1 : type_of% @biSum.eq_1 := @biSum.eq_1
@[simp] theorem sm_biSum_2 : type_of% @biSum.eq_2 := @biSum.eq_2
@[simp] theorem sm_intsD_1 : type_of% @intsD.eq_1 := @intsD.eq_1
@[simp] theorem sm_intsD_2 : type_of% @intsD.eq_2 := @intsD.eq_2
@[simp] theorem sm_intsD_3 : type_of% @intsD.eq_3 := @intsD.eq_3
@[simp] theorem sm_boolsD_1 : type_of% @boolsD.eq_1 := @boolsD.eq_1
@[simp] theorem sm_boolsD_2 : type_of% @boolsD.eq_2 := @boolsD.eq_2
@[simp] theorem sm_boolsD_3 : type_of% @boolsD.eq_3 := @boolsD.eq_3
@[simp] theorem sm_strsD_1 : type_of% @strsD.eq_1 := @strsD.eq_1
@[simp] theorem sm_strsD_2 : type_of% @strsD.eq_2 := @strsD.eq_2
@[simp] theorem sm_strsD_3 : type_of% @strsD.eq_3 := @strsD.eq_3
@[simp] theorem isNoneD_none : isNoneD .none = true := by rw [isNoneD]
@[simp] theorem isNoneD_str (z : Str) : isNoneD (.str z) = false := by rw [isNoneD]; exact fun z => nomatch z
@[simp] theorem isNoneD_int (z : Int) : isNoneD (.int z) = false := by rw [isNoneD]; exact fun z => nomatch z
@[simp] theorem sm_metT : type_of% @metT.eq_1 := @metT.eq_1
@[simp] theorem sm_mutD : type_of% @mutD.eq_1 := @mutD.eq_1
@[simp] theorem sm_biT : type_of% @biT.eq_1 := @biT.eq_1
/-- the one that goes on, kept out of simp's sight (as an instance is) until what it waits for is known -/
class Kon (al be : Type) where
  f : al → S → Res be
def Res.bk {α β : Type} (r : Res α) [k : Kon α β] : Res β := r.bd k.f
@[simp ↓] theorem bd_bk {α β : Type} (r : Res α) (f : α → S → Res β) : r.bd f = @Res.bk α β r (Kon.mk f) := rfl
@[simp] theorem bk_ok {α β : Type} (a : α) (s : S) (f : α → S → Res β) : @Res.bk α β (.ok a s) (Kon.mk f) = f a s := rfl
@[simp] theorem bk_ex {α β : Type} (x : Exn) (s : S) (f : α → S → Res β) : @Res.bk α β (.ex x s : Res α) (Kon.mk f) = .ex x s := rfl
@[simp] theorem bk_bad {α β : Type} (f : α → S → Res β) : @Res.bk α β .bad (Kon.mk f) = .bad := rfl
theorem mulOk_l {i j : Int} (h : -1000000000000000000 < i ∧ i < 1000000000000000000) : mulOk i j = true := by
  unfold mulOk
  have : decide (-big < i ∧ i < big) = true := decide_eq_true (by unfold big; omega)
  rw [this]; rfl
theorem mulOk_r {i j : Int} (h : -1000000000000000000 < j ∧ j < 1000000000000000000) : mulOk i j = true := by
  unfold mulOk
  have : decide (-big < j ∧ j < big) = true := decide_eq_true (by unfold big; omega)
  rw [this]; simp
/-- the call of a def with all its positional arguments -/
theorem call_def {X : Tx} {f : String} {fd : FD} (h : X.fd f = some fd) (n : Nat) (ts : List T) (os : List O) (hl : ts.length = fd.ps.length) (kws : List T) (hk : kwFill [] [] fd.kw = some kws) :
    call X (n + 1) f ts [] [] os = runF ⟨call X n, X.con, X.sub, X.xf, X.fuel, []⟩ fd (ts ++ kws) os := by
  unfold call
  rw [h]
  have : binds fd ts [] [] = some (ts ++ kws) := by
    unfold binds
    rw [if_pos (by omega), show fd.ps.drop ts.length = [] from List.drop_eq_nil_of_le (by omega), hk]
    simp [posFill]
  simp only [this]
/-! ### places -/
@[simp] theorem atI_lit {α : Type} (xs : List α) (n : Nat) : atI xs (no_index (OfNat.ofNat n : Int)) = xs[n]? := by
  show (ixN xs.length (n : Int)).bind _ = _
  unfold ixN
  rw [if_pos (by omega)]
  by_cases h : n < xs.length
  · rw [if_pos (by omega)]; rfl
  · rw [if_neg (by omega), List.getElem?_eq_none (by omega)]; rfl
@[simp] theorem ixN_lit (k n : Nat) : ixN k (no_index (OfNat.ofNat n : Int)) = if n < k then some n else none := by
  show ixN k (n : Int) = _
  unfold ixN
  rw [if_pos (by omega)]
  by_cases h : n < k
  · rw [if_pos h, if_pos (by omega)]; rfl
  · rw [if_neg h, if_neg (by omega)]
theorem atI_nat {α : Type} (xs : List α) (n : Nat) : atI xs (n : Int) = xs[n]? := atI_lit xs n
theorem atI_in {α : Type} (xs : List α) {i : Int} (h0 : 0 ≤ i) (h1 : i < xs.length) : atI xs i = some (xs[i.toNat]'(by omega)) := by
  obtain ⟨n, rfl⟩ := Int.eq_ofNat_of_zero_le h0
  rw [atI_nat, List.getElem?_eq_getElem (by omega)]; rfl
theorem atI_mapM {α β : Type} (f : α → β) (xs : List α) (i : Int) : atI (xs.map f) i = (atI xs i).map f := by
  unfold atI
  rw [List.length_map]
  cases ixN xs.length i with
  | none => rfl
  | some j => simp
theorem atI_neg1 {α : Type} (xs : List α) (h : xs ≠ []) : atI xs (-1) = some (xs.getLast h) := by
  have hl : 0 < xs.length := List.length_pos_iff.mpr h
  unfold atI ixN
  rw [if_neg (by omega), if_pos (by omega)]
  show xs[(-1 + (xs.length : Int)).toNat]? = _
  rw [List.getLast_eq_getElem, List.getElem?_eq_getElem (by omega)]
  congr 2
  omega
/-! ### == -/
@[simp] theorem eqV_eq (a b : D) : eqV a b = eqD a b := rfl
@[simp] theorem okD_int (i : Int) : okD (.int i) = true := rfl
@[simp] theorem okD_str (i : Str) : okD (.str i) = true := rfl
@[simp] theorem okD_bool (i : Bool) : okD (.bool i) = true := rfl
@[simp] theorem okD_none : okD .none = true := rfl
theorem eqD_ok {a b : D} (ha : okD a = true) (hb : okD b = true) : eqD a b = some (PyData.eqv a b) := by unfold eqD; rw [ha, hb]; rfl
@[simp] theorem eqD_int (i j : Int) : eqD (.int i) (.int j) = some (decide (i = j)) := by
  rw [eqD_ok rfl rfl]; simp only [PyData.eqv]; rw [PySem.W.beq_decide]
@[simp] theorem eqD_str (i j : Str) : eqD (.str i) (.str j) = some (decide (i = j)) := by
  rw [eqD_ok rfl rfl]; simp only [PyData.eqv]; rw [PySem.W.beq_decide]
@[simp] theorem eqD_bool (i j : Bool) : eqD (.bool i) (.bool j) = some (decide (i = j)) := by
  rw [eqD_ok rfl rfl]; simp only [PyData.eqv]; rw [PySem.W.beq_decide]
@[simp] theorem eqD_nn : eqD (.list []) (.list []) = some true := by decide +kernel
@[simp] theorem eqD_tt : eqD (.tuple []) (.tuple []) = some true := by decide +kernel
/-! ### depth -/
def flat : D → Bool
  | .none | .bool _ | .int _ | .str _ => true
  | _ => false
theorem depth_all_le {n : Nat} : ∀ {ds : List D}, (∀ d ∈ ds, d.depth ≤ n) → PyData.depthAll ds ≤ n
  | [], _ => by simp [PyData.depthAll]
  | d :: ds, h => by
    rw [PyData.depthAll]
    exact Nat.max_le.mpr ⟨h d List.mem_cons_self, depth_all_le fun e he => h e (List.mem_cons_of_mem _ he)⟩
theorem plain_all {ds : List D} : PyData.plainAll ds = true ↔ ∀ d ∈ ds, d.plain = true := by
  induction ds with
  | nil => simp [PyData.plainAll]
  | cons d ds ih => simp [PyData.plainAll, ih]
/-- data of at most this depth, no dict within -/
def dpt (n : Nat) (d : D) : Prop := d.plain = true ∧ d.depth ≤ n
theorem dpt.ok {n : Nat} {d : D} (h : dpt n d) (hn : n ≤ 40) : okD d = true := by
  unfold okD
  rw [h.1, decide_eq_true (Nat.le_trans h.2 hn)]; rfl
theorem dpt.mono {n m : Nat} {d : D} (h : dpt n d) (hn : n ≤ m) : dpt m d := ⟨h.1, Nat.le_trans h.2 hn⟩
theorem dpt_list {n : Nat} {ds : List D} (h : ∀ d ∈ ds, dpt n d) : dpt (n + 1) (.list ds) := ⟨by rw [PyData.plain]; exact plain_all.mpr fun d hd => (h d hd).1, by rw [PyData.depth]; exact Nat.succ_le_succ (depth_all_le fun d hd => (h d hd).2)⟩
theorem dpt_tup {n : Nat} {ds : List D} (h : ∀ d ∈ ds, dpt n d) : dpt (n + 1) (.tuple ds) := ⟨by rw [PyData.plain]; exact plain_all.mpr fun d hd => (h d hd).1, by rw [PyData.depth]; exact Nat.succ_le_succ (depth_all_le fun d hd => (h d hd).2)⟩
theorem dpt_int (i : Int) : dpt 0 (.int i) := ⟨rfl, by simp [PyData.depth]⟩
theorem dpt_str (i : Str) : dpt 0 (.str i) := ⟨rfl, by simp [PyData.depth]⟩
theorem dpt_bool (i : Bool) : dpt 0 (.bool i) := ⟨rfl, by simp [PyData.depth]⟩
theorem dpt_none : dpt 0 .none := ⟨rfl, by simp [PyData.depth]⟩
/-! ### walks of comprehensions and loops -/
theorem compL_map {α β : Type} {f : D → S → Res (Option β)} {s : S} {enc : α → D} {g : α → Option β} : ∀ {l : List α}, (∀ x ∈ l, f (enc x) s = .ok (g x) s) → compL f (l.map enc) s = .ok (l.filterMap g) s
  | [], _ => rfl
  | x :: l, h => by
    rw [List.map_cons, compL, h x List.mem_cons_self]
    simp only [Res.bd]
    rw [compL_map fun y hy => h y (List.mem_cons_of_mem _ hy)]
    simp only [Res.bd, List.filterMap_cons]
    cases g x <;> rfl
/-- a comprehension that changes nothing -/
theorem comp_map {α β : Type} {fix own : List Nat} {g : G} {c : S → Res T} {e : S → Res β} {enc : α → D} {k : α → Option β} {l : List α} {ds : List D} {s : S} (hd : ds = l.map enc) (ho : ownOk s.vs own = true) (hl : l.length ≤ 1000000)
    (h : ∀ x ∈ l, turnC fix own g c e (enc x) (setSlots s own .un) = .ok (k x) (setSlots s own .un)) (hb : putBack (setSlots s own .un).vs s.vs own = s.vs) (hos : (setSlots s own .un).os = s.os) : comp fix own g c e (ds, none) s = .ok (l.filterMap k) s := by
  subst hd
  unfold comp
  rw [ho, decide_eq_true (by rw [List.length_map]; exact hl)]
  simp only [Bool.and_self, if_true]
  rw [compL_map h]
  simp only [unlock]
  rw [hb, hos]
/-- .. that changes the state by steps -/
theorem compL_inv {β : Type} {f : D → S → Res (Option β)} {Inv : List D → List β → S → Prop} (h : ∀ d r bs s, Inv (d :: r) bs s → ∃ o s', f d s = .ok o s' ∧ Inv r (bs ++ o.toList) s') :
    ∀ (ds : List D) (bs : List β) (s : S), Inv ds bs s → ∃ cs s', compL f ds s = .ok cs s' ∧ Inv [] (bs ++ cs) s'
  | [], bs, s, i => ⟨[], s, rfl, by rw [List.append_nil]; exact i⟩
  | d :: r, bs, s, i => by
    obtain ⟨o, s1, e1, i1⟩ := h d r bs s i
    obtain ⟨cs, s2, e2, i2⟩ := compL_inv h r (bs ++ o.toList) s1 i1
    refine ⟨o.toList ++ cs, s2, ?_, by rw [← List.append_assoc]; exact i2⟩
    rw [compL, e1]
    simp only [Res.bd]
    rw [e2]
    cases o <;> rfl
theorem forL_inv {fix : List Nat} {g : G} {body : S → Res Fl} {Inv : List D → S → Prop} {Post : T → S → Prop}
    (h : ∀ d r s, Inv (d :: r) s → ∃ s1, asgG fix g (.pl d) s = .ok () s1 ∧ ((∃ s2, body s1 = .ok .nx s2 ∧ Inv r s2) ∨ (∃ s2, body s1 = .ok .ct s2 ∧ Inv r s2) ∨ ∃ t s2, body s1 = .ok (.rt t) s2 ∧ Post t s2)) :
    ∀ (ds : List D) (s : S), Inv ds s → (∃ s', forL fix g body ds s = .ok .nx s' ∧ Inv [] s') ∨ ∃ t s', forL fix g body ds s = .ok (.rt t) s' ∧ Post t s'
  | [], s, i => .inl ⟨s, rfl, i⟩
  | d :: r, s, i => by
    obtain ⟨s1, e1, hb⟩ := h d r s i
    rcases hb with ⟨s2, e2, i2⟩ | ⟨s2, e2, i2⟩ | ⟨t, s2, e2, p⟩
    · have := forL_inv h r s2 i2
      simp only [forL, e1, e2, Res.bd]
      exact this
    · have := forL_inv h r s2 i2
      simp only [forL, e1, e2, Res.bd]
      exact this
    · refine .inr ⟨t, s2, ?_, p⟩
      simp only [forL, e1, e2, Res.bd]
/-- .. without a return -/
theorem forL_all {fix : List Nat} {g : G} {body : S → Res Fl} {Inv : List D → S → Prop}
    (h : ∀ d r s, Inv (d :: r) s → ∃ s1, asgG fix g (.pl d) s = .ok () s1 ∧ ∃ s2, body s1 = .ok .nx s2 ∧ Inv r s2) (ds : List D) (s : S) (i : Inv ds s) : ∃ s', forL fix g body ds s = .ok .nx s' ∧ Inv [] s' := by
  rcases forL_inv (Post := fun _ _ => False) (fun d r s i => let ⟨s1, e1, s2, e2, i2⟩ := h d r s i; ⟨s1, e1, .inl ⟨s2, e2, i2⟩⟩) ds s i with r | ⟨_, _, _, f⟩
  · exact r
  · exact f.elim
@[simp] theorem back_s {vs : List T} {i : Nat} {r : List A} {u : T} {us : List T} {s : S} (h : slotOk u = true) : back vs (.s i :: r) (u :: us) s = back vs r us { s with vs := s.vs.set i u } := by
  cases u <;> first | (simp [slotOk] at h; done) | (simp [slotOk])
theorem comp_inv {β : Type} {fix own : List Nat} {g : G} {c : S → Res T} {e : S → Res β} {ds : List D} {s : S} {Inv : List D → List β → S → Prop} (ho : ownOk s.vs own = true) (hl : ds.length ≤ 1000000) (h0 : Inv ds [] (setSlots s own .un))
    (h : ∀ d r bs s, Inv (d :: r) bs s → ∃ o s', turnC fix own g c e d s = .ok o s' ∧ Inv r (bs ++ o.toList) s') : ∃ bs s1, comp fix own g c e (ds, none) s = .ok bs { s1 with vs := putBack s1.vs s.vs own } ∧ Inv [] bs s1 := by
  obtain ⟨cs, s', e1, i1⟩ := compL_inv h ds [] _ h0
  refine ⟨cs, s', ?_, by simpa using i1⟩
  unfold comp
  rw [ho, decide_eq_true hl]
  simp only [Bool.and_self, if_true]
  rw [e1]
  simp only [unlock]
/-! ### ranges, letters, joined texts -/
theorem rangeD_lenM : ∀ (n : Nat) (lo : Int), (rangeD lo n).length = n
  | 0, _ => rfl
  | n + 1, lo => by rw [rangeD, List.length_cons, rangeD_lenM]
theorem rangeD_map : ∀ (n : Nat) (lo : Int), rangeD lo n = (List.range n).map fun i => .int (lo + (i : Int))
  | 0, _ => rfl
  | n + 1, lo => by
    rw [rangeD, rangeD_map n (lo + 1), List.range_succ_eq_map, List.map_cons, List.map_map]
    congr 1
    · simp
    · refine List.map_congr_left fun i _ => ?_
      show PyData.int _ = PyData.int _
      congr 1
      simp only [Nat.succ_eq_add_one]
      omega
@[simp] theorem intsD_ints (is : List Int) : intsD (is.map .int) = some is := by
  induction is with
  | nil => rfl
  | cons i is ih => rw [List.map_cons, intsD, ih]; rfl
@[simp] theorem strsD_strs (is : List Str) : strsD (is.map .str) = some is := by
  induction is with
  | nil => rfl
  | cons i is ih => rw [List.map_cons, strsD, ih]; rfl
@[simp] theorem boolsD_bools (is : List Bool) : boolsD (is.map .bool) = some is := by
  induction is with
  | nil => rfl
  | cons i is ih => rw [List.map_cons, boolsD, ih]; rfl
theorem join_signs (cs : List Nat) : Txt.join (Str.ofString "") (cs.map fun c => (⟨#[c]⟩ : Str)) = ⟨cs.toArray⟩ := by
  have e : (Str.ofString "") = SX.S [] := by decide +kernel
  have e2 : (cs.map fun c => (⟨#[c]⟩ : Str)) = (cs.map fun c => [c]).map SX.S := by rw [List.map_map]; rfl
  rw [e, e2, SX.join_S]
  congr 1
  have : ∀ cs : List Nat, TL.joinL [] (cs.map fun c => [c]) = cs := by
    intro cs
    induction cs with
    | nil => rfl
    | cons c r ih =>
      cases r with
      | nil => rfl
      | cons d r =>
        show [c] ++ ([] ++ TL.joinL [] ([d] :: r.map fun c => [c])) = _
        rw [show ([d] :: r.map fun c => [c]) = (d :: r).map (fun c => [c]) from rfl, ih]
        rfl
  rw [this]
/-! ### one statement behind another -/
theorem seq_ex {P : Pm} {c : C} {r : List C} {s : S} {Q R : S → Prop} (h1 : ∃ s', exC P c s = .ok .nx s' ∧ R s') (h2 : ∀ s', R s' → ∃ s2, exCs P r s' = .ok .nx s2 ∧ Q s2) : ∃ s2, exCs P (c :: r) s = .ok .nx s2 ∧ Q s2 := by
  obtain ⟨s', e, hr⟩ := h1
  obtain ⟨s2, e2, hq⟩ := h2 s' hr
  refine ⟨s2, ?_, hq⟩
  rw [exCs, e]
  exact e2
theorem exCs_nx {P : Pm} {c : C} {r : List C} {s s' : S} (h : exC P c s = .ok .nx s') : exCs P (c :: r) s = exCs P r s' := by
  rw [exCs, h]; rfl
theorem exCs_rt {P : Pm} {c : C} {r : List C} {s s' : S} {t : T} (h : exC P c s = .ok (.rt t) s') : exCs P (c :: r) s = .ok (.rt t) s' := by
  rw [exCs, h]; rfl
theorem for_ex {P : Pm} {g : G} {it : It} {b : List C} {s s1 : S} {ds : List D} {Q : S → Prop} (h1 : evI P it s = .ok (ds, none) s1) (h2 : ∃ s', forL P.fix g (exCs P b) ds s1 = .ok .nx s' ∧ Q s') : ∃ s', exC P (.for g it b) s = .ok .nx s' ∧ Q s' := by
  obtain ⟨s', e, q⟩ := h2
  refine ⟨s', ?_, q⟩
  simp only [exC, h1, Res.bd, fixR, ended]
  rw [e]
  rfl
theorem filterMap_if {α β : Type} (b : α → Bool) (f : α → β) (l : List α) : (l.filterMap fun z => if b z then some (f z) else none) = (l.filter b).map f := by
  induction l with
  | nil => rfl
  | cons x l ih =>
    rw [List.filterMap_cons, List.filter_cons]
    cases b x
    · simpa using ih
    · simp [ih]
/-- all are kept -/
theorem comp_all {α β : Type} {fix own : List Nat} {g : G} {c : S → Res T} {e : S → Res β} {enc : α → D} (k : α → β) {l : List α} {ds : List D} {s : S} (hd : ds = l.map enc) (ho : ownOk s.vs own = true) (hl : l.length ≤ 1000000)
    (h : ∀ x ∈ l, turnC fix own g c e (enc x) (setSlots s own .un) = .ok (some (k x)) (setSlots s own .un)) (hb : putBack (setSlots s own .un).vs s.vs own = s.vs) (hos : (setSlots s own .un).os = s.os) : comp fix own g c e (ds, none) s = .ok (l.map k) s := by
  rw [comp_map (k := fun x => some (k x)) hd ho hl h hb hos]
  congr 1
  induction l with
  | nil => rfl
  | cons x l ih => rw [List.filterMap_cons, List.map_cons, List.filterMap_eq_map']
/-- those of which b is so -/
theorem comp_if {α β : Type} {fix own : List Nat} {g : G} {c : S → Res T} {e : S → Res β} {enc : α → D} (b : α → Bool) (k : α → β) {l : List α} {ds : List D} {s : S} (hd : ds = l.map enc) (ho : ownOk s.vs own = true) (hl : l.length ≤ 1000000)
    (h : ∀ x ∈ l, turnC fix own g c e (enc x) (setSlots s own .un) = .ok (if b x then some (k x) else none) (setSlots s own .un)) (hb : putBack (setSlots s own .un).vs s.vs own = s.vs) (hos : (setSlots s own .un).os = s.os) : comp fix own g c e (ds, none) s = .ok ((l.filter b).map k) s := by
  rw [comp_map (k := fun x => if b x then some (k x) else none) hd ho hl h hb hos, filterMap_if]
theorem seq_fl {P : Pm} {c : C} {r : List C} {s : S} {Q : Fl → S → Prop} {R : S → Prop} (h1 : ∃ s', exC P c s = .ok .nx s' ∧ R s') (h2 : ∀ s', R s' → ∃ f s2, exCs P r s' = .ok f s2 ∧ Q f s2) : ∃ f s2, exCs P (c :: r) s = .ok f s2 ∧ Q f s2 := by
  obtain ⟨s', e, hr⟩ := h1
  obtain ⟨f, s2, e2, hq⟩ := h2 s' hr
  refine ⟨f, s2, ?_, hq⟩
  rw [exCs, e]
  exact e2
theorem run_ret {P : Pm} {fd : FD} {ts : List T} {os : List O} {t : T} {s' : S} (h : exCs { P with fix := fixOf 0 ts } fd.body ⟨ts ++ List.replicate (fd.n - ts.length) .un, os⟩ = .ok (.rt t) s') : runF P fd ts os = .ok t (outsOf ts s'.vs) s'.os := by
  unfold runF
  rw [h]
theorem at_strs {l : List Str} {i : Int} (h0 : 0 ≤ i) (h1 : i < l.length) : ∃ z, z ∈ l ∧ atI (l.map PyData.str) i = some (.str z) ∧ l[i.toNat]? = some z := by
  have h2 : i.toNat < l.length := by omega
  refine ⟨l[i.toNat], List.getElem_mem h2, ?_, List.getElem?_eq_getElem h2⟩
  rw [atI_mapM, atI_in l h0 h1]; rfl
theorem nodup_ne {l : List Str} (nd : l.Nodup) {i j : Nat} {x y : Str} (hi : l[i]? = some x) (hj : l[j]? = some y) (h : i ≠ j) : x ≠ y := by
  intro e
  subst e
  have hi' := (List.getElem?_eq_some_iff.mp hi).1
  exact h ((List.getElem?_inj hi' nd).mp (hi.trans hj.symm))
theorem forL_ex {fix : List Nat} {g : G} {body : S → Res Fl} {Inv : List D → S → Prop} {Q : S → Prop} {ds : List D} {s : S}
    (h : ∀ d r s, Inv (d :: r) s → ∃ s1, asgG fix g (.pl d) s = .ok () s1 ∧ ∃ s2, body s1 = .ok .nx s2 ∧ Inv r s2) (i : Inv ds s) (fin : ∀ s', Inv [] s' → Q s') : ∃ s', forL fix g body ds s = .ok .nx s' ∧ Q s' := by
  obtain ⟨s', e, i'⟩ := forL_all h ds s i
  exact ⟨s', e, fin s' i'⟩
theorem rangeD_cons {d : D} {r : List D} {lo : Int} {n : Nat} (h : d :: r = rangeD lo n) : ∃ q, n = q + 1 ∧ d = .int lo ∧ r = rangeD (lo + 1) q := by
  cases n with
  | zero => cases h
  | succ q =>
    rw [rangeD] at h
    obtain ⟨rfl, rfl⟩ := List.cons.inj h
    exact ⟨q, rfl, rfl, rfl⟩
theorem rangeD_nil {lo : Int} {n : Nat} (h : [] = rangeD lo n) : n = 0 := by
  cases n with
  | zero => rfl
  | succ q => cases h
theorem cut_from_nat {α : Type} (xs : List α) (n : Nat) : cut xs (some (n : Int)) none = xs.drop n := by
  unfold cut
  rw [HT.sIx_nat, HT.sIx_none]
  by_cases h : n ≤ xs.length
  · rw [Nat.min_eq_left h, List.take_of_length_le (by rw [List.length_drop]; exact Nat.le_refl _)]
  · rw [Nat.min_eq_right (by omega), List.drop_eq_nil_of_le (Nat.le_refl _), List.drop_eq_nil_of_le (by omega), List.take_nil]
theorem cut_to_nat {α : Type} (xs : List α) (n : Nat) : cut xs none (some (n : Int)) = xs.take n := by
  unfold cut
  rw [HT.sIx_nat, HT.sIx_none, List.drop_zero, Nat.sub_zero, List.take_eq_take_iff]
  omega
@[simp] theorem cut_from {α : Type} (xs : List α) (n : Nat) : cut xs (some (no_index (OfNat.ofNat n : Int))) none = xs.drop n := cut_from_nat xs n
@[simp] theorem cut_to {α : Type} (xs : List α) (n : Nat) : cut xs none (some (no_index (OfNat.ofNat n : Int))) = xs.take n := cut_to_nat xs n
theorem cut_from_i {α : Type} (xs : List α) {i : Int} (h : 0 ≤ i) : cut xs (some i) none = xs.drop i.toNat := by
  obtain ⟨n, rfl⟩ := Int.eq_ofNat_of_zero_le h
  exact cut_from_nat xs n
theorem cut_to_i {α : Type} (xs : List α) {i : Int} (h : 0 ≤ i) : cut xs none (some i) = xs.take i.toNat := by
  obtain ⟨n, rfl⟩ := Int.eq_ofNat_of_zero_le h
  exact cut_to_nat xs n
theorem erase_map {α β : Type} (f : α → β) : ∀ (l : List α) (j : Nat), (l.map f).eraseIdx j = (l.eraseIdx j).map f
  | [], _ => rfl
  | _ :: _, 0 => rfl
  | x :: l, j + 1 => by simp only [List.map_cons, List.eraseIdx_cons_succ, erase_map f l j]
theorem erase_perm {α : Type} : ∀ (l : List α) (j : Nat) (h : j < l.length), l.Perm (l[j] :: l.eraseIdx j)
  | x :: l, 0, _ => List.Perm.refl _
  | x :: l, j + 1, h => ((erase_perm l j (by simpa using h)).cons x).trans (List.Perm.swap _ _ _)
theorem map_toNat_inj : ∀ {a b : List Char}, a.map Char.toNat = b.map Char.toNat → a = b
  | [], [], _ => rfl
  | [], _ :: _, h => by simp at h
  | _ :: _, [], h => by simp at h
  | x :: a, y :: b, h => by
    simp only [List.map_cons, List.cons.injEq] at h
    rw [Char.toNat_inj.mp h.1, map_toNat_inj h.2]
@[simp] theorem ofString_inj {a b : String} : Str.ofString a = Str.ofString b ↔ a = b := by
  constructor
  · intro h
    rw [Str.ofString_eq_toList, Str.ofString_eq_toList] at h
    have h : a.toList.map Char.toNat = b.toList.map Char.toNat := by
      have := congrArg (fun z : Str => z.cps.toList) h
      simpa using this
    exact String.toList_inj.mp (map_toNat_inj h)
  · intro h; rw [h]
@[simp] theorem boolsD_f {α : Type} (f : α → Bool) (l : List α) : boolsD (l.map fun x => .bool (f x)) = some (l.map f) := by
  have := boolsD_bools (l.map f)
  rwa [List.map_map] at this
@[simp] theorem intsD_f {α : Type} (f : α → Int) (l : List α) : intsD (l.map fun x => .int (f x)) = some (l.map f) := by
  have := intsD_ints (l.map f)
  rwa [List.map_map] at this
@[simp] theorem strsD_f {α : Type} (f : α → Str) (l : List α) : strsD (l.map fun x => .str (f x)) = some (l.map f) := by
  have := strsD_strs (l.map f)
  rwa [List.map_map] at this
@[simp] theorem all_id {α : Type} (f : α → Bool) (l : List α) : (l.map f).all id = l.all f := by rw [List.all_map]; rfl
@[simp] theorem any_id {α : Type} (f : α → Bool) (l : List α) : (l.map f).any id = l.any f := by rw [List.any_map]; rfl
/-- a loop that looks at each and gives up at the first that is not so -/
theorem forL_chk {α : Type} {fix : List Nat} {g : G} {body : S → Res Fl} {enc : α → D} {P : α → Bool} {v : T} {St : S → Prop} {os : List O} :
    ∀ {l : List α}, (∀ x ∈ l, ∀ s, St s → ∃ s1, asgG fix g (.pl (enc x)) s = .ok () s1 ∧ (P x = true → ∃ s2, body s1 = .ok .nx s2 ∧ St s2) ∧ (P x = false → ∃ s2, body s1 = .ok (.rt v) s2 ∧ s2.os = os)) →
    ∀ s, St s → (l.all P = true → ∃ s', forL fix g body (l.map enc) s = .ok .nx s' ∧ St s') ∧ (l.all P = false → ∃ s', forL fix g body (l.map enc) s = .ok (.rt v) s' ∧ s'.os = os)
  | [], _, s, hs => ⟨fun _ => ⟨s, rfl, hs⟩, fun h => nomatch h⟩
  | x :: l, h, s, hs => by
    obtain ⟨s1, e1, h1, h2⟩ := h x List.mem_cons_self s hs
    rw [List.all_cons, List.map_cons, forL, e1]
    cases hp : P x with
    | true =>
      obtain ⟨s2, e2, hs2⟩ := h1 hp
      rw [Bool.true_and]
      have := forL_chk (fun y hy => h y (List.mem_cons_of_mem _ hy)) s2 hs2
      simp only [Res.bd, e2]
      exact this
    | false =>
      obtain ⟨s2, e2, ho⟩ := h2 hp
      rw [Bool.false_and]
      refine ⟨fun h => (nomatch h), fun _ => ⟨s2, ?_, ho⟩⟩
      simp only [Res.bd, e2]
theorem for_of {P : Pm} {g : G} {it : It} {b : List C} {s s1 s' : S} {ds : List D} {f : Fl} (h1 : evI P it s = .ok (ds, none) s1) (h2 : forL P.fix g (exCs P b) ds s1 = .ok f s') : exC P (.for g it b) s = .ok f s' := by
  simp only [exC, h1, Res.bd, fixR, ended]
  rw [h2]
  rfl
end EV
end PartEvM
section PartPlA
set_option autoImplicit false
set_option linter.all false
set_option maxRecDepth 100000
set_option maxHeartbeats 1000000
/-! PlA: the drawn trusts: pools, names, spans. -/
namespace Pl
open EV PySem
structure Pool where
  a : Int
  b : Int
  c : Int
def Pool.t (p : Pool) : T := .ol [.int p.a, .int p.b, .int p.c]
def Pk (k : Nat) (p : Pool) : Prop := 0 ≤ p.b ∧ p.b < 2147483629 ∧ 0 ≤ p.c ∧ p.c + k ≤ 1000000
theorem Pk.le {k j : Nat} {p : Pool} (h : Pk k p) (hj : j ≤ k) : Pk j p := ⟨h.1, h.2.1, h.2.2.1, by have := h.2.2.2; omega⟩
@[simp] theorem lent_t (p : Pool) : lent p.t = true := by simp [Pool.t]
@[simp] theorem slotOk_t (p : Pool) : slotOk p.t = true := by simp [Pool.t]
/-- the defs that draw -/
structure HasGen (X : Tx) : Prop where
  draw : X.fd "_law_draw" = some Lb.d_law_draw
  pool : X.fd "_law_pool" = some Lb.d_law_pool
  cell_at : X.fd "_law_cell_at" = some Lb.d_law_cell_at
  names : X.fd "_law_names" = some Lb.d_law_names
  span : X.fd "_law_span" = some Lb.d_law_span
  trust : X.fd "_law_trust" = some Lb.d_law_trust
section
variable {X : Tx} (hX : HasGen X)
include hX
theorem w_draw (n : Nat) {k : Nat} {p : Pool} {m : Int} (os : List O) (hp : Pk (k + 1) p) (hm : 0 < m) (hm2 : m < 1073741824) :
    ∃ r p', call X (n + 1) "_law_draw" [p.t, .pl (.int m)] [] [] os = .ok (.pl (.int r)) [p'.t, .un] os ∧ Pk k p' ∧ 0 ≤ r ∧ r < m := by
  obtain ⟨a, b, c⟩ := p
  obtain ⟨hb1, hb2, hc1, hc2⟩ := hp
  simp only at hb1 hb2 hc1 hc2
  rw [call_def hX.draw n _ os rfl [] rfl]
  have e1 : mulOk 7 (c + 1) = true := mulOk_l (by omega)
  have e2 : mulOk (7 * (c + 1)) (c + 1) = true := mulOk_l (by omega)
  have hq : 0 ≤ 7 * (c + 1) * (c + 1) ∧ 7 * (c + 1) * (c + 1) ≤ 7000000000000 := by
    have : (c + 1) * (c + 1) ≤ 1000000 * 1000000 := Int.mul_le_mul (by omega) (by omega) (by omega) (by omega)
    have h0 : 0 ≤ (c + 1) * (c + 1) := Int.mul_nonneg (by omega) (by omega)
    rw [Int.mul_assoc]; omega
  have e3 : ((b + 7 * (c + 1) * (c + 1)) + 1).natAbs < 18446744073709551616 := by omega
  generalize hst : ((b + 7 * (c + 1) * (c + 1)) + 1) ^ 2 % 2147483587 = st
  have hst' : 0 ≤ st ∧ st < 2147483587 := by rw [← hst]; exact ⟨Int.emod_nonneg _ (by decide), Int.emod_lt_of_pos _ (by decide)⟩
  have e4 : mulOk st 69621 = true := mulOk_l (by omega)
  have e5 : mulOk 40692 (c + 1) = true := mulOk_l (by omega)
  have m0 : ∀ x : Int, 0 ≤ x % m := fun x => Int.emod_nonneg _ (by omega)
  have m1 : ∀ x : Int, x % m < m := fun x => Int.emod_lt_of_pos _ hm
  have q0 : 0 ≤ (st * 69621 + 40692 * (c + 1)) % 2147483629 := Int.emod_nonneg _ (by decide)
  have q1 : (st * 69621 + 40692 * (c + 1)) % 2147483629 < 2147483629 := Int.emod_lt_of_pos _ (by decide)
  by_cases ha : 0 < a
  · refine ⟨a % m, ⟨a / m, (st * 69621 + 40692 * (c + 1)) % 2147483629, c + 1⟩, ?_, ⟨q0, q1, by show 0 ≤ c + 1; omega, by show c + 1 + (k : Int) ≤ 1000000; omega⟩, m0 _, m1 _⟩
    simp [Lb.d_law_draw, runF, Pool.t, ha, hst, e1, e2, e3, e4, e5, hm, hm2]
  · refine ⟨(st * 69621 + 40692 * (c + 1)) % 2147483629 / 64 % m, ⟨a, (st * 69621 + 40692 * (c + 1)) % 2147483629, c + 1⟩, ?_, ⟨q0, q1, by show 0 ≤ c + 1; omega, by show c + 1 + (k : Int) ≤ 1000000; omega⟩, m0 _, m1 _⟩
    simp [Lb.d_law_draw, runF, Pool.t, ha, hst, e1, e2, e3, e4, e5, hm, hm2]
theorem w_span (n : Nat) {k : Nat} {p : Pool} {way : Int} (os : List O) (hp : Pk (k + 2) p) :
    ∃ s u p', call X (n + 2) "_law_span" [p.t, .pl (.int way)] [] [] os = .ok (.pl (.tuple [.int s, .int u])) [p'.t, .un] os ∧ Pk k p' ∧ 0 ≤ s ∧ s < u ∧ u ≤ 1000000 := by
  rw [call_def hX.span (n + 1) _ os rfl [] rfl]
  obtain ⟨r1, p1, c1, h1, l1, u1⟩ := w_draw hX n os hp (m := 12) (by omega) (by omega)
  by_cases w0 : way = 0
  · subst w0
    exact ⟨0, 1000000, p1, by simp [Lb.d_law_span, runF, c1], h1.le (by omega), by omega, by omega, by omega⟩
  · by_cases w1 : way = 1
    · subst w1
      obtain ⟨r2, p2, c2, h2, l2, u2⟩ := w_draw hX n os h1 (m := 12) (by omega) (by omega)
      exact ⟨r1, r1 + 1 + r2, p2, by simp [Lb.d_law_span, runF, c1, c2], h2, by omega, by omega, by omega⟩
    · obtain ⟨r2, p2, c2, h2, l2, u2⟩ := w_draw hX n os h1 (m := 6) (by omega) (by omega)
      exact ⟨r1 / 3, 20 + r2, p2, by simp [Lb.d_law_span, runF, c1, c2, w0, w1], h2, by omega, by omega, by omega⟩
theorem w_cell_at (n : Nat) (ns : List Int) (k : Nat) (os : List O) : ∃ c : Int, call X (n + 1) "_law_cell_at" [.sl (ns.map .int), .pl (.int k)] [] [] os = .ok (.pl (.int c)) [.un, .un] os := by
  rw [call_def hX.cell_at n _ os rfl [] rfl]
  by_cases h : k < ns.length
  · refine ⟨ns[k], ?_⟩
    have e : atI (ns.map PyData.int) (k : Int) = some (.int ns[k]) := by rw [atI_nat]; simp [h]
    simp [Lb.d_law_cell_at, runF, h, e]
  · exact ⟨0, by simp [Lb.d_law_cell_at, runF, h]⟩
theorem w_pool (n : Nat) (c : Int) (k : Nat) (hk : k ≤ 1000) (os : List O) : ∃ p, call X (n + 1) "_law_pool" [.pl (.int c), .pl (.int k)] [] [] os = .ok p.t [.un, .un] os ∧ Pk 1000000 p := by
  rw [call_def hX.pool n _ os rfl [] rfl]
  have e1 : mulOk 40009 (k : Int) = true := mulOk_l (by omega)
  have q0 : 0 ≤ (c % 2147483629 + 40009 * (k : Int)) % 2147483629 := Int.emod_nonneg _ (by decide)
  have q1 : (c % 2147483629 + 40009 * (k : Int)) % 2147483629 < 2147483629 := Int.emod_lt_of_pos _ (by decide)
  exact ⟨⟨_, (c % 2147483629 + 40009 * (k : Int)) % 2147483629, 0⟩, by simp [Lb.d_law_pool, runF, e1, Pool.t]; rfl, q0, q1, Int.le_refl 0, by show (0 : Int) + (1000000 : Nat) ≤ 1000000; omega⟩
end
end Pl
end PartPlA
section PartPlB
set_option autoImplicit false
set_option linter.all false
set_option maxRecDepth 100000
set_option maxHeartbeats 2000000
/-! PlB: the drawn names. -/
namespace Pl
open EV PySem
/-- a name -/
def Nm (z : Str) : Prop := 1 ≤ z.length ∧ z.length ≤ 8 ∧ ∀ c ∈ z.cps.toList, 97 ≤ c ∧ c ≤ 122
abbrev abc : Str := Str.ofString "abcdefghijklmnopqrstuvwxyz"
theorem abc_eq : abc.cps.toList = List.range' 97 26 := by decide +kernel
def sg (c : Nat) : Str := ⟨#[c]⟩
theorem chars_abc : chars abc = (List.range' 97 26).map fun c => .str (sg c) := by unfold chars; rw [abc_eq]; rfl
theorem abc_len : abc.length = 26 := by decide +kernel
theorem letter_at {i : Int} (h0 : 0 ≤ i) (h1 : i < 26) : ∃ c, atI (chars abc) i = some (.str (sg c)) ∧ 97 ≤ c ∧ c ≤ 122 := by
  rw [chars_abc, atI_mapM, atI_in _ h0 (by simp; omega)]
  exact ⟨_, rfl, by simp; omega⟩
theorem sg_len (c : Nat) : (sg c).length = 1 := rfl
theorem sg_nm {c : Nat} (h : 97 ≤ c ∧ c ≤ 122) : Nm (sg c) := ⟨by rw [sg_len]; omega, by rw [sg_len]; omega, fun d hd => by
  have : d = c := by simpa [sg] using hd
  omega⟩
theorem sum_sg (cs : List Nat) : ((cs.map sg).map Str.length).sum = cs.length := by
  induction cs with
  | nil => rfl
  | cons c r ih => simp only [List.map_cons, List.sum_cons, ih, sg_len, List.length_cons]; omega
@[simp] theorem inD_strs (z : Str) (l : List Str) : inD (.str z) (.list (l.map .str)) = some (decide (z ∈ l)) := by
  have : allOk (.str z) (l.map .str) = true := by
    unfold allOk
    simp [List.all_eq_true]
  unfold inD
  simp only [this, if_true]
  congr 1
  rw [List.any_map, Bool.eq_iff_iff, List.any_eq_true, decide_eq_true_eq]
  constructor
  · rintro ⟨y, hy, e⟩
    have e : PyData.eqv (.str y) (.str z) = true := e
    simp only [PyData.eqv, beq_iff_eq] at e
    exact e ▸ hy
  · intro h
    exact ⟨z, h, by show PyData.eqv (.str z) (.str z) = true; simp only [PyData.eqv, beq_self_eq_true]⟩
@[simp] theorem eqD_strs (l m : List Str) : eqD (.list (l.map .str)) (.list (m.map .str)) = some (decide (l = m)) := by
  have ok : ∀ l : List Str, okD (.list (l.map .str)) = true := fun l => (dpt_list (n := 0) fun d hd => by obtain ⟨x, _, rfl⟩ := List.mem_map.mp hd; exact dpt_str x).ok (by omega)
  rw [eqD_ok (ok l) (ok m), PyData.eqv]
  congr 1
  exact PySem.W.eqvAll_map l m
@[simp] theorem eqD_strs_nil (l : List Str) : eqD (.list (l.map .str)) (.list []) = some (decide (l = [])) := eqD_strs l []
theorem cut8 (xs : List Nat) : cut xs none (some 8) = xs.take 8 := by
  unfold cut
  show (xs.drop 0).take (HT.sIx xs.length xs.length (some ((8 : Nat) : Int)) - 0) = _
  rw [HT.sIx_nat, List.drop_zero, Nat.sub_zero]
  rw [List.take_eq_take_iff]
  omega
theorem nm_cut {x y : Str} (hx : Nm x) (hy : ∀ c ∈ y.cps.toList, 97 ≤ c ∧ c ≤ 122) : Nm (cutS (x ++ y) none (some 8)) := by
  have e : (cutS (x ++ y) none (some 8)).cps.toList = (x.cps.toList ++ y.cps.toList).take 8 := by
    unfold cutS
    show (cut (x.cps ++ y.cps).toList none (some 8)) = _
    rw [cut8, Array.toList_append]
  have l : (cutS (x ++ y) none (some 8)).length = ((x.cps.toList ++ y.cps.toList).take 8).length := by rw [← e]; exact (Array.length_toList).symm
  have lx : x.length = x.cps.toList.length := (Array.length_toList).symm
  refine ⟨?_, ?_, fun c hc => ?_⟩
  · rw [l, List.length_take, List.length_append]; have := hx.1; omega
  · rw [l, List.length_take]; omega
  · rw [e] at hc
    rcases List.mem_append.mp (List.mem_of_mem_take hc) with h | h
    · exact hx.2.2 c h
    · exact hy c h
/-- one of 27 is not among few -/
theorem some_new (w : Str) (l : List Str) (h : l.length ≤ 25) : ∃ x r, (w :: (List.range' 97 26).map sg).filter (fun z => !decide (z ∈ l)) = x :: r := by
  cases e : (w :: (List.range' 97 26).map sg).filter (fun z => !decide (z ∈ l)) with
  | cons x r => exact ⟨x, r, rfl⟩
  | nil =>
    exfalso
    have all : ∀ z ∈ (List.range' 97 26).map sg, z ∈ l := fun z hz => by
      have := (List.filter_eq_nil_iff.mp e) z (List.mem_cons_of_mem _ hz)
      simpa using this
    have nd : ((List.range' 97 26).map sg).Nodup := by decide +kernel
    have := nd.length_le_of_subset all
    simp at this
    omega
structure Names (l : List Str) : Prop where
  nd : l.Nodup
  nm : ∀ z ∈ l, Nm z
section
variable {X : Tx} (hX : HasGen X)
include hX
theorem w_names (n : Nat) {k : Nat} {p : Pool} {m : Nat} (os : List O) (hp : Pk (k + 11 * m) p) (hm : m ≤ 25) :
    ∃ l p', call X (n + 2) "_law_names" [p.t, .pl (.int m)] [] [] os = .ok (.ol (l.map .str)) [p'.t, .un] os ∧ Pk k p' ∧ l.length = m ∧ Names l := by
  rw [call_def hX.names (n + 1) _ os rfl [] rfl]
  simp [Lb.d_law_names, runF, rangeD_lenM]
  rw [if_pos (by omega)]
  simp
  generalize hF : forL _ _ _ _ _ = R
  let st : Pool → List Str → T → T → S := fun p l t4 t5 => ⟨[p.t, .pl (.int m), .pl (.str abc), .ol (l.map .str), t4, t5, .un, .un, .un], os⟩
  let Inv : List D → S → Prop := fun r s => ∃ (l : List Str) (p' : Pool) (t4 t5 : T) (j : Int), s = st p' l t4 t5 ∧ r = rangeD j (m - l.length) ∧ l.length ≤ m ∧ Pk (k + 11 * (m - l.length)) p' ∧ Names l
  have key : ∃ s', R = .ok .nx s' ∧ Inv [] s' := by
    rw [← hF]
    refine forL_all (Inv := Inv) (fun d r s hI => ?_) _ _ ⟨[], p, .un, .un, 0, rfl, rfl, Nat.zero_le _, hp, List.nodup_nil, fun z hz => nomatch hz⟩
    obtain ⟨l, p1, t4, t5, j, rfl, er, hl, hk, hN⟩ := hI
    obtain ⟨q, hq⟩ : ∃ q, m - l.length = q + 1 := by
      cases e : m - l.length with
      | zero => rw [e] at er; cases er
      | succ q => exact ⟨q, rfl⟩
    rw [hq, rangeD] at er
    cases er
    refine ⟨st p1 l (.pl (.int j)) t5, by simp [st], ?_⟩
    -- the word
    refine seq_ex (R := fun s' => ∃ w p3, s' = st p3 l (.pl (.int j)) (.pl (.str w)) ∧ Nm w ∧ Pk (k + 11 * q + 1) p3) ?_ fun s' ⟨w, p3, e, hw, hp3⟩ => ?_
    · obtain ⟨r1, p2, c1, h1, l1, u1⟩ := w_draw hX n os (hk.le (j := (k + 11 * q + 9) + 1 + 1) (by omega)) (m := 8) (by omega) (by omega)
      simp [c1, rangeD_lenM, st]
      rw [if_pos (by omega)]
      simp
      generalize hC : comp _ _ _ _ _ _ _ = C
      let Inv2 : List D → List D → S → Prop := fun ds bs s => ∃ (p' : Pool) (cs : List Nat) (i : Int), s = st p' l (.pl (.int j)) t5 ∧ ds = rangeD i ds.length ∧ bs = cs.map (fun c => .str (sg c)) ∧ (∀ c ∈ cs, 97 ≤ c ∧ c ≤ 122) ∧ cs.length + ds.length = (1 + r1).toNat ∧ Pk (k + 11 * q + 1 + ds.length) p'
      have kC : ∃ bs s1, C = .ok bs { s1 with vs := putBack s1.vs (st p2 l (.pl (.int j)) t5).vs [6] } ∧ Inv2 [] bs s1 := by
        rw [← hC]
        refine comp_inv (Inv := Inv2) rfl (by rw [rangeD_lenM]; omega) ⟨p2, [], 0, rfl, by rw [rangeD_lenM], rfl, fun c hc => (nomatch hc), by rw [rangeD_lenM]; simp, h1.le (by rw [rangeD_lenM]; omega)⟩ fun d r bs s hI => ?_
        obtain ⟨p3, cs, i, rfl, er, rfl, hcs, hlen, hp3⟩ := hI
        rw [List.length_cons, rangeD] at er
        obtain ⟨rfl, er'⟩ := List.cons.inj er
        obtain ⟨r2, p4, c2, h2, l2, u2⟩ := w_draw hX n os (k := k + 11 * q + 1 + r.length) hp3 (m := 26) (by omega) (by omega)
        obtain ⟨c, ec, hc1, hc2⟩ := letter_at l2 u2
        refine ⟨some (.str (sg c)), st p4 l (.pl (.int j)) t5, ?_, p4, cs ++ [c], i + 1, rfl, er', ?_, ?_, ?_, h2⟩
        · simp [turnC, fixC, c2, ec, abc_len, st]
        · simp
        · intro d hd
          rcases List.mem_append.mp hd with h | h
          · exact hcs d h
          · have : d = c := by simpa using h
            omega
        · simp at hlen ⊢; omega
      obtain ⟨bs, s1, rfl, p3, cs, i3, rfl, _, rfl, hcs, hlen, hp3⟩ := kC
      have ej : strsD (cs.map fun c => PyData.str (sg c)) = some (cs.map sg) := by
        have := strsD_strs (cs.map sg)
        rw [List.map_map] at this
        exact this
      have esum : (cs.map (Str.length ∘ sg)).sum + cs.length * (Str.ofString "").length ≤ 1000000 := by
        have := sum_sg cs
        rw [List.map_map] at this
        rw [this, show (Str.ofString "").length = 0 by decide +kernel]
        simp at hlen
        omega
      have ejoin : Txt.join (Str.ofString "") (cs.map sg) = ⟨cs.toArray⟩ := join_signs cs
      have hwl : (⟨cs.toArray⟩ : Str).length = cs.length := by simp [Str.length]
      refine ⟨_, ?_, ⟨cs.toArray⟩, p3, rfl, ⟨by simp at hlen; omega, by simp at hlen; omega, hcs⟩, hp3⟩
      simp [ej, esum, ejoin, st]
    subst e
    refine seq_ex (R := fun s' => ∃ w p3, s' = st p3 l (.pl (.int j)) (.pl (.str w)) ∧ Nm w ∧ Pk (k + 11 * q) p3) ?_ fun s' ⟨w, p3, e, hw, hp3⟩ => ?_
    · by_cases hl0 : l = []
      · subst hl0
        exact ⟨_, by simp [st], w, p3, rfl, hw, hp3.le (by omega)⟩
      · obtain ⟨r2, p4, c2, h2, l2, u2⟩ := w_draw hX n os (k := k + 11 * q) hp3 (m := 3) (by omega) (by omega)
        have elast : atI (l.map PyData.str) (-1) = some (.str (l.getLast hl0)) := by rw [atI_mapM, atI_neg1 l hl0]; rfl
        have hlast := hN.nm _ (List.getLast_mem hl0)
        by_cases hr : r2 = 0
        · subst hr
          refine ⟨_, ?_, cutS (l.getLast hl0 ++ w) none (some 8), p4, rfl, nm_cut hlast hw.2.2, h2⟩
          have e1 : (l.getLast hl0).length + w.length ≤ 1000000 := by have := hlast.2.1; have := hw.2.1; omega
          have e2 : (l.getLast hl0 ++ w).length ≤ 1000000 := by
            have : (l.getLast hl0 ++ w).length = (l.getLast hl0).length + w.length := by
              show ((l.getLast hl0).cps ++ w.cps).size = _
              rw [Array.size_append]; rfl
            omega
          simp [st, hl0, c2, elast, e1, e2]
        · exact ⟨_, by simp [st, hl0, c2, hr], w, p4, rfl, hw, h2⟩
    subst e
    obtain ⟨x, r, hx⟩ := some_new w l (by omega)
    have hxm : x ∈ (w :: (List.range' 97 26).map sg).filter (fun z => !decide (z ∈ l)) := by rw [hx]; exact List.mem_cons_self
    rw [List.mem_filter] at hxm
    have hxl : x ∉ l := by simpa using hxm.2
    have hxn : Nm x := by
      rcases List.mem_cons.mp hxm.1 with h | h
      · rw [h]; exact hw
      · obtain ⟨c, hc, rfl⟩ := List.mem_map.mp h
        exact sg_nm (by simp at hc; omega)
    simp [st]
    generalize hC : comp _ _ _ _ _ _ _ = C
    have kC : C = .ok ((List.range' 97 26).map fun c => .str (sg c)) (st p3 l (.pl (.int j)) (.pl (.str w))) := by
      rw [← hC]
      exact comp_all (enc := fun c => .str (sg c)) (fun c => PyData.str (sg c)) chars_abc rfl (by simp) (fun c _ => by simp [turnC, fixC, st]) rfl rfl
    subst kC
    simp [st]
    generalize hC2 : comp _ _ _ _ _ _ _ = C2
    have kC2 : C2 = .ok (((w :: (List.range' 97 26).map sg).filter (fun z => !decide (z ∈ l))).map .str) (st p3 l (.pl (.int j)) (.pl (.str w))) := by
      rw [← hC2]
      exact comp_if (enc := PyData.str) (fun z => !decide (z ∈ l)) PyData.str (l := w :: (List.range' 97 26).map sg) (by simp) rfl (by simp) (fun z _ => by by_cases hz : z ∈ l <;> simp [turnC, fixC, st, hz]) rfl rfl
    rw [hx] at kC2
    subst kC2
    simp [st]
    rw [if_pos (show l.length ≤ 1000000 by omega)]
    refine ⟨st p3 (l ++ [x]) (.pl (.int j)) (.pl (.str w)), by simp [st], l ++ [x], p3, _, _, j + 1, rfl, ?_, ?_, ?_, ?_, fun z hz => ?_⟩
    · rw [List.length_append, show m - (l.length + [x].length) = q by simp; omega]
    · simp; omega
    · rw [List.length_append]; exact hp3.le (by simp; omega)
    · exact List.nodup_append.mpr ⟨hN.nd, by simp, fun a ha b hb => by rw [List.mem_singleton.mp hb]; exact fun e => hxl (e ▸ ha)⟩
    · rcases List.mem_append.mp hz with h | h
      · exact hN.nm z h
      · rw [List.mem_singleton.mp h]; exact hxn
  obtain ⟨s', rfl, l, p', t4, t5, j, rfl, er, hl, hk, hN⟩ := key
  have : m - l.length = 0 := by
    cases e : m - l.length with
    | zero => rfl
    | succ q => rw [e] at er; cases er
  exact ⟨l, p', by simp [st], hk.le (by omega), by omega, hN⟩
end
end Pl
end PartPlB
section PartPlC
set_option autoImplicit false
set_option linter.all false
set_option maxRecDepth 100000
set_option maxHeartbeats 4000000
/-! PlC: the drawn trusts. -/
namespace Pl
open EV PySem
structure Tie where
  g : Str
  r : Str
  s : Int
  u : Int
  deriving DecidableEq
structure Wish where
  a : Str
  ds : List Str
  s : Int
  u : Int
  deriving DecidableEq
structure Tru where
  o : Str
  ties : List Tie
  wishes : List Wish
def Tie.d (e : Tie) : D := .tuple [.str e.g, .str e.r, .int e.s, .int e.u]
def Wish.d (e : Wish) : D := .tuple [.str e.a, .tuple (e.ds.map .str), .int e.s, .int e.u]
def Tru.d (t : Tru) : D := .tuple [.str t.o, .tuple (t.ties.map Tie.d), .tuple (t.wishes.map Wish.d)]
def kinds : List (List Str) := [["look"], ["set"], ["look", "set"]]
def SpanOk (s u : Int) : Prop := 0 ≤ s ∧ s < u ∧ u ≤ 1000000
structure TieIn (l : List Str) (e : Tie) : Prop where
  g : e.g ∈ l
  r : e.r ∈ l
  ne : e.g ≠ e.r
  sp : SpanOk e.s e.u
structure WishIn (l : List Str) (o : Str) (e : Wish) : Prop where
  a : e.a ∈ l
  ne : e.a ≠ o
  ds : e.ds ∈ kinds
  sp : SpanOk e.s e.u
/-- a trust as it is drawn, its names among l -/
structure Trust (l : List Str) (t : Tru) : Prop where
  nm : Names l
  o : t.o ∈ l
  tl : t.ties.length ≤ 20
  ties : ∀ e ∈ t.ties, TieIn l e
  w1 : 1 ≤ t.wishes.length
  w6 : t.wishes.length ≤ 6
  ws : ∀ e ∈ t.wishes, WishIn l t.o e
  wn : (t.wishes.map Wish.a).Nodup
theorem turn_ne {a d n : Int} (h0 : 0 ≤ a) (h1 : a < n) (d0 : 1 ≤ d) (d1 : d < n) : 0 ≤ (a + d) % n ∧ (a + d) % n < n ∧ (a + d) % n ≠ a := by
  refine ⟨Int.emod_nonneg _ (by omega), Int.emod_lt_of_pos _ (by omega), ?_⟩
  by_cases h : a + d < n
  · rw [Int.emod_eq_of_lt (by omega) h]; omega
  · have e : (a + d) % n = a + d - n := by
      rw [← Int.sub_emod_right, Int.emod_eq_of_lt (by omega) (by omega)]
    rw [e]; omega
theorem pick4 (x : Int) {i : Int} (h0 : 0 ≤ i) (h1 : i < 4) : ∃ w, atI [PyData.int 0, .int 1, .int 2, .int x] i = some (.int w) := by
  have : i = 0 ∨ i = 1 ∨ i = 2 ∨ i = 3 := by omega
  rcases this with rfl | rfl | rfl | rfl <;> simp
section
variable {X : Tx} (hX : HasGen X)
include hX
theorem w_trust (n : Nat) {k : Nat} {p : Pool} {m : Nat} (os : List O) (hp : Pk (k + 300) p) (hm : 1 ≤ m) (hm7 : m ≤ 7) :
    ∃ t l p', call X (n + 3) "_law_trust" [p.t, .pl (.int m)] [] [] os = .ok (.pl t.d) [p'.t, .un] os ∧ Pk k p' ∧ Trust l t ∧ l.length ≤ m + 1 := by
  rw [call_def hX.trust (n + 2) _ os rfl [] rfl]
  let st : Pool → List Str → Int → List Tie → T → T → T → T → T → T → T → T → S := fun p l kd ts a5 a6 a7 a8 a9 a10 a11 a12 => ⟨[p.t, .pl (.int m), .ol (l.map .str), .pl (.int kd), .ol (ts.map Tie.d), a5, a6, a7, a8, a9, a10, a11, a12], os⟩
  have main : ∃ f s2, exCs { (⟨call X (n + 2), X.con, X.sub, X.xf, X.fuel, []⟩ : Pm) with fix := fixOf 0 ([p.t, .pl (.int m)] ++ []) } Lb.d_law_trust.body ⟨([p.t, .pl (.int m)] ++ []) ++ List.replicate (Lb.d_law_trust.n - ([p.t, .pl (.int m)] ++ [] : List T).length) .un, os⟩ = .ok f s2 ∧ ∃ t l p' r, f = .rt (.pl (Tru.d t)) ∧ s2 = ⟨p'.t :: r, os⟩ ∧ Pk k p' ∧ Trust l t ∧ l.length ≤ m + 1 := by
    unfold Lb.d_law_trust
    -- names
    refine seq_fl (R := fun s' => ∃ l p1, s' = ⟨[p1.t, .pl (.int m), .ol (l.map .str), .un, .un, .un, .un, .un, .un, .un, .un, .un, .un], os⟩ ∧ Names l ∧ 2 ≤ l.length ∧ l.length ≤ m + 1 ∧ Pk (k + 200) p1) ?_ fun s' ⟨l, p1, e, hN, hl2, hlm, hp1⟩ => ?_
    · obtain ⟨r1, p1, c1, h1, l1, u1⟩ := w_draw hX (n + 1) os (hp.le (j := k + 288 + 1) (by omega)) (m := m) (by omega) (by omega)
      obtain ⟨q, hq⟩ := Int.eq_ofNat_of_zero_le (show 0 ≤ 2 + r1 by omega)
      obtain ⟨l, p2, c2, h2, hl, hN⟩ := w_names hX n os (h1.le (j := k + 200 + 11 * q) (by omega)) (m := q) (by omega)
      rw [← hq] at c2
      exact ⟨_, by simp [c1, c2], l, p2, rfl, hN, by omega, by omega, h2⟩
    subst e
    -- kind, ties
    refine seq_fl (R := fun s' => ∃ kd p2, s' = ⟨[p2.t, .pl (.int m), .ol (l.map .str), .pl (.int kd), .un, .un, .un, .un, .un, .un, .un, .un, .un], os⟩ ∧ 0 ≤ kd ∧ kd < 4 ∧ Pk (k + 199) p2) ?_ fun s' ⟨kd, p2, e, kd0, kd4, hp2⟩ => ?_
    · obtain ⟨r1, p2, c1, h1, l1, u1⟩ := w_draw hX (n + 1) os hp1 (m := 4) (by omega) (by omega)
      exact ⟨_, by simp [c1], r1, p2, rfl, l1, u1, h1⟩
    subst e
    rw [exCs_nx (s' := st p2 l kd [] .un .un .un .un .un .un .un .un) (by simp [st])]
    have len1 : (1 : Int) + (l.length - 1 : Nat) = l.length := by omega
    have fits : -1000000 ≤ (l.length : Int) ∧ (l.length : Int) ≤ 1000000 := by omega
    have span_at : ∀ (p : Pool) (j : Nat) (x : Int), Pk (j + 2) p → ∃ w s u p', atI [PyData.int 0, .int 1, .int 2, .int x] kd = some (.int w) ∧ call X (n + 2) "_law_span" [p.t, .pl (.int w)] [] [] os = .ok (.pl (.tuple [.int s, .int u])) [p'.t, .un] os ∧ Pk j p' ∧ SpanOk s u := fun p j x hp => by
      obtain ⟨w, ew⟩ := pick4 x kd0 kd4
      obtain ⟨s, u, p', c, h, q1, q2, q3⟩ := w_span hX n (way := w) os hp
      exact ⟨w, s, u, p', ew, c, h, q1, q2, q3⟩
    -- the first ties
    refine seq_fl (R := fun s' => ∃ p3 ts a5, s' = st p3 l kd ts a5 .un .un .un .un .un .un .un ∧ ts.length ≤ 7 ∧ (∀ e ∈ ts, TieIn l e) ∧ Pk (k + 150) p3) ?_ fun s' ⟨p3, ts, a5, e, ht7, hts, hp3⟩ => ?_
    · refine for_ex (ds := rangeD 1 (l.length - 1)) (s1 := st p2 l kd [] .un .un .un .un .un .un .un .un) (by simp [st, fits]) ?_
      refine forL_ex (Inv := fun r s => ∃ (i : Nat) (p3 : Pool) (ts : List Tie) (a5 : T), s = st p3 l kd ts a5 .un .un .un .un .un .un .un ∧ r = rangeD ((i : Int) + 1) (l.length - 1 - i) ∧ ts.length ≤ i ∧ (∀ e ∈ ts, TieIn l e) ∧ i ≤ l.length - 1 ∧ Pk (k + 150 + 4 * (l.length - 1 - i)) p3) (fun d r s hI => ?_) ⟨0, p2, [], .un, rfl, rfl, Nat.le_refl _, (fun e he => nomatch he), Nat.zero_le _, hp2.le (by omega)⟩ fun s' ⟨i, p3, ts, a5, e, er, h1, h2, h3, h4⟩ => ⟨p3, ts, a5, e, by have := rangeD_nil er; omega, h2, h4.le (by omega)⟩
      obtain ⟨i, p3, ts, a5, rfl, er, h1, h2, h3, h4⟩ := hI
      obtain ⟨q, eq, rfl, rfl⟩ := rangeD_cons er
      refine ⟨st p3 l kd ts (.pl (.int ((i : Int) + 1))) .un .un .un .un .un .un .un, by simp [st], ?_⟩
      obtain ⟨r1, p4, c1, k1, l1, u1⟩ := w_draw hX (n + 1) os (k := k + 150 + 4 * q + 3) (h4.le (by omega)) (m := 6) (by omega) (by omega)
      by_cases hr : 0 < r1
      · obtain ⟨r2, p5, c2, k2, l2, u2⟩ := w_draw hX (n + 1) os (k := k + 150 + 4 * q + 2) k1 (m := (i : Int) + 1) (by omega) (by omega)
        obtain ⟨w, s, u, p6, ew, c3, k3, sp⟩ := span_at p5 (k + 150 + 4 * q) (((i : Int) + 1) % 3) k2
        obtain ⟨z1, m1, e1, g1⟩ := at_strs (l := l) l2 (by omega)
        obtain ⟨z2, m2, e2, g2⟩ := at_strs (l := l) (i := (i : Int) + 1) (by omega) (by omega)
        refine ⟨st p6 l kd (ts ++ [⟨z1, z2, s, u⟩]) (.pl (.int ((i : Int) + 1))) .un .un .un .un .un .un .un, ?_, i + 1, p6, _, _, rfl, by rw [show l.length - 1 - (i + 1) = q by omega]; rfl, by simp; omega, fun e he => ?_, by omega, k3.le (by omega)⟩
        · have hsm : ts.length ≤ 1000000 := by omega
          simp [st, c1, c2, c3, ew, e1, e2, hr, Tie.d, hsm]
        · rcases List.mem_append.mp he with h | h
          · exact h2 e h
          · rw [List.mem_singleton.mp h]
            exact ⟨m1, m2, nodup_ne hN.nd g1 g2 (by omega), sp⟩
      · exact ⟨st p4 l kd ts (.pl (.int ((i : Int) + 1))) .un .un .un .un .un .un .un, by simp [st, c1, hr], i + 1, p4, ts, _, rfl, by rw [show l.length - 1 - (i + 1) = q by omega]; rfl, by omega, h2, by omega, k1.le (by omega)⟩
    subst e
    -- more ties
    refine seq_fl (R := fun s' => ∃ p4 ts a5 a6 a7, s' = st p4 l kd ts a5 a6 a7 .un .un .un .un .un ∧ ts.length ≤ 20 ∧ (∀ e ∈ ts, TieIn l e) ∧ Pk (k + 40) p4) ?_ fun s' ⟨p4, ts, a5, a6, a7, e, ht20, hts, hp4⟩ => ?_
    · obtain ⟨r1, p4, c1, k1, l1, u1⟩ := w_draw hX (n + 1) os (k := k + 149) hp3 (m := 21 - (ts.length : Int)) (by omega) (by omega)
      obtain ⟨q0, hq0⟩ := Int.eq_ofNat_of_zero_le l1
      subst hq0
      have hq1 : -1000000 ≤ (q0 : Int) ∧ (q0 : Int) ≤ 1000000 := by omega
      refine for_ex (ds := rangeD 0 q0) (s1 := st p4 l kd ts a5 .un .un .un .un .un .un .un) (by simp [st, c1, hq1]) ?_
      refine forL_ex (Inv := fun r s => ∃ (i q : Nat) (p5 : Pool) (ts : List Tie) (a5 a6 a7 : T), s = st p5 l kd ts a5 a6 a7 .un .un .un .un .un ∧ r = rangeD (i : Int) q ∧ ts.length + q ≤ 20 ∧ (∀ e ∈ ts, TieIn l e) ∧ Pk (k + 40 + 4 * q) p5) (fun d r s hI => ?_) ⟨0, q0, p4, ts, a5, .un, .un, rfl, rfl, by omega, hts, k1.le (by omega)⟩ fun s' ⟨i, q, p5, ts, a5, a6, a7, e, er, h1, h2, h4⟩ => ⟨p5, ts, a5, a6, a7, e, by have := rangeD_nil er; omega, h2, h4.le (by omega)⟩
      obtain ⟨i, q', p5, ts, a5, a6, a7, rfl, er, h1, h2, h4⟩ := hI
      obtain ⟨q, rfl, rfl, rfl⟩ := rangeD_cons er
      refine ⟨st p5 l kd ts (.pl (.int (i : Int))) a6 a7 .un .un .un .un .un, by simp [st], ?_⟩
      obtain ⟨one, p6, c1, k1, l1, u1⟩ := w_draw hX (n + 1) os (k := k + 40 + 4 * q + 3) (h4.le (by omega)) (m := (l.length : Int)) (by omega) (by omega)
      obtain ⟨dd, p7, c2, k2, l2, u2⟩ := w_draw hX (n + 1) os (k := k + 40 + 4 * q + 2) k1 (m := (l.length : Int) - 1) (by omega) (by omega)
      obtain ⟨w, s, u, p8, ew, c3, k3, sp⟩ := span_at p7 (k + 40 + 4 * q) ((i : Int) % 3) k2
      obtain ⟨o0, o1, o2⟩ := turn_ne (a := one) (d := 1 + dd) (n := (l.length : Int)) l1 u1 (by omega) (by omega)
      rw [← Int.add_assoc] at o0 o1 o2
      obtain ⟨z1, m1, e1, g1⟩ := at_strs (l := l) l1 u1
      obtain ⟨z2, m2, e2, g2⟩ := at_strs (l := l) o0 o1
      have hl0 : 0 < l.length := by omega
      refine ⟨st p8 l kd (ts ++ [⟨z1, z2, s, u⟩]) (.pl (.int (i : Int))) (.pl (.int one)) (.pl (.int ((one + 1 + dd) % l.length))) .un .un .un .un .un, ?_, i + 1, q, p8, _, _, _, _, rfl, rfl, by simp; omega, fun e he => ?_, k3⟩
      · have hsm : ts.length ≤ 1000000 := by omega
        simp [st, c1, c2, c3, ew, e1, e2, Tie.d, hsm, hl0]
      · rcases List.mem_append.mp he with h | h
        · exact h2 e h
        · rw [List.mem_singleton.mp h]
          exact ⟨m1, m2, nodup_ne hN.nd g1 g2 (by omega), sp⟩
    subst e
    -- left, wishes
    obtain ⟨o, ls, rfl⟩ : ∃ o ls, l = o :: ls := by
      cases l with
      | nil => simp at hl2
      | cons o ls => exact ⟨o, ls, rfl⟩
    rw [exCs_nx (s' := st p4 (o :: ls) kd ts a5 a6 a7 (.ol (ls.map .str)) .un .un .un .un) (by simp [st])]
    rw [exCs_nx (s' := st p4 (o :: ls) kd ts a5 a6 a7 (.ol (ls.map .str)) (.ol []) .un .un .un) (by simp [st])]
    refine seq_fl (R := fun s' => ∃ (p5 : Pool) (ws : List Wish) (a5 a8 a10 a11 a12 : T), s' = st p5 (o :: ls) kd ts a5 a6 a7 a8 (.ol (ws.map Wish.d)) a10 a11 a12 ∧ 1 ≤ ws.length ∧ ws.length ≤ 6 ∧ (∀ e ∈ ws, WishIn (o :: ls) o e) ∧ (ws.map Wish.a).Nodup ∧ Pk k p5) ?_ fun s' ⟨p5, ws, a5, a8, a10, a11, a12, e, w1, w6, hws, hwn, hp5⟩ => ?_
    · obtain ⟨r1, p5, c1, k1, l1, u1⟩ := w_draw hX (n + 1) os (k := k + 39) hp4 (m := if (ls.length : Int) < 6 then ls.length else 6) (by simp at hl2; split <;> omega) (by split <;> omega)
      obtain ⟨q0, hq0⟩ := Int.eq_ofNat_of_zero_le l1
      subst hq0
      have hq6 : q0 < 6 ∧ q0 < ls.length := by
        split at u1 <;> omega
      have hq1 : -1000000 ≤ 1 + (q0 : Int) ∧ 1 + (q0 : Int) ≤ 1000000 := by omega
      refine for_ex (ds := rangeD 0 (q0 + 1)) (s1 := st p5 (o :: ls) kd ts a5 a6 a7 (.ol (ls.map .str)) (.ol []) .un .un .un) (by simp [st, c1, hq1, show (1 + (q0 : Int)).toNat = q0 + 1 by omega]) ?_
      refine forL_ex (Inv := fun r s => ∃ (i q : Nat) (p6 : Pool) (ws : List Wish) (lf : List Str) (a5 a10 a11 a12 : T), s = st p6 (o :: ls) kd ts a5 a6 a7 (.ol (lf.map .str)) (.ol (ws.map Wish.d)) a10 a11 a12 ∧ r = rangeD (i : Int) q ∧ ws.length = i ∧ q ≤ lf.length ∧ i + q = q0 + 1 ∧ (∀ e ∈ ws, WishIn (o :: ls) o e) ∧ (ws.map Wish.a ++ lf).Nodup ∧ (∀ z ∈ lf, z ∈ ls) ∧ Pk (k + 4 * q) p6) (fun d r s hI => ?_) ⟨0, q0 + 1, p5, [], ls, a5, .un, .un, .un, rfl, rfl, rfl, by omega, by omega, (fun e he => nomatch he), (List.nodup_cons.mp hN.nd).2, fun z hz => hz, k1.le (by omega)⟩ fun s' ⟨i, q, p6, ws, lf, a5, a10, a11, a12, e, er, h1, h2, h3, h4, h5, h6, h7⟩ => ⟨p6, ws, a5, _, a10, a11, a12, e, by have := rangeD_nil er; omega, by have := rangeD_nil er; omega, h4, (List.nodup_append.mp h5).1, h7.le (by omega)⟩
      obtain ⟨i, q', p6, ws, lf, a5, a10, a11, a12, rfl, er, h1, h2, h3, h4, h5, h6, h7⟩ := hI
      obtain ⟨q, rfl, rfl, rfl⟩ := rangeD_cons er
      refine ⟨st p6 (o :: ls) kd ts (.pl (.int (i : Int))) a6 a7 (.ol (lf.map .str)) (.ol (ws.map Wish.d)) a10 a11 a12, by simp [st], ?_⟩
      have hlf : lf.length ≤ 1000000 := by
        have := (List.nodup_append.mp h5).2.1.length_le_of_subset h6
        simp at hlm
        omega
      obtain ⟨r1, p7, c1, k1, l1, u1⟩ := w_draw hX (n + 1) os (k := k + 4 * q + 3) (h7.le (by omega)) (m := (lf.length : Int)) (by omega) (by omega)
      obtain ⟨r2, p8, c2, k2, l2, u2⟩ := w_draw hX (n + 1) os (k := k + 4 * q + 2) k1 (m := 20) (by omega) (by omega)
      obtain ⟨r3, p9, c3, k3, l3, u3⟩ := w_draw hX (n + 1) os (k := k + 4 * q + 1) k2 (m := 3) (by omega) (by omega)
      obtain ⟨r4, p10, c4, k4, l4, u4⟩ := w_draw hX (n + 1) os (k := k + 4 * q) k3 (m := 6) (by omega) (by omega)
      obtain ⟨j, hj⟩ := Int.eq_ofNat_of_zero_le l1
      subst hj
      have hjl : j < lf.length := by omega
      have ex : ixN lf.length (j : Int) = some j := by unfold ixN; rw [if_pos (by omega), if_pos (by omega)]; rfl
      obtain ⟨ds, hds, eds⟩ : ∃ ds ∈ kinds, atI [PyData.tuple [.str "look"], .tuple [.str "set"], .tuple [.str "look", .str "set"]] r3 = some (.tuple (ds.map .str)) := by
        have : r3 = 0 ∨ r3 = 1 ∨ r3 = 2 := by omega
        rcases this with rfl | rfl | rfl
        · exact ⟨["look"], by simp [kinds], by simp⟩
        · exact ⟨["set"], by simp [kinds], by simp⟩
        · exact ⟨["look", "set"], by simp [kinds], by simp⟩
      have hws6 : ws.length ≤ 1000000 := by omega
      have hmem : lf[j] ∈ lf := List.getElem_mem hjl
      refine ⟨st p10 (o :: ls) kd ts (.pl (.int (i : Int))) a6 a7 (.ol ((lf.eraseIdx j).map .str)) (.ol ((ws ++ [Wish.mk lf[j] ds r2 (r2 + 1 + r4)]).map Wish.d)) (.pl (.str lf[j])) (.pl (.int r2)) (.pl (.tuple (ds.map .str))), ?_, i + 1, q, p10, _, lf.eraseIdx j, _, _, _, _, rfl, rfl, by simp; omega, by rw [List.length_eraseIdx, if_pos hjl]; omega, by omega, fun e he => ?_, ?_, fun z hz => h6 z (List.mem_of_mem_eraseIdx hz), k4⟩
      · simp [st, c1, c2, c3, c4, ex, eds, hlf, hws6, hjl, Wish.d]
        exact erase_map _ _ _
      · rcases List.mem_append.mp he with h | h
        · exact h4 e h
        · rw [List.mem_singleton.mp h]
          have hz := h6 _ hmem
          exact ⟨List.mem_cons_of_mem _ hz, fun e => (List.nodup_cons.mp hN.nd).1 (e ▸ hz), hds, l2, by show r2 < r2 + 1 + r4; omega, by show r2 + 1 + r4 ≤ 1000000; omega⟩
      · have hp : (ws.map Wish.a ++ lf).Perm (((ws ++ [Wish.mk lf[j] ds r2 (r2 + 1 + r4)]).map Wish.a) ++ lf.eraseIdx j) := by
          rw [List.map_append, List.append_assoc]
          exact List.Perm.append_left _ (erase_perm lf j hjl)
        exact hp.nodup h5
    subst e
    refine ⟨_, _, by simp [st]; exact ⟨rfl, rfl⟩, ⟨o, ts, ws⟩, o :: ls, p5, _, by simp [Tru.d], rfl, hp5, ⟨hN, List.mem_cons_self, ht20, hts, w1, w6, hws, hwn⟩, hlm⟩
  obtain ⟨f, s2, e, t, l, p', r, rfl, rfl, h1, h2, h3⟩ := main
  exact ⟨t, l, p', by rw [run_ret e]; simp, h1, h2, h3⟩
end
end Pl
end PartPlC
section PartPlD
set_option autoImplicit false
set_option linter.all false
set_option maxRecDepth 100000
set_option maxHeartbeats 4000000
/-! PlD: names, numbers, leaves, trusts: what the program takes for one. -/
namespace Pl
open EV PySem
def inAbc (c : Nat) : Bool := decide (97 ≤ c ∧ c ≤ 122)
def nmOk (z : Str) : Bool := decide (1 ≤ z.length) && decide (z.length ≤ 8) && z.cps.toList.all inAbc
theorem nmB_iff {z : Str} : nmOk z = true ↔ Nm z := by
  unfold nmOk Nm inAbc
  rw [Bool.and_eq_true, Bool.and_eq_true, decide_eq_true_eq, decide_eq_true_eq, List.all_eq_true, and_assoc]
  simp only [decide_eq_true_eq]
def isName : D → Bool
  | .str z => nmOk z
  | _ => false
def isWhole : D → Bool
  | .int _ => true
  | _ => false
def isBetween (d : D) (lo hi : Int) : Bool := match d with
  | .int i => decide (lo ≤ i) && decide (i ≤ hi)
  | _ => false
def eqS : D → D → Bool
  | .str a, .str b => decide (a = b)
  | _, _ => false
def ltI : D → D → Bool
  | .int a, .int b => decide (a < b)
  | _, _ => false
def kindsD : List D := [.tuple [.str "look"], .tuple [.str "set"], .tuple [.str "look", .str "set"]]
def isDeeds (d : D) : Bool := match d with
  | .tuple ds => kindsD.any fun k => PyData.eqv k (.tuple ds)
  | _ => false
def areMoments (s u : D) : Bool := isBetween s 0 1000000 && isBetween u 0 1000000 && ltI s u
/-- a leave of number 0 -/
def isLeave (ds g h s u p : D) : Bool := isName g && isName h && !eqS g h && isDeeds ds && areMoments s u && isBetween p 0 6
/-- what may be looked at: texts not too long, dicts with keys that are numbers, texts -/
def fineD : D → Bool
  | .str z => decide (z.length ≤ 1000000)
  | .dict kvs => kvs.all fun p => okKey p.1
  | _ => true
theorem fine_xo {kvs : List (D × D)} (h : fineD (.dict kvs) = true) : xoOf (.dict kvs) = none := by
  unfold xoOf
  split
  · rename_i e
    cases e
    simp [fineD, okKey] at *
  · rfl
structure HasLeaf (X : Tx) : Prop where
  is_name : X.fd "is_name" = some Lb.d_is_name
  is_whole : X.fd "is_whole" = some Lb.d_is_whole
  is_between : X.fd "is_between" = some Lb.d_is_between
  is_number : X.fd "is_number" = some Lb.d_is_number
  are_moments : X.fd "are_moments" = some Lb.d_are_moments
  is_under : X.fd "is_under" = some Lb.d_is_under
  is_leave : X.fd "is_leave" = some Lb.d_is_leave
  as_leave : X.fd "as_leave" = some Lb.d_as_leave
  c1 : X.con "MOST_LETTERS" = some (.int 8)
  c2 : X.con "GREATEST" = some (.int 999999999)
  c3 : X.con "LAST_MOMENT" = some (.int 1000000)
  c4 : X.con "MOST_PASSES" = some (.int 6)
  c5 : X.con "SMALL" = some (.str "abcdefghijklmnopqrstuvwxyz")
  c6 : X.con "KINDS_OF_DEEDS" = some (.tuple kindsD)
theorem occ_abc (c : Nat) : (!(Builtin.Str.occurrences abc (sg c) 0 abc.length 1).isEmpty) = inAbc c := by
  rw [show sg c = (⟨#[c]⟩ : Str) from rfl, StrLaws.found_one, abc_eq]
  unfold inAbc
  congr 1
  simp
  omega
section
variable {X : Tx} (hX : HasLeaf X)
include hX
theorem w_is_name (n : Nat) (d : D) (os : List O) (hf : fineD d = true) : call X (n + 1) "is_name" [(T.pl d).bor] [] [] os = .ok (.pl (.bool (isName d))) [.un] os := by
  rw [call_def hX.is_name n _ os rfl [] rfl]
  cases d with
  | str z =>
    have hz : z.length ≤ 1000000 := by simpa [fineD] using hf
    by_cases h1 : 1 ≤ z.length
    · by_cases h2 : z.length ≤ 8
      · simp [Lb.d_is_name, runF, typeIs, hz, hX.c1, h1, show (1 : Int) ≤ z.length by omega, show (z.length : Int) ≤ 8 by omega]
        generalize hC : comp _ _ _ _ _ _ _ = C
        have kC : C = .ok (z.cps.toList.map fun c => .bool (inAbc c)) ⟨[.pl (.str z), .un], os⟩ := by
          rw [← hC]
          exact comp_all (enc := fun c => PyData.str (sg c)) (fun c => PyData.bool (inAbc c)) rfl rfl (by simp; exact Nat.le_trans h2 (by omega)) (fun c _ => by simp [turnC, fixC, hX.c5, inD, ← occ_abc c, Bool.not_eq_true']) rfl rfl
        subst kC
        simp [isName, nmOk, h1, h2]
      · have e : nmOk z = false := by unfold nmOk; simp [h2]
        have h2' : ¬ ((z.length : Int) ≤ 8) := by omega
        simp [Lb.d_is_name, runF, typeIs, hz, hX.c1, h1, isName, e, show (1 : Int) ≤ z.length by omega, h2']
    · have e : nmOk z = false := by unfold nmOk; simp [h1]
      have h1' : ¬ ((1 : Int) ≤ z.length) := by omega
      simp [Lb.d_is_name, runF, typeIs, hz, h1', isName, e]
  | dict kvs => simp [Lb.d_is_name, runF, typeIs, isName, fine_xo hf]
  | _ => simp [Lb.d_is_name, runF, typeIs, isName]
theorem w_is_whole (n : Nat) (d : D) (os : List O) (hf : fineD d = true) : call X (n + 1) "is_whole" [(T.pl d).bor] [] [] os = .ok (.pl (.bool (isWhole d))) [.un] os := by
  rw [call_def hX.is_whole n _ os rfl [] rfl]
  cases d with
  | dict kvs => simp [Lb.d_is_whole, runF, typeIs, isWhole, fine_xo hf]
  | _ => simp [Lb.d_is_whole, runF, typeIs, isWhole]
theorem w_is_between (n : Nat) (d : D) (lo hi : Int) (os : List O) (hf : fineD d = true) : call X (n + 2) "is_between" [(T.pl d).bor, .pl (.int lo), .pl (.int hi)] [] [] os = .ok (.pl (.bool (isBetween d lo hi))) [.un, .un, .un] os := by
  rw [call_def hX.is_between (n + 1) _ os rfl [] rfl]
  have c1 := w_is_whole hX n d os hf
  cases d with
  | int i =>
    simp [isWhole] at c1
    by_cases h : lo ≤ i <;> simp [Lb.d_is_between, runF, c1, isBetween, h]
  | _ =>
    simp [isWhole] at c1
    simp [Lb.d_is_between, runF, c1, isBetween]
theorem w_is_number (n : Nat) (d : D) (os : List O) (hf : fineD d = true) : call X (n + 3) "is_number" [(T.pl d).bor] [] [] os = .ok (.pl (.bool (isBetween d 0 999999999))) [.un] os := by
  rw [call_def hX.is_number (n + 2) _ os rfl [] rfl]
  have c1 := w_is_between hX n d 0 999999999 os hf
  cases d <;> (simp at c1; simp [Lb.d_is_number, runF, c1, hX.c2])
theorem w_are_moments (n : Nat) (s u : D) (os : List O) (hs : fineD s = true) (hu : fineD u = true) : call X (n + 3) "are_moments" [(T.pl s).bor, (T.pl u).bor] [] [] os = .ok (.pl (.bool (areMoments s u))) [.un, .un] os := by
  rw [call_def hX.are_moments (n + 2) _ os rfl [] rfl]
  have c1 := w_is_between hX n s 0 1000000 os hs
  have c2 := w_is_between hX n u 0 1000000 os hu
  unfold areMoments
  cases h1 : isBetween s 0 1000000 with
  | false =>
    rw [h1] at c1
    cases s <;> (simp at c1; cases u <;> simp [Lb.d_are_moments, runF, c1, hX.c3])
  | true =>
    obtain ⟨i, rfl⟩ : ∃ i, s = .int i := by
      cases s <;> first | exact ⟨_, rfl⟩ | (simp [isBetween] at h1)
    rw [h1] at c1
    cases h2 : isBetween u 0 1000000 with
    | false =>
      rw [h2] at c2
      simp at c1
      cases u <;> (simp at c2; simp [Lb.d_are_moments, runF, c1, c2, hX.c3])
    | true =>
      obtain ⟨j, rfl⟩ : ∃ i, u = .int i := by
        cases u <;> first | exact ⟨_, rfl⟩ | (simp [isBetween] at h2)
      rw [h2] at c2
      simp at c1 c2
      simp [Lb.d_are_moments, runF, c1, c2, hX.c3, ltI]
end
end Pl
end PartPlD
section PartPlE
set_option autoImplicit false
set_option linter.all false
set_option maxRecDepth 100000
set_option maxHeartbeats 4000000
/-! PlE: leaves, ties, wishes. -/
namespace Pl
open EV PySem
theorem isName_str {d : D} (h : isName d = true) : ∃ z, d = .str z := by
  cases d <;> first | exact ⟨_, rfl⟩ | (simp [isName] at h)
/-- a leave by its parts, of no leave above -/
def isLeaveG (i : Int) (r : Str) (ds g h s u p : D) : Bool := isBetween (.int i) 0 999999999 && (nmOk r && isName g && isName h) && !eqS g h && isDeeds ds && areMoments s u && isBetween p 0 6
def okTup (d : D) : Bool := match d with
  | .tuple ds => okD (.tuple ds)
  | _ => true
theorem in_kinds {dz : List D} (h : okTup (.tuple dz) = true) : inD (.tuple dz) (.tuple kindsD) = some (isDeeds (.tuple dz)) := by
  have h : okD (.tuple dz) = true := h
  have e : allOk (.tuple dz) kindsD = true := by
    unfold allOk
    rw [h]
    decide +kernel
  show (if allOk (.tuple dz) kindsD then some (kindsD.any fun d => PyData.eqv d (.tuple dz)) else none) = _
  rw [e]; rfl
section
variable {X : Tx} (hX : HasLeaf X)
include hX
theorem w_is_under (n : Nat) (i : Int) (os : List O) : call X (n + 1) "is_under" [.pl .none, .pl (.int i)] [] [] os = .ok (.pl (.bool true)) [.un, .un] os := by
  rw [call_def hX.is_under n _ os rfl [] rfl]
  simp [Lb.d_is_under, runF]
theorem w_is_leave (n : Nat) (i : Int) (r : Str) (ds g h s u p : D) (os : List O) (fr : r.length ≤ 1000000) (fd : okTup ds = true) (fg : fineD g = true) (fh : fineD h = true) (fs : fineD s = true) (fu : fineD u = true) (fp : fineD p = true) (fx : fineD ds = true) :
    call X (n + 4) "is_leave" [.pl (.tuple [.int i, .str r, ds, g, h, s, u, p, .none])] [] [] os = .ok (.pl (.bool (isLeaveG i r ds g h s u p))) [.un] os := by
  rw [call_def hX.is_leave (n + 3) _ os rfl [] rfl]
  have c1 := w_is_number hX n (.int i) os rfl
  have c2 : ∀ x, fineD x = true → call X (n + 3) "is_name" [(T.pl x).bor] [] [] os = .ok (.pl (.bool (isName x))) [.un] os := fun x hx => w_is_name hX (n + 2) x os hx
  have c3 := w_are_moments hX n s u os fs fu
  have c4 := w_is_between hX (n + 1) p 0 6 os fp
  have c5 := w_is_under hX (n + 2) i os
  have fnm : ∀ x ∈ [PyData.str r, g, h], fineD x = true := by
    intro x hx
    simp only [List.mem_cons, List.not_mem_nil, or_false] at hx
    rcases hx with rfl | rfl | rfl
    · simpa [fineD] using fr
    · exact fg
    · exact fh
  unfold isLeaveG
  simp at c1
  cases h1 : isBetween (.int i) 0 999999999 with
  | false =>
    rw [h1] at c1
    simp [Lb.d_is_leave, runF, typeIs, c1]
  | true =>
    rw [h1] at c1
    simp [Lb.d_is_leave, runF, typeIs, c1]
    generalize hC : comp _ _ _ _ _ _ _ = C
    have kC : C = .ok ([PyData.str r, g, h].map fun x => .bool (isName x)) ⟨[.pl (.tuple [.int i, .str r, ds, g, h, s, u, p, .none]), .pl (.int i), .pl (.str r), .pl ds, .pl g, .pl h, .pl s, .pl u, .pl p, .pl .none, .un], os⟩ := by
      rw [← hC]
      exact comp_all (enc := id) (fun x => PyData.bool (isName x)) rfl rfl (by simp) (fun x hx => by simp [turnC, fixC, c2 x (fnm x hx)]) rfl rfl
    subst kC
    have eN : isName (.str r) = nmOk r := rfl
    cases h2 : (nmOk r && isName g && isName h) with
    | false =>
      have h2' : nmOk r = true → isName g = true → isName h = false := by
        intro a b
        rw [a, b] at h2
        simpa using h2
      by_cases a : nmOk r = true
      · by_cases b : isName g = true
        · simp [eN, a, b, h2' a b]
        · simp [eN, a, b]
      · simp [eN, a]
    | true =>
      rw [Bool.and_eq_true, Bool.and_eq_true] at h2
      obtain ⟨⟨a, b⟩, c⟩ := h2
      obtain ⟨x, rfl⟩ := isName_str b
      obtain ⟨y, rfl⟩ := isName_str c
      by_cases e : x = y
      · subst e
        simp [eN, a, b, eqS]
      · have c1' : ∀ z : Bool, (if z = true then z else false) = z := by decide
        cases ds with
        | tuple dz =>
          have eD := in_kinds fd
          cases hd : isDeeds (.tuple dz) with
          | false => simp [eN, a, b, c, eqS, e, xoOf, typeIs, hX.c6, eD, hd]
          | true =>
            cases hm : areMoments s u with
            | false =>
              rw [hm] at c3
              simp [eN, a, b, c, eqS, e, xoOf, typeIs, hX.c6, eD, hd, c3]
            | true =>
              rw [hm] at c3
              cases hp : isBetween p 0 6 with
              | false =>
                rw [hp] at c4
                simp [eN, a, b, c, eqS, e, xoOf, typeIs, hX.c6, hX.c4, eD, hd, c3, c4]
              | true =>
                rw [hp] at c4
                simp [eN, a, b, c, eqS, e, xoOf, typeIs, hX.c6, hX.c4, eD, hd, c3, c4, c5]
        | dict kvs => simp [eN, a, b, c, eqS, e, fine_xo fx, typeIs, isDeeds]
        | _ => simp [eN, a, b, c, eqS, e, xoOf, typeIs, isDeeds]
end
end Pl
end PartPlE
section PartPlF
set_option autoImplicit false
set_option linter.all false
set_option maxRecDepth 100000
set_option maxHeartbeats 4000000
/-! PlF: ties, wishes, trusts. -/
namespace Pl
open EV PySem
def isRow (m : Int) : D → Bool
  | .tuple ds => decide ((ds.length : Int) = m)
  | _ => false
def bothD : D := .tuple [.str "look", .str "set"]
def isTie : D → Bool
  | .tuple [g, r, s, u] => isLeaveG 0 "room" bothD g r s u (.int 0)
  | _ => false
def isWish (o : D) : D → Bool
  | .tuple [a, ds, s, u] => isLeaveG 0 "room" ds o a s u (.int 0)
  | _ => false
/-- parts that may be looked at -/
def fineRow : D → Bool
  | .tuple ds => ds.all fun d => fineD d && okTup d
  | d => fineD d
def hd0 : D → D
  | .tuple (x :: _) => x
  | _ => .none
def hd1 : D → D
  | .tuple (_ :: x :: _) => x
  | _ => .none
structure HasTrust (X : Tx) : Prop extends HasLeaf X where
  is_row_of : X.fd "is_row_of" = some Lb.d_is_row_of
  is_tie : X.fd "is_tie" = some Lb.d_is_tie
  is_wish : X.fd "is_wish" = some Lb.d_is_wish
  names_in : X.fd "names_in" = some Lb.d_names_in
  is_trust : X.fd "is_trust" = some Lb.d_is_trust
  t1 : X.con "MOST_TIES" = some (.int 20)
  t2 : X.con "MOST_WISHES" = some (.int 6)
  t3 : X.con "MOST_NAMES" = some (.int 7)
  t4 : X.con "BOTH" = some bothD
section
variable {X : Tx} (hX : HasLeaf X)
include hX
theorem w_as_leave (n : Nat) (g h ds s u p : D) (os : List O) : call X (n + 1) "as_leave" [.pl (.tuple [g, h, ds, s, u, p])] [] [] os = .ok (.pl (.tuple [.int 0, .str "room", ds, g, h, s, u, p, .none])) [.un, .un, .un, .un] os := by
  rw [call_def hX.as_leave n _ os rfl [.pl (.int 0), .pl (.str "room"), .pl .none] rfl]
  simp [Lb.d_as_leave, runF]
end
section
variable {X : Tx} (hX : HasTrust X)
include hX
omit hX in
theorem w_is_row_of (hF : X.fd "is_row_of" = some Lb.d_is_row_of) (n : Nat) (m : Int) (d : D) (os : List O) (hf : fineD d = true) : call X (n + 1) "is_row_of" [.pl (.int m), (T.pl d).bor] [] [] os = .ok (.pl (.bool (isRow m d))) [.un, .un] os := by
  rw [call_def hF n _ os rfl [] rfl]
  cases d with
  | dict kvs => simp [Lb.d_is_row_of, runF, typeIs, isRow, fine_xo hf]
  | _ => simp [Lb.d_is_row_of, runF, typeIs, isRow]
theorem w_is_tie (n : Nat) (d : D) (os : List O) (hf : fineRow d = true) : call X (n + 5) "is_tie" [.pl d] [] [] os = .ok (.pl (.bool (isTie d))) [.un] os := by
  rw [call_def hX.is_tie (n + 4) _ os rfl [] rfl]
  have no : isRow 4 d = false → fineD d = true → isTie d = false → runF ⟨call X (n + 4), X.con, X.sub, X.xf, X.fuel, []⟩ Lb.d_is_tie [.pl d] os = .ok (.pl (.bool (isTie d))) [.un] os := fun h hf e => by
    have c1 := w_is_row_of hX.is_row_of (n + 3) 4 d os hf
    rw [h] at c1
    simp [Lb.d_is_tie, runF, c1, e]
  by_cases hr : ∃ g r s u, d = .tuple [g, r, s, u]
  · obtain ⟨g, r, s, u, rfl⟩ := hr
    simp [fineRow] at hf
    obtain ⟨⟨f1, f1'⟩, ⟨f2, f2'⟩, ⟨f3, f3'⟩, f4, f4'⟩ := hf
    have c1 := w_is_row_of hX.is_row_of (n + 3) 4 (.tuple [g, r, s, u]) os rfl
    have c2 := w_as_leave hX.toHasLeaf (n + 3) g r bothD s u (.int 0) os
    have c3 := w_is_leave hX.toHasLeaf n 0 "room" bothD g r s u (.int 0) os (by decide +kernel) (by decide +kernel) f1 f2 f3 f4 rfl rfl
    simp [isRow] at c1
    simp [Lb.d_is_tie, runF, c1, hX.t4, c2, c3, isTie]
  · have hr' : isTie d = false := by
      unfold isTie
      split
      · exact absurd ⟨_, _, _, _, rfl⟩ hr
      · rfl
    cases d with
    | tuple ds =>
      refine no ?_ ?_ hr'
      · unfold isRow
        rw [decide_eq_false_iff_not]
        intro e
        match ds, e, hr with
        | [a, b, c, d], _, hr => exact hr ⟨a, b, c, d, rfl⟩
        | [], e, _ => simp at e
        | [_], e, _ => simp at e
        | [_, _], e, _ => simp at e
        | [_, _, _], e, _ => simp at e
        | _ :: _ :: _ :: _ :: _ :: r, e, _ => simp at e; omega
      · rfl
    | _ => exact no rfl hf hr'
theorem w_is_wish (n : Nat) (o d : D) (os : List O) (ho : fineD o = true) (hf : fineRow d = true) : call X (n + 5) "is_wish" [.pl o, .pl d] [] [] os = .ok (.pl (.bool (isWish o d))) [.un, .un] os := by
  rw [call_def hX.is_wish (n + 4) _ os rfl [] rfl]
  have no : isRow 4 d = false → fineD d = true → isWish o d = false → runF ⟨call X (n + 4), X.con, X.sub, X.xf, X.fuel, []⟩ Lb.d_is_wish [.pl o, .pl d] os = .ok (.pl (.bool (isWish o d))) [.un, .un] os := fun h hf e => by
    have c1 := w_is_row_of hX.is_row_of (n + 3) 4 d os hf
    rw [h] at c1
    simp [Lb.d_is_wish, runF, c1, e]
  by_cases hr : ∃ g r s u, d = .tuple [g, r, s, u]
  · obtain ⟨g, r, s, u, rfl⟩ := hr
    simp [fineRow] at hf
    obtain ⟨⟨f1, f1'⟩, ⟨f2, f2'⟩, ⟨f3, f3'⟩, f4, f4'⟩ := hf
    have c1 := w_is_row_of hX.is_row_of (n + 3) 4 (.tuple [g, r, s, u]) os rfl
    have c2 := w_as_leave hX.toHasLeaf (n + 3) o g r s u (.int 0) os
    have c3 := w_is_leave hX.toHasLeaf n 0 "room" r o g s u (.int 0) os (by decide +kernel) f2' ho f1 f3 f4 rfl f2
    simp [isRow] at c1
    simp [Lb.d_is_wish, runF, c1, c2, c3, isWish]
  · have hr' : isWish o d = false := by
      unfold isWish
      split
      · exact absurd ⟨_, _, _, _, rfl⟩ hr
      · rfl
    cases d with
    | tuple ds =>
      refine no ?_ rfl hr'
      unfold isRow
      rw [decide_eq_false_iff_not]
      intro e
      match ds, e, hr with
      | [a, b, c, d], _, hr => exact hr ⟨a, b, c, d, rfl⟩
      | [], e, _ => simp at e
      | [_], e, _ => simp at e
      | [_, _], e, _ => simp at e
      | [_, _, _], e, _ => simp at e
      | _ :: _ :: _ :: _ :: _ :: r, e, _ => simp at e; omega
    | _ => exact no rfl hf hr'
end
theorem leave_nm {i : Int} {r : Str} {ds g h s u p : D} (e : isLeaveG i r ds g h s u p = true) : (∃ z, g = .str z ∧ Nm z) ∧ ∃ z, h = .str z ∧ Nm z := by
  unfold isLeaveG at e
  simp only [Bool.and_eq_true] at e
  obtain ⟨⟨⟨⟨⟨_, ⟨_, e1⟩, e2⟩, _⟩, _⟩, _⟩, _⟩ := e
  obtain ⟨x, rfl⟩ := isName_str e1
  obtain ⟨y, rfl⟩ := isName_str e2
  exact ⟨⟨x, rfl, nmB_iff.mp e1⟩, y, rfl, nmB_iff.mp e2⟩
theorem tie_form {d : D} (h : isTie d = true) : ∃ a b r, d = .tuple (.str a :: .str b :: r) := by
  unfold isTie at h
  split at h
  · obtain ⟨⟨x, rfl, _⟩, y, rfl, _⟩ := leave_nm h
    exact ⟨x, y, _, rfl⟩
  · cases h
theorem wish_form {o d : D} (h : isWish o d = true) : ∃ a r, d = .tuple (.str a :: r) := by
  unfold isWish at h
  split at h
  · obtain ⟨_, y, rfl, _⟩ := leave_nm h
    exact ⟨y, _, rfl⟩
  · cases h
/-- the names of a trust, its owner's left out, each once -/
def namesD (o : D) (ties wishes : List D) : List (D × D) := dmake [] (((wishes.map hd0 ++ ties.map hd0 ++ ties.map hd1).filter fun x => !eqS x o).map fun x => (x, .bool true))
def isTrust : D → Bool
  | .tuple [o, .tuple ties, .tuple wishes] => decide (ties.length ≤ 20) && ties.all isTie && (decide (1 ≤ wishes.length) && decide (wishes.length ≤ 6)) && wishes.all (isWish o) && decide ((firsts [] (wishes.map hd0)).length = wishes.length) && decide ((namesD o ties wishes).length ≤ 7)
  | _ => false
/-- a thing that may be looked at as a trust -/
def fineTrust : D → Bool
  | .tuple [o, ties, wishes] => fineD o && (match ties with
    | .tuple ts => ts.all fineRow
    | d => fineD d) && (match wishes with
    | .tuple ts => ts.all fineRow
    | d => fineD d)
  | d => fineD d
theorem str_list : ∀ {l : List D}, (∀ d ∈ l, ∃ z, d = .str z) → ∃ m : List Str, l = m.map .str
  | [], _ => ⟨[], rfl⟩
  | d :: l, h => by
    obtain ⟨z, rfl⟩ := h d List.mem_cons_self
    obtain ⟨m, rfl⟩ := str_list fun e he => h e (List.mem_cons_of_mem _ he)
    exact ⟨z :: m, rfl⟩
section
variable {X : Tx} (hX : HasTrust X)
include hX
theorem w_names_in (n : Nat) (o : Str) (ties wishes : List D) (os : List O) (ht : ∀ e ∈ ties, ∃ a b r, e = .tuple (.str a :: .str b :: r)) (hw : ∀ e ∈ wishes, ∃ a r, e = .tuple (.str a :: r)) (l1 : ties.length ≤ 1000) (l2 : wishes.length ≤ 1000) :
    call X (n + 1) "names_in" [.pl (.tuple [.str o, .tuple ties, .tuple wishes])] [] [] os = .ok (.od (namesD (.str o) ties wishes)) [.un] os := by
  rw [call_def hX.names_in n _ os rfl [] rfl]
  obtain ⟨as, ha⟩ := str_list (l := wishes.map hd0) (fun d hd => by obtain ⟨e, he, rfl⟩ := List.mem_map.mp hd; obtain ⟨a, r, rfl⟩ := hw e he; exact ⟨a, rfl⟩)
  obtain ⟨gs, hg⟩ := str_list (l := ties.map hd0) (fun d hd => by obtain ⟨e, he, rfl⟩ := List.mem_map.mp hd; obtain ⟨a, b, r, rfl⟩ := ht e he; exact ⟨a, rfl⟩)
  obtain ⟨rs, hr⟩ := str_list (l := ties.map hd1) (fun d hd => by obtain ⟨e, he, rfl⟩ := List.mem_map.mp hd; obtain ⟨a, b, r, rfl⟩ := ht e he; exact ⟨b, rfl⟩)
  simp [Lb.d_names_in, runF]
  generalize hC : comp _ _ _ _ _ _ _ = C
  have kC : C = .ok (wishes.map hd0) ⟨[.pl (.tuple [.str o, .tuple ties, .tuple wishes]), .pl (.str o), .pl (.tuple ties), .pl (.tuple wishes), .un, .un, .un, .un], os⟩ := by
    rw [← hC]
    exact comp_all (enc := id) hd0 (by simp) rfl (by omega) (fun x hx => by obtain ⟨a, r, rfl⟩ := hw x hx; simp [turnC, fixC, hd0]) rfl rfl
  subst kC
  rw [ha]
  simp
  generalize hC : comp _ _ _ _ _ _ _ = C
  have kC : C = .ok (ties.map hd0) ⟨[.pl (.tuple [.str o, .tuple ties, .tuple wishes]), .pl (.str o), .pl (.tuple ties), .pl (.tuple wishes), .un, .un, .un, .un], os⟩ := by
    rw [← hC]
    exact comp_all (enc := id) hd0 (by simp) rfl (by omega) (fun x hx => by obtain ⟨a, b, r, rfl⟩ := ht x hx; simp [turnC, fixC, hd0]) rfl rfl
  subst kC
  have la : as.length = wishes.length := by simpa using (congrArg List.length ha).symm
  have lg : gs.length = ties.length := by simpa using (congrArg List.length hg).symm
  have lr : rs.length = ties.length := by simpa using (congrArg List.length hr).symm
  have s1 : as.length + gs.length ≤ 1000000 := by omega
  have s2 : as.length + gs.length + rs.length ≤ 1000000 := by omega
  have s3 : as.length + (gs.length + rs.length) ≤ 1000000 := by omega
  rw [hg]
  simp [s1]
  generalize hC : comp _ _ _ _ _ _ _ = C
  have kC : C = .ok (ties.map hd1) ⟨[.pl (.tuple [.str o, .tuple ties, .tuple wishes]), .pl (.str o), .pl (.tuple ties), .pl (.tuple wishes), .un, .un, .un, .un], os⟩ := by
    rw [← hC]
    exact comp_all (enc := id) hd1 (by simp) rfl (by omega) (fun x hx => by obtain ⟨a, b, r, rfl⟩ := ht x hx; simp [turnC, fixC, hd1]) rfl rfl
  subst kC
  rw [hr]
  simp [s2, s3]
  generalize hC : comp _ _ _ _ _ _ _ = C
  have kC : C = .ok (((as ++ gs ++ rs).filter fun x => decide (x ≠ o)).map fun x => (PyData.str x, PyData.bool true)) ⟨[.pl (.tuple [.str o, .tuple ties, .tuple wishes]), .pl (.str o), .pl (.tuple ties), .pl (.tuple wishes), .pl (.list (as.map .str ++ (gs.map .str ++ rs.map .str))), .un, .un, .un], os⟩ := by
    rw [← hC]
    exact comp_if (enc := PyData.str) (fun x => decide (x ≠ o)) (fun x => (PyData.str x, PyData.bool true)) (by simp) rfl (by simp; omega) (fun x hx => by by_cases e : x = o <;> simp [turnC, fixC, e]) rfl rfl
  subst kC
  have eN : namesD (.str o) ties wishes = dmake [] (((as ++ gs ++ rs).filter fun x => decide (x ≠ o)).map fun x => (PyData.str x, PyData.bool true)) := by
    unfold namesD
    rw [ha, hg, hr, ← List.map_append, ← List.map_append, List.filter_map, List.map_map]
    congr 1
    congr 1
    congr 1
    funext x
    simp [eqS]
  rw [eN]
  simp
end
end Pl
end PartPlF
section PartPlG
set_option autoImplicit false
set_option linter.all false
set_option maxRecDepth 100000
set_option maxHeartbeats 4000000
/-! PlG: is_trust. -/
namespace Pl
open EV PySem
theorem keys_ok {l : List D} (h : ∀ d ∈ l, ∃ z, d = .str z) : l.all okKey = true := List.all_eq_true.mpr fun d hd => by obtain ⟨z, rfl⟩ := h d hd; rfl
theorem row_no {d : D} (hr : ¬∃ a b c, d = .tuple [a, b, c]) : isRow 3 d = false := by
  cases d with
  | tuple ds =>
    unfold isRow
    rw [decide_eq_false_iff_not]
    intro e
    match ds, e, hr with
    | [a, b, c], _, hr => exact hr ⟨a, b, c, rfl⟩
    | [], e, _ => simp at e
    | [_], e, _ => simp at e
    | [_, _], e, _ => simp at e
    | _ :: _ :: _ :: _ :: r, e, _ => simp at e; omega
  | _ => rfl
theorem fine_any {d : D} (h : fineTrust d = true) : fineD d = true := by
  unfold fineTrust at h
  split at h
  · rfl
  · exact h
section
variable {X : Tx} (hX : HasTrust X)
include hX
theorem w_is_trust (n : Nat) (d : D) (os : List O) (hf : fineTrust d = true) : call X (n + 6) "is_trust" [.pl d] [] [] os = .ok (.pl (.bool (isTrust d))) [.un] os := by
  rw [call_def hX.is_trust (n + 5) _ os rfl [] rfl]
  have c1 := w_is_row_of hX.is_row_of (n + 4) 3 d os (fine_any hf)
  by_cases hr : ∃ a b c, d = .tuple [a, b, c]
  · obtain ⟨o, tsD, wsD, rfl⟩ := hr
    simp only [fineTrust, Bool.and_eq_true] at hf
    obtain ⟨⟨fo, ft⟩, fw⟩ := hf
    simp [isRow] at c1
    by_cases ht : ∃ ts, tsD = .tuple ts
    · obtain ⟨ts, rfl⟩ := ht
      have ft : ∀ e ∈ ts, fineRow e = true := List.all_eq_true.mp ft
      by_cases h20 : ts.length ≤ 20
      · have h20' : ¬ ((20 : Int) < ts.length) := by omega
        simp [Lb.d_is_trust, runF, c1, typeIs, hX.t1, h20']
        generalize hC : comp _ _ _ _ _ _ _ = C
        have kC : C = .ok (ts.map fun e => .bool (isTie e)) ⟨[.pl (.tuple [o, .tuple ts, wsD]), .pl o, .pl (.tuple ts), .pl wsD, .un, .un, .un], os⟩ := by
          rw [← hC]
          exact comp_all (enc := id) (fun e => PyData.bool (isTie e)) (by simp) rfl (by omega) (fun x hx => by simp [turnC, fixC, w_is_tie hX n x os (ft x hx)]) rfl rfl
        subst kC
        cases hall : ts.all isTie with
        | false =>
          have : isTrust (.tuple [o, .tuple ts, wsD]) = false := by
            unfold isTrust
            split
            · rename_i e
              cases e
              rw [hall]; simp
            · rfl
          simp [hall, this]
        | true =>
          simp [hall]
          by_cases hw : ∃ ws, wsD = .tuple ws
          · obtain ⟨ws, rfl⟩ := hw
            have fw : ∀ e ∈ ws, fineRow e = true := List.all_eq_true.mp fw
            have no : (1 ≤ ws.length ∧ ws.length ≤ 6 ∧ ws.all (isWish o) = true → False) → isTrust (.tuple [o, .tuple ts, .tuple ws]) = false := fun h => by
              unfold isTrust
              rw [← Bool.not_eq_true]
              intro z
              simp only [Bool.and_eq_true, decide_eq_true_eq] at z
              exact h ⟨z.1.1.1.2.1, z.1.1.1.2.2, z.1.1.2⟩
            by_cases w1 : 1 ≤ ws.length
            · by_cases w6 : ws.length ≤ 6
              · have w1' : (1 : Int) ≤ ws.length := by omega
                have w6' : (ws.length : Int) ≤ 6 := by omega
                simp [typeIs, hX.t2, w1', w6']
                generalize hC : comp _ _ _ _ _ _ _ = C
                have kC : C = .ok (ws.map fun e => .bool (isWish o e)) ⟨[.pl (.tuple [o, .tuple ts, .tuple ws]), .pl o, .pl (.tuple ts), .pl (.tuple ws), .un, .un, .un], os⟩ := by
                  rw [← hC]
                  exact comp_all (enc := id) (fun e => PyData.bool (isWish o e)) (by simp) rfl (by omega) (fun x hx => by simp [turnC, fixC, w_is_wish hX n o x os fo (fw x hx)]) rfl rfl
                subst kC
                cases hall2 : ws.all (isWish o) with
                | false =>
                  have := no fun h => by rw [hall2] at h; exact nomatch h.2.2
                  simp [hall2, this]
                | true =>
                  simp [hall2]
                  have wf : ∀ e ∈ ws, ∃ a r, e = .tuple (.str a :: r) := fun e he => wish_form (List.all_eq_true.mp hall2 e he)
                  have tf : ∀ e ∈ ts, ∃ a b r, e = .tuple (.str a :: .str b :: r) := fun e he => tie_form (List.all_eq_true.mp hall e he)
                  obtain ⟨oz, rfl⟩ : ∃ z, o = .str z := by
                    cases ws with
                    | nil => simp at w1
                    | cons e r =>
                      have := List.all_eq_true.mp hall2 e List.mem_cons_self
                      unfold isWish at this
                      split at this
                      · obtain ⟨⟨x, e, _⟩, _⟩ := leave_nm this
                        exact ⟨x, e⟩
                      · cases this
                  generalize hC : comp _ _ _ _ _ _ _ = C
                  have kC : C = .ok (ws.map hd0) ⟨[.pl (.tuple [.str oz, .tuple ts, .tuple ws]), .pl (.str oz), .pl (.tuple ts), .pl (.tuple ws), .un, .un, .un], os⟩ := by
                    rw [← hC]
                    exact comp_all (enc := id) hd0 (by simp) rfl (by omega) (fun x hx => by obtain ⟨a, r, rfl⟩ := wf x hx; simp [turnC, fixC, hd0]) rfl rfl
                  subst kC
                  have hk : (ws.map hd0).all okKey = true := keys_ok fun d hd => by
                    obtain ⟨e, he, rfl⟩ := List.mem_map.mp hd
                    obtain ⟨a, r, rfl⟩ := wf e he
                    exact ⟨a, rfl⟩
                  have hk' : ∀ a ∈ ws, okKey (hd0 a) = true := fun a ha => List.all_eq_true.mp hk _ (List.mem_map.mpr ⟨a, ha, rfl⟩)
                  have hl4 : ws.length ≤ 4000 := by omega
                  have cN := w_names_in hX (n + 4) oz ts ws os tf wf (by omega) (by omega)
                  have eT : isTrust (.tuple [.str oz, .tuple ts, .tuple ws]) = (decide ((firsts [] (ws.map hd0)).length = ws.length) && decide ((namesD (.str oz) ts ws).length ≤ 7)) := by
                    unfold isTrust
                    simp [h20, hall, w1, w6, hall2]
                  rw [eT]
                  by_cases e1 : (firsts [] (ws.map hd0)).length = ws.length
                  · simp [hl4]
                    rw [if_pos hk']
                    simp [cN, e1, hX.t3]
                    try omega
                  · simp [hl4]
                    rw [if_pos hk']
                    have e1' : ¬ (((firsts [] (ws.map hd0)).length : Int) = (ws.length : Int)) := by omega
                    simp [e1, e1']
              · have w1' : (1 : Int) ≤ ws.length := by omega
                have w6' : ¬ (ws.length : Int) ≤ 6 := by omega
                have := no fun h => w6 h.2.1
                simp [typeIs, hX.t2, w1', w6', this]
            · have w1' : ¬ (1 : Int) ≤ ws.length := by omega
              have := no fun h => w1 h.1
              simp [typeIs, w1', this]
          · have e1 : isTrust (.tuple [o, .tuple ts, wsD]) = false := by
              unfold isTrust
              split
              · rename_i e
                cases e
                exact absurd ⟨_, rfl⟩ hw
              · rfl
            cases wsD with
            | tuple ws => exact absurd ⟨_, rfl⟩ hw
            | dict kvs => simp [e1, typeIs, fine_xo fw]
            | _ => simp [e1, typeIs]
      · have h20' : (20 : Int) < ts.length := by omega
        have : isTrust (.tuple [o, .tuple ts, wsD]) = false := by
          unfold isTrust
          split
          · rename_i e
            cases e
            simp [h20]
          · rfl
        simp [Lb.d_is_trust, runF, c1, typeIs, hX.t1, h20', this]
    · have e1 : isTrust (.tuple [o, tsD, wsD]) = false := by
        unfold isTrust
        split
        · rename_i e
          cases e
          exact absurd ⟨_, rfl⟩ ht
        · rfl
      cases tsD with
      | tuple ws => exact absurd ⟨_, rfl⟩ ht
      | dict kvs => simp [Lb.d_is_trust, runF, c1, typeIs, e1, fine_xo ft]
      | _ => simp [Lb.d_is_trust, runF, c1, typeIs, e1]
  · have e1 : isTrust d = false := by
      unfold isTrust
      split
      · exact absurd ⟨_, _, _, rfl⟩ hr
      · rfl
    rw [row_no hr] at c1
    simp [Lb.d_is_trust, runF, c1, e1]
end
end Pl
end PartPlG
section PartPlH
set_option autoImplicit false
set_option linter.all false
set_option maxRecDepth 100000
set_option maxHeartbeats 4000000
/-! PlH: the laws' own small looks. -/
namespace Pl
open EV PySem
/-- each the first time that it is met -/
def uniqS : List Str → List Str → List Str
  | acc, [] => acc
  | acc, x :: r => if x ∈ acc then uniqS acc r else uniqS (acc ++ [x]) r
theorem any_key (x : Str) (acc : List Str) : (acc.map PyData.str).any (keyEq (.str x)) = decide (x ∈ acc) := by
  rw [List.any_map, Bool.eq_iff_iff, List.any_eq_true, decide_eq_true_eq]
  constructor
  · rintro ⟨y, hy, e⟩
    have e : (x == y) = true := e
    rw [beq_iff_eq] at e
    rw [e]; exact hy
  · intro h
    exact ⟨x, h, by show (x == x) = true; exact beq_self_eq_true x⟩
theorem firsts_strs : ∀ (l acc : List Str), firsts (acc.map .str) (l.map .str) = (uniqS acc l).map .str
  | [], _ => rfl
  | x :: l, acc => by
    rw [List.map_cons, firsts, uniqS, any_key]
    by_cases h : x ∈ acc
    · rw [decide_eq_true h, if_pos rfl, if_pos h]; exact firsts_strs l acc
    · rw [decide_eq_false h, if_neg Bool.false_ne_true, if_neg h, ← firsts_strs l (acc ++ [x]), List.map_append]; rfl
theorem dput_keys (kvs : List (D × D)) (x : Str) (v : D) (keys : List Str) (h : kvs.map (·.1) = keys.map .str) : (dput kvs (.str x) v).map (·.1) = (if x ∈ keys then keys else keys ++ [x]).map .str := by
  have hd : dhas kvs (.str x) = decide (x ∈ keys) := by
    unfold dhas
    have : ∀ (kvs : List (D × D)) (keys : List Str), kvs.map (·.1) = keys.map .str → (dget kvs (.str x)).isSome = decide (x ∈ keys) := by
      intro kvs
      induction kvs with
      | nil => intro keys e; cases keys <;> first | rfl | (simp at e)
      | cons p r ih =>
        intro keys e
        cases keys with
        | nil => simp at e
        | cons k ks =>
          obtain ⟨p1, p2⟩ := p
          simp only [List.map_cons, List.cons.injEq] at e
          obtain ⟨rfl, e⟩ := e
          unfold dget
          have ek : keyEq (.str k) (.str x) = decide (k = x) := by show (k == x) = _; exact PySem.W.beq_decide k x
          rw [ek]
          by_cases c : k = x
          · simp [c]
          · have c' : ¬ x = k := fun z => c z.symm
            simp [c, c', ih ks e]
    exact this kvs keys h
  unfold dput
  rw [hd]
  by_cases c : x ∈ keys
  · rw [decide_eq_true c, if_pos rfl, if_pos c, List.map_map, ← h]
    refine List.map_congr_left fun p _ => ?_
    show (if keyEq p.1 (.str x) then (p.1, v) else p).1 = p.1
    split <;> rfl
  · rw [decide_eq_false c, if_neg Bool.false_ne_true, if_neg c, List.map_append, List.map_append, h]; rfl
theorem dmake_keys (v : D) : ∀ (l : List Str) (kvs : List (D × D)) (keys : List Str), kvs.map (·.1) = keys.map .str → (dmake kvs (l.map fun x => (.str x, v))).map (·.1) = (uniqS keys l).map .str
  | [], _, _, h => h
  | x :: l, kvs, keys, h => by
    rw [List.map_cons, dmake, uniqS]
    have := dput_keys kvs x v keys h
    by_cases c : x ∈ keys
    · rw [if_pos c] at this ⊢; exact dmake_keys v l _ _ this
    · rw [if_neg c] at this ⊢; exact dmake_keys v l _ _ this
theorem uniq_mem {x : Str} : ∀ (l acc : List Str), x ∈ uniqS acc l ↔ x ∈ acc ∨ x ∈ l
  | [], acc => by simp [uniqS]
  | y :: l, acc => by
    unfold uniqS
    by_cases h : y ∈ acc
    · rw [if_pos h, uniq_mem l acc, List.mem_cons]
      constructor
      · rintro (a | a) <;> simp [a]
      · rintro (a | rfl | a)
        · exact .inl a
        · exact .inl h
        · exact .inr a
    · rw [if_neg h, uniq_mem l (acc ++ [y]), List.mem_append, List.mem_singleton, List.mem_cons, or_assoc]
theorem uniq_nodup : ∀ (l acc : List Str), acc.Nodup → (uniqS acc l).Nodup
  | [], _, h => h
  | y :: l, acc, h => by
    unfold uniqS
    by_cases c : y ∈ acc
    · rw [if_pos c]; exact uniq_nodup l acc h
    · rw [if_neg c]
      exact uniq_nodup l _ (List.nodup_append.mpr ⟨h, by simp, fun a ha b hb => by rw [List.mem_singleton.mp hb]; exact fun e => c (e ▸ ha)⟩)
theorem uniq_le : ∀ (l acc : List Str), (uniqS acc l).length ≤ acc.length + l.length
  | [], _ => Nat.le_refl _
  | y :: l, acc => by
    unfold uniqS
    have h1 := uniq_le l acc
    have h2 := uniq_le l (acc ++ [y])
    simp only [List.length_append, List.length_cons, List.length_nil] at h1 h2 ⊢
    split <;> omega
/-- texts in order -/
def leS (a b : Str) : Bool := !decide (b.cps.toList < a.cps.toList)
def sortS (l : List Str) : List Str := l.mergeSort leS
theorem sortD_strs (l : List Str) : sortD (l.map .str) = (sortS l).map .str := by
  unfold sortD sortS
  refine (List.map_mergeSort (f := PyData.str) (r := leS) (s := fun a b => !(W.dataLt b a)) fun a _ b _ => ?_).symm
  show leS a b = !(W.dataLt (.str b) (.str a))
  rw [W.dataLt_str]; rfl
theorem sortable_strs (l : List Str) : sortable (l.map .str) = true := by
  unfold sortable
  simp [List.all_eq_true, W.alike]
theorem sortKind_strs (l : List Str) : sortKind (l.map .str) = true := by
  unfold sortKind
  simp [List.all_eq_true]
/-- all names of a trust, as they stand -/
def Tru.names (t : Tru) : List Str := t.wishes.map Wish.a ++ t.ties.map Tie.g ++ t.ties.map Tie.r
def Tru.nonOwn (t : Tru) : List Str := t.names.filter fun x => !decide (x = t.o)
def Tru.others (t : Tru) : List Str := sortS (uniqS [] t.nonOwn)
theorem biSet_strs (l : List Str) (h : l.length ≤ 4000) : biSet [.ol (l.map .str)] = some (.os ((uniqS [] l).map .str)) := by
  have ef := firsts_strs l []
  rw [List.map_nil] at ef
  simp [biSet, ef, h]
theorem biSorted_os (l : List Str) (h : l.length ≤ 1000000) : biSorted [.os (l.map .str)] = some (.ol ((sortS l).map .str)) := by
  simp [biSorted, sortable_strs, sortKind_strs, sortD_strs, h]
theorem biSorted_ol (l : List Str) (h : l.length ≤ 1000000) : biSorted [.ol (l.map .str)] = some (.ol ((sortS l).map .str)) := by
  simp [biSorted, sortable_strs, sortKind_strs, sortD_strs, h]
structure HasOwn (X : Tx) : Prop where
  others : X.fd "_law_others" = some Lb.d_law_others
  is_name : X.fd "_law_is_name" = some Lb.d_law_is_name
  is_span : X.fd "_law_is_span" = some Lb.d_law_is_span
  is_deeds : X.fd "_law_is_deeds" = some Lb.d_law_is_deeds
  truth : X.fd "_law_truth" = some Lb.d_law_truth
def spB (s u : Int) : Bool := decide (0 ≤ s) && decide (s < u) && decide (u ≤ 1000000)
def dsB (ds : List Str) : Bool := decide (ds ∈ kinds)
section
variable {X : Tx} (hO : X.fd "_law_others" = some Lb.d_law_others)
include hO
theorem w_others (n : Nat) (t : Tru) (os : List O) (l1 : t.ties.length ≤ 1000) (l2 : t.wishes.length ≤ 1000) : call X (n + 1) "_law_others" [.pl t.d] [] [] os = .ok (.ol (t.others.map .str)) [.un] os := by
  rw [call_def hO n _ os rfl [] rfl]
  simp [Lb.d_law_others, runF, Tru.d]
  generalize hC : comp _ _ _ _ _ _ _ = C
  have kC : C = .ok (t.wishes.map fun e => .str e.a) ⟨[.pl t.d, .un, .un, .un, .un], os⟩ := by
    rw [← hC]
    exact comp_all (enc := Wish.d) (fun e => PyData.str e.a) rfl rfl (by omega) (fun x hx => by simp [turnC, fixC, Wish.d, Tru.d]) rfl rfl
  subst kC
  simp [Tru.d]
  generalize hC : comp _ _ _ _ _ _ _ = C
  have kC : C = .ok (t.ties.map fun e => .str e.g) ⟨[.pl t.d, .un, .un, .un, .un], os⟩ := by
    rw [← hC]
    exact comp_all (enc := Tie.d) (fun e => PyData.str e.g) rfl rfl (by omega) (fun x hx => by simp [turnC, fixC, Tie.d, Tru.d]) rfl rfl
  subst kC
  have s1 : t.wishes.length + t.ties.length ≤ 1000000 := by omega
  have s2 : t.wishes.length + (t.ties.length + t.ties.length) ≤ 1000000 := by omega
  have s3 : t.wishes.length + t.ties.length + t.ties.length ≤ 1000000 := by omega
  simp [Tru.d, s1]
  generalize hC : comp _ _ _ _ _ _ _ = C
  have kC : C = .ok (t.ties.map fun e => .str e.r) ⟨[.pl t.d, .un, .un, .un, .un], os⟩ := by
    rw [← hC]
    exact comp_all (enc := Tie.d) (fun e => PyData.str e.r) rfl rfl (by omega) (fun x hx => by simp [turnC, fixC, Tie.d, Tru.d]) rfl rfl
  subst kC
  have eN : (t.wishes.map fun e => PyData.str e.a) ++ ((t.ties.map fun e => PyData.str e.g) ++ t.ties.map fun e => PyData.str e.r) = t.names.map .str := by
    unfold Tru.names
    simp [List.map_append, List.map_map]
    rfl
  have hl : t.nonOwn.length ≤ 3000 := Nat.le_trans (List.length_filter_le _ _) (by unfold Tru.names; simp; omega)
  have hu := uniq_le t.nonOwn []
  rw [List.length_nil] at hu
  simp [Tru.d, s2, s3, eN]
  generalize hC : comp _ _ _ _ _ _ _ = C
  have kC : C = .ok (t.nonOwn.map .str) ⟨[.pl t.d, .pl (.list (t.names.map .str)), .un, .un, .un], os⟩ := by
    rw [← hC]
    exact comp_if (enc := PyData.str) (fun x => !decide (x = t.o)) PyData.str (by simp) rfl (by unfold Tru.names; simp; omega) (fun x hx => by by_cases e : x = t.o <;> simp [turnC, fixC, e, Tru.d]) rfl rfl
  subst kC
  simp [biSet_strs t.nonOwn (by omega), biSorted_os (uniqS [] t.nonOwn) (by omega), Tru.others]
end
section
variable {X : Tx} (hX : HasOwn X)
include hX
theorem w_l_is_name (n : Nat) (z : Str) (os : List O) (hz : z.length ≤ 1000000) : call X (n + 1) "_law_is_name" [.pl (.str z)] [] [] os = .ok (.pl (.bool (nmOk z))) [.un] os := by
  rw [call_def hX.is_name n _ os rfl [] rfl]
  by_cases h1 : 1 ≤ z.length
  · by_cases h2 : z.length ≤ 8
    · have h1' : (1 : Int) ≤ z.length := by omega
      have h2' : (z.length : Int) ≤ 8 := by omega
      simp [Lb.d_law_is_name, runF, hz, h1', h2']
      generalize hC : comp _ _ _ _ _ _ _ = C
      have kC : C = .ok (((z.cps.toList.filter fun c => !inAbc c).map sg).map PyData.str) ⟨[.pl (.str z), .un], os⟩ := by
        rw [← hC, List.map_map]
        exact comp_if (enc := fun c => PyData.str (sg c)) (fun c => !inAbc c) (PyData.str ∘ sg) rfl rfl (by simp; exact Nat.le_trans h2 (by omega)) (fun c _ => by
          have e1 : (sg c).cps.toList < (Str.ofString "a").cps.toList ↔ c < 97 := by
            rw [show (Str.ofString "a").cps.toList = [97] by decide +kernel]
            show [c] < [97] ↔ _
            simp [List.cons_lt_cons_iff]
          have e2 : (Str.ofString "z").cps.toList < (sg c).cps.toList ↔ 122 < c := by
            rw [show (Str.ofString "z").cps.toList = [122] by decide +kernel]
            show [122] < [c] ↔ _
            simp [List.cons_lt_cons_iff]
          by_cases a : c < 97
          · have : inAbc c = false := by unfold inAbc; rw [decide_eq_false_iff_not]; omega
            simp [turnC, fixC, e1, e2, a, this]
          · by_cases b : 122 < c
            · have : inAbc c = false := by unfold inAbc; rw [decide_eq_false_iff_not]; omega
              simp [turnC, fixC, e1, e2, a, b, this]
            · have : inAbc c = true := by unfold inAbc; rw [decide_eq_true_eq]; omega
              simp [turnC, fixC, e1, e2, a, b, this]) rfl rfl
      subst kC
      have e3 : nmOk z = decide ((z.cps.toList.filter fun c => !inAbc c).map sg = []) := by
        unfold nmOk
        rw [decide_eq_true h1, decide_eq_true h2, Bool.eq_iff_iff]
        generalize z.cps.toList = l
        simp [List.filter_eq_nil_iff, List.all_eq_true]
      rw [e3]
      have := eqD_strs_nil ((z.cps.toList.filter fun c => !inAbc c).map sg)
      simp only [List.map_map] at this
      simp [this]
    · have e : nmOk z = false := by unfold nmOk; simp [h2]
      have h1' : (1 : Int) ≤ z.length := by omega
      have h2' : ¬ ((z.length : Int) ≤ 8) := by omega
      simp [Lb.d_law_is_name, runF, hz, h1', e, h2']
  · have e : nmOk z = false := by unfold nmOk; simp [h1]
    have h1' : ¬ ((1 : Int) ≤ z.length) := by omega
    simp [Lb.d_law_is_name, runF, hz, h1', e]
theorem w_l_is_span (n : Nat) (a b : Int) (os : List O) : call X (n + 1) "_law_is_span" [.pl (.int a), .pl (.int b)] [] [] os = .ok (.pl (.bool (spB a b))) [.un, .un] os := by
  rw [call_def hX.is_span n _ os rfl [] rfl]
  by_cases h1 : 0 ≤ a <;> by_cases h2 : a < b <;> simp [Lb.d_law_is_span, runF, spB, h1, h2]
theorem w_l_is_deeds (n : Nat) (ds : List Str) (os : List O) : call X (n + 1) "_law_is_deeds" [.pl (.tuple (ds.map .str))] [] [] os = .ok (.pl (.bool (isDeeds (.tuple (ds.map .str))))) [.un] os := by
  rw [call_def hX.is_deeds n _ os rfl [] rfl]
  have ok : okTup (.tuple (ds.map PyData.str)) = true := (dpt_tup (n := 0) fun d hd => by obtain ⟨x, _, rfl⟩ := List.mem_map.mp hd; exact dpt_str x).ok (by omega)
  have e : inD (.tuple (ds.map .str)) (.list [.tuple [.str "look"], .tuple [.str "set"], .tuple [.str "look", .str "set"]]) = some (isDeeds (.tuple (ds.map .str))) := in_kinds ok
  simp [Lb.d_law_is_deeds, runF, e]
theorem w_truth (n : Nat) (a b : Bool) (os : List O) : call X (n + 1) "_law_truth" [.pl (.bool a), .pl (.bool b)] [] [] os = .ok (.pl (.bool (decide (a = b)))) [.un, .un] os := by
  rw [call_def hX.truth n _ os rfl [] rfl]
  simp [Lb.d_law_truth, runF, typeIs]
end
end Pl
end PartPlH
section PartPlI
set_option autoImplicit false
set_option linter.all false
set_option maxRecDepth 100000
set_option maxHeartbeats 1000000
/-! PlI: is_trust of a trust of the right kinds. -/
namespace Pl
open EV PySem
def tieB (e : Tie) : Bool := nmOk e.g && nmOk e.r && !decide (e.g = e.r) && spB e.s e.u
def wishB (o : Str) (e : Wish) : Bool := nmOk e.a && !decide (e.a = o) && isDeeds (.tuple (e.ds.map .str)) && spB e.s e.u
theorem moments_sp (s u : Int) : areMoments (.int s) (.int u) = spB s u := by
  unfold areMoments isBetween spB ltI
  rw [Bool.eq_iff_iff]
  simp
  omega
theorem room_nm : nmOk "room" = true := by decide +kernel
theorem both_ok : isDeeds bothD = true := by decide +kernel
theorem isTie_d (e : Tie) : isTie e.d = tieB e := by
  unfold isTie Tie.d isLeaveG tieB
  simp only [moments_sp, room_nm, both_ok, isName, eqS, isBetween, Bool.true_and, Bool.and_true]
  simp
theorem isWish_d (o : Str) (e : Wish) : isWish (.str o) e.d = (nmOk o && wishB o e) := by
  unfold isWish Wish.d isLeaveG wishB
  simp only [moments_sp, room_nm, isName, eqS, isBetween, Bool.true_and, Bool.and_true]
  have : decide (o = e.a) = decide (e.a = o) := by rw [decide_eq_decide]; exact eq_comm
  rw [this]
  simp [Bool.and_assoc]
theorem namesD_len (t : Tru) : (namesD (.str t.o) (t.ties.map Tie.d) (t.wishes.map Wish.d)).length = (uniqS [] t.nonOwn).length := by
  have e : ((t.wishes.map Wish.d).map hd0 ++ (t.ties.map Tie.d).map hd0 ++ (t.ties.map Tie.d).map hd1) = t.names.map .str := by
    unfold Tru.names
    simp only [List.map_append, List.map_map]
    rfl
  unfold namesD
  rw [e, List.filter_map, List.map_map]
  have := congrArg List.length (dmake_keys (.bool true) t.nonOwn [] [] rfl)
  rw [List.length_map, List.length_map] at this
  rw [← this]
  congr 1
theorem isTrust_d (t : Tru) : isTrust t.d = (decide (t.ties.length ≤ 20) && (decide (1 ≤ t.wishes.length) && decide (t.wishes.length ≤ 6)) && nmOk t.o && decide (t.others.length ≤ 7) && t.ties.all tieB && t.wishes.all (wishB t.o) && decide ((uniqS [] (t.wishes.map Wish.a)).length = t.wishes.length)) := by
  unfold isTrust Tru.d
  have e1 : (t.ties.map Tie.d).all isTie = t.ties.all tieB := by
    rw [List.all_map]
    congr 1
    funext e
    exact isTie_d e
  have e2 : (t.wishes.map Wish.d).all (isWish (.str t.o)) = t.wishes.all fun e => nmOk t.o && wishB t.o e := by
    rw [List.all_map]
    congr 1
    funext e
    exact isWish_d t.o e
  have e3 : (firsts [] ((t.wishes.map Wish.d).map hd0)).length = (uniqS [] (t.wishes.map Wish.a)).length := by
    have := firsts_strs (t.wishes.map Wish.a) []
    rw [List.map_nil] at this
    have e : (t.wishes.map Wish.d).map hd0 = (t.wishes.map Wish.a).map .str := by simp only [List.map_map]; rfl
    rw [e, this, List.length_map]
  have e4 : t.others.length = (uniqS [] t.nonOwn).length := List.length_mergeSort _
  simp only [e1, e2, e3, namesD_len, e4, List.length_map]
  cases hw : t.wishes with
  | nil => simp
  | cons w ws =>
    have : (w :: ws).all (fun e => nmOk t.o && wishB t.o e) = (nmOk t.o && (w :: ws).all (wishB t.o)) := by
      cases nmOk t.o
      · simp
      · simp
    rw [this, Bool.eq_iff_iff]
    simp only [Bool.and_eq_true]
    constructor
    · rintro ⟨⟨⟨⟨⟨a, b⟩, c⟩, d, e⟩, f⟩, g⟩; exact ⟨⟨⟨⟨⟨⟨a, c⟩, d⟩, g⟩, b⟩, e⟩, f⟩
    · rintro ⟨⟨⟨⟨⟨⟨a, c⟩, d⟩, g⟩, b⟩, e⟩, f⟩; exact ⟨⟨⟨⟨⟨a, b⟩, c⟩, d, e⟩, f⟩, g⟩
/-- a trust of parts that are not too long -/
structure Small (t : Tru) : Prop where
  o : t.o.length ≤ 1000000
  tl : t.ties.length ≤ 1000
  wl : t.wishes.length ≤ 1000
  ts : ∀ e ∈ t.ties, e.g.length ≤ 1000000 ∧ e.r.length ≤ 1000000
  ws : ∀ e ∈ t.wishes, e.a.length ≤ 1000000
theorem okTup_strs (ds : List Str) : okTup (.tuple (ds.map PyData.str)) = true := (dpt_tup (n := 0) fun d hd => by obtain ⟨x, _, rfl⟩ := List.mem_map.mp hd; exact dpt_str x).ok (by omega)
theorem Small.fine {t : Tru} (h : Small t) : fineTrust t.d = true := by
  unfold Tru.d fineTrust
  simp only [Bool.and_eq_true]
  refine ⟨⟨by simpa [fineD] using h.o, ?_⟩, ?_⟩
  · rw [List.all_eq_true]
    intro d hd
    obtain ⟨e, he, rfl⟩ := List.mem_map.mp hd
    obtain ⟨h1, h2⟩ := h.ts e he
    simp [Tie.d, fineRow, fineD, okTup, h1, h2]
  · rw [List.all_eq_true]
    intro d hd
    obtain ⟨e, he, rfl⟩ := List.mem_map.mp hd
    have h1 := h.ws e he
    have := okTup_strs e.ds
    unfold okTup at this
    simp [Wish.d, fineRow, fineD, okTup, h1, this]
theorem uniq_self : ∀ (l acc : List Str), (acc ++ l).Nodup → uniqS acc l = acc ++ l
  | [], acc, _ => by simp [uniqS]
  | x :: l, acc, h => by
    have hx : x ∉ acc := fun hm => (List.nodup_append.mp h).2.2 x hm x List.mem_cons_self rfl
    rw [uniqS, if_neg hx, uniq_self l (acc ++ [x]) (by simpa using h)]
    simp
theorem nm_len {z : Str} (h : Nm z) : z.length ≤ 1000000 := Nat.le_trans h.2.1 (by omega)
theorem Trust.small {l : List Str} {t : Tru} (h : Trust l t) : Small t where
  o := nm_len (h.nm.nm _ h.o)
  tl := Nat.le_trans h.tl (by omega)
  wl := Nat.le_trans h.w6 (by omega)
  ts := fun e he => ⟨nm_len (h.nm.nm _ (h.ties e he).g), nm_len (h.nm.nm _ (h.ties e he).r)⟩
  ws := fun e he => nm_len (h.nm.nm _ (h.ws e he).a)
theorem spB_ok {s u : Int} (h : SpanOk s u) : spB s u = true := by
  unfold spB
  simp [h.1, h.2.1, h.2.2]
theorem kinds_ok {ds : List Str} (h : ds ∈ kinds) : isDeeds (.tuple (ds.map .str)) = true := by
  simp only [kinds, List.mem_cons, List.not_mem_nil, or_false] at h
  rcases h with rfl | rfl | rfl <;> decide +kernel
theorem uniq_few {l : List Str} {t : Tru} (h : Trust l t) : (uniqS [] t.nonOwn).length + 1 ≤ l.length := by
  have nd := uniq_nodup t.nonOwn [] List.nodup_nil
  have sub : ∀ x ∈ t.o :: uniqS [] t.nonOwn, x ∈ l := fun x hx => by
    rcases List.mem_cons.mp hx with rfl | hx
    · exact h.o
    · rw [uniq_mem] at hx
      have hx := (List.mem_filter.mp (hx.resolve_left (fun z => nomatch z))).1
      unfold Tru.names at hx
      rcases List.mem_append.mp hx with hx | hx
      · rcases List.mem_append.mp hx with hx | hx
        · obtain ⟨e, he, rfl⟩ := List.mem_map.mp hx; exact (h.ws e he).a
        · obtain ⟨e, he, rfl⟩ := List.mem_map.mp hx; exact (h.ties e he).g
      · obtain ⟨e, he, rfl⟩ := List.mem_map.mp hx; exact (h.ties e he).r
  have no : t.o ∉ uniqS [] t.nonOwn := fun hx => by
    rw [uniq_mem] at hx
    have hx := (List.mem_filter.mp (hx.resolve_left (fun z => nomatch z))).2
    simp at hx
  have := (List.nodup_cons.mpr ⟨no, nd⟩).length_le_of_subset sub
  simpa using this
/-- a drawn trust is one -/
theorem Trust.is {l : List Str} {t : Tru} (h : Trust l t) (hl : l.length ≤ 8) : isTrust t.d = true := by
  rw [isTrust_d]
  have e4 : t.others.length = (uniqS [] t.nonOwn).length := List.length_mergeSort _
  have := uniq_few h
  simp only [Bool.and_eq_true, decide_eq_true_eq, List.all_eq_true]
  refine ⟨⟨⟨⟨⟨⟨h.tl, h.w1, h.w6⟩, nmB_iff.mpr (h.nm.nm _ h.o)⟩, by rw [e4]; omega⟩, fun e he => ?_⟩, fun e he => ?_⟩, ?_⟩
  · have := h.ties e he
    unfold tieB
    simp [nmB_iff.mpr (h.nm.nm _ this.g), nmB_iff.mpr (h.nm.nm _ this.r), this.ne, spB_ok this.sp]
  · have := h.ws e he
    unfold wishB
    simp [nmB_iff.mpr (h.nm.nm _ this.a), this.ne, spB_ok this.sp, kinds_ok this.ds]
  · rw [uniq_self _ _ (by simpa using h.wn)]; simp
end Pl
end PartPlI
section PartPlJ
set_option autoImplicit false
set_option linter.all false
set_option maxRecDepth 100000
set_option maxHeartbeats 2000000
/-! PlJ: rows of plans. -/
namespace Pl
open EV PySem
def bodyC : C → List C
  | .for _ _ b => b
  | .whl _ b => b
  | _ => []
/-- a row of a plan, of the right kinds -/
structure Row where
  g : Str
  h : Str
  ds : List Str
  s : Int
  u : Int
  p : Int
def Row.d (r : Row) : D := .tuple [.str r.g, .str r.h, .tuple (r.ds.map .str), .int r.s, .int r.u, .int r.p]
def Row.lv (r : Row) : D := .tuple [.int 0, .str "room", .tuple (r.ds.map .str), .str r.g, .str r.h, .int r.s, .int r.u, .int r.p, .none]
def allIn (xs ys : List Str) : Bool := xs.all fun x => decide (x ∈ ys)
def within (r o : Row) : Bool := decide (o.h = r.g) && allIn r.ds o.ds && (decide (o.s ≤ r.s) && (decide (r.u ≤ o.u) && decide (r.p < o.p)))
structure HasPlan (X : Tx) : Prop extends HasLeaf X where
  is_row_of : X.fd "is_row_of" = some Lb.d_is_row_of
  lies_within : X.fd "lies_within" = some Lb.d_lies_within
  is_spanned : X.fd "is_spanned" = some Lb.d_is_spanned
  is_borne : X.fd "is_borne" = some Lb.d_is_borne
  is_plan : X.fd "is_plan" = some Lb.d_is_plan
@[simp] theorem inD_tstrs (z : Str) (l : List Str) : inD (.str z) (.tuple (l.map .str)) = some (decide (z ∈ l)) := inD_strs z l
/-- whether a tie bears it -/
def spanB (t : Tru) (g h : Str) (s u : Int) : Bool := t.ties.any fun e => decide (e.g = g) && decide (e.r = h) && (decide (e.s ≤ s) && decide (u ≤ e.u))
theorem eqD_pair (a b c d : Str) : eqD (.tuple [.str a, .str b]) (.tuple [.str c, .str d]) = some (decide (a = c) && decide (b = d)) := by
  have ok : ∀ a b : Str, okD (.tuple [.str a, .str b]) = true := fun a b => (dpt_tup (n := 0) fun d hd => by
    simp only [List.mem_cons, List.not_mem_nil, or_false] at hd
    rcases hd with rfl | rfl <;> exact dpt_str _).ok (by omega)
  rw [eqD_ok (ok a b) (ok c d)]
  congr 1
  rw [Bool.eq_iff_iff]
  simp [PyData.eqv, PyData.eqvAll]
section
variable {X : Tx}
theorem w_lies_within (hF : X.fd "lies_within" = some Lb.d_lies_within) (n : Nat) (r o : Row) (os : List O) (h1 : r.ds.length ≤ 1000) : call X (n + 1) "lies_within" [.pl r.lv, .pl o.lv] [] [] os = .ok (.pl (.bool (within r o))) [.un, .un] os := by
  rw [call_def hF n _ os rfl [] rfl]
  by_cases hg : o.h = r.g
  · simp [Lb.d_lies_within, runF, Row.lv, hg]
    generalize hC : comp _ _ _ _ _ _ _ = C
    have kC := hC.symm.trans (comp_all (enc := PyData.str) (fun x => PyData.bool (decide (x ∈ o.ds))) rfl rfl (by omega) (fun x _ => by simp [turnC, fixC]) rfl rfl)
    subst kC
    cases ha : allIn r.ds o.ds with
    | true =>
      have ha' : ¬ ∃ x, x ∈ r.ds ∧ ¬ x ∈ o.ds := fun ⟨x, a, b⟩ => b (of_decide_eq_true (List.all_eq_true.mp ha x a))
      by_cases q1 : o.s ≤ r.s <;> by_cases q2 : r.u ≤ o.u <;> simp [ha', within, hg, ha, q1, q2]
    | false =>
      have ha' : ∃ x, x ∈ r.ds ∧ ¬ x ∈ o.ds := by
        obtain ⟨x, a, b⟩ := List.all_eq_false.mp ha
        exact ⟨x, a, by simpa using b⟩
      simp [ha', within, hg, ha]
  · simp [Lb.d_lies_within, runF, Row.lv, hg, within]
theorem w_is_spanned (hF : X.fd "is_spanned" = some Lb.d_is_spanned) (n : Nat) (t : Tru) (g h : Str) (s u : Int) (os : List O) (hl : t.ties.length ≤ 1000) : call X (n + 1) "is_spanned" [.pl t.d, .pl (.str g), .pl (.str h), .pl (.tuple [.int s, .int u])] [] [] os = .ok (.pl (.bool (spanB t g h s u))) [.un, .un, .un, .un] os := by
  rw [call_def hF n _ os rfl [] rfl]
  let st : T → T → T → T → S := fun x6 x7 x8 x9 => ⟨[.pl t.d, .pl (.str g), .pl (.str h), .pl (.tuple [.int s, .int u]), .pl (.int s), .pl (.int u), x6, x7, x8, x9], os⟩
  let St : S → Prop := fun s => ∃ x6 x7 x8 x9, s = st x6 x7 x8 x9
  let mt : Tie → Bool := fun e => decide (e.g = g) && decide (e.r = h) && (decide (e.s ≤ s) && decide (u ≤ e.u))
  have main : ∃ s2, exCs { (⟨call X n, X.con, X.sub, X.xf, X.fuel, []⟩ : Pm) with fix := fixOf 0 ([.pl t.d, .pl (.str g), .pl (.str h), .pl (.tuple [.int s, .int u])] ++ []) } Lb.d_is_spanned.body ⟨([.pl t.d, .pl (.str g), .pl (.str h), .pl (.tuple [.int s, .int u])] ++ []) ++ List.replicate (Lb.d_is_spanned.n - ([.pl t.d, .pl (.str g), .pl (.str h), .pl (.tuple [.int s, .int u])] ++ [] : List T).length) .un, os⟩ = .ok (.rt (.pl (.bool (spanB t g h s u)))) s2 ∧ s2.os = os := by
    unfold Lb.d_is_spanned
    rw [exCs_nx (s' := st .un .un .un .un) (by simp [st, fixOf])]
    have k1 := forL_chk (fix := []) (g := .tp [.nm 6, .nm 7, .nm 8, .nm 9]) (body := exCs ⟨call X n, X.con, X.sub, X.xf, X.fuel, []⟩ (bodyC (Lb.d_is_spanned.body.getD 1 .pas))) (enc := Tie.d) (P := fun e => !mt e) (v := .pl (.bool true)) (St := St) (os := os) (l := t.ties) (fun e he s0 ⟨x6, x7, x8, x9, es⟩ => by
      subst es
      refine ⟨st (.pl (.str e.g)) (.pl (.str e.r)) (.pl (.int e.s)) (.pl (.int e.u)), by simp [st, Tie.d], fun hp => ⟨st (.pl (.str e.g)) (.pl (.str e.r)) (.pl (.int e.s)) (.pl (.int e.u)), ?_, _, _, _, _, rfl⟩, fun hp => ⟨st (.pl (.str e.g)) (.pl (.str e.r)) (.pl (.int e.s)) (.pl (.int e.u)), ?_, rfl⟩⟩
      · have hp : mt e = false := by simpa using hp
        by_cases b1 : e.g = g <;> by_cases b2 : e.r = h <;> by_cases b3 : e.s ≤ s <;> by_cases b4 : u ≤ e.u <;> simp [mt, b1, b2, b3, b4] at hp <;> simp [st, bodyC, Lb.d_is_spanned, eqD_pair, b1, b2, b3, b4]
      · have hp : mt e = true := by simpa using hp
        simp only [mt, Bool.and_eq_true, decide_eq_true_eq] at hp
        obtain ⟨⟨b1, b2⟩, b3, b4⟩ := hp
        simp [st, bodyC, Lb.d_is_spanned, eqD_pair, b1, b2, b3, b4]) (st .un .un .un .un) ⟨_, _, _, _, rfl⟩
    cases ht : t.ties.all (fun e => !mt e) with
    | false =>
      obtain ⟨s', e1, o1⟩ := k1.2 ht
      have eb : spanB t g h s u = true := by
        obtain ⟨e, he, q⟩ := List.all_eq_false.mp ht
        exact List.any_eq_true.mpr ⟨e, he, by simpa [mt] using q⟩
      rw [eb]
      exact ⟨s', exCs_rt (for_of (s1 := st .un .un .un .un) (ds := t.ties.map Tie.d) (by simp [st, Tru.d]) e1), o1⟩
    | true =>
      obtain ⟨s', e1, x6, x7, x8, x9, rfl⟩ := k1.1 ht
      have eb : spanB t g h s u = false := by
        unfold spanB
        rw [List.any_eq_false]
        intro e he
        have hm : mt e = false := by simpa using List.all_eq_true.mp ht e he
        exact fun z => Bool.false_ne_true (hm.symm.trans z)
      rw [exCs_nx (for_of (s1 := st .un .un .un .un) (ds := t.ties.map Tie.d) (by simp [st, Tru.d]) e1), eb]
      exact ⟨st x6 x7 x8 x9, by simp [st], rfl⟩
  obtain ⟨s2, e, ho⟩ := main
  rw [run_ret e, ho]
  simp [outsOf]
/-- rows by their holders -/
def rowKv (r : Row) : D × D := (.str r.h, r.d)
def find (l : List Row) (z : Str) : Option Row := List.find? (fun r => decide (r.h = z)) l
def coverB (r : Row) (w : Wish) : Bool := allIn w.ds r.ds && (decide (r.s ≤ w.s) && decide (w.u ≤ r.u))
theorem dget_rows (z : Str) : ∀ l : List Row, dget (l.map rowKv) (.str z) = (find l z).map Row.d
  | [] => rfl
  | r :: l => by
    have ih := dget_rows z l
    unfold find at ih ⊢
    simp only [List.map_cons, rowKv, dget, List.find?_cons]
    by_cases h : r.h = z
    · simp [h, keyEq]
    · simp [h, keyEq]
      exact ih
def borneB (l : List Row) (w : Wish) : Bool := match find l w.a with
  | none => false
  | some r => coverB r w
theorem inD_rows (z : Str) (l : List Row) : inD (.str z) (.dict (l.map rowKv)) = some (find l z).isSome := by
  show some (dhas (l.map rowKv) (.str z)) = _
  unfold dhas
  rw [dget_rows, Option.isSome_map]
theorem w_is_borne (hF : X.fd "is_borne" = some Lb.d_is_borne) (n : Nat) (l : List Row) (w : Wish) (os : List O) (hl : w.ds.length ≤ 1000) : call X (n + 1) "is_borne" [.bd (l.map rowKv), .pl w.d] [] [] os = .ok (.pl (.bool (borneB l w))) [.un, .un] os := by
  rw [call_def hF n _ os rfl [] rfl]
  have hg := dget_rows w.a l
  cases hf : find l w.a with
  | none => simp [Lb.d_is_borne, runF, Wish.d, borneB, hf, inD_rows]
  | some r =>
    rw [hf] at hg
    simp [Lb.d_is_borne, runF, Wish.d, borneB, hf, inD_rows, hg, Row.d]
    generalize hC : comp _ _ _ _ _ _ _ = C
    have kC := hC.symm.trans (comp_all (enc := PyData.str) (fun x => PyData.bool (decide (x ∈ r.ds))) rfl rfl (by omega) (fun x _ => by simp [turnC, fixC]) rfl rfl)
    subst kC
    cases ha : allIn w.ds r.ds with
    | true =>
      have ha' : ∀ x, x ∈ w.ds → x ∈ r.ds := fun x a => of_decide_eq_true (List.all_eq_true.mp ha x a)
      by_cases q1 : r.s ≤ w.s <;> by_cases q2 : w.u ≤ r.u <;> simp [coverB, ha, q1, q2] <;> (try rw [if_pos ha']) <;> (try simp)
    | false =>
      have ha' : ¬ ∀ x, x ∈ w.ds → x ∈ r.ds := fun h => by
        obtain ⟨x, a, b⟩ := List.all_eq_false.mp ha
        exact b (decide_eq_true (h x a))
      simp [coverB, ha]
      rw [if_neg ha']
      simp
end
end Pl
end PartPlJ
section PartPlK
set_option autoImplicit false
set_option linter.all false
set_option maxRecDepth 100000
set_option maxHeartbeats 4000000
/-! PlK: is_plan of typed rows. -/
namespace Pl
open EV PySem
def formB (r : Row) : Bool := isLeaveG 0 "room" (.tuple (r.ds.map .str)) (.str r.g) (.str r.h) (.int r.s) (.int r.u) (.int r.p)
def Row.Small (r : Row) : Prop := r.g.length ≤ 1000000 ∧ r.h.length ≤ 1000000 ∧ r.ds.length ≤ 1000
def stepB (t : Tru) (l : List Row) (r : Row) : Bool := spanB t r.g r.h r.s r.u && (decide (r.g = t.o) || (match find l r.g with
  | none => false
  | some o => within r o))
def planB (t : Tru) (l : List Row) : Bool := l.all formB && decide (l.map Row.h = sortS (uniqS [] (l.map Row.h))) && !decide (t.o ∈ l.map Row.h) && l.all (stepB t l) && t.wishes.all (borneB l)
theorem rows_keys : ∀ (l : List Row) (kvs : List (D × D)) (keys : List Str), kvs.map (·.1) = keys.map .str → (dmake kvs (l.map rowKv)).map (·.1) = (uniqS keys (l.map Row.h)).map .str
  | [], kvs, keys, h => h
  | r :: l, kvs, keys, h => by
    show (dmake (dput kvs (.str r.h) r.d) (l.map rowKv)).map (·.1) = (uniqS keys (r.h :: l.map Row.h)).map .str
    rw [rows_keys l _ _ (dput_keys kvs r.h r.d keys h), uniqS]
    split <;> rfl
theorem find_none {l : List Row} {z : Str} (h : z ∉ l.map Row.h) : find l z = none := by
  unfold find
  rw [List.find?_eq_none]
  intro r hr
  simp only [decide_eq_true_eq]
  exact fun e => h (List.mem_map.mpr ⟨r, hr, e⟩)
theorem find_is (l : List Row) (z : Str) : (find l z).isSome = decide (z ∈ l.map Row.h) := by
  unfold find
  rw [Bool.eq_iff_iff, List.find?_isSome]
  simp
theorem dmake_rows : ∀ (l l0 : List Row), ((l0 ++ l).map Row.h).Nodup → dmake (l0.map rowKv) (l.map rowKv) = (l0 ++ l).map rowKv
  | [], l0, _ => by simp [dmake]
  | r :: l, l0, h => by
    have hn : r.h ∉ l0.map Row.h := by
      rw [List.map_append, List.map_cons] at h
      exact fun q => (List.nodup_append.mp h).2.2 _ q _ List.mem_cons_self rfl
    have e : dput (l0.map rowKv) (.str r.h) r.d = (l0 ++ [r]).map rowKv := by
      unfold dput dhas
      rw [dget_rows, find_none hn]
      simp [rowKv]
    show dmake (dput (l0.map rowKv) (.str r.h) r.d) (l.map rowKv) = _
    rw [e, dmake_rows l (l0 ++ [r]) (by simpa using h)]
    simp
section
variable {X : Tx} (hX : HasPlan X)
include hX
theorem w_row_form (n : Nat) (r : Row) (os : List O) (h : r.Small) : call X (n + 4) "is_leave" [.pl r.lv] [] [] os = .ok (.pl (.bool (formB r))) [.un] os := by
  have := w_is_leave hX.toHasLeaf n 0 "room" (.tuple (r.ds.map .str)) (.str r.g) (.str r.h) (.int r.s) (.int r.u) (.int r.p) os (by decide) (okTup_strs _) (by simpa [fineD] using h.1) (by simpa [fineD] using h.2.1) rfl rfl rfl rfl
  exact this
theorem w_is_plan (n : Nat) (t : Tru) (l : List Row) (os : List O) (hl : l.length ≤ 1000) (hs : ∀ r ∈ l, r.Small) (ht : t.ties.length ≤ 1000) (hw : t.wishes.length ≤ 1000) (hd : ∀ w ∈ t.wishes, w.ds.length ≤ 1000) :
    call X (n + 5) "is_plan" [.pl t.d, .pl (.tuple (l.map Row.d))] [] [] os = .ok (.pl (.bool (planB t l))) [.un, .un] os := by
  rw [call_def hX.is_plan (n + 4) _ os rfl [] rfl]
  have c1 : ∀ r ∈ l, call X (n + 4) "is_row_of" [.pl (.int 6), (T.pl r.d).bor] [] [] os = .ok (.pl (.bool true)) [.un, .un] os := fun r _ => by
    rw [w_is_row_of hX.is_row_of (n + 3) 6 r.d os rfl]; rfl
  have c2 : ∀ r : Row, call X (n + 4) "as_leave" [.pl r.d] [] [] os = .ok (.pl r.lv) [.un, .un, .un, .un] os := fun r => w_as_leave hX.toHasLeaf (n + 3) (.str r.g) (.str r.h) (.tuple (r.ds.map .str)) (.int r.s) (.int r.u) (.int r.p) os
  have c3 : ∀ r ∈ l, call X (n + 4) "is_leave" [.pl r.lv] [] [] os = .ok (.pl (.bool (formB r))) [.un] os := fun r hr => w_row_form hX n r os (hs r hr)
  simp [Lb.d_is_plan, runF, typeIs]
  generalize hC : comp _ _ _ _ _ _ _ = C
  have kC := hC.symm.trans (comp_all (enc := Row.d) (fun r => PyData.bool true) rfl rfl (by omega) (fun r hr => by
    simp [turnC, fixC, c1 r hr]) rfl rfl)
  subst kC
  have tr : ∀ l : List Row, (∀ x ∈ (l.map fun _ => true), x = true) := fun l x hx => by obtain ⟨_, _, rfl⟩ := List.mem_map.mp hx; rfl
  simp
  generalize hC2 : comp _ _ _ _ _ _ _ = C2
  have kC := hC2.symm.trans (comp_all (enc := Row.d) (fun r => PyData.bool (formB r)) rfl rfl (by omega) (fun r hr => by
    simp [turnC, fixC, c2 r, c3 r hr]) rfl rfl)
  subst kC
  cases hf : l.all formB with
  | false =>
    have hf' : ∃ x, x ∈ l ∧ formB x = false := by
      obtain ⟨x, a, b⟩ := List.all_eq_false.mp hf
      exact ⟨x, a, by simpa using b⟩
    simp [hf', planB, hf]
  | true =>
    have hf' : ¬ ∃ x, x ∈ l ∧ formB x = false := fun ⟨x, a, b⟩ => by
      have := List.all_eq_true.mp hf x a
      rw [b] at this
      cases this
    simp [hf']
    clear hC hC2
    generalize hC : comp _ _ _ _ _ _ _ = C
    have kC := hC.symm.trans (comp_all (enc := Row.d) rowKv rfl rfl (by omega) (fun r hr => by simp [turnC, fixC, Row.d, rowKv]) rfl rfl)
    subst kC
    simp
    have ok : ∀ x : Row, x ∈ l → okKey (rowKv x).fst = true := fun _ _ => rfl
    rw [if_pos ok]
    have hk := rows_keys l [] [] rfl
    generalize hK : dmake [] (l.map rowKv) = K at hk ⊢
    clear hC
    simp
    generalize hC : comp _ _ _ _ _ _ _ = C
    have kC := hC.symm.trans (comp_all (enc := Row.d) (fun r => PyData.str r.h) rfl rfl (by omega) (fun r hr => by simp [turnC, fixC, Row.d]) rfl rfl)
    subst kC
    have lu : (uniqS [] (l.map Row.h)).length ≤ 1000000 := by
      have := uniq_le (l.map Row.h) []
      simp at this
      omega
    have bs : biSorted [.od K] = some (.ol ((sortS (uniqS [] (l.map Row.h))).map .str)) := by
      have e := biSorted_ol (uniqS [] (l.map Row.h)) lu
      rw [← hk] at e
      exact e
    have em : (l.map fun r => PyData.str r.h) = (l.map Row.h).map .str := by rw [List.map_map]; rfl
    rw [em]
    have ed := eqD_strs (l.map Row.h) (sortS (uniqS [] (l.map Row.h)))
    simp only [List.map_map] at ed
    by_cases hs' : l.map Row.h = sortS (uniqS [] (l.map Row.h))
    · have nd : (l.map Row.h).Nodup := by
        rw [hs']
        exact (List.mergeSort_perm _ _).nodup_iff.mpr (uniq_nodup _ [] List.nodup_nil)
      have eK : K = l.map rowKv := by rw [← hK]; exact dmake_rows l [] (by simpa using nd)
      subst eK
      rw [decide_eq_true hs'] at ed
      have ir := inD_rows t.o l
      rw [find_is] at ir
      by_cases ho : t.o ∈ l.map Row.h
      · rw [decide_eq_true ho] at ir
        have hp : planB t l = false := by unfold planB; rw [decide_eq_true ho]; simp
        simp [bs, ed, Tru.d, ir, hp]
      · rw [decide_eq_false ho] at ir
        simp [bs, ed, Tru.d, ir]
        clear hC
        generalize hF : forL _ _ _ _ _ = F
        have tD : t.d = .tuple [.str t.o, .tuple (t.ties.map Tie.d), .tuple (t.wishes.map Wish.d)] := rfl
        let st : T → T → T → T → T → T → T → S := fun x3 x4 x5 x6 x7 x8 x9 => ⟨[.pl (.tuple [.str t.o, .tuple (t.ties.map Tie.d), .tuple (t.wishes.map Wish.d)]), .pl (.tuple (l.map Row.d)), .od (l.map rowKv), x3, x4, x5, x6, x7, x8, x9, .un], os⟩
        have k1 := forL_chk (fix := []) (g := .nm 3) (body := exCs ⟨call X (n + 4), X.con, X.sub, X.xf, X.fuel, []⟩ (bodyC (Lb.d_is_plan.body.getD 4 .pas))) (enc := Row.d) (P := stepB t l) (v := .pl (.bool false)) (St := fun s => ∃ x3 x4 x5 x6 x7 x8 x9, s = st x3 x4 x5 x6 x7 x8 x9) (os := os) (l := l) (fun r hr s ⟨x3, x4, x5, x6, x7, x8, x9, es⟩ => by
          subst es
          have d1 := w_is_spanned hX.is_spanned (n + 3) t r.g r.h r.s r.u os ht
          have d2 := inD_rows r.g l
          have d3 := dget_rows r.g l
          have d4 := c2 r
          have hin := w_lies_within hX.lies_within (n + 3) r
          have sr := (hs r hr).2.2
          have s1 : asgG [] (.nm 3) (.pl r.d) (st x3 x4 x5 x6 x7 x8 x9) = .ok () (st (.pl r.d) x4 x5 x6 x7 x8 x9) := by simp [st]
          let s2 : S := st (.pl r.d) (.pl (.str r.g)) (.pl (.str r.h)) (.pl (.tuple (r.ds.map .str))) (.pl (.int r.s)) (.pl (.int r.u)) (.pl (.int r.p))
          have rD : r.d = .tuple [.str r.g, .str r.h, .tuple (r.ds.map .str), .int r.s, .int r.u, .int r.p] := rfl
          simp [Tru.d] at d1
          rw [rD] at d4
          have go : exCs ⟨call X (n + 4), X.con, X.sub, X.xf, X.fuel, []⟩ (bodyC (Lb.d_is_plan.body.getD 4 .pas)) (st (.pl r.d) x4 x5 x6 x7 x8 x9) = (if stepB t l r then .ok .nx s2 else .ok (.rt (.pl (.bool false))) s2) := by
            cases q1 : spanB t r.g r.h r.s r.u with
            | false =>
              rw [q1] at d1
              simp [st, s2, bodyC, Lb.d_is_plan, rD, d1, stepB, q1]
            | true =>
              rw [q1] at d1
              by_cases q2 : r.g = t.o
              · rw [q2] at d1 q1
                simp [st, s2, bodyC, Lb.d_is_plan, rD, d1, stepB, q1, q2]
              · cases q3 : find l r.g with
                | none =>
                  rw [q3] at d2
                  simp [st, s2, bodyC, Lb.d_is_plan, rD, d1, stepB, q1, q2, q3, d2]
                | some o =>
                  rw [q3] at d2 d3
                  have d5 := c2 o
                  have d6 := hin o os sr
                  rw [show o.d = .tuple [.str o.g, .str o.h, .tuple (o.ds.map .str), .int o.s, .int o.u, .int o.p] from rfl] at d5
                  have d3 : dget (l.map rowKv) (.str r.g) = some (.tuple [.str o.g, .str o.h, .tuple (o.ds.map .str), .int o.s, .int o.u, .int o.p]) := d3
                  simp [st, s2, bodyC, Lb.d_is_plan, rD, d1, stepB, q1, q2, q3, d2, d3, d4, d5, d6]
                  try (cases within r o <;> simp)
          refine ⟨_, s1, fun hp => ⟨s2, by rw [go, if_pos hp], _, _, _, _, _, _, _, rfl⟩, fun hp => ⟨s2, by rw [go, hp]; rfl, rfl⟩⟩) (st .un .un .un .un .un .un .un) ⟨_, _, _, _, _, _, _, rfl⟩
        cases hq : l.all (stepB t l) with
        | false =>
          obtain ⟨s', e1, o1⟩ := k1.2 hq
          have := hF.symm.trans e1
          subst this
          have hp : planB t l = false := by unfold planB; rw [hq]; simp
          simp [ended, hp, o1]
        | true =>
          obtain ⟨s', e1, x3, x4, x5, x6, x7, x8, x9, rfl⟩ := k1.1 hq
          have := hF.symm.trans e1
          subst this
          simp [ended, st]
          clear hF k1
          generalize hC : comp _ _ _ _ _ _ _ = C
          have kC := hC.symm.trans (comp_all (enc := Wish.d) (fun w => PyData.bool (borneB l w)) rfl rfl (by omega) (fun w hw' => by
            have e1 := w_is_borne hX.is_borne (n + 3) l w os (hd w hw')
            simp [Wish.d] at e1
            simp [turnC, fixC, Wish.d, e1]) rfl rfl)
          subst kC
          have hp : planB t l = t.wishes.all (borneB l) := by
            unfold planB
            rw [hf, hq, decide_eq_true hs', decide_eq_false ho]; simp
          rw [hp]
          simp
    · rw [decide_eq_false hs'] at ed
      have hp : planB t l = false := by unfold planB; rw [decide_eq_false hs']; simp
      simp [bs, ed, hp]
end
end Pl
end PartPlK
section PartPlL
set_option autoImplicit false
set_option linter.all false
set_option maxRecDepth 100000
set_option maxHeartbeats 4000000
/-! PlL: the law's own looks at plans. -/
namespace Pl
open EV PySem
theorem eqD_ties (l : List Tie) : eqD (.list (l.map Tie.d)) (.list []) = some (decide (l = [])) := by
  have d3 : dpt 2 (.list (l.map Tie.d)) := dpt_list fun d hd => by
    obtain ⟨e, he, rfl⟩ := List.mem_map.mp hd
    refine dpt_tup fun d hd => ?_
    simp only [List.mem_cons, List.not_mem_nil, or_false] at hd
    rcases hd with rfl | rfl | rfl | rfl
    · exact dpt_str _
    · exact dpt_str _
    · exact dpt_int _
    · exact dpt_int _
  rw [eqD_ok (d3.ok (by omega)) (by decide +kernel)]
  cases l with
  | nil => simp [PyData.eqv, PyData.eqvAll]
  | cons a r => simp [PyData.eqv, PyData.eqvAll]
section
variable {X : Tx}
theorem w_l_lies (hF : X.fd "_law_lies" = some Lb.d_law_lies) (n : Nat) (t : Tru) (g h : Str) (s u : Int) (os : List O) (hl : t.ties.length ≤ 1000) : call X (n + 1) "_law_lies" [.pl t.d, .pl (.str g), .pl (.str h), .pl (.int s), .pl (.int u)] [] [] os = .ok (.pl (.bool (spanB t g h s u))) [.un, .un, .un, .un, .un] os := by
  rw [call_def hF n _ os rfl [] rfl]
  simp [Lb.d_law_lies, runF, Tru.d]
  generalize hC : comp _ _ _ _ _ _ _ = C
  have kC := hC.symm.trans (comp_if (enc := Tie.d) (l := t.ties) (fun e => decide (e.g = g) && decide (e.r = h)) Tie.d rfl rfl (by omega) (fun e he => by by_cases a1 : e.g = g <;> by_cases a2 : e.r = h <;> simp [turnC, fixC, Tie.d, eqD_pair, a1, a2]) rfl rfl)
  subst kC
  clear hC
  simp
  generalize hC : comp _ _ _ _ _ _ _ = C
  have hl2 : (t.ties.filter fun e => decide (e.g = g) && decide (e.r = h)).length ≤ 1000 := Nat.le_trans (List.length_filter_le _ _) hl
  have kC := hC.symm.trans (comp_if (enc := Tie.d) (l := t.ties.filter fun e => decide (e.g = g) && decide (e.r = h)) (fun e => decide (e.s ≤ s) && decide (u ≤ e.u)) Tie.d rfl rfl (by omega) (fun e he => by by_cases a1 : e.s ≤ s <;> by_cases a2 : u ≤ e.u <;> simp [turnC, fixC, Tie.d, a1, a2]) rfl rfl)
  subst kC
  clear hC
  have ee := eqD_ties ((t.ties.filter fun e => decide (e.g = g) && decide (e.r = h)).filter fun e => decide (e.s ≤ s) && decide (u ≤ e.u))
  generalize hL : (t.ties.filter fun e => decide (e.g = g) && decide (e.r = h)).filter (fun e => decide (e.s ≤ s) && decide (u ≤ e.u)) = L at ee ⊢
  have es : spanB t g h s u = !decide (L = []) := by
    rw [← hL, List.filter_filter]
    unfold spanB
    rw [Bool.eq_iff_iff]
    simp [List.filter_eq_nil_iff]
    constructor
    · rintro ⟨e, he, ⟨a, b⟩, c, d⟩; exact ⟨e, he, c, d, a, b⟩
    · rintro ⟨e, he, c, d, a, b⟩; exact ⟨e, he, ⟨a, b⟩, c, d⟩
  simp [ee, es]
theorem w_l_within (hF : X.fd "_law_within" = some Lb.d_law_within) (n : Nat) (r o : Row) (os : List O) (hl : r.ds.length ≤ 1000) : call X (n + 1) "_law_within" [.pl r.d, .pl o.d] [] [] os = .ok (.pl (.bool (within r o))) [.un, .un] os := by
  rw [call_def hF n _ os rfl [] rfl]
  by_cases hg : o.h = r.g
  · simp [Lb.d_law_within, runF, Row.d, hg]
    generalize hC : comp _ _ _ _ _ _ _ = C
    have kC := hC.symm.trans (comp_if (enc := PyData.str) (l := r.ds) (fun x => !decide (x ∈ o.ds)) PyData.str rfl rfl (by omega) (fun x _ => by by_cases a1 : x ∈ o.ds <;> simp [turnC, fixC, a1]) rfl rfl)
    subst kC
    clear hC
    have ee := eqD_strs (r.ds.filter fun x => !decide (x ∈ o.ds)) []
    have ea : allIn r.ds o.ds = decide ((r.ds.filter fun x => !decide (x ∈ o.ds)) = []) := by
      unfold allIn
      rw [Bool.eq_iff_iff]
      simp [List.filter_eq_nil_iff]
    rw [List.map_nil, ← ea] at ee
    cases ha : allIn r.ds o.ds with
    | true =>
      rw [ha] at ee
      by_cases q1 : o.s ≤ r.s <;> by_cases q2 : r.u ≤ o.u <;> simp [ee, within, hg, ha, q1, q2]
    | false =>
      rw [ha] at ee
      simp [ee, within, hg, ha]
  · simp [Lb.d_law_within, runF, Row.d, hg, within]
/-- what the law asks of rows, their forms left out -/
def overB (t : Tru) (l : List Row) (r : Row) : Bool := decide (r.g = t.o) || l.any (within r)
def wishIn (l : List Row) (w : Wish) : Bool := l.any fun r => decide (r.h = w.a) && coverB r w
def lawPlanB (t : Tru) (l : List Row) : Bool := decide (l.map Row.h = sortS (uniqS [] (l.map Row.h))) && !decide (t.o ∈ l.map Row.h) && l.all (fun r => spanB t r.g r.h r.s r.u) && l.all (overB t l) && t.wishes.all (wishIn l)
/-- where holders are unlike, both say the same -/
theorem find_any {l : List Row} (nd : (l.map Row.h).Nodup) (z : Str) (f : Row → Bool) : (match find l z with
    | none => false
    | some o => f o) = l.any fun r => decide (r.h = z) && f r := by
  induction l with
  | nil => rfl
  | cons r l ih =>
    rw [List.map_cons, List.nodup_cons] at nd
    unfold find at ih ⊢
    rw [List.find?_cons, List.any_cons]
    by_cases h : r.h = z
    · have hn : (l.any fun r => decide (r.h = z) && f r) = false := by
        rw [List.any_eq_false]
        intro x hx
        have : ¬ x.h = z := fun e => nd.1 (List.mem_map.mpr ⟨x, hx, e.trans h.symm⟩)
        simp [this]
      simp [h, hn]
    · simp [h]
      exact ih nd.2
theorem plan_law (t : Tru) (l : List Row) : planB t l = (l.all formB && lawPlanB t l) := by
  unfold planB lawPlanB
  by_cases hs : l.map Row.h = sortS (uniqS [] (l.map Row.h))
  · have nd : (l.map Row.h).Nodup := by
      rw [hs]
      exact (List.mergeSort_perm _ _).nodup_iff.mpr (uniq_nodup _ [] List.nodup_nil)
    have e0 : ∀ r, stepB t l r = (spanB t r.g r.h r.s r.u && overB t l r) := by
      intro r
      have fa := find_any nd r.g (within r)
      have ef : (fun o : Row => decide (o.h = r.g) && within r o) = within r := by
        funext o
        unfold within
        by_cases h : o.h = r.g <;> simp [h]
      rw [ef] at fa
      exact congrArg (fun b => spanB t r.g r.h r.s r.u && (decide (r.g = t.o) || b)) fa
    have e1 : l.all (stepB t l) = (l.all (fun r => spanB t r.g r.h r.s r.u) && l.all (overB t l)) := by
      rw [Bool.eq_iff_iff]
      simp only [Bool.and_eq_true, List.all_eq_true, e0]
      exact ⟨fun h => ⟨fun r hr => (h r hr).1, fun r hr => (h r hr).2⟩, fun h r hr => ⟨h.1 r hr, h.2 r hr⟩⟩
    have e2 : t.wishes.all (borneB l) = t.wishes.all (wishIn l) := by
      congr 1
      funext w
      unfold borneB wishIn
      exact find_any nd w.a fun r => coverB r w
    rw [e1, e2]
    simp only [Bool.and_assoc]
  · rw [decide_eq_false hs]; simp
end
end Pl
end PartPlL
section PartPlM
set_option autoImplicit false
set_option linter.all false
set_option maxRecDepth 100000
set_option maxHeartbeats 4000000
/-! PlM: _law_is_plan. -/
namespace Pl
open EV PySem
theorem dpt_row (r : Row) : dpt 2 r.d := dpt_tup fun d hd => by
  simp only [List.mem_cons, List.not_mem_nil, or_false] at hd
  have up : ∀ {d : D}, dpt 0 d → dpt 1 d := fun h => ⟨h.1, Nat.le_trans h.2 (by omega)⟩
  rcases hd with rfl | rfl | rfl | rfl | rfl | rfl
  · exact up (dpt_str _)
  · exact up (dpt_str _)
  · exact dpt_tup fun d hd => by obtain ⟨x, _, rfl⟩ := List.mem_map.mp hd; exact dpt_str x
  · exact up (dpt_int _)
  · exact up (dpt_int _)
  · exact up (dpt_int _)
theorem eqD_rows (l : List Row) : eqD (.list (l.map Row.d)) (.list []) = some (decide (l = [])) := by
  have d3 : dpt 3 (.list (l.map Row.d)) := dpt_list fun d hd => by
    obtain ⟨e, he, rfl⟩ := List.mem_map.mp hd
    exact dpt_row e
  rw [eqD_ok (d3.ok (by omega)) (by decide +kernel)]
  cases l with
  | nil => simp [PyData.eqv, PyData.eqvAll]
  | cons a r => simp [PyData.eqv, PyData.eqvAll]
structure HasLawPlan (X : Tx) : Prop where
  l_lies : X.fd "_law_lies" = some Lb.d_law_lies
  l_within : X.fd "_law_within" = some Lb.d_law_within
  l_is_plan : X.fd "_law_is_plan" = some Lb.d_law_is_plan
section
variable {X : Tx} (hX : HasLawPlan X)
include hX
theorem w_l_is_plan (n : Nat) (t : Tru) (l : List Row) (os : List O) (hl : l.length ≤ 1000) (hs : ∀ r ∈ l, r.Small) (ht : t.ties.length ≤ 1000) (hw : t.wishes.length ≤ 1000) (hd : ∀ w ∈ t.wishes, w.ds.length ≤ 1000) :
    call X (n + 2) "_law_is_plan" [.pl t.d, .pl (.tuple (l.map Row.d))] [] [] os = .ok (.pl (.bool (lawPlanB t l))) [.un, .un] os := by
  rw [call_def hX.l_is_plan (n + 1) _ os rfl [] rfl]
  simp [Lb.d_law_is_plan, runF]
  generalize hC : comp _ _ _ _ _ _ _ = C
  have kC := hC.symm.trans (comp_all (enc := Row.d) (fun r => PyData.str r.h) rfl rfl (by omega) (fun r hr => by simp [turnC, fixC, Row.d]) rfl rfl)
  subst kC
  clear hC
  have em : (l.map fun r => PyData.str r.h) = (l.map Row.h).map .str := by rw [List.map_map]; rfl
  rw [em]
  have lu : (uniqS [] (l.map Row.h)).length ≤ 1000000 := by
    have := uniq_le (l.map Row.h) []
    simp at this
    omega
  have b1 := biSet_strs (l.map Row.h) (by simp; omega)
  have b2 := biSorted_os (uniqS [] (l.map Row.h)) lu
  have ed := eqD_strs (l.map Row.h) (sortS (uniqS [] (l.map Row.h)))
  have ei := inD_strs t.o (l.map Row.h)
  simp only [List.map_map] at b1 ed ei
  by_cases hs' : l.map Row.h = sortS (uniqS [] (l.map Row.h))
  · rw [decide_eq_true hs'] at ed
    by_cases ho : t.o ∈ l.map Row.h
    · rw [decide_eq_true ho] at ei
      have hp : lawPlanB t l = false := by unfold lawPlanB; rw [decide_eq_true ho]; simp
      simp [b1, b2, ed, Tru.d, ei, hp]
    · rw [decide_eq_false ho] at ei
      simp [b1, b2, ed, Tru.d, ei]
      let st : T → T → T → T → T → T → T → T → T → T → S := fun x3 x4 x5 x6 x7 x8 x9 xa xb xc => ⟨[.pl (.tuple [.str t.o, .tuple (t.ties.map Tie.d), .tuple (t.wishes.map Wish.d)]), .pl (.tuple (l.map Row.d)), .ol (l.map (PyData.str ∘ Row.h)), x3, x4, x5, x6, x7, x8, x9, xa, xb, xc, .un, .un], os⟩
      let St : S → Prop := fun s => ∃ x3 x4 x5 x6 x7 x8 x9 xa xb xc, s = st x3 x4 x5 x6 x7 x8 x9 xa xb xc ∧ (x9 = .un ∨ ∃ d, x9 = .pl d)
      generalize hF : forL _ _ _ _ _ = F
      have k1 := forL_chk (fix := []) (g := .tp [.nm 3, .nm 4, .nm 5, .nm 6, .nm 7, .nm 8]) (body := exCs ⟨call X (n + 1), X.con, X.sub, X.xf, X.fuel, []⟩ (bodyC (Lb.d_law_is_plan.body.getD 2 .pas))) (enc := Row.d) (P := fun r => spanB t r.g r.h r.s r.u) (v := .pl (.bool false)) (St := St) (os := os) (l := l) (fun r hr s ⟨x3, x4, x5, x6, x7, x8, x9, xa, xb, xc, es, h9⟩ => by
        subst es
        have d1 := w_l_lies hX.l_lies n t r.g r.h r.s r.u os ht
        simp [Tru.d] at d1
        let s2 : S := st (.pl (.str r.g)) (.pl (.str r.h)) (.pl (.tuple (r.ds.map .str))) (.pl (.int r.s)) (.pl (.int r.u)) (.pl (.int r.p)) x9 xa xb xc
        have go : exCs ⟨call X (n + 1), X.con, X.sub, X.xf, X.fuel, []⟩ (bodyC (Lb.d_law_is_plan.body.getD 2 .pas)) s2 = (if spanB t r.g r.h r.s r.u then .ok .nx s2 else .ok (.rt (.pl (.bool false))) s2) := by
          cases q1 : spanB t r.g r.h r.s r.u <;> rw [q1] at d1 <;> simp [st, s2, bodyC, Lb.d_law_is_plan, d1]
        exact ⟨s2, by simp [st, s2, Row.d], fun hp => ⟨s2, by rw [go, if_pos hp], _, _, _, _, _, _, _, _, _, _, rfl, h9⟩, fun hp => ⟨s2, by rw [go, hp]; rfl, rfl⟩⟩) (st .un .un .un .un .un .un .un .un .un .un) ⟨_, _, _, _, _, _, _, _, _, _, rfl, .inl rfl⟩
      cases hq : l.all (fun r => spanB t r.g r.h r.s r.u) with
      | false =>
        obtain ⟨s', e1, o1⟩ := k1.2 hq
        have := hF.symm.trans e1
        subst this
        have hp : lawPlanB t l = false := by unfold lawPlanB; rw [hq]; simp
        simp [ended, hp, o1]
      | true =>
        obtain ⟨s', e1, x3, x4, x5, x6, x7, x8, x9, xa, xb, xc, rfl, h9⟩ := k1.1 hq
        have := hF.symm.trans e1
        subst this
        clear hF k1 e1
        simp [ended, st]
        generalize hF : forL _ _ _ _ _ = F
        have k2 := forL_chk (fix := []) (g := .nm 9) (body := exCs ⟨call X (n + 1), X.con, X.sub, X.xf, X.fuel, []⟩ (bodyC (Lb.d_law_is_plan.body.getD 3 .pas))) (enc := Row.d) (P := overB t l) (v := .pl (.bool false)) (St := St) (os := os) (l := l) (fun r hr s ⟨x3, x4, x5, x6, x7, x8, x9, xa, xb, xc, es, h9⟩ => by
          subst es
          let s1 : S := st x3 x4 x5 x6 x7 x8 (.pl r.d) xa xb xc
          let s2 : S := st x3 x4 x5 x6 x7 x8 (.pl r.d) (.ol ((l.filter (within r)).map Row.d)) xb xc
          have a1 : exC ⟨call X (n + 1), X.con, X.sub, X.xf, X.fuel, []⟩ ((bodyC (Lb.d_law_is_plan.body.getD 3 .pas)).getD 0 .pas) s1 = .ok .nx s2 := by
            simp [bodyC, Lb.d_law_is_plan, s1, st]
            generalize hC : comp _ _ _ _ _ _ _ = C
            have kC := hC.symm.trans (comp_if (enc := Row.d) (l := l) (within r) Row.d rfl rfl (by omega) (fun o ho' => by
              have d := w_l_within hX.l_within n r o os (hs r hr).2.2
              simp [Row.d] at d
              simp [turnC, fixC, Row.d, d]
              try (cases within r o <;> rfl)) rfl rfl)
            subst kC
            simp [s2, st]
          have ee := eqD_rows (l.filter (within r))
          have eo : overB t l r = (decide (r.g = t.o) || !decide (l.filter (within r) = [])) := by
            unfold overB
            congr 1
            rw [Bool.eq_iff_iff]
            simp [List.filter_eq_nil_iff]
          have a2 : exC ⟨call X (n + 1), X.con, X.sub, X.xf, X.fuel, []⟩ ((bodyC (Lb.d_law_is_plan.body.getD 3 .pas)).getD 1 .pas) s2 = (if overB t l r then .ok .nx s2 else .ok (.rt (.pl (.bool false))) s2) := by
            rw [eo]
            by_cases g1 : r.g = t.o
            · simp [bodyC, Lb.d_law_is_plan, s2, st, Row.d, g1]
            · by_cases g2 : l.filter (within r) = []
              · rw [decide_eq_true g2] at ee
                simp [bodyC, Lb.d_law_is_plan, s2, st, Row.d, g1, g2, ee]
              · rw [decide_eq_false g2] at ee
                simp [bodyC, Lb.d_law_is_plan, s2, st, Row.d, g1, g2, ee]
          have go : exCs ⟨call X (n + 1), X.con, X.sub, X.xf, X.fuel, []⟩ (bodyC (Lb.d_law_is_plan.body.getD 3 .pas)) s1 = (if overB t l r then .ok .nx s2 else .ok (.rt (.pl (.bool false))) s2) := by
            have eb : bodyC (Lb.d_law_is_plan.body.getD 3 .pas) = [(bodyC (Lb.d_law_is_plan.body.getD 3 .pas)).getD 0 .pas, (bodyC (Lb.d_law_is_plan.body.getD 3 .pas)).getD 1 .pas] := rfl
            rw [eb, exCs_nx a1]
            cases q : overB t l r with
            | true => rw [q] at a2; exact exCs_nx a2
            | false => rw [q] at a2; exact exCs_rt a2
          exact ⟨s1, by simp [st, s1], fun hp => ⟨s2, by rw [go, if_pos hp], _, _, _, _, _, _, _, _, _, _, rfl, .inr ⟨_, rfl⟩⟩, fun hp => ⟨s2, by rw [go, hp]; rfl, rfl⟩⟩) (st x3 x4 x5 x6 x7 x8 x9 xa xb xc) ⟨_, _, _, _, _, _, _, _, _, _, rfl, h9⟩
        cases hq2 : l.all (overB t l) with
        | false =>
          obtain ⟨s', e1, o1⟩ := k2.2 hq2
          have := hF.symm.trans e1
          subst this
          have hp : lawPlanB t l = false := by unfold lawPlanB; rw [hq2]; simp
          simp [hp, o1]
        | true =>
          obtain ⟨s', e1, x3, x4, x5, x6, x7, x8, x9, xa, xb, xc, rfl, h9⟩ := k2.1 hq2
          have := hF.symm.trans e1
          subst this
          clear hF k2 e1
          simp [st]
          generalize hF : forL _ _ _ _ _ = F
          let bd : List C := bodyC (Lb.d_law_is_plan.body.getD 4 .pas)
          have k3 := forL_chk (fix := []) (g := .tp [.nm 11, .nm 5, .nm 6, .nm 7]) (body := exCs ⟨call X (n + 1), X.con, X.sub, X.xf, X.fuel, []⟩ bd) (enc := Wish.d) (P := wishIn l) (v := .pl (.bool false)) (St := St) (os := os) (l := t.wishes) (fun w hw' s ⟨x3, x4, x5, x6, x7, x8, x9, xa, xb, xc, es, h9⟩ => by
            subst es
            let so : List Row := l.filter fun r => decide (r.h = w.a) && (decide (r.s ≤ w.s) && decide (w.u ≤ r.u))
            let s1 : S := st x3 x4 (.pl (.tuple (w.ds.map .str))) (.pl (.int w.s)) (.pl (.int w.u)) x8 x9 xa (.pl (.str w.a)) xc
            let s2 : S := st x3 x4 (.pl (.tuple (w.ds.map .str))) (.pl (.int w.s)) (.pl (.int w.u)) x8 x9 xa (.pl (.str w.a)) (.ol (so.map Row.d))
            let s3 : S := st x3 x4 (.pl (.tuple (w.ds.map .str))) (.pl (.int w.s)) (.pl (.int w.u)) x8 x9 xa (.pl (.str w.a)) (.pl (.list (so.map Row.d)))
            have hso : so.length ≤ 1000 := Nat.le_trans (List.length_filter_le _ _) hl
            have a1 : exC ⟨call X (n + 1), X.con, X.sub, X.xf, X.fuel, []⟩ (bd.getD 0 .pas) s1 = .ok .nx s2 := by
              simp [bd, bodyC, Lb.d_law_is_plan, s1, st]
              generalize hC : comp _ _ _ _ _ _ _ = C
              have kC := hC.symm.trans (comp_if (enc := Row.d) (l := l) (fun r => decide (r.h = w.a) && (decide (r.s ≤ w.s) && decide (w.u ≤ r.u))) Row.d rfl (by rcases h9 with rfl | ⟨d, rfl⟩ <;> rfl) (by omega) (fun o ho' => by
                by_cases q1 : o.h = w.a <;> by_cases q2 : o.s ≤ w.s <;> by_cases q3 : w.u ≤ o.u <;> simp [turnC, fixC, Row.d, q1, q2, q3]) rfl rfl)
              subst kC
              simp [s2, st, so]
            have ei' : wishIn l w = !decide (so.filter (fun r => allIn w.ds r.ds) = []) := by
              unfold wishIn coverB
              rw [Bool.eq_iff_iff]
              simp only [so, List.filter_filter, Bool.not_eq_true', decide_eq_false_iff_not, List.filter_eq_nil_iff, List.any_eq_true, Bool.and_eq_true, decide_eq_true_eq]
              constructor
              · rintro ⟨r, hr, a, b, c, d⟩ hn; exact hn r hr ⟨b, a, c, d⟩
              · intro hn
                apply Classical.byContradiction
                intro hc
                exact hn fun r hr ⟨b, a, c, d⟩ => hc ⟨r, hr, a, b, c, d⟩
            have a2 : exC ⟨call X (n + 1), X.con, X.sub, X.xf, X.fuel, []⟩ (bd.getD 1 .pas) s2 = (if wishIn l w then .ok .nx s3 else .ok (.rt (.pl (.bool false))) s3) := by
              rw [ei']
              have ee := eqD_rows (so.filter fun r => allIn w.ds r.ds)
              generalize decide (so.filter (fun r => allIn w.ds r.ds) = []) = z at ee ⊢
              simp [bd, bodyC, Lb.d_law_is_plan, s2, st]
              generalize hC : comp _ _ _ _ _ _ _ = C
              have kC := hC.symm.trans (comp_if (enc := Row.d) (l := so) (fun r => allIn w.ds r.ds) Row.d rfl (by rcases h9 with rfl | ⟨d, rfl⟩ <;> rfl) (by omega) (fun r ho' => by
                simp [turnC, fixC, Row.d]
                generalize hI : comp _ _ _ _ _ _ _ = I
                have kI := hI.symm.trans (comp_if (enc := PyData.str) (l := w.ds) (fun x => !decide (x ∈ r.ds)) PyData.str rfl rfl (by have := hd w hw'; omega) (fun x _ => by by_cases a1 : x ∈ r.ds <;> simp [turnC, fixC, a1]) rfl rfl)
                subst kI
                have ej := eqD_strs (w.ds.filter fun x => !decide (x ∈ r.ds)) []
                have ea : allIn w.ds r.ds = decide ((w.ds.filter fun x => !decide (x ∈ r.ds)) = []) := by
                  unfold allIn
                  rw [Bool.eq_iff_iff]
                  simp [List.filter_eq_nil_iff]
                rw [List.map_nil, ← ea] at ej
                cases ha : allIn w.ds r.ds <;> rw [ha] at ej <;> simp [ej]) rfl rfl)
              subst kC
              cases z <;> simp [s3, st, ee]
            have go : exCs ⟨call X (n + 1), X.con, X.sub, X.xf, X.fuel, []⟩ bd s1 = (if wishIn l w then .ok .nx s3 else .ok (.rt (.pl (.bool false))) s3) := by
              have eb : bd = [bd.getD 0 .pas, bd.getD 1 .pas] := rfl
              rw [eb, exCs_nx a1]
              cases q : wishIn l w with
              | true => rw [q] at a2; exact exCs_nx a2
              | false => rw [q] at a2; exact exCs_rt a2
            exact ⟨s1, by simp [st, s1, Wish.d], fun hp => ⟨s3, by rw [go, if_pos hp], _, _, _, _, _, _, _, _, _, _, rfl, h9⟩, fun hp => ⟨s3, by rw [go, hp]; rfl, rfl⟩⟩) (st x3 x4 x5 x6 x7 x8 x9 xa xb xc) ⟨_, _, _, _, _, _, _, _, _, _, rfl, h9⟩
          cases hq3 : t.wishes.all (wishIn l) with
          | false =>
            obtain ⟨s', e1, o1⟩ := k3.2 hq3
            have := hF.symm.trans e1
            subst this
            have hp : lawPlanB t l = false := by unfold lawPlanB; rw [hq3]; simp
            simp [ended, hp, o1]
          | true =>
            obtain ⟨s', e1, x3, x4, x5, x6, x7, x8, x9, xa, xb, xc, rfl, h9⟩ := k3.1 hq3
            have := hF.symm.trans e1
            subst this
            have hp : lawPlanB t l = true := by unfold lawPlanB; rw [decide_eq_true hs', decide_eq_false ho, hq, hq2, hq3]; rfl
            simp [ended, hp, st]
  · rw [decide_eq_false hs'] at ed
    have hp : lawPlanB t l = false := by unfold lawPlanB; rw [decide_eq_false hs']; simp
    simp [b1, b2, ed, hp]
end
end Pl
end PartPlM
section PartEvS
set_option autoImplicit false
set_option linter.all false
set_option maxRecDepth 100000
set_option maxHeartbeats 2000000
/-! EvS: more for running the interpreter by simp alone: choices are joined, comprehensions that change nothing are maps. -/
namespace EV
open PySem
/-! ### choices -/
@[simp] theorem ite_ok_pl {c : Prop} [Decidable c] (a b : D) (s : S) : (if c then Res.ok (T.pl a) s else Res.ok (T.pl b) s) = Res.ok (T.pl (if c then a else b)) s := by split <;> rfl
@[simp] theorem ite_bool {c : Prop} [Decidable c] (a b : Bool) : (if c then PyData.bool a else PyData.bool b) = PyData.bool (if c then a else b) := by split <;> rfl
@[simp] theorem ite_int {c : Prop} [Decidable c] (a b : Int) : (if c then PyData.int a else PyData.int b) = PyData.int (if c then a else b) := by split <;> rfl
@[simp] theorem ite_str {c : Prop} [Decidable c] (a b : Str) : (if c then PyData.str a else PyData.str b) = PyData.str (if c then a else b) := by split <;> rfl
@[simp] theorem ite_some {β : Type} {c : Prop} [Decidable c] (a : β) (s : S) : (if c then Res.ok (some a) s else Res.ok none s) = Res.ok (if c then some a else none) s := by split <;> rfl
@[simp] theorem ite_none {β : Type} {c : Prop} [Decidable c] (a : β) (s : S) : (if c then Res.ok none s else Res.ok (some a) s) = Res.ok (if c then none else some a) s := by split <;> rfl
@[simp] theorem bk_ite {α β : Type} {c : Prop} [Decidable c] (a b : Res α) [k : Kon α β] : @Res.bk α β (if c then a else b) k = if c then @Res.bk α β a k else @Res.bk α β b k := by split <;> rfl
@[simp] theorem ite_cok {c : Prop} [Decidable c] (a b : D) (o : List T) (s : List O) : (if c then CRes.ok (T.pl a) o s else CRes.ok (T.pl b) o s) = CRes.ok (T.pl (if c then a else b)) o s := by split <;> rfl
@[simp] theorem ite_cok_ol {c : Prop} [Decidable c] (a b : List D) (o : List T) (s : List O) : (if c then CRes.ok (T.ol a) o s else CRes.ok (T.ol b) o s) = CRes.ok (T.ol (if c then a else b)) o s := by split <;> rfl
/-! ### the end of a def -/
def fin (ts : List T) : Res Fl → CRes
  | .ok .nx s => .ok (.pl .none) (outsOf ts s.vs) s.os
  | .ok (.rt t) s => .ok t (outsOf ts s.vs) s.os
  | .ok _ _ => .bad
  | .ex x s => .ex x (outsOf ts s.vs) s.os
  | .bad => .bad
theorem runF_fin (P : Pm) (fd : FD) (ts : List T) (os : List O) : runF P fd ts os = fin ts (exCs { P with fix := fixOf 0 ts } fd.body ⟨ts ++ List.replicate (fd.n - ts.length) .un, os⟩) := by
  show (match exCs { P with fix := fixOf 0 ts } fd.body ⟨ts ++ List.replicate (fd.n - ts.length) .un, os⟩ with
    | .ok .nx s => CRes.ok (.pl .none) (outsOf ts s.vs) s.os
    | .ok (.rt t) s => .ok t (outsOf ts s.vs) s.os
    | .ok _ _ => .bad
    | .ex x s => .ex x (outsOf ts s.vs) s.os
    | .bad => .bad) = _
  generalize exCs { P with fix := fixOf 0 ts } fd.body ⟨ts ++ List.replicate (fd.n - ts.length) .un, os⟩ = r
  cases r with
  | ok f s => cases f <;> rfl
  | ex x s => rfl
  | bad => rfl
@[simp] theorem fin_nx (ts : List T) (s : S) : fin ts (.ok .nx s) = .ok (.pl .none) (outsOf ts s.vs) s.os := by rw [fin]
@[simp] theorem fin_rt (ts : List T) (t : T) (s : S) : fin ts (.ok (.rt t) s) = .ok t (outsOf ts s.vs) s.os := by rw [fin]
@[simp] theorem fin_ite {c : Prop} [Decidable c] (ts : List T) (a b : Res Fl) : fin ts (if c then a else b) = if c then fin ts a else fin ts b := by split <;> rfl
/-! ### comprehensions -/
def Res.val {β : Type} : Res (Option β) → Option β
  | .ok o _ => o
  | _ => none
@[simp] theorem val_ok {β : Type} (o : Option β) (s : S) : (Res.ok o s).val = o := by rw [Res.val]
@[simp] theorem comp_pure {α β : Type} {fix own : List Nat} {g : G} {c : S → Res T} {e : S → Res β} {enc : α → D} {l : List α} {s : S} (ho : ownOk s.vs own = true) (hl : l.length ≤ 1000000)
    (hb : putBack (setSlots s own .un).vs s.vs own = s.vs) (hos : (setSlots s own .un).os = s.os)
    (h : ∀ x, turnC fix own g c e (enc x) (setSlots s own .un) = .ok (turnC fix own g c e (enc x) (setSlots s own .un)).val (setSlots s own .un)) :
    comp fix own g c e (l.map enc, none) s = .ok (l.filterMap fun x => (turnC fix own g c e (enc x) (setSlots s own .un)).val) s :=
  comp_map rfl ho hl (fun x _ => h x) hb hos
/-- .. where it is only so of those in the list -/
theorem comp_mem {α β : Type} {fix own : List Nat} {g : G} {c : S → Res T} {e : S → Res β} {enc : α → D} {l : List α} {s : S} (k : α → Option β) (ho : ownOk s.vs own = true) (hl : l.length ≤ 1000000)
    (hb : putBack (setSlots s own .un).vs s.vs own = s.vs) (hos : (setSlots s own .un).os = s.os)
    (h : ∀ x ∈ l, turnC fix own g c e (enc x) (setSlots s own .un) = .ok (k x) (setSlots s own .un)) :
    comp fix own g c e (l.map enc, none) s = .ok (l.filterMap k) s :=
  comp_map rfl ho hl h hb hos
@[simp] theorem fm_if {α β : Type} (b : α → Prop) [DecidablePred b] (f : α → β) (l : List α) : (l.filterMap fun z => if b z then some (f z) else none) = (l.filter fun z => decide (b z)).map f := by
  have := filterMap_if (fun z => decide (b z)) f l
  simpa using this
@[simp] theorem fm_ifn {α β : Type} (b : α → Prop) [DecidablePred b] (f : α → β) (l : List α) : (l.filterMap fun z => if b z then none else some (f z)) = (l.filter fun z => !decide (b z)).map f := by
  have := filterMap_if (fun z => !decide (b z)) f l
  rw [← this]
  congr 1
  funext z
  by_cases h : b z <;> simp [h]
@[simp] theorem fm_all {α β : Type} (f : α → β) (l : List α) : (l.filterMap fun z => some (f z)) = l.map f := by
  induction l with
  | nil => rfl
  | cons x l ih => simp [ih]
@[simp] theorem len_filter_le {α : Type} {p : α → Bool} {l : List α} {k : Nat} (h : l.length ≤ k) : ((l.filter p).length ≤ k) = True := by
  have := List.length_filter_le p l
  simp only [eq_iff_iff, iff_true]
  omega
/-! ### == -/
/-- plain, of no more depth -/
def okN : Nat → D → Bool
  | _, .none | _, .bool _ | _, .int _ | _, .str _ => true
  | n + 1, .list ds => ds.all (okN n)
  | n + 1, .tuple ds => ds.all (okN n)
  | _, _ => false
theorem okN_dpt : ∀ (n : Nat) (d : D), okN n d = true → dpt n d
  | n, .none, _ => dpt_none.mono (by omega)
  | n, .bool _, _ => (dpt_bool _).mono (by omega)
  | n, .int _, _ => (dpt_int _).mono (by omega)
  | n, .str _, _ => (dpt_str _).mono (by omega)
  | n + 1, .list ds, h => dpt_list fun d hd => okN_dpt n d (by simp only [okN] at h; exact List.all_eq_true.mp h d hd)
  | n + 1, .tuple ds, h => dpt_tup fun d hd => okN_dpt n d (by simp only [okN] at h; exact List.all_eq_true.mp h d hd)
  | 0, .list ds, h => by simp [okN] at h
  | 0, .tuple ds, h => by simp [okN] at h
  | 0, .dict ds, h => by simp [okN] at h
  | n + 1, .dict ds, h => by simp [okN] at h
@[simp] theorem okN_none (n : Nat) : okN n .none = true := by cases n <;> rfl
@[simp] theorem okN_bool (n : Nat) (b : Bool) : okN n (.bool b) = true := by cases n <;> rfl
@[simp] theorem okN_int (n : Nat) (b : Int) : okN n (.int b) = true := by cases n <;> rfl
@[simp] theorem okN_str (n : Nat) (b : Str) : okN n (.str b) = true := by cases n <;> rfl
@[simp] theorem okN_list (n : Nat) (ds : List D) : okN (n + 1) (.list ds) = ds.all (okN n) := by rw [okN]
@[simp] theorem okN_tup (n : Nat) (ds : List D) : okN (n + 1) (.tuple ds) = ds.all (okN n) := by rw [okN]
theorem okD_N {d : D} (h : okN 40 d = true) : okD d = true := (okN_dpt 40 d h).ok (by omega)
@[simp low] theorem eqD_N {a b : D} (ha : okN 40 a = true) (hb : okN 40 b = true) : eqD a b = some (PyData.eqv a b) := eqD_ok (okD_N ha) (okD_N hb)
@[simp] theorem eqv_str (a b : Str) : PyData.eqv (.str a) (.str b) = decide (a = b) := by simp only [PyData.eqv]; rw [PySem.W.beq_decide]
@[simp] theorem eqv_int (a b : Int) : PyData.eqv (.int a) (.int b) = decide (a = b) := by simp only [PyData.eqv]; rw [PySem.W.beq_decide]
@[simp] theorem eqv_bool (a b : Bool) : PyData.eqv (.bool a) (.bool b) = decide (a = b) := by simp only [PyData.eqv]; rw [PySem.W.beq_decide]
@[simp] theorem eqv_none : PyData.eqv .none .none = true := by simp only [PyData.eqv]
@[simp] theorem eqv_list (a b : List D) : PyData.eqv (.list a) (.list b) = PyData.eqvAll a b := by simp only [PyData.eqv]
@[simp] theorem eqv_tup (a b : List D) : PyData.eqv (.tuple a) (.tuple b) = PyData.eqvAll a b := by simp only [PyData.eqv]
@[simp] theorem eqv_ns (b : Str) : PyData.eqv .none (.str b) = false := by simp only [PyData.eqv]
@[simp] theorem eqv_sn (b : Str) : PyData.eqv (.str b) .none = false := by simp only [PyData.eqv]
@[simp] theorem eqv_ts (a : List D) (b : Str) : PyData.eqv (.tuple a) (.str b) = false := by simp only [PyData.eqv]
@[simp] theorem eqv_st (a : List D) (b : Str) : PyData.eqv (.str b) (.tuple a) = false := by simp only [PyData.eqv]
@[simp] theorem eqv_ni (b : Int) : PyData.eqv .none (.int b) = false := by simp only [PyData.eqv]
@[simp] theorem eqv_in (b : Int) : PyData.eqv (.int b) .none = false := by simp only [PyData.eqv]
@[simp] theorem eqv_tn (a : List D) : PyData.eqv (.tuple a) .none = false := by simp only [PyData.eqv]
@[simp] theorem eqv_nt (a : List D) : PyData.eqv .none (.tuple a) = false := by simp only [PyData.eqv]
@[simp] theorem eqva_nn : PyData.eqvAll [] [] = true := by simp only [PyData.eqvAll]
@[simp] theorem eqva_cc (x y : D) (xs ys : List D) : PyData.eqvAll (x :: xs) (y :: ys) = (PyData.eqv x y && PyData.eqvAll xs ys) := by simp only [PyData.eqvAll]
@[simp] theorem eqva_cn (x : D) (xs : List D) : PyData.eqvAll (x :: xs) [] = false := by simp only [PyData.eqvAll]
@[simp] theorem eqva_nc (x : D) (xs : List D) : PyData.eqvAll [] (x :: xs) = false := by simp only [PyData.eqvAll]
@[simp] theorem eqva_mn {α : Type} (f : α → D) (l : List α) : PyData.eqvAll (l.map f) [] = decide (l = []) := by
  cases l <;> simp
@[simp] theorem eqva_nm {α : Type} (f : α → D) (l : List α) : PyData.eqvAll [] (l.map f) = decide (l = []) := by
  cases l <;> simp
@[simp] theorem eqva_strs (l m : List Str) : PyData.eqvAll (l.map .str) (m.map .str) = decide (l = m) := PySem.W.eqvAll_map l m
@[simp] theorem eqva_strs_f {α β : Type} (f : α → Str) (g : β → Str) (l : List α) (m : List β) : PyData.eqvAll (l.map fun x => .str (f x)) (m.map fun x => .str (g x)) = decide (l.map f = m.map g) := by
  have := eqva_strs (l.map f) (m.map g)
  rwa [List.map_map, List.map_map] at this
@[simp] theorem eqva_strs_l {α : Type} (f : α → Str) (l : List α) (m : List Str) : PyData.eqvAll (l.map fun x => .str (f x)) (m.map .str) = decide (l.map f = m) := by
  have := eqva_strs (l.map f) m
  rwa [List.map_map] at this
@[simp] theorem eqva_strs_r {α : Type} (f : α → Str) (l : List α) (m : List Str) : PyData.eqvAll (m.map .str) (l.map fun x => .str (f x)) = decide (m = l.map f) := by
  have := eqva_strs m (l.map f)
  rwa [List.map_map] at this
@[simp] theorem okN_all_map {α : Type} (n : Nat) (f : α → D) (l : List α) : (l.map f).all (okN n) = l.all fun x => okN n (f x) := by rw [List.all_map]; rfl
@[simp] theorem all_true {α : Type} (l : List α) : (l.all fun _ => true) = true := by simp
end EV
end PartEvS
section PartEvS2
set_option autoImplicit false
set_option linter.all false
set_option maxRecDepth 100000
set_option maxHeartbeats 2000000
/-! EvS2: loops. -/
namespace EV
open PySem
/-- a loop that folds and may return; J: what is left over of each turn -/
theorem forL_st {α J σ : Type} {fix : List Nat} {g : G} {body : S → Res Fl} {enc : α → D} (st : σ → J → S) (f : σ → α → σ ⊕ T) (ret : σ → J → T → S)
    : ∀ {l : List α}, (∀ x ∈ l, ∀ a j, ∃ s1 j', asgG fix g (.pl (enc x)) (st a j) = .ok () s1 ∧ (match f a x with
        | .inl a' => body s1 = .ok .nx (st a' j')
        | .inr t => body s1 = .ok (.rt t) (ret a j' t))) → ∀ a j,
      (∃ j', match l.foldlM (m := Except T) (fun a x => match f a x with | .inl a' => .ok a' | .inr t => .error t) a with
        | .ok a' => forL fix g body (l.map enc) (st a j) = .ok .nx (st a' j')
        | .error t => ∃ a', forL fix g body (l.map enc) (st a j) = .ok (.rt t) (ret a' j' t))
  | [], _, a, j => ⟨j, rfl⟩
  | x :: l, h, a, j => by
    obtain ⟨s1, j1, e1, e2⟩ := h x List.mem_cons_self a j
    rw [List.foldlM_cons]
    cases hf : f a x with
    | inl a' =>
      rw [hf] at e2
      obtain ⟨j2, e3⟩ := forL_st st f ret (fun y hy => h y (List.mem_cons_of_mem _ hy)) a' j1
      refine ⟨j2, ?_⟩
      simp only [bind, Except.bind]
      rw [List.map_cons, forL, e1]
      simp only [Res.bd, e2]
      exact e3
    | inr t =>
      rw [hf] at e2
      refine ⟨j1, ?_⟩
      simp only [bind, Except.bind]
      refine ⟨a, ?_⟩
      rw [List.map_cons, forL, e1]
      simp only [Res.bd, e2]
/-- a loop that folds -/
theorem forL_fold {α J σ : Type} {fix : List Nat} {g : G} {body : S → Res Fl} {enc : α → D} (st : σ → J → S) (f : σ → α → σ) :
    ∀ {l : List α}, (∀ x ∈ l, ∀ a j, ∃ s1 j', asgG fix g (.pl (enc x)) (st a j) = .ok () s1 ∧ body s1 = .ok .nx (st (f a x) j')) → ∀ a j, ∃ j', forL fix g body (l.map enc) (st a j) = .ok .nx (st (l.foldl f a) j')
  | [], _, a, j => ⟨j, rfl⟩
  | x :: l, h, a, j => by
    obtain ⟨s1, j1, e1, e2⟩ := h x List.mem_cons_self a j
    obtain ⟨j2, e3⟩ := forL_fold st f (fun y hy => h y (List.mem_cons_of_mem _ hy)) (f a x) j1
    refine ⟨j2, ?_⟩
    rw [List.map_cons, forL, e1]
    simp only [Res.bd, e2, List.foldl_cons]
    exact e3
/-- a loop that looks for the first that is so, and returns -/
theorem forL_find {α J : Type} {fix : List Nat} {g : G} {body : S → Res Fl} {enc : α → D} (st : J → S) (p : α → Bool) (v : α → T) :
    ∀ {l : List α}, (∀ x ∈ l, ∀ j, ∃ s1 j', asgG fix g (.pl (enc x)) (st j) = .ok () s1 ∧ body s1 = if p x then .ok (.rt (v x)) (st j') else .ok .nx (st j')) →
      ∀ j, ∃ j', forL fix g body (l.map enc) (st j) = match l.find? p with
        | some x => .ok (.rt (v x)) (st j')
        | none => .ok .nx (st j')
  | [], _, j => ⟨j, rfl⟩
  | x :: l, h, j => by
    obtain ⟨s1, j1, e1, e2⟩ := h x List.mem_cons_self j
    rw [List.find?_cons]
    cases hp : p x with
    | true =>
      refine ⟨j1, ?_⟩
      rw [List.map_cons, forL, e1]
      simp only [Res.bd, e2, hp, if_true]
    | false =>
      obtain ⟨j2, e3⟩ := forL_find st p v (fun y hy => h y (List.mem_cons_of_mem _ hy)) j1
      refine ⟨j2, ?_⟩
      rw [List.map_cons, forL, e1]
      simp only [Res.bd, e2, hp]
      exact e3
/-- .. and all else goes on: gives up at the first that is not so -/
theorem forL_all2 {α J : Type} {fix : List Nat} {g : G} {body : S → Res Fl} {enc : α → D} (st : J → S) (p : α → Bool) (v : T) :
    ∀ {l : List α}, (∀ x ∈ l, ∀ j, ∃ s1 j', asgG fix g (.pl (enc x)) (st j) = .ok () s1 ∧ body s1 = if p x then .ok .nx (st j') else .ok (.rt v) (st j')) →
      ∀ j, ∃ j', forL fix g body (l.map enc) (st j) = if l.all p then .ok .nx (st j') else .ok (.rt v) (st j')
  | [], _, j => ⟨j, rfl⟩
  | x :: l, h, j => by
    obtain ⟨s1, j1, e1, e2⟩ := h x List.mem_cons_self j
    rw [List.all_cons]
    cases hp : p x with
    | false =>
      refine ⟨j1, ?_⟩
      rw [List.map_cons, forL, e1]
      simp only [Res.bd, e2, hp, Bool.false_and, Bool.false_eq_true, if_false]
    | true =>
      obtain ⟨j2, e3⟩ := forL_all2 st p v (fun y hy => h y (List.mem_cons_of_mem _ hy)) j1
      refine ⟨j2, ?_⟩
      rw [List.map_cons, forL, e1]
      simp only [Res.bd, e2, hp, Bool.true_and, if_true]
      exact e3
/-- a loop, its state by what has been walked -/
theorem forL_pre' {α J : Type} {fix : List Nat} {g : G} {body : S → Res Fl} {enc : α → D} (st : List α → J → S) (l : List α)
    (h : ∀ l1 x l2, l = l1 ++ x :: l2 → ∀ j, ∃ s1 j', asgG fix g (.pl (enc x)) (st l1 j) = .ok () s1 ∧ body s1 = .ok .nx (st (l1 ++ [x]) j')) :
    ∀ (l2 l1 : List α), l = l1 ++ l2 → ∀ j, ∃ j', forL fix g body (l2.map enc) (st l1 j) = .ok .nx (st l j')
  | [], l1, e, j => ⟨j, by rw [e, List.append_nil]; rfl⟩
  | x :: l2, l1, e, j => by
    obtain ⟨s1, j1, e1, e2⟩ := h l1 x l2 e j
    obtain ⟨j2, e3⟩ := forL_pre' st l h l2 (l1 ++ [x]) (by rw [e, List.append_assoc]; rfl) j1
    refine ⟨j2, ?_⟩
    rw [List.map_cons, forL, e1]
    simp only [Res.bd, e2]
    exact e3
theorem forL_pre {α J : Type} {fix : List Nat} {g : G} {body : S → Res Fl} {enc : α → D} (st : List α → J → S) {l : List α}
    (h : ∀ l1 x l2, l = l1 ++ x :: l2 → ∀ j, ∃ s1 j', asgG fix g (.pl (enc x)) (st l1 j) = .ok () s1 ∧ body s1 = .ok .nx (st (l1 ++ [x]) j')) (j : J) :
    ∃ j', forL fix g body (l.map enc) (st [] j) = .ok .nx (st l j') := forL_pre' st l h l [] rfl j
/-! ### states are joined -/
@[simp] theorem ite_nx {c : Prop} [Decidable c] (v w : List T) (o : List O) : (if c then Res.ok Fl.nx ⟨v, o⟩ else Res.ok Fl.nx ⟨w, o⟩) = Res.ok Fl.nx ⟨if c then v else w, o⟩ := by split <;> rfl
@[simp] theorem ite_ts {c : Prop} [Decidable c] (x y : T) (v w : List T) : (if c then x :: v else y :: w) = (if c then x else y) :: (if c then v else w) := by split <;> rfl
@[simp] theorem ite_pl {c : Prop} [Decidable c] (x y : D) : (if c then T.pl x else T.pl y) = T.pl (if c then x else y) := by split <;> rfl
@[simp] theorem ite_ol {c : Prop} [Decidable c] (x y : List D) : (if c then T.ol x else T.ol y) = T.ol (if c then x else y) := by split <;> rfl
@[simp] theorem ite_od {c : Prop} [Decidable c] (x y : List (D × D)) : (if c then T.od x else T.od y) = T.od (if c then x else y) := by split <;> rfl
/-! ### dicts from texts to texts -/
def kvS (p : Str × Str) : D × D := (.str p.1, .str p.2)
abbrev Cas := List (Str × Str)
def giv (c : Cas) (a : Str) : Option Str := c.lookup a
def keys (c : Cas) : List Str := c.map (·.1)
@[simp] theorem dget_kv (c : Cas) (z : Str) : dget (c.map kvS) (.str z) = (giv c z).map .str := by
  unfold giv
  induction c with
  | nil => rfl
  | cons p c ih =>
    obtain ⟨k, v⟩ := p
    rw [List.map_cons, List.lookup_cons]
    show dget ((.str k, .str v) :: c.map kvS) (.str z) = _
    rw [dget]
    by_cases h : k = z
    · subst h; simp [keyEq]
    · have h' : ¬ z = k := fun e => h e.symm
      simp [keyEq, h, h', ih, beq_eq_false_iff_ne.mpr h']
@[simp] theorem giv_some {c : Cas} {z : Str} : (giv c z).isSome = decide (z ∈ keys c) := by
  unfold giv keys
  induction c with
  | nil => rfl
  | cons p c ih =>
    obtain ⟨k, v⟩ := p
    rw [List.lookup_cons]
    by_cases h : z = k
    · subst h; simp
    · rw [beq_eq_false_iff_ne.mpr h]
      show (c.lookup z).isSome = decide (z ∈ k :: c.map (·.1))
      rw [ih]
      congr 1
      simp [h]
@[simp] theorem inD_kv (c : Cas) (z : Str) : inD (.str z) (.dict (c.map kvS)) = some (decide (z ∈ keys c)) := by
  show some (dhas (c.map kvS) (.str z)) = _
  unfold dhas
  rw [dget_kv, Option.isSome_map, giv_some]
theorem giv_get {c : Cas} {z : Str} (h : z ∈ keys c) : ∃ g, giv c z = some g := Option.isSome_iff_exists.mp (by rw [giv_some]; exact decide_eq_true h)
theorem giv_none {c : Cas} {z : Str} : giv c z = none ↔ z ∉ keys c := by
  have := giv_some (c := c) (z := z)
  cases h : giv c z <;> rw [h] at this <;> simpa using this
@[simp] theorem kvS_keys (c : Cas) : (c.map kvS).map (·.1) = (keys c).map .str := by
  unfold keys
  rw [List.map_map, List.map_map]
  rfl
@[simp] theorem kvS_vals (c : Cas) : (c.map kvS).map (·.2) = (c.map (·.2)).map .str := by
  rw [List.map_map, List.map_map]
  rfl
end EV
end PartEvS2
section PartEvS3
set_option autoImplicit false
set_option linter.all false
set_option maxRecDepth 100000
set_option maxHeartbeats 2000000
/-! EvS3: sets, sorted lists of texts. -/
namespace Pl
open EV PySem
@[simp] theorem uniq_le_k {l : List Str} {k : Nat} (h : l.length ≤ k) : ((uniqS [] l).length ≤ k) = True := by
  have := uniq_le l []
  simp only [eq_iff_iff, iff_true]
  simp at this
  omega
@[simp] theorem sortS_len (l : List Str) : (sortS l).length = l.length := (List.mergeSort_perm _ _).length_eq
@[simp] theorem biSet_s {l : List Str} (h : l.length ≤ 4000) : biSet [.ol (l.map .str)] = some (.os ((uniqS [] l).map .str)) := biSet_strs l h
@[simp] theorem biSet_f {α : Type} {f : α → Str} {l : List α} (h : l.length ≤ 4000) : biSet [.ol (l.map fun x => .str (f x))] = some (.os ((uniqS [] (l.map f)).map .str)) := by
  have := biSet_strs (l.map f) (by simpa using h)
  rwa [List.map_map] at this
@[simp] theorem biSorted_os' {l : List Str} (h : l.length ≤ 1000000) : biSorted [.os (l.map .str)] = some (.ol ((sortS l).map .str)) := biSorted_os l h
@[simp] theorem biSorted_ol' {l : List Str} (h : l.length ≤ 1000000) : biSorted [.ol (l.map .str)] = some (.ol ((sortS l).map .str)) := biSorted_ol l h
@[simp] theorem biSorted_d {c : Cas} (h : c.length ≤ 1000000) : biSorted [.pl (.dict (c.map kvS))] = some (.ol ((sortS (keys c)).map .str)) := by
  have := biSorted_ol (keys c) (by simpa [keys] using h)
  rw [← kvS_keys] at this
  exact this
@[simp] theorem biSorted_bd {c : Cas} (h : c.length ≤ 1000000) : biSorted [.bd (c.map kvS)] = some (.ol ((sortS (keys c)).map .str)) := by
  have := biSorted_ol (keys c) (by simpa [keys] using h)
  rw [← kvS_keys] at this
  exact this
@[simp] theorem inD_sf {α : Type} (z : Str) (f : α → Str) (l : List α) : inD (.str z) (.list (l.map fun x => .str (f x))) = some (decide (z ∈ l.map f)) := by
  have := inD_strs z (l.map f)
  rwa [List.map_map] at this
@[simp] theorem inD_tf {α : Type} (z : Str) (f : α → Str) (l : List α) : inD (.str z) (.tuple (l.map fun x => .str (f x))) = some (decide (z ∈ l.map f)) := by
  have := inD_tstrs z (l.map f)
  rwa [List.map_map] at this
end Pl
end PartEvS3
section PartPlN
set_option autoImplicit false
set_option linter.all false
set_option maxRecDepth 100000
set_option maxHeartbeats 4000000
/-! PlN: the law's looks at cases: who goes up to whom, what each bears. -/
namespace Pl
open EV PySem
/-- the settled ones from one up by givers, or none where it comes round -/
def upF (c : Cas) : Nat → List Str → Str → Option (List Str)
  | 0, _, _ => none
  | n + 1, f, h => match giv c h with
    | none => some f
    | some g => if h ∈ f then none else upF c n (f ++ [h]) g
def upC (c : Cas) (a : Str) : Option (List Str) := upF c (c.length + 1) [] a
def upT : Option (List Str) → T
  | none => .pl .none
  | some l => .ol (l.map .str)
structure HasUp (X : Tx) : Prop where
  up : X.fd "_law_up" = some Lb.d_law_up
  fuel : 1000 ≤ X.fuel
structure HasBelow (X : Tx) : Prop extends HasUp X where
  below : X.fd "_law_below" = some Lb.d_law_below
theorem nodup_len {c : Cas} {f : List Str} (nd : f.Nodup) (h : ∀ z ∈ f, z ∈ keys c) : f.length ≤ c.length := by
  have := nd.length_le_of_subset h
  simpa [keys] using this
section
variable {X : Tx}
theorem w_tied (hF : X.fd "_law_tied" = some Lb.d_law_tied) (n : Nat) (t : Tru) (a : Str) (os : List O) (hl : t.ties.length ≤ 4000) : call X (n + 1) "_law_tied" [.pl t.d, .pl (.str a)] [] [] os = .ok (.ol ((sortS (uniqS [] ((t.ties.filter fun e => decide (e.r = a)).map Tie.g))).map .str)) [.un, .un] os := by
  rw [call_def hF n _ os rfl [] rfl]
  have hl3 : t.ties.length ≤ 1000000 := by omega
  simp (maxDischargeDepth := 9) [Lb.d_law_tied, runF_fin, Tru.d, turnC, fixC, Tie.d, hl, hl3]
theorem w_up_loop (n : Nat) (c : Cas) (a : Str) (os : List O) (hl : c.length ≤ 900) : ∀ (k fu : Nat) (f : List Str) (h : Str), f.Nodup → (∀ z ∈ f, z ∈ keys c) → c.length + 1 ≤ k + f.length → c.length + 1 ≤ fu + f.length →
    ∃ s', whlL (fun s => toB (ev ⟨call X n, X.con, X.sub, X.xf, X.fuel, []⟩ (.cmp .In (.var 3) (.var 0)) .e s)) (exCs ⟨call X n, X.con, X.sub, X.xf, X.fuel, []⟩ (bodyC (Lb.d_law_up.body.getD 2 .pas))) fu ⟨[.bd (c.map kvS), .pl (.str a), .ol (f.map .str), .pl (.str h)], os⟩ =
      (match upF c k f h with
        | none => .ok (.rt (.pl .none)) s'
        | some l => .ok .nx s') ∧ s'.os = os ∧ ∀ l, upF c k f h = some l → s'.vs[2]? = some (.ol (l.map .str))
  | 0, fu, f, h, nd, hk, h1, h2 => by
    have := nodup_len nd hk
    omega
  | k + 1, 0, f, h, nd, hk, h1, h2 => by
    have := nodup_len nd hk
    omega
  | k + 1, fu + 1, f, h, nd, hk, h1, h2 => by
    have hfl := nodup_len nd hk
    cases hg : giv c h with
    | none =>
      have hn := giv_none.mp hg
      refine ⟨⟨[.bd (c.map kvS), .pl (.str a), .ol (f.map .str), .pl (.str h)], os⟩, ?_, rfl, fun l e => ?_⟩
      · simp [whlL, upF, hg, hn]
      · simp [upF, hg] at e
        subst e
        rfl
    | some g =>
      have hn : h ∈ keys c := Classical.byContradiction fun z => by rw [giv_none.mpr z] at hg; cases hg
      by_cases hf : h ∈ f
      · refine ⟨⟨[.bd (c.map kvS), .pl (.str a), .ol (f.map .str), .pl (.str h)], os⟩, ?_, rfl, fun l e => ?_⟩
        · simp [whlL, upF, hg, hn, hf, bodyC, Lb.d_law_up]
        · simp [upF, hg, hf] at e
      · obtain ⟨s', e1, e2, e3⟩ := w_up_loop n c a os hl k fu (f ++ [h]) g (List.nodup_append.mpr ⟨nd, by simp, fun x hx y hy => by rw [List.mem_singleton.mp hy]; exact fun e => hf (e ▸ hx)⟩)
          (fun z hz => (List.mem_append.mp hz).elim (hk z) fun hz => by rw [List.mem_singleton.mp hz]; exact hn) (by simp; omega) (by simp; omega)
        have hsm : f.length ≤ 1000000 := by omega
        refine ⟨s', ?_, e2, fun l e => ?_⟩
        · rw [whlL]
          simp [upF, hg, hn, hf, bodyC, Lb.d_law_up, hsm]
          simp [bodyC, Lb.d_law_up] at e1
          exact e1
        · simp [upF, hg, hf] at e
          exact e3 l e
theorem w_up (hX : HasUp X) (n : Nat) (c : Cas) (a : Str) (os : List O) (hl : c.length ≤ 900) : call X (n + 1) "_law_up" [.bd (c.map kvS), .pl (.str a)] [] [] os = .ok (upT (upC c a)) [.un, .un] os := by
  rw [call_def hX.up n _ os rfl [] rfl]
  obtain ⟨s', e1, e2, e3⟩ := w_up_loop n c a os hl (c.length + 1) X.fuel [] a List.nodup_nil (fun _ h => nomatch h) (by simp) (by have := hX.fuel; simp; omega)
  simp [bodyC, Lb.d_law_up] at e1
  simp [Lb.d_law_up, runF_fin]
  rw [e1]
  unfold upC
  cases hu : upF c (c.length + 1) [] a with
  | none => simp [upT, e2]
  | some l =>
    have := e3 l hu
    simp [this, upT, e2]
end
def upL (c : Cas) (z : Str) : List Str := (upC c z).getD []
def below (t : Tru) (c : Cas) (a : Str) : List Wish := t.wishes.filter fun w => decide (w.a ∈ keys c) && decide (a ∈ upL c w.a)
def acycB (c : Cas) : Bool := (keys c).all fun z => (upC c z).isSome
theorem acyc_up {c : Cas} (h : acycB c = true) {z : Str} (hz : z ∈ keys c) : upC c z = some (upL c z) := by
  obtain ⟨l, e⟩ := Option.isSome_iff_exists.mp (List.all_eq_true.mp h z hz)
  unfold upL
  rw [e]; rfl
section
variable {X : Tx} (hX : HasBelow X)
include hX
theorem w_below (n : Nat) (t : Tru) (c : Cas) (a : Str) (os : List O) (hl : c.length ≤ 900) (hw : t.wishes.length ≤ 1000) (ha : acycB c = true) :
    call X (n + 2) "_law_below" [.pl t.d, .bd (c.map kvS), .pl (.str a)] [] [] os = .ok (.ol ((below t c a).map Wish.d)) [.un, .un, .un] os := by
  rw [call_def hX.below (n + 1) _ os rfl [] rfl]
  have c1 := fun z os => w_up hX.toHasUp n c z os hl
  simp [Lb.d_law_below, runF_fin, Tru.d]
  generalize hC : comp _ _ _ _ _ _ _ = C
  have kC := hC.symm.trans (comp_if (enc := Wish.d) (fun w => decide (w.a ∈ keys c) && decide (a ∈ upL c w.a)) Wish.d rfl rfl (by omega) (fun w hw => by
    by_cases hk : w.a ∈ keys c
    · have c2 := c1 w.a os
      rw [acyc_up ha hk] at c2
      simp [turnC, fixC, Wish.d, hk, c2, upT]
    · simp [turnC, fixC, Wish.d, hk]) rfl rfl)
  subst kC
  simp [below]
end
end Pl
end PartPlN
section PartPlO
set_option autoImplicit false
set_option linter.all false
set_option maxRecDepth 100000
set_option maxHeartbeats 4000000
/-! PlO: who is next, whether a case fits. -/
namespace Pl
open EV PySem
/-- a pair of a case that is a list -/
def kvT (p : Str × Str) : D := .tuple [.str p.1, .str p.2]
def nextF (t : Tru) (c : Cas) : Option Str := (t.wishes.map Wish.a ++ c.map (·.2)).find? fun z => !decide (z = t.o) && !decide (z ∈ keys c)
def optS : Option Str → D
  | none => .none
  | some z => .str z
def lo (ws : List Wish) : Int := (minI (ws.map Wish.s)).getD 0
def hi (ws : List Wish) : Int := (maxI (ws.map Wish.u)).getD 0
theorem minI_some {l : List Int} (h : l ≠ []) : minI l = some ((minI l).getD 0) := by cases l <;> first | exact absurd rfl h | rfl
theorem maxI_some {l : List Int} (h : l ≠ []) : maxI l = some ((maxI l).getD 0) := by cases l <;> first | exact absurd rfl h | rfl
def fitB (t : Tru) (c : Cas) (a : Str) : Bool := !decide (below t c a = []) && spanB t ((giv c a).getD t.o) a (lo (below t c a)) (hi (below t c a))
def fitsB (t : Tru) (c : Cas) : Bool := acycB c && (keys c).all (fitB t c)
@[simp] theorem kvS_fst : ((fun x : D × D => x.1) ∘ kvS) = fun p => .str p.1 := rfl
@[simp] theorem kvS_snd : ((fun x : D × D => x.2) ∘ kvS) = fun p => .str p.2 := rfl
@[simp] theorem map_keys (c : Cas) : List.map (fun p => p.1) c = keys c := rfl
@[simp] theorem keys_len (c : Cas) : (keys c).length = c.length := List.length_map _
def upD : Option (List Str) → D
  | none => .none
  | some l => .list (l.map .str)
@[simp] theorem vw_upT (o : Option (List Str)) : (upT o).vw = some (upD o) := by cases o <;> simp [upT, upD]
@[simp] theorem isD_upD (o : Option (List Str)) : isD (upD o) .none = some o.isNone := by cases o <;> simp [upD]
@[simp] theorem slotOk_upT (o : Option (List Str)) : slotOk (upT o) = true := by cases o <;> simp [upT]
theorem all_none {α : Type} {f : α → Bool} {l : List α} : (l.filter f = []) ↔ l.all (fun x => !f x) = true := by
  simp [List.filter_eq_nil_iff]
structure HasFits (X : Tx) : Prop extends HasBelow X where
  l_lies : X.fd "_law_lies" = some Lb.d_law_lies
  fits : X.fd "_law_fits" = some Lb.d_law_fits
section
variable {X : Tx}
theorem w_next (hF : X.fd "_law_next" = some Lb.d_law_next) (n : Nat) (t : Tru) (c : Cas) (os : List O) (hl : c.length ≤ 1000) (hw : t.wishes.length ≤ 1000) :
    call X (n + 1) "_law_next" [.pl t.d, .bl (c.map kvT)] [] [] os = .ok (.pl (optS (nextF t c))) [.un, .un] os := by
  rw [call_def hF n _ os rfl [] rfl]
  have h1 : c.length ≤ 1000000 := by omega
  have h2 : t.wishes.length ≤ 1000000 := by omega
  have h3 : t.wishes.length + c.length ≤ 1000000 := by omega
  simp [Lb.d_law_next, runF_fin, Tru.d, turnC, fixC, kvT, Wish.d, h1, h2, h3]
  generalize hF : forL _ _ _ _ _ = F
  let st : T → S := fun x => ⟨[.pl t.d, .bl (c.map kvT), .ol (c.map fun z => .str z.1), x, .un, .un], os⟩
  obtain ⟨j', e⟩ := forL_find (fix := []) (g := .nm 3) (body := exCs ⟨call X n, X.con, X.sub, X.xf, X.fuel, []⟩ (bodyC (Lb.d_law_next.body.getD 1 .pas))) (enc := PyData.str) st (fun z => !decide (z = t.o) && !decide (z ∈ keys c)) (fun z => .pl (.str z)) (l := t.wishes.map Wish.a ++ c.map (·.2)) (fun z hz j => by
    refine ⟨st (.pl (.str z)), .pl (.str z), by simp [st], ?_⟩
    by_cases a1 : z = t.o <;> by_cases a2 : z ∈ keys c <;> simp [bodyC, Lb.d_law_next, st, Tru.d, a1, a2]) .un
  have em : (t.wishes.map Wish.a ++ c.map (·.2)).map PyData.str = List.map (fun z => PyData.str z.a) t.wishes ++ List.map (fun z => PyData.str z.snd) c := by simp; rfl
  rw [em] at e
  have := hF.symm.trans e
  subst this
  unfold nextF
  cases hq : (t.wishes.map Wish.a ++ c.map (·.2)).find? (fun z => !decide (z = t.o) && !decide (z ∈ keys c)) <;> simp [ended, optS, st]
theorem w_fits (hX : HasFits X) (n : Nat) (t : Tru) (c : Cas) (os : List O) (hl : c.length ≤ 900) (ht : t.ties.length ≤ 1000) (hw : t.wishes.length ≤ 1000) (nd : (keys c).Nodup) :
    call X (n + 3) "_law_fits" [.pl t.d, .pl (.dict (c.map kvS))] [] [] os = .ok (.pl (.bool (fitsB t c))) [.un, .un] os := by
  rw [call_def hX.fits (n + 2) _ os rfl [] rfl]
  have h1 : c.length ≤ 1000000 := by omega
  have h2 : t.wishes.length ≤ 1000000 := by omega
  have c1 := fun z => w_up hX.toHasUp (n + 1) c z os hl
  have c2 := fun z ha => w_below hX.toHasBelow n t c z os hl hw ha
  have c3 := fun g h s u => w_l_lies hX.l_lies (n + 1) t g h s u os ht
  simp [Lb.d_law_fits, runF_fin, Tru.d, turnC, fixC, h1, h2, c1]
  have ea : acycB c = decide (List.filter (fun z => decide (upC c z.1 = none)) c = []) := by
    unfold acycB
    rw [Bool.eq_iff_iff]
    simp only [List.all_eq_true, decide_eq_true_eq, List.filter_eq_nil_iff]
    constructor
    · intro h p hp e
      have := h p.1 (List.mem_map.mpr ⟨p, hp, rfl⟩)
      rw [e] at this
      cases this
    · intro h z hz
      obtain ⟨p, hp, rfl⟩ := List.mem_map.mp hz
      cases e : upC c p.1 with
      | none => exact absurd e (h p hp)
      | some l => rfl
  rw [← ea]
  cases ha : acycB c with
  | false => simp [fitsB, ha]
  | true =>
    generalize hF : forL _ _ _ _ _ = F
    simp
    let st : T × T × T → S := fun x => ⟨[.pl t.d, .pl (.dict (c.map kvS)), x.1, x.2.1, x.2.2, .un], os⟩
    obtain ⟨j', e⟩ := forL_all2 (fix := []) (g := .nm 2) (body := exCs ⟨call X (n + 2), X.con, X.sub, X.xf, X.fuel, []⟩ (bodyC (Lb.d_law_fits.body.getD 1 .pas))) (enc := fun p : Str × Str => PyData.str p.1) st (fun p => fitB t c p.1) (.pl (.bool false)) (l := c) (fun p hp j => by
      obtain ⟨x2, x3, x4⟩ := j
      have d2 := c2 p.1 ha
      obtain ⟨g, hg⟩ := giv_get (c := c) (z := p.1) (List.mem_map.mpr ⟨p, hp, rfl⟩)
      simp [Tru.d] at d2
      by_cases hb : below t c p.1 = []
      · rw [hb] at d2
        exact ⟨st (.pl (.str p.1), x3, x4), (.pl (.str p.1), .ol [], x4), by simp [st], by simp [st, bodyC, Lb.d_law_fits, d2, hb, fitB, Tru.d]⟩
      · have hb2 : (below t c p.1).length ≤ 1000000 := Nat.le_trans (List.length_filter_le _ _) h2
        have hb3 : (below t c p.1).map Wish.s ≠ [] := by simpa using hb
        have hb4 : (below t c p.1).map Wish.u ≠ [] := by simpa using hb
        have m1 : minI ((below t c p.1).map Wish.s) = some (lo (below t c p.1)) := minI_some hb3
        have m2 : maxI ((below t c p.1).map Wish.u) = some (hi (below t c p.1)) := maxI_some hb4
        have d3 := c3 g p.1 (lo (below t c p.1)) (hi (below t c p.1))
        simp [Tru.d] at d3
        refine ⟨st (.pl (.str p.1), x3, x4), (.pl (.str p.1), .pl (.list ((below t c p.1).map Wish.d)), .pl (.int (lo (below t c p.1)))), by simp [st], ?_⟩
        simp [st, bodyC, Lb.d_law_fits, d2, hb, fitB, Tru.d, turnC, fixC, Wish.d, hb2, hg, m1, m2, d3]
        cases spanB t g p.1 (lo (below t c p.1)) (hi (below t c p.1)) <;> simp) (.un, .un, .un)
    have := hF.symm.trans e
    subst this
    have ef : fitsB t c = c.all fun p => fitB t c p.1 := by
      unfold fitsB
      rw [ha, Bool.true_and]
      unfold keys
      rw [List.all_map]
      rfl
    rw [ef]
    cases hq : c.all fun p => fitB t c p.1 <;> simp [ended, st]
end
end Pl
end PartPlO
section PartPlP
set_option autoImplicit false
set_option linter.all false
set_option maxRecDepth 100000
set_option maxHeartbeats 4000000
/-! PlP: the rows of a case. -/
namespace EV
open PySem
def Res.st {β : Type} : Res β → S
  | .ok _ s => s
  | _ => ⟨[], []⟩
@[simp] theorem st_ok {β : Type} (o : β) (s : S) : (Res.ok o s).st = s := by rw [Res.st]
@[simp] theorem comp_two {β : Type} {fix own : List Nat} {g : G} {c : S → Res T} {e : S → Res β} {d1 d2 : D} {s : S} (ho : ownOk s.vs own = true)
    (h1 : turnC fix own g c e d1 (setSlots s own .un) = .ok (turnC fix own g c e d1 (setSlots s own .un)).val (turnC fix own g c e d1 (setSlots s own .un)).st)
    (h2 : turnC fix own g c e d2 (turnC fix own g c e d1 (setSlots s own .un)).st = .ok (turnC fix own g c e d2 (turnC fix own g c e d1 (setSlots s own .un)).st).val (turnC fix own g c e d2 (turnC fix own g c e d1 (setSlots s own .un)).st).st) :
    comp fix own g c e ([d1, d2], none) s = .ok ((turnC fix own g c e d1 (setSlots s own .un)).val.toList ++ (turnC fix own g c e d2 (turnC fix own g c e d1 (setSlots s own .un)).st).val.toList)
      ⟨putBack (turnC fix own g c e d2 (turnC fix own g c e d1 (setSlots s own .un)).st).st.vs s.vs own, (turnC fix own g c e d2 (turnC fix own g c e d1 (setSlots s own .un)).st).st.os⟩ := by
  generalize hw1 : (turnC fix own g c e d1 (setSlots s own .un)).val = w1 at *
  generalize hs1 : (turnC fix own g c e d1 (setSlots s own .un)).st = s1 at *
  generalize hw2 : (turnC fix own g c e d2 s1).val = w2 at *
  generalize hs2 : (turnC fix own g c e d2 s1).st = s2 at *
  unfold comp
  rw [ho]
  simp only [compL, h1, h2, Res.bd, List.length_cons, List.length_nil, Nat.reduceLeDiff, decide_true, Bool.and_self, if_true, unlock]
  cases w1 <;> cases w2 <;> simp_all
end EV
namespace Pl
open EV PySem
def passI (c : Cas) (a : Str) : Int := c.foldl (fun f p => if a ∈ upL c p.1 then (if f < ((upL c p.1).idxOf a : Nat) then (((upL c p.1).idxOf a : Nat) : Int) else f) else f) 0
def dsOf (ws : List Wish) : List Str := (["look", "set"] : List Str).filter fun d => ws.any fun w => decide (d ∈ w.ds)
def rowOf (t : Tru) (c : Cas) (a : Str) : Row := ⟨(giv c a).getD t.o, a, dsOf (below t c a), lo (below t c a), hi (below t c a), passI c a⟩
def rowsOf (t : Tru) (c : Cas) : List Row := (sortS (keys c)).map (rowOf t c)
structure HasPassed (X : Tx) : Prop extends HasUp X where
  passed : X.fd "_law_passed" = some Lb.d_law_passed
structure HasRows (X : Tx) : Prop extends HasBelow X where
  passed : X.fd "_law_passed" = some Lb.d_law_passed
  rows : X.fd "_law_rows" = some Lb.d_law_rows
def SOk (z : Str) : Prop := PyData.strOk z = true
theorem Nm.sok {z : Str} (h : Nm z) : SOk z := by
  unfold SOk PyData.strOk
  rw [← Array.all_toList, List.all_eq_true]
  intro c hc
  have := h.2.2 c hc
  exact decide_eq_true (by omega)
theorem lay_strs : ∀ {l : List Str}, (∀ z ∈ l, SOk z) → PyData.canLayAll0 (l.map .str) = true
  | [], _ => by simp [PyData.canLayAll0]
  | z :: l, h => by
    rw [List.map_cons, PyData.canLayAll0, lay_strs fun y hy => h y (List.mem_cons_of_mem _ hy), PyData.canLay0, Bool.and_true]
    exact h z List.mem_cons_self
theorem index_strs {a : Str} {l : List Str} (h : a ∈ l) (hl : ∀ z ∈ l, SOk z) : meIndex (.ol (l.map .str)) [.pl (.str a)] = some (.pl (.int (l.idxOf a : Nat))) := by
  have s1 : SeqAt.shaped (.list (l.map .str)) = true := by
    unfold SeqAt.shaped
    rw [PyData.canLay0, lay_strs hl, Bool.true_and]
    have := dpt_list (n := 0) (ds := l.map .str) fun d hd => by obtain ⟨x, _, rfl⟩ := List.mem_map.mp hd; exact dpt_str x
    exact decide_eq_true (Nat.le_trans this.2 (by omega))
  have s2 : SeqAt.shaped (.str a) = true := by
    unfold SeqAt.shaped
    rw [PyData.canLay0, show PyData.strOk a = true from hl a h, PyData.depth]
    rfl
  have fi : ∀ l : List Str, a ∈ l → (l.map PyData.str).findIdx? (fun e => PyData.eqv e (.str a)) = some (l.idxOf a) := by
    intro l
    induction l with
    | nil => intro h; cases h
    | cons x l ih =>
      intro h
      rw [List.map_cons, List.findIdx?_cons, List.idxOf_cons]
      by_cases e : x = a
      · subst e; simp
      · have hm : a ∈ l := (List.mem_cons.mp h).resolve_left fun z => e z.symm
        simp [e, ih hm, beq_eq_false_iff_ne.mpr e]
  unfold meIndex
  simp only [listT, T.vw, Option.bind_some, s1, s2, Bool.and_self, if_true]
  unfold indexD
  rw [fi l h]
  rfl
theorem upF_mem {c : Cas} : ∀ {n : Nat} {f : List Str} {h : Str} {l : List Str}, (∀ z ∈ f, z ∈ keys c) → upF c n f h = some l → ∀ z ∈ l, z ∈ keys c
  | 0, _, _, _, _, e => nomatch e
  | n + 1, f, h, l, hf, e => by
    rw [upF] at e
    cases hg : giv c h with
    | none => rw [hg] at e; cases e; exact hf
    | some g =>
      rw [hg] at e
      have hn : h ∈ keys c := Classical.byContradiction fun z => by rw [giv_none.mpr z] at hg; cases hg
      simp only at e
      by_cases hm : h ∈ f
      · rw [if_pos hm] at e; cases e
      · rw [if_neg hm] at e
        exact upF_mem (fun z hz => (List.mem_append.mp hz).elim (hf z) fun hz => by rw [List.mem_singleton.mp hz]; exact hn) e
theorem upL_mem {c : Cas} {a z : Str} (h : z ∈ upL c a) : z ∈ keys c := by
  unfold upL upC at h
  cases e : upF c (c.length + 1) [] a with
  | none => rw [e] at h; cases h
  | some l => rw [e] at h; exact upF_mem (fun _ h => absurd h List.not_mem_nil) e z h
section
variable {X : Tx}
theorem w_passed (hX : HasPassed X) (n : Nat) (c : Cas) (a : Str) (os : List O) (hl : c.length ≤ 900) (ha : acycB c = true) (hk : ∀ z ∈ keys c, SOk z) :
    call X (n + 2) "_law_passed" [.pl (.dict (c.map kvS)), .pl (.str a)] [] [] os = .ok (.pl (.int (passI c a))) [.un, .un] os := by
  rw [call_def hX.passed (n + 1) _ os rfl [] rfl]
  have c1 := fun z => w_up hX.toHasUp n c z os hl
  simp [Lb.d_law_passed, runF_fin]
  generalize hF : forL _ _ _ _ _ = F
  let st : Int → T × T → S := fun f x => ⟨[.pl (.dict (c.map kvS)), .pl (.str a), .pl (.int f), x.1, x.2], os⟩
  obtain ⟨j', e⟩ := forL_fold (fix := []) (g := .nm 3) (body := exCs ⟨call X (n + 1), X.con, X.sub, X.xf, X.fuel, []⟩ (bodyC (Lb.d_law_passed.body.getD 1 .pas))) (enc := fun p : Str × Str => PyData.str p.1) st (fun f p => if a ∈ upL c p.1 then (if f < ((upL c p.1).idxOf a : Nat) then (((upL c p.1).idxOf a : Nat) : Int) else f) else f) (l := c) (fun p hp f j => by
    obtain ⟨x3, x4⟩ := j
    have d1 := c1 p.1
    rw [acyc_up ha (List.mem_map.mpr ⟨p, hp, rfl⟩)] at d1
    simp [upT] at d1
    by_cases hm : a ∈ upL c p.1
    · have ei := index_strs hm fun z hz => hk z (upL_mem hz)
      refine ⟨st f (.pl (.str p.1), x4), (.pl (.str p.1), .ol ((upL c p.1).map .str)), by simp [st], ?_⟩
      simp [st, bodyC, Lb.d_law_passed, d1, hm, ei]
    · exact ⟨st f (.pl (.str p.1), x4), (.pl (.str p.1), .ol ((upL c p.1).map .str)), by simp [st], by simp [st, bodyC, Lb.d_law_passed, d1, hm]⟩) 0 (.un, .un)
  have := hF.symm.trans e
  subst this
  simp [ended, st, passI]
theorem w_rows (hX : HasRows X) (n : Nat) (t : Tru) (c : Cas) (os : List O) (hl : c.length ≤ 900) (hw : t.wishes.length ≤ 1000) (ha : acycB c = true) (hk : ∀ z ∈ keys c, SOk z) (hb : ∀ z ∈ keys c, below t c z ≠ []) :
    call X (n + 3) "_law_rows" [.pl t.d, .pl (.dict (c.map kvS))] [] [] os = .ok (.pl (.tuple ((rowsOf t c).map Row.d))) [.un, .un] os := by
  rw [call_def hX.rows (n + 2) _ os rfl [] rfl]
  have h1 : c.length ≤ 1000000 := by omega
  have h2 : t.wishes.length ≤ 1000000 := by omega
  have c2 := fun z => w_below hX.toHasBelow n t c z os hl hw ha
  have c3 := fun z => w_passed ⟨hX.toHasUp, hX.passed⟩ n c z os hl ha hk
  simp (maxDischargeDepth := 9) [Lb.d_law_rows, runF_fin, Tru.d, h1]
  generalize hF : forL _ _ _ _ _ = F
  let st : List Str → T × T × T × T × T → S := fun f x => ⟨[.pl t.d, .pl (.dict (c.map kvS)), .ol (f.map fun a => (rowOf t c a).d), x.1, x.2.1, x.2.2.1, x.2.2.2.1, x.2.2.2.2, .un, .un], os⟩
  obtain ⟨j', e⟩ := forL_pre (fix := []) (g := .nm 3) (body := exCs ⟨call X (n + 2), X.con, X.sub, X.xf, X.fuel, []⟩ (bodyC (Lb.d_law_rows.body.getD 1 .pas))) (enc := PyData.str) st (l := sortS (keys c)) (fun f a l2 hp j => by
    obtain ⟨x3, x4, x5, x6, x7⟩ := j
    have hk : a ∈ keys c := (List.mergeSort_perm _ _).mem_iff.mp (by show a ∈ sortS _; rw [hp]; simp)
    have hs : f.length ≤ 1000000 := by
      have := congrArg List.length hp
      simp at this
      omega
    have d2 := c2 a
    have d3 := c3 a
    obtain ⟨g, hg⟩ := giv_get hk
    simp [Tru.d] at d2
    have hb := hb a hk
    have hb2 : (below t c a).length ≤ 1000000 := Nat.le_trans (List.length_filter_le _ _) h2
    have m1 : minI ((below t c a).map Wish.s) = some (lo (below t c a)) := minI_some (by simpa using hb)
    have m2 : maxI ((below t c a).map Wish.u) = some (hi (below t c a)) := maxI_some (by simpa using hb)
    refine ⟨st f (.pl (.str a), x4, x5, x6, x7), (.pl (.str a), .pl (.list ((below t c a).map Wish.d)), .pl (.tuple ((dsOf (below t c a)).map .str)), .pl (.int (lo (below t c a))), .pl (.int (hi (below t c a)))), by simp [st], ?_⟩
    simp (maxDischargeDepth := 9) [st, bodyC, Lb.d_law_rows, d2, Tru.d, turnC, fixC, Wish.d, hb2, hg, m1, m2, d3, hs]
    have ed : (if ∃ x, x ∈ below t c a ∧ Str.ofString "look" ∈ x.ds then some (PyData.str (Str.ofString "look")) else none).toList ++ (if ∃ x, x ∈ below t c a ∧ Str.ofString "set" ∈ x.ds then some (PyData.str (Str.ofString "set")) else none).toList = (dsOf (below t c a)).map .str := by
      by_cases a1 : ∃ x, x ∈ below t c a ∧ Str.ofString "look" ∈ x.ds <;> by_cases a2 : ∃ x, x ∈ below t c a ∧ Str.ofString "set" ∈ x.ds <;> simp [a1, a2, dsOf, List.filter_cons]
    rw [ed]
    simp [rowOf, Row.d, hg]) (.un, .un, .un, .un, .un)
  have := hF.symm.trans e
  subst this
  simp [ended, st, rowsOf]
end
end Pl
end PartPlP
section PartPlQ
set_option autoImplicit false
set_option linter.all false
set_option maxRecDepth 100000
set_option maxHeartbeats 4000000
/-! PlQ: drawn cases. -/
namespace Pl
open EV PySem
def tied (t : Tru) (a : Str) : List Str := sortS (uniqS [] ((t.ties.filter fun e => decide (e.r = a)).map Tie.g))
theorem tied_mem {t : Tru} {a g : Str} : g ∈ tied t a ↔ ∃ e ∈ t.ties, e.g = g ∧ e.r = a := by
  unfold tied
  rw [show (g ∈ sortS (uniqS [] ((t.ties.filter fun e => decide (e.r = a)).map Tie.g))) ↔ g ∈ uniqS [] ((t.ties.filter fun e => decide (e.r = a)).map Tie.g) from (List.mergeSort_perm _ _).mem_iff, uniq_mem]
  simp
  constructor
  · rintro ⟨e, ⟨h1, h2⟩, h3⟩; exact ⟨e, h1, h3, h2⟩
  · rintro ⟨e, h1, h3, h2⟩; exact ⟨e, ⟨h1, h2⟩, h3⟩
structure CaseIn (l : List Str) (t : Tru) (c : Cas) : Prop where
  nd : (keys c).Nodup
  key : ∀ z ∈ keys c, z ∈ l ∧ z ≠ t.o
  tie : ∀ p ∈ c, p.2 ∈ tied t p.1
theorem CaseIn.len {l : List Str} {t : Tru} {c : Cas} (h : CaseIn l t c) : c.length ≤ l.length := by
  have := h.nd.length_le_of_subset fun z hz => (h.key z hz).1
  simpa using this
theorem CaseIn.len1 {l : List Str} {t : Tru} {c : Cas} (h : CaseIn l t c) (ho : t.o ∈ l) : c.length + 1 ≤ l.length := by
  have nd : (t.o :: keys c).Nodup := List.nodup_cons.mpr ⟨fun z => (h.key _ z).2 rfl, h.nd⟩
  have := nd.length_le_of_subset (fun z hz => (List.mem_cons.mp hz).elim (fun e => e ▸ ho) fun hz => (h.key z hz).1)
  simpa using this
theorem next_new {t : Tru} {c : Cas} {z : Str} (h : nextF t c = some z) : z ≠ t.o ∧ z ∉ keys c ∧ ((∃ w ∈ t.wishes, w.a = z) ∨ ∃ p ∈ c, p.2 = z) := by
  unfold nextF at h
  have h1 := List.find?_some h
  have h2 := List.mem_of_find?_eq_some h
  simp at h1
  refine ⟨h1.1, h1.2, ?_⟩
  rcases List.mem_append.mp h2 with h | h
  · obtain ⟨w, hw, rfl⟩ := List.mem_map.mp h; exact .inl ⟨w, hw, rfl⟩
  · obtain ⟨w, hw, rfl⟩ := List.mem_map.mp h; exact .inr ⟨w, hw, rfl⟩
theorem CaseIn.next {l : List Str} {t : Tru} {c : Cas} (h : CaseIn l t c) (ht : Trust l t) {z g : Str} (hz : nextF t c = some z) (hg : g ∈ tied t z) : CaseIn l t (c ++ [(z, g)]) := by
  obtain ⟨h1, h2, h3⟩ := next_new hz
  have hl : z ∈ l := by
    rcases h3 with ⟨w, hw, rfl⟩ | ⟨p, hp, rfl⟩
    · exact (ht.ws w hw).a
    · obtain ⟨e, he, e1, e2⟩ := tied_mem.mp (h.tie p hp)
      rw [← e1]; exact (ht.ties e he).g
  have ek : keys (c ++ [(z, g)]) = keys c ++ [z] := by unfold keys; rw [List.map_append]; rfl
  refine ⟨?_, fun y hy => ?_, fun p hp => ?_⟩
  · rw [ek]
    exact List.nodup_append.mpr ⟨h.nd, by simp, fun x hx y hy => by rw [List.mem_singleton.mp hy]; exact fun e => h2 (e ▸ hx)⟩
  · rw [ek] at hy
    rcases List.mem_append.mp hy with hy | hy
    · exact h.key y hy
    · rw [List.mem_singleton.mp hy]; exact ⟨hl, h1⟩
  · rcases List.mem_append.mp hp with hp | hp
    · exact h.tie p hp
    · rw [List.mem_singleton.mp hp]; exact hg
theorem pairs_kv (c : Cas) : pairsD (c.map kvT) = some (c.map kvS) := by
  induction c with
  | nil => rfl
  | cons p c ih =>
    rw [List.map_cons]
    show (if okKey (.str p.1) then (pairsD (c.map kvT)).map _ else none) = _
    rw [ih]
    rfl
theorem dmake_kv : ∀ (c c0 : Cas), (keys (c0 ++ c)).Nodup → dmake (c0.map kvS) (c.map kvS) = (c0 ++ c).map kvS
  | [], c0, _ => by simp [dmake]
  | p :: c, c0, h => by
    have hn : p.1 ∉ keys c0 := by
      unfold keys at h ⊢
      rw [List.map_append, List.map_cons] at h
      exact fun q => (List.nodup_append.mp h).2.2 _ q _ List.mem_cons_self rfl
    have e : dput (c0.map kvS) (.str p.1) (.str p.2) = (c0 ++ [p]).map kvS := by
      unfold dput dhas
      rw [dget_kv, giv_none.mpr hn]
      simp [kvS]
    show dmake (dput (c0.map kvS) (.str p.1) (.str p.2)) (c.map kvS) = _
    rw [e, dmake_kv c (c0 ++ [p]) (by simpa using h)]
    simp
theorem biDict_kv {c : Cas} (h : (keys c).Nodup) : biDict [.ol (c.map kvT)] = some (.od (c.map kvS)) := by
  simp only [biDict, T.vw, pairs_kv, Option.map_some]
  have := dmake_kv c [] (by simpa using h)
  rw [List.map_nil, List.nil_append] at this
  rw [this]
@[simp] theorem optS_none : optS none = .none := rfl
@[simp] theorem optS_some (z : Str) : optS (some z) = .str z := rfl
structure HasDrawn (X : Tx) : Prop extends HasFits X, HasGen X where
  next : X.fd "_law_next" = some Lb.d_law_next
  tied : X.fd "_law_tied" = some Lb.d_law_tied
  passed : X.fd "_law_passed" = some Lb.d_law_passed
  rows : X.fd "_law_rows" = some Lb.d_law_rows
  case : X.fd "_law_case" = some Lb.d_law_case
  drawn : X.fd "_law_drawn_rows" = some Lb.d_law_drawn_rows
section
variable {X : Tx} (hX : HasDrawn X)
include hX
theorem w_case_loop (n : Nat) (k : Nat) (l : List Str) (t : Tru) (ht : Trust l t) (hll : l.length ≤ 20) (os : List O) : ∀ (m fu : Nat) (c : Cas) (p : Pool) (x4 : T), CaseIn l t c → l.length ≤ m + c.length → m < fu → Pk (k + m) p →
    ∃ c' p' x4', whlL (fun s => toB (ev ⟨call X (n + 1), X.con, X.sub, X.xf, X.fuel, [0]⟩ (.and (.cmp .IsNot (.var 3) (.lit .none)) (.cmp .NotEq (.call "_law_tied" [.b 1, .b 3] [] []) (.lst false []))) .e s)) (exCs ⟨call X (n + 1), X.con, X.sub, X.xf, X.fuel, [0]⟩ (bodyC (Lb.d_law_case.body.getD 2 .pas))) fu ⟨[p.t, .pl t.d, .ol (c.map kvT), .pl (optS (nextF t c)), x4, .un], os⟩ =
      .ok .nx ⟨[p'.t, .pl t.d, .ol (c'.map kvT), .pl (optS (nextF t c')), x4', .un], os⟩ ∧ CaseIn l t c' ∧ Pk k p'
  | m, 0, c, p, x4, hc, hm, hf, hp => by omega
  | m, fu + 1, c, p, x4, hc, hm, hf, hp => by
    have hlt : t.ties.length ≤ 4000 := Nat.le_trans ht.tl (by omega)
    have hlw : t.wishes.length ≤ 1000 := Nat.le_trans ht.w6 (by omega)
    have hcl := hc.len1 ht.o
    cases hz : nextF t c with
    | none => exact ⟨c, p, x4, by simp [whlL, hz], hc, hp.le (by omega)⟩
    | some z =>
      have ct := w_tied hX.tied n t z os hlt
      have ct : call X (n + 1) "_law_tied" [.pl t.d, .pl (.str z)] [] [] os = .ok (.ol ((tied t z).map .str)) [.un, .un] os := ct
      by_cases he : tied t z = []
      · rw [he] at ct
        simp [Tru.d] at ct
        exact ⟨c, p, x4, by simp [whlL, hz, Tru.d, ct], hc, hp.le (by omega)⟩
      · have hcl' : c.length + 2 ≤ l.length := by
          have hpos : 0 < (tied t z).length := List.length_pos_iff.mpr he
          have h2 := (hc.next ht hz (List.getElem_mem hpos)).len1 ht.o
          simp at h2
          omega
        cases m with
        | zero => omega
        | succ m =>
          have htl : (tied t z).length ≤ 4000 := by
            unfold tied
            rw [sortS_len]
            have h1 := uniq_le ((t.ties.filter fun e => decide (e.r = z)).map Tie.g) []
            have h2 := List.length_filter_le (fun e : Tie => decide (e.r = z)) t.ties
            rw [List.length_map, List.length_nil, Nat.zero_add] at h1
            omega
          have hpos : 0 < (tied t z).length := List.length_pos_iff.mpr he
          obtain ⟨r1, p1, c1, h1, l1, u1⟩ := w_draw hX.toHasGen n os (k := k + m) (p := p) hp (m := (tied t z).length) (by omega) (by omega)
          obtain ⟨g, hg, eg, _⟩ := at_strs l1 u1
          have hc2 := hc.next ht hz hg
          have cn := w_next hX.next n t (c ++ [(z, g)]) os (by simp; omega) hlw
          obtain ⟨c', p', x4', e1, e2, e3⟩ := w_case_loop n k l t ht hll os m fu (c ++ [(z, g)]) p1 (.ol ((tied t z).map .str)) hc2 (by simp; omega) (by omega) h1
          refine ⟨c', p', x4', ?_, e2, e3⟩
          have hcs : c.length ≤ 1000000 := by omega
          rw [whlL]
          simp [Tru.d, kvT] at ct cn
          simp [bodyC, Lb.d_law_case, Tru.d, kvT] at e1
          simp [hz, Tru.d, ct, he, bodyC, Lb.d_law_case, c1, eg, hcs, kvT, cn]
          exact e1
/-- what a drawn case is -/
structure CaseOk (l : List Str) (t : Tru) (c : Cas) : Prop extends CaseIn l t c where
  done : nextF t c = none
  fits : fitsB t c = true
def optC : Option Cas → T
  | none => .pl .none
  | some c => .pl (.dict (c.map kvS))
theorem w_case (n : Nat) {k : Nat} {p : Pool} {l : List Str} {t : Tru} (os : List O) (hp : Pk (k + 20) p) (ht : Trust l t) (hll : l.length ≤ 20) :
    ∃ o p', call X (n + 4) "_law_case" [p.t, .pl t.d] [] [] os = .ok (optC o) [p'.t, .un] os ∧ Pk k p' ∧ ∀ c, o = some c → CaseOk l t c := by
  rw [call_def hX.case (n + 3) _ os rfl [] rfl]
  have hlw : t.wishes.length ≤ 1000 := Nat.le_trans ht.w6 (by omega)
  have hlt : t.ties.length ≤ 1000 := Nat.le_trans ht.tl (by omega)
  have cn := w_next hX.next (n + 2) t [] os (by simp) hlw
  obtain ⟨c, p', x4, e1, e2, e3⟩ := w_case_loop hX (n + 2) k l t ht hll os l.length X.fuel [] p .un ⟨List.nodup_nil, fun _ h => absurd h List.not_mem_nil, fun _ h => absurd h List.not_mem_nil⟩ (by simp) (by have := hX.fuel; omega) (hp.le (by omega))
  have hcl := e2.len
  have cf := w_fits hX.toHasFits n t c os (by omega) hlt hlw e2.nd
  have bd := biDict_kv e2.nd
  simp [Tru.d] at cn cf
  simp [Tru.d, bodyC, Lb.d_law_case] at e1
  cases hz : nextF t c with
  | none =>
    rw [hz] at e1
    cases hf : fitsB t c with
    | false =>
      rw [hf] at cf
      refine ⟨none, p', ?_, e3, fun _ h => nomatch h⟩
      simp [Lb.d_law_case, runF_fin, Tru.d, cn, e1, bd, cf, optC]
    | true =>
      rw [hf] at cf
      refine ⟨some c, p', ?_, e3, fun _ h => ?_⟩
      · simp [Lb.d_law_case, runF_fin, Tru.d, cn, e1, bd, cf, optC]
      · cases h
        exact ⟨e2, hz, hf⟩
  | some z =>
    rw [hz] at e1
    refine ⟨none, p', ?_, e3, fun _ h => nomatch h⟩
    simp [Lb.d_law_case, runF_fin, Tru.d, cn, e1, bd, optC]
end
end Pl
end PartPlQ
section PartPlR
set_option autoImplicit false
set_option linter.all false
set_option maxRecDepth 100000
set_option maxHeartbeats 4000000
/-! PlR: the rows of a case that fits are a plan. -/
namespace Pl
open EV PySem
def pStep (c : Cas) (a : Str) (f : Int) (p : Str × Str) : Int := if a ∈ upL c p.1 then (if f < ((upL c p.1).idxOf a : Nat) then (((upL c p.1).idxOf a : Nat) : Int) else f) else f
theorem passI_eq (c : Cas) (a : Str) : passI c a = c.foldl (pStep c a) 0 := rfl
/-- those gone up to -/
def chain (c : Cas) : Nat → Str → List Str
  | 0, _ => []
  | n + 1, h => match giv c h with
    | none => []
    | some g => h :: chain c n g
theorem upF_chain {c : Cas} : ∀ {n : Nat} {f : List Str} {h : Str} {l : List Str}, upF c n f h = some l → l = f ++ chain c n h ∧ ∀ m, n ≤ m → chain c m h = chain c n h
  | 0, _, _, _, e => nomatch e
  | n + 1, f, h, l, e => by
    rw [upF] at e
    cases hg : giv c h with
    | none =>
      rw [hg] at e; cases e
      refine ⟨by rw [chain, hg]; simp, fun m hm => ?_⟩
      obtain ⟨k, rfl⟩ : ∃ k, m = k + 1 := ⟨m - 1, by omega⟩
      rw [chain, chain, hg]
    | some g =>
      rw [hg] at e
      simp only at e
      by_cases hf : h ∈ f
      · rw [if_pos hf] at e; cases e
      · rw [if_neg hf] at e
        obtain ⟨e1, e2⟩ := upF_chain e
        refine ⟨by rw [e1, chain, hg]; simp, fun m hm => ?_⟩
        obtain ⟨k, rfl⟩ : ∃ k, m = k + 1 := ⟨m - 1, by omega⟩
        rw [chain, chain, hg]
        simp only
        rw [e2 k (by omega)]
theorem upF_nodup {c : Cas} : ∀ {n : Nat} {f : List Str} {h : Str} {l : List Str}, f.Nodup → upF c n f h = some l → l.Nodup
  | 0, _, _, _, _, e => nomatch e
  | n + 1, f, h, l, nd, e => by
    rw [upF] at e
    cases hg : giv c h with
    | none => rw [hg] at e; cases e; exact nd
    | some g =>
      rw [hg] at e
      simp only at e
      by_cases hf : h ∈ f
      · rw [if_pos hf] at e; cases e
      · rw [if_neg hf] at e
        exact upF_nodup (List.nodup_append.mpr ⟨nd, by simp, fun x hx y hy => by rw [List.mem_singleton.mp hy]; exact fun e => hf (e ▸ hx)⟩) e
theorem giv_key {c : Cas} {a g : Str} (h : giv c a = some g) : a ∈ keys c := Classical.byContradiction fun z => by rw [giv_none.mpr z] at h; cases h
theorem upL_none {c : Cas} {z : Str} (h : z ∉ keys c) : upL c z = [] := by
  unfold upL upC
  rw [upF, giv_none.mpr h]; rfl
theorem upL_nodup (c : Cas) (z : Str) : (upL c z).Nodup := by
  unfold upL upC
  cases e : upF c (c.length + 1) [] z with
  | none => exact List.nodup_nil
  | some l => exact upF_nodup List.nodup_nil e
theorem upL_len (c : Cas) (z : Str) : (upL c z).length ≤ c.length := by
  have := (upL_nodup c z).length_le_of_subset fun y hy => upL_mem hy
  simpa using this
section
variable {c : Cas} (ha : acycB c = true)
include ha
/-- one step up -/
theorem upL_step {z g : Str} (hg : giv c z = some g) : upL c z = z :: upL c g := by
  have hz := giv_key hg
  have e := acyc_up ha hz
  unfold upC at e
  have e2 := e
  rw [upF, hg] at e2
  simp only [List.not_mem_nil, if_false, List.nil_append] at e2
  obtain ⟨c1, s1⟩ := upF_chain e2
  have c2 : upL c g = chain c c.length g := by
    by_cases hk : g ∈ keys c
    · have e3 := acyc_up ha hk
      unfold upC at e3
      obtain ⟨c3, _⟩ := upF_chain e3
      rw [c3, List.nil_append, s1 _ (by omega)]
    · rw [upL_none hk]
      cases hl : c.length with
      | zero => rfl
      | succ k => rw [chain, giv_none.mpr hk]
  rw [c1, c2]; rfl
theorem upL_self {z : Str} (hz : z ∈ keys c) : z ∈ upL c z := by
  obtain ⟨g, hg⟩ := giv_get hz
  rw [upL_step ha hg]; exact List.mem_cons_self
/-- the giver stands behind -/
theorem upL_next {g : Str} (hk : g ∈ keys c) : ∀ {n : Nat} {z a : Str}, (upL c z).length ≤ n → a ∈ upL c z → giv c a = some g → g ∈ upL c z ∧ (upL c z).idxOf g = (upL c z).idxOf a + 1
  | 0, z, a, hn, hm, hg => by
    have := List.length_pos_of_mem hm
    omega
  | n + 1, z, a, hn, hm, hg => by
    by_cases hz : z ∈ keys c
    · obtain ⟨g0, hg0⟩ := giv_get hz
      have hs := upL_step ha hg0
      have nd := upL_nodup c z
      rw [hs] at hm hn nd ⊢
      have nz := (List.nodup_cons.mp nd).1
      by_cases e : a = z
      · subst e
        rw [hg0] at hg
        cases hg
        have hs2 := upL_self ha hk
        obtain ⟨g2, hg2⟩ := giv_get hk
        have ne : g ≠ a := fun e => nz (e ▸ hs2)
        refine ⟨List.mem_cons_of_mem _ hs2, ?_⟩
        rw [upL_step ha hg2, List.idxOf_cons, List.idxOf_cons, List.idxOf_cons]
        simp [beq_eq_false_iff_ne.mpr fun e : a = g => ne e.symm]
      · have hm : a ∈ upL c g0 := (List.mem_cons.mp hm).resolve_left e
        obtain ⟨h1, h2⟩ := upL_next hk (n := n) (by simpa using hn) hm hg
        have ne : g ≠ z := fun e => nz (e ▸ h1)
        refine ⟨List.mem_cons_of_mem _ h1, ?_⟩
        rw [List.idxOf_cons, List.idxOf_cons, beq_eq_false_iff_ne.mpr fun e : z = g => ne e.symm, beq_eq_false_iff_ne.mpr fun e' : z = a => e e'.symm]
        simp [h2]
    · rw [upL_none hz] at hm; cases hm
theorem below_up {t : Tru} {a g : Str} (hg : giv c a = some g) (hk : g ∈ keys c) {w : Wish} (h : w ∈ below t c a) : w ∈ below t c g := by
  unfold below at h ⊢
  rw [List.mem_filter] at h ⊢
  simp only [Bool.and_eq_true, decide_eq_true_eq] at h ⊢
  exact ⟨h.1, h.2.1, (upL_next ha hk (Nat.le_refl _) h.2.2 hg).1⟩
/-! ### how often it is passed on -/
omit ha in
theorem pass_fold (a : Str) : ∀ (l : Cas) (f : Int), f ≤ l.foldl (pStep c a) f ∧
    (∀ p ∈ l, a ∈ upL c p.1 → (((upL c p.1).idxOf a : Nat) : Int) ≤ l.foldl (pStep c a) f) ∧
    (l.foldl (pStep c a) f = f ∨ ∃ p ∈ l, a ∈ upL c p.1 ∧ l.foldl (pStep c a) f = ((upL c p.1).idxOf a : Nat))
  | [], f => ⟨Int.le_refl _, fun _ h => absurd h List.not_mem_nil, .inl rfl⟩
  | q :: l, f => by
    rw [List.foldl_cons]
    generalize hf : pStep c a f q = f2
    obtain ⟨h1, h2, h3⟩ := pass_fold a l f2
    have hle : f ≤ f2 ∧ (a ∈ upL c q.1 → (((upL c q.1).idxOf a : Nat) : Int) ≤ f2) ∧ (f2 = f ∨ (a ∈ upL c q.1 ∧ f2 = ((upL c q.1).idxOf a : Nat))) := by
      rw [← hf, pStep]
      by_cases hm : a ∈ upL c q.1
      · rw [if_pos hm]
        by_cases hlt : f < ((upL c q.1).idxOf a : Nat)
        · rw [if_pos hlt]; exact ⟨by omega, fun _ => Int.le_refl _, .inr ⟨hm, rfl⟩⟩
        · rw [if_neg hlt]; exact ⟨Int.le_refl _, fun _ => by omega, .inl rfl⟩
      · rw [if_neg hm]; exact ⟨Int.le_refl _, fun h => absurd h hm, .inl rfl⟩
    refine ⟨Int.le_trans hle.1 h1, fun p hp hm => ?_, ?_⟩
    · rcases List.mem_cons.mp hp with rfl | hp
      · exact Int.le_trans (hle.2.1 hm) h1
      · exact h2 p hp hm
    · rcases h3 with h3 | ⟨p, hp, hm, h3⟩
      · rcases hle.2.2 with e | ⟨hm, e⟩
        · exact .inl (h3.trans e)
        · exact .inr ⟨q, List.mem_cons_self, hm, h3.trans e⟩
      · exact .inr ⟨p, List.mem_cons_of_mem _ hp, hm, h3⟩
theorem pass_at {a : Str} (hk : a ∈ keys c) : ∃ z, z ∈ keys c ∧ a ∈ upL c z ∧ passI c a = ((upL c z).idxOf a : Nat) := by
  obtain ⟨h1, h2, h3⟩ := pass_fold (c := c) a c 0
  rcases h3 with h3 | ⟨p, hp, hm, h3⟩
  · obtain ⟨g, hg⟩ := giv_get hk
    refine ⟨a, hk, upL_self ha hk, ?_⟩
    rw [passI_eq, h3, upL_step ha hg]
    simp
  · exact ⟨p.1, List.mem_map.mpr ⟨p, hp, rfl⟩, hm, h3⟩
theorem pass_ge {a z : Str} (hz : z ∈ keys c) (hm : a ∈ upL c z) : (((upL c z).idxOf a : Nat) : Int) ≤ passI c a := by
  obtain ⟨p, hp, rfl⟩ := List.mem_map.mp hz
  exact (pass_fold (c := c) a c 0).2.1 p hp hm
theorem pass_lt {a g : Str} (hg : giv c a = some g) (hk : g ∈ keys c) : passI c a < passI c g := by
  obtain ⟨z, hz, hm, e⟩ := pass_at ha (giv_key hg)
  obtain ⟨h1, h2⟩ := upL_next ha hk (Nat.le_refl _) hm hg
  have := pass_ge ha hz h1
  omega
theorem pass_bd {a : Str} (hk : a ∈ keys c) : 0 ≤ passI c a ∧ passI c a < c.length := by
  obtain ⟨z, hz, hm, e⟩ := pass_at ha hk
  have h1 := List.idxOf_lt_length_iff.mpr hm
  have h2 := upL_len c z
  omega
end
/-! ### from the first since to the last until -/
theorem fold_min : ∀ (l : List Int) (x : Int), l.foldl min x ≤ x ∧ (∀ y ∈ l, l.foldl min x ≤ y) ∧ (l.foldl min x = x ∨ l.foldl min x ∈ l)
  | [], x => ⟨Int.le_refl _, fun _ h => absurd h List.not_mem_nil, .inl rfl⟩
  | z :: l, x => by
    obtain ⟨h1, h2, h3⟩ := fold_min l (min x z)
    rw [List.foldl_cons]
    refine ⟨by omega, fun y hy => ?_, ?_⟩
    · rcases List.mem_cons.mp hy with rfl | hy
      · omega
      · exact h2 y hy
    · rcases h3 with h3 | h3
      · rcases Int.le_total x z with h | h
        · exact .inl (by omega)
        · exact .inr (by rw [h3, Int.min_eq_right h]; exact List.mem_cons_self)
      · exact .inr (List.mem_cons_of_mem _ h3)
theorem fold_max : ∀ (l : List Int) (x : Int), x ≤ l.foldl max x ∧ (∀ y ∈ l, y ≤ l.foldl max x) ∧ (l.foldl max x = x ∨ l.foldl max x ∈ l)
  | [], x => ⟨Int.le_refl _, fun _ h => absurd h List.not_mem_nil, .inl rfl⟩
  | z :: l, x => by
    obtain ⟨h1, h2, h3⟩ := fold_max l (max x z)
    rw [List.foldl_cons]
    refine ⟨by omega, fun y hy => ?_, ?_⟩
    · rcases List.mem_cons.mp hy with rfl | hy
      · omega
      · exact h2 y hy
    · rcases h3 with h3 | h3
      · rcases Int.le_total z x with h | h
        · exact .inl (by omega)
        · exact .inr (by rw [h3, Int.max_eq_right h]; exact List.mem_cons_self)
      · exact .inr (List.mem_cons_of_mem _ h3)
theorem lo_le {ws : List Wish} {w : Wish} (h : w ∈ ws) : lo ws ≤ w.s := by
  cases ws with
  | nil => cases h
  | cons v ws =>
    obtain ⟨h1, h2, _⟩ := fold_min (ws.map Wish.s) v.s
    show (ws.map Wish.s).foldl min v.s ≤ w.s
    rcases List.mem_cons.mp h with rfl | h
    · exact h1
    · exact h2 _ (List.mem_map.mpr ⟨w, h, rfl⟩)
theorem lo_at {ws : List Wish} (h : ws ≠ []) : ∃ w ∈ ws, lo ws = w.s := by
  cases ws with
  | nil => exact absurd rfl h
  | cons v ws =>
    obtain ⟨_, _, h3⟩ := fold_min (ws.map Wish.s) v.s
    rcases h3 with h3 | h3
    · exact ⟨v, List.mem_cons_self, h3⟩
    · obtain ⟨w, hw, e⟩ := List.mem_map.mp h3
      exact ⟨w, List.mem_cons_of_mem _ hw, e.symm⟩
theorem hi_ge {ws : List Wish} {w : Wish} (h : w ∈ ws) : w.u ≤ hi ws := by
  cases ws with
  | nil => cases h
  | cons v ws =>
    obtain ⟨h1, h2, _⟩ := fold_max (ws.map Wish.u) v.u
    show w.u ≤ (ws.map Wish.u).foldl max v.u
    rcases List.mem_cons.mp h with rfl | h
    · exact h1
    · exact h2 _ (List.mem_map.mpr ⟨w, h, rfl⟩)
theorem hi_at {ws : List Wish} (h : ws ≠ []) : ∃ w ∈ ws, hi ws = w.u := by
  cases ws with
  | nil => exact absurd rfl h
  | cons v ws =>
    obtain ⟨_, _, h3⟩ := fold_max (ws.map Wish.u) v.u
    rcases h3 with h3 | h3
    · exact ⟨v, List.mem_cons_self, h3⟩
    · obtain ⟨w, hw, e⟩ := List.mem_map.mp h3
      exact ⟨w, List.mem_cons_of_mem _ hw, e.symm⟩
theorem lo_mono {ws vs : List Wish} (h : ∀ w ∈ ws, w ∈ vs) (hn : ws ≠ []) : lo vs ≤ lo ws := by
  obtain ⟨w, hw, e⟩ := lo_at hn
  rw [e]; exact lo_le (h w hw)
theorem hi_mono {ws vs : List Wish} (h : ∀ w ∈ ws, w ∈ vs) (hn : ws ≠ []) : hi ws ≤ hi vs := by
  obtain ⟨w, hw, e⟩ := hi_at hn
  rw [e]; exact hi_ge (h w hw)
theorem dsOf_mem {ws : List Wish} {d : Str} : d ∈ dsOf ws ↔ (d = "look" ∨ d = "set") ∧ ∃ w ∈ ws, d ∈ w.ds := by
  unfold dsOf
  rw [List.mem_filter]
  simp
theorem kinds_in {ds : List Str} (h : ds ∈ kinds) : ds ≠ [] ∧ ∀ d ∈ ds, d = "look" ∨ d = "set" := by
  simp only [kinds, List.mem_cons, List.not_mem_nil, or_false] at h
  rcases h with rfl | rfl | rfl <;> simp
theorem dsOf_kinds {ws : List Wish} (h : ws ≠ []) (hk : ∀ w ∈ ws, w.ds ∈ kinds) : dsOf ws ∈ kinds := by
  obtain ⟨w, hw⟩ := List.exists_mem_of_ne_nil _ h
  obtain ⟨h1, h2⟩ := kinds_in (hk w hw)
  obtain ⟨d, hd⟩ := List.exists_mem_of_ne_nil _ h1
  have hm : d ∈ dsOf ws := dsOf_mem.mpr ⟨h2 d hd, w, hw, hd⟩
  unfold dsOf at hm ⊢
  rw [List.filter_cons, List.filter_cons, List.filter_nil] at hm ⊢
  split at hm <;> split at hm <;> simp_all [kinds]
/-! ### sorted -/
theorem leS_le (a b : Str) : leS a b = true ↔ a.cps.toList ≤ b.cps.toList := by
  unfold leS
  simp only [Bool.not_eq_true', decide_eq_false_iff_not]
  exact Iff.rfl
theorem leS_trans (a b c : Str) (h1 : leS a b = true) (h2 : leS b c = true) : leS a c = true := by
  rw [leS_le] at *
  exact List.le_trans h1 h2
theorem leS_total (a b : Str) : (leS a b || leS b a) = true := by
  rw [Bool.or_eq_true, leS_le, leS_le]
  exact List.le_total _ _
theorem sortS_pw (l : List Str) : (sortS l).Pairwise fun a b => leS a b = true := List.pairwise_mergeSort leS_trans leS_total l
theorem sortS_of {l : List Str} (h : l.Pairwise fun a b => leS a b = true) : sortS l = l := List.mergeSort_of_pairwise h
theorem sortS_mem {l : List Str} {x : Str} : x ∈ sortS l ↔ x ∈ l := (List.mergeSort_perm _ _).mem_iff
theorem sortS_nodup {l : List Str} : (sortS l).Nodup ↔ l.Nodup := (List.mergeSort_perm _ _).nodup_iff
theorem sortS_uniq {l : List Str} (h : l.Nodup) : sortS l = sortS (uniqS [] (sortS l)) := by
  rw [uniq_self (sortS l) [] (by simpa using sortS_nodup.mpr h), List.nil_append, sortS_of (sortS_pw l)]
end Pl
end PartPlR
section PartPlS
set_option autoImplicit false
set_option linter.all false
set_option maxRecDepth 100000
set_option maxHeartbeats 4000000
/-! PlS: the rows of a case that fits are a plan. -/
namespace Pl
open EV PySem
theorem rows_h (t : Tru) (c : Cas) : (rowsOf t c).map Row.h = sortS (keys c) := by
  unfold rowsOf
  rw [List.map_map]
  exact List.map_id' _
theorem find_row {t : Tru} {c : Cas} (nd : (keys c).Nodup) {a : Str} (h : a ∈ keys c) : find (rowsOf t c) a = some (rowOf t c a) := by
  unfold find rowsOf
  have hm : a ∈ sortS (keys c) := sortS_mem.mpr h
  generalize sortS (keys c) = l at hm
  induction l with
  | nil => cases hm
  | cons x l ih =>
    rw [List.map_cons, List.find?_cons]
    by_cases e : x = a
    · subst e
      have : decide ((rowOf t c x).h = x) = true := decide_eq_true rfl
      rw [this]
    · have : decide ((rowOf t c x).h = a) = false := decide_eq_false e
      rw [this]
      exact ih ((List.mem_cons.mp hm).resolve_left fun z => e z.symm)
theorem below_ws {t : Tru} {c : Cas} {a : Str} {w : Wish} (h : w ∈ below t c a) : w ∈ t.wishes := (List.mem_filter.mp h).1
/-- what a case that fits and is done has of each settled one -/
structure Fit (t : Tru) (c : Cas) (a : Str) : Prop where
  ne : below t c a ≠ []
  sp : spanB t ((giv c a).getD t.o) a (lo (below t c a)) (hi (below t c a)) = true
theorem fits_iff {t : Tru} {c : Cas} : fitsB t c = true ↔ acycB c = true ∧ ∀ a ∈ keys c, Fit t c a := by
  unfold fitsB
  rw [Bool.and_eq_true, List.all_eq_true]
  constructor
  · rintro ⟨h1, h2⟩
    refine ⟨h1, fun a ha => ?_⟩
    have := h2 a ha
    unfold fitB at this
    simp at this
    exact ⟨this.1, this.2⟩
  · rintro ⟨h1, h2⟩
    refine ⟨h1, fun a ha => ?_⟩
    unfold fitB
    have h3 := (h2 a ha).ne
    simp [h3, (h2 a ha).sp]
theorem done_iff {t : Tru} {c : Cas} : nextF t c = none ↔ (∀ w ∈ t.wishes, w.a ≠ t.o → w.a ∈ keys c) ∧ ∀ p ∈ c, p.2 ≠ t.o → p.2 ∈ keys c := by
  unfold nextF
  rw [List.find?_eq_none]
  simp only [List.mem_append, List.mem_map]
  constructor
  · intro h
    refine ⟨fun w hw hn => ?_, fun p hp hn => ?_⟩
    · have := h w.a (.inl ⟨w, hw, rfl⟩)
      simpa [hn] using this
    · have := h p.2 (.inr ⟨p, hp, rfl⟩)
      simpa [hn] using this
  · rintro ⟨h1, h2⟩ z (⟨w, hw, rfl⟩ | ⟨p, hp, rfl⟩)
    · by_cases hn : w.a = t.o
      · simp [hn]
      · simp [h1 w hw hn]
    · by_cases hn : p.2 = t.o
      · simp [hn]
      · simp [h2 p hp hn]
theorem giv_mem {c : Cas} {a g : Str} (h : giv c a = some g) : (a, g) ∈ c := by
  unfold giv at h
  induction c with
  | nil => cases h
  | cons p c ih =>
    obtain ⟨k, v⟩ := p
    rw [List.lookup_cons] at h
    by_cases e : a = k
    · subst e
      simp at h
      subst h
      exact List.mem_cons_self
    · rw [beq_eq_false_iff_ne.mpr e] at h
      exact List.mem_cons_of_mem _ (ih h)
theorem giv_of {c : Cas} (nd : (keys c).Nodup) {a g : Str} (h : (a, g) ∈ c) : giv c a = some g := by
  unfold giv
  induction c with
  | nil => cases h
  | cons p c ih =>
    obtain ⟨k, v⟩ := p
    have nd : (k :: keys c).Nodup := nd
    rw [List.nodup_cons] at nd
    rw [List.lookup_cons]
    rcases List.mem_cons.mp h with h | h
    · cases h; simp
    · have e : a ≠ k := fun e => nd.1 (e ▸ List.mem_map.mpr ⟨(a, g), h, rfl⟩)
      rw [beq_eq_false_iff_ne.mpr e]
      exact ih nd.2 h
theorem room_len : ("room" : Str).length ≤ 1000000 := by decide +kernel
theorem form_ok {r : Row} (hg : Nm r.g) (hh : Nm r.h) (hn : r.g ≠ r.h) (hd : r.ds ∈ kinds) (hs : SpanOk r.s r.u) (hp : 0 ≤ r.p ∧ r.p ≤ 6) : formB r = true := by
  unfold formB isLeaveG
  have e1 : isBetween (.int 0) 0 999999999 = true := by decide
  have e2 : areMoments (.int r.s) (.int r.u) = true := by rw [moments_sp]; exact spB_ok hs
  have e3 : isBetween (.int r.p) 0 6 = true := by simp [isBetween, hp.1, hp.2]
  have e4 : isName (.str r.g) = true := nmB_iff.mpr hg
  have e5 : isName (.str r.h) = true := nmB_iff.mpr hh
  have e6 : eqS (.str r.g) (.str r.h) = false := by simp [eqS, hn]
  rw [e1, room_nm, e4, e5, e6, kinds_ok hd, e2, e3]
  rfl
theorem rows_plan {l : List Str} {t : Tru} {c : Cas} (ht : Trust l t) (hl : l.length ≤ 8) (hc : CaseOk l t c) : planB t (rowsOf t c) = true := by
  obtain ⟨ha, hf⟩ := fits_iff.mp hc.fits
  obtain ⟨d1, d2⟩ := done_iff.mp hc.done
  have nd := hc.nd
  have hlen := hc.toCaseIn.len1 ht.o
  -- of each row
  have row : ∀ a ∈ keys c, ∃ g, giv c a = some g ∧ (∃ e ∈ t.ties, e.g = g ∧ e.r = a) ∧ (g = t.o ∨ g ∈ keys c) := fun a hk => by
    obtain ⟨g, hg⟩ := giv_get hk
    have hm := giv_mem hg
    refine ⟨g, hg, tied_mem.mp (hc.tie _ hm), ?_⟩
    by_cases h : g = t.o
    · exact .inl h
    · exact .inr (d2 _ hm h)
  have mem : ∀ r ∈ rowsOf t c, ∃ a ∈ keys c, r = rowOf t c a := fun r hr => by
    obtain ⟨a, h1, rfl⟩ := List.mem_map.mp hr
    exact ⟨a, sortS_mem.mp h1, rfl⟩
  have kin : ∀ {a w}, w ∈ below t c a → w.ds ∈ kinds := fun h => (ht.ws _ (below_ws h)).ds
  unfold planB
  simp only [Bool.and_eq_true]
  refine ⟨⟨⟨⟨?_, ?_⟩, ?_⟩, ?_⟩, ?_⟩
  · rw [List.all_eq_true]
    intro r hr
    obtain ⟨a, hk, rfl⟩ := mem r hr
    obtain ⟨g, hg, ⟨e, he, e1, e2⟩, _⟩ := row a hk
    have te := ht.ties e he
    have eg : (rowOf t c a).g = g := by show (giv c a).getD t.o = g; rw [hg]; rfl
    refine form_ok ?_ (ht.nm.nm _ (hc.key a hk).1) ?_ (dsOf_kinds (hf a hk).ne fun w hw => kin hw) ?_ ?_
    · rw [eg, ← e1]; exact ht.nm.nm _ te.g
    · rw [eg, ← e1]; show e.g ≠ a; rw [← e2]; exact te.ne
    · obtain ⟨w, hw, e3⟩ := lo_at (hf a hk).ne
      obtain ⟨v, hv, e4⟩ := hi_at (hf a hk).ne
      have hw2 := (ht.ws w (below_ws hw)).sp
      have hv2 := (ht.ws v (below_ws hv)).sp
      have := hi_ge hw
      show SpanOk (lo (below t c a)) (hi (below t c a))
      unfold SpanOk at *
      omega
    · have := pass_bd ha hk
      show 0 ≤ passI c a ∧ passI c a ≤ 6
      omega
  · rw [rows_h]
    exact decide_eq_true (sortS_uniq nd)
  · rw [rows_h]
    have : t.o ∉ sortS (keys c) := fun h => (hc.key _ (sortS_mem.mp h)).2 rfl
    rw [decide_eq_false this]; rfl
  · rw [List.all_eq_true]
    intro r hr
    obtain ⟨a, hk, rfl⟩ := mem r hr
    obtain ⟨g, hg, ⟨e, he, e1, e2⟩, hgo⟩ := row a hk
    have eg : (rowOf t c a).g = g := by show (giv c a).getD t.o = g; rw [hg]; rfl
    unfold stepB
    rw [Bool.and_eq_true]
    refine ⟨(hf a hk).sp, ?_⟩
    rw [eg]
    rcases hgo with rfl | hgk
    · simp
    · rw [find_row nd hgk]
      rw [Bool.or_eq_true]
      refine .inr ?_
      show within (rowOf t c a) (rowOf t c g) = true
      unfold within
      have up : ∀ w ∈ below t c a, w ∈ below t c g := fun w hw => below_up ha hg hgk hw
      have a1 : allIn (rowOf t c a).ds (rowOf t c g).ds = true := by
        unfold allIn
        rw [List.all_eq_true]
        intro d hd
        obtain ⟨h1, w, hw, h2⟩ := dsOf_mem.mp hd
        exact decide_eq_true (dsOf_mem.mpr ⟨h1, w, up w hw, h2⟩)
      have a2 : (rowOf t c g).s ≤ (rowOf t c a).s := lo_mono up (hf a hk).ne
      have a3 : (rowOf t c a).u ≤ (rowOf t c g).u := hi_mono up (hf a hk).ne
      have a4 : (rowOf t c a).p < (rowOf t c g).p := pass_lt ha hg hgk
      have a5 : (rowOf t c g).h = (rowOf t c a).g := eg.symm
      simp [a1, a2, a3, a4, a5]
  · rw [List.all_eq_true]
    intro w hw
    have hk := d1 w hw (ht.ws w hw).ne
    unfold borneB
    rw [find_row nd hk]
    show coverB (rowOf t c w.a) w = true
    have hb : w ∈ below t c w.a := List.mem_filter.mpr ⟨hw, by simp [hk, upL_self ha hk]⟩
    unfold coverB
    have a1 : allIn w.ds (rowOf t c w.a).ds = true := by
      unfold allIn
      rw [List.all_eq_true]
      intro d hd
      exact decide_eq_true (dsOf_mem.mpr ⟨(kinds_in (ht.ws w hw).ds).2 d hd, w, hb, hd⟩)
    have a2 : (rowOf t c w.a).s ≤ w.s := lo_le hb
    have a3 : w.u ≤ (rowOf t c w.a).u := hi_ge hb
    simp [a1, a2, a3]
section
variable {X : Tx} (hX : HasDrawn X)
include hX
theorem w_drawn_loop (n : Nat) {l : List Str} {t : Tru} (ht : Trust l t) (hll : l.length ≤ 20) (os : List O) : ∀ (m : Nat) (j : Int) (k : Nat) (p : Pool) (x2 x3 : T), Pk (k + 20 * m) p →
    ∃ p', Pk k p' ∧ ((∃ x2' x3', forL [0] (.nm 2) (exCs ⟨call X (n + 4), X.con, X.sub, X.xf, X.fuel, [0]⟩ (bodyC (Lb.d_law_drawn_rows.body.getD 0 .pas))) (rangeD j m) ⟨[p.t, .pl t.d, x2, x3], os⟩ = .ok .nx ⟨[p'.t, .pl t.d, x2', x3'], os⟩) ∨
      ∃ x2' x3' c, CaseOk l t c ∧ forL [0] (.nm 2) (exCs ⟨call X (n + 4), X.con, X.sub, X.xf, X.fuel, [0]⟩ (bodyC (Lb.d_law_drawn_rows.body.getD 0 .pas))) (rangeD j m) ⟨[p.t, .pl t.d, x2, x3], os⟩ = .ok (.rt (.pl (.tuple ((rowsOf t c).map Row.d)))) ⟨[p'.t, .pl t.d, x2', x3'], os⟩)
  | 0, j, k, p, x2, x3, hp => ⟨p, hp, .inl ⟨x2, x3, rfl⟩⟩
  | m + 1, j, k, p, x2, x3, hp => by
    have hlw : t.wishes.length ≤ 1000 := Nat.le_trans ht.w6 (by omega)
    obtain ⟨o, p1, c1, h1, h2⟩ := w_case hX n os (k := k + 20 * m) (hp.le (by omega)) ht hll
    simp [Tru.d] at c1
    cases o with
    | none =>
      obtain ⟨p', hp', h⟩ := w_drawn_loop n ht hll os m (j + 1) k p1 (.pl (.int j)) (.pl .none) h1
      refine ⟨p', hp', ?_⟩
      have e1 : forL [0] (.nm 2) (exCs ⟨call X (n + 4), X.con, X.sub, X.xf, X.fuel, [0]⟩ (bodyC (Lb.d_law_drawn_rows.body.getD 0 .pas))) (rangeD j (m + 1)) ⟨[p.t, .pl t.d, x2, x3], os⟩ = forL [0] (.nm 2) (exCs ⟨call X (n + 4), X.con, X.sub, X.xf, X.fuel, [0]⟩ (bodyC (Lb.d_law_drawn_rows.body.getD 0 .pas))) (rangeD (j + 1) m) ⟨[p1.t, .pl t.d, .pl (.int j), .pl .none], os⟩ := by
        rw [rangeD, forL]
        simp [Tru.d, bodyC, Lb.d_law_drawn_rows, c1, optC]
      rw [e1]
      exact h
    | some c =>
      have hc := h2 c rfl
      obtain ⟨ha, hf⟩ := fits_iff.mp hc.fits
      have hlen := hc.toCaseIn.len
      have c2 := w_rows ⟨hX.toHasBelow, hX.passed, hX.rows⟩ (n + 1) t c os (by omega) hlw ha (fun z hz => (ht.nm.nm z (hc.key z hz).1).sok) (fun z hz => (hf z hz).ne)
      simp [Tru.d] at c2
      refine ⟨p1, h1.le (by omega), .inr ⟨.pl (.int j), .pl (.dict (c.map kvS)), c, hc, ?_⟩⟩
      rw [rangeD, forL]
      simp [Tru.d, bodyC, Lb.d_law_drawn_rows, c1, c2, optC]
/-- drawn rows: none, or those of a case that fits -/
theorem w_drawn (n : Nat) {k : Nat} {p : Pool} {l : List Str} {t : Tru} (os : List O) (hp : Pk (k + 120) p) (ht : Trust l t) (hll : l.length ≤ 20) :
    ∃ rs p', call X (n + 5) "_law_drawn_rows" [p.t, .pl t.d] [] [] os = .ok (.pl (.tuple (rs.map Row.d))) [p'.t, .un] os ∧ Pk k p' ∧ (rs = [] ∨ ∃ c, CaseOk l t c ∧ rs = rowsOf t c) := by
  rw [call_def hX.drawn (n + 4) _ os rfl [] rfl]
  obtain ⟨p', hp', h⟩ := w_drawn_loop hX n ht hll os 6 0 k p .un .un hp
  rcases h with ⟨x2, x3, e⟩ | ⟨x2, x3, c, hc, e⟩
  · refine ⟨[], p', ?_, hp', .inl rfl⟩
    simp [Tru.d, bodyC, Lb.d_law_drawn_rows] at e
    simp [Lb.d_law_drawn_rows, runF_fin, Tru.d, e, ended]
  · refine ⟨_, p', ?_, hp', .inr ⟨c, hc, rfl⟩⟩
    simp [Tru.d, bodyC, Lb.d_law_drawn_rows] at e
    simp [Lb.d_law_drawn_rows, runF_fin, Tru.d, e, ended]
end
end Pl
end PartPlS
section PartPlT
set_option autoImplicit false
set_option linter.all false
set_option maxRecDepth 100000
set_option maxHeartbeats 4000000
/-! PlT: looks at cases, the program's and the law's: who comes to whom, what is late, who is next. -/
namespace Pl
open EV PySem
def comesF (c : Cas) (a : Str) : Nat → Option Str → Bool
  | 0, _ => false
  | n + 1, h => decide (h = some a) || comesF c a n (h.bind (giv c))
def comesB (c : Cas) (x a : Str) : Bool := comesF c a (c.length + 1) (some x)
@[simp] theorem eqD_optS (h : Option Str) (a : Str) : eqD (optS h) (.str a) = some (decide (h = some a)) := by
  cases h with
  | none => show eqD .none (.str a) = _; simp
  | some z => show eqD (.str z) (.str a) = _; simp
theorem get_optS {t : T} {c : Cas} (ht : t.vw = some (.dict (c.map kvS))) (h : Option Str) : meGet t [.pl (optS h)] = some (.pl (optS (h.bind (giv c)))) := by
  have e : meGet t [.pl (optS h)] = (match t.vw with
    | some (.dict kvs) => if okKey (optS h) then some (.pl ((dget kvs (optS h)).getD .none)) else if isNoneD (optS h) then some (.pl .none) else none
    | _ => none) := rfl
  rw [e, ht]
  cases h with
  | none => rfl
  | some z =>
    show (if okKey (.str z) then some (T.pl ((dget (c.map kvS) (.str z)).getD .none)) else _) = _
    rw [dget_kv]
    cases hg : giv c z <;> simp [hg, okKey]
def belowC (t : Tru) (c : Cas) (a : Str) : List Wish := t.wishes.filter fun w => decide (w.a ∈ keys c) && comesB c w.a a
def lateB (t : Tru) (c : Cas) (a : Str) : Bool := !spanB t ((giv c a).getD t.o) a (lo (belowC t c a)) (hi (belowC t c a))
structure HasLate (X : Tx) : Prop where
  comes : X.fd "comes_to" = some Lb.d_comes_to
  below : X.fd "wishes_below" = some Lb.d_wishes_below
  span : X.fd "span_of" = some Lb.d_span_of
  spanned : X.fd "is_spanned" = some Lb.d_is_spanned
  late : X.fd "is_late" = some Lb.d_is_late
section
variable {X : Tx}
theorem w_comes_loop (n : Nat) (c : Cas) (x a : Str) (os : List O) : ∀ (m : Nat) (j : Int) (h : Option Str) (x4 : T),
    ∃ h' x4', forL [] (.nm 4) (exCs ⟨call X n, X.con, X.sub, X.xf, X.fuel, []⟩ (bodyC (Lb.d_comes_to.body.getD 1 .pas))) (rangeD j m) ⟨[.bd (c.map kvS), .pl (.str x), .pl (.str a), .pl (optS h), x4], os⟩ =
      if comesF c a m h then .ok (.rt (.pl (.bool true))) ⟨[.bd (c.map kvS), .pl (.str x), .pl (.str a), .pl (optS h'), x4'], os⟩ else .ok .nx ⟨[.bd (c.map kvS), .pl (.str x), .pl (.str a), .pl (optS h'), x4'], os⟩
  | 0, j, h, x4 => ⟨h, x4, rfl⟩
  | m + 1, j, h, x4 => by
    by_cases e : h = some a
    · refine ⟨h, .pl (.int j), ?_⟩
      rw [rangeD, forL]
      simp [bodyC, Lb.d_comes_to, comesF, e]
    · obtain ⟨h', x4', q⟩ := w_comes_loop n c x a os m (j + 1) (h.bind (giv c)) (.pl (.int j))
      refine ⟨h', x4', ?_⟩
      have g := get_optS (t := .bd (c.map kvS)) (c := c) (by simp) h
      rw [rangeD, forL]
      simp [bodyC, Lb.d_comes_to] at q
      simp [bodyC, Lb.d_comes_to, comesF, e, g]
      exact q
theorem evI_rng_of {P : Pm} {a : E} {m : Int} {s s' : S} (h : ev P a .e s = .ok (.pl (.int m)) s') (hm : -1000000 ≤ m ∧ m ≤ 1000000) : evI P (.rng a) s = .ok (rangeD 0 m.toNat, none) s' := by
  simp [h, hm]
theorem w_comes (hF : X.fd "comes_to" = some Lb.d_comes_to) (n : Nat) (c : Cas) (x a : Str) (os : List O) (hl : c.length ≤ 1000) : call X (n + 1) "comes_to" [.bd (c.map kvS), .pl (.str x), .pl (.str a)] [] [] os = .ok (.pl (.bool (comesB c x a))) [.un, .un, .un] os := by
  rw [call_def hF n _ os rfl [] rfl, runF_fin]
  obtain ⟨h', x4', q⟩ := w_comes_loop (X := X) n c x a os (c.length + 1) 0 (some x) .un
  let s1 : S := ⟨[.bd (c.map kvS), .pl (.str x), .pl (.str a), .pl (.str x), .un], os⟩
  have e0 : ∀ m : Int, m = (c.length : Int) + 1 → ev ⟨call X n, X.con, X.sub, X.xf, X.fuel, []⟩ (.bin .Add (.bi "len" [.var 0]) (.lit (.int 1))) .e s1 = .ok (.pl (.int m)) s1 := fun m hm => by
    simp [s1, hm]
  have ei : evI ⟨call X n, X.con, X.sub, X.xf, X.fuel, []⟩ (.rng (.bin .Add (.bi "len" [.var 0]) (.lit (.int 1)))) s1 = .ok (rangeD 0 (c.length + 1), none) s1 := by
    have := evI_rng_of (e0 _ rfl) (by omega)
    rw [this]
    rfl
  have main : exCs ⟨call X n, X.con, X.sub, X.xf, X.fuel, []⟩ Lb.d_comes_to.body ⟨[.bd (c.map kvS), .pl (.str x), .pl (.str a), .un, .un], os⟩ = .ok (.rt (.pl (.bool (comesB c x a)))) ⟨[.bd (c.map kvS), .pl (.str x), .pl (.str a), .pl (optS h'), x4'], os⟩ := by
    unfold Lb.d_comes_to
    rw [exCs_nx (s' := s1) (by simp [s1])]
    unfold comesB
    cases hc : comesF c a (c.length + 1) (some x) with
    | true =>
      rw [hc] at q
      exact exCs_rt (for_of ei q)
    | false =>
      rw [hc] at q
      exact (exCs_nx (for_of ei q)).trans (by simp)
  show fin _ (exCs ⟨call X n, X.con, X.sub, X.xf, X.fuel, []⟩ Lb.d_comes_to.body ⟨[.bd (c.map kvS), .pl (.str x), .pl (.str a), .un, .un], os⟩) = _
  rw [main]
  simp
theorem w_wbelow (hX : HasLate X) (n : Nat) (t : Tru) (c : Cas) (a : Str) (os : List O) (hl : c.length ≤ 1000) (hw : t.wishes.length ≤ 1000) :
    call X (n + 2) "wishes_below" [.pl t.d, .bd (c.map kvS), .pl (.str a)] [] [] os = .ok (.ol ((belowC t c a).map Wish.d)) [.un, .un, .un] os := by
  rw [call_def hX.below (n + 1) _ os rfl [] rfl]
  have h2 : t.wishes.length ≤ 1000000 := by omega
  have c1 := fun z => w_comes hX.comes n c z a os hl
  simp [Lb.d_wishes_below, runF_fin, Tru.d, turnC, fixC, Wish.d, h2, c1, belowC]
theorem w_span_of (hF : X.fd "span_of" = some Lb.d_span_of) (n : Nat) (ws : List Wish) (os : List O) (hl : ws.length ≤ 1000) (hn : ws ≠ []) : call X (n + 1) "span_of" [.bl (ws.map Wish.d)] [] [] os = .ok (.pl (.tuple [.int (lo ws), .int (hi ws)])) [.un] os := by
  rw [call_def hF n _ os rfl [] rfl]
  have h2 : ws.length ≤ 1000000 := by omega
  have m1 : minI (ws.map Wish.s) = some (lo ws) := minI_some (by simpa using hn)
  have m2 : maxI (ws.map Wish.u) = some (hi ws) := maxI_some (by simpa using hn)
  simp [Lb.d_span_of, runF_fin, turnC, fixC, Wish.d, h2, m1, m2]
theorem w_late (hX : HasLate X) (n : Nat) (t : Tru) (c : Cas) (a : Str) (os : List O) (hl : c.length ≤ 1000) (hw : t.wishes.length ≤ 1000) (ht : t.ties.length ≤ 1000) (hk : a ∈ keys c) (hn : belowC t c a ≠ []) :
    call X (n + 3) "is_late" [.pl t.d, .bd (c.map kvS), .pl (.str a)] [] [] os = .ok (.pl (.bool (lateB t c a))) [.un, .un, .un] os := by
  rw [call_def hX.late (n + 2) _ os rfl [] rfl]
  obtain ⟨g, hg⟩ := giv_get hk
  have c1 := w_wbelow hX n t c a os hl hw
  have c2 := w_span_of hX.span (n + 1) (belowC t c a) os (Nat.le_trans (List.length_filter_le _ _) hw) hn
  have c3 := w_is_spanned hX.spanned (n + 1) t g a (lo (belowC t c a)) (hi (belowC t c a)) os ht
  simp [Tru.d] at c1 c3
  simp [Lb.d_is_late, runF_fin, Tru.d, hg, c1, c2, c3, lateB]
theorem w_next_actor (hF : X.fd "next_actor" = some Lb.d_next_actor) (n : Nat) (t : Tru) (c : Cas) (os : List O) (hl : c.length ≤ 1000) (hw : t.wishes.length ≤ 1000) :
    call X (n + 1) "next_actor" [.pl t.d, .bd (c.map kvS)] [] [] os = .ok (.pl (optS (nextF t c))) [.un, .un] os := by
  rw [call_def hF n _ os rfl [] rfl]
  have h1 : c.length ≤ 1000000 := by omega
  have h2 : t.wishes.length ≤ 1000000 := by omega
  have h3 : t.wishes.length + c.length ≤ 1000000 := by omega
  have bv : biVals [T.bd (c.map kvS)] = some (.ol (c.map fun p => .str p.2)) := by simp [biVals]
  simp [Lb.d_next_actor, runF_fin, Tru.d, turnC, fixC, Wish.d, h1, h2, h3, bv]
  generalize hF : forL _ _ _ _ _ = F
  let st : T → S := fun x => ⟨[.pl t.d, .bd (c.map kvS), .pl (.str t.o), .pl (.tuple (t.ties.map Tie.d)), .pl (.tuple (t.wishes.map Wish.d)), x, .un], os⟩
  obtain ⟨j', e⟩ := forL_find (fix := []) (g := .nm 5) (body := exCs ⟨call X n, X.con, X.sub, X.xf, X.fuel, []⟩ (bodyC (Lb.d_next_actor.body.getD 1 .pas))) (enc := PyData.str) st (fun z => !decide (z = t.o) && !decide (z ∈ keys c)) (fun z => .pl (.str z)) (l := t.wishes.map Wish.a ++ c.map (·.2)) (fun z hz j => by
    refine ⟨st (.pl (.str z)), .pl (.str z), by simp [st], ?_⟩
    by_cases a1 : z = t.o <;> by_cases a2 : z ∈ keys c <;> simp [bodyC, Lb.d_next_actor, st, Tru.d, a1, a2]) .un
  have em : (t.wishes.map Wish.a ++ c.map (·.2)).map PyData.str = List.map (fun z => PyData.str z.a) t.wishes ++ List.map (fun z => PyData.str z.snd) c := by simp; rfl
  rw [em] at e
  have := hF.symm.trans e
  subst this
  unfold nextF
  cases hq : (t.wishes.map Wish.a ++ c.map (·.2)).find? (fun z => !decide (z = t.o) && !decide (z ∈ keys c)) <;> simp [ended, optS, st]
theorem firsts_f {α : Type} (f : α → Str) (l : List α) : firsts [] (l.map fun x => .str (f x)) = (uniqS [] (l.map f)).map .str := by
  have := firsts_strs (l.map f) []
  rwa [List.map_map] at this
theorem w_givers (hF : X.fd "givers_of" = some Lb.d_givers_of) (n : Nat) (t : Tru) (a : Str) (os : List O) (hl : t.ties.length ≤ 4000) : call X (n + 1) "givers_of" [.pl t.d, .pl (.str a)] [] [] os = .ok (.ol ((tied t a).map .str)) [.un, .un] os := by
  rw [call_def hF n _ os rfl [] rfl]
  have hl3 : t.ties.length ≤ 1000000 := by omega
  simp (maxDischargeDepth := 9) [Lb.d_givers_of, runF_fin, Tru.d, turnC, fixC, Tie.d, hl, hl3, firsts_f]
  rfl
end
end Pl
end PartPlT
section PartPlU
set_option autoImplicit false
set_option linter.all false
set_option maxRecDepth 100000
set_option maxHeartbeats 4000000
/-! PlU: the law's looks at cases that are lists; trees; whether they hold. -/
namespace Pl
open EV PySem
theorem biDict_v {t : T} {c : Cas} (hv : t.vw = some (.list (c.map kvT))) (h : (keys c).Nodup) : biDict [t] = some (.od (c.map kvS)) := by
  have := biDict_kv h
  simp only [biDict, T.vw] at this
  have e : biDict [t] = (match t.vw with
    | some (.dict kvs) => some (.od kvs)
    | some (.list ds) => (pairsD ds).map fun ps => .od (dmake [] ps)
    | _ => none) := rfl
  rw [e, hv]
  exact this
section
variable {X : Tx}
theorem w_l_comes_loop (n : Nat) (c : Cas) (x a : Str) (os : List O) : ∀ (m : Nat) (j : Int) (h : Option Str) (x4 : T),
    ∃ h' x4', forL [] (.nm 5) (exCs ⟨call X n, X.con, X.sub, X.xf, X.fuel, []⟩ (bodyC (Lb.d_law_comes.body.getD 2 .pas))) (rangeD j m) ⟨[.bl (c.map kvT), .pl (.str x), .pl (.str a), .od (c.map kvS), .pl (optS h), x4], os⟩ =
      if comesF c a m h then .ok (.rt (.pl (.bool true))) ⟨[.bl (c.map kvT), .pl (.str x), .pl (.str a), .od (c.map kvS), .pl (optS h'), x4'], os⟩ else .ok .nx ⟨[.bl (c.map kvT), .pl (.str x), .pl (.str a), .od (c.map kvS), .pl (optS h'), x4'], os⟩
  | 0, j, h, x4 => ⟨h, x4, rfl⟩
  | m + 1, j, h, x4 => by
    by_cases e : h = some a
    · refine ⟨h, .pl (.int j), ?_⟩
      rw [rangeD, forL]
      simp [bodyC, Lb.d_law_comes, comesF, e]
    · obtain ⟨h', x4', q⟩ := w_l_comes_loop n c x a os m (j + 1) (h.bind (giv c)) (.pl (.int j))
      refine ⟨h', x4', ?_⟩
      have g := get_optS (t := .od (c.map kvS)) (c := c) (by simp) h
      rw [rangeD, forL]
      simp [bodyC, Lb.d_law_comes] at q
      simp [bodyC, Lb.d_law_comes, comesF, e, g]
      exact q
theorem w_l_comes (hF : X.fd "_law_comes" = some Lb.d_law_comes) (n : Nat) (c : Cas) (x a : Str) (os : List O) (hl : c.length ≤ 1000) (nd : (keys c).Nodup) : call X (n + 1) "_law_comes" [.bl (c.map kvT), .pl (.str x), .pl (.str a)] [] [] os = .ok (.pl (.bool (comesB c x a))) [.un, .un, .un] os := by
  rw [call_def hF n _ os rfl [] rfl, runF_fin]
  obtain ⟨h', x4', q⟩ := w_l_comes_loop (X := X) n c x a os (c.length + 1) 0 (some x) .un
  let s1 : S := ⟨[.bl (c.map kvT), .pl (.str x), .pl (.str a), .od (c.map kvS), .pl (.str x), .un], os⟩
  have bd := biDict_v (t := .bl (c.map kvT)) (c := c) (by simp) nd
  have e0 : ∀ m : Int, m = (c.length : Int) + 1 → ev ⟨call X n, X.con, X.sub, X.xf, X.fuel, []⟩ (.bin .Add (.bi "len" [.var 0]) (.lit (.int 1))) .e s1 = .ok (.pl (.int m)) s1 := fun m hm => by
    simp [s1, hm]
  have ei : evI ⟨call X n, X.con, X.sub, X.xf, X.fuel, []⟩ (.rng (.bin .Add (.bi "len" [.var 0]) (.lit (.int 1)))) s1 = .ok (rangeD 0 (c.length + 1), none) s1 := by
    have := evI_rng_of (e0 _ rfl) (by omega)
    rw [this]
    rfl
  have main : exCs ⟨call X n, X.con, X.sub, X.xf, X.fuel, []⟩ Lb.d_law_comes.body ⟨[.bl (c.map kvT), .pl (.str x), .pl (.str a), .un, .un, .un], os⟩ = .ok (.rt (.pl (.bool (comesB c x a)))) ⟨[.bl (c.map kvT), .pl (.str x), .pl (.str a), .od (c.map kvS), .pl (optS h'), x4'], os⟩ := by
    unfold Lb.d_law_comes
    rw [exCs_nx (s' := ⟨[.bl (c.map kvT), .pl (.str x), .pl (.str a), .od (c.map kvS), .un, .un], os⟩) (by simp [bd])]
    rw [exCs_nx (s' := s1) (by simp [s1])]
    unfold comesB
    cases hc : comesF c a (c.length + 1) (some x) with
    | true =>
      rw [hc] at q
      exact exCs_rt (for_of ei q)
    | false =>
      rw [hc] at q
      exact (exCs_nx (for_of ei q)).trans (by simp)
  show fin _ (exCs ⟨call X n, X.con, X.sub, X.xf, X.fuel, []⟩ Lb.d_law_comes.body ⟨[.bl (c.map kvT), .pl (.str x), .pl (.str a), .un, .un, .un], os⟩) = _
  rw [main]
  simp
structure HasLLate (X : Tx) : Prop where
  comes : X.fd "_law_comes" = some Lb.d_law_comes
  lies : X.fd "_law_lies" = some Lb.d_law_lies
  late : X.fd "_law_late" = some Lb.d_law_late
theorem w_l_late (hX : HasLLate X) (n : Nat) (t : Tru) (c : Cas) (a : Str) (os : List O) (hl : c.length ≤ 1000) (hw : t.wishes.length ≤ 1000) (ht : t.ties.length ≤ 1000) (nd : (keys c).Nodup) (hk : a ∈ keys c) (hn : belowC t c a ≠ []) :
    call X (n + 2) "_law_late" [.pl t.d, .bl (c.map kvT), .pl (.str a)] [] [] os = .ok (.pl (.bool (lateB t c a))) [.un, .un, .un] os := by
  rw [call_def hX.late (n + 1) _ os rfl [] rfl]
  obtain ⟨g, hg⟩ := giv_get hk
  have h1 : c.length ≤ 1000000 := by omega
  have h2 : t.wishes.length ≤ 1000000 := by omega
  have h3 : (belowC t c a).length ≤ 1000000 := Nat.le_trans (List.length_filter_le _ _) h2
  have c1 := fun z => w_l_comes hX.comes n c z a os hl nd
  have c3 := w_l_lies hX.lies n t g a (lo (belowC t c a)) (hi (belowC t c a)) os ht
  have bd := biDict_v (t := .bl (c.map kvT)) (c := c) (by simp) nd
  have m1 : minI ((belowC t c a).map Wish.s) = some (lo (belowC t c a)) := minI_some (by simpa using hn)
  have m2 : maxI ((belowC t c a).map Wish.u) = some (hi (belowC t c a)) := maxI_some (by simpa using hn)
  simp [Tru.d] at c3
  simp (maxDischargeDepth := 9) [Lb.d_law_late, runF_fin, Tru.d, turnC, fixC, kvT, Wish.d, h1, h2, h3, c1, bd, hg, m1, m2, c3, lateB]
  generalize hp : List.filter _ t.wishes = L
  have : L = belowC t c a := hp.symm
  subst this
  simp (maxDischargeDepth := 9) [turnC, fixC, h1, h2, h3, bd, hg, m1, m2, c3]
end
end Pl
end PartPlU
section PartPlV
set_option autoImplicit false
set_option linter.all false
set_option maxRecDepth 100000
set_option maxHeartbeats 4000000
/-! PlV: trees; cases that are grown one by one. -/
namespace Pl
open EV PySem
mutual
inductive Tre where
  | many | bar (w a : Str) | node (a : Str) (rs : Rws)
inductive Rws where
  | nil | cons (g : Str) (x : Tre) (r : Rws)
end
mutual
def Tre.d : Tre → D
  | .many => .tuple [.str "many"]
  | .bar w a => .tuple [.str w, .str a]
  | .node a rs => .tuple [.str "giver", .str a, .tuple rs.ds]
def Rws.ds : Rws → List D
  | .nil => []
  | .cons g x r => .tuple [.str g, x.d] :: r.ds
end
def Rws.list : Rws → List (Str × Tre)
  | .nil => []
  | .cons g x r => (g, x) :: r.list
def Rws.of : List (Str × Tre) → Rws
  | [] => .nil
  | p :: r => .cons p.1 p.2 (Rws.of r)
@[simp] theorem Rws.of_list : ∀ l : List (Str × Tre), (Rws.of l).list = l
  | [] => rfl
  | p :: r => by rw [Rws.of, Rws.list, Rws.of_list r]
@[simp] theorem Rws.list_of : ∀ r : Rws, Rws.of r.list = r
  | .nil => rfl
  | .cons g x r => by rw [Rws.list, Rws.of, Rws.list_of r]
def rwD (p : Str × Tre) : D := .tuple [.str p.1, p.2.d]
theorem Rws.ds_eq : ∀ r : Rws, r.ds = r.list.map rwD
  | .nil => rfl
  | .cons g x r => by rw [Rws.ds, Rws.list, List.map_cons, Rws.ds_eq r]; rfl
mutual
def Tre.dep : Tre → Nat
  | .many => 0
  | .bar _ _ => 0
  | .node _ rs => rs.dep + 1
def Rws.dep : Rws → Nat
  | .nil => 0
  | .cons _ x r => max x.dep r.dep
end
theorem Rws.dep_mem : ∀ {r : Rws} {p : Str × Tre}, p ∈ r.list → p.2.dep ≤ r.dep
  | .nil, p, h => by cases h
  | .cons g x r, p, h => by
    rw [Rws.dep]
    rcases List.mem_cons.mp h with rfl | h
    · exact Nat.le_max_left _ _
    · exact Nat.le_trans (Rws.dep_mem h) (Nat.le_max_right _ _)
mutual
theorem Tre.dpt : ∀ x : Tre, EV.dpt (3 * x.dep + 1) x.d
  | .many => by rw [Tre.d]; exact (dpt_tup (n := 0) fun d hd => by simp at hd; subst hd; exact dpt_str _).mono (by omega)
  | .bar w a => by rw [Tre.d]; exact (dpt_tup (n := 0) fun d hd => by simp at hd; rcases hd with rfl | rfl <;> exact dpt_str _).mono (by omega)
  | .node a rs => by
    rw [Tre.d, Tre.dep]
    refine (dpt_tup (n := 3 * rs.dep + 3) fun d hd => ?_).mono (by omega)
    simp at hd
    rcases hd with rfl | rfl | rfl
    · exact (dpt_str _).mono (by omega)
    · exact (dpt_str _).mono (by omega)
    · exact dpt_tup fun d hd => Rws.dpt rs d hd
theorem Rws.dpt : ∀ (r : Rws) (d : D), d ∈ r.ds → EV.dpt (3 * r.dep + 2) d
  | .nil, d, h => by rw [Rws.ds] at h; cases h
  | .cons g x r, d, h => by
    rw [Rws.ds] at h
    rw [Rws.dep]
    rcases List.mem_cons.mp h with rfl | h
    · refine (dpt_tup (n := 3 * x.dep + 1) fun d hd => ?_).mono (by have := Nat.le_max_left x.dep r.dep; omega)
      simp at hd
      rcases hd with rfl | rfl
      · exact (dpt_str _).mono (by omega)
      · exact Tre.dpt x
    · exact (Rws.dpt r d h).mono (by have := Nat.le_max_right x.dep r.dep; omega)
end
def Tre.isMany : Tre → Bool
  | .many => true
  | _ => false
theorem eqD_many {x : Tre} (h : x.dep ≤ 12) : eqD x.d (.tuple [.str "many"]) = some x.isMany := by
  have h1 := (Tre.dpt x).ok (by omega)
  rw [eqD_ok h1 (by decide +kernel)]
  cases x with
  | many => simp [Tre.d, Tre.isMany]
  | bar w a => simp [Tre.d, Tre.isMany]
  | node a rs => simp [Tre.d, Tre.isMany]
/-! ### cases grown -/
inductive Grown (t : Tru) : Cas → Prop
  | nil : Grown t []
  | snoc {c : Cas} {z : Str} (g : Str) : Grown t c → nextF t c = some z → Grown t (c ++ [(z, g)])
def itr (c : Cas) : Nat → Option Str → Option Str
  | 0, h => h
  | n + 1, h => itr c n (h.bind (giv c))
theorem itr_none (c : Cas) : ∀ n, itr c n none = none
  | 0 => rfl
  | n + 1 => itr_none c n
theorem itr_succ (c : Cas) : ∀ (n : Nat) (h : Option Str), itr c (n + 1) h = (itr c n h).bind (giv c)
  | 0, h => rfl
  | n + 1, h => itr_succ c n (h.bind (giv c))
theorem comesF_iff {c : Cas} {a : Str} : ∀ {n : Nat} {h : Option Str}, comesF c a n h = true ↔ ∃ k, k < n ∧ itr c k h = some a
  | 0, h => by simp [comesF]
  | n + 1, h => by
    rw [comesF, Bool.or_eq_true, comesF_iff, decide_eq_true_eq]
    constructor
    · rintro (e | ⟨k, hk, e⟩)
      · exact ⟨0, by omega, e⟩
      · exact ⟨k + 1, by omega, e⟩
    · rintro ⟨k, hk, e⟩
      cases k with
      | zero => exact .inl e
      | succ k => exact .inr ⟨k, by omega, e⟩
theorem keys_snoc (c : Cas) (z g : Str) : keys (c ++ [(z, g)]) = keys c ++ [z] := by unfold keys; rw [List.map_append]; rfl
theorem giv_snoc {c : Cas} {z g x y : Str} (h : giv c x = some y) : giv (c ++ [(z, g)]) x = some y := by
  unfold giv at h ⊢
  rw [List.lookup_append, h]; rfl
theorem giv_snoc_new {c : Cas} {z g : Str} (h : z ∉ keys c) : giv (c ++ [(z, g)]) z = some g := by
  have h := giv_none.mpr h
  unfold giv at h ⊢
  rw [List.lookup_append, h]
  simp
theorem itr_snoc {c : Cas} {z g : Str} : ∀ {k : Nat} {h : Option Str} {y : Str}, itr c k h = some y → itr (c ++ [(z, g)]) k h = some y
  | 0, h, y, e => e
  | k + 1, none, y, e => by rw [itr_none] at e; cases e
  | k + 1, some x, y, e => by
    rw [itr] at e ⊢
    cases hx : giv c x with
    | none =>
      have : (some x).bind (giv c) = none := hx
      rw [this, itr_none] at e; cases e
    | some x1 =>
      have e1 : (some x).bind (giv c) = some x1 := hx
      have e2 : (some x).bind (giv (c ++ [(z, g)])) = some x1 := giv_snoc hx
      rw [e1] at e
      rw [e2]
      exact itr_snoc e
theorem Grown.nd {t : Tru} {c : Cas} (h : Grown t c) : (keys c).Nodup := by
  induction h with
  | nil => exact List.nodup_nil
  | snoc g _ hn ih =>
    rw [keys_snoc]
    exact List.nodup_append.mpr ⟨ih, by simp, fun x hx y hy => by rw [List.mem_singleton.mp hy]; exact fun e => (next_new hn).2.1 (e ▸ hx)⟩
/-- each settled one is come to from a wish -/
theorem Grown.reach {t : Tru} {c : Cas} (h : Grown t c) : ∀ a ∈ keys c, ∃ w ∈ t.wishes, w.a ∈ keys c ∧ ∃ k, k ≤ c.length ∧ itr c k (some w.a) = some a := by
  induction h with
  | nil => exact fun a h => absurd h List.not_mem_nil
  | @snoc c z g hc hn ih =>
    obtain ⟨_, hz, hw⟩ := next_new hn
    intro a ha
    rw [keys_snoc] at ha
    rcases List.mem_append.mp ha with ha | ha
    · obtain ⟨w, h1, h2, k, h3, h4⟩ := ih a ha
      exact ⟨w, h1, by rw [keys_snoc]; exact List.mem_append_left _ h2, k, by simp; omega, itr_snoc h4⟩
    · rw [List.mem_singleton.mp ha]
      rcases hw with ⟨w, h1, rfl⟩ | ⟨p, hp, rfl⟩
      · exact ⟨w, h1, by rw [keys_snoc]; simp, 0, by omega, rfl⟩
      · obtain ⟨w, h1, h2, k, h3, h4⟩ := ih p.1 (List.mem_map.mpr ⟨p, hp, rfl⟩)
        refine ⟨w, h1, by rw [keys_snoc]; exact List.mem_append_left _ h2, k + 1, by simp; omega, ?_⟩
        rw [itr_succ, itr_snoc h4]
        exact giv_snoc (giv_of hc.nd hp)
theorem Grown.borne {t : Tru} {c : Cas} (h : Grown t c) {a : Str} (ha : a ∈ keys c) : belowC t c a ≠ [] := by
  obtain ⟨w, h1, h2, k, h3, h4⟩ := h.reach a ha
  have : w ∈ belowC t c a := List.mem_filter.mpr ⟨h1, by
    have : comesB c w.a a = true := comesF_iff.mpr ⟨k, by omega, h4⟩
    simp [h2, this]⟩
  exact List.ne_nil_of_mem this
/-! ### whether a tree holds -/
def barB (t : Tru) (c : Cas) (w a : Str) : Bool := decide (a ∈ keys c) && (if w = "ring" then comesB c ((giv c a).getD t.o) a else decide (w = "time") && lateB t c a)
def manyB (t : Tru) (m : Option Int) (c : Cas) : Bool := (nextF t c).isSome && (match m with
  | none => false
  | some k => decide (k ≤ c.length))
mutual
def holdsT (t : Tru) (m : Option Int) (c : Cas) : Tre → Bool
  | .many => manyB t m c
  | .bar w a => barB t c w a
  | .node a rs => decide (nextF t c = some a) && decide (rs.list.map (·.1) = tied t a) && holdsR t m c a rs
def holdsR (t : Tru) (m : Option Int) (c : Cas) (a : Str) : Rws → Bool
  | .nil => true
  | .cons g x r => holdsT t m (c ++ [(a, g)]) x && holdsR t m c a r
end
theorem holdsR_all (t : Tru) (m : Option Int) (c : Cas) (a : Str) : ∀ r : Rws, holdsR t m c a r = r.list.all fun p => holdsT t m (c ++ [(a, p.1)]) p.2
  | .nil => rfl
  | .cons g x r => by rw [holdsR, Rws.list, List.all_cons, holdsR_all t m c a r]
def optI : Option Int → D
  | none => .none
  | some k => .int k
structure HasHolds (X : Tx) : Prop extends HasLate X where
  next : X.fd "next_actor" = some Lb.d_next_actor
  givers : X.fd "givers_of" = some Lb.d_givers_of
  row : X.fd "is_row_of" = some Lb.d_is_row_of
  bar : X.fd "is_bar" = some Lb.d_is_bar
  holds : X.fd "holds_at" = some Lb.d_holds_at
structure TSm (t : Tru) : Prop where
  tl : t.ties.length ≤ 1000
  wl : t.wishes.length ≤ 1000
section
variable {X : Tx} (hX : HasHolds X)
include hX
theorem w_is_bar (n : Nat) (t : Tru) (ht : TSm t) (c : Cas) (hc : Grown t c) (w a : Str) (os : List O) (hl : c.length ≤ 900) : call X (n + 4) "is_bar" [.pl t.d, .bd (c.map kvS), .pl (.tuple [.str w, .str a])] [] [] os = .ok (.pl (.bool (barB t c w a))) [.un, .un, .un] os := by
  rw [call_def hX.bar (n + 3) _ os rfl [] rfl]
  by_cases hk : a ∈ keys c
  · obtain ⟨g, hg⟩ := giv_get hk
    have c1 := w_comes hX.comes (n + 2) c g a os (by omega)
    have c2 := w_late hX.toHasLate n t c a os (by omega) ht.wl ht.tl hk (hc.borne hk)
    simp [Tru.d] at c2
    by_cases hr : w = "ring"
    · simp [Lb.d_is_bar, runF_fin, Tru.d, typeIs, hk, hr, hg, c1, barB]
    · by_cases htm : w = "time"
      · simp [Lb.d_is_bar, runF_fin, Tru.d, typeIs, hk, htm, hg, c2, barB]
      · simp [Lb.d_is_bar, runF_fin, Tru.d, typeIs, hk, hr, htm, hg, barB]
  · simp [Lb.d_is_bar, runF_fin, Tru.d, typeIs, hk, barB]
end
end Pl
end PartPlV
section PartPlW
set_option autoImplicit false
set_option linter.all false
set_option maxRecDepth 100000
set_option maxHeartbeats 4000000
/-! PlW: holds_at, _law_holds of typed trees. -/
namespace Pl
open EV PySem
theorem dput_new {c : Cas} {z g : Str} (h : z ∉ keys c) : dput (c.map kvS) (.str z) (.str g) = (c ++ [(z, g)]).map kvS := by
  unfold dput dhas
  rw [dget_kv, giv_none.mpr h]
  simp [kvS]
theorem eqD_strs2 (l m : List Str) : eqD (.list (l.map .str)) (.list (m.map .str)) = some (decide (l = m)) := eqD_strs l m
theorem eqD_strs_rw (l : List (Str × Tre)) (m : List Str) : eqD (.list (l.map fun p => .str p.1)) (.list (m.map .str)) = some (decide (l.map (·.1) = m)) := by
  have := eqD_strs (l.map (·.1)) m
  rwa [List.map_map] at this
theorem fine_tre (x : Tre) : fineD x.d = true := by cases x <;> simp [Tre.d, fineD]
theorem bor_tre (x : Tre) : (T.pl x.d).bor = T.pl x.d := by cases x <;> simp [Tre.d]
@[simp] theorem bor_optI (m : Option Int) : (T.pl (optI m)).bor = T.pl (optI m) := by cases m <;> simp [optI]
@[simp] theorem bor_optS (m : Option Str) : (T.pl (optS m)).bor = T.pl (optS m) := by cases m <;> simp
@[simp] theorem dmake_nil (kvs : List (D × D)) : dmake kvs [] = kvs := by rw [dmake]
theorem inD2 (x a b : Str) : inD (.str x) (.list [.str a, .str b]) = some (decide (x = a ∨ x = b)) := by
  have := inD_strs x [a, b]
  simp at this
  rw [this]
  simp
theorem fine_rw (p : Str × Tre) : fineD (rwD p) = true := by simp [rwD, fineD]
mutual
def Tre.thin : Tre → Bool
  | .many => true
  | .bar w _ => decide (w = "ring" ∨ w = "time")
  | .node _ rs => decide (rs.list.length ≤ 1000) && rs.thin
def Rws.thin : Rws → Bool
  | .nil => true
  | .cons _ x r => x.thin && r.thin
end
theorem Rws.thin_mem : ∀ {r : Rws} {p : Str × Tre}, r.thin = true → p ∈ r.list → p.2.thin = true
  | .nil, p, h, hm => by cases hm
  | .cons g x r, p, h, hm => by
    rw [Rws.thin, Bool.and_eq_true] at h
    rcases List.mem_cons.mp hm with rfl | hm
    · exact h.1
    · exact Rws.thin_mem h.2 hm
section
variable {X : Tx} (hX : HasHolds X)
include hX
theorem w_holds (t : Tru) (ht : TSm t) (m : Option Int) (os : List O) : ∀ (d : Nat) (n : Nat) (x : Tre) (c : Cas), x.dep ≤ d → x.thin = true → Grown t c → c.length + d ≤ 800 → d ≤ 12 →
    call X (n + 5 + d) "holds_at" [.pl t.d, .pl (optI m), .bd (c.map kvS), .pl x.d] [] [] os = .ok (.pl (.bool (holdsT t m c x))) [.un, .un, .un, .un] os
  | d, n, .many, c, hd, hth, hc, hl, h12 => by
    obtain ⟨k, hk⟩ : ∃ k, n + 5 + d = k + 5 := ⟨n + d, by omega⟩
    rw [hk, call_def hX.holds (k + 4) _ os rfl [] rfl]
    have c1 := w_next_actor hX.next (k + 3) t c os (by omega) ht.wl
    have c2 := eqD_many (x := .many) (by simp [Tre.dep])
    simp [Tru.d] at c1
    simp [Tre.d] at c2
    cases m with
    | none => cases hn : nextF t c <;> rw [hn] at c1 <;> simp [Lb.d_holds_at, runF_fin, Tru.d, Tre.d, c1, optI, holdsT, manyB, hn]
    | some k => cases hn : nextF t c <;> rw [hn] at c1 <;> simp [Lb.d_holds_at, runF_fin, Tru.d, Tre.d, c1, optI, holdsT, manyB, hn]
  | d, n, .bar w a, c, hd, hth, hc, hl, h12 => by
    obtain ⟨k, hk⟩ : ∃ k, n + 5 + d = k + 5 := ⟨n + d, by omega⟩
    rw [hk, call_def hX.holds (k + 4) _ os rfl [] rfl]
    have c1 := w_next_actor hX.next (k + 3) t c os (by omega) ht.wl
    have c2 := eqD_many (x := .bar w a) (by simp [Tre.dep])
    have c3 := w_is_row_of hX.row (k + 3) 2 (Tre.bar w a).d os (fine_tre _)
    have c4 := w_is_bar hX k t ht c hc w a os (by omega)
    simp [Tru.d] at c1 c4
    simp [Tre.d, Tre.isMany, isRow] at c2 c3
    simp [Lb.d_holds_at, runF_fin, Tru.d, Tre.d, c1, c2, c3, c4, holdsT]
  | 0, n, .node a rs, c, hd, hth, hc, hl, h12 => by simp [Tre.dep] at hd
  | d + 1, n, .node a rs, c, hd, hth, hc, hl, h12 => by
    rw [show n + 5 + (d + 1) = (n + 5 + d) + 1 by omega, call_def hX.holds (n + 5 + d) _ os rfl [] rfl]
    obtain ⟨k, hk⟩ : ∃ k, n + 5 + d = k + 5 := ⟨n + d, by omega⟩
    have hds : rs.dep ≤ d := by simp [Tre.dep] at hd; exact hd
    have c1 := w_next_actor hX.next (k + 4) t c os (by omega) ht.wl
    have c2 := eqD_many (x := .node a rs) (by simp [Tre.dep]; omega)
    have c3 := w_is_row_of hX.row (k + 4) 2 (Tre.node a rs).d os (fine_tre _)
    have c4 := w_is_row_of hX.row (k + 4) 3 (Tre.node a rs).d os (fine_tre _)
    have c5 : ∀ p : Str × Tre, call X (k + 5) "is_row_of" [.pl (.int 2), .pl (.tuple [.str p.1, p.2.d])] [] [] os = .ok (.pl (.bool true)) [.un, .un] os := fun p => by
      have := w_is_row_of hX.row (k + 4) 2 (rwD p) os (fine_rw _)
      simpa [rwD, isRow] using this
    have c6 := w_givers hX.givers (k + 4) t a os (by have := ht.tl; omega)
    rw [← hk] at c1 c3 c4 c5 c6
    simp [Tru.d] at c1 c6
    simp [Tre.d, Tre.isMany, isRow, Rws.ds_eq] at c2 c3 c4
    cases hn : nextF t c with
    | none =>
      rw [hn] at c1
      simp [Lb.d_holds_at, runF_fin, Tru.d, Tre.d, Rws.ds_eq, c1, c2, c3, c4, holdsT, hn]
    | some z =>
      rw [hn] at c1
      by_cases hz : a = z
      · subst hz
        obtain ⟨_, hnew, _⟩ := next_new hn
        have hrl : rs.list.length ≤ 1000000 := by simp [Tre.thin] at hth; omega
        simp [Lb.d_holds_at, runF_fin, Tru.d, Tre.d, Rws.ds_eq, c1, c2, c3, c4, holdsT, hn, typeIs, turnC, fixC, rwD, c5, hrl, c6]
        by_cases hg : rs.list.map (·.1) = tied t a
        · rw [if_pos hg]
          generalize hF : forL _ _ _ _ _ = F
          let st : T × T × T → S := fun x => ⟨[.pl t.d, .pl (optI m), .bd (c.map kvS), .pl (.tuple [.str "giver", .str a, .tuple (rs.list.map rwD)]), .pl (.str a), .pl (.tuple (rs.list.map rwD)), x.1, x.2.1, x.2.2, .un], os⟩
          obtain ⟨j', e⟩ := forL_all2 (fix := []) (g := .tp [.nm 6, .nm 7]) (body := exCs ⟨call X (n + 5 + d), X.con, X.sub, X.xf, X.fuel, []⟩ (bodyC (Lb.d_holds_at.body.getD 7 .pas))) (enc := rwD) st (fun p => holdsT t m (c ++ [(a, p.1)]) p.2) (.pl (.bool false)) (l := rs.list) (fun p hp j => by
            obtain ⟨x6, x7, x8⟩ := j
            have hth2 : p.2.thin = true := Rws.thin_mem (by simp [Tre.thin] at hth; exact hth.2) hp
            have ih := w_holds t ht m os d n p.2 (c ++ [(a, p.1)]) (Nat.le_trans (Rws.dep_mem hp) hds) hth2 (hc.snoc p.1 hn) (by simp; omega) (by omega)
            have dp := dput_new (g := p.1) hnew
            have hcl : c.length ≤ 1000000 := by omega
            have bd : biDict [T.bd (c.map kvS)] = some (.od (c.map kvS)) := by simp [biDict]
            refine ⟨st (.pl (.str p.1), .pl p.2.d, x8), (.pl (.str p.1), .pl p.2.d, .od ((c ++ [(a, p.1)]).map kvS)), by simp [st, rwD], ?_⟩
            simp [Tru.d] at ih dp
            simp [st, bodyC, Lb.d_holds_at, Tru.d, dp, hcl, bd, ih]
            cases holdsT t m (c ++ [(a, p.1)]) p.2 <;> simp) (.un, .un, .un)
          have := hF.symm.trans e
          subst this
          rw [holdsR_all]
          cases hq : rs.list.all fun p => holdsT t m (c ++ [(a, p.1)]) p.2 <;> simp [ended, st, hg]
        · rw [if_neg hg]
          simp [hg]
      · have hz' : ¬ z = a := fun e => hz e.symm
        simp [Lb.d_holds_at, runF_fin, Tru.d, Tre.d, Rws.ds_eq, c1, c2, c3, c4, holdsT, hn, hz, hz']
theorem w_tree_holds (hT : X.fd "tree_holds" = some Lb.d_tree_holds) (n d : Nat) (t : Tru) (ht : TSm t) (m : Option Int) (x : Tre) (os : List O) (hd : x.dep ≤ d) (hth : x.thin = true) (h12 : d ≤ 12) :
    call X (n + 6 + d) "tree_holds" [.pl t.d, .pl (optI m), .pl x.d] [] [] os = .ok (.pl (.bool (holdsT t m [] x))) [.un, .un, .un] os := by
  rw [show n + 6 + d = (n + 5 + d) + 1 by omega, call_def hT (n + 5 + d) _ os rfl [] rfl]
  have := w_holds hX t ht m os d n x [] hd hth .nil (by simp; omega) h12
  simp [Tru.d] at this
  simp [Lb.d_tree_holds, runF_fin, Tru.d, this]
end
/-! ### the law's own -/
structure HasLHolds (X : Tx) : Prop extends HasLLate X where
  next : X.fd "_law_next" = some Lb.d_law_next
  tied : X.fd "_law_tied" = some Lb.d_law_tied
  holds : X.fd "_law_holds" = some Lb.d_law_holds
section
variable {X : Tx} (hX : HasLHolds X)
include hX
theorem w_l_holds (t : Tru) (ht : TSm t) (m : Option Int) (os : List O) : ∀ (d : Nat) (n : Nat) (x : Tre) (c : Cas), x.dep ≤ d → x.thin = true → Grown t c → c.length + d ≤ 800 → d ≤ 12 →
    call X (n + 5 + d) "_law_holds" [.pl t.d, .pl (optI m), .pl (.list (c.map kvT)), .pl x.d] [] [] os = .ok (.pl (.bool (holdsT t m c x))) [.un, .un, .un, .un] os
  | d, n, .many, c, hd, hth, hc, hl, h12 => by
    obtain ⟨k, hk⟩ : ∃ k, n + 5 + d = k + 5 := ⟨n + d, by omega⟩
    rw [hk, call_def hX.holds (k + 4) _ os rfl [] rfl]
    have c1 := w_next hX.next (k + 3) t c os (by omega) ht.wl
    simp [Tru.d] at c1
    cases m with
    | none => cases hn : nextF t c <;> rw [hn] at c1 <;> simp [Lb.d_law_holds, runF_fin, Tru.d, Tre.d, c1, optI, holdsT, manyB, hn, typeIs]
    | some k => cases hn : nextF t c <;> rw [hn] at c1 <;> simp [Lb.d_law_holds, runF_fin, Tru.d, Tre.d, c1, optI, holdsT, manyB, hn, typeIs]
  | d, n, .bar w a, c, hd, hth, hc, hl, h12 => by
    obtain ⟨k, hk⟩ : ∃ k, n + 5 + d = k + 5 := ⟨n + d, by omega⟩
    rw [hk, call_def hX.holds (k + 4) _ os rfl [] rfl]
    have h1 : c.length ≤ 1000000 := by omega
    have c1 := w_next hX.next (k + 3) t c os (by omega) ht.wl
    have bd := biDict_v (t := .pl (.list (c.map kvT))) (c := c) (by simp) hc.nd
    simp [Tru.d] at c1
    have hw : w = "ring" ∨ w = "time" := by simpa [Tre.thin] using hth
    by_cases hka : a ∈ keys c
    · obtain ⟨g, hg⟩ := giv_get hka
      have c3 := w_l_comes hX.comes (k + 3) c g a os (by omega) hc.nd
      have c4 := w_l_late hX.toHasLLate (k + 2) t c a os (by omega) ht.wl ht.tl hc.nd hka (hc.borne hka)
      simp [Tru.d] at c4
      rcases hw with rfl | rfl
      · simp [Lb.d_law_holds, runF_fin, Tru.d, Tre.d, c1, holdsT, barB, typeIs, turnC, fixC, kvT, h1, hka, bd, hg, c3, inD2]
      · simp [Lb.d_law_holds, runF_fin, Tru.d, Tre.d, c1, holdsT, barB, typeIs, turnC, fixC, kvT, h1, hka, bd, hg, c4, inD2]
    · rcases hw with rfl | rfl
      · simp [Lb.d_law_holds, runF_fin, Tru.d, Tre.d, c1, holdsT, barB, typeIs, turnC, fixC, kvT, h1, hka, inD2]
      · simp [Lb.d_law_holds, runF_fin, Tru.d, Tre.d, c1, holdsT, barB, typeIs, turnC, fixC, kvT, h1, hka, inD2]
  | 0, n, .node a rs, c, hd, hth, hc, hl, h12 => by simp [Tre.dep] at hd
  | d + 1, n, .node a rs, c, hd, hth, hc, hl, h12 => by
    rw [show n + 5 + (d + 1) = (n + 5 + d) + 1 by omega, call_def hX.holds (n + 5 + d) _ os rfl [] rfl]
    obtain ⟨k, hk⟩ : ∃ k, n + 5 + d = k + 5 := ⟨n + d, by omega⟩
    have hds : rs.dep ≤ d := by simp [Tre.dep] at hd; exact hd
    have c1 := w_next hX.next (k + 4) t c os (by omega) ht.wl
    have c2 := eqD_many (x := .node a rs) (by simp [Tre.dep]; omega)
    have c6 := w_tied hX.tied (k + 4) t a os (by have := ht.tl; omega)
    have c6 : call X (k + 4 + 1) "_law_tied" [.pl t.d, .pl (.str a)] [] [] os = .ok (.ol ((tied t a).map .str)) [.un, .un] os := c6
    have c7 : eqD (Tre.node a rs).d (.tuple []) = some false := by
      rw [eqD_ok ((Tre.dpt (.node a rs)).ok (by simp [Tre.dep]; omega)) (by decide +kernel)]
      simp [Tre.d]
    rw [← hk] at c1
    rw [show k + 4 + 1 = n + 5 + d by omega] at c6
    simp [Tru.d] at c1 c6
    simp [Tre.d, Tre.isMany, Rws.ds_eq] at c2 c7
    cases hn : nextF t c with
    | none =>
      rw [hn] at c1
      simp [Lb.d_law_holds, runF_fin, Tru.d, Tre.d, Rws.ds_eq, c1, c2, c7, holdsT, hn, typeIs, inD2]
    | some z =>
      rw [hn] at c1
      by_cases hz : a = z
      · subst hz
        have hrl : rs.list.length ≤ 1000000 := by simp [Tre.thin] at hth; omega
        simp [Lb.d_law_holds, runF_fin, Tru.d, Tre.d, Rws.ds_eq, c1, c2, c7, holdsT, hn, typeIs, inD2, turnC, fixC, rwD, hrl, c6]
        by_cases hg : rs.list.map (·.1) = tied t a
        · rw [if_pos hg]
          generalize hF : forL _ _ _ _ _ = F
          let st : T × T → S := fun x => ⟨[.pl t.d, .pl (optI m), .pl (.list (c.map kvT)), .pl (.tuple [.str "giver", .str a, .tuple (rs.list.map rwD)]), .pl (.str a), x.1, x.2, .un, .un], os⟩
          obtain ⟨j', e⟩ := forL_all2 (fix := []) (g := .tp [.nm 5, .nm 6]) (body := exCs ⟨call X (n + 5 + d), X.con, X.sub, X.xf, X.fuel, []⟩ (bodyC (Lb.d_law_holds.body.getD 6 .pas))) (enc := rwD) st (fun p => holdsT t m (c ++ [(a, p.1)]) p.2) (.pl (.bool false)) (l := rs.list) (fun p hp j => by
            obtain ⟨x5, x6⟩ := j
            have hth2 : p.2.thin = true := Rws.thin_mem (by simp [Tre.thin] at hth; exact hth.2) hp
            have ih := w_l_holds t ht m os d n p.2 (c ++ [(a, p.1)]) (Nat.le_trans (Rws.dep_mem hp) hds) hth2 (hc.snoc p.1 hn) (by simp; omega) (by omega)
            have hcl : c.length ≤ 999999 := by omega
            refine ⟨st (.pl (.str p.1), .pl p.2.d), (.pl (.str p.1), .pl p.2.d), by simp [st, rwD], ?_⟩
            simp [Tru.d, kvT] at ih
            simp [st, bodyC, Lb.d_law_holds, Tru.d, hcl, bor_tre, ih]
            cases holdsT t m (c ++ [(a, p.1)]) p.2 <;> simp) (.un, .un)
          have := hF.symm.trans e
          subst this
          rw [holdsR_all]
          cases hq : rs.list.all fun p => holdsT t m (c ++ [(a, p.1)]) p.2 <;> simp [ended, st, hg]
        · rw [if_neg hg]
          simp [hg]
      · have hz' : ¬ z = a := fun e => hz e.symm
        simp [Lb.d_law_holds, runF_fin, Tru.d, Tre.d, Rws.ds_eq, c1, c2, c7, holdsT, hn, hz, hz', typeIs, inD2]
end
end Pl
end PartPlW
section PartPlX
set_option autoImplicit false
set_option linter.all false
set_option maxRecDepth 100000
set_option maxHeartbeats 4000000
/-! PlX: trees that go through all cases. -/
namespace Pl
open EV PySem
/-- a tree that goes through all cases, each barred by any bar that is so -/
inductive GT (t : Tru) (m : Option Int) : Cas → Tre → Prop
  | many {c : Cas} : manyB t m c = true → GT t m c .many
  | bar {c : Cas} {w a : Str} : w = "ring" ∨ w = "time" → barB t c w a = true → GT t m c (.bar w a)
  | opn {c : Cas} {a : Str} : nextF t c = none → (∀ z ∈ keys c, barB t c "ring" z = false ∧ barB t c "time" z = false) → a ∈ keys c → GT t m c (.bar "time" a)
  | node {c : Cas} {z : Str} {rs : Rws} : nextF t c = some z → rs.list.map (·.1) = tied t z → (∀ p ∈ rs.list, GT t m (c ++ [(z, p.1)]) p.2) → GT t m c (.node z rs)
structure HasGrown (X : Tx) : Prop extends HasLHolds X, HasGen X where
  grown : X.fd "_law_grown" = some Lb.d_law_grown
def gB (b : Nat) (m : Nat) : Nat := (b + 1) ^ (m + 1)
theorem gB_step (b m : Nat) (hb : 1 ≤ b) : 2 + b * gB b m ≤ gB b (m + 1) := by
  unfold gB
  have h : 2 ≤ (b + 1) ^ (m + 1) := by
    calc 2 ≤ b + 1 := by omega
      _ = (b + 1) ^ 1 := by simp
      _ ≤ (b + 1) ^ (m + 1) := Nat.pow_le_pow_right (by omega) (by omega)
  rw [Nat.pow_succ (b + 1) (m + 1), Nat.mul_add, Nat.mul_one, Nat.mul_comm]
  omega
theorem gB_two (b m : Nat) (hb : 1 ≤ b) : 2 ≤ gB b m := by
  unfold gB
  calc 2 ≤ b + 1 := by omega
    _ = (b + 1) ^ 1 := by simp
    _ ≤ (b + 1) ^ (m + 1) := Nat.pow_le_pow_right (by omega) (by omega)
def barsF (t : Tru) (c : Cas) (bs : List Tre) (p : Str × Str) : List Tre :=
  let b1 := if barB t c "ring" p.1 then bs ++ [.bar "ring" p.1] else bs
  if barB t c "time" p.1 then b1 ++ [.bar "time" p.1] else b1
def barsOf (t : Tru) (m : Option Int) (c : Cas) : List Tre := c.foldl (barsF t c) (if manyB t m c then [.many] else [])
theorem bars_fold {t : Tru} {m : Option Int} {c : Cas} : ∀ (l : Cas) (bs : List Tre), (∀ x ∈ bs, GT t m c x) → (∀ x ∈ l.foldl (barsF t c) bs, GT t m c x) ∧ bs.length ≤ (l.foldl (barsF t c) bs).length ∧ (l.foldl (barsF t c) bs).length ≤ bs.length + 2 * l.length ∧ ((l.foldl (barsF t c) bs) = [] → bs = [] ∧ ∀ p ∈ l, barB t c "ring" p.1 = false ∧ barB t c "time" p.1 = false)
  | [], bs, h => ⟨h, Nat.le_refl _, by simp, fun e => ⟨e, fun p hp => absurd hp List.not_mem_nil⟩⟩
  | q :: l, bs, h => by
    rw [List.foldl_cons]
    have hq : (∀ x ∈ barsF t c bs q, GT t m c x) ∧ bs.length ≤ (barsF t c bs q).length ∧ (barsF t c bs q).length ≤ bs.length + 2 ∧ (barsF t c bs q = [] → bs = [] ∧ barB t c "ring" q.1 = false ∧ barB t c "time" q.1 = false) := by
      unfold barsF
      cases h1 : barB t c "ring" q.1 <;> cases h2 : barB t c "time" q.1
      · simpa using h
      · simp
        rintro x (hx | rfl)
        · exact h x hx
        · exact .bar (.inr rfl) h2
      · simp
        rintro x (hx | rfl)
        · exact h x hx
        · exact .bar (.inl rfl) h1
      · simp
        rintro x (hx | rfl | rfl)
        · exact h x hx
        · exact .bar (.inl rfl) h1
        · exact .bar (.inr rfl) h2
    obtain ⟨g1, g2, g3, g4⟩ := hq
    obtain ⟨k1, k2, k3, k4⟩ := bars_fold l (barsF t c bs q) g1
    refine ⟨k1, by omega, by simp; omega, fun e => ?_⟩
    obtain ⟨e1, e2⟩ := k4 e
    obtain ⟨e3, e4⟩ := g4 e1
    exact ⟨e3, fun p hp => (List.mem_cons.mp hp).elim (fun z => z ▸ e4) (e2 p)⟩
theorem bars_ok (t : Tru) (m : Option Int) (c : Cas) : (∀ x ∈ barsOf t m c, GT t m c x) ∧ (barsOf t m c).length ≤ 1 + 2 * c.length ∧ (barsOf t m c = [] → ∀ z ∈ keys c, barB t c "ring" z = false ∧ barB t c "time" z = false) := by
  unfold barsOf
  obtain ⟨h1, _, h3, h4⟩ := bars_fold (t := t) (m := m) (c := c) c (if manyB t m c then [.many] else []) (by
    cases h : manyB t m c
    · simp
    · simp; exact .many h)
  refine ⟨h1, ?_, fun e z hz => ?_⟩
  · have hb : (if manyB t m c = true then [Tre.many] else []).length ≤ 1 := by cases manyB t m c <;> simp
    omega
  · obtain ⟨p, hp, rfl⟩ := List.mem_map.mp hz
    exact (h4 e).2 p hp
theorem many_in (t : Tru) (m : Option Int) (c : Cas) : manyB t m c = true → (barsOf t m c).head? = some .many := by
  intro h
  unfold barsOf
  rw [h]
  have : ∀ (l : Cas) (bs : List Tre), bs.head? = some .many → (l.foldl (barsF t c) bs).head? = some .many := by
    intro l
    induction l with
    | nil => exact fun _ h => h
    | cons q l ih =>
      intro bs hb
      rw [List.foldl_cons]
      refine ih _ ?_
      obtain ⟨r, rfl⟩ : ∃ r, bs = .many :: r := by
        cases bs with
        | nil => cases hb
        | cons x r => simp at hb; subst hb; exact ⟨r, rfl⟩
      unfold barsF
      cases barB t c "ring" q.1 <;> cases barB t c "time" q.1 <;> simp
  exact this c _ rfl
/-- what a loop leaves in a slot -/
def uS (o : Option (Str × Str)) (f : Str × Str → Str) : T := match o with
  | none => .un
  | some p => .pl (.str (f p))
section
variable {X : Tx} (hX : HasGrown X)
include hX
/-- the bars -/
theorem w_bars (n : Nat) (t : Tru) (ht : TSm t) (m : Option Int) (c : Cas) (hc : Grown t c) (hl : c.length ≤ 800) (x0 x4 x8 : T) (bs : List Tre) (hb : bs.length ≤ 10) (os : List O) :
    ∃ x67 : Option (Str × Str), forL [0] (.tp [.nm 6, .nm 7]) (exCs ⟨call X (n + 3), X.con, X.sub, X.xf, X.fuel, [0]⟩ (bodyC (Lb.d_law_grown.body.getD 2 .pas))) (c.map kvT) ⟨[x0, .pl t.d, .pl (optI m), .pl (.list (c.map kvT)), x4, .ol (bs.map Tre.d), .un, .un, x8], os⟩ =
      .ok .nx ⟨[x0, .pl t.d, .pl (optI m), .pl (.list (c.map kvT)), x4, .ol ((c.foldl (barsF t c) bs).map Tre.d), uS x67 (·.1), uS x67 (·.2), x8], os⟩ := by
  let st : List (Str × Str) → Option (Str × Str) → S := fun l1 x => ⟨[x0, .pl t.d, .pl (optI m), .pl (.list (c.map kvT)), x4, .ol ((l1.foldl (barsF t c) bs).map Tre.d), uS x (·.1), uS x (·.2), x8], os⟩
  refine forL_pre (fix := [0]) (g := .tp [.nm 6, .nm 7]) (body := exCs ⟨call X (n + 3), X.con, X.sub, X.xf, X.fuel, [0]⟩ (bodyC (Lb.d_law_grown.body.getD 2 .pas))) (enc := kvT) st (l := c) (fun l1 p l2 hp j => ?_) none
  have hm : p ∈ c := by rw [hp]; simp
  have hk : p.1 ∈ keys c := List.mem_map.mpr ⟨p, hm, rfl⟩
  have hg : giv c p.1 = some p.2 := giv_of hc.nd hm
  have hlen : (l1.foldl (barsF t c) bs).length ≤ bs.length + 2 * l1.length := by
    have : ∀ (l : List (Str × Str)) (bs : List Tre), (l.foldl (barsF t c) bs).length ≤ bs.length + 2 * l.length := by
      intro l
      induction l with
      | nil => intro bs; simp
      | cons q l ih =>
        intro bs
        rw [List.foldl_cons]
        have h1 := ih (barsF t c bs q)
        have h2 : (barsF t c bs q).length ≤ bs.length + 2 := by
          unfold barsF
          cases barB t c "ring" q.1 <;> cases barB t c "time" q.1 <;> simp
        simp
        omega
    exact this l1 bs
  have hl1 : l1.length ≤ c.length := by rw [hp]; simp
  have c1 := w_l_comes hX.comes (n + 2) c p.2 p.1 os (by omega) hc.nd
  have c2 := w_l_late hX.toHasLLate (n + 1) t c p.1 os (by omega) ht.wl ht.tl hc.nd hk (hc.borne hk)
  have b1 : barB t c "ring" p.1 = comesB c p.2 p.1 := by simp [barB, hk, hg]
  have b2 : barB t c "time" p.1 = lateB t c p.1 := by simp [barB, hk]
  have e1 : (l1 ++ [p]).foldl (barsF t c) bs = barsF t c (l1.foldl (barsF t c) bs) p := by rw [List.foldl_append]; rfl
  refine ⟨st l1 (some p), some p, by simp [st, kvT, uS], ?_⟩
  have es : st (l1 ++ [p]) (some p) = ⟨[x0, .pl t.d, .pl (optI m), .pl (.list (c.map kvT)), x4, .ol ((barsF t c (l1.foldl (barsF t c) bs) p).map Tre.d), .pl (.str p.1), .pl (.str p.2), x8], os⟩ := by
    show (⟨_, _⟩ : S) = _
    rw [e1]
    rfl
  rw [es]
  simp only [st, uS]
  generalize l1.foldl (barsF t c) bs = B at hlen ⊢
  have h3 : B.length ≤ 1000000 := by omega
  have h4 : B.length ≤ 999999 := by omega
  simp [Tru.d] at c2
  rw [← b1] at c1
  rw [← b2] at c2
  unfold barsF
  cases q1 : barB t c "ring" p.1 <;> cases q2 : barB t c "time" p.1 <;> rw [q1] at c1 <;> rw [q2] at c2 <;> simp [bodyC, Lb.d_law_grown, Tru.d, c1, c2, h3, h4, Tre.d]
end
end Pl
end PartPlX
section PartPlY
set_option autoImplicit false
set_option linter.all false
set_option maxRecDepth 100000
set_option maxHeartbeats 4000000
/-! PlY: _law_grown. -/
namespace Pl
open EV PySem
theorem bars_flat (t : Tru) (m : Option Int) (c : Cas) : ∀ x ∈ barsOf t m c, x.dep = 0 ∧ x.thin = true := by
  have : ∀ (l : Cas) (bs : List Tre), (∀ x ∈ bs, x.dep = 0 ∧ x.thin = true) → ∀ x ∈ l.foldl (barsF t c) bs, x.dep = 0 ∧ x.thin = true := by
    intro l
    induction l with
    | nil => exact fun _ h => h
    | cons q l ih =>
      intro bs hb
      rw [List.foldl_cons]
      refine ih _ ?_
      unfold barsF
      have r1 : (Tre.bar "ring" q.1).dep = 0 ∧ (Tre.bar "ring" q.1).thin = true := by simp [Tre.dep, Tre.thin]
      have r2 : (Tre.bar "time" q.1).dep = 0 ∧ (Tre.bar "time" q.1).thin = true := by simp [Tre.dep, Tre.thin]
      cases barB t c "ring" q.1 <;> cases barB t c "time" q.1 <;> simp
      · exact hb
      · rintro x (h | rfl)
        · exact hb x h
        · exact r2
      · rintro x (h | rfl)
        · exact hb x h
        · exact r1
      · rintro x (h | rfl | rfl)
        · exact hb x h
        · exact r1
        · exact r2
  refine this c _ ?_
  cases manyB t m c
  · simp
  · simp [Tre.dep, Tre.thin]
theorem eqD_tres {l : List Tre} (h : ∀ x ∈ l, x.dep = 0) : eqD (.list (l.map Tre.d)) (.list []) = some (decide (l = [])) := by
  have d3 : EV.dpt 2 (.list (l.map Tre.d)) := dpt_list fun d hd => by
    obtain ⟨x, hx, rfl⟩ := List.mem_map.mp hd
    have := Tre.dpt x
    rw [h x hx] at this
    exact this
  rw [eqD_ok (d3.ok (by omega)) (by decide +kernel)]
  cases l <;> simp
theorem tied_len {l : List Str} {t : Tru} (ht : Trust l t) {z : Str} (hz : z ∈ l) : (tied t z).length + 1 ≤ l.length := by
  have nd : (tied t z).Nodup := sortS_nodup.mpr (uniq_nodup _ [] List.nodup_nil)
  have nz : z ∉ tied t z := fun h => by
    obtain ⟨e, he, e1, e2⟩ := tied_mem.mp h
    exact (ht.ties e he).ne (e1.trans e2.symm)
  have := (List.nodup_cons.mpr ⟨nz, nd⟩).length_le_of_subset fun y hy => by
    rcases List.mem_cons.mp hy with rfl | hy
    · exact hz
    · obtain ⟨e, he, e1, _⟩ := tied_mem.mp hy
      rw [← e1]; exact (ht.ties e he).g
  simpa using this
theorem next_len {l : List Str} {t : Tru} {c : Cas} (h : CaseIn l t c) (ht : Trust l t) {z : Str} (hz : nextF t c = some z) : z ∈ l ∧ c.length + 2 ≤ l.length := by
  obtain ⟨h1, h2, h3⟩ := next_new hz
  have hl : z ∈ l := by
    rcases h3 with ⟨w, hw, rfl⟩ | ⟨p, hp, rfl⟩
    · exact (ht.ws w hw).a
    · obtain ⟨e, he, e1, e2⟩ := tied_mem.mp (h.tie p hp)
      rw [← e1]; exact (ht.ties e he).g
  have nd : (t.o :: z :: keys c).Nodup := List.nodup_cons.mpr ⟨fun q => (List.mem_cons.mp q).elim (fun e => h1 e.symm) fun q => (h.key _ q).2 rfl, List.nodup_cons.mpr ⟨h2, h.nd⟩⟩
  have := nd.length_le_of_subset (fun y hy => by
    rcases List.mem_cons.mp hy with rfl | hy
    · exact ht.o
    · rcases List.mem_cons.mp hy with rfl | hy
      · exact hl
      · exact (h.key y hy).1)
  exact ⟨hl, by simpa using this⟩
theorem at_last {c : Cas} (h : c ≠ []) : ∃ p ∈ c, atI (c.map kvT) (-1) = some (kvT p) := by
  have h2 : c.map kvT ≠ [] := by simpa using h
  exact ⟨c.getLast h, List.getLast_mem h, by rw [atI_neg1 _ h2, List.getLast_map]⟩
section
variable {X : Tx} (hX : HasGrown X)
include hX
theorem w_grown (t : Tru) (l : List Str) (ht : Trust l t) (hll : l.length ≤ 9) (m : Option Int) (os : List O) : ∀ (d n k : Nat) (c : Cas) (p : Pool), CaseIn l t c → Grown t c → l.length ≤ d + c.length + 1 → Pk (k + gB (l.length - 1) d) p →
    ∃ (x : Tre) (p' : Pool), call X (n + 5 + d) "_law_grown" [p.t, .pl t.d, .pl (optI m), .pl (.list (c.map kvT))] [] [] os = .ok (.pl x.d) [p'.t, .un, .un, .un] os ∧ Pk k p' ∧ GT t m c x ∧ x.dep ≤ d ∧ x.thin = true
  | d, n, k, c, p, hc, hg, hd, hp => by
    have hsm : TSm t := ⟨Nat.le_trans ht.tl (by omega), Nat.le_trans ht.w6 (by omega)⟩
    have hcl := hc.len1 ht.o
    have hb1 : 1 ≤ l.length - 1 := by
      have h0 : ∃ w, w ∈ t.wishes := List.exists_mem_of_ne_nil _ (fun e => by have := ht.w1; rw [e] at this; simp at this)
      obtain ⟨w, hw⟩ := h0
      have wi := ht.ws w hw
      have nd : [t.o, w.a].Nodup := by simp; exact fun e => wi.ne e.symm
      have := nd.length_le_of_subset (fun y hy => by simp at hy; rcases hy with rfl | rfl; exact ht.o; exact wi.a)
      simp at this
      omega
    obtain ⟨j, hj⟩ : ∃ j, n + 5 + d = j + 5 := ⟨n + d, by omega⟩
    rw [hj, call_def hX.grown (j + 4) _ os rfl [] rfl, runF_fin]
    have c1 := w_next hX.next (j + 3) t c os (by omega) hsm.wl
    simp [Tru.d] at c1
    let Pm0 : Pm := ⟨call X (j + 4), X.con, X.sub, X.xf, X.fuel, [0]⟩
    let stt : Pool → T → List Tre → T → T → T → S := fun p x4 bs x6 x7 x8 => ⟨[p.t, .pl t.d, .pl (optI m), .pl (.list (c.map kvT)), x4, .ol (bs.map Tre.d), x6, x7, x8], os⟩
    obtain ⟨x67, eb⟩ := w_bars hX (j + 1) t hsm m c hg (by omega) p.t (.pl (optS (nextF t c))) .un (if manyB t m c then [.many] else []) (by cases manyB t m c <;> simp) os
    obtain ⟨b1, b2, b3⟩ := bars_ok t m c
    have b4 := bars_flat t m c
    have b5 := many_in t m c
    have eb : forL [0] (.tp [.nm 6, .nm 7]) (exCs Pm0 (bodyC (Lb.d_law_grown.body.getD 2 .pas))) (c.map kvT) (stt p (.pl (optS (nextF t c))) (if manyB t m c then [.many] else []) .un .un .un) = .ok .nx (stt p (.pl (optS (nextF t c))) (barsOf t m c) (uS x67 (·.1)) (uS x67 (·.2)) .un) := eb
    have main : ∃ (x : Tre) (p' : Pool) (s2 : S), exCs Pm0 Lb.d_law_grown.body ⟨[p.t, .pl t.d, .pl (optI m), .pl (.list (c.map kvT)), .un, .un, .un, .un, .un], os⟩ = .ok (.rt (.pl x.d)) s2 ∧ (∃ r, s2 = ⟨p'.t :: r, os⟩) ∧ Pk k p' ∧ GT t m c x ∧ x.dep ≤ d ∧ x.thin = true := by
      have a1 : exC Pm0 (Lb.d_law_grown.body.getD 0 .pas) ⟨[p.t, .pl t.d, .pl (optI m), .pl (.list (c.map kvT)), .un, .un, .un, .un, .un], os⟩ = .ok .nx ⟨[p.t, .pl t.d, .pl (optI m), .pl (.list (c.map kvT)), .pl (optS (nextF t c)), .un, .un, .un, .un], os⟩ := by simp [Lb.d_law_grown, Pm0, Tru.d, c1]
      have a2 : exC Pm0 (Lb.d_law_grown.body.getD 1 .pas) ⟨[p.t, .pl t.d, .pl (optI m), .pl (.list (c.map kvT)), .pl (optS (nextF t c)), .un, .un, .un, .un], os⟩ = .ok .nx (stt p (.pl (optS (nextF t c))) (if manyB t m c then [.many] else []) .un .un .un) := by
        cases hn : nextF t c with
        | none => cases m <;> simp [Lb.d_law_grown, Pm0, stt, manyB, hn, optI, rep]
        | some z =>
          cases m with
          | none => simp [Lb.d_law_grown, Pm0, stt, manyB, hn, optI, rep]
          | some q => by_cases hq : q ≤ (c.length : Int) <;> simp [Lb.d_law_grown, Pm0, stt, manyB, hn, optI, Tre.d, rep, hq]
      have a3 : exC Pm0 (Lb.d_law_grown.body.getD 2 .pas) (stt p (.pl (optS (nextF t c))) (if manyB t m c then [.many] else []) .un .un .un) = .ok .nx (stt p (.pl (optS (nextF t c))) (barsOf t m c) (uS x67 (·.1)) (uS x67 (·.2)) .un) :=
        for_of (g := .tp [.nm 6, .nm 7]) (it := .own 3) (ds := c.map kvT) (s1 := stt p (.pl (optS (nextF t c))) (if manyB t m c then [.many] else []) .un .un .un) (by simp [stt]) eb
      have head : exCs Pm0 Lb.d_law_grown.body ⟨[p.t, .pl t.d, .pl (optI m), .pl (.list (c.map kvT)), .un, .un, .un, .un, .un], os⟩ = exCs Pm0 (Lb.d_law_grown.body.drop 3) (stt p (.pl (optS (nextF t c))) (barsOf t m c) (uS x67 (·.1)) (uS x67 (·.2)) .un) :=
        (exCs_nx a1).trans ((exCs_nx a2).trans (exCs_nx a3))
      rw [head]
      clear head a1 a2 a3 eb
      generalize hB : barsOf t m c = B at *
      have hBl : B.length ≤ 1000 := by omega
      have e1 := eqD_tres (l := B) fun x hx => (b4 x hx).1
      have pick : ∀ (q : Pool) (kk : Nat), Pk (kk + 1) q → B ≠ [] → ∃ (r : Int) (q' : Pool) (x : Tre), call X (j + 4) "_law_draw" [q.t, .pl (.int (B.length : Nat))] [] [] os = .ok (.pl (.int r)) [q'.t, .un] os ∧ Pk kk q' ∧ x ∈ B ∧ atI (B.map Tre.d) r = some x.d := fun q kk hq hne => by
        have hpos : 0 < B.length := List.length_pos_iff.mpr hne
        obtain ⟨r, q', e, h1, h2, h3⟩ := w_draw hX.toHasGen (j + 3) os hq (m := (B.length : Nat)) (by omega) (by omega)
        obtain ⟨i, rfl⟩ := Int.eq_ofNat_of_zero_le h2
        have hi : i < B.length := by omega
        exact ⟨_, q', B[i], e, h1, List.getElem_mem hi, by rw [atI_nat, List.getElem?_map, List.getElem?_eq_getElem hi]; rfl⟩
      have h2b := gB_two (l.length - 1) d hb1
      cases hn : nextF t c with
      | none =>
        by_cases hne : B = []
        · subst hne
          have hcne : c ≠ [] := fun e => by
            subst e
            have h0 : ∃ w, w ∈ t.wishes := List.exists_mem_of_ne_nil _ (fun e => by have := ht.w1; rw [e] at this; simp at this)
            obtain ⟨w, hw⟩ := h0
            have := (done_iff.mp hn).1 w hw (ht.ws w hw).ne
            cases this
          obtain ⟨q, hq, eq⟩ := at_last hcne
          refine ⟨.bar "time" q.1, p, _, by simp [Lb.d_law_grown, Pm0, stt, e1, eq, kvT, Tre.d]; rfl, ⟨_, rfl⟩, hp.le (by omega), .opn hn (b3 rfl) (List.mem_map.mpr ⟨q, hq, rfl⟩), by simp [Tre.dep], by simp [Tre.thin]⟩
        · obtain ⟨r, q', x, e2, h1, hx, ex⟩ := pick p k (hp.le (by omega)) hne
          refine ⟨x, q', _, by simp [Lb.d_law_grown, Pm0, stt, e1, hne, e2, ex]; rfl, ⟨_, rfl⟩, h1, b1 x hx, by rw [(b4 x hx).1]; omega, (b4 x hx).2⟩
      | some z =>
        obtain ⟨hzl, hcl2⟩ := next_len hc ht hn
        obtain ⟨d', rfl⟩ : ∃ d', d = d' + 1 := ⟨d - 1, by omega⟩
        have node : ∀ q : Pool, Pk (k + (l.length - 1) * gB (l.length - 1) d') q → ∃ (x : Tre) (p' : Pool) (s2 : S), exCs Pm0 (Lb.d_law_grown.body.drop 5) (stt q (.pl (.str z)) B (uS x67 (·.1)) (uS x67 (·.2)) .un) = .ok (.rt (.pl x.d)) s2 ∧ (∃ r, s2 = ⟨p'.t :: r, os⟩) ∧ Pk k p' ∧ GT t m c x ∧ x.dep ≤ d' + 1 ∧ x.thin = true := by
          intro q hq
          let s0 : S := stt q (.pl (.str z)) B (uS x67 (·.1)) (uS x67 (·.2)) .un
          let su : Pool → S := fun p' => stt p' (.pl (.str z)) B (uS x67 (·.1)) .un .un
          have hj2 : j + 4 = n + 5 + d' := by omega
          have htl := tied_len ht hzl
          have c6 := w_tied hX.tied (j + 3) t z os (by have := ht.tl; omega)
          have c6 : call X (j + 3 + 1) "_law_tied" [.pl t.d, .pl (.str z)] [] [] os = .ok (.ol ((tied t z).map .str)) [.un, .un] os := c6
          simp [Tru.d] at c6
          let Inv : List D → List D → S → Prop := fun ds bs s => ∃ (done : List (Str × Tre)) (rest : List Str) (p' : Pool), tied t z = done.map (·.1) ++ rest ∧ ds = rest.map .str ∧ bs = done.map rwD ∧ s = su p' ∧ Pk (k + rest.length * gB (l.length - 1) d') p' ∧ ∀ x ∈ done, GT t m (c ++ [(z, x.1)]) x.2 ∧ x.2.dep ≤ d' ∧ x.2.thin = true
          have cc : ∃ bs s1, comp [0] [7] (.nm 7) (ev Pm0 (.lit (.bool true)) .e) (fun s => toD (ev Pm0 (.tup false [(.var 7), (.call "_law_grown" [.s 0, .b 1, .b 2, .e (.bin .Add (.var 3) (.lst false [(.tup false [(.var 4), (.var 7)])]))] [] [])]) .e s)) ((tied t z).map .str, none) s0 = .ok bs { s1 with vs := putBack s1.vs s0.vs [7] } ∧ Inv [] bs s1 := by
            refine comp_inv (Inv := Inv) ?_ (by rw [List.length_map]; omega) ⟨[], tied t z, q, by simp, rfl, rfl, rfl, hq.le (by have := Nat.mul_le_mul_right (gB (l.length - 1) d') (show (tied t z).length ≤ l.length - 1 by omega); omega), fun x hx => absurd hx List.not_mem_nil⟩ fun dd r bs s hI => ?_
            · cases x67 <;> simp [s0, stt, uS]
            · obtain ⟨done, rest, p', i1, i2, rfl, rfl, i5, i6⟩ := hI
              cases rest with
              | nil => cases i2
              | cons g rest =>
                rw [List.map_cons] at i2
                obtain ⟨rfl, rfl⟩ := List.cons.inj i2
                have hgt : g ∈ tied t z := by rw [i1]; simp
                obtain ⟨x, p2, e, k1, k2, k3, k4⟩ := w_grown t l ht hll m os d' n (k + rest.length * gB (l.length - 1) d') (c ++ [(z, g)]) p' (hc.next ht hn hgt) (hg.snoc g hn) (by simp; omega) (i5.le (by rw [List.length_cons, Nat.succ_mul]; omega))
                rw [← hj2] at e
                have hcl3 : c.length ≤ 999999 := by omega
                simp [Tru.d, kvT] at e
                refine ⟨some (rwD (g, x)), su p2, ?_, done ++ [(g, x)], rest, p2, by rw [i1]; simp, rfl, by simp, rfl, k1, fun y hy => ?_⟩
                · cases x67 <;> simp [turnC, fixC, su, stt, uS, Pm0, Tru.d, hcl3, e, rwD]
                · rcases List.mem_append.mp hy with hy | hy
                  · exact i6 y hy
                  · rw [List.mem_singleton.mp hy]; exact ⟨k2, k3, k4⟩
          obtain ⟨bs, s1, ec, done, rest, p', i1, i2, rfl, rfl, i5, i6⟩ := cc
          have hr : rest = [] := by simpa using i2.symm
          subst hr
          rw [List.append_nil] at i1
          have hlist : (Rws.of done).list = done := Rws.of_list done
          have hdd : (Rws.of done).ds = done.map rwD := by rw [Rws.ds_eq, hlist]
          let s8 : S := ⟨[p'.t, .pl t.d, .pl (optI m), .pl (.list (c.map kvT)), .pl (.str z), .ol (B.map Tre.d), uS x67 (·.1), uS x67 (·.2), .ol (done.map rwD)], os⟩
          have a5 : exC Pm0 (Lb.d_law_grown.body.getD 5 .pas) s0 = .ok .nx s8 := by
            simp [Lb.d_law_grown, Pm0, s0, stt, Tru.d, c6]
            generalize hC : comp _ _ _ _ _ _ _ = C
            have kC := hC.symm.trans ec
            subst kC
            simp [su, s0, stt, s8, Tru.d]
          refine ⟨.node z (Rws.of done), p', s8, (exCs_nx a5).trans ?_, ⟨_, rfl⟩, i5.le (by simp), .node hn (by rw [hlist]; exact i1.symm) (by rw [hlist]; exact fun x hx => (i6 x hx).1), ?_, ?_⟩
          · simp [Lb.d_law_grown, Pm0, s8, Tre.d, hdd]
          · have : ∀ L : List (Str × Tre), (∀ x ∈ L, x.2.dep ≤ d') → (Rws.of L).dep ≤ d' := by
              intro L
              induction L with
              | nil => intro _; simp [Rws.of, Rws.dep]
              | cons x L ih =>
                intro h
                rw [Rws.of, Rws.dep]
                exact Nat.max_le.mpr ⟨h x List.mem_cons_self, ih fun y hy => h y (List.mem_cons_of_mem _ hy)⟩
            have := this done fun x hx => (i6 x hx).2.1
            rw [Tre.dep]
            omega
          · have : ∀ L : List (Str × Tre), (∀ x ∈ L, x.2.thin = true) → (Rws.of L).thin = true := by
              intro L
              induction L with
              | nil => intro _; simp [Rws.of, Rws.thin]
              | cons x L ih =>
                intro h
                rw [Rws.of, Rws.thin, h x List.mem_cons_self, ih fun y hy => h y (List.mem_cons_of_mem _ hy)]
                rfl
            have h2 := this done fun x hx => (i6 x hx).2.2
            have h3 : done.length ≤ 1000 := by
              have := congrArg List.length i1
              simp at this
              omega
            rw [Tre.thin, h2, hlist]
            simp [h3]
        have hB2 := gB_step (l.length - 1) d' hb1
        by_cases hne : B = []
        · obtain ⟨x, p', s2, e, r1⟩ := node p (hp.le (by omega))
          refine ⟨x, p', s2, ?_, r1⟩
          rw [← e]
          subst hne
          simp [Lb.d_law_grown, Pm0, stt, e1]
        · obtain ⟨x0, B', hB'⟩ : ∃ x0 B', B = x0 :: B' := by
            cases B with
            | nil => exact absurd rfl hne
            | cons x0 B' => exact ⟨x0, B', rfl⟩
          have e3 := eqD_many (x := x0) (by rw [(b4 x0 (by rw [hB']; exact List.mem_cons_self)).1]; omega)
          have ei : (B.map Tre.d)[0]? = some x0.d := by rw [hB']; rfl
          cases hmany : x0.isMany with
          | true =>
            rw [hmany] at e3
            obtain ⟨r, q', x, e2, h1, hx, ex⟩ := pick p k (hp.le (by omega)) hne
            refine ⟨x, q', _, by simp [Lb.d_law_grown, Pm0, stt, e1, hne, e2, ex, ei, e3]; rfl, ⟨_, rfl⟩, h1, b1 x hx, by rw [(b4 x hx).1]; omega, (b4 x hx).2⟩
          | false =>
            rw [hmany] at e3
            obtain ⟨r5, p5, c5, h5, l5, u5⟩ := w_draw hX.toHasGen (j + 3) os (k := k + 1 + (l.length - 1) * gB (l.length - 1) d') (p := p) (hp.le (by omega)) (m := 5) (by omega) (by omega)
            by_cases hr : 0 < r5
            · obtain ⟨r, q', x, e2, h1, hx, ex⟩ := pick p5 k (h5.le (by omega)) hne
              refine ⟨x, q', _, by simp [Lb.d_law_grown, Pm0, stt, e1, hne, e2, ex, ei, e3, c5, hr]; rfl, ⟨_, rfl⟩, h1, b1 x hx, by rw [(b4 x hx).1]; omega, (b4 x hx).2⟩
            · obtain ⟨x, p', s2, e, r1⟩ := node p5 (h5.le (by omega))
              refine ⟨x, p', s2, ?_, r1⟩
              rw [← e]
              simp [Lb.d_law_grown, Pm0, stt, e1, hne, ei, e3, c5, hr]
    obtain ⟨x, p', s2, e, ⟨r, rfl⟩, h1, h2, h3, h4⟩ := main
    refine ⟨x, p', ?_, h1, h2, h3, h4⟩
    show fin _ (exCs Pm0 Lb.d_law_grown.body ⟨[p.t, .pl t.d, .pl (optI m), .pl (.list (c.map kvT)), .un, .un, .un, .un, .un], os⟩) = _
    rw [e]
    simp
termination_by d => d
end
end Pl
end PartPlY
section PartIr79
set_option linter.all false
set_option maxRecDepth 100000
namespace K79
open EV PySem
abbrev d_is_row_of : FD := Lb.d_is_row_of
abbrev n_is_row_of : List Str := Lb.n_is_row_of
abbrev d_is_spanned : FD := Lb.d_is_spanned
abbrev n_is_spanned : List Str := Lb.n_is_spanned
abbrev d_next_actor : FD := Lb.d_next_actor
abbrev n_next_actor : List Str := Lb.n_next_actor
abbrev d_givers_of : FD := Lb.d_givers_of
abbrev n_givers_of : List Str := Lb.n_givers_of
abbrev d_comes_to : FD := Lb.d_comes_to
abbrev n_comes_to : List Str := Lb.n_comes_to
abbrev d_wishes_below : FD := Lb.d_wishes_below
abbrev n_wishes_below : List Str := Lb.n_wishes_below
abbrev d_span_of : FD := Lb.d_span_of
abbrev n_span_of : List Str := Lb.n_span_of
abbrev d_is_late : FD := Lb.d_is_late
abbrev n_is_late : List Str := Lb.n_is_late
abbrev d_is_bar : FD := Lb.d_is_bar
abbrev n_is_bar : List Str := Lb.n_is_bar
abbrev d_holds_at : FD := Lb.d_holds_at
abbrev n_holds_at : List Str := Lb.n_holds_at
abbrev d_tree_holds : FD := Lb.d_tree_holds
abbrev n_tree_holds : List Str := Lb.n_tree_holds
abbrev d_law_cell_at : FD := Lb.d_law_cell_at
abbrev n_law_cell_at : List Str := Lb.n_law_cell_at
abbrev d_law_pool : FD := Lb.d_law_pool
abbrev n_law_pool : List Str := Lb.n_law_pool
abbrev d_law_draw : FD := Lb.d_law_draw
abbrev n_law_draw : List Str := Lb.n_law_draw
abbrev d_law_names : FD := Lb.d_law_names
abbrev n_law_names : List Str := Lb.n_law_names
abbrev d_law_span : FD := Lb.d_law_span
abbrev n_law_span : List Str := Lb.n_law_span
abbrev d_law_trust : FD := Lb.d_law_trust
abbrev n_law_trust : List Str := Lb.n_law_trust
abbrev d_law_others : FD := Lb.d_law_others
abbrev n_law_others : List Str := Lb.n_law_others
abbrev d_law_lies : FD := Lb.d_law_lies
abbrev n_law_lies : List Str := Lb.n_law_lies
abbrev d_law_next : FD := Lb.d_law_next
abbrev n_law_next : List Str := Lb.n_law_next
abbrev d_law_comes : FD := Lb.d_law_comes
abbrev n_law_comes : List Str := Lb.n_law_comes
abbrev d_law_late : FD := Lb.d_law_late
abbrev n_law_late : List Str := Lb.n_law_late
abbrev d_law_tied : FD := Lb.d_law_tied
abbrev n_law_tied : List Str := Lb.n_law_tied
abbrev d_law_holds : FD := Lb.d_law_holds
abbrev n_law_holds : List Str := Lb.n_law_holds
abbrev d_law_grown : FD := Lb.d_law_grown
abbrev n_law_grown : List Str := Lb.n_law_grown
def d_law_bent_tree : FD := ⟨["pool", "names", "tree"], [], 10,
  [.ite (.and (.cmp .Eq (.idx (.var 2) (.lit (.int 0))) (.lit (.str "giver"))) (.and (.cmp .NotEq (.idx (.var 2) (.lit (.int 2))) (.tup false [])) (.cmp .Gt (.call "_law_draw" [.s 0, .e (.lit (.int 4))] [] []) (.lit (.int 0)))))
     [.asg (.nm 3) (.call "_law_draw" [.s 0, .be (.bi "len" [(.idx (.var 2) (.lit (.int 2)))])] [] []),
      .asg (.tp [(.nm 4), (.nm 5)]) (.idx (.idx (.var 2) (.lit (.int 2))) (.var 3)),
      .asg (.nm 5) (.call "_law_bent_tree" [.s 0, .b 1, .b 5] [] []),
      .ret (.tup false [(.lit (.str "giver")), (.idx (.var 2) (.lit (.int 1))), (.bin .Add (.bin .Add (.slc (.idx (.var 2) (.lit (.int 2))) (.lit .none) (.var 3)) (.tup false [(.tup false [(.var 4), (.var 5)])])) (.slc (.idx (.var 2) (.lit (.int 2))) (.bin .Add (.var 3) (.lit (.int 1))) (.lit .none)))])]
     [],
   .asg (.nm 6) (.idx (.var 1) (.call "_law_draw" [.s 0, .be (.bi "len" [(.var 1)])] [] [])),
   .asg (.nm 7) (.lst false [(.tup false [(.lit (.str "many"))]), (.tup false [(.lit (.str "ring")), (.var 6)]), (.tup false [(.lit (.str "time")), (.var 6)]), (.tup false [(.lit (.str "giver")), (.var 6), (.tup false [])])]),
   .ite (.cmp .Eq (.idx (.var 2) (.lit (.int 0))) (.lit (.str "giver")))
     [.asg (.nm 8) (.idx (.var 2) (.lit (.int 2))),
      .asg (.nm 7) (.bin .Add (.var 7) (.lst false [(.tup false [(.lit (.str "giver")), (.var 6), (.var 8)]), (.tup false [(.lit (.str "giver")), (.idx (.var 2) (.lit (.int 1))), (.slc (.var 8) (.lit (.int 1)) (.lit .none))]), (.tup false [(.lit (.str "giver")), (.idx (.var 2) (.lit (.int 1))), (.rev (.var 8))])])),
      .asg (.nm 7) (.bin .Add (.var 7) (.lst false [(.tup false [(.lit (.str "giver")), (.idx (.var 2) (.lit (.int 1))), (.bin .Add (.var 8) (.slc (.var 8) (.lit .none) (.lit (.int 1))))]), (.tup false [(.lit (.str "giver")), (.idx (.var 2) (.lit (.int 1))), (.bin .Add (.var 8) (.tup false [(.tup false [(.var 6), (.tup false [(.lit (.str "many"))])])]))])])),
      .exp (.mut (.var 7) "append" [(.tup false [(.lit (.str "giver")), (.idx (.var 2) (.lit (.int 1))), (.bin .Add (.bi "tuple" [(.lc false (.tup false [(.var 6), (.idx (.var 9) (.lit (.int 1)))]) [9] (.nm 9) (.gen (.slc (.var 8) (.lit .none) (.lit (.int 1)))) (.lit (.bool true)))]) (.slc (.var 8) (.lit (.int 1)) (.lit .none)))])])]
     [],
   .ite (.cmp .Eq (.bi "len" [(.var 2)]) (.lit (.int 2)))
     [.asg (.nm 7) (.bin .Add (.var 7) (.lst false [(.tup false [(.lit (.str "ring")), (.idx (.var 2) (.lit (.int 1)))]), (.tup false [(.lit (.str "time")), (.idx (.var 2) (.lit (.int 1)))])]))]
     [],
   .ret (.idx (.var 7) (.call "_law_draw" [.s 0, .be (.bi "len" [(.var 7)])] [] []))]⟩
def n_law_bent_tree : List Str := ["pool", "names", "tree", "at", "giver", "rest", "name", "some", "rows", "row"]
abbrev d_law_truth : FD := Lb.d_law_truth
abbrev n_law_truth : List Str := Lb.n_law_truth
def d_law : FD := ⟨["script"], [], 10,
  [.for (.nm 1) (.rng (.bi "max" [(.lit (.int 1)), (.bi "min" [(.lit (.int 2)), (.bi "len" [(.var 0)])])]))
     [.asg (.nm 2) (.call "_law_pool" [.be (.call "_law_cell_at" [.b 0, .b 1] [] []), .b 1] [] []),
      .asg (.nm 3) (.call "_law_trust" [.s 2, .e (.lit (.int 5))] [] []),
      .asg (.nm 4) (.bin .Add (.lst false [(.idx (.var 3) (.lit (.int 0))), (.lit (.str "q"))]) (.call "_law_others" [.b 3] [] [])),
      .asg (.nm 5) (.idx (.lst false [(.lit .none), (.call "_law_draw" [.s 2, .e (.lit (.int 7))] [] [])]) (.call "_law_draw" [.s 2, .e (.lit (.int 2))] [] [])),
      .asg (.nm 6) (.call "_law_grown" [.s 2, .b 3, .b 5, .e (.lst false [])] [] []),
      .for (.nm 7) (.gen (.bin .Add (.lst false [(.var 5)]) (.slc (.lst false [(.lit .none), (.lit (.int 0)), (.lit (.int 1)), (.lit (.int 2)), (.lit (.int 3)), (.lit (.int 5))]) (.bin .Add (.lit (.int 1)) (.call "_law_draw" [.s 2, .e (.lit (.int 4))] [] [])) (.lit .none))))
        [.ite (.not (.call "_law_truth" [.be (.call "tree_holds" [.s 3, .b 7, .s 6] [] []), .be (.call "_law_holds" [.b 3, .b 7, .e (.lst false []), .b 6] [] [])] [] []))
           [.ret (.lit (.bool false))]
           []],
      .for (.nm 8) (.rng (.lit (.int 7)))
        [.asg (.nm 9) (.call "_law_bent_tree" [.s 2, .b 4, .b 6] [] []),
         .ite (.cmp .Eq (.call "_law_draw" [.s 2, .e (.lit (.int 3))] [] []) (.lit (.int 0)))
           [.asg (.nm 9) (.call "_law_bent_tree" [.s 2, .b 4, .b 9] [] [])]
           [],
         .ite (.not (.call "_law_truth" [.be (.call "tree_holds" [.s 3, .b 5, .s 9] [] []), .be (.call "_law_holds" [.b 3, .b 5, .e (.lst false []), .b 9] [] [])] [] []))
           [.ret (.lit (.bool false))]
           []]],
   .ret (.lit (.bool true))]⟩
def n_law : List Str := ["script", "k", "pool", "trust", "names", "most", "tree", "other", "turn", "bent"]
def fds : List (String × FD) := [("is_row_of", d_is_row_of), ("is_spanned", d_is_spanned), ("next_actor", d_next_actor), ("givers_of", d_givers_of), ("comes_to", d_comes_to), ("wishes_below", d_wishes_below), ("span_of", d_span_of), ("is_late", d_is_late), ("is_bar", d_is_bar), ("holds_at", d_holds_at), ("tree_holds", d_tree_holds), ("_law_cell_at", d_law_cell_at), ("_law_pool", d_law_pool), ("_law_draw", d_law_draw), ("_law_names", d_law_names), ("_law_span", d_law_span), ("_law_trust", d_law_trust), ("_law_others", d_law_others), ("_law_lies", d_law_lies), ("_law_next", d_law_next), ("_law_comes", d_law_comes), ("_law_late", d_law_late), ("_law_tied", d_law_tied), ("_law_holds", d_law_holds), ("_law_grown", d_law_grown), ("_law_bent_tree", d_law_bent_tree), ("_law_truth", d_law_truth), ("law", d_law)]
def cons : List (String × D) := []
def subs : List (Str × List Str) := []
def xfs : List (Str × List Str) := []
def tx : Tx := ⟨fun x => List.lookup x fds, fun x => List.lookup x cons, fun a b => ((List.lookup a subs).getD []).contains b, fun x => List.lookup x xfs, 100000⟩
end K79
end PartIr79
section PartM79
set_option autoImplicit false
set_option linter.all false
set_option maxRecDepth 100000
set_option maxHeartbeats 4000000
/-! M79: trees with one thing otherwise. -/
namespace K79
open EV PySem Pl
mutual
def widT (b : Nat) : Tre → Bool
  | .many => true
  | .bar w _ => decide (w = "ring" ∨ w = "time")
  | .node _ rs => decide (rs.list.length ≤ b) && widR b rs
def widR (b : Nat) : Rws → Bool
  | .nil => true
  | .cons _ x r => widT b x && widR b r
end
theorem widR_all (b : Nat) : ∀ r : Rws, widR b r = r.list.all fun p => widT b p.2
  | .nil => rfl
  | .cons g x r => by rw [widR, Rws.list, List.all_cons, widR_all b r]
mutual
theorem widT_thin {b : Nat} (hb : b ≤ 1000) : ∀ {x : Tre}, widT b x = true → x.thin = true
  | .many, _ => by rw [Tre.thin]
  | .bar w a, h => by rw [widT] at h; rw [Tre.thin]; exact h
  | .node a rs, h => by
    rw [widT, Bool.and_eq_true, decide_eq_true_eq] at h
    rw [Tre.thin, widR_thin hb h.2, Bool.and_true, decide_eq_true_eq]
    omega
theorem widR_thin {b : Nat} (hb : b ≤ 1000) : ∀ {x : Rws}, widR b x = true → x.thin = true
  | .nil, _ => by rw [Rws.thin]
  | .cons g x r, h => by
    rw [widR, Bool.and_eq_true] at h
    rw [Rws.thin, widT_thin hb h.1, widR_thin hb h.2]; rfl
end
mutual
theorem widT_le {a b : Nat} (hb : a ≤ b) : ∀ {x : Tre}, widT a x = true → widT b x = true
  | .many, _ => by rw [widT]
  | .bar w _, h => by rw [widT] at h ⊢; exact h
  | .node _ rs, h => by
    rw [widT, Bool.and_eq_true, decide_eq_true_eq] at h ⊢
    exact ⟨by omega, widR_le hb h.2⟩
theorem widR_le {a b : Nat} (hb : a ≤ b) : ∀ {x : Rws}, widR a x = true → widR b x = true
  | .nil, _ => by rw [widR]
  | .cons g x r, h => by
    rw [widR, Bool.and_eq_true] at h ⊢
    exact ⟨widT_le hb h.1, widR_le hb h.2⟩
end
theorem GT_wid {t : Tru} {m : Option Int} {b : Nat} (hb : ∀ z, (tied t z).length ≤ b) {c : Cas} {x : Tre} (h : GT t m c x) : widT b x = true := by
  induction h with
  | many _ => rw [widT]
  | bar h _ => rw [widT]; simpa using h
  | opn _ _ _ => rw [widT]; simp
  | node h1 h2 h3 ih =>
    rename_i c z rs
    rw [widT, Bool.and_eq_true, decide_eq_true_eq, widR_all, List.all_eq_true]
    have := congrArg List.length h2
    rw [List.length_map] at this
    exact ⟨this ▸ hb z, ih⟩
theorem dep_of {d : Nat} : ∀ L : List (Str × Tre), (∀ x ∈ L, x.2.dep ≤ d) → (Rws.of L).dep ≤ d
  | [], _ => by simp [Rws.of, Rws.dep]
  | x :: L, h => by
    rw [Rws.of, Rws.dep]
    exact Nat.max_le.mpr ⟨h x List.mem_cons_self, dep_of L fun y hy => h y (List.mem_cons_of_mem _ hy)⟩
/-- a tree fit for both readers, its lists at most b long -/
structure Ft (d b : Nat) (x : Tre) : Prop where
  dep : x.dep ≤ d
  wid : widT b x = true
theorem Ft.le {d b d' b' : Nat} {x : Tre} (h : Ft d b x) (hd : d ≤ d') (hb : b ≤ b') : Ft d' b' x := ⟨Nat.le_trans h.dep hd, widT_le hb h.wid⟩
def nodeQ (a : Str) (L : List (Str × Tre)) : Tre := .node a (Rws.of L)
theorem Ft.many {d b : Nat} : Ft d b .many := ⟨by rw [Tre.dep]; omega, by rw [widT]⟩
theorem Ft.bar {d b : Nat} {w a : Str} (h : w = "ring" ∨ w = "time") : Ft d b (.bar w a) := ⟨by rw [Tre.dep]; omega, by rw [widT]; simpa using h⟩
theorem Ft.nodQ {d b : Nat} {a : Str} {L : List (Str × Tre)} (hl : L.length ≤ b) (h : ∀ x ∈ L, Ft d b x.2) : Ft (d + 1) b (nodeQ a L) :=
  ⟨by rw [nodeQ, Tre.dep]; have := dep_of L fun x hx => (h x hx).dep; omega, by
    rw [nodeQ, widT, Bool.and_eq_true, decide_eq_true_eq, widR_all, List.all_eq_true, Rws.of_list]
    exact ⟨hl, fun x hx => (h x hx).wid⟩⟩
theorem Ft.rows {d b : Nat} {a : Str} {L : List (Str × Tre)} (h : Ft d b (nodeQ a L)) : ∃ d', d = d' + 1 ∧ L.length ≤ b ∧ ∀ x ∈ L, Ft d' b x.2 := by
  obtain ⟨h1, h2⟩ := h
  rw [nodeQ, Tre.dep] at h1
  rw [nodeQ, widT, Bool.and_eq_true, decide_eq_true_eq, widR_all, List.all_eq_true, Rws.of_list] at h2
  refine ⟨d - 1, by omega, h2.1, fun x hx => ⟨?_, h2.2 x hx⟩⟩
  have : x.2.dep ≤ (Rws.of L).dep := Rws.dep_mem (p := x) (by rw [Rws.of_list]; exact hx)
  omega
theorem nodeQ_d (a : Str) (L : List (Str × Tre)) : (nodeQ a L).d = .tuple [.str "giver", .str a, .tuple (L.map rwD)] := by
  rw [nodeQ, Tre.d, Rws.ds_eq, Rws.of_list]
theorem eqD_rowsT {l : List (Str × Tre)} (h : ∀ x ∈ l, x.2.dep ≤ 11) : eqD (.tuple (l.map rwD)) (.tuple []) = some (decide (l = [])) := by
  have e : l.map rwD = (Rws.of l).ds := by rw [Rws.ds_eq, Rws.of_list]
  have d3 : EV.dpt 36 (.tuple (l.map rwD)) := dpt_tup fun d hd => by
    rw [e] at hd
    exact (Rws.dpt _ d hd).mono (by have := dep_of l h; omega)
  rw [eqD_ok (d3.ok (by omega)) (by decide +kernel)]
  cases l <;> simp
theorem cut_from_n1 {α : Type} (xs : List α) (n : Nat) : cut xs (some ((n : Int) + 1)) none = xs.drop (n + 1) := cut_from_nat xs (n + 1)
theorem ixN_nat {k n : Nat} (h : n < k) : ixN k (n : Int) = some n := by
  unfold ixN
  rw [if_pos (by omega), if_pos (by omega)]; rfl
theorem at_map {α : Type} (f : α → D) (l : List α) (n : Nat) (h : n < l.length) : atI (l.map f) (n : Int) = some (f l[n]) := by
  rw [atI_nat, List.getElem?_map, List.getElem?_eq_getElem h]; rfl
theorem w_truth (X : Tx) (h : X.fd "_law_truth" = some Lb.d_law_truth) (n : Nat) (a b : Bool) (os : List O) : call X (n + 1) "_law_truth" [.pl (.bool a), .pl (.bool b)] [] [] os = .ok (.pl (.bool (decide (a = b)))) [.un, .un] os := by
  rw [call_def h n _ os rfl [] rfl]
  simp [Lb.d_law_truth, runF, typeIs]
/-- the trees that are chosen from -/
def somes (nm : Str) : Tre → List Tre
  | .many => [.many, .bar "ring" nm, .bar "time" nm, nodeQ nm []]
  | .bar _ a => [.many, .bar "ring" nm, .bar "time" nm, nodeQ nm [], .bar "ring" a, .bar "time" a]
  | .node a rs => [.many, .bar "ring" nm, .bar "time" nm, nodeQ nm [], nodeQ nm rs.list, nodeQ a (rs.list.drop 1), nodeQ a rs.list.reverse, nodeQ a (rs.list ++ rs.list.take 1), nodeQ a (rs.list ++ [(nm, .many)]), nodeQ a ((rs.list.take 1).map (fun r => (nm, r.2)) ++ rs.list.drop 1)]
theorem somes_ft {nm : Str} {d b : Nat} {x : Tre} (h : Ft d b x) : ∀ y ∈ somes nm x, Ft (d + 1) (b + 1) y := by
  have h0 : Ft (d + 1) (b + 1) (nodeQ nm []) := Ft.nodQ (by simp) (fun x hx => absurd hx List.not_mem_nil)
  cases x with
  | many =>
    intro y hy
    simp only [somes, List.mem_cons, List.not_mem_nil, or_false] at hy
    rcases hy with rfl | rfl | rfl | rfl
    · exact .many
    · exact .bar (.inl rfl)
    · exact .bar (.inr rfl)
    · exact h0
  | bar w a =>
    intro y hy
    simp only [somes, List.mem_cons, List.not_mem_nil, or_false] at hy
    rcases hy with rfl | rfl | rfl | rfl | rfl | rfl
    · exact .many
    · exact .bar (.inl rfl)
    · exact .bar (.inr rfl)
    · exact h0
    · exact .bar (.inl rfl)
    · exact .bar (.inr rfl)
  | node a rs =>
    have h' : Ft d b (nodeQ a rs.list) := by rw [nodeQ, Rws.list_of]; exact h
    obtain ⟨d', rfl, hl, hr⟩ := h'.rows
    have nd : ∀ (z : Str) (L : List (Str × Tre)), L.length ≤ b + 1 → (∀ x ∈ L, Ft (d' + 1) (b + 1) x.2) → Ft (d' + 1 + 1) (b + 1) (nodeQ z L) := fun z L h1 h2 => .nodQ h1 h2
    have hr' : ∀ x ∈ rs.list, Ft (d' + 1) (b + 1) x.2 := fun x hx => (hr x hx).le (by omega) (by omega)
    intro y hy
    simp only [somes, List.mem_cons, List.not_mem_nil, or_false] at hy
    rcases hy with rfl | rfl | rfl | rfl | rfl | rfl | rfl | rfl | rfl | rfl
    · exact .many
    · exact .bar (.inl rfl)
    · exact .bar (.inr rfl)
    · exact h0
    · exact nd _ _ (by omega) hr'
    · exact nd _ _ (by rw [List.length_drop]; omega) fun x hx => hr' x (List.mem_of_mem_drop hx)
    · exact nd _ _ (by rw [List.length_reverse]; omega) fun x hx => hr' x (List.mem_reverse.mp hx)
    · exact nd _ _ (by rw [List.length_append, List.length_take]; omega) fun x hx => (List.mem_append.mp hx).elim (hr' x) fun h => hr' x (List.mem_of_mem_take h)
    · exact nd _ _ (by rw [List.length_append]; simp; omega) fun x hx => (List.mem_append.mp hx).elim (hr' x) fun h => by rw [List.mem_singleton.mp h]; exact .many
    · refine nd _ _ (by rw [List.length_append, List.length_map, List.length_take, List.length_drop]; omega) fun x hx => (List.mem_append.mp hx).elim (fun h => ?_) fun h => hr' x (List.mem_of_mem_drop h)
      obtain ⟨r, h1, rfl⟩ := List.mem_map.mp h
      exact hr' r (List.mem_of_mem_take h1)
theorem somes_len (nm : Str) (x : Tre) : 0 < (somes nm x).length ∧ (somes nm x).length ≤ 10 := by cases x <;> simp [somes]
structure Has79 (X : Tx) : Prop extends HasGrown X where
  bent : X.fd "_law_bent_tree" = some d_law_bent_tree
section
variable {X : Tx} (hX : Has79 X)
include hX
theorem w_bent (ns : List Str) (hn1 : 1 ≤ ns.length) (hn2 : ns.length ≤ 100) (os : List O) : ∀ (d n k b : Nat) (x : Tre) (p : Pool), Ft d b x → b ≤ 900 → d ≤ 11 → Pk (k + 4 * (d + 1)) p →
    ∃ (x' : Tre) (p' : Pool), call X (n + 2 + d) "_law_bent_tree" [p.t, .bl (ns.map .str), .pl x.d] [] [] os = .ok (.pl x'.d) [p'.t, .un, .un] os ∧ Pk k p' ∧ Ft (d + 1) (b + 1) x'
  | d, n, k, b, x, p, hx, hb, hd, hp => by
    obtain ⟨j, hj⟩ : ∃ j, n + 2 + d = j + 2 := ⟨n + d, by omega⟩
    rw [hj, call_def hX.bent (j + 1) _ os rfl [] rfl]
    have main : ∃ (x' : Tre) (p' : Pool) (s2 : S), exCs ⟨call X (j + 1), X.con, X.sub, X.xf, X.fuel, [0]⟩ d_law_bent_tree.body ⟨[p.t, .bl (ns.map .str), .pl x.d, .un, .un, .un, .un, .un, .un, .un], os⟩ = .ok (.rt (.pl x'.d)) s2 ∧ (∃ r, s2 = ⟨p'.t :: r, os⟩) ∧ Pk k p' ∧ Ft (d + 1) (b + 1) x' := by
      have tail : ∀ q : Pool, Pk (k + 2) q → ∃ (x' : Tre) (p' : Pool) (s2 : S), exCs ⟨call X (j + 1), X.con, X.sub, X.xf, X.fuel, [0]⟩ (d_law_bent_tree.body.drop 1) ⟨[q.t, .bl (ns.map .str), .pl x.d, .un, .un, .un, .un, .un, .un, .un], os⟩ = .ok (.rt (.pl x'.d)) s2 ∧ (∃ r, s2 = ⟨p'.t :: r, os⟩) ∧ Pk k p' ∧ Ft (d + 1) (b + 1) x' := by
        intro q hq
        obtain ⟨r1, p1, c1, h1, l1, u1⟩ := w_draw hX.toHasGen j os (k := k + 1) hq (m := (ns.length : Nat)) (by omega) (by omega)
        obtain ⟨i, rfl⟩ := Int.eq_ofNat_of_zero_le l1
        have hi : i < ns.length := by omega
        have e1 := at_map .str ns i hi
        obtain ⟨sl1, sl2⟩ := somes_len ns[i] x
        obtain ⟨r2, p2, c2, h2, l2, u2⟩ := w_draw hX.toHasGen j os (k := k) h1 (m := ((somes ns[i] x).length : Nat)) (by omega) (by omega)
        obtain ⟨a, rfl⟩ := Int.eq_ofNat_of_zero_le l2
        have ha : a < (somes ns[i] x).length := by omega
        have e2 := at_map Tre.d (somes ns[i] x) a ha
        have hf := somes_ft (nm := ns[i]) hx _ (List.getElem_mem ha)
        generalize (somes ns[i] x)[a] = y at e2 hf
        generalize hnm : ns[i] = nm at *
        have hn3 : ns.length ≤ 1000000 := by omega
        cases x with
        | many =>
          simp [somes, nodeQ_d, Tre.d] at e2 c2
          refine ⟨y, p2, _, by simp [d_law_bent_tree, Tre.d, c1, e1, c2, e2, hn3]; rfl, ⟨_, rfl⟩, h2, hf⟩
        | bar w z =>
          have hw : w ≠ "giver" := by
            have := hx.wid
            rw [widT, decide_eq_true_eq] at this
            rcases this with rfl | rfl <;> decide
          simp [somes, nodeQ_d, Tre.d] at e2 c2
          refine ⟨y, p2, _, by simp [d_law_bent_tree, Tre.d, c1, e1, c2, e2, hn3, hw]; rfl, ⟨_, rfl⟩, h2, hf⟩
        | node z rs =>
          have hx' : Ft d b (nodeQ z rs.list) := by rw [nodeQ, Rws.list_of]; exact hx
          obtain ⟨d', rfl, hl, hr⟩ := hx'.rows
          rw [show Tre.d (.node z rs) = .tuple [.str "giver", .str z, .tuple (rs.list.map rwD)] from by rw [Tre.d, Rws.ds_eq]]
          simp [somes, nodeQ_d, Tre.d] at e2 c2
          generalize rs.list = L at *
          have hl1 : L.length ≤ 999998 := by omega
          have g3 : L.length ≤ 999999 := by omega
          have g1 : L.length + min 1 L.length ≤ 1000000 := by omega
          have g2 : min 1 L.length + (L.length - 1) ≤ 1000000 := by omega
          have main : ∃ f r, exCs ⟨call X (j + 1), X.con, X.sub, X.xf, X.fuel, [0]⟩ (d_law_bent_tree.body.drop 1) ⟨[q.t, .bl (ns.map .str), .pl (.tuple [.str "giver", .str z, .tuple (L.map rwD)]), .un, .un, .un, .un, .un, .un, .un], os⟩ = .ok f ⟨p2.t :: r, os⟩ ∧ f = .rt (.pl y.d) := by
            simp [d_law_bent_tree, c1, e1, hn3, hl1, g1, g2, g3]
            generalize hC : comp _ _ _ _ _ _ _ = C
            have kC := hC.symm.trans (comp_all (enc := rwD) (l := L.take 1) (rwD ∘ fun r => (nm, r.2)) (by rw [List.map_take]) rfl (by rw [List.length_take]; omega) (fun x hx => by simp [turnC, fixC, rwD]) rfl rfl)
            subst kC
            simp [c2]
            have em : rwD (nm, Tre.many) = .tuple [.str nm, .tuple [.str "many"]] := rfl
            rw [em] at e2
            have gm : ((min 1 L.length : Nat) : Int) + ((L.length - 1 : Nat) : Int) ≤ 1000000 := by omega
            simp [g2, c2, e2]
          obtain ⟨f, r, e, rfl⟩ := main
          exact ⟨y, p2, _, e, ⟨_, rfl⟩, h2, hf⟩
      have skip : ∀ q : Pool, Pk (k + 2) q → exC ⟨call X (j + 1), X.con, X.sub, X.xf, X.fuel, [0]⟩ (d_law_bent_tree.body.getD 0 .pas) ⟨[p.t, .bl (ns.map .str), .pl x.d, .un, .un, .un, .un, .un, .un, .un], os⟩ = .ok .nx ⟨[q.t, .bl (ns.map .str), .pl x.d, .un, .un, .un, .un, .un, .un, .un], os⟩ → ∃ (x' : Tre) (p' : Pool) (s2 : S), exCs ⟨call X (j + 1), X.con, X.sub, X.xf, X.fuel, [0]⟩ d_law_bent_tree.body ⟨[p.t, .bl (ns.map .str), .pl x.d, .un, .un, .un, .un, .un, .un, .un], os⟩ = .ok (.rt (.pl x'.d)) s2 ∧ (∃ r, s2 = ⟨p'.t :: r, os⟩) ∧ Pk k p' ∧ Ft (d + 1) (b + 1) x' := by
        intro q hq e
        obtain ⟨x', p', s2, e2, r⟩ := tail q hq
        exact ⟨x', p', s2, (exCs_nx e).trans e2, r⟩
      cases x with
      | many => exact skip p (hp.le (by omega)) (by simp [d_law_bent_tree, Tre.d])
      | bar w z =>
        have hw : w ≠ "giver" := by
          have := hx.wid
          rw [widT, decide_eq_true_eq] at this
          rcases this with rfl | rfl <;> decide
        exact skip p (hp.le (by omega)) (by simp [d_law_bent_tree, Tre.d, hw])
      | node z rs =>
        have hx' : Ft d b (nodeQ z rs.list) := by rw [nodeQ, Rws.list_of]; exact hx
        obtain ⟨d', rfl, hl, hr⟩ := hx'.rows
        have hxd : Tre.d (.node z rs) = .tuple [.str "giver", .str z, .tuple (rs.list.map rwD)] := by rw [Tre.d, Rws.ds_eq]
        have e0 := eqD_rowsT (l := rs.list) fun x hx => by have := (hr x hx).dep; omega
        by_cases hne : rs.list = []
        · exact skip p (hp.le (by omega)) (by rw [hxd]; simp [d_law_bent_tree, hne])
        · obtain ⟨r1, p1, c1, h1, l1, u1⟩ := w_draw hX.toHasGen j os (k := k + 4 * (d' + 1) + 3) (p := p) (hp.le (by omega)) (m := 4) (by omega) (by omega)
          by_cases hr1 : 0 < r1
          · have hpos : 0 < rs.list.length := List.length_pos_iff.mpr hne
            obtain ⟨r2, p2, c2, h2, l2, u2⟩ := w_draw hX.toHasGen j os (k := k + 4 * (d' + 1)) (p := p1) (h1.le (by omega)) (m := (rs.list.length : Nat)) (by omega) (by omega)
            obtain ⟨i, rfl⟩ := Int.eq_ofNat_of_zero_le l2
            have hi : i < rs.list.length := by omega
            have ei := at_map rwD rs.list i hi
            have hf := hr _ (List.getElem_mem hi)
            obtain ⟨y, p3, c3, h3, f3⟩ := w_bent ns hn1 hn2 os d' n k b rs.list[i].2 p2 hf hb (by omega) h2
            have hjj : n + 2 + d' = j + 1 := by omega
            rw [hjj] at c3
            have hmin : min i rs.list.length = i := Nat.min_eq_left (by omega)
            have q0 : rs.list.length ≤ 1000000 := by omega
            have q1 : i ≤ 999999 := by omega
            have q2 : i + 1 + (rs.list.length - (i + 1)) ≤ 1000000 := by omega
            have ia := ixN_nat hi
            have er : rwD rs.list[i] = .tuple [.str rs.list[i].1, rs.list[i].2.d] := rfl
            rw [er] at ei
            have bt := bor_tre rs.list[i].2
            have hmem : ∀ x ∈ rs.list.take i ++ [(rs.list[i].1, y)] ++ rs.list.drop (i + 1), Ft (d' + 1) (b + 1) x.2 := fun x hx => by
              rcases List.mem_append.mp hx with h | h
              · rcases List.mem_append.mp h with h | h
                · exact (hr x (List.mem_of_mem_take h)).le (by omega) (by omega)
                · rw [List.mem_singleton.mp h]; exact f3
              · exact (hr x (List.mem_of_mem_drop h)).le (by omega) (by omega)
            have hlen : (rs.list.take i ++ [(rs.list[i].1, y)] ++ rs.list.drop (i + 1)).length ≤ b + 1 := by
              simp only [List.length_append, List.length_take, List.length_drop, List.length_cons, List.length_nil]; omega
            have hF := Ft.nodQ (a := z) hlen hmem
            generalize rs.list[i].1 = g1 at *
            generalize rs.list[i].2 = x1 at *
            generalize rs.list = L at *
            have main : ∃ r, exC ⟨call X (j + 1), X.con, X.sub, X.xf, X.fuel, [0]⟩ (d_law_bent_tree.body.getD 0 .pas) ⟨[p.t, .bl (ns.map .str), .pl (.tuple [.str "giver", .str z, .tuple (L.map rwD)]), .un, .un, .un, .un, .un, .un, .un], os⟩ = .ok (.rt (.pl (nodeQ z (L.take i ++ [(g1, y)] ++ L.drop (i + 1))).d)) ⟨p3.t :: r, os⟩ := by
              rw [nodeQ_d]
              simp [d_law_bent_tree, e0, hne, c1, hr1, c2, ei, bt, c3, hmin, q0, q1, q2, cut_from_n1, cut_to_nat, rwD]
            obtain ⟨r, e⟩ := main
            exact ⟨_, p3, _, exCs_rt (by rw [hxd]; exact e), ⟨_, rfl⟩, h3, hF⟩
          · exact skip p1 (h1.le (by omega)) (by rw [hxd]; simp [d_law_bent_tree, e0, hne, c1, hr1])
    obtain ⟨x', p', s2, e, ⟨r, rfl⟩, h1, h2⟩ := main
    refine ⟨x', p', ?_, h1, h2⟩
    rw [runF_fin]
    show fin _ (exCs ⟨call X (j + 1), X.con, X.sub, X.xf, X.fuel, [0]⟩ d_law_bent_tree.body ⟨[p.t, .bl (ns.map .str), .pl x.d, .un, .un, .un, .un, .un, .un, .un], os⟩) = _
    rw [e]
    simp
termination_by d => d
end
end K79
end PartM79
section PartMath79
set_option autoImplicit false
set_option linter.all false
set_option maxRecDepth 100000
set_option maxHeartbeats 4000000
/-! k79: the law. -/
namespace K79
open EV PySem Pl
theorem tied_few {l : List Str} {t : Tru} (ht : Trust l t) (z : Str) : (tied t z).length ≤ 20 := by
  have h1 := ht.tl
  have h2 := uniq_le ((t.ties.filter fun e => decide (e.r = z)).map Tie.g) []
  have h3 := List.length_filter_le (fun e : Tie => decide (e.r = z)) t.ties
  unfold tied
  rw [sortS_len]
  rw [List.length_map, List.length_nil] at h2
  omega
theorem hG : HasGen tx := ⟨rfl, rfl, rfl, rfl, rfl, rfl⟩
theorem hH : HasHolds tx := ⟨⟨rfl, rfl, rfl, rfl, rfl⟩, rfl, rfl, rfl, rfl, rfl⟩
theorem hL : HasLHolds tx := ⟨⟨rfl, rfl, rfl⟩, rfl, rfl, rfl⟩
theorem hX : Has79 tx := ⟨⟨hL, hG, rfl⟩, rfl⟩
theorem oN : optI none = .none := rfl
theorem oS (k : Int) : optI (some k) = .int k := rfl
theorem law_run (ns : List Int) : ∃ s2, exCs ⟨call tx 19, tx.con, tx.sub, tx.xf, tx.fuel, []⟩ d_law.body ⟨[.sl (ns.map .int), .un, .un, .un, .un, .un, .un, .un, .un, .un], []⟩ = .ok (.rt (.pl (.bool true))) s2 := by
  let st : T → T → T → T → T → T → T → T → T → S := fun x1 x2 x3 x4 x5 x6 x7 x8 x9 => ⟨[.sl (ns.map .int), x1, x2, x3, x4, x5, x6, x7, x8, x9], []⟩
  have main : ∃ f s2, exCs ⟨call tx 19, tx.con, tx.sub, tx.xf, tx.fuel, []⟩ d_law.body (st .un .un .un .un .un .un .un .un .un) = .ok f s2 ∧ f = .rt (.pl (.bool true)) := by
    unfold d_law
    obtain ⟨q0, hq0, hq⟩ : ∃ q : Nat, (if (if (ns.length : Int) < 2 then (ns.length : Int) else 2) > 1 then (if (ns.length : Int) < 2 then (ns.length : Int) else 2) else 1) = (q : Int) ∧ q ≤ 6 := by
      refine ⟨(if (if (ns.length : Int) < 2 then (ns.length : Int) else 2) > 1 then (if (ns.length : Int) < 2 then (ns.length : Int) else 2) else 1).toNat, ?_, ?_⟩
      · split <;> (try split) <;> omega
      · split <;> (try split) <;> omega
    have hq1 : -1000000 ≤ (q0 : Int) ∧ (q0 : Int) ≤ 1000000 := by omega
    refine seq_fl (R := fun s' => ∃ x1 x2 x3 x4 x5 x6 x7 x8 x9, s' = st x1 x2 x3 x4 x5 x6 x7 x8 x9) ?_ fun s' ⟨x1, x2, x3, x4, x5, x6, x7, x8, x9, e⟩ => ?_
    · refine for_ex (ds := rangeD 0 q0) (s1 := st .un .un .un .un .un .un .un .un .un) (by simp [st] at hq0 ⊢; simp [hq0, hq1]) ?_
      refine forL_ex (Inv := fun r s => ∃ (i q : Nat) (x1 x2 x3 x4 x5 x6 x7 x8 x9 : T), s = st x1 x2 x3 x4 x5 x6 x7 x8 x9 ∧ r = rangeD (i : Int) q ∧ i + q = q0) (fun d r s hI => ?_) ⟨0, q0, _, _, _, _, _, _, _, _, _, rfl, rfl, by omega⟩ fun s' ⟨i, q, x1, x2, x3, x4, x5, x6, x7, x8, x9, e, _, _⟩ => ⟨_, _, _, _, _, _, _, _, _, e⟩
      obtain ⟨i, q', x1, x2, x3, x4, x5, x6, x7, x8, x9, rfl, er, hi⟩ := hI
      obtain ⟨q, rfl, rfl, rfl⟩ := rangeD_cons er
      refine ⟨st (.pl (.int i)) x2 x3 x4 x5 x6 x7 x8 x9, by simp [st], ?_⟩
      refine seq_ex (R := fun s' => ∃ p : Pool, s' = st (.pl (.int i)) p.t x3 x4 x5 x6 x7 x8 x9 ∧ Pk 1000000 p) ?_ fun s' ⟨p, e, hp⟩ => ?_
      · obtain ⟨c, e1⟩ := w_cell_at hG 18 ns i []
        obtain ⟨p, e2, hp⟩ := w_pool hG 18 c i (by omega) []
        exact ⟨_, by simp [st, e1, e2], p, rfl, hp⟩
      subst e
      refine seq_ex (R := fun s' => ∃ (p : Pool) (t : Tru) (l : List Str), s' = st (.pl (.int i)) p.t (.pl t.d) x4 x5 x6 x7 x8 x9 ∧ Pk 900000 p ∧ Trust l t ∧ l.length ≤ 6) ?_ fun s' ⟨p, t, l, e, hp, ht, hl⟩ => ?_
      · obtain ⟨t, l, p', e1, hp', ht, hl⟩ := w_trust hG 16 (k := 900000) (p := p) (m := 5) [] (hp.le (by omega)) (by omega) (by omega)
        exact ⟨_, by simp [st] at e1 ⊢; simp [e1], p', t, l, rfl, hp', ht, by omega⟩
      subst e
      have hsm : TSm t := ⟨Nat.le_trans ht.tl (by omega), Nat.le_trans ht.w6 (by omega)⟩
      have hol : t.others.length ≤ 20 := by
        have := uniq_few ht
        unfold Tru.others
        rw [sortS_len]; omega
      generalize hnm : t.o :: "q" :: t.others = nm
      have hn1 : 1 ≤ nm.length := by rw [← hnm]; simp
      have hn2 : nm.length ≤ 100 := by rw [← hnm]; simp; omega
      rw [exCs_nx (s' := st (.pl (.int i)) p.t (.pl t.d) (.ol (nm.map .str)) x5 x6 x7 x8 x9) (by
        have co := w_others (X := tx) rfl 18 t [] hsm.tl hsm.wl
        have g1 : t.others.length ≤ 999998 := by omega
        have g2 : t.others.length + 2 ≤ 1000000 := by omega
        have g3 : 2 + t.others.length ≤ 1000000 := by omega
        simp [Tru.d] at co
        rw [← hnm]
        simp [st, Tru.d, co, g1, g2, g3])]
      refine seq_ex (R := fun s' => ∃ (p : Pool) (m : Option Int), s' = st (.pl (.int i)) p.t (.pl t.d) (.ol (nm.map .str)) (.pl (optI m)) x6 x7 x8 x9 ∧ Pk 800000 p) ?_ fun s' ⟨p, m, e, hp⟩ => ?_
      · obtain ⟨r1, p1, c1, h1, l1, u1⟩ := w_draw hG 18 [] (k := 800001) (p := p) (hp.le (by omega)) (m := 7) (by omega) (by omega)
        obtain ⟨r2, p2, c2, h2, l2, u2⟩ := w_draw hG 18 [] (k := 800000) (p := p1) h1 (m := 2) (by omega) (by omega)
        have : r2 = 0 ∨ r2 = 1 := by omega
        rcases this with rfl | rfl
        · exact ⟨_, by simp [st, c1, c2]; rfl, p2, none, by simp [st, optI], h2⟩
        · exact ⟨_, by simp [st, c1, c2]; rfl, p2, some r1, by simp [st, optI], h2⟩
      subst e
      refine seq_ex (R := fun s' => ∃ (p : Pool) (x : Tre), s' = st (.pl (.int i)) p.t (.pl t.d) (.ol (nm.map .str)) (.pl (optI m)) (.pl x.d) x7 x8 x9 ∧ Pk 700000 p ∧ Ft 5 20 x) ?_ fun s' ⟨p, x, e, hp, hx⟩ => ?_
      · have hgb : gB (l.length - 1) 5 ≤ 46656 := by
          unfold gB
          exact Nat.pow_le_pow_left (show l.length - 1 + 1 ≤ 6 by omega) 6
        obtain ⟨x, p', e1, k1, k2, k3, k4⟩ := w_grown hX.toHasGrown t l ht (by omega) m [] 5 9 700000 [] p ⟨List.nodup_nil, fun z hz => (nomatch hz), fun q hq => (nomatch hq)⟩ .nil (by simp; omega) (hp.le (by omega))
        simp [Tru.d] at e1
        exact ⟨st (.pl (.int i)) p'.t (.pl t.d) (.ol (nm.map .str)) (.pl (optI m)) (.pl x.d) x7 x8 x9, by simp [st, Tru.d, e1, bor_tre], p', x, rfl, k1, k3, GT_wid (tied_few ht) k2⟩
      subst e
      have wth : ∀ (m : Option Int) (x : Tre), Ft 7 22 x → call tx 19 "tree_holds" [.pl t.d, .pl (optI m), .pl x.d] [] [] [] = .ok (.pl (.bool (holdsT t m [] x))) [.un, .un, .un] [] := fun m x hx => w_tree_holds hH rfl 6 7 t hsm m x [] hx.dep (widT_thin (by omega) hx.wid) (by omega)
      have wlh : ∀ (m : Option Int) (x : Tre), Ft 7 22 x → call tx 19 "_law_holds" [.pl t.d, .pl (optI m), .pl (.list []), .pl x.d] [] [] [] = .ok (.pl (.bool (holdsT t m [] x))) [.un, .un, .un, .un] [] := fun m x hx => w_l_holds hL t hsm m [] 7 7 x [] hx.dep (widT_thin (by omega) hx.wid) .nil (by simp) (by omega)
      have itr : ∀ a b : Bool, call tx 19 "_law_truth" [.pl (.bool a), .pl (.bool b)] [] [] [] = .ok (.pl (.bool (decide (a = b)))) [.un, .un] [] := fun a b => w_truth tx rfl 18 a b []
      simp [Tru.d] at wth wlh
      refine seq_ex (R := fun s' => ∃ (p : Pool) (x7 : T), s' = st (.pl (.int i)) p.t (.pl t.d) (.ol (nm.map .str)) (.pl (optI m)) (.pl x.d) x7 x8 x9 ∧ Pk 600000 p) ?_ fun s' ⟨p, x7, e, hp⟩ => ?_
      · obtain ⟨r1, p1, c1, h1, l1, u1⟩ := w_draw hG 18 [] (k := 600000) (p := p) (hp.le (by omega)) (m := 4) (by omega) (by omega)
        have : ∃ L : List (Option Int), evI ⟨call tx 19, tx.con, tx.sub, tx.xf, tx.fuel, []⟩ (.gen (.bin .Add (.lst false [(.var 5)]) (.slc (.lst false [(.lit .none), (.lit (.int 0)), (.lit (.int 1)), (.lit (.int 2)), (.lit (.int 3)), (.lit (.int 5))]) (.bin .Add (.lit (.int 1)) (.call "_law_draw" [.s 2, .e (.lit (.int 4))] [] [])) (.lit .none)))) (st (.pl (.int i)) p.t (.pl t.d) (.ol (nm.map .str)) (.pl (optI m)) (.pl x.d) x7 x8 x9) = .ok (L.map optI, none) (st (.pl (.int i)) p1.t (.pl t.d) (.ol (nm.map .str)) (.pl (optI m)) (.pl x.d) x7 x8 x9) := by
          have : r1 = 0 ∨ r1 = 1 ∨ r1 = 2 ∨ r1 = 3 := by omega
          rcases this with rfl | rfl | rfl | rfl
          · exact ⟨[m, some 0, some 1, some 2, some 3, some 5], by simp [st, c1, oN, oS, List.map]⟩
          · exact ⟨[m, some 1, some 2, some 3, some 5], by simp [st, c1, oN, oS, List.map]⟩
          · exact ⟨[m, some 2, some 3, some 5], by simp [st, c1, oN, oS, List.map]⟩
          · exact ⟨[m, some 3, some 5], by simp [st, c1, oN, oS, List.map]⟩
        obtain ⟨L, eL⟩ := this
        refine for_ex eL ?_
        refine forL_ex (Inv := fun r s => ∃ (L : List (Option Int)) (x7 : T), s = st (.pl (.int i)) p1.t (.pl t.d) (.ol (nm.map .str)) (.pl (optI m)) (.pl x.d) x7 x8 x9 ∧ r = L.map optI) (fun d r s hI => ?_) ⟨L, x7, rfl, rfl⟩ fun s' ⟨L, x7, e, _⟩ => ⟨p1, x7, e, h1⟩
        obtain ⟨L, x7, rfl, eL⟩ := hI
        cases L with
        | nil => cases eL
        | cons o L =>
          rw [List.map_cons] at eL
          obtain ⟨rfl, rfl⟩ := List.cons.inj eL
          have e1 := wth o x (hx.le (by omega) (by omega))
          have e2 := wlh o x (hx.le (by omega) (by omega))
          have e3 := itr (holdsT t o [] x) (holdsT t o [] x)
          refine ⟨st (.pl (.int i)) p1.t (.pl t.d) (.ol (nm.map .str)) (.pl (optI m)) (.pl x.d) (.pl (optI o)) x8 x9, by simp [st], st (.pl (.int i)) p1.t (.pl t.d) (.ol (nm.map .str)) (.pl (optI m)) (.pl x.d) (.pl (optI o)) x8 x9, by simp [st, Tru.d, e1, e2, e3, bor_tre], L, _, rfl, rfl⟩
      subst e
      refine seq_ex (R := fun s' => ∃ (p : Pool) (x8 x9 : T), s' = st (.pl (.int i)) p.t (.pl t.d) (.ol (nm.map .str)) (.pl (optI m)) (.pl x.d) x7 x8 x9) ?_ fun s' ⟨p, x8, x9, e⟩ => ?_
      · refine for_ex (ds := rangeD 0 7) (s1 := st (.pl (.int i)) p.t (.pl t.d) (.ol (nm.map .str)) (.pl (optI m)) (.pl x.d) x7 x8 x9) (by simp [st]) ?_
        refine forL_ex (Inv := fun r s => ∃ (j q : Nat) (p : Pool) (x8 x9 : T), s = st (.pl (.int i)) p.t (.pl t.d) (.ol (nm.map .str)) (.pl (optI m)) (.pl x.d) x7 x8 x9 ∧ r = rangeD (j : Int) q ∧ Pk (100 * q) p) (fun d r s hI => ?_) ⟨0, 7, p, _, _, rfl, rfl, hp.le (by omega)⟩ fun s' ⟨j, q, p, x8, x9, e, _, _⟩ => ⟨p, _, _, e⟩
        obtain ⟨j, q', p, x8, x9, rfl, er, hp⟩ := hI
        obtain ⟨qq, rfl, rfl, rfl⟩ := rangeD_cons er
        refine ⟨st (.pl (.int i)) p.t (.pl t.d) (.ol (nm.map .str)) (.pl (optI m)) (.pl x.d) x7 (.pl (.int j)) x9, by simp [st], ?_⟩
        refine seq_ex (R := fun s' => ∃ (p : Pool) (y : Tre), s' = st (.pl (.int i)) p.t (.pl t.d) (.ol (nm.map .str)) (.pl (optI m)) (.pl x.d) x7 (.pl (.int j)) (.pl y.d) ∧ Ft 6 21 y ∧ Pk (100 * qq + 40) p) ?_ fun s' ⟨p, y, e, hy, hp⟩ => ?_
        · obtain ⟨y, p', e1, h1, h2⟩ := w_bent hX nm hn1 hn2 [] 5 12 (100 * qq + 40) 20 x p hx (by omega) (by omega) (hp.le (by omega))
          exact ⟨st (.pl (.int i)) p'.t (.pl t.d) (.ol (nm.map .str)) (.pl (optI m)) (.pl x.d) x7 (.pl (.int j)) (.pl y.d), by simp at e1; simp [st, e1, bor_tre], p', y, rfl, h2, h1⟩
        subst e
        refine seq_ex (R := fun s' => ∃ (p : Pool) (y : Tre), s' = st (.pl (.int i)) p.t (.pl t.d) (.ol (nm.map .str)) (.pl (optI m)) (.pl x.d) x7 (.pl (.int j)) (.pl y.d) ∧ Ft 7 22 y ∧ Pk (100 * qq) p) ?_ fun s' ⟨p, y, e, hy, hp⟩ => ?_
        · obtain ⟨r1, p1, c1, h1, l1, u1⟩ := w_draw hG 18 [] (k := 100 * qq + 39) (p := p) hp (m := 3) (by omega) (by omega)
          obtain ⟨y2, p2, e1, h3, h2⟩ := w_bent hX nm hn1 hn2 [] 6 11 (100 * qq) 21 y p1 hy (by omega) (by omega) (h1.le (by omega))
          by_cases hr : r1 = 0
          · subst hr
            exact ⟨st (.pl (.int i)) p2.t (.pl t.d) (.ol (nm.map .str)) (.pl (optI m)) (.pl x.d) x7 (.pl (.int j)) (.pl y2.d), by simp at e1; simp [st, c1, e1, bor_tre], p2, y2, rfl, h2, h3⟩
          · exact ⟨st (.pl (.int i)) p1.t (.pl t.d) (.ol (nm.map .str)) (.pl (optI m)) (.pl x.d) x7 (.pl (.int j)) (.pl y.d), by simp [st, c1, hr], p1, y, rfl, hy.le (by omega) (by omega), h1.le (by omega)⟩
        subst e
        have e1 := wth m y hy
        have e2 := wlh m y hy
        have e3 := itr (holdsT t m [] y) (holdsT t m [] y)
        exact ⟨st (.pl (.int i)) p.t (.pl t.d) (.ol (nm.map .str)) (.pl (optI m)) (.pl x.d) x7 (.pl (.int j)) (.pl y.d), by simp [st, Tru.d, e1, e2, e3, bor_tre], j + 1, qq, p, _, _, rfl, rfl, hp⟩
      subst e
      exact ⟨st (.pl (.int i)) p.t (.pl t.d) (.ol (nm.map .str)) (.pl (optI m)) (.pl x.d) x7 x8 x9, by simp [st], i + 1, q, _, _, _, _, _, _, _, _, _, rfl, rfl, by omega⟩
    subst e
    exact ⟨_, _, by simp [st]; rfl, rfl⟩
  obtain ⟨f, s2, e, rfl⟩ := main
  exact ⟨s2, e⟩
theorem math : ∀ ns : List Int, ns.length ≤ 63 → ∃ outs os', crOf tx d_law 20 [.sl (ns.map PyData.int)] [] = .ok (.pl (.bool true)) outs os' := by
  intro ns _
  obtain ⟨s2, e⟩ := law_run ns
  exact ⟨_, _, run_ret (P := ⟨call tx 19, tx.con, tx.sub, tx.xf, tx.fuel, []⟩) (fd := d_law) (ts := [.sl (ns.map PyData.int)]) (os := []) e⟩
end K79
end PartMath79
section PartTop79
set_option linter.all false
set_option maxRecDepth 100000
set_option maxHeartbeats 0
namespace K79
open EV PySem PySem.Spec PyProof.Rows L2
def top (i : Nat) : Stmt := PySem.Challenge.pw_leavechain_k79_trees_judged.main.body.getD i (.Pass ⟨0, 0, 0, 0⟩)
def dd (i : Nat) (x : Str) (kw : List (Str × He.Dv)) : He.DefD := ⟨(x, none), x, x, defArgs (top i), defBody (top i), defScope (top i), [], kw⟩
def e_is_row_of : Ent := ⟨"is_row_of", d_is_row_of, n_is_row_of, dd 1 "is_row_of" [], ["many", "thing"], []⟩
theorem b_is_row_of : EntB e_is_row_of := entB0 rfl rfl fun _ _ _ _ _ _ us hl => match us, hl with | [_, _], _ => rfl
def e_is_spanned : Ent := ⟨"is_spanned", d_is_spanned, n_is_spanned, dd 2 "is_spanned" [], ["trust", "giver", "receiver", "span"], []⟩
theorem b_is_spanned : EntB e_is_spanned := entB0 rfl rfl fun _ _ _ _ _ _ us hl => match us, hl with | [_, _, _, _], _ => rfl
def e_next_actor : Ent := ⟨"next_actor", d_next_actor, n_next_actor, dd 3 "next_actor" [], ["trust", "case"], []⟩
theorem b_next_actor : EntB e_next_actor := entB0 rfl rfl fun _ _ _ _ _ _ us hl => match us, hl with | [_, _], _ => rfl
def e_givers_of : Ent := ⟨"givers_of", d_givers_of, n_givers_of, dd 4 "givers_of" [], ["trust", "actor"], []⟩
theorem b_givers_of : EntB e_givers_of := entB0 rfl rfl fun _ _ _ _ _ _ us hl => match us, hl with | [_, _], _ => rfl
def e_comes_to : Ent := ⟨"comes_to", d_comes_to, n_comes_to, dd 5 "comes_to" [], ["case", "first", "actor"], []⟩
theorem b_comes_to : EntB e_comes_to := entB0 rfl rfl fun _ _ _ _ _ _ us hl => match us, hl with | [_, _, _], _ => rfl
def e_wishes_below : Ent := ⟨"wishes_below", d_wishes_below, n_wishes_below, dd 6 "wishes_below" [], ["trust", "case", "actor"], []⟩
theorem b_wishes_below : EntB e_wishes_below := entB0 rfl rfl fun _ _ _ _ _ _ us hl => match us, hl with | [_, _, _], _ => rfl
def e_span_of : Ent := ⟨"span_of", d_span_of, n_span_of, dd 7 "span_of" [], ["wishes"], []⟩
theorem b_span_of : EntB e_span_of := entB0 rfl rfl fun _ _ _ _ _ _ us hl => match us, hl with | [_], _ => rfl
def e_is_late : Ent := ⟨"is_late", d_is_late, n_is_late, dd 8 "is_late" [], ["trust", "case", "actor"], []⟩
theorem b_is_late : EntB e_is_late := entB0 rfl rfl fun _ _ _ _ _ _ us hl => match us, hl with | [_, _, _], _ => rfl
def e_is_bar : Ent := ⟨"is_bar", d_is_bar, n_is_bar, dd 9 "is_bar" [], ["trust", "case", "tree"], []⟩
theorem b_is_bar : EntB e_is_bar := entB0 rfl rfl fun _ _ _ _ _ _ us hl => match us, hl with | [_, _, _], _ => rfl
def e_holds_at : Ent := ⟨"holds_at", d_holds_at, n_holds_at, dd 10 "holds_at" [], ["trust", "most", "case", "tree"], []⟩
theorem b_holds_at : EntB e_holds_at := entB0 rfl rfl fun _ _ _ _ _ _ us hl => match us, hl with | [_, _, _, _], _ => rfl
def e_tree_holds : Ent := ⟨"tree_holds", d_tree_holds, n_tree_holds, dd 11 "tree_holds" [], ["trust", "most", "tree"], []⟩
theorem b_tree_holds : EntB e_tree_holds := entB0 rfl rfl fun _ _ _ _ _ _ us hl => match us, hl with | [_, _, _], _ => rfl
def e_law_cell_at : Ent := ⟨"_law_cell_at", d_law_cell_at, n_law_cell_at, dd 13 "_law_cell_at" [], ["script", "k"], []⟩
theorem b_law_cell_at : EntB e_law_cell_at := entB0 rfl rfl fun _ _ _ _ _ _ us hl => match us, hl with | [_, _], _ => rfl
def e_law_pool : Ent := ⟨"_law_pool", d_law_pool, n_law_pool, dd 14 "_law_pool" [], ["cell", "place"], []⟩
theorem b_law_pool : EntB e_law_pool := entB0 rfl rfl fun _ _ _ _ _ _ us hl => match us, hl with | [_, _], _ => rfl
def e_law_draw : Ent := ⟨"_law_draw", d_law_draw, n_law_draw, dd 15 "_law_draw" [], ["pool", "many"], []⟩
theorem b_law_draw : EntB e_law_draw := entB0 rfl rfl fun _ _ _ _ _ _ us hl => match us, hl with | [_, _], _ => rfl
def e_law_names : Ent := ⟨"_law_names", d_law_names, n_law_names, dd 16 "_law_names" [], ["pool", "many"], []⟩
theorem b_law_names : EntB e_law_names := entB0 rfl rfl fun _ _ _ _ _ _ us hl => match us, hl with | [_, _], _ => rfl
def e_law_span : Ent := ⟨"_law_span", d_law_span, n_law_span, dd 17 "_law_span" [], ["pool", "way"], []⟩
theorem b_law_span : EntB e_law_span := entB0 rfl rfl fun _ _ _ _ _ _ us hl => match us, hl with | [_, _], _ => rfl
def e_law_trust : Ent := ⟨"_law_trust", d_law_trust, n_law_trust, dd 18 "_law_trust" [], ["pool", "most"], []⟩
theorem b_law_trust : EntB e_law_trust := entB0 rfl rfl fun _ _ _ _ _ _ us hl => match us, hl with | [_, _], _ => rfl
def e_law_others : Ent := ⟨"_law_others", d_law_others, n_law_others, dd 19 "_law_others" [], ["trust"], []⟩
theorem b_law_others : EntB e_law_others := entB0 rfl rfl fun _ _ _ _ _ _ us hl => match us, hl with | [_], _ => rfl
def e_law_lies : Ent := ⟨"_law_lies", d_law_lies, n_law_lies, dd 20 "_law_lies" [], ["trust", "giver", "holder", "since", "until"], []⟩
theorem b_law_lies : EntB e_law_lies := entB0 rfl rfl fun _ _ _ _ _ _ us hl => match us, hl with | [_, _, _, _, _], _ => rfl
def e_law_next : Ent := ⟨"_law_next", d_law_next, n_law_next, dd 21 "_law_next" [], ["trust", "case"], []⟩
theorem b_law_next : EntB e_law_next := entB0 rfl rfl fun _ _ _ _ _ _ us hl => match us, hl with | [_, _], _ => rfl
def e_law_comes : Ent := ⟨"_law_comes", d_law_comes, n_law_comes, dd 22 "_law_comes" [], ["case", "first", "goal"], []⟩
theorem b_law_comes : EntB e_law_comes := entB0 rfl rfl fun _ _ _ _ _ _ us hl => match us, hl with | [_, _, _], _ => rfl
def e_law_late : Ent := ⟨"_law_late", d_law_late, n_law_late, dd 23 "_law_late" [], ["trust", "case", "actor"], []⟩
theorem b_law_late : EntB e_law_late := entB0 rfl rfl fun _ _ _ _ _ _ us hl => match us, hl with | [_, _, _], _ => rfl
def e_law_tied : Ent := ⟨"_law_tied", d_law_tied, n_law_tied, dd 24 "_law_tied" [], ["trust", "actor"], []⟩
theorem b_law_tied : EntB e_law_tied := entB0 rfl rfl fun _ _ _ _ _ _ us hl => match us, hl with | [_, _], _ => rfl
def e_law_holds : Ent := ⟨"_law_holds", d_law_holds, n_law_holds, dd 25 "_law_holds" [], ["trust", "most", "case", "tree"], []⟩
theorem b_law_holds : EntB e_law_holds := entB0 rfl rfl fun _ _ _ _ _ _ us hl => match us, hl with | [_, _, _, _], _ => rfl
def e_law_grown : Ent := ⟨"_law_grown", d_law_grown, n_law_grown, dd 26 "_law_grown" [], ["pool", "trust", "most", "case"], []⟩
theorem b_law_grown : EntB e_law_grown := entB0 rfl rfl fun _ _ _ _ _ _ us hl => match us, hl with | [_, _, _, _], _ => rfl
def e_law_bent_tree : Ent := ⟨"_law_bent_tree", d_law_bent_tree, n_law_bent_tree, dd 27 "_law_bent_tree" [], ["pool", "names", "tree"], []⟩
theorem b_law_bent_tree : EntB e_law_bent_tree := entB0 rfl rfl fun _ _ _ _ _ _ us hl => match us, hl with | [_, _, _], _ => rfl
def e_law_truth : Ent := ⟨"_law_truth", d_law_truth, n_law_truth, dd 28 "_law_truth" [], ["found", "due"], []⟩
theorem b_law_truth : EntB e_law_truth := entB0 rfl rfl fun _ _ _ _ _ _ us hl => match us, hl with | [_, _], _ => rfl
def e_law : Ent := ⟨"law", d_law, n_law, dd 29 "law" [], ["script"], []⟩
theorem b_law : EntB e_law := entB0 rfl rfl fun _ _ _ _ _ _ us hl => match us, hl with | [_], _ => rfl
def tbl0 : List Ent := [e_is_row_of, e_is_spanned, e_next_actor, e_givers_of, e_comes_to, e_wishes_below, e_span_of, e_is_late, e_is_bar, e_holds_at, e_tree_holds, e_law_cell_at, e_law_pool, e_law_draw, e_law_names, e_law_span, e_law_trust, e_law_others, e_law_lies, e_law_next, e_law_comes, e_law_late, e_law_tied, e_law_holds, e_law_grown, e_law_bent_tree, e_law_truth, e_law]
def tbl : List Ent := tbl0
def fns0 : List (String × Nat) := [("is_row_of", 2), ("is_spanned", 4), ("next_actor", 2), ("givers_of", 2), ("comes_to", 3), ("wishes_below", 3), ("span_of", 1), ("is_late", 3), ("is_bar", 3), ("holds_at", 4), ("tree_holds", 3), ("_law_cell_at", 2), ("_law_pool", 2), ("_law_draw", 2), ("_law_names", 2), ("_law_span", 2), ("_law_trust", 2), ("_law_others", 1), ("_law_lies", 5), ("_law_next", 2), ("_law_comes", 3), ("_law_late", 3), ("_law_tied", 2), ("_law_holds", 4), ("_law_grown", 4), ("_law_bent_tree", 3), ("_law_truth", 2), ("law", 1)]
def fns : List (String × Nat) := fns0
def free : List String := ["len", "max", "min", "int", "str", "list", "tuple", "dict", "set", "sorted", "all", "range", "isinstance", "bool"]
def fa0 : List He.Fa := [.glo "is_row_of", .glo "is_spanned", .glo "next_actor", .glo "givers_of", .glo "comes_to", .glo "wishes_below", .glo "span_of", .glo "is_late", .glo "is_bar", .glo "holds_at", .glo "tree_holds", .glo "_law_cell_at", .glo "_law_pool", .glo "_law_draw", .glo "_law_names", .glo "_law_span", .glo "_law_trust", .glo "_law_others", .glo "_law_lies", .glo "_law_next", .glo "_law_comes", .glo "_law_late", .glo "_law_tied", .glo "_law_holds", .glo "_law_grown", .glo "_law_bent_tree", .glo "_law_truth", .glo "law", .free "len", .free "max"]
def fa1 : List He.Fa := [.free "min", .free "int", .free "str", .free "list", .free "tuple", .free "dict", .free "set", .free "sorted", .free "all", .free "range", .free "isinstance", .free "bool"]
def fa : List He.Fa := fa0 ++ fa1
def lo0 : List PySem.Str := ["__name__", "is_row_of", "is_spanned", "next_actor", "givers_of", "comes_to", "wishes_below", "span_of", "is_late", "is_bar", "holds_at", "tree_holds", "_law_cell_at", "_law_pool", "_law_draw", "_law_names", "_law_span", "_law_trust", "_law_others", "_law_lies", "_law_next", "_law_comes", "_law_late", "_law_tied", "_law_holds", "_law_grown", "_law_bent_tree", "_law_truth"]
def lo : List PySem.Str := lo0
def L : LawT := ⟨tbl, fns, free, cons, fa, tx, e_law⟩
theorem chk : allB tbl fns (cons.map (·.1)) free = true := by decide +kernel
theorem h_fd : ∀ e ∈ tbl, tx.fd e.nm = some e.fi := by
  intro e he
  simp only [tbl, tbl0, List.cons_append, List.nil_append, List.mem_cons, List.not_mem_nil, or_false] at he
  rcases he with rfl | rfl | rfl | rfl | rfl | rfl | rfl | rfl | rfl | rfl | rfl | rfl | rfl | rfl | rfl | rfl | rfl | rfl | rfl | rfl | rfl | rfl | rfl | rfl | rfl | rfl | rfl | rfl
  · rfl
  · rfl
  · rfl
  · rfl
  · rfl
  · rfl
  · rfl
  · rfl
  · rfl
  · rfl
  · rfl
  · rfl
  · rfl
  · rfl
  · rfl
  · rfl
  · rfl
  · rfl
  · rfl
  · rfl
  · rfl
  · rfl
  · rfl
  · rfl
  · rfl
  · rfl
  · rfl
  · rfl
theorem h_at : ∀ e ∈ tbl, ∃ x : Str, x = Str.ofString e.nm ∧ e.d.at_ = (x, none) ∧ He.Fa.glo x ∈ fa := by
  intro e he
  simp only [tbl, tbl0, List.cons_append, List.nil_append, List.mem_cons, List.not_mem_nil, or_false] at he
  rcases he with rfl | rfl | rfl | rfl | rfl | rfl | rfl | rfl | rfl | rfl | rfl | rfl | rfl | rfl | rfl | rfl | rfl | rfl | rfl | rfl | rfl | rfl | rfl | rfl | rfl | rfl | rfl | rfl
  · exact ⟨"is_row_of", rfl, rfl, List.mem_of_getElem? (i := 0) rfl⟩
  · exact ⟨"is_spanned", rfl, rfl, List.mem_of_getElem? (i := 1) rfl⟩
  · exact ⟨"next_actor", rfl, rfl, List.mem_of_getElem? (i := 2) rfl⟩
  · exact ⟨"givers_of", rfl, rfl, List.mem_of_getElem? (i := 3) rfl⟩
  · exact ⟨"comes_to", rfl, rfl, List.mem_of_getElem? (i := 4) rfl⟩
  · exact ⟨"wishes_below", rfl, rfl, List.mem_of_getElem? (i := 5) rfl⟩
  · exact ⟨"span_of", rfl, rfl, List.mem_of_getElem? (i := 6) rfl⟩
  · exact ⟨"is_late", rfl, rfl, List.mem_of_getElem? (i := 7) rfl⟩
  · exact ⟨"is_bar", rfl, rfl, List.mem_of_getElem? (i := 8) rfl⟩
  · exact ⟨"holds_at", rfl, rfl, List.mem_of_getElem? (i := 9) rfl⟩
  · exact ⟨"tree_holds", rfl, rfl, List.mem_of_getElem? (i := 10) rfl⟩
  · exact ⟨"_law_cell_at", rfl, rfl, List.mem_of_getElem? (i := 11) rfl⟩
  · exact ⟨"_law_pool", rfl, rfl, List.mem_of_getElem? (i := 12) rfl⟩
  · exact ⟨"_law_draw", rfl, rfl, List.mem_of_getElem? (i := 13) rfl⟩
  · exact ⟨"_law_names", rfl, rfl, List.mem_of_getElem? (i := 14) rfl⟩
  · exact ⟨"_law_span", rfl, rfl, List.mem_of_getElem? (i := 15) rfl⟩
  · exact ⟨"_law_trust", rfl, rfl, List.mem_of_getElem? (i := 16) rfl⟩
  · exact ⟨"_law_others", rfl, rfl, List.mem_of_getElem? (i := 17) rfl⟩
  · exact ⟨"_law_lies", rfl, rfl, List.mem_of_getElem? (i := 18) rfl⟩
  · exact ⟨"_law_next", rfl, rfl, List.mem_of_getElem? (i := 19) rfl⟩
  · exact ⟨"_law_comes", rfl, rfl, List.mem_of_getElem? (i := 20) rfl⟩
  · exact ⟨"_law_late", rfl, rfl, List.mem_of_getElem? (i := 21) rfl⟩
  · exact ⟨"_law_tied", rfl, rfl, List.mem_of_getElem? (i := 22) rfl⟩
  · exact ⟨"_law_holds", rfl, rfl, List.mem_of_getElem? (i := 23) rfl⟩
  · exact ⟨"_law_grown", rfl, rfl, List.mem_of_getElem? (i := 24) rfl⟩
  · exact ⟨"_law_bent_tree", rfl, rfl, List.mem_of_getElem? (i := 25) rfl⟩
  · exact ⟨"_law_truth", rfl, rfl, List.mem_of_getElem? (i := 26) rfl⟩
  · exact ⟨"law", rfl, rfl, List.mem_of_getElem? (i := 27) rfl⟩
theorem h_kw : ∀ e ∈ tbl, kwEq (kwFill [] [] e.fi.kw) e.dds = true := by
  intro e he
  simp only [tbl, tbl0, List.cons_append, List.nil_append, List.mem_cons, List.not_mem_nil, or_false] at he
  rcases he with rfl | rfl | rfl | rfl | rfl | rfl | rfl | rfl | rfl | rfl | rfl | rfl | rfl | rfl | rfl | rfl | rfl | rfl | rfl | rfl | rfl | rfl | rfl | rfl | rfl | rfl | rfl | rfl
  · decide +kernel
  · decide +kernel
  · decide +kernel
  · decide +kernel
  · decide +kernel
  · decide +kernel
  · decide +kernel
  · decide +kernel
  · decide +kernel
  · decide +kernel
  · decide +kernel
  · decide +kernel
  · decide +kernel
  · decide +kernel
  · decide +kernel
  · decide +kernel
  · decide +kernel
  · decide +kernel
  · decide +kernel
  · decide +kernel
  · decide +kernel
  · decide +kernel
  · decide +kernel
  · decide +kernel
  · decide +kernel
  · decide +kernel
  · decide +kernel
  · decide +kernel
theorem h_pl : ∀ e ∈ tbl, e.fi.ps.length + e.dds.length = e.ps.length := by
  intro e he
  simp only [tbl, tbl0, List.cons_append, List.nil_append, List.mem_cons, List.not_mem_nil, or_false] at he
  rcases he with rfl | rfl | rfl | rfl | rfl | rfl | rfl | rfl | rfl | rfl | rfl | rfl | rfl | rfl | rfl | rfl | rfl | rfl | rfl | rfl | rfl | rfl | rfl | rfl | rfl | rfl | rfl | rfl
  · rfl
  · rfl
  · rfl
  · rfl
  · rfl
  · rfl
  · rfl
  · rfl
  · rfl
  · rfl
  · rfl
  · rfl
  · rfl
  · rfl
  · rfl
  · rfl
  · rfl
  · rfl
  · rfl
  · rfl
  · rfl
  · rfl
  · rfl
  · rfl
  · rfl
  · rfl
  · rfl
  · rfl
theorem h_bd : ∀ e ∈ tbl, EntB e := by
  intro e he
  simp only [tbl, tbl0, List.cons_append, List.nil_append, List.mem_cons, List.not_mem_nil, or_false] at he
  rcases he with rfl | rfl | rfl | rfl | rfl | rfl | rfl | rfl | rfl | rfl | rfl | rfl | rfl | rfl | rfl | rfl | rfl | rfl | rfl | rfl | rfl | rfl | rfl | rfl | rfl | rfl | rfl | rfl
  · exact b_is_row_of
  · exact b_is_spanned
  · exact b_next_actor
  · exact b_givers_of
  · exact b_comes_to
  · exact b_wishes_below
  · exact b_span_of
  · exact b_is_late
  · exact b_is_bar
  · exact b_holds_at
  · exact b_tree_holds
  · exact b_law_cell_at
  · exact b_law_pool
  · exact b_law_draw
  · exact b_law_names
  · exact b_law_span
  · exact b_law_trust
  · exact b_law_others
  · exact b_law_lies
  · exact b_law_next
  · exact b_law_comes
  · exact b_law_late
  · exact b_law_tied
  · exact b_law_holds
  · exact b_law_grown
  · exact b_law_bent_tree
  · exact b_law_truth
  · exact b_law
theorem h_fr : ∀ x, free.contains x = true → He.Fa.free (Str.ofString x) ∈ fa := by
  intro x hx
  simp only [free, List.contains_cons, List.contains_nil, Bool.or_eq_true, Bool.false_eq_true, beq_iff_eq, or_false] at hx
  rcases hx with rfl | rfl | rfl | rfl | rfl | rfl | rfl | rfl | rfl | rfl | rfl | rfl | rfl | rfl
  · exact List.mem_of_getElem? (i := 28) rfl
  · exact List.mem_of_getElem? (i := 29) rfl
  · exact List.mem_of_getElem? (i := 30) rfl
  · exact List.mem_of_getElem? (i := 31) rfl
  · exact List.mem_of_getElem? (i := 32) rfl
  · exact List.mem_of_getElem? (i := 33) rfl
  · exact List.mem_of_getElem? (i := 34) rfl
  · exact List.mem_of_getElem? (i := 35) rfl
  · exact List.mem_of_getElem? (i := 36) rfl
  · exact List.mem_of_getElem? (i := 37) rfl
  · exact List.mem_of_getElem? (i := 38) rfl
  · exact List.mem_of_getElem? (i := 39) rfl
  · exact List.mem_of_getElem? (i := 40) rfl
  · exact List.mem_of_getElem? (i := 41) rfl
theorem h_fn : ∀ g n, fns.contains (g, n) = true → ∃ e ∈ tbl, e.nm = g ∧ n = e.fi.ps.length := by
  intro g n h
  have h : (g, n) ∈ fns := by simpa using h
  have e : fns = tbl.map fun e => (e.nm, e.fi.ps.length) := rfl
  rw [e] at h
  obtain ⟨e, he, q⟩ := List.mem_map.mp h
  cases q
  exact ⟨e, he, rfl, rfl⟩
theorem ok : LawOk L where
  con := fun _ => rfl
  chk := chk
  fd := h_fd
  at_ := h_at
  kw := h_kw
  pl := h_pl
  bd := h_bd
  fr := h_fr
  fn := h_fn
  law := List.mem_of_getElem? (i := 27) rfl
  nm := rfl
  lps := rfl
  lkw := rfl
  lb := fun _ _ _ _ _ _ us hl => match us, hl with | [_], _ => rfl
abbrev R : PySem.W.OpenRow := PySem.W.OpenLaw.row PySem.Challenge.rw_leavechain_k79_trees_judged
def ex (K : PySem.W.Frag) : Bool := cB K cons
def fn : List He.DefD := tbl.map (·.d)
abbrev hk : PySem.W.Hook := He.hookX 5 fa fn [] [] ex
def ob (s : PySem.W.SharedT) : He.AlX := He.obsX 5 fa fn [] [] ex (HandSHeadRun.getT s)
theorem ob_eq (s : PySem.W.SharedT) : ob s = hk.obs s.abs := He.obsX_eq (HandSHeadRun.getT_eq s)
theorem run (w : World) : HandSHeadRun.RunEq R (PySem.W.view R.prog [29]) hk ob 4000 lo w := by
  intro os
  kernel_rfl
end K79
open PySem PySem.W PySem.Calls PyProof.Rows
theorem PySem.Challenge.cw_leavechain_k79_trees_judged_holds : PySem.Challenge.rw_leavechain_k79_trees_judged.Holds := by
  w_on; o_law
  refine HandSHeadRun.head_any (r := K79.R) (q := view (K79.R).prog [29]) (H := K79.hk) (ob := K79.ob) (M := 4000) (loose := K79.lo) (d := HandSHeadRun.topDef (K79.R).prog 29) (kwd := []) K79.ob_eq
    (by kernel_rfl) (fun s => by kernel_rfl) K79.run (by kernel_rfl) (by kernel_rfl) (by kernel_rfl) (by rfl) (by first | assumption | decide +kernel) (by decide +kernel) ⟨rfl, rfl, rfl, rfl, rfl, by decide +kernel⟩ ?hw ?hc
  case hw => w_witness2
  case hc =>
    refine L2.walk_ofE (l := PySem.Challenge.rw_leavechain_k79_trees_judged) (n := 63) (k := 20) (x := "script") (CX := fun _ _ _ _ _ _ => False) rfl (by decide) (by kernel_rfl) ⟨rfl, by decide, by decide⟩ ?F (fun _ _ _ _ z => z)
    intro w mg fa h Y G hmg0
    obtain ⟨K, KX, c⟩ := Y
    have hmg : mg ("law" : PySem.Str) = some (.ref fa) := by
      have e : (HandSHeadRun.topDef (K79.R).prog 29).name = ("law" : PySem.Str) := by kernel_rfl
      rw [← e]
      exact hmg0
    obtain ⟨fd, sp, h1, h2, h3⟩ := EV.law_fn K79.ok (P := (PySem.Challenge.rw_leavechain_k79_trees_judged).prog) KX G c 20 K79.math hmg
    exact ⟨K, fd, sp, KX, h1, h2, h3⟩
end PartTop79
