import PyProof.Rows.All
import HandS.ForMost
import HandS.ForExc
import HandS.TryMany
import HandS.Style
import HandS.IsInst
import HandS.Defaults
import HandS.Wide
import HandS.Flow
import HandS.FStr
import HandS.Walk
import HandS.CallSlots
import HandS.More
import HandS.Deep
import PyProof.ListStr
import HandS.Small
import HandS.ExcIs
import KE.KExcSuper
import HandS.ExcInit
import HandS.ListItems
import HandS.GenList
import HandS.ExcOwn
import HandS.Head0
import HandS.Head1
import HandS.Head2
import HandS.HeadEnd
import HandS.HeadHook1
import HandS.HeadHook2
import HandS.Codes
import PyProof.StrBlock2
import PyProof.Rows.StrRev
import PySem.Challenge.RW_mendedtexts_k01_letters_and_fillings
set_option Elab.async false
section
set_option Elab.async false
set_option linter.all false
set_option maxRecDepth 100000
set_option maxHeartbeats 4000000
/-! PV1: data without a heap, codes, the pure interpreter -/
namespace PV
open PySem

/-- a value that nobody changes -/
inductive D where
  | non | bl (b : Bool) | int (i : Int) | str (s : Str)
  | tup (xs : List D) | lst (xs : List D)
  | dic (ks : List L2.Key) (vs : List D)
  | obj (c : Str) (ns : List Str) (vs : List D)
instance : Inhabited D := ⟨.non⟩
/-- a tree of lists and dicts that one slot alone holds; its leaves are values -/
inductive OD where
  | fro (d : D)
  | lst (xs : List OD)
  | dic (ks : List L2.Key) (vs : List OD)
instance : Inhabited OD := ⟨.fro .non⟩
mutual
def OD.toD : OD → D
  | .fro d => d
  | .lst xs => .lst (OD.toDs xs)
  | .dic ks vs => .dic ks (OD.toDs vs)
def OD.toDs : List OD → List D
  | [] => []
  | x :: xs => OD.toD x :: OD.toDs xs
end

inductive Slot where
  | non | fro (d : D) (pin : Option Nat) | own (o : OD) (pin : Option Nat) | exc (c : Str) (ns : List Str) (vs : List D)
abbrev Env := List Slot
structure Exn where
  cls : Str
  ns : List Str
  vs : List D
inductive Out (α : Type) where
  | ok (a : α) (e : Env) | err (x : Exn) (e : Env) | bad
/-- an operand: a value, or what slot i holds -/
inductive At where
  | val (d : D) | pl (i : Nat)
/-- an expression's result: an operand, or a tree that nobody holds yet -/
inductive Res where
  | at_ (a : At) | frs (o : OD)
inductive RV where
  | val (d : D) | frs (o : OD)
def RV.res : RV → Res
  | .val d => .at_ (.val d)
  | .frs d => .frs d
inductive FOut where
  | ret (r : RV) (outs : List Slot) | err (x : Exn) (outs : List Slot) | bad

def Out.bind {α β : Type} (o : Out α) (f : α → Env → Out β) : Out β := match o with
  | .ok a e => f a e
  | .err x e => .err x e
  | .bad => .bad
def lift {α β : Type} (o : Option α) (f : α → Out β) : Out β := match o with
  | some a => f a
  | none => .bad

def slotAt (e : Env) (i : Nat) : Slot := e.getD i .non
def treeAt (e : Env) (i : Nat) : Option OD := match slotAt e i with
  | .own o _ => some o
  | _ => none
def putAt (e : Env) (i : Nat) (n : OD) : Env := match slotAt e i with
  | .own _ pin => e.set i (.own n pin)
  | _ => e
/-- what an operand reads as -/
def look (e : Env) : At → Option D
  | .val d => some d
  | .pl i => match slotAt e i with
    | .own o _ => some o.toD
    | .fro d _ => some d
    | _ => none
/-- an operand that is kept elsewhere too: a tree is frozen -/
def keep (e : Env) : At → Option (D × Env)
  | .val d => some (d, e)
  | .pl i => match slotAt e i with
    | .own o pin => some (o.toD, e.set i (.fro o.toD pin))
    | .fro d _ => some (d, e)
    | _ => none
/-- .. or moved, where it is a new tree (a slot from n on) -/
def take (n : Nat) (e : Env) : At → Option (OD × Env)
  | .val d => some (.fro d, e)
  | .pl i => match slotAt e i with
    | .own o pin => if n ≤ i then some (o, e.set i .non) else some (.fro o.toD, e.set i (.fro o.toD pin))
    | .fro d _ => some (.fro d, e)
    | _ => none
/-- a result as an operand: a new tree gets a slot of its own -/
def asAt (r : Res) (e : Env) : At × Env := match r with
  | .at_ a => (a, e)
  | .frs o => (.pl e.length, e ++ [.own o none])

/-! ### operators -/
inductive Bop where | add | sub | mul | fdiv | mod | pow
  deriving DecidableEq
inductive Cop where | eq | ne | lt | le | gt | ge | is_ | isnot | mem | nmem | dmem | dnmem
  deriving DecidableEq
@[irreducible] def LIM : Nat := 1000000
@[irreducible] def BIG : Nat := 2 ^ 8000

mutual
def D.toP : D → Option PyData
  | .non => some .none
  | .bl b => some (.bool b)
  | .int i => some (.int i)
  | .str s => some (.str s)
  | .tup xs => (D.toPs xs).map .tuple
  | .lst xs => (D.toPs xs).map .list
  | _ => none
def D.toPs : List D → Option (List PyData)
  | [] => some []
  | x :: xs => match D.toP x, D.toPs xs with
    | some p, some ps => some (p :: ps)
    | _, _ => none
end
def shP (d : D) : Option PyData := match d.toP with
  | some p => if SeqAt.shaped p = true then some p else none
  | none => none
def deq (x y : D) : Option Bool := match shP x, shP y with
  | some p, some q => some (PyData.eqv p q)
  | _, _ => none
def strIn (a b : Str) : Bool := !(Builtin.Str.occurrences b a 0 b.length 1).isEmpty
def memD (x y : D) : Option Bool := match x, y with
  | .str a, .str b => some (strIn a b)
  | x, .lst ds => match shP x, shP (.lst ds) with
    | some p, some (.list ps) => some (ps.any fun z => PyData.eqv z p)
    | _, _ => none
  | x, .tup ds => match shP x, shP (.tup ds) with
    | some p, some (.tuple ps) => some (ps.any fun z => PyData.eqv z p)
    | _, _ => none
  | _, _ => none
def keyD : D → Option L2.Key
  | .int i => some (.inl i)
  | .str s => some (.inr s)
  | _ => none
/-- a key in a dict -/
def dmemD (x y : D) : Option Bool := match keyD x, y with
  | some k, .dic ks _ => some (ks.any fun a => decide (a = k))
  | _, _ => none

/-- + and the like: the value, or a new list -/
def bop (op : Bop) (x y : D) : Option Res := match op, x, y with
  | .add, .int i, .int j => some (.at_ (.val (.int (i + j))))
  | .sub, .int i, .int j => some (.at_ (.val (.int (i - j))))
  | .mul, .int i, .int j => if i.natAbs < BIG ∧ j.natAbs < BIG then some (.at_ (.val (.int (i * j)))) else none
  | .fdiv, .int i, .int j => if 0 < j ∧ j.natAbs < BIG then some (.at_ (.val (.int (i / j)))) else none
  | .mod, .int i, .int j => if 0 < j then some (.at_ (.val (.int (i % j)))) else none
  | .pow, .int i, .int j => if (0 ≤ j ∧ j ≤ 1000) ∧ (i.natAbs < 2 ^ 64 ∨ (2 ≤ i ∧ 1 ≤ j ∧ i.natAbs < BIG)) then some (.at_ (.val (.int (i ^ j.toNat)))) else none
  | .add, .str s, .str t => if s.length + t.length ≤ LIM then some (.at_ (.val (.str (s ++ t)))) else none
  | .add, .lst xs, .lst ys => if xs.length + ys.length ≤ LIM then some (.frs (.lst ((xs ++ ys).map .fro))) else none
  | .mul, .str s, .int k => if s.length ≤ 16 ∧ 0 ≤ k ∧ k ≤ 10000 then some (.at_ (.val (.str (Txt.mul s k)))) else none
  | .mul, .lst xs, .int k => if 0 ≤ k ∧ k ≤ 1000 ∧ xs.length * k.toNat ≤ LIM then some (.frs (.lst ((List.replicate k.toNat xs).flatten.map .fro))) else none
  | _, _, _ => none
def isNon : D → Bool
  | .non => true
  | _ => false
def cop (op : Cop) (x y : D) : Option Bool := match op, x, y with
  | .eq, x, y => deq x y
  | .ne, x, y => (deq x y).map not
  | .lt, .int i, .int j => some (decide (i < j))
  | .le, .int i, .int j => some (decide (i ≤ j))
  | .gt, .int i, .int j => some (decide (j < i))
  | .ge, .int i, .int j => some (decide (j ≤ i))
  | .lt, .str i, .str j => some (decide (i.cps.toList < j.cps.toList))
  | .is_, x, .non => some (isNon x)
  | .isnot, x, .non => some (!isNon x)
  | .mem, x, y => memD x y
  | .nmem, x, y => (memD x y).map not
  | .dmem, x, y => dmemD x y
  | .dnmem, x, y => (dmemD x y).map not
  | _, _, _ => none
def truthy : D → Option Bool
  | .non => some false
  | .bl b => some b
  | .int i => some (i != 0)
  | .str s => if s.length ≤ LIM then some (s.length != 0) else none
  | .lst xs => some (!xs.isEmpty)
  | .tup xs => some (!xs.isEmpty)
  | .dic ks _ => some (!ks.isEmpty)
  | .obj _ _ _ => none

/-! ### codes -/
/-- built-in functions, by name -/
inductive Bi where
  | len | abs | int | sum | list | tuple | max2 | min2 | max1 | min1 | all | any | str | isinst (cs : List String) | sorted | dict0 | bool
  deriving DecidableEq
/-- methods that change nothing -/
inductive Mt where
  | join | find | startswith | split | items | get1 | get2 | count | index | values | keys
  deriving DecidableEq
/-- methods that change their object -/
inductive Mu where
  | append | pop0 | popAt | insert | extend | reverse | clear | dpop1 | dpop2
  deriving DecidableEq
/-- what a for walks: a value; range; enumerate; zip; d.items() -/
inductive Ik where
  | seq | rng | enum | zip | items
  deriving DecidableEq
inductive Tg where
  | nm (i : Nat) | tup (ts : List Nat)
mutual
inductive CE where
  | var (i : Nat)
  | cst (d : D)
  | bin (op : Bop) (a b : CE)
  | neg (a : CE)
  | cmp (op : Cop) (a b : CE)
  | chn (o1 o2 : Cop) (a b c : CE)
  | and_ (a b : CE) | or_ (a b : CE) | not_ (a : CT)
  | ite (t : CT) (a b : CE)
  | tup (es : List CE) | lst (es : List CE)
  | dic0
  | ix (a b : CE)
  | dix (a b : CE)
  | sl (a : CE) (lo hi : Option CE)
  | rev (a : CE)
  /-- list(d.items()) -/
  | items (a : CE)
  | bi (f : Bi) (es : List CE)
  | mt (m : Mt) (o : CE) (es : List CE)
  | mu (m : Mu) (o : CE) (es : List CE)
  | call (f : Str) (es : List CE) (dv : List D) (pm : List Nat)
  /-- a call that only reads: trees are lent -/
  | callR (f : Str) (es : List CE) (dv : List D) (pm : List Nat)
  | lc (tg : Tg) (own : List Nat) (k : Ik) (src : List CE) (ts : List CT) (elt : CE)
  | exat (i : Nat) (f : Str)
  | exis (i : Nat) (cs : List Str)
inductive CT where
  | tru (c : CE) | and_ (a b : CT) | or_ (a b : CT) | not_ (a : CT)
end

/-- the static part: the table of defs is asked through the call function -/
structure Ctx where
  call : Str → List Slot → FOut
  /-- is the class x, or one under y -/
  sub : Str → Str → Option Bool

/-- is x one of these classes, or under one -/
def subs (sub : Str → Str → Option Bool) (x : Str) : List Str → Option Bool
  | [] => some false
  | c :: cs => match sub x c with
    | some true => some true
    | some false => subs sub x cs
    | none => none
def flats : List OD → Option (List D)
  | [] => some []
  | .fro d :: xs => (flats xs).map (d :: ·)
  | _ :: _ => none
/-- an operand read so that its items may be kept: each is a value, or the tree is frozen -/
def flat (e : Env) : At → Option (D × Env)
  | .val d => some (d, e)
  | .pl i => match slotAt e i with
    | .own (.lst xs) pin => (match flats xs with
      | some ds => some (.lst ds, e)
      | none => keep e (.pl i))
    | .own (.dic ks xs) pin => (match flats xs with
      | some ds => some (.dic ks ds, e)
      | none => keep e (.pl i))
    | _ => keep e (.pl i)

def lookD (ks : List L2.Key) (vs : List D) (k : L2.Key) : Option D := match ks, vs with
  | a :: ks, v :: vs => if a = k then some v else lookD ks vs k
  | _, _ => none
def ixD (x i : D) : Option D := match x, i with
  | .lst xs, .int i => L2.atI xs i
  | .tup xs, .int i => L2.atI xs i
  | .str s, .int i => if s.length ≤ LIM then (L2.atI s.cps.toList i).map fun c => .str ⟨#[c]⟩ else none
  | _, _ => none
def dixD (x i : D) : Option D := match x, keyD i with
  | .dic ks vs, some k => lookD ks vs k
  | _, _ => none
def cutD {α : Type} (xs : List α) (lo hi : Option Int) : List α := (xs.drop (HT.sIx xs.length 0 lo)).take (HT.sIx xs.length xs.length hi - HT.sIx xs.length 0 lo)
def slD (x : D) (lo hi : Option Int) : Option Res := match x with
  | .str s => if s.length ≤ LIM then some (.at_ (.val (.str (L2.cutS s lo hi)))) else none
  | .lst ds => some (.frs (.lst ((cutD ds lo hi).map .fro)))
  | _ => none
/-- s[::-1], as the model picks its signs -/
def revS (s : Str) : Str := ⟨((Builtin.Str.strSliceIndices none none (-1) s.length).filterMap (s.cps[·]?)).toArray⟩
def keyTo : L2.Key → D
  | .inl i => .int i
  | .inr s => .str s
def itemsD (ks : List L2.Key) (vs : List D) : List D := (ks.zip vs).map fun p => .tup [keyTo p.1, p.2]
def revD (x : D) : Option Res := match x with
  | .str s => if (revS s).length ≤ LIM then some (.at_ (.val (.str (revS s)))) else none
  | .lst ds => some (.frs (.lst (ds.reverse.map .fro)))
  | _ => none
def intsD : List D → Option (List Int)
  | [] => some []
  | .int i :: xs => (intsD xs).map (i :: ·)
  | _ :: _ => none
def strsD : List D → Option (List Str)
  | [] => some []
  | .str i :: xs => (strsD xs).map (i :: ·)
  | _ :: _ => none
def blsD : List D → Option (List Bool)
  | [] => some []
  | .bl i :: xs => (blsD xs).map (i :: ·)
  | _ :: _ => none
def D.ty : D → String
  | .non => "NoneType" | .bl _ => "bool" | .int _ => "int" | .str _ => "str" | .tup _ => "tuple" | .lst _ => "list" | .dic _ _ => "dict" | .obj _ _ _ => ""
def isOne (t c : String) : Bool := decide (t = c) || (decide (t = "bool") && decide (c = "int"))

/-- a built-in on values that it only reads (the items of a list may be kept: they are values) -/
def biF (f : Bi) (xs : List D) : Option Res := match f, xs with
  | .len, [.str s] => if s.length ≤ LIM then some (.at_ (.val (.int s.length))) else none
  | .len, [.lst ds] => some (.at_ (.val (.int ds.length)))
  | .len, [.tup ds] => some (.at_ (.val (.int ds.length)))
  | .len, [.dic ks _] => some (.at_ (.val (.int ks.length)))
  | .abs, [.int i] => some (.at_ (.val (.int (if i < 0 then -i else i))))
  | .int, [.int i] => some (.at_ (.val (.int i)))
  | .int, [.bl b] => some (.at_ (.val (.int (if b then 1 else 0))))
  | .sum, [.lst ds] => (intsD ds).map fun is => .at_ (.val (.int is.sum))
  | .list, [.lst ds] => some (.frs (.lst (ds.map .fro)))
  | .list, [.tup ds] => some (.frs (.lst (ds.map .fro)))
  | .list, [.str s] => if s.length ≤ LIM then some (.frs (.lst (s.cps.toList.map fun c => .fro (.str ⟨#[c]⟩)))) else none
  | .list, [.dic ks _] => some (.frs (.lst (ks.map fun k => match k with | .inl i => .fro (.int i) | .inr s => .fro (.str s))))
  | .tuple, [.lst ds] => some (.at_ (.val (.tup ds)))
  | .tuple, [.tup ds] => some (.at_ (.val (.tup ds)))
  | .max2, [.int i, .int j] => some (.at_ (.val (.int (if j > i then j else i))))
  | .min2, [.int i, .int j] => some (.at_ (.val (.int (if j < i then j else i))))
  | .all, [.lst ds] => (blsD ds).map fun bs => .at_ (.val (.bl (bs.all id)))
  | .any, [.lst ds] => (blsD ds).map fun bs => .at_ (.val (.bl (bs.any id)))
  | .str, [.int i] => if i.natAbs.log2 < 1920 then some (.at_ (.val (.str (toString i)))) else none
  | .isinst cs, [.obj _ _ _] => none
  | .isinst cs, [d] => some (.at_ (.val (.bl (cs.any fun c => isOne d.ty c))))
  | _, _ => none
def isLD : D → Bool
  | .lst _ => true
  | .dic _ _ => true
  | _ => false
def mtF (m : Mt) (o : D) (xs : List D) : Option Res := match m, o, xs with
  | .join, .str a, [.lst ds] => match strsD ds with
    | some ys => if a.length * ys.length + (ys.map (·.length)).sum ≤ LIM then some (.at_ (.val (.str (Txt.join a ys)))) else none
    | none => none
  | .find, .str a, [.str b] => some (.at_ (.val (.int (Txt.find a b))))
  | .startswith, .str a, [.str b] => some (.at_ (.val (.bl (Txt.startswith a b))))
  | .split, .str a, [.str b] => if (b.length == 0) = false ∧ a.length ≤ LIM then some (.frs (.lst ((Txt.split a b).map fun s => .fro (.str s)))) else none
  | .get1, .dic ks vs, [k] => (keyOf k).map fun k => .at_ (.val ((lookD ks vs k).getD .non))
  | .get2, .dic ks vs, [k, x] => if isLD x = true then none else (keyOf k).map fun k => .at_ (.val ((lookD ks vs k).getD x))
  | _, _, _ => none
where keyOf : D → Option L2.Key
  | .int i => some (.inl i)
  | .str s => some (.inr s)
  | _ => none
/-- the type that a method wants of its object -/
def mtT (m : Mt) (d : D) : Bool := match m with
  | .get1 | .get2 | .items | .values | .keys => decide (d.ty = "dict")
  | .count | .index => decide (d.ty = "list")
  | _ => decide (d.ty = "str")
def muT (m : Mu) (o : OD) : Bool := match m, o with
  | .dpop1, .dic _ _ => true
  | .dpop2, .dic _ _ => true
  | .dpop1, _ => false
  | .dpop2, _ => false
  | _, .lst _ => true
  | _, _ => false
/-- a method that changes the tree o: what it hands back, the tree behind it -/
def muF (m : Mu) (o : OD) (xs : List OD) : Option (Res × OD) := match m, o, xs with
  | .append, .lst ys, [x] => if ys.length < LIM then some (.at_ (.val .non), .lst (ys ++ [x])) else none
  | .popAt, .lst ys, [.fro (.int i)] => if -(2 ^ 63) ≤ i ∧ i.toNat < 2 ^ 63 then (match seqIndex? i ys.length with
      | some k => (match ys[k]? with
        | some (.fro d) => some (.at_ (.val d), .lst (ys.eraseIdx k))
        | _ => none)
      | none => none) else none
  | .pop0, .lst ys, [] => (match ys[ys.length - 1]? with
      | some (.fro d) => some (.at_ (.val d), .lst ys.dropLast)
      | _ => none)
  | .insert, .lst ys, [.fro (.int i), x] => if ys.length < LIM ∧ 0 ≤ i ∧ i ≤ ys.length then some (.at_ (.val .non), .lst (ys.take i.toNat ++ x :: ys.drop i.toNat)) else none
  | .extend, .lst ys, [.fro (.lst zs)] => if ys.length + zs.length ≤ LIM then some (.at_ (.val .non), .lst (ys ++ zs.map .fro)) else none
  | .extend, .lst ys, [.lst zs] => if ys.length + zs.length ≤ LIM then (flats zs).map fun zs => (.at_ (.val .non), .lst (ys ++ zs.map .fro)) else none
  | _, _, _ => none
/-- the items that a for, a comprehension walks -/
def itF (k : Ik) (xs : List D) : Option (List D) := match k, xs with
  | .seq, [.lst ds] => some ds
  | .seq, [.tup ds] => some ds
  | .seq, [.str s] => if s.length ≤ LIM then some (s.cps.toList.map fun c => .str ⟨#[c]⟩) else none
  | .rng, [.int n] => if -(2 ^ 62) ≤ n ∧ n.toNat < LIM then some ((List.range n.toNat).map fun (i : Nat) => .int (i : Int)) else none
  | .rng, [.int a, .int b] => if -(2 ^ 62) ≤ a ∧ a.toNat < 2 ^ 62 ∧ -(2 ^ 62) ≤ b ∧ b.toNat < 2 ^ 62 ∧ (b - a).toNat < LIM then some ((List.range (b - a).toNat).map fun (i : Nat) => .int (a + (i : Int))) else none
  | .enum, [.lst ds] => some (ds.zipIdx.map fun (d, i) => .tup [.int i, d])
  | .enum, [.str s] => if s.length ≤ LIM then some (s.cps.toList.zipIdx.map fun (c, i) => .tup [.int i, .str ⟨#[c]⟩]) else none
  | .zip, [.lst ds, .lst es] => some ((ds.zip es).map fun (a, b) => .tup [a, b])
  | _, _ => none
def slotsPut (e : Env) : List Nat → List D → Option Env
  | [], [] => some e
  | i :: is, d :: ds => if i < e.length then (match slotAt e i with
    | .fro _ (some _) => none
    | .own _ (some _) => none
    | _ => slotsPut (e.set i (.fro d none)) is ds) else none
  | _, _ => none
def tgF (t : Tg) (d : D) (e : Env) : Option Env := match t, d with
  | .nm i, d => slotsPut e [i] [d]
  | .tup ts, .tup ds => if ds.length = ts.length then slotsPut e ts ds else none
  | _, _ => none
def clearS (e : Env) : List Nat → Env
  | [] => e
  | i :: is => clearS (e.set i .non) is
/-- the own slots of a comprehension get back what they held -/
def backS (e0 e : Env) : List Nat → Env
  | [] => e
  | i :: is => backS e0 (e.set i (slotAt e0 i)) is
def freeS (e : Env) (is : List Nat) : Bool := is.all fun i => match slotAt e i with
  | .own _ _ => false
  | .exc _ _ _ => false
  | .fro _ (some _) => false
  | _ => true

/-- a comprehension's turns -/
def lcGo (own : List Nat) (turn : D → Env → Out (Option D)) : List D → List D → Env → Out (List D)
  | [], acc, e => .ok acc (clearS e own)
  | d :: ds, acc, e => match turn d (clearS e own) with
    | .ok (some y) e' => if acc.length < LIM then lcGo own turn ds (acc ++ [y]) e' else .bad
    | .ok none e' => lcGo own turn ds acc e'
    | .err _ _ => .bad
    | .bad => .bad

def looks (e : Env) : List At → Option (List D)
  | [] => some []
  | a :: as => match look e a, looks e as with
    | some d, some ds => some (d :: ds)
    | _, _ => none
def flatLs (e : Env) : List At → Option (List D × Env)
  | [] => some ([], e)
  | a :: as => match flat e a with
    | some (d, e1) => (match flatLs e1 as with
      | some (ds, e2) => some (d :: ds, e2)
      | none => none)
    | none => none
/-- the operands as trees that go into a new object -/
def takes (n : Nat) (e : Env) : List At → Option (List OD × Env)
  | [] => some ([], e)
  | a :: as => match take n e a with
    | some (o, e1) => (match takes n e1 as with
      | some (os, e2) => some (o :: os, e2)
      | none => none)
    | none => none
def keeps (e : Env) : List At → Option (List D × Env)
  | [] => some ([], e)
  | a :: as => match keep e a with
    | some (o, e1) => (match keeps e1 as with
      | some (os, e2) => some (o :: os, e2)
      | none => none)
    | none => none
/-- the operands as a callee's slots: trees move there -/
def argOut (e : Env) : List At → Option (List Slot × Env)
  | [] => some ([], e)
  | .val d :: as => (match argOut e as with
    | some (ss, e1) => some (.fro d none :: ss, e1)
    | none => none)
  | .pl i :: as => (match slotAt e i with
    | .own o _ => (match argOut (e.set i .non) as with
      | some (ss, e1) => some (.own o none :: ss, e1)
      | none => none)
    | .fro d _ => (match argOut e as with
      | some (ss, e1) => some (.fro d none :: ss, e1)
      | none => none)
    | _ => none)
/-- behind a call: what the callee left of the trees goes back; e: the slots ahead of the call, c: those without the trees -/
def argBack (e : Env) : List At → List Slot → Env → Option Env
  | [], _, c => some c
  | .val _ :: as, _ :: ss, c => argBack e as ss c
  | .pl i :: as, s :: ss, c => (match slotAt e i with
    | .own _ pin => (match s with
      | .own o _ => argBack e as ss (c.set i (.own o pin))
      | .fro d _ => argBack e as ss (c.set i (.fro d pin))
      | _ => none)
    | _ => argBack e as ss c)
  | _ :: _, [], _ => none
/-- the operands in the parameters' order -/
def pick {α : Type} (xs : List α) : List Nat → List α
  | [] => []
  | j :: js => match xs[j]? with
    | some x => x :: pick xs js
    | none => pick xs js

/-- a result as an operand -/
def opd (o : Out Res) : Out At := o.bind fun r e => .ok (asAt r e).1 (asAt r e).2
/-- no object -/
def simple : D → Bool
  | .non => true
  | .bl _ => true
  | .int _ => true
  | .str _ => true
  | _ => false
/-- what is walked, frozen -/
def evi (k : Ik) (o : Out (List At)) : Out (List D) := o.bind fun as e1 => lift (keeps e1 as) fun (xs, e2) => lift (itF k xs) fun items => .ok items e2
/-- the slots of a target -/
def Tg.all : Tg → List Nat
  | .nm i => [i]
  | .tup ts => ts
section
variable (C : Ctx)
mutual
def ev : CE → Env → Out Res
  | .var i, e => match slotAt e i with
    | .fro d _ => .ok (.at_ (.val d)) e
    | .own _ _ => .ok (.at_ (.pl i)) e
    | _ => .bad
  | .cst d, e => .ok (.at_ (.val d)) e
  | .bin op a b, e => (opd (ev a e)).bind fun x e1 => (opd (ev b e1)).bind fun y e2 => lift (flatLs e2 [x, y]) fun (ds, e3) => match ds with
    | [x, y] => lift (bop op x y) fun r => .ok r (e3.take e.length)
    | _ => .bad
  | .neg a, e => (opd (ev a e)).bind fun x e1 => match look e1 x with
    | some (.int i) => .ok (.at_ (.val (.int (-i)))) (e1.take e.length)
    | _ => .bad
  | .cmp op a b, e => (opd (ev a e)).bind fun x e1 => (opd (ev b e1)).bind fun y e2 => match look e2 x, look e2 y with
    | some x, some y => lift (cop op x y) fun r => .ok (.at_ (.val (.bl r))) (e2.take e.length)
    | _, _ => .bad
  | .chn o1 o2 a b c, e => (opd (ev a e)).bind fun x e1 => (opd (ev b e1)).bind fun y e2 => match look e2 x, look e2 y with
    | some dx, some dy => lift (cop o1 dx dy) fun r => if r = true then (opd (ev c e2)).bind fun z e3 => match look e3 y, look e3 z with
        | some dy, some dz => lift (cop o2 dy dz) fun r2 => .ok (.at_ (.val (.bl r2))) (e3.take e.length)
        | _, _ => .bad
      else .ok (.at_ (.val (.bl false))) (e2.take e.length)
    | _, _ => .bad
  | .and_ a b, e => (ev a e).bind fun x e1 => match x with
    | .at_ (.val (.bl r)) => if r = true then ev b e1 else .ok (.at_ (.val (.bl false))) e1
    | _ => .bad
  | .or_ a b, e => (ev a e).bind fun x e1 => match x with
    | .at_ (.val (.bl r)) => if r = true then .ok (.at_ (.val (.bl true))) e1 else ev b e1
    | _ => .bad
  | .not_ a, e => (evt a e).bind fun r e1 => .ok (.at_ (.val (.bl (!r)))) e1
  | .ite t a b, e => (evt t e).bind fun r e1 => if r = true then ev a e1 else ev b e1
  | .tup es, e => (evs es e).bind fun as e1 => lift (keeps e1 as) fun (ds, e2) => if ds.length ≤ LIM then .ok (.at_ (.val (.tup ds))) (e2.take e.length) else .bad
  | .lst es, e => (evs es e).bind fun as e1 => lift (takes e.length e1 as) fun (os, e2) => if os.length ≤ LIM then .ok (.frs (.lst os)) (e2.take e.length) else .bad
  | .dic0, e => .ok (.frs (.dic [] [])) e
  | .ix a b, e => (opd (ev a e)).bind fun x e1 => (opd (ev b e1)).bind fun y e2 => lift (look e2 y) fun dy => lift (flat e2 x) fun (dx, e3) =>
      lift (ixD dx dy) fun r => .ok (.at_ (.val r)) (e3.take e.length)
  | .dix a b, e => (opd (ev a e)).bind fun x e1 => (opd (ev b e1)).bind fun y e2 => lift (look e2 y) fun dy => lift (flat e2 x) fun (dx, e3) =>
      lift (dixD dx dy) fun r => .ok (.at_ (.val r)) (e3.take e.length)
  | .sl a lo hi, e => (opd (ev a e)).bind fun x e1 => (evo lo e1).bind fun l e2 => (evo hi e2).bind fun h e3 => lift (flat e3 x) fun (d, e4) => lift (slD d l h) fun r => .ok r (e4.take e.length)
  | .rev a, e => (opd (ev a e)).bind fun x e1 => lift (flat e1 x) fun (d, e2) => lift (revD d) fun r => .ok r (e2.take e.length)
  | .items a, e => (opd (ev a e)).bind fun x e1 => lift (flat e1 x) fun (d, e2) => match d with
    | .dic ks vs => .ok (.frs (.lst ((itemsD ks vs).map .fro))) (e2.take e.length)
    | _ => .bad
  | .bi f es, e => (evs es e).bind fun as e1 => lift (flatLs e1 as) fun (ds, e2) => lift (biF f ds) fun r => .ok r (e2.take e.length)
  | .mt m o es, e => (opd (ev o e)).bind fun x e0 => lift (look e0 x) fun d0 => if mtT m d0 = true then (evs es e0).bind fun as e1 => lift (flatLs e1 (x :: as)) fun (ds, e2) => match ds with
    | x :: ds => lift (mtF m x ds) fun r => .ok r (e2.take e.length)
    | _ => .bad
    else .bad
  | .mu m o es, e => (ev o e).bind fun r0 e0 => match r0 with
    | .at_ (.pl i) => lift (treeAt e0 i) fun t0 => if muT m t0 = true then (evs es e0).bind fun as e1 => lift (takes e.length e1 as) fun (xs, e2) => lift (treeAt e2 i) fun t => lift (muF m t xs) fun (r, t') => .ok r ((putAt e2 i t').take e.length) else .bad
    | _ => .bad
  | .call f es dv pm, e => (evs es e).bind fun as e1 => lift (argOut e1 (pick (as ++ dv.map .val) pm)) fun (ss, e2) => match C.call f ss with
      | .ret r outs => lift (argBack e1 (pick (as ++ dv.map .val) pm) outs e2) fun e3 => .ok r.res (e3.take e.length)
      | .err x outs => lift (argBack e1 (pick (as ++ dv.map .val) pm) outs e2) fun e3 => .err x (e3.take e.length)
      | .bad => .bad
  | .callR f es dv pm, e => (evs es e).bind fun as e1 => lift (looks e1 (pick (as ++ dv.map .val) pm)) fun ds => match C.call f (ds.map fun d => .fro d none) with
      | .ret (.val d) _ => if simple d = true then .ok (.at_ (.val d)) (e1.take e.length) else .bad
      | _ => .bad
  | .lc tg own k src ts elt, e => (evi k (evs src e)).bind fun items e2 =>
      if freeS (e2.take e.length) own = true ∧ (tg.all.all fun i => own.contains i) = true then
        (lcGo own (fun d e' => match tgF tg d e' with
          | none => .bad
          | some e3 => (evts ts e3).bind fun r e4 => if r = true then (opd (ev elt e4)).bind fun a e5 => lift (keep e5 a) fun (y, e6) => .ok (some y) (e6.take e.length) else .ok none (e4.take e.length))
          items [] (e2.take e.length)).bind fun ys e' => .ok (.frs (.lst (ys.map .fro))) (backS (e2.take e.length) e' own)
      else .bad
  | .exat i f, e => match slotAt e i with
    | .exc c ns vs => if C.sub c c = some true then (match (ns.zip vs).lookup f with
      | some d => .ok (.at_ (.val d)) e
      | none => .bad) else .bad
    | _ => .bad
  | .exis i cs, e => match slotAt e i with
    | .exc c _ _ => if C.sub c c = some true then lift (subs C.sub c cs) fun b => .ok (.at_ (.val (.bl b))) e else .bad
    | _ => .bad
/-- as a test -/
def evt : CT → Env → Out Bool
  | .tru c, e => (opd (ev c e)).bind fun x e1 => match look e1 x with
      | some d => lift (truthy d) fun b => .ok b (e1.take e.length)
      | none => .bad
  | .and_ a b, e => (evt a e).bind fun r e1 => if r = true then evt b e1 else .ok false e1
  | .or_ a b, e => (evt a e).bind fun r e1 => if r = true then .ok true e1 else evt b e1
  | .not_ a, e => (evt a e).bind fun r e1 => .ok (!r) e1
def evts : List CT → Env → Out Bool
  | [], e => .ok true e
  | c :: cs, e => match cs with
    | [] => evt c e
    | _ => .bad
def evo : Option CE → Env → Out (Option Int)
  | none, e => .ok none e
  | some c, e => (ev c e).bind fun r e1 => match r with
    | .at_ (.val (.int i)) => .ok (some i) e1
    | _ => .bad
/-- operands: new trees stand in slots of their own behind the others -/
def evs : List CE → Env → Out (List At)
  | [], e => .ok [] e
  | c :: cs, e => (opd (ev c e)).bind fun a e1 => (evs cs e1).bind fun as e2 => .ok (a :: as) e2
end
end

/-! ### statements -/
inductive CS where
  | skip
  | seq (a b : CS)
  | set (i : Nat) (c : CE)
  | setT (is : List Nat) (c : CE)
  | sub (o i v : CE)
  | expr (c : CE)
  /-- x[k].append(c) and the like, x in slot i: a tree within the tree -/
  | mu2 (m : Mu) (i k : Nat) (d : D)
  | ret (c : CE) | retN
  | ite (t : CT) (a b : CS)
  | for_ (tg : Tg) (k : Ik) (src : List CE) (body : CS)
  | while_ (fuel : Nat) (t : CT) (body : CS)
  | raise_ (cls : Str) (n : Str) (fm : Bool) (c : CE)
  | try_ (body : CS) (cs : List Str) (is : List Nat) (bs : List CS)
  | brk | cont
inductive SO where
  | nx (e : Env) | rt (r : RV) (e : Env) | bk (e : Env) | ct (e : Env) | err (x : Exn) (e : Env) | bad
def Out.so {α : Type} (o : Out α) (f : α → Env → SO) : SO := match o with
  | .ok a e => f a e
  | .err x e => .err x e
  | .bad => .bad
def liftS {α : Type} (o : Option α) (f : α → SO) : SO := match o with
  | some a => f a
  | none => .bad
def SO.then (o : SO) (f : Env → SO) : SO := match o with
  | .nx e => f e
  | o => o
/-- a name is stored -/
def setSlot (e : Env) (i : Nat) (s : Slot) : Option Env := if i < e.length then (match slotAt e i with
  | .fro _ (some _) => none
  | .own _ (some _) => none
  | _ => some (e.set i s)) else none
def setRes (e : Env) (i : Nat) (r : Res) : Option Env := match r with
  | .frs o => setSlot e i (.own o none)
  | .at_ a => match keep e a with
    | some (d, e1) => setSlot e1 i (.fro d none)
    | none => none
def retRes (e : Env) (r : Res) : Option (RV × Env) := match r with
  | .frs o => some (.frs o, e)
  | .at_ (.val d) => some (.val d, e)
  | .at_ (.pl i) => match slotAt e i with
    | .own o none => some (.frs o, e.set i .non)
    | _ => (keep e (.pl i)).map fun (d, e1) => (.val d, e1)
/-- o[i] = v -/
def subF (t : OD) (i : D) (v : OD) : Option OD := match t, i with
  | .lst xs, .int i => (match L2.ixN xs.length i with
    | some j => some (.lst (xs.set j v))
    | none => none)
  | .dic ks vs, i => (match keyD i with
    | some k => if ks.length < LIM ∧ ks.Nodup then (match ks.findIdx? fun a => decide (a = k) with
      | some j => some (.dic ks (vs.set j v))
      | none => some (.dic (ks ++ [k]) (vs ++ [v]))) else none
    | none => none)
  | _, _ => none
/-- may be put into a text by {..} -/
def fmOk : D → Bool
  | .int i => decide (i.natAbs.log2 < 1920)
  | _ => false
def forGo (turn : D → Env → SO) : List D → Env → SO
  | [], e => .nx e
  | d :: ds, e => match turn d e with
    | .nx e' => forGo turn ds e'
    | .ct e' => forGo turn ds e'
    | .bk e' => .nx e'
    | o => o
def whileGo (t : Env → Out Bool) (body : Env → SO) : Nat → Env → SO
  | 0, _ => .bad
  | n + 1, e => (t e).so fun b e1 => if b = true then (match body e1 with
    | .nx e' => whileGo t body n e'
    | .ct e' => whileGo t body n e'
    | .bk e' => .nx e'
    | o => o) else .nx e1
def unbind (e : Env) (i : Nat) : Env := e.set i .non
def noXs (e : Env) : Bool := e.all fun s => match s with
  | .exc _ _ _ => false
  | _ => true
/-- behind an except suite: its name is gone -/
def SO.unb (o : SO) (i : Nat) : SO := match o with
  | .nx e => if noXs (unbind e i) = true then .nx (unbind e i) else .bad
  | .rt r e => if noXs (unbind e i) = true then .rt r (unbind e i) else .bad
  | .bk e => if noXs (unbind e i) = true then .bk (unbind e i) else .bad
  | .ct e => if noXs (unbind e i) = true then .ct (unbind e i) else .bad
  | _ => .bad
section
variable (C : Ctx)
mutual
def run : CS → Env → SO
  | .skip, e => .nx e
  | .seq a b, e => (run a e).then fun e1 => run b e1
  | .set i c, e => (ev C c e).so fun r e1 => liftS (setRes e1 i r) .nx
  | .setT is c, e => (opd (ev C c e)).so fun a e1 => liftS (keep e1 a) fun (d, e2) => liftS (tgF (.tup is) d (e2.take e.length)) .nx
  | .sub o i v, e => (opd (ev C v e)).so fun a e1 => (ev C o e1).so fun r e2 => match r with
    | .at_ (.pl k) => (opd (ev C i e2)).so fun b e3 => liftS (look e3 b) fun di => liftS (take e.length e3 a) fun (x, e4) => liftS (treeAt e4 k) fun t => liftS (subF t di x) fun t' => .nx ((putAt e4 k t').take e.length)
    | _ => .bad
  | .expr c, e => (opd (ev C c e)).so fun a e1 => .nx (e1.take e.length)
  | .mu2 m i k d, e => match slotAt e i with
    | .own (.lst xs) pin => (match xs[k]? with
      | some t => liftS (muF m t [.fro d]) fun (_, t') => .nx (e.set i (.own (.lst (xs.set k t')) pin))
      | none => .bad)
    | _ => .bad
  | .ret c, e => (ev C c e).so fun r e1 => liftS (retRes e1 r) fun (r, e2) => .rt r e2
  | .retN, e => .rt (.val .non) e
  | .ite t a b, e => (evt C t e).so fun r e1 => if r = true then run a e1 else run b e1
  | .for_ tg k src body, e => (evi k (evs C src e)).so fun items e2 =>
      forGo (fun d e' => liftS (tgF tg d e') fun e3 => run body e3) items (e2.take e.length)
  | .while_ n t body, e => whileGo (fun e => evt C t e) (fun e => run body e) n e
  | .raise_ cls n fm c, e => (opd (ev C c e)).so fun a e1 => liftS (keep e1 a) fun (d, e2) => if fm = true → fmOk d = true then .err ⟨cls, [n], [d]⟩ (e2.take e.length) else .bad
  | .try_ body cs is bs, e => match run body e with
    | .err x e1 => if noXs (e1.take e.length) = true then runH cs is bs x (e1.take e.length) else .bad
    | o => o
  | .brk, e => .bk e
  | .cont, e => .ct e
/-- the clauses, in order: the first whose class is x's or above it -/
def runH : List Str → List Nat → List CS → Exn → Env → SO
  | c :: cs, i :: is, b :: bs, x, e => match C.sub x.cls c with
    | some true => (match setSlot e i (.exc x.cls x.ns x.vs) with
      | some e1 => (run b e1).unb i
      | none => .bad)
    | some false => runH cs is bs x e
    | none => .bad
  | [], _, _, x, e => .err x e
  | _, _, _, _, _ => .bad
end
end

/-! ### generators -/
inductive CG where
  | plain (c : CS)
  | seq (a b : CG)
  | yield_ (c : CE)
  | ite (t : CT) (a b : CG)
  | for_ (tg : Tg) (k : Ik) (src : List CE) (body : CG)
/-- ys: what is out so far -/
inductive GO where
  | nx (ys : List D) (e : Env) | rt (ys : List D) (r : RV) (e : Env) | bk (ys : List D) (e : Env) | ct (ys : List D) (e : Env) | err (x : Exn) (e : Env) | bad
def GO.then (o : GO) (f : List D → Env → GO) : GO := match o with
  | .nx ys e => f ys e
  | o => o
def Out.go {α : Type} (o : Out α) (f : α → Env → GO) : GO := match o with
  | .ok a e => f a e
  | .err x e => .err x e
  | .bad => .bad
def liftG {α : Type} (o : Option α) (f : α → GO) : GO := match o with
  | some a => f a
  | none => .bad
def forGoG (turn : D → List D → Env → GO) : List D → List D → Env → GO
  | [], ys, e => .nx ys e
  | d :: ds, ys, e => match turn d ys e with
    | .nx ys' e' => forGoG turn ds ys' e'
    | .ct ys' e' => forGoG turn ds ys' e'
    | .bk ys' e' => .nx ys' e'
    | o => o
section
variable (C : Ctx)
def runG : CG → List D → Env → GO
  | .plain c, ys, e => (match run C c e with
    | .nx e' => .nx ys e'
    | .rt r e' => .rt ys r e'
    | .bk e' => .bk ys e'
    | .ct e' => .ct ys e'
    | .err x e' => .err x e'
    | .bad => .bad)
  | .seq a b, ys, e => (runG a ys e).then fun ys' e' => runG b ys' e'
  | .yield_ c, ys, e => if ys.length < LIM then (opd (ev C c e)).go fun a e1 => liftG (keep e1 a) fun (d, e2) => .nx (ys ++ [d]) (e2.take e.length) else .bad
  | .ite t a b, ys, e => (evt C t e).go fun r e1 => if r = true then runG a ys e1 else runG b ys e1
  | .for_ tg k src body, ys, e => (evi k (evs C src e)).go fun items e2 => forGoG (fun d ys e' => liftG (tgF tg d e') fun e3 => runG body ys e3) items ys (e2.take e.length)
end
inductive HOut where
  | ret (r : RV) | err (x : Exn) | bad
inductive FDef where
  | code (np ns : Nat) (body : CS)
  /-- a generator def: its call stands for the list of all that it hands out -/
  | gen (np ns : Nat) (body : CG)
  | hand (g : List D → HOut)
/-- as it is handed back: without its mark -/
def noX (i : Nat) : Slot → Slot
  | .own o (some t) => if t = i then .own o none else .non
  | .fro d (some t) => if t = i then .fro d none else .non
  | _ => .non
/-- the trees that a callee is handed are marked by their places -/
def marked (i : Nat) : List Slot → List Slot
  | [] => []
  | .own o _ :: ss => .own o (some i) :: marked (i + 1) ss
  | s :: ss => s :: marked (i + 1) ss
/-- what a callee leaves of the trees that it was handed -/
def outs (i : Nat) : List Slot → Env → List Slot
  | [], _ => []
  | .own _ _ :: ss, e => noX i (slotAt e 0) :: outs (i + 1) ss (e.drop 1)
  | _ :: ss, e => .non :: outs (i + 1) ss (e.drop 1)
def fros : List Slot → Option (List D)
  | [] => some []
  | .fro d _ :: ss => (fros ss).map (d :: ·)
  | _ :: _ => none
def callF (T : Str → Option FDef) (sub : Str → Str → Option Bool) : Nat → Str → List Slot → FOut
  | 0, _, _ => .bad
  | n + 1, f, ss => match T f with
    | some (.code np ns body) => if ss.length = np then (match run ⟨callF T sub n, sub⟩ body (marked 0 ss ++ List.replicate (ns - np) .non) with
      | .nx e => .ret (.val .non) (outs 0 ss e)
      | .rt r e => .ret r (outs 0 ss e)
      | .err x e => .err x (outs 0 ss e)
      | _ => .bad) else .bad
    | some (.gen np ns body) => if ss.length = np then (match runG ⟨callF T sub n, sub⟩ body [] (marked 0 ss ++ List.replicate (ns - np) .non) with
      | .nx ys e => .ret (.frs (.lst (ys.map .fro))) (outs 0 ss e)
      | .rt ys (.val .non) e => .ret (.frs (.lst (ys.map .fro))) (outs 0 ss e)
      | .err x e => if sub x.cls x.cls = some true then .err x (outs 0 ss e) else .bad
      | _ => .bad) else .bad
    | some (.hand g) => (match fros ss with
      | some ds => (match g ds with
        | .ret r => .ret r (ss.map fun _ => .non)
        | .err x => .err x (ss.map fun _ => .non)
        | .bad => .bad)
      | none => .bad)
    | none => .bad
end PV
end

section
set_option Elab.async false
set_option linter.all false
set_option maxRecDepth 100000
set_option maxHeartbeats 4000000
/-! PV2: what data stands for in a heap -/
namespace PV
open PySem L2

def Ex (G G' : Hp) : Prop := ∀ a o, G a = some o → G' a = some o
theorem Ex.refl (G : Hp) : Ex G G := fun _ _ h => h
theorem Ex.trans {G G1 G2 : Hp} (a : Ex G G1) (b : Ex G1 G2) : Ex G G2 := fun x o h => b x o (a x o h)
theorem ex_rd {H H' : Hp} {a : Addr} {u : HO} (e : Ex H H') (h : Rd H a u) : Rd H' a u := by
  rcases h with h | ⟨o, h⟩
  · exact Or.inl (e a _ h)
  · exact Or.inr ⟨o, e a _ h⟩
theorem ex_l {K : PySem.W.Frag} {H H' : Hp} {a : Addr} {xs : List V} (e : Ex H H') (h : SqL K H a xs) : SqL K H' a xs := by
  rcases h with h | h
  · exact Or.inl (ex_rd e h)
  · exact Or.inr h
theorem ex_t {K : PySem.W.Frag} {H H' : Hp} {a : Addr} {xs : List V} (e : Ex H H') (h : SqT K H a xs) : SqT K H' a xs := by
  rcases h with h | h
  · exact Or.inl (ex_rd e h)
  · exact Or.inr h

section
variable (K : PySem.W.Frag)
mutual
/-- v stands for d, by what G tells -/
def Rep (G : Hp) : D → V → Prop
  | .non, v => v = .non
  | .bl b, v => v = .bl b
  | .int i, v => v = .int i
  | .str s, v => v = .str s
  | .tup ds, v => ∃ a vs, v = .ref a ∧ SqT K G a vs ∧ Reps G ds vs
  | .lst ds, v => ∃ a vs, v = .ref a ∧ Rd G a (.lst vs) ∧ Reps G ds vs
  | .dic ks ds, v => ∃ a vs, v = .ref a ∧ G a = some (.dK (ks.zip vs)) ∧ ks.length = vs.length ∧ Reps G ds vs
  | .obj _ _ _, _ => False
def Reps (G : Hp) : List D → List V → Prop
  | [], vs => vs = []
  | d :: ds, vs => ∃ v r, vs = v :: r ∧ Rep G d v ∧ Reps G ds r
end
mutual
theorem Rep.mono {G G' : Hp} (e : Ex G G') : ∀ (d : D) (v : V), Rep K G d v → Rep K G' d v
  | .non, v, h => h
  | .bl b, v, h => h
  | .int i, v, h => h
  | .str s, v, h => h
  | .tup ds, v, h => by
    obtain ⟨a, vs, h1, h2, h3⟩ := h
    exact ⟨a, vs, h1, ex_t e h2, Reps.mono e ds vs h3⟩
  | .lst ds, v, h => by
    obtain ⟨a, vs, h1, h2, h3⟩ := h
    exact ⟨a, vs, h1, ex_rd e h2, Reps.mono e ds vs h3⟩
  | .dic ks ds, v, h => by
    obtain ⟨a, vs, h1, h2, h4, h3⟩ := h
    exact ⟨a, vs, h1, e _ _ h2, h4, Reps.mono e ds vs h3⟩
  | .obj _ _ _, v, h => h
theorem Reps.mono {G G' : Hp} (e : Ex G G') : ∀ (ds : List D) (vs : List V), Reps K G ds vs → Reps K G' ds vs
  | [], vs, h => h
  | d :: ds, vs, h => by
    obtain ⟨v, r, h1, h2, h3⟩ := h
    exact ⟨v, r, h1, Rep.mono e d v h2, Reps.mono e ds r h3⟩
end
theorem Reps.len {G : Hp} : ∀ {ds : List D} {vs : List V}, Reps K G ds vs → ds.length = vs.length
  | [], vs, h => by rw [show vs = [] from h] <;> rfl
  | d :: ds, vs, h => by
    obtain ⟨v, r, h1, h2, h3⟩ := h
    rw [h1, List.length_cons, List.length_cons, Reps.len h3]

mutual
/-- v stands for the tree o, whose own objects are fp -/
def OwnR (H G : Hp) : OD → V → List Addr → Prop
  | .fro d, v, fp => fp = [] ∧ Rep K G d v
  | .lst os, v, fp => ∃ a vs fp', v = .ref a ∧ fp = a :: fp' ∧ H a = some (.lst vs) ∧ OwnRs H G os vs fp'
  | .dic ks os, v, fp => ∃ a vs fp', v = .ref a ∧ fp = a :: fp' ∧ H a = some (.dK (ks.zip vs)) ∧ ks.length = vs.length ∧ OwnRs H G os vs fp'
def OwnRs (H G : Hp) : List OD → List V → List Addr → Prop
  | [], vs, fp => vs = [] ∧ fp = []
  | o :: os, vs, fp => ∃ v r f1 f2, vs = v :: r ∧ fp = f1 ++ f2 ∧ OwnR H G o v f1 ∧ OwnRs H G os r f2
end
theorem OwnRs.len {H G : Hp} : ∀ {os : List OD} {vs : List V} {fp : List Addr}, OwnRs K H G os vs fp → os.length = vs.length
  | [], vs, fp, h => by rw [h.1] <;> rfl
  | d :: ds, vs, fp, h => by
    obtain ⟨v, r, f1, f2, h1, _, h2, h3⟩ := h
    rw [h1, List.length_cons, List.length_cons, OwnRs.len h3]
mutual
theorem OwnR.mono {H H' G G' : Hp} (e : Ex G G') : ∀ (o : OD) (v : V) (fp : List Addr), (∀ a ∈ fp, H' a = H a) → OwnR K H G o v fp → OwnR K H' G' o v fp
  | .fro d, v, fp, _, h => ⟨h.1, Rep.mono K e d v h.2⟩
  | .lst os, v, fp, hk, h => by
    obtain ⟨a, vs, fp', h1, h2, h3, h4⟩ := h
    subst h2
    exact ⟨a, vs, fp', h1, rfl, (hk a List.mem_cons_self).trans h3, OwnRs.mono e os vs fp' (fun b hb => hk b (List.mem_cons_of_mem _ hb)) h4⟩
  | .dic ks os, v, fp, hk, h => by
    obtain ⟨a, vs, fp', h1, h2, h3, h5, h4⟩ := h
    subst h2
    exact ⟨a, vs, fp', h1, rfl, (hk a List.mem_cons_self).trans h3, h5, OwnRs.mono e os vs fp' (fun b hb => hk b (List.mem_cons_of_mem _ hb)) h4⟩
theorem OwnRs.mono {H H' G G' : Hp} (e : Ex G G') : ∀ (os : List OD) (vs : List V) (fp : List Addr), (∀ a ∈ fp, H' a = H a) → OwnRs K H G os vs fp → OwnRs K H' G' os vs fp
  | [], vs, fp, _, h => h
  | o :: os, vs, fp, hk, h => by
    obtain ⟨v, r, f1, f2, h1, h2, h3, h4⟩ := h
    subst h2
    exact ⟨v, r, f1, f2, h1, rfl, OwnR.mono e o v f1 (fun b hb => hk b (List.mem_append_left _ hb)) h3, OwnRs.mono e os r f2 (fun b hb => hk b (List.mem_append_right _ hb)) h4⟩
end
mutual
/-- frozen: where G' tells of the tree's own objects too -/
theorem OwnR.rep {H G G' : Hp} (e : Ex G G') : ∀ (o : OD) (v : V) (fp : List Addr), (∀ a ∈ fp, ∀ u, H a = some u → G' a = some u) → OwnR K H G o v fp → Rep K G' o.toD v
  | .fro d, v, fp, _, h => Rep.mono K e d v h.2
  | .lst os, v, fp, hk, h => by
    obtain ⟨a, vs, fp', h1, h2, h3, h4⟩ := h
    subst h2
    exact ⟨a, vs, h1, .inl (hk a List.mem_cons_self _ h3), OwnRs.rep e os vs fp' (fun b hb => hk b (List.mem_cons_of_mem _ hb)) h4⟩
  | .dic ks os, v, fp, hk, h => by
    obtain ⟨a, vs, fp', h1, h2, h3, h5, h4⟩ := h
    subst h2
    exact ⟨a, vs, h1, hk a List.mem_cons_self _ h3, h5, OwnRs.rep e os vs fp' (fun b hb => hk b (List.mem_cons_of_mem _ hb)) h4⟩
theorem OwnRs.rep {H G G' : Hp} (e : Ex G G') : ∀ (os : List OD) (vs : List V) (fp : List Addr), (∀ a ∈ fp, ∀ u, H a = some u → G' a = some u) → OwnRs K H G os vs fp → Reps K G' (OD.toDs os) vs
  | [], vs, fp, _, h => h.1
  | o :: os, vs, fp, hk, h => by
    obtain ⟨v, r, f1, f2, h1, h2, h3, h4⟩ := h
    subst h2
    exact ⟨v, r, h1, OwnR.rep e o v f1 (fun b hb => hk b (List.mem_append_left _ hb)) h3, OwnRs.rep e os r f2 (fun b hb => hk b (List.mem_append_right _ hb)) h4⟩
end
mutual
theorem OwnR.there {H G : Hp} : ∀ (o : OD) (v : V) (fp : List Addr), OwnR K H G o v fp → ∀ a ∈ fp, ∃ u, H a = some u
  | .fro d, v, fp, h, a, ha => by
    rw [h.1] at ha
    cases ha
  | .lst os, v, fp, h, b, hb => by
    obtain ⟨a, vs, fp', h1, h2, h3, h4⟩ := h
    subst h2
    rcases List.mem_cons.mp hb with rfl | hb
    · exact ⟨_, h3⟩
    · exact OwnRs.there os vs fp' h4 b hb
  | .dic ks os, v, fp, h, b, hb => by
    obtain ⟨a, vs, fp', h1, h2, h3, h5, h4⟩ := h
    subst h2
    rcases List.mem_cons.mp hb with rfl | hb
    · exact ⟨_, h3⟩
    · exact OwnRs.there os vs fp' h4 b hb
theorem OwnRs.there {H G : Hp} : ∀ (os : List OD) (vs : List V) (fp : List Addr), OwnRs K H G os vs fp → ∀ a ∈ fp, ∃ u, H a = some u
  | [], vs, fp, h, a, ha => by
    rw [h.2] at ha
    cases ha
  | o :: os, vs, fp, h, a, ha => by
    obtain ⟨v, r, f1, f2, h1, h2, h3, h4⟩ := h
    subst h2
    rcases List.mem_append.mp ha with ha | ha
    · exact OwnR.there o v f1 h3 a ha
    · exact OwnRs.there os r f2 h4 a ha
end
theorem OwnRs.fro {H G : Hp} : ∀ {ds : List D} {vs : List V}, Reps K G ds vs → OwnRs K H G (ds.map .fro) vs []
  | [], vs, h => ⟨h, rfl⟩
  | d :: ds, vs, h => by
    obtain ⟨v, r, h1, h2, h3⟩ := h
    exact ⟨v, r, [], [], h1, rfl, ⟨rfl, h2⟩, OwnRs.fro h3⟩
theorem OwnRs.flats {H G : Hp} : ∀ {os : List OD} {ds : List D} {vs : List V} {fp : List Addr}, flats os = some ds → OwnRs K H G os vs fp → Reps K G ds vs ∧ fp = []
  | [], ds, vs, fp, e, h => by
    cases e
    exact ⟨h.1, h.2⟩
  | .fro d :: os, ds, vs, fp, e, h => by
    obtain ⟨v, r, f1, f2, h1, h2, h3, h4⟩ := h
    unfold PV.flats at e
    cases q : PV.flats os with
    | none =>
      rw [q] at e
      cases e
    | some ds' =>
      rw [q] at e
      have e2 : d :: ds' = ds := Option.some.inj e
      subst e2
      obtain ⟨i1, i2⟩ := OwnRs.flats q h4
      refine ⟨⟨v, r, h1, h3.2, i1⟩, ?_⟩
      rw [h2, i2, h3.1] <;> rfl
  | .lst _ :: os, ds, vs, fp, e, h => by cases e
  | .dic _ _ :: os, ds, vs, fp, e, h => by cases e

/-- an exception that a frame holds: where it stands, its class, its dict -/
structure Xat where
  a : Addr
  cls : Value
  dx : Addr
/-- what the slots hold beside values and trees: the caught exception; the values of the marked slots -/
structure XA where
  ex : Option Xat
  pv : Nat → Option V
def PinR (xa : XA) (p : Option Nat) (x : Option V) : Prop := ∀ t, p = some t → x = xa.pv t
theorem pin0 {xa : XA} {x : Option V} : PinR xa none x := fun _ z => nomatch z
/-- an exception's fields, in its dict at dx -/
def ExnR (G : Hp) (ns : List Str) (ds : List D) (dx : Addr) : Prop := ∃ vs, G dx = some (.xd (ns.zip vs)) ∧ ns.length = vs.length ∧ Reps K G ds vs
variable (mg : Str → Option Value) (xa : XA)
def SlotR (H G : Hp) : Slot → Option V → List Addr → Prop
  | .non, _, fp => fp = []
  | .fro d p, x, fp => fp = [] ∧ PinR xa p x ∧ ∃ v, x = some v ∧ Rep K G d v
  | .own o p, x, fp => PinR xa p x ∧ ∃ v, x = some v ∧ OwnR K H G o v fp
  | .exc c ns ds, x, fp => fp = [] ∧ ∃ t, xa.ex = some t ∧ x = some (.ref t.a) ∧ mg c = some t.cls ∧ ExnR K G ns ds t.dx
def SlotsR (H G : Hp) : List Slot → List (Option V) → List Addr → Prop
  | [], [], fp => fp = []
  | s :: ss, x :: xs, fp => ∃ f1 f2, fp = f1 ++ f2 ∧ SlotR K mg xa H G s x f1 ∧ SlotsR H G ss xs f2
  | _, _, _ => False

end
section
variable {K : PySem.W.Frag} {mg : Str → Option Value} {xa : XA}
theorem SlotR.mono {H H' G G' : Hp} (e : Ex G G') {s : Slot} {x : Option V} {fp : List Addr} (hk : ∀ a ∈ fp, H' a = H a) (h : SlotR K mg xa H G s x fp) : SlotR K mg xa H' G' s x fp := by
  cases s with
  | non => exact h
  | fro d p =>
    obtain ⟨h1, pn, v, h2, h3⟩ := h
    exact ⟨h1, pn, v, h2, Rep.mono K e d v h3⟩
  | own o p =>
    obtain ⟨pn, v, h2, h3⟩ := h
    exact ⟨pn, v, h2, OwnR.mono K e o v fp hk h3⟩
  | exc c ns ds =>
    obtain ⟨h1, t, h2, h3, h4, vs, h5, h6, h7⟩ := h
    exact ⟨h1, t, h2, h3, h4, vs, e _ _ h5, h6, Reps.mono K e ds vs h7⟩
theorem SlotsR.mono {H H' G G' : Hp} (e : Ex G G') : ∀ {ss : List Slot} {xs : List (Option V)} {fp : List Addr}, (∀ a ∈ fp, H' a = H a) → SlotsR K mg xa H G ss xs fp → SlotsR K mg xa H' G' ss xs fp
  | [], [], fp, _, h => h
  | s :: ss, x :: xs, fp, hk, h => by
    obtain ⟨f1, f2, h1, h2, h3⟩ := h
    subst h1
    exact ⟨f1, f2, rfl, h2.mono e fun a ha => hk a (List.mem_append_left _ ha), SlotsR.mono e (fun a ha => hk a (List.mem_append_right _ ha)) h3⟩
  | [], _ :: _, fp, _, h => h.elim
  | _ :: _, [], fp, _, h => h.elim
theorem SlotsR.len {H G : Hp} : ∀ {ss : List Slot} {xs : List (Option V)} {fp : List Addr}, SlotsR K mg xa H G ss xs fp → ss.length = xs.length
  | [], [], fp, h => rfl
  | s :: ss, x :: xs, fp, h => by
    obtain ⟨f1, f2, h1, h2, h3⟩ := h
    rw [List.length_cons, List.length_cons, SlotsR.len h3]
  | [], _ :: _, fp, h => h.elim
  | _ :: _, [], fp, h => h.elim
theorem SlotR.there {H G : Hp} {s : Slot} {x : Option V} {fp : List Addr} (h : SlotR K mg xa H G s x fp) : ∀ a ∈ fp, ∃ u, H a = some u := by
  cases s with
  | non =>
    intro a ha
    rw [show fp = [] from h] at ha
    cases ha
  | fro d p =>
    intro a ha
    rw [h.1] at ha
    cases ha
  | own o p =>
    obtain ⟨pn, v, h2, h3⟩ := h
    exact OwnR.there K o v fp h3
  | exc c ns ds =>
    intro a ha
    rw [h.1] at ha
    cases ha
theorem SlotsR.there {H G : Hp} : ∀ {ss : List Slot} {xs : List (Option V)} {fp : List Addr}, SlotsR K mg xa H G ss xs fp → ∀ a ∈ fp, ∃ u, H a = some u
  | [], [], fp, h => by
    intro a ha
    rw [show fp = [] from h] at ha
    cases ha
  | s :: ss, x :: xs, fp, h => by
    obtain ⟨f1, f2, h1, h2, h3⟩ := h
    subst h1
    intro a ha
    rcases List.mem_append.mp ha with ha | ha
    · exact h2.there a ha
    · exact SlotsR.there h3 a ha
  | [], _ :: _, fp, h => h.elim
  | _ :: _, [], fp, h => h.elim
/-- one slot apart -/
theorem SlotsR.at {H G : Hp} : ∀ {ss : List Slot} {xs : List (Option V)} {fp : List Addr} {i : Nat}, SlotsR K mg xa H G ss xs fp → i < ss.length →
    ∃ x f1 f2 f3, xs[i]? = some x ∧ fp = f1 ++ (f2 ++ f3) ∧ SlotR K mg xa H G (slotAt ss i) x f2 ∧
      ∀ (H' G' : Hp) (s' : Slot) (x' : Option V) (f2' : List Addr), Ex G G' → (∀ a ∈ f1 ++ f3, H' a = H a) → SlotR K mg xa H' G' s' x' f2' → SlotsR K mg xa H' G' (ss.set i s') (xs.set i x') (f1 ++ (f2' ++ f3))
  | [], _, fp, i, _, hi => absurd hi (Nat.not_lt_zero _)
  | s :: ss, [], fp, i, h, _ => h.elim
  | s :: ss, x :: xs, fp, 0, h, _ => by
    obtain ⟨f1, f2, h1, h2, h3⟩ := h
    refine ⟨x, [], f1, f2, rfl, h1, h2, fun H' G' s' x' f2' e hk h' => ⟨f2', f2, rfl, h', h3.mono e fun a ha => hk a ha⟩⟩
  | s :: ss, x :: xs, fp, i + 1, h, hi => by
    obtain ⟨f1, f2, h1, h2, h3⟩ := h
    obtain ⟨y, g1, g2, g3, e1, e2, e3, e4⟩ := SlotsR.at (i := i) h3 (Nat.lt_of_succ_lt_succ hi)
    refine ⟨y, f1 ++ g1, g2, g3, e1, by rw [h1, e2, List.append_assoc], e3, fun H' G' s' x' f2' e hk h' => ?_⟩
    refine ⟨f1, g1 ++ (f2' ++ g3), by rw [List.append_assoc], h2.mono e fun a ha => hk a (List.mem_append_left _ (List.mem_append_left _ ha)), e4 H' G' s' x' f2' e (fun a ha => hk a ?_) h'⟩
    rcases List.mem_append.mp ha with ha | ha
    · exact List.mem_append_left _ (List.mem_append_right _ ha)
    · exact List.mem_append_right _ ha
theorem SlotsR.append {H G : Hp} : ∀ {ss ss' : List Slot} {xs xs' : List (Option V)} {fp fp' : List Addr}, SlotsR K mg xa H G ss xs fp → SlotsR K mg xa H G ss' xs' fp' → SlotsR K mg xa H G (ss ++ ss') (xs ++ xs') (fp ++ fp')
  | [], ss', [], xs', fp, fp', h, h' => by
    rw [show fp = [] from h]
    exact h'
  | s :: ss, ss', x :: xs, xs', fp, fp', h, h' => by
    obtain ⟨f1, f2, h1, h2, h3⟩ := h
    exact ⟨f1, f2 ++ fp', by rw [h1, List.append_assoc], h2, SlotsR.append h3 h'⟩
  | [], _, _ :: _, _, fp, _, h, _ => h.elim
  | _ :: _, _, [], _, fp, _, h, _ => h.elim
theorem SlotsR.split {H G : Hp} : ∀ (n : Nat) {ss : List Slot} {xs : List (Option V)} {fp : List Addr}, SlotsR K mg xa H G ss xs fp → ∃ f1 f2, fp = f1 ++ f2 ∧ SlotsR K mg xa H G (ss.take n) (xs.take n) f1 ∧ SlotsR K mg xa H G (ss.drop n) (xs.drop n) f2
  | 0, ss, xs, fp, h => ⟨[], fp, rfl, rfl, h⟩
  | n + 1, [], [], fp, h => ⟨[], [], h, rfl, rfl⟩
  | n + 1, s :: ss, x :: xs, fp, h => by
    obtain ⟨f1, f2, h1, h2, h3⟩ := h
    obtain ⟨g1, g2, e1, e2, e3⟩ := SlotsR.split n h3
    exact ⟨f1 ++ g1, g2, by rw [h1, e1, List.append_assoc], ⟨f1, g1, rfl, h2, e2⟩, e3⟩
  | n + 1, [], _ :: _, fp, h => h.elim
  | n + 1, _ :: _, [], fp, h => h.elim

/-- the state: G what is frozen, F what others hold, e the slots; every tree's own objects stand apart -/
structure RS (K : PySem.W.Frag) (mg : Str → Option Value) (xa : XA) (F G : Hp) (e : Env) (xs : List (Option V)) (H : Hp) : Prop where
  gh : Ex G H
  fh : Ex F H
  gf : ∀ a u, F a = some u → G a = none
  own : ∃ fp, SlotsR K mg xa H G e xs fp ∧ fp.Nodup ∧ ∀ a ∈ fp, F a = none ∧ G a = none
variable {F G H : Hp} {e : Env} {xs : List (Option V)}
theorem RS.len (r : RS K mg xa F G e xs H) : e.length = xs.length := by
  obtain ⟨fp, h, _⟩ := r.own
  exact h.len
theorem RS.take (r : RS K mg xa F G e xs H) (n : Nat) : RS K mg xa F G (e.take n) (xs.take n) H := by
  obtain ⟨fp, h, nd, ap⟩ := r.own
  obtain ⟨f1, f2, e1, e2, e3⟩ := h.split n
  subst e1
  exact ⟨r.gh, r.fh, r.gf, f1, e2, (List.nodup_append.mp nd).1, fun a ha => ap a (List.mem_append_left _ ha)⟩
/-- a new object comes up: what stood stands -/
theorem RS.heap (r : RS K mg xa F G e xs H) {H' : Hp} (k : Ex H H') : RS K mg xa F G e xs H' := by
  obtain ⟨fp, h, nd, ap⟩ := r.own
  refine ⟨r.gh.trans k, r.fh.trans k, r.gf, fp, h.mono (Ex.refl _) fun a ha => ?_, nd, ap⟩
  obtain ⟨u, q⟩ := h.there a ha
  rw [q, k a u q]
/-- more is frozen -/
theorem RS.more (r : RS K mg xa F G e xs H) {p : Addr} {o : HO} (hp : H p = none) : RS K mg xa F (upd G p o) e xs (upd H p o) := by
  obtain ⟨fp, h, nd, ap⟩ := r.own
  have gp : G p = none := by
    cases q : G p with
    | none => rfl
    | some u => rw [r.gh p u q] at hp; cases hp
  have fpn : F p = none := by
    cases q : F p with
    | none => rfl
    | some u => rw [r.fh p u q] at hp; cases hp
  have kH : Ex H (upd H p o) := fun a u q => by rw [upd_ne (ne_of_none q hp)]; exact q
  have kG : Ex G (upd G p o) := fun a u q => by rw [upd_ne (ne_of_none q gp)]; exact q
  have np : ∀ a ∈ fp, a ≠ p := fun a ha z => by
    obtain ⟨u, q⟩ := h.there a ha
    rw [z, hp] at q
    cases q
  refine ⟨fun a u q => ?_, r.fh.trans kH, fun a u q => ?_, fp, h.mono kG (fun a ha => upd_ne (np a ha)), nd, fun a ha => ⟨(ap a ha).1, ?_⟩⟩
  · by_cases z : a = p
    · subst z
      rw [upd_same] at q ⊢
      exact q
    · rw [upd_ne z] at q ⊢
      exact r.gh a u q
  · by_cases z : a = p
    · subst z
      rw [fpn] at q
      cases q
    · rw [upd_ne z]
      exact r.gf a u q
  · rw [upd_ne (np a ha)]
    exact (ap a ha).2

theorem nodup3 {f1 f2 f3 : List Addr} (h : (f1 ++ (f2 ++ f3)).Nodup) : f2.Nodup ∧ (f1 ++ f3).Nodup ∧ ∀ a ∈ f2, a ∉ f1 ++ f3 := by
  obtain ⟨h1, h2, h3⟩ := List.nodup_append.mp h
  obtain ⟨h4, h5, h6⟩ := List.nodup_append.mp h2
  refine ⟨h4, List.nodup_append.mpr ⟨h1, h5, fun a ha b hb => h3 a ha b (List.mem_append_right _ hb)⟩, fun a ha hm => ?_⟩
  rcases List.mem_append.mp hm with hm | hm
  · exact h3 a hm a (List.mem_append_left _ ha) rfl
  · exact h6 a ha a hm rfl
theorem nodup3' {f1 f2 f3 : List Addr} (h2 : f2.Nodup) (h13 : (f1 ++ f3).Nodup) (ha : ∀ a ∈ f2, a ∉ f1 ++ f3) : (f1 ++ (f2 ++ f3)).Nodup := by
  obtain ⟨h1, h3, h4⟩ := List.nodup_append.mp h13
  refine List.nodup_append.mpr ⟨h1, List.nodup_append.mpr ⟨h2, h3, fun a ha' b hb z => ha a ha' (z ▸ List.mem_append_right _ hb)⟩, fun a ha' b hb z => ?_⟩
  rcases List.mem_append.mp hb with hb | hb
  · exact ha b hb (z ▸ List.mem_append_left _ ha')
  · exact h4 a ha' b hb z
theorem slotAt_lt {e : Env} {i : Nat} (h : slotAt e i ≠ .non) : i < e.length := by
  rcases Nat.lt_or_ge i e.length with h1 | h1
  · exact h1
  · exfalso
    apply h
    unfold slotAt
    rw [List.getD_eq_getElem?_getD, List.getElem?_eq_none h1] <;> rfl
/-- one slot opened: what it holds, and how the state is closed with another content -/
theorem RS.open_ (r : RS K mg xa F G e xs H) {i : Nat} (hi : i < e.length) : ∃ (x : Option V) (fo fp : List Addr), xs[i]? = some x ∧ SlotR K mg xa H G (slotAt e i) x fo ∧ fo.Nodup ∧ (∀ a ∈ fo, a ∉ fp) ∧ (∀ a ∈ fo, F a = none ∧ G a = none) ∧
    (∀ a ∈ fp, ∃ u, H a = some u) ∧ (∀ a ∈ fp, F a = none ∧ G a = none) ∧
    ∀ (H' G' : Hp) (s' : Slot) (x' : Option V) (f' : List Addr), Ex G G' → Ex G' H' → Ex F H' → (∀ a u, F a = some u → G' a = none) → (∀ a ∈ fp, H' a = H a ∧ G' a = none) → SlotR K mg xa H' G' s' x' f' → f'.Nodup →
      (∀ a ∈ f', a ∉ fp) → (∀ a ∈ f', F a = none ∧ G' a = none) → RS K mg xa F G' (e.set i s') (xs.set i x') H' := by
  obtain ⟨fp, h, nd, ap⟩ := r.own
  obtain ⟨y, f1, fo, f3, e1, e2, e3, e4⟩ := h.at hi
  subst e2
  obtain ⟨n2, n13, n4⟩ := nodup3 nd
  have m2 : ∀ a ∈ fo, a ∈ f1 ++ (fo ++ f3) := fun a ha => List.mem_append_right _ (List.mem_append_left _ ha)
  have m13 : ∀ a ∈ f1 ++ f3, a ∈ f1 ++ (fo ++ f3) := fun a ha => by
    rcases List.mem_append.mp ha with z | z
    · exact List.mem_append_left _ z
    · exact List.mem_append_right _ (List.mem_append_right _ z)
  refine ⟨y, fo, f1 ++ f3, e1, e3, n2, n4, fun a ha => ap a (m2 a ha), fun a ha => h.there a (m13 a ha), fun a ha => ap a (m13 a ha), fun H' G' s' x' f' eG gh fh gf k1 k2 k3 k4 k5 => ?_⟩
  refine ⟨gh, fh, gf, f1 ++ (f' ++ f3), e4 H' G' s' x' f' eG (fun a ha => (k1 a ha).1) k2, nodup3' k3 n13 k4, fun a ha => ?_⟩
  have q : a ∈ f' ∨ a ∈ f1 ++ f3 := by
    rcases List.mem_append.mp ha with z | z
    · exact .inr (List.mem_append_left _ z)
    · rcases List.mem_append.mp z with z | z
      · exact .inl z
      · exact .inr (List.mem_append_right _ z)
  rcases q with q | q
  · exact k5 a q
  · exact ⟨(ap a (m13 a q)).1, (k1 a q).2⟩
theorem look_own {e : Env} {i : Nat} {o : OD} {p : Option Nat} (h : slotAt e i = .own o p) : look e (.pl i) = some o.toD := by simp only [look, h]
theorem look_fro {e : Env} {i : Nat} {d : D} {p : Option Nat} (h : slotAt e i = .fro d p) : look e (.pl i) = some d := by simp only [look, h]
theorem look_pl {e : Env} {i : Nat} {d : D} (h : look e (.pl i) = some d) : (∃ p, slotAt e i = .fro d p) ∨ ∃ o p, slotAt e i = .own o p ∧ d = o.toD := by
  cases q : slotAt e i with
  | non => simp only [look, q] at h; cases h
  | exc c ns ds => simp only [look, q] at h; cases h
  | fro d' p => rw [look_fro q] at h; cases h; exact .inl ⟨p, rfl⟩
  | own o p => rw [look_own q] at h; cases h; exact .inr ⟨o, p, rfl, rfl⟩
theorem keep_pl {e e' : Env} {i : Nat} {d : D} (h : keep e (.pl i) = some (d, e')) : (∃ p, slotAt e i = .fro d p ∧ e' = e) ∨ ∃ o p, slotAt e i = .own o p ∧ d = o.toD ∧ e' = e.set i (.fro o.toD p) := by
  cases q : slotAt e i with
  | non => simp only [keep, q] at h; cases h
  | exc c ns ds => simp only [keep, q] at h; cases h
  | fro d' p => simp only [keep, q] at h; cases h; exact .inl ⟨p, rfl, rfl⟩
  | own o p => simp only [keep, q] at h; cases h; exact .inr ⟨o, p, rfl, rfl, rfl⟩
theorem lt_fro {e : Env} {i : Nat} {d : D} {p : Option Nat} (h : slotAt e i = .fro d p) : i < e.length := slotAt_lt (by rw [h]; exact fun z => nomatch z)
theorem lt_own {e : Env} {i : Nat} {d : OD} {p : Option Nat} (h : slotAt e i = .own d p) : i < e.length := slotAt_lt (by rw [h]; exact fun z => nomatch z)
theorem RS.fro (r : RS K mg xa F G e xs H) {i : Nat} {d : D} {p : Option Nat} {v : V} (q : slotAt e i = .fro d p) (o : xs[i]? = some (some v)) : Rep K G d v := by
  obtain ⟨x, fo, fp, e1, e2, _⟩ := r.open_ (lt_fro q)
  rw [q] at e2
  obtain ⟨_, _, w, e3, e4⟩ := e2
  rw [o] at e1
  cases e1
  cases e3
  exact e4
/-- a slot's tree opened -/
theorem RS.tree (r : RS K mg xa F G e xs H) {i : Nat} {t : OD} {p : Option Nat} {v : V} (q : slotAt e i = .own t p) (o : xs[i]? = some (some v)) : PinR xa p (some v) ∧ ∃ (fo fp : List Addr), OwnR K H G t v fo ∧ fo.Nodup ∧ (∀ a ∈ fo, a ∉ fp) ∧ (∀ a ∈ fo, F a = none ∧ G a = none) ∧
    (∀ a ∈ fp, ∃ u, H a = some u) ∧ (∀ a ∈ fp, F a = none ∧ G a = none) ∧
    ∀ (H' G' : Hp) (s' : Slot) (x' : Option V) (f' : List Addr), Ex G G' → Ex G' H' → Ex F H' → (∀ a u, F a = some u → G' a = none) → (∀ a ∈ fp, H' a = H a ∧ G' a = none) → SlotR K mg xa H' G' s' x' f' → f'.Nodup →
      (∀ a ∈ f', a ∉ fp) → (∀ a ∈ f', F a = none ∧ G' a = none) → RS K mg xa F G' (e.set i s') (xs.set i x') H' := by
  obtain ⟨x, fo, fp, e1, e2, e3⟩ := r.open_ (lt_own q)
  rw [q] at e2
  obtain ⟨pn, w, e4, e5⟩ := e2
  rw [o] at e1
  cases e1
  cases e4
  exact ⟨pn, fo, fp, e5, e3⟩
/-- an operand's value -/
def Opn (K : PySem.W.Frag) (G : Hp) (xs : List (Option V)) : At → V → Prop
  | .val d, v => Rep K G d v
  | .pl i, v => xs[i]? = some (some v)
theorem Opn.mono {G G' : Hp} {xs ys : List (Option V)} {a : At} {v : V} (e : Ex G G') (h : Opn K G xs a v) : Opn K G' (xs ++ ys) a v := by
  cases a with
  | val d => exact Rep.mono K e d v h
  | pl i =>
    have h' : xs[i]? = some (some v) := h
    show (xs ++ ys)[i]? = some (some v)
    rw [List.getElem?_append_left (List.getElem?_eq_some_iff.mp h').1]
    exact h'
theorem Opn.ex {G G' : Hp} {xs : List (Option V)} {a : At} {v : V} (e : Ex G G') (h : Opn K G xs a v) : Opn K G' xs a v := by
  have := h.mono (ys := []) e
  rwa [List.append_nil] at this
theorem set_same {α : Type} {xs : List α} {i : Nat} {x : α} (h : xs[i]? = some x) : xs.set i x = xs := by
  obtain ⟨h1, h2⟩ := List.getElem?_eq_some_iff.mp h
  rw [← h2]
  exact List.set_getElem_self h1
/-- an operand as it reads now -/
theorem RS.look (r : RS K mg xa F G e xs H) {a : At} {v : V} {d : D} (o : Opn K G xs a v) (h : look e a = some d) : Rep K H d v := by
  cases a with
  | val d' =>
    cases h
    exact Rep.mono K r.gh _ _ o
  | pl i =>
    rcases look_pl h with ⟨p, q⟩ | ⟨t, p, q, rfl⟩
    · exact Rep.mono K r.gh _ _ (r.fro q o)
    · obtain ⟨_, fo, fp, e1, _⟩ := r.tree q o
      exact OwnR.rep K r.gh t _ fo (fun a _ u q => q) e1
/-- what is frozen with the objects of fo -/
noncomputable def withO (G H : Hp) (fo : List Addr) : Hp := fun a => if a ∈ fo then H a else G a
theorem withO_in {G H : Hp} {fo : List Addr} {a : Addr} (h : a ∈ fo) : withO G H fo a = H a := if_pos h
theorem withO_out {G H : Hp} {fo : List Addr} {a : Addr} (h : a ∉ fo) : withO G H fo a = G a := if_neg h
theorem withO_ex {G H : Hp} {fo : List Addr} (h : Ex G H) : Ex G (withO G H fo) := fun a u z => by
  by_cases m : a ∈ fo
  · rw [withO_in m]
    exact h a u z
  · rw [withO_out m]
    exact z
theorem withO_le {G H : Hp} {fo : List Addr} (h : Ex G H) : Ex (withO G H fo) H := fun a u z => by
  by_cases m : a ∈ fo
  · rw [withO_in m] at z
    exact z
  · rw [withO_out m] at z
    exact h a u z
/-- slot i's tree is frozen -/
theorem RS.freeze (r : RS K mg xa F G e xs H) {i : Nat} {t : OD} {p : Option Nat} {v : V} (q : slotAt e i = .own t p) (o : xs[i]? = some (some v)) : ∃ G', Ex G G' ∧ RS K mg xa F G' (e.set i (.fro t.toD p)) xs H ∧ Rep K G' t.toD v := by
  obtain ⟨pn, fo, fp, e1, e2, e3, e4, e5, e6, e7⟩ := r.tree q o
  have eG : Ex G (withO G H fo) := withO_ex r.gh
  have rp : Rep K (withO G H fo) t.toD v := OwnR.rep K eG t v fo (fun a m u z => by rw [withO_in m]; exact z) e1
  refine ⟨withO G H fo, eG, ?_, rp⟩
  have R := e7 H (withO G H fo) (.fro t.toD p) (some v) [] eG (withO_le r.gh) r.fh (fun a u z => ?_) (fun a ha => ⟨rfl, ?_⟩) ⟨rfl, pn, v, rfl, rp⟩ List.nodup_nil (fun a z => nomatch z) (fun a z => nomatch z)
  · rw [set_same o] at R
    exact R
  · by_cases m : a ∈ fo
    · rw [(e4 a m).1] at z
      cases z
    · rw [withO_out m]
      exact r.gf a u z
  · rw [withO_out (fun m => e3 a m ha)]
    exact (e6 a ha).2
/-- an operand that is kept -/
theorem RS.keep (r : RS K mg xa F G e xs H) {a : At} {v : V} {d : D} {e' : Env} (o : Opn K G xs a v) (h : keep e a = some (d, e')) : ∃ G', Ex G G' ∧ RS K mg xa F G' e' xs H ∧ Rep K G' d v := by
  cases a with
  | val d' =>
    cases h
    exact ⟨G, Ex.refl _, r, o⟩
  | pl i =>
    rcases keep_pl h with ⟨p, q, rfl⟩ | ⟨t, p, q, rfl, rfl⟩
    · exact ⟨G, Ex.refl _, r, r.fro q o⟩
    · exact r.freeze q o
theorem keep_len {e e' : Env} {a : At} {d : D} (h : PV.keep e a = some (d, e')) : e'.length = e.length := by
  cases a with
  | val d' => cases h; rfl
  | pl i =>
    rcases keep_pl h with ⟨p, q, rfl⟩ | ⟨t, p, q, rfl, rfl⟩
    · rfl
    · exact List.length_set ..
/-- a value, or a list | dict by its items, which are values -/
def RepF (K : PySem.W.Frag) (G H : Hp) (d : D) (v : V) : Prop := Rep K G d v ∨ match d with
  | .lst ds => ∃ a vs, v = .ref a ∧ H a = some (.lst vs) ∧ Reps K G ds vs
  | .dic ks ds => ∃ a vs, v = .ref a ∧ H a = some (.dK (ks.zip vs)) ∧ ks.length = vs.length ∧ Reps K G ds vs
  | _ => False
theorem RepF.rep {d : D} {v : V} (h : RepF K G H d v) (e : Ex G H) : Rep K H d v := by
  rcases h with h | h
  · exact Rep.mono K e d v h
  · cases d with
    | lst ds =>
      obtain ⟨a, vs, h1, h2, h3⟩ := h
      exact ⟨a, vs, h1, .inl h2, Reps.mono K e ds vs h3⟩
    | dic ks ds =>
      obtain ⟨a, vs, h1, h2, h4, h3⟩ := h
      exact ⟨a, vs, h1, h2, h4, Reps.mono K e ds vs h3⟩
    | _ => exact h.elim
theorem RepF.mono {G' : Hp} {d : D} {v : V} (h : RepF K G H d v) (e : Ex G G') : RepF K G' H d v := by
  rcases h with h | h
  · exact .inl (Rep.mono K e d v h)
  · refine .inr ?_
    cases d with
    | lst ds =>
      obtain ⟨a, vs, h1, h2, h3⟩ := h
      exact ⟨a, vs, h1, h2, Reps.mono K e ds vs h3⟩
    | dic ks ds =>
      obtain ⟨a, vs, h1, h2, h4, h3⟩ := h
      exact ⟨a, vs, h1, h2, h4, Reps.mono K e ds vs h3⟩
    | _ => exact h.elim
theorem RepF.lst {ds : List D} {v : V} (h : RepF K G H (.lst ds) v) (e : Ex G H) : ∃ a vs, v = .ref a ∧ Rd H a (.lst vs) ∧ Reps K G ds vs := by
  rcases h with ⟨a, vs, h1, h2, h3⟩ | ⟨a, vs, h1, h2, h3⟩
  · exact ⟨a, vs, h1, ex_rd e h2, h3⟩
  · exact ⟨a, vs, h1, .inl h2, h3⟩
theorem RepF.dic {ks : List Key} {ds : List D} {v : V} (h : RepF K G H (.dic ks ds) v) (e : Ex G H) : ∃ a vs, v = .ref a ∧ H a = some (.dK (ks.zip vs)) ∧ ks.length = vs.length ∧ Reps K G ds vs := by
  rcases h with ⟨a, vs, h1, h2, h3⟩ | ⟨a, vs, h1, h2, h3⟩
  · exact ⟨a, vs, h1, e _ _ h2, h3⟩
  · exact ⟨a, vs, h1, h2, h3⟩
theorem flat_cases {e e' : Env} {a : At} {d : D} (h : flat e a = some (d, e')) : PV.keep e a = some (d, e') ∨ (e' = e ∧ ∃ i p, a = .pl i ∧ ((∃ os ds, slotAt e i = .own (.lst os) p ∧ flats os = some ds ∧ d = .lst ds) ∨
    ∃ ks os ds, slotAt e i = .own (.dic ks os) p ∧ flats os = some ds ∧ d = .dic ks ds)) := by
  cases a with
  | val d' => exact .inl h
  | pl i =>
    cases q : slotAt e i with
    | non => simp only [flat, q] at h; exact .inl h
    | exc c ns ds => simp only [flat, q] at h; exact .inl h
    | fro d' p => simp only [flat, q] at h; exact .inl h
    | own o p =>
      cases o with
      | fro d' => simp only [flat, q] at h; exact .inl h
      | lst os =>
        simp only [flat, q] at h
        cases q2 : flats os with
        | none => rw [q2] at h; exact .inl h
        | some ds =>
          rw [q2] at h
          cases h
          exact .inr ⟨rfl, i, p, rfl, .inl ⟨os, ds, q, q2, rfl⟩⟩
      | dic ks os =>
        simp only [flat, q] at h
        cases q2 : flats os with
        | none => rw [q2] at h; exact .inl h
        | some ds =>
          rw [q2] at h
          cases h
          exact .inr ⟨rfl, i, p, rfl, .inr ⟨ks, os, ds, q, q2, rfl⟩⟩
theorem flat_len {e e' : Env} {a : At} {d : D} (h : flat e a = some (d, e')) : e'.length = e.length := by
  rcases flat_cases h with hk | ⟨ee, _⟩
  · exact keep_len hk
  · rw [ee]
theorem RS.flat (r : RS K mg xa F G e xs H) {a : At} {v : V} {d : D} {e' : Env} (o : Opn K G xs a v) (h : flat e a = some (d, e')) : ∃ G', Ex G G' ∧ RS K mg xa F G' e' xs H ∧ RepF K G' H d v := by
  rcases flat_cases h with hk | ⟨ee, i, p, ea, hc⟩
  · obtain ⟨G', e1, e2, e3⟩ := r.keep o hk
    exact ⟨G', e1, e2, .inl e3⟩
  · subst ee ea
    refine ⟨G, Ex.refl _, r, ?_⟩
    rcases hc with ⟨os, ds, q, q2, rfl⟩ | ⟨ks, os, ds, q, q2, rfl⟩
    · obtain ⟨_, fo, fp, ⟨a, vs, fp', h1, h2, h3, h4⟩, _⟩ := r.tree q o
      exact .inr ⟨a, vs, h1, h3, (OwnRs.flats K q2 h4).1⟩
    · obtain ⟨_, fo, fp, ⟨a, vs, fp', h1, h2, h3, h5, h4⟩, _⟩ := r.tree q o
      exact .inr ⟨a, vs, h1, h3, h5, (OwnRs.flats K q2 h4).1⟩
/-- several operands -/
def Opns (K : PySem.W.Frag) (G : Hp) (xs : List (Option V)) : List At → List V → Prop
  | [], vs => vs = []
  | a :: as, vs => ∃ v r, vs = v :: r ∧ Opn K G xs a v ∧ Opns K G xs as r
theorem Opns.mono {G G' : Hp} {xs ys : List (Option V)} (e : Ex G G') : ∀ {as : List At} {vs : List V}, Opns K G xs as vs → Opns K G' (xs ++ ys) as vs
  | [], vs, h => h
  | a :: as, vs, h => by
    obtain ⟨v, r, h1, h2, h3⟩ := h
    exact ⟨v, r, h1, h2.mono e, Opns.mono e h3⟩
theorem Opns.ex {G G' : Hp} {xs : List (Option V)} (e : Ex G G') {as : List At} {vs : List V} (h : Opns K G xs as vs) : Opns K G' xs as vs := by
  have := h.mono (ys := []) e
  rwa [List.append_nil] at this
def RepFs (K : PySem.W.Frag) (G H : Hp) : List D → List V → Prop
  | [], vs => vs = []
  | d :: ds, vs => ∃ v r, vs = v :: r ∧ RepF K G H d v ∧ RepFs K G H ds r
theorem RS.flats (as : List At) : ∀ {G : Hp} {e : Env} {vs : List V} {ds : List D} {e' : Env}, RS K mg xa F G e xs H → Opns K G xs as vs → flatLs e as = some (ds, e') → ∃ G', Ex G G' ∧ RS K mg xa F G' e' xs H ∧ RepFs K G' H ds vs ∧ e'.length = e.length := by
  induction as with
  | nil =>
    intro G e vs ds e' r o h
    cases h
    exact ⟨G, Ex.refl _, r, o, rfl⟩
  | cons a as ih =>
    intro G e vs ds e' r o h
    obtain ⟨v, w, rfl, o1, o2⟩ := o
    unfold flatLs at h
    cases q : PV.flat e a with
    | none => rw [q] at h; cases h
    | some p =>
      obtain ⟨d, e1⟩ := p
      rw [q] at h
      obtain ⟨G1, x1, r1, p1⟩ := r.flat o1 q
      cases q2 : flatLs e1 as with
      | none => simp only [q2] at h; cases h
      | some p2 =>
        obtain ⟨ds', e2⟩ := p2
        simp only [q2] at h
        cases h
        obtain ⟨G2, x2, r2, p2, l2⟩ := ih r1 (o2.ex x1) q2
        exact ⟨G2, x1.trans x2, r2, ⟨v, w, rfl, p1.mono x2, p2⟩, l2.trans (flat_len q)⟩
theorem RS.keeps (as : List At) : ∀ {G : Hp} {e : Env} {vs : List V} {ds : List D} {e' : Env}, RS K mg xa F G e xs H → Opns K G xs as vs → keeps e as = some (ds, e') → ∃ G', Ex G G' ∧ RS K mg xa F G' e' xs H ∧ Reps K G' ds vs ∧ e'.length = e.length := by
  induction as with
  | nil =>
    intro G e vs ds e' r o h
    cases h
    exact ⟨G, Ex.refl _, r, o, rfl⟩
  | cons a as ih =>
    intro G e vs ds e' r o h
    obtain ⟨v, w, rfl, o1, o2⟩ := o
    unfold PV.keeps at h
    cases q : PV.keep e a with
    | none => rw [q] at h; cases h
    | some p =>
      obtain ⟨d, e1⟩ := p
      rw [q] at h
      obtain ⟨G1, x1, r1, p1⟩ := r.keep o1 q
      cases q2 : PV.keeps e1 as with
      | none => simp only [q2] at h; cases h
      | some p2 =>
        obtain ⟨ds', e2⟩ := p2
        simp only [q2] at h
        cases h
        obtain ⟨G2, x2, r2, p2, l2⟩ := ih r1 (o2.ex x1) q2
        exact ⟨G2, x1.trans x2, r2, ⟨v, w, rfl, Rep.mono K x2 _ _ p1, p2⟩, l2.trans (keep_len q)⟩
end
end PV
end

section
set_option Elab.async false
set_option linter.all false
set_option maxRecDepth 100000
set_option maxHeartbeats 4000000
/-! PV3: new trees, moved trees, changed trees; what is wanted behind an expression -/
namespace PV
open PySem L2
section
variable {K : PySem.W.Frag} {mg : Str → Option Value} {xa : XA} {F G H : Hp} {e : Env} {xs : List (Option V)}

/-- parts of the slots -/
theorem RS.app (r : RS K mg xa F G e xs H) {e2 : Env} {ys : List (Option V)} {fq : List Addr} (h : SlotsR K mg xa H G e2 ys fq) (nd : fq.Nodup) (hd : ∀ a ∈ fq, F a = none ∧ G a = none)
    (ap : ∀ fp, SlotsR K mg xa H G e xs fp → ∀ a ∈ fq, a ∉ fp) : RS K mg xa F G (e ++ e2) (xs ++ ys) H := by
  obtain ⟨fp, hs, n1, k1⟩ := r.own
  refine ⟨r.gh, r.fh, r.gf, fp ++ fq, hs.append h, List.nodup_append.mpr ⟨n1, nd, fun a ha b hb z => ap fp hs b hb (z ▸ ha)⟩, fun a ha => ?_⟩
  rcases List.mem_append.mp ha with z | z
  · exact k1 a z
  · exact hd a z
/-- without a middle part -/
theorem RS.drop {e1 e2 e3 : Env} {x1 x2 x3 : List (Option V)} (r : RS K mg xa F G (e1 ++ (e2 ++ e3)) (x1 ++ (x2 ++ x3)) H) (h1 : e1.length = x1.length) (h2 : e2.length = x2.length) : RS K mg xa F G (e1 ++ e3) (x1 ++ x3) H := by
  obtain ⟨fp, h, nd, ap⟩ := r.own
  obtain ⟨f1, f2, e, a, b⟩ := h.split e1.length
  rw [List.take_left, h1, List.take_left] at a
  rw [List.drop_left, h1, List.drop_left] at b
  obtain ⟨g1, g2, e', a', b'⟩ := b.split e2.length
  rw [List.drop_left, h2, List.drop_left] at b'
  subst e e'
  obtain ⟨n2, n13, _⟩ := nodup3 nd
  refine ⟨r.gh, r.fh, r.gf, f1 ++ g2, a.append b', n13, fun x hx => ap x ?_⟩
  rcases List.mem_append.mp hx with z | z
  · exact List.mem_append_left _ z
  · exact List.mem_append_right _ (List.mem_append_right _ z)
theorem slotsR_owns {H G : Hp} : ∀ {os : List OD} {vs : List V} {fp : List Addr}, SlotsR K mg xa H G (os.map fun o => .own o none) (vs.map some) fp → OwnRs K H G os vs fp
  | [], [], fp, h => ⟨rfl, h⟩
  | o :: os, v :: vs, fp, h => by
    obtain ⟨f1, f2, h1, ⟨_, w, h2, h3⟩, h4⟩ := h
    cases h2
    exact ⟨v, vs, f1, f2, rfl, h1, h3, slotsR_owns h4⟩
  | [], _ :: _, fp, h => h.elim
  | _ :: _, [], fp, h => h.elim
theorem owns_slotsR {H G : Hp} : ∀ {os : List OD} {vs : List V} {fp : List Addr}, OwnRs K H G os vs fp → SlotsR K mg xa H G (os.map fun o => .own o none) (vs.map some) fp
  | [], vs, fp, h => by
    rw [h.1]
    exact h.2
  | o :: os, vs, fp, h => by
    obtain ⟨v, r, f1, f2, rfl, h1, h3, h4⟩ := h
    exact ⟨f1, f2, h1, ⟨pin0, v, rfl, h3⟩, owns_slotsR h4⟩
/-- a new list takes the trees behind the slots -/
theorem RS.pack {os : List OD} {vs : List V} (r : RS K mg xa F G (e ++ os.map fun o => .own o none) (xs ++ vs.map some) H) (hl : e.length = xs.length) {p : Addr} (hp : H p = none) :
    RS K mg xa F G (e ++ [.own (.lst os) none]) (xs ++ [some (.ref p)]) (upd H p (.lst vs)) := by
  obtain ⟨fp, h, nd, ap⟩ := r.own
  obtain ⟨f1, f2, e0, a, b⟩ := h.split e.length
  rw [List.take_left, hl, List.take_left] at a
  rw [List.drop_left, hl, List.drop_left] at b
  have ow := slotsR_owns b
  have gp : G p = none := by
    cases q : G p with
    | none => rfl
    | some u => rw [r.gh p u q] at hp; cases hp
  have fpn : F p = none := by
    cases q : F p with
    | none => rfl
    | some u => rw [r.fh p u q] at hp; cases hp
  have kH : Ex H (upd H p (.lst vs)) := fun a u q => by rw [upd_ne (ne_of_none q hp)]; exact q
  have np : ∀ a ∈ fp, a ≠ p := fun a ha z => by
    obtain ⟨u, q⟩ := h.there a ha
    rw [z, hp] at q
    cases q
  subst e0
  have n1 : ∀ a ∈ f1, (upd H p (.lst vs)) a = H a := fun a ha => upd_ne (np a (List.mem_append_left _ ha))
  have n2 : ∀ a ∈ f2, (upd H p (.lst vs)) a = H a := fun a ha => upd_ne (np a (List.mem_append_right _ ha))
  refine ⟨r.gh.trans kH, r.fh.trans kH, r.gf, f1 ++ (p :: f2), (a.mono (Ex.refl _) n1).append ⟨p :: f2, [], by simp, ⟨pin0, .ref p, rfl, p, vs, f2, rfl, rfl, upd_same, OwnRs.mono K (Ex.refl _) os vs f2 n2 ow⟩, rfl⟩, ?_, fun b hb => ?_⟩
  · obtain ⟨m1, m2, m3⟩ := List.nodup_append.mp nd
    refine List.nodup_append.mpr ⟨m1, List.nodup_cons.mpr ⟨fun z => np p (List.mem_append_right _ z) rfl, m2⟩, fun a ha b hb z => ?_⟩
    rcases List.mem_cons.mp hb with q | q
    · exact np a (List.mem_append_left _ ha) (z.trans q)
    · exact m3 a ha b q z
  · rcases List.mem_append.mp hb with q | q
    · exact ap b (List.mem_append_left _ q)
    · rcases List.mem_cons.mp q with q | q
      · rw [q]
        exact ⟨fpn, gp⟩
      · exact ap b (List.mem_append_right _ q)
/-- a new tree whose leaves are values -/
theorem RS.new_ {ds : List D} {vs : List V} (r : RS K mg xa F G e xs H) (h : Reps K G ds vs) {p : Addr} (hp : H p = none) :
    RS K mg xa F G (e ++ [.own (.lst (ds.map .fro)) none]) (xs ++ [some (.ref p)]) (upd H p (.lst vs)) := by
  refine RS.pack (os := ds.map .fro) (vs := vs) ?_ r.len hp
  exact r.app (owns_slotsR (OwnRs.fro K h)) List.nodup_nil (fun a z => nomatch z) fun fp _ a z => nomatch z
theorem RS.fresh (r : RS K mg xa F G e xs H) {p : Addr} (hp : H p = none) : G p = none ∧ F p = none := by
  constructor
  · cases q : G p with
    | none => rfl
    | some u => rw [r.gh p u q] at hp; cases hp
  · cases q : F p with
    | none => rfl
    | some u => rw [r.fh p u q] at hp; cases hp
theorem ex_new {H : Hp} {p : Addr} {o : HO} (hp : H p = none) : Ex H (upd H p o) := fun a u q => by rw [upd_ne (ne_of_none q hp)]; exact q
/-- a new tree of one object -/
theorem RS.push1 (r : RS K mg xa F G e xs H) {p : Addr} {o : HO} {t : OD} {v : V} (hp : H p = none) (h : OwnR K (upd H p o) G t v [p]) : RS K mg xa F G (e ++ [.own t none]) (xs ++ [some v]) (upd H p o) := by
  obtain ⟨fp, hs, nd, ap⟩ := r.own
  have kH : Ex H (upd H p o) := ex_new hp
  have np : ∀ a ∈ fp, a ≠ p := fun a ha z => by
    obtain ⟨u, q⟩ := hs.there a ha
    rw [z, hp] at q
    cases q
  obtain ⟨gp, fpn⟩ := r.fresh hp
  refine ⟨r.gh.trans kH, r.fh.trans kH, r.gf, fp ++ [p], (hs.mono (Ex.refl _) fun a ha => upd_ne (np a ha)).append ⟨[p], [], rfl, ⟨pin0, v, rfl, h⟩, rfl⟩, List.nodup_append.mpr ⟨nd, by simp, fun a ha b hb z => np a ha (z.trans (List.mem_singleton.mp hb))⟩, fun a ha => ?_⟩
  rcases List.mem_append.mp ha with z | z
  · exact ap a z
  · rw [List.mem_singleton.mp z]
    exact ⟨fpn, gp⟩
theorem RS.newD (r : RS K mg xa F G e xs H) {p : Addr} (hp : H p = none) : RS K mg xa F G (e ++ [.own (.dic [] []) none]) (xs ++ [some (.ref p)]) (upd H p (.dK [])) :=
  r.push1 hp ⟨p, [], [], rfl, rfl, upd_same, rfl, rfl, rfl⟩
/-- a value behind the slots -/
theorem RS.pushV (r : RS K mg xa F G e xs H) {d : D} {v : V} (h : Rep K G d v) : RS K mg xa F G (e ++ [.own (.fro d) none]) (xs ++ [some v]) H :=
  r.app (fq := []) ⟨[], [], rfl, ⟨pin0, v, rfl, rfl, h⟩, rfl⟩ List.nodup_nil (fun a z => nomatch z) fun fp _ a z => nomatch z
theorem slotAt_app {e t : Env} {i : Nat} (h : i < e.length) : slotAt (e ++ t) i = slotAt e i := by
  unfold slotAt
  rw [List.getD_eq_getElem?_getD, List.getD_eq_getElem?_getD, List.getElem?_append_left h]
theorem set_app {α : Type} {e t : List α} {i : Nat} {x : α} (h : i < e.length) : (e ++ t).set i x = e.set i x ++ t := List.set_append_left _ _ h
/-- slot i's tree is moved behind the slots -/
theorem RS.move (r : RS K mg xa F G e xs H) {i : Nat} {t : OD} {p : Option Nat} {v : V} (q : slotAt e i = .own t p) (o : xs[i]? = some (some v)) : RS K mg xa F G (e.set i .non ++ [.own t none]) (xs ++ [some v]) H := by
  obtain ⟨fp, h, nd, ap⟩ := r.own
  obtain ⟨y, f1, fo, f3, e1, e2, e3, e4⟩ := h.at (lt_own q)
  rw [o] at e1
  cases e1
  rw [q] at e3
  obtain ⟨pn, w, e5, e6⟩ := e3
  cases e5
  subst e2
  obtain ⟨n2, n13, n4⟩ := nodup3 nd
  have S := e4 H G .non (some v) [] (Ex.refl _) (fun _ _ => rfl) rfl
  rw [set_same o] at S
  refine ⟨r.gh, r.fh, r.gf, (f1 ++ ([] ++ f3)) ++ fo, S.append ⟨fo, [], by simp, ⟨pin0, v, rfl, e6⟩, rfl⟩, ?_, fun a ha => ap a ?_⟩
  · rw [List.nil_append]
    exact List.nodup_append.mpr ⟨n13, n2, fun a ha b hb z => n4 b hb (z ▸ ha)⟩
  · rw [List.nil_append] at ha
    rcases List.mem_append.mp ha with z | z
    · rcases List.mem_append.mp z with z | z
      · exact List.mem_append_left _ z
      · exact List.mem_append_right _ (List.mem_append_right _ z)
    · exact List.mem_append_right _ (List.mem_append_left _ z)
theorem take_len {n : Nat} {e e1 : Env} {a : At} {o : OD} (h : PV.take n e a = some (o, e1)) : e1.length = e.length := by
  cases a with
  | val d => cases h; rfl
  | pl i =>
    cases q : slotAt e i with
    | non => simp only [PV.take, q] at h; cases h
    | exc c ns ds => simp only [PV.take, q] at h; cases h
    | fro d p => simp only [PV.take, q] at h; cases h; rfl
    | own t p =>
      simp only [PV.take, q] at h
      split at h
      · cases h; exact List.length_set ..
      · cases h; exact List.length_set ..
/-- an operand goes into a new object -/
theorem RS.take1 {n : Nat} {t : Env} {ts : List (Option V)} {a : At} {v : V} {o : OD} {e1 : Env} (r : RS K mg xa F G (e ++ t) (xs ++ ts) H) (hl : e.length = xs.length) (ho : Opn K G xs a v) (h : PV.take n e a = some (o, e1)) :
    ∃ G', Ex G G' ∧ RS K mg xa F G' (e1 ++ (t ++ [.own o none])) (xs ++ (ts ++ [some v])) H := by
  cases a with
  | val d =>
    cases h
    have R := r.pushV (d := d) (v := v) ho
    rw [List.append_assoc, List.append_assoc] at R
    exact ⟨G, Ex.refl _, R⟩
  | pl i =>
    have o' : xs[i]? = some (some v) := ho
    have hi : i < e.length := by rw [hl]; exact (List.getElem?_eq_some_iff.mp o').1
    have o2 : (xs ++ ts)[i]? = some (some v) := by rw [List.getElem?_append_left (by rw [← hl]; exact hi)]; exact o'
    cases q : slotAt e i with
    | non => simp only [PV.take, q] at h; cases h
    | exc c ns ds => simp only [PV.take, q] at h; cases h
    | fro d p =>
      simp only [PV.take, q] at h
      cases h
      have R := r.pushV (r.fro (by rw [slotAt_app hi]; exact q) o2)
      rw [List.append_assoc, List.append_assoc] at R
      exact ⟨G, Ex.refl _, R⟩
    | own tr p =>
      have q2 : slotAt (e ++ t) i = .own tr p := by rw [slotAt_app hi]; exact q
      simp only [PV.take, q] at h
      split at h
      · cases h
        have R := r.move q2 o2
        rw [set_app hi, List.append_assoc, List.append_assoc] at R
        exact ⟨G, Ex.refl _, R⟩
      · cases h
        obtain ⟨G', x, R, rp⟩ := r.freeze q2 o2
        rw [set_app hi] at R
        have R2 := R.pushV rp
        rw [List.append_assoc, List.append_assoc] at R2
        exact ⟨G', x, R2⟩
theorem RS.takes {n : Nat} (as : List At) : ∀ {G : Hp} {e t e1 : Env} {ts : List (Option V)} {vs : List V} {os : List OD}, RS K mg xa F G (e ++ t) (xs ++ ts) H → e.length = xs.length → Opns K G xs as vs → PV.takes n e as = some (os, e1) →
    ∃ G', Ex G G' ∧ RS K mg xa F G' (e1 ++ (t ++ os.map fun o => .own o none)) (xs ++ (ts ++ vs.map some)) H ∧ e1.length = e.length := by
  induction as with
  | nil =>
    intro G e t e1 ts vs os r hl o h
    cases h
    rw [show vs = [] from o]
    refine ⟨G, Ex.refl _, ?_, rfl⟩
    simpa using r
  | cons a as ih =>
    intro G e t e1 ts vs os r hl o h
    obtain ⟨v, w, rfl, o1, o2⟩ := o
    unfold PV.takes at h
    cases q : PV.take n e a with
    | none => rw [q] at h; cases h
    | some p =>
      obtain ⟨o, e2⟩ := p
      rw [q] at h
      obtain ⟨G1, x1, r1⟩ := r.take1 hl o1 q
      cases q2 : PV.takes n e2 as with
      | none => simp only [q2] at h; cases h
      | some p2 =>
        obtain ⟨os', e3⟩ := p2
        simp only [q2] at h
        cases h
        obtain ⟨G2, x2, r2, l2⟩ := ih r1 ((take_len q).trans hl) (o2.ex x1) q2
        refine ⟨G2, x1.trans x2, ?_, l2.trans (take_len q)⟩
        rw [List.append_assoc, List.append_assoc] at r2
        exact r2
/-- slot i's tree is changed at its root object a; trees behind the slots may go into it -/
theorem RS.absorb {os : List OD} {vs : List V} (r : RS K mg xa F G (e ++ os.map fun o => .own o none) (xs ++ vs.map some) H) (hl : e.length = xs.length) {i : Nat} {t t' : OD} {p : Option Nat} {a : Addr} {u : HO} (q : slotAt e i = .own t p) (o : xs[i]? = some (some (.ref a)))
    (hn : ∀ fo fx, OwnR K H G t (.ref a) fo → OwnRs K H G os vs fx → (fo ++ fx).Nodup → a ∈ fo ∧ ∃ f', OwnR K (upd H a u) G t' (.ref a) f' ∧ f'.Nodup ∧ ∀ b ∈ f', b ∈ fo ++ fx) :
    RS K mg xa F G (e.set i (.own t' p)) xs (upd H a u) := by
  obtain ⟨fp, h, nd, ap⟩ := r.own
  obtain ⟨g1, fx, e0, A, B⟩ := h.split e.length
  rw [List.take_left, hl, List.take_left] at A
  rw [List.drop_left, hl, List.drop_left] at B
  have ow := slotsR_owns B
  obtain ⟨y, f1, fo, f3, e1, e2, e3, e4⟩ := A.at (lt_own q)
  rw [o] at e1
  cases e1
  rw [q] at e3
  obtain ⟨pn, w, e5, e6⟩ := e3
  cases e5
  subst e2 e0
  obtain ⟨nA, nx, nAx⟩ := List.nodup_append.mp nd
  obtain ⟨n2, n13, n4⟩ := nodup3 nA
  have inA : ∀ b ∈ fo, b ∈ f1 ++ (fo ++ f3) := fun b hb => List.mem_append_right _ (List.mem_append_left _ hb)
  have in13 : ∀ b ∈ f1 ++ f3, b ∈ f1 ++ (fo ++ f3) := fun b hb => by
    rcases List.mem_append.mp hb with z | z
    · exact List.mem_append_left _ z
    · exact List.mem_append_right _ (List.mem_append_right _ z)
  obtain ⟨ha, f', k1, k2, k3⟩ := hn fo fx e6 ow (List.nodup_append.mpr ⟨n2, nx, fun b hb c hc z => nAx b (inA b hb) c hc z⟩)
  have apx : ∀ b ∈ fo ++ fx, F b = none ∧ G b = none := fun b hb => by
    rcases List.mem_append.mp hb with z | z
    · exact ap b (List.mem_append_left _ (inA b z))
    · exact ap b (List.mem_append_right _ z)
  have out : ∀ b ∈ fo ++ fx, b ∉ f1 ++ f3 := fun b hb m => by
    rcases List.mem_append.mp hb with z | z
    · exact n4 b z m
    · exact nAx b (in13 b m) b z rfl
  have an : ∀ b ∈ f1 ++ f3, b ≠ a := fun b hb z => n4 a ha (z ▸ hb)
  have ga : G a = none := (apx a (List.mem_append_left _ ha)).2
  have fa : F a = none := (apx a (List.mem_append_left _ ha)).1
  have S := e4 (upd H a u) G (.own t' p) (some (.ref a)) f' (Ex.refl _) (fun b hb => upd_ne (an b hb)) ⟨pn, _, rfl, k1⟩
  rw [set_same o] at S
  refine ⟨fun b w z => by rw [upd_ne (fun y => by rw [y, ga] at z; cases z)]; exact r.gh b w z, fun b w z => by rw [upd_ne (fun y => by rw [y, fa] at z; cases z)]; exact r.fh b w z, r.gf, f1 ++ (f' ++ f3), S,
    nodup3' k2 n13 fun b hb => out b (k3 b hb), fun b hb => ?_⟩
  rcases List.mem_append.mp hb with z | z
  · exact ap b (List.mem_append_left _ (List.mem_append_left _ z))
  · rcases List.mem_append.mp z with z | z
    · exact apx b (k3 b z)
    · exact ap b (List.mem_append_left _ (List.mem_append_right _ (List.mem_append_right _ z)))

/-! ### what is wanted behind an expression -/
variable (K mg xa F)
/-- behind a computation: R of what it gives, W at an exception -/
def Post {β : Type} (σ : L2.St) (W : WX) (G : Hp) (R : β → Env → Hp → Prop) : Out β → Prop
  | .ok b e' => R b e' G
  | .err x e' => ∀ cls dx H' G' ys, Ex G G' → RS K mg xa F G' e' (σ ++ ys) H' → mg x.cls = some cls → ExnR K G' x.ns x.vs dx → W cls (some dx) σ H'
  | .bad => False
/-- Q behind a result: the slots xs again, or a new tree behind them -/
def QE (xs : List (Option V)) (Q : V → Hp → Prop) : Res → Env → Hp → Prop := fun r e' G => match r with
  | .frs o => ∀ v H' G', Ex G G' → RS K mg xa F G' (e' ++ [.own o none]) (xs ++ [some v]) H' → Q v H'
  | .at_ a => ∀ v H' G', Ex G G' → RS K mg xa F G' e' xs H' → Opn K G' xs a v → Q v H'
def QT (xs : List (Option V)) (Q : Bool → Hp → Prop) : Bool → Env → Hp → Prop := fun b e' G => ∀ H' G', Ex G G' → RS K mg xa F G' e' xs H' → Q b H'
def QA (xs : List (Option V)) (Q : List V → Hp → Prop) : List At → Env → Hp → Prop := fun as e' G => ∀ vs ys H' G', Ex G G' → RS K mg xa F G' e' (xs ++ ys) H' → Opns K G' (xs ++ ys) as vs → Q vs H'
def QI (xs : List (Option V)) (Q : Option Int → Hp → Prop) : Option Int → Env → Hp → Prop := fun b e' G => ∀ H' G', Ex G G' → RS K mg xa F G' e' xs H' → Q b H'
variable {K mg xa F}
def Mono {β : Type} (R : β → Env → Hp → Prop) : Prop := ∀ b e G G', Ex G G' → R b e G → R b e G'
variable {σ : L2.St} {W : WX}
theorem QE.mono {Q : V → Hp → Prop} : Mono (QE K mg xa F xs Q) := fun r e G G' x h => by
  cases r with
  | frs o => exact fun v H' G2 y => h v H' G2 (x.trans y)
  | at_ a => exact fun v H' G2 y => h v H' G2 (x.trans y)
theorem QT.mono {Q : Bool → Hp → Prop} : Mono (QT K mg xa F xs Q) := fun r e G G' x h H' G2 y => h H' G2 (x.trans y)
theorem QI.mono {Q : Option Int → Hp → Prop} : Mono (QI K mg xa F xs Q) := fun r e G G' x h H' G2 y => h H' G2 (x.trans y)
theorem QA.mono {Q : List V → Hp → Prop} : Mono (QA K mg xa F xs Q) := fun r e G G' x h vs ys H' G2 y => h vs ys H' G2 (x.trans y)
theorem Post.mono {β : Type} {R : β → Env → Hp → Prop} (hm : Mono R) {G' : Hp} {o : Out β} (x : Ex G G') (h : Post K mg xa F σ W G R o) : Post K mg xa F σ W G' R o := by
  cases o with
  | ok r e' => exact hm _ _ _ _ x h
  | err y e' => exact fun cls dx H' G2 ys z => h cls dx H' G2 ys (x.trans z)
  | bad => exact h
theorem Post.imp {β : Type} {R R' : β → Env → Hp → Prop} {o : Out β} (hq : ∀ b e, o = .ok b e → R b e G → R' b e G) (h : Post K mg xa F σ W G R o) : Post K mg xa F σ W G R' o := by
  cases o with
  | ok r e' => exact hq _ _ rfl h
  | err y e' => exact h
  | bad => exact h
end
end PV
end

section
set_option Elab.async false
set_option linter.all false
set_option maxRecDepth 100000
set_option maxHeartbeats 4000000
/-! PV4: the judgement; steps -/
namespace PV
open PySem PySem.Spec PyProof.Rows L2

theorem pe_imp {X : Cx} {e : Expr} {t t' : TE} (h : PE X e t) (k : ∀ σ H Q, t' σ H Q → t σ H Q) : PE X e t' := ⟨fun pins s σ H Q I q => h.run pins s σ H Q I (k σ H Q q)⟩
theorem pa_imp {X : Cx} {e : List Expr} {t t' : TA} (h : PA X e t) (k : ∀ σ H Q, t' σ H Q → t σ H Q) : PA X e t' := ⟨fun pos pins s σ H Q I q => h.run pos pins s σ H Q I (k σ H Q q)⟩
theorem po_imp {X : Cx} {e : Option Expr} {t t' : TO} (h : PO X e t) (k : ∀ σ H Q, t' σ H Q → t σ H Q) : PO X e t' := ⟨fun pins s σ H Q I q => h.run pins s σ H Q I (k σ H Q q)⟩
theorem pt_imp {X : Cx} {e : Expr} {t t' : TT} (h : PT X e t) (k : ∀ σ H Q, t' σ H Q → t σ H Q) : PT X e t' := ⟨fun pins s σ H Q I q => h.run pins s σ H Q I (k σ H Q q)⟩
theorem pw_imp {X : Cx} {e : Expr} {t t' : TT} (h : PW X e t) (k : ∀ σ H Q, t' σ H Q → t σ H Q) : PW X e t' := ⟨fun wh pins s σ H Q I q => h.run wh pins s σ H Q I (k σ H Q q)⟩
theorem ps_imp {X : Cx} {e : Stmt} {t t' : TS} (h : PS X e t) (k : ∀ D σ H, t' D σ H → t D σ H) : PS X e t' := ⟨fun pins s σ H D I q => h.run pins s σ H D I (k D σ H q)⟩
theorem pss_imp {X : Cx} {e : List Stmt} {t t' : TS} (h : PSs X e t) (k : ∀ D σ H, t' D σ H → t D σ H) : PSs X e t' := ⟨fun pins s σ H D I q => h.run pins s σ H D I (k D σ H q)⟩

section
variable (C : Ctx) (xa : XA) (K : PySem.W.Frag) (mg : Str → Option Value)
/-- what the interpreter says of an expression -/
def rdE (c : CE) (W : WX) : TE := fun σ H Q => ∃ e τ F G, RS K mg xa F G e (σ ++ τ) H ∧ Post K mg xa F σ W G (QE K mg xa F (σ ++ τ) Q) (ev C c e)
def rdT (c : CT) (W : WX) : TT := fun σ H Q => ∃ e τ F G, RS K mg xa F G e (σ ++ τ) H ∧ Post K mg xa F σ W G (QT K mg xa F (σ ++ τ) Q) (evt C c e)
def rdA (c : List CE) (W : WX) : TA := fun σ H Q => ∃ e τ F G, RS K mg xa F G e (σ ++ τ) H ∧ Post K mg xa F σ W G (QA K mg xa F (σ ++ τ) Q) (evs C c e)
def rdO (c : Option CE) (W : WX) : TO := fun σ H Q => ∃ e τ F G, RS K mg xa F G e (σ ++ τ) H ∧ Post K mg xa F σ W G (QI K mg xa F (σ ++ τ) Q) (evo C c e)
end
structure VE (C : Ctx) (xa : XA) (X : Cx) (e : Expr) (c : CE) : Prop where
  pe : ∀ W, Takes X W → PE X e (rdE C xa X.K X.mg c W)
structure VT (C : Ctx) (xa : XA) (X : Cx) (e : Expr) (c : CT) : Prop where
  pt : ∀ W, Takes X W → PT X e (rdT C xa X.K X.mg c W)
structure VW (C : Ctx) (xa : XA) (X : Cx) (e : Expr) (c : CT) : Prop where
  pw : ∀ W, Takes X W → PW X e (rdT C xa X.K X.mg c W)
structure VA (C : Ctx) (xa : XA) (X : Cx) (e : List Expr) (c : List CE) : Prop where
  pa : ∀ W, Takes X W → PA X e (rdA C xa X.K X.mg c W)
structure VO (C : Ctx) (xa : XA) (X : Cx) (e : Option Expr) (c : Option CE) : Prop where
  po : ∀ W, Takes X W → PO X e (rdO C xa X.K X.mg c W)

section
variable {C : Ctx} {xa : XA} {K : PySem.W.Frag} {mg : Str → Option Value} {F G H : Hp} {e : Env} {σ : L2.St} {τ xs : List (Option V)} {W : WX} {Q : V → Hp → Prop}
/-- one operand is reckoned -/
theorem rd_opd {β : Type} {Rk : β → Env → Hp → Prop} {c : CE} {k : At → Env → Out β} {R : V → Hp → Prop} (r : RS K mg xa F G e (σ ++ τ) H) (h : Post K mg xa F σ W G Rk ((opd (ev C c e)).bind k)) (hm : Mono Rk)
    (hR : ∀ a e1 v zs H1 G1, Ex G G1 → RS K mg xa F G1 e1 (σ ++ (τ ++ zs)) H1 → Opn K G1 (σ ++ (τ ++ zs)) a v → Post K mg xa F σ W G1 Rk (k a e1) → R v H1) : rdE C xa K mg c W σ H R := by
  refine ⟨e, τ, F, G, r, ?_⟩
  cases q : ev C c e with
  | ok res e' =>
    rw [q] at h
    cases res with
    | frs o =>
      intro v H' G' x r'
      have h' : Post K mg xa F σ W G Rk (k (.pl e'.length) (e' ++ [.own o none])) := h
      have l := r'.len
      simp only [List.length_append, List.length_cons, List.length_nil] at l
      have r2 : RS K mg xa F G' (e' ++ [.own o none]) (σ ++ (τ ++ [some v])) H' := by rw [← List.append_assoc]; exact r'
      refine hR (.pl e'.length) (e' ++ [.own o none]) v [some v] H' G' x r2 ?_ (Post.mono hm x h')
      show (σ ++ (τ ++ [some v]))[e'.length]? = some (some v)
      rw [← List.append_assoc, List.getElem?_append_right (by simp only [List.length_append]; omega)]
      simp only [List.length_append]
      rw [show e'.length - (σ.length + τ.length) = 0 by omega] <;> rfl
    | at_ a =>
      intro v H' G' x r' o
      have h' : Post K mg xa F σ W G Rk (k a e') := h
      have r2 : RS K mg xa F G' e' (σ ++ (τ ++ [])) H' := by rw [List.append_nil]; exact r'
      exact hR a e' v [] H' G' x r2 (by rw [List.append_nil]; exact o) (Post.mono hm x h')
  | err x e' =>
    rw [q] at h
    exact h
  | bad =>
    rw [q] at h
    exact h
/-- a result that is no new tree by the rest's leave -/
theorem rd_bind {β : Type} {Rk : β → Env → Hp → Prop} {c : CE} {k : Res → Env → Out β} {R : V → Hp → Prop} (r : RS K mg xa F G e (σ ++ τ) H) (h : Post K mg xa F σ W G Rk ((ev C c e).bind k)) (hm : Mono Rk)
    (hR : ∀ a e1 v H1 G1, Ex G G1 → RS K mg xa F G1 e1 (σ ++ τ) H1 → Opn K G1 (σ ++ τ) a v → Post K mg xa F σ W G1 Rk (k (.at_ a) e1) → R v H1)
    (hF : ∀ o e1 v H1 G1, Ex G G1 → RS K mg xa F G1 (e1 ++ [.own o none]) (σ ++ τ ++ [some v]) H1 → Post K mg xa F σ W G1 Rk (k (.frs o) e1) → R v H1) : rdE C xa K mg c W σ H R := by
  refine ⟨e, τ, F, G, r, ?_⟩
  cases q : ev C c e with
  | ok res e' =>
    rw [q] at h
    cases res with
    | frs o => exact fun v H' G' x r' => hF o e' v H' G' x r' (Post.mono hm x h)
    | at_ a => exact fun v H' G' x r' o => hR a e' v H' G' x r' o (Post.mono hm x h)
  | err x e' =>
    rw [q] at h
    exact h
  | bad =>
    rw [q] at h
    exact h
theorem rd_test {β : Type} {Rk : β → Env → Hp → Prop} {c : CT} {k : Bool → Env → Out β} {R : Bool → Hp → Prop} (r : RS K mg xa F G e (σ ++ τ) H) (h : Post K mg xa F σ W G Rk ((evt C c e).bind k)) (hm : Mono Rk)
    (hR : ∀ b e1 H1 G1, Ex G G1 → RS K mg xa F G1 e1 (σ ++ τ) H1 → Post K mg xa F σ W G1 Rk (k b e1) → R b H1) : rdT C xa K mg c W σ H R := by
  refine ⟨e, τ, F, G, r, ?_⟩
  cases q : evt C c e with
  | ok b e' =>
    rw [q] at h
    exact fun H' G' x r' => hR b e' H' G' x r' (Post.mono hm x h)
  | err x e' =>
    rw [q] at h
    exact h
  | bad =>
    rw [q] at h
    exact h
theorem rd_args {β : Type} {Rk : β → Env → Hp → Prop} {c : List CE} {k : List At → Env → Out β} {R : List V → Hp → Prop} (r : RS K mg xa F G e (σ ++ τ) H) (h : Post K mg xa F σ W G Rk ((evs C c e).bind k)) (hm : Mono Rk)
    (hR : ∀ as e1 vs zs H1 G1, Ex G G1 → RS K mg xa F G1 e1 (σ ++ (τ ++ zs)) H1 → Opns K G1 (σ ++ (τ ++ zs)) as vs → Post K mg xa F σ W G1 Rk (k as e1) → R vs H1) : rdA C xa K mg c W σ H R := by
  refine ⟨e, τ, F, G, r, ?_⟩
  cases q : evs C c e with
  | ok as e' =>
    rw [q] at h
    intro vs ys H' G' x r' o
    exact hR as e' vs ys H' G' x (by rw [← List.append_assoc]; exact r') (by rw [← List.append_assoc]; exact o) (Post.mono hm x h)
  | err x e' =>
    rw [q] at h
    exact h
  | bad =>
    rw [q] at h
    exact h
theorem rd_part {β : Type} {Rk : β → Env → Hp → Prop} {c : Option CE} {k : Option Int → Env → Out β} {R : Option Int → Hp → Prop} (r : RS K mg xa F G e (σ ++ τ) H) (h : Post K mg xa F σ W G Rk ((evo C c e).bind k)) (hm : Mono Rk)
    (hR : ∀ b e1 H1 G1, Ex G G1 → RS K mg xa F G1 e1 (σ ++ τ) H1 → Post K mg xa F σ W G1 Rk (k b e1) → R b H1) : rdO C xa K mg c W σ H R := by
  refine ⟨e, τ, F, G, r, ?_⟩
  cases q : evo C c e with
  | ok b e' =>
    rw [q] at h
    exact fun H' G' x r' => hR b e' H' G' x r' (Post.mono hm x h)
  | err x e' =>
    rw [q] at h
    exact h
  | bad =>
    rw [q] at h
    exact h
theorem Post.lift {α β : Type} {Rk : β → Env → Hp → Prop} {o : Option α} {f : α → Out β} (h : Post K mg xa F σ W G Rk (lift o f)) : ∃ a, o = some a ∧ Post K mg xa F σ W G Rk (f a) := by
  cases o with
  | none => exact h.elim
  | some a => exact ⟨a, rfl, h⟩
/-- the end: a value -/
theorem fin_val {d : D} {v : V} {zs : List (Option V)} {n : Nat} (h : Post K mg xa F σ W G (QE K mg xa F xs Q) (.ok (.at_ (.val d)) (e.take n))) (r : RS K mg xa F G e (xs ++ zs) H) (hn : n = xs.length) (hv : Rep K G d v) : Q v H := by
  refine h v H G (Ex.refl _) ?_ hv
  have r2 := r.take n
  rw [hn, List.take_left] at r2
  rw [hn]
  exact r2
/-- the end: a new list of values -/
theorem fin_new {ds : List D} {vs : List V} {zs : List (Option V)} {n : Nat} {p : Addr} (h : Post K mg xa F σ W G (QE K mg xa F xs Q) (.ok (.frs (.lst (ds.map .fro))) (e.take n))) (r : RS K mg xa F G e (xs ++ zs) H) (hn : n = xs.length) (hv : Reps K G ds vs) (hp : H p = none) : Q (.ref p) (upd H p (.lst vs)) := by
  refine h (.ref p) _ G (Ex.refl _) ?_
  have r2 := r.take n
  rw [hn, List.take_left] at r2
  rw [hn]
  exact r2.new_ hv hp
theorem fin_bl {Qb : Bool → Hp → Prop} {b : Bool} {zs : List (Option V)} {n : Nat} (h : Post K mg xa F σ W G (QT K mg xa F xs Qb) (.ok b (e.take n))) (r : RS K mg xa F G e (xs ++ zs) H) (hn : n = xs.length) : Qb b H := by
  refine h H G (Ex.refl _) ?_
  have r2 := r.take n
  rw [hn, List.take_left] at r2
  rw [hn]
  exact r2
theorem repFs0 {ds : List D} (h : RepFs K G H ds []) : ds = [] := by
  cases ds with
  | nil => rfl
  | cons d ds =>
    obtain ⟨v, r, h1, _⟩ := h
    cases h1
theorem repFs_cons {ds : List D} {v : V} {vs : List V} (h : RepFs K G H ds (v :: vs)) : ∃ d r, ds = d :: r ∧ RepF K G H d v ∧ RepFs K G H r vs := by
  cases ds with
  | nil =>
    have h' : v :: vs = [] := h
    cases h'
  | cons d ds =>
    obtain ⟨w, r, h1, h2, h3⟩ := h
    cases h1
    exact ⟨d, ds, rfl, h2, h3⟩
theorem repFs2 {ds : List D} {v w : V} (h : RepFs K G H ds [v, w]) : ∃ x y, ds = [x, y] ∧ RepF K G H x v ∧ RepF K G H y w := by
  obtain ⟨x, r, rfl, h1, h2⟩ := repFs_cons h
  obtain ⟨y, r, rfl, h3, h4⟩ := repFs_cons h2
  rw [repFs0 h4]
  exact ⟨x, y, rfl, h1, h3⟩
theorem repFs1 {ds : List D} {v : V} (h : RepFs K G H ds [v]) : ∃ x, ds = [x] ∧ RepF K G H x v := by
  obtain ⟨x, r, rfl, h1, h2⟩ := repFs_cons h
  rw [repFs0 h2]
  exact ⟨x, rfl, h1⟩
end
theorem LIM_line {n : Nat} (h : n ≤ LIM) : n ≤ sizeLine := Nat.le_trans h (by rw [sizeLine_eq]; unfold LIM; decide)
theorem LIM_lt {n : Nat} (h : n < LIM) : n < sizeLine := Nat.lt_of_lt_of_le h (by rw [sizeLine_eq]; unfold LIM; decide)
theorem BIG_log {i : Int} (h : i.natAbs < BIG) : i.natAbs.log2 < 8000 := by
  unfold BIG at h
  exact PySem.Flt.log2_lt_of (k := 8000) (by omega) h
end PV
end

section
set_option Elab.async false
set_option linter.all false
set_option maxRecDepth 100000
set_option maxHeartbeats 4000000
/-! PV5: expressions, rule by rule -/
namespace PV
open PySem PySem.Spec PyProof.Rows L2
section
variable {C : Ctx} {xa : XA} {K : PySem.W.Frag} {mg : Str → Option Value} {F G H : Hp} {e : Env} {σ : L2.St} {τ xs : List (Option V)} {W : WX} {Q : V → Hp → Prop}
/-- two operands, from the left -/
theorem rd_two {β : Type} {Rk : β → Env → Hp → Prop} {ca cb : CE} {k : At → At → Env → Out β} {R : V → V → Hp → Prop} (r : RS K mg xa F G e (σ ++ τ) H)
    (h : Post K mg xa F σ W G Rk ((opd (ev C ca e)).bind fun x e1 => (opd (ev C cb e1)).bind fun y e2 => k x y e2)) (hm : Mono Rk)
    (hR : ∀ x y e2 v w zs H2 G2, Ex G G2 → RS K mg xa F G2 e2 (σ ++ (τ ++ zs)) H2 → Opn K G2 (σ ++ (τ ++ zs)) x v → Opn K G2 (σ ++ (τ ++ zs)) y w → Post K mg xa F σ W G2 Rk (k x y e2) → R v w H2) :
    rdE C xa K mg ca W σ H fun v H1 => rdE C xa K mg cb W σ H1 fun w H2 => R v w H2 := by
  refine rd_opd r h hm fun a e1 v zs H1 G1 x1 r1 o1 q1 => ?_
  refine rd_opd r1 q1 hm fun b e2 w ws H2 G2 x2 r2 o2 q2 => ?_
  have e1 : σ ++ (τ ++ zs ++ ws) = σ ++ (τ ++ (zs ++ ws)) := by rw [List.append_assoc]
  have o1' : Opn K G2 (σ ++ (τ ++ zs) ++ ws) a v := o1.mono x2
  rw [List.append_assoc, e1] at o1'
  rw [e1] at r2 o2
  exact hR a b e2 v w (zs ++ ws) H2 G2 (x1.trans x2) r2 o1' o2 q2
theorem repF_int {i : Int} {v : V} (h : RepF K G H (.int i) v) : v = .int i := h.resolve_right fun z => z
theorem repF_str {i : Str} {v : V} (h : RepF K G H (.str i) v) : v = .str i := h.resolve_right fun z => z
theorem Reps.app {xs ys : List D} : ∀ {us ws : List V}, Reps K G xs us → Reps K G ys ws → Reps K G (xs ++ ys) (us ++ ws) := by
  induction xs with
  | nil =>
    intro us ws h1 h2
    rw [show us = [] from h1]
    exact h2
  | cons x xs ih =>
    intro us ws h1 h2
    obtain ⟨v, r, rfl, h3, h4⟩ := h1
    exact ⟨v, r ++ ws, rfl, h3, ih h4 h2⟩
theorem Reps.rep {xs : List D} {us : List V} (h : Reps K G xs us) : ∀ n : Nat, Reps K G (List.replicate n xs).flatten (List.replicate n us).flatten
  | 0 => rfl
  | n + 1 => by
    rw [List.replicate_succ, List.replicate_succ, List.flatten_cons, List.flatten_cons]
    exact h.app (h.rep n)
end

section
variable {C : Ctx} {xa : XA} {X : Cx}
/-! ### leaves -/
theorem ve_var {i : Nat} {x : Str} {pos : Pos} (h : PE X (.Name x pos) (tVar i)) (hi : i < X.N.length) : VE C xa X (.Name x pos) (.var i) := ⟨fun W tk => ⟨fun pins s σ H Q I q => by
  refine h.run pins s σ H Q I ?_
  obtain ⟨e, τ, F, G, r, q⟩ := q
  have hl : i < σ.length := by rw [I.len]; exact hi
  rw [ev.eq_def] at q
  cases z : slotAt e i with
  | non => simp only [z] at q; exact q.elim
  | exc c ns ds => simp only [z] at q; exact q.elim
  | fro d p =>
    simp only [z] at q
    obtain ⟨x, fo, fp, e1, e2, _⟩ := r.open_ (lt_fro z)
    rw [z] at e2
    obtain ⟨_, _, v, rfl, rv⟩ := e2
    rw [List.getElem?_append_left hl] at e1
    exact ⟨v, e1, q v H G (Ex.refl _) r rv⟩
  | own t p =>
    simp only [z] at q
    obtain ⟨x, fo, fp, e1, e2, _⟩ := r.open_ (lt_own z)
    rw [z] at e2
    obtain ⟨_, v, rfl, rv⟩ := e2
    have e1' := e1
    rw [List.getElem?_append_left hl] at e1
    exact ⟨v, e1, q v H G (Ex.refl _) r e1'⟩⟩⟩
theorem ve_cst {x : Expr} {d : D} {v : V} (h : PE X x (tC v)) (hr : ∀ G, Rep X.K G d v) : VE C xa X x (.cst d) := ⟨fun W tk => pe_imp h fun σ H Q q => by
  obtain ⟨e, τ, F, G, r, q⟩ := q
  exact q v H G (Ex.refl _) r (hr G)⟩
theorem ve_int {i : Int} {j pos} : VE C xa X (.Constant (.int i) j pos) (.cst (.int i)) := ve_cst pe_int fun _ => rfl
theorem ve_bl {b j pos} : VE C xa X (.Constant (.bool b) j pos) (.cst (.bl b)) := ve_cst pe_bl fun _ => rfl
theorem ve_non {j pos} : VE C xa X (.Constant .none j pos) (.cst .non) := ve_cst pe_non fun _ => rfl
theorem ve_str {x j pos} : VE C xa X (.Constant (.str x) j pos) (.cst (.str x)) := ve_cst pe_str fun _ => rfl
/-- a module's constant -/
theorem ve_gint {x : Str} {i : Int} {pos : Pos} (hm : ∃ t, X.mg x = some (.int i t)) (hg : Gl X x := by rfl) (hd : (x == ("__debug__" : Str)) = false := by decide) : VE C xa X (.Name x pos) (.cst (.int i)) := by
  obtain ⟨t, hm⟩ := hm
  exact ve_cst (pe_glob (v := .int i) hg hm ⟨t, rfl⟩ hd) fun _ => rfl
theorem ve_gstr {x z : Str} {pos : Pos} (hm : ∃ t, X.mg x = some (.str z t)) (hg : Gl X x := by rfl) (hd : (x == ("__debug__" : Str)) = false := by decide) : VE C xa X (.Name x pos) (.cst (.str z)) := by
  obtain ⟨t, hm⟩ := hm
  exact ve_cst (pe_glob (v := .str z) hg hm ⟨t, rfl⟩ hd) fun _ => rfl

/-! ### operators -/
theorem bop_add {x y : D} {res : Res} (h : bop .add x y = some res) : (∃ i j, x = .int i ∧ y = .int j ∧ res = .at_ (.val (.int (i + j)))) ∨ (∃ s t, x = .str s ∧ y = .str t ∧ s.length + t.length ≤ LIM ∧ res = .at_ (.val (.str (s ++ t)))) ∨
    ∃ xs ys, x = .lst xs ∧ y = .lst ys ∧ xs.length + ys.length ≤ LIM ∧ res = .frs (.lst ((xs ++ ys).map .fro)) := by
  cases x <;> cases y <;> simp only [bop, reduceCtorEq] at h
  · exact .inl ⟨_, _, rfl, rfl, (Option.some.inj h).symm⟩
  · split at h
    · exact .inr (.inl ⟨_, _, rfl, rfl, by assumption, (Option.some.inj h).symm⟩)
    · cases h
  · split at h
    · exact .inr (.inr ⟨_, _, rfl, rfl, by assumption, (Option.some.inj h).symm⟩)
    · cases h
theorem bop_sub {x y : D} {res : Res} (h : bop .sub x y = some res) : ∃ i j, x = .int i ∧ y = .int j ∧ res = .at_ (.val (.int (i - j))) := by
  cases x <;> cases y <;> simp only [bop, reduceCtorEq] at h
  exact ⟨_, _, rfl, rfl, (Option.some.inj h).symm⟩
theorem bop_mul {x y : D} {res : Res} (h : bop .mul x y = some res) : (∃ i j, x = .int i ∧ y = .int j ∧ (i.natAbs < BIG ∧ j.natAbs < BIG) ∧ res = .at_ (.val (.int (i * j)))) ∨
    (∃ xs k, x = .lst xs ∧ y = .int k ∧ (0 ≤ k ∧ k ≤ 1000 ∧ xs.length * k.toNat ≤ LIM) ∧ res = .frs (.lst ((List.replicate k.toNat xs).flatten.map .fro))) ∨
    ∃ s k, x = .str s ∧ y = .int k ∧ (s.length ≤ 16 ∧ 0 ≤ k ∧ k ≤ 10000) ∧ res = .at_ (.val (.str (Txt.mul s k))) := by
  cases x <;> cases y <;> simp only [bop, reduceCtorEq] at h
  · split at h
    · exact .inl ⟨_, _, rfl, rfl, by assumption, (Option.some.inj h).symm⟩
    · cases h
  · split at h
    · exact .inr (.inr ⟨_, _, rfl, rfl, by assumption, (Option.some.inj h).symm⟩)
    · cases h
  · split at h
    · exact .inr (.inl ⟨_, _, rfl, rfl, by assumption, (Option.some.inj h).symm⟩)
    · cases h
theorem bop_fdiv {x y : D} {res : Res} (h : bop .fdiv x y = some res) : ∃ i j, x = .int i ∧ y = .int j ∧ (0 < j ∧ j.natAbs < BIG) ∧ res = .at_ (.val (.int (i / j))) := by
  cases x <;> cases y <;> simp only [bop, reduceCtorEq] at h
  split at h
  · exact ⟨_, _, rfl, rfl, by assumption, (Option.some.inj h).symm⟩
  · cases h
theorem bop_mod {x y : D} {res : Res} (h : bop .mod x y = some res) : ∃ i j, x = .int i ∧ y = .int j ∧ 0 < j ∧ res = .at_ (.val (.int (i % j))) := by
  cases x <;> cases y <;> simp only [bop, reduceCtorEq] at h
  split at h
  · exact ⟨_, _, rfl, rfl, by assumption, (Option.some.inj h).symm⟩
  · cases h
/-- powers, the base of any size up to 8000 bits -/
def CPowB (i j : Int) : Prop := (0 ≤ j ∧ j ≤ 1000) ∧ (i.natAbs < 2 ^ 64 ∨ (2 ≤ i ∧ 1 ≤ j ∧ i.natAbs.log2 < 8000))
theorem op_powB : OpR X (binaryOp .Pow) (rI CPowB fun i j => .int (i ^ j.toNat)) := opI fun i j _ _ _ _ _ hc q => by
  obtain ⟨⟨h1, h2⟩, h3 | ⟨h3, h4, h5⟩⟩ := hc
  · exact pow_int_small h1 (by omega) h3 q
  · refine AutoIntOps.pow_4 h1 ?_ ?_ ?_ ?_ q
    · simp only [beq_iff_eq]; omega
    · simp only [Bool.or_eq_true, beq_iff_eq]; omega
    · simp only [beq_iff_eq]; omega
    · unfold Builtin.Int.intTooBig Builtin.Int.intBits bitsLine
      rw [if_neg (by simp only [beq_iff_eq]; omega), decide_eq_true_eq]
      have m1 : ((i.natAbs.log2 + 1 : Nat) : Int) * j ≤ 8000 * j := Int.mul_le_mul_of_nonneg_right (by omega) h1
      omega
def rMulS : R2 := fun x y H Q => ∃ s k, x = .str s ∧ y = .int k ∧ s.length ≤ 16 ∧ 0 ≤ k ∧ k ≤ 10000 ∧ Q (.str (Txt.mul s k)) H
theorem op_mulS : OpR X (binaryOp .Mult) rMulS := fun pins s σ H x y v u Q I rx ry h => by
  obtain ⟨z, k, rfl, rfl, h1, h2, h3, q⟩ := h
  obtain ⟨t, rfl⟩ := rx
  obtain ⟨t', rfl⟩ := ry
  exact SB.mul (mulOk_of 16 1048576 (by omega) (by omega) (by omega) (by decide) (by decide)) fun t2 k2 => ⟨.str _, H, I.tok _, ⟨_, rfl⟩, q⟩
theorem bop_pow {x y : D} {res : Res} (h : bop .pow x y = some res) : ∃ i j, x = .int i ∧ y = .int j ∧ ((0 ≤ j ∧ j ≤ 1000) ∧ (i.natAbs < 2 ^ 64 ∨ (2 ≤ i ∧ 1 ≤ j ∧ i.natAbs < BIG))) ∧ res = .at_ (.val (.int (i ^ j.toNat))) := by
  cases x <;> cases y <;> simp only [bop, reduceCtorEq] at h
  split at h
  · exact ⟨_, _, rfl, rfl, by assumption, (Option.some.inj h).symm⟩
  · cases h
theorem rd_lst (I : Inv X pins σ H s) {l : Addr} {xs : List V} (h : Rd H l (.lst xs)) : xs.length ≤ sizeLine ∧ ∃ (its : List Value) (n : Nat), Vals xs its ∧ xs.length = its.length ∧ s.heap.get? l = some { cls := .type "list", data := .seq its.toArray n } := by
  rcases h with h | ⟨o, h⟩
  · exact I.lstM h
  · obtain ⟨_, z, its, n, r, q⟩ := I.hok l _ h
    exact ⟨z, its, n, r, r.length, q⟩
/-- two lists one behind the other -/
def rCat' : R2 := fun x y H Q => ∃ l b xs zs, x = .ref l ∧ y = .ref b ∧ Rd H l (.lst xs) ∧ Rd H b (.lst zs) ∧ xs.length + zs.length ≤ sizeLine ∧ ∀ p, H p = none → Q (.ref p) (upd H p (.lst (xs ++ zs)))
theorem op_cat' : OpR X (binaryOp .Add) rCat' := fun pins s σ H x y v u Q I rx ry h => by
  obtain ⟨l, b, xs, zs, rfl, rfl, hH, hB, hz, q⟩ := h
  cases rx
  cases ry
  obtain ⟨z1, is1, n1, w1, l1, g1⟩ := rd_lst I hH
  obtain ⟨z2, is2, n2, w2, l2, g2⟩ := rd_lst I hB
  refine PySem.P.add_list g1 g2 ?_ (by simp only [List.size_toArray]; omega)
  rw [show is1.toArray ++ is2.toArray = (is1 ++ is2).toArray by simp]
  exact ⟨V.ref _, _, I.lnew (t' := s.toks) (w1.append w2) (by simp only [List.length_append]; omega), rfl, q _ I.fresh⟩
/-- a list some times -/
def rRep' : R2 := fun x y H Q => ∃ l k xs, x = .ref l ∧ y = .int k ∧ Rd H l (.lst xs) ∧ (0 ≤ k ∧ k ≤ 1000) ∧ xs.length * k.toNat ≤ sizeLine ∧ ∀ p, H p = none → Q (.ref p) (upd H p (.lst (List.replicate k.toNat xs).flatten))
theorem op_rep' : OpR X (binaryOp .Mult) rRep' := fun pins s σ H x y v u Q I rx ry h => by
  obtain ⟨l, k, xs, rfl, rfl, hH, hk, hz, q⟩ := h
  cases rx
  obtain ⟨t, rfl⟩ := ry
  obtain ⟨z, its, n, r, hl, g⟩ := rd_lst I hH
  have z1 : its.toArray.size * k.toNat ≤ sizeLine := by rw [List.size_toArray, ← hl]; exact hz
  have z2 : ¬ its.toArray.size * k.toNat > (2 ^ 63 - 1) / 8 := by
    have c : (sizeLine : Nat) ≤ (2 ^ 63 - 1) / 8 := by decide
    omega
  have z3 : ¬ (!Builtin.List.listFitsIndex k) = true := by
    rw [fitsIndex_both (by omega) (by omega)]
    decide
  have z4 : ¬ Builtin.List.listTooLong (its.toArray.size * k.toNat) = true := by
    rw [notLongL z1]
    decide
  have z5 : List.foldl (fun x1 x2 => x1 ++ x2) #[] (List.replicate (if its.toArray.isEmpty = true then 0 else k.toNat) its.toArray) = (List.replicate k.toNat its).flatten.toArray := by
    have f0 : ∀ m : Nat, List.foldl (fun x1 x2 => x1 ++ x2) #[] (List.replicate m its.toArray) = (List.replicate m its).flatten.toArray := fun m => by simpa using foldl_rep its m []
    rw [f0]
    cases its with
    | nil => simp
    | cons a r' => rw [if_neg (by simp)]
  refine wpAny_binaryOp_repeat_ref (T := "list") (U := "int") (by decide) ⟨_, g, rfl⟩ (fun s' => typeIs_int s' k t) noFill_list_mul F.fills_int_mul F.slot_int_rmul repeat_list F.slot_int_index.lookup ?_
  refine call_meets F.slot_int_rmul (typeIs_int s k t) F.entry_int_rmul (F.args_int_rmul_2 _ _) (int___rmul___int_list k t l its.toArray n) ⟨g, rfl, ⟨_, g, rfl⟩, ?_⟩
  refine call_meets F.slot_list_mul ⟨_, g, rfl⟩ F.entry_list_mul (F.args_list_mul_2 _ _) (AutoListH.list___mul___list_int_3 l its.toArray n k t z3 z2 z4) ⟨g, ?_⟩
  rw [z5]
  exact ⟨V.ref _, _, I.lnew (t' := s.toks) (r.rep k.toNat) (by rw [PyProof.Rows.lm_len_rep_flat, Nat.mul_comm]; exact hz), rfl, q _ I.fresh⟩
theorem ve_bin {a b : Expr} {ca cb : CE} {op : Bop} {o : Operator} {r2 : R2} {pos : Pos} (ho : OpR X (binaryOp o) r2)
    (hr : ∀ (G H : Hp) (Q : V → Hp → Prop) (x y : D) (v w : V) (res : Res), bop op x y = some res → Ex G H → RepF X.K G H x v → RepF X.K G H y w →
      (∀ d u, res = .at_ (.val d) → Rep X.K G d u → Q u H) → (∀ ds us p, res = .frs (.lst (ds.map .fro)) → Reps X.K G ds us → H p = none → Q (.ref p) (upd H p (.lst us))) → r2 v w H Q)
    (ha : VE C xa X a ca) (hb : VE C xa X b cb) : VE C xa X (.BinOp a o b pos) (.bin op ca cb) := ⟨fun W tk => pe_imp (pe_op ho (ha.pe W tk) (hb.pe W tk)) fun σ H Q q => by
  obtain ⟨e, τ, F, G, r, q⟩ := q
  rw [ev.eq_def] at q
  have hn := r.len
  refine rd_two r q QE.mono fun a b e2 v w zs H2 G2 x2 r2' o1 o2 q2 => ?_
  obtain ⟨⟨ds, e3⟩, z, q3⟩ := Post.lift q2
  obtain ⟨G3, x3, r3, p3, l3⟩ := RS.flats [a, b] r2' (vs := [v, w]) ⟨v, [w], rfl, o1, w, [], rfl, o2, rfl⟩ z
  obtain ⟨x, y, rfl, p4, p5⟩ := repFs2 p3
  obtain ⟨res, zb, q4⟩ := Post.lift q3
  rw [← List.append_assoc] at r3
  have q5 := Post.mono QE.mono x3 q4
  refine hr G3 H2 Q x y v w res zb r3.gh p4 p5 (fun d u hres hu => ?_) fun ds us p hres hu hp => ?_
  · subst hres
    exact fin_val q5 r3 hn hu
  · subst hres
    exact fin_new q5 r3 hn hu hp⟩
theorem ve_add {a b : Expr} {ca cb : CE} {pos : Pos} (ha : VE C xa X a ca) (hb : VE C xa X b cb) : VE C xa X (.BinOp a .Add b pos) (.bin .add ca cb) :=
  ve_bin (op_add.or (op_add_str.or op_cat')) (fun G H Q x y v w res h eG p q kv kn => by
    rcases bop_add h with ⟨i, j, rfl, rfl, rfl⟩ | ⟨s, t, rfl, rfl, hl, rfl⟩ | ⟨xs, ys, rfl, rfl, hl, rfl⟩
    · exact .inl ⟨i, j, repF_int p, repF_int q, kv _ _ rfl rfl⟩
    · exact .inr (.inl ⟨s, t, repF_str p, repF_str q, LIM_line hl, kv _ _ rfl rfl⟩)
    · obtain ⟨a1, us, rfl, h1, h2⟩ := p.lst eG
      obtain ⟨a2, ws, rfl, h3, h4⟩ := q.lst eG
      exact .inr (.inr ⟨a1, a2, us, ws, rfl, rfl, h1, h3, LIM_line (by rw [← h2.len, ← h4.len]; exact hl), fun p hp => kn _ _ p rfl (h2.app h4) hp⟩)) ha hb
theorem ve_sub {a b : Expr} {ca cb : CE} {pos : Pos} (ha : VE C xa X a ca) (hb : VE C xa X b cb) : VE C xa X (.BinOp a .Sub b pos) (.bin .sub ca cb) :=
  ve_bin op_sub (fun G H Q x y v w res h eG p q kv kn => by
    obtain ⟨i, j, rfl, rfl, rfl⟩ := bop_sub h
    exact ⟨i, j, repF_int p, repF_int q, kv _ _ rfl rfl⟩) ha hb
theorem ve_mul {a b : Expr} {ca cb : CE} {pos : Pos} (ha : VE C xa X a ca) (hb : VE C xa X b cb) : VE C xa X (.BinOp a .Mult b pos) (.bin .mul ca cb) :=
  ve_bin (op_mulW.or (op_rep'.or op_mulS)) (fun G H Q x y v w res h eG p q kv kn => by
    rcases bop_mul h with ⟨i, j, rfl, rfl, hl, rfl⟩ | ⟨xs, k, rfl, rfl, hl, rfl⟩ | ⟨z, k, rfl, rfl, hl, rfl⟩
    · exact .inl ⟨i, j, repF_int p, repF_int q, (by have := BIG_log hl.1; have := BIG_log hl.2; unfold CMulW; omega), kv _ _ rfl rfl⟩
    · obtain ⟨a1, us, rfl, h1, h2⟩ := p.lst eG
      exact .inr (.inl ⟨a1, k, us, rfl, repF_int q, h1, ⟨hl.1, hl.2.1⟩, LIM_line (by rw [← h2.len]; exact hl.2.2), fun p hp => kn _ _ p rfl (h2.rep k.toNat) hp⟩)
    · exact .inr (.inr ⟨z, k, repF_str p, repF_int q, hl.1, hl.2.1, hl.2.2, kv _ _ rfl rfl⟩)) ha hb
theorem ve_fdiv {a b : Expr} {ca cb : CE} {pos : Pos} (ha : VE C xa X a ca) (hb : VE C xa X b cb) : VE C xa X (.BinOp a .FloorDiv b pos) (.bin .fdiv ca cb) :=
  ve_bin op_fdivW (fun G H Q x y v w res h eG p q kv kn => by
    obtain ⟨i, j, rfl, rfl, hl, rfl⟩ := bop_fdiv h
    exact ⟨i, j, repF_int p, repF_int q, ⟨hl.1, by have := BIG_log hl.2; omega⟩, kv _ _ rfl rfl⟩) ha hb
theorem ve_mod {a b : Expr} {ca cb : CE} {pos : Pos} (ha : VE C xa X a ca) (hb : VE C xa X b cb) : VE C xa X (.BinOp a .Mod b pos) (.bin .mod ca cb) :=
  ve_bin op_mod (fun G H Q x y v w res h eG p q kv kn => by
    obtain ⟨i, j, rfl, rfl, hl, rfl⟩ := bop_mod h
    exact ⟨i, j, repF_int p, repF_int q, hl, kv _ _ rfl rfl⟩) ha hb
theorem ve_pow {a b : Expr} {ca cb : CE} {pos : Pos} (ha : VE C xa X a ca) (hb : VE C xa X b cb) : VE C xa X (.BinOp a .Pow b pos) (.bin .pow ca cb) :=
  ve_bin op_powB (fun G H Q x y v w res h eG p q kv kn => by
    obtain ⟨i, j, rfl, rfl, hl, rfl⟩ := bop_pow h
    exact ⟨i, j, repF_int p, repF_int q, ⟨hl.1, hl.2.imp id fun z => ⟨z.1, z.2.1, BIG_log z.2.2⟩⟩, kv _ _ rfl rfl⟩) ha hb
end
end PV
end

section
set_option Elab.async false
set_option linter.all false
set_option maxRecDepth 100000
set_option maxHeartbeats 4000000
/-! PV6: comparisons, tests, displays, items, slices -/
namespace PV
open PySem PySem.Spec PyProof.Rows L2
section
variable {C : Ctx} {xa : XA} {K : PySem.W.Frag} {mg : Str → Option Value} {F G H : Hp} {e : Env} {σ : L2.St} {τ xs : List (Option V)} {W : WX} {Q : V → Hp → Prop}
mutual
theorem rep_dp : ∀ (d : D) (v : V) (p : PyData), Rep K H d v → d.toP = some p → Dp K H v p
  | .non, v, p, h, q => by
    rw [show v = .non from h, ← Option.some.inj q]
    exact .non
  | .bl b, v, p, h, q => by
    rw [show v = .bl b from h, ← Option.some.inj q]
    exact .bl b
  | .int i, v, p, h, q => by
    rw [show v = .int i from h, ← Option.some.inj q]
    exact .int i
  | .str s, v, p, h, q => by
    rw [show v = .str s from h, ← Option.some.inj q]
    exact .str s
  | .tup ds, v, p, h, q => by
    obtain ⟨a, vs, rfl, h2, h3⟩ := h
    unfold D.toP at q
    cases z : D.toPs ds with
    | none => rw [z] at q; cases q
    | some ps =>
      rw [z] at q
      rw [← Option.some.inj q]
      exact .tup h2 (reps_dp ds vs ps h3 z)
  | .lst ds, v, p, h, q => by
    obtain ⟨a, vs, rfl, h2, h3⟩ := h
    unfold D.toP at q
    cases z : D.toPs ds with
    | none => rw [z] at q; cases q
    | some ps =>
      rw [z] at q
      rw [← Option.some.inj q]
      exact .lst (.inl h2) (reps_dp ds vs ps h3 z)
  | .dic _ _, v, p, h, q => by cases q
  | .obj _ _ _, v, p, h, q => by cases q
theorem reps_dp : ∀ (ds : List D) (vs : List V) (ps : List PyData), Reps K H ds vs → D.toPs ds = some ps → DpAll K H vs ps
  | [], vs, ps, h, q => by
    rw [show vs = [] from h, ← Option.some.inj q]
    exact .nil
  | d :: ds, vs, ps, h, q => by
    obtain ⟨v, r, rfl, h2, h3⟩ := h
    unfold D.toPs at q
    cases z : d.toP with
    | none => rw [z] at q; cases q
    | some p =>
      cases z2 : D.toPs ds with
      | none => rw [z, z2] at q; cases q
      | some ps' =>
        rw [z, z2] at q
        rw [← Option.some.inj q]
        exact .cons (rep_dp d v p h2 z) (reps_dp ds r ps' h3 z2)
end
theorem shP_some {d : D} {p : PyData} (h : shP d = some p) : d.toP = some p ∧ SeqAt.shaped p = true := by
  unfold shP at h
  cases z : d.toP with
  | none => rw [z] at h; cases h
  | some p' =>
    simp only [z] at h
    split at h
    · cases h
      exact ⟨rfl, by assumption⟩
    · cases h
theorem deq_some {x y : D} {b : Bool} (h : deq x y = some b) : ∃ p q, x.toP = some p ∧ SeqAt.shaped p = true ∧ y.toP = some q ∧ SeqAt.shaped q = true ∧ b = PyData.eqv p q := by
  unfold deq at h
  cases z : shP x with
  | none => simp only [z] at h; cases h
  | some p =>
    cases z2 : shP y with
    | none => simp only [z, z2] at h; cases h
    | some q =>
      simp only [z, z2] at h
      cases h
      obtain ⟨h1, h2⟩ := shP_some z
      obtain ⟨h3, h4⟩ := shP_some z2
      exact ⟨p, q, h1, h2, h3, h4, rfl⟩
theorem rd_cmp {op : Cop} {ca cb : CE} {r2 : R2} (hr : ∀ (H : Hp) (Q : V → Hp → Prop) (x y : D) (v w : V) (b : Bool), cop op x y = some b → Rep K H x v → Rep K H y w → Q (.bl b) H → r2 v w H Q) (h : rdE C xa K mg (.cmp op ca cb) W σ H Q) :
    tOp r2 (rdE C xa K mg ca W) (rdE C xa K mg cb W) σ H Q := by
  obtain ⟨e, τ, F, G, r, q⟩ := h
  rw [ev.eq_def] at q
  have hn := r.len
  refine rd_two r q QE.mono fun a b e2 v w zs H2 G2 x2 r2' o1 o2 q2 => ?_
  cases z1 : look e2 a with
  | none => simp only [z1] at q2; exact q2.elim
  | some x =>
    cases z2 : look e2 b with
    | none => simp only [z1, z2] at q2; exact q2.elim
    | some y =>
      simp only [z1, z2] at q2
      obtain ⟨k, zb, q4⟩ := Post.lift q2
      rw [← List.append_assoc] at r2'
      rw [← List.append_assoc] at o1 o2
      exact hr H2 Q x y v w k zb (r2'.look o1 z1) (r2'.look o2 z2) (fin_val q4 r2' hn rfl)
theorem ev_cmp_bl {op : Cop} {ca cb : CE} {e e' : Env} {r : Res} (h : ev C (.cmp op ca cb) e = .ok r e') : ∃ b, r = .at_ (.val (.bl b)) := by
  rw [ev.eq_def] at h
  simp only at h
  cases z : opd (ev C ca e) with
  | ok a e1 =>
    rw [z] at h
    simp only [Out.bind] at h
    cases z2 : opd (ev C cb e1) with
    | ok b e2 =>
      rw [z2] at h
      simp only at h
      split at h
      · rename_i dx dy _ _
        cases z3 : cop op dx dy with
        | none => rw [z3] at h; cases h
        | some k =>
          rw [z3] at h
          cases h
          exact ⟨k, rfl⟩
      · cases h
    | err x e2 => rw [z2] at h; cases h
    | bad => rw [z2] at h; cases h
  | err x e2 => rw [z] at h; cases h
  | bad => rw [z] at h; cases h
theorem take_all {e' e : Env} (h : e'.length = e.length) : e'.take e.length = e' := by rw [← h]; exact List.take_length
/-- a test whose value is a truth value -/
theorem rdT_bool {c : CE} {Qb : Bool → Hp → Prop} (hb : ∀ e r e', ev C c e = .ok r e' → ∃ b, r = .at_ (.val (.bl b))) (h : rdT C xa K mg (.tru c) W σ H Qb) : rdE C xa K mg c W σ H fun v H1 => ∃ k, v = .bl k ∧ Qb k H1 := by
  obtain ⟨e, τ, F, G, r, q⟩ := h
  refine ⟨e, τ, F, G, r, ?_⟩
  rw [evt.eq_def] at q
  cases z : ev C c e with
  | ok res e' =>
    obtain ⟨b, rfl⟩ := hb _ _ _ z
    simp only [z, opd, Out.bind, asAt, look, truthy, lift] at q
    intro v H' G' x r' o
    refine ⟨b, o, q H' G' x ?_⟩
    rw [take_all (r'.len.trans r.len.symm)]
    exact r'
  | err x e' =>
    simp only [z, opd, Out.bind] at q
    exact q
  | bad =>
    simp only [z, opd, Out.bind] at q
    exact q
theorem truV_of {d : D} {v : V} {b : Bool} (h : Rep K H d v) (t : truthy d = some b) : TruV K v H b := by
  cases d with
  | non => rw [show v = .non from h]; exact (Option.some.inj t).symm
  | bl k => rw [show v = .bl k from h]; exact (Option.some.inj t).symm
  | int i => rw [show v = .int i from h]; exact (Option.some.inj t).symm
  | str s =>
    rw [show v = .str s from h]
    simp only [truthy] at t
    split at t
    · refine ⟨LIM_line (by assumption), ?_⟩
      rw [← Option.some.inj t]
      rw [Bool.eq_iff_iff]
      simp
    · cases t
  | tup ds =>
    obtain ⟨a, vs, rfl, h2, h3⟩ := h
    refine .inr (.inl ⟨vs, h2, ?_⟩)
    rw [← Option.some.inj t]
    have := h3.len
    cases ds <;> cases vs <;> simp_all
  | lst ds =>
    obtain ⟨a, vs, rfl, h2, h3⟩ := h
    refine .inl ⟨vs, .inl h2, ?_⟩
    rw [← Option.some.inj t]
    have := h3.len
    cases ds <;> cases vs <;> simp_all
  | dic ks ds =>
    obtain ⟨a, vs, rfl, h2, h4, h3⟩ := h
    refine .inr (.inr ⟨_, h2, ?_⟩)
    rw [← Option.some.inj t]
    cases ks <;> cases vs <;> simp_all
  | obj _ _ _ => cases t
/-- a test by a value's truth -/
theorem rdT_tru {c : CE} {Qb : Bool → Hp → Prop} (h : rdT C xa K mg (.tru c) W σ H Qb) : rdE C xa K mg c W σ H fun v H1 => ∃ k, TruV K v H1 k ∧ Qb k H1 := by
  obtain ⟨e, τ, F, G, r, q⟩ := h
  rw [evt.eq_def] at q
  have hn := r.len
  refine rd_opd r q QT.mono fun a e1 v zs H1 G1 x1 r1 o1 q1 => ?_
  cases z1 : look e1 a with
  | none => simp only [z1] at q1; exact q1.elim
  | some x =>
    simp only [z1] at q1
    obtain ⟨b, zb, q4⟩ := Post.lift q1
    rw [← List.append_assoc] at r1 o1
    exact ⟨b, truV_of (r1.look o1 z1) zb, fin_bl q4 r1 hn⟩
end
section
variable {C : Ctx} {xa : XA} {X : Cx}
theorem ve_cmp {op : Cop} {o : CmpOp} {a b : Expr} {ca cb : CE} {r2 : R2} {pos : Pos} (ho : OpR X (compareOp o) r2) (hr : ∀ (H : Hp) (Q : V → Hp → Prop) (x y : D) (v w : V) (b : Bool), cop op x y = some b → Rep X.K H x v → Rep X.K H y w → Q (.bl b) H → r2 v w H Q)
    (ha : VE C xa X a ca) (hb : VE C xa X b cb) (hm : behindInMarks o b = false) : VE C xa X (.Compare a [o] [b] pos) (.cmp op ca cb) := ⟨fun W tk => pe_imp (pe_cmpR ho (ha.pe W tk) (hb.pe W tk) hm) fun σ H Q q => rd_cmp hr q⟩
theorem vt_cmp {op : Cop} {o : CmpOp} {a b : Expr} {ca cb : CE} {r2 : R2} {pos : Pos} (ho : OpR X (compareOp o) r2) (hr : ∀ (H : Hp) (Q : V → Hp → Prop) (x y : D) (v w : V) (b : Bool), cop op x y = some b → Rep X.K H x v → Rep X.K H y w → Q (.bl b) H → r2 v w H Q)
    (ha : VE C xa X a ca) (hb : VE C xa X b cb) (hm : behindInMarks o b = false) : VT C xa X (.Compare a [o] [b] pos) (.tru (.cmp op ca cb)) := ⟨fun W tk => pt_imp (pt_cmpR ho (ha.pe W tk) (hb.pe W tk) hm) fun σ H Q q => rd_cmp hr (rdT_bool (fun _ _ _ => ev_cmp_bl) q)⟩
/-- what a comparison's rule is, for each operator -/
structure CmpRule (X : Cx) (op : Cop) (o : CmpOp) (r2 : R2) : Prop where
  ok : OpR X (compareOp o) r2
  rd : ∀ (H : Hp) (Q : V → Hp → Prop) (x y : D) (v w : V) (b : Bool), cop op x y = some b → Rep X.K H x v → Rep X.K H y w → Q (.bl b) H → r2 v w H Q
theorem cr_eq (hu : X.A.units + 200 < cLine) : CmpRule X .eq .Eq (rEqD X.K) := ⟨op_eqD (by omega), fun H Q x y v w b h p q k => by
  obtain ⟨d1, d2, h1, h2, h3, h4, rfl⟩ := deq_some h
  exact ⟨d1, d2, rep_dp x v d1 p h1, rep_dp y w d2 q h3, h2, h4, k⟩⟩
theorem cr_ne (hu : X.A.units + 200 < cLine) : CmpRule X .ne .NotEq (rNeD X.K) := ⟨op_neD (by omega), fun H Q x y v w b h p q k => by
  unfold cop at h
  cases z : deq x y with
  | none => simp only [z] at h; cases h
  | some c =>
    simp only [z] at h
    cases h
    obtain ⟨d1, d2, h1, h2, h3, h4, rfl⟩ := deq_some z
    exact ⟨d1, d2, rep_dp x v d1 p h1, rep_dp y w d2 q h3, h2, h4, k⟩⟩
theorem cr_lt : CmpRule X .lt .Lt (fun x y H Q => (rI0 fun i j => .bl (decide (i < j))) x y H Q ∨ ∃ i j, x = .str i ∧ y = .str j ∧ Q (.bl (decide (i.cps.toList < j.cps.toList))) H) := ⟨op_lt.or op_lt_str, fun H Q x y v w b h p q k => by
  cases x <;> cases y <;> simp only [cop, reduceCtorEq] at h
  · rw [← Option.some.inj h] at k
    exact .inl ⟨_, _, p, q, k⟩
  · rw [← Option.some.inj h] at k
    exact .inr ⟨_, _, p, q, k⟩⟩
theorem cr_le : CmpRule X .le .LtE (rI0 fun i j => .bl (decide (i ≤ j))) := ⟨op_le, fun H Q x y v w b h p q k => by
  cases x <;> cases y <;> simp only [cop, reduceCtorEq] at h
  rw [← Option.some.inj h] at k
  exact ⟨_, _, p, q, k⟩⟩
theorem cr_gt : CmpRule X .gt .Gt (rI0 fun i j => .bl (decide (j < i))) := ⟨op_gt, fun H Q x y v w b h p q k => by
  cases x <;> cases y <;> simp only [cop, reduceCtorEq] at h
  rw [← Option.some.inj h] at k
  exact ⟨_, _, p, q, k⟩⟩
theorem cr_ge : CmpRule X .ge .GtE (rI0 fun i j => .bl (decide (j ≤ i))) := ⟨op_ge, fun H Q x y v w b h p q k => by
  cases x <;> cases y <;> simp only [cop, reduceCtorEq] at h
  rw [← Option.some.inj h] at k
  exact ⟨_, _, p, q, k⟩⟩
theorem non_iff {G : Hp} {x : D} {v : V} (h : Rep X.K G x v) : decide (v = .non) = isNon x := by
  cases x with
  | non => rw [show v = .non from h]; rfl
  | bl b => rw [show v = .bl b from h]; rfl
  | int b => rw [show v = .int b from h]; rfl
  | str b => rw [show v = .str b from h]; rfl
  | tup ds => obtain ⟨a, vs, rfl, _⟩ := h; rfl
  | lst ds => obtain ⟨a, vs, rfl, _⟩ := h; rfl
  | dic ks ds => obtain ⟨a, vs, rfl, _⟩ := h; rfl
  | obj _ _ _ => exact h.elim
theorem cr_is : CmpRule X .is_ .Is (fun x y H Q => y = .non ∧ Q (.bl (decide (x = .non))) H) := ⟨op_isN, fun H Q x y v w b h p q k => by
  cases y with
  | non =>
    refine ⟨q, ?_⟩
    rw [non_iff p]
    have : isNon x = b := by cases x <;> exact Option.some.inj h
    rw [this]
    exact k
  | _ => cases x <;> cases h⟩
theorem cr_isnot : CmpRule X .isnot .IsNot (fun x y H Q => y = .non ∧ Q (.bl (!decide (x = .non))) H) := ⟨op_notN, fun H Q x y v w b h p q k => by
  cases y with
  | non =>
    refine ⟨q, ?_⟩
    rw [non_iff p]
    have : (!isNon x) = b := by cases x <;> exact Option.some.inj h
    rw [this]
    exact k
  | _ => cases x <;> cases h⟩
end
end PV
end

section
set_option Elab.async false
set_option linter.all false
set_option maxRecDepth 100000
set_option maxHeartbeats 4000000
/-! PV7: in, chains, and | or | not, displays, items, slices -/
namespace PV
open PySem PySem.Spec PyProof.Rows L2
section
variable {C : Ctx} {xa : XA} {K : PySem.W.Frag} {mg : Str → Option Value} {F G H : Hp} {e : Env} {σ : L2.St} {τ xs : List (Option V)} {W : WX} {Q : V → Hp → Prop}
theorem rd_chn {o1 o2 : Cop} {ca cb cc : CE} {r1 r2 : R2} (h1 : ∀ (H : Hp) (Q : V → Hp → Prop) (x y : D) (v w : V) (b : Bool), cop o1 x y = some b → Rep K H x v → Rep K H y w → Q (.bl b) H → r1 v w H Q)
    (h2 : ∀ (H : Hp) (Q : V → Hp → Prop) (x y : D) (v w : V) (b : Bool), cop o2 x y = some b → Rep K H x v → Rep K H y w → Q (.bl b) H → r2 v w H Q) (h : rdE C xa K mg (.chn o1 o2 ca cb cc) W σ H Q) :
    tChain r1 r2 (rdE C xa K mg ca W) (rdE C xa K mg cb W) (rdE C xa K mg cc W) σ H Q := by
  obtain ⟨e, τ, F, G, r, q⟩ := h
  rw [ev.eq_def] at q
  have hn := r.len
  refine rd_two r q QE.mono fun a b e2 v w zs H2 G2 x2 r2' a1 a2 q2 => ?_
  cases z1 : look e2 a with
  | none => simp only [z1] at q2; exact q2.elim
  | some x =>
    cases z2 : look e2 b with
    | none => simp only [z1, z2] at q2; exact q2.elim
    | some y =>
      simp only [z1, z2] at q2
      obtain ⟨k, zb, q4⟩ := Post.lift q2
      refine h1 H2 _ x y v w k zb (r2'.look a1 z1) (r2'.look a2 z2) ⟨k, rfl, ?_⟩
      cases k with
      | false =>
        rw [if_neg Bool.false_ne_true] at q4 ⊢
        rw [← List.append_assoc] at r2'
        exact fin_val q4 r2' hn rfl
      | true =>
        rw [if_pos rfl] at q4 ⊢
        refine rd_opd r2' q4 QE.mono fun c e3 u ws H3 G3 x3 r3 a3 q3 => ?_
        have a2' : Opn K G3 (σ ++ (τ ++ zs) ++ ws) b w := a2.mono x3
        rw [List.append_assoc] at a2'
        cases z3 : look e3 b with
        | none => simp only [z3] at q3; exact q3.elim
        | some y' =>
          cases z4 : look e3 c with
          | none => simp only [z3, z4] at q3; exact q3.elim
          | some z =>
            simp only [z3, z4] at q3
            obtain ⟨k2, zc, q5⟩ := Post.lift q3
            refine h2 H3 Q y' z w u k2 zc (r3.look a2' z3) (r3.look a3 z4) ?_
            have e9 : σ ++ (τ ++ zs ++ ws) = σ ++ τ ++ (zs ++ ws) := by simp only [List.append_assoc]
            rw [e9] at r3
            exact fin_val q5 r3 hn rfl
theorem ev_chn_bl {o1 o2 : Cop} {ca cb cc : CE} {e e' : Env} {r : Res} (h : ev C (.chn o1 o2 ca cb cc) e = .ok r e') : ∃ b, r = .at_ (.val (.bl b)) := by
  rw [ev.eq_def] at h
  simp only at h
  cases z : opd (ev C ca e) with
  | err x e2 => rw [z] at h; cases h
  | bad => rw [z] at h; cases h
  | ok a e1 =>
    rw [z] at h
    simp only [Out.bind] at h
    cases z2 : opd (ev C cb e1) with
    | err x e2 => rw [z2] at h; cases h
    | bad => rw [z2] at h; cases h
    | ok b e2 =>
      rw [z2] at h
      simp only at h
      split at h
      · rename_i dx dy _ _
        cases z3 : cop o1 dx dy with
        | none => rw [z3] at h; cases h
        | some k =>
          rw [z3] at h
          simp only [lift] at h
          split at h
          · cases z4 : opd (ev C cc e2) with
            | err x e2 => rw [z4] at h; cases h
            | bad => rw [z4] at h; cases h
            | ok c e3 =>
              rw [z4] at h
              simp only at h
              split at h
              · rename_i y z _ _
                cases z5 : cop o2 y z with
                | none => rw [z5] at h; cases h
                | some k2 =>
                  rw [z5] at h
                  cases h
                  exact ⟨k2, rfl⟩
              · cases h
          · cases h
            exact ⟨false, rfl⟩
      · cases h
end
section
variable {C : Ctx} {xa : XA} {X : Cx}
theorem ve_cmpR {op : Cop} {o : CmpOp} {a b : Expr} {ca cb : CE} {r2 : R2} {pos : Pos} (cr : CmpRule X op o r2) (ha : VE C xa X a ca) (hb : VE C xa X b cb) (hm : behindInMarks o b = false := by first | exact nomark _ | rfl) : VE C xa X (.Compare a [o] [b] pos) (.cmp op ca cb) := ve_cmp cr.ok cr.rd ha hb hm
theorem vt_cmpR {op : Cop} {o : CmpOp} {a b : Expr} {ca cb : CE} {r2 : R2} {pos : Pos} (cr : CmpRule X op o r2) (ha : VE C xa X a ca) (hb : VE C xa X b cb) (hm : behindInMarks o b = false := by first | exact nomark _ | rfl) : VT C xa X (.Compare a [o] [b] pos) (.tru (.cmp op ca cb)) := vt_cmp cr.ok cr.rd ha hb hm
theorem ve_chn {o1 o2 : Cop} {p1 p2 : CmpOp} {a b c : Expr} {ca cb cc : CE} {r1 r2 : R2} {pos : Pos} (c1 : CmpRule X o1 p1 r1) (c2 : CmpRule X o2 p2 r2) (ha : VE C xa X a ca) (hb : VE C xa X b cb) (hc : VE C xa X c cc)
    (hm : lastMarks [p1, p2] [b, c] = false := by with_unfolding_all rfl) : VE C xa X (.Compare a [p1, p2] [b, c] pos) (.chn o1 o2 ca cb cc) := ⟨fun W tk => pe_imp (pe_chain c1.ok c2.ok (ha.pe W tk) (hb.pe W tk) (hc.pe W tk) hm) fun σ H Q q => rd_chn c1.rd c2.rd q⟩
theorem vt_chn {o1 o2 : Cop} {p1 p2 : CmpOp} {a b c : Expr} {ca cb cc : CE} {r1 r2 : R2} {pos : Pos} (c1 : CmpRule X o1 p1 r1) (c2 : CmpRule X o2 p2 r2) (ha : VE C xa X a ca) (hb : VE C xa X b cb) (hc : VE C xa X c cc)
    (hm : lastMarks [p1, p2] [b, c] = false := by with_unfolding_all rfl) : VT C xa X (.Compare a [p1, p2] [b, c] pos) (.tru (.chn o1 o2 ca cb cc)) := ⟨fun W tk => pt_imp (pt_chain c1.ok c2.ok (ha.pe W tk) (hb.pe W tk) (hc.pe W tk) hm) fun σ H Q q => rd_chn c1.rd c2.rd (rdT_bool (fun _ _ _ => ev_chn_bl) q)⟩
/-! ### in -/
theorem rep_str {G : Hp} {s : Str} {v : V} (h : Rep X.K G (.str s) v) : v = .str s := h
def rInT (K : PySem.W.Frag) : R2 := fun x y H Q => ∃ d ds, Dp K H x d ∧ Dp K H y (.tuple ds) ∧ SeqAt.shaped d = true ∧ SeqAt.shaped (.tuple ds) = true ∧ Q (.bl (ds.any fun z => PyData.eqv z d)) H
def rNotInT (K : PySem.W.Frag) : R2 := fun x y H Q => ∃ d ds, Dp K H x d ∧ Dp K H y (.tuple ds) ∧ SeqAt.shaped d = true ∧ SeqAt.shaped (.tuple ds) = true ∧ Q (.bl (!ds.any fun z => PyData.eqv z d)) H
theorem op_inT (hu : X.A.units + 65 < cLine) : OpR X (compareOp .In) (rInT X.K) := by
  intro pins s σ H x y v u Q I rx ry h
  obtain ⟨d, ds, hd, he, sd, se, q⟩ := h
  obtain ⟨as, r1⟩ := Dp.reads I d x v hd rx
  obtain ⟨bs, r2⟩ := Dp.reads I (.tuple ds) y u he ry
  exact SeqAt.in_tuple_reads r2 r1 (by have h := SeqAt.canLay_of_shaped se; simpa [PyData.canLay0] using h) (SeqAt.canLay_of_shaped sd) (room_in_shaped sd hu) ⟨.bl _, H, I, rfl, q⟩
theorem op_notInT (hu : X.A.units + 65 < cLine) : OpR X (compareOp .NotIn) (rNotInT X.K) := by
  intro pins s σ H x y v u Q I rx ry h
  obtain ⟨d, ds, hd, he, sd, se, q⟩ := h
  obtain ⟨as, r1⟩ := Dp.reads I d x v hd rx
  obtain ⟨bs, r2⟩ := Dp.reads I (.tuple ds) y u he ry
  exact SeqAt.notIn_tuple_reads r2 r1 (by have h := SeqAt.canLay_of_shaped se; simpa [PyData.canLay0] using h) (SeqAt.canLay_of_shaped sd) (room_in_shaped sd hu) ⟨.bl _, H, I, rfl, q⟩
def rMem (K : PySem.W.Frag) : R2 := fun x y H Q => (∃ i j, x = .str i ∧ y = .str j ∧ Q (.bl (!(Builtin.Str.occurrences j i 0 j.length 1).isEmpty)) H) ∨ rInD K x y H Q ∨ rInT K x y H Q
def rNMem (K : PySem.W.Frag) : R2 := fun x y H Q => (∃ i j, x = .str i ∧ y = .str j ∧ Q (.bl (!(!(Builtin.Str.occurrences j i 0 j.length 1).isEmpty))) H) ∨ rNotInD K x y H Q ∨ rNotInT K x y H Q
theorem memD_cases {x y : D} {b : Bool} (h : memD x y = some b) : (∃ s t, x = .str s ∧ y = .str t ∧ b = strIn s t) ∨ (∃ ds p ps, y = .lst ds ∧ x.toP = some p ∧ SeqAt.shaped p = true ∧ (D.lst ds).toP = some (.list ps) ∧ SeqAt.shaped (.list ps) = true ∧ b = ps.any fun z => PyData.eqv z p) ∨ ∃ ds p ps, y = .tup ds ∧ x.toP = some p ∧ SeqAt.shaped p = true ∧ (D.tup ds).toP = some (.tuple ps) ∧ SeqAt.shaped (.tuple ps) = true ∧ b = ps.any fun z => PyData.eqv z p := by
  cases y with
  | str t =>
    cases x with
    | str s => exact .inl ⟨s, t, rfl, rfl, (Option.some.inj h).symm⟩
    | _ => cases h
  | lst ds =>
    have h2 : (match shP x, shP (.lst ds) with | some p, some (.list ps) => some (ps.any fun z => PyData.eqv z p) | _, _ => none) = some b := by cases x <;> exact h
    cases z1 : shP x with
    | none => simp only [z1] at h2; cases h2
    | some p1 =>
      cases z2 : shP (.lst ds) with
      | none => simp only [z1, z2] at h2; cases h2
      | some p2 =>
        cases p2 with
        | list ps =>
          simp only [z1, z2] at h2
          cases h2
          obtain ⟨s1, s2⟩ := shP_some z1
          obtain ⟨s3, s4⟩ := shP_some z2
          exact .inr (.inl ⟨ds, p1, ps, rfl, s1, s2, s3, s4, rfl⟩)
        | _ => simp only [z1, z2] at h2; cases h2
  | tup ds =>
    have h2 : (match shP x, shP (.tup ds) with | some p, some (.tuple ps) => some (ps.any fun z => PyData.eqv z p) | _, _ => none) = some b := by cases x <;> exact h
    cases z1 : shP x with
    | none => simp only [z1] at h2; cases h2
    | some p1 =>
      cases z2 : shP (.tup ds) with
      | none => simp only [z1, z2] at h2; cases h2
      | some p2 =>
        cases p2 with
        | tuple ps =>
          simp only [z1, z2] at h2
          cases h2
          obtain ⟨s1, s2⟩ := shP_some z1
          obtain ⟨s3, s4⟩ := shP_some z2
          exact .inr (.inr ⟨ds, p1, ps, rfl, s1, s2, s3, s4, rfl⟩)
        | _ => simp only [z1, z2] at h2; cases h2
  | _ => cases x <;> cases h
theorem cr_mem (hu : X.A.units + 200 < cLine) : CmpRule X .mem .In (rMem X.K) := ⟨op_in_str.or ((op_inD (by omega)).or (op_inT (by omega))), fun H Q x y v w b h p q k => by
  have h' : memD x y = some b := by cases x <;> exact h
  rcases memD_cases h' with ⟨s, t, rfl, rfl, rfl⟩ | ⟨ds, p1, ps, rfl, s1, s2, s3, s4, rfl⟩ | ⟨ds, p1, ps, rfl, s1, s2, s3, s4, rfl⟩
  · exact .inl ⟨s, t, p, q, k⟩
  · exact .inr (.inl ⟨p1, ps, rep_dp x v p1 p s1, rep_dp _ w _ q s3, s2, s4, k⟩)
  · exact .inr (.inr ⟨p1, ps, rep_dp x v p1 p s1, rep_dp _ w _ q s3, s2, s4, k⟩)⟩
theorem cr_nmem (hu : X.A.units + 200 < cLine) : CmpRule X .nmem .NotIn (rNMem X.K) := ⟨op_notIn_str.or ((op_notInD (by omega)).or (op_notInT (by omega))), fun H Q x y v w b h p q k => by
  have h' : (memD x y).map not = some b := by cases x <;> exact h
  cases z : memD x y with
  | none => rw [z] at h'; cases h'
  | some c =>
    rw [z] at h'
    cases h'
    rcases memD_cases z with ⟨s, t, rfl, rfl, rfl⟩ | ⟨ds, p1, ps, rfl, s1, s2, s3, s4, rfl⟩ | ⟨ds, p1, ps, rfl, s1, s2, s3, s4, rfl⟩
    · exact .inl ⟨s, t, p, q, k⟩
    · exact .inr (.inl ⟨p1, ps, rep_dp x v p1 p s1, rep_dp _ w _ q s3, s2, s4, k⟩)
    · exact .inr (.inr ⟨p1, ps, rep_dp x v p1 p s1, rep_dp _ w _ q s3, s2, s4, k⟩)⟩

/-! ### and, or, not, if -/
theorem ve_one {o : BoolOp} {a : Expr} {c : CE} {pos : Pos} (h : VE C xa X a c) : VE C xa X (.BoolOp o [a] pos) c := ⟨fun W tk => pe_one (h.pe W tk)⟩
theorem ve_and {a b : Expr} {rest : List Expr} {ca cb : CE} {pos : Pos} (ha : VE C xa X a ca) (hb : VE C xa X (.BoolOp .And (b :: rest) pos) cb) : VE C xa X (.BoolOp .And (a :: b :: rest) pos) (.and_ ca cb) := ⟨fun W tk => pe_imp (pe_and (ha.pe W tk) (hb.pe W tk)) fun σ H Q q => by
  obtain ⟨e, τ, F, G, r, q⟩ := q
  rw [ev.eq_def] at q
  refine rd_bind r q QE.mono (fun a e1 v H1 G1 x1 r1 o1 q1 => ?_) (fun o e1 v H1 G1 x1 r1 q1 => q1.elim)
  cases a with
  | pl i => exact q1.elim
  | val d =>
    cases d with
    | bl k =>
      refine ⟨k, o1, ?_⟩
      cases k with
      | true =>
        simp only [if_true] at q1 ⊢
        exact ⟨e1, τ, F, G1, r1, q1⟩
      | false =>
        simp only [Bool.false_eq_true, if_false] at q1 ⊢
        exact q1 _ H1 G1 (Ex.refl _) r1 rfl
    | _ => exact q1.elim⟩
theorem ve_or {a b : Expr} {rest : List Expr} {ca cb : CE} {pos : Pos} (ha : VE C xa X a ca) (hb : VE C xa X (.BoolOp .Or (b :: rest) pos) cb) : VE C xa X (.BoolOp .Or (a :: b :: rest) pos) (.or_ ca cb) := ⟨fun W tk => pe_imp (pe_or (ha.pe W tk) (hb.pe W tk)) fun σ H Q q => by
  obtain ⟨e, τ, F, G, r, q⟩ := q
  rw [ev.eq_def] at q
  refine rd_bind r q QE.mono (fun a e1 v H1 G1 x1 r1 o1 q1 => ?_) (fun o e1 v H1 G1 x1 r1 q1 => q1.elim)
  cases a with
  | pl i => exact q1.elim
  | val d =>
    cases d with
    | bl k =>
      refine ⟨k, o1, ?_⟩
      cases k with
      | false =>
        simp only [Bool.false_eq_true, if_false] at q1 ⊢
        exact ⟨e1, τ, F, G1, r1, q1⟩
      | true =>
        simp only [if_true] at q1 ⊢
        exact q1 _ H1 G1 (Ex.refl _) r1 rfl
    | _ => exact q1.elim⟩
theorem vt_tru {a : Expr} {c : CE} (h : VE C xa X a c) (he : ∀ whole, isTrue a X.env whole = (do let v ← whole; standAt a.pos; holding [v] (PySem.truthy v)) := by intro _; rfl) : VT C xa X a (.tru c) := ⟨fun W tk => pt_imp (pt_truth (h.pe W tk) he) fun σ H Q q => rdT_tru q⟩
theorem vw_and1 {a : Expr} {c : CT} {pos : Pos} (h : VT C xa X a c) : VW C xa X (.BoolOp .And [a] pos) c := ⟨fun W tk => pw_and1 (h.pt W tk)⟩
theorem vw_or1 {a : Expr} {c : CT} {pos : Pos} (h : VT C xa X a c) : VW C xa X (.BoolOp .Or [a] pos) c := ⟨fun W tk => pw_or1 (h.pt W tk)⟩
theorem rdT_and {ca cb : CT} {K : PySem.W.Frag} {mg : Str → Option Value} {W : WX} {σ : L2.St} {H : Hp} {Q : Bool → Hp → Prop} (q : rdT C xa K mg (.and_ ca cb) W σ H Q) : tAnd (rdT C xa K mg ca W) (rdT C xa K mg cb W) σ H Q := by
  obtain ⟨e, τ, F, G, r, q⟩ := q
  rw [evt.eq_def] at q
  refine rd_test r q QT.mono fun b e1 H1 G1 x1 r1 q1 => ?_
  cases b with
  | true =>
    simp only [if_true] at q1 ⊢
    exact ⟨e1, τ, F, G1, r1, q1⟩
  | false =>
    simp only [Bool.false_eq_true, if_false] at q1 ⊢
    exact q1 H1 G1 (Ex.refl _) r1
theorem rdT_or {ca cb : CT} {K : PySem.W.Frag} {mg : Str → Option Value} {W : WX} {σ : L2.St} {H : Hp} {Q : Bool → Hp → Prop} (q : rdT C xa K mg (.or_ ca cb) W σ H Q) : tOr (rdT C xa K mg ca W) (rdT C xa K mg cb W) σ H Q := by
  obtain ⟨e, τ, F, G, r, q⟩ := q
  rw [evt.eq_def] at q
  refine rd_test r q QT.mono fun b e1 H1 G1 x1 r1 q1 => ?_
  cases b with
  | false =>
    simp only [Bool.false_eq_true, if_false] at q1 ⊢
    exact ⟨e1, τ, F, G1, r1, q1⟩
  | true =>
    simp only [if_true] at q1 ⊢
    exact q1 H1 G1 (Ex.refl _) r1
theorem vw_and {a b : Expr} {rest : List Expr} {ca cb : CT} {pos : Pos} (ha : VT C xa X a ca) (hb : VW C xa X (.BoolOp .And (b :: rest) pos) cb) : VW C xa X (.BoolOp .And (a :: b :: rest) pos) (.and_ ca cb) := ⟨fun W tk => pw_imp (pw_and (ha.pt W tk) (hb.pw W tk)) fun σ H Q q => rdT_and q⟩
theorem vw_or {a b : Expr} {rest : List Expr} {ca cb : CT} {pos : Pos} (ha : VT C xa X a ca) (hb : VW C xa X (.BoolOp .Or (b :: rest) pos) cb) : VW C xa X (.BoolOp .Or (a :: b :: rest) pos) (.or_ ca cb) := ⟨fun W tk => pw_imp (pw_or (ha.pt W tk) (hb.pw W tk)) fun σ H Q q => rdT_or q⟩
theorem vt_w {a : Expr} {c : CT} (h : VW C xa X a c) : VT C xa X a c := ⟨fun W tk => (h.pw W tk).pt⟩
theorem vt_not {a : Expr} {c : CT} {pos : Pos} (h : VT C xa X a c) : VT C xa X (.UnaryOp .Not a pos) (.not_ c) := ⟨fun W tk => pt_imp (pt_not (h.pt W tk)) fun σ H Q q => by
  obtain ⟨e, τ, F, G, r, q⟩ := q
  rw [evt.eq_def] at q
  exact rd_test r q QT.mono fun b e1 H1 G1 x1 r1 q1 => q1 H1 G1 (Ex.refl _) r1⟩
/-- not x as a value -/
theorem ve_not {a : Expr} {c : CE} {pos : Pos} (h : VE C xa X a c) : VE C xa X (.UnaryOp .Not a pos) (.not_ (.tru c)) := ⟨fun W tk => pe_imp (pe_notT (h.pe W tk)) fun σ H Q q => by
  obtain ⟨e, τ, F, G, r, q⟩ := q
  rw [ev.eq_def] at q
  have q' : rdT C xa X.K X.mg (.tru c) W σ H fun b H1 => Q (.bl (!b)) H1 := rd_test r q QE.mono fun b e1 H1 G1 x1 r1 q1 => q1 _ H1 G1 (Ex.refl _) r1 rfl
  exact rdT_tru q'⟩
theorem ve_ite {t a b : Expr} {ct : CT} {ca cb : CE} {pos : Pos} (ht : VT C xa X t ct) (ha : VE C xa X a ca) (hb : VE C xa X b cb) : VE C xa X (.IfExp t a b pos) (.ite ct ca cb) := ⟨fun W tk => pe_imp (pe_ifExp (ht.pt W tk) (ha.pe W tk) (hb.pe W tk)) fun σ H Q q => by
  obtain ⟨e, τ, F, G, r, q⟩ := q
  rw [ev.eq_def] at q
  refine rd_test r q QE.mono fun b e1 H1 G1 x1 r1 q1 => ?_
  cases b with
  | true =>
    simp only [if_true] at q1 ⊢
    exact ⟨e1, τ, F, G1, r1, q1⟩
  | false =>
    simp only [Bool.false_eq_true, if_false] at q1 ⊢
    exact ⟨e1, τ, F, G1, r1, q1⟩⟩
/-! ### operands in a row -/
theorem va_nil : VA C xa X [] [] := ⟨fun W tk => pa_imp pa_nil fun σ H Q q => by
  obtain ⟨e, τ, F, G, r, q⟩ := q
  rw [evs.eq_def] at q
  exact q [] [] H G (Ex.refl _) (by rw [List.append_nil]; exact r) rfl⟩
theorem va_cons {a : Expr} {es : List Expr} {c : CE} {cs : List CE} (ha : VE C xa X a c) (hs : VA C xa X es cs) (hst : starEach (a :: es) X.env = (false, eval a X.env) :: starEach es X.env := by rfl) : VA C xa X (a :: es) (c :: cs) := ⟨fun W tk => pa_imp (pa_cons (ha.pe W tk) (hs.pa W tk) hst) fun σ H Q q => by
  obtain ⟨e, τ, F, G, r, q⟩ := q
  rw [evs.eq_def] at q
  refine rd_opd r q QA.mono fun a e1 v zs H1 G1 x1 r1 o1 q1 => ?_
  refine rd_args r1 q1 QA.mono fun as e2 vs ws H2 G2 x2 r2 o2 q2 => ?_
  have o1' : Opn X.K G2 (σ ++ (τ ++ zs) ++ ws) a v := o1.mono x2
  have e9 : σ ++ (τ ++ zs ++ ws) = σ ++ τ ++ (zs ++ ws) := by simp only [List.append_assoc]
  rw [List.append_assoc] at o1'
  rw [e9] at r2 o2 o1'
  exact q2 (v :: vs) (zs ++ ws) H2 G2 (Ex.refl _) r2 ⟨v, vs, rfl, o1', o2⟩⟩
theorem ve_tup {es : List Expr} {cs : List CE} {x1 pos} (h : VA C xa X es cs) : VE C xa X (.Tuple es x1 pos) (.tup cs) := ⟨fun W tk => pe_imp (pe_tup (h.pa W tk)) fun σ H Q q => by
  obtain ⟨e, τ, F, G, r, q⟩ := q
  rw [ev.eq_def] at q
  have hn := r.len
  refine rd_args r q QE.mono fun as e1 vs zs H1 G1 x1 r1 o1 q1 => ?_
  obtain ⟨⟨ds, e2⟩, zk, q2⟩ := Post.lift q1
  obtain ⟨G2, x2, r2, p2, l2⟩ := RS.keeps as r1 o1 zk
  have q3 : Post X.K X.mg xa F σ W G1 (QE X.K X.mg xa F (σ ++ τ) Q) (if ds.length ≤ LIM then .ok (.at_ (.val (.tup ds))) (e2.take e.length) else .bad) := q2
  split at q3
  · rename_i hl
    refine ⟨LIM_line (by rw [← p2.len]; exact hl), fun p hp => ?_⟩
    rw [← List.append_assoc] at r2
    have r3 := r2.more (o := .tup vs) hp
    have gp := (r2.fresh hp).1
    exact fin_val (Post.mono QE.mono (x2.trans (ex_new gp)) q3) r3 hn ⟨p, vs, rfl, .inl (.inl upd_same), Reps.mono X.K (ex_new gp) _ _ p2⟩
  · exact q3.elim⟩
theorem ve_lst {es : List Expr} {cs : List CE} {pos} (h : VA C xa X es cs) : VE C xa X (.List es pos) (.lst cs) := ⟨fun W tk => pe_imp (pe_lst (h.pa W tk)) fun σ H Q q => by
  obtain ⟨e, τ, F, G, r, q⟩ := q
  rw [ev.eq_def] at q
  have hn := r.len
  refine rd_args r q QE.mono fun as e1 vs zs H1 G1 x1 r1 o1 q1 => ?_
  obtain ⟨⟨os, e2⟩, zk, q2⟩ := Post.lift q1
  have r1' : RS X.K X.mg xa F G1 (e1 ++ []) (σ ++ (τ ++ zs) ++ []) H1 := by rw [List.append_nil, List.append_nil]; exact r1
  obtain ⟨G2, x2, r2, l2⟩ := RS.takes as r1' r1.len o1 zk
  rw [List.nil_append, List.nil_append] at r2
  have q3 : Post X.K X.mg xa F σ W G1 (QE X.K X.mg xa F (σ ++ τ) Q) (if os.length ≤ LIM then .ok (.frs (.lst os)) (e2.take e.length) else .bad) := q2
  split at q3
  · rename_i hl
    have hvs : vs.length = os.length := by
      have h1 := r2.len
      have h2 := r1.len
      simp only [List.length_append, List.length_map] at h1 h2
      omega
    refine ⟨LIM_line (by rw [hvs]; exact hl), fun p hp => ?_⟩
    have r3 := r2.pack (l2.trans r1.len) hp
    refine Post.mono QE.mono x2 q3 (.ref p) _ G2 (Ex.refl _) ?_
    rw [← List.append_assoc σ τ zs] at r3
    have e8 : e2 = e2.take e.length ++ e2.drop e.length := (List.take_append_drop ..).symm
    rw [e8] at r3
    have l3 := r1.len
    simp only [List.length_append] at l3 hn
    have r4 : RS X.K X.mg xa F G2 (e2.take e.length ++ (e2.drop e.length ++ [.own (.lst os) none])) ((σ ++ τ) ++ (zs ++ [some (.ref p)])) (upd H1 p (.lst vs)) := by
      rw [List.append_assoc, List.append_assoc] at r3
      exact r3
    exact r4.drop (by simp only [List.length_take, List.length_append]; omega) (by simp only [List.length_drop]; omega)
  · exact q3.elim⟩
end
end PV
end

section
set_option Elab.async false
set_option linter.all false
set_option maxRecDepth 100000
set_option maxHeartbeats 4000000
/-! PV8: items, slices, built-ins -/
namespace PV
open PySem PySem.Spec PyProof.Rows L2
section
variable {C : Ctx} {xa : XA} {K : PySem.W.Frag} {mg : Str → Option Value} {F G H : Hp} {e : Env} {σ : L2.St} {τ xs : List (Option V)} {W : WX} {Q : V → Hp → Prop}
theorem reps_get : ∀ {ds : List D} {vs : List V} {i : Nat} {d : D}, Reps K G ds vs → ds[i]? = some d → ∃ v, vs[i]? = some v ∧ Rep K G d v
  | [], _, _, _, _, h => by simp at h
  | x :: ds, vs, 0, d, h, q => by
    obtain ⟨v, r, rfl, h2, h3⟩ := h
    simp at q
    subst q
    exact ⟨v, rfl, h2⟩
  | x :: ds, vs, i + 1, d, h, q => by
    obtain ⟨v, r, rfl, h2, h3⟩ := h
    obtain ⟨w, h4, h5⟩ := reps_get (i := i) h3 (by simpa using q)
    exact ⟨w, by simpa using h4, h5⟩
theorem reps_atI {ds : List D} {vs : List V} {i : Int} {d : D} (h : Reps K G ds vs) (q : atI ds i = some d) : ∃ v, atI vs i = some v ∧ Rep K G d v := by
  unfold atI at q ⊢
  rw [← h.len]
  cases z : ixN ds.length i with
  | none => rw [z] at q; cases q
  | some j =>
    rw [z] at q
    exact reps_get h q
theorem rep_tup {ds : List D} {v : V} (h : RepF K G H (.tup ds) v) : ∃ a vs, v = .ref a ∧ SqT K G a vs ∧ Reps K G ds vs := h.resolve_right fun z => z
theorem lookD_val : ∀ {ks : List Key} {ds : List D} {vs : List V} {k : Key} {d : D}, Reps K G ds vs → lookD ks ds k = some d → ∃ v, valV (ks.zip vs) k = some v ∧ Rep K G d v
  | [], ds, vs, k, d, h, q => by cases ds <;> cases q
  | a :: ks, [], vs, k, d, h, q => by cases q
  | a :: ks, x :: ds, vs, k, d, h, q => by
    obtain ⟨v, r, rfl, h2, h3⟩ := h
    unfold lookD at q
    unfold valV
    rw [List.zip_cons_cons, List.find?_cons]
    by_cases z : a = k
    · rw [if_pos z] at q
      cases q
      simp only [z, decide_true]
      exact ⟨v, rfl, h2⟩
    · rw [if_neg z] at q
      simp only [z, decide_false]
      exact lookD_val h3 q
/-- one operand read, a value at the end -/
theorem rd_ix {ca cb : CE} {r2 : R2} (hr : ∀ (G H : Hp) (Q : V → Hp → Prop) (x y : D) (v w : V) (d : D), ixD x y = some d → Ex G H → RepF K G H x v → Rep K H y w → (∀ u, Rep K G d u → Q u H) → r2 v w H Q) (h : rdE C xa K mg (.ix ca cb) W σ H Q) :
    tOp r2 (rdE C xa K mg ca W) (rdE C xa K mg cb W) σ H Q := by
  obtain ⟨e, τ, F, G, r, q⟩ := h
  rw [ev.eq_def] at q
  have hn := r.len
  refine rd_two r q QE.mono fun a b e2 v w zs H2 G2 x2 r2' o1 o2 q2 => ?_
  obtain ⟨dy, z1, q3⟩ := Post.lift q2
  obtain ⟨⟨dx, e3⟩, z2, q4⟩ := Post.lift q3
  obtain ⟨d, z3, q5⟩ := Post.lift q4
  obtain ⟨G3, x3, r3, p3⟩ := r2'.flat o1 z2
  refine hr G3 H2 Q dx dy v w d z3 r3.gh p3 (r2'.look o2 z1) fun u hu => ?_
  rw [← List.append_assoc] at r3
  exact fin_val (Post.mono QE.mono x3 q5) r3 hn hu
theorem rd_dix {ca cb : CE} {r2 : R2} (hr : ∀ (G H : Hp) (Q : V → Hp → Prop) (x y : D) (v w : V) (d : D), dixD x y = some d → Ex G H → RepF K G H x v → Rep K H y w → (∀ u, Rep K G d u → Q u H) → r2 v w H Q) (h : rdE C xa K mg (.dix ca cb) W σ H Q) :
    tOp r2 (rdE C xa K mg ca W) (rdE C xa K mg cb W) σ H Q := by
  obtain ⟨e, τ, F, G, r, q⟩ := h
  rw [ev.eq_def] at q
  have hn := r.len
  refine rd_two r q QE.mono fun a b e2 v w zs H2 G2 x2 r2' o1 o2 q2 => ?_
  obtain ⟨dy, z1, q3⟩ := Post.lift q2
  obtain ⟨⟨dx, e3⟩, z2, q4⟩ := Post.lift q3
  obtain ⟨d, z3, q5⟩ := Post.lift q4
  obtain ⟨G3, x3, r3, p3⟩ := r2'.flat o1 z2
  refine hr G3 H2 Q dx dy v w d z3 r3.gh p3 (r2'.look o2 z1) fun u hu => ?_
  rw [← List.append_assoc] at r3
  exact fin_val (Post.mono QE.mono x3 q5) r3 hn hu
end
section
variable {C : Ctx} {xa : XA} {X : Cx}
theorem ixD_cases {x y d : D} (h : ixD x y = some d) : (∃ ds i, x = .lst ds ∧ y = .int i ∧ atI ds i = some d) ∨ (∃ ds i, x = .tup ds ∧ y = .int i ∧ atI ds i = some d) ∨ ∃ s i c, x = .str s ∧ y = .int i ∧ s.length ≤ LIM ∧ atI s.cps.toList i = some c ∧ d = .str ⟨#[c]⟩ := by
  cases x <;> cases y <;> simp only [ixD, reduceCtorEq] at h
  · split at h
    · rename_i s i hl
      cases z : atI s.cps.toList i with
      | none => rw [z] at h; cases h
      | some c =>
        rw [z] at h
        exact .inr (.inr ⟨s, i, c, rfl, rfl, hl, z, (Option.some.inj h).symm⟩)
    · cases h
  · exact .inr (.inl ⟨_, _, rfl, rfl, h⟩)
  · exact .inl ⟨_, _, rfl, rfl, h⟩
/-- xs[i] of a list, a tuple, a text -/
theorem ve_ix {a b : Expr} {ca cb : CE} {pos : Pos} (ha : VE C xa X a ca) (hb : VE C xa X b cb) (hs : PlainIx b := by exact fun _ _ => rfl) : VE C xa X (.Subscript a b pos) (.ix ca cb) := ⟨fun W tk => pe_imp (pe_ix ix_seq (ha.pe W tk) (hb.pe W tk) hs) fun σ H Q q => rd_ix (fun G H Q x y v w d h eG p q k => by
  rcases ixD_cases h with ⟨ds, i, rfl, rfl, h1⟩ | ⟨ds, i, rfl, rfl, h1⟩ | ⟨s, i, c, rfl, rfl, h1, h2, rfl⟩
  · obtain ⟨a1, vs, rfl, h2, h3⟩ := p.lst eG
    obtain ⟨u, h4, h5⟩ := reps_atI h3 h1
    exact .inl ⟨a1, vs, i, u, rfl, q, .inl h2, h4, k u h5⟩
  · obtain ⟨a1, vs, rfl, h2, h3⟩ := rep_tup p
    obtain ⟨u, h4, h5⟩ := reps_atI h3 h1
    exact .inr (.inl ⟨a1, vs, i, u, rfl, q, ex_t eG h2, h4, k u h5⟩)
  · exact .inr (.inr ⟨s, i, c, repF_str p, q, LIM_line h1, h2, k _ rfl⟩)) q⟩
theorem keyD_kV {G : Hp} {d : D} {k : Key} {v : V} (h : keyD d = some k) (r : Rep X.K G d v) : v = kV k := by
  cases d <;> simp only [keyD, reduceCtorEq] at h <;> (cases h; exact r)
/-- d[k] -/
theorem ve_dix {a b : Expr} {ca cb : CE} {pos : Pos} (hu : X.A.units + 200 < cLine) (ha : VE C xa X a ca) (hb : VE C xa X b cb) (hs : NoSl b := by exact fun _ _ => rfl) : VE C xa X (.Subscript a b pos) (.dix ca cb) := ⟨fun W tk => pe_imp (pe_dget (by omega) (ha.pe W tk) (hb.pe W tk) hs) fun σ H Q q => rd_dix (r2 := fun x y H Q => ∃ a v, x = .ref a ∧ DGet H a y (some v) ∧ Q v H) (fun G H Q x y v w d h eG p q k => by
  cases x with
  | dic ks ds =>
    cases z : keyD y with
    | none => simp only [dixD, z] at h; cases h
    | some kk =>
      simp only [dixD, z] at h
      obtain ⟨a1, vs, rfl, h2, h4, h3⟩ := p.dic eG
      obtain ⟨u, h5, h6⟩ := lookD_val h3 h
      refine ⟨a1, u, rfl, ?_, k u h6⟩
      rw [keyD_kV z q, ← h5]
      exact DGet.k h2
  | _ => cases z : keyD y <;> simp only [dixD, z] at h <;> cases h) q⟩
/-! ### slices -/
theorem vo_none : VO C xa X none none := ⟨fun W tk => po_imp po_none fun σ H Q q => by
  obtain ⟨e, τ, F, G, r, q⟩ := q
  rw [evo.eq_def] at q
  exact q H G (Ex.refl _) r⟩
theorem vo_some {a : Expr} {c : CE} (h : VE C xa X a c) : VO C xa X (some a) (some c) := ⟨fun W tk => po_imp (po_some (h.pe W tk)) fun σ H Q q => by
  obtain ⟨e, τ, F, G, r, q⟩ := q
  rw [evo.eq_def] at q
  refine rd_bind r q QI.mono (fun a e1 v H1 G1 x1 r1 o1 q1 => ?_) (fun o e1 v H1 G1 x1 r1 q1 => q1.elim)
  cases a with
  | pl i => exact q1.elim
  | val d =>
    cases d with
    | int i => exact ⟨i, o1, q1 H1 G1 (Ex.refl _) r1⟩
    | _ => exact q1.elim⟩
theorem Reps.take {K : PySem.W.Frag} {G : Hp} : ∀ {ds : List D} {vs : List V} (n : Nat), Reps K G ds vs → Reps K G (ds.take n) (vs.take n)
  | _, _, 0, _ => rfl
  | [], vs, n + 1, h => by rw [show vs = [] from h]; rfl
  | d :: ds, vs, n + 1, h => by
    obtain ⟨v, r, rfl, h2, h3⟩ := h
    exact ⟨v, r.take n, rfl, h2, h3.take n⟩
theorem Reps.drop {K : PySem.W.Frag} {G : Hp} : ∀ {ds : List D} {vs : List V} (n : Nat), Reps K G ds vs → Reps K G (ds.drop n) (vs.drop n)
  | _, _, 0, h => h
  | [], vs, n + 1, h => by rw [show vs = [] from h]; rfl
  | d :: ds, vs, n + 1, h => by
    obtain ⟨v, r, rfl, h2, h3⟩ := h
    exact h3.drop n
theorem Reps.rev {K : PySem.W.Frag} {G : Hp} : ∀ {ds : List D} {vs : List V}, Reps K G ds vs → Reps K G ds.reverse vs.reverse
  | [], vs, h => by rw [show vs = [] from h]; rfl
  | d :: ds, vs, h => by
    obtain ⟨v, r, rfl, h2, h3⟩ := h
    rw [List.reverse_cons, List.reverse_cons]
    exact h3.rev.app ⟨v, [], rfl, h2, rfl⟩
theorem slD_cases {x : D} {lo hi : Option Int} {r : Res} (h : slD x lo hi = some r) : (∃ s, x = .str s ∧ s.length ≤ LIM ∧ r = .at_ (.val (.str (cutS s lo hi)))) ∨ ∃ ds, x = .lst ds ∧ r = .frs (.lst ((cutD ds lo hi).map .fro)) := by
  cases x <;> simp only [slD, reduceCtorEq] at h
  · split at h
    · exact .inl ⟨_, rfl, by assumption, (Option.some.inj h).symm⟩
    · cases h
  · exact .inr ⟨_, rfl, (Option.some.inj h).symm⟩
theorem ve_sl {a : Expr} {lo hi : Option Expr} {ca : CE} {cl ch : Option CE} {p2 pos : Pos} (ha : VE C xa X a ca) (hl : VO C xa X lo cl) (hh : VO C xa X hi ch) : VE C xa X (.Subscript a (.Slice lo hi none p2) pos) (.sl ca cl ch) := ⟨fun W tk => pe_imp (pe_slice (sl_list.or sl_str) (ha.pe W tk) (hl.po W tk) (hh.po W tk)) fun σ H Q q => by
  obtain ⟨e, τ, F, G, r, q⟩ := q
  rw [ev.eq_def] at q
  have hn := r.len
  refine rd_opd r q QE.mono fun a e1 v zs H1 G1 x1 r1 o1 q1 => ?_
  refine rd_part r1 q1 QE.mono fun l e2 H2 G2 x2 r2 q2 => ?_
  refine rd_part r2 q2 QE.mono fun h e3 H3 G3 x3 r3 q3 => ?_
  obtain ⟨⟨d, e4⟩, z1, q4⟩ := Post.lift q3
  obtain ⟨res, z2, q5⟩ := Post.lift q4
  obtain ⟨G4, x4, r4, p4⟩ := r3.flat (o1.ex (x2.trans x3)) z1
  have q6 := Post.mono QE.mono x4 q5
  rw [← List.append_assoc] at r4
  rcases slD_cases z2 with ⟨s, rfl, hs, rfl⟩ | ⟨ds, rfl, rfl⟩
  · exact .inr ⟨s, repF_str p4, LIM_line hs, fin_val q6 r4 hn rfl⟩
  · obtain ⟨b, vs, rfl, h1, h2⟩ := p4.lst r4.gh
    refine .inl ⟨b, vs, rfl, .inl h1, fun p hp => fin_new q6 r4 hn ?_ hp⟩
    unfold cutD cutV
    rw [h2.len]
    exact (h2.drop _).take _⟩
end
end PV
end

section
set_option Elab.async false
set_option linter.all false
set_option maxRecDepth 100000
set_option maxHeartbeats 4000000
/-! PV9: built-ins, methods that change nothing -/
namespace PV
open PySem PySem.Spec PyProof.Rows L2
section
variable {C : Ctx} {xa : XA} {K : PySem.W.Frag} {mg : Str → Option Value} {F G H : Hp} {e : Env} {σ : L2.St} {τ xs : List (Option V)} {W : WX} {Q : V → Hp → Prop}
/-- the ends of an operation on values that are read -/
structure Kont (K : PySem.W.Frag) (G H : Hp) (Q : V → Hp → Prop) (res : Res) : Prop where
  val : ∀ d u, res = .at_ (.val d) → Rep K G d u → Q u H
  new_ : ∀ ds us p, res = .frs (.lst (ds.map .fro)) → Reps K G ds us → H p = none → Q (.ref p) (upd H p (.lst us))
  tup : ∀ ds us p, res = .at_ (.val (.tup ds)) → Reps K G ds us → H p = none → Q (.ref p) (upd H p (.tup us))
theorem kont_of {res : Res} {zs : List (Option V)} {n : Nat} (h : Post K mg xa F σ W G (QE K mg xa F xs Q) (.ok res (e.take n))) (r : RS K mg xa F G e (xs ++ zs) H) (hn : n = xs.length) : Kont K G H Q res where
  val := fun d u hres hu => by
    subst hres
    exact fin_val h r hn hu
  new_ := fun ds us p hres hu hp => by
    subst hres
    exact fin_new h r hn hu hp
  tup := fun ds us p hres hu hp => by
    subst hres
    have gp := (r.fresh hp).1
    exact fin_val (Post.mono QE.mono (ex_new gp) h) (r.more (o := .tup us) hp) hn ⟨p, us, rfl, .inl (.inl upd_same), Reps.mono K (ex_new gp) _ _ hu⟩
theorem rd_bi {f : Bi} {cs : List CE} {r2 : List V → Hp → VK → Prop} (hr : ∀ (G H : Hp) (Q : V → Hp → Prop) (ds : List D) (vs : List V) (res : Res), biF f ds = some res → Ex G H → RepFs K G H ds vs → Kont K G H Q res → r2 vs H Q) (h : rdE C xa K mg (.bi f cs) W σ H Q) :
    tCB r2 (rdA C xa K mg cs W) σ H Q := by
  obtain ⟨e, τ, F, G, r, q⟩ := h
  rw [ev.eq_def] at q
  have hn := r.len
  refine rd_args r q QE.mono fun as e1 vs zs H1 G1 x1 r1 o1 q1 => ?_
  obtain ⟨⟨ds, e2⟩, z1, q2⟩ := Post.lift q1
  obtain ⟨res, z2, q3⟩ := Post.lift q2
  obtain ⟨G2, x2, r2', p2, l2⟩ := RS.flats as r1 o1 z1
  rw [← List.append_assoc] at r2'
  exact hr G2 H1 Q ds vs res z2 r2'.gh p2 (kont_of (Post.mono QE.mono x2 q3) r2' hn)
theorem rd_mt {m : Mt} {co : CE} {cs : List CE} {tyc : V → Hp → Prop} {r2 : V → List V → Hp → VK → Prop} (hty : ∀ (H : Hp) (d : D) (x : V), mtT m d = true → Rep K H d x → tyc x H)
    (hr : ∀ (G H : Hp) (Q : V → Hp → Prop) (o : D) (ds : List D) (x : V) (vs : List V) (res : Res), mtF m o ds = some res → Ex G H → RepF K G H o x → RepFs K G H ds vs → Kont K G H Q res → r2 x vs H Q) (h : rdE C xa K mg (.mt m co cs) W σ H Q) :
    rdE C xa K mg co W σ H fun x H1 => tyc x H1 ∧ rdA C xa K mg cs W σ H1 fun vs H2 => r2 x vs H2 Q := by
  obtain ⟨e, τ, F, G, r, q⟩ := h
  rw [ev.eq_def] at q
  have hn := r.len
  refine rd_opd r q QE.mono fun a e1 v zs H1 G1 x1 r1 o1 q1 => ?_
  obtain ⟨d0, z0, q1⟩ := Post.lift q1
  by_cases hm : mtT m d0 = true
  · rw [if_pos hm] at q1
    refine ⟨hty H1 d0 v hm (r1.look o1 z0), ?_⟩
    refine rd_args r1 q1 QE.mono fun as e2 vs ws H2 G2 x2 r2' o2 q2 => ?_
    have o1' : Opn K G2 (σ ++ (τ ++ zs) ++ ws) a v := o1.mono x2
    rw [List.append_assoc] at o1'
    obtain ⟨⟨ds, e3⟩, z1, q3⟩ := Post.lift q2
    obtain ⟨G3, x3, r3, p3, l3⟩ := RS.flats (a :: as) r2' (vs := v :: vs) ⟨v, vs, rfl, o1', o2⟩ z1
    obtain ⟨o, ds', rfl, p4, p5⟩ := repFs_cons p3
    obtain ⟨res, z2, q4⟩ := Post.lift q3
    have e9 : σ ++ (τ ++ zs ++ ws) = σ ++ τ ++ (zs ++ ws) := by simp only [List.append_assoc]
    rw [e9] at r3
    exact hr G3 H2 Q o ds' v vs res z2 r3.gh p4 p5 (kont_of (Post.mono QE.mono x3 q4) r3 hn)
  · rw [if_neg hm] at q1
    exact q1.elim
theorem repFs1' {ds : List D} {vs : List V} {x : D} (h : RepFs K G H ds vs) (e : ds = [x]) : ∃ v, vs = [v] ∧ RepF K G H x v := by
  subst e
  obtain ⟨v, r, rfl, h1, h2⟩ := h
  exact ⟨v, by rw [show r = [] from h2], h1⟩
theorem repFs2' {ds : List D} {vs : List V} {x y : D} (h : RepFs K G H ds vs) (e : ds = [x, y]) : ∃ v w, vs = [v, w] ∧ RepF K G H x v ∧ RepF K G H y w := by
  subst e
  obtain ⟨v, r, rfl, h1, h2⟩ := h
  obtain ⟨w, h3, h4⟩ := repFs1' h2 rfl
  exact ⟨v, w, by rw [h3], h1, h4⟩
theorem ints_vals : ∀ {ds : List D} {is : List Int} {vs : List V}, intsD ds = some is → Reps K G ds vs → vs = is.map V.int
  | [], is, vs, e, h => by
    cases e
    exact h
  | d :: ds, is, vs, e, h => by
    cases d <;> simp only [intsD, reduceCtorEq] at e
    cases z : intsD ds with
    | none => rw [z] at e; cases e
    | some js =>
      rw [z] at e
      cases e
      obtain ⟨v, r, rfl, h2, h3⟩ := h
      rw [show v = _ from h2, ints_vals z h3] <;> rfl
theorem bls_vals : ∀ {ds : List D} {is : List Bool} {vs : List V}, blsD ds = some is → Reps K G ds vs → vs = is.map V.bl
  | [], is, vs, e, h => by
    cases e
    exact h
  | d :: ds, is, vs, e, h => by
    cases d <;> simp only [blsD, reduceCtorEq] at e
    cases z : blsD ds with
    | none => rw [z] at e; cases e
    | some js =>
      rw [z] at e
      cases e
      obtain ⟨v, r, rfl, h2, h3⟩ := h
      rw [show v = _ from h2, bls_vals z h3] <;> rfl
theorem strs_vals : ∀ {ds : List D} {is : List Str} {vs : List V}, strsD ds = some is → Reps K G ds vs → vs = is.map V.str
  | [], is, vs, e, h => by
    cases e
    exact h
  | d :: ds, is, vs, e, h => by
    cases d <;> simp only [strsD, reduceCtorEq] at e
    cases z : strsD ds with
    | none => rw [z] at e; cases e
    | some js =>
      rw [z] at e
      cases e
      obtain ⟨v, r, rfl, h2, h3⟩ := h
      rw [show v = _ from h2, strs_vals z h3] <;> rfl
theorem RepF.tup' {ds : List D} {v : V} (h : RepF K G H (.tup ds) v) : ∃ a vs, v = .ref a ∧ SqT K G a vs ∧ Reps K G ds vs := h.resolve_right fun z => z
theorem repF_bl {b : Bool} {v : V} (h : RepF K G H (.bl b) v) : v = .bl b := h.resolve_right fun z => z
end
section
variable {C : Ctx} {xa : XA} {X : Cx} {es : List Expr} {cs : List CE} {p pos : Pos} {a : Expr}
/-! ### built-ins by name -/
theorem ve_callB {f : Bi} {id : String} {x : Str} {r : List V → Hp → VK → Prop} (hc : CallR X (.builtin id) r) (hm : X.mg x = none) (hv : bootBuiltins x = some (.builtin id))
    (hr : ∀ (G H : Hp) (Q : V → Hp → Prop) (ds : List D) (vs : List V) (res : Res), biF f ds = some res → Ex G H → RepFs X.K G H ds vs → Kont X.K G H Q res → r vs H Q) (ha : VA C xa X (a :: es) cs)
    (hg : Gl X x := by rfl) (hn : x ≠ "__name__" := by decide) (hdb : (x == ("__debug__" : Str)) = false := by decide)
    (he : starEach (a :: es) X.env = (false, eval a X.env) :: starEach es X.env := by rfl) (hpl : (backTo pos (starEach es X.env)).any (·.1) = false := by rfl) :
    VE C xa X (.Call (.Name x p) (a :: es) [] pos) (.bi f cs) := ⟨fun W tk => pe_imp (pe_callB hc hg hm hv (ha.pa W tk) hn hdb he hpl) fun σ H Q q => rd_bi hr q⟩
theorem ve_callTy {f : Bi} {T : String} {x : Str} {r : List V → Hp → VK → Prop} (hc : CallR X (.type T) r) (hm : X.mg x = none) (hv : bootBuiltins x = some (.type T))
    (hr : ∀ (G H : Hp) (Q : V → Hp → Prop) (ds : List D) (vs : List V) (res : Res), biF f ds = some res → Ex G H → RepFs X.K G H ds vs → Kont X.K G H Q res → r vs H Q) (ha : VA C xa X (a :: es) cs)
    (hg : Gl X x := by rfl) (hn : x ≠ "__name__" := by decide) (hdb : (x == ("__debug__" : Str)) = false := by decide)
    (he : starEach (a :: es) X.env = (false, eval a X.env) :: starEach es X.env := by rfl) (hpl : (backTo pos (starEach es X.env)).any (·.1) = false := by rfl) :
    VE C xa X (.Call (.Name x p) (a :: es) [] pos) (.bi f cs) := ⟨fun W tk => pe_imp (pe_callTy hc hg hm hv (ha.pa W tk) hn hdb he hpl) fun σ H Q q => rd_bi hr q⟩
theorem ve_len (hm : X.mg "len" = none) (ha : VA C xa X (a :: es) cs) (hg : Gl X "len" := by rfl) (he : starEach (a :: es) X.env = (false, eval a X.env) :: starEach es X.env := by rfl) (hpl : (backTo pos (starEach es X.env)).any (·.1) = false := by rfl) :
    VE C xa X (.Call (.Name "len" p) (a :: es) [] pos) (.bi .len cs) := by
  refine ve_callB (CallR.or call_len call_lenD) hm PySem.boot_len (fun G H Q ds vs res h eG hd k => ?_) ha hg (by decide) (by decide) he hpl
  rcases ds with _ | ⟨x, _ | ⟨y, t⟩⟩
  · simp only [biF, reduceCtorEq] at h
  · obtain ⟨v, rfl, hx⟩ := repFs1' hd rfl
    cases x <;> simp only [biF, reduceCtorEq] at h
    · split at h
      · exact .inl ⟨v, _, rfl, by rw [repF_str hx]; exact ⟨LIM_line (by assumption), rfl⟩, k.val _ _ (Option.some.inj h).symm rfl⟩
      · cases h
    · obtain ⟨b, us, rfl, h1, h2⟩ := hx.tup'
      refine .inl ⟨_, us.length, rfl, .inr ⟨us, ex_t eG h1, rfl⟩, k.val _ _ (Option.some.inj h).symm ?_⟩
      rw [h2.len] <;> rfl
    · obtain ⟨b, us, rfl, h1, h2⟩ := hx.lst eG
      refine .inl ⟨_, us.length, rfl, .inl ⟨us, .inl h1, rfl⟩, k.val _ _ (Option.some.inj h).symm ?_⟩
      rw [h2.len] <;> rfl
    · obtain ⟨b, us, rfl, h1, h4, h2⟩ := hx.dic eG
      refine .inr ⟨b, _, rfl, h1, k.val _ _ (Option.some.inj h).symm ?_⟩
      rw [List.length_zip, ← h4, Nat.min_self] <;> rfl
  · cases x <;> simp only [biF, reduceCtorEq] at h
theorem ve_abs (hm : X.mg "abs" = none) (ha : VA C xa X (a :: es) cs) (hg : Gl X "abs" := by rfl) (he : starEach (a :: es) X.env = (false, eval a X.env) :: starEach es X.env := by rfl) (hpl : (backTo pos (starEach es X.env)).any (·.1) = false := by rfl) :
    VE C xa X (.Call (.Name "abs" p) (a :: es) [] pos) (.bi .abs cs) := by
  refine ve_callB call_abs hm (by decide +kernel) (fun G H Q ds vs res h eG hd k => ?_) ha hg (by decide) (by decide) he hpl
  rcases ds with _ | ⟨x, _ | ⟨y, t⟩⟩
  · simp only [biF, reduceCtorEq] at h
  · obtain ⟨v, rfl, hx⟩ := repFs1' hd rfl
    cases x <;> simp only [biF, reduceCtorEq] at h
    exact ⟨_, by rw [repF_int hx], k.val _ _ (Option.some.inj h).symm rfl⟩
  · cases x <;> simp only [biF, reduceCtorEq] at h
theorem ve_int_ (hm : X.mg "int" = none) (ha : VA C xa X (a :: es) cs) (hg : Gl X "int" := by rfl) (he : starEach (a :: es) X.env = (false, eval a X.env) :: starEach es X.env := by rfl) (hpl : (backTo pos (starEach es X.env)).any (·.1) = false := by rfl) :
    VE C xa X (.Call (.Name "int" p) (a :: es) [] pos) (.bi .int cs) := by
  refine ve_callTy call_int1 hm (by decide +kernel) (fun G H Q ds vs res h eG hd k => ?_) ha hg (by decide) (by decide) he hpl
  rcases ds with _ | ⟨x, _ | ⟨y, t⟩⟩
  · simp only [biF, reduceCtorEq] at h
  · obtain ⟨v, rfl, hx⟩ := repFs1' hd rfl
    cases x <;> simp only [biF, reduceCtorEq] at h
    · exact .inr ⟨_, by rw [repF_bl hx], k.val _ _ (Option.some.inj h).symm rfl⟩
    · exact .inl ⟨_, by rw [repF_int hx], k.val _ _ (Option.some.inj h).symm rfl⟩
  · cases x <;> simp only [biF, reduceCtorEq] at h
theorem ve_str_ (hm : X.mg "str" = none) (ha : VA C xa X (a :: es) cs) (hg : Gl X "str" := by rfl) (he : starEach (a :: es) X.env = (false, eval a X.env) :: starEach es X.env := by rfl) (hpl : (backTo pos (starEach es X.env)).any (·.1) = false := by rfl) :
    VE C xa X (.Call (.Name "str" p) (a :: es) [] pos) (.bi .str cs) := by
  refine ve_callTy call_str_int hm (by decide +kernel) (fun G H Q ds vs res h eG hd k => ?_) ha hg (by decide) (by decide) he hpl
  rcases ds with _ | ⟨x, _ | ⟨y, t⟩⟩
  · simp only [biF, reduceCtorEq] at h
  · obtain ⟨v, rfl, hx⟩ := repFs1' hd rfl
    cases x <;> simp only [biF, reduceCtorEq] at h
    split at h
    · exact ⟨_, by rw [repF_int hx], by assumption, k.val _ _ (Option.some.inj h).symm rfl⟩
    · cases h
  · cases x <;> simp only [biF, reduceCtorEq] at h
theorem ve_sum (hc : X.calm = true) (hm : X.mg "sum" = none) (ha : VA C xa X (a :: es) cs) (hg : Gl X "sum" := by rfl) (he : starEach (a :: es) X.env = (false, eval a X.env) :: starEach es X.env := by rfl) (hpl : (backTo pos (starEach es X.env)).any (·.1) = false := by rfl) :
    VE C xa X (.Call (.Name "sum" p) (a :: es) [] pos) (.bi .sum cs) := by
  refine ve_callB (cr_sum hc) hm (by decide +kernel) (fun G H Q ds vs res h eG hd k => ?_) ha hg (by decide) (by decide) he hpl
  rcases ds with _ | ⟨x, _ | ⟨y, t⟩⟩
  · simp only [biF, reduceCtorEq] at h
  · obtain ⟨v, rfl, hx⟩ := repFs1' hd rfl
    cases x <;> simp only [biF, reduceCtorEq] at h
    obtain ⟨b, us, rfl, h1, h2⟩ := hx.lst eG
    rename_i xs
    cases z : intsD xs with
    | none => rw [z] at h; cases h
    | some is =>
      rw [z] at h
      exact ⟨b, is, rfl, by rw [← ints_vals z h2]; exact .inl h1, k.val _ _ (Option.some.inj h).symm rfl⟩
  · cases x <;> simp only [biF, reduceCtorEq] at h
theorem ve_all (hc : X.calm = true) (hm : X.mg "all" = none) (ha : VA C xa X (a :: es) cs) (hg : Gl X "all" := by rfl) (he : starEach (a :: es) X.env = (false, eval a X.env) :: starEach es X.env := by rfl) (hpl : (backTo pos (starEach es X.env)).any (·.1) = false := by rfl) :
    VE C xa X (.Call (.Name "all" p) (a :: es) [] pos) (.bi .all cs) := by
  refine ve_callB (cr_all hc) hm (by decide +kernel) (fun G H Q ds vs res h eG hd k => ?_) ha hg (by decide) (by decide) he hpl
  rcases ds with _ | ⟨x, _ | ⟨y, t⟩⟩
  · simp only [biF, reduceCtorEq] at h
  · obtain ⟨v, rfl, hx⟩ := repFs1' hd rfl
    cases x <;> simp only [biF, reduceCtorEq] at h
    obtain ⟨b, us, rfl, h1, h2⟩ := hx.lst eG
    rename_i xs
    cases z : blsD xs with
    | none => rw [z] at h; cases h
    | some is =>
      rw [z] at h
      exact ⟨b, is, rfl, by rw [← bls_vals z h2]; exact .inl h1, k.val _ _ (Option.some.inj h).symm rfl⟩
  · cases x <;> simp only [biF, reduceCtorEq] at h
theorem ve_any (hc : X.calm = true) (hm : X.mg "any" = none) (ha : VA C xa X (a :: es) cs) (hg : Gl X "any" := by rfl) (he : starEach (a :: es) X.env = (false, eval a X.env) :: starEach es X.env := by rfl) (hpl : (backTo pos (starEach es X.env)).any (·.1) = false := by rfl) :
    VE C xa X (.Call (.Name "any" p) (a :: es) [] pos) (.bi .any cs) := by
  refine ve_callB (cr_any hc) hm (by decide +kernel) (fun G H Q ds vs res h eG hd k => ?_) ha hg (by decide) (by decide) he hpl
  rcases ds with _ | ⟨x, _ | ⟨y, t⟩⟩
  · simp only [biF, reduceCtorEq] at h
  · obtain ⟨v, rfl, hx⟩ := repFs1' hd rfl
    cases x <;> simp only [biF, reduceCtorEq] at h
    obtain ⟨b, us, rfl, h1, h2⟩ := hx.lst eG
    rename_i xs
    cases z : blsD xs with
    | none => rw [z] at h; cases h
    | some is =>
      rw [z] at h
      exact ⟨b, is, rfl, by rw [← bls_vals z h2]; exact .inl h1, k.val _ _ (Option.some.inj h).symm rfl⟩
  · cases x <;> simp only [biF, reduceCtorEq] at h
theorem ve_max2 (hc : X.calm = true) (hm : X.mg "max" = none) (ha : VA C xa X (a :: es) cs) (hg : Gl X "max" := by rfl) (he : starEach (a :: es) X.env = (false, eval a X.env) :: starEach es X.env := by rfl) (hpl : (backTo pos (starEach es X.env)).any (·.1) = false := by rfl) :
    VE C xa X (.Call (.Name "max" p) (a :: es) [] pos) (.bi .max2 cs) := by
  refine ve_callB (call_max2 hc) hm (by decide +kernel) (fun G H Q ds vs res h eG hd k => ?_) ha hg (by decide) (by decide) he hpl
  rcases ds with _ | ⟨x, _ | ⟨y, _ | ⟨t, u⟩⟩⟩
  · simp only [biF, reduceCtorEq] at h
  · cases x <;> simp only [biF, reduceCtorEq] at h
  · obtain ⟨v, w, rfl, hx, hy⟩ := repFs2' hd rfl
    cases x <;> cases y <;> simp only [biF, reduceCtorEq] at h
    exact ⟨_, _, by rw [repF_int hx, repF_int hy], k.val _ _ (Option.some.inj h).symm rfl⟩
  · cases x <;> cases y <;> simp only [biF, reduceCtorEq] at h
theorem ve_min2 (hc : X.calm = true) (hm : X.mg "min" = none) (ha : VA C xa X (a :: es) cs) (hg : Gl X "min" := by rfl) (he : starEach (a :: es) X.env = (false, eval a X.env) :: starEach es X.env := by rfl) (hpl : (backTo pos (starEach es X.env)).any (·.1) = false := by rfl) :
    VE C xa X (.Call (.Name "min" p) (a :: es) [] pos) (.bi .min2 cs) := by
  refine ve_callB (call_min2 hc) hm (by decide +kernel) (fun G H Q ds vs res h eG hd k => ?_) ha hg (by decide) (by decide) he hpl
  rcases ds with _ | ⟨x, _ | ⟨y, _ | ⟨t, u⟩⟩⟩
  · simp only [biF, reduceCtorEq] at h
  · cases x <;> simp only [biF, reduceCtorEq] at h
  · obtain ⟨v, w, rfl, hx, hy⟩ := repFs2' hd rfl
    cases x <;> cases y <;> simp only [biF, reduceCtorEq] at h
    exact ⟨_, _, by rw [repF_int hx, repF_int hy], k.val _ _ (Option.some.inj h).symm rfl⟩
  · cases x <;> cases y <;> simp only [biF, reduceCtorEq] at h
end
end PV
end

section
set_option Elab.async false
set_option linter.all false
set_option maxRecDepth 100000
set_option maxHeartbeats 4000000
/-! PV10: list, tuple, isinstance; methods -/
namespace PV
open PySem PySem.Spec PyProof.Rows L2
def tys : List String := ["NoneType", "bool", "int", "str", "tuple", "list", "dict"]
def cls : List String := ["bool", "int", "str", "tuple", "list", "dict", "float"]
theorem kit_tab : ∀ a ∈ tys, ∀ b ∈ cls, L2.kitB a b = some (isOne a b) := by decide +kernel
section
variable {X : Cx}
/-- list(text) -/
def rListS : List V → Hp → VK → Prop := fun xs H Q => ∃ z : Str, xs = [.str z] ∧ z.length ≤ sizeLine ∧ ∀ p, H p = none → Q (.ref p) (upd H p (.lst (z.cps.toList.map fun c => .str ⟨#[c]⟩)))
theorem call_listS (hc : X.calm = true) : CallR X (.type "list") rListS := fun pins s σ H xs us Q I r h => by
  obtain ⟨z, rfl, hz, q⟩ := h
  obtain ⟨u, rfl, ru⟩ := vals1 r
  obtain ⟨t, rfl⟩ := ru
  refine call_list_str (I.ok.hd hc) z t (hn := hz) fun h' tk acc c hk hS hacc => ?_
  have hv : Vals (z.cps.toList.map fun c => V.str ⟨#[c]⟩) acc.toList := by
    have hl : acc.size = z.cps.size := hacc.1
    have gen : ∀ (l : List Nat) (us : List Value), us.length = l.length → (∀ (j : Nat) (u : Value), us[j]? = some u → ∃ c t, l[j]? = some c ∧ u = .str ⟨#[c]⟩ t) → Vals (l.map fun c => V.str ⟨#[c]⟩) us := by
      intro l
      induction l with
      | nil =>
        intro us h1 _
        rw [List.length_eq_zero_iff.mp h1]
        exact .nil
      | cons c l ih =>
        intro us h1 h2
        cases us with
        | nil => simp at h1
        | cons u us =>
          obtain ⟨c', t', h3, h4⟩ := h2 0 u rfl
          simp at h3
          subst h3
          exact .cons ⟨t', h4⟩ (ih us (by simpa using h1) fun j w hw => by simpa using h2 (j + 1) w (by simpa using hw))
    refine gen _ _ (by simpa using hl) fun j u hu => ?_
    obtain ⟨c, t', h3, h4⟩ := hacc.2 j u (by simpa using hu)
    exact ⟨c, t', by simpa using h3, h4⟩
  refine ⟨V.ref _, _, I.laid (t' := tk) (o := .lst (z.cps.toList.map fun c => .str ⟨#[c]⟩)) hk (Nat.le_refl _) ⟨by rw [List.length_map, Array.length_toList]; exact hz, acc.toList, c, hv, ?_⟩, rfl, q _ I.fresh⟩
  simpa using hS
end
section
variable {C : Ctx} {xa : XA} {X : Cx} {es : List Expr} {cs : List CE} {p pos : Pos} {a : Expr}
theorem dic_keys : ∀ {ks : List Key} {vs : List V}, ks.length = vs.length → (ks.zip vs).map (fun kv => kV kv.1) = ks.map kV
  | [], vs, h => by simp
  | k :: ks, [], h => by simp at h
  | k :: ks, v :: vs, h => by
    rw [List.zip_cons_cons, List.map_cons, List.map_cons, dic_keys (by simpa using h)]
theorem reps_keys {K : PySem.W.Frag} {G : Hp} : ∀ ks : List Key, Reps K G (ks.map fun k => match k with | .inl i => D.int i | .inr s => D.str s) (ks.map kV)
  | [] => rfl
  | .inl i :: ks => ⟨.int i, ks.map kV, rfl, rfl, reps_keys ks⟩
  | .inr s :: ks => ⟨.str s, ks.map kV, rfl, rfl, reps_keys ks⟩
theorem reps_signs {K : PySem.W.Frag} {G : Hp} : ∀ l : List Nat, Reps K G (l.map fun c => D.str ⟨#[c]⟩) (l.map fun c => V.str ⟨#[c]⟩)
  | [] => rfl
  | c :: l => ⟨_, _, rfl, rfl, reps_signs l⟩
theorem ve_list (hc : X.calm = true) (hm : X.mg "list" = none) (ha : VA C xa X (a :: es) cs) (hg : Gl X "list" := by rfl) (he : starEach (a :: es) X.env = (false, eval a X.env) :: starEach es X.env := by rfl) (hpl : (backTo pos (starEach es X.env)).any (·.1) = false := by rfl) :
    VE C xa X (.Call (.Name "list" p) (a :: es) [] pos) (.bi .list cs) := by
  refine ve_callTy (CallR.or call_list_of (CallR.or (call_listD hc) (call_listS hc))) hm (by decide +kernel) (fun G H Q ds vs res h eG hd k => ?_) ha hg (by decide) (by decide) he hpl
  rcases ds with _ | ⟨x, _ | ⟨y, t⟩⟩
  · simp only [biF, reduceCtorEq] at h
  · obtain ⟨v, rfl, hx⟩ := repFs1' hd rfl
    cases x <;> simp only [biF, reduceCtorEq] at h
    · split at h
      · rename_i s hl
        refine .inr (.inr ⟨s, by rw [repF_str hx], LIM_line hl, fun p hp => k.new_ (s.cps.toList.map fun c => .str ⟨#[c]⟩) _ p ?_ (reps_signs _) hp⟩)
        rw [← Option.some.inj h, List.map_map] <;> rfl
      · cases h
    · obtain ⟨b, us, rfl, h1, h2⟩ := hx.tup'
      exact .inl ⟨b, us, rfl, .inr (ex_t eG h1), fun l hl => k.new_ _ us l (Option.some.inj h).symm h2 hl⟩
    · obtain ⟨b, us, rfl, h1, h2⟩ := hx.lst eG
      exact .inl ⟨b, us, rfl, .inl (.inl h1), fun l hl => k.new_ _ us l (Option.some.inj h).symm h2 hl⟩
    · obtain ⟨b, us, rfl, h1, h4, h2⟩ := hx.dic eG
      rename_i ks vs
      refine .inr (.inl ⟨b, _, rfl, .inl h1, fun l hl => ?_⟩)
      rw [dic_keys h4]
      refine k.new_ (ks.map fun k => match k with | .inl i => D.int i | .inr s => D.str s) _ l ?_ (reps_keys ks) hl
      rw [← Option.some.inj h, List.map_map]
      refine congrArg (fun z => Res.frs (OD.lst z)) (List.map_congr_left fun kk _ => ?_)
      cases kk <;> rfl
  · cases x <;> simp only [biF, reduceCtorEq] at h
theorem ve_tuple (hm : X.mg "tuple" = none) (ha : VA C xa X (a :: es) cs) (hg : Gl X "tuple" := by rfl) (he : starEach (a :: es) X.env = (false, eval a X.env) :: starEach es X.env := by rfl) (hpl : (backTo pos (starEach es X.env)).any (·.1) = false := by rfl) :
    VE C xa X (.Call (.Name "tuple" p) (a :: es) [] pos) (.bi .tuple cs) := by
  refine ve_callTy call_tuple_of hm (by decide +kernel) (fun G H Q ds vs res h eG hd k => ?_) ha hg (by decide) (by decide) he hpl
  rcases ds with _ | ⟨x, _ | ⟨y, t⟩⟩
  · simp only [biF, reduceCtorEq] at h
  · obtain ⟨v, rfl, hx⟩ := repFs1' hd rfl
    cases x <;> simp only [biF, reduceCtorEq] at h
    · obtain ⟨b, us, rfl, h1, h2⟩ := hx.tup'
      exact ⟨b, us, rfl, .inr ⟨ex_t eG h1, k.val _ _ (Option.some.inj h).symm ⟨b, us, rfl, h1, h2⟩⟩⟩
    · obtain ⟨b, us, rfl, h1, h2⟩ := hx.lst eG
      exact ⟨b, us, rfl, .inl ⟨.inl h1, fun l hl => k.tup _ us l (Option.some.inj h).symm h2 hl⟩⟩
  · cases x <;> simp only [biF, reduceCtorEq] at h
theorem rep_ty {K : PySem.W.Frag} {H : Hp} {d : D} {v : V} (h : Rep K H d v) : ∃ t, t ∈ tys ∧ t = d.ty ∧ TyX K H v (.type t) := by
  cases d with
  | non => exact ⟨"NoneType", by decide, rfl, by rw [show v = .non from h]; exact .base .non⟩
  | bl b => exact ⟨"bool", by decide, rfl, by rw [show v = .bl b from h]; exact .base (.bl b)⟩
  | int b => exact ⟨"int", by decide, rfl, by rw [show v = .int b from h]; exact .base (.int b)⟩
  | str b => exact ⟨"str", by decide, rfl, by rw [show v = .str b from h]; exact .base (.str b)⟩
  | tup ds =>
    obtain ⟨a, vs, rfl, h1, h2⟩ := h
    refine ⟨"tuple", by decide, rfl, ?_⟩
    rcases h1 with (h1 | ⟨o, h1⟩) | ⟨o, its, n, h1, h3, _⟩
    · exact .base (.tup h1)
    · exact .fTuple h1
    · exact .kTuple h1 h3
  | lst ds =>
    obtain ⟨a, vs, rfl, h1, h2⟩ := h
    refine ⟨"list", by decide, rfl, ?_⟩
    rcases h1 with h1 | ⟨o, h1⟩
    · exact .base (.lst h1)
    · exact .base (.frz h1)
  | dic ks ds =>
    obtain ⟨a, vs, rfl, h1, h2⟩ := h
    exact ⟨"dict", by decide, rfl, .base (.dK h1)⟩
  | obj _ _ _ => exact h.elim
/-- isinstance(x, int) and the like -/
theorem ve_isi {ca : CE} {T : String} {x2 : Str} {q2 : Pos} (hT : T ∈ cls) (hm : X.mg "isinstance" = none) (hm2 : X.mg x2 = none) (hv2 : bootBuiltins x2 = some (.type T)) (ha : VE C xa X a ca) (hg2 : Gl X x2 := by rfl)
    (hg : Gl X "isinstance" := by rfl) (he : starEach [a, .Name x2 q2] X.env = (false, eval a X.env) :: starEach [.Name x2 q2] X.env := by rfl) (hpl : (backTo pos (starEach [.Name x2 q2] X.env)).any (·.1) = false := by rfl)
    (he2 : starEach [.Name x2 q2] X.env = (false, eval (.Name x2 q2) X.env) :: starEach [] X.env := by rfl) (hn : x2 ≠ "__name__" := by decide) (hd : (x2 == ("__debug__" : Str)) = false := by decide) :
    VE C xa X (.Call (.Name "isinstance" p) [a, .Name x2 q2] [] pos) (.bi (.isinst [T]) [ca]) := ⟨fun W tk =>
  pe_imp (pe_callB call_isi hg hm (by decide +kernel) (pa_cons (ha.pe W tk) (pa_cons (pe_bltn (v := .ty T) hg2 hm2 hv2 rfl hn hd) pa_nil he2) he) (by decide) (by decide) he hpl) fun σ H Q q => by
    obtain ⟨e, τ, F, G, r, q⟩ := q
    rw [ev.eq_def] at q
    have hn := r.len
    have q' : Post X.K X.mg xa F σ W G (QE X.K X.mg xa F (σ ++ τ) Q) ((opd (ev C ca e)).bind fun a e1 => lift (flatLs e1 [a]) fun (ds, e2) => lift (biF (.isinst [T]) ds) fun r => .ok r (e2.take e.length)) := by
      simp only [evs] at q
      cases z : opd (ev C ca e) with
      | ok a e1 => rw [z] at q; exact q
      | err x e1 => rw [z] at q; exact q
      | bad => rw [z] at q; exact q
    refine rd_opd r q' QE.mono fun a e1 v zs H1 G1 x1 r1 o1 q1 => ?_
    obtain ⟨⟨ds, e2⟩, z1, q2⟩ := Post.lift q1
    obtain ⟨res, z2, q3⟩ := Post.lift q2
    obtain ⟨G2, x2, r2, p2, l2⟩ := RS.flats [a] r1 (vs := [v]) ⟨v, [], rfl, o1, rfl⟩ z1
    obtain ⟨d, rfl, p3⟩ := repFs1 p2
    obtain ⟨t, ht, et, hty⟩ := rep_ty (p3.rep r2.gh)
    rw [← List.append_assoc] at r2
    refine ⟨v, .ty T, .type t, .type T, isOne t T, rfl, .ty T, hty, kit_ty (kit_tab t ht T hT), ?_⟩
    refine (kont_of (Post.mono QE.mono x2 q3) r2 hn).val (.bl (isOne t T)) _ ?_ rfl
    cases d <;> simp only [biF, reduceCtorEq] at z2 <;> (rw [← Option.some.inj z2, et]; simp [D.ty])⟩

/-! ### methods that change nothing -/
theorem tyV_str {K : PySem.W.Frag} {m : Mt} (hm : ∀ d, mtT m d = decide (d.ty = "str")) (H : Hp) (d : D) (x : V) (h : mtT m d = true) (r : Rep K H d x) : tyV K "str" x H := by
  rw [hm] at h
  have h' : d.ty = "str" := of_decide_eq_true h
  cases d with
  | str s =>
    rw [show x = .str s from r]
    exact rfl
  | _ => simp [D.ty] at h'
section
variable {o : Expr} {co : CE} {apos cpos : Pos}
/-- a method of a built-in type with arguments -/
theorem ve_bm {m : Mt} {T id : String} {name : Str} {r : V → List V → Hp → VK → Prop} (pa : PlainAttrs T) (slot : PySem.Slot T name id) (hty : typeOf (.builtin id) = pure (.type "method_descriptor")) (hm : MtR X id r)
    (ht : ∀ (H : Hp) (d : D) (x : V), mtT m d = true → Rep X.K H d x → tyV X.K T x H)
    (hr : ∀ (G H : Hp) (Q : V → Hp → Prop) (o : D) (ds : List D) (x : V) (vs : List V) (res : Res), mtF m o ds = some res → Ex G H → RepF X.K G H o x → RepFs X.K G H ds vs → Kont X.K G H Q res → r x vs H Q)
    (ho : VE C xa X o co) (ha : VA C xa X (a :: es) cs)
    (hbase : attributeBase o name X.env (eval o X.env) = eval o X.env := by rfl)
    (hfew : ((backTo cpos (starEach (a :: es) X.env)).all (fun x => !x.1) && (backToKw cpos (keywordEach [] X.env)).all (fun x => x.1.isSome)
      && decide ((a :: es).length + ([] : List Keyword).length + (if ([] : List Keyword).isEmpty then 0 else 1) < 30)) = true := by rfl)
    (hline : (apos.endLine == cpos.line) = true := by rfl) (hs : starEach (a :: es) X.env = (false, eval a X.env) :: starEach es X.env := by rfl) (hplain : (backTo cpos (starEach es X.env)).any (·.1) = false := by rfl) :
    VE C xa X (.Call (.Attribute o name apos) (a :: es) [] cpos) (.mt m co cs) := ⟨fun W tk => pe_imp (pe_bm pa slot hty hm (ho.pe W tk) (ha.pa W tk) hbase hfew hline hs hplain) fun σ H Q q => rd_mt ht hr q⟩
theorem mtF_two {m : Mt} {o : D} {ds : List D} {res : Res} (h : mtF m o ds = some res) (hm : m ≠ .get2) : ∃ x, ds = [x] := by
  rcases ds with _ | ⟨x, _ | ⟨y, t⟩⟩
  · cases m <;> cases o <;> simp only [mtF, reduceCtorEq] at h
  · exact ⟨x, rfl⟩
  · rcases t with _ | ⟨z, t⟩
    · cases m <;> first | exact absurd rfl hm | (cases o <;> cases x <;> simp only [mtF, reduceCtorEq] at h)
    · cases m <;> cases o <;> cases x <;> simp only [mtF, reduceCtorEq] at h
theorem ve_join (ho : VE C xa X o co) (ha : VA C xa X (a :: es) cs) (hbase : attributeBase o "join" X.env (eval o X.env) = eval o X.env := by rfl)
    (hfew : ((backTo cpos (starEach (a :: es) X.env)).all (fun x => !x.1) && (backToKw cpos (keywordEach [] X.env)).all (fun x => x.1.isSome)
      && decide ((a :: es).length + ([] : List Keyword).length + (if ([] : List Keyword).isEmpty then 0 else 1) < 30)) = true := by rfl)
    (hline : (apos.endLine == cpos.line) = true := by rfl) (hs : starEach (a :: es) X.env = (false, eval a X.env) :: starEach es X.env := by rfl) (hplain : (backTo cpos (starEach es X.env)).any (·.1) = false := by rfl) :
    VE C xa X (.Call (.Attribute o "join" apos) (a :: es) [] cpos) (.mt .join co cs) :=
  ve_bm PySem.F.plainAttrs_str PySem.F.slot_str_join PySem.F.type_str_join mt_join (tyV_str fun _ => rfl) (fun G H Q od ds x vs res h eG p q k => by
    obtain ⟨y, rfl⟩ := mtF_two h (by decide)
    obtain ⟨v, rfl, hy⟩ := repFs1' q rfl
    cases od <;> cases y <;> simp only [mtF, reduceCtorEq] at h
    rename_i s xs
    cases z : strsD xs with
    | none => simp only [z] at h; cases h
    | some ys =>
      simp only [z] at h
      split at h
      · rename_i hl
        obtain ⟨b, us, rfl, h1, h2⟩ := hy.lst eG
        refine ⟨s, b, ys, repF_str p, rfl, .inl (by rw [← strs_vals z h2]; exact .inl h1), ?_, k.val _ _ (Option.some.inj h).symm rfl⟩
        have := LIM_line hl
        rw [sizeLine_eq] at this
        rw [Nat.mul_comm]
        omega
      · cases h) ho ha hbase hfew hline hs hplain
theorem ve_find (ho : VE C xa X o co) (ha : VA C xa X (a :: es) cs) (hbase : attributeBase o "find" X.env (eval o X.env) = eval o X.env := by rfl)
    (hfew : ((backTo cpos (starEach (a :: es) X.env)).all (fun x => !x.1) && (backToKw cpos (keywordEach [] X.env)).all (fun x => x.1.isSome)
      && decide ((a :: es).length + ([] : List Keyword).length + (if ([] : List Keyword).isEmpty then 0 else 1) < 30)) = true := by rfl)
    (hline : (apos.endLine == cpos.line) = true := by rfl) (hs : starEach (a :: es) X.env = (false, eval a X.env) :: starEach es X.env := by rfl) (hplain : (backTo cpos (starEach es X.env)).any (·.1) = false := by rfl) :
    VE C xa X (.Call (.Attribute o "find" apos) (a :: es) [] cpos) (.mt .find co cs) :=
  ve_bm PySem.F.plainAttrs_str PySem.F.slot_str_find PySem.F.type_str_find mt_find (tyV_str fun _ => rfl) (fun G H Q od ds x vs res h eG p q k => by
    obtain ⟨y, rfl⟩ := mtF_two h (by decide)
    obtain ⟨v, rfl, hy⟩ := repFs1' q rfl
    cases od <;> cases y <;> simp only [mtF, reduceCtorEq] at h
    exact ⟨_, _, repF_str p, by rw [repF_str hy], k.val _ _ (Option.some.inj h).symm rfl⟩) ho ha hbase hfew hline hs hplain
end
end
end PV
end

section
set_option Elab.async false
set_option linter.all false
set_option maxRecDepth 100000
set_option maxHeartbeats 4000000
/-! PV11: methods that change their object -/
namespace PV
open PySem PySem.Spec PyProof.Rows L2
section
variable {C : Ctx} {xa : XA} {K : PySem.W.Frag} {mg : Str → Option Value} {F G H : Hp} {e : Env} {σ : L2.St} {τ xs : List (Option V)} {W : WX} {Q : V → Hp → Prop}
theorem treeAt_own {e : Env} {i : Nat} {t : OD} (h : treeAt e i = some t) : ∃ p, slotAt e i = .own t p := by
  unfold treeAt at h
  cases q : slotAt e i with
  | own o p => rw [q] at h; cases h; exact ⟨p, rfl⟩
  | non => rw [q] at h; cases h
  | fro d p => rw [q] at h; cases h
  | exc c ns ds => rw [q] at h; cases h
theorem putAt_own {e : Env} {i : Nat} {t t' : OD} {p : Option Nat} (h : slotAt e i = .own t p) : putAt e i t' = e.set i (.own t' p) := by
  unfold putAt
  rw [h]
theorem rd_mu {m : Mu} {co : CE} {cs : List CE} {tyc : V → Hp → Prop} {r2 : V → List V → Hp → VK → Prop}
    (hty : ∀ (H G : Hp) (t : OD) (x : V) (fo : List Addr), muT m t = true → OwnR K H G t x fo → tyc x H)
    (hr : ∀ (F G H : Hp) (e2 : Env) (ys : List (Option V)) (os : List OD) (vs : List V) (i : Nat) (p : Option Nat) (t t' : OD) (v : V) (res : Res) (Q : V → Hp → Prop) (P : Prop), RS K mg xa F G (e2 ++ os.map fun o => .own o none) (ys ++ vs.map some) H → e2.length = ys.length → os.length = vs.length →
      slotAt e2 i = .own t p → ys[i]? = some (some v) → muF m t os = some (res, t') →
      (∀ H' d u, res = .at_ (.val d) → RS K mg xa F G (e2.set i (.own t' p)) ys H' → Rep K G d u → Q u H') → r2 v vs H Q) (h : rdE C xa K mg (.mu m co cs) W σ H Q) :
    rdE C xa K mg co W σ H fun x H1 => tyc x H1 ∧ rdA C xa K mg cs W σ H1 fun vs H2 => r2 x vs H2 Q := by
  obtain ⟨e, τ, F, G, r, q⟩ := h
  rw [ev.eq_def] at q
  have hn := r.len
  refine rd_bind r q QE.mono (fun a e1 v H1 G1 x1 r1 o1 q1 => ?_) (fun o e1 v H1 G1 x1 r1 q1 => q1.elim)
  cases a with
  | val d => exact q1.elim
  | pl i =>
    obtain ⟨t0, z0, q2⟩ := Post.lift q1
    obtain ⟨p0, s0⟩ := treeAt_own z0
    by_cases hm : muT m t0 = true
    · rw [if_pos hm] at q2
      obtain ⟨_, fo, fp, ow, _⟩ := r1.tree s0 o1
      refine ⟨hty H1 G1 t0 v fo hm ow, ?_⟩
      refine rd_args r1 q2 QE.mono fun as e2 vs zs H2 G2 x2 r2' o2 q3 => ?_
      obtain ⟨⟨os, e3⟩, z1, q4⟩ := Post.lift q3
      obtain ⟨t, z2, q5⟩ := Post.lift q4
      obtain ⟨⟨res, t'⟩, z3, q6⟩ := Post.lift q5
      obtain ⟨p, s2⟩ := treeAt_own z2
      have r2'' : RS K mg xa F G2 (e2 ++ []) (σ ++ (τ ++ zs) ++ []) H2 := by rw [List.append_nil, List.append_nil]; exact r2'
      obtain ⟨G3, x3, r3, l3⟩ := RS.takes as r2'' r2'.len o2 z1
      rw [List.nil_append, List.nil_append] at r3
      have i1 : (σ ++ (τ ++ zs))[i]? = some (some v) := by
        have := o1
        have h1 : (σ ++ τ)[i]? = some (some v) := o1
        rw [← List.append_assoc, List.getElem?_append_left (List.getElem?_eq_some_iff.mp h1).1]
        exact h1
      have hlen : os.length = vs.length := by
        have h1 := r3.len
        have h2 := r2'.len
        simp only [List.length_append, List.length_map] at h1 h2
        omega
      refine hr F G3 H2 e3 (σ ++ (τ ++ zs)) os vs i p t t' v res Q True r3 (l3.trans r2'.len) hlen s2 i1 z3 fun H' d u hres r4 hu => ?_
      subst hres
      have q7 : Post K mg xa F σ W G3 (QE K mg xa F (σ ++ τ) Q) (.ok (.at_ (.val d)) ((putAt e3 i t').take e.length)) := Post.mono QE.mono x3 q6
      rw [putAt_own s2] at q7
      rw [← List.append_assoc] at r4
      exact fin_val q7 r4 hn hu
    · rw [if_neg hm] at q2
      exact q2.elim
theorem tyV_list {m : Mu} (hm : ∀ t, muT m t = true → ∃ xs, t = .lst xs) (H G : Hp) (t : OD) (x : V) (fo : List Addr) (h : muT m t = true) (o : OwnR K H G t x fo) : tyV K "list" x H := by
  obtain ⟨xs, rfl⟩ := hm t h
  obtain ⟨a, vs, fp, rfl, rfl, h1, h2⟩ := o
  exact .inl ⟨rfl, vs, SqL.of h1⟩
theorem muT_lst {t : OD} (h : muT .append t = true) : ∃ xs, t = .lst xs := by
  cases t with
  | lst xs => exact ⟨xs, rfl⟩
  | _ => cases h
/-- the state behind the slots, read -/
theorem RS.tail1 {e2 : Env} {ys : List (Option V)} {os : List OD} {vs : List V} (r : RS K mg xa F G (e2 ++ os.map fun o => .own o none) (ys ++ vs.map some) H) (hl : e2.length = ys.length) : ∃ fx, OwnRs K H G os vs fx := by
  obtain ⟨fp, h, nd, ap⟩ := r.own
  obtain ⟨f1, f2, e0, a, b⟩ := h.split e2.length
  rw [List.drop_left, hl, List.drop_left] at b
  exact ⟨f2, slotsR_owns b⟩
theorem owns1 {o : OD} {vs : List V} {fx : List Addr} (h : OwnRs K H G [o] vs fx) : ∃ v, vs = [v] ∧ OwnR K H G o v fx := by
  obtain ⟨v, r, f1, f2, rfl, rfl, h1, h2, h3⟩ := h
  subst h2
  exact ⟨v, rfl, by rw [h3, List.append_nil]; exact h1⟩
theorem owns2 {o o2 : OD} {vs : List V} {fx : List Addr} (h : OwnRs K H G [o, o2] vs fx) : ∃ v w f1 f2, vs = [v, w] ∧ fx = f1 ++ f2 ∧ OwnR K H G o v f1 ∧ OwnR K H G o2 w f2 := by
  obtain ⟨v, r, f1, f2, rfl, rfl, h1, h2⟩ := h
  obtain ⟨w, rfl, h3⟩ := owns1 h2
  exact ⟨v, w, f1, f2, rfl, rfl, h1, h3⟩
theorem OwnRs.app {os os2 : List OD} : ∀ {vs ws : List V} {f1 f2 : List Addr}, OwnRs K H G os vs f1 → OwnRs K H G os2 ws f2 → OwnRs K H G (os ++ os2) (vs ++ ws) (f1 ++ f2) := by
  induction os with
  | nil =>
    intro vs ws f1 f2 h1 h2
    rw [h1.1, h1.2]
    exact h2
  | cons o os ih =>
    intro vs ws f1 f2 h1 h2
    obtain ⟨v, r, g1, g2, rfl, rfl, h3, h4⟩ := h1
    exact ⟨v, r ++ ws, g1, g2 ++ f2, rfl, by rw [List.append_assoc], h3, ih h4 h2⟩
theorem OwnRs.get {os : List OD} : ∀ {vs : List V} {fp : List Addr} {i : Nat} {d : D}, OwnRs K H G os vs fp → os[i]? = some (.fro d) → ∃ v, vs[i]? = some v ∧ Rep K G d v := by
  induction os with
  | nil =>
    intro vs fp i d h q
    simp at q
  | cons o os ih =>
    intro vs fp i d h q
    obtain ⟨v, r, g1, g2, rfl, rfl, h3, h4⟩ := h
    cases i with
    | zero =>
      simp at q
      subst q
      exact ⟨v, rfl, h3.2⟩
    | succ i =>
      obtain ⟨w, h5, h6⟩ := ih (i := i) h4 (by simpa using q)
      exact ⟨w, by simpa using h5, h6⟩
theorem OwnRs.takeF {os : List OD} : ∀ {vs : List V} {fp : List Addr} (n : Nat), OwnRs K H G os vs fp → ∃ f1 f2, fp = f1 ++ f2 ∧ OwnRs K H G (os.take n) (vs.take n) f1 ∧ OwnRs K H G (os.drop n) (vs.drop n) f2 := by
  induction os with
  | nil =>
    intro vs fp n h
    rw [h.1, h.2]
    exact ⟨[], [], rfl, by simp; exact ⟨rfl, rfl⟩, by simp; exact ⟨rfl, rfl⟩⟩
  | cons o os ih =>
    intro vs fp n h
    cases n with
    | zero => exact ⟨[], fp, rfl, ⟨rfl, rfl⟩, h⟩
    | succ n =>
      obtain ⟨v, r, g1, g2, rfl, rfl, h3, h4⟩ := h
      obtain ⟨k1, k2, e1, h5, h6⟩ := ih n h4
      exact ⟨g1 ++ k1, k2, by rw [e1, List.append_assoc], ⟨v, r.take n, g1, k1, rfl, rfl, h3, h5⟩, h6⟩
theorem OwnRs.erase {os : List OD} {vs : List V} {fp : List Addr} {k : Nat} {d : D} (h : OwnRs K H G os vs fp) (q : os[k]? = some (.fro d)) : OwnRs K H G (os.eraseIdx k) (vs.eraseIdx k) fp := by
  induction os generalizing vs fp k with
  | nil => simp at q
  | cons o os ih =>
    obtain ⟨v, r, g1, g2, rfl, rfl, h3, h4⟩ := h
    cases k with
    | zero =>
      simp at q
      subst q
      rw [h3.1]
      exact h4
    | succ k => exact ⟨v, r.eraseIdx k, g1, g2, rfl, rfl, h3, ih h4 (by simpa using q)⟩
/-- a tree's items over a changed root -/
theorem own_root {os : List OD} {vs us : List V} {fp : List Addr} {a : Addr} (h : OwnRs K H G os us fp) (ha : a ∉ fp) : OwnR K (upd H a (.lst us)) G (.lst os) (.ref a) (a :: fp) :=
  ⟨a, us, fp, rfl, rfl, upd_same, OwnRs.mono K (Ex.refl _) _ _ _ (fun b hb => upd_ne fun z => ha (z ▸ hb)) h⟩
end
section
variable {C : Ctx} {xa : XA} {X : Cx} {es : List Expr} {cs : List CE} {p apos cpos : Pos} {a o : Expr} {co : CE}
theorem ve_mu {m : Mu} {T id : String} {name : Str} {r : V → List V → Hp → VK → Prop} (pa : PlainAttrs T) (slot : PySem.Slot T name id) (hty : typeOf (.builtin id) = pure (.type "method_descriptor")) (hm : MtR X id r)
    (ht : ∀ (H G : Hp) (t : OD) (x : V) (fo : List Addr), muT m t = true → OwnR X.K H G t x fo → tyV X.K T x H)
    (hr : ∀ (F G H : Hp) (e2 : Env) (ys : List (Option V)) (os : List OD) (vs : List V) (i : Nat) (p : Option Nat) (t t' : OD) (v : V) (res : Res) (Q : V → Hp → Prop) (P : Prop), RS X.K X.mg xa F G (e2 ++ os.map fun o => .own o none) (ys ++ vs.map some) H → e2.length = ys.length → os.length = vs.length →
      slotAt e2 i = .own t p → ys[i]? = some (some v) → muF m t os = some (res, t') →
      (∀ H' d u, res = .at_ (.val d) → RS X.K X.mg xa F G (e2.set i (.own t' p)) ys H' → Rep X.K G d u → Q u H') → r v vs H Q)
    (ho : VE C xa X o co) (ha : VA C xa X (a :: es) cs)
    (hbase : attributeBase o name X.env (eval o X.env) = eval o X.env := by rfl)
    (hfew : ((backTo cpos (starEach (a :: es) X.env)).all (fun x => !x.1) && (backToKw cpos (keywordEach [] X.env)).all (fun x => x.1.isSome)
      && decide ((a :: es).length + ([] : List Keyword).length + (if ([] : List Keyword).isEmpty then 0 else 1) < 30)) = true := by rfl)
    (hline : (apos.endLine == cpos.line) = true := by rfl) (hs : starEach (a :: es) X.env = (false, eval a X.env) :: starEach es X.env := by rfl) (hplain : (backTo cpos (starEach es X.env)).any (·.1) = false := by rfl) :
    VE C xa X (.Call (.Attribute o name apos) (a :: es) [] cpos) (.mu m co cs) := ⟨fun W tk => pe_imp (pe_bm pa slot hty hm (ho.pe W tk) (ha.pa W tk) hbase hfew hline hs hplain) fun σ H Q q => rd_mu ht hr q⟩
theorem mr_append (F G H : Hp) (e2 : Env) (ys : List (Option V)) (os : List OD) (vs : List V) (i : Nat) (p : Option Nat) (t t' : OD) (v : V) (res : Res) (Q : V → Hp → Prop) (P : Prop) (r : RS X.K X.mg xa F G (e2 ++ os.map fun o => .own o none) (ys ++ vs.map some) H) (hl : e2.length = ys.length) (hv : os.length = vs.length)
    (s : slotAt e2 i = .own t p) (hi : ys[i]? = some (some v)) (h : muF .append t os = some (res, t')) (k : ∀ H' d u, res = .at_ (.val d) → RS X.K X.mg xa F G (e2.set i (.own t' p)) ys H' → Rep X.K G d u → Q u H') : rAppend v vs H Q := by
  cases t with
  | lst xs =>
    rcases os with _ | ⟨x, _ | ⟨y, z⟩⟩
    · simp only [muF, reduceCtorEq] at h
    · simp only [muF] at h
      split at h
      · rename_i hlim
        obtain ⟨h1, h2⟩ := Prod.mk.inj (Option.some.inj h)
        subst h1 h2
        have i2 : (ys ++ vs.map some)[i]? = some (some v) := by rw [List.getElem?_append_left (List.getElem?_eq_some_iff.mp hi).1]; exact hi
        have s2 : slotAt (e2 ++ [x].map fun o => .own o none) i = .own (.lst xs) p := by rw [slotAt_app (lt_own s)]; exact s
        obtain ⟨_, fo, fp, ⟨l, us, fp', rfl, rfl, hH, how⟩, _⟩ := r.tree s2 i2
        obtain ⟨fx, hx⟩ := r.tail1 hl
        obtain ⟨w, rfl, _⟩ := owns1 hx
        refine ⟨l, us, w, rfl, rfl, hH, LIM_lt (by rw [← how.len]; exact hlim), k _ .non .non rfl ?_ rfl⟩
        refine r.absorb hl s hi fun fo fx ht hx nd => ?_
        obtain ⟨l', us', f1, e1, rfl, hH', hT⟩ := ht
        cases e1
        rw [hH] at hH'
        cases hH'
        obtain ⟨w', e2, hX⟩ := owns1 hx
        cases e2
        refine ⟨List.mem_cons_self, l :: (f1 ++ fx), own_root (vs := us) (hT.app ⟨w, [], fx, [], rfl, by simp, hX, rfl, rfl⟩ : OwnRs X.K H G (xs ++ [x]) (us ++ [w]) (f1 ++ fx)) (List.nodup_cons.mp nd).1, nd, fun b hb => hb⟩
      · cases h
    · simp only [muF, reduceCtorEq] at h
  | _ => simp only [muF, reduceCtorEq] at h
theorem ve_append (ho : VE C xa X o co) (ha : VA C xa X (a :: es) cs)
    (hbase : attributeBase o "append" X.env (eval o X.env) = eval o X.env := by rfl)
    (hfew : ((backTo cpos (starEach (a :: es) X.env)).all (fun x => !x.1) && (backToKw cpos (keywordEach [] X.env)).all (fun x => x.1.isSome)
      && decide ((a :: es).length + ([] : List Keyword).length + (if ([] : List Keyword).isEmpty then 0 else 1) < 30)) = true := by rfl)
    (hline : (apos.endLine == cpos.line) = true := by rfl) (hs : starEach (a :: es) X.env = (false, eval a X.env) :: starEach es X.env := by rfl) (hplain : (backTo cpos (starEach es X.env)).any (·.1) = false := by rfl) :
    VE C xa X (.Call (.Attribute o "append" apos) (a :: es) [] cpos) (.mu .append co cs) :=
  ve_mu PySem.F.plainAttrs_list PySem.F.slot_list_append PySem.F.type_list_append mt_append (tyV_list fun t h => muT_lst h) mr_append ho ha hbase hfew hline hs hplain
theorem muT_of {m : Mu} {t : OD} (hm : m ≠ .dpop1 ∧ m ≠ .dpop2) (h : muT m t = true) : ∃ xs, t = .lst xs := by
  cases t with
  | lst xs => exact ⟨xs, rfl⟩
  | fro d => cases m <;> first | cases h | exact absurd rfl hm.1 | exact absurd rfl hm.2
  | dic ks vs => cases m <;> first | exact absurd rfl hm.1 | exact absurd rfl hm.2 | cases h
theorem mr_popAt (F G H : Hp) (e2 : Env) (ys : List (Option V)) (os : List OD) (vs : List V) (i : Nat) (p : Option Nat) (t t' : OD) (v : V) (res : Res) (Q : V → Hp → Prop) (P : Prop) (r : RS X.K X.mg xa F G (e2 ++ os.map fun o => .own o none) (ys ++ vs.map some) H) (hl : e2.length = ys.length) (hv : os.length = vs.length)
    (s : slotAt e2 i = .own t p) (hi : ys[i]? = some (some v)) (h : muF .popAt t os = some (res, t')) (k : ∀ H' d u, res = .at_ (.val d) → RS X.K X.mg xa F G (e2.set i (.own t' p)) ys H' → Rep X.K G d u → Q u H') : rPopAt v vs H Q := by
  cases t with
  | lst xs =>
    have i2 : (ys ++ vs.map some)[i]? = some (some v) := by rw [List.getElem?_append_left (List.getElem?_eq_some_iff.mp hi).1]; exact hi
    have s2 : slotAt (e2 ++ os.map fun o => .own o none) i = .own (.lst xs) p := by rw [slotAt_app (lt_own s)]; exact s
    obtain ⟨_, fo, fp, ⟨l, us, fp', rfl, rfl, hH, how⟩, _⟩ := r.tree s2 i2
    obtain ⟨fx, hx⟩ := r.tail1 hl
    rcases os with _ | ⟨x, _ | ⟨y, z⟩⟩
    · simp only [muF, reduceCtorEq] at h
    · obtain ⟨w, rfl, hw⟩ := owns1 hx
      cases x with
      | fro d =>
        cases d with
        | int j =>
          simp only [muF] at h
          split at h
          · rename_i hb
            cases z1 : seqIndex? j xs.length with
            | none => simp only [z1] at h; cases h
            | some kk =>
              simp only [z1] at h
              cases z2 : xs[kk]? with
              | none => simp only [z2] at h; cases h
              | some od =>
                cases od with
                | fro d =>
                  simp only [z2] at h
                  obtain ⟨h1, h2⟩ := Prod.mk.inj (Option.some.inj h)
                  subst h1 h2
                  obtain ⟨u, hu1, hu2⟩ := how.get z2
                  refine ⟨l, us, j, kk, u, rfl, by rw [hw.2], hH, hb.1, (by have := hb.2; omega), by rw [← how.len]; exact z1, hu1, k _ d u rfl ?_ hu2⟩
                  refine r.absorb hl s hi fun fo fx ht hx nd => ?_
                  obtain ⟨l', us', f1, e1, rfl, hH', hT⟩ := ht
                  cases e1
                  rw [hH] at hH'
                  cases hH'
                  have n1 := (List.nodup_append.mp nd).1
                  exact ⟨List.mem_cons_self, l :: f1, own_root (vs := us) (hT.erase z2) (List.nodup_cons.mp n1).1, n1, fun b hb => List.mem_append_left _ hb⟩
                | lst _ => simp only [z2] at h; cases h
                | dic _ _ => simp only [z2] at h; cases h
          · cases h
        | _ => simp only [muF, reduceCtorEq] at h
      | lst _ => simp only [muF, reduceCtorEq] at h
      | dic _ _ => simp only [muF, reduceCtorEq] at h
    · rcases z with _ | ⟨z1, z2⟩ <;> (cases x <;> first | (simp only [muF, reduceCtorEq] at h) | (rename_i d; cases d <;> simp only [muF, reduceCtorEq] at h))
  | _ => simp only [muF, reduceCtorEq] at h
theorem ve_popAt (ho : VE C xa X o co) (ha : VA C xa X (a :: es) cs)
    (hbase : attributeBase o "pop" X.env (eval o X.env) = eval o X.env := by rfl)
    (hfew : ((backTo cpos (starEach (a :: es) X.env)).all (fun x => !x.1) && (backToKw cpos (keywordEach [] X.env)).all (fun x => x.1.isSome)
      && decide ((a :: es).length + ([] : List Keyword).length + (if ([] : List Keyword).isEmpty then 0 else 1) < 30)) = true := by rfl)
    (hline : (apos.endLine == cpos.line) = true := by rfl) (hs : starEach (a :: es) X.env = (false, eval a X.env) :: starEach es X.env := by rfl) (hplain : (backTo cpos (starEach es X.env)).any (·.1) = false := by rfl) :
    VE C xa X (.Call (.Attribute o "pop" apos) (a :: es) [] cpos) (.mu .popAt co cs) :=
  ve_mu PySem.F.plainAttrs_list PySem.F.slot_list_pop PySem.F.type_list_pop mt_popAt (tyV_list fun t h => muT_of ⟨by decide, by decide⟩ h) mr_popAt ho ha hbase hfew hline hs hplain
theorem mr_insert (F G H : Hp) (e2 : Env) (ys : List (Option V)) (os : List OD) (vs : List V) (i : Nat) (p : Option Nat) (t t' : OD) (v : V) (res : Res) (Q : V → Hp → Prop) (P : Prop) (r : RS X.K X.mg xa F G (e2 ++ os.map fun o => .own o none) (ys ++ vs.map some) H) (hl : e2.length = ys.length) (hv : os.length = vs.length)
    (s : slotAt e2 i = .own t p) (hi : ys[i]? = some (some v)) (h : muF .insert t os = some (res, t')) (k : ∀ H' d u, res = .at_ (.val d) → RS X.K X.mg xa F G (e2.set i (.own t' p)) ys H' → Rep X.K G d u → Q u H') : (∃ (l : Addr) (xs : List V) (i : Int) (y : V), v = .ref l ∧ vs = [.int i, y] ∧ H l = some (.lst xs) ∧ xs.length < sizeLine ∧ 0 ≤ i ∧ i < 2 ^ 63 ∧
    Q .non (upd H l (.lst (xs.take i.toNat ++ [y] ++ xs.drop i.toNat)))) := by
  cases t with
  | lst xs =>
    have i2 : (ys ++ vs.map some)[i]? = some (some v) := by rw [List.getElem?_append_left (List.getElem?_eq_some_iff.mp hi).1]; exact hi
    have s2 : slotAt (e2 ++ os.map fun o => .own o none) i = .own (.lst xs) p := by rw [slotAt_app (lt_own s)]; exact s
    obtain ⟨_, fo, fp, ⟨l, us, fp', rfl, rfl, hH, how⟩, _⟩ := r.tree s2 i2
    obtain ⟨fx, hx⟩ := r.tail1 hl
    rcases os with _ | ⟨x, _ | ⟨y, _ | ⟨z1, z2⟩⟩⟩
    · simp only [muF, reduceCtorEq] at h
    · cases x <;> first | (simp only [muF, reduceCtorEq] at h) | (rename_i d; cases d <;> simp only [muF, reduceCtorEq] at h)
    · obtain ⟨w, w2, g1, g2, rfl, e1, hw, hw2⟩ := owns2 hx
      cases x with
      | fro d =>
        cases d with
        | int j =>
          simp only [muF] at h
          split at h
          · rename_i hb
            obtain ⟨h1, h2⟩ := Prod.mk.inj (Option.some.inj h)
            subst h1 h2
            have hl2 : us.length < sizeLine := LIM_lt (by rw [← how.len]; exact hb.1)
            refine ⟨l, us, j, w2, rfl, by rw [hw.2], hH, hl2, hb.2.1, ?_, k _ .non .non rfl ?_ rfl⟩
            · rw [sizeLine_eq, ← how.len] at hl2
              omega
            · refine r.absorb hl s hi fun fo fx ht hx nd => ?_
              obtain ⟨l', us', f1, e1, rfl, hH', hT⟩ := ht
              cases e1
              rw [hH] at hH'
              cases hH'
              obtain ⟨w', w2', k1, k2, e2, rfl, hX, hY⟩ := owns2 hx
              cases e2
              rw [hX.1, List.nil_append] at nd ⊢
              obtain ⟨t1, t2, rfl, hA, hB⟩ := hT.takeF j.toNat
              have hN : OwnRs X.K H G (xs.take j.toNat ++ y :: xs.drop j.toNat) (us.take j.toNat ++ [w2] ++ us.drop j.toNat) (t1 ++ (k2 ++ t2)) := by
                rw [List.append_assoc]
                exact hA.app ⟨w2, us.drop j.toNat, k2, t2, rfl, rfl, hY, hB⟩
              have nd' : (l :: (t1 ++ (k2 ++ t2))).Nodup := by
                have p1 : (l :: (t1 ++ t2) ++ k2).Perm (l :: (t1 ++ (k2 ++ t2))) := by
                  rw [List.cons_append]
                  refine List.Perm.cons _ ?_
                  rw [List.append_assoc]
                  exact List.Perm.append_left _ List.perm_append_comm
                exact p1.nodup_iff.mp nd
              refine ⟨List.mem_cons_self, l :: (t1 ++ (k2 ++ t2)), own_root (vs := us) hN (List.nodup_cons.mp nd').1, nd', fun b hb => ?_⟩
              rcases List.mem_cons.mp hb with q | q
              · rw [q]
                exact List.mem_append_left _ List.mem_cons_self
              · rcases List.mem_append.mp q with q | q
                · exact List.mem_append_left _ (List.mem_cons_of_mem _ (List.mem_append_left _ q))
                · rcases List.mem_append.mp q with q | q
                  · exact List.mem_append_right _ q
                  · exact List.mem_append_left _ (List.mem_cons_of_mem _ (List.mem_append_right _ q))
          · cases h
        | _ => simp only [muF, reduceCtorEq] at h
      | lst _ => simp only [muF, reduceCtorEq] at h
      | dic _ _ => simp only [muF, reduceCtorEq] at h
    · cases x <;> first | (simp only [muF, reduceCtorEq] at h) | (rename_i d; cases d <;> simp only [muF, reduceCtorEq] at h)
  | _ => simp only [muF, reduceCtorEq] at h
theorem ve_insert (ho : VE C xa X o co) (ha : VA C xa X (a :: es) cs)
    (hbase : attributeBase o "insert" X.env (eval o X.env) = eval o X.env := by rfl)
    (hfew : ((backTo cpos (starEach (a :: es) X.env)).all (fun x => !x.1) && (backToKw cpos (keywordEach [] X.env)).all (fun x => x.1.isSome)
      && decide ((a :: es).length + ([] : List Keyword).length + (if ([] : List Keyword).isEmpty then 0 else 1) < 30)) = true := by rfl)
    (hline : (apos.endLine == cpos.line) = true := by rfl) (hs : starEach (a :: es) X.env = (false, eval a X.env) :: starEach es X.env := by rfl) (hplain : (backTo cpos (starEach es X.env)).any (·.1) = false := by rfl) :
    VE C xa X (.Call (.Attribute o "insert" apos) (a :: es) [] cpos) (.mu .insert co cs) :=
  ve_mu PySem.F.plainAttrs_list PySem.F.slot_list_insert PySem.F.type_list_insert mt_insert (tyV_list fun t h => muT_of ⟨by decide, by decide⟩ h) mr_insert ho ha hbase hfew hline hs hplain
def rExt' : V → List V → Hp → VK → Prop := fun x vs H Q => ∃ l b xs zs, x = .ref l ∧ vs = [.ref b] ∧ H l = some (.lst xs) ∧ Rd H b (.lst zs) ∧ xs.length + zs.length ≤ sizeLine ∧ Q .non (upd H l (.lst (xs ++ zs)))
theorem mt_ext' : MtR X "list.extend" rExt' := fun pins s σ H x vs v us Q I rx rv h => by
  obtain ⟨l, b, xs, zs, rfl, rfl, hH, hB, hz, q⟩ := h
  cases rx
  obtain ⟨u, rfl, ru⟩ := rv.one
  cases ru
  obtain ⟨z, its, n, r, hl, g⟩ := I.lstM hH
  obtain ⟨z2, its2, n2, r2, hl2, g2⟩ := rd_lst I hB
  have c1 : its.toArray.size + its2.toArray.size ≤ sizeLine := by simp only [List.size_toArray]; omega
  have c2 : ¬ (!its.toArray.isEmpty && Builtin.List.listTooLong (its.toArray.size + its2.toArray.size)) = true := by
    rw [notLongL c1, Bool.and_false]
    decide
  refine call_meets F.slot_list_extend ⟨_, g, rfl⟩ F.entry_list_extend (F.args_list_extend_2 _ _)
    (AutoSeq1.list_extend_list_list_0 l its.toArray n b its2.toArray n2 c2 (by simp only [List.size_toArray]; omega) (by omega)) ⟨g, g2, ?_⟩
  exact ⟨V.non, _, I.lset (its' := its ++ its2) hH g (by simp) (r.append r2) (by simp only [List.length_append]; omega), rfl, q⟩
theorem mr_extend (F G H : Hp) (e2 : Env) (ys : List (Option V)) (os : List OD) (vs : List V) (i : Nat) (p : Option Nat) (t t' : OD) (v : V) (res : Res) (Q : V → Hp → Prop) (P : Prop) (r : RS X.K X.mg xa F G (e2 ++ os.map fun o => .own o none) (ys ++ vs.map some) H) (hl : e2.length = ys.length) (hv : os.length = vs.length)
    (s : slotAt e2 i = .own t p) (hi : ys[i]? = some (some v)) (h : muF .extend t os = some (res, t')) (k : ∀ H' d u, res = .at_ (.val d) → RS X.K X.mg xa F G (e2.set i (.own t' p)) ys H' → Rep X.K G d u → Q u H') : rExt' v vs H Q := by
  cases t with
  | lst xs =>
    have i2 : (ys ++ vs.map some)[i]? = some (some v) := by rw [List.getElem?_append_left (List.getElem?_eq_some_iff.mp hi).1]; exact hi
    have s2 : slotAt (e2 ++ os.map fun o => .own o none) i = .own (.lst xs) p := by rw [slotAt_app (lt_own s)]; exact s
    obtain ⟨_, fo, fp, ⟨l, us, fp', rfl, rfl, hH, how⟩, _⟩ := r.tree s2 i2
    obtain ⟨fx, hx⟩ := r.tail1 hl
    rcases os with _ | ⟨x, _ | ⟨y, z⟩⟩
    · simp only [muF, reduceCtorEq] at h
    · obtain ⟨w, rfl, hw⟩ := owns1 hx
      have fin : ∀ (zs : List D) (b : Addr) (ws : List V), w = .ref b → Rd H b (.lst ws) → Reps X.K G zs ws → xs.length + zs.length ≤ LIM → res = .at_ (.val .non) → t' = .lst (xs ++ zs.map .fro) → rExt' (.ref l) [w] H Q := by
        intro zs b ws hwb hb hr hlim e1 e2
        subst e1 e2 hwb
        refine ⟨l, b, us, ws, rfl, rfl, hH, hb, LIM_line (by rw [← how.len, ← hr.len]; exact hlim), k _ .non .non rfl ?_ rfl⟩
        refine r.absorb hl s hi fun fo fx ht hx nd => ?_
        obtain ⟨l', us', f1, e1, rfl, hH', hT⟩ := ht
        cases e1
        rw [hH] at hH'
        cases hH'
        have n1 := (List.nodup_append.mp nd).1
        have hN := hT.app (OwnRs.fro (H := H) X.K hr)
        rw [List.append_nil] at hN
        exact ⟨List.mem_cons_self, l :: f1, own_root (vs := us) hN (List.nodup_cons.mp n1).1, n1, fun b hb => List.mem_append_left _ hb⟩
      cases x with
      | fro d =>
        cases d with
        | lst zs =>
          simp only [muF] at h
          split at h
          · rename_i hlim
            obtain ⟨h1, h2⟩ := Prod.mk.inj (Option.some.inj h)
            obtain ⟨b, ws, hwb, hb, hr⟩ := hw.2
            exact fin zs b ws hwb (ex_rd r.gh hb) hr hlim h1.symm h2.symm
          · cases h
        | _ => simp only [muF, reduceCtorEq] at h
      | lst zs =>
        simp only [muF] at h
        split at h
        · rename_i hlim
          cases z1 : flats zs with
          | none => rw [z1] at h; cases h
          | some ds =>
            rw [z1] at h
            obtain ⟨h1, h2⟩ := Prod.mk.inj (Option.some.inj h)
            obtain ⟨b, ws, fp'', hwb, e2, hb, hr⟩ := hw
            have hfl := (OwnRs.flats X.K z1 hr).1
            exact fin ds b ws hwb (.inl hb) hfl (by rw [hfl.len, ← hr.len]; exact hlim) h1.symm h2.symm
        · cases h
      | dic _ _ => simp only [muF, reduceCtorEq] at h
    · cases x <;> first | (simp only [muF, reduceCtorEq] at h) | (rename_i d; cases d <;> simp only [muF, reduceCtorEq] at h)
  | _ => simp only [muF, reduceCtorEq] at h
theorem ve_extend (ho : VE C xa X o co) (ha : VA C xa X (a :: es) cs)
    (hbase : attributeBase o "extend" X.env (eval o X.env) = eval o X.env := by rfl)
    (hfew : ((backTo cpos (starEach (a :: es) X.env)).all (fun x => !x.1) && (backToKw cpos (keywordEach [] X.env)).all (fun x => x.1.isSome)
      && decide ((a :: es).length + ([] : List Keyword).length + (if ([] : List Keyword).isEmpty then 0 else 1) < 30)) = true := by rfl)
    (hline : (apos.endLine == cpos.line) = true := by rfl) (hs : starEach (a :: es) X.env = (false, eval a X.env) :: starEach es X.env := by rfl) (hplain : (backTo cpos (starEach es X.env)).any (·.1) = false := by rfl) :
    VE C xa X (.Call (.Attribute o "extend" apos) (a :: es) [] cpos) (.mu .extend co cs) :=
  ve_mu PySem.F.plainAttrs_list PySem.F.slot_list_extend PySem.F.type_list_extend mt_ext' (tyV_list fun t h => muT_of ⟨by decide, by decide⟩ h) mr_extend ho ha hbase hfew hline hs hplain
end
end PV
end

section
set_option Elab.async false
set_option linter.all false
set_option maxRecDepth 100000
set_option maxHeartbeats 4000000
/-! PV12: calls -/
namespace PV
open PySem PySem.Spec PyProof.Rows L2
section
variable {C : Ctx} {xa : XA} {K : PySem.W.Frag} {mg : Str → Option Value} {F G H : Hp} {e : Env} {σ : L2.St} {τ xs : List (Option V)} {W : WX} {Q : V → Hp → Prop}
/-- the first slots set apart: what they hold is others' -/
theorem RS.part {A B : Env} {ys : List (Option V)} (r : RS K mg xa F G (A ++ B) (xs ++ ys) H) (hl : A.length = xs.length) :
    ∃ F', RS K mg xa F' G B ys H ∧ ∀ {G' H' : Hp} {B' : Env} {ys' : List (Option V)}, Ex G G' → RS K mg xa F' G' B' ys' H' → RS K mg xa F G' (A ++ B') (xs ++ ys') H' := by
  obtain ⟨fp, h, nd, ap⟩ := r.own
  obtain ⟨f1, f2, e0, a, b⟩ := h.split A.length
  rw [List.take_left, hl, List.take_left] at a
  rw [List.drop_left, hl, List.drop_left] at b
  subst e0
  obtain ⟨n1, n2, n3⟩ := List.nodup_append.mp nd
  have i1 : ∀ a ∈ f1, withO F H f1 a = H a := fun a ha => withO_in ha
  refine ⟨withO F H f1, ⟨r.gh, withO_le r.fh, fun c u q => ?_, f2, b, n2, fun c hc => ⟨?_, (ap c (List.mem_append_right _ hc)).2⟩⟩, fun {G' H' B' ys'} x r' => ?_⟩
  · by_cases z : c ∈ f1
    · exact (ap c (List.mem_append_left _ z)).2
    · rw [withO_out z] at q
      exact r.gf c u q
  · rw [withO_out fun z => n3 c z c hc rfl]
    exact (ap c (List.mem_append_right _ hc)).1
  · obtain ⟨g2, s2, m2, k2⟩ := r'.own
    have same : ∀ c ∈ f1, H' c = H c := fun c hc => by
      obtain ⟨u, q⟩ := a.there c hc
      rw [q]
      exact r'.fh c u (by rw [withO_in hc]; exact q)
    have g1 : ∀ c ∈ f1, G' c = none := fun c hc => by
      obtain ⟨u, q⟩ := a.there c hc
      exact r'.gf c u (by rw [withO_in hc]; exact q)
    have out : ∀ c ∈ g2, c ∉ f1 := fun c hc z => by
      obtain ⟨u, q⟩ := a.there c z
      have := (k2 c hc).1
      rw [withO_in z, q] at this
      cases this
    refine ⟨r'.gh, fun c u q => r'.fh c u (withO_ex r.fh c u q), fun c u q => r'.gf c u (withO_ex r.fh c u q), f1 ++ g2, (a.mono x same).append s2, List.nodup_append.mpr ⟨n1, m2, fun c hc d hd z => out d hd (z ▸ hc)⟩, fun c hc => ?_⟩
    rcases List.mem_append.mp hc with z | z
    · exact ⟨(ap c (List.mem_append_left _ z)).1, g1 c z⟩
    · have := (k2 c z).1
      rw [withO_out (out c z)] at this
      exact ⟨this, (k2 c z).2⟩
/-- slots without an exception -/
def Clean (e : Env) : Prop := ∀ s ∈ e, ∀ c ns vs, s ≠ .exc c ns vs
theorem SlotsR.chg {xa' : XA} (hp : xa'.pv = xa.pv) : ∀ {ss : Env} {ys : List (Option V)} {fp : List Addr}, Clean ss → SlotsR K mg xa H G ss ys fp → SlotsR K mg xa' H G ss ys fp
  | [], [], fp, _, h => h
  | s :: ss, y :: ys, fp, hc, h => by
    obtain ⟨f1, f2, h1, h2, h3⟩ := h
    refine ⟨f1, f2, h1, ?_, SlotsR.chg hp (fun s hs => hc s (List.mem_cons_of_mem _ hs)) h3⟩
    cases s with
    | non => exact h2
    | fro d p => exact ⟨h2.1, fun t ht => by rw [hp]; exact h2.2.1 t ht, h2.2.2⟩
    | own t p => exact ⟨fun t ht => by rw [hp]; exact h2.1 t ht, h2.2⟩
    | exc c ns vs => exact absurd rfl (hc _ List.mem_cons_self c ns vs)
  | [], _ :: _, fp, _, h => h.elim
  | _ :: _, [], fp, _, h => h.elim
theorem RS.chg {xa' : XA} (r : RS K mg xa F G e xs H) (hp : xa'.pv = xa.pv) (hc : Clean e) : RS K mg xa' F G e xs H := by
  obtain ⟨fp, h, k⟩ := r.own
  exact ⟨r.gh, r.fh, r.gf, fp, h.chg hp hc, k⟩
/-- slots without an exception, without marks -/
def FreeS : Slot → Prop
  | .non => True
  | .fro _ p => p = none
  | .own _ p => p = none
  | .exc _ _ _ => False
def Free (e : Env) : Prop := ∀ s ∈ e, FreeS s
theorem SlotsR.chgF {xa' : XA} : ∀ {ss : Env} {ys : List (Option V)} {fp : List Addr}, Free ss → SlotsR K mg xa H G ss ys fp → SlotsR K mg xa' H G ss ys fp
  | [], [], fp, _, h => h
  | s :: ss, y :: ys, fp, hc, h => by
    obtain ⟨f1, f2, h1, h2, h3⟩ := h
    have hs := hc s List.mem_cons_self
    refine ⟨f1, f2, h1, ?_, SlotsR.chgF (fun s hs => hc s (List.mem_cons_of_mem _ hs)) h3⟩
    cases s with
    | non => exact h2
    | fro d p =>
      have e : p = none := hs
      subst e
      exact ⟨h2.1, pin0, h2.2.2⟩
    | own t p =>
      have e : p = none := hs
      subst e
      exact ⟨pin0, h2.2⟩
    | exc c ns vs => exact hs.elim
  | [], _ :: _, fp, _, h => h.elim
  | _ :: _, [], fp, _, h => h.elim
theorem RS.chgF {xa' : XA} (r : RS K mg xa F G e xs H) (hc : Free e) : RS K mg xa' F G e xs H := by
  obtain ⟨fp, h, k⟩ := r.own
  exact ⟨r.gh, r.fh, r.gf, fp, h.chgF hc, k⟩
/-- the operands move into slots of their own behind the others -/
theorem RS.argOut (as : List At) : ∀ {e t e1 : Env} {ts : List (Option V)} {vs : List V} {ss : List Slot}, RS K mg xa F G (e ++ t) (xs ++ ts) H → e.length = xs.length → Opns K G xs as vs → PV.argOut e as = some (ss, e1) →
    RS K mg xa F G (e1 ++ (t ++ ss)) (xs ++ (ts ++ vs.map some)) H ∧ e1.length = e.length ∧ Free ss ∧ ss.length = vs.length := by
  induction as with
  | nil =>
    intro e t e1 ts vs ss r hl o h
    cases h
    rw [show vs = [] from o]
    refine ⟨?_, rfl, fun s hs => (by cases hs), rfl⟩
    simpa using r
  | cons a as ih =>
    intro e t e1 ts vs ss r hl o h
    obtain ⟨v, w, rfl, o1, o2⟩ := o
    have next : ∀ {e' : Env} {s : Slot}, e'.length = e.length → FreeS s → RS K mg xa F G (e' ++ (t ++ [s])) (xs ++ (ts ++ [some v])) H → (∃ ss', PV.argOut e' as = some (ss', e1) ∧ ss = s :: ss') →
        RS K mg xa F G (e1 ++ (t ++ ss)) (xs ++ (ts ++ (v :: w).map some)) H ∧ e1.length = e.length ∧ Free ss ∧ ss.length = (v :: w).length := fun {e' s} l hs r' hq => by
      obtain ⟨ss', q, es⟩ := hq
      subst es
      obtain ⟨r2, l2, c2, k2⟩ := ih r' (l.trans hl) o2 q
      rw [List.append_assoc, List.append_assoc] at r2
      refine ⟨r2, l2.trans l, fun z hz => ?_, by simp [k2]⟩
      rcases List.mem_cons.mp hz with z1 | z1
      · rw [z1]; exact hs
      · exact c2 z z1
    cases a with
    | val d =>
      unfold PV.argOut at h
      cases q : PV.argOut e as with
      | none => rw [q] at h; cases h
      | some p =>
        obtain ⟨ss', e2⟩ := p
        rw [q] at h
        cases h
        have R := r.app (e2 := [.fro d none]) (ys := [some v]) (fq := []) ⟨[], [], rfl, ⟨rfl, pin0, v, rfl, o1⟩, rfl⟩ List.nodup_nil (fun a z => nomatch z) fun fp _ a z => nomatch z
        rw [List.append_assoc, List.append_assoc] at R
        exact next (s := .fro d none) rfl rfl R ⟨ss', q, rfl⟩
    | pl i =>
      have o' : xs[i]? = some (some v) := o1
      have hi : i < e.length := by rw [hl]; exact (List.getElem?_eq_some_iff.mp o').1
      have oo : (xs ++ ts)[i]? = some (some v) := by rw [List.getElem?_append_left (by rw [← hl]; exact hi)]; exact o'
      unfold PV.argOut at h
      cases q : slotAt e i with
      | non => simp only [q] at h; cases h
      | exc c ns d => simp only [q] at h; cases h
      | fro d p =>
        simp only [q] at h
        cases q2 : PV.argOut e as with
        | none => rw [q2] at h; cases h
        | some p2 =>
          obtain ⟨ss', e2⟩ := p2
          rw [q2] at h
          cases h
          have hr := r.fro (by rw [slotAt_app hi]; exact q) oo
          have R := r.app (e2 := [.fro d none]) (ys := [some v]) (fq := []) ⟨[], [], rfl, ⟨rfl, pin0, v, rfl, hr⟩, rfl⟩ List.nodup_nil (fun a z => nomatch z) fun fp _ a z => nomatch z
          rw [List.append_assoc, List.append_assoc] at R
          exact next (s := .fro d none) rfl rfl R ⟨ss', q2, rfl⟩
      | own tr p =>
        simp only [q] at h
        cases q2 : PV.argOut (e.set i .non) as with
        | none => rw [q2] at h; cases h
        | some p2 =>
          obtain ⟨ss', e2⟩ := p2
          rw [q2] at h
          cases h
          have R := r.move (by rw [slotAt_app hi]; exact q) oo
          rw [set_app hi, List.append_assoc, List.append_assoc] at R
          exact next (s := .own tr none) (List.length_set ..) rfl R ⟨ss', q2, rfl⟩
/-- a slot behind the others goes back to its place -/
theorem RS.back {s : Slot} {t : Env} {ts : List (Option V)} {v : V} {i : Nat} (r : RS K mg xa F G (e ++ (s :: t)) (xs ++ (some v :: ts)) H) (hl : e.length = xs.length) (o : xs[i]? = some (some v)) : RS K mg xa F G (e.set i s ++ t) (xs ++ ts) H := by
  obtain ⟨fp, h, nd, ap⟩ := r.own
  obtain ⟨f1, f2, e0, a, b⟩ := h.split e.length
  rw [List.take_left, hl, List.take_left] at a
  rw [List.drop_left, hl, List.drop_left] at b
  obtain ⟨g1, g2, e1, b1, b2⟩ := b
  have hi : i < e.length := by rw [hl]; exact (List.getElem?_eq_some_iff.mp o).1
  obtain ⟨y, k1, k2, k3, z1, z2, z3, z4⟩ := a.at hi
  have S := z4 H G s (some v) g1 (Ex.refl _) (fun _ _ => rfl) b1
  rw [set_same o] at S
  subst e0 e1 z2
  have sub : ∀ c, c ∈ (k1 ++ (g1 ++ k3)) ++ g2 → c ∈ (k1 ++ (k2 ++ k3)) ++ (g1 ++ g2) := fun c hc => by
    simp only [List.mem_append] at hc ⊢
    rcases hc with (hc | hc | hc) | hc
    · exact .inl (.inl hc)
    · exact .inr (.inl hc)
    · exact .inl (.inr (.inr hc))
    · exact .inr (.inr hc)
  refine ⟨r.gh, r.fh, r.gf, (k1 ++ (g1 ++ k3)) ++ g2, S.append b2, ?_, fun c hc => ap c (sub c hc)⟩
  obtain ⟨n1, n2, n3⟩ := List.nodup_append.mp nd
  obtain ⟨m1, m2, m3⟩ := List.nodup_append.mp n2
  obtain ⟨p1, p2, p3⟩ := nodup3 n1
  refine List.nodup_append.mpr ⟨nodup3' m1 p2 fun c hc hm => n3 c (by
    simp only [List.mem_append] at hm ⊢
    rcases hm with hm | hm
    · exact .inl hm
    · exact .inr (.inr hm)) c (List.mem_append_left _ hc) rfl, m2, fun c hc d hd z => ?_⟩
  subst z
  simp only [List.mem_append] at hc
  rcases hc with hc | hc | hc
  · exact n3 c (List.mem_append_left _ hc) c (List.mem_append_right _ hd) rfl
  · exact m3 c hc c hd rfl
  · exact n3 c (List.mem_append_right _ (List.mem_append_right _ hc)) c (List.mem_append_right _ hd) rfl
/-- a slot behind the others is forgotten -/
theorem RS.lose {s : Slot} {t : Env} {y : Option V} {ts : List (Option V)} (r : RS K mg xa F G (e ++ (s :: t)) (xs ++ (y :: ts)) H) (hl : e.length = xs.length) : RS K mg xa F G (e ++ t) (xs ++ ts) H :=
  RS.drop (e2 := [s]) (x2 := [y]) r hl rfl
theorem RS.argBack (e0 : Env) (as : List At) : ∀ {G0 : Hp} {c t c1 : Env} {ts : List (Option V)} {vs : List V} {ss : List Slot}, RS K mg xa F G (c ++ (ss ++ t)) (xs ++ (vs.map some ++ ts)) H → c.length = xs.length → ss.length = vs.length →
    Opns K G0 xs as vs → (∀ i o pin v, slotAt e0 i = .own o pin → xs[i]? = some (some v) → PinR xa pin (some v)) → PV.argBack e0 as ss c = some c1 → RS K mg xa F G (c1 ++ t) (xs ++ ts) H ∧ c1.length = c.length := by
  induction as with
  | nil =>
    intro G0 c t c1 ts vs ss r hl hs o hpin h
    rw [show vs = [] from o] at r hs
    have : ss = [] := List.length_eq_zero_iff.mp hs
    subst this
    cases h
    exact ⟨r, rfl⟩
  | cons a as ih =>
    intro G0 c t c1 ts vs ss r hl hs o hpin h
    obtain ⟨v, w, rfl, o1, o2⟩ := o
    cases ss with
    | nil => simp at hs
    | cons s ss =>
      have hs' : ss.length = w.length := by simpa using hs
      have r' : RS K mg xa F G (c ++ (s :: (ss ++ t))) (xs ++ (some v :: (w.map some ++ ts))) H := r
      cases a with
      | val d => exact ih (r'.lose hl) hl hs' o2 hpin h
      | pl i =>
        have o' : xs[i]? = some (some v) := o1
        unfold PV.argBack at h
        cases q : slotAt e0 i with
        | own t0 pin =>
          simp only [q] at h
          cases s with
          | own t1 p1 =>
            have r2 : RS K mg xa F G (c ++ (.own t1 pin :: (ss ++ t))) (xs ++ (some v :: (w.map some ++ ts))) H := by
              obtain ⟨fp, h1, h2⟩ := r'.own
              refine ⟨r'.gh, r'.fh, r'.gf, fp, ?_, h2⟩
              obtain ⟨f1, f2, e0', a, b⟩ := h1.split c.length
              rw [List.take_left, hl, List.take_left] at a
              rw [List.drop_left, hl, List.drop_left] at b
              rw [e0']
              obtain ⟨g1, g2, b1, ⟨_, w', b2, b3⟩, b4⟩ := b
              cases b2
              exact a.append ⟨g1, g2, b1, ⟨hpin i t0 pin _ q o', _, rfl, b3⟩, b4⟩
            obtain ⟨r3, l3⟩ := ih (r2.back hl o') ((List.length_set ..).trans hl) hs' o2 hpin h
            exact ⟨r3, l3.trans (List.length_set ..)⟩
          | fro d p1 =>
            have r2 : RS K mg xa F G (c ++ (.fro d pin :: (ss ++ t))) (xs ++ (some v :: (w.map some ++ ts))) H := by
              obtain ⟨fp, h1, h2⟩ := r'.own
              refine ⟨r'.gh, r'.fh, r'.gf, fp, ?_, h2⟩
              obtain ⟨f1, f2, e0', a, b⟩ := h1.split c.length
              rw [List.take_left, hl, List.take_left] at a
              rw [List.drop_left, hl, List.drop_left] at b
              rw [e0']
              obtain ⟨g1, g2, b1, ⟨bb, _, w', b2, b3⟩, b4⟩ := b
              cases b2
              exact a.append ⟨g1, g2, b1, ⟨bb, hpin i t0 pin _ q o', _, rfl, b3⟩, b4⟩
            obtain ⟨r3, l3⟩ := ih (r2.back hl o') ((List.length_set ..).trans hl) hs' o2 hpin h
            exact ⟨r3, l3.trans (List.length_set ..)⟩
          | non => cases h
          | exc _ _ _ => cases h
        | non => simp only [q] at h; exact ih (r'.lose hl) hl hs' o2 hpin h
        | fro _ _ => simp only [q] at h; exact ih (r'.lose hl) hl hs' o2 hpin h
        | exc _ _ _ => simp only [q] at h; exact ih (r'.lose hl) hl hs' o2 hpin h
theorem Opns.len {as : List At} : ∀ {vs : List V}, Opns K G xs as vs → as.length = vs.length := by
  induction as with
  | nil => intro vs h; rw [show vs = [] from h]; rfl
  | cons a as ih =>
    intro vs h
    obtain ⟨v, w, rfl, _, h2⟩ := h
    simp [ih h2]
theorem Opns.get {as : List At} : ∀ {vs : List V} {j : Nat} {a : At}, Opns K G xs as vs → as[j]? = some a → ∃ v, vs[j]? = some v ∧ Opn K G xs a v := by
  induction as with
  | nil => intro vs j a h q; simp at q
  | cons b as ih =>
    intro vs j a h q
    obtain ⟨v, w, rfl, h1, h2⟩ := h
    cases j with
    | zero => simp at q; subst q; exact ⟨v, rfl, h1⟩
    | succ j => exact ih (j := j) h2 (by simpa using q)
theorem Opns.app {as bs : List At} {vs ws : List V} (h : Opns K G xs as vs) (h2 : Opns K G xs bs ws) : Opns K G xs (as ++ bs) (vs ++ ws) := by
  induction as generalizing vs with
  | nil => rw [show vs = [] from h]; exact h2
  | cons b as ih =>
    obtain ⟨v, w, rfl, h3, h4⟩ := h
    exact ⟨v, w ++ ws, rfl, h3, ih h4⟩
theorem Opns.vals {ds : List D} {vs : List V} (h : Reps K G ds vs) : Opns K G xs (ds.map .val) vs := by
  induction ds generalizing vs with
  | nil => exact h
  | cons d ds ih =>
    obtain ⟨v, r, rfl, h1, h2⟩ := h
    exact ⟨v, r, rfl, h1, ih h2⟩
theorem Opns.pick {as : List At} {vs : List V} (h : Opns K G xs as vs) : ∀ pm : List Nat, Opns K G xs (PV.pick as pm) (PV.pick vs pm)
  | [] => rfl
  | j :: pm => by
    unfold PV.pick
    cases q : as[j]? with
    | some a =>
      obtain ⟨v, q2, o⟩ := h.get q
      rw [q2]
      exact ⟨v, _, rfl, o, h.pick pm⟩
    | none =>
      have q2 : vs[j]? = none := by
        rw [List.getElem?_eq_none_iff] at q ⊢
        rw [← h.len]
        exact q
      rw [q2]
      exact h.pick pm
/-- no exception, no marks -/
def xa0 : XA := ⟨none, fun _ => none⟩
/-- what a def promises, by the interpreter -/
def spF (K : PySem.W.Frag) (mg : Str → Option Value) (call : List Slot → FOut) : Sp := fun vs H Q E => ∃ ss F G, RS K mg xa0 F G ss (vs.map some) H ∧ Free ss ∧ match call ss with
  | .ret (.val d) outs => outs.length = vs.length ∧ ∀ v H' G', Ex G G' → RS K mg xa0 F G' outs (vs.map some) H' → Rep K G' d v → Q v H'
  | .ret (.frs o) outs => outs.length = vs.length ∧ ∀ v H' G', Ex G G' → RS K mg xa0 F G' (outs ++ [.own o none]) (vs.map some ++ [some v]) H' → Q v H'
  | .err x outs => outs.length = vs.length ∧ ∀ cls dx H' G', Ex G G' → RS K mg xa0 F G' outs (vs.map some) H' → mg x.cls = some cls → ExnR K G' x.ns x.vs dx → E cls (some dx) H'
  | .bad => False
theorem rd_call {f : Str} {cs : List CE} {dv : List D} {pm : List Nat} {dvs : List V} (hd : ∀ G, Reps K G dv dvs) (hpl : ∀ ss r os, C.call f ss = .ret r os → os.length = ss.length ∧ Free os) (hpe : ∀ ss r os, C.call f ss = .err r os → os.length = ss.length ∧ Free os)
    (h : rdE C xa K mg (.call f cs dv pm) W σ H Q) : rdA C xa K mg cs W σ H fun vs H1 => spF K mg (C.call f) (PV.pick (vs ++ dvs) pm) H1 Q (WE W σ) := by
  obtain ⟨e, τ, F, G, r, q⟩ := h
  rw [ev.eq_def] at q
  have hn := r.len
  refine rd_args r q QE.mono fun as e1 vs zs H1 G1 x1 r1 o1 q1 => ?_
  obtain ⟨⟨ss, e2⟩, z1, q2⟩ := Post.lift q1
  dsimp only at q2
  have o2 := (o1.app (Opns.vals (xs := σ ++ (τ ++ zs)) (hd G1))).pick pm
  generalize PV.pick (vs ++ dvs) pm = vs2 at o2 ⊢
  generalize PV.pick (as ++ dv.map .val) pm = as2 at o2 z1 q2
  have hl1 := r1.len
  obtain ⟨r2, l2, c2, k2⟩ := RS.argOut as2 (t := []) (ts := []) (by simpa using r1) hl1 o2 z1
  rw [List.nil_append, List.nil_append] at r2
  obtain ⟨F', rc, back⟩ := r2.part (l2.trans hl1)
  refine ⟨ss, F', G1, rc.chgF c2, c2, ?_⟩
  have hpin : ∀ i o pin v, slotAt e1 i = .own o pin → (σ ++ (τ ++ zs))[i]? = some (some v) → PinR xa pin (some v) := fun i o pin v h1 h2 => (r1.tree h1 h2).1
  have fin : ∀ {outs : List Slot} {e3 : Env} {H' G' : Hp}, Ex G1 G' → outs.length = vs2.length → Free outs → RS K mg xa0 F' G' outs (vs2.map some) H' → PV.argBack e1 as2 outs e2 = some e3 → RS K mg xa F G' e3 (σ ++ (τ ++ zs)) H' ∧ e3.length = e2.length := by
    intro outs e3 H' G' x hl hc r3 hb
    have R := back x (r3.chgF hc)
    have := RS.argBack e1 as2 (t := []) (ts := []) (by simpa using R) (l2.trans hl1) hl o2 hpin hb
    simpa using this
  cases z : C.call f ss with
  | ret rv outs =>
    rw [z] at q2
    obtain ⟨e3, z3, q3⟩ := Post.lift q2
    obtain ⟨lo, co⟩ := hpl ss rv outs z
    cases rv with
    | val d =>
      refine ⟨lo.trans k2, fun v H' G' x r3 hv => ?_⟩
      obtain ⟨r4, l4⟩ := fin x (lo.trans k2) co r3 z3
      rw [← List.append_assoc] at r4
      exact fin_val (Post.mono QE.mono x q3) r4 hn hv
    | frs o =>
      refine ⟨lo.trans k2, fun v H' G' x r3 => ?_⟩
      have co' : Free (outs ++ [.own o none]) := fun s hs => by
        rcases List.mem_append.mp hs with hs | hs
        · exact co s hs
        · rw [List.mem_singleton.mp hs]
          rfl
      have R := back x (r3.chgF co')
      have := RS.argBack e1 as2 (t := [.own o none]) (ts := [some v]) R (l2.trans hl1) (lo.trans k2) o2 hpin z3
      obtain ⟨R2, l4⟩ := this
      refine q3 v H' G' x ?_
      rw [hn]
      have l5 : e3.length = (σ ++ (τ ++ zs)).length := l4.trans (l2.trans hl1)
      obtain ⟨e4, e5, rfl, hl4⟩ : ∃ e4 e5, e3 = e4 ++ e5 ∧ e4.length = (σ ++ τ).length := ⟨e3.take (σ ++ τ).length, e3.drop (σ ++ τ).length, (List.take_append_drop _ _).symm, by
        rw [List.length_take, l5, ← List.append_assoc, List.length_append (bs := zs)]
        omega⟩
      rw [← hl4, List.take_left]
      rw [← List.append_assoc, List.append_assoc, List.append_assoc (σ ++ τ)] at R2
      refine RS.drop (e2 := e5) (x2 := zs) R2 hl4 ?_
      rw [← List.append_assoc] at l5
      simp only [List.length_append] at l5 hl4
      omega
  | err x outs =>
    rw [z] at q2
    obtain ⟨e3, z3, q3⟩ := Post.lift q2
    obtain ⟨lo, co⟩ := hpe ss x outs z
    refine ⟨lo.trans k2, fun cls dx H' G' xx r3 hm hx => ?_⟩
    obtain ⟨r4, l4⟩ := fin xx (lo.trans k2) co r3 z3
    have r5 := r4.take e.length
    have e9 : (σ ++ (τ ++ zs)).take e.length = σ ++ τ := by
      rw [hn, ← List.append_assoc, List.take_left]
    rw [e9] at r5
    exact q3 cls dx H' G' τ xx r5 hm hx
  | bad =>
    rw [z] at q2
    exact q2.elim
end
end PV
end

section
set_option Elab.async false
set_option linter.all false
set_option maxRecDepth 100000
set_option maxHeartbeats 4000000
/-! PV13: the rule for calls -/
namespace PV
open PySem PySem.Spec PyProof.Rows L2
theorem free_nons {α : Type} (l : List α) : Free (l.map fun _ => Slot.non) := fun s hs => by
  obtain ⟨_, _, rfl⟩ := List.mem_map.mp hs
  trivial
theorem noX_free (i : Nat) (s : Slot) : FreeS (noX i s) := by
  unfold noX
  split
  · split
    · exact rfl
    · trivial
  · split
    · exact rfl
    · trivial
  · trivial
theorem outs_ok : ∀ (i : Nat) (ss : List Slot) (e : Env), (outs i ss e).length = ss.length ∧ Free (outs i ss e)
  | i, [], e => ⟨rfl, fun s hs => by cases hs⟩
  | i, s :: ss, e => by
    obtain ⟨l, c⟩ := outs_ok (i + 1) ss (e.drop 1)
    have key : ∃ z, outs i (s :: ss) e = z :: outs (i + 1) ss (e.drop 1) ∧ FreeS z := by
      cases s with
      | own o p => exact ⟨_, rfl, noX_free i _⟩
      | non => exact ⟨_, rfl, trivial⟩
      | fro d p => exact ⟨_, rfl, trivial⟩
      | exc _ _ _ => exact ⟨_, rfl, trivial⟩
    obtain ⟨z, e1, e2⟩ := key
    rw [e1]
    refine ⟨by rw [List.length_cons, l, List.length_cons], fun s hs => ?_⟩
    rcases List.mem_cons.mp hs with q | q
    · rw [q]; exact e2
    · exact c s q
/-- a call's outs -/
def OutsOk (o : FOut) (n : Nat) : Prop := match o with
  | .ret _ os => os.length = n ∧ Free os
  | .err _ os => os.length = n ∧ Free os
  | .bad => True
theorem callF_ok (T : Str → Option FDef) (sub : Str → Str → Option Bool) (n : Nat) (f : Str) (ss : List Slot) : OutsOk (callF T sub n f ss) ss.length := by
  cases n with
  | zero => exact trivial
  | succ n =>
    unfold callF
    split
    · split
      · split <;> first | exact outs_ok _ _ _ | exact trivial
      · exact trivial
    · split
      · split <;> first | exact outs_ok _ _ _ | (split <;> first | exact outs_ok _ _ _ | exact trivial) | exact trivial
      · exact trivial
    · split
      · split <;> first | exact ⟨by simp, free_nons _⟩ | exact trivial
      · exact trivial
    · exact trivial
/-- a def of the text, for calls with n values and the keywords ks; dv its defaults that fill up, pm the order of the parameters -/
structure Fn (C : Ctx) (X : Cx) (x : Str) (n : Nat) (ks : List Str) (dv : List D) (pm : List Nat) : Prop where
  ex : ∃ (k : Nat) (f : Addr) (fd : FuncData) (ps : List Str) (dvs : List V) (ds : List Value), FnOk X.prog X.w X.K X.mg X.base (L2.CX X.prog X.w) k f fd ps (spF X.K X.mg (C.call x)) ∧ Room k X.A ∧ X.mg x = some (.ref f) ∧ PySem.W.keepIn X.K (.ref f) = true ∧
    Vals dvs ds ∧ (∀ G, Reps X.K G dv dvs) ∧ ∀ (s : Shared) (us ws : List Value), X.K.In s.heap → us.length = n → ws.length = ks.length → BindsTo s fd ⟨us, ks.zip ws⟩ (ps.zip (PV.pick (us ++ ws ++ ds) pm))
  outs : ∀ ss, OutsOk (C.call x ss) ss.length
theorem Vals.get' {vs : List V} {us : List Value} (h : Vals vs us) (j : Nat) : (vs[j]? = none ∧ us[j]? = none) ∨ ∃ v u, vs[j]? = some v ∧ us[j]? = some u ∧ RelV v u := by
  cases q : vs[j]? with
  | none =>
    refine .inl ⟨rfl, ?_⟩
    rw [List.getElem?_eq_none_iff] at q ⊢
    rw [← h.length]
    exact q
  | some v =>
    obtain ⟨u, h1, h2⟩ := h.get q
    exact .inr ⟨v, u, rfl, h1, h2⟩
theorem Vals.pick {vs : List V} {us : List Value} (h : Vals vs us) : ∀ pm : List Nat, Vals (PV.pick vs pm) (PV.pick us pm)
  | [] => .nil
  | j :: pm => by
    unfold PV.pick
    rcases Vals.get' h j with ⟨h1, h2⟩ | ⟨v, u, h1, h2, h3⟩
    · rw [h1, h2]
      exact Vals.pick h pm
    · rw [h1, h2]
      exact .cons h3 (Vals.pick h pm)
section
variable {C : Ctx} {xa : XA} {X : Cx} {es : List Expr} {cs ck : List CE} {p pos kpos : Pos} {a : Expr} {x : Str} {kws : List Keyword} {ks : List Str} {dv : List D} {pm : List Nat} {n : Nat} {nm : Option Str} {c : CE}
/-- the values of keywords -/
structure VKw (C : Ctx) (xa : XA) (X : Cx) (e : List Keyword) (c : List CE) : Prop where
  pk : ∀ W, Takes X W → PK X e (rdA C xa X.K X.mg c W)
theorem pk_imp {e : List Keyword} {t t' : TA} (h : PK X e t) (k : ∀ σ H Q, t' σ H Q → t σ H Q) : PK X e t' := ⟨fun pos pins s σ H Q I q => h.run pos pins s σ H Q I (k σ H Q q)⟩
theorem vk_nil : VKw C xa X [] [] := ⟨fun W tk => pk_imp pk_nil fun σ H Q q => by
  obtain ⟨e, τ, F, G, r, q⟩ := q
  rw [evs.eq_def] at q
  exact q [] [] H G (Ex.refl _) (by rw [List.append_nil]; exact r) rfl⟩
theorem vk_cons (ha : VE C xa X a c) (hs : VKw C xa X kws ck) : VKw C xa X (⟨nm, a, kpos⟩ :: kws) (c :: ck) := ⟨fun W tk => pk_imp (pk_cons (ha.pe W tk) (hs.pk W tk)) fun σ H Q q => by
  obtain ⟨e, τ, F, G, r, q⟩ := q
  rw [evs.eq_def] at q
  refine rd_opd r q QA.mono fun a e1 v zs H1 G1 x1 r1 o1 q1 => ?_
  refine rd_args r1 q1 QA.mono fun as e2 vs ws H2 G2 x2 r2 o2 q2 => ?_
  have o1' : Opn X.K G2 (σ ++ (τ ++ zs) ++ ws) a v := o1.mono x2
  have e9 : σ ++ (τ ++ zs ++ ws) = σ ++ τ ++ (zs ++ ws) := by simp only [List.append_assoc]
  rw [List.append_assoc] at o1'
  rw [e9] at r2 o2 o1'
  exact q2 (v :: vs) (zs ++ ws) H2 G2 (Ex.refl _) r2 ⟨v, vs, rfl, o1', o2⟩⟩
theorem bind_assoc' {α β γ : Type} (o : Out α) (f : α → Env → Out β) (g : β → Env → Out γ) : (o.bind f).bind g = o.bind fun a e => (f a e).bind g := by
  cases o <;> rfl
theorem evs_app (C : Ctx) (ck : List CE) : ∀ (cs : List CE) (e : Env), evs C (cs ++ ck) e = (evs C cs e).bind fun as e1 => (evs C ck e1).bind fun bs e2 => .ok (as ++ bs) e2
  | [], e => by
    rw [evs.eq_def C []]
    show evs C ck e = (evs C ck e).bind fun bs e2 => .ok bs e2
    cases evs C ck e <;> rfl
  | c :: cs, e => by
    rw [List.cons_append, evs.eq_def C (c :: (cs ++ ck)), evs.eq_def C (c :: cs)]
    dsimp only
    rw [bind_assoc']
    congr 1
    funext a e1
    rw [evs_app C ck cs e1, bind_assoc', bind_assoc']
    congr 1
    funext as e2
    rw [bind_assoc']
    show ((evs C ck e2).bind fun a_1 e => (Out.ok (as ++ a_1) e).bind fun as e2 => Out.ok (a :: as) e2) = ((evs C ck e2).bind fun bs e2 => Out.ok (a :: as ++ bs) e2)
    cases evs C ck e2 <;> rfl
theorem rd_app {K : PySem.W.Frag} {mg : Str → Option Value} {σ : L2.St} {H : Hp} {W : WX} {R : List V → Hp → Prop} (h : rdA C xa K mg (cs ++ ck) W σ H R) : rdA C xa K mg cs W σ H fun vs H1 => rdA C xa K mg ck W σ H1 fun zs H2 => R (vs ++ zs) H2 := by
  obtain ⟨e, τ, F, G, r, q⟩ := h
  rw [evs_app] at q
  refine rd_args r q QA.mono fun as e1 vs zs H1 G1 x1 r1 o1 q1 => ?_
  refine rd_args r1 q1 QA.mono fun bs e2 ws ys H2 G2 x2 r2 o2 q2 => ?_
  have e9 : σ ++ (τ ++ zs ++ ys) = σ ++ τ ++ (zs ++ ys) := by simp only [List.append_assoc]
  have o1' : Opns K G2 (σ ++ (τ ++ zs) ++ ys) as vs := o1.mono x2
  rw [List.append_assoc, e9] at o1'
  rw [e9] at r2 o2
  exact q2 (vs ++ ws) (zs ++ ys) H2 G2 (Ex.refl _) r2 (o1'.app o2)
theorem run_fnV {pins : List (Addr × Obj)} {σ : L2.St} {H : Hp} {s : Shared} {Q : VK} {us ws : List Value} {vs zs : List V} {W : WX} {k : Nat} {f : Addr} {fd : FuncData} {ps : List Str} {sp : Sp} {dvs : List V} {ds : List Value}
    (F : FnOk X.prog X.w X.K X.mg X.base (L2.CX X.prog X.w) k f fd ps sp) (hr : Room k X.A) (hb : BindsTo s fd ⟨us, ks.zip ws⟩ (ps.zip (PV.pick (us ++ ws ++ ds) pm))) (hd : Vals dvs ds) (tk : Takes X W)
    (I : Inv X pins σ H s) (r : Vals vs us) (rz : Vals zs ws) (h : sp (PV.pick (vs ++ zs ++ dvs) pm) H Q (WE W σ)) : wpAny (model X.prog X.w) X.A (call (.ref f) us (ks.zip ws)) (EP X pins σ Q) X.xe s := by
  have r2 : Vals (PV.pick (vs ++ zs ++ dvs) pm) (PV.pick (us ++ ws ++ ds) pm) := Vals.pick ((r.append rz).append hd) pm
  refine wpAny_call (codeAny_mono (F.run X.A X.stack s H ⟨us, ks.zip ws⟩ (PV.pick (us ++ ws ++ ds) pm) (PV.pick (vs ++ zs ++ dvs) pm) Q (WE W σ) hr I.env0 hb r2 h) fun r s' hq => ?_)
  cases r with
  | error e => exact passAt tk σ pins H s e s' I hq
  | ok fl =>
    cases fl with
    | ret u => exact I.after hq
    | next => exact False.elim hq
    | brk => exact False.elim hq
    | cont => exact False.elim hq
theorem QA.len {K : PySem.W.Frag} {mg : Str → Option Value} {σ : L2.St} {H : Hp} {W : WX} {R : List V → Hp → Prop} (h : rdA C xa K mg cs W σ H R) : rdA C xa K mg cs W σ H fun vs H1 => vs.length = cs.length ∧ R vs H1 := by
  obtain ⟨e, τ, F, G, r, q⟩ := h
  refine ⟨e, τ, F, G, r, Post.imp (fun as e' hq z => ?_) q⟩
  have hl : ∀ (cs : List CE) (e e' : Env) (as : List At), evs C cs e = .ok as e' → as.length = cs.length := by
    intro cs
    induction cs with
    | nil =>
      intro e e' as h
      rw [evs.eq_def] at h
      cases h
      rfl
    | cons c cs ih =>
      intro e e' as h
      rw [evs.eq_def] at h
      dsimp only at h
      cases q : opd (ev C c e) with
      | err x e1 => rw [q] at h; cases h
      | bad => rw [q] at h; cases h
      | ok a e1 =>
        rw [q] at h
        have h' : ((evs C cs e1).bind fun as e2 => Out.ok (a :: as) e2) = .ok as e' := h
        cases q2 : evs C cs e1 with
        | err x e1 => rw [q2] at h'; cases h'
        | bad => rw [q2] at h'; cases h'
        | ok as2 e2 =>
          rw [q2] at h'
          cases h'
          simp [ih _ _ _ q2]
  intro vs ys H' G' x r' o
  exact ⟨o.len.symm.trans (hl _ _ _ _ hq), z vs ys H' G' x r' o⟩
/-- f(e, ..) -/
theorem ve_call (h : Fn C X x (cs.length) [] dv pm) (hg : Gl X x) (ha : VA C xa X (a :: es) cs) (hdb : (x == ("__debug__" : Str)) = false := by decide)
    (he : starEach (a :: es) X.env = (false, eval a X.env) :: starEach es X.env := by rfl) (hpl : (backTo pos (starEach es X.env)).any (·.1) = false := by rfl) :
    VE C xa X (.Call (.Name x p) (a :: es) [] pos) (.call x cs dv pm) := ⟨fun W tk => by
  obtain ⟨k, f, fd, ps, dvs, ds, F, hr, hm, hk, hv, hd, hb⟩ := h.ex
  refine ⟨fun pins s σ H Q I q => ?_⟩
  refine wpAny_Call_Name_kw (ld_glob I hg hm ?_ hdb)
  have q1 := QA.len (rd_call hd (fun ss r os z => by have := h.outs ss; rw [z] at this; exact this) (fun ss r os z => by have := h.outs ss; rw [z] at this; exact this) q)
  refine PySem.W.callWith_K (h₀ := X.base) I.ok.mod.kin hk (thn ((ha.pa W tk).run pos pins s σ H _ I q1) fun us s1 ⟨vs, H1, I1, r, hl, q⟩ => ⟨I1.kIn, ?_⟩) he hpl
  refine run_fnV (ks := []) (ws := []) (zs := []) F hr (hb s1 us [] I1.kIn (r.length.symm.trans hl) rfl) hv tk I1 r .nil ?_
  rw [List.append_nil]
  exact q⟩
/-- f(e, .., k = v, ..) -/
theorem ve_callK (h : Fn C X x (cs.length) ks dv pm) (hg : Gl X x) (ha : VA C xa X (a :: es) cs) (hkw : VKw C xa X kws ck) (hkl : ck.length = ks.length) (hdb : (x == ("__debug__" : Str)) = false := by decide)
    (hall : (backToKw pos (keywordEach kws X.env)).all (·.1.isSome) = true := by rfl) (hks : (backToKw pos (keywordEach kws X.env)).filterMap (·.1) = ks := by rfl)
    (he : starEach (a :: es) X.env = (false, eval a X.env) :: starEach es X.env := by rfl) (hpl : ((backTo pos (starEach (a :: es) X.env)).any (·.1) || (backToKw pos (keywordEach kws X.env)).any (·.1.isNone)) = false := by rfl) :
    VE C xa X (.Call (.Name x p) (a :: es) kws pos) (.call x (cs ++ ck) dv pm) := ⟨fun W tk => by
  obtain ⟨k, f, fd, ps, dvs, ds, F, hr, hm, hk, hv, hd, hb⟩ := h.ex
  refine ⟨fun pins s σ H Q I q => ?_⟩
  refine wpAny_Call_Name_kw (ld_glob I hg hm ?_ hdb)
  have q1 := QA.len (rd_app (rd_call hd (fun ss r os z => by have := h.outs ss; rw [z] at this; exact this) (fun ss r os z => by have := h.outs ss; rw [z] at this; exact this) q))
  refine PySem.W.callWith_KW (h₀ := X.base) I.ok.mod.kin hk hall (thn ((ha.pa W tk).run pos pins s σ H _ I q1) fun us s1 ⟨vs, H1, I1, r, hl, q⟩ => ?_) hpl he
  have q2 := QA.len q
  refine thn ((hkw.pk W tk).run pos pins s1 σ H1 _ I1 q2) fun ws s2 ⟨zs, H2, I2, rz, hl2, q3⟩ => ⟨I2.kIn, ?_⟩
  rw [hks]
  exact run_fnV F hr (hb s2 us ws I2.kIn (r.length.symm.trans hl) (rz.length.symm.trans (hl2.trans hkl))) hv tk I2 r rz q3⟩
/-- f(k = v, ..) -/
theorem ve_callK0 (h : Fn C X x 0 ks dv pm) (hg : Gl X x) (hkw : VKw C xa X kws ck) (hkl : ck.length = ks.length) (hdb : (x == ("__debug__" : Str)) = false := by decide)
    (hall : (backToKw pos (keywordEach kws X.env)).all (·.1.isSome) = true := by rfl) (hks : (backToKw pos (keywordEach kws X.env)).filterMap (·.1) = ks := by rfl)
    (hpl : ((backTo pos (starEach [] X.env)).any (·.1) || (backToKw pos (keywordEach kws X.env)).any (·.1.isNone)) = false := by rfl) :
    VE C xa X (.Call (.Name x p) [] kws pos) (.call x ck dv pm) := ⟨fun W tk => by
  obtain ⟨k, f, fd, ps, dvs, ds, F, hr, hm, hk, hv, hd, hb⟩ := h.ex
  refine ⟨fun pins s σ H Q I q => ?_⟩
  refine wpAny_Call_Name_kw (ld_glob I hg hm ?_ hdb)
  have q1 := QA.len (rd_call hd (fun ss r os z => by have := h.outs ss; rw [z] at this; exact this) (fun ss r os z => by have := h.outs ss; rw [z] at this; exact this) q)
  refine PySem.W.callWith_KW0 (h₀ := X.base) I.ok.mod.kin hk hall ?_ hpl
  refine thn ((hkw.pk W tk).run pos pins s σ H _ I q1) fun ws s2 ⟨zs, H2, I2, rz, hl2, q3⟩ => ⟨I2.kIn, ?_⟩
  rw [hks]
  exact run_fnV (us := []) (vs := []) F hr (hb s2 [] ws I2.kIn rfl (rz.length.symm.trans (hl2.trans hkl))) hv tk I2 .nil rz q3⟩
end
end PV
end

section
set_option Elab.async false
set_option linter.all false
set_option maxRecDepth 100000
set_option maxHeartbeats 4000000
/-! PV14: what is walked -/
namespace L2
open PySem PySem.Spec PyProof.Rows
/-! ### enumerate(text) -/
def ItS (x : Str) : It :=
  ⟨fun i _ => i < x.cps.size, fun i H v H' => ∃ T c, v = .ref T ∧ H T = none ∧ H' = upd H T (.tup [.int (i : Nat), .str ⟨#[c]⟩]) ∧ x.cps[i]? = some c, fun i _ => x.cps.size ≤ i⟩
theorem strTy (x : Str) : strIterType x = "str_ascii_iterator" ∨ strIterType x = "str_iterator" := by
  unfold strIterType
  split
  · exact .inl rfl
  · exact .inr rfl
theorem draws_str {prog : Program} {w : World} {A : Around} (hh : A.handled = none) (it : Addr) (x : Str) (t : Tok) :
    Draws prog w A it [it] x.cps.size (fun i v => ∃ c u, x.cps[i]? = some c ∧ v = .str ⟨#[c]⟩ u) (fun i h => h.IsStrIter it (strIterType x) x t i) := by
  rcases strTy x with e | e
  · rw [e]; exact Draws.strAscii hh it x t
  · rw [e]; exact Draws.strWide hh it x t
theorem turn_enumS {P : Program} {w : World} {K : PySem.W.Frag} {elts : List Expr} {kk : Nat} {tpos : Pos} (x : Str) (t : Tok) (e it : Addr) :
    Turn P w K (.Tuple elts kk tpos) (ItS x) [e, it] e (fun i h => (∃ old, IsEnum h e it ((i : Nat) : Int) old) ∧ h.IsStrIter it (strIterType x) x t i ∧ e ≠ it ∧ i ≤ x.cps.size) where
  mem := by simp
  obj := fun i h st b hb => by
    obtain ⟨⟨old, he⟩, ⟨o, ho, hc, hd⟩, _⟩ := st
    have e' : b = e ∨ b = it := by simpa using hb
    rcases e' with z | z
    · rw [z]; exact ⟨_, he, fun v q => nomatch q⟩
    · rw [z]; exact ⟨o, ho, fun v q => by rw [hd] at q; cases q⟩
  keep := fun i h h' st k => let ⟨⟨old, he⟩, ⟨o, ho, r⟩, hne⟩ := st; ⟨⟨old, k e (by simp) _ he⟩, ⟨o, k it (by simp) o ho, r⟩, hne⟩
  item := by
    intro X hP hw hK hc i pins s σ H E I hf st hg
    subst hP hw hK
    obtain ⟨⟨old, he⟩, hit, hne, hle⟩ := st
    have hel : e < s.heap.objs.size := Heap.lt_size he
    have hil : it < s.heap.objs.size := by obtain ⟨_, q, _⟩ := hit; exact Heap.lt_size q
    have D := draws_str (prog := X.prog) (w := X.w) (A := X.A.in1) (I.ok.hd hc) it x t
    refine wpAny_pyNext_enum_itemD D he hit hg hne (by simpa using hne) fun u h' tk hP ho hit' hT hsz hk => ?_
    obtain ⟨c, tu, hcx, rfl⟩ := hP
    refine ⟨_, rfl, wpAny_letOwnedTupleGo_enum (s := { s with heap := h', toks := tk + 1 }) ho fun h'' he' sb => ?_⟩
    have hT2 : h''.get? s.heap.objs.size = some { cls := .type "tuple", data := .seq #[.int i tk, .str ⟨#[c]⟩ tu] } := (sb.2 _ (Nat.ne_of_gt hel)).trans hT
    have new : ObjOk X.prog X.w (upd H s.heap.objs.size (.tup [.int (i : Nat), .str ⟨#[c]⟩])) h'' s.heap.objs.size (.tup [.int (i : Nat), .str ⟨#[c]⟩]) :=
      ⟨by show 2 ≤ sizeLine; decide, [.int i tk, .str ⟨#[c]⟩ tu], .cons ⟨_, rfl⟩ (.cons ⟨_, rfl⟩ .nil), ⟨_, hT2, rfl, _, rfl⟩⟩
    have I1 : Inv X pins σ (upd H s.heap.objs.size (.tup [.int (i : Nat), .str ⟨#[c]⟩])) { s with heap := h'', toks := tk + 1 } :=
      I.turnedNew (ch := [e, it]) (fun b ob hb q => (sb.2 b (fun z => hb (by simp [z]))).trans (hk b ob (fun z => hb (by simp [z])) (fun z => hb (by simp [z])) q)) hf (Nat.le_refl _) new
    refine ⟨.ref s.heap.objs.size, _, I1, rfl, ⟨_, c, rfl, I.hok.fresh (Nat.le_refl _), rfl, hcx⟩, ⟨⟨.str ⟨#[c]⟩ tu, ?_⟩, ?_, hne, hg⟩, fun b hb => ?_⟩
    · have e1 : ((i + 1 : Nat) : Int) = (i : Int) + 1 := by omega
      rw [e1]; exact he'
    · obtain ⟨o, q, r⟩ := hit'
      exact ⟨o, (sb.2 it (Ne.symm hne)).trans q, r⟩
    · have hb' : b < s.heap.objs.size := by
        have e' : b = e ∨ b = it := by simpa using hb
        rcases e' with z | z
        · rw [z]; exact hel
        · rw [z]; exact hil
      rw [upd_ne (Nat.ne_of_lt hb')]
      exact (hf b hb).1
  done := by
    intro X hP hw hK hc i pins s σ H E I hf st hg
    subst hP hw hK
    obtain ⟨⟨old, he⟩, hit, hne, hle⟩ := st
    obtain ⟨f0, f1, f2, f3, f4, f5⟩ := hf it (by simp)
    have D := draws_str (prog := X.prog) (w := X.w) (A := X.A.in1) (I.ok.hd hc) it x t
    have ei : i = x.cps.size := Nat.le_antisymm hle hg
    subst ei
    exact wpAny_pyNext_enum_endD D he hit fun h' eb => ⟨rfl, I.turned (t' := s.toks) (fun b o hb q => eb b o hb q) f0 f1 f3 f4 f5⟩
  self := fun A i s Q E st h => let ⟨⟨_, he⟩, _⟩ := st; wpAny_pyIter_enum he h
theorem pi_of {X : Cx} {tg e : Expr} {te : TE} {P : V → Hp → (It → Hp → Prop) → Prop} (he : PE X e te) (hp : ∀ (pins : List (Addr × Obj)) (s : Shared) (σ : St) (H : Hp) (x : V) (v : Value) (R : It → Hp → Prop), Inv X pins σ H s → RelV x v → P x H R →
    wpAny (model X.prog X.w) X.A (pyIter v) (PIE X pins σ tg R) X.xe s) : PI X tg e (fun σ H R => te σ H fun x H1 => P x H1 R) := by
  refine ⟨fun pins s σ H R I h => ?_⟩
  exact thn (he.run pins s σ H _ I h) fun v s1 ⟨x, H1, I1, r1, q1⟩ => hp pins s1 σ H1 x v R I1 r1 q1
/-- a list, a tuple, a text -/
def pSeq (K : PySem.W.Frag) : V → Hp → (It → Hp → Prop) → Prop := fun x H R => (∃ a, x = .ref a ∧ (∃ xs, SqL K H a xs) ∧ R (Itl K a) H) ∨ (∃ a, x = .ref a ∧ (∃ xs, SqT K H a xs) ∧ R (Itt K a) H) ∨ ∃ z, x = .str z ∧ R (Its z) H
theorem pi_seq {X : Cx} {tg e : Expr} {te : TE} (he : PE X e te) : PI X tg e (fun σ H R => te σ H fun x H1 => pSeq X.K x H1 R) := pi_of he fun pins s1 σ H1 x v R I1 r1 q1 => by
  rcases q1 with ⟨a, e, ⟨xs, hq⟩, q⟩ | ⟨a, e, ⟨xs, hq⟩, q⟩ | ⟨z, ex, q⟩
  · subst e
    cases r1
    obtain ⟨its, rv, p, hz⟩ := I1.list hq
    refine wpAny_pyIter_list p.isList ?_
    refine ⟨s1.heap.objs.size, [s1.heap.objs.size], _, _, H1, rfl, I1.kept (t' := s1.toks) fun b o e => Heap.get?_push_of_some _ e, turn_list a _, ⟨_, Heap.get?_push_size _ rfl, rfl, rfl⟩, fun b hb => ?_, q⟩
    have e : b = s1.heap.objs.size := by simpa using hb
    subst e
    exact I1.fpOk (Nat.le_refl _) (I1.hok.fresh (Nat.le_refl _))
  · subst e
    cases r1
    obtain ⟨its, rv, p, hz⟩ := I1.tuple hq
    refine wpAny_pyIter_tuple (show s1.heap.IsTuple a its.toArray from p) ?_
    refine ⟨s1.heap.objs.size, [s1.heap.objs.size], _, _, H1, rfl, I1.kept (t' := s1.toks) fun b o e => Heap.get?_push_of_some _ e, turn_tuple a _, ⟨_, Heap.get?_push_size _ rfl, rfl, rfl⟩, fun b hb => ?_, q⟩
    have e : b = s1.heap.objs.size := by simpa using hb
    subst e
    exact I1.fpOk (Nat.le_refl _) (I1.hok.fresh (Nat.le_refl _))
  · subst ex
    obtain ⟨t, rfl⟩ := r1
    cases ha : z.cps.all (· < 128)
    · exact wpAny_pyIter_wide ha (pi_one (tk := s1.toks) I1 _ (turn_str _ z t "str_iterator" (.inr rfl)) ⟨_, Heap.get?_push_size _ rfl, rfl, rfl⟩ q)
    · exact wpAny_pyIter_ascii ha (pi_one (tk := s1.toks) I1 _ (turn_str _ z t "str_ascii_iterator" (.inl rfl)) ⟨_, Heap.get?_push_size _ rfl, rfl, rfl⟩ q)
/-- enumerate of a list or a text -/
theorem pi_enumA {X : Cx} {e : Expr} {ta : TA} {p pos tpos : Pos} {elts : List Expr} {kk : Nat} (hg : Gl X "enumerate") (hm : X.mg "enumerate" = none) (ha : PA X [e] ta) (hs : starEach [e] X.env = [(false, eval e X.env)] := by rfl) :
    PI X (.Tuple elts kk tpos) (.Call (.Name "enumerate" p) [e] [] pos) (fun σ H R => ta σ H fun vs H1 => (∃ a xs, vs = [.ref a] ∧ SqL X.K H1 a xs ∧ R (Ite X.K a) H1) ∨ ∃ z, vs = [.str z] ∧ R (ItS z) H1) := by
  refine ⟨fun pins s σ H R I h => ?_⟩
  refine Call_ (ld_blt I hg hm boot_enumerate (PyProof.Rows.callWith_type1 (thn (ha.run pos pins s σ H _ I h) fun us s1 ⟨vs, H1, I1, r1, q1⟩ => ?_) hs rfl))
  have fin : ∀ (b : Addr), (b = s1.heap.objs.size + 1 ∨ b = s1.heap.objs.size) → FpOk X pins H1 b := fun b e' => by
    have hle : s1.heap.objs.size ≤ b := by
      rcases e' with z | z
      · rw [z]; exact Nat.le_add_right _ _
      · rw [z]; exact Nat.le_refl _
    exact I1.fpOk hle (I1.hok.fresh hle)
  rcases q1 with ⟨a, xs, ex, hq, q⟩ | ⟨z, ex, q⟩
  · subst ex
    cases r1 with
    | cons r rr =>
      cases rr
      cases r
      obtain ⟨its, rv, p', hz⟩ := I1.list hq
      refine call_enumerate_list p'.isList fun h' he hit hsz hk => wpAny_pyIter_enum he ?_
      have I2 : Inv X pins σ H1 { s1 with heap := h' } := I1.kept (t' := s1.toks) hk
      exact ⟨s1.heap.objs.size + 1, [s1.heap.objs.size + 1, s1.heap.objs.size], _, _, H1, rfl, I2, turn_enum a (s1.heap.objs.size + 1) s1.heap.objs.size, ⟨⟨.none, he⟩, hit, Nat.succ_ne_self _⟩, fun b hb => fin b (by simpa using hb), q⟩
  · subst ex
    cases r1 with
    | cons r rr =>
      cases rr
      obtain ⟨t, rfl⟩ := r
      refine call_enumerate_str fun h' he hit hsz hk => wpAny_pyIter_enum he ?_
      have I2 : Inv X pins σ H1 { s1 with heap := h' } := I1.kept (t' := s1.toks) hk
      exact ⟨s1.heap.objs.size + 1, [s1.heap.objs.size + 1, s1.heap.objs.size], _, _, H1, rfl, I2, turn_enumS z t (s1.heap.objs.size + 1) s1.heap.objs.size, ⟨⟨.none, he⟩, hit, Nat.succ_ne_self _, Nat.zero_le _⟩, fun b hb => fin b (by simpa using hb), q⟩
theorem walk_enumS {x : Str} : Walk (ItS x) x.cps.size (fun _ => True) (YPair (fun i => some (.int (i : Nat))) (fun i => x.cps[i]?.map fun c => .str ⟨#[c]⟩)) := by
  refine ⟨fun i _ hi q => hi, fun _ q => Nat.le_refl _, fun i H v H' hi q y => ?_⟩
  obtain ⟨T, c, h1, h2, h3, h4⟩ := y
  exact ⟨T, .int (i : Nat), .str ⟨#[c]⟩, h1, h2, h3, rfl, by show Option.map _ (x.cps[i]?) = _; rw [h4]; rfl⟩
end L2
namespace PV
open PySem PySem.Spec PyProof.Rows L2
section
variable {C : Ctx} {xa : XA} {K : PySem.W.Frag} {mg : Str → Option Value} {F G H : Hp} {e : Env} {σ : L2.St} {τ xs : List (Option V)} {W : WX} {Q : V → Hp → Prop}
/-- an item that has come: as it stands, or in a new pair -/
def YD (K : PySem.W.Frag) (G : Hp) (d : D) (H : Hp) (x : V) (H' : Hp) : Prop := (H' = H ∧ Rep K G d x) ∨ ∃ a b T u v, d = .tup [a, b] ∧ x = .ref T ∧ H T = none ∧ H' = upd H T (.tup [u, v]) ∧ Rep K G a u ∧ Rep K G b v
def WalkD (K : PySem.W.Frag) (G : Hp) (J : It) (items : List D) : Prop := Walk J items.length (fun H => Ex G H) fun i H x H' => ∃ d, items[i]? = some d ∧ YD K G d H x H'
def QIt (K : PySem.W.Frag) (mg : Str → Option Value) (xa : XA) (F : Hp) (xs : List (Option V)) (R : It → Hp → Prop) : List D → Env → Hp → Prop := fun items e' G => ∀ J ys H' G', Ex G G' → RS K mg xa F G' e' (xs ++ ys) H' → WalkD K G' J items → R J H'
theorem QIt.mono {R : It → Hp → Prop} : Mono (QIt K mg xa F xs R) := fun r e G G' x h J ys H' G2 y => h J ys H' G2 (x.trans y)
def rdI (C : Ctx) (xa : XA) (K : PySem.W.Frag) (mg : Str → Option Value) (k : Ik) (src : List CE) (W : WX) : TI := fun σ H R => ∃ e τ F G, RS K mg xa F G e (σ ++ τ) H ∧ Post K mg xa F σ W G (QIt K mg xa F (σ ++ τ) R) (evi k (evs C src e))
structure VI (C : Ctx) (xa : XA) (X : Cx) (tg e : Expr) (k : Ik) (c : List CE) : Prop where
  pi : ∀ W, Takes X W → PI X tg e (rdI C xa X.K X.mg k c W)
theorem rd_it {k : Ik} {src : List CE} {R : It → Hp → Prop} {r2 : List V → Hp → Prop} (h : rdI C xa K mg k src W σ H R)
    (hr : ∀ (G H : Hp) (ds items : List D) (vs : List V), itF k ds = some items → Ex G H → Reps K G ds vs → (∀ J, WalkD K G J items → R J H) → r2 vs H) : rdA C xa K mg src W σ H r2 := by
  obtain ⟨e, τ, F, G, r, q⟩ := h
  unfold evi at q
  refine rd_args r q QIt.mono fun as e1 vs zs H1 G1 x1 r1 o1 q1 => ?_
  obtain ⟨⟨ds, e2⟩, z1, q2⟩ := Post.lift q1
  obtain ⟨items, z2, q3⟩ := Post.lift q2
  obtain ⟨G2, x2, r2', p2, l2⟩ := RS.keeps as r1 o1 z1
  rw [← List.append_assoc] at r2'
  exact hr G2 H1 ds items vs z2 r2'.gh p2 fun J w => Post.mono QIt.mono x2 q3 J zs H1 G2 (Ex.refl _) r2' w
theorem rd_one {c : CE} {R : List V → Hp → Prop} (h : rdA C xa K mg [c] W σ H R) : rdE C xa K mg c W σ H fun x H1 => R [x] H1 := by
  obtain ⟨e, τ, F, G, r, q⟩ := h
  rw [evs.eq_def] at q
  refine rd_opd r q QA.mono fun a e1 v zs H1 G1 x1 r1 o1 q1 => ?_
  rw [evs.eq_def] at q1
  have e9 : σ ++ (τ ++ zs) = σ ++ τ ++ zs := by simp only [List.append_assoc]
  rw [e9] at r1 o1
  exact q1 [v] zs H1 G1 (Ex.refl _) r1 ⟨v, [], rfl, o1, rfl⟩
theorem QA.imp {cs : List CE} {R R' : List V → Hp → Prop} (h : rdA C xa K mg cs W σ H R) (k : ∀ vs H, R vs H → R' vs H) : rdA C xa K mg cs W σ H R' := by
  obtain ⟨e, τ, F, G, r, q⟩ := h
  exact ⟨e, τ, F, G, r, Post.imp (fun as e' _ z vs ys H' G' x r' o => k _ _ (z vs ys H' G' x r' o)) q⟩
theorem pi_imp {X : Cx} {tg e : Expr} {t t' : TI} (h : PI X tg e t) (k : ∀ σ H R, t' σ H R → t σ H R) : PI X tg e t' := ⟨fun pins s σ H R I q => h.run pins s σ H R I (k σ H R q)⟩
theorem reps1 {ds : List D} {vs : List V} {d : D} (h : Reps K G ds vs) (e : ds = [d]) : ∃ v, vs = [v] ∧ Rep K G d v := by
  subst e
  obtain ⟨v, r, rfl, h1, h2⟩ := h
  exact ⟨v, by rw [show r = [] from h2], h1⟩
theorem reps2 {ds : List D} {vs : List V} {d e : D} (h : Reps K G ds vs) (q : ds = [d, e]) : ∃ v w, vs = [v, w] ∧ Rep K G d v ∧ Rep K G e w := by
  subst q
  obtain ⟨v, r, rfl, h1, h2⟩ := h
  obtain ⟨w, h3, h4⟩ := reps1 h2 rfl
  exact ⟨v, w, by rw [h3], h1, h4⟩
theorem reps_at {ds : List D} {vs : List V} {i : Nat} {v : V} (h : Reps K G ds vs) (q : vs[i]? = some v) : ∃ d, ds[i]? = some d ∧ Rep K G d v := by
  have hi : i < ds.length := by rw [h.len]; exact (List.getElem?_eq_some_iff.mp q).1
  obtain ⟨w, h1, h2⟩ := reps_get h (List.getElem?_eq_getElem hi)
  rw [q] at h1
  cases h1
  exact ⟨_, List.getElem?_eq_getElem hi, h2⟩
/-- cases of what is walked -/
inductive ItC : Ik → List D → List D → Prop
  | lst (ds : List D) : ItC .seq [.lst ds] ds
  | tup (ds : List D) : ItC .seq [.tup ds] ds
  | str (z : Str) (h : z.length ≤ LIM) : ItC .seq [.str z] (z.cps.toList.map fun c => .str ⟨#[c]⟩)
  | rng1 (n : Int) (h : -(2 ^ 62) ≤ n ∧ n.toNat < LIM) : ItC .rng [.int n] ((List.range n.toNat).map fun (i : Nat) => .int (i : Int))
  | rng2 (a b : Int) (h : -(2 ^ 62) ≤ a ∧ a.toNat < 2 ^ 62 ∧ -(2 ^ 62) ≤ b ∧ b.toNat < 2 ^ 62 ∧ (b - a).toNat < LIM) : ItC .rng [.int a, .int b] ((List.range (b - a).toNat).map fun (i : Nat) => .int (a + (i : Int)))
  | enumL (ds : List D) : ItC .enum [.lst ds] (ds.zipIdx.map fun (d, i) => .tup [.int i, d])
  | enumS (z : Str) (h : z.length ≤ LIM) : ItC .enum [.str z] (z.cps.toList.zipIdx.map fun (c, i) => .tup [.int i, .str ⟨#[c]⟩])
  | zip (ds es : List D) : ItC .zip [.lst ds, .lst es] ((ds.zip es).map fun (a, b) => .tup [a, b])
theorem itc {k : Ik} {xs items : List D} (h : itF k xs = some items) : ItC k xs items := by
  unfold itF at h
  split at h
  · cases h; exact .lst _
  · cases h; exact .tup _
  · split at h
    · cases h; exact .str _ (by assumption)
    · cases h
  · split at h
    · cases h; exact .rng1 _ (by assumption)
    · cases h
  · split at h
    · cases h; exact .rng2 _ _ (by assumption)
    · cases h
  · cases h; exact .enumL _
  · split at h
    · cases h; exact .enumS _ (by assumption)
    · cases h
  · cases h; exact .zip _ _
  · cases h
theorem rep_lst {ds : List D} {v : V} (h : Rep K G (.lst ds) v) : ∃ a vs, v = .ref a ∧ SqL K G a vs ∧ Reps K G ds vs := by
  obtain ⟨a, vs, h1, h2, h3⟩ := h
  exact ⟨a, vs, h1, .inl h2, h3⟩
/-- the walks of data -/
theorem wd_same {J : It} {items : List D} {n : Nat} {Gd : Hp → Prop} {Y : Nat → Hp → V → Hp → Prop} (w : Walk J n Gd Y) (hn : n = items.length) (hg : ∀ H, Ex G H → Gd H) (hy : ∀ i H x H', i < n → Y i H x H' → ∃ d, items[i]? = some d ∧ YD K G d H x H') : WalkD K G J items := by
  subst hn
  exact w.mono hg fun i H x H' hi _ y => hy i H x H' hi y
theorem wd_list {a : Addr} {vs : List V} {ds : List D} (h : SqL K G a vs) (r : Reps K G ds vs) : WalkD K G (Itl K a) ds :=
  wd_same (walk_list (K := K) (a := a) (xs := vs)) r.len.symm (fun H x => ex_l x h) fun i H x H' hi y => by
    obtain ⟨d, h1, h2⟩ := reps_at r y.2
    exact ⟨d, h1, .inl ⟨y.1, h2⟩⟩
theorem wd_tup {a : Addr} {vs : List V} {ds : List D} (h : SqT K G a vs) (r : Reps K G ds vs) : WalkD K G (Itt K a) ds :=
  wd_same (walk_tup (K := K) (a := a) (xs := vs)) r.len.symm (fun H x => ex_t x h) fun i H x H' hi y => by
    obtain ⟨d, h1, h2⟩ := reps_at r y.2
    exact ⟨d, h1, .inl ⟨y.1, h2⟩⟩
theorem wd_str {z : Str} : WalkD K G (Its z) (z.cps.toList.map fun c => .str ⟨#[c]⟩) :=
  wd_same (walk_str (z := z)) (by simp) (fun H x => trivial) fun i H x H' hi y => by
    obtain ⟨e, c, h1, h2⟩ := y
    exact ⟨.str ⟨#[c]⟩, by rw [List.getElem?_map, Array.getElem?_toList, h1]; rfl, .inl ⟨e, h2⟩⟩
theorem wd_range {lo : Int} {n : Nat} : WalkD K G (Itr lo n) ((List.range n).map fun (i : Nat) => .int (lo + (i : Int))) :=
  wd_same (walk_range (lo := lo) (n := n)) (by simp) (fun H x => trivial) fun i H x H' hi y => ⟨.int (lo + (i : Int)), by simp [hi], .inl ⟨y.1, y.2⟩⟩
theorem wd_enum {a : Addr} {vs : List V} {ds : List D} (h : SqL K G a vs) (r : Reps K G ds vs) : WalkD K G (Ite K a) (ds.zipIdx.map fun (d, i) => .tup [.int i, d]) :=
  wd_same (walk_enum (K := K) (a := a) (xs := vs)) (by simp [r.len]) (fun H x => ex_l x h) fun i H x H' hi y => by
    obtain ⟨T, u, v, h1, h2, h3, h4, h5⟩ := y
    obtain ⟨d, h6, h7⟩ := reps_at r h5
    refine ⟨.tup [.int (i : Nat), d], ?_, .inr ⟨.int (i : Nat), d, T, u, v, rfl, h1, h2, h3, ?_, h7⟩⟩
    · rw [List.getElem?_map, List.getElem?_zipIdx, h6]
      simp
    · cases h4
      rfl
theorem wd_enumS {z : Str} : WalkD K G (ItS z) (z.cps.toList.zipIdx.map fun (c, i) => .tup [.int i, .str ⟨#[c]⟩]) :=
  wd_same (walk_enumS (x := z)) (by simp) (fun H x => trivial) fun i H x H' hi y => by
    obtain ⟨T, u, v, h1, h2, h3, h4, h5⟩ := y
    replace h5 : (z.cps[i]?).map (fun c => V.str ⟨#[c]⟩) = some v := h5
    cases q : z.cps[i]? with
    | none => rw [q] at h5; cases h5
    | some c =>
      rw [q] at h5
      refine ⟨.tup [.int (i : Nat), .str ⟨#[c]⟩], ?_, .inr ⟨.int (i : Nat), .str ⟨#[c]⟩, T, u, v, rfl, h1, h2, h3, ?_, ?_⟩⟩
      · rw [List.getElem?_map, List.getElem?_zipIdx, Array.getElem?_toList, q]
        simp
      · cases h4; rfl
      · cases h5; rfl
theorem wd_zip {a b : Addr} {vs ws : List V} {ds es : List D} (h : SqL K G a vs) (r : Reps K G ds vs) (h' : SqL K G b ws) (r' : Reps K G es ws) : WalkD K G (Itz K a b) ((ds.zip es).map fun (a, b) => .tup [a, b]) :=
  wd_same (walk_zip (K := K) (a := a) (b := b) (xs := vs) (ys := ws) rfl) (by simp [r.len, r'.len]) (fun H x => ⟨ex_l x h, ex_l x h'⟩) fun i H x H' hi y => by
    obtain ⟨T, u, v, h1, h2, h3, h4, h5⟩ := y
    obtain ⟨d, h6, h7⟩ := reps_at r h4
    obtain ⟨e, h8, h9⟩ := reps_at r' h5
    refine ⟨.tup [d, e], ?_, .inr ⟨d, e, T, u, v, rfl, h1, h2, h3, h7, h9⟩⟩
    rw [List.getElem?_map, List.getElem?_zip_eq_some (z := (d, e)) |>.mpr ⟨h6, h8⟩]
    rfl
end
section
variable {C : Ctx} {xa : XA} {X : Cx} {a b : Expr} {c c2 : CE} {p pos tpos : Pos} {tg : Expr} {elts : List Expr} {kk : Nat}
theorem rd_one' {K : PySem.W.Frag} {mg : Str → Option Value} {σ : L2.St} {H : Hp} {W : WX} {c : CE} {R : V → Hp → Prop} (h : rdA C xa K mg [c] W σ H fun vs H1 => ∃ x, vs = [x] ∧ R x H1) : rdE C xa K mg c W σ H R := by
  obtain ⟨e, τ, F, G, r, q⟩ := rd_one h
  refine ⟨e, τ, F, G, r, Post.imp (fun res e' _ z => ?_) q⟩
  cases res with
  | frs o =>
    intro v H' G' x r'
    obtain ⟨y, h1, h2⟩ := z v H' G' x r'
    cases h1
    exact h2
  | at_ a =>
    intro v H' G' x r' o
    obtain ⟨y, h1, h2⟩ := z v H' G' x r' o
    cases h1
    exact h2
theorem vi_seq (ha : VE C xa X a c) : VI C xa X tg a .seq [c] := ⟨fun W tk => pi_imp (pi_seq (ha.pe W tk)) fun σ H R q => rd_one' (rd_it q fun G H ds items vs z x r k => by
  cases itc z with
  | lst es =>
    obtain ⟨v, rfl, h1⟩ := reps1 r rfl
    obtain ⟨a, ws, rfl, h2, h3⟩ := rep_lst h1
    exact ⟨_, rfl, .inl ⟨a, rfl, ⟨ws, ex_l x h2⟩, k _ (wd_list h2 h3)⟩⟩
  | tup es =>
    obtain ⟨v, rfl, h1⟩ := reps1 r rfl
    obtain ⟨a, ws, rfl, h2, h3⟩ := h1
    exact ⟨_, rfl, .inr (.inl ⟨a, rfl, ⟨ws, ex_t x h2⟩, k _ (wd_tup h2 h3)⟩)⟩
  | str zz hz =>
    obtain ⟨v, rfl, h1⟩ := reps1 r rfl
    exact ⟨_, rfl, .inr (.inr ⟨zz, h1, k _ wd_str⟩)⟩)⟩
theorem wd_range0 {K : PySem.W.Frag} {G : Hp} {n : Nat} : WalkD K G (Itr 0 n) ((List.range n).map fun (i : Nat) => .int (i : Int)) := by
  have h : ((List.range n).map fun (i : Nat) => D.int (i : Int)) = (List.range n).map fun (i : Nat) => D.int (0 + (i : Int)) := by
    refine List.map_congr_left fun i _ => ?_
    rw [Int.zero_add]
  rw [h]
  exact wd_range
theorem vi_rng1 (hg : Gl X "range") (hm : X.mg "range" = none) (ha : VA C xa X [a] [c]) (hs : starEach [a] X.env = [(false, eval a X.env)] := by rfl) : VI C xa X tg (.Call (.Name "range" p) [a] [] pos) .rng [c] := ⟨fun W tk => pi_imp (pi_range1 hg hm (ha.pa W tk) hs) fun σ H R q => QA.imp (QA.len (rd_it (r2 := fun vs H1 => vs.length = 1 → ∃ j : Int, vs = [.int j] ∧ -(2 ^ 62) ≤ j ∧ j < 2 ^ 62 ∧ R (Itr 0 j.toNat) H1) q fun G H ds items vs z x r k hl => by
  cases itc z with
  | rng1 n h =>
    obtain ⟨v, rfl, h1⟩ := reps1 r rfl
    have : LIM ≤ 1000000 := by unfold LIM; decide
    exact ⟨n, by rw [show v = .int n from h1], h.1, by omega, k _ wd_range0⟩
  | rng2 a b h =>
    obtain ⟨v, w, rfl, h1, h2⟩ := reps2 r rfl
    cases hl)) fun vs H1 z => z.2 z.1⟩
theorem vi_rng2 (hg : Gl X "range") (hm : X.mg "range" = none) (ha : VA C xa X [a, b] [c, c2]) (hs : starEach [a, b] X.env = [(false, eval a X.env), (false, eval b X.env)] := by rfl) (hs2 : starEach [b] X.env = [(false, eval b X.env)] := by rfl) : VI C xa X tg (.Call (.Name "range" p) [a, b] [] pos) .rng [c, c2] := ⟨fun W tk => pi_imp (pi_range2 hg hm (ha.pa W tk) hs hs2) fun σ H R q => QA.imp (QA.len (rd_it (r2 := fun vs H1 => vs.length = 2 → ∃ i j : Int, vs = [.int i, .int j] ∧ (-(2 ^ 62) ≤ i ∧ i < 2 ^ 62 ∧ -(2 ^ 62) ≤ j ∧ j < 2 ^ 62) ∧ R (Itr i (j - i).toNat) H1) q fun G H ds items vs z x r k hl => by
  cases itc z with
  | rng1 n h =>
    obtain ⟨v, rfl, h1⟩ := reps1 r rfl
    cases hl
  | rng2 a b h =>
    obtain ⟨v, w, rfl, h1, h2⟩ := reps2 r rfl
    exact ⟨a, b, by rw [show v = .int a from h1, show w = .int b from h2], ⟨h.1, by have := h.2.1; omega, h.2.2.1, by have := h.2.2.2.1; omega⟩, k _ wd_range⟩)) fun vs H1 z => z.2 z.1⟩
theorem vi_enum (hg : Gl X "enumerate") (hm : X.mg "enumerate" = none) (ha : VA C xa X [a] [c]) (hs : starEach [a] X.env = [(false, eval a X.env)] := by rfl) : VI C xa X (.Tuple elts kk tpos) (.Call (.Name "enumerate" p) [a] [] pos) .enum [c] := ⟨fun W tk => pi_imp (pi_enumA hg hm (ha.pa W tk) hs) fun σ H R q => rd_it q fun G H ds items vs z x r k => by
  cases itc z with
  | enumL es =>
    obtain ⟨v, rfl, h1⟩ := reps1 r rfl
    obtain ⟨a, ws, rfl, h2, h3⟩ := rep_lst h1
    exact .inl ⟨a, ws, rfl, ex_l x h2, k _ (wd_enum h2 h3)⟩
  | enumS zz hz =>
    obtain ⟨v, rfl, h1⟩ := reps1 r rfl
    exact .inr ⟨zz, by rw [show v = .str zz from h1], k _ wd_enumS⟩⟩
theorem vi_zip (hg : Gl X "zip") (hm : X.mg "zip" = none) (ha : VA C xa X [a, b] [c, c2]) (hs : starEach [a, b] X.env = (false, eval a X.env) :: starEach [b] X.env := by rfl) (hpl : (backTo pos (starEach [b] X.env)).any (·.1) = false := by rfl) : VI C xa X (.Tuple elts kk tpos) (.Call (.Name "zip" p) [a, b] [] pos) .zip [c, c2] := ⟨fun W tk => pi_imp (pi_zip hg hm (ha.pa W tk) hs hpl) fun σ H R q => rd_it q fun G H ds items vs z x r k => by
  cases itc z with
  | zip ds es =>
    obtain ⟨v, w, rfl, h1, h2⟩ := reps2 r rfl
    obtain ⟨a, vs, rfl, h3, h4⟩ := rep_lst h1
    obtain ⟨b, ws, rfl, h5, h6⟩ := rep_lst h2
    exact ⟨a, b, vs, ws, rfl, ex_l x h3, ex_l x h5, k _ (wd_zip h3 h4 h5 h6)⟩⟩
end
end PV
end

section
set_option Elab.async false
set_option linter.all false
set_option maxRecDepth 100000
set_option maxHeartbeats 4000000
/-! PV15: targets, comprehensions -/
namespace PV
open PySem PySem.Spec PyProof.Rows L2
def gNames : List Nat → TGs
  | [] => gNil
  | i :: is => gCons (gName i) (gNames is)
def gOf (K : PySem.W.Frag) : Tg → TG
  | .nm i => gName i
  | .tup ts => gTup K ts.length (gNames ts)
structure VG (X : Cx) (e : Expr) (c : Tg) : Prop where
  pg : PG X e (gOf X.K c)
structure VGs (X : Cx) (es : List Expr) (c : List Nat) : Prop where
  pgs : PGs X es (gNames c)
section
variable {X : Cx} {pos : Pos}
theorem vg_nm {i : Nat} {x : Str} (hN : X.N.Nodup) (hi : X.N[i]? = some x) (hx : Loc X.env.scope x) (hf : X.fn x = true ∨ X.env.scope.names.lookup x = some .local := by first | exact .inl rfl | exact .inr rfl | assumption) : VG X (.Name x pos) (.nm i) := ⟨pg_name hN hi hx hf⟩
theorem vgs_nil : VGs X [] [] := ⟨pgs_nil⟩
theorem vgs_cons {e : Expr} {es : List Expr} {i : Nat} {is : List Nat} (h : VG X e (.nm i)) (h2 : VGs X es is) (hs : (assignEach (e :: es) X.env).map (·.2) = assign e X.env :: (assignEach es X.env).map (·.2) := by rfl) : VGs X (e :: es) (i :: is) := ⟨pgs_cons h.pg h2.pgs hs⟩
theorem vg_tup {es : List Expr} {k : Nat} {is : List Nat} (hc : X.calm = true) (h : VGs X es is) (hn : (assignEach es X.env).length = is.length := by rfl) (hst : (assignEach es X.env).findIdx? (·.1) = none := by rfl) : VG X (.Tuple es k pos) (.tup is) := ⟨pg_tup hc h.pgs hn hst⟩
end
section
variable {C : Ctx} {xa : XA} {K : PySem.W.Frag} {mg : Str → Option Value} {F G H : Hp} {e : Env} {σ : L2.St} {τ xs : List (Option V)} {W : WX} {Q : V → Hp → Prop}
theorem RS.put (r : RS K mg xa F G e xs H) {i : Nat} {d : D} {p : Option Nat} {v : V} (hi : i < e.length) (h : Rep K G d v) (hp : PinR xa p (some v) := by exact pin0) : RS K mg xa F G (e.set i (.fro d p)) (xs.set i (some v)) H := by
  obtain ⟨x, fo, fp, _, _, _, _, _, _, k6, k7⟩ := r.open_ hi
  exact k7 H G _ _ [] (Ex.refl _) r.gh r.fh r.gf (fun a ha => ⟨rfl, (k6 a ha).2⟩) ⟨rfl, hp, v, rfl, h⟩ List.nodup_nil (fun a z => nomatch z) fun a z => nomatch z
theorem RS.non_ (r : RS K mg xa F G e xs H) {i : Nat} {x : Option V} (hi : i < e.length) : RS K mg xa F G (e.set i .non) (xs.set i x) H := by
  obtain ⟨_, fo, fp, _, _, _, _, _, _, k6, k7⟩ := r.open_ hi
  exact k7 H G _ _ [] (Ex.refl _) r.gh r.fh r.gf (fun a ha => ⟨rfl, (k6 a ha).2⟩) rfl List.nodup_nil (fun a z => nomatch z) fun a z => nomatch z
theorem slotsPut_cons {e e3 : Env} {i : Nat} {is : List Nat} {ds : List D} (h : slotsPut e (i :: is) ds = some e3) : ∃ d r, ds = d :: r ∧ i < e.length ∧ slotsPut (e.set i (.fro d none)) is r = some e3 := by
  cases ds with
  | nil => cases h
  | cons d r =>
    unfold slotsPut at h
    split at h
    · refine ⟨d, r, rfl, by assumption, ?_⟩
      split at h
      · cases h
      · cases h
      · exact h
    · cases h
theorem slotsPut_lt : ∀ {is : List Nat} {ds : List D} {e e3 : Env}, slotsPut e is ds = some e3 → ∀ i ∈ is, i < e.length
  | [], _, _, _, _, i, hi => by cases hi
  | j :: is, ds, e, e3, h, i, hi => by
    obtain ⟨d, r, _, h1, h2⟩ := slotsPut_cons h
    rcases List.mem_cons.mp hi with z | z
    · rw [z]; exact h1
    · have := slotsPut_lt h2 i z
      rw [List.length_set] at this
      exact this
/-- what a target leaves of the slots -/
def Same (is : List Nat) (σ σ' : L2.St) : Prop := σ'.length = σ.length ∧ ∀ i, i ∉ is → σ'[i]? = σ[i]?
theorem set_tail {α : Type} {σ τ : List α} {i : Nat} {x : α} (h : i < σ.length) : (σ ++ τ).set i x = σ.set i x ++ τ := List.set_append_left _ _ h
theorem rd_names {R : L2.St → Hp → Prop} : ∀ {is : List Nat} {ds : List D} {vs : List V} {e e3 : Env} {σ : L2.St}, RS K mg xa F G e (σ ++ τ) H → Reps K G ds vs → slotsPut e is ds = some e3 → (∀ i ∈ is, i < σ.length) →
    (∀ σ', Same is σ σ' → RS K mg xa F G e3 (σ' ++ τ) H → R σ' H) → gNames is vs σ H R
  | [], ds, vs, e, e3, σ, r, hr, hp, hi, k => by
    have e1 : ds = [] ∧ e3 = e := by
      cases ds with
      | nil => exact ⟨rfl, (Option.some.inj hp).symm⟩
      | cons d ds => cases hp
    obtain ⟨rfl, rfl⟩ := e1
    rw [show vs = [] from hr]
    exact ⟨rfl, k σ ⟨rfl, fun _ _ => rfl⟩ r⟩
  | i :: is, ds, vs, e, e3, σ, r, hr, hp, hi, k => by
    obtain ⟨d, ds', rfl, _, hp2⟩ := slotsPut_cons hp
    obtain ⟨v, vr, rfl, h1, h2⟩ := hr
    have li := hi i List.mem_cons_self
    have le : i < e.length := by rw [r.len, List.length_append]; omega
    have r2 := r.put (p := none) le h1
    rw [set_tail li] at r2
    refine ⟨v, vr, rfl, rd_names r2 h2 hp2 (fun j hj => by rw [List.length_set]; exact hi j (List.mem_cons_of_mem _ hj)) fun σ' hs r3 => k σ' ⟨hs.1.trans (List.length_set ..), fun j hj => ?_⟩ r3⟩
    simp only [List.mem_cons, not_or] at hj
    rw [hs.2 j hj.2, List.getElem?_set_ne (Ne.symm hj.1)]
theorem tgF_tup {ts : List Nat} {d : D} {e e3 : Env} (h : tgF (.tup ts) d e = some e3) : ∃ ds, d = .tup ds ∧ ds.length = ts.length ∧ slotsPut e ts ds = some e3 := by
  cases d <;> simp only [tgF, reduceCtorEq] at h
  split at h
  · exact ⟨_, rfl, by assumption, h⟩
  · cases h
theorem rd_tg {R : L2.St → Hp → Prop} {tg : Tg} {d : D} {x : V} {e3 : Env} (r : RS K mg xa F G e (σ ++ τ) H) (hr : Rep K G d x) (h : tgF tg d e = some e3) (hi : ∀ i ∈ tg.all, i < σ.length)
    (k : ∀ σ', Same tg.all σ σ' → RS K mg xa F G e3 (σ' ++ τ) H → R σ' H) : gOf K tg x σ H R := by
  cases tg with
  | nm i =>
    have h' : slotsPut e [i] [d] = some e3 := h
    obtain ⟨v, vr, e1, q⟩ := rd_names (R := R) (is := [i]) (ds := [d]) (vs := [x]) r ⟨x, [], rfl, hr, rfl⟩ h' hi k
    cases e1
    exact q.2
  | tup ts =>
    obtain ⟨ds, rfl, h1, h2⟩ := tgF_tup h
    obtain ⟨a, vs, rfl, h3, h4⟩ := hr
    exact ⟨a, vs, rfl, ex_t r.gh h3, by rw [← h4.len, h1], rd_names r h4 h2 hi k⟩
/-- an item that has come is a value -/
theorem RS.came {G0 : Hp} {d : D} {x : V} {H' : Hp} (r : RS K mg xa F G e xs H) (x0 : Ex G0 G) (h : YD K G0 d H x H') : ∃ G', Ex G G' ∧ RS K mg xa F G' e xs H' ∧ Rep K G' d x := by
  rcases h with ⟨rfl, h⟩ | ⟨a, b, T, u, v, rfl, rfl, hT, rfl, h1, h2⟩
  · exact ⟨G, Ex.refl _, r, Rep.mono K x0 _ _ h⟩
  · have gT := (r.fresh hT).1
    have xx : Ex G (upd G T (.tup [u, v])) := ex_new gT
    exact ⟨_, xx, r.more hT, T, [u, v], rfl, .inl (.inl upd_same), u, [v], rfl, Rep.mono K (x0.trans xx) _ _ h1, v, [], rfl, Rep.mono K (x0.trans xx) _ _ h2, rfl⟩
/-! ### the new list is others' -/
theorem RS.addF (r : RS K mg xa F G e xs H) {p : Addr} {u : HO} (hp : H p = none) : RS K mg xa (upd F p u) G e xs (upd H p u) := by
  obtain ⟨fp, h, nd, ap⟩ := r.own
  obtain ⟨gp, fpn⟩ := r.fresh hp
  have kH : Ex H (upd H p u) := ex_new hp
  have np : ∀ a ∈ fp, a ≠ p := fun a ha z => by
    obtain ⟨u, q⟩ := h.there a ha
    rw [z, hp] at q
    cases q
  refine ⟨r.gh.trans kH, fun a o q => ?_, fun a o q => ?_, fp, h.mono (Ex.refl _) fun a ha => upd_ne (np a ha), nd, fun a ha => ⟨by rw [upd_ne (np a ha)]; exact (ap a ha).1, (ap a ha).2⟩⟩
  · by_cases z : a = p
    · rw [z, upd_same] at q ⊢
      exact q
    · rw [upd_ne z] at q ⊢
      exact r.fh a o q
  · by_cases z : a = p
    · rw [z]; exact gp
    · rw [upd_ne z] at q
      exact r.gf a o q
theorem RS.setF {p : Addr} {u u' : HO} (r : RS K mg xa (upd F p u) G e xs H) : RS K mg xa (upd F p u') G e xs (upd H p u') := by
  obtain ⟨fp, h, nd, ap⟩ := r.own
  have np : ∀ a ∈ fp, a ≠ p := fun a ha z => by
    have := (ap a ha).1
    rw [z, upd_same] at this
    cases this
  have gp : G p = none := r.gf p u upd_same
  refine ⟨fun a o q => ?_, fun a o q => ?_, fun a o q => ?_, fp, h.mono (Ex.refl _) fun a ha => upd_ne (np a ha), nd, fun a ha => ⟨?_, (ap a ha).2⟩⟩
  · rw [upd_ne (fun z => by rw [z, gp] at q; cases q)]
    exact r.gh a o q
  · by_cases z : a = p
    · rw [z, upd_same] at q ⊢
      exact q
    · rw [upd_ne z] at q ⊢
      exact r.fh a o (by rw [upd_ne z]; exact q)
  · by_cases z : a = p
    · rw [z]; exact gp
    · rw [upd_ne z] at q
      exact r.gf a o (by rw [upd_ne z]; exact q)
  · have := (ap a ha).1
    rw [upd_ne (np a ha)] at this ⊢
    exact this
/-- others' list becomes a tree of ours -/
theorem RS.gain {p : Addr} {ds : List D} {vs : List V} (r : RS K mg xa (upd F p (.lst vs)) G e xs H) (fp0 : F p = none) (hr : Reps K G ds vs) : RS K mg xa F G (e ++ [.own (.lst (ds.map .fro)) none]) (xs ++ [some (.ref p)]) H := by
  obtain ⟨fp, h, nd, ap⟩ := r.own
  have np : ∀ a ∈ fp, a ≠ p := fun a ha z => by
    have := (ap a ha).1
    rw [z, upd_same] at this
    cases this
  have gp : G p = none := r.gf p _ upd_same
  have hp : H p = some (.lst vs) := r.fh p _ upd_same
  refine ⟨r.gh, fun a o q => r.fh a o (by rw [upd_ne (fun z => by rw [z, fp0] at q; cases q)]; exact q), fun a o q => r.gf a o (by rw [upd_ne (fun z => by rw [z, fp0] at q; cases q)]; exact q), fp ++ [p],
    h.append ⟨[p], [], rfl, ⟨pin0, .ref p, rfl, p, vs, [], rfl, rfl, hp, OwnRs.fro K hr⟩, rfl⟩, List.nodup_append.mpr ⟨nd, by simp, fun a ha b hb z => np a ha (z.trans (List.mem_singleton.mp hb))⟩, fun a ha => ?_⟩
  rcases List.mem_append.mp ha with z | z
  · have := ap a z
    rw [upd_ne (np a z)] at this
    exact this
  · rw [List.mem_singleton.mp z]
    exact ⟨fp0, gp⟩
/-! ### the own slots of a comprehension -/
theorem clearS_len (e : Env) : ∀ is : List Nat, (clearS e is).length = e.length := by
  intro is
  induction is generalizing e with
  | nil => rfl
  | cons i is ih => unfold clearS; rw [ih, List.length_set]
theorem RS.clear (r : RS K mg xa F G e (σ ++ τ) H) : ∀ (is : List Nat), (∀ i ∈ is, i < σ.length) → RS K mg xa F G (clearS e is) (wipe σ is ++ τ) H := by
  intro is
  have key : ∀ (is : List Nat) (e : Env) (σ' : L2.St), RS K mg xa F G e (σ' ++ τ) H → (∀ i ∈ is, i < σ'.length) → ∃ σ2, RS K mg xa F G (clearS e is) (σ2 ++ τ) H ∧ σ2.length = σ'.length ∧ ∀ j : Nat, σ2[j]? = if j ∈ is then some none else σ'[j]? := by
    intro is
    induction is with
    | nil => intro e σ' r _; exact ⟨σ', r, rfl, fun j => by simp⟩
    | cons i is ih =>
      intro e σ' r hi
      have li := hi i List.mem_cons_self
      have r2 := r.non_ (i := i) (x := none) (by rw [r.len, List.length_append]; omega)
      rw [set_tail li] at r2
      obtain ⟨σ2, r3, l3, g3⟩ := ih (e.set i .non) (σ'.set i none) r2 fun j hj => by rw [List.length_set]; exact hi j (List.mem_cons_of_mem _ hj)
      refine ⟨σ2, r3, l3.trans (List.length_set ..), fun j => ?_⟩
      rw [g3]
      by_cases h1 : j ∈ is
      · rw [if_pos h1, if_pos (List.mem_cons_of_mem _ h1)]
      · rw [if_neg h1]
        by_cases h2 : i = j
        · subst h2
          rw [if_pos List.mem_cons_self, List.getElem?_set_self li]
        · rw [List.getElem?_set_ne h2, if_neg (by simp only [List.mem_cons, not_or]; exact ⟨Ne.symm h2, h1⟩)]
  intro hi
  obtain ⟨σ2, r2, l2, g2⟩ := key is e σ r hi
  have : σ2 = wipe σ is := by
    refine List.ext_getElem? fun j => ?_
    rw [g2]
    clear r2 g2
    induction is with
    | nil => simp [wipe]
    | cons i is ih =>
      unfold wipe
      have hi' := fun j hj => hi j (List.mem_cons_of_mem i hj)
      by_cases h2 : i = j
      · subst h2
        rw [if_pos List.mem_cons_self, List.getElem?_set_self (by rw [wipe_length]; exact hi i List.mem_cons_self)]
      · rw [List.getElem?_set_ne h2, ← ih hi']
        by_cases h1 : j ∈ is
        · rw [if_pos h1, if_pos (List.mem_cons_of_mem _ h1)]
        · rw [if_neg h1, if_neg (by simp only [List.mem_cons, not_or]; exact ⟨Ne.symm h2, h1⟩)]
  rw [← this]
  exact r2
theorem wipe_get {σ : L2.St} {j : Nat} : ∀ {is : List Nat}, (∀ i ∈ is, i < σ.length) → (wipe σ is)[j]? = if j ∈ is then some none else σ[j]?
  | [], _ => by simp [wipe]
  | i :: is, hi => by
    unfold wipe
    have hi' := fun j hj => hi j (List.mem_cons_of_mem i hj)
    by_cases h2 : i = j
    · subst h2
      rw [if_pos List.mem_cons_self, List.getElem?_set_self (by rw [wipe_length]; exact hi i List.mem_cons_self)]
    · rw [List.getElem?_set_ne h2, wipe_get hi']
      by_cases h1 : j ∈ is
      · rw [if_pos h1, if_pos (List.mem_cons_of_mem _ h1)]
      · rw [if_neg h1, if_neg (by simp only [List.mem_cons, not_or]; exact ⟨Ne.symm h2, h1⟩)]
theorem wipe_same {σ σ' : L2.St} {is js : List Nat} (h : Same js (wipe σ is) σ') (hs : ∀ j ∈ js, j ∈ is) (hi : ∀ i ∈ is, i < σ.length) : wipe σ' is = wipe σ is := by
  have l : σ'.length = σ.length := h.1.trans (wipe_length ..)
  refine List.ext_getElem? fun j => ?_
  rw [wipe_get (by rw [l]; exact hi), wipe_get hi]
  by_cases q : j ∈ is
  · rw [if_pos q, if_pos q]
  · rw [if_neg q, if_neg q, h.2 j (fun z => q (hs j z)), wipe_get hi, if_neg q]
theorem RS.restore {F0 G0 H0 : Hp} {e0 : Env} (r0 : RS K mg xa F0 G0 e0 (σ ++ τ) H0) (x0 : Ex G0 G) {is : List Nat} (hf : freeS e0 is = true) (hi : ∀ i ∈ is, i < σ.length) (r : RS K mg xa F G e (wipe σ is ++ τ) H) : RS K mg xa F G (backS e0 e is) (σ ++ τ) H := by
  have key : ∀ (js : List Nat) (e : Env) (σ' : L2.St), RS K mg xa F G e (σ' ++ τ) H → σ'.length = σ.length → (∀ i ∈ js, i ∈ is) → ∃ σ2, RS K mg xa F G (backS e0 e js) (σ2 ++ τ) H ∧ σ2.length = σ.length ∧ ∀ j : Nat, σ2[j]? = if j ∈ js then σ[j]? else σ'[j]? := by
    intro js
    induction js with
    | nil => intro e σ' r l _; exact ⟨σ', r, l, fun j => by simp⟩
    | cons i js ih =>
      intro e σ' r l hj
      have ii := hj i List.mem_cons_self
      have li := hi i ii
      have li' : i < σ'.length := by rw [l]; exact li
      have le : i < e.length := by rw [r.len, List.length_append]; omega
      have le0 : i < e0.length := by rw [r0.len, List.length_append]; omega
      obtain ⟨x, hx⟩ : ∃ x, σ[i]? = some x := ⟨σ[i], List.getElem?_eq_getElem li⟩
      have r2 : RS K mg xa F G (e.set i (slotAt e0 i)) (σ'.set i x ++ τ) H := by
        have hfi := List.all_eq_true.mp hf i ii
        cases q : slotAt e0 i with
        | non =>
          have := r.non_ (x := x) le
          rw [set_tail li'] at this
          exact this
        | own o p => rw [q] at hfi; cases hfi
        | exc _ _ _ => rw [q] at hfi; cases hfi
        | fro d p =>
          obtain ⟨y, fo, fp, k1, k2, _⟩ := r0.open_ le0
          rw [q] at k2
          obtain ⟨_, pn, v, rfl, hv⟩ := k2
          rw [List.getElem?_append_left li, hx] at k1
          cases k1
          have := r.put (p := p) le (Rep.mono K x0 _ _ hv) pn
          rw [set_tail li'] at this
          exact this
      obtain ⟨σ2, r3, l3, g3⟩ := ih (e.set i (slotAt e0 i)) (σ'.set i x) r2 ((List.length_set ..).trans l) fun j hj' => hj j (List.mem_cons_of_mem _ hj')
      refine ⟨σ2, r3, l3, fun j => ?_⟩
      rw [g3]
      by_cases h1 : j ∈ js
      · rw [if_pos h1, if_pos (List.mem_cons_of_mem _ h1)]
      · rw [if_neg h1]
        by_cases h2 : i = j
        · subst h2
          rw [if_pos List.mem_cons_self, List.getElem?_set_self li', hx]
        · rw [List.getElem?_set_ne h2, if_neg (by simp only [List.mem_cons, not_or]; exact ⟨Ne.symm h2, h1⟩)]
  obtain ⟨σ2, r2, l2, g2⟩ := key is e (wipe σ is) r (wipe_length ..) fun _ h => h
  have : σ2 = σ := by
    refine List.ext_getElem? fun j => ?_
    rw [g2]
    by_cases h1 : j ∈ is
    · rw [if_pos h1]
    · rw [if_neg h1, wipe_get hi, if_neg h1]
  rw [← this]
  exact r2
/-- a turn of the comprehension, as the interpreter goes it -/
def lcTurn (C : Ctx) (n : Nat) (tg : Tg) (ts : List CT) (elt : CE) : D → Env → Out (Option D) := fun d e' => match tgF tg d e' with
  | none => .bad
  | some e3 => (evts C ts e3).bind fun r e4 => if r = true then (opd (ev C elt e4)).bind fun a e5 => lift (PV.keep e5 a) fun (y, e6) => .ok (some y) (e6.take n) else .ok none (e4.take n)
end
section
variable {C : Ctx} {xa : XA} {X : Cx}
/-- a clause's tests -/
structure VTs (C : Ctx) (xa : XA) (X : Cx) (e : List Expr) (c : List CT) : Prop where
  pt : ∀ W, Takes X W → PTs X e (fun σ H Q => ∃ e τ F G, RS X.K X.mg xa F G e (σ ++ τ) H ∧ Post X.K X.mg xa F σ W G (QT X.K X.mg xa F (σ ++ τ) Q) (evts C c e))
theorem pts_imp {e : List Expr} {t t' : TT} (h : PTs X e t) (k : ∀ σ H Q, t' σ H Q → t σ H Q) : PTs X e t' := ⟨fun pins s σ H Q I q => h.run pins s σ H Q I (k σ H Q q)⟩
theorem vts_nil : VTs C xa X [] [] := ⟨fun W tk => pts_imp pts_nil fun σ H Q q => by
  obtain ⟨e, τ, F, G, r, q⟩ := q
  rw [evts.eq_def] at q
  exact q H G (Ex.refl _) r⟩
theorem vts_one {a : Expr} {c : CT} (h : VT C xa X a c) : VTs C xa X [a] [c] := ⟨fun W tk => pts_imp (pts_one (h.pt W tk)) fun σ H Q q => by
  obtain ⟨e, τ, F, G, r, q⟩ := q
  rw [evts.eq_def] at q
  exact ⟨e, τ, F, G, r, q⟩⟩
theorem takes00 {X : Cx} : Takes X (fun _ _ _ _ => False) := takes0
theorem rd_lc {K : PySem.W.Frag} {mg : Str → Option Value} {σ : L2.St} {H : Hp} {W : WX} {Q : V → Hp → Prop} {tg : Tg} {k : Ik} {src : List CE} {ts : List CT} {ce : CE} {vs : List Nat} (hown : ∀ i ∈ vs, i < σ.length) (q : rdE C xa K mg (.lc tg vs k src ts ce) W σ H Q) :
    tLc (rdI C xa K mg k src W) (gOf K tg) (fun σ H Q => ∃ e τ F G, RS K mg xa F G e (σ ++ τ) H ∧ Post K mg xa F σ (fun _ _ _ _ => False) G (QT K mg xa F (σ ++ τ) Q) (evts C ts e)) (rdE C xa K mg ce fun _ _ _ _ => False) vs σ H Q := by
  obtain ⟨e, τ, F, G, r, q⟩ := q
  rw [ev.eq_def] at q
  have hn := r.len
  refine ⟨e, τ, F, G, r, ?_⟩
  dsimp only at q
  cases z : evi k (evs C src e) with
  | err x e' => rw [z] at q; exact q
  | bad => rw [z] at q; exact q
  | ok items e2 =>
    rw [z] at q
    intro J ys H1 G1 x1 r1 w D hD
    replace q : Post K mg xa F σ W G (QE K mg xa F (σ ++ τ) Q) (if freeS (e2.take e.length) vs = true ∧ (tg.all.all fun i => vs.contains i) = true then (lcGo vs (lcTurn C e.length tg ts ce) items [] (e2.take e.length)).bind fun ys e' => .ok (.frs (.lst (ys.map .fro))) (backS (e2.take e.length) e' vs) else .bad) := q
    split at q
    · rename_i hfr
      obtain ⟨hfr, htg⟩ := hfr
      have htg' : ∀ j ∈ tg.all, j ∈ vs := fun j hj => by
        have := List.all_eq_true.mp htg j hj
        simpa using this
      have r2 := r1.take e.length
      rw [hn, List.take_left, ← hn] at r2
      generalize e2.take e.length = e0 at q hfr r2
      have l0 : e0.length = e.length := r2.len.trans hn.symm
      have F0 : F D = none := (r2.fresh hD).2
      refine lc_it (g := gOf K tg) (tt := fun σ H Q => ∃ e τ F G, RS K mg xa F G e (σ ++ τ) H ∧ Post K mg xa F σ (fun _ _ _ _ => False) G (QT K mg xa F (σ ++ τ) Q) (evts C ts e)) (te := rdE C xa K mg ce fun _ _ _ _ => False) (vs := vs) (σ := σ) (Qd := Q (V.ref D)) w (fun i H' => ∃ e' ds acc G', Ex G1 G' ∧ RS K mg xa (upd F D (.lst acc)) G' (clearS e' vs) (wipe σ vs ++ τ) H' ∧ Reps K G' ds acc ∧
        Post K mg xa F σ W G' (QE K mg xa F (σ ++ τ) Q) ((lcGo vs (lcTurn C e.length tg ts ce) (items.drop i) ds e').bind fun ys e' => .ok (.frs (.lst (ys.map .fro))) (backS e0 e' vs)))
        ⟨e0, [], [], G1, Ex.refl _, (r2.clear vs hown).addF hD, rfl, Post.mono QE.mono x1 (by rw [List.drop_zero]; exact q)⟩ (fun i H' hi h => ?_) (fun i x H' H2 hi h y => ?_) fun H' h => ?_
      · obtain ⟨e', ds, acc, G', x2, r3, _, _⟩ := h
        exact x2.trans r3.gh
      · obtain ⟨e', ds, acc, G', x2, r3, hr, q3⟩ := h
        obtain ⟨d, hd, y⟩ := y
        obtain ⟨G2, x3, r4, hx⟩ := r3.came x2 y
        have ed : items.drop i = d :: items.drop (i + 1) := by
          rw [List.drop_eq_getElem_cons (by exact hi)]
          rw [List.getElem?_eq_getElem hi] at hd
          cases hd
          rfl
        rw [ed] at q3
        have lc' : (clearS e' vs).length = e.length := by
          have := r4.len
          rw [this, List.length_append, wipe_length, ← List.length_append, hn]
        have q4 : Post K mg xa F σ W G2 (QE K mg xa F (σ ++ τ) Q) ((match lcTurn C e.length tg ts ce d (clearS e' vs) with
          | .ok (some y) e' => if ds.length < LIM then lcGo vs (lcTurn C e.length tg ts ce) (items.drop (i + 1)) (ds ++ [y]) e' else .bad
          | .ok none e' => lcGo vs (lcTurn C e.length tg ts ce) (items.drop (i + 1)) ds e'
          | .err _ _ => .bad
          | .bad => .bad).bind fun ys e' => .ok (.frs (.lst (ys.map .fro))) (backS e0 e' vs)) := Post.mono QE.mono x3 q3
        -- what the turn wants
        let Rk : Option PV.D → Env → Hp → Prop := fun o e6 G6 => match o with
          | some y => Post K mg xa F σ W G6 (QE K mg xa F (σ ++ τ) Q) ((if ds.length < LIM then lcGo vs (lcTurn C e.length tg ts ce) (items.drop (i + 1)) (ds ++ [y]) e6 else .bad).bind fun ys e' => .ok (.frs (.lst (ys.map .fro))) (backS e0 e' vs))
          | none => Post K mg xa F σ W G6 (QE K mg xa F (σ ++ τ) Q) ((lcGo vs (lcTurn C e.length tg ts ce) (items.drop (i + 1)) ds e6).bind fun ys e' => .ok (.frs (.lst (ys.map .fro))) (backS e0 e' vs))
        have Rm : Mono Rk := fun o e6 G6 G7 x67 h => by
          cases o with
          | some y => exact Post.mono QE.mono x67 h
          | none => exact Post.mono QE.mono x67 h
        have q5 : ∀ σ2 : L2.St, Post K mg xa (upd F D (.lst acc)) σ2 (fun _ _ _ _ => False) G2 Rk (lcTurn C e.length tg ts ce d (clearS e' vs)) := by
          intro σ2
          cases zt : lcTurn C e.length tg ts ce d (clearS e' vs) with
          | ok o e6 =>
            rw [zt] at q4
            cases o with
            | some y => exact q4
            | none => exact q4
          | err x e6 =>
            rw [zt] at q4
            exact q4.elim
          | bad =>
            rw [zt] at q4
            exact q4.elim
        unfold lcTurn at q5
        cases zg : tgF tg d (clearS e' vs) with
        | none =>
          have := q5 σ
          simp only [zg] at this
          exact this.elim
        | some e3 =>
          simp only [zg] at q5
          refine rd_tg r4 hx zg (fun j hj => by rw [wipe_length]; exact hown j (htg' j hj)) fun σ2 hs2 r5 => ?_
          have hw := wipe_same hs2 htg' hown
          refine ⟨hw, ?_⟩
          refine ⟨e3, τ, upd F D (.lst acc), G2, r5, ?_⟩
          have q6 := q5 σ2
          have hn2 := r5.len
          have lσ : (σ2 ++ τ).length = e.length := by
            rw [List.length_append, hs2.1, wipe_length, ← List.length_append, hn]
          cases zb : evts C ts e3 with
          | err x e4 => rw [zb] at q6; exact q6
          | bad => rw [zb] at q6; exact q6
          | ok b e4 =>
            rw [zb] at q6
            intro H4 G4 x4 r6
            have q7 : Post K mg xa (upd F D (.lst acc)) σ2 (fun _ _ _ _ => False) G4 Rk (if b = true then (opd (ev C ce e4)).bind fun a e5 => lift (PV.keep e5 a) fun (y, e6) => .ok (some y) (e6.take e.length) else .ok none (e4.take e.length)) := Post.mono Rm x4 q6
            have back : ∀ {e6 : Env} {G6 H6 : Hp} {F6 : Hp}, RS K mg xa F6 G6 e6 (σ2 ++ τ) H6 → RS K mg xa F6 G6 (clearS e6 vs) (wipe σ vs ++ τ) H6 := fun r => by
              have := r.clear vs fun j hj => by rw [hs2.1, wipe_length]; exact hown j hj
              rw [hw] at this
              exact this
            cases b with
            | false =>
              rw [if_neg Bool.false_ne_true] at q7 ⊢
              have l4 : e4.take e.length = e4 := List.take_of_length_le (by rw [r6.len, lσ]; exact Nat.le_refl _)
              rw [l4] at q7
              exact ⟨e4, ds, acc, G4, (x2.trans x3).trans x4, back r6, Reps.mono K (x3.trans x4) _ _ hr, q7⟩
            | true =>
              rw [if_pos rfl] at q7 ⊢
              refine rd_opd r6 q7 Rm fun a e5 v zs H5 G5 x5 r7 o5 q8 => ?_
              obtain ⟨⟨y, e6⟩, z6, q9⟩ := Post.lift q8
              obtain ⟨G6, x6, r8, hy⟩ := r7.keep o5 z6
              have q9' : Rk (some y) (e6.take e.length) G5 := q9
              have q10 : Rk (some y) (e6.take e.length) G6 := Rm (some y) (e6.take e.length) G5 G6 x6 q9'
              have r9 := r8.take e.length
              rw [← List.append_assoc, ← lσ, List.take_left] at r9
              rw [lσ] at r9
              have hH : H5 D = some (.lst acc) := r9.fh D _ upd_same
              have q11 : Post K mg xa F σ W G6 (QE K mg xa F (σ ++ τ) Q) ((if ds.length < LIM then lcGo vs (lcTurn C e.length tg ts ce) (items.drop (i + 1)) (ds ++ [y]) (e6.take e.length) else .bad).bind fun ys e' => .ok (.frs (.lst (ys.map .fro))) (backS e0 e' vs)) := q10
              split at q11
              · rename_i hl
                have hx2 : Ex G' G6 := (x3.trans x4).trans (x5.trans x6)
                have hr2 := Reps.mono K hx2 _ _ hr
                refine ⟨acc, hH, LIM_lt (by rw [← hr.len]; exact hl), e6.take e.length, ds ++ [y], acc ++ [v], G6, x2.trans hx2, back r9.setF, hr2.app ⟨v, [], rfl, hy, rfl⟩, q11⟩
              · exact q11.elim
      · obtain ⟨e', ds, acc, G', x2, r3, hr, q3⟩ := h
        rw [List.drop_length] at q3
        have q4 : Post K mg xa F σ W G' (QE K mg xa F (σ ++ τ) Q) (.ok (.frs (.lst (ds.map .fro))) (backS e0 (clearS e' vs) vs)) := q3
        have r4 := RS.restore r2 x2 hfr hown r3
        exact q4 (.ref D) H' G' (Ex.refl _) (r4.gain F0 hr)
    · exact q.elim
theorem ve_lc {elt tgx iter : Expr} {ifs : List Expr} {scope : Scope} {own : List (Str × Nat)} {pos : Pos} {tg : Tg} {k : Ik} {src : List CE} {ts : List CT} {ce : CE} (hc : X.calm = true) (hN : X.N.Nodup) (hi : VI C xa X tgx iter k src) (ok : BlkOk X.N X.env.scope scope own)
    (hg : ∀ (s : Shared) (H : Hp) (D : Addr) (cl : List (Str × Addr)) (fp : List Addr), VG (X.blk s H scope (compEnvC scope cl D X.env) fp) tgx tg)
    (ht : ∀ (s : Shared) (H : Hp) (D : Addr) (cl : List (Str × Addr)) (fp : List Addr), VTs C xa (X.blk s H scope (compEnvC scope cl D X.env) fp) ifs ts)
    (he : ∀ (s : Shared) (H : Hp) (D : Addr) (cl : List (Str × Addr)) (fp : List Addr), VE C xa (X.blk s H scope (compEnvC scope cl D X.env) fp) elt ce) (hs : ∀ x, foldedSetIterable iter X.env x = pure x := by intro _; rfl) :
    VE C xa X (.ListComp elt [⟨tgx, iter, ifs, 0⟩] scope pos) (.lc tg (own.map (·.2)) k src ts ce) := ⟨fun W tk => ⟨fun pins s σ H Q I q => by
  have hown : ∀ i ∈ own.map (·.2), i < σ.length := fun i hi => by
    obtain ⟨p, hp, rfl⟩ := List.mem_map.mp hi
    rw [I.len]
    exact (List.getElem?_eq_some_iff.mp (ok.ix p hp)).1
  exact (pe_lc (g := gOf X.K tg) (tt := fun σ H Q => ∃ e τ F G, RS X.K X.mg xa F G e (σ ++ τ) H ∧ Post X.K X.mg xa F σ (fun _ _ _ _ => False) G (QT X.K X.mg xa F (σ ++ τ) Q) (evts C ts e)) (te := rdE C xa X.K X.mg ce fun _ _ _ _ => False) hc hN (hi.pi W tk) ok (fun s H D cl fp => (hg s H D cl fp).pg) (fun s H D cl fp => (ht s H D cl fp).pt _ takes00) (fun s H D cl fp => (he s H D cl fp).pe _ takes00) hs).run pins s σ H Q I (rd_lc hown q)⟩⟩
end
end PV
end

section
set_option Elab.async false
set_option linter.all false
set_option maxRecDepth 100000
set_option maxHeartbeats 4000000
/-! PV16: statements -/
namespace PV
open PySem PySem.Spec PyProof.Rows L2
section
variable (C : Ctx) (xa : XA) (K : PySem.W.Frag) (mg : Str → Option Value)
/-- behind a statement -/
def PostS (F : Hp) (n : Nat) (W : WX) (G : Hp) (D : Ends) : SO → Prop
  | .nx e' => ∀ σ' H' G', σ'.length = n → Ex G G' → RS K mg xa F G' e' σ' H' → D.nx σ' H'
  | .bk e' => ∀ σ' H' G', σ'.length = n → Ex G G' → RS K mg xa F G' e' σ' H' → D.bk σ' H'
  | .ct e' => ∀ σ' H' G', σ'.length = n → Ex G G' → RS K mg xa F G' e' σ' H' → D.ct σ' H'
  | .rt (.val d) e' => ∀ v σ' H' G', σ'.length = n → Ex G G' → RS K mg xa F G' e' σ' H' → Rep K G' d v → D.rt v H'
  | .rt (.frs o) e' => ∀ v σ' H' G', σ'.length = n → Ex G G' → RS K mg xa F G' (e' ++ [.own o none]) (σ' ++ [some v]) H' → D.rt v H'
  | .err x e' => ∀ cls dx σ' ys H' G', σ'.length = n → Ex G G' → RS K mg xa F G' e' (σ' ++ ys) H' → mg x.cls = some cls → ExnR K G' x.ns x.vs dx → W cls (some dx) σ' H'
  | .bad => False
def rdS (c : CS) (W : WX) : TS := fun D σ H => ∃ e F G, RS K mg xa F G e σ H ∧ PostS xa K mg F σ.length W G D (run C c e)
end
structure VS (C : Ctx) (xa : XA) (X : Cx) (e : Stmt) (c : CS) : Prop where
  ps : ∀ W, Takes X W → PS X e (rdS C xa X.K X.mg c W)
structure VSs (C : Ctx) (xa : XA) (X : Cx) (e : List Stmt) (c : CS) : Prop where
  ps : ∀ W, Takes X W → PSs X e (rdS C xa X.K X.mg c W)
section
variable {C : Ctx} {xa : XA} {K : PySem.W.Frag} {mg : Str → Option Value} {F G H : Hp} {e : Env} {σ : L2.St} {τ xs : List (Option V)} {W : WX} {D : Ends} {n : Nat}
theorem PostS.mono {G' : Hp} {o : SO} (x : Ex G G') (h : PostS xa K mg F n W G D o) : PostS xa K mg F n W G' D o := by
  cases o with
  | nx e => exact fun σ' H' G2 l y => h σ' H' G2 l (x.trans y)
  | bk e => exact fun σ' H' G2 l y => h σ' H' G2 l (x.trans y)
  | ct e => exact fun σ' H' G2 l y => h σ' H' G2 l (x.trans y)
  | rt r e =>
    cases r with
    | val d => exact fun v σ' H' G2 l y => h v σ' H' G2 l (x.trans y)
    | frs d => exact fun v σ' H' G2 l y => h v σ' H' G2 l (x.trans y)
  | err x' e => exact fun cls dx σ' ys H' G2 l y => h cls dx σ' ys H' G2 l (x.trans y)
  | bad => exact h
theorem PostS.lift {α : Type} {o : Option α} {f : α → SO} (h : PostS xa K mg F n W G D (liftS o f)) : ∃ a, o = some a ∧ PostS xa K mg F n W G D (f a) := by
  cases o with
  | none => exact h.elim
  | some a => exact ⟨a, rfl, h⟩
/-- other ends -/
theorem PostS.then_ {o : SO} {f : Env → SO} (h : PostS xa K mg F n W G D (o.then f)) : PostS xa K mg F n W G { D with nx := fun σ' H' => ∃ e' G', Ex G G' ∧ RS K mg xa F G' e' σ' H' ∧ σ'.length = n ∧ PostS xa K mg F n W G' D (f e') } o := by
  cases o with
  | nx e => exact fun σ' H' G2 l y r => ⟨e, G2, y, r, l, PostS.mono y h⟩
  | bk e => exact h
  | ct e => exact h
  | rt r e =>
    cases r with
    | val d => exact h
    | frs d => exact h
  | err x' e => exact h
  | bad => exact h
/-- an expression's operand in a statement -/
theorem rds_opd {c : CE} {k : At → Env → SO} {R : V → Hp → Prop} (r : RS K mg xa F G e σ H) (h : PostS xa K mg F σ.length W G D ((opd (ev C c e)).so k))
    (hR : ∀ a e1 v zs H1 G1, Ex G G1 → RS K mg xa F G1 e1 (σ ++ zs) H1 → Opn K G1 (σ ++ zs) a v → PostS xa K mg F σ.length W G1 D (k a e1) → R v H1) : rdE C xa K mg c W σ H R := by
  refine ⟨e, [], F, G, by rw [List.append_nil]; exact r, ?_⟩
  rw [List.append_nil]
  cases q : ev C c e with
  | ok res e' =>
    rw [q] at h
    cases res with
    | frs o =>
      intro v H' G' x r'
      have h' : PostS xa K mg F σ.length W G D (k (.pl e'.length) (e' ++ [.own o none])) := h
      have l := r'.len
      simp only [List.length_append, List.length_cons, List.length_nil] at l
      refine hR (.pl e'.length) (e' ++ [.own o none]) v [some v] H' G' x r' ?_ (PostS.mono x h')
      show (σ ++ [some v])[e'.length]? = some (some v)
      rw [List.getElem?_append_right (by omega), show e'.length - σ.length = 0 by omega]
      rfl
    | at_ a =>
      intro v H' G' x r' o
      have h' : PostS xa K mg F σ.length W G D (k a e') := h
      exact hR a e' v [] H' G' x (by rw [List.append_nil]; exact r') (by rw [List.append_nil]; exact o) (PostS.mono x h')
  | err x e' =>
    rw [q] at h
    exact fun cls dx H' G' ys y r' hm hx => h cls dx σ ys H' G' rfl y r' hm hx
  | bad =>
    rw [q] at h
    exact h
theorem rds_bind {c : CE} {k : Res → Env → SO} {R : V → Hp → Prop} (r : RS K mg xa F G e σ H) (h : PostS xa K mg F σ.length W G D ((ev C c e).so k))
    (hR : ∀ a e1 v H1 G1, Ex G G1 → RS K mg xa F G1 e1 σ H1 → Opn K G1 σ a v → PostS xa K mg F σ.length W G1 D (k (.at_ a) e1) → R v H1)
    (hF : ∀ o e1 v H1 G1, Ex G G1 → RS K mg xa F G1 (e1 ++ [.own o none]) (σ ++ [some v]) H1 → PostS xa K mg F σ.length W G1 D (k (.frs o) e1) → R v H1) : rdE C xa K mg c W σ H R := by
  refine ⟨e, [], F, G, by rw [List.append_nil]; exact r, ?_⟩
  rw [List.append_nil]
  cases q : ev C c e with
  | ok res e' =>
    rw [q] at h
    cases res with
    | frs o => exact fun v H' G' x r' => hF o e' v H' G' x r' (PostS.mono x h)
    | at_ a => exact fun v H' G' x r' o => hR a e' v H' G' x r' o (PostS.mono x h)
  | err x e' =>
    rw [q] at h
    exact fun cls dx H' G' ys y r' hm hx => h cls dx σ ys H' G' rfl y r' hm hx
  | bad =>
    rw [q] at h
    exact h
theorem rds_test {c : CT} {k : Bool → Env → SO} {R : Bool → Hp → Prop} (r : RS K mg xa F G e σ H) (h : PostS xa K mg F σ.length W G D ((evt C c e).so k))
    (hR : ∀ b e1 H1 G1, Ex G G1 → RS K mg xa F G1 e1 σ H1 → PostS xa K mg F σ.length W G1 D (k b e1) → R b H1) : rdT C xa K mg c W σ H R := by
  refine ⟨e, [], F, G, by rw [List.append_nil]; exact r, ?_⟩
  rw [List.append_nil]
  cases q : evt C c e with
  | ok b e' =>
    rw [q] at h
    exact fun H' G' x r' => hR b e' H' G' x r' (PostS.mono x h)
  | err x e' =>
    rw [q] at h
    exact fun cls dx H' G' ys y r' hm hx => h cls dx σ ys H' G' rfl y r' hm hx
  | bad =>
    rw [q] at h
    exact h
/-- back to the slots -/
theorem RS.cut {zs : List (Option V)} (r : RS K mg xa F G e (σ ++ zs) H) : RS K mg xa F G (e.take σ.length) σ H := by
  have := r.take σ.length
  rw [List.take_left] at this
  exact this
theorem RS.back' {s : Slot} {y : Option V} {i : Nat} (r : RS K mg xa F G (e ++ [s]) (xs ++ [y]) H) (hi : i < e.length) : RS K mg xa F G (e.set i s) (xs.set i y) H := by
  have hl : e.length = xs.length := by
    have := r.len
    simp only [List.length_append, List.length_cons, List.length_nil] at this
    omega
  obtain ⟨fp, h, nd, ap⟩ := r.own
  obtain ⟨f1, f2, e0, a, b⟩ := h.split e.length
  rw [List.take_left, hl, List.take_left] at a
  rw [List.drop_left, hl, List.drop_left] at b
  obtain ⟨g1, g2, e1, b1, b2⟩ := b
  have e2 : g2 = [] := b2
  subst e2
  rw [List.append_nil] at e1
  obtain ⟨y', k1, k2, k3, z1, z2, z3, z4⟩ := a.at hi
  have S := z4 H G s y g1 (Ex.refl _) (fun _ _ => rfl) b1
  subst e0 e1 z2
  obtain ⟨n1, n2, n3⟩ := List.nodup_append.mp nd
  obtain ⟨p1, p2, p3⟩ := nodup3 n1
  refine ⟨r.gh, r.fh, r.gf, _, S, nodup3' n2 p2 fun c hc hm => n3 c ?_ c hc rfl, fun c hc => ap c ?_⟩
  · simp only [List.mem_append] at hm ⊢
    rcases hm with hm | hm
    · exact .inl hm
    · exact .inr (.inr hm)
  · simp only [List.mem_append] at hc ⊢
    rcases hc with hc | hc | hc
    · exact .inl (.inl hc)
    · exact .inr hc
    · exact .inl (.inr (.inr hc))
end
section
variable {C : Ctx} {xa : XA} {X : Cx} {pos : Pos} {st : Stmt} {sts : List Stmt} {c c2 : CS} {a : Expr} {ce : CE}
theorem vss_nil : VSs C xa X [] .skip := ⟨fun W tk => pss_imp pss_nil fun D σ H q => by
  obtain ⟨e, F, G, r, q⟩ := q
  rw [run.eq_def] at q
  exact q σ H G rfl (Ex.refl _) r⟩
theorem vs_pass : VS C xa X (.Pass pos) .skip := ⟨fun W tk => ps_imp ps_pass fun D σ H q => by
  obtain ⟨e, F, G, r, q⟩ := q
  rw [run.eq_def] at q
  exact q σ H G rfl (Ex.refl _) r⟩
theorem vs_doc {x j pos pos'} : VS C xa X (.Expr (.Constant (.str x) j pos) pos') .skip := ⟨fun W tk => ps_imp ps_doc fun D σ H q => by
  obtain ⟨e, F, G, r, q⟩ := q
  rw [run.eq_def] at q
  exact q σ H G rfl (Ex.refl _) r⟩
theorem vs_break : VS C xa X (.Break pos) .brk := ⟨fun W tk => ps_imp ps_break fun D σ H q => by
  obtain ⟨e, F, G, r, q⟩ := q
  rw [run.eq_def] at q
  exact q σ H G rfl (Ex.refl _) r⟩
theorem vs_continue : VS C xa X (.Continue pos) .cont := ⟨fun W tk => ps_imp ps_continue fun D σ H q => by
  obtain ⟨e, F, G, r, q⟩ := q
  rw [run.eq_def] at q
  exact q σ H G rfl (Ex.refl _) r⟩
theorem rds_seq {K : PySem.W.Frag} {mg : Str → Option Value} {W : WX} {D : Ends} {σ : L2.St} {H : Hp} (q : rdS C xa K mg (.seq c c2) W D σ H) : tSeq (rdS C xa K mg c W) (rdS C xa K mg c2 W) D σ H := by
  obtain ⟨e, F, G, r, q⟩ := q
  rw [run.eq_def] at q
  refine ⟨e, F, G, r, ?_⟩
  have q2 := PostS.then_ q
  generalize run C c e = o at q2
  cases o with
  | nx e' =>
    intro σ' H' G' l x r'
    obtain ⟨e2, G2, x2, r2, l2, q3⟩ := q2 σ' H' G' l x r'
    exact ⟨e2, F, G2, r2, by rw [l2]; exact q3⟩
  | bk e => exact q2
  | ct e => exact q2
  | rt r e =>
    cases r with
    | val d => exact q2
    | frs d => exact q2
  | err x' e => exact q2
  | bad => exact q2
theorem vss_cons (h : VS C xa X st c) (h2 : VSs C xa X sts c2) : VSs C xa X (st :: sts) (.seq c c2) := ⟨fun W tk => pss_imp (pss_cons (h.ps W tk) (h2.ps W tk)) fun D σ H q => rds_seq q⟩
theorem vss_one (h : VS C xa X st c) : VSs C xa X [st] c := ⟨fun W tk => pss_one (h.ps W tk)⟩
theorem setSlot_lt {e e' : Env} {i : Nat} {s : Slot} (h : setSlot e i s = some e') : i < e.length ∧ e' = e.set i s := by
  unfold setSlot at h
  split at h
  · split at h
    · cases h
    · cases h
    · exact ⟨by assumption, (Option.some.inj h).symm⟩
  · cases h
theorem rds_set {K : PySem.W.Frag} {mg : Str → Option Value} {W : WX} {D : Ends} {σ : L2.St} {H : Hp} {i : Nat} (q : rdS C xa K mg (.set i ce) W D σ H) : tAsg (rdE C xa K mg ce W) (gName i) D σ H := by
  obtain ⟨e, F, G, r, q⟩ := q
  rw [run.eq_def] at q
  refine rds_bind r q (fun a e1 v H1 G1 x1 r1 o1 q1 => ?_) (fun o e1 v H1 G1 x1 r1 q1 => ?_)
  · obtain ⟨e3, z, q2⟩ := PostS.lift q1
    unfold setRes at z
    dsimp only at z
    cases zk : PV.keep e1 a with
    | none => rw [zk] at z; cases z
    | some p =>
      obtain ⟨d, e2⟩ := p
      rw [zk] at z
      obtain ⟨G2, x2, r2, hv⟩ := r1.keep o1 zk
      obtain ⟨li, rfl⟩ := setSlot_lt z
      exact q2 (σ.set i (some v)) H1 G2 (List.length_set ..) x2 (r2.put li hv)
  · obtain ⟨e3, z, q2⟩ := PostS.lift q1
    obtain ⟨li, rfl⟩ := setSlot_lt z
    exact q2 (σ.set i (some v)) H1 G1 (List.length_set ..) (Ex.refl _) (r1.back' li)
theorem vs_set {i : Nat} {x : Str} {pos' : Pos} (hN : X.N.Nodup) (hi : X.N[i]? = some x) (hx : Loc X.env.scope x) (he : VE C xa X a ce) (hs : swapsWith a (some (.Name x pos')) pos.line X.env = pure false := by rfl) (hf : X.fn x = true ∨ X.env.scope.names.lookup x = some .local := by first | exact .inl rfl | exact .inr rfl | assumption) :
    VS C xa X (.Assign [.Name x pos'] a pos) (.set i ce) := ⟨fun W tk => ps_imp (ps_set hN hi hx (he.pe W tk) hs hf) fun D σ H q => rds_set q⟩
/-- name = [..] on one line -/
theorem vs_expr (he : VE C xa X a ce) (hs : swapsWith a none pos.line X.env = pure false := by rfl) : VS C xa X (.Expr a pos) (.expr ce) := ⟨fun W tk => ps_imp (ps_expr (he.pe W tk) hs) fun D σ H q => by
  obtain ⟨e, F, G, r, q⟩ := q
  rw [run.eq_def] at q
  refine rds_opd r q fun a e1 v zs H1 G1 x1 r1 o1 q1 => ?_
  have r2 := r1.cut
  rw [← r.len] at r2
  exact q1 σ H1 G1 rfl (Ex.refl _) r2⟩
theorem vs_ret (he : VE C xa X a ce) : VS C xa X (.Return (some a) pos) (.ret ce) := ⟨fun W tk => ps_imp (ps_ret (he.pe W tk)) fun D σ H q => by
  obtain ⟨e, F, G, r, q⟩ := q
  rw [run.eq_def] at q
  refine rds_bind r q (fun a e1 v H1 G1 x1 r1 o1 q1 => ?_) (fun o e1 v H1 G1 x1 r1 q1 => ?_)
  · obtain ⟨⟨rv, e3⟩, z, q2⟩ := PostS.lift q1
    cases a with
    | val d =>
      cases z
      exact q2 v σ H1 G1 rfl (Ex.refl _) r1 o1
    | pl i =>
      have kp : ∀ {p : PV.D × Env}, PV.keep e1 (.pl i) = some p → rv = .val p.1 → e3 = p.2 → D.rt v H1 := by
        intro p zk h1 h2
        obtain ⟨d, e2⟩ := p
        subst h1 h2
        obtain ⟨G2, x2, r2, hv⟩ := r1.keep o1 zk
        exact q2 v σ H1 G2 rfl x2 r2 hv
      have kp2 : (PV.keep e1 (.pl i)).map (fun p => (RV.val p.1, p.2)) = some (rv, e3) → D.rt v H1 := fun z => by
        cases zk : PV.keep e1 (.pl i) with
        | none => rw [zk] at z; cases z
        | some p =>
          rw [zk] at z
          cases z
          exact kp zk rfl rfl
      unfold retRes at z
      dsimp only at z
      cases zs : slotAt e1 i with
      | own o p =>
        cases p with
        | some _ => rw [zs] at z; exact kp2 z
        | none =>
          rw [zs] at z
          cases z
          exact q2 v σ H1 G1 rfl (Ex.refl _) (r1.move zs o1)
      | non => rw [zs] at z; exact kp2 z
      | fro d p => rw [zs] at z; exact kp2 z
      | exc _ _ _ => rw [zs] at z; exact kp2 z
  · obtain ⟨⟨rv, e3⟩, z, q2⟩ := PostS.lift q1
    cases z
    exact q2 v σ H1 G1 rfl (Ex.refl _) r1⟩
theorem vs_retN : VS C xa X (.Return none pos) .retN := ⟨fun W tk => ps_imp ps_retN fun D σ H q => by
  obtain ⟨e, F, G, r, q⟩ := q
  rw [run.eq_def] at q
  exact q .non σ H G rfl (Ex.refl _) r rfl⟩
theorem vs_if {t : Expr} {s1 s2 : List Stmt} {ct : CT} (ht : VT C xa X t ct) (h1 : VSs C xa X s1 c) (h2 : VSs C xa X s2 c2) : VS C xa X (.If t s1 s2 pos) (.ite ct c c2) := ⟨fun W tk => ps_imp (ps_if (ht.pt W tk) (h1.ps W tk) (h2.ps W tk)) fun D σ H q => by
  obtain ⟨e, F, G, r, q⟩ := q
  rw [run.eq_def] at q
  refine rds_test r q fun b e1 H1 G1 x1 r1 q1 => ?_
  cases b with
  | true => exact ⟨e1, F, G1, r1, q1⟩
  | false => exact ⟨e1, F, G1, r1, q1⟩⟩
end
end PV
end

section
set_option Elab.async false
set_option linter.all false
set_option maxRecDepth 100000
set_option maxHeartbeats 4000000
/-! PV17: loops -/
namespace PV
open PySem PySem.Spec PyProof.Rows L2
section
variable {C : Ctx} {xa : XA} {K : PySem.W.Frag} {mg : Str → Option Value} {F G H : Hp} {e : Env} {σ : L2.St} {τ xs : List (Option V)} {W : WX} {D : Ends} {n : Nat}
theorem tgF_lt {tg : Tg} {d : PV.D} {e e3 : Env} (h : tgF tg d e = some e3) : ∀ i ∈ tg.all, i < e.length := by
  cases tg with
  | nm i => exact slotsPut_lt (is := [i]) (ds := [d]) h
  | tup ts =>
    obtain ⟨ds, rfl, h1, h2⟩ := tgF_tup h
    exact slotsPut_lt h2
theorem rd_tgS {R : L2.St → Hp → Prop} {tg : Tg} {d : PV.D} {x : V} {e3 : Env} (r : RS K mg xa F G e σ H) (hr : Rep K G d x) (h : tgF tg d e = some e3) (k : ∀ σ', σ'.length = σ.length → RS K mg xa F G e3 σ' H → R σ' H) : gOf K tg x σ H R := by
  have r' : RS K mg xa F G e (σ ++ []) H := by rw [List.append_nil]; exact r
  refine rd_tg r' hr h (fun i hi => by rw [← r.len]; exact tgF_lt h i hi) fun σ' hs r2 => k σ' hs.1 ?_
  rw [List.append_nil] at r2
  exact r2
theorem PostS.turn {o : SO} {f : Env → SO} (h : PostS xa K mg F n W G D (match o with
    | .nx e' => f e'
    | .ct e' => f e'
    | .bk e' => .nx e'
    | o => o)) {N : L2.St → Hp → Prop} (hN : ∀ e' σ' H' G', σ'.length = n → Ex G G' → RS K mg xa F G' e' σ' H' → PostS xa K mg F n W G' D (f e') → N σ' H') : PostS xa K mg F n W G { D with nx := N, ct := N, bk := D.nx } o := by
  cases o with
  | nx e => exact fun σ' H' G2 l y r => hN e σ' H' G2 l y r (PostS.mono y h)
  | ct e => exact fun σ' H' G2 l y r => hN e σ' H' G2 l y r (PostS.mono y h)
  | bk e => exact h
  | rt r e =>
    cases r with
    | val d => exact h
    | frs d => exact h
  | err x' e => exact h
  | bad => exact h
theorem rds_for {tg : Tg} {k : Ik} {src : List CE} {c : CS} (q : rdS C xa K mg (.for_ tg k src c) W D σ H) : tFor (rdI C xa K mg k src W) (gOf K tg) (rdS C xa K mg c W) D σ H := by
  obtain ⟨e, F, G, r, q⟩ := q
  rw [run.eq_def] at q
  have hn := r.len
  refine ⟨e, [], F, G, by rw [List.append_nil]; exact r, ?_⟩
  rw [List.append_nil]
  dsimp only at q
  cases z : evi k (evs C src e) with
  | err x e' =>
    rw [z] at q
    exact fun cls dx H' G' ys y r' hm hx => q cls dx σ ys H' G' rfl y r' hm hx
  | bad => rw [z] at q; exact q
  | ok items e2 =>
    rw [z] at q
    intro J ys H1 G1 x1 r1 w
    replace q : PostS xa K mg F σ.length W G D (forGo (fun d e' => liftS (tgF tg d e') fun e3 => run C c e3) items (e2.take e.length)) := q
    have r2 := r1.cut
    rw [← hn] at r2
    generalize e2.take e.length = e0 at q r2
    generalize hT : (fun (d : PV.D) (e' : Env) => liftS (tgF tg d e') fun e3 => run C c e3) = turn at q
    refine for_it (g := gOf K tg) (tb := rdS C xa K mg c W) (D := D) (σ := σ) w (fun i σ' H' => ∃ e' G', Ex G1 G' ∧ RS K mg xa F G' e' σ' H' ∧ σ'.length = σ.length ∧ PostS xa K mg F σ.length W G' D (forGo turn (items.drop i) e'))
      ⟨e0, G1, Ex.refl _, r2, rfl, PostS.mono x1 (by rw [List.drop_zero]; exact q)⟩ (fun i σ' H' hi h => ?_) (fun i x σ' H' H2 hi h y => ?_) fun σ' H' h => ?_
    · obtain ⟨e', G', x2, r3, _⟩ := h
      exact x2.trans r3.gh
    · obtain ⟨e', G', x2, r3, l3, q3⟩ := h
      obtain ⟨d, hd, y⟩ := y
      obtain ⟨G2, x3, r4, hx⟩ := r3.came x2 y
      have ed : items.drop i = d :: items.drop (i + 1) := by
        rw [List.drop_eq_getElem_cons (by exact hi)]
        rw [List.getElem?_eq_getElem hi] at hd
        cases hd
        rfl
      rw [ed] at q3
      have q4 : PostS xa K mg F σ.length W G2 D (forGo turn (d :: items.drop (i + 1)) e') := PostS.mono x3 q3
      unfold forGo at q4
      have q5 := PostS.turn (N := fun σ' H' => ∃ e' G', Ex G1 G' ∧ RS K mg xa F G' e' σ' H' ∧ σ'.length = σ.length ∧ PostS xa K mg F σ.length W G' D (forGo turn (items.drop (i + 1)) e')) (f := fun e' => forGo turn (items.drop (i + 1)) e') q4
        fun e' σ' H' G' l y r h => ⟨e', G', (x2.trans x3).trans y, r, l, h⟩
      rw [← hT] at q5
      dsimp only at q5
      obtain ⟨e3, z3, q6⟩ := PostS.lift q5
      rw [hT] at q6
      refine rd_tgS r4 hx z3 fun σ2 l2 r5 => ⟨e3, F, G2, r5, ?_⟩
      rw [l2, l3]
      exact q6
    · obtain ⟨e', G', x2, r3, l3, q3⟩ := h
      rw [List.drop_length] at q3
      exact q3 σ' H' G' l3 (Ex.refl _) r3
theorem rds_while {fuel : Nat} {t : CT} {c : CS} (q : rdS C xa K mg (.while_ fuel t c) W D σ H) : tWhile (rdT C xa K mg t W) (rdS C xa K mg c W) D σ H := by
  obtain ⟨e, F, G, r, q⟩ := q
  rw [run.eq_def] at q
  have hl : σ.length = σ.length := rfl
  generalize hn : σ.length = n at q
  refine ⟨fun m σ' H' => ∃ e' G', RS K mg xa F G' e' σ' H' ∧ σ'.length = n ∧ PostS xa K mg F n W G' D (whileGo (fun e => evt C t e) (fun e => run C c e) m e'), ⟨fuel, e, G, r, hn, q⟩, ?_⟩
  rintro m σ1 H1 ⟨e1, G1, r1, l1, q1⟩
  cases m with
  | zero => exact q1.elim
  | succ m =>
    unfold whileGo at q1
    rw [← l1] at q1
    refine rds_test r1 q1 fun b e2 H2 G2 x2 r2 q2 => ?_
    cases b with
    | false =>
      rw [if_neg Bool.false_ne_true] at q2 ⊢
      exact q2 σ1 H2 G2 rfl (Ex.refl _) r2
    | true =>
      rw [if_pos rfl] at q2 ⊢
      refine ⟨_, fun σ' H' h => ⟨m, Nat.lt_succ_self m, h⟩, e2, F, G2, r2, ?_⟩
      rw [← l1]
      exact PostS.turn (f := fun e' => whileGo (fun e => evt C t e) (fun e => run C c e) m e') q2 fun e' σ' H' G' l y r h => ⟨e', G', r, l, h⟩
end
section
variable {C : Ctx} {xa : XA} {X : Cx} {pos : Pos} {sts : List Stmt} {c : CS} {a : Expr} {ce : CE}
theorem vs_for {tgx iter : Expr} {tg : Tg} {k : Ik} {src : List CE} (hp : PassesOwn (model X.prog X.w) X.A X.env X.xe) (hc : X.calm = true) (hi : VI C xa X tgx iter k src) (hg : VG X tgx tg) (hb : VSs C xa X sts c)
    (hs : ∀ x, foldedSetIterable iter X.env x = pure x := by intro _; rfl) : VS C xa X (.For tgx iter sts [] pos) (.for_ tg k src c) := ⟨fun W tk => ps_imp (ps_for hp hc (hi.pi W tk) hg.pg (hb.ps W tk) hs) fun D σ H q => rds_for q⟩
theorem vs_while {t : Expr} {ct : CT} {fuel : Nat} (hp : PassesOwn (model X.prog X.w) X.A X.env X.xe) (ht : VT C xa X t ct) (hb : VSs C xa X sts c) : VS C xa X (.While t sts [] pos) (.while_ fuel ct c) := ⟨fun W tk => ps_imp (ps_while hp (ht.pt W tk) (hb.ps W tk)) fun D σ H q => rds_while q⟩
/-- a, b = a tuple that is there -/
theorem vs_setT {es : List Expr} {kk : Nat} {is : List Nat} {p : Pos} (he : VE C xa X a ce) (hg : VG X (.Tuple es kk p) (.tup is)) (hs : swapsWithSole [.Tuple es kk p] a pos.line X.env = pure false := by rfl) (hw : swappedStores [.Tuple es kk p] a X.env = pure none := by rfl)
    (h1 : (assignEach [.Tuple es kk p] X.env).map (·.2) = [assign (.Tuple es kk p) X.env] := by rfl) : VS C xa X (.Assign [.Tuple es kk p] a pos) (.setT is ce) := ⟨fun W tk => ps_imp (ps_asg (he.pe W tk) hg.pg hs hw h1) fun D σ H q => by
  obtain ⟨e, F, G, r, q⟩ := q
  rw [run.eq_def] at q
  refine rds_opd r q fun a e1 v zs H1 G1 x1 r1 o1 q1 => ?_
  obtain ⟨⟨d, e2⟩, z1, q2⟩ := PostS.lift q1
  obtain ⟨e3, z2, q3⟩ := PostS.lift q2
  obtain ⟨G2, x2, r2, hv⟩ := r1.keep o1 z1
  have r3 := r2.cut
  rw [← r.len] at r3
  exact rd_tgS r3 hv z2 fun σ' l r4 => q3 σ' H1 G2 l x2 r4⟩
/-- name = [..] on one line -/
theorem vs_setLc {i : Nat} {y : Str} {py : Pos} {elt tgx iter : Expr} {ifs : List Expr} {scope : Scope} {own : List (Str × Nat)} {spos : Pos} {tg : Tg} {k : Ik} {src : List CE} {ts : List CT} (hc : X.calm = true) (hN : X.N.Nodup) (hy : X.N[i]? = some y) (hyl : X.env.scope.names.lookup y = some .local)
    (hsw : swapsWith (.ListComp elt [⟨tgx, iter, ifs, 0⟩] scope pos) (some (.Name y py)) spos.line X.env = pure true) (hi : VI C xa X tgx iter k src) (ok : BlkOk X.N X.env.scope scope own)
    (hg : ∀ (s : Shared) (H : Hp) (D : Addr) (cl : List (Str × Addr)) (fp : List Addr), VG (X.blk s H scope (compEnvC scope cl D X.env) fp) tgx tg)
    (ht : ∀ (s : Shared) (H : Hp) (D : Addr) (cl : List (Str × Addr)) (fp : List Addr), VTs C xa (X.blk s H scope (compEnvC scope cl D X.env) fp) ifs ts)
    (he : ∀ (s : Shared) (H : Hp) (D : Addr) (cl : List (Str × Addr)) (fp : List Addr), VE C xa (X.blk s H scope (compEnvC scope cl D X.env) fp) elt ce) (hs : ∀ x, foldedSetIterable iter X.env x = pure x := by intro _; rfl) :
    VS C xa X (.Assign [.Name y py] (.ListComp elt [⟨tgx, iter, ifs, 0⟩] scope pos) spos) (.set i (.lc tg (own.map (·.2)) k src ts ce)) := ⟨fun W tk => ⟨fun pins s σ H D I q => by
  refine (ps_setLc (g := gOf X.K tg) (tt := fun σ H Q => ∃ e τ F G, RS X.K X.mg xa F G e (σ ++ τ) H ∧ Post X.K X.mg xa F σ (fun _ _ _ _ => False) G (QT X.K X.mg xa F (σ ++ τ) Q) (evts C ts e)) (te := rdE C xa X.K X.mg ce fun _ _ _ _ => False) hc hN hy hyl hsw (hi.pi W tk) ok (fun s H D cl fp => (hg s H D cl fp).pg) (fun s H D cl fp => (ht s H D cl fp).pt _ takes00) (fun s H D cl fp => (he s H D cl fp).pe _ takes00) hs).run pins s σ H D I ?_
  refine rd_lc (fun i hi => ?_) (rds_set q)
  obtain ⟨p, hp, rfl⟩ := List.mem_map.mp hi
  rw [I.len]
  exact (List.getElem?_eq_some_iff.mp (ok.ix p hp)).1⟩⟩
end
end PV
end

section
set_option Elab.async false
set_option linter.all false
set_option maxRecDepth 100000
set_option maxHeartbeats 4000000
/-! PV18: stores into lists and dicts -/
namespace PV
open PySem PySem.Spec PyProof.Rows L2
theorem PSet.or {X : Cx} {t u : TSet} (h : PSet X t) (h2 : PSet X u) : PSet X (fun o i v H Q => t o i v H Q ∨ u o i v H Q) := fun pins s σ H o i v ov iv uu Q I ro ri rv q => by
  rcases q with q | q
  · exact h pins s σ H o i v ov iv uu Q I ro ri rv q
  · exact h2 pins s σ H o i v ov iv uu Q I ro ri rv q
section
variable {C : Ctx} {xa : XA} {K : PySem.W.Frag} {mg : Str → Option Value} {F G H : Hp} {e : Env} {σ : L2.St} {τ xs : List (Option V)} {W : WX} {D : Ends} {n : Nat}
theorem OwnRs.setAt {os : List OD} {x : OD} {v : V} {fx : List Addr} (hx : OwnR K H G x v fx) : ∀ {vs : List V} {fp : List Addr} {j : Nat}, OwnRs K H G os vs fp → j < os.length → ∃ f1 f2 f3, fp = f1 ++ (f2 ++ f3) ∧ OwnRs K H G (os.set j x) (vs.set j v) (f1 ++ (fx ++ f3)) := by
  induction os with
  | nil => intro vs fp j h hj; exact absurd hj (Nat.not_lt_zero _)
  | cons o os ih =>
    intro vs fp j h hj
    obtain ⟨w, r, g1, g2, rfl, rfl, h3, h4⟩ := h
    cases j with
    | zero => exact ⟨[], g1, g2, rfl, v, r, fx, g2, rfl, rfl, hx, h4⟩
    | succ j =>
      obtain ⟨f1, f2, f3, e1, h5⟩ := ih h4 (Nat.lt_of_succ_lt_succ hj)
      exact ⟨g1 ++ f1, f2, f3, by rw [e1, List.append_assoc], w, r.set j v, g1, f1 ++ (fx ++ f3), rfl, by rw [List.append_assoc], h3, h5⟩
theorem ixN_lt {n j : Nat} {i : Int} (h : ixN n i = some j) : j < n := (ixN_seq h).2.1 |> fun _ => by
  have := ixN_seq h
  omega
theorem putK_hit {ks : List Key} {v : V} {k : Key} : ∀ {vs : List V} {j : Nat}, ks.Nodup → ks.length = vs.length → ks.findIdx? (fun a => decide (a = k)) = some j → j < ks.length ∧ putK (ks.zip vs) k v = ks.zip (vs.set j v) := by
  have miss : ∀ {ks : List Key} {vs : List V}, k ∉ ks → (ks.zip vs).map (fun kv => if kv.1 = k then (kv.1, v) else kv) = ks.zip vs := by
    intro ks
    induction ks with
    | nil => intro vs _; rfl
    | cons a ks ih =>
      intro vs h
      cases vs with
      | nil => rfl
      | cons w vs =>
        simp only [List.mem_cons, not_or] at h
        rw [List.zip_cons_cons, List.map_cons, ih h.2, if_neg (Ne.symm h.1)]
  induction ks with
  | nil => intro vs j _ _ h; cases h
  | cons a ks ih =>
    intro vs j nd hl h
    cases vs with
    | nil => cases hl
    | cons w vs =>
      obtain ⟨n1, n2⟩ := List.nodup_cons.mp nd
      rw [List.findIdx?_cons] at h
      by_cases hk : a = k
      · subst hk
        simp only [decide_true, if_true] at h
        cases h
        refine ⟨Nat.zero_lt_succ _, ?_⟩
        unfold putK
        rw [List.zip_cons_cons, if_pos (by simp), List.map_cons, if_pos rfl, miss n1]
        rfl
      · simp only [hk, decide_false, Bool.false_eq_true, if_false] at h
        cases q : ks.findIdx? (fun a => decide (a = k)) with
        | none => rw [q] at h; cases h
        | some j' =>
          rw [q] at h
          cases h
          obtain ⟨h1, h2⟩ := ih n2 (Nat.succ.inj hl) q
          refine ⟨Nat.succ_lt_succ h1, ?_⟩
          show putK ((a, w) :: ks.zip vs) k v = (a, w) :: ks.zip (vs.set j' v)
          rw [← h2]
          unfold putK
          have e1 : (((a, w) :: ks.zip vs).any fun kv => decide (kv.1 = k)) = (ks.zip vs).any fun kv => decide (kv.1 = k) := by
            rw [List.any_cons]
            simp [hk]
          have e2 : ((ks.zip vs).any fun kv => decide (kv.1 = k)) = true := by
            obtain ⟨h3, h4, _⟩ := List.findIdx?_eq_some_iff_getElem.mp q
            refine List.any_eq_true.mpr ⟨(ks[j'], vs[j']'(by rw [← Nat.succ.inj hl]; exact h3)), ?_, by simpa using h4⟩
            exact List.mem_iff_getElem.mpr ⟨j', by rw [List.length_zip, ← Nat.succ.inj hl]; simpa using h3, by simp⟩
          rw [e1, if_pos e2, if_pos e2, List.map_cons, if_neg hk]
theorem putK_miss {ks : List Key} {vs : List V} {v : V} {k : Key} (hl : ks.length = vs.length) (h : ks.findIdx? (fun a => decide (a = k)) = none) : putK (ks.zip vs) k v = (ks ++ [k]).zip (vs ++ [v]) := by
  unfold putK
  have e2 : ¬ ((ks.zip vs).any fun kv => decide (kv.1 = k)) = true := by
    intro z
    obtain ⟨p, hp, hq⟩ := List.any_eq_true.mp z
    have := (List.of_mem_zip hp).1
    have := List.findIdx?_eq_none_iff.mp h p.1 this
    rw [hq] at this
    cases this
  rw [if_neg e2, List.zip_append hl]
  rfl
theorem rds_opdT {c : CE} {k : At → Env → SO} {R : V → Hp → Prop} (r : RS K mg xa F G e (σ ++ τ) H) (h : PostS xa K mg F σ.length W G D ((opd (ev C c e)).so k))
    (hR : ∀ a e1 v zs H1 G1, Ex G G1 → RS K mg xa F G1 e1 (σ ++ (τ ++ zs)) H1 → Opn K G1 (σ ++ (τ ++ zs)) a v → PostS xa K mg F σ.length W G1 D (k a e1) → R v H1) : rdE C xa K mg c W σ H R := by
  refine ⟨e, τ, F, G, r, ?_⟩
  cases q : ev C c e with
  | ok res e' =>
    rw [q] at h
    cases res with
    | frs o =>
      intro v H' G' x r'
      have h' : PostS xa K mg F σ.length W G D (k (.pl e'.length) (e' ++ [.own o none])) := h
      have l := r'.len
      simp only [List.length_append, List.length_cons, List.length_nil] at l
      have r2 : RS K mg xa F G' (e' ++ [.own o none]) (σ ++ (τ ++ [some v])) H' := by rw [← List.append_assoc]; exact r'
      refine hR (.pl e'.length) (e' ++ [.own o none]) v [some v] H' G' x r2 ?_ (PostS.mono x h')
      show (σ ++ (τ ++ [some v]))[e'.length]? = some (some v)
      rw [← List.append_assoc, List.getElem?_append_right (by simp only [List.length_append]; omega)]
      simp only [List.length_append]
      rw [show e'.length - (σ.length + τ.length) = 0 by omega] <;> rfl
    | at_ a =>
      intro v H' G' x r' o
      have h' : PostS xa K mg F σ.length W G D (k a e') := h
      have r2 : RS K mg xa F G' e' (σ ++ (τ ++ [])) H' := by rw [List.append_nil]; exact r'
      exact hR a e' v [] H' G' x r2 (by rw [List.append_nil]; exact o) (PostS.mono x h')
  | err x e' =>
    rw [q] at h
    exact fun cls dx H' G' ys y r' hm hx => h cls dx σ ys H' G' rfl y r' hm hx
  | bad =>
    rw [q] at h
    exact h
theorem rds_bindT {c : CE} {k : Res → Env → SO} {R : V → Hp → Prop} (r : RS K mg xa F G e (σ ++ τ) H) (h : PostS xa K mg F σ.length W G D ((ev C c e).so k))
    (hR : ∀ a e1 v H1 G1, Ex G G1 → RS K mg xa F G1 e1 (σ ++ τ) H1 → Opn K G1 (σ ++ τ) a v → PostS xa K mg F σ.length W G1 D (k (.at_ a) e1) → R v H1)
    (hF : ∀ o e1 v H1 G1, Ex G G1 → RS K mg xa F G1 (e1 ++ [.own o none]) (σ ++ τ ++ [some v]) H1 → PostS xa K mg F σ.length W G1 D (k (.frs o) e1) → R v H1) : rdE C xa K mg c W σ H R := by
  refine ⟨e, τ, F, G, r, ?_⟩
  cases q : ev C c e with
  | ok res e' =>
    rw [q] at h
    cases res with
    | frs o => exact fun v H' G' x r' => hF o e' v H' G' x r' (PostS.mono x h)
    | at_ a => exact fun v H' G' x r' o => hR a e' v H' G' x r' o (PostS.mono x h)
  | err x e' =>
    rw [q] at h
    exact fun cls dx H' G' ys y r' hm hx => h cls dx σ ys H' G' rfl y r' hm hx
  | bad =>
    rw [q] at h
    exact h
theorem subF_cases {t t' x : OD} {d : PV.D} (h : subF t d x = some t') : (∃ xs i j, t = .lst xs ∧ d = .int i ∧ ixN xs.length i = some j ∧ t' = .lst (xs.set j x)) ∨
    ∃ ks vs k, t = .dic ks vs ∧ keyD d = some k ∧ ks.length < LIM ∧ ks.Nodup ∧ ((∃ j, ks.findIdx? (fun a => decide (a = k)) = some j ∧ t' = .dic ks (vs.set j x)) ∨ (ks.findIdx? (fun a => decide (a = k)) = none ∧ t' = .dic (ks ++ [k]) (vs ++ [x]))) := by
  unfold subF at h
  split at h
  · split at h
    · exact .inl ⟨_, _, _, rfl, rfl, by assumption, (Option.some.inj h).symm⟩
    · cases h
  · split at h
    · split at h
      · rename_i hh
        split at h
        · exact .inr ⟨_, _, _, rfl, by assumption, hh.1, hh.2, .inl ⟨_, by assumption, (Option.some.inj h).symm⟩⟩
        · exact .inr ⟨_, _, _, rfl, by assumption, hh.1, hh.2, .inr ⟨by assumption, (Option.some.inj h).symm⟩⟩
      · cases h
    · cases h
  · cases h
theorem keyD_kV' {d : PV.D} {k : Key} {v : V} (h : keyD d = some k) (r : Rep K G d v) : v = kV k := by
  cases d <;> simp only [keyD, reduceCtorEq] at h <;> (cases h; exact r)
theorem mem3 {f1 f2 f3 fx : List Addr} {a b : Addr} (h : b ∈ a :: (f1 ++ (fx ++ f3))) : b ∈ a :: (f1 ++ (f2 ++ f3)) ++ fx := by
  simp only [List.mem_cons, List.mem_append] at h ⊢
  rcases h with h | h | h | h
  · exact .inl (.inl h)
  · exact .inl (.inr (.inl h))
  · exact .inr h
  · exact .inl (.inr (.inr (.inr h)))
theorem nodup3x {f1 f2 f3 fx : List Addr} {a : Addr} (h : (a :: (f1 ++ (f2 ++ f3)) ++ fx).Nodup) : (a :: (f1 ++ (fx ++ f3))).Nodup := by
  obtain ⟨h1, h2, h3⟩ := List.nodup_append.mp h
  obtain ⟨h4, h5⟩ := List.nodup_cons.mp h1
  obtain ⟨p1, p2, p3⟩ := nodup3 h5
  refine List.nodup_cons.mpr ⟨fun z => ?_, nodup3' h2 p2 fun c hc hm => h3 c ?_ c hc rfl⟩
  · simp only [List.mem_append] at z
    rcases z with z | z | z
    · exact h4 (List.mem_append_left _ z)
    · exact h3 a List.mem_cons_self a z rfl
    · exact h4 (List.mem_append_right _ (List.mem_append_right _ z))
  · simp only [List.mem_cons, List.mem_append] at hm ⊢
    rcases hm with hm | hm
    · exact .inr (.inl hm)
    · exact .inr (.inr (.inr hm))
theorem rds_sub {co ci cv : CE} (q : rdS C xa K mg (.sub co ci cv) W D σ H) :
    tAsg (rdE C xa K mg cv W) (gSub (rdE C xa K mg co W) (rdE C xa K mg ci W) fun o i v H Q => rSetL o i v H Q ∨ rSetD o i v H Q) D σ H := by
  obtain ⟨e, F, G, r, q⟩ := q
  rw [run.eq_def] at q
  have hn := r.len
  refine rds_opd r q fun a e1 v zs H1 G1 x1 r1 o1 q1 => ?_
  refine rds_bindT r1 q1 (fun b e2 w H2 G2 x2 r2 o2 q2 => ?_) (fun o e2 w H2 G2 x2 r2 q2 => q2.elim)
  cases b with
  | val d => exact q2.elim
  | pl kk =>
    refine rds_opdT r2 q2 fun b e3 u ys H3 G3 x3 r3 o3 q3 => ?_
    obtain ⟨di, z1, q4⟩ := PostS.lift q3
    obtain ⟨⟨x, e4⟩, z2, q5⟩ := PostS.lift q4
    obtain ⟨t, z3, q6⟩ := PostS.lift q5
    obtain ⟨t', z4, q7⟩ := PostS.lift q6
    obtain ⟨p, s4⟩ := treeAt_own z3
    have o1' : Opn K G3 (σ ++ (zs ++ ys)) a v := by
      have := o1.mono (ys := ys) (x2.trans x3)
      rw [List.append_assoc] at this
      exact this
    have r3' : RS K mg xa F G3 (e3 ++ []) (σ ++ (zs ++ ys) ++ []) H3 := by rw [List.append_nil, List.append_nil]; exact r3
    obtain ⟨G4, x4, r4⟩ := r3'.take1 r3.len o1' z2
    rw [List.nil_append, List.nil_append] at r4
    have l4 : e4.length = (σ ++ (zs ++ ys)).length := (take_len z2).trans r3.len
    have hk : (σ ++ (zs ++ ys))[kk]? = some (some w) := by
      have h1 : (σ ++ zs)[kk]? = some (some w) := o2
      rw [← List.append_assoc, List.getElem?_append_left (List.getElem?_eq_some_iff.mp h1).1]
      exact h1
    have hu := r3.look o3 z1
    have r4' : RS K mg xa F G4 (e4 ++ [x].map fun o => .own o none) (σ ++ (zs ++ ys) ++ [v].map some) H3 := r4
    have fin : ∀ {H' : Hp}, RS K mg xa F G4 (e4.set kk (.own t' p)) (σ ++ (zs ++ ys)) H' → D.nx σ H' := fun {H'} r5 => by
      have r6 := r5.cut
      have q8 : PostS xa K mg F σ.length W G3 D (.nx ((putAt e4 kk t').take e.length)) := q7
      rw [putAt_own s4] at q8
      rw [← hn] at r6
      exact q8 σ H' G4 rfl x4 r6
    have hk2 : (σ ++ (zs ++ ys) ++ [some v])[kk]? = some (some w) := by rw [List.getElem?_append_left (List.getElem?_eq_some_iff.mp hk).1]; exact hk
    have s4' : slotAt (e4 ++ [.own x none]) kk = .own t p := by rw [slotAt_app (lt_own s4)]; exact s4
    obtain ⟨_, fo, fp, ow, _⟩ := r4.tree s4' hk2
    rcases subF_cases z4 with ⟨xs, i, j, rfl, rfl, hj, rfl⟩ | ⟨ks, vs, k, rfl, hkk, hlim, hnd, hc⟩
    · obtain ⟨l, us, fp', rfl, rfl, hH, how⟩ := ow
      refine .inl ⟨l, us, i, j, rfl, hu, hH, by rw [← how.len]; exact hj, fin ?_⟩
      refine r4'.absorb l4 s4 hk fun fo fx ht hx nd => ?_
      obtain ⟨l', us', f1, e1, rfl, hH', hT⟩ := ht
      cases e1
      rw [hH] at hH'
      cases hH'
      obtain ⟨w', e2, hX⟩ := owns1 hx
      cases e2
      obtain ⟨g1, g2, g3, rfl, hS⟩ := OwnRs.setAt (H := H3) hX hT (ixN_lt hj)
      have nd' := nodup3x nd
      exact ⟨List.mem_cons_self, _, own_root (vs := us.set j v) (us := us.set j v) hS (List.nodup_cons.mp nd').1, nd', fun b hb => mem3 hb⟩
    · obtain ⟨l, us, fp', rfl, rfl, hH, hl, how⟩ := ow
      have hlz : (ks.zip us).length < sizeLine := by
        rw [List.length_zip]
        have := LIM_lt hlim
        omega
      refine .inr ⟨l, _, rfl, .inl ⟨ks.zip us, k, hH, keyD_kV' hkk hu, hlz, rfl⟩, fin ?_⟩
      rcases hc with ⟨j, hj, rfl⟩ | ⟨hj, rfl⟩
      · obtain ⟨hjl, hput⟩ := putK_hit (v := v) hnd hl hj
        rw [hput]
        refine r4'.absorb l4 s4 hk fun fo fx ht hx nd => ?_
        obtain ⟨l', us', f1, e1, rfl, hH', hl', hT⟩ := ht
        cases e1
        rw [hH] at hH'
        obtain ⟨w', e2, hX⟩ := owns1 hx
        cases e2
        have eu : us' = us := by
          have h1 : ks.zip us = ks.zip us' := HO.dK.inj (Option.some.inj hH')
          have h2 := congrArg (List.map Prod.snd) h1
          rw [List.map_snd_zip (Nat.le_of_eq hl.symm), List.map_snd_zip (Nat.le_of_eq hl'.symm)] at h2
          exact h2.symm
        subst eu
        obtain ⟨g1, g2, g3, rfl, hS⟩ := OwnRs.setAt (H := H3) hX hT (j := j) (by rw [hT.len, ← hl]; exact hjl)
        have nd' := nodup3x nd
        have hni := (List.nodup_cons.mp nd').1
        exact ⟨List.mem_cons_self, _, ⟨l, us'.set j v, _, rfl, rfl, upd_same, by rw [List.length_set]; exact hl, OwnRs.mono K (Ex.refl _) _ _ _ (fun b hb => upd_ne fun z => hni (z ▸ hb)) hS⟩, nd', fun b hb => mem3 hb⟩
      · rw [putK_miss hl hj]
        refine r4'.absorb l4 s4 hk fun fo fx ht hx nd => ?_
        obtain ⟨l', us', f1, e1, rfl, hH', hl', hT⟩ := ht
        cases e1
        rw [hH] at hH'
        obtain ⟨w', e2, hX⟩ := owns1 hx
        cases e2
        have eu : us' = us := by
          have h1 : ks.zip us = ks.zip us' := HO.dK.inj (Option.some.inj hH')
          have h2 := congrArg (List.map Prod.snd) h1
          rw [List.map_snd_zip (Nat.le_of_eq hl.symm), List.map_snd_zip (Nat.le_of_eq hl'.symm)] at h2
          exact h2.symm
        subst eu
        have hS : OwnRs K H3 G4 (vs ++ [x]) (us' ++ [v]) (f1 ++ fx) := hT.app ⟨v, [], fx, [], rfl, by simp, hX, rfl, rfl⟩
        have hni := (List.nodup_cons.mp nd).1
        exact ⟨List.mem_cons_self, l :: (f1 ++ fx), ⟨l, us' ++ [v], _, rfl, rfl, upd_same, by simp [hl], OwnRs.mono K (Ex.refl _) _ _ _ (fun b hb => upd_ne fun z => hni (z ▸ hb)) hS⟩, nd, fun b hb => hb⟩
end
section
variable {C : Ctx} {xa : XA} {X : Cx} {pos pos' : Pos} {o i v : Expr} {co ci cv : CE}
theorem vs_sub (hu : X.A.units + 200 < cLine) (ho : VE C xa X o co) (hi : VE C xa X i ci) (hv : VE C xa X v cv)
    (ha : ∀ v, assign (.Subscript o i pos') X.env v = (do
      let ov ← holding [v] (eval o X.env)
      let iv ← holding [v, ov] (eval i X.env)
      standAt pos'
      holding [v, ov, iv] (setItem ov iv v)
      release [v, ov, iv] []) := by intro _; rfl)
    (hs : swapsWithSole [.Subscript o i pos'] v pos.line X.env = pure false := by rfl) (hw : swappedStores [.Subscript o i pos'] v X.env = pure none := by rfl)
    (h1 : (assignEach [.Subscript o i pos'] X.env).map (·.2) = [assign (.Subscript o i pos') X.env] := by rfl) : VS C xa X (.Assign [.Subscript o i pos'] v pos) (.sub co ci cv) :=
  ⟨fun W tk => ps_imp (ps_asg (hv.pe W tk) (pg_sub (ho.pe W tk) (hi.pe W tk) (PSet.or set_list (set_dict (by omega))) ha) hs hw h1) fun D σ H q => rds_sub q⟩
end
end PV
end

section
set_option Elab.async false
set_option linter.all false
set_option maxRecDepth 100000
set_option maxHeartbeats 4000000
/-! PV19: several clauses except C as n; raise -/
namespace L2
open PySem PySem.Spec PyProof.Rows
/-- the ends of a suite whose name goes -/
def endAs (D : Ends) (i : Nat) : Ends := { nx := fun σ' H' => D.nx (σ'.set i none) H', rt := D.rt, bk := fun σ' H' => D.bk (σ'.set i none) H', ct := fun σ' H' => D.ct (σ'.set i none) H' }
/-- what the clauses wish of an exception of the body, one after the other; each with its name's slot -/
def wAsMany (K : PySem.W.Frag) (Wout : WX) (D : Ends) : List (Value × Nat × (Addr → Value → Option Addr → TS)) → WX
  | [] => Wout
  | (c, i, ts) :: r => fun cls d σ H => ∃ b, PySem.W.exmOne K cls c = some b ∧ (b = true → ∀ a, H a = none → ts a cls d (endAs D i) (σ.set i (some (.ref a))) H) ∧ (b = false → wAsMany K Wout D r cls d σ H)
inductive HdsAs (X : Cx) : List ExceptHandler → List (Value × Nat × (Addr → Value → Option Addr → TS)) → Prop
  | nil : HdsAs X [] []
  | cons {x n : Str} {c : Value} {i : Nat} {ts : Addr → Value → Option Addr → TS} {b₀ : Stmt} {suite : List Stmt} {np pos' : Pos} {hds : List ExceptHandler} {l : List (Value × Nat × (Addr → Value → Option Addr → TS))} (hc : Names X x c) (hi : X.N[i]? = some n) (hln : X.env.kindOf n = some .local)
      (hsu : ∀ (a : Addr) (oe : Obj) (cls : Value) (d : Option Addr) (pn : List (Addr × Obj)), Zc cls d oe → (∃ vs, oe.data = .fields vs) → PSs (X.suite a ((a, oe) :: pn)) (b₀ :: suite) (ts a cls d)) (r : HdsAs X hds l) :
      HdsAs X (.ExceptHandler (some (.Name x np)) (some n) (b₀ :: suite) pos' :: hds) ((c, i, ts) :: l)
section
variable {X : Cx} {body : List Stmt} {h₀ : ExceptHandler} {hds : List ExceptHandler} {l : List (Value × Nat × (Addr → Value → Option Addr → TS))} {pos : Pos} {tb : WX → TS} {Wout : WX}
theorem ps_try_asMany (hs : X.stack = X.env :: X.outer) (hf : X.env.frame = some X.env.locals) (hN : X.N.Nodup) (tk : Takes X Wout)
    (hb : ∀ (W : WX) (pn : List (Addr × Obj)) (xe : Value → Shared → Prop), Takes (X.tr pn xe) W → PassesOwn (model X.prog X.w) X.A X.env xe → PSs (X.tr pn xe) body (tb W))
    (hh : HdsAs X (h₀ :: hds) l) : PS X (.Try body (h₀ :: hds) [] [] pos) (fun D σ H => tb (wAsMany X.K Wout D l) D σ H) := by
  refine ⟨fun pins s σ H D I h => ?_⟩
  have ok := I.ok
  have hfr : X.A.frames = some (X.env :: X.outer) := by rw [ok.frames, hs]
  refine wpAny_Try_except ?_
  refine wpAny_mono ((hb (wAsMany X.K Wout D l) (X.pn ++ pins) (fun e s₁ => wpAny (model X.prog X.w) X.A (noteFrame e X.env) (fun _ s₂ => wpAny (model X.prog X.w) X.A (setFlight e none) (fun _ s₃ =>
    wpAny (model X.prog X.w) X.A (handleBy e X.env (h₀ :: hds)) (SP X pins D) X.xe s₃) X.xe s₂) X.xe s₁) (fun u s' xx => ?_) PassesOwn.looking).run [] s σ H D (I.toTry _) h) (fun f s1 hsp => ?_) (fun e s1 he => he)
  · obtain ⟨a, B, sI, pins', σ', H', cls, d, rfl, J', nb, up, sky, na, os, ag, w⟩ := xx
    have J : Inv X pins σ' H' sI := J'.ofTry ok
    have sky' : Sky B (X.env :: X.outer) a (Zc cls d) X.env.locals s'.heap := by rw [← hs]; exact sky
    show wpAny (model X.prog X.w) X.A (noteFrame (.ref a) X.env) _ _ _
    refine Sky.land Zc.steady hfr hf sky' fun h3 fl3 up3 => ?_
    have J3 : Inv X pins σ' H' { s' with heap := h3 } := J.landed nb fl3.1 (up.trans up3) os ag
    obtain ⟨oe3, vs3, he3, hz3, hd3⟩ := fl3.there
    have notFr : ∀ {h : Heap} {o : Obj} {vs : Array Value}, h.FunFrames B (X.env :: X.outer) → h.get? a = some o → o.data = .fields vs → a ∉ frs (X.env :: X.outer) := fun {h o vs} ff e dd hm => by
      obtain ⟨_, o', e', hnf⟩ := ff.mem hm
      rw [e] at e'; cases e'
      exact hnf _ dd
    have nfr := notFr fl3.2.2.1 he3 hd3
    have nL : a ≠ X.env.locals := fun z => nfr (List.mem_filterMap.mpr ⟨X.env, List.mem_cons_self, by rw [hf, z]⟩)
    have nF : a ∉ X.fs := fun hm => by
      obtain ⟨e, he, q⟩ := List.mem_filterMap.mp hm
      exact nfr (List.mem_filterMap.mpr ⟨e, List.mem_cons_of_mem _ he, q⟩)
    have S3 := J3.suite he3 hd3 na nL nF
    have go : ∀ {hds' : List ExceptHandler} {l' : List (Value × Nat × (Addr → Value → Option Addr → TS))}, HdsAs X hds' l' → wAsMany X.K Wout D l' cls d σ' H' →
        wpAny (model X.prog X.w) X.A (handleBy (.ref a) X.env hds') (SP X pins D) X.xe { s' with heap := h3 } := by
      intro hds' l' hk
      induction hk with
      | nil =>
        intro w
        refine wpAny_handleBy_nil ?_
        obtain ⟨k1, k2, k3, oe, vs, T, oT, ts', he, hz, hd, h1, hr⟩ := id fl3
        unfold PySem.passOn
        refine wpAny_bind (wpAny_field he hd h1 ?_)
        rw [if_neg (show ¬ ((Value.ref T == Value.none) = true) from by simp)]
        have fin : wpAny (model X.prog X.w) X.A (setFlight (.ref a) X.env.frame) (fun _ s4 => wpAny (model X.prog X.w) X.A (throw (.ref a) : Sem Flow) (SP X pins D) X.xe s4) X.xe { s' with heap := h3 } := by
          rw [hf]
          refine HandSPX.setFlight_upZ fl3 fun h4 hh4 up4 => wpAny_throw (tk _ _ ?_)
          exact ⟨a, B, sI, pins, σ', H', cls, d, rfl, J, nb, (up.trans up3).trans up4, .inr (.inr (by rw [hs]; exact hh4)), na, os, ag, w⟩
        first
          | exact wpAny_bind (wpAny_pure (wpAny_bind fin))
          | exact wpAny_bind fin
      | @cons x n c i ts b₀ suite np pos' hds2 l2 hc hi hln hsu r ih =>
        intro w
        have hloc : Loc X.env.scope n := .inl hln
        obtain ⟨b, hb1, hyes, hno⟩ := w
        refine wpAny_handleBy_cons (codeAny_handlers_test ?_) (by intro q; cases q)
        have LT : PySem.W.Looks (model X.prog X.w) h3 (typeOf (.ref a)) cls := fun A Q E s k q => wpAny_typeOf_ref (k _ _ he3) (by rw [hz3.1]; exact q)
        have LM := PySem.W.exm_one (M := model X.prog X.w) (J3.kIn) LT hb1
        have test : ∀ {Q : Value → Shared → Prop} {E : Value → Shared → Prop}, Q c { s' with heap := h3 } → wpAny (model X.prog X.w) (X.A.mark (some (.ref a))) (eval (.Name x np) X.env) Q E { s' with heap := h3 } := fun {Q E} q => by
          obtain ⟨hg, hdbg, hm | ⟨hm, hv, hnn⟩⟩ := hc
          · exact ld_glob (X := X.suite a ((a, oe3) :: (X.pn ++ pins))) S3 hg hm q hdbg
          · exact ld_blt (X := X.suite a ((a, oe3) :: (X.pn ++ pins))) S3 hg hm hv q hnn hdbg
        refine test (LM.here ?_)
        cases b with
        | true =>
          refine codeAny_handlers_suite_as ?_
          refine HandSPX.lands_againZ fl3 fun h4 fl4 up4 => ?_
          have J4 : Inv X pins σ' H' { s' with heap := h4 } := J.landed nb fl4.1 ((up.trans up3).trans up4) os ag
          obtain ⟨oe4, vs4, he4, hz4, hd4⟩ := fl4.there
          have S4 := J4.suite he4 hd4 na nL nF
          refine store_ok (X := X.suite a ((a, oe4) :: (X.pn ++ pins))) (v := .ref a) S4 hN hi hloc rfl (fun s5 S5 => ?_) (.inr hln)
          refine wpAny_mono ((hsu a oe4 cls d (X.pn ++ pins) hz4 ⟨_, hd4⟩).run [] s5 _ H' _ S5 (hyes rfl a na)) (fun f s6 hsp => ?_) (fun _ _ z => False.elim z)
          have end_ : ∀ {σ6 : St} {H6 : Hp} {Q : Shared → Prop}, Inv (X.suite a ((a, oe4) :: (X.pn ++ pins))) [] σ6 H6 s6 → (∀ s7, Inv X pins (σ6.set i none) H6 s7 → Q s7) →
              wpAny (model X.prog X.w) X.A (do bindName X.env n .none; unbindBehindTheSuite X.env n pos') (fun _ s7 => Q s7) X.xe s6 := fun {σ6 H6 Q} S6 hq => gone_ok (S6.unsuite ok) hN hi hln hq
          cases f with
          | next =>
            obtain ⟨σ6, H6, S6, q6⟩ := hsp
            exact end_ S6 fun s7 J7 => ⟨_, _, J7, q6⟩
          | brk =>
            obtain ⟨σ6, H6, S6, q6⟩ := hsp
            exact end_ S6 fun s7 J7 => ⟨_, _, J7, q6⟩
          | cont =>
            obtain ⟨σ6, H6, S6, q6⟩ := hsp
            exact end_ S6 fun s7 J7 => ⟨_, _, J7, q6⟩
          | ret u =>
            obtain ⟨v6, σ6, H6, S6, r6, q6⟩ := hsp
            exact end_ S6 fun s7 J7 => ⟨_, _, _, J7, r6, q6⟩
        | false =>
          show wpAny _ X.A (handleBy (.ref a) X.env hds2) _ _ _
          exact ih (hno rfl)
    exact go hh w
  · cases f with
    | next =>
      obtain ⟨σ', H', J', q⟩ := hsp
      exact wpAny_execs_nil ⟨σ', H', J'.ofTry ok, q⟩
    | brk =>
      obtain ⟨σ', H', J', q⟩ := hsp
      exact ⟨σ', H', J'.ofTry ok, q⟩
    | cont =>
      obtain ⟨σ', H', J', q⟩ := hsp
      exact ⟨σ', H', J'.ofTry ok, q⟩
    | ret u =>
      obtain ⟨v, σ', H', J', r, q⟩ := hsp
      exact ⟨v, σ', H', J'.ofTry ok, r, q⟩
end
end L2
namespace PV
open PySem PySem.Spec PyProof.Rows L2
section
variable {C : Ctx} {xa : XA} {K : PySem.W.Frag} {mg : Str → Option Value} {F G H : Hp} {e : Env} {σ : L2.St} {τ xs : List (Option V)} {W : WX} {D : Ends} {n : Nat}
def fmV (v : V) : Prop := ∃ i : Int, v = .int i ∧ i.natAbs.log2 < 1920
/-- cls(e), its one field fld -/
def tMk (fm : Bool) (cls : Value) (fld : Str) (te : TE) : L2.St → Hp → XK → Prop := fun σ H Q => te σ H fun v H1 => (fm = true → fmV v) ∧ ∀ d, H1 d = none → Q cls (some d) (upd H1 d (.xd [(fld, v)]))
theorem rds_raise {cls fld : Str} {fm : Bool} {ce : CE} {cv : Value} (hm : mg cls = some cv) (q : rdS C xa K mg (.raise_ cls fld fm ce) W D σ H) : tMk fm cv fld (rdE C xa K mg ce W) σ H fun cls d H' => W cls d σ H' := by
  obtain ⟨e, F, G, r, q⟩ := q
  rw [run.eq_def] at q
  have hn := r.len
  refine rds_opd r q fun a e1 v zs H1 G1 x1 r1 o1 q1 => ?_
  obtain ⟨⟨d, e2⟩, z1, q2⟩ := PostS.lift q1
  obtain ⟨G2, x2, r2, hv⟩ := r1.keep o1 z1
  have q3 : PostS xa K mg F σ.length W G1 D (if fm = true → fmOk d = true then .err ⟨cls, [fld], [d]⟩ (e2.take e.length) else .bad) := q2
  split at q3
  · rename_i hf
    refine ⟨fun h => ?_, fun p hp => ?_⟩
    · have hd := hf h
      cases d with
      | int i => exact ⟨i, hv, of_decide_eq_true hd⟩
      | _ => cases hd
    · have gp := (r2.fresh hp).1
      have r3 := (r2.more (o := .xd [(fld, v)]) hp).cut
      rw [← hn] at r3
      refine q3 cv p σ [] _ _ rfl (x2.trans (ex_new gp)) (by rw [List.append_nil]; exact r3) hm ⟨[v], upd_same, rfl, v, [], rfl, Rep.mono K (ex_new gp) _ _ hv, rfl⟩
  · exact q3.elim
theorem noXs_clean {e : Env} (h : noXs e = true) : Clean e := fun s hs c ns vs z => by
  have := List.all_eq_true.mp h s hs
  rw [z] at this
  cases this
/-- a clause's suite -/
def tSuite (pv : Nat → Option V) (C : Ctx) (K : PySem.W.Frag) (mg : Str → Option Value) (c : CS) : Addr → Value → Option Addr → TS := fun a cls d D σ H => ∃ dx, d = some dx ∧ rdS C ⟨some ⟨a, cls, dx⟩, pv⟩ K mg c (fun _ _ _ _ => False) D σ H
def hdsT (pv : Nat → Option V) (C : Ctx) (K : PySem.W.Frag) (mg : Str → Option Value) : List (Value × Nat × CS) → List (Value × Nat × (Addr → Value → Option Addr → TS))
  | [] => []
  | (c, i, b) :: r => (c, i, tSuite pv C K mg b) :: hdsT pv C K mg r
theorem rds_hds {x : Exn} {cls : Value} {dx : Addr} {σ' : L2.St} {H' : Hp} (hm : mg x.cls = some cls) : ∀ {hs : List (Str × Value × Nat × CS)} {e' : Env} {G' : Hp}, (∀ p ∈ hs, ∀ n b c, C.sub n p.1 = some b → mg n = some c → PySem.W.exmOne K c p.2.1 = some b) → RS K mg xa F G' e' σ' H' → Clean e' → ExnR K G' x.ns x.vs dx →
    σ'.length = n → PostS xa K mg F n W G' D (runH C (hs.map (·.1)) (hs.map (·.2.2.1)) (hs.map (·.2.2.2)) x e') → wAsMany K W D (hdsT xa.pv C K mg (hs.map (·.2))) cls (some dx) σ' H'
  | [], e', G', _, r, hc, hx, hl, q => by
    simp only [List.map_nil] at q
    rw [runH.eq_def] at q
    exact q cls dx σ' [] H' G' hl (Ex.refl _) (by rw [List.append_nil]; exact r) hm hx
  | (cn, cv, i, b) :: hs, e', G', hh, r, hc, hx, hl, q => by
    simp only [List.map_cons] at q
    rw [runH.eq_def] at q
    dsimp only at q
    have hh1 := hh _ List.mem_cons_self
    cases zs : C.sub x.cls cn with
    | none => rw [zs] at q; exact q.elim
    | some bb =>
      rw [zs] at q
      refine ⟨bb, hh1 x.cls bb cls zs hm, fun hb a ha => ?_, fun hb => ?_⟩
      · subst hb
        dsimp only at q
        cases z1 : setSlot e' i (.exc x.cls x.ns x.vs) with
        | none => rw [z1] at q; exact q.elim
        | some e1 =>
          rw [z1] at q
          dsimp only at q
          obtain ⟨li, rfl⟩ := setSlot_lt z1
          have r1 : RS K mg ⟨some ⟨a, cls, dx⟩, xa.pv⟩ F G' (e'.set i (.exc x.cls x.ns x.vs)) (σ'.set i (some (.ref a))) H' := by
            obtain ⟨_, fo, fp, _, _, _, _, _, _, k6, k7⟩ := (r.chg (xa' := ⟨some ⟨a, cls, dx⟩, xa.pv⟩) rfl hc).open_ li
            exact k7 H' G' _ _ [] (Ex.refl _) r.gh r.fh r.gf (fun a ha => ⟨rfl, (k6 a ha).2⟩) ⟨rfl, ⟨a, cls, dx⟩, rfl, rfl, hm, hx⟩ List.nodup_nil (fun a z => nomatch z) fun a z => nomatch z
          refine ⟨dx, rfl, e'.set i (.exc x.cls x.ns x.vs), F, G', r1, ?_⟩
          have ls : (σ'.set i (some (V.ref a))).length = n := (List.length_set ..).trans hl
          rw [ls]
          have lin : i < n := by rw [← hl, ← r.len]; exact li
          generalize run C b (e'.set i (.exc x.cls x.ns x.vs)) = o at q
          have back : ∀ {e2 : Env} {σ2 : L2.St} {H2 G2 : Hp}, σ2.length = n → noXs (unbind e2 i) = true → RS K mg ⟨some ⟨a, cls, dx⟩, xa.pv⟩ F G2 e2 σ2 H2 → RS K mg xa F G2 (unbind e2 i) (σ2.set i none) H2 := fun {e2 σ2 H2 G2} l hnx r2 =>
            (r2.non_ (x := none) (by rw [r2.len, l]; exact lin)).chg rfl (noXs_clean hnx)
          unfold SO.unb at q
          cases o with
          | nx e2 =>
            dsimp only at q
            split at q
            · rename_i hnx
              exact fun σ2 H2 G2 l y r2 => q (σ2.set i none) H2 G2 ((List.length_set ..).trans l) y (back l hnx r2)
            · exact q.elim
          | bk e2 =>
            dsimp only at q
            split at q
            · rename_i hnx
              exact fun σ2 H2 G2 l y r2 => q (σ2.set i none) H2 G2 ((List.length_set ..).trans l) y (back l hnx r2)
            · exact q.elim
          | ct e2 =>
            dsimp only at q
            split at q
            · rename_i hnx
              exact fun σ2 H2 G2 l y r2 => q (σ2.set i none) H2 G2 ((List.length_set ..).trans l) y (back l hnx r2)
            · exact q.elim
          | rt rv e2 =>
            dsimp only at q
            split at q
            · rename_i hnx
              cases rv with
              | val d => exact fun v σ2 H2 G2 l y r2 hv => q v (σ2.set i none) H2 G2 ((List.length_set ..).trans l) y (back l hnx r2) hv
              | frs o =>
                intro v σ2 H2 G2 l y r2
                refine q v (σ2.set i none) H2 G2 ((List.length_set ..).trans l) y ?_
                have l2 : e2.length = n := by
                  have := r2.len
                  simp only [List.length_append, List.length_cons, List.length_nil, l] at this
                  omega
                have r3 := r2.non_ (i := i) (x := none) (by rw [List.length_append, l2]; omega)
                rw [set_app (by rw [l2]; exact lin), set_tail (by rw [l]; exact lin)] at r3
                refine r3.chg rfl fun s hs => ?_
                rcases List.mem_append.mp hs with hs | hs
                · exact noXs_clean hnx s hs
                · rw [List.mem_singleton.mp hs]
                  exact fun _ _ _ z => nomatch z
            · exact q.elim
          | err _ _ => exact q.elim
          | bad => exact q.elim
      · subst hb
        exact rds_hds hm (fun p hp => hh p (List.mem_cons_of_mem _ hp)) r hc hx hl q
theorem rds_try {hs : List (Str × Value × Nat × CS)} {c : CS} (hh : ∀ p ∈ hs, ∀ n b c, C.sub n p.1 = some b → mg n = some c → PySem.W.exmOne K c p.2.1 = some b) (q : rdS C xa K mg (.try_ c (hs.map (·.1)) (hs.map (·.2.2.1)) (hs.map (·.2.2.2))) W D σ H) :
    rdS C xa K mg c (wAsMany K W D (hdsT xa.pv C K mg (hs.map (·.2)))) D σ H := by
  obtain ⟨e, F, G, r, q⟩ := q
  rw [run.eq_def] at q
  refine ⟨e, F, G, r, ?_⟩
  have hn := r.len
  dsimp only at q
  cases z : run C c e with
  | err x e1 =>
    rw [z] at q
    dsimp only at q
    split at q
    · rename_i hnx
      intro cls dx σ' ys H' G' l y r' hm hx
      have r2 := r'.take e.length
      rw [hn, ← l, List.take_left, l, ← hn] at r2
      exact rds_hds hm hh r2 (noXs_clean hnx) hx l (PostS.mono y q)
    · exact q.elim
  | nx e1 => rw [z] at q; exact q
  | bk e1 => rw [z] at q; exact q
  | ct e1 => rw [z] at q; exact q
  | bad => rw [z] at q; exact q
  | rt rv e1 =>
    rw [z] at q
    cases rv <;> exact q
end
end PV
end

section
set_option Elab.async false
set_option linter.all false
set_option maxRecDepth 100000
set_option maxHeartbeats 4000000
/-! PV20: a caught exception: its field, its classes -/
namespace PySem.W
open PySem PySem.Spec PySem.Calls PyProof.Rows
section
variable {prog : Program} {w : World} {A : Around} {E : Value → Shared → Prop} {s : Shared} {K : Frag} {x D : Addr} {ox : Obj} {od : Option Obj}
/-- e.__class__ of an exception of an own class, its dict there or not (the walk as in HandS.ExcIs, where it has none) -/
theorem pv_classE {Q : Option Value → Shared → Prop} (C : L2.ExcC K D) (X : K.In s.heap) (I : InstAt s.heap x ox D od) (hf : findObj K D od "__class__" = some (.bind (.builtin "getset_descriptor.__get__") (.builtin "object.__class__")))
    (h : Q (some (.ref D)) { s with toks := s.toks + 1 }) : wpAny (model prog w) A (getAttr? (.ref x) "__class__") Q E s := by
  obtain ⟨hp, g, d, t, os⟩ := s
  have L0 := I.type (M := model prog w)
  have L1 := looks_findIn (M := model prog w) X C.hg
  have L2 := looks_findIn (M := model prog w) X C.hk
  have L3 := looks_find (M := model prog w) X I hf
  have sub : Looks (model prog w) hp (isInstance (.ref x) (.type "BaseException")) true := L0.andThen (looks_subIn X C.hs)
  have n1 : (false && onTheHeap (Value.builtin "BaseException.__getattribute__")) = false := rfl
  have n3 : (Value.builtin "BaseException.__getattribute__" == Value.builtin "object.__getattribute__") = false := by decide +kernel
  have n2 : (onTheHeap (Value.ref D) && Value.builtin "BaseException.__getattribute__" == Value.builtin "object.__getattribute__") = false := by rw [n3]; rfl
  unfold getAttr? getAttrBy? getAttrBy
  refine wpAny_bind (wpAny_mkText (wpAny_bind (wpAny_attempt (wpAny_holding (wpAny_bind (L0.at (wpAny_bind (L1.at ?_))))))))
  show wpAny _ _ (if (onTheHeap (Value.ref D) && Value.builtin "BaseException.__getattribute__" == Value.builtin "object.__getattribute__") = true then _ else _) _ _ _
  rw [n2, if_neg Bool.false_ne_true]
  unfold getAttrByItsOwn hookBefore
  refine wpAny_bind ?_
  rw [if_pos (show onTheHeap (Value.ref D) = true from rfl)]
  refine L2.at (wpAny_bind (wpAny_attempt (wpAny_holding ?_)))
  unfold callGetattribute
  rw [n1, if_neg Bool.false_ne_true]
  unfold boundAndCalled
  rw [PySem.F.excAttr_ValueError.ga.bind (.ref x)]
  refine wpAny_bind (wpAny_pure ?_)
  show wpAny _ _ (call (.builtin "BaseException.__getattribute__") [.ref x, .str "__class__" t]) _ _ _
  refine wpAny_call (codeAny_call_builtin PySem.F.excAttr_ValueError.ga.plain PySem.F.entry_bexc_ga (@check_slot (model prog w) _ _ ⟨hp, g, d, t + 1, os⟩ "BaseException.__getattribute__" "BaseException" "__getattribute__" (.ref x) [.str "__class__" t] [] _ (by decide +kernel) (by decide +kernel) sub (PySem.F.args_bexc_ga (.ref x) (.str "__class__" t)) ?_))
  unfold Builtin.«object.__getattribute__»
  refine wpAny_bind (wpAny_of_eq (a := ((Value.ref x : Value), [Value.str "__class__" t])) (by first | rfl | (simp only [slotArgs]; rfl)) ?_)
  refine wpAny_bind (wpAny_pure (wpAny_bind (L0.at (wpAny_bind (L3.at ?_)))))
  show wpAny _ _ (holding [Value.builtin "object.__class__"] (call (.builtin "getset_descriptor.__get__") [.builtin "object.__class__", .ref x, .ref D]) >>= ret) _ _ _
  refine wpAny_bind (wpAny_holding (wpAny_call (class_get (s := ⟨hp, g, d, t + 1, os⟩) (ox := ox) (od := od) X I C.hm ?_)))
  refine wpAny_pure ?_
  show wpAny _ _ (handedOut (.ref D)) _ _ _
  rw [handedOut_of (v := .ref D) rfl]
  first
    | exact wpAny_pure (wpAny_pure h)
    | exact wpAny_pure h
    | exact wpAny_pure (wpAny_bind (wpAny_pure (wpAny_pure h)))
theorem pv_findObj {C : Addr} {name : Str} {a g : Value} (hc : (clsIn K C).isSome = true) (ha : findIn K (.ref C) name = some (some a)) (hg : specialIn K a "__get__" = some (some g)) (ht : takesIn K a = some true) : findObj K C od name = some (.bind g a) := by
  obtain ⟨cd, hc⟩ := Option.isSome_iff_exists.mp hc
  unfold findObj
  rw [hc, Option.bind_some, ha, Option.bind_some]
  simp [hg, ht]
theorem pv_cls {C : L2.ExcC K D} : ∃ cd, clsIn K D = some cd := by
  obtain ⟨cd, hc, _⟩ := any_some C.hd
  exact ⟨cd, hc⟩
theorem pv_kitx (C : L2.ExcC K D) : KitX K (.ref x) (.ref D) (fun h => ∃ od, InstAt h x ox D od) where
  ty := fun _ _ _ I => by
    obtain ⟨od, I⟩ := I
    exact I.type
  it := fun _ _ X _ => by
    obtain ⟨cdD, hcD⟩ := pv_cls (C := C)
    unfold clsIn at hcD
    split at hcD
    · rename_i ho
      intro A' Q' E' s' k q
      unfold isType loadHead
      exact wpAny_bind (wpAny_loadPart (k _ _ (X _ _ ho)) (wpAny_pure q))
    · cases hcD
  ne := fun h tp dd its n sl X htp => by
    obtain ⟨cdD, hcD⟩ := pv_cls (C := C)
    refine Bool.eq_false_iff.mpr fun q => ?_
    have e : D = tp := Value.ref.inj (beq_iff_eq.mp q)
    subst e
    unfold clsIn at hcD
    split at hcD
    · rename_i ho
      have z := (X _ _ ho).symm.trans htp
      cases z
    · cases hcD
  ca := fun X I k => by
    obtain ⟨od, I⟩ := I
    obtain ⟨cdD, hcD⟩ := pv_cls (C := C)
    exact pv_classE C X I (pv_findObj (by rw [hcD]; rfl) C.ha C.hn C.ht) k
end
end PySem.W
namespace L2
open PySem PySem.Spec PyProof.Rows
section
variable {X : Cx} {a D : Addr} {oe : Obj} {pn : List (Addr × Obj)} {d : Option Addr}
/-- where the exception stands -/
theorem exc_inst {pins : List (Addr × Obj)} {s : Shared} {σ : St} {H : Hp} {fs : List (Str × V)} {dx : Addr} (hz : Zc (.ref D) (some dx) oe) (hf : ∃ vs, oe.data = .fields vs) (I : Inv (X.suite a ((a, oe) :: pn)) pins σ H s) (hx : H dx = some (.xd fs)) :
    ∃ od mA, PySem.W.InstAt s.heap a oe D (some od) ∧ s.heap.Ns1 dx mA ∧ (∀ f, RelO (fs.lookup f) (mA f)) ∧ s.heap.get? dx = some od := by
  obtain ⟨hget, _⟩ := I.pin (a, oe) (List.mem_append_left _ List.mem_cons_self)
  obtain ⟨vs, hv⟩ := hf
  have hxx : ObjOk X.prog X.w H s.heap dx (.xd fs) := I.hok dx _ hx
  obtain ⟨mA, hns, hr⟩ := hxx
  obtain ⟨od, es, ep, ho, hrest⟩ := id hns
  exact ⟨od, mA, ⟨hget, hz.1, by unfold PySem.W.notCls; rw [hv] <;> rfl, by rw [hz.2]; exact ho⟩, hns, hr, ho⟩
/-- isinstance(e, C) of the exception that the suite holds -/
def rIsX (K : PySem.W.Frag) (D a dx : Addr) : List V → Hp → VK → Prop := fun xs H Q => ∃ (c : V) (b : Bool) (fs : List (Str × V)), xs = [.ref a, c] ∧ H dx = some (.xd fs) ∧ Q (.bl b) H ∧
  ((∃ cv, (∀ u, RelV c u → u = cv) ∧ PySem.W.kitOne K (.ref D) cv = some b) ∨ ∃ T vs, c = .ref T ∧ H T = some (.tup vs) ∧ ∀ us, Vals vs us → PySem.W.kitAny K (.ref D) us = some b)
theorem call_isX {dx : Addr} (C : ExcC X.K D) (hz : Zc (.ref D) (some dx) oe) (hf : ∃ vs, oe.data = .fields vs) : CallR (X.suite a ((a, oe) :: pn)) (.builtin "isinstance") (rIsX X.K D a dx) := by
  intro pins s σ H xs us Q I r h
  obtain ⟨c, b, fs, rfl, hx, q, hc⟩ := h
  cases r with
  | cons rx rr =>
    cases rr with
    | cons rt rr =>
      cases rr
      cases rx
      obtain ⟨od, mA, J, _⟩ := exc_inst hz hf I hx
      rcases hc with ⟨cv, hcv, e⟩ | ⟨T, vs, rfl, hT, e⟩
      · have ec := hcv _ rt
        subst ec
        exact PySem.W.kia_one (PySem.W.pv_kitx C) I.kIn ⟨_, J⟩ e (fun z => nomatch z) fun tk => ⟨.bl b, H, I.kept (t' := tk) fun _ _ z => z, rfl, q⟩
      · cases rt
        obtain ⟨z, its, r2, o, ho, hcls, n, hd⟩ := I.hok T _ hT
        obtain ⟨oc, odd, oda, osl⟩ := o
        dsimp only at hcls hd
        subst hcls hd
        exact PySem.W.kia_tup (PySem.W.pv_kitx C) I.kIn ⟨_, J⟩ ho (e _ r2) (fun z => nomatch z) fun tk => ⟨.bl b, H, I.kept (t' := tk) fun _ _ z => z, rfl, q⟩
end
end L2

namespace L2
open PySem PySem.Spec PyProof.Rows
section
variable {X : Cx} {a D : Addr} {oe : Obj} {pn : List (Addr × Obj)} {d : Option Addr}
/-- e.f -/
def tByX (K : PySem.W.Frag) (D a dx : Addr) (f : Str) (te : TE) : TE := fun σ H Q => te σ H fun x H1 => x = .ref a ∧ PySem.W.findIn K (.ref D) f = some none ∧ ∃ (fs : List (Str × V)) (v : V), H1 dx = some (.xd fs) ∧ fs.lookup f = some v ∧ Q v H1
theorem pe_byX {dx : Addr} {e : Expr} {te : TE} {pos : Pos} {f : Str} (C : ExcC X.K D) (hz : Zc (.ref D) (some dx) oe) (hf : ∃ vs, oe.data = .fields vs) (he : PE (X.suite a ((a, oe) :: pn)) e te)
    (hb : attributeBase e f X.env (eval e X.env) = eval e X.env := by rfl) : PE (X.suite a ((a, oe) :: pn)) (.Attribute e f pos) (tByX X.K D a dx f te) := by
  refine ⟨fun pins s σ H Q I h => ?_⟩
  refine attr_of hb (thn (he.run pins s σ H _ I h) fun u s1 hh => ?_)
  obtain ⟨x, H1, I1, rx, ex, hno, fs, v, ea, el, q⟩ := hh
  subst ex
  obtain rfl : u = Value.ref a := rx
  obtain ⟨od, mA, J, hns, hr, ho⟩ := exc_inst hz hf I1 ea
  obtain ⟨od', ho', hl⟩ := lookIn_ns hns
  rw [ho] at ho'
  cases ho'
  obtain ⟨u, hu, ru⟩ := RelO.some_of (v := v) (o := mA f) (by rw [← el]; exact hr f)
  exact HandSPX.exc_get I1.kIn J C.hg C.hk C.hs (PySem.W.findObj_own C.hd hno rfl (by rw [hl, hu])) (handed_of ru) ⟨v, H1, I1.tok _, ru, q⟩
end
end L2
namespace PV
open PySem PySem.Spec PyProof.Rows L2
/-- what the exceptions' classes say -/
structure ExcT (C : Ctx) (K : PySem.W.Frag) (mg : Str → Option Value) : Prop where
  cls : ∀ n cls, mg n = some cls → C.sub n n = some true → ∃ D, cls = .ref D ∧ ExcC K D
section
variable {C : Ctx} {pv : Nat → Option V} {X : Cx} {a dx : Addr} {cls : Value} {oe : Obj} {pn : List (Addr × Obj)} {i : Nat} {x : Str} {p p1 p2 pos : Pos}
theorem exc_slot {xa : XA} {K : PySem.W.Frag} {mg : Str → Option Value} {F G H : Hp} {e : Env} {xs : List (Option V)} (r : RS K mg xa F G e xs H) {c : Str} {ns : List Str} {vs : List PV.D} (q : slotAt e i = .exc c ns vs) :
    ∃ t, xa.ex = some t ∧ xs[i]? = some (some (.ref t.a)) ∧ mg c = some t.cls ∧ ExnR K G ns vs t.dx := by
  have li : i < e.length := slotAt_lt (by rw [q]; exact fun z => nomatch z)
  obtain ⟨y, fo, fp, k1, k2, _⟩ := r.open_ li
  rw [q] at k2
  obtain ⟨_, t, h1, h2, h3, h4⟩ := k2
  subst h2
  exact ⟨t, h1, k1, h3, h4⟩
theorem lookup_zip {K : PySem.W.Frag} {G : Hp} {f : Str} {d : PV.D} : ∀ {ns : List Str} {ds : List PV.D} {vs : List V}, Reps K G ds vs → (ns.zip ds).lookup f = some d → ∃ v, (ns.zip vs).lookup f = some v ∧ Rep K G d v
  | [], _, _, _, h => by simp at h
  | n :: ns, [], _, _, h => by simp at h
  | n :: ns, d' :: ds, vs, r, h => by
    obtain ⟨v, w, rfl, h1, h2⟩ := r
    rw [List.zip_cons_cons, List.lookup_cons] at h ⊢
    cases q : f == n with
    | true => rw [q] at h; cases h; exact ⟨v, rfl, h1⟩
    | false => rw [q] at h; exact lookup_zip h2 h
/-- e.f -/
theorem ve_exat {f : Str} (T : ExcT C X.K X.mg) (hno : ∀ D n, X.mg n = some (.ref D) → C.sub n n = some true → PySem.W.findIn X.K (.ref D) f = some none) (hz : Zc cls (some dx) oe) (hf : ∃ vs, oe.data = .fields vs) (hN : X.N[i]? = some x) (hv : Vis X.env.scope x)
    (hd : (x == ("__debug__" : Str)) = false := by decide) (hcd : (x == ("__classdict__" : Str)) = false := by decide) (hb : attributeBase (.Name x p1) f X.env (eval (.Name x p1) X.env) = eval (.Name x p1) X.env := by rfl) :
    VE C ⟨some ⟨a, cls, dx⟩, pv⟩ (X.suite a ((a, oe) :: pn)) (.Attribute (.Name x p1) f pos) (.exat i f) := ⟨fun W tk => ⟨fun pins s σ H Q I q => by
  obtain ⟨e, τ, F, G, r, q⟩ := q
  rw [ev.eq_def] at q
  dsimp only at q
  cases zs : slotAt e i with
  | exc c ns vs =>
    rw [zs] at q
    dsimp only at q
    split at q
    · rename_i hsub
      cases zl : (ns.zip vs).lookup f with
      | none => rw [zl] at q; exact q.elim
      | some d =>
        rw [zl] at q
        obtain ⟨t, e1, hx, hm, ws, hg, hl, hr⟩ := exc_slot r zs
        cases e1
        obtain ⟨D, rfl, EC⟩ := T.cls c _ hm hsub
        obtain ⟨v, hv1, hv2⟩ := lookup_zip hr zl
        have li : i < σ.length := by rw [I.len]; exact (List.getElem?_eq_some_iff.mp hN).1
        have hx2 : σ[i]? = some (some (.ref a)) := by rw [List.getElem?_append_left li] at hx; exact hx
        refine (pe_byX (D := D) (f := f) EC hz hf (pe_var (X := X.suite a ((a, oe) :: pn)) hN hv hd hcd) hb).run pins s σ H Q I ?_
        exact ⟨.ref a, hx2, rfl, hno D c hm hsub, ns.zip ws, v, r.gh _ _ hg, hv1, q v H G (Ex.refl _) r hv2⟩
    · exact q.elim
  | _ => rw [zs] at q; exact q.elim⟩⟩
theorem kit_subs {K : PySem.W.Frag} {mg : Str → Option Value} {n : Str} {cl : Value} (hm : mg n = some cl) : ∀ {ps : List (Str × Value)} {b : Bool}, (∀ p ∈ ps, ∀ b, C.sub n p.1 = some b → PySem.W.kitOne K cl p.2 = some b) → subs C.sub n (ps.map (·.1)) = some b → PySem.W.kitAny K cl (ps.map (·.2)) = some b
  | [], b, _, h => by
    cases h
    rfl
  | (c, v) :: ps, b, hk, h => by
    rw [List.map_cons] at h ⊢
    unfold subs at h
    unfold PySem.W.kitAny
    cases z : C.sub n c with
    | none => rw [z] at h; cases h
    | some bb =>
      rw [z] at h
      rw [hk _ List.mem_cons_self bb z]
      cases bb with
      | true => exact h
      | false => exact kit_subs hm (fun p hp => hk p (List.mem_cons_of_mem _ hp)) h
/-- isinstance(e, C) -/
theorem ve_exis1 {cn y : Str} {cv : V} {cu : Value} (T : ExcT C X.K X.mg) (hc : ∀ n cl b, C.sub n n = some true → X.mg n = some cl → C.sub n cn = some b → PySem.W.kitOne X.K cl cu = some b) (hz : Zc cls (some dx) oe) (hf : ∃ vs, oe.data = .fields vs) (hN : X.N[i]? = some x) (hv : Vis X.env.scope x)
    (hm : X.mg "isinstance" = none) (hr : RelV cv cu) (hy : PE (X.suite a ((a, oe) :: pn)) (.Name y p2) (tC cv)) (hu : ∀ u, RelV cv u → u = cu) (hg : Gl X "isinstance" := by rfl)
    (hd : (x == ("__debug__" : Str)) = false := by decide) (hcd : (x == ("__classdict__" : Str)) = false := by decide)
    (he : starEach [.Name x p1, .Name y p2] X.env = (false, eval (.Name x p1) X.env) :: starEach [.Name y p2] X.env := by rfl) (hpl : (backTo pos (starEach [.Name y p2] X.env)).any (·.1) = false := by rfl)
    (he2 : starEach [.Name y p2] X.env = (false, eval (.Name y p2) X.env) :: starEach [] X.env := by rfl) :
    VE C ⟨some ⟨a, cls, dx⟩, pv⟩ (X.suite a ((a, oe) :: pn)) (.Call (.Name "isinstance" p) [.Name x p1, .Name y p2] [] pos) (.exis i [cn]) := ⟨fun W tk => ⟨fun pins s σ H Q I q => by
  obtain ⟨e, τ, F, G, r, q⟩ := q
  rw [ev.eq_def] at q
  dsimp only at q
  cases zs : slotAt e i with
  | exc c ns vs =>
    rw [zs] at q
    dsimp only at q
    split at q
    · rename_i hsub
      obtain ⟨b, zb, q2⟩ := Post.lift q
      obtain ⟨t, e1, hx, hmc, ws, hgx, hl, hrr⟩ := exc_slot r zs
      cases e1
      obtain ⟨D, rfl, EC⟩ := T.cls c _ hmc hsub
      have li : i < σ.length := by rw [I.len]; exact (List.getElem?_eq_some_iff.mp hN).1
      have hx2 : σ[i]? = some (some (.ref a)) := by rw [List.getElem?_append_left li] at hx; exact hx
      have hb : C.sub c cn = some b := by
        unfold subs at zb
        cases z : C.sub c cn with
        | none => rw [z] at zb; cases zb
        | some bb =>
          rw [z] at zb
          cases bb with
          | true => exact zb
          | false => unfold subs at zb; exact zb
      refine (pe_callB (call_isX EC hz hf) (X := X.suite a ((a, oe) :: pn)) hg hm (by decide +kernel) (pa_cons (pe_var (X := X.suite a ((a, oe) :: pn)) (i := i) hN hv hd hcd) (pa_cons hy pa_nil he2) he) (by decide) (by decide) he hpl).run pins s σ H Q I ?_
      exact ⟨.ref a, hx2, cv, b, ns.zip ws, rfl, r.gh _ _ hgx, q2 (.bl b) H G (Ex.refl _) r rfl, .inl ⟨cu, hu, hc c _ b hsub hmc hb⟩⟩
    · exact q.elim
  | _ => rw [zs] at q; exact q.elim⟩⟩
/-- the classes' names, evaluated -/
structure Kns (X : Cx) (es : List Expr) (vs : List V) (us : List Value) : Prop where
  pa : PA X es (fun _ H Q => Q vs H)
  rel : ∀ us', Vals vs us' → us' = us
theorem kns_nil : Kns X [] [] [] := ⟨pa_imp pa_nil fun σ H Q q => q, fun us' h => by cases h; rfl⟩
theorem kns_cons {y : Str} {es : List Expr} {v : V} {u : Value} {vs : List V} {us : List Value} (hy : PE X (.Name y p) (tC v)) (hu : ∀ u', RelV v u' → u' = u) (h : Kns X es vs us) (he : starEach (.Name y p :: es) X.env = (false, eval (.Name y p) X.env) :: starEach es X.env := by rfl) :
    Kns X (.Name y p :: es) (v :: vs) (u :: us) := ⟨pa_imp (pa_cons hy h.pa he) fun σ H Q q => q, fun us' h' => by
  cases h' with
  | cons r rr => rw [hu _ r, h.rel _ rr]⟩
theorem ve_exisT {es : List Expr} {kk : Nat} {cs : List (Str × Value)} {vs0 : List V} (T : ExcT C X.K X.mg) (hc : ∀ n cl, C.sub n n = some true → X.mg n = some cl → ∀ q ∈ cs, ∀ b, C.sub n q.1 = some b → PySem.W.kitOne X.K cl q.2 = some b) (hz : Zc cls (some dx) oe) (hf : ∃ vs, oe.data = .fields vs) (hN : X.N[i]? = some x) (hv : Vis X.env.scope x)
    (hm : X.mg "isinstance" = none) (hk : Kns (X.suite a ((a, oe) :: pn)) es vs0 (cs.map (·.2))) (hlen : vs0.length ≤ 1000) (hg : Gl X "isinstance" := by rfl)
    (hd : (x == ("__debug__" : Str)) = false := by decide) (hcd : (x == ("__classdict__" : Str)) = false := by decide)
    (he : starEach [.Name x p1, .Tuple es kk p2] X.env = (false, eval (.Name x p1) X.env) :: starEach [.Tuple es kk p2] X.env := by rfl) (hpl : (backTo pos (starEach [.Tuple es kk p2] X.env)).any (·.1) = false := by rfl)
    (he2 : starEach [.Tuple es kk p2] X.env = (false, eval (.Tuple es kk p2) X.env) :: starEach [] X.env := by rfl) :
    VE C ⟨some ⟨a, cls, dx⟩, pv⟩ (X.suite a ((a, oe) :: pn)) (.Call (.Name "isinstance" p) [.Name x p1, .Tuple es kk p2] [] pos) (.exis i (cs.map (·.1))) := ⟨fun W tk => ⟨fun pins s σ H Q I q => by
  obtain ⟨e, τ, F, G, r, q⟩ := q
  rw [ev.eq_def] at q
  dsimp only at q
  cases zs : slotAt e i with
  | exc c ns vs =>
    rw [zs] at q
    dsimp only at q
    split at q
    · rename_i hsub
      obtain ⟨b, zb, q2⟩ := Post.lift q
      obtain ⟨t, e1, hx, hmc, ws, hgx, hl, hrr⟩ := exc_slot r zs
      cases e1
      obtain ⟨D, rfl, EC⟩ := T.cls c _ hmc hsub
      have li : i < σ.length := by rw [I.len]; exact (List.getElem?_eq_some_iff.mp hN).1
      have hx2 : σ[i]? = some (some (.ref a)) := by rw [List.getElem?_append_left li] at hx; exact hx
      refine (pe_callB (call_isX EC hz hf) (X := X.suite a ((a, oe) :: pn)) hg hm (by decide +kernel) (pa_cons (pe_var (X := X.suite a ((a, oe) :: pn)) (i := i) hN hv hd hcd) (pa_cons (pe_tup hk.pa) pa_nil he2) he) (by decide) (by decide) he hpl).run pins s σ H Q I ?_
      refine ⟨.ref a, hx2, by rw [sizeLine_eq]; omega, fun pp hp => ?_⟩
      have gp := (r.fresh hp).1
      have r2 := r.more (o := .tup vs0) hp
      refine ⟨.ref pp, b, ns.zip ws, rfl, r2.gh _ _ (ex_new gp _ _ hgx), q2 (.bl b) _ _ (ex_new gp) r2 rfl, .inr ⟨pp, vs0, rfl, upd_same, fun us hus => ?_⟩⟩
      rw [hk.rel us hus]
      exact kit_subs (C := C) hmc (fun q hq b hb => hc c _ hsub hmc q hq b hb) zb
    · exact q.elim
  | _ => rw [zs] at q; exact q.elim⟩⟩
/-! ### the rules for raise and try -/
structure VX (C : Ctx) (xa : XA) (X : Cx) (e : Expr) (cls fld : Str) (fm : Bool) (c : CE) : Prop where
  pm : ∃ cv, X.mg cls = some cv ∧ ∀ W, Takes X W → PMk X e (tMk fm cv fld (rdE C xa X.K X.mg c W))
theorem vs_raise {xa : XA} {e : Expr} {c fld : Str} {fm : Bool} {ce : CE} (hc : X.calm = true) (h : VX C xa X e c fld fm ce) : VS C xa X (.Raise (some e) none pos) (.raise_ c fld fm ce) := ⟨fun W tk => by
  obtain ⟨cv, hm, hp⟩ := h.pm
  exact ps_imp (ps_raise hc tk (hp W tk)) fun D σ H q => rds_raise hm q⟩
inductive VHs (pv : Nat → Option V) (C : Ctx) (X : Cx) : List ExceptHandler → List (Str × Value × Nat × CS) → Prop
  | nil : VHs pv C X [] []
  | cons {y n : Str} {c : Value} {i : Nat} {b₀ : Stmt} {suite : List Stmt} {code : CS} {np pos' : Pos} {hds : List ExceptHandler} {l : List (Str × Value × Nat × CS)} (hc : Names X y c) (hi : X.N[i]? = some n) (hln : X.env.kindOf n = some .local)
      (hsu : ∀ (a : Addr) (oe : Obj) (cls : Value) (dx : Addr) (pn : List (Addr × Obj)), Zc cls (some dx) oe → (∃ vs, oe.data = .fields vs) → VSs C ⟨some ⟨a, cls, dx⟩, pv⟩ (X.suite a ((a, oe) :: pn)) (b₀ :: suite) code) (r : VHs pv C X hds l) :
      VHs pv C X (.ExceptHandler (some (.Name y np)) (some n) (b₀ :: suite) pos' :: hds) ((y, c, i, code) :: l)
theorem VHs.hds {hds : List ExceptHandler} {l : List (Str × Value × Nat × CS)} (h : VHs pv C X hds l) : HdsAs X hds (hdsT pv C X.K X.mg (l.map (·.2))) := by
  induction h with
  | nil => exact .nil
  | cons hc hi hln hsu r ih =>
    refine .cons hc hi hln (fun a oe cls d pn hz hf => ⟨fun pins s σ H D I q => ?_⟩) ih
    obtain ⟨dx, rfl, q⟩ := q
    exact ((hsu a oe cls dx pn hz hf).ps _ takes00).run pins s σ H D I q
theorem vs_try {xa : XA} {body : List Stmt} {c : CS} {h₀ : ExceptHandler} {hds : List ExceptHandler} {l : List (Str × Value × Nat × CS)} (hs : X.stack = X.env :: X.outer) (hf : X.env.frame = some X.env.locals) (hN : X.N.Nodup)
    (hb : ∀ (pn : List (Addr × Obj)) (xe : Value → Shared → Prop), PassesOwn (model X.prog X.w) X.A X.env xe → VSs C xa (X.tr pn xe) body c) (hx : ∀ p ∈ l, ∀ n b cl, C.sub n p.1 = some b → X.mg n = some cl → PySem.W.exmOne X.K cl p.2.1 = some b) (hh : VHs xa.pv C X (h₀ :: hds) l) :
    VS C xa X (.Try body (h₀ :: hds) [] [] pos) (.try_ c (l.map (·.1)) (l.map (·.2.2.1)) (l.map (·.2.2.2))) :=
  ⟨fun W tk => ps_imp (ps_try_asMany hs hf hN tk (tb := fun W => rdS C xa X.K X.mg c W) (fun W pn xe tk hp => (hb pn xe hp).ps W tk) hh.hds) fun D σ H q => rds_try hx q⟩
end
end PV
end

section
set_option Elab.async false
set_option linter.all false
set_option maxRecDepth 100000
set_option maxHeartbeats 4000000
/-! PV21: defs -/
namespace PV
open PySem PySem.Spec PyProof.Rows L2
section
variable {K : PySem.W.Frag} {mg : Str → Option Value} {F G H : Hp} {pv : Nat → Option V}
theorem marked_slots : ∀ {ss : Env} {xs : List (Option V)} {fp : List Addr} {i : Nat}, Free ss → (∀ j x, xs[j]? = some x → pv (i + j) = x) → SlotsR K mg xa0 H G ss xs fp → SlotsR K mg ⟨none, pv⟩ H G (marked i ss) xs fp
  | [], [], fp, i, _, _, h => h
  | s :: ss, x :: xs, fp, i, hf, hp, h => by
    obtain ⟨f1, f2, h1, h2, h3⟩ := h
    have hs := hf s List.mem_cons_self
    have h4 := marked_slots (i := i + 1) (fun s hs => hf s (List.mem_cons_of_mem _ hs)) (fun j y q => by rw [Nat.add_assoc, Nat.add_comm 1 j]; exact hp (j + 1) y (by simpa using q)) h3
    have h0 : pv i = x := hp 0 x rfl
    cases s with
    | non => exact ⟨f1, f2, h1, h2, h4⟩
    | fro d p =>
      have e : p = none := hs
      subst e
      exact ⟨f1, f2, h1, ⟨h2.1, pin0, h2.2.2⟩, h4⟩
    | own t p => exact ⟨f1, f2, h1, ⟨fun t ht => by cases ht; exact h0.symm, h2.2⟩, h4⟩
    | exc _ _ _ => exact hs.elim
  | [], _ :: _, fp, i, _, _, h => h.elim
  | _ :: _, [], fp, i, _, _, h => h.elim
theorem outs_slots : ∀ {ss : List Slot} {vs : List V} {e : Env} {xs : List (Option V)} {fp : List Addr} {i : Nat}, (∀ j v, vs[j]? = some v → pv (i + j) = some v) → ss.length = vs.length → vs.length ≤ e.length → SlotsR K mg ⟨none, pv⟩ H G e xs fp →
    ∃ fp', SlotsR K mg xa0 H G (outs i ss e) (vs.map some) fp' ∧ fp'.Sublist fp
  | [], [], e, xs, fp, i, _, _, _, h => ⟨[], rfl, List.nil_sublist _⟩
  | [], _ :: _, e, xs, fp, i, _, hl, _, _ => by cases hl
  | _ :: _, [], e, xs, fp, i, _, hl, _, _ => by cases hl
  | s :: ss, v :: vs, [], xs, fp, i, _, _, hl, _ => absurd hl (by simp)
  | s :: ss, v :: vs, t :: e, [], fp, i, _, _, _, h => h.elim
  | s :: ss, v :: vs, t :: e, x :: xs, fp, i, hp, hl, hle, h => by
    obtain ⟨f1, f2, h1, h2, h3⟩ := h
    obtain ⟨g, k1, k2⟩ := outs_slots (i := i + 1) (ss := ss) (vs := vs) (fun j w q => by rw [Nat.add_assoc, Nat.add_comm 1 j]; exact hp (j + 1) w (by simpa using q)) (Nat.succ.inj hl) (Nat.le_of_succ_le_succ hle) h3
    have h0 : pv i = some v := hp 0 v rfl
    subst h1
    have non : ∃ fp', SlotsR K mg xa0 H G (.non :: outs (i + 1) ss e) ((v :: vs).map some) fp' ∧ fp'.Sublist (f1 ++ f2) := ⟨g, ⟨[], g, rfl, rfl, k1⟩, k2.trans (List.sublist_append_right _ _)⟩
    cases s with
    | non => exact non
    | fro d p => exact non
    | exc _ _ _ => exact non
    | own o p =>
      show ∃ fp', SlotsR K mg xa0 H G (noX i t :: outs (i + 1) ss e) ((v :: vs).map some) fp' ∧ fp'.Sublist (f1 ++ f2)
      cases t with
      | non => exact non
      | exc _ _ _ => exact non
      | fro d p2 =>
        cases p2 with
        | none => exact non
        | some t =>
          unfold noX
          dsimp only
          split
          · rename_i ht
            subst ht
            obtain ⟨z1, z2, w, z3, z4⟩ := h2
            have z5 := z2 _ rfl
            rw [z3] at z5
            have z6 : some w = some v := z5.trans h0
            cases z6
            exact ⟨g, ⟨[], g, rfl, ⟨rfl, pin0, v, rfl, z4⟩, k1⟩, k2.trans (List.sublist_append_right _ _)⟩
          · exact non
      | own o2 p2 =>
        cases p2 with
        | none => exact non
        | some t =>
          unfold noX
          dsimp only
          split
          · rename_i ht
            subst ht
            obtain ⟨z2, w, z3, z4⟩ := h2
            have z5 := z2 _ rfl
            rw [z3] at z5
            have z6 : some w = some v := z5.trans h0
            cases z6
            exact ⟨f1 ++ g, ⟨f1, g, rfl, ⟨pin0, v, rfl, z4⟩, k1⟩, List.Sublist.append (List.Sublist.refl _) k2⟩
          · exact non
theorem slots_nons : ∀ n : Nat, SlotsR K mg (⟨none, pv⟩ : XA) H G (List.replicate n Slot.non) (List.replicate n none) []
  | 0 => rfl
  | n + 1 => ⟨[], [], rfl, rfl, slots_nons n⟩
theorem RS.enter {ss : Env} {vs : List V} (r : RS K mg xa0 F G ss (vs.map some) H) (hf : Free ss) (n : Nat) : RS K mg ⟨none, fun i => vs[i]?⟩ F G (marked 0 ss ++ List.replicate n Slot.non) (vs.map some ++ List.replicate n none) H := by
  obtain ⟨fp, h, nd, ap⟩ := r.own
  have h2 := marked_slots (pv := fun i => vs[i]?) (i := 0) hf (fun j x q => by
    rw [List.getElem?_map] at q
    show vs[0 + j]? = x
    rw [Nat.zero_add]
    cases z : vs[j]? with
    | none => rw [z] at q; cases q
    | some v => rw [z] at q; cases q; rfl) h
  refine ⟨r.gh, r.fh, r.gf, fp, ?_, nd, ap⟩
  have := h2.append (slots_nons (K := K) (mg := mg) (H := H) (G := G) n)
  rw [List.append_nil] at this
  exact this
theorem RS.leave {ss : List Slot} {vs : List V} {e t : Env} {xs ts : List (Option V)} (r : RS K mg ⟨none, fun i => vs[i]?⟩ F G (e ++ t) (xs ++ ts) H) (hl : ss.length = vs.length) (hle : vs.length ≤ e.length) (hx : e.length = xs.length) (ht : Free t) : RS K mg xa0 F G (outs 0 ss e ++ t) (vs.map some ++ ts) H := by
  obtain ⟨fp, h, nd, ap⟩ := r.own
  obtain ⟨f1, f2, e0, a, b⟩ := h.split e.length
  rw [List.take_left, hx, List.take_left] at a
  rw [List.drop_left, hx, List.drop_left] at b
  obtain ⟨g, k1, k2⟩ := outs_slots (pv := fun i => vs[i]?) (i := 0) (ss := ss) (vs := vs) (fun j v q => by show vs[0 + j]? = _; rw [Nat.zero_add]; exact q) hl hle a
  subst e0
  have sub : (g ++ f2).Sublist (f1 ++ f2) := List.Sublist.append k2 (List.Sublist.refl _)
  exact ⟨r.gh, r.fh, r.gf, g ++ f2, k1.append (b.chgF ht), nd.sublist sub, fun c hc => ap c (sub.subset hc)⟩
theorem marked_len : ∀ (i : Nat) (ss : List Slot), (marked i ss).length = ss.length
  | _, [] => rfl
  | i, s :: ss => by
    cases s <;> (show (_ :: marked _ ss).length = _; rw [List.length_cons, List.length_cons, marked_len])
end
section
variable {P : Program} {w : World} {K : PySem.W.Frag} {mg : Str → Option Value} {base : Heap} {x qual : Str} {params : Arguments} {body : List Stmt} {scope : Scope} {dvs : List V} {kws : List (Str × V)} {f : Addr} {fd : FuncData} {N ps : List Str} {k n : Nat} {T : Str → Option FDef} {sub : Str → Str → Option Bool} {c : CS}
/-- a def of the text keeps what the interpreter promises -/
theorem fn_code (Fd : FunD K x qual params body scope dvs kws f fd) (S : FnScope N ps scope) (hT : T x = some (.code ps.length N.length c))
    (hb : ∀ (pv : Nat → Option V) (cdv : Value) (A : Around) (outer : List PySem.Env) (s : Shared) (H : Hp) (E : XK), Room k (A.deeper (envOfC qual scope s.heap.objs.size f cdv)) →
      VSs ⟨callF T sub n, sub⟩ ⟨none, pv⟩ (cxOf (L2.CX P w) P w K mg base N qual scope f cdv A outer s H E) body c) :
    FnOk P w K mg base (L2.CX P w) (k + 1) f fd ps (spF K mg (callF T sub (n + 1) x)) := by
  have hpl : ps.length ≤ N.length := by have := congrArg List.length S.pre; rw [List.length_take] at this; omega
  have len : ∀ vs H Q E, spF K mg (callF T sub (n + 1) x) vs H Q E → vs.length = ps.length := by
    intro vs H Q E h
    obtain ⟨ss, F, G, r, _, q⟩ := h
    have hl := r.len
    rw [List.length_map] at hl
    unfold callF at q
    rw [hT] at q
    dsimp only at q
    by_cases z : ss.length = ps.length
    · exact hl.symm.trans z
    · rw [if_neg z] at q
      exact q.elim
  refine Fd.ok S len fun cdv A outer s H vs Q E hr hsp => ?_
  have hvl := len _ _ _ _ hsp
  obtain ⟨ss, F, G, r, hfree, q⟩ := hsp
  have hl := r.len
  rw [List.length_map] at hl
  have hV := hb (fun i => vs[i]?) cdv A outer s H E hr
  refine ⟨_, hV.ps _ (takes_of (E := E) rfl rfl rfl rfl), ?_⟩
  have r2 := r.enter hfree (N.length - vs.length)
  refine ⟨_, F, G, r2, ?_⟩
  unfold callF at q
  rw [hT] at q
  dsimp only at q
  rw [if_pos (hl.trans hvl)] at q
  have e1 : marked 0 ss ++ List.replicate (N.length - vs.length) Slot.non = marked 0 ss ++ List.replicate (N.length - ps.length) Slot.non := by rw [hvl]
  have hsl : (L2.start N vs).length = N.length := by
    unfold L2.start
    rw [List.length_append, List.length_map, List.length_replicate]
    omega
  show PostS ⟨none, fun i => vs[i]?⟩ K mg F (L2.start N vs).length (fun cls d _ H => E cls d H) G { nx := fun _ H' => Q .non H', rt := Q } (run ⟨callF T sub n, sub⟩ c (marked 0 ss ++ List.replicate (N.length - vs.length) Slot.non))
  rw [e1, hsl]
  have leave : ∀ {e' : Env} {σ' : L2.St} {H' G' : Hp}, σ'.length = N.length → RS K mg ⟨none, fun i => vs[i]?⟩ F G' e' σ' H' → RS K mg xa0 F G' (outs 0 ss e') (vs.map some) H' := fun {e' σ' H' G'} l r3 => by
    have := RS.leave (ss := ss) (e := e') (t := []) (xs := σ') (ts := []) (by simpa using r3) hl (by rw [r3.len, l]; omega) r3.len (fun s hs => by cases hs)
    simpa using this
  generalize run ⟨callF T sub n, sub⟩ c (marked 0 ss ++ List.replicate (N.length - ps.length) Slot.non) = o at q
  cases o with
  | nx e' => exact fun σ' H' G' l y r3 => q.2 .non H' G' y (leave l r3) rfl
  | bk e' => exact q.elim
  | ct e' => exact q.elim
  | bad => exact q.elim
  | rt rv e' =>
    cases rv with
    | val d => exact fun v σ' H' G' l y r3 hv => q.2 v H' G' y (leave l r3) hv
    | frs o =>
      intro v σ' H' G' l y r3
      have lx : e'.length = σ'.length := by
        have := r3.len
        simp only [List.length_append, List.length_cons, List.length_nil] at this
        omega
      exact q.2 v H' G' y (RS.leave (ss := ss) r3 hl (by rw [lx, l]; omega) lx (fun s hs => by rw [List.mem_singleton.mp hs]; rfl))
  | err xx e' =>
    intro cls dx σ' ys H' G' l y r3 hm hx
    have r4 := r3.take N.length
    rw [← l, List.take_left, l] at r4
    refine q.2 cls dx H' G' y ?_ hm hx
    have hlen : (e'.take N.length).length = N.length := by rw [r4.len, l]
    have r5 := leave l r4
    have e2 : outs 0 ss (e'.take N.length) = outs 0 ss e' := by
      have key : ∀ (ss : List Slot) (i m : Nat) (e : Env), ss.length ≤ m → outs i ss (e.take m) = outs i ss e := by
        intro ss
        induction ss with
        | nil => intro i m e _; rfl
        | cons s ss ih =>
          intro i m e hm
          cases m with
          | zero => simp at hm
          | succ m =>
            have h1 : (e.take (m + 1)).drop 1 = (e.drop 1).take m := by
              cases e <;> simp
            have h2 : slotAt (e.take (m + 1)) 0 = slotAt e 0 := by
              cases e <;> rfl
            have h3 := ih (i + 1) m (e.drop 1) (by simpa using hm)
            cases s <;> (unfold outs; rw [h1, h3]; try rw [h2])
      exact key ss 0 N.length e' (by omega)
    rw [e2] at r5
    exact r5
end
end PV
end

section
set_option Elab.async false
set_option linter.all false
set_option maxRecDepth 100000
set_option maxHeartbeats 4000000
/-! PV22: an own exception whose __init__ says super().__init__(text), then stores its one field -/
namespace L2
open PySem PySem.Spec PySem.Calls PyProof.Rows PySem.W
theorem boot_super : bootBuiltins "super" = some (.type "super") := by first | boot_by_name | rfl | kernel_rfl
/-! ### the text of __init__ -/
def xA (f : Str) (p1 p2 : Pos) : Arguments := { posonlyargs := [], args := [{ arg := "self", annotation := none, pos := p1 }, { arg := f, annotation := none, pos := p2 }], vararg := none, kwonlyargs := [], kw_defaults := [], kwarg := none, defaults := [] }
def xB (f : Str) (msg : Expr) (s1 s2 s3 s4 s5 q1 q2 q3 q4 : Pos) : List Stmt :=
  [.Expr (.Call (.Attribute (.Call (.Name "super" s1) [] [] s2) "__init__" s3) [msg] [] s4) s5, .Assign [.Attribute (.Name "self" q1) f q2] (.Name f q3) q4]
def xS (f : Str) : Scope := { kind := .function, names := [(PySem.Str.ofString "self", .local), (f, .local), (PySem.Str.ofString "__class__", .free), (PySem.Str.ofString "super", .globalImplicit)], isGenerator := false, isCoroutine := false, more := [] }
/-- the field's name is none of the others -/
structure FldOk (f : Str) : Prop where
  h1 : (f == PySem.Str.ofString "self") = false
  h2 : (f == PySem.Str.ofString "__class__") = false
  h3 : (f == PySem.Str.ofString "super") = false
  h4 : (f == ("__debug__" : Str)) = false
  h5 : (f == ("__classdict__" : Str)) = false
section
variable {CX : CXT} {P : Program} {w : World} {K : PySem.W.Frag} {mg : Str → Option Value} {base : Heap} {k : Nat} {fI C cc cda : Addr} {f qual : Str} {msg : Expr} {s1 s2 s3 s4 s5 q1 q2 q3 q4 p1 p2 : Pos} {doc pm ct oc : Value} {an od : Option Addr} {osl : Array (Option Value)}
abbrev iEnv (f qual : Str) (L fI cda cc : Addr) : Env := ksEnv qual (xS f) L fI (.ref cda) cc
/-- the context of __init__'s body -/
def iCx (P : Program) (w : World) (K : PySem.W.Frag) (mg : Str → Option Value) (base : Heap) (f qual : Str) (fI cda cc : Addr) (A : Around) (outer : List Env) (s : Shared) (H : Hp) (xe : Value → Shared → Prop) : Cx where
  prog := P
  w := w
  K := K
  mg := mg
  base := base
  A := A.deeper (iEnv f qual s.heap.objs.size fI cda cc)
  N := ["self", f]
  s_0 := s
  H_0 := H
  env := iEnv f qual s.heap.objs.size fI cda cc
  outer := outer
  stack := iEnv f qual s.heap.objs.size fI cda cc :: outer
  ex := []
  calm := true
  fn := fun _ => false
  pn := []
  xe := xe
/-- what __init__ promises -/
def spInit (C : Addr) (f : Str) (ok : V → Prop) : Sp := fun vs H Q _ => ∃ (a : Addr) (v : V), vs = [.ref a, v] ∧ H a = some (exo a C none) ∧ ok v ∧ ∀ dx, H dx = none → dx ≠ a → Q .non (upd (upd H dx (exd dx [(f, v)])) a (exo a C (some dx)))
theorem iCx_start {A : Around} {outer : List Env} {s : Shared} {H : Hp} {xe : Value → Shared → Prop} {h₀ : Heap} {t : Nat} {v1 v2 : V} {u1 u2 : Value} (F : FldOk f) (e0 : Env0 P w K mg base A outer s H) (hd : A.handled = none) (r1 : RelV v1 u1) (r2 : RelV v2 u2)
    (hcc : ∃ o, K.lookup cc = some o ∧ ∃ v, o.data = .cell v)
    (hns : h₀.Ns s.heap.objs.size fun x => ([(PySem.Str.ofString "self", u1), (f, u2)] : List (Str × Value)).reverse.lookup x) (hk : ∀ b o, s.heap.get? b = some o → h₀.get? b = some o) :
    Inv (iCx P w K mg base f qual fI cda cc A outer s H xe) [] [some v1, some v2] H { s with heap := h₀, toks := t } := by
  have KX : K.In s.heap := e0.mod.kin.keeps fun b o e => (e0.bs b o e).1
  obtain ⟨oc, hoc, cv, hcv⟩ := hcc
  have hcb : base.get? cc = some oc := e0.mod.kin _ _ hoc
  have hsc : s.heap.get? cc = some oc := (e0.bs _ _ hcb).1
  have cx : ∀ x c, (iEnv f qual s.heap.objs.size fI cda cc).cells.lookup x = some c → x = PySem.Str.ofString "__class__" ∧ c = cc := fun x c h => by
    have h' : ([(PySem.Str.ofString "__class__", cc)] : List (Str × Addr)).lookup x = some c := h
    rw [List.lookup_cons] at h'
    cases q : x == PySem.Str.ofString "__class__" with
    | true => rw [q] at h'; cases h'; exact ⟨by simpa using q, rfl⟩
    | false => rw [q] at h'; cases h'
  have kf : ∀ x, ((iEnv f qual s.heap.objs.size fI cda cc).kindOf x = some .cell ∨ (iEnv f qual s.heap.objs.size fI cda cc).kindOf x = some .free) → x = PySem.Str.ofString "__class__" := fun x h => by
    have hl : (iEnv f qual s.heap.objs.size fI cda cc).kindOf x = (xS f).names.lookup x := rfl
    rw [hl] at h
    unfold xS at h
    simp only [List.lookup_cons, List.lookup_nil] at h
    split at h
    · rcases h with h | h <;> cases h
    · split at h
      · rcases h with h | h <;> cases h
      · split at h
        · rename_i q
          simpa using q
        · split at h
          · rcases h with h | h <;> cases h
          · rcases h with h | h <;> cases h
  refine ⟨⟨e0.mod, rfl, rfl, rfl, Nat.le_refl _, fun x y c h1 h2 => (cx x c h1).1.trans (cx y c h2).1.symm, fun x hx => ⟨cc, ?_⟩, fun x c h => (by cases h), fun _ => hd, Around.frames_deeper e0.frames, .inr ⟨rfl, rfl⟩, fun b hb => (by cases hb), e0.bs, e0.bsz, fun b _ _ hb => (by cases hb), fun b hb => (by cases hb), e0.funs, e0.frf⟩,
    rfl, e0.bare, Un.kept hk, ⟨_, hns, fun i x v h1 h2 h3 => ?_⟩, fun x c h => ?_, e0.hok.fresh (Nat.le_refl _), fun x c h => ?_, fun p hp => (by cases hp), e0.hok.kept hk, rfl⟩
  · rw [kf x hx]
    show ([(PySem.Str.ofString "__class__", cc)] : List (Str × Addr)).lookup _ = some cc
    rw [List.lookup_cons, beq_self_eq_true]
  · rcases i with _ | _ | i
    · cases h1
      cases h2
      refine ⟨u1, r1, .inl ⟨rfl, ?_⟩⟩
      show ([(f, u2), (PySem.Str.ofString "self", u1)] : List (Str × Value)).lookup (PySem.Str.ofString "self") = some u1
      have hne : (PySem.Str.ofString "self" == f) = false := by
        have := F.h1
        simp only [beq_eq_false_iff_ne, ne_eq] at this ⊢
        exact fun z => this z.symm
      rw [List.lookup_cons, hne, List.lookup_cons, beq_self_eq_true]
    · cases h1
      cases h2
      refine ⟨u2, r2, .inl ⟨?_, ?_⟩⟩
      · show (xS f).names.lookup f = some .local
        unfold xS
        simp only [List.lookup_cons, F.h1, beq_self_eq_true]
      · show ([(f, u2), (PySem.Str.ofString "self", u1)] : List (Str × Value)).lookup f = some u2
        rw [List.lookup_cons, beq_self_eq_true]
    · cases h1
  · rw [(cx x c h).2]
    exact ⟨cv, oc, hk _ _ hsc, hcv⟩
  · rw [(cx x c h).2]
    exact (e0.bs _ _ hcb).2
/-- what the written part says of the class at C, its __init__ at fI, its cell __class__ at cc, its code at cda -/
structure ExcTxt (P : Program) (K : PySem.W.Frag) (mg : Str → Option Value) (C fI cc cda : Addr) (f qual : Str) (doc pm ct oc : Value) (an od : Option Addr) (osl : Array (Option Value)) (msg : Expr) (p1 p2 s1 s2 s3 s4 s5 q1 q2 q3 q4 : Pos) : Prop where
  oex : OexC K C
  fld : FldOk f
  iC : PySem.W.findIn K (.ref C) "__init__" = some (some (.ref fI))
  tI : PySem.W.typeIn K (.ref fI) = some (.type "function")
  noF : PySem.W.findIn K (.ref C) f = some none
  fn : K.lookup fI = some ⟨oc, od, .func (ksFn "__init__" qual (xA f p1 p2) (xB f msg s1 s2 s3 s4 s5 q1 q2 q3 q4) (xS f) .none .none doc pm an (.ref cda) ct cc), osl⟩
  cd : PySem.W.codeIn K (.ref cda) qual = true
  code : ∃ (ccl : Value) (cdd : Option Addr) (vs : Array Value) (ccs : Array (Option Value)) (file : Str) (tf : Tok), K.lookup cda = some ⟨ccl, cdd, .fields vs, ccs⟩ ∧ vs[2]? = some (.str file tf) ∧ ((P.main.file : Str) == file) = true
  cell : ∃ (cl : Value) (cld : Option Addr) (csl : Array (Option Value)), K.lookup cc = some ⟨cl, cld, .cell (some (.ref C)), csl⟩
  hop : PySem.W.nsIn K cStatics "thirdparty.any" = some none
  sup : PySem.W.ks_superIn K C C "__init__" = some (some (.builtin "ValueError.__init__"))
  subVE : PySem.W.subIn K (.ref C) (.type "ValueError") = some true
  mroC : PySem.W.mroIn K C (.ref C) = some true
  supN : mg "super" = none
  htop : (P.main.scope.names.lookup ("super" : Str)).isSome = false
theorem init_ok {ok : V → Prop} (T : ExcTxt P K mg C fI cc cda f qual doc pm ct oc an od osl msg p1 p2 s1 s2 s3 s4 s5 q1 q2 q3 q4)
    (hmsg : ∀ (A : Around) (outer : List Env) (s : Shared) (H : Hp) (xe : Value → Shared → Prop), PE (iCx P w K mg base f qual fI cda cc A outer s H xe) msg (fun σ H Q => ∃ v, σ[1]? = some (some v) ∧ ok v ∧ ∀ z : Str, Q (.str z) H))
    (hst : ∀ env : Env, starEach [msg] env = (false, eval msg env) :: starEach [] env) (hsw : ∀ env : Env, swapsWith (.Call (.Attribute (.Call (.Name "super" s1) [] [] s2) "__init__" s3) [msg] [] s4) none s5.line env = pure false)
    {pl : Sem Bool} (hme : ∀ env : Env, eval (.Call (.Attribute (.Call (.Name "super" s1) [] [] s2) "__init__" s3) [msg] [] s4) env = (do
      let ov ← attributeBase (.Call (.Name "super" s1) [] [] s2) "__init__" env (eval (.Call (.Name "super" s1) [] [] s2) env)
      standAt s3.atName
      let (f, first) ← holding [ov] (getMethod ov "__init__" pl)
      callWith s4 f first (backTo s4 (starEach [msg] env)) [])) (hsw2 : ∀ env : Env, swapsWith (.Name f q3) (some (.Attribute (.Name "self" q1) f q2)) q4.line env = pure false) :
    FnOk P w K mg base CX (k + 1) fI (ksFn "__init__" qual (xA f p1 p2) (xB f msg s1 s2 s3 s4 s5 q1 q2 q3 q4) (xS f) .none .none doc pm an (.ref cda) ct cc) ["self", f] (spInit C f ok) := by
  refine ⟨fun vs H Q E h => by obtain ⟨a, v, rfl, _⟩ := h; rfl, fun A outer s H args us vs Q E hr e0 hb r hsp => ?_⟩
  obtain ⟨a, v, rfl, ha, hok, hq⟩ := hsp
  cases r with
  | @cons _ u1 _ _ r1 rr =>
  cases rr with
  | @cons _ u2 _ _ r2 rr =>
  cases rr
  obtain rfl : u1 = Value.ref a := r1
  have Fl := T.fld
  have KX : K.In s.heap := e0.mod.kin.keeps fun b o e => (e0.bs b o e).1
  have lim : s.heap.NoLimit := e0.mod.nolimit.keeps fun b o e => (e0.bs b o e).1
  obtain ⟨ccl, cdd, cvs, ccs, file, tf, hcode, hvs, hfile⟩ := T.code
  obtain ⟨cl, cld, csl, hcell⟩ := T.cell
  have lself : (xS f).names.lookup (PySem.Str.ofString "self") = some .local := rfl
  have lf : (xS f).names.lookup f = some .local := by
    unfold xS
    simp only [List.lookup_cons, Fl.h1, beq_self_eq_true]
  have lcl : (xS f).names.lookup (PySem.Str.ofString "__class__") = some .free := by
    have hne : (PySem.Str.ofString "__class__" == f) = false := by
      have := Fl.h2
      simp only [beq_eq_false_iff_ne, ne_eq] at this ⊢
      exact fun z => this z.symm
    unfold xS
    simp only [List.lookup_cons, hne]
    rfl
  have lsu : (xS f).names.lookup (PySem.Str.ofString "super") = some .globalImplicit := by
    have hne : (PySem.Str.ofString "super" == f) = false := by
      have := Fl.h3
      simp only [beq_eq_false_iff_ne, ne_eq] at this ⊢
      exact fun z => this z.symm
    unfold xS
    simp only [List.lookup_cons, hne]
    rfl
  refine ks_codeAny_call_defAt (binds := [("self", .ref a), (f, u2)]) hr.depth (KX _ _ T.fn) rfl lim (codeRec_of KX T.cd) rfl hb (fun y hy => ?_) (fun y hy => ?_) (fun h₀ hns hk => ?_) rfl rfl rfl
  · have hy' : y ∈ (xS f).names := hy
    unfold xS at hy'
    rcases List.mem_cons.mp hy' with z | hy'
    · rw [z]; exact fun z => nomatch z
    · rcases List.mem_cons.mp hy' with z | hy'
      · rw [z]; exact fun z => nomatch z
      · rcases List.mem_cons.mp hy' with z | hy'
        · rw [z]; exact fun z => nomatch z
        · rw [List.mem_singleton.mp hy']; exact fun z => nomatch z
  · rcases List.mem_cons.mp hy with z | hy
    · rw [z]; exact lself
    · rw [List.mem_singleton.mp hy]; exact lf
  have I := iCx_start (xe := fun e s' => wpAny (model P w) (A.deeper (iEnv f qual s.heap.objs.size fI cda cc)) (leaving (iEnv f qual s.heap.objs.size fI cda cc) e) (fun _ s'' => CR CX outer P w H s Q E (.error e) s'') (fun e' s'' => CR CX outer P w H s Q E (.error e') s'') s')
    (P := P) (w := w) (K := K) (mg := mg) (base := base) (fI := fI) (cda := cda) (qual := qual) (t := s.toks + 2) (v1 := .ref a) (u1 := .ref a) Fl e0 hr.hd rfl r2 ⟨_, hcell, _, rfl⟩ hns hk
  generalize hX : (fun e s' => wpAny (model P w) (A.deeper (iEnv f qual s.heap.objs.size fI cda cc)) (leaving (iEnv f qual s.heap.objs.size fI cda cc) e) (fun _ s'' => CR CX outer P w H s Q E (.error e) s'') (fun e' s'' => CR CX outer P w H s Q E (.error e') s'') s') = xe at I
  show _root_.PySem.wpAt (model P w) (A.deeper (iEnv f qual s.heap.objs.size fI cda cc)) (.func (xB f msg s1 s2 s3 s4 s5 q1 q2 q3 q4) (iEnv f qual s.heap.objs.size fI cda cc)) (execs (xB f msg s1 s2 s3 s4 s5 q1 q2 q3 q4) (iEnv f qual s.heap.objs.size fI cda cc)) _ (fun e s' => wpAny (model P w) (A.deeper (iEnv f qual s.heap.objs.size fI cda cc)) (leaving (iEnv f qual s.heap.objs.size fI cda cc) e) (fun _ s'' => CR CX outer P w H s Q E (.error e) s'') (fun e' s'' => CR CX outer P w H s Q E (.error e') s'') s') _
  rw [hX]
  have hm := hmsg A outer s H xe
  obtain ⟨X, hXX⟩ : ∃ X, X = iCx P w K mg base f qual fI cda cc A outer s H xe := ⟨_, rfl⟩
  rw [← hXX] at I hm
  have xenv : X.env = iEnv f qual s.heap.objs.size fI cda cc := by rw [hXX]; rfl
  obtain ⟨t1, hoa⟩ := exo_at I.hok ha
  have X1 : K.In h₀ := KX.keeps hk
  have hnL := hns
  -- super().__init__(msg)
  refine ks_wpAt_execs_cons (ks_wpAt_Expr_any ?_ rfl (hsw _))
  refine ks_wpAt_MethodCall (pl := pl) ?_ (hme _)
  refine ks_wpAt_super_base (of := _) (oc := _) (fd := ksFn "__init__" qual (xA f p1 p2) (xB f msg s1 s2 s3 s4 s5 q1 q2 q3 q4) (xS f) .none .none doc pm an (.ref cda) ct cc) (ar := { arg := "self", annotation := none, pos := p1 }) lsu lcl (by decide) rfl (X1 _ _ T.fn) rfl rfl rfl (X1 _ _ hcode) rfl hvs hfile T.htop ?_
  obtain ⟨mb, hb1, hb2⟩ := e0.mod.blt
  have kb : ∀ b o, base.get? b = some o → h₀.get? b = some o := fun b o e => hk b o (e0.bs b o e).1
  refine ks_loadName_global rfl lsu (PySem.Calls.loadGlobal_builtin (env := iEnv f qual s.heap.objs.size fI cda cc) (e0.mod.glob.keeps kb) T.supN (hb1.keeps kb) ((hb2 _ (by decide)).trans boot_super) ⟨rfl, ?_⟩)
  refine wpAny_loadName_free rfl lcl rfl ⟨_, X1 _ _ hcell, rfl⟩ ?_
  refine wpAny_loadName_local rfl lself hns (v := .ref a) ?_ ?_
  · show ([(f, u2), (PySem.Str.ofString "self", Value.ref a)] : List (Str × Value)).lookup (PySem.Str.ofString "self") = some (.ref a)
    have hne : (PySem.Str.ofString "self" == f) = false := by
      have := Fl.h1
      simp only [beq_eq_false_iff_ne, ne_eq] at this ⊢
      exact fun z => this z.symm
    rw [List.lookup_cons, hne, List.lookup_cons, beq_self_eq_true]
  obtain ⟨nm, q, N', bs, bm, sn, sub, ab, col, dd, k0, k1, k2, k3, k5, hC, hbm⟩ := T.oex.cls
  have hCh := X1 _ _ hC
  refine ks_wpAny_isType_cls hCh rfl ⟨rfl, ?_⟩
  refine ks_wpAny_call_super hCh rfl hoa rfl (fun c e => by cases e) (looks_mroIn X1 T.mroC) (fun h' e' k' => ?_)
  -- the bound __init__
  have I2 : Inv X [] [some (.ref a), some v] H { s with heap := h', toks := s.toks + 2 } := I.kept (t' := s.toks + 2) k'
  have X2 : K.In h' := X1.keeps k'
  have hoa2 := k' _ _ hoa
  have IA : InstAt h' a { cls := .ref C, dict := none, data := .fields #[.ref t1, .none, .none, .none, .bool false, .none] } C none := ⟨hoa2, rfl, rfl, trivial⟩
  have hclsC : clsIn K C = some { name := nm, bases := bs, mro := .ref C :: bm, ns := N', qualname := q, hasDict := true, slotNames := sn, subclasses := sub, abstract := ab, collection := col, hasDel := false } := by unfold clsIn; rw [hC] <;> rfl
  have hsup := T.sup
  unfold ks_superIn at hsup
  rw [hclsC] at hsup
  refine kxs_getMethod kxs_ValueError e' (looks_opaque X2 T.hop) (l₀ := .ref C :: bm) (fun A Q E s k q => wpAny_bind ((looks_clsIn X2 hclsC) A _ E s k (wpAny_pure q))) rfl X2 hsup (IA.type.andThen (looks_subIn X2 T.subVE)) (ks_ne X2 IA hclsC) (by decide) ?_
  have hlt : h'.objs.size ≤ h'.objs.size := Nat.le_refl _
  have hgu : (h'.push (kxs_mw "ValueError.__init__" a)).get? h'.objs.size = some (kxs_mw "ValueError.__init__" a) := Heap.get?_push_size _ rfl
  have hun : H h'.objs.size = none := I2.hok.fresh (Nat.le_refl _)
  have I3 : Inv X [] [some (.ref a), some v] H { s with heap := h'.push (kxs_mw "ValueError.__init__" a), toks := s.toks + 2 + 1 } := I2.kept (t' := s.toks + 2 + 1) fun b o e => Heap.get?_push_of_some _ e
  have I4 : Inv X [(h'.objs.size, kxs_mw "ValueError.__init__" a)] [some (.ref a), some v] H { s with heap := h'.push (kxs_mw "ValueError.__init__" a), toks := s.toks + 2 + 1 } := I3.pins_of fun p hp => by
    rw [List.mem_singleton.mp hp]
    exact ⟨hgu, hun, Nat.ne_of_gt I2.lt, I2.nofs (Nat.le_refl _), fun v z => by cases z⟩
  rw [hst]
  refine kxs_callWith (i := "ValueError.__init__") (x := a) rfl (evalArgs_plain ?_)
  have hpa : PA X [msg] (tCons (fun σ H Q => ∃ v, σ[1]? = some (some v) ∧ ok v ∧ ∀ z : Str, Q (.str z) H) tNil) := pa_cons hm pa_nil (by rw [hst])
  have hrun := hpa.run s4 _ _ _ H (fun vs H1 => H1 = H ∧ ∃ z : Str, vs = [.str z]) I4 ⟨v, rfl, hok, fun z => ⟨rfl, z, rfl⟩⟩
  rw [xenv, hst] at hrun
  have xA : X.A = A.deeper (iEnv f qual s.heap.objs.size fI cda cc) := by rw [hXX]; rfl
  have xxe : X.xe = xe := by rw [hXX]; rfl
  have xp : X.prog = P := by rw [hXX]; rfl
  have xw : X.w = w := by rw [hXX]; rfl
  rw [xA, xxe, xp, xw] at hrun
  refine thn hrun fun us s₁ hap => ?_
  obtain ⟨vs, H1, I5, rus, eH, z, ev⟩ := hap
  subst ev
  rw [eH] at I5
  obtain ⟨hu, _⟩ := I5.pin _ (List.mem_append_right _ List.mem_cons_self)
  refine ⟨hu, ?_⟩
  cases rus with
  | @cons _ uz _ _ rz rr =>
  cases rr
  obtain ⟨t3, hoa3⟩ := exo_at I5.hok ha
  have hC5 : s₁.heap.get? C = some (excClassObj nm q C N' bs bm true sn sub ab col dd k0 k1 k2 k3 k5 "ValueError.__new__") := by
    have := I5.kIn
    rw [show X.K = K by rw [hXX]; rfl] at this
    exact this _ _ hC
  obtain ⟨hh, g5, d5, tk5, os5⟩ := s₁
  refine wpAny_call (codeAny_of_tree ?_)
  show wpAny _ (A.deeper (iEnv f qual s.heap.objs.size fI cda cc)).in1 (callAny (.ref h'.objs.size) ⟨[uz], []⟩) _ _ _
  simp only [callAny]
  refine wpAny_bind (wpAny_load hu ?_)
  simp only [kxs_mw, show (Value.type "method-wrapper" == Value.type "method" || Value.type "method-wrapper" == Value.type "builtin_function_or_method" || Value.type "method-wrapper" == Value.type "method-wrapper") = true by decide, if_true]
  refine KFB.if_so (by decide) ?_
  refine wpAny_bind (check_bound_init PySem.F.excBase_ValueError.toExcCallFacts hC5 hoa3 rfl ?_)
  refine wpAny_bind (wpAny_pure (wpAny_pure ?_))
  refine ⟨plainId_quiet PySem.F.excBase_ValueError.init.plain _, codeAny_builtin PySem.F.excBase_ValueError.initEntry ?_⟩
  refine exc_init_tree (cls := .ref C) (t0 := t3) (dv := none) (c2 := .none) (c3 := .none) (b4 := .bool false) hoa3 (by show 1 ≤ sizeLine; rw [sizeLine_eq]; omega) fun h6 k6 e6 _ => ?_
  -- self.f = f
  have J := I5.write (t' := tk5) (x := a) (e := a) (o := exo a C none) (by rw [ha]; exact True.intro) (.inl rfl) k6 ⟨_, e6⟩ (exo_ok e6)
  have eu : upd H a (exo a C none) = H := by
    funext b
    by_cases hb : b = a
    · rw [hb, upd_same, ha]
    · rw [upd_ne hb]
  rw [eu] at J
  have J2 := J.unpinned (pins := []) (pl := [(h'.objs.size, kxs_mw "ValueError.__init__" a)])
  have pst : PSs X [.Assign [.Attribute (.Name "self" q1) f q2] (.Name f q3) q4] (tOst X.K f (tVar 0) (tVar 1)) :=
    pss_one (ps_ost (pe_var (i := 0) (by rw [hXX]; rfl) (by rw [xenv]; exact .inl lself) (by decide) (by decide)) (pe_var (i := 1) (by rw [hXX]; rfl) (by rw [xenv]; exact .inl lf) Fl.h4 Fl.h5) (hsw2 _))
  have hrun2 := pst.run [] _ _ H { nx := fun _ H' => Q .non H', rt := fun _ _ => False } J2 ⟨v, rfl, .ref a, rfl, a, C, rfl, by rw [show X.K = K by rw [hXX]; rfl]; exact T.oex, by rw [show X.K = K by rw [hXX]; rfl]; exact T.noF, .inl ⟨ha, hq⟩⟩
  rw [xenv, xA, xxe, xp, xw] at hrun2
  refine wpAt_of_wpAny (thn hrun2 fun fl s7 hs7 => ?_)
  cases fl with
  | next =>
    obtain ⟨σ7, H7, I7, q7⟩ := hs7
    subst hXX
    exact ⟨.non, H7, I7.os, I7.bare, I7.base, I7.hok, rfl, q7⟩
  | ret u =>
    obtain ⟨_, _, _, _, _, q7⟩ := hs7
    exact q7.elim
  | brk =>
    obtain ⟨_, _, _, q7⟩ := hs7
    exact q7.elim
  | cont =>
    obtain ⟨_, _, _, q7⟩ := hs7
    exact q7.elim
end
end L2
end

section
set_option Elab.async false
set_option linter.all false
set_option maxRecDepth 100000
set_option maxHeartbeats 4000000
/-! PV23: raising such an exception -/
namespace PV
open PySem PySem.Spec PyProof.Rows L2
section
variable {C : Ctx} {xa : XA} {X : Cx} {x fld : Str} {p pos : Pos} {a : Expr} {ce : CE} {Ca fI : Addr} {k : Nat} {fd : FuncData} {fm : Bool}
/-- C(e) of a class whose __init__ keeps spInit -/
theorem vx_own (T : OexC X.K Ca) (iC : PySem.W.findIn X.K (.ref Ca) "__init__" = some (some (.ref fI))) (tI : PySem.W.typeIn X.K (.ref fI) = some (.type "function"))
    (F1 : FnOk X.prog X.w X.K X.mg X.base (L2.CX X.prog X.w) k fI fd ["self", fld] (spInit Ca fld fun v => fm = true → fmV v)) (hr : Room (k + 1) X.A) (hb : Binds X.K fd ["self", fld] []) (hg : Gl X x) (hm : X.mg x = some (.ref Ca)) (ha : VE C xa X a ce)
    (hdb : (x == ("__debug__" : Str)) = false := by decide) (he : starEach [a] X.env = (false, eval a X.env) :: starEach [] X.env := by rfl) (hpl : (backTo pos (starEach [] X.env)).any (·.1) = false := by rfl) :
    VX C xa X (.Call (.Name x p) [a] [] pos) x fld fm ce := ⟨.ref Ca, hm, fun W tk => by
  intro pins s σ H Q I q
  have hx : Passes (L2.CX X.prog X.w) X (fun _ _ _ => False) := passes_call takes00 fun _ _ _ _ z => z
  have hp := pmk_oex (p := p) (ds := []) (dvs := []) T iC tI F1 hr hb .nil hx hg hm (pa_cons (ha.pe W tk) pa_nil he) hdb he hpl
  refine hp pins s σ H Q I ?_
  obtain ⟨e, τ, F, G, r, q⟩ := q
  refine ⟨e, τ, F, G, r, ?_⟩
  have key : ∀ (v : V) (H1 : Hp), ((fm = true → fmV v) ∧ ∀ d, H1 d = none → Q (.ref Ca) (some d) (upd H1 d (.xd [(fld, v)]))) → (tNil σ H1 fun xs H2 => (v :: xs).length ≤ 1000 ∧ ∀ a, H2 a = none → spInit Ca fld (fun v => fm = true → fmV v) (.ref a :: (v :: xs ++ [])) (upd H2 a (exo a Ca none))
      (fun u H3 => u = .non ∧ ∃ (d : Addr) (fs : List (Str × V)), H3 a = some (exo a Ca (some d)) ∧ H3 d = some (exd d fs) ∧ H2 d = none ∧ Q (.ref Ca) (some d) (upd (del H3 a) d (.xd fs))) (fun _ _ _ => False)) := by
    intro v H1 hq
    refine ⟨by simp, fun b hb => ⟨b, v, rfl, upd_same, hq.1, fun dx hdx hne => ⟨rfl, dx, [(fld, v)], upd_same, ?_, ?_, ?_⟩⟩⟩
    · rw [upd_ne hne, upd_same]
    · rw [upd_ne hne] at hdx
      exact hdx
    · have hdx' : H1 dx = none := by
        rw [upd_ne hne] at hdx
        exact hdx
      have e1 : upd (del (upd (upd (upd H1 b (exo b Ca none)) dx (exd dx [(fld, v)])) b (exo b Ca (some dx))) b) dx (.xd [(fld, v)]) = upd H1 dx (.xd [(fld, v)]) := by
        funext y
        by_cases hy : y = dx
        · rw [hy, upd_same, upd_same]
        · rw [upd_ne hy, upd_ne hy]
          by_cases hyb : y = b
          · rw [hyb, del_same, hb]
          · rw [del_ne hyb, upd_ne hyb, upd_ne hy, upd_ne hyb]
      rw [e1]
      exact hq.2 dx hdx'
  refine Post.imp (fun res e' _ z => ?_) q
  cases res with
  | frs o => exact fun v H' G' x r' => key v H' (z v H' G' x r')
  | at_ a => exact fun v H' G' x r' o => key v H' (z v H' G' x r' o)⟩
end
end PV
end

section
set_option Elab.async false
set_option linter.all false
set_option maxRecDepth 100000
set_option maxHeartbeats 4000000
/-! PV24: further expressions -/
namespace L2
open PySem PySem.Spec PyProof.Rows
/-- x[::-1] of a list, of a text -/
theorem pe_revA {X : Cx} {e : Expr} {te : TE} {k : Nat} {p1 p2 p3 pos : Pos} (he : PE X e te) : PE X (.Subscript e (.Slice none none (some (.UnaryOp .USub (.Constant (.int 1) k p1) p2)) p3) pos)
    (fun σ H Q => te σ H fun x H1 => (∃ a xs, x = .ref a ∧ SqL X.K H1 a xs ∧ ∀ p, H1 p = none → Q (.ref p) (upd H1 p (.lst xs.reverse))) ∨ ∃ z, x = .str z ∧ (PV.revS z).length ≤ sizeLine ∧ Q (.str (PV.revS z)) H1) := by
  refine ⟨fun pins s σ H Q I h => ?_⟩
  refine Subscript_ (thn (he.run pins s σ H _ I h) fun v s1 ⟨x, H1, I1, r1, q1⟩ => ?_)
  have hst : PO X (some (.UnaryOp .USub (.Constant (.int 1) k p1) p2)) (tPart (tUn (rU fun i => .int (-i)) (tC (.int 1)))) := po_some (pe_un un_neg pe_int)
  refine wpAny_Slice (thn (po_none.run pins s1 σ H1 (fun o H2 => o = none ∧ H2 = H1) I1 ⟨rfl, rfl⟩) fun vl s2 ⟨l, H2, I2, pl, el, e2⟩ => ?_)
  subst el e2
  refine thn (po_none.run pins s2 σ H2 (fun o H3 => o = none ∧ H3 = H2) I2 ⟨rfl, rfl⟩) fun vu s3 ⟨u, H3, I3, pu, eu, e3⟩ => ?_
  subst eu e3
  refine thn (hst.run pins s3 σ H3 (fun o H4 => o = some (-1) ∧ H4 = H3) I3 ⟨1, rfl, -1, rfl, rfl, rfl⟩) fun vs s4 ⟨o, H4, I4, ps, eo, e4⟩ => ?_
  subst eo e4
  have I5 : Inv X pins σ H4 { s4 with heap := s4.heap.push { cls := .type "slice", data := .fields #[vl, vu, vs] } } := I4.kept (t' := s4.toks) fun b ob q => Heap.get?_push_of_some _ q
  rcases q1 with ⟨a, xs, rfl, hx, q⟩ | ⟨z, rfl, hz, q⟩
  · cases r1
    obtain ⟨its, r, ht, hz⟩ := I5.list hx
    have hlen := r.length
    show wpAny (model X.prog X.w) X.A (subscriptTail e (.Slice none none (some (.UnaryOp .USub (.Constant (.int 1) k p1) p2)) p3) (.ref a) (.ref s4.heap.objs.size)) (EP X pins σ Q) X.xe { s4 with heap := s4.heap.push { cls := .type "slice", data := .fields #[vl, vu, vs] } }
    refine tail_any (ops := [.ref a, .ref s4.heap.objs.size]) ht.isList.typeIs (PySem.slot_list_getitem.lookup) ?_ (by with_unfolding_all rfl)
    refine wpAny_getItem_list_slice ht.isList (Heap.IsSliceOf.new _ vl vu vs) pl pu ps (by decide) ?_ (by rw [List.size_toArray]; omega)
    rw [PySem.W.krv_pick]
    refine ⟨.ref _, _, I5.laid (t' := s4.toks) (o := .lst xs.reverse) (fun b ob q => Heap.get?_push_of_some _ q) (Nat.le_refl _) ?_, rfl, q _ (I5.hok.fresh (Nat.le_refl _))⟩
    exact ⟨by rw [List.length_reverse]; exact hz, _, 0, r.reverse, Heap.get?_push_size _ rfl⟩
  · obtain ⟨t, rfl⟩ := r1
    show wpAny (model X.prog X.w) X.A (subscriptTail e (.Slice none none (some (.UnaryOp .USub (.Constant (.int 1) k p1) p2)) p3) (.str z t) (.ref s4.heap.objs.size)) (EP X pins σ Q) X.xe { s4 with heap := s4.heap.push { cls := .type "slice", data := .fields #[vl, vu, vs] } }
    refine tail_any (ops := [.str z t, .ref s4.heap.objs.size]) (typeIs_str _ _ _) F.slot_str_getitem.lookup ?_ (by with_unfolding_all rfl)
    obtain ⟨os, hos, hcs, hds⟩ := (Heap.IsSliceOf.new s4.heap vl vu vs)
    obtain ⟨l, rfl, hl⟩ := IsPart.raw pl
    obtain ⟨u, rfl, hu⟩ := IsPart.raw pu
    obtain ⟨st, rfl, hs⟩ := IsPart.raw ps
    refine wpAny_getItem_str_slice (l := l) (u := u) (st := st) ⟨os, hos, hcs, hds⟩ (by rw [hs]; rfl) ?_
    unfold PySem.sliceMade PySem.slicePicked
    rw [hl, hu, hs]
    have c : ¬ (((some (-1 : Int)).getD 1 == 1 && (Builtin.Str.strSliceIndices none none ((some (-1 : Int)).getD 1) z.length).length == z.length) = true) := by simp
    rw [if_neg c]
    exact ⟨hz, .str _, H4, I5.tok _, ⟨_, rfl⟩, q⟩
end L2
namespace PV
open PySem PySem.Spec PyProof.Rows L2
section
variable {C : Ctx} {xa : XA} {X : Cx} {pos p1 p2 p3 apos cpos : Pos} {a b : Expr} {ca cb : CE} {k : Nat}
theorem ve_neg (ha : VE C xa X a ca) : VE C xa X (.UnaryOp .USub a pos) (.neg ca) := ⟨fun W tk => pe_imp (pe_un un_neg (ha.pe W tk)) fun σ H Q q => by
  obtain ⟨e, τ, F, G, r, q⟩ := q
  rw [ev.eq_def] at q
  have hn := r.len
  refine rd_opd r q QE.mono fun a e1 v zs H1 G1 x1 r1 o1 q1 => ?_
  cases z : look e1 a with
  | none => rw [z] at q1; exact q1.elim
  | some d =>
    rw [z] at q1
    cases d with
    | int i =>
      have hv : v = .int i := r1.look o1 z
      rw [← List.append_assoc] at r1
      exact ⟨i, hv, fin_val q1 r1 hn rfl⟩
    | _ => exact q1.elim⟩
theorem ve_dic0 : VE C xa X (.Dict [] [] pos) .dic0 := ⟨fun W tk => pe_imp pe_dnewK fun σ H Q q => by
  obtain ⟨e, τ, F, G, r, q⟩ := q
  rw [ev.eq_def] at q
  exact fun p hp => q (.ref p) _ G (Ex.refl _) (r.newD hp)⟩
theorem revD_cases {x : PV.D} {r : Res} (h : revD x = some r) : (∃ s, x = .str s ∧ (revS s).length ≤ LIM ∧ r = .at_ (.val (.str (revS s)))) ∨ ∃ ds, x = .lst ds ∧ r = .frs (.lst (ds.reverse.map .fro)) := by
  cases x <;> simp only [revD, reduceCtorEq] at h
  · split at h
    · exact .inl ⟨_, rfl, by assumption, (Option.some.inj h).symm⟩
    · cases h
  · exact .inr ⟨_, rfl, (Option.some.inj h).symm⟩
theorem ve_rev (ha : VE C xa X a ca) : VE C xa X (.Subscript a (.Slice none none (some (.UnaryOp .USub (.Constant (.int 1) k p1) p2)) p3) pos) (.rev ca) := ⟨fun W tk => pe_imp (pe_revA (ha.pe W tk)) fun σ H Q q => by
  obtain ⟨e, τ, F, G, r, q⟩ := q
  rw [ev.eq_def] at q
  have hn := r.len
  refine rd_opd r q QE.mono fun a e1 v zs H1 G1 x1 r1 o1 q1 => ?_
  obtain ⟨⟨d, e4⟩, z1, q4⟩ := Post.lift q1
  obtain ⟨res, z2, q5⟩ := Post.lift q4
  obtain ⟨G4, x4, r4, p4⟩ := r1.flat o1 z1
  have q6 := Post.mono QE.mono x4 q5
  rw [← List.append_assoc] at r4
  rcases revD_cases z2 with ⟨s, rfl, hs, rfl⟩ | ⟨ds, rfl, rfl⟩
  · exact .inr ⟨s, repF_str p4, LIM_line hs, fin_val q6 r4 hn rfl⟩
  · obtain ⟨b, vs, rfl, h1, h2⟩ := p4.lst r4.gh
    exact .inl ⟨b, vs, rfl, .inl h1, fun p hp => fin_new q6 r4 hn h2.rev hp⟩⟩
end
end PV
end

section
set_option Elab.async false
set_option linter.all false
set_option maxRecDepth 100000
set_option maxHeartbeats 4000000
/-! PV25: dict.get -/
namespace PV
open PySem PySem.Spec PyProof.Rows L2
section
variable {C : Ctx} {xa : XA} {K : PySem.W.Frag} {mg : Str → Option Value} {F G H : Hp} {e : Env} {σ : L2.St} {τ xs : List (Option V)} {W : WX} {Q : V → Hp → Prop}
theorem rd_pair {c1 c2 : CE} {R : List V → Hp → Prop} (h : rdA C xa K mg [c1, c2] W σ H R) : rdE C xa K mg c1 W σ H fun y H1 => rdE C xa K mg c2 W σ H1 fun z H2 => R [y, z] H2 := by
  obtain ⟨e, τ, F, G, r, q⟩ := h
  rw [evs.eq_def] at q
  refine rd_opd r q QA.mono fun a e1 v zs H1 G1 x1 r1 o1 q1 => ?_
  rw [evs.eq_def] at q1
  have q1' : Post K mg xa F σ W G1 (QA K mg xa F (σ ++ τ) R) ((opd (ev C c2 e1)).bind fun b e2 => (evs C [] e2).bind fun as e3 => .ok (a :: b :: as) e3) := by
    have e0 : ((opd (ev C c2 e1)).bind fun b e2 => (evs C [] e2).bind fun as e3 => (.ok (b :: as) e3 : Out (List At))).bind (fun as e2 => (.ok (a :: as) e2 : Out (List At))) = (opd (ev C c2 e1)).bind fun b e2 => (evs C [] e2).bind fun as e3 => .ok (a :: b :: as) e3 := by
      rw [bind_assoc']
      congr 1
    rw [← e0]
    exact q1
  refine rd_opd r1 q1' QA.mono fun b e2 w ws H2 G2 x2 r2 o2 q2 => ?_
  rw [evs.eq_def] at q2
  have e9 : σ ++ (τ ++ zs ++ ws) = σ ++ τ ++ (zs ++ ws) := by simp only [List.append_assoc]
  have o1' : Opn K G2 (σ ++ (τ ++ zs) ++ ws) a v := o1.mono x2
  rw [List.append_assoc, e9] at o1'
  rw [e9] at r2 o2
  exact q2 [v, w] (zs ++ ws) H2 G2 (Ex.refl _) r2 ⟨v, [w], rfl, o1', w, [], rfl, o2, rfl⟩
theorem lookD_none : ∀ {ks : List Key} {ds : List PV.D} {vs : List V} {k : Key}, Reps K G ds vs → ks.length = vs.length → lookD ks ds k = none → valV (ks.zip vs) k = none
  | [], ds, vs, k, _, _, _ => rfl
  | a :: ks, [], vs, k, r, hl, _ => by rw [show vs = [] from r] at hl; cases hl
  | a :: ks, d :: ds, vs, k, r, hl, h => by
    obtain ⟨v, w, rfl, h1, h2⟩ := r
    unfold lookD at h
    rw [List.zip_cons_cons]
    by_cases z : a = k
    · rw [if_pos z] at h; cases h
    · rw [if_neg z] at h
      rw [valV_neg (p := (a, v)) z]
      exact lookD_none h2 (Nat.succ.inj hl) h
end
section
variable {C : Ctx} {xa : XA} {X : Cx} {o a b : Expr} {co ca cb : CE} {apos cpos : Pos}
theorem keyOf_kV {G : Hp} {d : PV.D} {k : Key} {v : V} (h : mtF.keyOf d = some k) (r : Rep X.K G d v) : v = kV k := by
  cases d <;> simp only [mtF.keyOf, reduceCtorEq] at h <;> (cases h; exact r)
theorem get2_cases {o : PV.D} {ds : List PV.D} {res : Res} (h : mtF .get2 o ds = some res) : ∃ ks dv kd xd k, o = .dic ks dv ∧ ds = [kd, xd] ∧ isLD xd = false ∧ mtF.keyOf kd = some k ∧ res = .at_ (.val ((lookD ks dv k).getD xd)) := by
  cases o with
  | dic ks dv =>
    rcases ds with _ | ⟨kd, _ | ⟨xd, _ | ⟨y, z⟩⟩⟩
    · simp only [mtF, reduceCtorEq] at h
    · simp only [mtF, reduceCtorEq] at h
    · simp only [mtF] at h
      split at h
      · cases h
      · rename_i hl
        cases zk : mtF.keyOf kd with
        | none => rw [zk] at h; cases h
        | some k =>
          rw [zk] at h
          exact ⟨ks, dv, kd, xd, k, rfl, rfl, by simpa using hl, zk, (Option.some.inj h).symm⟩
    · simp only [mtF, reduceCtorEq] at h
  | _ => simp only [mtF, reduceCtorEq] at h
theorem rdE_imp {K : PySem.W.Frag} {mg : Str → Option Value} {σ : L2.St} {H : Hp} {W : WX} {c : CE} {R R' : V → Hp → Prop} (h : rdE C xa K mg c W σ H R) (k : ∀ v H, R v H → R' v H) : rdE C xa K mg c W σ H R' := by
  obtain ⟨e, τ, F, G, r, q⟩ := h
  refine ⟨e, τ, F, G, r, Post.imp (fun res e' _ z => ?_) q⟩
  cases res with
  | frs o => exact fun v H' G' x r' => k _ _ (z v H' G' x r')
  | at_ a => exact fun v H' G' x r' o => k _ _ (z v H' G' x r' o)
def rGet2 : V → List V → Hp → VK → Prop := fun x vs H Q => ∃ (a : Addr) (y z : V) (r : Option V), x = .ref a ∧ vs = [y, z] ∧ DGet H a y r ∧ Q (r.getD z) H
theorem ve_get2 (hu : X.A.units + 200 < cLine) (ho : VE C xa X o co) (ha : VE C xa X a ca) (hb : VE C xa X b cb) (m : M2 X o "get" apos a b cpos) : VE C xa X (.Call (.Attribute o "get" apos) [a, b] [] cpos) (.mt .get2 co [ca, cb]) := ⟨fun W tk =>
  pe_imp (pe_dget2 (by omega) (ho.pe W tk) (ha.pe W tk) (hb.pe W tk) m) fun σ H Q q => by
    have q2 := rd_mt (tyc := fun x H => ∃ a, x = .ref a ∧ IsD H a) (r2 := rGet2) (fun H d x hm hr => by
      cases d <;> first | (simp only [mtT, D.ty] at hm; cases hm) | skip
      obtain ⟨a, vs, rfl, h1, _⟩ := hr
      exact ⟨a, rfl, .inl ⟨_, .inl h1⟩⟩) (fun G H Q od ds x vs res hF eG ho hds k => by
      obtain ⟨ks, dv, kd, xd, kk, rfl, rfl, hl, hk, rfl⟩ := get2_cases hF
      obtain ⟨a, us, rfl, h1, h2, h3⟩ := ho.dic eG
      obtain ⟨v, w, rfl, h4, h5⟩ := repFs2' hds rfl
      have hw : Rep X.K G xd w := by
        rcases h5 with h5 | h5
        · exact h5
        · cases xd <;> first | exact h5.elim | (cases hl)
      have hv : Rep X.K G kd v := by
        rcases h4 with h4 | h4
        · exact h4
        · cases kd <;> first | exact h4.elim | (simp only [mtF.keyOf, reduceCtorEq] at hk)
      refine ⟨a, v, w, valV (ks.zip us) kk, rfl, rfl, ?_, ?_⟩
      · rw [keyOf_kV hk hv]
        exact DGet.k h1
      · cases zl : lookD ks dv kk with
        | none =>
          rw [lookD_none h3 h2 zl]
          exact k.val xd w (by rw [zl]; rfl) hw
        | some d =>
          obtain ⟨u, h6, h7⟩ := lookD_val h3 zl
          rw [h6]
          exact k.val d u (by rw [zl]; rfl) h7) q
    obtain ⟨e, τ, F, G, r, q3⟩ := q2
    refine ⟨e, τ, F, G, r, Post.imp (fun res e' _ z => ?_) q3⟩
    have key : ∀ (x : V) (H1 : Hp), ((∃ a, x = .ref a ∧ IsD H1 a) ∧ rdA C xa X.K X.mg [ca, cb] W σ H1 fun vs H2 => rGet2 x vs H2 Q) → ∃ a, x = .ref a ∧ IsD H1 a ∧ rdE C xa X.K X.mg ca W σ H1 fun y H2 => rdE C xa X.K X.mg cb W σ H2 fun z H3 => ∃ o, DGet H3 a y o ∧ Q (o.getD z) H3 := by
      rintro x H1 ⟨⟨a, rfl, hd⟩, hq⟩
      refine ⟨a, rfl, hd, ?_⟩
      have h8 := rd_pair hq
      refine rdE_imp h8 fun y H2 h9 => rdE_imp h9 fun z H3 h10 => ?_
      obtain ⟨a', y', z', o, e1, e2, e3, e4⟩ := h10
      cases e1
      cases e2
      exact ⟨o, e3, e4⟩
    cases res with
    | frs o => exact fun v H' G' x r' => key v H' (z v H' G' x r')
    | at_ a => exact fun v H' G' x r' o => key v H' (z v H' G' x r' o)⟩
end
end PV
end

section
set_option Elab.async false
set_option linter.all false
set_option maxRecDepth 100000
set_option maxHeartbeats 4000000
/-! PV26: list(d.items()) -/
namespace PV
open PySem PySem.Spec PyProof.Rows L2
section
variable {C : Ctx} {xa : XA} {K : PySem.W.Frag} {mg : Str → Option Value} {F G H : Hp} {e : Env} {σ : L2.St} {τ xs : List (Option V)} {W : WX} {Q : V → Hp → Prop}
/-- several objects come up and are frozen, and a new list -/
theorem RS.growNew (r : RS K mg xa F G e xs H) {H' : Hp} (k : Ex H H') {ts : List Addr} (hn : ∀ t ∈ ts, H t = none) {p : Addr} {ds : List PV.D} {vs : List V} (hp0 : H p = none) (hpt : p ∉ ts) (hp : H' p = some (.lst vs)) (hr : Reps K (withO G H' ts) ds vs) :
    RS K mg xa F (withO G H' ts) (e ++ [.own (.lst (ds.map .fro)) none]) (xs ++ [some (.ref p)]) H' := by
  obtain ⟨fp, h, nd, ap⟩ := r.own
  have nt : ∀ a ∈ fp, a ∉ ts := fun a ha z => by
    obtain ⟨u, q⟩ := h.there a ha
    rw [hn a z] at q
    cases q
  have np : ∀ a ∈ fp, a ≠ p := fun a ha z => by
    obtain ⟨u, q⟩ := h.there a ha
    rw [z, hp0] at q
    cases q
  have same : ∀ a ∈ fp, H' a = H a := fun a ha => by
    obtain ⟨u, q⟩ := h.there a ha
    rw [q, k a u q]
  obtain ⟨gp, fpn⟩ := r.fresh hp0
  have eG : Ex G (withO G H' ts) := withO_ex (r.gh.trans k)
  refine ⟨withO_le (r.gh.trans k), r.fh.trans k, fun a u q => ?_, fp ++ [p], (h.mono eG same).append ⟨[p], [], rfl, ⟨pin0, .ref p, rfl, p, vs, [], rfl, rfl, hp, OwnRs.fro K hr⟩, rfl⟩, List.nodup_append.mpr ⟨nd, by simp, fun a ha b hb z => np a ha (z.trans (List.mem_singleton.mp hb))⟩, fun a ha => ?_⟩
  · by_cases z : a ∈ ts
    · have := r.fh a u q
      rw [hn a z] at this
      cases this
    · rw [withO_out z]
      exact r.gf a u q
  · rcases List.mem_append.mp ha with z | z
    · exact ⟨(ap a z).1, by rw [withO_out (nt a z)]; exact (ap a z).2⟩
    · rw [List.mem_singleton.mp z]
      exact ⟨fpn, by rw [withO_out hpt]; exact gp⟩
theorem items_reps {H' : Hp} : ∀ {ks : List Key} {ds : List PV.D} {vs : List V} {ts : List Addr}, (∀ t ∈ ts, ∀ u, H' t = some u → G t = some u) → Reps K G ds vs → ks.length = vs.length → PySem.Paired (fun (t : Addr) (q : Key × V) => H' t = some (.tup [kV q.1, q.2])) ts (ks.zip vs) → Reps K G (itemsD ks ds) (ts.map V.ref)
  | [], ds, vs, ts, _, _, _, hp => by
    have : ts = [] := by
      cases hp with
      | nil => rfl
    rw [this]
    rfl
  | k :: ks, ds, [], ts, _, _, hl, _ => by cases hl
  | k :: ks, [], v :: vs, ts, _, r, _, _ => by cases (show (v :: vs) = [] from r)
  | k :: ks, d :: ds, v :: vs, ts, hg, r, hl, hp => by
    obtain ⟨w, r', e1, h1, h2⟩ := r
    cases e1
    cases hp with
    | @cons t _ ts' _ hh ht =>
      refine ⟨.ref t, ts'.map V.ref, rfl, ⟨t, [kV k, v], rfl, .inl (.inl (hg t List.mem_cons_self _ hh)), kV k, [v], rfl, ?_, v, [], rfl, h1, rfl⟩, items_reps (fun t ht => hg t (List.mem_cons_of_mem _ ht)) h2 (Nat.succ.inj hl) ht⟩
      cases k <;> rfl
end
section
variable {C : Ctx} {xa : XA} {X : Cx} {a : Expr} {ca : CE} {p apos cpos pos : Pos}
theorem ve_items (hc : X.calm = true) (ha : VE C xa X a ca) (hg : Gl X "list") (hm : X.mg "list" = none) (hv : bootBuiltins "list" = some (.type "list")) (hbase : attributeBase a "items" X.env (eval a X.env) = eval a X.env := by rfl) (hline : (apos.endLine == cpos.line) = true := by rfl)
    (hs : starEach [.Call (.Attribute a "items" apos) [] [] cpos] X.env = (false, eval (.Call (.Attribute a "items" apos) [] [] cpos) X.env) :: starEach [] X.env := by rfl) :
    VE C xa X (.Call (.Name "list" p) [.Call (.Attribute a "items" apos) [] [] cpos] [] pos) (.items ca) := ⟨fun W tk => pe_imp (LiI.pe_listItems hc (ha.pe W tk) hg hm hv hbase hline hs) fun σ H Q q => by
  obtain ⟨e, τ, F, G, r, q⟩ := q
  rw [ev.eq_def] at q
  have hn := r.len
  refine rd_opd r q QE.mono fun a e1 v zs H1 G1 x1 r1 o1 q1 => ?_
  obtain ⟨⟨d, e2⟩, z1, q2⟩ := Post.lift q1
  obtain ⟨G2, x2, r2, p2⟩ := r1.flat o1 z1
  have q3 := Post.mono QE.mono x2 q2
  cases d with
  | dic ks ds =>
    obtain ⟨b, vs, rfl, h1, h2, h3⟩ := p2.dic r2.gh
    refine ⟨b, ks.zip vs, rfl, h1, fun H' p ts kx hp hts hpt hlst hpair => ?_⟩
    rw [← List.append_assoc] at r2
    have r3 := r2.take e.length
    rw [hn, List.take_left, ← hn] at r3
    have eG : Ex G2 (withO G2 H' ts) := withO_ex (r2.gh.trans kx)
    have hr := items_reps (G := withO G2 H' ts) (H' := H') (fun t ht u hu => by rw [withO_in ht]; exact hu) (Reps.mono X.K eG _ _ h3) h2 hpair
    exact q3 (.ref p) H' _ eG (r3.growNew kx hts hp hpt hlst hr)
  | _ => exact q3.elim⟩
end
end PV
end

section
set_option Elab.async false
set_option linter.all false
set_option maxRecDepth 100000
set_option maxHeartbeats 4000000
/-! PV27: calls that lend their trees -/
namespace PV
open PySem PySem.Spec PyProof.Rows L2
section
variable {C : Ctx} {xa : XA} {K : PySem.W.Frag} {mg : Str → Option Value} {F G H : Hp} {e : Env} {σ : L2.St} {τ xs : List (Option V)} {W : WX} {Q : V → Hp → Prop}
theorem looks_reps {G' : Hp} {fp : List Addr} (hs : SlotsR K mg xa H G e xs fp) (eG : Ex G G') (hk : ∀ a ∈ fp, ∀ u, H a = some u → G' a = some u) : ∀ {as : List At} {vs : List V} {ds : List D}, Opns K G xs as vs → looks e as = some ds → Reps K G' ds vs
  | [], vs, ds, o, h => by cases h; exact o
  | a :: as, vs, ds, o, h => by
    obtain ⟨v, w, rfl, o1, o2⟩ := o
    unfold looks at h
    cases q : look e a with
    | none => rw [q] at h; cases h
    | some d =>
      rw [q] at h
      cases q2 : looks e as with
      | none => simp only [q2] at h; cases h
      | some ds2 =>
        simp only [q2] at h
        cases h
        refine ⟨v, w, rfl, ?_, looks_reps hs eG hk o2 q2⟩
        cases a with
        | val d' => cases q; exact Rep.mono K eG _ _ o1
        | pl i =>
          have o' : xs[i]? = some (some v) := o1
          have hi : i < e.length := by rw [hs.len]; exact (List.getElem?_eq_some_iff.mp o').1
          obtain ⟨x, f1, f2, f3, e1, e2, e3, _⟩ := hs.at hi
          rw [o'] at e1
          cases e1
          rcases look_pl q with ⟨p, q3⟩ | ⟨t, p, q3, rfl⟩
          · rw [q3] at e3
            obtain ⟨_, _, z, e4, e5⟩ := e3
            cases e4
            exact Rep.mono K eG _ _ e5
          · rw [q3] at e3
            obtain ⟨_, z, e4, e5⟩ := e3
            cases e4
            exact OwnR.rep K eG t v f2 (fun a m u z => hk a (by rw [e2]; exact List.mem_append_right _ (List.mem_append_left _ m)) u z) e5
theorem fros_slots {K : PySem.W.Frag} {mg : Str → Option Value} {H G : Hp} : ∀ {ds : List D} {vs : List V}, Reps K G ds vs → SlotsR K mg xa0 H G (ds.map fun d => .fro d none) (vs.map some) []
  | [], vs, h => by rw [show vs = [] from h]; rfl
  | d :: ds, vs, h => by
    obtain ⟨v, w, rfl, h1, h2⟩ := h
    exact ⟨[], [], rfl, ⟨rfl, pin0, v, rfl, h1⟩, fros_slots h2⟩
theorem fros_free (ds : List D) : Free (ds.map fun d => Slot.fro d none) := fun s hs => by
  obtain ⟨d, _, rfl⟩ := List.mem_map.mp hs
  exact rfl
theorem rd_callR {f : Str} {cs : List CE} {dv : List D} {pm : List Nat} {dvs : List V} (hd : ∀ G, Reps K G dv dvs) (hpl : ∀ ss r os, C.call f ss = .ret r os → os.length = ss.length ∧ Free os)
    (h : rdE C xa K mg (.callR f cs dv pm) W σ H Q) : rdA C xa K mg cs W σ H fun vs H1 => spF K mg (C.call f) (PV.pick (vs ++ dvs) pm) H1 Q (WE W σ) := by
  obtain ⟨e, τ, F, G, r, q⟩ := h
  rw [ev.eq_def] at q
  have hn := r.len
  refine rd_args r q QE.mono fun as e1 vs zs H1 G1 x1 r1 o1 q1 => ?_
  obtain ⟨ds, z1, q2⟩ := Post.lift q1
  have o2 := (o1.app (Opns.vals (xs := σ ++ (τ ++ zs)) (hd G1))).pick pm
  generalize PV.pick (vs ++ dvs) pm = vs2 at o2 ⊢
  generalize PV.pick (as ++ dv.map .val) pm = as2 at o2 z1
  obtain ⟨fp, hs, nd, ap⟩ := r1.own
  have eG : Ex G1 (withO G1 H1 fp) := withO_ex r1.gh
  have rp : Reps K (withO G1 H1 fp) ds vs2 := looks_reps hs eG (fun a m u z => by rw [withO_in m]; exact z) o2 z1
  have hl := rp.len
  refine ⟨ds.map fun d => .fro d none, F, withO G1 H1 fp, ⟨withO_le r1.gh, r1.fh, fun a u z => ?_, [], fros_slots rp, List.nodup_nil, fun a z => nomatch z⟩, fros_free ds, ?_⟩
  · by_cases m : a ∈ fp
    · rw [(ap a m).1] at z
      cases z
    · rw [withO_out m]
      exact r1.gf a u z
  · cases z : C.call f (ds.map fun d => .fro d none) with
    | bad => rw [z] at q2; exact q2.elim
    | err x outs => rw [z] at q2; exact q2.elim
    | ret rv outs =>
      rw [z] at q2
      obtain ⟨lo, co⟩ := hpl _ rv outs z
      cases rv with
      | frs o => exact q2.elim
      | val d =>
        dsimp only at q2
        split at q2
        · rename_i hsim
          refine ⟨by rw [lo, List.length_map, hl], fun v H' G' x r3 hv => ?_⟩
          have r4 : RS K mg xa F G1 e1 (σ ++ (τ ++ zs)) H' := by
            refine ⟨(eG.trans x).trans r3.gh, r3.fh, r1.gf, fp, hs.mono (Ex.refl _) fun a ha => ?_, nd, ap⟩
            obtain ⟨u, q⟩ := hs.there a ha
            rw [q]
            exact r3.gh a u (x a u (by rw [withO_in ha]; exact q))
          rw [← List.append_assoc] at r4
          refine fin_val q2 r4 hn ?_
          cases d with
          | non => exact hv
          | bl b => exact hv
          | int i => exact hv
          | str s => exact hv
          | _ => cases hsim
        · exact q2.elim
end
section
variable {C : Ctx} {xa : XA} {X : Cx} {es : List Expr} {cs : List CE} {p pos : Pos} {a : Expr} {x : Str} {dv : List D} {pm : List Nat}
/-- f(e, ..), its trees lent -/
theorem ve_callR (h : Fn C X x (cs.length) [] dv pm) (hg : Gl X x) (ha : VA C xa X (a :: es) cs) (hdb : (x == ("__debug__" : Str)) = false := by decide)
    (he : starEach (a :: es) X.env = (false, eval a X.env) :: starEach es X.env := by rfl) (hpl : (backTo pos (starEach es X.env)).any (·.1) = false := by rfl) :
    VE C xa X (.Call (.Name x p) (a :: es) [] pos) (.callR x cs dv pm) := ⟨fun W tk => by
  obtain ⟨k, f, fd, ps, dvs, ds, F, hr, hm, hk, hv, hd, hb⟩ := h.ex
  refine ⟨fun pins s σ H Q I q => ?_⟩
  refine wpAny_Call_Name_kw (ld_glob I hg hm ?_ hdb)
  have q1 := QA.len (rd_callR hd (fun ss r os z => by have := h.outs ss; rw [z] at this; exact this) q)
  refine PySem.W.callWith_K (h₀ := X.base) I.ok.mod.kin hk (thn ((ha.pa W tk).run pos pins s σ H _ I q1) fun us s1 ⟨vs, H1, I1, r, hl, q⟩ => ⟨I1.kIn, ?_⟩) he hpl
  refine run_fnV (ks := []) (ws := []) (zs := []) F hr (hb s1 us [] I1.kIn (r.length.symm.trans hl) rfl) hv tk I1 r .nil ?_
  rw [List.append_nil]
  exact q⟩
end
end PV
end

section
set_option Elab.async false
set_option linter.all false
set_option maxRecDepth 100000
set_option maxHeartbeats 4000000
/-! PV28: x[k].append(c): a tree within a tree -/
namespace PV
open PySem PySem.Spec PyProof.Rows L2
section
variable {C : Ctx} {xa : XA} {K : PySem.W.Frag} {mg : Str → Option Value} {F G H : Hp} {e : Env} {xs : List (Option V)}
theorem OwnRs.at {os : List OD} : ∀ {vs : List V} {fp : List Addr} {k : Nat} {t : OD}, OwnRs K H G os vs fp → os[k]? = some t → ∃ v f1 f2 f3, vs[k]? = some v ∧ fp = f1 ++ (f2 ++ f3) ∧ OwnR K H G t v f2 ∧
    ∀ (H' : Hp) (t' : OD) (f2' : List Addr), (∀ a ∈ f1 ++ f3, H' a = H a) → OwnR K H' G t' v f2' → OwnRs K H' G (os.set k t') vs (f1 ++ (f2' ++ f3)) := by
  induction os with
  | nil => intro vs fp k t h q; simp at q
  | cons o os ih =>
    intro vs fp k t h q
    obtain ⟨v, r, g1, g2, rfl, rfl, h3, h4⟩ := h
    cases k with
    | zero =>
      simp at q
      subst q
      exact ⟨v, [], g1, g2, rfl, rfl, h3, fun H' t' f2' hk h' => ⟨v, r, f2', g2, rfl, rfl, h', OwnRs.mono K (Ex.refl _) _ _ _ (fun b hb => hk b hb) h4⟩⟩
    | succ k =>
      obtain ⟨w, f1, f2, f3, e1, e2, e3, e4⟩ := ih (k := k) h4 (by simpa using q)
      refine ⟨w, g1 ++ f1, f2, f3, by simpa using e1, by rw [e2, List.append_assoc], e3, fun H' t' f2' hk h' => ⟨v, r, g1, f1 ++ (f2' ++ f3), rfl, by rw [List.append_assoc], ?_, e4 H' t' f2' (fun a ha => hk a ?_) h'⟩⟩
      · exact OwnR.mono K (Ex.refl _) _ _ _ (fun b hb => hk b (List.mem_append_left _ (List.mem_append_left _ hb))) h3
      · rcases List.mem_append.mp ha with z | z
        · exact List.mem_append_left _ (List.mem_append_right _ z)
        · exact List.mem_append_right _ z
/-- slot i's tree is changed at one of its objects -/
theorem RS.change (r : RS K mg xa F G e xs H) {i : Nat} {t t' : OD} {p : Option Nat} {v : V} {a : Addr} {u : HO} (q : slotAt e i = .own t p) (o : xs[i]? = some (some v))
    (hn : ∀ fo, OwnR K H G t v fo → fo.Nodup → a ∈ fo ∧ ∃ f', OwnR K (upd H a u) G t' v f' ∧ f'.Nodup ∧ ∀ b ∈ f', b ∈ fo) : RS K mg xa F G (e.set i (.own t' p)) xs (upd H a u) := by
  obtain ⟨pn, fo, fp, e1, e2, e3, e4, e5, e6, e7⟩ := r.tree q o
  obtain ⟨ha, f', k1, k2, k3⟩ := hn fo e1 e2
  have fa := (e4 a ha).1
  have ga := (e4 a ha).2
  have R := e7 (upd H a u) G (.own t' p) (some v) f' (Ex.refl _) (fun b w z => by rw [upd_ne (fun y => by rw [y, ga] at z; cases z)]; exact r.gh b w z) (fun b w z => by rw [upd_ne (fun y => by rw [y, fa] at z; cases z)]; exact r.fh b w z) r.gf
    (fun b hb => ⟨upd_ne fun z => e3 a ha (z ▸ hb), (e6 b hb).2⟩) ⟨pn, v, rfl, k1⟩ k2 (fun b hb => e3 b (k3 b hb)) (fun b hb => e4 b (k3 b hb))
  rw [set_same o] at R
  exact R
end
section
variable {C : Ctx} {xa : XA} {X : Cx} {a : Expr} {x : Str} {i k : Nat} {d : D} {v : V} {j : Nat} {p1 p2 p3 apos cpos pos : Pos}
theorem vs_mu2 (hN : X.N[i]? = some x) (hv : Vis X.env.scope x) (ha : PE X a (tC v)) (hd : ∀ G, Rep X.K G d v) (hdb : (x == ("__debug__" : Str)) = false := by decide) (hcd : (x == ("__classdict__" : Str)) = false := by decide)
    (hbase : attributeBase (.Subscript (.Name x p1) (.Constant (.int (k : Int)) j p2) p3) "append" X.env (eval (.Subscript (.Name x p1) (.Constant (.int (k : Int)) j p2) p3) X.env) = eval (.Subscript (.Name x p1) (.Constant (.int (k : Int)) j p2) p3) X.env := by rfl)
    (hfew : ((backTo cpos (starEach (a :: []) X.env)).all (fun x => !x.1) && (backToKw cpos (keywordEach [] X.env)).all (fun x => x.1.isSome)
      && decide ((a :: []).length + ([] : List Keyword).length + (if ([] : List Keyword).isEmpty then 0 else 1) < 30)) = true := by rfl)
    (hline : (apos.endLine == cpos.line) = true := by rfl) (hs : starEach (a :: []) X.env = (false, eval a X.env) :: starEach [] X.env := by rfl) (hplain : (backTo cpos (starEach [] X.env)).any (·.1) = false := by rfl)
    (hsw : swapsWith (.Call (.Attribute (.Subscript (.Name x p1) (.Constant (.int (k : Int)) j p2) p3) "append" apos) [a] [] cpos) none pos.line X.env = pure false := by rfl) (hpi : PlainIx (.Constant (.int (k : Int)) j p2) := by exact fun _ _ => rfl) :
    VS C xa X (.Expr (.Call (.Attribute (.Subscript (.Name x p1) (.Constant (.int (k : Int)) j p2) p3) "append" apos) [a] [] cpos) pos) (.mu2 .append i k d) := ⟨fun W tk =>
  ps_imp (ps_expr (pe_bm PySem.F.plainAttrs_list PySem.F.slot_list_append PySem.F.type_list_append mt_append (pe_ix ix_seq (pe_var hN hv hdb hcd) pe_int hpi) (pa_cons ha pa_nil hs) hbase hfew hline hs hplain) hsw) fun D σ H q => by
  obtain ⟨e, F, G, r, q⟩ := q
  rw [run.eq_def] at q
  dsimp only at q
  cases z : slotAt e i with
  | own t p =>
    rw [z] at q
    cases t with
    | lst ts =>
      dsimp only at q
      cases z2 : ts[k]? with
      | none => rw [z2] at q; exact q.elim
      | some t =>
        rw [z2] at q
        obtain ⟨⟨res, t'⟩, z3, q2⟩ := PostS.lift q
        cases t with
        | lst us =>
          simp only [muF] at z3
          split at z3
          · rename_i hlim
            obtain ⟨h1, h2⟩ := Prod.mk.inj (Option.some.inj z3)
            subst h1 h2
            have hi := lt_own z
            obtain ⟨y, fo, fp, e1, e2, _⟩ := r.open_ hi
            rw [z] at e2
            obtain ⟨_, w, rfl, a0, vs, fp', rfl, rfl, h3, h4⟩ := e2
            obtain ⟨cv, f1, f2, f3, e3, e4, e5, e6⟩ := h4.at z2
            obtain ⟨b, ws, fb, rfl, rfl, h5, h6⟩ := e5
            refine ⟨.ref a0, e1, .inl ⟨a0, vs, (k : Int), .ref b, rfl, rfl, SqL.of h3, ?_, .inl ⟨rfl, ws, SqL.of h5⟩, b, ws, v, rfl, rfl, h5, LIM_lt (by rw [← h6.len]; exact hlim), ?_⟩⟩
            · have hk : k < vs.length := (List.getElem?_eq_some_iff.mp e3).1
              unfold atI ixN
              rw [if_pos (by omega)]
              first | (rw [if_pos (by omega)]; simpa using e3) | simpa using e3
            · refine q2 σ _ G rfl (Ex.refl _) (r.change (v := .ref a0) z e1 fun fo ho nd => ?_)
              obtain ⟨a1, vs1, fp1, e7, rfl, h7, h8⟩ := ho
              cases e7
              rw [h3] at h7
              cases h7
              obtain ⟨cv, g1, g2, g3, k1, k2, k3, k4⟩ := h8.at z2
              rw [e3] at k1
              cases k1
              obtain ⟨b1, ws1, fb1, e8, rfl, h9, h10⟩ := k3
              cases e8
              rw [h5] at h9
              cases h9
              subst k2
              obtain ⟨n1, n2⟩ := List.nodup_cons.mp nd
              obtain ⟨m1, m2, m3⟩ := nodup3 n2
              have hb1 : b ∈ g1 ++ (b :: fb1 ++ g3) := List.mem_append_right _ (List.mem_append_left _ List.mem_cons_self)
              have hne : a0 ≠ b := fun z => n1 (z ▸ hb1)
              refine ⟨List.mem_cons_of_mem _ hb1, a0 :: (g1 ++ (b :: fb1 ++ g3)), ⟨a0, vs, _, rfl, rfl, by rw [upd_ne hne]; exact h3, ?_⟩, nd, fun c hc => hc⟩
              refine k4 (upd H b (.lst (ws ++ [v]))) (.lst (us ++ [.fro d])) (b :: fb1) (fun c hc => upd_ne fun z => m3 b List.mem_cons_self (z ▸ hc)) ?_
              have hb2 : b ∉ fb1 := (List.nodup_cons.mp m1).1
              have h11 : OwnRs X.K H G (us ++ [.fro d]) (ws ++ [v]) (fb1 ++ []) := h10.app ⟨v, [], [], [], rfl, rfl, ⟨rfl, hd G⟩, rfl, rfl⟩
              rw [List.append_nil] at h11
              exact own_root (vs := ws) h11 hb2
          · cases z3
        | _ => simp only [muF, reduceCtorEq] at z3
    | _ => exact q.elim
  | _ => rw [z] at q; exact q.elim⟩
end
end PV
end

section
set_option Elab.async false
set_option linter.all false
set_option maxRecDepth 100000
set_option maxHeartbeats 4000000
/-! PV29: a for loop in a generator's body -/
namespace L2
open PySem PySem.Spec PyProof.Rows GenW
section
variable {P : Program} {w : World} {A : Around} {R : GenEnd} {Y : Protocol} {n : Nat} {s₀ : Shared} {c : Code} {fs : List Frame} {s : Shared} {env : Env}
  {K : Flow → Sem PySem.Fin} {J : Value → Sem PySem.Fin} {gd : Bool → Bool} {lv : List Value → List Value}
theorem seg_ForS {tg iter : Expr} {body orelse : List Stmt} {pos : Pos} (hs : ∀ x, foldedSetIterable iter env x = pure x)
    (h : wpAny (model P w) (A.over c fs) (eval iter env) (fun x s1 => wpAny (model P w) (A.over c fs) (pyIter x) (fun it s2 => ∀ p, Seg (model P w) A R Y n s₀ (.forLoop tg it body orelse env) ((model P w).den (.forLoop tg it body orelse env))
      (.ret (fun r => ((match r with | .ok f => (.pure f : Sem Flow) | .error e => .raise e).onRaise (cameBack env)).wrap K J gd lv) none (gd false) (lv []) c p [] :: fs) s2) (fun x s' => Seg (model P w) A R Y n s₀ c (J x) fs s') s1) (fun x s' => Seg (model P w) A R Y n s₀ c (J x) fs s') s) :
    Seg (model P w) A R Y n s₀ c ((exec (.For tg iter body orelse pos) env).wrap K J gd lv) fs s := by
  rw [exec_For]
  refine seg_bind_wrap (wpAny_standAt ?_)
  refine seg_bind_wrap (wpAny_mono h (fun x s1 h1 => ?_) fun _ _ z => z)
  refine seg_bind_wrap (wpAny_of_eq (hs x) ?_)
  refine seg_bind_wrap (wpAny_standAt ?_)
  refine seg_bind_wrap (wpAny_holding (wpAny_mono h1 (fun it s2 h2 => ?_) fun _ _ z => z))
  exact seg_call h2
theorem seg_forLoop {tg : Expr} {it : Value} {body : List Stmt}
    (h : wpAny (model P w) (A.over (.forLoop tg it body [] env) fs) (pyNext it) (fun r s1 => match r with
        | none => Seg (model P w) A R Y n s₀ (.forLoop tg it body [] env) (.pure (.again (.block [] env))) fs s1
        | some v => wpAny (model P w) (A.over (.forLoop tg it body [] env) fs) (letOwnedTupleGo tg it v) (fun _ s2 =>
          wpAny (model P w) (A.over (.forLoop tg it body [] env) fs) (assign tg env v) (fun _ s3 =>
          Seg (model P w) A R Y n s₀ (.forLoop tg it body [] env) ((execs body env).wrap (fun f => match f with
            | .next | .cont => .pure (.again (.forLoop tg it body [] env))
            | .brk => .pure (.done .next)
            | .ret v => .pure (.done (.ret v))) (fun e => (do noteFrame e env; theTreesLotGoes e : Sem Unit).wrap (fun _ => .raise e) .raise id id) id id) fs s3)
          (fun x s' => Seg (model P w) A R Y n s₀ (.forLoop tg it body [] env) ((do noteFrame x env; theTreesLotGoes x : Sem Unit).wrap (fun _ => .raise x) .raise id id) fs s') s2)
          (fun x s' => Seg (model P w) A R Y n s₀ (.forLoop tg it body [] env) ((do noteFrame x env; theTreesLotGoes x : Sem Unit).wrap (fun _ => .raise x) .raise id id) fs s') s1)
      (fun x s' => Seg (model P w) A R Y n s₀ (.forLoop tg it body [] env) ((do noteFrame x env; theTreesLotGoes x : Sem Unit).wrap (fun _ => .raise x) .raise id id) fs s') s) :
    Seg (model P w) A R Y n s₀ (.forLoop tg it body [] env) ((model P w).den (.forLoop tg it body [] env)) fs s := by
  have hH : ∀ e, ((do noteFrame e env; theTreesLotGoes e : Sem Unit).bind fun _ => (Sem.raise e : Sem PySem.Fin)) = (do noteFrame e env; theTreesLotGoes e : Sem Unit).wrap (fun _ => .raise e) .raise id id := fun e => Sem.bind_eq_wrap _ _
  show Seg _ A R Y n s₀ _ ((forTurn tg it body [] env).onRaise (fun x => do noteFrame x env; theTreesLotGoes x)) fs s
  rw [Sem.onRaise_eq_wrap]
  simp only [hH]
  unfold forTurn
  refine seg_bind_wrap (wpAny_standAt ?_)
  refine seg_bind_wrap (wpAny_onRaise (wpAny_mono h (fun r s1 h1 => ?_) fun x s' h' => wpAny_standAt h'))
  cases r with
  | none => exact h1
  | some v =>
    dsimp only at h1 ⊢
    refine seg_bind_wrap (wpAny_mono h1 (fun _ s2 h2 => ?_) fun _ _ z => z)
    refine seg_bind_wrap (wpAny_mono h2 (fun _ s3 h3 => ?_) fun _ _ z => z)
    rw [Sem.bind_eq_wrap', Sem.wrap_wrap]
    rw [Sem.wrap_congr (execs body env) _ _ (K' := fun f => match f with
            | .next | .cont => .pure (.again (.forLoop tg it body [] env))
            | .brk => .pure (.done .next)
            | .ret v => .pure (.done (.ret v))) (H' := (fun e => (do noteFrame e env; theTreesLotGoes e : Sem Unit).wrap (fun _ => .raise e) .raise id id))
        (fun f => by cases f <;> rfl) (fun e => by rfl)]
    exact h3
theorem seg_block0 (h : Seg (model P w) A R Y n s₀ (.block [] env) (.pure (.done .next)) fs s) : Seg (model P w) A R Y n s₀ (.block [] env) ((model P w).den (.block [] env)) fs s := h
end
section
variable {X : Cx} {tgx iter : Expr} {body : List Stmt} {wi : TI} {g : TG} {tb : TGn} {pos : Pos}
def tGFor (wi : TI) (g : TG) (tb : TGn) : TGn := fun D ys σ H => wi σ H fun J H1 => ∃ W : Nat → Nat → List V → L2.St → Hp → Prop, (∃ m, W 0 m ys σ H1) ∧ ∀ i m ys σ H, W i m ys σ H →
  (J.stop i H ∧ D.nx ys σ H) ∨ (J.go i H ∧ ∃ N : List V → L2.St → Hp → Prop, (∀ ys' σ' H', N ys' σ' H' → ∃ m', m' < m ∧ W (i + 1) m' ys' σ' H') ∧ ∀ x H', J.yld i H x H' → g x σ H' fun σ2 H2 => tb { D with nx := N, ct := N, bk := D.nx } ys σ2 H2)
theorem gs_for (hp : PassesOwn (model X.prog X.w) X.A X.env X.xe) (hc : X.calm = true) (hi : PI X tgx iter wi) (hg : PG X tgx g) (hb : GSs X body tb)
    (hs : ∀ x, foldedSetIterable iter X.env x = pure x := by intro _; rfl) : GS X (.For tgx iter body [] pos) (tGFor wi g tb) := by
  refine ⟨fun A S ip R n ys s₀ c fs K J gd lv s σ H D gc hn k hI ht => ?_⟩
  obtain ⟨acc, cc, ra, I⟩ := hI
  refine seg_ForS hs ?_
  rw [gc.over]
  refine wpAny_mono (hi.run _ s σ H _ I ht) (fun v s1 h1 => wpAny_mono h1 (fun itv s2 h2 p => ?_) fun x s' hx => k.exc n s₀ x s' hx) fun x s' hx => k.exc n s₀ x s' hx
  obtain ⟨it, fp, tn, Jt, H2, e, I2, T, st2, f2, W, ⟨m0, w0⟩, turn⟩ := h2
  subst e
  have stat : ∀ {H' : Hp} {acc' : Array Value} {cc' : Nat}, (∀ b ∈ fp, H' b = none) → ∀ b ∈ fp, FpOk X ((S, lstObj acc' cc') :: ip) H' b := fun hn b hb => by
    obtain ⟨_, q1, q2, q3, q4, q5⟩ := f2 b hb
    refine ⟨hn b hb, q1, q2, q3, q4, fun p hp => ?_⟩
    rcases List.mem_append.mp hp with z | z
    · exact q5 p (List.mem_append_left _ z)
    · rcases List.mem_cons.mp z with z | z
      · rw [z]
        exact q5 (S, lstObj acc cc) (List.mem_append_right _ List.mem_cons_self)
      · exact q5 p (List.mem_append_right _ (List.mem_cons_of_mem _ z))
  have fpS : ∀ b ∈ fp, b ≠ S := fun b hb z => (f2 b hb).2.2.2.2.2 (S, lstObj acc cc) (List.mem_append_right _ List.mem_cons_self) z.symm
  have gl := fun (kk : Result → Sem PySem.Fin) => gc_loop (k := kk) (c' := .forLoop tgx (.ref it) body [] X.env) (l := lv []) (kp := []) (p := p) gc rfl rfl
  have loop : ∀ (m n : Nat) (ys : List V) (s₀ s : Shared) (σ : L2.St) (H : Hp) (i : Nat), n + ys.length = sizeLine → W i m ys σ H → GI X S ip ys σ H s → tn i s.heap → (∀ b ∈ fp, H b = none) →
      Seg (model X.prog X.w) A R (GY X S) n s₀ (.forLoop tgx (.ref it) body [] X.env) ((model X.prog X.w).den (.forLoop tgx (.ref it) body [] X.env))
        (.ret (fun r => ((match r with | .ok f => (.pure f : Sem Flow) | .error e => .raise e).onRaise (cameBack X.env)).wrap K J gd lv) none (gd false) (lv []) c p [] :: fs) s := by
    intro m
    induction m using Nat.strongRecOn with
    | ind m ih =>
      intro n ys s₀ s σ3 H3 i hn w3 hI st3 fr3
      have ee : ∀ (n : Nat) (s₀ : Shared) (x : Value) (s' : Shared), X.xe x s' → Seg (model X.prog X.w) A R (GY X S) n s₀ (.forLoop tgx (.ref it) body [] X.env)
          ((do noteFrame x X.env; theTreesLotGoes x : Sem Unit).wrap (fun _ => .raise x) .raise id id)
          (.ret (fun r => ((match r with | .ok f => (.pure f : Sem Flow) | .error e => .raise e).onRaise (cameBack X.env)).wrap K J gd lv) none (gd false) (lv []) c p [] :: fs) s' := fun n s₀ x s' hx => by
        refine seg_wrap ?_
        rw [(gl _).over]
        refine wpAny_bind (wpAny_mono (hp x s' hx) (fun _ s'' hcb => wpAny_theTreesLotGoes ?_) fun y s'' hcb => ?_)
        · exact seg_leaf (.error x) (seg_cameBack gc k hcb)
        · exact seg_leaf (.error y) (seg_cameBack gc k hcb)
      obtain ⟨acc3, cc3, r3, I3⟩ := hI
      refine seg_forLoop ?_
      rw [(gl _).over]
      rcases turn i m ys σ3 H3 w3 with ⟨stop, qn⟩ | ⟨go, N, hN, step⟩
      · refine wpAny_mono (T.done X rfl rfl rfl hc i _ s σ3 H3 X.xe I3 (stat fr3) st3 stop) (fun r s4 ⟨hr, I4⟩ => ?_) fun x s' hx => ee n s₀ x s' hx
        subst hr
        refine seg_again rfl (seg_block0 ?_)
        exact seg_leaf (.ok .next) (k.ok n ys s₀ s4 .next hn ⟨σ3, H3, ⟨acc3, cc3, r3, I4⟩, qn⟩)
      · refine wpAny_mono (T.item X rfl rfl rfl hc i _ s σ3 H3 X.xe I3 (stat fr3) st3 go) (fun r s4 ⟨u, hr, h4⟩ => ?_) fun x s' hx => ee n s₀ x s' hx
        subst hr
        refine wpAny_mono h4 (fun _ s5 ⟨x, H5, I5, r5, y5, st5, fr5⟩ => ?_) fun x s' hx => ee n s₀ x s' hx
        have I5' := I5.pinned (stat fr5) (T.obj _ _ st5)
        refine wpAny_mono (hg.run _ s5 σ3 H5 x u _ I5' r5 (step x H5 y5)) (fun _ s6 ⟨σ6, H6, I6, q6⟩ => ?_) fun x s' hx => ee n s₀ x s' hx
        have gcb : GC X S (ip ++ pinsAt fp s5.heap) A (.forLoop tgx (.ref it) body [] X.env) (.ret (fun r => ((match r with | .ok f => (.pure f : Sem Flow) | .error e => .raise e).onRaise (cameBack X.env)).wrap K J gd lv) none (gd false) (lv []) c p [] :: fs) id := by
          have g0 := gl (fun r => ((match r with | .ok f => (.pure f : Sem Flow) | .error e => .raise e).onRaise (cameBack X.env)).wrap K J gd lv)
          refine ⟨g0.pn, fun p hp => ?_, g0.apart, g0.over, g0.split, g0.guard, g0.gd⟩
          rcases List.mem_append.mp hp with z | z
          · exact g0.ip p z
          · exact fpS p.1 (of_pinsAt z).1
        have again : ∀ {n' : Nat} {ys' : List V} {s₀' s7 : Shared} {σ7 : L2.St} {H7 : Hp}, n' + ys'.length = sizeLine → GI X S (ip ++ pinsAt fp s5.heap) ys' σ7 H7 s7 → N ys' σ7 H7 → Seg (model X.prog X.w) A R (GY X S) n' s₀' (.forLoop tgx (.ref it) body [] X.env) ((model X.prog X.w).den (.forLoop tgx (.ref it) body [] X.env))
            (.ret (fun r => ((match r with | .ok f => (.pure f : Sem Flow) | .error e => .raise e).onRaise (cameBack X.env)).wrap K J gd lv) none (gd false) (lv []) c p [] :: fs) s7 := fun {n' ys' s₀' s7 σ7 H7} hn' I7 n7 => by
          obtain ⟨m', hm, w7⟩ := hN ys' σ7 H7 n7
          obtain ⟨acc7, cc7, r7, I7⟩ := I7
          have I7' : Inv X (((S, lstObj acc7 cc7) :: ip) ++ pinsAt fp s5.heap) σ7 H7 s7 := I7
          refine ih m' hm n' ys' s₀' s7 σ7 H7 (i + 1) hn' w7 ⟨acc7, cc7, r7, I7'.unpinned⟩ (T.keep _ _ _ st5 fun b hb o e => (I7'.pin (b, o) (List.mem_append_right _ (List.mem_append_right _ (mem_pinsAt hb e)))).1) fun b hb => ?_
          obtain ⟨o, e, d⟩ := T.obj _ _ st5 b hb
          exact (I7'.pin (b, o) (List.mem_append_right _ (List.mem_append_right _ (mem_pinsAt hb e)))).2.1
        have unp : ∀ {ys' : List V} {s7 : Shared} {σ7 : L2.St} {H7 : Hp}, GI X S (ip ++ pinsAt fp s5.heap) ys' σ7 H7 s7 → GI X S ip ys' σ7 H7 s7 := fun {ys' s7 σ7 H7} I7 => by
          obtain ⟨acc7, cc7, r7, I7⟩ := I7
          have I7' : Inv X (((S, lstObj acc7 cc7) :: ip) ++ pinsAt fp s5.heap) σ7 H7 s7 := I7
          exact ⟨acc7, cc7, r7, I7'.unpinned⟩
        refine hb.run A S (ip ++ pinsAt fp s5.heap) R n ys s₀ _ _ _ _ id id s6 σ6 H6 { D with nx := N, ct := N, bk := D.nx } gcb hn ⟨fun n' ys' s₀' s7 f hn' hs7 => ?_, fun n' s₀' x s7 hx => ee n' s₀' x s7 hx⟩ ⟨acc3, cc3, r3, I6⟩ q6
        cases f with
        | next =>
          obtain ⟨σ7, H7, I7, n7⟩ := hs7
          exact seg_again rfl (again hn' I7 n7)
        | cont =>
          obtain ⟨σ7, H7, I7, n7⟩ := hs7
          exact seg_again rfl (again hn' I7 n7)
        | brk =>
          obtain ⟨σ7, H7, I7, q7⟩ := hs7
          exact seg_leaf (.ok .next) (k.ok n' ys' s₀' s7 .next hn' ⟨σ7, H7, unp I7, q7⟩)
        | ret v =>
          obtain ⟨x7, σ7, H7, I7, rv7, q7⟩ := hs7
          exact seg_leaf (.ok (.ret v)) (k.ok n' ys' s₀' s7 (.ret v) hn' ⟨x7, σ7, H7, unp I7, rv7, q7⟩)
  exact loop m0 n ys s₀ s2 σ H2 0 hn w0 ⟨acc, cc, ra, I2⟩ st2 fun b hb => (f2 b hb).1
end
end L2
end

section
set_option Elab.async false
set_option linter.all false
set_option maxRecDepth 100000
set_option maxHeartbeats 4000000
/-! PV30: generator defs; list(f(..)) of one -/
namespace PV
open PySem PySem.Spec PyProof.Rows L2
section
variable (C : Ctx) (xa : XA) (K : PySem.W.Frag) (mg : Str → Option Value)
/-- behind a statement of a generator -/
def PostG (F : Hp) (n : Nat) (W : WX) (G : Hp) (D : GEnds) : GO → Prop
  | .nx ds e' => ∀ ys σ' H' G', σ'.length = n → Ex G G' → RS K mg xa F G' e' σ' H' → Reps K G' ds ys → D.nx ys σ' H'
  | .bk ds e' => ∀ ys σ' H' G', σ'.length = n → Ex G G' → RS K mg xa F G' e' σ' H' → Reps K G' ds ys → D.bk ys σ' H'
  | .ct ds e' => ∀ ys σ' H' G', σ'.length = n → Ex G G' → RS K mg xa F G' e' σ' H' → Reps K G' ds ys → D.ct ys σ' H'
  | .rt ds (.val d) e' => ∀ ys v σ' H' G', σ'.length = n → Ex G G' → RS K mg xa F G' e' σ' H' → Reps K G' ds ys → Rep K G' d v → D.rt ys v H'
  | .rt ds (.frs o) e' => ∀ ys v σ' H' G', σ'.length = n → Ex G G' → RS K mg xa F G' (e' ++ [.own o none]) (σ' ++ [some v]) H' → Reps K G' ds ys → D.rt ys v H'
  | .err x e' => ∀ cls dx σ' ys H' G', σ'.length = n → Ex G G' → RS K mg xa F G' e' (σ' ++ ys) H' → mg x.cls = some cls → ExnR K G' x.ns x.vs dx → W cls (some dx) σ' H'
  | .bad => False
def rdG (c : CG) (W : WX) : TGn := fun D ys σ H => ∃ e F G ds, RS K mg xa F G e σ H ∧ Reps K G ds ys ∧ PostG xa K mg F σ.length W G D (runG C c ds e)
end
structure VGS (C : Ctx) (xa : XA) (X : Cx) (e : Stmt) (c : CG) : Prop where
  gs : ∀ W, Takes X W → GS X e (rdG C xa X.K X.mg c W)
structure VGSs (C : Ctx) (xa : XA) (X : Cx) (e : List Stmt) (c : CG) : Prop where
  gs : ∀ W, Takes X W → GSs X e (rdG C xa X.K X.mg c W)
section
variable {C : Ctx} {xa : XA} {K : PySem.W.Frag} {mg : Str → Option Value} {F G H : Hp} {e : Env} {σ : L2.St} {τ xs : List (Option V)} {W : WX} {D : GEnds} {n : Nat} {ys : List V} {ds : List PV.D}
theorem PostG.mono {G' : Hp} {o : GO} (x : Ex G G') (h : PostG xa K mg F n W G D o) : PostG xa K mg F n W G' D o := by
  cases o with
  | nx ds e => exact fun ys σ' H' G2 l y => h ys σ' H' G2 l (x.trans y)
  | bk ds e => exact fun ys σ' H' G2 l y => h ys σ' H' G2 l (x.trans y)
  | ct ds e => exact fun ys σ' H' G2 l y => h ys σ' H' G2 l (x.trans y)
  | rt ds r e =>
    cases r with
    | val d => exact fun ys v σ' H' G2 l y => h ys v σ' H' G2 l (x.trans y)
    | frs d => exact fun ys v σ' H' G2 l y => h ys v σ' H' G2 l (x.trans y)
  | err x' e => exact fun cls dx σ' ys H' G2 l y => h cls dx σ' ys H' G2 l (x.trans y)
  | bad => exact h
theorem PostG.lift {α : Type} {o : Option α} {f : α → GO} (h : PostG xa K mg F n W G D (liftG o f)) : ∃ a, o = some a ∧ PostG xa K mg F n W G D (f a) := by
  cases o with
  | none => exact h.elim
  | some a => exact ⟨a, rfl, h⟩
theorem PostG.then_ {o : GO} {f : List PV.D → Env → GO} (h : PostG xa K mg F n W G D (o.then f)) : PostG xa K mg F n W G { D with nx := fun ys σ' H' => ∃ e' G' ds, Ex G G' ∧ RS K mg xa F G' e' σ' H' ∧ Reps K G' ds ys ∧ σ'.length = n ∧ PostG xa K mg F n W G' D (f ds e') } o := by
  cases o with
  | nx ds e => exact fun ys σ' H' G2 l y r p => ⟨e, G2, ds, y, r, p, l, PostG.mono y h⟩
  | bk ds e => exact h
  | ct ds e => exact h
  | rt ds r e =>
    cases r with
    | val d => exact h
    | frs d => exact h
  | err x' e => exact h
  | bad => exact h
theorem PostG.turn {o : GO} {f : List PV.D → Env → GO} (h : PostG xa K mg F n W G D (match o with
    | .nx ys e' => f ys e'
    | .ct ys e' => f ys e'
    | .bk ys e' => .nx ys e'
    | o => o)) {N : List V → L2.St → Hp → Prop} (hN : ∀ ds e' ys σ' H' G', σ'.length = n → Ex G G' → RS K mg xa F G' e' σ' H' → Reps K G' ds ys → PostG xa K mg F n W G' D (f ds e') → N ys σ' H') : PostG xa K mg F n W G { D with nx := N, ct := N, bk := D.nx } o := by
  cases o with
  | nx ds e => exact fun ys σ' H' G2 l y r p => hN ds e ys σ' H' G2 l y r p (PostG.mono y h)
  | ct ds e => exact fun ys σ' H' G2 l y r p => hN ds e ys σ' H' G2 l y r p (PostG.mono y h)
  | bk ds e => exact h
  | rt ds r e =>
    cases r with
    | val d => exact h
    | frs d => exact h
  | err x' e => exact h
  | bad => exact h
theorem gs_imp {X : Cx} {e : Stmt} {t t' : TGn} (h : GS X e t) (k : ∀ D ys σ H, t' D ys σ H → t D ys σ H) : GS X e t' := ⟨fun A S ip R n ys s₀ c fs K J gd lv s σ H D g hn kk hI ht => h.run A S ip R n ys s₀ c fs K J gd lv s σ H D g hn kk hI (k D ys σ H ht)⟩
theorem gss_imp {X : Cx} {e : List Stmt} {t t' : TGn} (h : GSs X e t) (k : ∀ D ys σ H, t' D ys σ H → t D ys σ H) : GSs X e t' := ⟨fun A S ip R n ys s₀ c fs K J gd lv s σ H D g hn kk hI ht => h.run A S ip R n ys s₀ c fs K J gd lv s σ H D g hn kk hI (k D ys σ H ht)⟩
theorem rdg_opd {c : CE} {k : At → Env → GO} {R : V → Hp → Prop} (r : RS K mg xa F G e σ H) (h : PostG xa K mg F σ.length W G D ((opd (ev C c e)).go k))
    (hR : ∀ a e1 v zs H1 G1, Ex G G1 → RS K mg xa F G1 e1 (σ ++ zs) H1 → Opn K G1 (σ ++ zs) a v → PostG xa K mg F σ.length W G1 D (k a e1) → R v H1) : rdE C xa K mg c W σ H R := by
  refine ⟨e, [], F, G, by rw [List.append_nil]; exact r, ?_⟩
  rw [List.append_nil]
  cases q : ev C c e with
  | ok res e' =>
    rw [q] at h
    cases res with
    | frs o =>
      intro v H' G' x r'
      have h' : PostG xa K mg F σ.length W G D (k (.pl e'.length) (e' ++ [.own o none])) := h
      have l := r'.len
      simp only [List.length_append, List.length_cons, List.length_nil] at l
      refine hR (.pl e'.length) (e' ++ [.own o none]) v [some v] H' G' x r' ?_ (PostG.mono x h')
      show (σ ++ [some v])[e'.length]? = some (some v)
      rw [List.getElem?_append_right (by omega), show e'.length - σ.length = 0 by omega]
      rfl
    | at_ a =>
      intro v H' G' x r' o
      have h' : PostG xa K mg F σ.length W G D (k a e') := h
      exact hR a e' v [] H' G' x (by rw [List.append_nil]; exact r') (by rw [List.append_nil]; exact o) (PostG.mono x h')
  | err x e' =>
    rw [q] at h
    exact fun cls dx H' G' ys y r' hm hx => h cls dx σ ys H' G' rfl y r' hm hx
  | bad =>
    rw [q] at h
    exact h
theorem rdg_for {tg : Tg} {k : Ik} {src : List CE} {c : CG} (q : rdG C xa K mg (.for_ tg k src c) W D ys σ H) : tGFor (rdI C xa K mg k src W) (gOf K tg) (rdG C xa K mg c W) D ys σ H := by
  obtain ⟨e, F, G, ds, r, p, q⟩ := q
  rw [runG.eq_def] at q
  have hn := r.len
  refine ⟨e, [], F, G, by rw [List.append_nil]; exact r, ?_⟩
  rw [List.append_nil]
  dsimp only at q
  cases z : evi k (evs C src e) with
  | err x e' =>
    rw [z] at q
    exact fun cls dx H' G' ys y r' hm hx => q cls dx σ ys H' G' rfl y r' hm hx
  | bad => rw [z] at q; exact q
  | ok items e2 =>
    rw [z] at q
    intro J zs H1 G1 x1 r1 w
    replace q : PostG xa K mg F σ.length W G D (forGoG (fun d ys e' => liftG (tgF tg d e') fun e3 => runG C c ys e3) items ds (e2.take e.length)) := q
    have r2 := r1.cut
    rw [← hn] at r2
    generalize e2.take e.length = e0 at q r2
    generalize hT : (fun (d : PV.D) (ys : List PV.D) (e' : Env) => liftG (tgF tg d e') fun e3 => runG C c ys e3) = turn at q
    refine ⟨fun i m ys' σ' H' => m = items.length - i ∧ i ≤ items.length ∧ ∃ e' G' ds', Ex G1 G' ∧ RS K mg xa F G' e' σ' H' ∧ Reps K G' ds' ys' ∧ σ'.length = σ.length ∧ PostG xa K mg F σ.length W G' D (forGoG turn (items.drop i) ds' e'), ⟨items.length, by simp, Nat.zero_le _, e0, G1, ds, Ex.refl _, r2, Reps.mono K x1 _ _ p, rfl, PostG.mono x1 (by rw [List.drop_zero]; exact q)⟩, ?_⟩
    rintro i m ys' σ' H' ⟨rfl, hi, e', G', ds', x2, r3, p3, l3, q3⟩
    have hG : Ex G1 H' := x2.trans r3.gh
    by_cases hlt : i < items.length
    · refine .inr ⟨w.goes i H' hlt hG, fun ys2 σ2 H2 => ∃ e2 G2 ds2, Ex G1 G2 ∧ RS K mg xa F G2 e2 σ2 H2 ∧ Reps K G2 ds2 ys2 ∧ σ2.length = σ.length ∧ PostG xa K mg F σ.length W G2 D (forGoG turn (items.drop (i + 1)) ds2 e2), fun ys2 σ2 H2 h => ⟨items.length - (i + 1), by omega, rfl, hlt, h⟩, fun x H2 y => ?_⟩
      obtain ⟨d, hd, y⟩ := w.yields i H' x H2 hlt hG y
      obtain ⟨G2, x3, r4, hx⟩ := r3.came x2 y
      have ed : items.drop i = d :: items.drop (i + 1) := by
        rw [List.drop_eq_getElem_cons (by exact hlt)]
        rw [List.getElem?_eq_getElem hlt] at hd
        cases hd
        rfl
      rw [ed] at q3
      have q4 : PostG xa K mg F σ.length W G2 D (forGoG turn (d :: items.drop (i + 1)) ds' e') := PostG.mono x3 q3
      unfold forGoG at q4
      have q5 := PostG.turn (N := fun ys2 σ2 H2 => ∃ e2 G2 ds2, Ex G1 G2 ∧ RS K mg xa F G2 e2 σ2 H2 ∧ Reps K G2 ds2 ys2 ∧ σ2.length = σ.length ∧ PostG xa K mg F σ.length W G2 D (forGoG turn (items.drop (i + 1)) ds2 e2)) (f := fun ds2 e' => forGoG turn (items.drop (i + 1)) ds2 e') q4
        fun ds2 e' ys2 σ' H' G' l y r p h => ⟨e', G', ds2, (x2.trans x3).trans y, r, p, l, h⟩
      rw [← hT] at q5
      dsimp only at q5
      obtain ⟨e3, z3, q6⟩ := PostG.lift q5
      rw [hT] at q6
      refine rd_tgS r4 hx z3 fun σ2 l2 r5 => ⟨e3, F, G2, ds', r5, Reps.mono K x3 _ _ p3, ?_⟩
      rw [l2, l3]
      exact q6
    · have ei : i = items.length := by omega
      subst ei
      refine .inl ⟨w.stops H' hG, ?_⟩
      rw [List.drop_length] at q3
      exact q3 ys' σ' H' G' l3 (Ex.refl _) r3 p3
end
section
variable {C : Ctx} {xa : XA} {X : Cx} {pos yp : Pos} {st : Stmt} {sts : List Stmt} {c c2 : CG} {cs : CS} {a : Expr} {ce : CE}
theorem vg_plain (h : VS C xa X st cs) : VGS C xa X st (.plain cs) := ⟨fun W tk => gs_imp (gs_ps (h.ps W tk)) fun D ys σ H q => by
  obtain ⟨e, F, G, ds, r, p, q⟩ := q
  rw [runG.eq_def] at q
  refine ⟨e, F, G, r, ?_⟩
  dsimp only at q
  cases z : run C cs e with
  | nx e' => rw [z] at q; exact fun σ' H' G' l x r' => q ys σ' H' G' l x r' (Reps.mono X.K x _ _ p)
  | bk e' => rw [z] at q; exact fun σ' H' G' l x r' => q ys σ' H' G' l x r' (Reps.mono X.K x _ _ p)
  | ct e' => rw [z] at q; exact fun σ' H' G' l x r' => q ys σ' H' G' l x r' (Reps.mono X.K x _ _ p)
  | err x e' => rw [z] at q; exact q
  | bad => rw [z] at q; exact q
  | rt rv e' =>
    rw [z] at q
    cases rv with
    | val d => exact fun v σ' H' G' l x r' hv => q ys v σ' H' G' l x r' (Reps.mono X.K x _ _ p) hv
    | frs o => exact fun v σ' H' G' l x r' => q ys v σ' H' G' l x r' (Reps.mono X.K x _ _ p)⟩
theorem vgs_one (h : VGS C xa X st c) : VGSs C xa X [st] c := ⟨fun W tk => gss_imp (gss_cons (h.gs W tk) gss_nil) fun D ys σ H q => by
  show rdG C xa X.K X.mg c W { D with nx := fun ys' σ' H' => D.nx ys' σ' H' } ys σ H
  exact q⟩
theorem vgs_cons' (h : VGS C xa X st c) (h2 : VGSs C xa X sts c2) : VGSs C xa X (st :: sts) (.seq c c2) := ⟨fun W tk => gss_imp (gss_cons (h.gs W tk) (h2.gs W tk)) fun D ys σ H q => by
  obtain ⟨e, F, G, ds, r, p, q⟩ := q
  rw [runG.eq_def] at q
  refine ⟨e, F, G, ds, r, p, ?_⟩
  have q2 := PostG.then_ q
  generalize runG C c ds e = o at q2
  cases o with
  | nx ds' e' =>
      intro ys' σ' H' G' l x r' p'
      obtain ⟨e2, G2, ds2, x2, r2, p2, l2, h⟩ := q2 ys' σ' H' G' l x r' p'
      refine ⟨e2, F, G2, ds2, r2, p2, ?_⟩
      rw [l]
      exact h
  | bk ds' e' => exact q2
  | ct ds' e' => exact q2
  | rt ds' rv e' => cases rv with
    | val d => exact q2
    | frs o => exact q2
  | err x e' => exact q2
  | bad => exact q2⟩
theorem vg_yield (he : VE C xa X a ce) (hco : X.env.scope.isCoroutine = false := by rfl) (hi : interactive X.env = false := by rfl) : VGS C xa X (.Expr (.Yield (some a) yp) pos) (.yield_ ce) := ⟨fun W tk => gs_imp (gs_yield (he.pe W tk) hco hi) fun D ys σ H q => by
  obtain ⟨e, F, G, ds, r, p, q⟩ := q
  rw [runG.eq_def] at q
  dsimp only at q
  split at q
  · rename_i hl
    refine ⟨by rw [← p.len]; exact LIM_lt hl, ?_⟩
    refine rdg_opd r q fun a e1 v zs H1 G1 x1 r1 o1 q1 => ?_
    obtain ⟨⟨d, e2⟩, z1, q2⟩ := PostG.lift q1
    obtain ⟨G2, x2, r2, hv⟩ := r1.keep o1 z1
    have r3 := r2.cut
    rw [← r.len] at r3
    dsimp only at q2
    refine q2 (ys ++ [v]) σ H1 G2 rfl x2 r3 ?_
    have key : ∀ {ds : List PV.D} {ys : List V}, Reps X.K G2 ds ys → Reps X.K G2 (ds ++ [d]) (ys ++ [v]) := by
      intro ds
      induction ds with
      | nil => intro ys h; rw [show ys = [] from h]; exact ⟨v, [], rfl, hv, rfl⟩
      | cons d' ds ih =>
        intro ys h
        obtain ⟨w, u, rfl, h1, h2⟩ := h
        exact ⟨w, u ++ [v], rfl, h1, ih h2⟩
    exact key (Reps.mono X.K (x1.trans x2) _ _ p)
  · exact q.elim⟩
theorem vg_for {tgx iter : Expr} {tg : Tg} {k : Ik} {src : List CE} (hp : PassesOwn (model X.prog X.w) X.A X.env X.xe) (hc : X.calm = true) (hi : VI C xa X tgx iter k src) (hg : VG X tgx tg) (hb : VGSs C xa X sts c)
    (hs : ∀ x, foldedSetIterable iter X.env x = pure x := by intro _; rfl) : VGS C xa X (.For tgx iter sts [] pos) (.for_ tg k src c) := ⟨fun W tk => gs_imp (gs_for hp hc (hi.pi W tk) hg.pg (hb.gs W tk) hs) fun D ys σ H q => rdg_for q⟩
end
/-- what a generator def promises -/
def spG (K : PySem.W.Frag) (mg : Str → Option Value) (call : List Slot → FOut) : SpG := fun vs H Q E => ∃ ss F G, RS K mg xa0 F G ss (vs.map some) H ∧ Free ss ∧ match call ss with
  | .ret (.frs (.lst os)) outs => outs.length = vs.length ∧ ∃ ds, os = ds.map .fro ∧ ∀ ys H' G', Ex G G' → RS K mg xa0 F G' outs (vs.map some) H' → Reps K G' ds ys → Q ys H'
  | .err x outs => outs.length = vs.length ∧ ∀ cls dx H' G', Ex G G' → RS K mg xa0 F G' outs (vs.map some) H' → mg x.cls = some cls → ExnR K G' x.ns x.vs dx → E cls (some dx) H'
  | _ => False
section
variable {P : Program} {w : World} {K : PySem.W.Frag} {mg : Str → Option Value} {base : Heap} {f : Addr} {name qual : Str} {params : Arguments} {body : List Stmt} {scope : Scope} {dV kV doc pm cdv ct oc : Value} {an od : Option Addr}
    {osl : Array (Option Value)} {N ps : List Str} {k n : Nat} {T : Str → Option FDef} {sub : Str → Str → Option Bool} {c : CG} {x : Str}
theorem fn_gen (lk : K.lookup f = some ⟨oc, od, .func (PySem.W.fnOf name qual params body scope dV kV doc pm an cdv ct), osl⟩) (hcd : PySem.W.codeIn K cdv qual = true) (S : GScope N ps scope) (hT : T x = some (.gen ps.length N.length c))
    (hns : ∀ y cls, sub y y = some true → mg y = some cls → PySem.W.subIn K cls (.type "StopIteration") = some false)
    (hb : ∀ (pv : Nat → Option V) (A : Around) (outer : List PySem.Env) (s : Shared) (H : Hp) (E : XK) (pn : List (Addr × Obj)), Room k (A.deeper (envOfC qual scope s.heap.objs.size f cdv)) →
      VGSs ⟨callF T sub n, sub⟩ ⟨none, pv⟩ (gcxOf P w K mg base N qual scope f cdv A outer s H E pn) body c) :
    GFn P w K mg base (k + 1) f (PySem.W.fnOf name qual params body scope dV kV doc pm an cdv ct) ps (fun vs H Q E => spG K mg (callF T sub (n + 1) x) vs H Q fun cls d H => PySem.W.subIn K cls (.type "StopIteration") = some false → E cls d H) := by
  have hpl : ps.length ≤ N.length := by have := congrArg List.length S.pre; rw [List.length_take] at this; omega
  have len : ∀ vs H Q E, spG K mg (callF T sub (n + 1) x) vs H Q E → vs.length = ps.length := by
    intro vs H Q E h
    obtain ⟨ss, F, G, r, _, q⟩ := h
    have hl := r.len
    rw [List.length_map] at hl
    unfold callF at q
    rw [hT] at q
    dsimp only at q
    by_cases z : ss.length = ps.length
    · exact hl.symm.trans z
    · rw [if_neg z] at q
      exact q.elim
  refine gfn_of lk hcd S (fun vs H Q E h => len vs H Q _ h) fun A outer s H vs Q E pn hr hsp => ?_
  have hvl := len _ _ _ _ hsp
  obtain ⟨ss, F, G, r, hfree, q⟩ := hsp
  have hl := r.len
  rw [List.length_map] at hl
  have hV := hb (fun i => vs[i]?) A outer s H E pn hr
  refine ⟨_, hV.gs _ takes_gcx, ?_⟩
  have r2 := r.enter hfree (N.length - vs.length)
  refine ⟨_, F, G, [], r2, rfl, ?_⟩
  unfold callF at q
  rw [hT] at q
  dsimp only at q
  rw [if_pos (hl.trans hvl)] at q
  have e1 : marked 0 ss ++ List.replicate (N.length - vs.length) Slot.non = marked 0 ss ++ List.replicate (N.length - ps.length) Slot.non := by rw [hvl]
  have hsl : (L2.start N vs).length = N.length := by
    unfold L2.start
    rw [List.length_append, List.length_map, List.length_replicate]
    omega
  show PostG ⟨none, fun i => vs[i]?⟩ K mg F (L2.start N vs).length (fun cls d _ H => E cls d H) G { nx := fun ys _ H' => Q ys H', rt := fun ys v H' => v = .non ∧ Q ys H' } (runG ⟨callF T sub n, sub⟩ c [] (marked 0 ss ++ List.replicate (N.length - vs.length) Slot.non))
  rw [e1, hsl]
  have leave : ∀ {e' : Env} {σ' : L2.St} {H' G' : Hp}, σ'.length = N.length → RS K mg ⟨none, fun i => vs[i]?⟩ F G' e' σ' H' → RS K mg xa0 F G' (outs 0 ss e') (vs.map some) H' := fun {e' σ' H' G'} l r3 => by
    have := RS.leave (ss := ss) (e := e') (t := []) (xs := σ') (ts := []) (by simpa using r3) hl (by rw [r3.len, l]; omega) r3.len (fun s hs => by cases hs)
    simpa using this
  have unfro : ∀ {ds ds' : List PV.D}, ds.map OD.fro = ds'.map OD.fro → ds = ds' := fun {ds} => by
    induction ds with
    | nil => intro ds' h; cases ds' with
      | nil => rfl
      | cons d ds' => cases h
    | cons d ds ih => intro ds' h; cases ds' with
      | nil => cases h
      | cons d' ds' =>
        rw [List.map_cons, List.map_cons] at h
        obtain ⟨h1, h2⟩ := List.cons.inj h
        cases h1
        rw [ih h2]
  generalize runG ⟨callF T sub n, sub⟩ c [] (marked 0 ss ++ List.replicate (N.length - ps.length) Slot.non) = o at q
  cases o with
  | nx ds e' =>
    intro ys σ' H' G' l y r3 p3
    obtain ⟨_, ds', hd, q2⟩ := q
    rw [unfro hd] at p3
    exact q2 ys H' G' y (leave l r3) p3
  | bk ds e' => exact q.elim
  | ct ds e' => exact q.elim
  | bad => exact q.elim
  | rt ds rv e' =>
    cases rv with
    | frs o => exact q.elim
    | val d =>
      cases d with
      | non =>
        intro ys v σ' H' G' l y r3 p3 hv
        obtain ⟨_, ds', hd, q2⟩ := q
        rw [unfro hd] at p3
        exact ⟨hv, q2 ys H' G' y (leave l r3) p3⟩
      | _ => exact q.elim
  | err xx e' =>
    intro cls dx σ' ys H' G' l y r3 hm hx
    dsimp only at q
    by_cases hsub : sub xx.cls xx.cls = some true
    · rw [if_pos hsub] at q
      have r4 := r3.take N.length
      rw [← l, List.take_left, l] at r4
      refine q.2 cls dx H' G' y ?_ hm hx (hns _ _ hsub hm)
      have hlen : (e'.take N.length).length = N.length := by rw [r4.len, l]
      have r5 := leave l r4
      have e2 : outs 0 ss (e'.take N.length) = outs 0 ss e' := by
        have key : ∀ (ss : List Slot) (i m : Nat) (e : Env), ss.length ≤ m → outs i ss (e.take m) = outs i ss e := by
          intro ss
          induction ss with
          | nil => intro i m e _; rfl
          | cons s ss ih =>
            intro i m e hm
            cases m with
            | zero => simp at hm
            | succ m =>
              have h1 : (e.take (m + 1)).drop 1 = (e.drop 1).take m := by
                cases e <;> simp
              have h2 : slotAt (e.take (m + 1)) 0 = slotAt e 0 := by
                cases e <;> rfl
              have h3 := ih (i + 1) m (e.drop 1) (by simpa using hm)
              cases s <;> (unfold outs; rw [h1, h3]; try rw [h2])
        exact key ss 0 N.length e' (by omega)
      rw [e2] at r5
      exact r5
    · rw [if_neg hsub] at q
      exact q.elim
end
end PV
end

section
set_option Elab.async false
set_option linter.all false
set_option maxRecDepth 100000
set_option maxHeartbeats 4000000
/-! PV31: list(f(..)), f a generator def -/
namespace L2
open PySem PySem.Spec PyProof.Rows GenW
section
variable {X : Cx} {k : Nat} {p pos pos' : Pos}
/-- what leaves amid the draining leaves here: by the present slots alone -/
theorem listG_at {e : Expr} {tg : TGen} {E : XK} {nm : Str} {pins : List (Addr × Obj)} {s : Shared} {σ : L2.St} {H : Hp} {Q : VK} (h : PGen X k e tg E) (hx : PassesAt (CX X.prog X.w) X σ E) (hns : NoStop X.K E) (hr : Room (k + 3) X.A) (hg : Gl X nm) (hmg : X.mg nm = none) (hv : bootBuiltins nm = some (.type "list"))
    (hnm : nm ≠ "__name__") (hdb : (nm == ("__debug__" : Str)) = false) (he : starEach [e] X.env = (false, eval e X.env) :: starEach [] X.env) (I : Inv X pins σ H s) (hq : tListG tg σ H Q) : wpAny (model X.prog X.w) X.A (eval (.Call (.Name nm p) [e] [] pos) X.env) (EP X pins σ Q) X.xe s := by
  refine wpAny_Call_Name_kw (ld_blt I hg hmg hv ?_ hnm hdb)
  refine PyProof.Rows.callWith_type1 ?_ he rfl
  rw [he]
  show wpAny _ _ (spliced ((false, eval e X.env) :: backTo pos (starEach [] X.env))) _ _ s
  refine Calls.spliced_cons (thn (h.run pins s σ H _ I hq) fun u s1 ⟨H1, sc, ex, I1, hex, hG⟩ => Calls.spliced_nil ?_)
  have hsz : sc.heap.objs.size ≤ s1.heap.objs.size := let ⟨_, _, _, _, h1, h2, _⟩ := hG; Nat.le_trans h1 (Nat.le_of_lt h2)
  refine call_list_new hr I1.ok.frames hG (fun S s' acc c H' ys q0 q1 q2 hl q3 q4 q5 q6 q7 q8 => ⟨.ref S, upd H' S (.lst ys), I1.drained (Nat.le_trans hsz q0) hl q1 q2 hex q3 q4 q5 q6 q7, rfl, q8 S q7⟩) fun e s' g hc => ?_
  obtain ⟨a, B, H', cls, d, z1, fl, z2, ub, z3, z4, z5, z6⟩ := id hc
  refine ⟨notStop_of hns (I1.ok.mod.kin.keeps fun b o eb => fl.1 b o (ub.keep b o (I1.bs b o eb).1 (I1.bs b o eb).2 fun hm => ?_)) hc, hx pins H1 sc e _ I1 ⟨a, B, H', cls, d, z1, fl, z2, ub, z3, z4, allBare_setGen z5 rfl, z6⟩⟩
  rcases List.mem_cons.mp (I1.stkSub b hm) with z | z
  · have h1 := Heap.lt_size eb
    rw [z] at h1
    exact absurd (Nat.lt_of_lt_of_le h1 (Nat.le_trans I1.ok.bsz I1.ok.above)) (Nat.lt_irrefl _)
  · exact I1.ok.nofr eb z
end
end L2
namespace PV
open PySem PySem.Spec PyProof.Rows L2
/-- a generator def of the text -/
structure FnG (C : Ctx) (X : Cx) (x : Str) (n : Nat) (dv : List D) : Prop where
  ex : ∃ (k : Nat) (f : Addr) (fd : FuncData) (ps : List Str) (dvs : List V) (ds : List Value), GFn X.prog X.w X.K X.mg X.base k f fd ps (fun vs H Q E => spG X.K X.mg (C.call x) vs H Q fun cls d H => PySem.W.subIn X.K cls (.type "StopIteration") = some false → E cls d H) ∧ Room (k + 3) X.A ∧ X.mg x = some (.ref f) ∧ PySem.W.keepIn X.K (.ref f) = true ∧
    Vals dvs ds ∧ (∀ G, Reps X.K G dv dvs) ∧ Binds X.K fd ps ds
  outs : ∀ ss, OutsOk (C.call x ss) ss.length
  ret : ∀ ss r os, C.call x ss = .ret r os → ∃ ds : List D, r = .frs (.lst (ds.map .fro))
theorem pick_range {α : Type} (xs : List α) : PV.pick xs (List.range xs.length) = xs := by
  have key : ∀ (l : List Nat) (n : Nat), (∀ i, i < l.length → l[i]? = some (n + i)) → n + l.length ≤ xs.length → PV.pick xs l = (xs.drop n).take l.length := by
    intro l
    induction l with
    | nil => intro n _ _; simp [PV.pick]
    | cons a l ih =>
      intro n h hl
      have h0 : a = n := by simpa using h 0 (by simp)
      subst h0
      have hlt : a < xs.length := by simp at hl; omega
      unfold PV.pick
      rw [List.getElem?_eq_getElem hlt]
      dsimp only
      rw [ih (a + 1) (fun i hi => by have := h (i + 1) (by simp; omega); simp at this; rw [this]; congr 1; omega) (by simp at hl ⊢; omega)]
      rw [List.length_cons, List.drop_eq_getElem_cons hlt, List.take_succ_cons]
  have := key (List.range xs.length) 0 (fun i hi => by simp at hi; simp [hi]) (by simp)
  rw [this, List.length_range, List.drop_zero, List.take_length]
section
variable {C : Ctx} {xa : XA} {X : Cx} {es : List Expr} {cs : List CE} {p p0 pos pos' : Pos} {a : Expr} {x : Str} {dv : List D}
/-- list(f(e, ..)) -/
theorem ve_listG (h : FnG C X x cs.length dv) (hg : Gl X x) (ha : VA C xa X (a :: es) cs) (hmL : X.mg "list" = none) (hgL : Gl X "list" := by rfl) (hdb : (x == ("__debug__" : Str)) = false := by decide)
    (he : starEach (a :: es) X.env = (false, eval a X.env) :: starEach es X.env := by rfl) (hpl : (backTo pos' (starEach es X.env)).any (·.1) = false := by rfl)
    (heL : starEach [.Call (.Name x p) (a :: es) [] pos'] X.env = (false, eval (.Call (.Name x p) (a :: es) [] pos') X.env) :: starEach [] X.env := by rfl) :
    VE C xa X (.Call (.Name "list" p0) [.Call (.Name x p) (a :: es) [] pos'] [] pos) (.call x cs dv (List.range (cs.length + dv.length))) := ⟨fun W tk => ⟨fun pins s σ H Q I q => by
  obtain ⟨k, f, fd, ps, dvs, ds, F, hr, hm, hk, hv, hd, hb⟩ := h.ex
  have q1 := QA.len (rd_call hd (fun ss r os z => by have := h.outs ss; rw [z] at this; exact this) (fun ss r os z => by have := h.outs ss; rw [z] at this; exact this) q)
  have pg := pgen_call (E := fun cls d H => PySem.W.subIn X.K cls (.type "StopIteration") = some false ∧ WE W σ cls d H) (p := p) F (hr.mono (by omega)) hg hm hk hb hv (ha.pa W tk) hdb he hpl
  refine listG_at pg (fun pins H s e s' I c => passAt tk σ pins H s e s' I ?_) (fun cls d H h => h.1) hr hgL hmL PyProof.Rows.boot_list (by decide) (by decide) heL I ?_
  · obtain ⟨a, B, H', cls, d, z1, z2, z3, z4, z5, z6, z7, z8⟩ := c
    exact ⟨a, B, H', cls, d, z1, z2, z3, z4, z5, z6, z7, z8.2⟩
  · obtain ⟨e, τ, F0, G0, r0, q2⟩ := q1
    refine ⟨e, τ, F0, G0, r0, Post.imp (fun as e' _ z => ?_) q2⟩
    intro vs ys H' G' x1 r' o
    obtain ⟨hl, ss, F1, G1, r1, hf, q3⟩ := z vs ys H' G' x1 r' o
    have hpk : PV.pick (vs ++ dvs) (List.range (cs.length + dv.length)) = vs ++ dvs := by
      have e1 : cs.length + dv.length = (vs ++ dvs).length := by rw [List.length_append, hl, (hd G').len]
      rw [e1, pick_range]
    rw [hpk] at r1 q3
    refine ⟨ss, F1, G1, r1, hf, ?_⟩
    cases zc : C.call x ss with
    | bad => rw [zc] at q3; exact q3.elim
    | err xx outs =>
      rw [zc] at q3
      exact ⟨q3.1, fun cls dx H' G' y r2 hmm hx hs => ⟨hs, q3.2 cls dx H' G' y r2 hmm hx⟩⟩
    | ret rv outs =>
      obtain ⟨dd, rfl⟩ := h.ret ss rv outs zc
      rw [zc] at q3
      refine ⟨q3.1, dd, rfl, fun ys2 H2 G2 y r2 hr2 p2 hp2 => ?_⟩
      exact q3.2 (.ref p2) _ G2 y (r2.new_ hr2 hp2)⟩⟩
end
end PV
end

section
set_option Elab.async false
set_option linter.all false
set_option maxRecDepth 100000
set_option maxHeartbeats 4000000
/-! PV32: what the head tells: defs, names, exception classes with an __init__ of one field -/
namespace PV
open PySem PySem.Spec PyProof.Rows L2 He
/-! ### a part of the heap without lists -/
def notLst (o : Obj) : Bool := !(o.cls == .type "list")
def frP (g : Addr → Option Obj) (as : List Addr) : PySem.W.Frag := as.filterMap fun a => match g a with
  | some o => if notLst o = true then some (a, o) else none
  | none => none
theorem frP_at {g : Addr → Option Obj} {a : Addr} {o : Obj} : ∀ as : List Addr, (frP g as).lookup a = some o → g a = some o ∧ notLst o = true
  | [], e => nomatch (show (none : Option Obj) = some o from e)
  | b :: r, e => by
    unfold frP at e
    rw [List.filterMap_cons] at e
    cases hb : g b with
    | none =>
      rw [hb] at e
      exact frP_at r e
    | some ob =>
      rw [hb] at e
      dsimp only at e
      by_cases hl : notLst ob = true
      · rw [if_pos hl] at e
        dsimp only at e
        rw [List.lookup_cons] at e
        cases q : (a == b) with
        | true =>
          rw [q] at e
          have eo : ob = o := Option.some.inj e
          rw [beq_iff_eq.mp q, hb, eo]
          exact ⟨rfl, eo ▸ hl⟩
        | false =>
          rw [q] at e
          exact frP_at r e
      · rw [if_neg hl] at e
        exact frP_at r e
theorem frP_in {as : List Addr} {h : Heap} : (frP h.get? as).In h := fun _ _ e => (frP_at as e).1
theorem frP_sql {as : List Addr} {g : Addr → Option Obj} {H : Hp} {a : Addr} {xs : List V} (h : SqL (frP g as) H a xs) : Rd H a (.lst xs) := by
  rcases h with h | ⟨o, its, n, h1, h2, _⟩
  · exact h
  · have := (frP_at as h1).2
    unfold notLst at this
    rw [h2] at this
    simp at this
def asP (g : Addr → Option Obj) : Nat → List Addr
  | 0 => [mainGlobals, cStatics]
  | n + 1 => growD g (asP g n)
/-! ### exception classes -/
structure ExD where
  cls : Str
  fld : Str
  qual : Str
  params : Arguments
  body : List Stmt
  scope : Scope
def ExD.adr (K : PySem.W.Frag) (d : ExD) : Addr := ma K (ga K d.cls) "__init__"
def exW (K : PySem.W.Frag) (d : ExD) : FnW := match K.lookup (d.adr K) with
  | some ⟨_, _, .func fd, _⟩ => some (fd.name, fd.qualname, fd.params, fd.body, fd.scope, fd.globals, [], fd.builtins)
  | _ => none
def ExD.val (d : ExD) : FnW := some ("__init__", d.qual, d.params, .stmts d.body, d.scope, mainGlobals, [], builtinsNs)
def cdB (K : PySem.W.Frag) (file : Str) (cda : Addr) : Bool := match K.lookup cda with
  | some ⟨_, _, .fields vs, _⟩ => (match (vs[2]? : Option Value) with
    | some (.str f _) => file == f
    | _ => false)
  | _ => false
def cellB (K : PySem.W.Frag) (C cc : Addr) : Bool := match K.lookup cc with
  | some ⟨_, _, .cell (some (.ref c)), _⟩ => decide (c = C)
  | _ => false
def initB (K : PySem.W.Frag) (file : Str) (d : ExD) : Bool := match K.lookup (d.adr K) with
  | some ⟨_, _, .func fd, _⟩ => (match fd.closure, fd.code, fd.defaults, fd.kwdefaults with
    | [(n, cc)], .ref cda, .none, .none => decide (n = "__class__") && (PySem.W.codeIn K (.ref cda) d.qual && (cdB K file cda && cellB K (ga K d.cls) cc))
    | _, _, _, _ => false)
  | _ => false
def oexB (K : PySem.W.Frag) (C : Addr) : Bool := match K.lookup C with
  | some ⟨.type t, _, .cls cd, sl⟩ => (match cd.mro, sl.toList with
    | .ref C' :: bm, [_, _, _, _, some (.builtin n), _] => decide (t = "type") && (decide (C' = C) && (decide (n = "ValueError.__new__") && (!cd.hasDel && (cd.hasDict && PySem.HandSPX.refsVE bm))))
    | _, _ => false)
  | _ => false
def oexB2 (K : PySem.W.Frag) (C : Addr) : Bool := oexB K C && (eqO (PySem.W.findIn K (.ref C) "__setattr__") (some (some (.builtin "object.__setattr__"))) && (decide (PySem.W.subIn K (.ref C) (.type "BaseException") = some true) &&
  (decide (PySem.W.typeIn K (.ref C) = some (.type "type")) && PySem.W.keepIn K (.ref C))))
def exB (K : PySem.W.Frag) (file : Str) (d : ExD) : Bool := initB K file d && (oexB2 K (ga K d.cls) && (eqO (PySem.W.findIn K (.ref (ga K d.cls)) "__init__") (some (some (.ref (d.adr K)))) && (decide (PySem.W.typeIn K (.ref (d.adr K)) = some (.type "function")) &&
  (eqO (PySem.W.findIn K (.ref (ga K d.cls)) d.fld) (some none) && (eqO (PySem.W.nsIn K cStatics "thirdparty.any") (some none) && (eqO (PySem.W.ks_superIn K (ga K d.cls) (ga K d.cls) "__init__") (some (some (.builtin "ValueError.__init__"))) &&
  (decide (PySem.W.subIn K (.ref (ga K d.cls)) (.type "ValueError") = some true) && decide (PySem.W.mroIn K (ga K d.cls) (.ref (ga K d.cls)) = some true))))))))
/-- caught exceptions of these classes are asked -/
def excCB (K : PySem.W.Frag) (D : Addr) : Bool := eqO (PySem.W.findIn K (.ref D) "__getattribute__") (some (some (.builtin "BaseException.__getattribute__"))) && (eqO (PySem.W.findIn K (.ref D) "__getattr__") (some none) && (decide (PySem.W.subIn K (.ref D) (.type "BaseException") = some true) &&
  (PySem.W.hasDictIn K D && (eqO (PySem.W.findIn K (.ref D) "__class__") (some (some (.builtin "object.__class__"))) && (eqO (PySem.W.specialIn K (.builtin "object.__class__") "__get__") (some (some (.builtin "getset_descriptor.__get__"))) &&
  (decide (PySem.W.takesIn K (.builtin "object.__class__") = some true) && decide (PySem.W.mroIn K D (.type "object") = some true)))))))
/-- a built-in exception class's value, or an own class's -/
def cvK (K : PySem.W.Frag) (bl : List (Str × String)) (y : Str) : Value := match bl.lookup y with
  | some t => .type t
  | none => .ref (ga K y)
/-- the classes that are raised, each with those that it is or is under; the classes that are asked; the built-in ones among these; the fields -/
structure XTab where
  rows : List (Str × List Str)
  asked : List Str
  bl : List (Str × String)
  flds : List Str
def XTab.sub (t : XTab) (x y : Str) : Option Bool := match t.rows.lookup x with
  | some l => if y ∈ t.asked then some (decide (y ∈ l)) else none
  | none => none
def XTab.rowB (t : XTab) (K : PySem.W.Frag) (r : Str × List Str) : Bool := eqO (PySem.W.nsIn K mainGlobals r.1) (some (some (.ref (ga K r.1)))) && (excCB K (ga K r.1) && ((t.flds.all fun f => eqO (PySem.W.findIn K (.ref (ga K r.1)) f) (some none)) &&
  (decide (PySem.W.subIn K (.ref (ga K r.1)) (.type "StopIteration") = some false) && t.asked.all fun y => decide (PySem.W.exmOne K (.ref (ga K r.1)) (cvK K t.bl y) = some (decide (y ∈ r.2))) && decide (PySem.W.kitOne K (.ref (ga K r.1)) (cvK K t.bl y) = some (decide (y ∈ r.2))))))
/-! ### the Hook -/
structure HeadD where
  fa : List Fa
  fn : List DefD
  ex : List ExD
  tab : XTab
  file : Str
def obsK (D : HeadD) (K : PySem.W.Frag) : AlD := ((D.fa.all fun f => f.ok K) && ((D.fn.all fun d => d.ok K) && ((D.ex.all fun d => exB K D.file d) && D.tab.rows.all fun r => D.tab.rowB K r)), (D.fn.map fun d => fnW K d.at_) ++ D.ex.map fun d => exW K d)
def valP (D : HeadD) : AlD := (true, (D.fn.map DefD.val) ++ D.ex.map ExD.val)
def SaysP (D : HeadD) (K : PySem.W.Frag) : Prop := obsK D K = valP D
def obsP (n : Nat) (D : HeadD) (g : Addr → Option Obj) : AlD := obsK D (frP g (asP g n))
def hookP (n : Nat) (D : HeadD) : PySem.W.Hook where
  α := AlD
  obs := fun s => obsP n D s.heap.get?
  val := fun _ => valP D
  says := fun _ h => ∃ (g : Addr → Option Obj) (as : List Addr), (frP g as).In h ∧ SaysP D (frP g as)
  of := fun _ s e => ⟨s.heap.get?, asP s.heap.get? n, frP_in, e⟩
  keeps := fun _ _ _ ⟨g, as, hK, c⟩ k => ⟨g, as, PySem.W.Frag.In.keeps hK k, c⟩
theorem obsP_eq {n : Nat} {D : HeadD} {g : Addr → Option Obj} {s : Shared} (h : ∀ a, g a = s.heap.get? a) : obsP n D g = (hookP n D).obs s := by
  have e : g = s.heap.get? := funext h
  rw [e] <;> rfl
section
variable {D : HeadD} {K : PySem.W.Frag}
theorem app_inj {α : Type} {a b c d : List α} (hl : a.length = c.length) (h : a ++ b = c ++ d) : a = c ∧ b = d := List.append_inj h hl
theorem SaysP.b (c : SaysP D K) : ((D.fa.all fun f => f.ok K) && ((D.fn.all fun d => d.ok K) && ((D.ex.all fun d => exB K D.file d) && D.tab.rows.all fun r => D.tab.rowB K r))) = true := congrArg (fun z : AlD => z.1) c
theorem SaysP.w (c : SaysP D K) : (D.fn.map fun d => fnW K d.at_) = D.fn.map DefD.val ∧ (D.ex.map fun d => exW K d) = D.ex.map ExD.val := app_inj (by simp) (congrArg (fun z : AlD => z.2) c)
theorem SaysP.fact (c : SaysP D K) {f : Fa} (h : f ∈ D.fa) : f.ok K = true := List.all_eq_true.mp (ba c.b).1 f h
theorem SaysP.row (c : SaysP D K) {r : Str × List Str} (h : r ∈ D.tab.rows) : D.tab.rowB K r = true := List.all_eq_true.mp (ba (ba (ba c.b).2).2).2 r h
theorem map_mem {α β : Type} {f g : α → β} : ∀ {l : List α}, l.map f = l.map g → ∀ a ∈ l, f a = g a
  | [], _, a, h => by cases h
  | b :: l, e, a, h => by
    rw [List.map_cons, List.map_cons] at e
    obtain ⟨e1, e2⟩ := List.cons.inj e
    rcases List.mem_cons.mp h with z | z
    · rw [z]; exact e1
    · exact map_mem e2 a z
theorem SaysP.def_ (c : SaysP D K) {d : DefD} (h : d ∈ D.fn) : ∃ fd, FunD K d.name d.qual d.params d.body d.scope (d.dvs K) (d.kws K) (fAd K d.at_) fd :=
  DefD.funD (map_mem c.w.1 d h) (List.all_eq_true.mp (ba (ba c.b).2).1 d h)
theorem SaysP.exc (c : SaysP D K) {d : ExD} (h : d ∈ D.ex) : exW K d = d.val ∧ exB K D.file d = true := ⟨map_mem c.w.2 d h, List.all_eq_true.mp (ba (ba (ba c.b).2).2).1 d h⟩
end
/-! ### what it tells of the module's names -/
def faMg (K : PySem.W.Frag) (mg : Str → Option Value) : Fa → Prop
  | .glo x => mg x = some (.ref (ga K x))
  | .free x => mg x = none
  | .int x i => ∃ t, mg x = some (.int i t)
  | .str x z => ∃ t, mg x = some (.str z t)
  | _ => True
/-- the whole: K, mg -/
structure Fcts (D : HeadD) (K : PySem.W.Frag) (mg : Str → Option Value) : Prop where
  says : SaysP D K
  fa : ∀ f ∈ D.fa, faMg K mg f
  row : ∀ r ∈ D.tab.rows, mg r.1 = some (.ref (ga K r.1))
theorem fcts_of {D : HeadD} {K : PySem.W.Frag} {mg : Str → Option Value} {h : Heap} (X : K.In h) (G : h.Ns mainGlobals mg) (c : SaysP D K) : Fcts D K mg := by
  refine ⟨c, fun f hf => ?_, fun r hr => ?_⟩
  · have o := c.fact hf
    cases f with
    | glo x => exact He.glo_ok X G o
    | free x => exact He.free_ok X G o
    | int x i => exact He.int_ok X G o
    | str x z => exact He.str_ok X G o
    | _ => trivial
  · have o := c.row hr
    exact PySem.W.mg_of X G (eqO_ok (ba o).1)
section
variable {D : HeadD} {K : PySem.W.Frag} {mg : Str → Option Value} {P : Program} {base : Heap}
theorem Fcts.glo (F : Fcts D K mg) {x : Str} (h : Fa.glo x ∈ D.fa) : mg x = some (.ref (ga K x)) := F.fa _ h
theorem Fcts.free (F : Fcts D K mg) {x : Str} (h : Fa.free x ∈ D.fa) : mg x = none := F.fa _ h
theorem Fcts.int (F : Fcts D K mg) {x : Str} {i : Int} (h : Fa.int x i ∈ D.fa) : ∃ t, mg x = some (.int i t) := F.fa _ h
theorem Fcts.str (F : Fcts D K mg) {x z : Str} (h : Fa.str x z ∈ D.fa) : ∃ t, mg x = some (.str z t) := F.fa _ h
theorem lookup_memR {β : Type} {x : Str} {b : β} : ∀ {l : List (Str × β)}, l.lookup x = some b → (x, b) ∈ l
  | [], h => by cases h
  | (y, c) :: l, h => by
    rw [List.lookup_cons] at h
    cases q : x == y with
    | true => rw [q] at h; cases h; rw [beq_iff_eq.mp q]; exact List.mem_cons_self
    | false => rw [q] at h; exact List.mem_cons_of_mem _ (lookup_memR h)
theorem XTab.cases {t : XTab} {x y : Str} {b : Bool} (h : t.sub x y = some b) : ∃ l, (x, l) ∈ t.rows ∧ y ∈ t.asked ∧ b = decide (y ∈ l) := by
  unfold XTab.sub at h
  cases q : t.rows.lookup x with
  | none => rw [q] at h; cases h
  | some l =>
    rw [q] at h
    dsimp only at h
    by_cases hy : y ∈ t.asked
    · rw [if_pos hy] at h
      exact ⟨l, lookup_memR q, hy, (Option.some.inj h).symm⟩
    · rw [if_neg hy] at h
      cases h
theorem Fcts.exm (F : Fcts D K mg) {n y : Str} {b : Bool} {cl : Value} (h : D.tab.sub n y = some b) (hm : mg n = some cl) : PySem.W.exmOne K cl (cvK K D.tab.bl y) = some b ∧ PySem.W.kitOne K cl (cvK K D.tab.bl y) = some b := by
  obtain ⟨l, h1, h2, h3⟩ := XTab.cases h
  have o := F.says.row h1
  have e := F.row _ h1
  rw [hm] at e
  cases e
  obtain ⟨_, o⟩ := ba o
  obtain ⟨_, o⟩ := ba o
  obtain ⟨_, o⟩ := ba o
  obtain ⟨_, o⟩ := ba o
  obtain ⟨o1, o2⟩ := ba (List.all_eq_true.mp o y h2)
  rw [h3]
  exact ⟨of_decide_eq_true o1, of_decide_eq_true o2⟩
theorem Fcts.stop (F : Fcts D K mg) {y : Str} {cls : Value} (h : D.tab.sub y y = some true) (hm : mg y = some cls) : PySem.W.subIn K cls (.type "StopIteration") = some false := by
  obtain ⟨l, h1, h2, h3⟩ := XTab.cases h
  have o := F.says.row h1
  have e := F.row _ h1
  rw [hm] at e
  cases e
  obtain ⟨_, o⟩ := ba o
  obtain ⟨_, o⟩ := ba o
  obtain ⟨_, o⟩ := ba o
  obtain ⟨o, _⟩ := ba o
  exact of_decide_eq_true o
theorem Fcts.noat (F : Fcts D K mg) {f : Str} (hf : f ∈ D.tab.flds) : ∀ C n, mg n = some (.ref C) → D.tab.sub n n = some true → PySem.W.findIn K (.ref C) f = some none := fun C n hm h => by
  obtain ⟨l, h1, h2, h3⟩ := XTab.cases h
  have o := F.says.row h1
  have e := F.row _ h1
  rw [hm] at e
  cases e
  obtain ⟨_, o⟩ := ba o
  obtain ⟨_, o⟩ := ba o
  obtain ⟨o, _⟩ := ba o
  exact eqO_ok (List.all_eq_true.mp o f hf)
theorem Fcts.excT (F : Fcts D K mg) {call : Str → List Slot → FOut} : ExcT ⟨call, D.tab.sub⟩ K mg := ⟨fun n cls hm h => by
  obtain ⟨l, h1, h2, h3⟩ := XTab.cases h
  have o := F.says.row h1
  have e := F.row _ h1
  rw [hm] at e
  cases e
  obtain ⟨_, o⟩ := ba o
  obtain ⟨o, _⟩ := ba o
  obtain ⟨o1, o⟩ := ba o
  obtain ⟨o2, o⟩ := ba o
  obtain ⟨o3, o⟩ := ba o
  obtain ⟨o4, o⟩ := ba o
  obtain ⟨o5, o⟩ := ba o
  obtain ⟨o6, o⟩ := ba o
  obtain ⟨o7, o8⟩ := ba o
  exact ⟨_, rfl, ⟨eqO_ok o1, eqO_ok o2, of_decide_eq_true o3, o4, eqO_ok o5, eqO_ok o6, of_decide_eq_true o7, of_decide_eq_true o8⟩⟩⟩
theorem oexB_ok {C : Addr} (c : oexB K C = true) : ∃ nm q N bs bm sn sub ab col dd k0 k1 k2 k3 k5, K.lookup C = some (excClassObj nm q C N bs bm true sn sub ab col dd k0 k1 k2 k3 k5 "ValueError.__new__") ∧ PySem.HandSPX.refsVE bm = true := by
  unfold oexB at c
  split at c
  · rename_i t dd cd sl ho
    split at c
    · rename_i C' bm k0 k1 k2 k3 n k5 hm hs
      obtain ⟨c1, c⟩ := ba c
      obtain ⟨c2, c⟩ := ba c
      obtain ⟨c3, c⟩ := ba c
      obtain ⟨c4, c⟩ := ba c
      obtain ⟨c5, c6⟩ := ba c
      have e1 : t = "type" := of_decide_eq_true c1
      have e2 : C' = C := of_decide_eq_true c2
      have e3 : n = "ValueError.__new__" := of_decide_eq_true c3
      obtain ⟨nm, bs, mro, ns, qn, hd, sn, sub, ab, col, del⟩ := cd
      dsimp only at hm c4 c5
      have e4 : del = false := by simpa using c4
      subst e1 e2 e3 e4 c5 hm
      have hsl : sl = #[k0, k1, k2, k3, some (.builtin "ValueError.__new__"), k5] := by
        obtain ⟨l⟩ := sl
        simp only at hs
        rw [hs]
      subst hsl
      exact ⟨nm, qn, ns, bs, bm, sn, sub, ab, col, dd, k0, k1, k2, k3, k5, ho, c6⟩
    · cases c
  · cases c
/-- an exception's text, from the head -/
theorem Fcts.exTxt (F : Fcts D K mg) {d : ExD} (h : d ∈ D.ex) (hf : FldOk d.fld) (hsup : Fa.free "super" ∈ D.fa) (htop : (P.main.scope.names.lookup ("super" : Str)).isSome = false) (hfile : P.main.file = D.file)
    {msg : Expr} {p1 p2 s1 s2 s3 s4 s5 q1 q2 q3 q4 : Pos} (hp : d.params = xA d.fld p1 p2) (hb : d.body = xB d.fld msg s1 s2 s3 s4 s5 q1 q2 q3 q4) (hs : d.scope = xS d.fld) :
    ∃ fI cc cda doc pm ct oc an od osl, fI = d.adr K ∧ ExcTxt P K mg (ga K d.cls) fI cc cda d.fld d.qual doc pm ct oc an od osl msg p1 p2 s1 s2 s3 s4 s5 q1 q2 q3 q4 := by
  obtain ⟨w, c⟩ := F.says.exc h
  obtain ⟨c0, c⟩ := ba c
  obtain ⟨co, c⟩ := ba c
  obtain ⟨c1, c⟩ := ba c
  obtain ⟨c2, c⟩ := ba c
  obtain ⟨c3, c⟩ := ba c
  obtain ⟨c4, c⟩ := ba c
  obtain ⟨c5, c⟩ := ba c
  obtain ⟨c6, c7⟩ := ba c
  obtain ⟨co1, co⟩ := ba co
  obtain ⟨co2, co⟩ := ba co
  obtain ⟨co3, co⟩ := ba co
  obtain ⟨co4, co5⟩ := ba co
  unfold initB at c0
  unfold exW at w
  cases q : K.lookup (d.adr K) with
  | none => rw [q] at c0; cases c0
  | some o =>
    obtain ⟨oc, od, dt, osl⟩ := o
    rw [q] at c0 w
    cases dt with
    | func fd =>
      obtain ⟨n1, n2, n3, n4, n5, n6, n7, n8, n9, n10, n11, n12, n13, n14, n15⟩ := fd
      have e2 : (some (n1, n2, n3, n4, n5, n6, [], n15) : FnW) = d.val := w
      unfold ExD.val at e2
      simp only [Option.some.injEq, Prod.mk.injEq] at e2
      obtain ⟨h1, h2, h3, h4, h5, h6, _, h8⟩ := e2
      subst h1 h2 h6 h8
      have key : ∃ n cc cda, n7 = [(n, cc)] ∧ n13 = .ref cda ∧ n8 = .none ∧ n9 = .none ∧ (decide (n = "__class__") && (PySem.W.codeIn K (.ref cda) d.qual && (cdB K D.file cda && cellB K (ga K d.cls) cc))) = true := by
        cases n7 with
        | nil => cases c0
        | cons p r =>
          cases r with
          | cons _ _ => cases c0
          | nil =>
            obtain ⟨n, cc⟩ := p
            cases n13 with
            | ref cda =>
              cases n8 with
              | none =>
                cases n9 with
                | none => exact ⟨n, cc, cda, rfl, rfl, rfl, rfl, c0⟩
                | _ => cases c0
              | _ => cases c0
            | _ => cases c0
      obtain ⟨n, cc, cda, rfl, rfl, rfl, rfl, c0⟩ := key
      · skip
        obtain ⟨k1, k⟩ := ba c0
        obtain ⟨k2, k⟩ := ba k
        obtain ⟨k3, k4⟩ := ba k
        have e1 : n = "__class__" := of_decide_eq_true k1
        subst e1
        refine ⟨_, cc, cda, n10, n11, n14, oc, n12, od, osl, rfl, ⟨⟨oexB_ok co1, eqO_ok co2, of_decide_eq_true co3, of_decide_eq_true co4, co5⟩, hf, eqO_ok c1, of_decide_eq_true c2, eqO_ok c3, ?_, k2, ?_, ?_, eqO_ok c4, eqO_ok c5, of_decide_eq_true c6, of_decide_eq_true c7, F.free hsup, htop⟩⟩
        · rw [q, h3, h4, h5, hp, hb, hs]
        · unfold cdB at k3
          split at k3
          · rename_i ccl cdd vs ccs ho
            split at k3
            · rename_i f tf hv
              exact ⟨ccl, cdd, vs, ccs, f, tf, ho, hv, by rw [hfile]; exact k3⟩
            · cases k3
          · cases k3
        · unfold cellB at k4
          split at k4
          · rename_i cl cld c csl ho
            have e : c = ga K d.cls := of_decide_eq_true k4
            subst e
            exact ⟨cl, cld, csl, ho⟩
          · cases k4
    | _ => cases c0
end
end PV
end

section
set_option Elab.async false
set_option linter.all false
set_option maxRecDepth 100000
set_option maxHeartbeats 4000000
/-! PV33: own exceptions, ready to be raised -/
namespace PV
open PySem PySem.Spec PyProof.Rows L2 He
/-- the message of an exception: a text; or a text, the field within -/
def MsgOk (P : Program) (w : World) (K : PySem.W.Frag) (mg : Str → Option Value) (base : Heap) (f qual : Str) (ok : V → Prop) (msg : Expr) : Prop :=
  ∀ (fI cda cc : Addr) (A : Around) (outer : List PySem.Env) (s : Shared) (H : Hp) (xe : Value → Shared → Prop), PE (iCx P w K mg base f qual fI cda cc A outer s H xe) msg (fun σ H Q => ∃ v, σ[1]? = some (some v) ∧ ok v ∧ ∀ z : Str, Q (.str z) H)
section
variable {P : Program} {w : World} {K : PySem.W.Frag} {mg : Str → Option Value} {base : Heap} {f qual z pre : Str} {ok : V → Prop} {j1 j2 : Int} {p p1 p2 p3 : Pos}
theorem msg_const {j : Nat} : MsgOk P w K mg base f qual ok (.Constant (.str z) j p) := fun fI cda cc A outer s H xe => pe_imp pe_str fun σ H Q q => by
  obtain ⟨v, _, _, q⟩ := q
  exact q z
theorem str_app_len (a b : Str) : (a ++ b).length = a.length + b.length := by
  first | exact PySem.Str.length_append a b | simp [Str.length, HAppend.hAppend, Append.append]
theorem msg_fld {j : Nat} (hf : FldOk f) (hpre : pre.length ≤ 1000) : MsgOk P w K mg base f qual (fun v => true = true → fmV v) (.JoinedStr [.Constant (.str pre) j p1, .FormattedValue (.Name f p2) (-1) none p3] p) := fun fI cda cc A outer s H xe => by
  have hl : (xS f).names.lookup f = some .local := by
    unfold xS
    simp only [List.lookup_cons, hf.h1, beq_self_eq_true]
  have hp := pe_joined (X := iCx P w K mg base f qual fI cda cc A outer s H xe) (pos := p) (.cons (pe_str (x := pre) (j := j) (pos := p1)) (.cons (pe_fmt (pos := p3) (pe_var (i := 1) (x := f) (pos := p2) rfl (.inl hl) hf.h4 hf.h5)) .nil))
  refine pe_imp hp fun σ H Q q => ?_
  obtain ⟨v, h1, h2, q⟩ := q
  obtain ⟨i, rfl, hi⟩ := h2 rfl
  have e := int_text_length_le (k := 1920) (by decide) hi
  have e0 : (Str.empty ++ pre).length ≤ sizeLine := by
    rw [str_app_len, sizeLine_eq]
    show 0 + pre.length ≤ _
    omega
  refine ⟨pre, rfl, e0, .int i, h1, .inr ⟨i, rfl, hi, Str.ofString (toString i), rfl, ?_, q _⟩⟩
  rw [str_app_len, str_app_len, PySem.ofString_length, sizeLine_eq]
  show 0 + pre.length + _ ≤ _
  omega
end
/-- a class of such exceptions, ready -/
structure VXc (X : Cx) (x fld : Str) (fm : Bool) : Prop where
  ex : ∃ (Ca fI : Addr) (fd : FuncData), OexC X.K Ca ∧ PySem.W.findIn X.K (.ref Ca) "__init__" = some (some (.ref fI)) ∧ PySem.W.typeIn X.K (.ref fI) = some (.type "function") ∧
    FnOk X.prog X.w X.K X.mg X.base (L2.CX X.prog X.w) 1 fI fd ["self", fld] (spInit Ca fld fun v => fm = true → fmV v) ∧ Binds X.K fd ["self", fld] [] ∧ X.mg x = some (.ref Ca)
theorem VXc.vx {C : Ctx} {xa : XA} {X : Cx} {x fld : Str} {fm : Bool} {p pos : Pos} {a : Expr} {ce : CE} (h : VXc X x fld fm) (hr : Room 2 X.A) (hg : Gl X x) (ha : VE C xa X a ce)
    (hdb : (x == ("__debug__" : Str)) = false := by decide) (he : starEach [a] X.env = (false, eval a X.env) :: starEach [] X.env := by rfl) (hpl : (backTo pos (starEach [] X.env)).any (·.1) = false := by rfl) :
    VX C xa X (.Call (.Name x p) [a] [] pos) x fld fm ce := by
  obtain ⟨Ca, fI, fd, h1, h2, h3, h4, h5, h6⟩ := h.ex
  exact vx_own h1 h2 h3 h4 hr h5 hg h6 ha hdb he hpl
section
variable {D : HeadD} {K : PySem.W.Frag} {mg : Str → Option Value} {P : Program} {w : World} {base : Heap}
theorem Fcts.vxc (F : Fcts D K mg) {d : ExD} {fm : Bool} (h : d ∈ D.ex) (hf : FldOk d.fld) (hsup : Fa.free "super" ∈ D.fa) (hglo : Fa.glo d.cls ∈ D.fa) (htop : (P.main.scope.names.lookup ("super" : Str)).isSome = false) (hfile : P.main.file = D.file)
    {msg : Expr} {p1 p2 s1 s2 s3 s4 s5 q1 q2 q3 q4 : Pos} (hp : d.params = xA d.fld p1 p2) (hb : d.body = xB d.fld msg s1 s2 s3 s4 s5 q1 q2 q3 q4) (hs : d.scope = xS d.fld)
    (hmsg : MsgOk P w K mg base d.fld d.qual (fun v => fm = true → fmV v) msg)
    (hst : ∀ env : PySem.Env, starEach [msg] env = (false, eval msg env) :: starEach [] env) (hsw : ∀ env : PySem.Env, swapsWith (.Call (.Attribute (.Call (.Name "super" s1) [] [] s2) "__init__" s3) [msg] [] s4) none s5.line env = pure false)
    {pl : Sem Bool} (hme : ∀ env : PySem.Env, eval (.Call (.Attribute (.Call (.Name "super" s1) [] [] s2) "__init__" s3) [msg] [] s4) env = (do
      let ov ← attributeBase (.Call (.Name "super" s1) [] [] s2) "__init__" env (eval (.Call (.Name "super" s1) [] [] s2) env)
      standAt s3.atName
      let (f, first) ← holding [ov] (getMethod ov "__init__" pl)
      callWith s4 f first (backTo s4 (starEach [msg] env)) [])) (hsw2 : ∀ env : PySem.Env, swapsWith (.Name d.fld q3) (some (.Attribute (.Name "self" q1) d.fld q2)) q4.line env = pure false)
    (hbind : ∀ (doc pm ct : Value) (cc cda : Addr) (an : Option Addr) (a b : Value), bindArgs (PySem.W.ksFn "__init__" d.qual (xA d.fld p1 p2) (xB d.fld msg s1 s2 s3 s4 s5 q1 q2 q3 q4) (xS d.fld) .none .none doc pm an (.ref cda) ct cc) ⟨[a, b], []⟩ = pure ([("self" : Str), d.fld].zip [a, b]))
    (X : Cx) (hX : X.prog = P ∧ X.w = w ∧ X.K = K ∧ X.mg = mg ∧ X.base = base) : VXc X d.cls d.fld fm := by
  obtain ⟨rfl, rfl, rfl, rfl, rfl⟩ := hX
  obtain ⟨fI, cc, cda, doc, pm, ct, oc, an, od, osl, rfl, T⟩ := F.exTxt h hf hsup htop hfile hp hb hs
  refine ⟨_, _, _, T.oex, T.iC, T.tI, init_ok (k := 0) T (fun A outer s H xe => hmsg _ _ _ A outer s H xe) hst hsw hme hsw2, ?_, F.glo hglo⟩
  intro s us X hl
  rw [List.append_nil] at hl ⊢
  match us, hl with
  | [a, b], _ => exact BindsTo.of_eq (hbind doc pm ct cc cda an a b)
end
end PV
end

section
set_option Elab.async false
set_option linter.all false
set_option maxRecDepth 100000
set_option maxHeartbeats 4000000
/-! PV34: rules as a printer wants them; what is known of all defs at a fuel -/
namespace PV
open PySem PySem.Spec PyProof.Rows L2 He
def scp (ns : List (Str × NameKind)) (more : List (Str × Const) := []) : Scope := { kind := .function, names := ns, isGenerator := false, isCoroutine := false, more := more }
def scpG (ns : List (Str × NameKind)) (more : List (Str × Const) := []) : Scope := { kind := .function, names := ns, isGenerator := true, isCoroutine := false, more := more }
section
variable {C : Ctx} {xa : XA} {X : Cx}
theorem ve_nm {x : Str} {pos : Pos} (i : Nat) (hN : X.N[i]? = some x) (hv : Vis X.env.scope x) (hd : (x == ("__debug__" : Str)) = false := by decide) (hcd : (x == ("__classdict__" : Str)) = false := by decide) : VE C xa X (.Name x pos) (.var i) :=
  ve_var (pe_var hN hv hd hcd) (List.getElem?_eq_some_iff.mp hN).1
end
theorem Room.u {k : Nat} {A : Around} (r : Room k A) : A.units + 200 < cLine := by have := r.un; omega
section
variable {K : PySem.W.Frag} {x qual : Str} {params : Arguments} {body : List Stmt} {scope : Scope} {dvs : List V} {f : Addr} {fd : FuncData} {ps : List Str}
/-- what a call binds: n values, then the keywords ks; all parameters are given -/
theorem bindsA (F : FunD K x qual params body scope [] [] f fd) (n : Nat) (ks : List Str) (pm : List Nat)
    (h : ∀ (kV doc pm' : Value) (an : Option Addr) (cdv ct : Value) (us ws : List Value), us.length = n → ws.length = ks.length → bindArgs (PySem.W.fnOf x qual params body scope .none kV doc pm' an cdv ct) ⟨us, ks.zip ws⟩ = pure (ps.zip (PV.pick (us ++ ws) pm))) :
    ∃ ds : List Value, Vals ([] : List V) ds ∧ ∀ (s : Shared) (us ws : List Value), K.In s.heap → us.length = n → ws.length = ks.length → BindsTo s fd ⟨us, ks.zip ws⟩ (ps.zip (PV.pick (us ++ ws ++ ds) pm)) := by
  obtain ⟨oc, od, dV, kV, doc, pm', an, cdv, ct, osl, rfl, lk, hcd, hD, hK⟩ := F.ex
  refine ⟨[], .nil, fun s us ws X l1 l2 => ?_⟩
  rw [List.append_nil]
  rcases hD with ⟨_, rfl⟩ | ⟨e, _⟩
  · exact .of_eq (h kV doc pm' an cdv ct us ws l1 l2)
  · exact absurd rfl e
/-- .. the defaults behind the first j fill up -/
theorem bindsB (F : FunD K x qual params body scope dvs [] f fd) (hd : dvs ≠ []) (n j : Nat) (ks : List Str) (pm : List Nat)
    (h : ∀ (T : Addr) (kV doc pm' : Value) (an : Option Addr) (cdv ct : Value) (us ws its : List Value), us.length = n → ws.length = ks.length → its.length = dvs.length →
      ∃ k, bindArgs (PySem.W.fnOf x qual params body scope (.ref T) kV doc pm' an cdv ct) ⟨us, ks.zip ws⟩ = seqItems? (.ref T) >>= k ∧ k (some its.toArray) = pure (ps.zip (PV.pick (us ++ ws ++ its.drop j) pm))) :
    ∃ ds : List Value, Vals (dvs.drop j) ds ∧ ∀ (s : Shared) (us ws : List Value), K.In s.heap → us.length = n → ws.length = ks.length → BindsTo s fd ⟨us, ks.zip ws⟩ (ps.zip (PV.pick (us ++ ws ++ ds) pm)) := by
  obtain ⟨oc, od, dV, kV, doc, pm', an, cdv, ct, osl, rfl, lk, hcd, hD, hK⟩ := F.ex
  rcases hD with ⟨e, _⟩ | ⟨_, T, o, its, m, rfl, lT, oT, rT⟩
  · exact absurd e hd
  · refine ⟨its.drop j, rT.drop j, fun s us ws X l1 l2 => ?_⟩
    obtain ⟨k, e1, e2⟩ := h T kV doc pm' an cdv ct us ws its l1 l2 rT.length.symm
    refine BindsTo.of_looks fun M => ?_
    rw [e1]
    exact looks_items X lT oT (PySem.W.Looks.of_pure e2)
end
/-! ### all defs at a fuel -/
section
variable (P : Program) (w : World) (K : PySem.W.Frag) (mg : Str → Option Value) (base : Heap) (T : Str → Option FDef) (sub : Str → Str → Option Bool)
def GoodF (n : Nat) (d : DefD) (ps : List Str) : Prop := ∃ fd, FunD K d.name d.qual d.params d.body d.scope (d.dvs K) (d.kws K) (fAd K d.at_) fd ∧
  FnOk P w K mg base (L2.CX P w) (4 * n + 4) (fAd K d.at_) fd ps (spF K mg (callF T sub n d.name))
def GoodG (n : Nat) (d : DefD) (ps : List Str) : Prop := ∃ fd, FunD K d.name d.qual d.params d.body d.scope (d.dvs K) (d.kws K) (fAd K d.at_) fd ∧
  GFn P w K mg base (4 * n + 4) (fAd K d.at_) fd ps (fun vs H Q E => spG K mg (callF T sub n d.name) vs H Q fun cls d H => PySem.W.subIn K cls (.type "StopIteration") = some false → E cls d H)
end
section
variable {P : Program} {w : World} {K : PySem.W.Frag} {mg : Str → Option Value} {base : Heap} {T : Str → Option FDef} {sub : Str → Str → Option Bool} {D : HeadD} {d : DefD} {ps N : List Str} {n : Nat}
theorem spF_bad {vs : List V} {H : Hp} {Q : VK} {E : XK} {f : Str} (h : spF K mg (callF T sub 0 f) vs H Q E) : False := by
  obtain ⟨ss, F, G, r, _, q⟩ := h
  exact q.elim
theorem spG_bad {vs : List V} {H : Hp} {Q : List V → Hp → Prop} {E : XK} {f : Str} (h : spG K mg (callF T sub 0 f) vs H Q E) : False := by
  obtain ⟨ss, F, G, r, _, q⟩ := h
  exact q.elim
theorem GoodF.zero (c : SaysP D K) (h : d ∈ D.fn) : GoodF P w K mg base T sub 0 d ps := by
  obtain ⟨fd, F⟩ := c.def_ h
  exact ⟨fd, F, ⟨fun vs H Q E h => (spF_bad h).elim, fun A outer s H args us vs Q E hr e0 hb r hsp => (spF_bad hsp).elim⟩⟩
theorem GoodG.zero (c : SaysP D K) (h : d ∈ D.fn) : GoodG P w K mg base T sub 0 d ps := by
  obtain ⟨fd, F⟩ := c.def_ h
  exact ⟨fd, F, ⟨fun vs H Q E h => (spG_bad h).elim, fun A outer s H args us vs Q E hr e0 hb r hsp => (spG_bad hsp).elim⟩⟩
theorem GoodF.succ {c : CS} (cc : SaysP D K) (h : d ∈ D.fn) (S : FnScope N ps d.scope) (hT : T d.name = some (.code ps.length N.length c))
    (hb : ∀ (f : Addr) (pv : Nat → Option V) (cdv : Value) (A : Around) (outer : List PySem.Env) (s : Shared) (H : Hp) (E : XK), Room (4 * n + 7) (A.deeper (envOfC d.qual d.scope s.heap.objs.size f cdv)) →
      VSs ⟨callF T sub n, sub⟩ ⟨none, pv⟩ (cxOf (L2.CX P w) P w K mg base N d.qual d.scope f cdv A outer s H E) d.body c) : GoodF P w K mg base T sub (n + 1) d ps := by
  obtain ⟨fd, F⟩ := cc.def_ h
  exact ⟨fd, F, fn_code (k := 4 * n + 7) F S hT (hb _)⟩
theorem GoodG.succ {c : CG} (cc : SaysP D K) (h : d ∈ D.fn) (S : GScope N ps d.scope) (hT : T d.name = some (.gen ps.length N.length c)) (hns : ∀ y cls, sub y y = some true → mg y = some cls → PySem.W.subIn K cls (.type "StopIteration") = some false)
    (hb : ∀ (f : Addr) (pv : Nat → Option V) (cdv : Value) (A : Around) (outer : List PySem.Env) (s : Shared) (H : Hp) (E : XK) (pn : List (Addr × Obj)), Room (4 * n + 7) (A.deeper (envOfC d.qual d.scope s.heap.objs.size f cdv)) →
      VGSs ⟨callF T sub n, sub⟩ ⟨none, pv⟩ (gcxOf P w K mg base N d.qual d.scope f cdv A outer s H E pn) d.body c) : GoodG P w K mg base T sub (n + 1) d ps := by
  obtain ⟨fd, F⟩ := cc.def_ h
  refine ⟨fd, F, ?_⟩
  obtain ⟨oc, od, dV, kV, doc, pm', an, cdv, ct, osl, rfl, lk, hcd, hD, hK⟩ := F.ex
  exact fn_gen (k := 4 * n + 7) lk hcd S hT hns (fun pv A outer s H E pn hr => hb _ pv cdv A outer s H E pn hr)
end
section
variable {X : Cx} {T : Str → Option FDef} {sub : Str → Str → Option Bool} {D : HeadD} {d : DefD} {ps : List Str} {n m : Nat} {ks : List Str} {pm : List Nat} {x : Str} {dv : List PV.D}
theorem GoodF.fnA (g : GoodF X.prog X.w X.K X.mg X.base T sub n d ps) (hr : Room (4 * n + 4) X.A) (hm : X.mg d.name = some (.ref (ga X.K d.name))) (m : Nat) (ks : List Str) (pm : List Nat) (hat : d.at_ = (d.name, none)) (hdf : d.dfl = []) (hkw : d.kwd = [])
    (h : ∀ (kV doc pm' : Value) (an : Option Addr) (cdv ct : Value) (us ws : List Value), us.length = m → ws.length = ks.length → bindArgs (PySem.W.fnOf d.name d.qual d.params d.body d.scope .none kV doc pm' an cdv ct) ⟨us, ks.zip ws⟩ = pure (ps.zip (PV.pick (us ++ ws) pm))) :
    Fn ⟨callF T sub n, sub⟩ X d.name m ks [] pm := by
  obtain ⟨fd, F, G⟩ := g
  have e1 : d.dvs X.K = [] := by unfold DefD.dvs; rw [hdf]; rfl
  have e2 : d.kws X.K = [] := by unfold DefD.kws; rw [hkw]; rfl
  have e3 : fAd X.K d.at_ = ga X.K d.name := by rw [hat]; rfl
  rw [e1, e2] at F
  obtain ⟨ds, hv, hb⟩ := bindsA F m ks pm h
  have kp := F.kp
  rw [e3] at G kp
  exact ⟨⟨4 * n + 4, _, fd, ps, [], ds, G, hr, hm, kp, hv, fun G => rfl, hb⟩, fun ss => callF_ok T sub n d.name ss⟩
theorem GoodF.fnB (g : GoodF X.prog X.w X.K X.mg X.base T sub n d ps) (hr : Room (4 * n + 4) X.A) (hm : X.mg d.name = some (.ref (ga X.K d.name))) (m j : Nat) (ks : List Str) (dv : List PV.D) (pm : List Nat) (hat : d.at_ = (d.name, none)) (hdf : d.dfl ≠ []) (hkw : d.kwd = [])
    (hrep : ∀ G, Reps X.K G dv ((d.dvs X.K).drop j))
    (h : ∀ (T : Addr) (kV doc pm' : Value) (an : Option Addr) (cdv ct : Value) (us ws its : List Value), us.length = m → ws.length = ks.length → its.length = d.dfl.length →
      ∃ k, bindArgs (PySem.W.fnOf d.name d.qual d.params d.body d.scope (.ref T) kV doc pm' an cdv ct) ⟨us, ks.zip ws⟩ = seqItems? (.ref T) >>= k ∧ k (some its.toArray) = pure (ps.zip (PV.pick (us ++ ws ++ its.drop j) pm))) :
    Fn ⟨callF T sub n, sub⟩ X d.name m ks dv pm := by
  obtain ⟨fd, F, G⟩ := g
  have e1 : d.dvs X.K ≠ [] := by
    unfold DefD.dvs
    intro z
    exact hdf (List.map_eq_nil_iff.mp z)
  have e2 : d.kws X.K = [] := by unfold DefD.kws; rw [hkw]; rfl
  have e3 : fAd X.K d.at_ = ga X.K d.name := by rw [hat]; rfl
  have e4 : (d.dvs X.K).length = d.dfl.length := by unfold DefD.dvs; exact List.length_map ..
  rw [e2] at F
  obtain ⟨ds, hv, hb⟩ := bindsB F e1 m j ks pm (fun T kV doc pm' an cdv ct us ws its l1 l2 l3 => h T kV doc pm' an cdv ct us ws its l1 l2 (l3.trans e4))
  have kp := F.kp
  rw [e3] at G kp
  exact ⟨⟨4 * n + 4, _, fd, ps, _, ds, G, hr, hm, kp, hv, hrep, hb⟩, fun ss => callF_ok T sub n d.name ss⟩
theorem GoodG.fn {a b : Nat} {c : CG} (g : GoodG X.prog X.w X.K X.mg X.base T sub n d ps) (hr : Room (4 * n + 7) X.A) (hm : X.mg d.name = some (.ref (ga X.K d.name))) (m : Nat) (hat : d.at_ = (d.name, none)) (hdf : d.dfl = []) (hkw : d.kwd = []) (hps : ps.length = m) (hT : T d.name = some (.gen a b c))
    (h : ∀ (kV doc pm' : Value) (an : Option Addr) (cdv ct : Value) (us : List Value), us.length = ps.length → bindArgs (PySem.W.fnOf d.name d.qual d.params d.body d.scope .none kV doc pm' an cdv ct) ⟨us, []⟩ = pure (ps.zip us)) :
    FnG ⟨callF T sub n, sub⟩ X d.name m [] := by
  obtain ⟨fd, F, G⟩ := g
  have e1 : d.dvs X.K = [] := by unfold DefD.dvs; rw [hdf]; rfl
  have e2 : d.kws X.K = [] := by unfold DefD.kws; rw [hkw]; rfl
  have e3 : fAd X.K d.at_ = ga X.K d.name := by rw [hat]; rfl
  rw [e1, e2] at F
  have hb := FunD.bindsN F h
  have kp := F.kp
  rw [e3] at G kp
  refine ⟨⟨4 * n + 4, _, fd, ps, [], [], G, hr, hm, kp, .nil, fun G => rfl, hb⟩, fun ss => callF_ok T sub n d.name ss, fun ss r os z => ?_⟩
  cases n with
  | zero => cases z
  | succ n =>
    unfold callF at z
    rw [hT] at z
    dsimp only at z
    split at z
    · split at z
      · cases z; exact ⟨_, rfl⟩
      · cases z; exact ⟨_, rfl⟩
      · split at z <;> cases z
      · cases z
    · cases z
end
end PV
end

section
set_option Elab.async false
set_option linter.all false
set_option maxRecDepth 100000
set_option maxHeartbeats 4000000
/-! PV35: clauses, classes asked, by the head's table -/
namespace PV
open PySem PySem.Spec PyProof.Rows L2 He
section
variable {D : HeadD} {K : PySem.W.Frag} {mg : Str → Option Value}
theorem hx_of (F : Fcts D K mg) {l : List (Str × Value × Nat × CS)} (hl : ∀ p ∈ l, p.2.1 = cvK K D.tab.bl p.1) : ∀ p ∈ l, ∀ n b cl, D.tab.sub n p.1 = some b → mg n = some cl → PySem.W.exmOne K cl p.2.1 = some b := fun p hp n b cl h hm => by
  rw [hl p hp]
  exact (F.exm h hm).1
theorem exs_of (F : Fcts D K mg) {cs : List (Str × Value)} {n : Str} {cl : Value} (hm : mg n = some cl) (hl : ∀ p ∈ cs, p.2 = cvK K D.tab.bl p.1) : ∀ q ∈ cs, ∀ b, D.tab.sub n q.1 = some b → PySem.W.kitOne K cl q.2 = some b := fun q hq b h => by
  rw [hl q hq]
  exact (F.exm h hm).2
end
end PV
end

section
set_option Elab.async false
set_option linter.all false
set_option maxRecDepth 100000
set_option maxHeartbeats 4000000
/-! PV36: the end: from the interpreter's word on the law -/
namespace PV
open PySem PySem.Spec PyProof.Rows L2 He
theorem ints_reps {K : PySem.W.Frag} {G : Hp} : ∀ ns : List Int, Reps K G (ns.map D.int) (ns.map V.int)
  | [] => rfl
  | n :: ns => ⟨.int n, ns.map V.int, rfl, rfl, ints_reps ns⟩
/-- what the law's def is to give -/
def LawIs (T : Str → Option FDef) (sub : Str → Str → Option Bool) (N : Nat) : Prop := ∀ ns : List Int, ns.length ≤ 63 → ∃ outs, callF T sub N "law" [.fro (.lst (ns.map .int)) none] = .ret (.val (.bl true)) outs
theorem law_sp {T : Str → Option FDef} {sub : Str → Str → Option Bool} {N : Nat} (h : LawIs T sub N) {g : Addr → Option Obj} {as : List Addr} {mg : Str → Option Value} {H : Hp} {a : Addr} {ns : List Int} (hl : ns.length ≤ 63) (hS : SqL (frP g as) H a (ns.map V.int)) :
    spF (frP g as) mg (callF T sub N "law") [.ref a] H (fun v _ => v = .bl true) fun _ _ _ => False := by
  obtain ⟨outs, e⟩ := h ns hl
  refine ⟨[.fro (.lst (ns.map .int)) none], fun _ => none, H, ⟨fun _ _ z => z, (fun _ _ z => by cases z), (fun _ _ z => by cases z), [], ?_, List.nodup_nil, fun a z => by cases z⟩, fun s hs => ?_, ?_⟩
  · exact ⟨[], [], rfl, ⟨rfl, pin0, .ref a, rfl, a, ns.map V.int, rfl, frP_sql hS, ints_reps ns⟩, rfl⟩
  · rw [List.mem_singleton.mp hs]
    exact rfl
  · have o := callF_ok T sub N "law" [.fro (.lst (ns.map .int)) none]
    rw [e] at o ⊢
    exact ⟨o.1, fun v H' G' _ _ hv => hv⟩
theorem walk_ofW {l : PySem.W.OpenLaw} {n k : Nat} {q : Program} {loose : List Str} {XP : (Str → Option Value) → Heap → Prop} {YP : World → Heap → Prop} {d : DefRec} {x : Str} (hn : l.most = some n) (hn2 : n ≤ sizeLine) (hdf : d.params.defaults = []) (hr : Room k callerA)
    (F : ∀ (w : World) (mg : Str → Option Value) (fa : Addr) (h : Heap), YP w h → h.Ns mainGlobals mg → mg d.name = some (.ref fa) → ∃ (K : PySem.W.Frag) (fd : FuncData) (sp : Sp), K.In h ∧ (∀ (s : Shared) (u : Value), BindsTo s fd ⟨[u], []⟩ [(x, u)]) ∧
      (∀ (H : Hp) (a : Addr) (ns : List Int), ns.length ≤ n → SqL K H a (ns.map V.int) → sp [.ref a] H (fun v _ => v = .bl true) fun _ _ _ => False) ∧ ∀ base : Heap, K.In base → base.Ns mainGlobals mg → FnOk l.prog w K mg base (L2.CX l.prog w) k fa fd [x] sp) :
    PySem.W.WalkO q loose XP YP l.row.toRowW d [] (fun f vs => PySem.call f vs) := by
  refine Att.attach_call hn hdf fun w s₀ s₁ mg mb fa o pm cd doc a vs ns G Y ho hd hcd hmg hobj hints hlen hg => ?_
  obtain ⟨K, fd, sp, KX, hb, hsp, hF⟩ := F w mg fa _ Y G.T.g hmg
  exact law_call KX G.T.g G.T.b G.T.builtins G.T.nolimit hg hobj hints (Nat.le_trans hlen hn2) hr hF hb (fun H _ hS => hsp H a ns hlen hS) fun H e s' c => by
    obtain ⟨_, _, _, _, _, _, _, _, _, _, _, _, hW⟩ := c
    exact hW
/-- the law's def in the head -/
theorem law_fn {l : PySem.W.OpenLaw} {T : Str → Option FDef} {sub : Str → Str → Option Bool} {N m : Nat} {D : HeadD} {d : DefD} {q : Program} {loose : List Str} {XP : (Str → Option Value) → Heap → Prop} {dr : DefRec} (hl : LawIs T sub N) (hn : l.most = some 63) (hdf : dr.params.defaults = []) (hr : Room (4 * N + 4) callerA)
    (hdr : dr.name = ("law" : Str)) (hd : d.name = "law") (hdm : d ∈ D.fn) (hglo : Fa.glo "law" ∈ D.fa) (hat : d.at_ = (d.name, none)) (hdfl : d.dfl = []) (hkw : d.kwd = [])
    (hb : ∀ (kV doc pm' : Value) (an : Option Addr) (cdv ct : Value) (us : List Value), us.length = 1 → bindArgs (PySem.W.fnOf d.name d.qual d.params d.body d.scope .none kV doc pm' an cdv ct) ⟨us, []⟩ = pure ([("script" : Str)].zip us))
    (good : ∀ (w : World) (K : PySem.W.Frag) (mg : Str → Option Value) (base : Heap), Fcts D K mg → GoodF l.prog w K mg base T sub N d ["script"]) :
    PySem.W.WalkO q loose XP (hookP m D).says l.row.toRowW dr [] (fun f vs => PySem.call f vs) := by
  refine walk_ofW (k := 4 * N + 4) (x := "script") hn (by rw [sizeLine_eq]; decide) hdf hr fun w mg fa h Y G hmg => ?_
  obtain ⟨g, as, KX, c⟩ := Y
  have F := fcts_of KX G c
  have e := F.glo hglo
  rw [hdr] at hmg
  rw [hmg] at e
  cases e
  obtain ⟨fd, FD⟩ := c.def_ hdm
  have FD' := FD
  have e1 : d.dvs (frP g as) = [] := by unfold DefD.dvs; rw [hdfl]; rfl
  have e2 : d.kws (frP g as) = [] := by unfold DefD.kws; rw [hkw]; rfl
  have e3 : fAd (frP g as) d.at_ = ga (frP g as) "law" := by rw [hat, hd]; rfl
  rw [e1, e2, e3] at FD'
  refine ⟨frP g as, fd, spF (frP g as) mg (callF T sub N "law"), KX, fun s u => FunD.bindsA (ps := [("script" : Str)]) FD' (fun kV doc pm' an cdv ct us h => hb kV doc pm' an cdv ct us h) s [u] rfl, fun H a ns hlen hS => law_sp hl hlen hS, fun base _ _ => ?_⟩
  obtain ⟨fd2, F2, G2⟩ := good w _ mg base F
  rw [e3] at F2 G2
  rw [hd] at G2
  have lk : fd2 = fd := by
    obtain ⟨oc, od, dV, kV, doc, pm', an, cdv, ct, osl, _, lk1, _⟩ := F2.ex
    obtain ⟨oc', od', dV', kV', doc', pm'', an', cdv', ct', osl', _, lk2, _⟩ := FD'.ex
    rw [lk1] at lk2
    cases lk2
    rfl
  rw [← lk]
  exact G2
end PV
end

section
set_option linter.all false
set_option maxRecDepth 100000
set_option maxHeartbeats 4000000
/-! PS1: the interpreter, reckoned by simp -/
namespace PS
open PV
open PySem (Str)
variable {C : Ctx} {T : Str → Option FDef} {sub : Str → Str → Option Bool}
/-! ### only the head is reckoned: the word behind a function keeps simp out of it -/
inductive Wit {α : Type} (f : α) : Type where
  | mk
def _root_.PV.Out.bnd {α β : Type} (o : Out α) (f : α → Env → Out β) (w : Wit f := .mk) : Out β := o.bind f
def _root_.PV.Out.sob {α : Type} (o : Out α) (f : α → Env → SO) (w : Wit f := .mk) : SO := o.so f
def _root_.PV.Out.gob {α : Type} (o : Out α) (f : α → Env → GO) (w : Wit f := .mk) : GO := o.go f
def liftW {α β : Type} (o : Option α) (f : α → Out β) (w : Wit f := .mk) : Out β := lift o f
def liftSW {α : Type} (o : Option α) (f : α → SO) (w : Wit f := .mk) : SO := liftS o f
def liftGW {α : Type} (o : Option α) (f : α → GO) (w : Wit f := .mk) : GO := liftG o f
def _root_.PV.SO.thn (o : SO) (f : Env → SO) (w : Wit f := .mk) : SO := o.then f
def _root_.PV.GO.thn (o : GO) (f : List D → Env → GO) (w : Wit f := .mk) : GO := o.then f
/-- the turns of loops, closed until they are taken -/
def turnS (C : Ctx) (tg : Tg) (body : CS) (d : D) (e : Env) : SO := liftSW (tgF tg d e) fun e3 => PV.run C body e3
def turnG (C : Ctx) (tg : Tg) (body : CG) (d : D) (ys : List D) (e : Env) : GO := liftGW (tgF tg d e) fun e3 => runG C body ys e3
def turnL (C : Ctx) (n : Nat) (tg : Tg) (ts : List CT) (elt : CE) (d : D) (e : Env) : Out (Option D) := match tgF tg d e with
  | none => .bad
  | some e3 => (evts C ts e3).bnd fun r e4 => if r = true then (opd (ev C elt e4)).bnd fun a e5 => liftW (keep e5 a) fun p => .ok (some p.1) (p.2.take n) else .ok none (e4.take n)
theorem turnS_eq {tg : Tg} {body : CS} {d : D} {e : Env} : turnS C tg body d e = liftSW (tgF tg d e) fun e3 => PV.run C body e3 := (rfl)
theorem turnG_eq {tg : Tg} {body : CG} {d : D} {ys : List D} {e : Env} : turnG C tg body d ys e = liftGW (tgF tg d e) fun e3 => runG C body ys e3 := (rfl)
theorem turnL_eq {n : Nat} {tg : Tg} {ts : List CT} {elt : CE} {d : D} {e : Env} : turnL C n tg ts elt d e = match tgF tg d e with
  | none => .bad
  | some e3 => (evts C ts e3).bnd fun r e4 => if r = true then (opd (ev C elt e4)).bnd fun a e5 => liftW (keep e5 a) fun p => .ok (some p.1) (p.2.take n) else .ok none (e4.take n) := (rfl)
/-! ### plain parts -/
@[simp] theorem slotAt_zero {s : Slot} {e : Env} : PV.slotAt (s :: e) 0 = s := (rfl)
@[simp] theorem slotAt_succ {s : Slot} {e : Env} {i : Nat} : PV.slotAt (s :: e) (i + 1) = PV.slotAt e i := (rfl)
@[simp] theorem obind_ok {α β : Type} {a : α} {e : Env} {f : α → Env → Out β} {w : Wit f} : (Out.ok a e).bnd f w = f a e := (rfl)
@[simp] theorem obind_err {α β : Type} {x : Exn} {e : Env} {f : α → Env → Out β} {w : Wit f} : (Out.err x e : Out α).bnd f w = .err x e := (rfl)
@[simp] theorem oso_ok {α : Type} {a : α} {e : Env} {f : α → Env → SO} {w : Wit f} : (Out.ok a e).sob f w = f a e := (rfl)
@[simp] theorem oso_err {α : Type} {x : Exn} {e : Env} {f : α → Env → SO} {w : Wit f} : (Out.err x e : Out α).sob f w = .err x e := (rfl)
@[simp] theorem ogo_ok {α : Type} {a : α} {e : Env} {f : α → Env → GO} {w : Wit f} : (Out.ok a e).gob f w = f a e := (rfl)
@[simp] theorem ogo_err {α : Type} {x : Exn} {e : Env} {f : α → Env → GO} {w : Wit f} : (Out.err x e : Out α).gob f w = .err x e := (rfl)
@[simp] theorem lift_some {α β : Type} {a : α} {f : α → Out β} {w : Wit f} : liftW (some a) f w = f a := (rfl)
@[simp] theorem liftS_some {α : Type} {a : α} {f : α → SO} {w : Wit f} : liftSW (some a) f w = f a := (rfl)
@[simp] theorem liftG_some {α : Type} {a : α} {f : α → GO} {w : Wit f} : liftGW (some a) f w = f a := (rfl)
@[simp] theorem then_nx {e : Env} {f : Env → SO} {w : Wit f} : (SO.nx e).thn f w = f e := (rfl)
@[simp] theorem then_rt {r : RV} {e : Env} {f : Env → SO} {w : Wit f} : (SO.rt r e).thn f w = .rt r e := (rfl)
@[simp] theorem then_bk {e : Env} {f : Env → SO} {w : Wit f} : (SO.bk e).thn f w = .bk e := (rfl)
@[simp] theorem then_ct {e : Env} {f : Env → SO} {w : Wit f} : (SO.ct e).thn f w = .ct e := (rfl)
@[simp] theorem then_err {x : Exn} {e : Env} {f : Env → SO} {w : Wit f} : (SO.err x e).thn f w = .err x e := (rfl)
@[simp] theorem gthen_nx {ys : List D} {e : Env} {f : List D → Env → GO} {w : Wit f} : (GO.nx ys e).thn f w = f ys e := (rfl)
@[simp] theorem gthen_err {x : Exn} {e : Env} {f : List D → Env → GO} {w : Wit f} : (GO.err x e).thn f w = .err x e := (rfl)
@[simp] theorem asAt_at {a : At} {e : Env} : asAt (.at_ a) e = (a, e) := (rfl)
@[simp] theorem asAt_frs {o : OD} {e : Env} : asAt (.frs o) e = (.pl e.length, e ++ [.own o none]) := (rfl)
@[simp] theorem opd_ok {r : Res} {e : Env} : opd (.ok r e) = .ok (asAt r e).1 (asAt r e).2 := (rfl)
@[simp] theorem opd_err {x : Exn} {e : Env} : opd (.err x e) = .err x e := (rfl)
@[simp] theorem look_val {e : Env} {d : D} : look e (.val d) = some d := (rfl)
@[simp] theorem keep_val {e : Env} {d : D} : keep e (.val d) = some (d, e) := (rfl)
@[simp] theorem take_val {n : Nat} {e : Env} {d : D} : PV.take n e (.val d) = some (.fro d, e) := (rfl)
@[simp] theorem flat_val {e : Env} {d : D} : flat e (.val d) = some (d, e) := (rfl)
@[simp] theorem look_pl {e : Env} {i : Nat} : look e (.pl i) = (match PV.slotAt e i with
    | .own o _ => some o.toD
    | .fro d _ => some d
    | _ => none) := (rfl)
@[simp] theorem keep_pl' {e : Env} {i : Nat} : keep e (.pl i) = (match PV.slotAt e i with
    | .own o pin => some (o.toD, e.set i (.fro o.toD pin))
    | .fro d _ => some (d, e)
    | _ => none) := (rfl)
@[simp] theorem take_pl {n : Nat} {e : Env} {i : Nat} : PV.take n e (.pl i) = (match PV.slotAt e i with
    | .own o pin => if n ≤ i then some (o, e.set i .non) else some (.fro o.toD, e.set i (.fro o.toD pin))
    | .fro d _ => some (.fro d, e)
    | _ => none) := (rfl)
@[simp] theorem flat_pl {e : Env} {i : Nat} : flat e (.pl i) = (match PV.slotAt e i with
    | .own (.lst xs) pin => (match flats xs with
      | some ds => some (.lst ds, e)
      | none => keep e (.pl i))
    | .own (.dic ks xs) pin => (match flats xs with
      | some ds => some (.dic ks ds, e)
      | none => keep e (.pl i))
    | _ => keep e (.pl i)) := (rfl)
@[simp] theorem flats_fro (ds : List D) : flats (ds.map .fro) = some ds := by
  induction ds with
  | nil => rfl
  | cons d ds ih => simp [flats, ih]
@[simp] theorem flats_comp {α : Type} (f : α → D) (xs : List α) : flats (xs.map (OD.fro ∘ f)) = some (xs.map f) := by
  rw [← List.map_map, flats_fro]
@[simp] theorem flats_nil : flats [] = some [] := (rfl)
@[simp] theorem flats_cons_fro {d : D} {xs : List OD} : flats (.fro d :: xs) = (flats xs).map (d :: ·) := (rfl)
@[simp] theorem toD_fro {d : D} : (OD.fro d).toD = d := by simp [OD.toD]
@[simp] theorem toD_lst {xs : List OD} : (OD.lst xs).toD = .lst (OD.toDs xs) := by simp [OD.toD]
@[simp] theorem toD_dic {ks : List L2.Key} {xs : List OD} : (OD.dic ks xs).toD = .dic ks (OD.toDs xs) := by simp [OD.toD]
@[simp] theorem toDs_nil : OD.toDs [] = [] := by simp [OD.toDs]
@[simp] theorem toDs_cons {x : OD} {xs : List OD} : OD.toDs (x :: xs) = x.toD :: OD.toDs xs := by simp [OD.toDs]
@[simp] theorem toDs_map (ds : List D) : OD.toDs (ds.map .fro) = ds := by
  induction ds with
  | nil => simp
  | cons d ds ih => simp [ih]
@[simp] theorem toDs_comp {α : Type} (f : α → D) (xs : List α) : OD.toDs (xs.map (OD.fro ∘ f)) = xs.map f := by
  rw [← List.map_map, toDs_map]
@[simp] theorem toDs_append (xs ys : List OD) : OD.toDs (xs ++ ys) = OD.toDs xs ++ OD.toDs ys := by
  induction xs with
  | nil => simp
  | cons d ds ih => simp [ih]
@[simp] theorem toDs_rev (xs : List OD) : OD.toDs xs.reverse = (OD.toDs xs).reverse := by
  induction xs with
  | nil => simp
  | cons d ds ih => simp [ih]
@[simp] theorem flats_rev {α : Type} (f : α → D) (xs : List α) : flats (xs.map (OD.fro ∘ f)).reverse = some (xs.map f).reverse := by
  rw [← List.map_reverse, flats_comp, List.map_reverse]
@[simp] theorem flatLs_nil {e : Env} : flatLs e [] = some ([], e) := (rfl)
@[simp] theorem flatLs_cons {e : Env} {a : At} {as : List At} : flatLs e (a :: as) = (match flat e a with
    | some (d, e1) => (match flatLs e1 as with
      | some (ds, e2) => some (d :: ds, e2)
      | none => none)
    | none => none) := (rfl)
@[simp] theorem keeps_nil {e : Env} : keeps e [] = some ([], e) := (rfl)
@[simp] theorem keeps_cons {e : Env} {a : At} {as : List At} : keeps e (a :: as) = (match keep e a with
    | some (o, e1) => (match keeps e1 as with
      | some (os, e2) => some (o :: os, e2)
      | none => none)
    | none => none) := (rfl)
@[simp] theorem takes_nil {n : Nat} {e : Env} : takes n e [] = some ([], e) := (rfl)
@[simp] theorem takes_cons {n : Nat} {e : Env} {a : At} {as : List At} : takes n e (a :: as) = (match PV.take n e a with
    | some (o, e1) => (match takes n e1 as with
      | some (os, e2) => some (o :: os, e2)
      | none => none)
    | none => none) := (rfl)
@[simp] theorem looks_nil {e : Env} : looks e [] = some [] := (rfl)
@[simp] theorem looks_cons {e : Env} {a : At} {as : List At} : looks e (a :: as) = (match look e a, looks e as with
    | some d, some ds => some (d :: ds)
    | _, _ => none) := (rfl)
@[simp] theorem pick_nil {α : Type} {xs : List α} : pick xs [] = [] := (rfl)
@[simp] theorem pick_cons {α : Type} {xs : List α} {j : Nat} {js : List Nat} : pick xs (j :: js) = (match xs[j]? with
    | some x => x :: pick xs js
    | none => pick xs js) := (rfl)
@[simp] theorem argOut_nil {e : Env} : argOut e [] = some ([], e) := (rfl)
@[simp] theorem argOut_val {e : Env} {d : D} {as : List At} : argOut e (.val d :: as) = (match argOut e as with
    | some (ss, e1) => some (.fro d none :: ss, e1)
    | none => none) := (rfl)
@[simp] theorem argOut_pl {e : Env} {i : Nat} {as : List At} : argOut e (.pl i :: as) = (match PV.slotAt e i with
    | .own o _ => (match argOut (e.set i .non) as with
      | some (ss, e1) => some (.own o none :: ss, e1)
      | none => none)
    | .fro d _ => (match argOut e as with
      | some (ss, e1) => some (.fro d none :: ss, e1)
      | none => none)
    | _ => none) := by (rw [argOut]; try rfl)
@[simp] theorem argBack_nil {e c : Env} {ss : List Slot} : argBack e [] ss c = some c := by unfold argBack; rfl
@[simp] theorem argBack_val {e c : Env} {d : D} {s : Slot} {as : List At} {ss : List Slot} : argBack e (.val d :: as) (s :: ss) c = argBack e as ss c := by (rw [argBack]; try rfl)
@[simp] theorem argBack_pl {e c : Env} {i : Nat} {s : Slot} {as : List At} {ss : List Slot} : argBack e (.pl i :: as) (s :: ss) c = (match PV.slotAt e i with
    | .own _ pin => (match s with
      | .own o _ => argBack e as ss (c.set i (.own o pin))
      | .fro d _ => argBack e as ss (c.set i (.fro d pin))
      | _ => none)
    | _ => argBack e as ss c) := by (rw [argBack]; try rfl)
/-! ### expressions -/
def bin2 (op : Bop) : List D → Option Res
  | [x, y] => bop op x y
  | _ => none
@[simp] theorem bin2_two {op : Bop} {x y : D} : bin2 op [x, y] = bop op x y := (rfl)
theorem bin2_eq (op : Bop) (ds : List D) (f : Res → Out Res) : (match ds with
    | [x, y] => liftW (bop op x y) f
    | _ => .bad) = liftW (bin2 op ds) f := by
  rcases ds with _ | ⟨a, _ | ⟨b, _ | ⟨c, r⟩⟩⟩ <;> rfl
def mt1 (m : Mt) : List D → Option Res
  | x :: ds => mtF m x ds
  | _ => none
@[simp] theorem mt1_cons {m : Mt} {x : D} {ds : List D} : mt1 m (x :: ds) = mtF m x ds := (rfl)
theorem mt1_eq (m : Mt) (ds : List D) (f : Res → Out Res) : (match ds with
    | x :: ds => liftW (mtF m x ds) f
    | _ => .bad) = liftW (mt1 m ds) f := by
  rcases ds with _ | ⟨a, r⟩ <;> rfl
def dicI : D → Option Res
  | .dic ks vs => some (.frs (.lst ((itemsD ks vs).map .fro)))
  | _ => none
@[simp] theorem dicI_dic {ks : List L2.Key} {vs : List D} : dicI (.dic ks vs) = some (.frs (.lst ((itemsD ks vs).map .fro))) := (rfl)
@[simp] theorem ev_var {i : Nat} {e : Env} : ev C (.var i) e = (match PV.slotAt e i with
    | .fro d _ => .ok (.at_ (.val d)) e
    | .own _ _ => .ok (.at_ (.pl i)) e
    | _ => .bad) := by (rw [ev]; try rfl)
@[simp] theorem ev_cst {d : D} {e : Env} : ev C (.cst d) e = .ok (.at_ (.val d)) e := by (rw [ev]; try rfl)
@[simp] theorem ev_bin {op : Bop} {a b : CE} {e : Env} : ev C (.bin op a b) e = (opd (ev C a e)).bnd fun x e1 => (opd (ev C b e1)).bnd fun y e2 => liftW (flatLs e2 [x, y]) fun p => liftW (bin2 op p.1) fun r => .ok r (p.2.take e.length) := by
  rw [ev]
  congr 1; funext x e1; congr 1; funext y e2; congr 1; funext p; exact bin2_eq op p.1 fun r => .ok r (p.2.take e.length)
@[simp] theorem ev_neg {a : CE} {e : Env} : ev C (.neg a) e = (opd (ev C a e)).bnd fun x e1 => match look e1 x with
    | some (.int i) => .ok (.at_ (.val (.int (-i)))) (e1.take e.length)
    | _ => .bad := by (rw [ev]; try rfl)
@[simp] theorem ev_cmp {op : Cop} {a b : CE} {e : Env} : ev C (.cmp op a b) e = (opd (ev C a e)).bnd fun x e1 => (opd (ev C b e1)).bnd fun y e2 => match look e2 x, look e2 y with
    | some x, some y => liftW (cop op x y) fun r => .ok (.at_ (.val (.bl r))) (e2.take e.length)
    | _, _ => .bad := by (rw [ev]; try rfl)
@[simp] theorem ev_chn {o1 o2 : Cop} {a b c : CE} {e : Env} : ev C (.chn o1 o2 a b c) e = (opd (ev C a e)).bnd fun x e1 => (opd (ev C b e1)).bnd fun y e2 => match look e2 x, look e2 y with
    | some dx, some dy => liftW (cop o1 dx dy) fun r => if r = true then (opd (ev C c e2)).bnd fun z e3 => match look e3 y, look e3 z with
        | some dy, some dz => liftW (cop o2 dy dz) fun r2 => .ok (.at_ (.val (.bl r2))) (e3.take e.length)
        | _, _ => .bad
      else .ok (.at_ (.val (.bl false))) (e2.take e.length)
    | _, _ => .bad := by (rw [ev]; try rfl)
@[simp] theorem ev_and {a b : CE} {e : Env} : ev C (.and_ a b) e = (ev C a e).bnd fun x e1 => match x with
    | .at_ (.val (.bl r)) => if r = true then ev C b e1 else .ok (.at_ (.val (.bl false))) e1
    | _ => .bad := by (rw [ev]; try rfl)
@[simp] theorem ev_or {a b : CE} {e : Env} : ev C (.or_ a b) e = (ev C a e).bnd fun x e1 => match x with
    | .at_ (.val (.bl r)) => if r = true then .ok (.at_ (.val (.bl true))) e1 else ev C b e1
    | _ => .bad := by (rw [ev]; try rfl)
@[simp] theorem ev_not {a : CT} {e : Env} : ev C (.not_ a) e = (evt C a e).bnd fun r e1 => .ok (.at_ (.val (.bl (!r)))) e1 := by (rw [ev]; try rfl)
@[simp] theorem ev_ite {t : CT} {a b : CE} {e : Env} : ev C (.ite t a b) e = (evt C t e).bnd fun r e1 => if r = true then ev C a e1 else ev C b e1 := by (rw [ev]; try rfl)
@[simp] theorem ev_tup {es : List CE} {e : Env} : ev C (.tup es) e = (evs C es e).bnd fun as e1 => liftW (keeps e1 as) fun p => if p.1.length ≤ LIM then .ok (.at_ (.val (.tup p.1))) (p.2.take e.length) else .bad := by (rw [ev]; try rfl)
@[simp] theorem ev_lst {es : List CE} {e : Env} : ev C (.lst es) e = (evs C es e).bnd fun as e1 => liftW (takes e.length e1 as) fun p => if p.1.length ≤ LIM then .ok (.frs (.lst p.1)) (p.2.take e.length) else .bad := by (rw [ev]; try rfl)
@[simp] theorem ev_dic0 {e : Env} : ev C .dic0 e = .ok (.frs (.dic [] [])) e := by (rw [ev]; try rfl)
@[simp] theorem ev_ix {a b : CE} {e : Env} : ev C (.ix a b) e = (opd (ev C a e)).bnd fun x e1 => (opd (ev C b e1)).bnd fun y e2 => liftW (look e2 y) fun dy => liftW (flat e2 x) fun p =>
      liftW (ixD p.1 dy) fun r => .ok (.at_ (.val r)) (p.2.take e.length) := by (rw [ev]; try rfl)
@[simp] theorem ev_dix {a b : CE} {e : Env} : ev C (.dix a b) e = (opd (ev C a e)).bnd fun x e1 => (opd (ev C b e1)).bnd fun y e2 => liftW (look e2 y) fun dy => liftW (flat e2 x) fun p =>
      liftW (dixD p.1 dy) fun r => .ok (.at_ (.val r)) (p.2.take e.length) := by (rw [ev]; try rfl)
@[simp] theorem ev_sl {a : CE} {lo hi : Option CE} {e : Env} : ev C (.sl a lo hi) e = (opd (ev C a e)).bnd fun x e1 => (evo C lo e1).bnd fun l e2 => (evo C hi e2).bnd fun h e3 => liftW (flat e3 x) fun p => liftW (slD p.1 l h) fun r => .ok r (p.2.take e.length) := by (rw [ev]; try rfl)
@[simp] theorem ev_rev {a : CE} {e : Env} : ev C (.rev a) e = (opd (ev C a e)).bnd fun x e1 => liftW (flat e1 x) fun p => liftW (revD p.1) fun r => .ok r (p.2.take e.length) := by (rw [ev]; try rfl)
@[simp] theorem ev_items {a : CE} {e : Env} : ev C (.items a) e = (opd (ev C a e)).bnd fun x e1 => liftW (flat e1 x) fun p => liftW (dicI p.1) fun r => .ok r (p.2.take e.length) := by
  rw [ev]
  congr 1; funext x e1; congr 1; funext p
  obtain ⟨d, e2⟩ := p
  cases d <;> rfl
@[simp] theorem ev_bi {f : Bi} {es : List CE} {e : Env} : ev C (.bi f es) e = (evs C es e).bnd fun as e1 => liftW (flatLs e1 as) fun p => liftW (biF f p.1) fun r => .ok r (p.2.take e.length) := by (rw [ev]; try rfl)
@[simp] theorem ev_mt {m : Mt} {o : CE} {es : List CE} {e : Env} : ev C (.mt m o es) e = (opd (ev C o e)).bnd fun x e0 => liftW (look e0 x) fun d0 => if mtT m d0 = true then (evs C es e0).bnd fun as e1 => liftW (flatLs e1 (x :: as)) fun p => liftW (mt1 m p.1) fun r => .ok r (p.2.take e.length)
    else .bad := by
  rw [ev]
  congr 1; funext x e0; congr 1; funext d0; congr 1; congr 1; funext as e1; congr 1; funext p; exact mt1_eq m p.1 fun r => .ok r (p.2.take e.length)
@[simp] theorem ev_mu {m : Mu} {o : CE} {es : List CE} {e : Env} : ev C (.mu m o es) e = (ev C o e).bnd fun r0 e0 => match r0 with
    | .at_ (.pl i) => liftW (treeAt e0 i) fun t0 => if muT m t0 = true then (evs C es e0).bnd fun as e1 => liftW (takes e.length e1 as) fun p => liftW (treeAt p.2 i) fun t => liftW (muF m t p.1) fun q => .ok q.1 ((putAt p.2 i q.2).take e.length) else .bad
    | _ => .bad := by (rw [ev]; try rfl)
@[simp] theorem ev_call {f : Str} {es : List CE} {dv : List D} {pm : List Nat} {e : Env} : ev C (.call f es dv pm) e = (evs C es e).bnd fun as e1 => liftW (argOut e1 (pick (as ++ dv.map .val) pm)) fun p => match C.call f p.1 with
      | .ret r outs => liftW (argBack e1 (pick (as ++ dv.map .val) pm) outs p.2) fun e3 => .ok r.res (e3.take e.length)
      | .err x outs => liftW (argBack e1 (pick (as ++ dv.map .val) pm) outs p.2) fun e3 => .err x (e3.take e.length)
      | .bad => .bad := by (rw [ev]; try rfl)
@[simp] theorem ev_callR {f : Str} {es : List CE} {dv : List D} {pm : List Nat} {e : Env} : ev C (.callR f es dv pm) e = (evs C es e).bnd fun as e1 => liftW (looks e1 (pick (as ++ dv.map .val) pm)) fun ds => match C.call f (ds.map fun d => .fro d none) with
      | .ret (.val d) _ => if simple d = true then .ok (.at_ (.val d)) (e1.take e.length) else .bad
      | _ => .bad := by (rw [ev]; try rfl)
@[simp] theorem ev_lc {tg : Tg} {own : List Nat} {k : Ik} {src : List CE} {ts : List CT} {elt : CE} {e : Env} : ev C (.lc tg own k src ts elt) e = (evi k (evs C src e)).bnd fun items e2 =>
      if freeS (e2.take e.length) own = true ∧ (tg.all.all fun i => own.contains i) = true then
        (lcGo own (turnL C e.length tg ts elt) items [] (e2.take e.length)).bnd fun ys e' => .ok (.frs (.lst (ys.map .fro))) (backS (e2.take e.length) e' own)
      else .bad := by rw [ev]; rfl
@[simp] theorem ev_exat {i : Nat} {f : Str} {e : Env} : ev C (.exat i f) e = (match PV.slotAt e i with
    | .exc c ns vs => if C.sub c c = some true then (match (ns.zip vs).lookup f with
      | some d => .ok (.at_ (.val d)) e
      | none => .bad) else .bad
    | _ => .bad) := by (rw [ev]; try rfl)
@[simp] theorem ev_exis {i : Nat} {cs : List Str} {e : Env} : ev C (.exis i cs) e = (match PV.slotAt e i with
    | .exc c _ _ => if C.sub c c = some true then liftW (subs C.sub c cs) fun b => .ok (.at_ (.val (.bl b))) e else .bad
    | _ => .bad) := by (rw [ev]; try rfl)
@[simp] theorem evt_tru {c : CE} {e : Env} : evt C (.tru c) e = (opd (ev C c e)).bnd fun x e1 => match look e1 x with
      | some d => liftW (truthy d) fun b => .ok b (e1.take e.length)
      | none => .bad := by (rw [evt]; try rfl)
@[simp] theorem evt_and {a b : CT} {e : Env} : evt C (.and_ a b) e = (evt C a e).bnd fun r e1 => if r = true then evt C b e1 else .ok false e1 := by (rw [evt]; try rfl)
@[simp] theorem evt_or {a b : CT} {e : Env} : evt C (.or_ a b) e = (evt C a e).bnd fun r e1 => if r = true then .ok true e1 else evt C b e1 := by (rw [evt]; try rfl)
@[simp] theorem evt_not {a : CT} {e : Env} : evt C (.not_ a) e = (evt C a e).bnd fun r e1 => .ok (!r) e1 := by (rw [evt]; try rfl)
@[simp] theorem evts_nil {e : Env} : evts C [] e = .ok true e := by (rw [evts]; try rfl)
@[simp] theorem evts_one {c : CT} {e : Env} : evts C [c] e = evt C c e := by (rw [evts]; try rfl)
@[simp] theorem evo_none {e : Env} : evo C none e = .ok none e := by (rw [evo]; try rfl)
@[simp] theorem evo_some {c : CE} {e : Env} : evo C (some c) e = (ev C c e).bnd fun r e1 => match r with
    | .at_ (.val (.int i)) => .ok (some i) e1
    | _ => .bad := by (rw [evo]; try rfl)
@[simp] theorem evs_nil {e : Env} : evs C [] e = .ok [] e := by (rw [evs]; try rfl)
@[simp] theorem evs_cons {c : CE} {cs : List CE} {e : Env} : evs C (c :: cs) e = (opd (ev C c e)).bnd fun a e1 => (evs C cs e1).bnd fun as e2 => .ok (a :: as) e2 := by (rw [evs]; try rfl)
@[simp] theorem evi_eq {k : Ik} {o : Out (List At)} : evi k o = o.bnd fun as e1 => liftW (keeps e1 as) fun p => liftW (itF k p.1) fun items => .ok items p.2 := (rfl)
/-! ### statements -/
@[simp] theorem run_skip {e : Env} : PV.run C .skip e = .nx e := by (rw [PV.run]; try rfl)
@[simp] theorem run_seq {a b : CS} {e : Env} : PV.run C (.seq a b) e = (PV.run C a e).thn fun e1 => PV.run C b e1 := by (rw [PV.run]; try rfl)
@[simp] theorem run_set {i : Nat} {c : CE} {e : Env} : PV.run C (.set i c) e = (ev C c e).sob fun r e1 => liftSW (setRes e1 i r) .nx := by (rw [PV.run]; try rfl)
@[simp] theorem run_setT {is : List Nat} {c : CE} {e : Env} : PV.run C (.setT is c) e = (opd (ev C c e)).sob fun a e1 => liftSW (keep e1 a) fun p => liftSW (tgF (.tup is) p.1 (p.2.take e.length)) .nx := by (rw [PV.run]; try rfl)
@[simp] theorem run_sub {o i v : CE} {e : Env} : PV.run C (.sub o i v) e = (opd (ev C v e)).sob fun a e1 => (ev C o e1).sob fun r e2 => match r with
    | .at_ (.pl k) => (opd (ev C i e2)).sob fun b e3 => liftSW (look e3 b) fun di => liftSW (PV.take e.length e3 a) fun p => liftSW (treeAt p.2 k) fun t => liftSW (subF t di p.1) fun t' => .nx ((putAt p.2 k t').take e.length)
    | _ => .bad := by (rw [PV.run]; try rfl)
@[simp] theorem run_expr {c : CE} {e : Env} : PV.run C (.expr c) e = (opd (ev C c e)).sob fun a e1 => .nx (e1.take e.length) := by (rw [PV.run]; try rfl)
@[simp] theorem run_mu2 {m : Mu} {i k : Nat} {d : D} {e : Env} : PV.run C (.mu2 m i k d) e = (match PV.slotAt e i with
    | .own (.lst xs) pin => (match xs[k]? with
      | some t => liftSW (muF m t [.fro d]) fun p => .nx (e.set i (.own (.lst (xs.set k p.2)) pin))
      | none => .bad)
    | _ => .bad) := by (rw [PV.run]; try rfl)
@[simp] theorem run_ret {c : CE} {e : Env} : PV.run C (.ret c) e = (ev C c e).sob fun r e1 => liftSW (retRes e1 r) fun p => .rt p.1 p.2 := by (rw [PV.run]; try rfl)
@[simp] theorem run_retN {e : Env} : PV.run C .retN e = .rt (.val .non) e := by (rw [PV.run]; try rfl)
@[simp] theorem run_ite {t : CT} {a b : CS} {e : Env} : PV.run C (.ite t a b) e = (evt C t e).sob fun r e1 => if r = true then PV.run C a e1 else PV.run C b e1 := by (rw [PV.run]; try rfl)
@[simp] theorem run_for {tg : Tg} {k : Ik} {src : List CE} {body : CS} {e : Env} : PV.run C (.for_ tg k src body) e = (evi k (evs C src e)).sob fun items e2 =>
      forGo (turnS C tg body) items (e2.take e.length) := by (rw [PV.run]; try rfl)
@[simp] theorem run_raise {cls n : Str} {fm : Bool} {c : CE} {e : Env} : PV.run C (.raise_ cls n fm c) e = (opd (ev C c e)).sob fun a e1 => liftSW (keep e1 a) fun p => if fm = true → fmOk p.1 = true then .err ⟨cls, [n], [p.1]⟩ (p.2.take e.length) else .bad := by (rw [PV.run]; try rfl)
@[simp] theorem run_try {body : CS} {cs : List Str} {is : List Nat} {bs : List CS} {e : Env} : PV.run C (.try_ body cs is bs) e = (match PV.run C body e with
    | .err x e1 => if noXs (e1.take e.length) = true then runH C cs is bs x (e1.take e.length) else .bad
    | o => o) := by (rw [PV.run]; try rfl)
@[simp] theorem runH_cons {c : Str} {cs : List Str} {i : Nat} {is : List Nat} {b : CS} {bs : List CS} {x : Exn} {e : Env} : runH C (c :: cs) (i :: is) (b :: bs) x e = (match C.sub x.cls c with
    | some true => (match setSlot e i (.exc x.cls x.ns x.vs) with
      | some e1 => (PV.run C b e1).unb i
      | none => .bad)
    | some false => runH C cs is bs x e
    | none => .bad) := by (rw [runH]; try rfl)
@[simp] theorem run_brk {e : Env} : PV.run C .brk e = .bk e := by (rw [PV.run]; try rfl)
@[simp] theorem run_cont {e : Env} : PV.run C .cont e = .ct e := by (rw [PV.run]; try rfl)
/-! ### generators -/
@[simp] theorem runG_plain {c : CS} {ys : List D} {e : Env} : runG C (.plain c) ys e = (match PV.run C c e with
    | .nx e' => .nx ys e'
    | .rt r e' => .rt ys r e'
    | .bk e' => .bk ys e'
    | .ct e' => .ct ys e'
    | .err x e' => .err x e'
    | .bad => .bad) := by rw [runG]; try rfl
@[simp] theorem runG_seq {a b : CG} {ys : List D} {e : Env} : runG C (.seq a b) ys e = (runG C a ys e).thn fun ys' e' => runG C b ys' e' := by (rw [runG]; rfl)
@[simp] theorem runG_yield {c : CE} {ys : List D} {e : Env} : runG C (.yield_ c) ys e = if ys.length < LIM then (opd (ev C c e)).gob fun a e1 => liftGW (keep e1 a) fun p => .nx (ys ++ [p.1]) (p.2.take e.length) else .bad := by rw [runG]; try rfl
@[simp] theorem runG_for {tg : Tg} {k : Ik} {src : List CE} {body : CG} {ys : List D} {e : Env} : runG C (.for_ tg k src body) ys e = (evi k (evs C src e)).gob fun items e2 => forGoG (turnG C tg body) items ys (e2.take e.length) := by rw [runG]; try rfl
@[simp] theorem forGoG_nil {t : D → List D → Env → GO} {ys : List D} {e : Env} : forGoG t [] ys e = .nx ys e := (rfl)
theorem forGoG_cons {t : D → List D → Env → GO} {d : D} {ds : List D} {ys : List D} {e : Env} : forGoG t (d :: ds) ys e = (match t d ys e with
    | .nx ys' e' => forGoG t ds ys' e'
    | .ct ys' e' => forGoG t ds ys' e'
    | .bk ys' e' => .nx ys' e'
    | o => o) := by (rw [forGoG]; try rfl)
@[simp] theorem setRes_at {e : Env} {i : Nat} {a : At} : setRes e i (.at_ a) = (match keep e a with
    | some (d, e1) => setSlot e1 i (.fro d none)
    | none => none) := (rfl)
@[simp] theorem setRes_frs {e : Env} {i : Nat} {o : OD} : setRes e i (.frs o) = setSlot e i (.own o none) := (rfl)
/-- may be stored over -/
def frS : Slot → Bool
  | .fro _ (some _) => false
  | .own _ (some _) => false
  | _ => true
@[simp] theorem frS_non : frS .non = true := (rfl)
@[simp] theorem frS_fro {d : D} : frS (.fro d none) = true := (rfl)
@[simp] theorem frS_own {d : OD} : frS (.own d none) = true := (rfl)
@[simp] theorem setSlot_eq {e : Env} {i : Nat} {s : Slot} : setSlot e i s = if i < e.length ∧ frS (PV.slotAt e i) = true then some (e.set i s) else none := by
  unfold setSlot
  by_cases h : i < e.length
  · cases hs : PV.slotAt e i with
    | non => simp [h]
    | fro d p => cases p <;> simp [h, frS]
    | own d p => cases p <;> simp [h, frS]
    | exc c ns vs => simp [h, frS]
  · simp [h]
@[simp] theorem retRes_frs {e : Env} {o : OD} : retRes e (.frs o) = some (.frs o, e) := (rfl)
@[simp] theorem retRes_val {e : Env} {d : D} : retRes e (.at_ (.val d)) = some (.val d, e) := (rfl)
@[simp] theorem retRes_pl {e : Env} {i : Nat} : retRes e (.at_ (.pl i)) = (match PV.slotAt e i with
    | .own o none => some (.frs o, e.set i .non)
    | _ => (keep e (.pl i)).map fun (d, e1) => (.val d, e1)) := (rfl)
@[simp] theorem treeAt_eq {e : Env} {i : Nat} : treeAt e i = (match PV.slotAt e i with
  | .own o _ => some o
  | _ => none) := (rfl)
@[simp] theorem putAt_eq {e : Env} {i : Nat} {n : OD} : putAt e i n = (match PV.slotAt e i with
  | .own _ pin => e.set i (.own n pin)
  | _ => e) := (rfl)
@[simp] theorem tgF_nm {i : Nat} {d : D} {e : Env} : tgF (.nm i) d e = slotsPut e [i] [d] := by unfold tgF; rfl
@[simp] theorem tgF_tup {ts : List Nat} {ds : List D} {e : Env} : tgF (.tup ts) (.tup ds) e = if ds.length = ts.length then slotsPut e ts ds else none := (rfl)
@[simp] theorem slotsPut_nil {e : Env} : slotsPut e [] [] = some e := (rfl)
@[simp] theorem slotsPut_cons {e : Env} {i : Nat} {is : List Nat} {d : D} {ds : List D} : slotsPut e (i :: is) (d :: ds) = if i < e.length ∧ frS (PV.slotAt e i) = true then slotsPut (e.set i (.fro d none)) is ds else none := by
  rw [slotsPut]
  by_cases h : i < e.length
  · cases hs : PV.slotAt e i with
    | non => simp [h]
    | fro d p => cases p <;> simp [h, frS]
    | own d p => cases p <;> simp [h, frS]
    | exc c ns vs => simp [h, frS]
  · simp [h]
@[simp] theorem clearS_nil {e : Env} : clearS e [] = e := (rfl)
@[simp] theorem clearS_cons {e : Env} {i : Nat} {is : List Nat} : clearS e (i :: is) = clearS (e.set i .non) is := (rfl)
@[simp] theorem backS_nil {e0 e : Env} : backS e0 e [] = e := (rfl)
@[simp] theorem backS_cons {e0 e : Env} {i : Nat} {is : List Nat} : backS e0 e (i :: is) = backS e0 (e.set i (PV.slotAt e0 i)) is := (rfl)
@[simp] theorem freeS_nil {e : Env} : freeS e [] = true := (rfl)
@[simp] theorem freeS_cons {e : Env} {i : Nat} {is : List Nat} : freeS e (i :: is) = ((match PV.slotAt e i with
  | .own _ _ => false
  | .exc _ _ _ => false
  | .fro _ (some _) => false
  | _ => true) && freeS e is) := (rfl)
@[simp] theorem forGo_nil {t : D → Env → SO} {e : Env} : forGo t [] e = .nx e := (rfl)
theorem forGo_cons {t : D → Env → SO} {d : D} {ds : List D} {e : Env} : forGo t (d :: ds) e = (match t d e with
    | .nx e' => forGo t ds e'
    | .ct e' => forGo t ds e'
    | .bk e' => .nx e'
    | o => o) := by (rw [forGo]; try rfl)
@[simp] theorem lcGo_nil {own : List Nat} {t : D → Env → Out (Option D)} {acc : List D} {e : Env} : lcGo own t [] acc e = .ok acc (clearS e own) := (rfl)
@[simp] theorem marked_nil {i : Nat} : marked i [] = [] := (rfl)
@[simp] theorem marked_own {i : Nat} {o : OD} {p : Option Nat} {ss : List Slot} : marked i (.own o p :: ss) = .own o (some i) :: marked (i + 1) ss := (rfl)
@[simp] theorem marked_fro {i : Nat} {d : D} {p : Option Nat} {ss : List Slot} : marked i (.fro d p :: ss) = .fro d p :: marked (i + 1) ss := by rw [marked]; exact fun _ _ h => by cases h
@[simp] theorem marked_non {i : Nat} {ss : List Slot} : marked i (.non :: ss) = .non :: marked (i + 1) ss := by rw [marked]; exact fun _ _ h => by cases h
@[simp] theorem outs_nil {i : Nat} {e : Env} : outs i [] e = [] := (rfl)
@[simp] theorem outs_own {i : Nat} {o : OD} {p : Option Nat} {ss : List Slot} {s : Slot} {e : Env} : outs i (.own o p :: ss) (s :: e) = noX i s :: outs (i + 1) ss e := (rfl)
@[simp] theorem outs_fro {i : Nat} {d : D} {p : Option Nat} {ss : List Slot} {s : Slot} {e : Env} : outs i (.fro d p :: ss) (s :: e) = .non :: outs (i + 1) ss e := by
  show outs i (.fro d p :: ss) (s :: e) = .non :: outs (i + 1) ss ((s :: e).drop 1)
  rw [outs]
  exact fun _ _ h => by cases h
@[simp] theorem noX_own {i t : Nat} {o : OD} : noX i (.own o (some t)) = if t = i then .own o none else .non := (rfl)
@[simp] theorem noX_fro {i t : Nat} {d : D} : noX i (.fro d (some t)) = if t = i then .fro d none else .non := (rfl)
@[simp] theorem res_val {d : D} : (RV.val d).res = .at_ (.val d) := (rfl)
@[simp] theorem res_frs {d : OD} : (RV.frs d).res = .frs d := (rfl)
theorem callF_succ {n : Nat} {f : Str} {ss : List Slot} : callF T sub (n + 1) f ss = match T f with
    | some (.code np ns body) => if ss.length = np then (match run ⟨callF T sub n, sub⟩ body (marked 0 ss ++ List.replicate (ns - np) .non) with
      | .nx e => .ret (.val .non) (outs 0 ss e)
      | .rt r e => .ret r (outs 0 ss e)
      | .err x e => .err x (outs 0 ss e)
      | _ => .bad) else .bad
    | some (.gen np ns body) => if ss.length = np then (match runG ⟨callF T sub n, sub⟩ body [] (marked 0 ss ++ List.replicate (ns - np) .non) with
      | .nx ys e => .ret (.frs (.lst (ys.map .fro))) (outs 0 ss e)
      | .rt ys (.val .non) e => .ret (.frs (.lst (ys.map .fro))) (outs 0 ss e)
      | .err x e => if sub x.cls x.cls = some true then .err x (outs 0 ss e) else .bad
      | _ => .bad) else .bad
    | some (.hand g) => (match fros ss with
      | some ds => (match g ds with
        | .ret r => .ret r (ss.map fun _ => .non)
        | .err x => .err x (ss.map fun _ => .non)
        | .bad => .bad)
      | none => .bad)
    | none => .bad := (rfl)
/-! ### loops by a word -/
theorem forGo_word {t : D → Env → SO} {P : Nat → Env → Prop} : ∀ (items : List D) (k : Nat) (e : Env), P k e → (∀ i d e, items[i]? = some d → P (k + i) e → ∃ e', (t d e = .nx e' ∨ t d e = .ct e') ∧ P (k + i + 1) e') → ∃ e', forGo t items e = .nx e' ∧ P (k + items.length) e'
  | [], k, e, h, _ => ⟨e, rfl, h⟩
  | d :: items, k, e, h, hs => by
    obtain ⟨e1, h1, h2⟩ := hs 0 d e rfl h
    obtain ⟨e2, h3, h4⟩ := forGo_word items (k + 1) e1 h2 (fun i d e hi hp => by
      have := hs (i + 1) d e (by simpa using hi) (by rw [show k + (i + 1) = k + 1 + i by omega]; exact hp)
      rw [show k + (i + 1) + 1 = k + 1 + i + 1 by omega] at this
      exact this)
    refine ⟨e2, ?_, by rw [List.length_cons, show k + (items.length + 1) = k + 1 + items.length by omega]; exact h4⟩
    rw [forGo_cons]
    rcases h1 with h1 | h1 <;> rw [h1] <;> exact h3
/-- a comprehension whose turns give f of the item and leave the slots as they were -/
theorem lcGo_map {own : List Nat} {t : D → Env → Out (Option D)} {f : D → Option D} {e0 : Env} : ∀ (items acc : List D) (e : Env), clearS e own = e0 → (∀ d ∈ items, ∃ e', t d e0 = .ok (f d) e' ∧ clearS e' own = e0) → acc.length + items.length ≤ LIM →
    lcGo own t items acc e = .ok (acc ++ items.filterMap f) e0
  | [], acc, e, h0, _, _ => by simp [h0]
  | d :: items, acc, e, h0, h, hl => by
    obtain ⟨e', h1, h2⟩ := h d List.mem_cons_self
    have hl' : acc.length < LIM := by simp at hl; omega
    rw [lcGo, h0, h1]
    cases hf : f d with
    | none =>
      rw [List.filterMap_cons, hf]
      exact lcGo_map items acc e' h2 (fun d hd => h d (List.mem_cons_of_mem _ hd)) (by simp at hl; omega)
    | some y =>
      rw [List.filterMap_cons, hf]
      dsimp only
      rw [if_pos hl', lcGo_map items (acc ++ [y]) e' h2 (fun d hd => h d (List.mem_cons_of_mem _ hd)) (by simp at hl ⊢; omega)]
      simp
/-- .. over items that are told from others -/
theorem lcGo_mapG {α : Type} {own : List Nat} {t : D → Env → Out (Option D)} {g : α → D} {h : α → Option D} {e0 : Env} : ∀ (xs : List α) (acc : List D) (e : Env), clearS e own = e0 → (∀ x ∈ xs, ∃ e', t (g x) e0 = .ok (h x) e' ∧ clearS e' own = e0) → acc.length + xs.length ≤ LIM →
    lcGo own t (xs.map g) acc e = .ok (acc ++ xs.filterMap h) e0
  | [], acc, e, h0, _, _ => by simp [h0]
  | d :: xs, acc, e, h0, hh, hl => by
    obtain ⟨e', h1, h2⟩ := hh d List.mem_cons_self
    have hl' : acc.length < LIM := by simp at hl; omega
    rw [List.map_cons, lcGo, h0, h1]
    cases hf : h d with
    | none =>
      rw [List.filterMap_cons, hf]
      exact lcGo_mapG xs acc e' h2 (fun d hd => hh d (List.mem_cons_of_mem _ hd)) (by simp at hl; omega)
    | some y =>
      rw [List.filterMap_cons, hf]
      dsimp only
      rw [if_pos hl', lcGo_mapG xs (acc ++ [y]) e' h2 (fun d hd => hh d (List.mem_cons_of_mem _ hd)) (by simp at hl ⊢; omega)]
      simp
@[simp] theorem tg_nm {i : Nat} : (Tg.nm i).all = [i] := (rfl)
@[simp] theorem tg_tup {ts : List Nat} : (Tg.tup ts).all = ts := (rfl)
/-- a comprehension by a word: P of the turns taken, what is told so far, the slots -/
theorem lcGo_word {own : List Nat} {t : D → Env → Out (Option D)} {P : Nat → List D → Env → Prop} : ∀ (items acc : List D) (k : Nat) (e : Env), P k acc e → (∀ i d acc e, items[i]? = some d → P (k + i) acc e → acc.length < LIM ∧ ∃ r e', t d (clearS e own) = .ok r e' ∧ P (k + i + 1) (acc ++ r.toList) e') →
    ∃ ys e', lcGo own t items acc e = .ok ys (clearS e' own) ∧ P (k + items.length) ys e'
  | [], acc, k, e, h, _ => ⟨acc, e, rfl, h⟩
  | d :: items, acc, k, e, h, hs => by
    obtain ⟨hl, r, e1, h1, h2⟩ := hs 0 d acc e rfl h
    have step : ∀ acc', acc' = acc ++ r.toList → ∃ ys e', lcGo own t items acc' e1 = .ok ys (clearS e' own) ∧ P (k + (d :: items).length) ys e' := fun acc' ha => by
      obtain ⟨ys, e2, h3, h4⟩ := lcGo_word items acc' (k + 1) e1 (by rw [ha]; exact h2) (fun i d acc e hi hp => by
        have := hs (i + 1) d acc e (by simpa using hi) (by rw [show k + (i + 1) = k + 1 + i by omega]; exact hp)
        rw [show k + (i + 1) + 1 = k + 1 + i + 1 by omega] at this
        exact this)
      exact ⟨ys, e2, h3, by rw [List.length_cons, show k + (items.length + 1) = k + 1 + items.length by omega]; exact h4⟩
    rw [lcGo, h1]
    cases r with
    | none => exact step acc (by simp)
    | some y =>
      dsimp only
      rw [if_pos hl]
      exact step (acc ++ [y]) (by simp)
end PS
end

section
set_option linter.all false
set_option maxRecDepth 100000
set_option maxHeartbeats 4000000
/-! PS2: what the primitives give -/
namespace PS
open PV
open PySem (Str)
open SX (S)
abbrev dS (l : List Nat) : D := .str (S l)
@[simp] theorem S_len (l : List Nat) : (S l).length = l.length := SX.S_len l
@[simp] theorem S_cps (l : List Nat) : (S l).cps.toList = l := (rfl)
theorem S_one (c : Nat) : (⟨#[c]⟩ : Str) = S [c] := (rfl)
theorem S_eq {a b : List Nat} : (S a = S b) ↔ a = b := ⟨SX.S_inj, fun h => by rw [h]⟩
/-! ### operators -/
@[simp] theorem add_S {a b : List Nat} : bop .add (dS a) (dS b) = if a.length + b.length ≤ LIM then some (.at_ (.val (dS (a ++ b)))) else none := by
  show (if (S a).length + (S b).length ≤ LIM then some (Res.at_ (.val (.str (S a ++ S b)))) else none) = _
  rw [S_len, S_len, SX.S_cat]
@[simp] theorem add_int {i j : Int} : bop .add (.int i) (.int j) = some (.at_ (.val (.int (i + j)))) := (rfl)
@[simp] theorem sub_int {i j : Int} : bop .sub (.int i) (.int j) = some (.at_ (.val (.int (i - j)))) := (rfl)
@[simp] theorem mul_int {i j : Int} : bop .mul (.int i) (.int j) = if i.natAbs < BIG ∧ j.natAbs < BIG then some (.at_ (.val (.int (i * j)))) else none := (rfl)
@[simp] theorem fdiv_int {i j : Int} : bop .fdiv (.int i) (.int j) = if 0 < j ∧ j.natAbs < BIG then some (.at_ (.val (.int (i / j)))) else none := (rfl)
@[simp] theorem mod_int {i j : Int} : bop .mod (.int i) (.int j) = if 0 < j then some (.at_ (.val (.int (i % j)))) else none := (rfl)
@[simp] theorem add_lst {xs ys : List D} : bop .add (.lst xs) (.lst ys) = if xs.length + ys.length ≤ LIM then some (.frs (.lst ((xs ++ ys).map .fro))) else none := (rfl)
theorem pow_int {i j : Int} : bop .pow (.int i) (.int j) = if (0 ≤ j ∧ j ≤ 1000) ∧ (i.natAbs < 2 ^ 64 ∨ (2 ≤ i ∧ 1 ≤ j ∧ i.natAbs < BIG)) then some (.at_ (.val (.int (i ^ j.toNat)))) else none := (rfl)
theorem mulS_eq (l : List Nat) (k : Nat) : PySem.Txt.mul (S l) k = S (List.replicate k l).flatten := by
  have fold : ∀ (n : Nat) (acc : Array Nat), (List.replicate n (S l).cps).foldl (· ++ ·) acc = acc ++ ((List.replicate n l).flatten).toArray := by
    intro n
    induction n with
    | zero => intro acc; simp
    | succ n ih =>
      intro acc
      rw [List.replicate_succ, List.foldl_cons, ih, List.replicate_succ, List.flatten_cons]
      apply Array.ext'
      simp [S]
  unfold PySem.Txt.mul
  by_cases h0 : (k : Int) < 1
  · rw [if_pos h0]
    have : k = 0 := by omega
    subst this
    rfl
  · rw [if_neg h0]
    by_cases h1 : ((k : Int) == 1 || (S l).length == 0) = true
    · rw [if_pos h1]
      rcases Bool.or_eq_true_iff.mp h1 with h | h
      · have : k = 1 := by have := beq_iff_eq.mp h; omega
        subst this
        simp
      · have hl : l = [] := by
          have := beq_iff_eq.mp h
          rw [S_len] at this
          exact List.length_eq_zero_iff.mp this
        subst hl
        simp
    · rw [if_neg h1]
      show (⟨(List.replicate (k : Int).toNat (S l).cps).foldl (· ++ ·) #[]⟩ : Str) = S _
      rw [Int.toNat_natCast, fold]
      simp [S]
@[simp] theorem mul_S {l : List Nat} {k : Nat} : bop .mul (dS l) (.int k) = if l.length ≤ 16 ∧ k ≤ 10000 then some (.at_ (.val (dS (List.replicate k l).flatten))) else none := by
  show (if (S l).length ≤ 16 ∧ 0 ≤ (k : Int) ∧ (k : Int) ≤ 10000 then some (Res.at_ (.val (.str (PySem.Txt.mul (S l) k)))) else none) = _
  rw [S_len, mulS_eq]
  by_cases h : l.length ≤ 16 ∧ k ≤ 10000
  · rw [if_pos h, if_pos (by omega)]
  · rw [if_neg h, if_neg (by omega)]
/-! ### comparisons -/
theorem shP_int (i : Int) : shP (.int i) = some (.int i) := (rfl)
theorem shP_bl (i : Bool) : shP (.bl i) = some (.bool i) := (rfl)
theorem shP_non : shP .non = some .none := (rfl)
/-- signs that a text may have -/
def okS (l : List Nat) : Bool := l.all fun c => decide (c < 1114112)
@[simp] theorem okS_nil : okS [] = true := (rfl)
@[simp] theorem okS_cons {c : Nat} {l : List Nat} : okS (c :: l) = (decide (c < 1114112) && okS l) := (rfl)
@[simp] theorem okS_append {a b : List Nat} : okS (a ++ b) = (okS a && okS b) := by unfold okS; rw [List.all_append]
theorem okS_mem {l : List Nat} : okS l = true ↔ ∀ c ∈ l, c < 1114112 := by unfold okS; simp
theorem strOk_S (l : List Nat) : PySem.PyData.strOk (S l) = okS l := by
  unfold PySem.PyData.strOk okS
  rw [← Array.all_toList]
theorem shP_str (l : List Nat) : shP (dS l) = if okS l = true then some (.str (S l)) else none := by
  show (if PySem.SeqAt.shaped (.str (S l)) = true then some (PySem.PyData.str (S l)) else none) = _
  have : PySem.SeqAt.shaped (.str (S l)) = okS l := by
    unfold PySem.SeqAt.shaped
    rw [show PySem.PyData.canLay0 (.str (S l)) = PySem.PyData.strOk (S l) by simp only [PySem.PyData.canLay0], strOk_S]
    simp [PySem.PyData.depth]
  rw [this]
@[simp] theorem deq_int {i j : Int} : deq (.int i) (.int j) = some (decide (i = j)) := by
  show some (i == j) = _
  congr 1
@[simp] theorem deq_bl {i j : Bool} : deq (.bl i) (.bl j) = some (decide (i = j)) := by
  show some (i == j) = _
  cases i <;> cases j <;> rfl
@[simp] theorem deq_str {a b : List Nat} : deq (dS a) (dS b) = if okS a = true ∧ okS b = true then some (decide (a = b)) else none := by
  unfold deq
  rw [shP_str, shP_str]
  by_cases ha : okS a = true
  · by_cases hb : okS b = true
    · rw [if_pos ha, if_pos hb, if_pos ⟨ha, hb⟩]
      show some (S a == S b) = _
      rw [SX.S_beq_eq]
    · simp [ha, hb]
  · simp [ha]
@[simp] theorem cop_eq {x y : D} : cop .eq x y = deq x y := by unfold cop; cases x <;> cases y <;> rfl
@[simp] theorem cop_ne {x y : D} : cop .ne x y = (deq x y).map not := by unfold cop; cases x <;> cases y <;> rfl
@[simp] theorem cop_lt {i j : Int} : cop .lt (.int i) (.int j) = some (decide (i < j)) := (rfl)
@[simp] theorem cop_le {i j : Int} : cop .le (.int i) (.int j) = some (decide (i ≤ j)) := (rfl)
@[simp] theorem cop_gt {i j : Int} : cop .gt (.int i) (.int j) = some (decide (j < i)) := (rfl)
@[simp] theorem cop_ge {i j : Int} : cop .ge (.int i) (.int j) = some (decide (j ≤ i)) := (rfl)
@[simp] theorem cop_ltS {a b : List Nat} : cop .lt (dS a) (dS b) = some (decide (a < b)) := (rfl)
@[simp] theorem cop_is {x : D} : cop .is_ x .non = some (isNon x) := by unfold cop; cases x <;> rfl
@[simp] theorem cop_isnot {x : D} : cop .isnot x .non = some (!isNon x) := by unfold cop; cases x <;> rfl
@[simp] theorem isNon_non : isNon .non = true := (rfl)
@[simp] theorem isNon_int {i : Int} : isNon (.int i) = false := (rfl)
@[simp] theorem isNon_str {i : Str} : isNon (.str i) = false := (rfl)
@[simp] theorem isNon_bl {i : Bool} : isNon (.bl i) = false := (rfl)
@[simp] theorem isNon_lst {i : List D} : isNon (.lst i) = false := (rfl)
@[simp] theorem cop_mem {x y : D} : cop .mem x y = memD x y := by unfold cop; cases x <;> cases y <;> rfl
@[simp] theorem cop_nmem {x y : D} : cop .nmem x y = (memD x y).map not := by unfold cop; cases x <;> cases y <;> rfl
@[simp] theorem mem_S1 {c : Nat} {l : List Nat} : memD (dS [c]) (dS l) = some (decide (c ∈ l)) := by
  show some (strIn (S [c]) (S l)) = _
  congr 1
  exact PySem.StrLaws.found_one (S l) c
theorem toP_cases {x : D} : D.toP x = (match x with
    | .non => some .none
    | .bl b => some (.bool b)
    | .int i => some (.int i)
    | .str s => some (.str s)
    | .tup xs => (D.toPs xs).map .tuple
    | .lst xs => (D.toPs xs).map .list
    | _ => none) := by cases x <;> (unfold D.toP; rfl)
/-- plain: None, ints, texts, lists and tuples of such, n deep -/
def plain : Nat → D → Bool
  | _, .non => true
  | _, .int _ => true
  | _, .str s => PySem.PyData.strOk s
  | n + 1, .lst xs => xs.all (plain n)
  | n + 1, .tup xs => xs.all (plain n)
  | _, _ => false
theorem toPs_of {n : Nat} : ∀ (xs : List D), (∀ x ∈ xs, ∃ p, D.toP x = some p ∧ PySem.PyData.canLay0 p = true ∧ PySem.PyData.depth p ≤ n) →
    ∃ ps, D.toPs xs = some ps ∧ PySem.PyData.canLayAll0 ps = true ∧ PySem.PyData.depthAll ps ≤ n
  | [], _ => ⟨[], by unfold D.toPs; rfl, by simp [PySem.PyData.canLayAll0], by simp [PySem.PyData.depthAll]⟩
  | x :: xs, h => by
    obtain ⟨p, h1, h2, h3⟩ := h x List.mem_cons_self
    obtain ⟨ps, h4, h5, h6⟩ := toPs_of xs fun y hy => h y (List.mem_cons_of_mem _ hy)
    exact ⟨p :: ps, by unfold D.toPs; rw [h1, h4], by simp [PySem.PyData.canLayAll0, h2, h5], by simp [PySem.PyData.depthAll]; omega⟩
theorem plain_toP : ∀ (n : Nat) (x : D), plain n x = true → ∃ p, D.toP x = some p ∧ PySem.PyData.canLay0 p = true ∧ PySem.PyData.depth p ≤ n := by
  intro n
  induction n with
  | zero =>
    intro x h
    cases x with
    | non => exact ⟨_, toP_cases, by simp [PySem.PyData.canLay0], by simp [PySem.PyData.depth]⟩
    | int i => exact ⟨_, toP_cases, by simp [PySem.PyData.canLay0], by simp [PySem.PyData.depth]⟩
    | str s => exact ⟨_, toP_cases, by simp only [PySem.PyData.canLay0]; exact h, by simp [PySem.PyData.depth]⟩
    | _ => cases h
  | succ n ih =>
    intro x h
    cases x with
    | non => exact ⟨_, toP_cases, by simp [PySem.PyData.canLay0], by simp [PySem.PyData.depth]⟩
    | int i => exact ⟨_, toP_cases, by simp [PySem.PyData.canLay0], by simp [PySem.PyData.depth]⟩
    | str s => exact ⟨_, toP_cases, by simp only [PySem.PyData.canLay0]; exact h, by simp [PySem.PyData.depth]⟩
    | lst xs =>
      have h' : xs.all (plain n) = true := h
      obtain ⟨ps, h1, h2, h3⟩ := toPs_of xs fun x hx => ih x (List.all_eq_true.mp h' x hx)
      exact ⟨.list ps, by rw [toP_cases]; simp [h1], by simp [PySem.PyData.canLay0, h2], by simp [PySem.PyData.depth]; exact h3⟩
    | tup xs =>
      have h' : xs.all (plain n) = true := h
      obtain ⟨ps, h1, h2, h3⟩ := toPs_of xs fun x hx => ih x (List.all_eq_true.mp h' x hx)
      exact ⟨.tuple ps, by rw [toP_cases]; simp [h1], by simp [PySem.PyData.canLay0, h2], by simp [PySem.PyData.depth]; exact h3⟩
    | _ => cases h
theorem plain_sh {n : Nat} {x : D} (hn : n ≤ 64) (h : plain n x = true) : ∃ p, D.toP x = some p ∧ shP x = some p := by
  obtain ⟨p, h1, h2, h3⟩ := plain_toP n x h
  refine ⟨p, h1, ?_⟩
  unfold shP
  rw [h1]
  dsimp only
  rw [if_pos]
  unfold PySem.SeqAt.shaped
  rw [h2, Bool.true_and]
  exact decide_eq_true (by omega)
theorem toPs_cons {x : D} {xs : List D} {ps : List PySem.PyData} (h : D.toPs (x :: xs) = some ps) : ∃ p r, D.toP x = some p ∧ D.toPs xs = some r ∧ ps = p :: r := by
  unfold D.toPs at h
  cases h1 : D.toP x with
  | none => rw [h1] at h; cases h
  | some p =>
    rw [h1] at h
    cases h2 : D.toPs xs with
    | none => rw [h2] at h; cases h
    | some r => rw [h2] at h; cases h; exact ⟨p, r, rfl, rfl, rfl⟩
theorem eqvAll_of {n : Nat} (ih : ∀ (x y : D) (p q : PySem.PyData), plain n x = true → plain n y = true → D.toP x = some p → D.toP y = some q → (PySem.PyData.eqv p q = true ↔ x = y)) :
    ∀ (xs ys : List D) (ps qs : List PySem.PyData), xs.all (plain n) = true → ys.all (plain n) = true → D.toPs xs = some ps → D.toPs ys = some qs → (PySem.PyData.eqvAll ps qs = true ↔ xs = ys)
  | [], [], ps, qs, _, _, h1, h2 => by
    unfold D.toPs at h1 h2
    cases h1; cases h2
    simp [PySem.PyData.eqvAll]
  | [], y :: ys, ps, qs, _, _, h1, h2 => by
    obtain ⟨q, r, _, _, rfl⟩ := toPs_cons h2
    unfold D.toPs at h1
    cases h1
    simp [PySem.PyData.eqvAll]
  | x :: xs, [], ps, qs, _, _, h1, h2 => by
    obtain ⟨q, r, _, _, rfl⟩ := toPs_cons h1
    unfold D.toPs at h2
    cases h2
    simp [PySem.PyData.eqvAll]
  | x :: xs, y :: ys, ps, qs, hx, hy, h1, h2 => by
    obtain ⟨p, r, a1, a2, rfl⟩ := toPs_cons h1
    obtain ⟨q, r', b1, b2, rfl⟩ := toPs_cons h2
    rw [List.all_cons, Bool.and_eq_true] at hx hy
    have e1 := ih x y p q hx.1 hy.1 a1 b1
    have e2 := eqvAll_of ih xs ys r r' hx.2 hy.2 a2 b2
    simp only [PySem.PyData.eqvAll, Bool.and_eq_true, e1, e2, List.cons.injEq]
theorem eqv_plain : ∀ (n : Nat) (x y : D) (p q : PySem.PyData), plain n x = true → plain n y = true → D.toP x = some p → D.toP y = some q → (PySem.PyData.eqv p q = true ↔ x = y) := by
  intro n
  induction n with
  | zero =>
    intro x y p q hx hy h1 h2
    rw [toP_cases] at h1 h2
    cases x <;> cases y <;> first | (cases hx; done) | (cases hy; done) | (cases h1; cases h2; simp [PySem.PyData.eqv])
  | succ n ih =>
    intro x y p q hx hy h1 h2
    rw [toP_cases] at h1 h2
    cases x with
    | lst xs =>
      dsimp only at h1
      cases hps : D.toPs xs with
      | none => rw [hps] at h1; cases h1
      | some ps =>
        rw [hps] at h1; cases h1
        cases y with
        | lst ys =>
          dsimp only at h2
          cases hqs : D.toPs ys with
          | none => rw [hqs] at h2; cases h2
          | some qs =>
            rw [hqs] at h2; cases h2
            have := eqvAll_of ih xs ys ps qs hx hy hps hqs
            simp only [PySem.PyData.eqv, this, D.lst.injEq]
        | tup ys =>
          dsimp only at h2
          cases hqs : D.toPs ys with
          | none => rw [hqs] at h2; cases h2
          | some qs => rw [hqs] at h2; cases h2; simp [PySem.PyData.eqv]
        | _ => first | (cases hy; done) | (cases h2; simp [PySem.PyData.eqv])
    | tup xs =>
      dsimp only at h1
      cases hps : D.toPs xs with
      | none => rw [hps] at h1; cases h1
      | some ps =>
        rw [hps] at h1; cases h1
        cases y with
        | tup ys =>
          dsimp only at h2
          cases hqs : D.toPs ys with
          | none => rw [hqs] at h2; cases h2
          | some qs =>
            rw [hqs] at h2; cases h2
            have := eqvAll_of ih xs ys ps qs hx hy hps hqs
            simp only [PySem.PyData.eqv, this, D.tup.injEq]
        | lst ys =>
          dsimp only at h2
          cases hqs : D.toPs ys with
          | none => rw [hqs] at h2; cases h2
          | some qs => rw [hqs] at h2; cases h2; simp [PySem.PyData.eqv]
        | _ => first | (cases hy; done) | (cases h2; simp [PySem.PyData.eqv])
    | non =>
      cases h1
      cases y <;> first | (cases hy; done) | (cases h2; simp [PySem.PyData.eqv]; done) | (dsimp only at h2; cases hqs : D.toPs _ with | none => (rw [hqs] at h2; cases h2) | some qs => (rw [hqs] at h2; cases h2; simp [PySem.PyData.eqv]))
    | int i =>
      cases h1
      cases y <;> first | (cases hy; done) | (cases h2; simp [PySem.PyData.eqv]; done) | (dsimp only at h2; cases hqs : D.toPs _ with | none => (rw [hqs] at h2; cases h2) | some qs => (rw [hqs] at h2; cases h2; simp [PySem.PyData.eqv]))
    | str i =>
      cases h1
      cases y <;> first | (cases hy; done) | (cases h2; simp [PySem.PyData.eqv]; done) | (dsimp only at h2; cases hqs : D.toPs _ with | none => (rw [hqs] at h2; cases h2) | some qs => (rw [hqs] at h2; cases h2; simp [PySem.PyData.eqv]))
    | _ => cases hx
open Classical in
theorem deq_plain {n : Nat} {x y : D} (hn : n ≤ 64) (hx : plain n x = true) (hy : plain n y = true) : deq x y = some (decide (x = y)) := by
  obtain ⟨p, h1, h2⟩ := plain_sh hn hx
  obtain ⟨q, h3, h4⟩ := plain_sh hn hy
  unfold deq
  rw [h2, h4]
  dsimp only
  congr 1
  rw [Bool.eq_iff_iff, decide_eq_true_iff]
  exact eqv_plain n x y p q hx hy h1 h3
theorem plain_up : ∀ {n : Nat} {x : D}, plain n x = true → plain (n + 1) x = true := by
  intro n
  induction n with
  | zero => intro x h; cases x <;> first | exact h | cases h
  | succ n ih =>
    intro x h
    cases x with
    | lst xs => exact List.all_eq_true.mpr fun y hy => ih (List.all_eq_true.mp (show xs.all (plain n) = true from h) y hy)
    | tup xs => exact List.all_eq_true.mpr fun y hy => ih (List.all_eq_true.mp (show xs.all (plain n) = true from h) y hy)
    | _ => exact h
theorem any_mem {n : Nat} {x : D} {p : PySem.PyData} (hx : plain n x = true) (hp : D.toP x = some p) : ∀ (ys : List D) (qs : List PySem.PyData), ys.all (plain n) = true → D.toPs ys = some qs → ((qs.any fun z => PySem.PyData.eqv z p) = true ↔ x ∈ ys)
  | [], qs, _, h => by unfold D.toPs at h; cases h; simp
  | y :: ys, qs, hy, h => by
    obtain ⟨q, r, a1, a2, rfl⟩ := toPs_cons h
    rw [List.all_cons, Bool.and_eq_true] at hy
    have e1 := eqv_plain n y x q p hy.1 hx a1 hp
    have e2 := any_mem hx hp ys r hy.2 a2
    simp only [List.any_cons, Bool.or_eq_true, e1, e2, List.mem_cons]
    constructor
    · rintro (h | h)
      · exact .inl h.symm
      · exact .inr h
    · rintro (h | h)
      · exact .inl h.symm
      · exact .inr h
open Classical in
theorem mem_plain {n : Nat} {x : D} {ys : List D} (hn : n < 64) (hx : plain n x = true) (hy : ys.all (plain n) = true) : memD x (.lst ys) = some (decide (x ∈ ys)) := by
  obtain ⟨p, h1, h2⟩ := plain_sh (by omega) hx
  have hy' : plain (n + 1) (.lst ys) = true := hy
  obtain ⟨q, h3, h4⟩ := plain_sh (by omega) hy'
  have h5 := h3
  rw [toP_cases] at h5
  dsimp only at h5
  cases hqs : D.toPs ys with
  | none => rw [hqs] at h5; cases h5
  | some qs =>
    rw [hqs] at h5
    have e : q = .list qs := (Option.some.inj h5).symm
    subst e
    have key : memD x (.lst ys) = some (qs.any fun z => PySem.PyData.eqv z p) := by
      unfold memD
      cases x <;> (dsimp only; rw [h2, h4])
    rw [key]
    congr 1
    rw [Bool.eq_iff_iff, decide_eq_true_iff]
    exact any_mem hx h1 ys qs hy hqs
open Classical in
theorem mem_plainT {n : Nat} {x : D} {ys : List D} (hn : n < 64) (hx : plain n x = true) (hy : ys.all (plain n) = true) : memD x (.tup ys) = some (decide (x ∈ ys)) := by
  obtain ⟨p, h1, h2⟩ := plain_sh (by omega) hx
  have hy' : plain (n + 1) (.tup ys) = true := hy
  obtain ⟨q, h3, h4⟩ := plain_sh (by omega) hy'
  have h5 := h3
  rw [toP_cases] at h5
  dsimp only at h5
  cases hqs : D.toPs ys with
  | none => rw [hqs] at h5; cases h5
  | some qs =>
    rw [hqs] at h5
    have e : q = .tuple qs := (Option.some.inj h5).symm
    subst e
    have key : memD x (.tup ys) = some (qs.any fun z => PySem.PyData.eqv z p) := by
      unfold memD
      cases x <;> (dsimp only; rw [h2, h4])
    rw [key]
    congr 1
    rw [Bool.eq_iff_iff, decide_eq_true_iff]
    exact any_mem hx h1 ys qs hy hqs
@[simp] theorem plain_int {n : Nat} {i : Int} : plain n (.int i) = true := by cases n <;> rfl
@[simp] theorem plain_non {n : Nat} : plain n .non = true := by cases n <;> rfl
@[simp] theorem plain_str {n : Nat} {l : List Nat} : plain n (dS l) = okS l := by cases n <;> exact strOk_S l
@[simp] theorem plain_lst {n : Nat} {xs : List D} : plain (n + 1) (.lst xs) = xs.all (plain n) := (rfl)
@[simp] theorem plain_tup {n : Nat} {xs : List D} : plain (n + 1) (.tup xs) = xs.all (plain n) := (rfl)
/-! ### indices, slices, built-ins -/
theorem atI_nat {α : Type} {xs : List α} {i : Nat} : L2.atI xs (i : Int) = xs[i]? := by
  unfold L2.atI L2.ixN
  by_cases h : i < xs.length
  · rw [if_pos (by omega), if_pos (by omega)]
    simp
  · rw [if_pos (by omega), if_neg (by omega)]
    simp
    omega
@[simp] theorem ix_lst {xs : List D} {i : Nat} : ixD (.lst xs) (.int (i : Int)) = xs[i]? := atI_nat
@[simp] theorem ix_tup {xs : List D} {i : Nat} : ixD (.tup xs) (.int (i : Int)) = xs[i]? := atI_nat
@[simp] theorem ix_lst0 {xs : List D} : ixD (.lst xs) (.int 0) = xs[0]? := atI_nat (i := 0)
@[simp] theorem ix_lst1 {xs : List D} : ixD (.lst xs) (.int 1) = xs[1]? := atI_nat (i := 1)
@[simp] theorem ix_tup0 {xs : List D} : ixD (.tup xs) (.int 0) = xs[0]? := atI_nat (i := 0)
@[simp] theorem ix_tup1 {xs : List D} : ixD (.tup xs) (.int 1) = xs[1]? := atI_nat (i := 1)
@[simp] theorem ix_S {l : List Nat} {i : Nat} : ixD (dS l) (.int (i : Int)) = if l.length ≤ LIM then l[i]?.map fun c => dS [c] else none := by
  show (if (S l).length ≤ LIM then (L2.atI (S l).cps.toList (i : Int)).map fun c => D.str ⟨#[c]⟩ else none) = _
  rw [S_len, S_cps, atI_nat]
@[simp] theorem sl_lo {l : List Nat} {i : Nat} : slD (dS l) (some (i : Int)) none = if l.length ≤ LIM then some (.at_ (.val (dS (l.drop i)))) else none := by
  show (if (S l).length ≤ LIM then some (Res.at_ (.val (.str (L2.cutS (S l) (some (i : Int)) none)))) else none) = _
  rw [S_len]
  unfold L2.cutS
  rw [HT.sIx_none, HT.sIx_nat, S_cps, S_len]
  by_cases h : i ≤ l.length
  · rw [Nat.min_eq_left h, List.take_of_length_le (by simp)]
  · rw [Nat.min_eq_right (by omega), List.take_of_length_le (by simp), List.drop_of_length_le (Nat.le_refl _), List.drop_of_length_le (by omega)]
@[simp] theorem sl_hi {l : List Nat} {i : Nat} : slD (dS l) none (some (i : Int)) = if l.length ≤ LIM then some (.at_ (.val (dS (l.take i)))) else none := by
  show (if (S l).length ≤ LIM then some (Res.at_ (.val (.str (L2.cutS (S l) none (some (i : Int)))))) else none) = _
  rw [S_len]
  unfold L2.cutS
  rw [HT.sIx_none, HT.sIx_nat, S_cps, S_len, List.drop_zero, Nat.sub_zero]
  by_cases h : i ≤ l.length
  · rw [Nat.min_eq_left h]
  · rw [Nat.min_eq_right (by omega), List.take_of_length_le (Nat.le_refl _), List.take_of_length_le (by omega)]
theorem fm_map {α β : Type} {f : α → Option β} {g : α → β} : ∀ ks : List α, (∀ k ∈ ks, f k = some (g k)) → ks.filterMap f = ks.map g
  | [], _ => rfl
  | k :: ks, h => by
    rw [List.filterMap_cons, h k List.mem_cons_self, List.map_cons, fm_map ks fun j hj => h j (List.mem_cons_of_mem _ hj)]
theorem revS_S (l : List Nat) : revS (S l) = S l.reverse := by
  unfold revS
  rw [PyProof.Rows.picked_rev, S_len]
  have : (((List.range l.length).map fun k => l.length - 1 - k).filterMap ((S l).cps[·]?)) = l.reverse := by
    apply List.ext_getElem?
    intro i
    rw [List.filterMap_map]
    have e : (List.range l.length).filterMap ((fun x => (S l).cps[x]?) ∘ fun k => l.length - 1 - k) = (List.range l.length).map fun k => l.getD (l.length - 1 - k) 0 := by
      apply fm_map
      intro k hk
      have := List.mem_range.mp hk
      simp only [Function.comp]
      rw [show (S l).cps[l.length - 1 - k]? = l[l.length - 1 - k]? by simp [S]]
      rw [List.getElem?_eq_getElem (by omega)]
      simp [List.getD_eq_getElem?_getD, List.getElem?_eq_getElem (show l.length - 1 - k < l.length by omega)]
    rw [e, List.getElem?_map]
    by_cases hi : i < l.length
    · rw [List.getElem?_range hi, List.getElem?_reverse hi, List.getElem?_eq_getElem (by omega)]
      simp [List.getD_eq_getElem?_getD, List.getElem?_eq_getElem (show l.length - 1 - i < l.length by omega)]
    · rw [List.getElem?_eq_none (by simp; omega), List.getElem?_eq_none (by simp; omega)]
      rfl
  rw [this]
@[simp] theorem rev_S {l : List Nat} : revD (dS l) = if l.length ≤ LIM then some (.at_ (.val (dS l.reverse))) else none := by
  show (if (revS (S l)).length ≤ LIM then some (Res.at_ (.val (.str (revS (S l))))) else none) = _
  rw [revS_S, S_len, List.length_reverse]
@[simp] theorem rev_lst {xs : List D} : revD (.lst xs) = some (.frs (.lst (xs.reverse.map .fro))) := (rfl)
@[simp] theorem len_S {l : List Nat} : biF .len [dS l] = if l.length ≤ LIM then some (.at_ (.val (.int l.length))) else none := by
  show (if (S l).length ≤ LIM then some (Res.at_ (.val (.int (S l).length))) else none) = _
  rw [S_len]
@[simp] theorem len_lst {l : List D} : biF .len [.lst l] = some (.at_ (.val (.int l.length))) := (rfl)
@[simp] theorem len_tup {l : List D} : biF .len [.tup l] = some (.at_ (.val (.int l.length))) := (rfl)
@[simp] theorem list_S {l : List Nat} : biF .list [dS l] = if l.length ≤ LIM then some (.frs (.lst ((l.map fun c => dS [c]).map .fro))) else none := by
  show (if (S l).length ≤ LIM then some (Res.frs (.lst ((S l).cps.toList.map fun c => .fro (.str ⟨#[c]⟩)))) else none) = _
  rw [S_len, S_cps, List.map_map]
  rfl
@[simp] theorem list_lst {l : List D} : biF .list [.lst l] = some (.frs (.lst (l.map .fro))) := (rfl)
@[simp] theorem list_tup {l : List D} : biF .list [.tup l] = some (.frs (.lst (l.map .fro))) := (rfl)
@[simp] theorem tuple_lst {l : List D} : biF .tuple [.lst l] = some (.at_ (.val (.tup l))) := (rfl)
@[simp] theorem int_int {i : Int} : biF .int [.int i] = some (.at_ (.val (.int i))) := (rfl)
@[simp] theorem int_bl {i : Bool} : biF .int [.bl i] = some (.at_ (.val (.int (if i then 1 else 0)))) := (rfl)
@[simp] theorem abs_int {i : Int} : biF .abs [.int i] = some (.at_ (.val (.int (if i < 0 then -i else i)))) := (rfl)
@[simp] theorem max_int {i j : Int} : biF .max2 [.int i, .int j] = some (.at_ (.val (.int (if j > i then j else i)))) := (rfl)
theorem blsD_map (bs : List Bool) : blsD (bs.map .bl) = some bs := by
  induction bs with
  | nil => rfl
  | cons b bs ih => simp [blsD, ih]
theorem intsD_map (bs : List Int) : intsD (bs.map .int) = some bs := by
  induction bs with
  | nil => rfl
  | cons b bs ih => simp [intsD, ih]
theorem strsD_map (bs : List (List Nat)) : strsD (bs.map dS) = some (bs.map S) := by
  induction bs with
  | nil => rfl
  | cons b bs ih => simp [strsD, ih]
@[simp] theorem all_bl {bs : List Bool} : biF .all [.lst (bs.map .bl)] = some (.at_ (.val (.bl (bs.all id)))) := by
  show (blsD (bs.map .bl)).map _ = _
  rw [blsD_map]; rfl
@[simp] theorem sum_int {bs : List Int} : biF .sum [.lst (bs.map .int)] = some (.at_ (.val (.int bs.sum))) := by
  show (intsD (bs.map .int)).map _ = _
  rw [intsD_map]; rfl
theorem joinL_nil : ∀ ys : List (List Nat), TL.joinL [] ys = ys.flatten := by
  intro ys
  induction ys with
  | nil => rfl
  | cons y ys ih =>
    cases ys with
    | nil => simp [TL.joinL]
    | cons z zs => rw [List.flatten_cons, ← ih]; simp [TL.joinL]
@[simp] theorem join_S {ys : List (List Nat)} : mtF .join (dS []) [.lst (ys.map dS)] = if ys.flatten.length ≤ LIM then some (.at_ (.val (dS ys.flatten))) else none := by
  show (match strsD (ys.map dS) with
    | some zs => if (S []).length * zs.length + (zs.map fun z : Str => z.length).sum ≤ LIM then some (Res.at_ (.val (.str (PySem.Txt.join (S []) zs)))) else none
    | none => none) = _
  rw [strsD_map]
  dsimp only
  rw [SX.join_S, joinL_nil, S_len, SX.lens, List.length_flatten]
  simp
@[simp] theorem join_S1 {l : List Nat} : mtF .join (dS []) [.lst (l.map fun c => dS [c])] = if l.length ≤ LIM then some (.at_ (.val (dS l))) else none := by
  have h : (l.map fun c => dS [c]) = (l.map fun c => [c]).map dS := by rw [List.map_map]; rfl
  have e : (l.map fun c => [c]).flatten = l := by
    induction l with
    | nil => rfl
    | cons c l ih => simp_all
  rw [h, join_S, e]
@[simp] theorem sub_lst {xs : List OD} {p : Nat} {v : OD} : subF (.lst xs) (.int (p : Int)) v = if p < xs.length then some (.lst (xs.set p v)) else none := by
  show (match L2.ixN xs.length (p : Int) with
    | some j => some (OD.lst (xs.set j v))
    | none => none) = _
  unfold L2.ixN
  by_cases h : p < xs.length
  · rw [if_pos (by omega), if_pos (by omega), if_pos h, Int.toNat_natCast]
  · rw [if_pos (by omega), if_neg (by omega), if_neg h]
theorem ix_Smod {l : List Nat} {r m : Nat} : ixD (dS l) (.int ((r : Int) % (m : Int))) = if l.length ≤ LIM then l[r % m]?.map fun c => dS [c] else none := by
  rw [← Int.natCast_emod, ix_S]
@[simp] theorem mtT_join {l : Str} : mtT .join (.str l) = true := (rfl)
@[simp] theorem truthy_bl {b : Bool} : truthy (.bl b) = some b := (rfl)
@[simp] theorem it_lst {l : List D} : itF .seq [.lst l] = some l := (rfl)
@[simp] theorem it_tup {l : List D} : itF .seq [.tup l] = some l := (rfl)
@[simp] theorem it_S {l : List Nat} : itF .seq [dS l] = if l.length ≤ LIM then some (l.map fun c => dS [c]) else none := by
  show (if (S l).length ≤ LIM then some ((S l).cps.toList.map fun c => D.str ⟨#[c]⟩) else none) = _
  rw [S_len, S_cps]
@[simp] theorem it_rng {n : Nat} : itF .rng [.int (n : Int)] = if n < LIM then some ((List.range n).map fun (i : Nat) => .int (i : Int)) else none := by
  show (if -(2 ^ 62) ≤ (n : Int) ∧ (n : Int).toNat < LIM then some ((List.range (n : Int).toNat).map fun (i : Nat) => D.int (i : Int)) else none) = _
  by_cases h : n < LIM
  · rw [if_pos h, if_pos (by omega)]; rfl
  · rw [if_neg h, if_neg (by omega)]
@[simp] theorem it_enumS {l : List Nat} : itF .enum [dS l] = if l.length ≤ LIM then some (l.zipIdx.map fun p => .tup [.int p.2, dS [p.1]]) else none := by
  show (if (S l).length ≤ LIM then some ((S l).cps.toList.zipIdx.map fun (c, i) => D.tup [.int i, .str ⟨#[c]⟩]) else none) = _
  rw [S_len, S_cps]
@[simp] theorem isi_int {i : Int} {T : String} : biF (.isinst [T]) [.int i] = some (.at_ (.val (.bl (decide ("int" = T))))) := by
  show some (Res.at_ (.val (.bl ([T].any fun c => isOne "int" c)))) = _
  simp [isOne]
@[simp] theorem isi_str {i : Str} {T : String} : biF (.isinst [T]) [.str i] = some (.at_ (.val (.bl (decide ("str" = T))))) := by
  show some (Res.at_ (.val (.bl ([T].any fun c => isOne "str" c)))) = _
  simp [isOne]
@[simp] theorem isi_lst {i : List D} {T : String} : biF (.isinst [T]) [.lst i] = some (.at_ (.val (.bl (decide ("list" = T))))) := by
  show some (Res.at_ (.val (.bl ([T].any fun c => isOne "list" c)))) = _
  simp [isOne]
@[simp] theorem isi_bl {i : Bool} {T : String} : biF (.isinst [T]) [.bl i] = some (.at_ (.val (.bl (decide ("bool" = T) || decide (T = "int"))))) := by
  show some (Res.at_ (.val (.bl ([T].any fun c => isOne "bool" c)))) = _
  simp [isOne]
/-! ### methods that change their object -/
@[simp] theorem muT_append {xs : List OD} : muT .append (.lst xs) = true := (rfl)
@[simp] theorem muT_popAt {xs : List OD} : muT .popAt (.lst xs) = true := (rfl)
@[simp] theorem muT_insert {xs : List OD} : muT .insert (.lst xs) = true := (rfl)
@[simp] theorem muT_extend {xs : List OD} : muT .extend (.lst xs) = true := (rfl)
@[simp] theorem muF_append {ys : List OD} {x : OD} : muF .append (.lst ys) [x] = if ys.length < LIM then some (.at_ (.val .non), .lst (ys ++ [x])) else none := (rfl)
@[simp] theorem muF_extend {ys : List OD} {zs : List D} : muF .extend (.lst ys) [.fro (.lst zs)] = if ys.length + zs.length ≤ LIM then some (.at_ (.val .non), .lst (ys ++ zs.map .fro)) else none := (rfl)
@[simp] theorem muF_extendT {ys zs : List OD} : muF .extend (.lst ys) [.lst zs] = if ys.length + zs.length ≤ LIM then (flats zs).map fun zs => (.at_ (.val .non), .lst (ys ++ zs.map .fro)) else none := (rfl)
@[simp] theorem muF_insert {ys : List OD} {i : Nat} {x : OD} : muF .insert (.lst ys) [.fro (.int (i : Int)), x] = if ys.length < LIM ∧ i ≤ ys.length then some (.at_ (.val .non), .lst (ys.take i ++ x :: ys.drop i)) else none := by
  show (if ys.length < LIM ∧ 0 ≤ (i : Int) ∧ (i : Int) ≤ ys.length then some (Res.at_ (.val .non), OD.lst (ys.take (i : Int).toNat ++ x :: ys.drop (i : Int).toNat)) else none) = _
  by_cases h : ys.length < LIM ∧ i ≤ ys.length
  · rw [if_pos ⟨h.1, by omega, by omega⟩, if_pos h]; rfl
  · rw [if_neg (fun h' => h ⟨h'.1, by omega⟩), if_neg h]
theorem muF_popAt {ys : List D} {i : Nat} {d : D} (hd : ys[i]? = some d) (hl : ys.length ≤ 10000) : muF .popAt (.lst (ys.map .fro)) [.fro (.int (i : Int))] = some (.at_ (.val d), .lst ((ys.eraseIdx i).map .fro)) := by
  have hi : i < ys.length := (List.getElem?_eq_some_iff.mp hd).1
  have hs : PySem.seqIndex? (i : Int) (ys.map OD.fro).length = some i := by
    rw [List.length_map]
    unfold PySem.seqIndex?
    have h0 : ¬ ((i : Int) < 0) := by omega
    simp only [if_neg h0]
    simp [hi]
  show (if -(2 ^ 63) ≤ (i : Int) ∧ (i : Int).toNat < 2 ^ 63 then (match PySem.seqIndex? (i : Int) (ys.map OD.fro).length with
      | some k => (match (ys.map OD.fro)[k]? with
        | some (.fro d) => some (Res.at_ (.val d), OD.lst ((ys.map OD.fro).eraseIdx k))
        | _ => none)
      | none => none) else none) = _
  rw [if_pos ⟨by omega, by omega⟩, hs]
  have he : ∀ (ys : List D) (i : Nat), (ys.map OD.fro).eraseIdx i = (ys.eraseIdx i).map OD.fro := by
    intro ys
    induction ys with
    | nil => intro i; rfl
    | cons y ys ih => intro i; cases i with
      | zero => rfl
      | succ i => simp [ih]
  simp [hd, he]
end PS
end

section
set_option Elab.async false
set_option linter.all false
set_option maxRecDepth 100000
set_option maxHeartbeats 4000000
namespace LawK01
open PV PySem PySem.Spec PyProof.Rows L2 He
def top (i : Nat) : Stmt := PySem.Challenge.pw_mendedtexts_k01_letters_and_fillings.main.body.getD i (.Pass ⟨0, 0, 0, 0⟩)
def clsBody : Stmt → List Stmt
  | .ClassDef _ _ _ b _ _ _ _ _ _ _ => b
  | _ => []
abbrev sc_t_is_token : Scope := (scp [("thing", .local), ("isinstance", .globalImplicit), ("str", .globalImplicit), ("len", .globalImplicit), ("TOKENS", .globalImplicit)])
abbrev n_is_token : List Str := ["thing"]
abbrev p_is_token : List Str := ["thing"]
def d_is_token : DefD := ⟨("is_token", none), "is_token", "is_token", defArgs (top 12), defBody (top 12), sc_t_is_token, [], []⟩
theorem sc_is_token : FnScope n_is_token p_is_token sc_t_is_token := ⟨rfl, rfl, rfl, by decide +kernel, rfl, by decide +kernel, by decide +kernel⟩
def c_is_token : CS := .ret (.and_ (.bi (.isinst ["str"]) [.var 0]) (.and_ (.cmp .eq (.bi .len [.var 0]) (.cst (.int 1))) (.cmp .mem (.var 0) (.cst (.str "abcdef")))))
abbrev sc_t_is_row : Scope := (scp [("letters", .cell), ("fewest", .local), ("len", .globalImplicit), ("TOKENS", .globalImplicit)] [("fast", .str "letters"), ("fast", .str "fewest"), ("fast", .str "token")])
abbrev n_is_row : List Str := ["letters", "fewest", "token"]
abbrev p_is_row : List Str := ["letters", "fewest"]
def d_is_row : DefD := ⟨("is_row", none), "is_row", "is_row", defArgs (top 13), defBody (top 13), sc_t_is_row, [], []⟩
theorem sc_is_row : FnScope n_is_row p_is_row sc_t_is_row := ⟨rfl, rfl, rfl, by decide +kernel, rfl, by decide +kernel, by decide +kernel⟩
theorem bk_is_row_0 : BlkOk n_is_row sc_t_is_row (scp [(".0", .local), ("token", .local), ("letters", .free)]) [("token", 2)] := ⟨rfl, by decide +kernel, by decide +kernel, by decide +kernel, by decide +kernel⟩
def c_is_row : CS := .ret (.and_ (.cmp .ge (.bi .len [.var 0]) (.var 1)) (.cmp .eq (.var 0) (.mt .join (.cst (.str "")) [.lc (.nm 2) [2] .seq [.cst (.str "abcdef")] [.tru (.cmp .mem (.var 2) (.var 0))] (.var 2)])))
abbrev sc_t_wrong_sign : Scope := (scp [("text", .local), ("letters", .local), ("at", .local), ("sign", .local), ("enumerate", .globalImplicit), ("STRANGER", .globalImplicit), ("HOLE", .globalImplicit)])
abbrev n_wrong_sign : List Str := ["text", "letters", "at", "sign"]
abbrev p_wrong_sign : List Str := ["text", "letters"]
def d_wrong_sign : DefD := ⟨("wrong_sign", none), "wrong_sign", "wrong_sign", defArgs (top 14), defBody (top 14), sc_t_wrong_sign, [.str "abcdef"], []⟩
theorem sc_wrong_sign : FnScope n_wrong_sign p_wrong_sign sc_t_wrong_sign := ⟨rfl, rfl, rfl, by decide +kernel, rfl, by decide +kernel, by decide +kernel⟩
def c_wrong_sign : CS := .seq (.for_ (.tup [2, 3]) .enum [.var 0] (.ite (.and_ (.tru (.cmp .nmem (.var 3) (.var 1))) (.and_ (.tru (.cmp .ne (.var 3) (.cst (.str "z")))) (.tru (.cmp .ne (.var 3) (.cst (.str "?")))))) (.ret (.var 2)) (.skip))) (.ret (.cst .non))
abbrev sc_t_first_wrong : Scope := (scp [("text", .local), ("letters", .local), ("at", .local), ("wrong_sign", .globalImplicit), ("len", .globalImplicit), ("MOST_LETTERS", .globalImplicit)])
abbrev n_first_wrong : List Str := ["text", "letters", "at"]
abbrev p_first_wrong : List Str := ["text", "letters"]
def d_first_wrong : DefD := ⟨("first_wrong", none), "first_wrong", "first_wrong", defArgs (top 15), defBody (top 15), sc_t_first_wrong, [.str "abcdef"], []⟩
theorem sc_first_wrong : FnScope n_first_wrong p_first_wrong sc_t_first_wrong := ⟨rfl, rfl, rfl, by decide +kernel, rfl, by decide +kernel, by decide +kernel⟩
def c_first_wrong : CS := .seq (.set 2 (.call "wrong_sign" [.var 0, .var 1] [] [0, 1])) (.seq (.ite (.and_ (.tru (.cmp .is_ (.var 2) (.cst .non))) (.tru (.cmp .gt (.bi .len [.var 0]) (.cst (.int 12))))) (.ret (.cst (.int 12))) (.skip)) (.ret (.var 2)))
abbrev sc_t_check_text : Scope := (scp [("text", .local), ("letters", .local), ("at", .local), ("first_wrong", .globalImplicit), ("BadText", .globalImplicit)])
abbrev n_check_text : List Str := ["text", "letters", "at"]
abbrev p_check_text : List Str := ["text", "letters"]
def d_check_text : DefD := ⟨("check_text", none), "check_text", "check_text", defArgs (top 16), defBody (top 16), sc_t_check_text, [.str "abcdef"], []⟩
theorem sc_check_text : FnScope n_check_text p_check_text sc_t_check_text := ⟨rfl, rfl, rfl, by decide +kernel, rfl, by decide +kernel, by decide +kernel⟩
def c_check_text : CS := .seq (.set 2 (.call "first_wrong" [.var 0, .var 1] [] [0, 1])) (.ite (.tru (.cmp .isnot (.var 2) (.cst .non))) (.raise_ "BadText" "at" true (.var 2)) (.skip))
abbrev sc_t_hole_places : Scope := (scp [("text", .local), ("check_text", .globalImplicit), ("enumerate", .globalImplicit)] [("fast", .str "text"), ("fast", .str "at"), ("fast", .str "sign")])
abbrev n_hole_places : List Str := ["text", "at", "sign"]
abbrev p_hole_places : List Str := ["text"]
def d_hole_places : DefD := ⟨("hole_places", none), "hole_places", "hole_places", defArgs (top 17), defBody (top 17), sc_t_hole_places, [], []⟩
theorem sc_hole_places : FnScope n_hole_places p_hole_places sc_t_hole_places := ⟨rfl, rfl, rfl, by decide +kernel, rfl, by decide +kernel, by decide +kernel⟩
theorem bk_hole_places_0 : BlkOk n_hole_places sc_t_hole_places (scp [(".0", .local), ("at", .local), ("sign", .local), ("HOLE", .globalImplicit)]) [("at", 1), ("sign", 2)] := ⟨rfl, by decide +kernel, by decide +kernel, by decide +kernel, by decide +kernel⟩
def c_hole_places : CS := .seq (.expr (.call "check_text" [.var 0] [(.str "abcdef")] [0, 1])) (.ret (.lc (.tup [1, 2]) [1, 2] .enum [.var 0] [.tru (.cmp .eq (.var 2) (.cst (.str "?")))] (.var 1)))
abbrev sc_t_mirrored : Scope := (scp [("text", .local), ("check_text", .globalImplicit)])
abbrev n_mirrored : List Str := ["text"]
abbrev p_mirrored : List Str := ["text"]
def d_mirrored : DefD := ⟨("mirrored", none), "mirrored", "mirrored", defArgs (top 18), defBody (top 18), sc_t_mirrored, [], []⟩
theorem sc_mirrored : FnScope n_mirrored p_mirrored sc_t_mirrored := ⟨rfl, rfl, rfl, by decide +kernel, rfl, by decide +kernel, by decide +kernel⟩
def c_mirrored : CS := .seq (.expr (.call "check_text" [.var 0] [(.str "abcdef")] [0, 1])) (.ret (.rev (.var 0)))
abbrev sc_t_fillings : Scope := (scpG [("text", .local), ("letters", .local), ("places", .local), ("found", .local), ("number", .local), ("hole_places", .globalImplicit), ("is_row", .globalImplicit), ("BadLetters", .globalImplicit), ("filling_count", .globalImplicit), ("len", .globalImplicit), ("MOST_FILLINGS", .globalImplicit), ("TooMany", .globalImplicit), ("range", .globalImplicit), ("filled", .globalImplicit)])
abbrev n_fillings : List Str := ["text", "letters", "places", "found", "number"]
abbrev p_fillings : List Str := ["text", "letters"]
def d_fillings : DefD := ⟨("fillings", none), "fillings", "fillings", defArgs (top 19), defBody (top 19), sc_t_fillings, [], []⟩
theorem sc_fillings : GScope n_fillings p_fillings sc_t_fillings := ⟨rfl, rfl, rfl, by decide +kernel, rfl, by decide +kernel, by decide +kernel⟩
def c_fillings : CG := .seq (.plain (.set 2 (.call "hole_places" [.var 0] [] [0]))) (.seq (.plain (.ite (.not_ (.tru (.call "is_row" [.var 1, .cst (.int 1)] [] [0, 1]))) (.raise_ "BadLetters" "given" false (.var 1)) (.skip))) (.seq (.plain (.set 3 (.call "filling_count" [.bi .len [.var 2], .bi .len [.var 1]] [] [0, 1]))) (.seq (.plain (.ite (.tru (.cmp .gt (.var 3) (.cst (.int 2000)))) (.raise_ "TooMany" "found" true (.var 3)) (.skip))) (.for_ (.nm 4) .rng [.var 3] (.yield_ (.call "filled" [.var 0, .var 2, .var 1, .var 4] [] [0, 1, 2, 3]))))))
abbrev sc_t_filling_count : Scope := (scp [("holes", .local), ("size", .local), ("found", .local), ("_", .local), ("range", .globalImplicit)])
abbrev n_filling_count : List Str := ["holes", "size", "found", "_"]
abbrev p_filling_count : List Str := ["holes", "size"]
def d_filling_count : DefD := ⟨("filling_count", none), "filling_count", "filling_count", defArgs (top 20), defBody (top 20), sc_t_filling_count, [], []⟩
theorem sc_filling_count : FnScope n_filling_count p_filling_count sc_t_filling_count := ⟨rfl, rfl, rfl, by decide +kernel, rfl, by decide +kernel, by decide +kernel⟩
def c_filling_count : CS := .seq (.set 2 (.cst (.int 1))) (.seq (.for_ (.nm 3) .rng [.var 0] (.set 2 (.bin .mul (.var 2) (.var 1)))) (.ret (.var 2)))
abbrev sc_t_filled : Scope := (scp [("text", .local), ("places", .local), ("letters", .local), ("number", .local), ("signs", .local), ("rest", .local), ("place", .local), ("list", .globalImplicit), ("len", .globalImplicit)])
abbrev n_filled : List Str := ["text", "places", "letters", "number", "signs", "rest", "place"]
abbrev p_filled : List Str := ["text", "places", "letters", "number"]
def d_filled : DefD := ⟨("filled", none), "filled", "filled", defArgs (top 21), defBody (top 21), sc_t_filled, [], []⟩
theorem sc_filled : FnScope n_filled p_filled sc_t_filled := ⟨rfl, rfl, rfl, by decide +kernel, rfl, by decide +kernel, by decide +kernel⟩
def c_filled : CS := .seq (.set 4 (.bi .list [.var 0])) (.seq (.set 5 (.var 3)) (.seq (.for_ (.nm 6) .seq [.rev (.var 1)] (.seq (.sub (.var 4) (.var 6) (.ix (.var 2) (.bin .mod (.var 5) (.bi .len [.var 2])))) (.set 5 (.bin .fdiv (.var 5) (.bi .len [.var 2]))))) (.ret (.mt .join (.cst (.str "")) [.var 4]))))
abbrev sc_t_strange : Scope := (scp [("text", .local), ("places", .cell), ("place", .local), ("check_text", .globalImplicit), ("len", .globalImplicit), ("NoPlace", .globalImplicit), ("enumerate", .globalImplicit)] [("fast", .str "text"), ("fast", .str "places"), ("fast", .str "place"), ("fast", .str "at"), ("fast", .str "sign")])
abbrev n_strange : List Str := ["text", "places", "place", "at", "sign"]
abbrev p_strange : List Str := ["text", "places"]
def d_strange : DefD := ⟨("strange", none), "strange", "strange", defArgs (top 22), defBody (top 22), sc_t_strange, [], []⟩
theorem sc_strange : FnScope n_strange p_strange sc_t_strange := ⟨rfl, rfl, rfl, by decide +kernel, rfl, by decide +kernel, by decide +kernel⟩
theorem bk_strange_0 : BlkOk n_strange sc_t_strange (scp [(".0", .local), ("at", .local), ("sign", .local), ("STRANGER", .globalImplicit), ("places", .free)]) [("at", 3), ("sign", 4)] := ⟨rfl, by decide +kernel, by decide +kernel, by decide +kernel, by decide +kernel⟩
def c_strange : CS := .seq (.expr (.call "check_text" [.var 0] [(.str "abcdef")] [0, 1])) (.seq (.for_ (.nm 2) .seq [.var 1] (.ite (.not_ (.tru (.chn .le .lt (.cst (.int 0)) (.var 2) (.bi .len [.var 0])))) (.raise_ "NoPlace" "place" true (.var 2)) (.skip))) (.ret (.mt .join (.cst (.str "")) [.lc (.tup [3, 4]) [3, 4] .enum [.var 0] [] (.ite (.tru (.cmp .mem (.var 3) (.var 1))) (.cst (.str "z")) (.var 4))])))
abbrev sc_t_check_moves : Scope := (scp [("moves", .local), ("keys", .local), ("values", .local), ("key", .local), ("value", .local), ("list", .globalImplicit), ("is_token", .globalImplicit), ("BadLetters", .globalImplicit)])
abbrev n_check_moves : List Str := ["moves", "keys", "values", "key", "value"]
abbrev p_check_moves : List Str := ["moves"]
def d_check_moves : DefD := ⟨("check_moves", none), "check_moves", "check_moves", defArgs (top 23), defBody (top 23), sc_t_check_moves, [], []⟩
theorem sc_check_moves : FnScope n_check_moves p_check_moves sc_t_check_moves := ⟨rfl, rfl, rfl, by decide +kernel, rfl, by decide +kernel, by decide +kernel⟩
def c_check_moves : CS := .seq (.set 1 (.bi .list [.var 0])) (.seq (.set 2 (.lst [])) (.for_ (.nm 3) .seq [.var 1] (.seq (.set 4 (.dix (.var 0) (.var 3))) (.seq (.ite (.or_ (.not_ (.tru (.call "is_token" [.var 3] [] [0]))) (.or_ (.tru (.cmp .nmem (.var 4) (.var 1))) (.tru (.cmp .mem (.var 4) (.var 2))))) (.raise_ "BadLetters" "given" false (.var 3)) (.skip)) (.expr (.mu .append (.var 2) [.var 4]))))))
abbrev sc_t_recast : Scope := (scp [("text", .local), ("moves", .cell), ("check_text", .globalImplicit), ("check_moves", .globalImplicit)] [("fast", .str "text"), ("fast", .str "moves"), ("fast", .str "sign")])
abbrev n_recast : List Str := ["text", "moves", "sign"]
abbrev p_recast : List Str := ["text", "moves"]
def d_recast : DefD := ⟨("recast", none), "recast", "recast", defArgs (top 24), defBody (top 24), sc_t_recast, [], []⟩
theorem sc_recast : FnScope n_recast p_recast sc_t_recast := ⟨rfl, rfl, rfl, by decide +kernel, rfl, by decide +kernel, by decide +kernel⟩
theorem bk_recast_0 : BlkOk n_recast sc_t_recast (scp [(".0", .local), ("sign", .local), ("moves", .free)]) [("sign", 2)] := ⟨rfl, by decide +kernel, by decide +kernel, by decide +kernel, by decide +kernel⟩
def c_recast : CS := .seq (.expr (.call "check_text" [.var 0] [(.str "abcdef")] [0, 1])) (.seq (.expr (.call "check_moves" [.var 1] [] [0])) (.ret (.mt .join (.cst (.str "")) [.lc (.nm 2) [2] .seq [.var 0] [] (.mt .get2 (.var 1) [.var 2, .var 2])])))
abbrev sc_t__law_pool : Scope := (scp [("script", .local), ("pool", .local), ("spare", .local), ("sum", .globalImplicit)] [("fast", .str "script"), ("fast", .str "cell"), ("fast", .str "pool"), ("fast", .str "spare")])
abbrev n__law_pool : List Str := ["script", "pool", "spare", "cell"]
abbrev p__law_pool : List Str := ["script"]
def d__law_pool : DefD := ⟨("_law_pool", none), "_law_pool", "_law_pool", defArgs (top 26), defBody (top 26), sc_t__law_pool, [], []⟩
theorem sc__law_pool : FnScope n__law_pool p__law_pool sc_t__law_pool := ⟨rfl, rfl, rfl, by decide +kernel, rfl, by decide +kernel, by decide +kernel⟩
theorem bk__law_pool_0 : BlkOk n__law_pool sc_t__law_pool (scp [(".0", .local), ("cell", .local), ("abs", .globalImplicit)]) [("cell", 3)] := ⟨rfl, by decide +kernel, by decide +kernel, by decide +kernel, by decide +kernel⟩
def c__law_pool : CS := .seq (.set 1 (.lc (.nm 3) [3] .seq [.sl (.var 0) (none) (some (.cst (.int 63)))] [] (.bin .mod (.bi .abs [.var 3]) (.bin .pow (.cst (.int 10)) (.cst (.int 60)))))) (.seq (.set 2 (.cst (.int 27182818284590452353602874713526624977572470936999595749669676277240766303535475945713821785))) (.ret (.bin .add (.var 1) (.lst [.bin .add (.bin .pow (.var 2) (.cst (.int 3))) (.bin .mul (.cst (.int 1009)) (.bi .sum [.var 1]))]))))
abbrev sc_t__law_draw : Scope := (scp [("pool", .local), ("many", .local), ("digit", .local), ("int", .globalImplicit), ("len", .globalImplicit)])
abbrev n__law_draw : List Str := ["pool", "many", "digit"]
abbrev p__law_draw : List Str := ["pool", "many"]
def d__law_draw : DefD := ⟨("_law_draw", none), "_law_draw", "_law_draw", defArgs (top 27), defBody (top 27), sc_t__law_draw, [], []⟩
theorem sc__law_draw : FnScope n__law_draw p__law_draw sc_t__law_draw := ⟨rfl, rfl, rfl, by decide +kernel, rfl, by decide +kernel, by decide +kernel⟩
def c__law_draw : CS := .seq (.set 2 (.bin .mod (.bi .int [.ix (.var 0) (.cst (.int 0))]) (.var 1))) (.seq (.sub (.var 0) (.cst (.int 0)) (.bin .fdiv (.ix (.var 0) (.cst (.int 0))) (.var 1))) (.seq (.ite (.and_ (.tru (.cmp .eq (.ix (.var 0) (.cst (.int 0))) (.cst (.int 0)))) (.tru (.cmp .gt (.bi .len [.var 0]) (.cst (.int 1))))) (.expr (.mu .popAt (.var 0) [.cst (.int 0)])) (.skip)) (.ret (.var 2))))
abbrev sc_t__law_is : Scope := (scp [("told", .cell), ("due", .cell), ("isinstance", .globalImplicit), ("bool", .globalImplicit), ("int", .globalImplicit), ("str", .globalImplicit), ("list", .globalImplicit), ("len", .globalImplicit), ("all", .globalImplicit), ("range", .globalImplicit)] [("fast", .str "told"), ("fast", .str "due"), ("fast", .str "k")])
abbrev n__law_is : List Str := ["told", "due", "k"]
abbrev p__law_is : List Str := ["told", "due"]
def d__law_is : DefD := ⟨("_law_is", none), "_law_is", "_law_is", defArgs (top 28), defBody (top 28), sc_t__law_is, [], []⟩
theorem sc__law_is : FnScope n__law_is p__law_is sc_t__law_is := ⟨rfl, rfl, rfl, by decide +kernel, rfl, by decide +kernel, by decide +kernel⟩
theorem bk__law_is_0 : BlkOk n__law_is sc_t__law_is (scp [(".0", .local), ("k", .local), ("_law_is", .globalImplicit), ("due", .free), ("told", .free)]) [("k", 2)] := ⟨rfl, by decide +kernel, by decide +kernel, by decide +kernel, by decide +kernel⟩
def c__law_is : CS := .seq (.ite (.tru (.cmp .is_ (.var 1) (.cst .non))) (.ret (.cmp .is_ (.var 0) (.cst .non))) (.skip)) (.seq (.ite (.tru (.bi (.isinst ["bool"]) [.var 1])) (.ret (.and_ (.bi (.isinst ["bool"]) [.var 0]) (.cmp .eq (.var 0) (.var 1)))) (.skip)) (.seq (.ite (.tru (.bi (.isinst ["int"]) [.var 1])) (.ret (.and_ (.bi (.isinst ["int"]) [.var 0]) (.and_ (.not_ (.tru (.bi (.isinst ["bool"]) [.var 0]))) (.cmp .eq (.var 0) (.var 1))))) (.skip)) (.seq (.ite (.tru (.bi (.isinst ["str"]) [.var 1])) (.ret (.and_ (.bi (.isinst ["str"]) [.var 0]) (.cmp .eq (.var 0) (.var 1)))) (.skip)) (.seq (.ite (.or_ (.not_ (.tru (.bi (.isinst ["list"]) [.var 0]))) (.tru (.cmp .ne (.bi .len [.var 0]) (.bi .len [.var 1])))) (.ret (.cst (.bl false))) (.skip)) (.ret (.bi .all [.lc (.nm 2) [2] .rng [.bi .len [.var 1]] [] (.callR "_law_is" [.ix (.var 0) (.var 2), .ix (.var 1) (.var 2)] [] [0, 1])]))))))
abbrev sc_t__law_letters : Scope := (scp [("pool", .local), ("left", .local), ("k", .local), ("list", .globalImplicit), ("range", .globalImplicit), ("_law_draw", .globalImplicit), ("len", .globalImplicit)])
abbrev n__law_letters : List Str := ["pool", "left", "k"]
abbrev p__law_letters : List Str := ["pool"]
def d__law_letters : DefD := ⟨("_law_letters", none), "_law_letters", "_law_letters", defArgs (top 29), defBody (top 29), sc_t__law_letters, [], []⟩
theorem sc__law_letters : FnScope n__law_letters p__law_letters sc_t__law_letters := ⟨rfl, rfl, rfl, by decide +kernel, rfl, by decide +kernel, by decide +kernel⟩
def c__law_letters : CS := .seq (.set 1 (.bi .list [.cst (.str "abcdef")])) (.seq (.for_ (.nm 2) .rng [.call "_law_draw" [.var 0, .cst (.int 6)] [] [0, 1]] (.expr (.mu .popAt (.var 1) [.call "_law_draw" [.var 0, .bi .len [.var 1]] [] [0, 1]]))) (.ret (.mt .join (.cst (.str "")) [.var 1])))
abbrev sc_t__law_text : Scope := (scp [("pool", .cell), ("size", .local), ("_law_draw", .globalImplicit), ("range", .globalImplicit)] [("fast", .str "pool"), ("fast", .str "size"), ("fast", .str "k")])
abbrev n__law_text : List Str := ["pool", "size", "k"]
abbrev p__law_text : List Str := ["pool"]
def d__law_text : DefD := ⟨("_law_text", none), "_law_text", "_law_text", defArgs (top 30), defBody (top 30), sc_t__law_text, [], []⟩
theorem sc__law_text : FnScope n__law_text p__law_text sc_t__law_text := ⟨rfl, rfl, rfl, by decide +kernel, rfl, by decide +kernel, by decide +kernel⟩
theorem bk__law_text_0 : BlkOk n__law_text sc_t__law_text (scp [(".0", .local), ("k", .local), ("_law_draw", .globalImplicit), ("pool", .free)]) [("k", 2)] := ⟨rfl, by decide +kernel, by decide +kernel, by decide +kernel, by decide +kernel⟩
def c__law_text : CS := .seq (.set 1 (.call "_law_draw" [.var 0, .cst (.int 13)] [] [0, 1])) (.ret (.mt .join (.cst (.str "")) [.lc (.nm 2) [2] .rng [.var 1] [] (.ix (.cst (.str "abcdefz?????")) (.call "_law_draw" [.var 0, .cst (.int 12)] [] [0, 1]))]))
abbrev sc_t__law_odd : Scope := (scp [("pool", .local), ("text", .local), ("signs", .local), ("sign", .local), ("at", .local), ("rest", .local), ("tail", .local), ("_law_draw", .globalImplicit), ("len", .globalImplicit)])
abbrev n__law_odd : List Str := ["pool", "text", "signs", "sign", "at", "rest", "tail"]
abbrev p__law_odd : List Str := ["pool", "text"]
def d__law_odd : DefD := ⟨("_law_odd", none), "_law_odd", "_law_odd", defArgs (top 31), defBody (top 31), sc_t__law_odd, [], []⟩
theorem sc__law_odd : FnScope n__law_odd p__law_odd sc_t__law_odd := ⟨rfl, rfl, rfl, by decide +kernel, rfl, by decide +kernel, by decide +kernel⟩
def c__law_odd : CS := .seq (.set 2 (.cst (.str " !\"#$&'()*+,-./0123456789:;<=>?@ABCDEFGHIJKLMNOPQRSTUVWXYZ[\\]^_`"))) (.seq (.set 2 (.bin .add (.var 2) (.cst (.str "abcdefghijklmnopqrstuvwxyz{|}~\n")))) (.seq (.set 3 (.ix (.var 2) (.call "_law_draw" [.var 0, .cst (.int 95)] [] [0, 1]))) (.seq (.set 4 (.call "_law_draw" [.var 0, .bin .add (.bi .len [.var 1]) (.cst (.int 1))] [] [0, 1])) (.seq (.set 5 (.sl (.var 1) (some (.bin .add (.var 4) (.call "_law_draw" [.var 0, .cst (.int 2)] [] [0, 1]))) (none))) (.seq (.set 6 (.ix (.lst [.cst (.str ""), .cst (.str ""), .cst (.str "az?"), .bin .mul (.cst (.str "?")) (.cst (.int 13))]) (.call "_law_draw" [.var 0, .cst (.int 4)] [] [0, 1]))) (.ret (.bin .add (.bin .add (.bin .add (.sl (.var 1) (none) (some (.var 4))) (.var 3)) (.var 5)) (.var 6))))))))
abbrev sc_t__law_places : Scope := (scp [("pool", .local), ("text", .local), ("places", .local), ("k", .local), ("wrong", .local), ("range", .globalImplicit), ("_law_draw", .globalImplicit), ("max", .globalImplicit), ("len", .globalImplicit)])
abbrev n__law_places : List Str := ["pool", "text", "places", "k", "wrong"]
abbrev p__law_places : List Str := ["pool", "text"]
def d__law_places : DefD := ⟨("_law_places", none), "_law_places", "_law_places", defArgs (top 32), defBody (top 32), sc_t__law_places, [], []⟩
theorem sc__law_places : FnScope n__law_places p__law_places sc_t__law_places := ⟨rfl, rfl, rfl, by decide +kernel, rfl, by decide +kernel, by decide +kernel⟩
def c__law_places : CS := .seq (.set 2 (.lst [])) (.seq (.for_ (.nm 3) .rng [.call "_law_draw" [.var 0, .cst (.int 5)] [] [0, 1]] (.expr (.mu .append (.var 2) [.call "_law_draw" [.var 0, .bi .max2 [.cst (.int 1), .bi .len [.var 1]]] [] [0, 1]]))) (.seq (.set 4 (.ix (.lst [.neg (.cst (.int 1)), .bi .len [.var 1], .cst (.int 13), .bin .pow (.cst (.int 10)) (.cst (.int 11)), .neg (.cst (.int 12)), .cst (.int 12)]) (.call "_law_draw" [.var 0, .cst (.int 6)] [] [0, 1]))) (.seq (.ite (.tru (.cmp .eq (.call "_law_draw" [.var 0, .cst (.int 2)] [] [0, 1]) (.cst (.int 1)))) (.expr (.mu .insert (.var 2) [.call "_law_draw" [.var 0, .bin .add (.bi .len [.var 2]) (.cst (.int 1))] [] [0, 1], .var 4])) (.skip)) (.ret (.var 2)))))
abbrev sc_t__law_pairs : Scope := (scp [("pool", .local), ("left", .local), ("keys", .local), ("k", .local), ("rest", .local), ("pairs", .local), ("key", .local), ("spoil", .local), ("word", .local), ("at", .local), ("list", .globalImplicit), ("range", .globalImplicit), ("_law_draw", .globalImplicit), ("len", .globalImplicit)])
abbrev n__law_pairs : List Str := ["pool", "left", "keys", "k", "rest", "pairs", "key", "spoil", "word", "at"]
abbrev p__law_pairs : List Str := ["pool"]
def d__law_pairs : DefD := ⟨("_law_pairs", none), "_law_pairs", "_law_pairs", defArgs (top 33), defBody (top 33), sc_t__law_pairs, [], []⟩
theorem sc__law_pairs : FnScope n__law_pairs p__law_pairs sc_t__law_pairs := ⟨rfl, rfl, rfl, by decide +kernel, rfl, by decide +kernel, by decide +kernel⟩
def c__law_pairs : CS := .seq (.set 1 (.bi .list [.cst (.str "abcdef")])) (.seq (.set 2 (.lst [])) (.seq (.for_ (.nm 3) .rng [.call "_law_draw" [.var 0, .cst (.int 6)] [] [0, 1]] (.expr (.mu .append (.var 2) [.mu .popAt (.var 1) [.call "_law_draw" [.var 0, .bi .len [.var 1]] [] [0, 1]]]))) (.seq (.set 4 (.bi .list [.var 2])) (.seq (.set 5 (.lst [])) (.seq (.for_ (.nm 6) .seq [.var 2] (.expr (.mu .append (.var 5) [.tup [.var 6, .mu .popAt (.var 4) [.call "_law_draw" [.var 0, .bi .len [.var 4]] [] [0, 1]]]]))) (.seq (.set 7 (.call "_law_draw" [.var 0, .cst (.int 6)] [] [0, 1])) (.seq (.set 8 (.ix (.lst [.cst (.str "z"), .cst (.str "?"), .cst (.str "ab"), .cst (.str ""), .cst (.str "A")]) (.call "_law_draw" [.var 0, .cst (.int 5)] [] [0, 1]))) (.seq (.set 9 (.call "_law_draw" [.var 0, .bin .add (.bi .len [.var 5]) (.cst (.int 1))] [] [0, 1])) (.seq (.ite (.tru (.cmp .eq (.var 7) (.cst (.int 1)))) (.expr (.mu .insert (.var 5) [.var 9, .tup [.var 8, .var 8]])) (.skip)) (.seq (.ite (.and_ (.tru (.cmp .eq (.var 7) (.cst (.int 2)))) (.tru (.cmp .lt (.var 9) (.bi .len [.var 5])))) (.sub (.var 5) (.var 9) (.tup [.ix (.ix (.var 5) (.var 9)) (.cst (.int 0)), .var 8])) (.skip)) (.seq (.ite (.and_ (.tru (.cmp .eq (.var 7) (.cst (.int 3)))) (.tru (.cmp .lt (.var 9) (.bi .len [.var 5])))) (.sub (.var 5) (.var 9) (.tup [.ix (.ix (.var 5) (.var 9)) (.cst (.int 0)), .ix (.var 1) (.cst (.int 0))])) (.skip)) (.seq (.ite (.and_ (.tru (.cmp .eq (.var 7) (.cst (.int 4)))) (.tru (.cmp .lt (.var 9) (.bi .len [.var 5])))) (.sub (.var 5) (.var 9) (.tup [.ix (.ix (.var 5) (.var 9)) (.cst (.int 0)), .ix (.ix (.var 5) (.cst (.int 0))) (.cst (.int 1))])) (.skip)) (.seq (.ite (.tru (.cmp .eq (.var 7) (.cst (.int 5)))) (.seq (.expr (.mu .append (.var 5) [.tup [.ix (.var 1) (.cst (.int 0)), .var 8]])) (.expr (.mu .append (.var 5) [.tup [.var 8, .ix (.var 1) (.cst (.int 0))]]))) (.skip)) (.ret (.var 5)))))))))))))))
abbrev sc_t__law_ask : Scope := (scp [("deed", .local), ("text", .local), ("more", .local), ("e", .local), ("other", .local), ("hole_places", .globalImplicit), ("mirrored", .globalImplicit), ("list", .globalImplicit), ("fillings", .globalImplicit), ("strange", .globalImplicit), ("recast", .globalImplicit), ("BadText", .globalImplicit), ("isinstance", .globalImplicit), ("BadLetters", .globalImplicit), ("NoPlace", .globalImplicit), ("TooMany", .globalImplicit), ("MendError", .globalImplicit), ("ValueError", .globalImplicit)])
abbrev n__law_ask : List Str := ["deed", "text", "more", "e", "other"]
abbrev p__law_ask : List Str := ["deed", "text", "more"]
def d__law_ask : DefD := ⟨("_law_ask", none), "_law_ask", "_law_ask", defArgs (top 34), defBody (top 34), sc_t__law_ask, [], []⟩
theorem sc__law_ask : FnScope n__law_ask p__law_ask sc_t__law_ask := ⟨rfl, rfl, rfl, by decide +kernel, rfl, by decide +kernel, by decide +kernel⟩
def c__law_ask : CS := .try_ (.seq (.ite (.tru (.cmp .eq (.var 0) (.cst (.str "holes")))) (.ret (.lst [.cst (.str "told"), .call "hole_places" [.var 1] [] [0]])) (.skip)) (.seq (.ite (.tru (.cmp .eq (.var 0) (.cst (.str "mirrored")))) (.ret (.lst [.cst (.str "told"), .call "mirrored" [.var 1] [] [0]])) (.skip)) (.seq (.ite (.tru (.cmp .eq (.var 0) (.cst (.str "fillings")))) (.ret (.lst [.cst (.str "told"), .call "fillings" [.var 1, .var 2] [] (List.range (2 + 0))])) (.skip)) (.seq (.ite (.tru (.cmp .eq (.var 0) (.cst (.str "strange")))) (.ret (.lst [.cst (.str "told"), .call "strange" [.var 1, .var 2] [] [0, 1]])) (.skip)) (.ret (.lst [.cst (.str "told"), .call "recast" [.var 1, .var 2] [] [0, 1]])))))) ["BadText", "BadLetters", "NoPlace", "TooMany"] [3, 3, 3, 3] [.seq (.set 4 (.exis 3 ["BadLetters", "NoPlace", "TooMany"])) (.ret (.lst [.cst (.str "BadText"), .exat 3 "at", .and_ (.exis 3 ["MendError"]) (.exis 3 ["ValueError"]), .var 4])), .seq (.set 4 (.exis 3 ["BadText", "NoPlace", "TooMany"])) (.ret (.lst [.cst (.str "BadLetters"), .exat 3 "given", .and_ (.exis 3 ["MendError"]) (.exis 3 ["ValueError"]), .var 4])), .seq (.set 4 (.exis 3 ["BadText", "BadLetters", "TooMany"])) (.ret (.lst [.cst (.str "NoPlace"), .exat 3 "place", .and_ (.exis 3 ["MendError"]) (.exis 3 ["ValueError"]), .var 4])), .seq (.set 4 (.exis 3 ["BadText", "BadLetters", "NoPlace"])) (.ret (.lst [.cst (.str "TooMany"), .exat 3 "found", .and_ (.exis 3 ["MendError"]) (.exis 3 ["ValueError"]), .var 4]))]
abbrev sc_t__law_wrong : Scope := (scp [("text", .cell), ("letters", .local), ("good", .cell), ("wrong", .local), ("range", .globalImplicit), ("len", .globalImplicit), ("int", .globalImplicit)] [("fast", .str "text"), ("fast", .str "letters"), ("fast", .str "good"), ("fast", .str "k"), ("fast", .str "wrong")])
abbrev n__law_wrong : List Str := ["text", "letters", "good", "wrong", "k"]
abbrev p__law_wrong : List Str := ["text", "letters"]
def d__law_wrong : DefD := ⟨("_law_wrong", none), "_law_wrong", "_law_wrong", defArgs (top 35), defBody (top 35), sc_t__law_wrong, [], []⟩
theorem sc__law_wrong : FnScope n__law_wrong p__law_wrong sc_t__law_wrong := ⟨rfl, rfl, rfl, by decide +kernel, rfl, by decide +kernel, by decide +kernel⟩
theorem bk__law_wrong_0 : BlkOk n__law_wrong sc_t__law_wrong (scp [(".0", .local), ("k", .local), ("good", .free), ("text", .free)]) [("k", 4)] := ⟨rfl, by decide +kernel, by decide +kernel, by decide +kernel, by decide +kernel⟩
def c__law_wrong : CS := .seq (.set 2 (.bin .add (.var 1) (.cst (.str "z?")))) (.seq (.set 3 (.lc (.nm 4) [4] .rng [.bi .len [.var 0]] [.tru (.cmp .nmem (.ix (.var 0) (.var 4)) (.var 2))] (.var 4))) (.seq (.ite (.tru (.cmp .ne (.var 3) (.lst []))) (.ret (.ix (.var 3) (.cst (.int 0)))) (.skip)) (.ret (.ix (.lst [.cst .non, .cst (.int 12)]) (.bi .int [.cmp .gt (.bi .len [.var 0]) (.cst (.int 12))])))))
abbrev sc_t__law_ascends : Scope := (scp [("letters", .local), ("signs", .cell), ("good", .local), ("rising", .local), ("list", .globalImplicit), ("range", .globalImplicit), ("len", .globalImplicit), ("all", .globalImplicit)] [("fast", .str "letters"), ("fast", .str "signs"), ("fast", .str "k"), ("fast", .str "good"), ("fast", .str "rising")])
abbrev n__law_ascends : List Str := ["letters", "signs", "good", "rising", "k"]
abbrev p__law_ascends : List Str := ["letters"]
def d__law_ascends : DefD := ⟨("_law_ascends", none), "_law_ascends", "_law_ascends", defArgs (top 36), defBody (top 36), sc_t__law_ascends, [], []⟩
theorem sc__law_ascends : FnScope n__law_ascends p__law_ascends sc_t__law_ascends := ⟨rfl, rfl, rfl, by decide +kernel, rfl, by decide +kernel, by decide +kernel⟩
theorem bk__law_ascends_0 : BlkOk n__law_ascends sc_t__law_ascends (scp [(".0", .local), ("k", .local), ("list", .globalImplicit), ("signs", .free)]) [("k", 4)] := ⟨rfl, by decide +kernel, by decide +kernel, by decide +kernel, by decide +kernel⟩
theorem bk__law_ascends_1 : BlkOk n__law_ascends sc_t__law_ascends (scp [(".0", .local), ("k", .local), ("signs", .free)]) [("k", 4)] := ⟨rfl, by decide +kernel, by decide +kernel, by decide +kernel, by decide +kernel⟩
def c__law_ascends : CS := .seq (.set 1 (.bi .list [.var 0])) (.seq (.set 2 (.lc (.nm 4) [4] .rng [.bi .len [.var 1]] [] (.cmp .mem (.ix (.var 1) (.var 4)) (.bi .list [.cst (.str "abcdef")])))) (.seq (.set 3 (.lc (.nm 4) [4] .rng [.cst (.int 1), .bi .len [.var 1]] [] (.cmp .lt (.ix (.var 1) (.bin .sub (.var 4) (.cst (.int 1)))) (.ix (.var 1) (.var 4))))) (.ret (.and_ (.bi .all [.var 2]) (.bi .all [.var 3])))))
abbrev sc_t__law_all_filled : Scope := (scp [("text", .local), ("letters", .local), ("rows", .local), ("sign", .local), ("longer", .local), ("row", .cell), ("list", .globalImplicit)] [("fast", .str "text"), ("fast", .str "letters"), ("fast", .str "rows"), ("fast", .str "sign"), ("fast", .str "longer"), ("fast", .str "row"), ("fast", .str "letter")])
abbrev n__law_all_filled : List Str := ["text", "letters", "rows", "sign", "longer", "row", "letter"]
abbrev p__law_all_filled : List Str := ["text", "letters"]
def d__law_all_filled : DefD := ⟨("_law_all_filled", none), "_law_all_filled", "_law_all_filled", defArgs (top 37), defBody (top 37), sc_t__law_all_filled, [], []⟩
theorem sc__law_all_filled : FnScope n__law_all_filled p__law_all_filled sc_t__law_all_filled := ⟨rfl, rfl, rfl, by decide +kernel, rfl, by decide +kernel, by decide +kernel⟩
theorem bk__law_all_filled_0 : BlkOk n__law_all_filled sc_t__law_all_filled (scp [(".0", .local), ("letter", .local), ("row", .free)]) [("letter", 6)] := ⟨rfl, by decide +kernel, by decide +kernel, by decide +kernel, by decide +kernel⟩
def c__law_all_filled : CS := .seq (.set 2 (.lst [.cst (.str "")])) (.seq (.for_ (.nm 3) .seq [.var 0] (.seq (.set 4 (.lst [])) (.seq (.for_ (.nm 5) .seq [.bi .list [.var 2]] (.ite (.tru (.cmp .eq (.var 3) (.cst (.str "?")))) (.expr (.mu .extend (.var 4) [.lc (.nm 6) [6] .seq [.var 1] [] (.bin .add (.var 5) (.var 6))])) (.expr (.mu .append (.var 4) [.bin .add (.var 5) (.var 3)])))) (.set 2 (.var 4))))) (.ret (.var 2)))
abbrev sc_t__law_fillings_due : Scope := (scp [("text", .local), ("letters", .local), ("at", .local), ("many", .local), ("sign", .local), ("_law_wrong", .globalImplicit), ("len", .globalImplicit), ("_law_ascends", .globalImplicit), ("_law_all_filled", .globalImplicit)])
abbrev n__law_fillings_due : List Str := ["text", "letters", "at", "many", "sign"]
abbrev p__law_fillings_due : List Str := ["text", "letters"]
def d__law_fillings_due : DefD := ⟨("_law_fillings_due", none), "_law_fillings_due", "_law_fillings_due", defArgs (top 38), defBody (top 38), sc_t__law_fillings_due, [], []⟩
theorem sc__law_fillings_due : FnScope n__law_fillings_due p__law_fillings_due sc_t__law_fillings_due := ⟨rfl, rfl, rfl, by decide +kernel, rfl, by decide +kernel, by decide +kernel⟩
def c__law_fillings_due : CS := .seq (.set 2 (.call "_law_wrong" [.var 0, .cst (.str "abcdef")] [] [0, 1])) (.seq (.ite (.tru (.cmp .isnot (.var 2) (.cst .non))) (.ret (.lst [.cst (.str "BadText"), .var 2, .cst (.bl true), .cst (.bl false)])) (.skip)) (.seq (.ite (.or_ (.not_ (.tru (.chn .le .le (.cst (.int 1)) (.bi .len [.var 1]) (.cst (.int 6))))) (.not_ (.tru (.call "_law_ascends" [.var 1] [] [0])))) (.ret (.lst [.cst (.str "BadLetters"), .var 1, .cst (.bl true), .cst (.bl false)])) (.skip)) (.seq (.set 3 (.cst (.int 1))) (.seq (.for_ (.nm 4) .seq [.var 0] (.ite (.tru (.cmp .eq (.var 4) (.cst (.str "?")))) (.set 3 (.bin .mul (.var 3) (.bi .len [.var 1]))) (.skip))) (.seq (.ite (.tru (.cmp .gt (.var 3) (.cst (.int 2000)))) (.ret (.lst [.cst (.str "TooMany"), .var 3, .cst (.bl true), .cst (.bl false)])) (.skip)) (.ret (.lst [.cst (.str "told"), .call "_law_all_filled" [.var 0, .var 1] [] [0, 1]])))))))
abbrev sc_t__law_strange_due : Scope := (scp [("text", .local), ("places", .local), ("at", .local), ("signs", .local), ("place", .local), ("_law_wrong", .globalImplicit), ("list", .globalImplicit), ("len", .globalImplicit)])
abbrev n__law_strange_due : List Str := ["text", "places", "at", "signs", "place"]
abbrev p__law_strange_due : List Str := ["text", "places"]
def d__law_strange_due : DefD := ⟨("_law_strange_due", none), "_law_strange_due", "_law_strange_due", defArgs (top 39), defBody (top 39), sc_t__law_strange_due, [], []⟩
theorem sc__law_strange_due : FnScope n__law_strange_due p__law_strange_due sc_t__law_strange_due := ⟨rfl, rfl, rfl, by decide +kernel, rfl, by decide +kernel, by decide +kernel⟩
def c__law_strange_due : CS := .seq (.set 2 (.call "_law_wrong" [.var 0, .cst (.str "abcdef")] [] [0, 1])) (.seq (.ite (.tru (.cmp .isnot (.var 2) (.cst .non))) (.ret (.lst [.cst (.str "BadText"), .var 2, .cst (.bl true), .cst (.bl false)])) (.skip)) (.seq (.set 3 (.bi .list [.var 0])) (.seq (.for_ (.nm 4) .seq [.var 1] (.seq (.ite (.or_ (.tru (.cmp .lt (.var 4) (.cst (.int 0)))) (.tru (.cmp .ge (.var 4) (.bi .len [.var 3])))) (.ret (.lst [.cst (.str "NoPlace"), .var 4, .cst (.bl true), .cst (.bl false)])) (.skip)) (.sub (.var 3) (.var 4) (.cst (.str "z"))))) (.ret (.lst [.cst (.str "told"), .mt .join (.cst (.str "")) [.var 3]])))))
abbrev sc_t__law_recast_due : Scope := (scp [("text", .local), ("pairs", .local), ("at", .local), ("pair", .local), ("keys", .local), ("values", .local), ("signs", .local), ("sign", .cell), ("here", .local), ("_law_wrong", .globalImplicit), ("list", .globalImplicit)] [("fast", .str "text"), ("fast", .str "pairs"), ("fast", .str "at"), ("fast", .str "pair"), ("fast", .str "keys"), ("fast", .str "values"), ("fast", .str "signs"), ("fast", .str "sign"), ("fast", .str "here")])
abbrev n__law_recast_due : List Str := ["text", "pairs", "at", "pair", "keys", "values", "signs", "sign", "here"]
abbrev p__law_recast_due : List Str := ["text", "pairs"]
def d__law_recast_due : DefD := ⟨("_law_recast_due", none), "_law_recast_due", "_law_recast_due", defArgs (top 40), defBody (top 40), sc_t__law_recast_due, [], []⟩
theorem sc__law_recast_due : FnScope n__law_recast_due p__law_recast_due sc_t__law_recast_due := ⟨rfl, rfl, rfl, by decide +kernel, rfl, by decide +kernel, by decide +kernel⟩
theorem bk__law_recast_due_0 : BlkOk n__law_recast_due sc_t__law_recast_due (scp [(".0", .local), ("pair", .local)]) [("pair", 3)] := ⟨rfl, by decide +kernel, by decide +kernel, by decide +kernel, by decide +kernel⟩
theorem bk__law_recast_due_1 : BlkOk n__law_recast_due sc_t__law_recast_due (scp [(".0", .local), ("pair", .local), ("sign", .free)]) [("pair", 3)] := ⟨rfl, by decide +kernel, by decide +kernel, by decide +kernel, by decide +kernel⟩
def c__law_recast_due : CS := .seq (.set 2 (.call "_law_wrong" [.var 0, .cst (.str "abcdef")] [] [0, 1])) (.seq (.ite (.tru (.cmp .isnot (.var 2) (.cst .non))) (.ret (.lst [.cst (.str "BadText"), .var 2, .cst (.bl true), .cst (.bl false)])) (.skip)) (.seq (.set 4 (.lc (.nm 3) [3] .seq [.var 1] [] (.ix (.var 3) (.cst (.int 0))))) (.seq (.set 5 (.lst [])) (.seq (.for_ (.nm 3) .seq [.var 1] (.seq (.ite (.or_ (.tru (.cmp .nmem (.ix (.var 3) (.cst (.int 0))) (.bi .list [.cst (.str "abcdef")]))) (.or_ (.tru (.cmp .nmem (.ix (.var 3) (.cst (.int 1))) (.var 4))) (.tru (.cmp .mem (.ix (.var 3) (.cst (.int 1))) (.var 5))))) (.ret (.lst [.cst (.str "BadLetters"), .ix (.var 3) (.cst (.int 0)), .cst (.bl true), .cst (.bl false)])) (.skip)) (.expr (.mu .append (.var 5) [.ix (.var 3) (.cst (.int 1))])))) (.seq (.set 6 (.lst [])) (.seq (.for_ (.nm 7) .seq [.var 0] (.seq (.set 8 (.lc (.nm 3) [3] .seq [.var 1] [.tru (.cmp .eq (.ix (.var 3) (.cst (.int 0))) (.var 7))] (.ix (.var 3) (.cst (.int 1))))) (.expr (.mu .append (.var 6) [.ix (.bin .add (.var 8) (.lst [.var 7])) (.cst (.int 0))])))) (.ret (.lst [.cst (.str "told"), .mt .join (.cst (.str "")) [.var 6]]))))))))
abbrev sc_t__law_plain_right : Scope := (scp [("text", .cell), ("letters", .local), ("at", .local), ("holes", .local), ("back", .local), ("sign", .local), ("turned", .local), ("told", .local), ("_law_is", .globalImplicit), ("first_wrong", .globalImplicit), ("_law_wrong", .globalImplicit), ("range", .globalImplicit), ("len", .globalImplicit), ("_law_ask", .globalImplicit)] [("fast", .str "text"), ("fast", .str "letters"), ("fast", .str "at"), ("fast", .str "k"), ("fast", .str "holes"), ("fast", .str "back"), ("fast", .str "sign"), ("fast", .str "turned"), ("fast", .str "told")])
abbrev n__law_plain_right : List Str := ["text", "letters", "at", "holes", "back", "sign", "turned", "told", "k"]
abbrev p__law_plain_right : List Str := ["text", "letters"]
def d__law_plain_right : DefD := ⟨("_law_plain_right", none), "_law_plain_right", "_law_plain_right", defArgs (top 41), defBody (top 41), sc_t__law_plain_right, [], []⟩
theorem sc__law_plain_right : FnScope n__law_plain_right p__law_plain_right sc_t__law_plain_right := ⟨rfl, rfl, rfl, by decide +kernel, rfl, by decide +kernel, by decide +kernel⟩
theorem bk__law_plain_right_0 : BlkOk n__law_plain_right sc_t__law_plain_right (scp [(".0", .local), ("k", .local), ("text", .free)]) [("k", 8)] := ⟨rfl, by decide +kernel, by decide +kernel, by decide +kernel, by decide +kernel⟩
def c__law_plain_right : CS := .seq (.ite (.not_ (.tru (.callR "_law_is" [.call "first_wrong" [.var 0] [(.str "abcdef")] [0, 1], .call "_law_wrong" [.var 0, .cst (.str "abcdef")] [] [0, 1]] [] [0, 1]))) (.ret (.cst (.bl false))) (.skip)) (.seq (.ite (.not_ (.tru (.callR "_law_is" [.call "first_wrong" [.var 0, .var 1] [] [0, 1], .call "_law_wrong" [.var 0, .var 1] [] [0, 1]] [] [0, 1]))) (.ret (.cst (.bl false))) (.skip)) (.seq (.ite (.not_ (.tru (.callR "_law_is" [.call "first_wrong" [.var 0, .cst (.str "ace")] [] [0, 1], .call "_law_wrong" [.var 0, .cst (.str "ace")] [] [0, 1]] [] [0, 1]))) (.ret (.cst (.bl false))) (.skip)) (.seq (.set 2 (.call "_law_wrong" [.var 0, .cst (.str "abcdef")] [] [0, 1])) (.seq (.set 3 (.lst [.cst (.str "told"), .lc (.nm 8) [8] .rng [.bi .len [.var 0]] [.tru (.cmp .eq (.ix (.var 0) (.var 8)) (.cst (.str "?")))] (.var 8)])) (.seq (.set 4 (.cst (.str ""))) (.seq (.for_ (.nm 5) .seq [.var 0] (.set 4 (.bin .add (.var 5) (.var 4)))) (.seq (.set 6 (.lst [.cst (.str "told"), .var 4])) (.seq (.ite (.tru (.cmp .isnot (.var 2) (.cst .non))) (.seq (.set 3 (.lst [.cst (.str "BadText"), .var 2, .cst (.bl true), .cst (.bl false)])) (.set 6 (.var 3))) (.skip)) (.seq (.set 7 (.call "_law_ask" [.cst (.str "holes"), .var 0, .cst .non] [] [0, 1, 2])) (.seq (.ite (.or_ (.not_ (.tru (.callR "_law_is" [.var 7, .var 3] [] [0, 1]))) (.not_ (.tru (.callR "_law_is" [.call "_law_ask" [.cst (.str "mirrored"), .var 0, .cst .non] [] [0, 1, 2], .var 6] [] [0, 1])))) (.ret (.cst (.bl false))) (.skip)) (.seq (.ite (.tru (.cmp .is_ (.var 2) (.cst .non))) (.mu2 .append 7 1 (.int 3)) (.skip)) (.ret (.callR "_law_is" [.call "_law_ask" [.cst (.str "holes"), .var 0, .cst .non] [] [0, 1, 2], .var 3] [] [0, 1])))))))))))))
abbrev sc_t__law_moved_right : Scope := (scp [("text", .local), ("places", .local), ("pairs", .local), ("handed", .local), ("due", .local), ("moves", .local), ("pair", .local), ("told", .local), ("list", .globalImplicit), ("_law_strange_due", .globalImplicit), ("_law_is", .globalImplicit), ("_law_ask", .globalImplicit), ("tuple", .globalImplicit), ("_law_recast_due", .globalImplicit)])
abbrev n__law_moved_right : List Str := ["text", "places", "pairs", "handed", "due", "moves", "pair", "told"]
abbrev p__law_moved_right : List Str := ["text", "places", "pairs"]
def d__law_moved_right : DefD := ⟨("_law_moved_right", none), "_law_moved_right", "_law_moved_right", defArgs (top 42), defBody (top 42), sc_t__law_moved_right, [], []⟩
theorem sc__law_moved_right : FnScope n__law_moved_right p__law_moved_right sc_t__law_moved_right := ⟨rfl, rfl, rfl, by decide +kernel, rfl, by decide +kernel, by decide +kernel⟩
def c__law_moved_right : CS := .seq (.set 3 (.bi .list [.var 1])) (.seq (.set 4 (.call "_law_strange_due" [.var 0, .var 1] [] [0, 1])) (.seq (.ite (.or_ (.not_ (.tru (.callR "_law_is" [.call "_law_ask" [.cst (.str "strange"), .var 0, .var 3] [] [0, 1, 2], .var 4] [] [0, 1]))) (.tru (.cmp .ne (.var 3) (.var 1)))) (.ret (.cst (.bl false))) (.skip)) (.seq (.ite (.not_ (.tru (.callR "_law_is" [.call "_law_ask" [.cst (.str "strange"), .var 0, .bi .tuple [.var 1]] [] [0, 1, 2], .var 4] [] [0, 1]))) (.ret (.cst (.bl false))) (.skip)) (.seq (.set 5 (.dic0)) (.seq (.for_ (.nm 6) .seq [.var 2] (.sub (.var 5) (.ix (.var 6) (.cst (.int 0))) (.ix (.var 6) (.cst (.int 1))))) (.seq (.set 7 (.call "_law_ask" [.cst (.str "recast"), .var 0, .var 5] [] [0, 1, 2])) (.seq (.ite (.not_ (.tru (.callR "_law_is" [.var 7, .call "_law_recast_due" [.var 0, .var 2] [] [0, 1]] [] [0, 1]))) (.ret (.cst (.bl false))) (.skip)) (.ret (.cmp .eq (.items (.var 5)) (.var 2))))))))))
abbrev sc_t_law : Scope := (scp [("script", .local), ("pool", .cell), ("letters", .local), ("text", .local), ("wide", .local), ("odd", .local), ("size", .local), ("row", .local), ("places", .local), ("pairs", .local), ("each", .local), ("due", .local), ("_law_pool", .globalImplicit), ("_law_letters", .globalImplicit), ("_law_text", .globalImplicit), ("_law_draw", .globalImplicit), ("_law_odd", .globalImplicit), ("range", .globalImplicit), ("_law_places", .globalImplicit), ("_law_pairs", .globalImplicit), ("TOKENS", .globalImplicit), ("STRANGER", .globalImplicit), ("HOLE", .globalImplicit), ("_law_plain_right", .globalImplicit), ("_law_fillings_due", .globalImplicit), ("_law_is", .globalImplicit), ("_law_ask", .globalImplicit), ("_law_moved_right", .globalImplicit)] [("fast", .str "script"), ("fast", .str "pool"), ("fast", .str "letters"), ("fast", .str "text"), ("fast", .str "wide"), ("fast", .str "odd"), ("fast", .str "size"), ("fast", .str "k"), ("fast", .str "row"), ("fast", .str "places"), ("fast", .str "pairs"), ("fast", .str "each"), ("fast", .str "due")])
abbrev n_law : List Str := ["script", "pool", "letters", "text", "wide", "odd", "size", "row", "places", "pairs", "each", "due", "k"]
abbrev p_law : List Str := ["script"]
def d_law : DefD := ⟨("law", none), "law", "law", defArgs (top 43), defBody (top 43), sc_t_law, [], []⟩
theorem sc_law : FnScope n_law p_law sc_t_law := ⟨rfl, rfl, rfl, by decide +kernel, rfl, by decide +kernel, by decide +kernel⟩
theorem bk_law_0 : BlkOk n_law sc_t_law (scp [(".0", .local), ("k", .local), ("_law_draw", .globalImplicit), ("pool", .free)]) [("k", 12)] := ⟨rfl, by decide +kernel, by decide +kernel, by decide +kernel, by decide +kernel⟩
def c_law : CS := .seq (.set 1 (.call "_law_pool" [.var 0] [] [0])) (.seq (.set 2 (.call "_law_letters" [.var 1] [] [0])) (.seq (.set 3 (.call "_law_text" [.var 1] [] [0])) (.seq (.set 4 (.sl (.bin .add (.bin .mul (.cst (.str "?")) (.call "_law_draw" [.var 1, .cst (.int 13)] [] [0, 1])) (.var 3)) (none) (some (.cst (.int 12))))) (.seq (.set 5 (.call "_law_odd" [.var 1, .var 3] [] [0, 1])) (.seq (.set 6 (.call "_law_draw" [.var 1, .cst (.int 8)] [] [0, 1])) (.seq (.set 7 (.mt .join (.cst (.str "")) [.lc (.nm 12) [12] .rng [.var 6] [] (.ix (.cst (.str "abcdefz?A")) (.call "_law_draw" [.var 1, .cst (.int 9)] [] [0, 1]))])) (.seq (.set 8 (.call "_law_places" [.var 1, .var 3] [] [0, 1])) (.seq (.set 9 (.call "_law_pairs" [.var 1] [] [0])) (.seq (.ite (.tru (.cmp .ne (.lst [.cst (.str "abcdef"), .cst (.str "z"), .cst (.str "?")]) (.lst [.cst (.str "abcdef"), .cst (.str "z"), .cst (.str "?")]))) (.ret (.cst (.bl false))) (.skip)) (.seq (.for_ (.nm 10) .seq [.lst [.var 3, .var 4, .var 5]] (.seq (.ite (.not_ (.tru (.call "_law_plain_right" [.var 10, .var 2] [] [0, 1]))) (.ret (.cst (.bl false))) (.skip)) (.seq (.set 11 (.call "_law_fillings_due" [.var 10, .var 2] [] [0, 1])) (.ite (.not_ (.tru (.callR "_law_is" [.call "_law_ask" [.cst (.str "fillings"), .var 10, .var 2] [] [0, 1, 2], .var 11] [] [0, 1]))) (.ret (.cst (.bl false))) (.skip))))) (.seq (.for_ (.nm 10) .seq [.lst [.var 3, .var 5]] (.seq (.set 11 (.call "_law_fillings_due" [.var 10, .var 7] [] [0, 1])) (.seq (.ite (.not_ (.tru (.callR "_law_is" [.call "_law_ask" [.cst (.str "fillings"), .var 10, .var 7] [] [0, 1, 2], .var 11] [] [0, 1]))) (.ret (.cst (.bl false))) (.skip)) (.seq (.ite (.not_ (.tru (.call "_law_moved_right" [.var 10, .var 8, .var 9] [] [0, 1, 2]))) (.ret (.cst (.bl false))) (.skip)) (.ite (.not_ (.tru (.call "_law_moved_right" [.var 10, .lst [], .lst []] [] [0, 1, 2]))) (.ret (.cst (.bl false))) (.skip)))))) (.ret (.cst (.bl true))))))))))))))
def tabL : List (Str × FDef) := [("is_token", .code 1 1 c_is_token), ("is_row", .code 2 3 c_is_row), ("wrong_sign", .code 2 4 c_wrong_sign), ("first_wrong", .code 2 3 c_first_wrong), ("check_text", .code 2 3 c_check_text), ("hole_places", .code 1 3 c_hole_places), ("mirrored", .code 1 1 c_mirrored), ("fillings", .gen 2 5 c_fillings), ("filling_count", .code 2 4 c_filling_count), ("filled", .code 4 7 c_filled), ("strange", .code 2 5 c_strange), ("check_moves", .code 1 5 c_check_moves), ("recast", .code 2 3 c_recast), ("_law_pool", .code 1 4 c__law_pool), ("_law_draw", .code 2 3 c__law_draw), ("_law_is", .code 2 3 c__law_is), ("_law_letters", .code 1 3 c__law_letters), ("_law_text", .code 1 3 c__law_text), ("_law_odd", .code 2 7 c__law_odd), ("_law_places", .code 2 5 c__law_places), ("_law_pairs", .code 1 10 c__law_pairs), ("_law_ask", .code 3 5 c__law_ask), ("_law_wrong", .code 2 5 c__law_wrong), ("_law_ascends", .code 1 5 c__law_ascends), ("_law_all_filled", .code 2 7 c__law_all_filled), ("_law_fillings_due", .code 2 5 c__law_fillings_due), ("_law_strange_due", .code 2 5 c__law_strange_due), ("_law_recast_due", .code 2 9 c__law_recast_due), ("_law_plain_right", .code 2 9 c__law_plain_right), ("_law_moved_right", .code 3 8 c__law_moved_right), ("law", .code 1 13 c_law)]
def tab (x : Str) : Option FDef := tabL.lookup x
theorem t_is_token : tab "is_token" = some (.code 1 1 c_is_token) := by kernel_rfl
theorem t_is_row : tab "is_row" = some (.code 2 3 c_is_row) := by kernel_rfl
theorem t_wrong_sign : tab "wrong_sign" = some (.code 2 4 c_wrong_sign) := by kernel_rfl
theorem t_first_wrong : tab "first_wrong" = some (.code 2 3 c_first_wrong) := by kernel_rfl
theorem t_check_text : tab "check_text" = some (.code 2 3 c_check_text) := by kernel_rfl
theorem t_hole_places : tab "hole_places" = some (.code 1 3 c_hole_places) := by kernel_rfl
theorem t_mirrored : tab "mirrored" = some (.code 1 1 c_mirrored) := by kernel_rfl
theorem t_fillings : tab "fillings" = some (.gen 2 5 c_fillings) := by kernel_rfl
theorem t_filling_count : tab "filling_count" = some (.code 2 4 c_filling_count) := by kernel_rfl
theorem t_filled : tab "filled" = some (.code 4 7 c_filled) := by kernel_rfl
theorem t_strange : tab "strange" = some (.code 2 5 c_strange) := by kernel_rfl
theorem t_check_moves : tab "check_moves" = some (.code 1 5 c_check_moves) := by kernel_rfl
theorem t_recast : tab "recast" = some (.code 2 3 c_recast) := by kernel_rfl
theorem t__law_pool : tab "_law_pool" = some (.code 1 4 c__law_pool) := by kernel_rfl
theorem t__law_draw : tab "_law_draw" = some (.code 2 3 c__law_draw) := by kernel_rfl
theorem t__law_is : tab "_law_is" = some (.code 2 3 c__law_is) := by kernel_rfl
theorem t__law_letters : tab "_law_letters" = some (.code 1 3 c__law_letters) := by kernel_rfl
theorem t__law_text : tab "_law_text" = some (.code 1 3 c__law_text) := by kernel_rfl
theorem t__law_odd : tab "_law_odd" = some (.code 2 7 c__law_odd) := by kernel_rfl
theorem t__law_places : tab "_law_places" = some (.code 2 5 c__law_places) := by kernel_rfl
theorem t__law_pairs : tab "_law_pairs" = some (.code 1 10 c__law_pairs) := by kernel_rfl
theorem t__law_ask : tab "_law_ask" = some (.code 3 5 c__law_ask) := by kernel_rfl
theorem t__law_wrong : tab "_law_wrong" = some (.code 2 5 c__law_wrong) := by kernel_rfl
theorem t__law_ascends : tab "_law_ascends" = some (.code 1 5 c__law_ascends) := by kernel_rfl
theorem t__law_all_filled : tab "_law_all_filled" = some (.code 2 7 c__law_all_filled) := by kernel_rfl
theorem t__law_fillings_due : tab "_law_fillings_due" = some (.code 2 5 c__law_fillings_due) := by kernel_rfl
theorem t__law_strange_due : tab "_law_strange_due" = some (.code 2 5 c__law_strange_due) := by kernel_rfl
theorem t__law_recast_due : tab "_law_recast_due" = some (.code 2 9 c__law_recast_due) := by kernel_rfl
theorem t__law_plain_right : tab "_law_plain_right" = some (.code 2 9 c__law_plain_right) := by kernel_rfl
theorem t__law_moved_right : tab "_law_moved_right" = some (.code 3 8 c__law_moved_right) := by kernel_rfl
theorem t_law : tab "law" = some (.code 1 13 c_law) := by kernel_rfl
def x_BadText : ExD := ⟨"BadText", "at", "BadText.__init__", defArgs ((clsBody (top 2)).getD 0 (.Pass ⟨0, 0, 0, 0⟩)), defBody ((clsBody (top 2)).getD 0 (.Pass ⟨0, 0, 0, 0⟩)), xS "at"⟩
def x_BadLetters : ExD := ⟨"BadLetters", "given", "BadLetters.__init__", defArgs ((clsBody (top 3)).getD 0 (.Pass ⟨0, 0, 0, 0⟩)), defBody ((clsBody (top 3)).getD 0 (.Pass ⟨0, 0, 0, 0⟩)), xS "given"⟩
def x_NoPlace : ExD := ⟨"NoPlace", "place", "NoPlace.__init__", defArgs ((clsBody (top 4)).getD 0 (.Pass ⟨0, 0, 0, 0⟩)), defBody ((clsBody (top 4)).getD 0 (.Pass ⟨0, 0, 0, 0⟩)), xS "place"⟩
def x_TooMany : ExD := ⟨"TooMany", "found", "TooMany.__init__", defArgs ((clsBody (top 5)).getD 0 (.Pass ⟨0, 0, 0, 0⟩)), defBody ((clsBody (top 5)).getD 0 (.Pass ⟨0, 0, 0, 0⟩)), xS "found"⟩
def xt : XTab := ⟨[("BadText", ["BadText", "MendError", "ValueError"]), ("BadLetters", ["BadLetters", "MendError", "ValueError"]), ("NoPlace", ["NoPlace", "MendError", "ValueError"]), ("TooMany", ["TooMany", "MendError", "ValueError"])], ["BadLetters", "BadText", "MendError", "NoPlace", "TooMany", "ValueError"], [("ValueError", "ValueError")], ["at", "found", "given", "place"]⟩
def HD : HeadD := ⟨[.free "isinstance", .free "str", .free "len", .str "TOKENS" "abcdef", .free "enumerate", .str "STRANGER" "z", .str "HOLE" "?", .int "MOST_LETTERS" 12, .int "MOST_FILLINGS" 2000, .free "range", .free "list", .free "abs", .free "sum", .free "int", .free "bool", .free "all", .free "max", .glo "TooMany", .glo "NoPlace", .glo "BadLetters", .glo "MendError", .free "ValueError", .glo "BadText", .free "tuple", .glo "is_token", .glo "is_row", .glo "wrong_sign", .glo "first_wrong", .glo "check_text", .glo "hole_places", .glo "mirrored", .glo "fillings", .glo "filling_count", .glo "filled", .glo "strange", .glo "check_moves", .glo "recast", .glo "_law_pool", .glo "_law_draw", .glo "_law_is", .glo "_law_letters", .glo "_law_text", .glo "_law_odd", .glo "_law_places", .glo "_law_pairs", .glo "_law_ask", .glo "_law_wrong", .glo "_law_ascends", .glo "_law_all_filled", .glo "_law_fillings_due", .glo "_law_strange_due", .glo "_law_recast_due", .glo "_law_plain_right", .glo "_law_moved_right", .glo "law", .free "super"], [d_is_token, d_is_row, d_wrong_sign, d_first_wrong, d_check_text, d_hole_places, d_mirrored, d_fillings, d_filling_count, d_filled, d_strange, d_check_moves, d_recast, d__law_pool, d__law_draw, d__law_is, d__law_letters, d__law_text, d__law_odd, d__law_places, d__law_pairs, d__law_ask, d__law_wrong, d__law_ascends, d__law_all_filled, d__law_fillings_due, d__law_strange_due, d__law_recast_due, d__law_plain_right, d__law_moved_right, d_law], [x_BadText, x_BadLetters, x_NoPlace, x_TooMany], xt, "/claim/cut.py"⟩
theorem bo_ValueError : bootBuiltins "ValueError" = some (.type "ValueError") := by first | boot_by_name | rfl | kernel_rfl
theorem bo_bool : bootBuiltins "bool" = some (.type "bool") := by first | boot_by_name | rfl | kernel_rfl
theorem bo_dict : bootBuiltins "dict" = some (.type "dict") := by first | boot_by_name | rfl | kernel_rfl
theorem bo_float : bootBuiltins "float" = some (.type "float") := by first | boot_by_name | rfl | kernel_rfl
theorem bo_int : bootBuiltins "int" = some (.type "int") := by first | boot_by_name | rfl | kernel_rfl
theorem bo_list : bootBuiltins "list" = some (.type "list") := by first | boot_by_name | rfl | kernel_rfl
theorem bo_str : bootBuiltins "str" = some (.type "str") := by first | boot_by_name | rfl | kernel_rfl
theorem bo_tuple : bootBuiltins "tuple" = some (.type "tuple") := by first | boot_by_name | rfl | kernel_rfl
section
variable {K : PySem.W.Frag} {mg : Str → Option Value}
theorem g_isinstance (F : Fcts HD K mg) : mg "isinstance" = none := F.free (List.mem_of_getElem? (i := 0) rfl)
theorem g_str (F : Fcts HD K mg) : mg "str" = none := F.free (List.mem_of_getElem? (i := 1) rfl)
theorem g_len (F : Fcts HD K mg) : mg "len" = none := F.free (List.mem_of_getElem? (i := 2) rfl)
theorem g_TOKENS (F : Fcts HD K mg) : ∃ t, mg "TOKENS" = some (.str "abcdef" t) := F.str (List.mem_of_getElem? (i := 3) rfl)
theorem g_enumerate (F : Fcts HD K mg) : mg "enumerate" = none := F.free (List.mem_of_getElem? (i := 4) rfl)
theorem g_STRANGER (F : Fcts HD K mg) : ∃ t, mg "STRANGER" = some (.str "z" t) := F.str (List.mem_of_getElem? (i := 5) rfl)
theorem g_HOLE (F : Fcts HD K mg) : ∃ t, mg "HOLE" = some (.str "?" t) := F.str (List.mem_of_getElem? (i := 6) rfl)
theorem g_MOST_LETTERS (F : Fcts HD K mg) : ∃ t, mg "MOST_LETTERS" = some (.int 12 t) := F.int (List.mem_of_getElem? (i := 7) rfl)
theorem g_MOST_FILLINGS (F : Fcts HD K mg) : ∃ t, mg "MOST_FILLINGS" = some (.int 2000 t) := F.int (List.mem_of_getElem? (i := 8) rfl)
theorem g_range (F : Fcts HD K mg) : mg "range" = none := F.free (List.mem_of_getElem? (i := 9) rfl)
theorem g_list (F : Fcts HD K mg) : mg "list" = none := F.free (List.mem_of_getElem? (i := 10) rfl)
theorem g_abs (F : Fcts HD K mg) : mg "abs" = none := F.free (List.mem_of_getElem? (i := 11) rfl)
theorem g_sum (F : Fcts HD K mg) : mg "sum" = none := F.free (List.mem_of_getElem? (i := 12) rfl)
theorem g_int (F : Fcts HD K mg) : mg "int" = none := F.free (List.mem_of_getElem? (i := 13) rfl)
theorem g_bool (F : Fcts HD K mg) : mg "bool" = none := F.free (List.mem_of_getElem? (i := 14) rfl)
theorem g_all (F : Fcts HD K mg) : mg "all" = none := F.free (List.mem_of_getElem? (i := 15) rfl)
theorem g_max (F : Fcts HD K mg) : mg "max" = none := F.free (List.mem_of_getElem? (i := 16) rfl)
theorem g_TooMany (F : Fcts HD K mg) : mg "TooMany" = some (.ref (ga K "TooMany")) := F.glo (List.mem_of_getElem? (i := 17) rfl)
theorem g_NoPlace (F : Fcts HD K mg) : mg "NoPlace" = some (.ref (ga K "NoPlace")) := F.glo (List.mem_of_getElem? (i := 18) rfl)
theorem g_BadLetters (F : Fcts HD K mg) : mg "BadLetters" = some (.ref (ga K "BadLetters")) := F.glo (List.mem_of_getElem? (i := 19) rfl)
theorem g_MendError (F : Fcts HD K mg) : mg "MendError" = some (.ref (ga K "MendError")) := F.glo (List.mem_of_getElem? (i := 20) rfl)
theorem g_ValueError (F : Fcts HD K mg) : mg "ValueError" = none := F.free (List.mem_of_getElem? (i := 21) rfl)
theorem g_BadText (F : Fcts HD K mg) : mg "BadText" = some (.ref (ga K "BadText")) := F.glo (List.mem_of_getElem? (i := 22) rfl)
theorem g_tuple (F : Fcts HD K mg) : mg "tuple" = none := F.free (List.mem_of_getElem? (i := 23) rfl)
theorem g_is_token (F : Fcts HD K mg) : mg "is_token" = some (.ref (ga K "is_token")) := F.glo (List.mem_of_getElem? (i := 24) rfl)
theorem g_is_row (F : Fcts HD K mg) : mg "is_row" = some (.ref (ga K "is_row")) := F.glo (List.mem_of_getElem? (i := 25) rfl)
theorem g_wrong_sign (F : Fcts HD K mg) : mg "wrong_sign" = some (.ref (ga K "wrong_sign")) := F.glo (List.mem_of_getElem? (i := 26) rfl)
theorem g_first_wrong (F : Fcts HD K mg) : mg "first_wrong" = some (.ref (ga K "first_wrong")) := F.glo (List.mem_of_getElem? (i := 27) rfl)
theorem g_check_text (F : Fcts HD K mg) : mg "check_text" = some (.ref (ga K "check_text")) := F.glo (List.mem_of_getElem? (i := 28) rfl)
theorem g_hole_places (F : Fcts HD K mg) : mg "hole_places" = some (.ref (ga K "hole_places")) := F.glo (List.mem_of_getElem? (i := 29) rfl)
theorem g_mirrored (F : Fcts HD K mg) : mg "mirrored" = some (.ref (ga K "mirrored")) := F.glo (List.mem_of_getElem? (i := 30) rfl)
theorem g_fillings (F : Fcts HD K mg) : mg "fillings" = some (.ref (ga K "fillings")) := F.glo (List.mem_of_getElem? (i := 31) rfl)
theorem g_filling_count (F : Fcts HD K mg) : mg "filling_count" = some (.ref (ga K "filling_count")) := F.glo (List.mem_of_getElem? (i := 32) rfl)
theorem g_filled (F : Fcts HD K mg) : mg "filled" = some (.ref (ga K "filled")) := F.glo (List.mem_of_getElem? (i := 33) rfl)
theorem g_strange (F : Fcts HD K mg) : mg "strange" = some (.ref (ga K "strange")) := F.glo (List.mem_of_getElem? (i := 34) rfl)
theorem g_check_moves (F : Fcts HD K mg) : mg "check_moves" = some (.ref (ga K "check_moves")) := F.glo (List.mem_of_getElem? (i := 35) rfl)
theorem g_recast (F : Fcts HD K mg) : mg "recast" = some (.ref (ga K "recast")) := F.glo (List.mem_of_getElem? (i := 36) rfl)
theorem g__law_pool (F : Fcts HD K mg) : mg "_law_pool" = some (.ref (ga K "_law_pool")) := F.glo (List.mem_of_getElem? (i := 37) rfl)
theorem g__law_draw (F : Fcts HD K mg) : mg "_law_draw" = some (.ref (ga K "_law_draw")) := F.glo (List.mem_of_getElem? (i := 38) rfl)
theorem g__law_is (F : Fcts HD K mg) : mg "_law_is" = some (.ref (ga K "_law_is")) := F.glo (List.mem_of_getElem? (i := 39) rfl)
theorem g__law_letters (F : Fcts HD K mg) : mg "_law_letters" = some (.ref (ga K "_law_letters")) := F.glo (List.mem_of_getElem? (i := 40) rfl)
theorem g__law_text (F : Fcts HD K mg) : mg "_law_text" = some (.ref (ga K "_law_text")) := F.glo (List.mem_of_getElem? (i := 41) rfl)
theorem g__law_odd (F : Fcts HD K mg) : mg "_law_odd" = some (.ref (ga K "_law_odd")) := F.glo (List.mem_of_getElem? (i := 42) rfl)
theorem g__law_places (F : Fcts HD K mg) : mg "_law_places" = some (.ref (ga K "_law_places")) := F.glo (List.mem_of_getElem? (i := 43) rfl)
theorem g__law_pairs (F : Fcts HD K mg) : mg "_law_pairs" = some (.ref (ga K "_law_pairs")) := F.glo (List.mem_of_getElem? (i := 44) rfl)
theorem g__law_ask (F : Fcts HD K mg) : mg "_law_ask" = some (.ref (ga K "_law_ask")) := F.glo (List.mem_of_getElem? (i := 45) rfl)
theorem g__law_wrong (F : Fcts HD K mg) : mg "_law_wrong" = some (.ref (ga K "_law_wrong")) := F.glo (List.mem_of_getElem? (i := 46) rfl)
theorem g__law_ascends (F : Fcts HD K mg) : mg "_law_ascends" = some (.ref (ga K "_law_ascends")) := F.glo (List.mem_of_getElem? (i := 47) rfl)
theorem g__law_all_filled (F : Fcts HD K mg) : mg "_law_all_filled" = some (.ref (ga K "_law_all_filled")) := F.glo (List.mem_of_getElem? (i := 48) rfl)
theorem g__law_fillings_due (F : Fcts HD K mg) : mg "_law_fillings_due" = some (.ref (ga K "_law_fillings_due")) := F.glo (List.mem_of_getElem? (i := 49) rfl)
theorem g__law_strange_due (F : Fcts HD K mg) : mg "_law_strange_due" = some (.ref (ga K "_law_strange_due")) := F.glo (List.mem_of_getElem? (i := 50) rfl)
theorem g__law_recast_due (F : Fcts HD K mg) : mg "_law_recast_due" = some (.ref (ga K "_law_recast_due")) := F.glo (List.mem_of_getElem? (i := 51) rfl)
theorem g__law_plain_right (F : Fcts HD K mg) : mg "_law_plain_right" = some (.ref (ga K "_law_plain_right")) := F.glo (List.mem_of_getElem? (i := 52) rfl)
theorem g__law_moved_right (F : Fcts HD K mg) : mg "_law_moved_right" = some (.ref (ga K "_law_moved_right")) := F.glo (List.mem_of_getElem? (i := 53) rfl)
theorem g_law (F : Fcts HD K mg) : mg "law" = some (.ref (ga K "law")) := F.glo (List.mem_of_getElem? (i := 54) rfl)
theorem g_super (F : Fcts HD K mg) : mg "super" = none := F.free (List.mem_of_getElem? (i := 55) rfl)
end
theorem f_at : ("at" : Str) ∈ HD.tab.flds := List.mem_of_getElem? (i := 0) rfl
theorem f_found : ("found" : Str) ∈ HD.tab.flds := List.mem_of_getElem? (i := 1) rfl
theorem f_given : ("given" : Str) ∈ HD.tab.flds := List.mem_of_getElem? (i := 2) rfl
theorem f_place : ("place" : Str) ∈ HD.tab.flds := List.mem_of_getElem? (i := 3) rfl
theorem fo_BadText : FldOk "at" := ⟨by decide, by decide, by decide, by decide, by decide⟩
theorem vxc_BadText {X : Cx} (F : Fcts HD X.K X.mg) (hP : X.prog = PySem.Challenge.pw_mendedtexts_k01_letters_and_fillings) : VXc X "BadText" "at" true := Fcts.vxc (D := HD) (d := x_BadText) (P := PySem.Challenge.pw_mendedtexts_k01_letters_and_fillings) (w := X.w) (base := X.base) (p1 := ⟨6, 17, 6, 21⟩) (p2 := ⟨6, 23, 6, 25⟩) (s1 := ⟨7, 8, 7, 13⟩) (s2 := ⟨7, 8, 7, 15⟩) (s3 := ⟨7, 8, 7, 24⟩) (s4 := ⟨7, 8, 7, 76⟩) (s5 := ⟨7, 8, 7, 76⟩) (q1 := ⟨8, 8, 8, 12⟩) (q2 := ⟨8, 8, 8, 15⟩) (q3 := ⟨8, 18, 8, 20⟩) (q4 := ⟨8, 8, 8, 20⟩) F (List.mem_of_getElem? (i := 0) rfl) fo_BadText (List.mem_of_getElem? (i := 55) rfl) (List.mem_of_getElem? (i := 22) rfl) (by decide +kernel) rfl rfl rfl rfl (msg_fld fo_BadText (by decide)) (fun _ => rfl) (fun _ => rfl) (fun _ => rfl) (fun _ => rfl) (fun _ _ _ _ _ _ _ _ => rfl) X ⟨hP, rfl, rfl, rfl, rfl⟩
theorem fo_BadLetters : FldOk "given" := ⟨by decide, by decide, by decide, by decide, by decide⟩
theorem vxc_BadLetters {X : Cx} (F : Fcts HD X.K X.mg) (hP : X.prog = PySem.Challenge.pw_mendedtexts_k01_letters_and_fillings) : VXc X "BadLetters" "given" false := Fcts.vxc (D := HD) (d := x_BadLetters) (P := PySem.Challenge.pw_mendedtexts_k01_letters_and_fillings) (w := X.w) (base := X.base) (p1 := ⟨11, 17, 11, 21⟩) (p2 := ⟨11, 23, 11, 28⟩) (s1 := ⟨12, 8, 12, 13⟩) (s2 := ⟨12, 8, 12, 15⟩) (s3 := ⟨12, 8, 12, 24⟩) (s4 := ⟨12, 8, 12, 70⟩) (s5 := ⟨12, 8, 12, 70⟩) (q1 := ⟨13, 8, 13, 12⟩) (q2 := ⟨13, 8, 13, 18⟩) (q3 := ⟨13, 21, 13, 26⟩) (q4 := ⟨13, 8, 13, 26⟩) F (List.mem_of_getElem? (i := 1) rfl) fo_BadLetters (List.mem_of_getElem? (i := 55) rfl) (List.mem_of_getElem? (i := 19) rfl) (by decide +kernel) rfl rfl rfl rfl msg_const (fun _ => rfl) (fun _ => rfl) (fun _ => rfl) (fun _ => rfl) (fun _ _ _ _ _ _ _ _ => rfl) X ⟨hP, rfl, rfl, rfl, rfl⟩
theorem fo_NoPlace : FldOk "place" := ⟨by decide, by decide, by decide, by decide, by decide⟩
theorem vxc_NoPlace {X : Cx} (F : Fcts HD X.K X.mg) (hP : X.prog = PySem.Challenge.pw_mendedtexts_k01_letters_and_fillings) : VXc X "NoPlace" "place" true := Fcts.vxc (D := HD) (d := x_NoPlace) (P := PySem.Challenge.pw_mendedtexts_k01_letters_and_fillings) (w := X.w) (base := X.base) (p1 := ⟨16, 17, 16, 21⟩) (p2 := ⟨16, 23, 16, 28⟩) (s1 := ⟨17, 8, 17, 13⟩) (s2 := ⟨17, 8, 17, 15⟩) (s3 := ⟨17, 8, 17, 24⟩) (s4 := ⟨17, 8, 17, 54⟩) (s5 := ⟨17, 8, 17, 54⟩) (q1 := ⟨18, 8, 18, 12⟩) (q2 := ⟨18, 8, 18, 18⟩) (q3 := ⟨18, 21, 18, 26⟩) (q4 := ⟨18, 8, 18, 26⟩) F (List.mem_of_getElem? (i := 2) rfl) fo_NoPlace (List.mem_of_getElem? (i := 55) rfl) (List.mem_of_getElem? (i := 18) rfl) (by decide +kernel) rfl rfl rfl rfl (msg_fld fo_NoPlace (by decide)) (fun _ => rfl) (fun _ => rfl) (fun _ => rfl) (fun _ => rfl) (fun _ _ _ _ _ _ _ _ => rfl) X ⟨hP, rfl, rfl, rfl, rfl⟩
theorem fo_TooMany : FldOk "found" := ⟨by decide, by decide, by decide, by decide, by decide⟩
theorem vxc_TooMany {X : Cx} (F : Fcts HD X.K X.mg) (hP : X.prog = PySem.Challenge.pw_mendedtexts_k01_letters_and_fillings) : VXc X "TooMany" "found" true := Fcts.vxc (D := HD) (d := x_TooMany) (P := PySem.Challenge.pw_mendedtexts_k01_letters_and_fillings) (w := X.w) (base := X.base) (p1 := ⟨21, 17, 21, 21⟩) (p2 := ⟨21, 23, 21, 28⟩) (s1 := ⟨22, 8, 22, 13⟩) (s2 := ⟨22, 8, 22, 15⟩) (s3 := ⟨22, 8, 22, 24⟩) (s4 := ⟨22, 8, 22, 56⟩) (s5 := ⟨22, 8, 22, 56⟩) (q1 := ⟨23, 8, 23, 12⟩) (q2 := ⟨23, 8, 23, 18⟩) (q3 := ⟨23, 21, 23, 26⟩) (q4 := ⟨23, 8, 23, 26⟩) F (List.mem_of_getElem? (i := 3) rfl) fo_TooMany (List.mem_of_getElem? (i := 55) rfl) (List.mem_of_getElem? (i := 17) rfl) (by decide +kernel) rfl rfl rfl rfl (msg_fld fo_TooMany (by decide)) (fun _ => rfl) (fun _ => rfl) (fun _ => rfl) (fun _ => rfl) (fun _ _ _ _ _ _ _ _ => rfl) X ⟨hP, rfl, rfl, rfl, rfl⟩
structure Good (P : Program) (w : World) (K : PySem.W.Frag) (mg : Str → Option Value) (base : Heap) (n : Nat) : Prop where
  q_is_token : GoodF P w K mg base tab xt.sub n d_is_token p_is_token
  q_is_row : GoodF P w K mg base tab xt.sub n d_is_row p_is_row
  q_wrong_sign : GoodF P w K mg base tab xt.sub n d_wrong_sign p_wrong_sign
  q_first_wrong : GoodF P w K mg base tab xt.sub n d_first_wrong p_first_wrong
  q_check_text : GoodF P w K mg base tab xt.sub n d_check_text p_check_text
  q_hole_places : GoodF P w K mg base tab xt.sub n d_hole_places p_hole_places
  q_mirrored : GoodF P w K mg base tab xt.sub n d_mirrored p_mirrored
  q_fillings : GoodG P w K mg base tab xt.sub n d_fillings p_fillings
  q_filling_count : GoodF P w K mg base tab xt.sub n d_filling_count p_filling_count
  q_filled : GoodF P w K mg base tab xt.sub n d_filled p_filled
  q_strange : GoodF P w K mg base tab xt.sub n d_strange p_strange
  q_check_moves : GoodF P w K mg base tab xt.sub n d_check_moves p_check_moves
  q_recast : GoodF P w K mg base tab xt.sub n d_recast p_recast
  q__law_pool : GoodF P w K mg base tab xt.sub n d__law_pool p__law_pool
  q__law_draw : GoodF P w K mg base tab xt.sub n d__law_draw p__law_draw
  q__law_is : GoodF P w K mg base tab xt.sub n d__law_is p__law_is
  q__law_letters : GoodF P w K mg base tab xt.sub n d__law_letters p__law_letters
  q__law_text : GoodF P w K mg base tab xt.sub n d__law_text p__law_text
  q__law_odd : GoodF P w K mg base tab xt.sub n d__law_odd p__law_odd
  q__law_places : GoodF P w K mg base tab xt.sub n d__law_places p__law_places
  q__law_pairs : GoodF P w K mg base tab xt.sub n d__law_pairs p__law_pairs
  q__law_ask : GoodF P w K mg base tab xt.sub n d__law_ask p__law_ask
  q__law_wrong : GoodF P w K mg base tab xt.sub n d__law_wrong p__law_wrong
  q__law_ascends : GoodF P w K mg base tab xt.sub n d__law_ascends p__law_ascends
  q__law_all_filled : GoodF P w K mg base tab xt.sub n d__law_all_filled p__law_all_filled
  q__law_fillings_due : GoodF P w K mg base tab xt.sub n d__law_fillings_due p__law_fillings_due
  q__law_strange_due : GoodF P w K mg base tab xt.sub n d__law_strange_due p__law_strange_due
  q__law_recast_due : GoodF P w K mg base tab xt.sub n d__law_recast_due p__law_recast_due
  q__law_plain_right : GoodF P w K mg base tab xt.sub n d__law_plain_right p__law_plain_right
  q__law_moved_right : GoodF P w K mg base tab xt.sub n d__law_moved_right p__law_moved_right
  q_law : GoodF P w K mg base tab xt.sub n d_law p_law
theorem fn_wrong_sign_2 {X : Cx} {n : Nat} (F : Fcts HD X.K X.mg) (ih : Good X.prog X.w X.K X.mg X.base n) (hr : Room (4 * n + 4) X.A) : Fn ⟨callF tab xt.sub n, xt.sub⟩ X "wrong_sign" 2 [] [] [0, 1] :=
  ih.q_wrong_sign.fnB hr (g_wrong_sign F) 2 1 [] [] [0, 1] rfl (by decide) rfl (fun _ => rfl) (fun T kV doc pm an cdv ct us ws its h1 h2 h3 => match us, ws, its, h1, h2, h3 with | [_, _], [], [_], _, _, _ => ⟨_, rfl, rfl⟩)
theorem fn_first_wrong_2 {X : Cx} {n : Nat} (F : Fcts HD X.K X.mg) (ih : Good X.prog X.w X.K X.mg X.base n) (hr : Room (4 * n + 4) X.A) : Fn ⟨callF tab xt.sub n, xt.sub⟩ X "first_wrong" 2 [] [] [0, 1] :=
  ih.q_first_wrong.fnB hr (g_first_wrong F) 2 1 [] [] [0, 1] rfl (by decide) rfl (fun _ => rfl) (fun T kV doc pm an cdv ct us ws its h1 h2 h3 => match us, ws, its, h1, h2, h3 with | [_, _], [], [_], _, _, _ => ⟨_, rfl, rfl⟩)
theorem fn_check_text_1 {X : Cx} {n : Nat} (F : Fcts HD X.K X.mg) (ih : Good X.prog X.w X.K X.mg X.base n) (hr : Room (4 * n + 4) X.A) : Fn ⟨callF tab xt.sub n, xt.sub⟩ X "check_text" 1 [] [(.str "abcdef")] [0, 1] :=
  ih.q_check_text.fnB hr (g_check_text F) 1 0 [] [(.str "abcdef")] [0, 1] rfl (by decide) rfl (fun _ => ⟨_, _, rfl, rfl, rfl⟩) (fun T kV doc pm an cdv ct us ws its h1 h2 h3 => match us, ws, its, h1, h2, h3 with | [_], [], [_], _, _, _ => ⟨_, rfl, rfl⟩)
theorem fn_hole_places_1 {X : Cx} {n : Nat} (F : Fcts HD X.K X.mg) (ih : Good X.prog X.w X.K X.mg X.base n) (hr : Room (4 * n + 4) X.A) : Fn ⟨callF tab xt.sub n, xt.sub⟩ X "hole_places" 1 [] [] [0] :=
  ih.q_hole_places.fnA hr (g_hole_places F) 1 [] [0] rfl rfl rfl (fun kV doc pm an cdv ct us ws h1 h2 => match us, ws, h1, h2 with | [_], [], _, _ => rfl)
theorem fn_is_row_2 {X : Cx} {n : Nat} (F : Fcts HD X.K X.mg) (ih : Good X.prog X.w X.K X.mg X.base n) (hr : Room (4 * n + 4) X.A) : Fn ⟨callF tab xt.sub n, xt.sub⟩ X "is_row" 2 [] [] [0, 1] :=
  ih.q_is_row.fnA hr (g_is_row F) 2 [] [0, 1] rfl rfl rfl (fun kV doc pm an cdv ct us ws h1 h2 => match us, ws, h1, h2 with | [_, _], [], _, _ => rfl)
theorem fn_filling_count_2 {X : Cx} {n : Nat} (F : Fcts HD X.K X.mg) (ih : Good X.prog X.w X.K X.mg X.base n) (hr : Room (4 * n + 4) X.A) : Fn ⟨callF tab xt.sub n, xt.sub⟩ X "filling_count" 2 [] [] [0, 1] :=
  ih.q_filling_count.fnA hr (g_filling_count F) 2 [] [0, 1] rfl rfl rfl (fun kV doc pm an cdv ct us ws h1 h2 => match us, ws, h1, h2 with | [_, _], [], _, _ => rfl)
theorem fn_filled_4 {X : Cx} {n : Nat} (F : Fcts HD X.K X.mg) (ih : Good X.prog X.w X.K X.mg X.base n) (hr : Room (4 * n + 4) X.A) : Fn ⟨callF tab xt.sub n, xt.sub⟩ X "filled" 4 [] [] [0, 1, 2, 3] :=
  ih.q_filled.fnA hr (g_filled F) 4 [] [0, 1, 2, 3] rfl rfl rfl (fun kV doc pm an cdv ct us ws h1 h2 => match us, ws, h1, h2 with | [_, _, _, _], [], _, _ => rfl)
theorem fn_is_token_1 {X : Cx} {n : Nat} (F : Fcts HD X.K X.mg) (ih : Good X.prog X.w X.K X.mg X.base n) (hr : Room (4 * n + 4) X.A) : Fn ⟨callF tab xt.sub n, xt.sub⟩ X "is_token" 1 [] [] [0] :=
  ih.q_is_token.fnA hr (g_is_token F) 1 [] [0] rfl rfl rfl (fun kV doc pm an cdv ct us ws h1 h2 => match us, ws, h1, h2 with | [_], [], _, _ => rfl)
theorem fn_check_moves_1 {X : Cx} {n : Nat} (F : Fcts HD X.K X.mg) (ih : Good X.prog X.w X.K X.mg X.base n) (hr : Room (4 * n + 4) X.A) : Fn ⟨callF tab xt.sub n, xt.sub⟩ X "check_moves" 1 [] [] [0] :=
  ih.q_check_moves.fnA hr (g_check_moves F) 1 [] [0] rfl rfl rfl (fun kV doc pm an cdv ct us ws h1 h2 => match us, ws, h1, h2 with | [_], [], _, _ => rfl)
theorem fn__law_is_2 {X : Cx} {n : Nat} (F : Fcts HD X.K X.mg) (ih : Good X.prog X.w X.K X.mg X.base n) (hr : Room (4 * n + 4) X.A) : Fn ⟨callF tab xt.sub n, xt.sub⟩ X "_law_is" 2 [] [] [0, 1] :=
  ih.q__law_is.fnA hr (g__law_is F) 2 [] [0, 1] rfl rfl rfl (fun kV doc pm an cdv ct us ws h1 h2 => match us, ws, h1, h2 with | [_, _], [], _, _ => rfl)
theorem fn__law_draw_2 {X : Cx} {n : Nat} (F : Fcts HD X.K X.mg) (ih : Good X.prog X.w X.K X.mg X.base n) (hr : Room (4 * n + 4) X.A) : Fn ⟨callF tab xt.sub n, xt.sub⟩ X "_law_draw" 2 [] [] [0, 1] :=
  ih.q__law_draw.fnA hr (g__law_draw F) 2 [] [0, 1] rfl rfl rfl (fun kV doc pm an cdv ct us ws h1 h2 => match us, ws, h1, h2 with | [_, _], [], _, _ => rfl)
theorem fn_mirrored_1 {X : Cx} {n : Nat} (F : Fcts HD X.K X.mg) (ih : Good X.prog X.w X.K X.mg X.base n) (hr : Room (4 * n + 4) X.A) : Fn ⟨callF tab xt.sub n, xt.sub⟩ X "mirrored" 1 [] [] [0] :=
  ih.q_mirrored.fnA hr (g_mirrored F) 1 [] [0] rfl rfl rfl (fun kV doc pm an cdv ct us ws h1 h2 => match us, ws, h1, h2 with | [_], [], _, _ => rfl)
theorem fn_strange_2 {X : Cx} {n : Nat} (F : Fcts HD X.K X.mg) (ih : Good X.prog X.w X.K X.mg X.base n) (hr : Room (4 * n + 4) X.A) : Fn ⟨callF tab xt.sub n, xt.sub⟩ X "strange" 2 [] [] [0, 1] :=
  ih.q_strange.fnA hr (g_strange F) 2 [] [0, 1] rfl rfl rfl (fun kV doc pm an cdv ct us ws h1 h2 => match us, ws, h1, h2 with | [_, _], [], _, _ => rfl)
theorem fn_recast_0_text_moves {X : Cx} {n : Nat} (F : Fcts HD X.K X.mg) (ih : Good X.prog X.w X.K X.mg X.base n) (hr : Room (4 * n + 4) X.A) : Fn ⟨callF tab xt.sub n, xt.sub⟩ X "recast" 0 ["text", "moves"] [] [0, 1] :=
  ih.q_recast.fnA hr (g_recast F) 0 ["text", "moves"] [0, 1] rfl rfl rfl (fun kV doc pm an cdv ct us ws h1 h2 => match us, ws, h1, h2 with | [], [_, _], _, _ => rfl)
theorem fn__law_wrong_2 {X : Cx} {n : Nat} (F : Fcts HD X.K X.mg) (ih : Good X.prog X.w X.K X.mg X.base n) (hr : Room (4 * n + 4) X.A) : Fn ⟨callF tab xt.sub n, xt.sub⟩ X "_law_wrong" 2 [] [] [0, 1] :=
  ih.q__law_wrong.fnA hr (g__law_wrong F) 2 [] [0, 1] rfl rfl rfl (fun kV doc pm an cdv ct us ws h1 h2 => match us, ws, h1, h2 with | [_, _], [], _, _ => rfl)
theorem fn__law_ascends_1 {X : Cx} {n : Nat} (F : Fcts HD X.K X.mg) (ih : Good X.prog X.w X.K X.mg X.base n) (hr : Room (4 * n + 4) X.A) : Fn ⟨callF tab xt.sub n, xt.sub⟩ X "_law_ascends" 1 [] [] [0] :=
  ih.q__law_ascends.fnA hr (g__law_ascends F) 1 [] [0] rfl rfl rfl (fun kV doc pm an cdv ct us ws h1 h2 => match us, ws, h1, h2 with | [_], [], _, _ => rfl)
theorem fn__law_all_filled_2 {X : Cx} {n : Nat} (F : Fcts HD X.K X.mg) (ih : Good X.prog X.w X.K X.mg X.base n) (hr : Room (4 * n + 4) X.A) : Fn ⟨callF tab xt.sub n, xt.sub⟩ X "_law_all_filled" 2 [] [] [0, 1] :=
  ih.q__law_all_filled.fnA hr (g__law_all_filled F) 2 [] [0, 1] rfl rfl rfl (fun kV doc pm an cdv ct us ws h1 h2 => match us, ws, h1, h2 with | [_, _], [], _, _ => rfl)
theorem fn_first_wrong_1 {X : Cx} {n : Nat} (F : Fcts HD X.K X.mg) (ih : Good X.prog X.w X.K X.mg X.base n) (hr : Room (4 * n + 4) X.A) : Fn ⟨callF tab xt.sub n, xt.sub⟩ X "first_wrong" 1 [] [(.str "abcdef")] [0, 1] :=
  ih.q_first_wrong.fnB hr (g_first_wrong F) 1 0 [] [(.str "abcdef")] [0, 1] rfl (by decide) rfl (fun _ => ⟨_, _, rfl, rfl, rfl⟩) (fun T kV doc pm an cdv ct us ws its h1 h2 h3 => match us, ws, its, h1, h2, h3 with | [_], [], [_], _, _, _ => ⟨_, rfl, rfl⟩)
theorem fn_first_wrong_0_text_letters {X : Cx} {n : Nat} (F : Fcts HD X.K X.mg) (ih : Good X.prog X.w X.K X.mg X.base n) (hr : Room (4 * n + 4) X.A) : Fn ⟨callF tab xt.sub n, xt.sub⟩ X "first_wrong" 0 ["text", "letters"] [] [0, 1] :=
  ih.q_first_wrong.fnB hr (g_first_wrong F) 0 1 ["text", "letters"] [] [0, 1] rfl (by decide) rfl (fun _ => rfl) (fun T kV doc pm an cdv ct us ws its h1 h2 h3 => match us, ws, its, h1, h2, h3 with | [], [_, _], [_], _, _, _ => ⟨_, rfl, rfl⟩)
theorem fn__law_ask_3 {X : Cx} {n : Nat} (F : Fcts HD X.K X.mg) (ih : Good X.prog X.w X.K X.mg X.base n) (hr : Room (4 * n + 4) X.A) : Fn ⟨callF tab xt.sub n, xt.sub⟩ X "_law_ask" 3 [] [] [0, 1, 2] :=
  ih.q__law_ask.fnA hr (g__law_ask F) 3 [] [0, 1, 2] rfl rfl rfl (fun kV doc pm an cdv ct us ws h1 h2 => match us, ws, h1, h2 with | [_, _, _], [], _, _ => rfl)
theorem fn__law_strange_due_2 {X : Cx} {n : Nat} (F : Fcts HD X.K X.mg) (ih : Good X.prog X.w X.K X.mg X.base n) (hr : Room (4 * n + 4) X.A) : Fn ⟨callF tab xt.sub n, xt.sub⟩ X "_law_strange_due" 2 [] [] [0, 1] :=
  ih.q__law_strange_due.fnA hr (g__law_strange_due F) 2 [] [0, 1] rfl rfl rfl (fun kV doc pm an cdv ct us ws h1 h2 => match us, ws, h1, h2 with | [_, _], [], _, _ => rfl)
theorem fn__law_recast_due_2 {X : Cx} {n : Nat} (F : Fcts HD X.K X.mg) (ih : Good X.prog X.w X.K X.mg X.base n) (hr : Room (4 * n + 4) X.A) : Fn ⟨callF tab xt.sub n, xt.sub⟩ X "_law_recast_due" 2 [] [] [0, 1] :=
  ih.q__law_recast_due.fnA hr (g__law_recast_due F) 2 [] [0, 1] rfl rfl rfl (fun kV doc pm an cdv ct us ws h1 h2 => match us, ws, h1, h2 with | [_, _], [], _, _ => rfl)
theorem fn__law_pool_1 {X : Cx} {n : Nat} (F : Fcts HD X.K X.mg) (ih : Good X.prog X.w X.K X.mg X.base n) (hr : Room (4 * n + 4) X.A) : Fn ⟨callF tab xt.sub n, xt.sub⟩ X "_law_pool" 1 [] [] [0] :=
  ih.q__law_pool.fnA hr (g__law_pool F) 1 [] [0] rfl rfl rfl (fun kV doc pm an cdv ct us ws h1 h2 => match us, ws, h1, h2 with | [_], [], _, _ => rfl)
theorem fn__law_letters_1 {X : Cx} {n : Nat} (F : Fcts HD X.K X.mg) (ih : Good X.prog X.w X.K X.mg X.base n) (hr : Room (4 * n + 4) X.A) : Fn ⟨callF tab xt.sub n, xt.sub⟩ X "_law_letters" 1 [] [] [0] :=
  ih.q__law_letters.fnA hr (g__law_letters F) 1 [] [0] rfl rfl rfl (fun kV doc pm an cdv ct us ws h1 h2 => match us, ws, h1, h2 with | [_], [], _, _ => rfl)
theorem fn__law_text_1 {X : Cx} {n : Nat} (F : Fcts HD X.K X.mg) (ih : Good X.prog X.w X.K X.mg X.base n) (hr : Room (4 * n + 4) X.A) : Fn ⟨callF tab xt.sub n, xt.sub⟩ X "_law_text" 1 [] [] [0] :=
  ih.q__law_text.fnA hr (g__law_text F) 1 [] [0] rfl rfl rfl (fun kV doc pm an cdv ct us ws h1 h2 => match us, ws, h1, h2 with | [_], [], _, _ => rfl)
theorem fn__law_odd_2 {X : Cx} {n : Nat} (F : Fcts HD X.K X.mg) (ih : Good X.prog X.w X.K X.mg X.base n) (hr : Room (4 * n + 4) X.A) : Fn ⟨callF tab xt.sub n, xt.sub⟩ X "_law_odd" 2 [] [] [0, 1] :=
  ih.q__law_odd.fnA hr (g__law_odd F) 2 [] [0, 1] rfl rfl rfl (fun kV doc pm an cdv ct us ws h1 h2 => match us, ws, h1, h2 with | [_, _], [], _, _ => rfl)
theorem fn__law_places_2 {X : Cx} {n : Nat} (F : Fcts HD X.K X.mg) (ih : Good X.prog X.w X.K X.mg X.base n) (hr : Room (4 * n + 4) X.A) : Fn ⟨callF tab xt.sub n, xt.sub⟩ X "_law_places" 2 [] [] [0, 1] :=
  ih.q__law_places.fnA hr (g__law_places F) 2 [] [0, 1] rfl rfl rfl (fun kV doc pm an cdv ct us ws h1 h2 => match us, ws, h1, h2 with | [_, _], [], _, _ => rfl)
theorem fn__law_pairs_1 {X : Cx} {n : Nat} (F : Fcts HD X.K X.mg) (ih : Good X.prog X.w X.K X.mg X.base n) (hr : Room (4 * n + 4) X.A) : Fn ⟨callF tab xt.sub n, xt.sub⟩ X "_law_pairs" 1 [] [] [0] :=
  ih.q__law_pairs.fnA hr (g__law_pairs F) 1 [] [0] rfl rfl rfl (fun kV doc pm an cdv ct us ws h1 h2 => match us, ws, h1, h2 with | [_], [], _, _ => rfl)
theorem fn__law_plain_right_2 {X : Cx} {n : Nat} (F : Fcts HD X.K X.mg) (ih : Good X.prog X.w X.K X.mg X.base n) (hr : Room (4 * n + 4) X.A) : Fn ⟨callF tab xt.sub n, xt.sub⟩ X "_law_plain_right" 2 [] [] [0, 1] :=
  ih.q__law_plain_right.fnA hr (g__law_plain_right F) 2 [] [0, 1] rfl rfl rfl (fun kV doc pm an cdv ct us ws h1 h2 => match us, ws, h1, h2 with | [_, _], [], _, _ => rfl)
theorem fn__law_fillings_due_2 {X : Cx} {n : Nat} (F : Fcts HD X.K X.mg) (ih : Good X.prog X.w X.K X.mg X.base n) (hr : Room (4 * n + 4) X.A) : Fn ⟨callF tab xt.sub n, xt.sub⟩ X "_law_fillings_due" 2 [] [] [0, 1] :=
  ih.q__law_fillings_due.fnA hr (g__law_fillings_due F) 2 [] [0, 1] rfl rfl rfl (fun kV doc pm an cdv ct us ws h1 h2 => match us, ws, h1, h2 with | [_, _], [], _, _ => rfl)
theorem fn__law_moved_right_3 {X : Cx} {n : Nat} (F : Fcts HD X.K X.mg) (ih : Good X.prog X.w X.K X.mg X.base n) (hr : Room (4 * n + 4) X.A) : Fn ⟨callF tab xt.sub n, xt.sub⟩ X "_law_moved_right" 3 [] [] [0, 1, 2] :=
  ih.q__law_moved_right.fnA hr (g__law_moved_right F) 3 [] [0, 1, 2] rfl rfl rfl (fun kV doc pm an cdv ct us ws h1 h2 => match us, ws, h1, h2 with | [_, _, _], [], _, _ => rfl)
theorem fng_fillings {X : Cx} {n : Nat} (F : Fcts HD X.K X.mg) (ih : Good X.prog X.w X.K X.mg X.base n) (hr : Room (4 * n + 7) X.A) : FnG ⟨callF tab xt.sub n, xt.sub⟩ X "fillings" 2 [] :=
  ih.q_fillings.fn hr (g_fillings F) 2 rfl rfl rfl rfl t_fillings (fun kV doc pm an cdv ct us h1 => match us, h1 with | [_, _], _ => rfl)
end LawK01
end

section
set_option linter.all false
set_option maxRecDepth 100000
set_option maxHeartbeats 4000000
namespace LawK01
open PV PS
open PySem (Str)
open SX (S)
abbrev bodyOf : CS → CS
  | .seq (.for_ _ _ _ b) _ => b
  | .for_ _ _ _ b => b
  | .seq _ c => bodyOf c
  | _ => .skip
@[simp] theorem k_abcdef : Str.ofString "abcdef" = S [97, 98, 99, 100, 101, 102] := by decide +kernel
@[simp] theorem k_z : Str.ofString "z" = S [122] := by decide +kernel
@[simp] theorem k_q : Str.ofString "?" = S [63] := by decide +kernel
@[simp] theorem k_ : Str.ofString "" = S [] := by decide +kernel
@[simp] theorem k_zq : Str.ofString "z?" = S [122, 63] := by decide +kernel
theorem one_lim {n : Nat} (h : n ≤ 10000) : n ≤ LIM := by unfold LIM; omega
/-- no sign of a text with these letters -/
def bad (ls : List Nat) (c : Nat) : Bool := !(decide (c ∈ ls)) && (!(decide (c = 122)) && !(decide (c = 63)))
def wIx (ls t : List Nat) : Option Nat := t.findIdx? (bad ls)
def dOpt : Option Nat → D
  | none => .non
  | some i => .int i
theorem wrong_loop {C : Ctx} {ls : List Nat} {t0 : D} (hl : okS ls = true) : ∀ (t : List Nat) (k : Nat) (s2 s3 : Slot), okS t = true → frS s2 = true → frS s3 = true → ∃ s2' s3' : Slot, frS s2' = true ∧ frS s3' = true ∧
    forGo (turnS C (.tup [2, 3]) (bodyOf c_wrong_sign)) ((t.zipIdx k).map fun p => .tup [.int p.2, dS [p.1]]) [.fro t0 none, .fro (dS ls) none, s2, s3] =
      (match wIx ls t with
      | some i => .rt (.val (.int ((k + i : Nat) : Int))) [.fro t0 none, .fro (dS ls) none, s2', s3']
      | none => .nx [.fro t0 none, .fro (dS ls) none, s2', s3'])
  | [], k, s2, s3, _, h2, h3 => ⟨s2, s3, h2, h3, by simp [wIx]⟩
  | c :: t, k, s2, s3, ht, h2, h3 => by
    rw [okS_cons, Bool.and_eq_true, decide_eq_true_iff] at ht
    obtain ⟨s2', s3', h2', h3', e⟩ := wrong_loop hl t (k + 1) (.fro (.int k) none) (.fro (dS [c]) none) ht.2 rfl rfl
    rw [List.zipIdx_cons, List.map_cons, forGo_cons, turnS_eq]
    by_cases hb : bad ls c = true
    · refine ⟨.fro (.int k) none, .fro (dS [c]) none, rfl, rfl, ?_⟩
      have hw : wIx ls (c :: t) = some 0 := by simp [wIx, List.findIdx?_cons, hb]
      rw [hw]
      have hb' := hb
      simp [bad] at hb'
      simp [c_wrong_sign, h2, h3, ht.1, hl, hb'.1, hb'.2.1, hb'.2.2]
    · refine ⟨s2', s3', h2', h3', ?_⟩
      have hw : wIx ls (c :: t) = (wIx ls t).map (· + 1) := by simp [wIx, List.findIdx?_cons, hb]
      have key : PV.run C (bodyOf c_wrong_sign) [.fro t0 none, .fro (dS ls) none, .fro (.int k) none, .fro (dS [c]) none] = .nx [.fro t0 none, .fro (dS ls) none, .fro (.int k) none, .fro (dS [c]) none] := by
        simp [bad] at hb
        by_cases h1 : c ∈ ls
        · simp [c_wrong_sign, hl, ht.1, h1]
        · by_cases h2 : c = 122
          · simp [c_wrong_sign, hl, ht.1, h1, h2]
          · have h3 := hb h1 h2
            simp [c_wrong_sign, hl, ht.1, h1, h2, h3]
      simp [h2, h3, key]
      rw [e, hw]
      cases wIx ls t with
      | none => rfl
      | some i => simp; omega
theorem wrong_sign_eq (n : Nat) (t ls : List Nat) (ht : okS t = true) (hl : okS ls = true) (hlen : t.length ≤ LIM) :
    callF tab xt.sub (n + 1) "wrong_sign" [.fro (dS t) none, .fro (dS ls) none] = .ret (.val (dOpt (wIx ls t))) [.non, .non] := by
  rw [callF_succ, t_wrong_sign]
  obtain ⟨s2, s3, h2, h3, e⟩ := wrong_loop (C := ⟨callF tab xt.sub n, xt.sub⟩) (t0 := dS t) hl t 0 .non .non ht rfl rfl
  simp [bodyOf, c_wrong_sign] at e
  simp [c_wrong_sign, hlen]
  rw [e]
  cases wIx ls t with
  | none => simp [dOpt]
  | some i => simp [dOpt]
end LawK01
end

section
set_option linter.all false
set_option maxRecDepth 100000
set_option maxHeartbeats 4000000
namespace LawK01
open PV PS
open PySem (Str)
open SX (S)
def fwD (ls t : List Nat) : Option Nat := match wIx ls t with
  | some i => some i
  | none => if 12 < t.length then some 12 else none
theorem first_wrong_eq (n : Nat) (t ls : List Nat) (ht : okS t = true) (hl : okS ls = true) (hlen : t.length ≤ LIM) :
    callF tab xt.sub (n + 2) "first_wrong" [.fro (dS t) none, .fro (dS ls) none] = .ret (.val (dOpt (fwD ls t))) [.non, .non] := by
  rw [callF_succ, t_first_wrong]
  cases h : wIx ls t with
  | none =>
    by_cases h12 : 12 < t.length
    · simp [c_first_wrong, wrong_sign_eq n t ls ht hl hlen, h, dOpt, hlen, fwD, h12, show (12 : Int) < t.length by omega]
    · simp [c_first_wrong, wrong_sign_eq n t ls ht hl hlen, h, dOpt, hlen, fwD, h12, show ¬ (12 : Int) < t.length by omega]
  | some i => simp [c_first_wrong, wrong_sign_eq n t ls ht hl hlen, h, dOpt, hlen, fwD]
theorem fm_nat {i : Nat} (h : i ≤ 10000000) : fmOk (.int (i : Int)) = true := by
  unfold fmOk
  refine decide_eq_true ?_
  rw [Int.natAbs_natCast]
  by_cases h0 : i = 0
  · subst h0; decide
  · exact Nat.lt_of_lt_of_le ((Nat.log2_lt h0).mpr (Nat.lt_of_le_of_lt h (by decide : 10000000 < 2 ^ 24))) (by decide)
theorem wIx_lt {ls t : List Nat} {i : Nat} (h : wIx ls t = some i) : i < t.length := by
  have := List.findIdx?_eq_some_iff_getElem.mp h
  exact this.1
theorem LIM_m : LIM = 1000000 := by unfold LIM; rfl
theorem fwD_le {ls t : List Nat} {i : Nat} (hlen : t.length ≤ LIM) (h : fwD ls t = some i) : i ≤ 10000000 := by
  rw [LIM_m] at hlen
  unfold fwD at h
  cases h2 : wIx ls t with
  | some j => rw [h2] at h; cases h; have := wIx_lt h2; omega
  | none => rw [h2] at h; dsimp only at h; split at h <;> cases h; decide
def badText (i : Nat) : Exn := ⟨"BadText", ["at"], [.int i]⟩
theorem check_text_eq (n : Nat) (t ls : List Nat) (ht : okS t = true) (hl : okS ls = true) (hlen : t.length ≤ LIM) :
    callF tab xt.sub (n + 3) "check_text" [.fro (dS t) none, .fro (dS ls) none] = (match fwD ls t with
      | none => .ret (.val .non) [.non, .non]
      | some i => .err (badText i) [.non, .non]) := by
  rw [callF_succ, t_check_text]
  cases h : fwD ls t with
  | none => simp [c_check_text, first_wrong_eq n t ls ht hl hlen, h, dOpt]
  | some i => simp [c_check_text, first_wrong_eq n t ls ht hl hlen, h, dOpt, fm_nat (fwD_le hlen h), badText]
abbrev AF : List Nat := [97, 98, 99, 100, 101, 102]
theorem ok_AF : okS AF = true := by decide
def holes (t : List Nat) (k : Nat) : List Nat := (t.zipIdx k).filterMap fun p => if p.1 = 63 then some p.2 else none
theorem hole_places_eq (n : Nat) (t : List Nat) (ht : okS t = true) (hlen : t.length ≤ LIM) :
    callF tab xt.sub (n + 4) "hole_places" [.fro (dS t) none] = (match fwD AF t with
      | none => .ret (.frs (.lst (((holes t 0).map fun i : Nat => D.int i).map .fro))) [.non]
      | some i => .err (badText i) [.non]) := by
  rw [callF_succ, t_hole_places]
  have hck := check_text_eq n t AF ht ok_AF hlen
  cases h : fwD AF t with
  | some i =>
    rw [h] at hck
    simp [c_hole_places, hck]
  | none =>
    rw [h] at hck
    have hm := lcGo_mapG (own := [1, 2]) (t := turnL ⟨callF tab xt.sub (n + 3), xt.sub⟩ 3 (.tup [1, 2]) [.tru (.cmp .eq (.var 2) (.cst (.str "?")))] (.var 1)) (e0 := [.fro (dS t) none, .non, .non])
      (g := fun p : Nat × Nat => D.tup [.int p.2, dS [p.1]]) (h := fun p => (if p.1 = 63 then some p.2 else none).map fun i : Nat => D.int i) t.zipIdx [] [.fro (dS t) none, .non, .non] (by simp) (fun p hp => by
        have hc : p.1 < 1114112 := okS_mem.mp ht p.1 (List.mem_zipIdx' hp |>.2 ▸ List.getElem_mem _)
        by_cases h63 : p.1 = 63
        · exact ⟨[.fro (dS t) none, .fro (.int p.2) none, .fro (dS [p.1]) none], by simp [turnL_eq, hc, h63]⟩
        · exact ⟨[.fro (dS t) none, .fro (.int p.2) none, .fro (dS [p.1]) none], by simp [turnL_eq, hc, h63]⟩) (by simpa using hlen)
    rw [← List.map_filterMap, List.nil_append] at hm
    simp at hm
    simp [c_hole_places, hck, hlen, hm, holes]
theorem mirrored_eq (n : Nat) (t : List Nat) (ht : okS t = true) (hlen : t.length ≤ LIM) :
    callF tab xt.sub (n + 4) "mirrored" [.fro (dS t) none] = (match fwD AF t with
      | none => .ret (.val (dS t.reverse)) [.non]
      | some i => .err (badText i) [.non]) := by
  rw [callF_succ, t_mirrored]
  have hck := check_text_eq n t AF ht ok_AF hlen
  cases h : fwD AF t with
  | some i => rw [h] at hck; simp [c_mirrored, hck]
  | none => rw [h] at hck; simp [c_mirrored, hck, hlen]
/-! ### is_token, is_row -/
theorem is_token_eq (n : Nat) (t : List Nat) (ht : okS t = true) (hlen : t.length ≤ LIM) :
    callF tab xt.sub (n + 1) "is_token" [.fro (dS t) none] = .ret (.val (.bl (decide (∃ c ∈ AF, t = [c])))) [.non] := by
  rw [callF_succ, t_is_token]
  rcases t with _ | ⟨c, _ | ⟨d, r⟩⟩
  · simp [c_is_token, LIM_m]
  · by_cases hc : c ∈ AF
    · have hc' := hc
      simp at hc'
      simp [c_is_token, LIM_m, hc']
    · have hc' := hc
      simp at hc'
      simp [c_is_token, LIM_m, hc']
  · have : ¬ ((r.length : Int) + 1 + 1 = 1) := by omega
    simp at hlen
    simp [c_is_token, hlen, this]
def isRow (ls : List Nat) : Bool := decide (1 ≤ ls.length) && decide (ls = AF.filter fun c => decide (c ∈ ls))
theorem is_row_eq (n : Nat) (t : List Nat) (ht : okS t = true) (hlen : t.length ≤ LIM) :
    callF tab xt.sub (n + 1) "is_row" [.fro (dS t) none, .fro (.int 1) none] = .ret (.val (.bl (isRow t))) [.non, .non] := by
  rw [callF_succ, t_is_row]
  have hm := lcGo_mapG (own := [2]) (t := turnL ⟨callF tab xt.sub n, xt.sub⟩ 3 (.nm 2) [.tru (.cmp .mem (.var 2) (.var 0))] (.var 2)) (e0 := [.fro (dS t) none, .fro (.int 1) none, .non])
      (g := fun c : Nat => dS [c]) (h := fun c => (if c ∈ t then some [c] else none).map dS) AF [] [.fro (dS t) none, .fro (.int 1) none, .non] (by simp) (fun c hc => by
        by_cases h : c ∈ t
        · exact ⟨[.fro (dS t) none, .fro (.int 1) none, .fro (dS [c]) none], by simp [turnL_eq, h]⟩
        · exact ⟨[.fro (dS t) none, .fro (.int 1) none, .fro (dS [c]) none], by simp [turnL_eq, h]⟩) (by simp [LIM_m])
  rw [← List.map_filterMap, List.nil_append] at hm
  have hfl : (AF.filterMap fun c => if c ∈ t then some [c] else none).flatten = AF.filter fun c => decide (c ∈ t) := by
    generalize AF = l
    induction l with
    | nil => rfl
    | cons c l ih => by_cases h : c ∈ t <;> simp [h, ih]
  have hok : okS (AF.filter fun c => decide (c ∈ t)) = true := okS_mem.mpr fun c hc => okS_mem.mp ok_AF c (List.mem_filter.mp hc).1
  have hle : (AF.filter fun c => decide (c ∈ t)).length ≤ LIM := by have := List.length_filter_le (fun c => decide (c ∈ t)) AF; rw [LIM_m]; simp at this ⊢; omega
  generalize hF : (AF.filterMap fun c => if c ∈ t then some [c] else none) = fs at hm hfl
  have l6 : 6 ≤ LIM := by rw [LIM_m]; decide
  by_cases h1 : 1 ≤ t.length
  · simp at hm
    simp [c_is_row, hlen, show (1 : Int) ≤ t.length by omega, l6, hm, isRow, h1, hfl, ht, hok, hle]
  · have h0 : t = [] := by cases t with
      | nil => rfl
      | cons _ _ => simp at h1
    subst h0
    simp [c_is_row, isRow]
end LawK01
end

section
set_option linter.all false
set_option maxRecDepth 100000
set_option maxHeartbeats 4000000
namespace LawK01
open PV PS
open PySem (Str)
open SX (S)
theorem lim1 : 1000 ≤ LIM := by rw [LIM_m]; decide
@[irreducible] def CAP : Nat := 10 ^ 40
theorem cap_big : CAP < 2 ^ 200 := by unfold CAP; decide +kernel
theorem cap20 : 100 ^ 20 ≤ CAP := by unfold CAP; decide +kernel
theorem cap100 : 100 ≤ CAP := by unfold CAP; decide +kernel
theorem big_of {z : Nat} (h : z ≤ CAP) : z < BIG := by
  unfold BIG
  exact Nat.lt_of_le_of_lt h (Nat.lt_of_lt_of_le cap_big (Nat.pow_le_pow_right (by decide) (by decide)))
/-! ### filling_count -/
theorem fc_loop {C : Ctx} {z : Nat} {h : D} (hz : z ≤ 100) : ∀ (items : List Nat) (f : Nat) (s : Slot), f * 100 ^ items.length ≤ CAP → frS s = true →
    ∃ s' : Slot, forGo (turnS C (.nm 3) (bodyOf c_filling_count)) (items.map fun i : Nat => D.int i) [.fro h none, .fro (.int z) none, .fro (.int f) none, s] = .nx [.fro h none, .fro (.int z) none, .fro (.int ((f * z ^ items.length : Nat) : Int)) none, s']
  | [], f, s, _, _ => ⟨s, by simp⟩
  | d :: items, f, s, hb, hs => by
    have hf : f ≤ CAP := Nat.le_trans (Nat.le_mul_of_pos_right f (Nat.pow_pos (by decide))) hb
    have b1 : f < BIG := big_of hf
    have b2 : z < BIG := big_of (Nat.le_trans hz cap100)
    obtain ⟨s', e⟩ := fc_loop (C := C) (h := h) hz items (f * z) (.fro (.int d) none) (by
      refine Nat.le_trans ?_ hb
      rw [List.length_cons, Nat.pow_succ, Nat.mul_assoc, Nat.mul_comm (100 ^ _) 100]
      exact Nat.mul_le_mul_left f (Nat.mul_le_mul_right _ hz)) rfl
    refine ⟨s', ?_⟩
    rw [List.map_cons, forGo_cons, turnS_eq]
    have e2 : (f * z * z ^ items.length : Nat) = f * z ^ (d :: items).length := by
      rw [List.length_cons, Nat.pow_succ, Nat.mul_assoc, Nat.mul_comm z]
    rw [e2] at e
    simp [c_filling_count, bodyOf] at e
    simp [c_filling_count, hs, b1, b2, e]
theorem fc_run (C : Ctx) (h z : Nat) (hh : h ≤ 20) (hz : z ≤ 100) : ∃ s', PV.run C c_filling_count [.fro (.int h) none, .fro (.int z) none, .non, .non] = .rt (.val (.int ((z ^ h : Nat) : Int))) [.fro (.int h) none, .fro (.int z) none, .fro (.int ((z ^ h : Nat) : Int)) none, s'] := by
  have hcap : 1 * 100 ^ (List.range h).length ≤ CAP := by
    rw [List.length_range, Nat.one_mul]
    exact Nat.le_trans (Nat.pow_le_pow_right (by omega) hh) cap20
  have hl : h < LIM := by rw [LIM_m]; omega
  obtain ⟨s', e⟩ := fc_loop (C := C) (h := .int h) hz (List.range h) 1 .non hcap rfl
  refine ⟨s', ?_⟩
  clear hcap
  simp [c_filling_count, bodyOf] at e
  simp [c_filling_count, hl]
  rw [e]
  simp
theorem filling_count_eq (n h z : Nat) (hh : h ≤ 20) (hz : z ≤ 100) :
    callF tab xt.sub (n + 1) "filling_count" [.fro (.int h) none, .fro (.int z) none] = .ret (.val (.int ((z ^ h : Nat) : Int))) [.non, .non] := by
  rw [callF_succ, t_filling_count]
  obtain ⟨s', e⟩ := fc_run ⟨callF tab xt.sub n, xt.sub⟩ h z hh hz
  simp at e
  simp [e]
/-! ### filled -/
def fillGo (ls : List Nat) : List Nat → List Nat → Nat → List Nat
  | [], sg, _ => sg
  | p :: ps, sg, r => fillGo ls ps (sg.set p (ls.getD (r % ls.length) 0)) (r / ls.length)
theorem fillGo_len {ls : List Nat} : ∀ (ps sg : List Nat) (r : Nat), (fillGo ls ps sg r).length = sg.length
  | [], sg, r => rfl
  | p :: ps, sg, r => by rw [fillGo, fillGo_len, List.length_set]
def filledL (t ls : List Nat) (n : Nat) : List Nat := fillGo ls (holes t 0).reverse t n
theorem filled_loop {C : Ctx} {ls : List Nat} {t0 num : D} {s1 : Slot} (hls : 0 < ls.length) (hls2 : ls.length ≤ 100) : ∀ (ps sg : List Nat) (r : Nat) (s : Slot), (∀ p ∈ ps, p < sg.length) → frS s = true →
    ∃ (r' : Nat) (s' : Slot), forGo (turnS C (.nm 6) (bodyOf c_filled)) (ps.map fun i : Nat => D.int i) [.fro t0 none, s1, .fro (dS ls) none, .fro num none, .own (.lst ((sg.map fun c => dS [c]).map .fro)) none, .fro (.int r) none, s] =
      .nx [.fro t0 none, s1, .fro (dS ls) none, .fro num none, .own (.lst (((fillGo ls ps sg r).map fun c => dS [c]).map .fro)) none, .fro (.int r') none, s']
  | [], sg, r, s, _, _ => ⟨r, s, by simp [fillGo]⟩
  | p :: ps, sg, r, s, hp, hs => by
    have hlim : ls.length ≤ LIM := by rw [LIM_m]; omega
    have hbig : ls.length < BIG := big_of (Nat.le_trans hls2 cap100)
    have hp0 : p < sg.length := hp p List.mem_cons_self
    have hm : r % ls.length < ls.length := Nat.mod_lt _ hls
    obtain ⟨r', s', e⟩ := filled_loop (C := C) (t0 := t0) (s1 := s1) (num := num) hls hls2 ps (sg.set p (ls.getD (r % ls.length) 0)) (r / ls.length) (.fro (.int p) none) (fun q hq => by rw [List.length_set]; exact hp q (List.mem_cons_of_mem _ hq)) rfl
    refine ⟨r', s', ?_⟩
    rw [List.map_cons, forGo_cons, turnS_eq]
    have h0 : (0 : Int) < ls.length := by omega
    have hgd : ls.getD (r % ls.length) 0 = ls[r % ls.length] := by simp [List.getD_eq_getElem?_getD, List.getElem?_eq_getElem hm]
    rw [fillGo]
    simp only [List.map_set] at e
    rw [Int.natCast_ediv] at e
    rw [hgd] at e ⊢
    simp [c_filled, bodyOf] at e
    simp [c_filled, hs, hlim, hbig, hls, h0, ix_Smod, hm, hp0, e]
end LawK01
end

section
set_option linter.all false
set_option maxRecDepth 100000
set_option maxHeartbeats 4000000
namespace LawK01
open PV PS
open PySem (Str)
open SX (S)
theorem holes_lt {t : List Nat} {k p : Nat} (h : p ∈ holes t k) : k ≤ p ∧ p < k + t.length := by
  unfold holes at h
  obtain ⟨⟨c, i⟩, h1, h2⟩ := List.mem_filterMap.mp h
  have := List.mem_zipIdx h1
  dsimp only at h2
  split at h2
  · cases h2; omega
  · cases h2
theorem filled_eq (n : Nat) (t ls : List Nat) (k : Nat) (hls : 0 < ls.length) (hls2 : ls.length ≤ 100) (hlen : t.length ≤ LIM) :
    callF tab xt.sub (n + 1) "filled" [.fro (dS t) none, .own (.lst (((holes t 0).map fun i : Nat => D.int i).map .fro)) none, .fro (dS ls) none, .fro (.int k) none] = .ret (.val (dS (filledL t ls k))) [.non, .own (.lst (((holes t 0).map fun i : Nat => D.int i).map .fro)) none, .non, .non] := by
  rw [callF_succ, t_filled]
  obtain ⟨r', s', e⟩ := filled_loop (C := ⟨callF tab xt.sub n, xt.sub⟩) (t0 := dS t) (s1 := .own (.lst (((holes t 0).map fun i : Nat => D.int i).map .fro)) (some 1)) (num := .int k) hls hls2 (holes t 0).reverse t k .non (fun p hp => by
    have := holes_lt (List.mem_reverse.mp hp); omega) rfl
  have hl2 : (fillGo ls (holes t 0).reverse t k).length ≤ LIM := by rw [fillGo_len]; exact hlen
  simp [c_filled, bodyOf] at e
  simp [c_filled, hlen]
  rw [e]
  simp [hl2, filledL]
/-! ### fillings -/
@[simp] theorem sub_bt : xt.sub (Str.ofString "BadText") (Str.ofString "BadText") = some true := by decide +kernel
@[simp] theorem sub_bl : xt.sub (Str.ofString "BadLetters") (Str.ofString "BadLetters") = some true := by decide +kernel
@[simp] theorem sub_np : xt.sub (Str.ofString "NoPlace") (Str.ofString "NoPlace") = some true := by decide +kernel
@[simp] theorem sub_tm : xt.sub (Str.ofString "TooMany") (Str.ofString "TooMany") = some true := by decide +kernel
def badLetters (d : D) : Exn := ⟨"BadLetters", ["given"], [d]⟩
def tooMany (i : Nat) : Exn := ⟨"TooMany", ["found"], [.int i]⟩
def noPlace (i : Int) : Exn := ⟨"NoPlace", ["place"], [.int i]⟩
theorem yield_loop (n : Nat) (t ls : List Nat) {s3 : Slot} (hls : 0 < ls.length) (hls2 : ls.length ≤ 100) (hlen : t.length ≤ LIM) : ∀ (ks : List Nat) (ys : List D) (s4 : Slot), ys.length + ks.length ≤ LIM → frS s4 = true →
    ∃ s4' : Slot, forGoG (turnG ⟨callF tab xt.sub (n + 1), xt.sub⟩ (.nm 4) (.yield_ (.call "filled" [.var 0, .var 2, .var 1, .var 4] [] [0, 1, 2, 3]))) (ks.map fun i : Nat => D.int i) ys [.fro (dS t) none, .fro (dS ls) none, .own (.lst (((holes t 0).map fun i : Nat => D.int i).map .fro)) none, s3, s4] =
      .nx (ys ++ ks.map fun k => dS (filledL t ls k)) [.fro (dS t) none, .fro (dS ls) none, .own (.lst (((holes t 0).map fun i : Nat => D.int i).map .fro)) none, s3, s4']
  | [], ys, s4, _, _ => ⟨s4, by simp⟩
  | k :: ks, ys, s4, hl, hs => by
    obtain ⟨s4', e⟩ := yield_loop n t ls (s3 := s3) hls hls2 hlen ks (ys ++ [dS (filledL t ls k)]) (.fro (.int k) none) (by simp at hl ⊢; omega) rfl
    refine ⟨s4', ?_⟩
    have hy : ys.length < LIM := by simp at hl; omega
    have hf := filled_eq n t ls k hls hls2 hlen
    rw [List.map_cons, forGoG_cons, turnG_eq]
    simp at e hf
    simp [hs, hy, hf, e]
theorem isRow_len {ls : List Nat} (h : isRow ls = true) : 0 < ls.length ∧ ls.length ≤ 6 := by
  unfold isRow at h
  rw [Bool.and_eq_true, decide_eq_true_iff, decide_eq_true_iff] at h
  refine ⟨h.1, ?_⟩
  rw [h.2]
  exact List.length_filter_le _ _
def fillRes (t ls : List Nat) : FOut := match fwD AF t with
  | some i => .err (badText i) [.non, .non]
  | none => if isRow ls = true then (if 2000 < ls.length ^ (holes t 0).length then .err (tooMany (ls.length ^ (holes t 0).length)) [.non, .non] else .ret (.frs (.lst (((List.range (ls.length ^ (holes t 0).length)).map fun k => dS (filledL t ls k)).map .fro))) [.non, .non])
    else .err (badLetters (dS ls)) [.non, .non]
theorem holes_len {t : List Nat} {k : Nat} : (holes t k).length ≤ t.length := by
  unfold holes
  exact Nat.le_trans (List.length_filterMap_le _ _) (by simp)
theorem fwD_none {ls t : List Nat} (h : fwD ls t = none) : t.length ≤ 12 ∧ wIx ls t = none := by
  unfold fwD at h
  cases h2 : wIx ls t with
  | some i => rw [h2] at h; cases h
  | none =>
    rw [h2] at h
    dsimp only at h
    split at h
    · cases h
    · exact ⟨by omega, rfl⟩
theorem fillings_eq (n : Nat) (t ls : List Nat) (ht : okS t = true) (hl : okS ls = true) (hlen : t.length ≤ LIM) (hlen2 : ls.length ≤ LIM) :
    callF tab xt.sub (n + 6) "fillings" [.fro (dS t) none, .fro (dS ls) none] = fillRes t ls := by
  rw [callF_succ, t_fillings]
  have hh := hole_places_eq (n + 1) t ht hlen
  unfold fillRes
  cases h : fwD AF t with
  | some i =>
    rw [h] at hh
    simp [badText] at hh
    simp [c_fillings, hh, badText]
  | none =>
    rw [h] at hh
    have h12 := (fwD_none h).1
    have hr := is_row_eq (n + 4) ls hl hlen2
    by_cases hrow : isRow ls = true
    · rw [hrow] at hr
      obtain ⟨r0, r6⟩ := isRow_len hrow
      have hhl := holes_len (t := t) (k := 0)
      have hlh : (holes t 0).length ≤ LIM := by rw [LIM_m]; omega
      have hc := filling_count_eq (n + 4) (holes t 0).length ls.length (by omega) (by omega)
      simp at hh hc
      by_cases hm : 2000 < ls.length ^ (holes t 0).length
      · have hb : ls.length ^ (holes t 0).length ≤ 10000000000 := Nat.le_trans (Nat.pow_le_pow_left r6 _) (Nat.le_trans (Nat.pow_le_pow_right (by decide) (show (holes t 0).length ≤ 12 by omega)) (by decide +kernel))
        have hmi : (2000 : Int) < ((ls.length : Int) ^ (holes t 0).length) := by
          have : ((2000 : Nat) : Int) < ((ls.length ^ (holes t 0).length : Nat) : Int) := by omega
          simpa using this
        have hfm : fmOk (.int ((ls.length : Int) ^ (holes t 0).length)) = true := by
          have e : ((ls.length : Int) ^ (holes t 0).length) = ((ls.length ^ (holes t 0).length : Nat) : Int) := by simp
          rw [e]
          unfold fmOk
          refine decide_eq_true ?_
          rw [Int.natAbs_natCast]
          exact Nat.lt_of_lt_of_le ((Nat.log2_lt (by omega)).mpr (Nat.lt_of_le_of_lt hb (by decide +kernel : 10000000000 < 2 ^ 40))) (by decide)
        simp [c_fillings, hh, hr, hc, hlh, hlen2, hmi, hfm, hrow, hm, tooMany]
      · have hmi : ¬ (2000 : Int) < ((ls.length : Int) ^ (holes t 0).length) := by
          have : ¬ ((2000 : Nat) : Int) < ((ls.length ^ (holes t 0).length : Nat) : Int) := by omega
          simpa using this
        have hlt : ls.length ^ (holes t 0).length < LIM := by rw [LIM_m]; omega
        obtain ⟨s4, e⟩ := yield_loop (n + 4) t ls (s3 := .fro (.int ((ls.length ^ (holes t 0).length : Nat) : Int)) none) r0 (by omega) hlen (List.range (ls.length ^ (holes t 0).length)) [] .non (by simp; omega) rfl
        have hrng : itF .rng [.int ((ls.length : Int) ^ (holes t 0).length)] = some ((List.range (ls.length ^ (holes t 0).length)).map fun (i : Nat) => .int (i : Int)) := by
          have e : ((ls.length : Int) ^ (holes t 0).length) = ((ls.length ^ (holes t 0).length : Nat) : Int) := by simp
          rw [e, it_rng, if_pos hlt]
        simp at e
        simp [c_fillings, hh, hr, hc, hlh, hlen2, hmi, hrow, hm, hrng]
        rw [e]
        simp
    · have hrow' : isRow ls = false := by simpa using hrow
      rw [hrow'] at hr
      simp at hh
      simp [c_fillings, hh, hr, hrow', badLetters]
end LawK01
end

section
set_option linter.all false
set_option maxRecDepth 100000
set_option maxHeartbeats 4000000
namespace LawK01
open PV PS
open PySem (Str)
open SX (S)
/-! ### strange -/
/-- the first place that is none -/
def wrongPlace (m : Nat) (l : List Int) : Option Int := l.find? fun p => !(decide (0 ≤ p) && decide (p < m))
theorem strange_loop {C : Ctx} {t : List Nat} {s1 s3 s4 : Slot} (hlen : t.length ≤ LIM) : ∀ (l : List Int) (s2 : Slot), (∀ p ∈ l, p.natAbs ≤ 10 ^ 12) → frS s2 = true →
    ∃ s2' : Slot, forGo (turnS C (.nm 2) (bodyOf c_strange)) (l.map D.int) [.fro (dS t) none, s1, s2, s3, s4] =
      (match wrongPlace t.length l with
      | some p => .err (noPlace p) [.fro (dS t) none, s1, s2', s3, s4]
      | none => .nx [.fro (dS t) none, s1, s2', s3, s4])
  | [], s2, _, h2 => ⟨s2, by simp [wrongPlace]⟩
  | p :: l, s2, hp, h2 => by
    obtain ⟨s2', e⟩ := strange_loop (C := C) (s1 := s1) (s3 := s3) (s4 := s4) hlen l (.fro (.int p) none) (fun q hq => hp q (List.mem_cons_of_mem _ hq)) rfl
    have hf : fmOk (.int p) = true := by
      unfold fmOk
      refine decide_eq_true ?_
      have := hp p List.mem_cons_self
      by_cases h0 : p.natAbs = 0
      · rw [h0]; decide
      · exact Nat.lt_of_lt_of_le ((Nat.log2_lt h0).mpr (Nat.lt_of_le_of_lt this (by decide +kernel : 10 ^ 12 < 2 ^ 41))) (by decide)
    rw [List.map_cons, forGo_cons, turnS_eq]
    by_cases h0 : 0 ≤ p
    · by_cases h1 : p < t.length
      · refine ⟨s2', ?_⟩
        have hw : wrongPlace t.length (p :: l) = wrongPlace t.length l := by simp [wrongPlace, h0, h1]
        simp [c_strange, bodyOf] at e
        simp [c_strange, bodyOf, h2, h0, h1, hlen]
        rw [e, hw]
      · refine ⟨.fro (.int p) none, ?_⟩
        have hw : wrongPlace t.length (p :: l) = some p := by simp [wrongPlace, h1]
        simp [c_strange, bodyOf, h2, h0, h1, hlen, hf, hw, noPlace]
    · refine ⟨.fro (.int p) none, ?_⟩
      have hw : wrongPlace t.length (p :: l) = some p := by simp [wrongPlace, h0]
      simp [c_strange, bodyOf, h2, h0, hlen, hf, hw, noPlace]
def strangeL (t : List Nat) (l : List Int) : List Nat := t.zipIdx.map fun p => if (p.2 : Int) ∈ l then 122 else p.1
theorem mem_ints {i : Int} {l : List Int} : memD (.int i) (.lst (l.map D.int)) = some (decide (i ∈ l)) := by
  rw [mem_plain (n := 0) (by decide) (by simp) (by simp)]
  congr 1
  rw [Bool.eq_iff_iff]
  simp only [decide_eq_true_eq]
  simp
theorem mem_intsT {i : Int} {l : List Int} : memD (.int i) (.tup (l.map D.int)) = some (decide (i ∈ l)) := by
  rw [mem_plainT (n := 0) (by decide) (by simp) (by simp)]
  congr 1
  rw [Bool.eq_iff_iff]
  simp only [decide_eq_true_eq]
  simp
theorem strange_lc {C : Ctx} {t : List Nat} {l : List Int} {d : D} {q : Option Nat} {s2 : Slot} (hlen : t.length ≤ LIM) (hd : d = .lst (l.map D.int) ∨ d = .tup (l.map D.int)) :
    lcGo [3, 4] (turnL C 5 (.tup [3, 4]) [] (.ite (.tru (.cmp .mem (.var 3) (.var 1))) (.cst (.str "z")) (.var 4))) (t.zipIdx.map fun p => .tup [.int p.2, dS [p.1]]) [] [.fro (dS t) none, .fro d q, s2, .non, .non] =
      .ok ((strangeL t l).map fun c => dS [c]) [.fro (dS t) none, .fro d q, s2, .non, .non] := by
  have hmem : ∀ i : Int, memD (.int i) d = some (decide (i ∈ l)) := fun i => by
    rcases hd with rfl | rfl
    · exact mem_ints
    · exact mem_intsT
  have hm := lcGo_mapG (own := [3, 4]) (t := turnL C 5 (.tup [3, 4]) [] (.ite (.tru (.cmp .mem (.var 3) (.var 1))) (.cst (.str "z")) (.var 4))) (e0 := [.fro (dS t) none, .fro d q, s2, .non, .non])
      (g := fun p : Nat × Nat => D.tup [.int p.2, dS [p.1]]) (h := fun p => some (dS [if (p.2 : Int) ∈ l then 122 else p.1])) t.zipIdx [] [.fro (dS t) none, .fro d q, s2, .non, .non] (by simp) (fun p hp => by
        by_cases h : (p.2 : Int) ∈ l
        · exact ⟨[.fro (dS t) none, .fro d q, s2, .fro (.int p.2) none, .fro (dS [p.1]) none], by simp [turnL_eq, hmem, h]⟩
        · exact ⟨[.fro (dS t) none, .fro d q, s2, .fro (.int p.2) none, .fro (dS [p.1]) none], by simp [turnL_eq, hmem, h]⟩) (by simpa using hlen)
  rw [hm, List.nil_append]
  congr 1
  rw [show (fun p : Nat × Nat => some (dS [if (p.2 : Int) ∈ l then 122 else p.1])) = some ∘ fun p : Nat × Nat => dS [if (p.2 : Int) ∈ l then 122 else p.1] from rfl, List.filterMap_eq_map]
  simp [strangeL]
def resS (t : List Nat) (l : List Int) (outs : List Slot) : FOut := match fwD AF t with
  | some i => .err (badText i) outs
  | none => match wrongPlace t.length l with
    | some p => .err (noPlace p) outs
    | none => .ret (.val (dS (strangeL t l))) outs
theorem strangeL_len {t : List Nat} {l : List Int} : (strangeL t l).length = t.length := by simp [strangeL]
abbrev plT (l : List Int) : OD := .lst ((l.map D.int).map .fro)
def keptS (l : List Int) (s : Slot) : Prop := s = .own (plT l) none ∨ s = .fro (.lst (l.map D.int)) none
theorem strange_own (n : Nat) (t : List Nat) (l : List Int) (ht : okS t = true) (hlen : t.length ≤ LIM) (hl : ∀ p ∈ l, p.natAbs ≤ 10 ^ 12) :
    ∃ s', keptS l s' ∧ callF tab xt.sub (n + 4) "strange" [.fro (dS t) none, .own (plT l) none] = resS t l [.non, s'] := by
  rw [callF_succ, t_strange]
  have hck := check_text_eq n t AF ht ok_AF hlen
  unfold resS
  cases h : fwD AF t with
  | some i =>
    rw [h] at hck
    exact ⟨_, .inl rfl, by simp [c_strange, hck]⟩
  | none =>
    rw [h] at hck
    obtain ⟨s2, e⟩ := strange_loop (C := ⟨callF tab xt.sub (n + 3), xt.sub⟩) (s1 := .fro (.lst (l.map D.int)) (some 1)) (s3 := .non) (s4 := .non) hlen l .non hl rfl
    have hlc := strange_lc (C := ⟨callF tab xt.sub (n + 3), xt.sub⟩) (l := l) (d := .lst (l.map D.int)) (q := some 1) (s2 := s2) hlen (.inl rfl)
    have hl2 : (strangeL t l).length ≤ LIM := by rw [strangeL_len]; exact hlen
    refine ⟨_, .inr rfl, ?_⟩
    cases hw : wrongPlace t.length l with
    | some p =>
      rw [hw] at e
      simp [c_strange, bodyOf] at e
      simp [c_strange, hck]
      rw [e]
      simp
    | none =>
      rw [hw] at e
      simp [c_strange, bodyOf] at e
      simp at hlc
      simp [c_strange, hck]
      rw [e]
      simp [hlen]
      rw [hlc]
      simp [hl2]
theorem strange_fro (n : Nat) (t : List Nat) (l : List Int) (d : D) (hd : d = .lst (l.map D.int) ∨ d = .tup (l.map D.int)) (ht : okS t = true) (hlen : t.length ≤ LIM) (hl : ∀ p ∈ l, p.natAbs ≤ 10 ^ 12) :
    callF tab xt.sub (n + 4) "strange" [.fro (dS t) none, .fro d none] = resS t l [.non, .non] := by
  rw [callF_succ, t_strange]
  have hck := check_text_eq n t AF ht ok_AF hlen
  have hit : itF .seq [d] = some (l.map D.int) := by rcases hd with rfl | rfl <;> rfl
  unfold resS
  cases h : fwD AF t with
  | some i =>
    rw [h] at hck
    simp [c_strange, hck]
  | none =>
    rw [h] at hck
    obtain ⟨s2, e⟩ := strange_loop (C := ⟨callF tab xt.sub (n + 3), xt.sub⟩) (s1 := .fro d none) (s3 := .non) (s4 := .non) hlen l .non hl rfl
    have hlc := strange_lc (C := ⟨callF tab xt.sub (n + 3), xt.sub⟩) (l := l) (d := d) (q := none) (s2 := s2) hlen hd
    have hl2 : (strangeL t l).length ≤ LIM := by rw [strangeL_len]; exact hlen
    cases hw : wrongPlace t.length l with
    | some p =>
      rw [hw] at e
      simp [c_strange, bodyOf] at e
      simp [c_strange, hck, hit]
      rw [e]
      simp
    | none =>
      rw [hw] at e
      simp [c_strange, bodyOf] at e
      simp at hlc
      simp [c_strange, hck, hit]
      rw [e]
      simp [hlen]
      rw [hlc]
      simp [hl2]
end LawK01
end

section
set_option linter.all false
set_option maxRecDepth 100000
set_option maxHeartbeats 4000000
namespace LawK01
open PV PS
open PySem (Str)
open SX (S)
/-! ### moves -/
abbrev Prs := List (List Nat × List Nat)
def lookL (P : Prs) (k : List Nat) : Option (List Nat) := (P.filterMap fun p => if p.1 = k then some p.2 else none).head?
def pK (P : Prs) : List L2.Key := P.map fun p => .inr (S p.1)
def pV (P : Prs) : List D := P.map fun p => dS p.2
theorem lookD_eq : ∀ (P : Prs) (k : List Nat), lookD (pK P) (pV P) (.inr (S k)) = (lookL P k).map dS
  | [], k => rfl
  | p :: P, k => by
    show (if (Sum.inr (S p.1) : L2.Key) = .inr (S k) then some (dS p.2) else lookD (pK P) (pV P) (.inr (S k))) = _
    by_cases h : p.1 = k
    · rw [if_pos (by rw [h])]
      simp [lookL, h]
    · rw [if_neg (fun h' => h (S_eq.mp (Sum.inr.inj h'))), lookD_eq P k]
      simp [lookL, h]
theorem lookL_mem : ∀ (P : Prs), (P.map Prod.fst).Nodup → ∀ p ∈ P, lookL P p.1 = some p.2
  | [], _, p, h => by cases h
  | q :: P, hn, p, h => by
    rw [List.map_cons, List.nodup_cons] at hn
    rcases List.mem_cons.mp h with rfl | h
    · simp [lookL]
    · have hne : q.1 ≠ p.1 := fun e => hn.1 (List.mem_map.mpr ⟨p, h, e.symm⟩)
      have := lookL_mem P hn.2 p h
      unfold lookL at this ⊢
      rw [List.filterMap_cons, if_neg hne]
      exact this
abbrev tok (k : List Nat) : Prop := ∃ c ∈ AF, k = [c]
/-- the first key that is wrong -/
def wrongM (ks : List (List Nat)) : Prs → List (List Nat) → Option (List Nat)
  | [], _ => none
  | (k, v) :: ps, vals => if ¬ tok k ∨ v ∉ ks ∨ v ∈ vals then some k else wrongM ks ps (vals ++ [v])
theorem mem_strs {v : List Nat} {l : List (List Nat)} (hv : okS v = true) (hl : ∀ x ∈ l, okS x = true) : memD (dS v) (.lst (l.map dS)) = some (decide (v ∈ l)) := by
  rw [mem_plain (n := 0) (by decide) (by simpa using hv) (by simpa using hl)]
  congr 1
  rw [Bool.eq_iff_iff]
  simp only [decide_eq_true_eq]
  constructor
  · intro h
    obtain ⟨x, h1, h2⟩ := List.mem_map.mp h
    have : S x = S v := by injection h2
    rwa [← S_eq.mp this]
  · exact fun h => List.mem_map.mpr ⟨v, h, rfl⟩
def okP (P : Prs) : Prop := ∀ p ∈ P, okS p.1 = true ∧ okS p.2 = true ∧ p.1.length ≤ 100 ∧ p.2.length ≤ 100
abbrev dicT (P : Prs) : OD := .dic (pK P) ((pV P).map .fro)
theorem moves_loop (n : Nat) (P : Prs) (hP : okP P) (hn : (P.map Prod.fst).Nodup) (hl : P.length ≤ 1000) : ∀ (ps : Prs) (vals : List (List Nat)) (s3 s4 : Slot), (∀ p ∈ ps, p ∈ P) → (∀ v ∈ vals, okS v = true) → vals.length + ps.length ≤ 1000 → frS s3 = true → frS s4 = true →
    ∃ s2' s3' s4' : Slot, forGo (turnS ⟨callF tab xt.sub (n + 1), xt.sub⟩ (.nm 3) (bodyOf c_check_moves)) (ps.map fun p => dS p.1) [.own (dicT P) (some 0), .fro (.lst (P.map fun p => dS p.1)) none, .own (.lst ((vals.map dS).map .fro)) none, s3, s4] =
      (match wrongM (P.map Prod.fst) ps vals with
      | some k => .err (badLetters (dS k)) [.own (dicT P) (some 0), .fro (.lst (P.map fun p => dS p.1)) none, s2', s3', s4']
      | none => .nx [.own (dicT P) (some 0), .fro (.lst (P.map fun p => dS p.1)) none, s2', s3', s4'])
  | [], vals, s3, s4, _, _, _, _, _ => ⟨.own (.lst ((vals.map dS).map .fro)) none, s3, s4, by simp [wrongM]⟩
  | (k, v) :: ps, vals, s3, s4, hs, hv, hlen, h3, h4 => by
    have hkv := hP (k, v) (hs _ List.mem_cons_self)
    dsimp only at hkv
    have hlk : lookD (pK P) (pV P) (.inr (S k)) = some (dS v) := by
      rw [lookD_eq, lookL_mem P hn (k, v) (hs _ List.mem_cons_self)]; rfl
    have hdx : dixD (.dic (pK P) (pV P)) (dS k) = some (dS v) := hlk
    have htk := is_token_eq n k hkv.1 (Nat.le_trans hkv.2.2.1 (by rw [LIM_m]; decide))
    have hm1 : memD (dS v) (.lst (P.map fun p => dS p.1)) = some (decide (v ∈ P.map Prod.fst)) := by
     have := mem_strs (l := P.map Prod.fst) hkv.2.1 (fun x hx => by
      obtain ⟨p, h1, rfl⟩ := List.mem_map.mp hx
      exact (hP p h1).1)
     rw [List.map_map] at this
     exact this
    have hm2 := mem_strs hkv.2.1 hv
    obtain ⟨s2', s3', s4', e⟩ := moves_loop n P hP hn hl ps (vals ++ [v]) (.fro (dS k) none) (.fro (dS v) none) (fun p hp => hs p (List.mem_cons_of_mem _ hp)) (fun x hx => by
      rcases List.mem_append.mp hx with hx | hx
      · exact hv x hx
      · rw [List.mem_singleton.mp hx]; exact hkv.2.1) (by simp at hlen ⊢; omega) rfl rfl
    have hvl : vals.length < LIM := by rw [LIM_m]; simp at hlen; omega
    rw [List.map_cons, forGo_cons, turnS_eq]
    by_cases c1 : tok k
    · have htk' : decide (tok k) = true := decide_eq_true c1
      by_cases c2 : v ∈ P.map Prod.fst
      · by_cases c3 : v ∈ vals
        · have hw : wrongM (P.map Prod.fst) ((k, v) :: ps) vals = some k := by rw [wrongM, if_pos (.inr (.inr c3))]
          rw [hw]
          refine ⟨.own (.lst ((vals.map dS).map .fro)) none, .fro (dS k) none, .fro (dS v) none, ?_⟩
          simp only [decide_eq_true c1, decide_eq_true c2, decide_eq_true c3] at htk hm1 hm2
          simp [c_check_moves, h3, h4, hdx, htk, hm1, hm2, badLetters]
        · have hw : wrongM (P.map Prod.fst) ((k, v) :: ps) vals = wrongM (P.map Prod.fst) ps (vals ++ [v]) := by rw [wrongM, if_neg (fun h => by rcases h with h | h | h <;> contradiction)]
          rw [hw]
          refine ⟨s2', s3', s4', ?_⟩
          simp only [decide_eq_true c1, decide_eq_true c2, decide_eq_false c3] at htk hm1 hm2
          simp [c_check_moves, bodyOf] at e
          simp [c_check_moves, h3, h4, hdx, htk, hm1, hm2, hvl]
          exact e
      · have hw : wrongM (P.map Prod.fst) ((k, v) :: ps) vals = some k := by rw [wrongM, if_pos (.inr (.inl c2))]
        rw [hw]
        refine ⟨.own (.lst ((vals.map dS).map .fro)) none, .fro (dS k) none, .fro (dS v) none, ?_⟩
        simp only [decide_eq_true c1, decide_eq_false c2] at htk hm1
        simp [c_check_moves, h3, h4, hdx, htk, hm1, badLetters]
    · have hw : wrongM (P.map Prod.fst) ((k, v) :: ps) vals = some k := by rw [wrongM, if_pos (.inl c1)]
      rw [hw]
      refine ⟨.own (.lst ((vals.map dS).map .fro)) none, .fro (dS k) none, .fro (dS v) none, ?_⟩
      simp only [decide_eq_false c1] at htk
      simp [c_check_moves, h3, h4, hdx, htk, badLetters]
@[simp] theorem list_dicP {P : Prs} {vs : List D} : biF .list [.dic (pK P) vs] = some (.frs (.lst ((P.map fun p => dS p.1).map .fro))) := by
  show some (Res.frs (.lst ((pK P).map fun k => match k with | .inl i => OD.fro (.int i) | .inr s => .fro (.str s)))) = _
  rw [pK, List.map_map, List.map_map]
  rfl
theorem check_moves_eq (n : Nat) (P : Prs) (hP : okP P) (hn : (P.map Prod.fst).Nodup) (hl : P.length ≤ 1000) :
    callF tab xt.sub (n + 2) "check_moves" [.own (dicT P) none] = (match wrongM (P.map Prod.fst) P [] with
      | some k => .err (badLetters (dS k)) [.own (dicT P) none]
      | none => .ret (.val .non) [.own (dicT P) none]) := by
  rw [callF_succ, t_check_moves]
  obtain ⟨s2, s3, s4, e⟩ := moves_loop n P hP hn hl P [] .non .non (fun p hp => hp) (fun v hv => by cases hv) (by simpa using hl) rfl rfl
  simp [c_check_moves, bodyOf] at e
  simp [c_check_moves]
  rw [e]
  cases wrongM (P.map Prod.fst) P [] with
  | some k => simp
  | none => simp
def recastL (t : List Nat) (P : Prs) : List Nat := (t.map fun c => (lookL P [c]).getD [c]).flatten
def resR (t : List Nat) (P : Prs) (outs : List Slot) : FOut := match fwD AF t with
  | some i => .err (badText i) outs
  | none => match wrongM (P.map Prod.fst) P [] with
    | some k => .err (badLetters (dS k)) outs
    | none => .ret (.val (dS (recastL t P))) outs
theorem lookL_some {P : Prs} {k v : List Nat} (h : lookL P k = some v) : (k, v) ∈ P := by
  unfold lookL at h
  have := List.mem_of_head? h
  obtain ⟨p, h1, h2⟩ := List.mem_filterMap.mp this
  split at h2
  · rename_i h3; cases h2; rw [← h3]; exact h1
  · cases h2
theorem recastL_len {P : Prs} (hP : okP P) : ∀ t : List Nat, (recastL t P).length ≤ 100 * t.length
  | [] => by simp [recastL]
  | c :: t => by
    have := recastL_len hP t
    have h1 : ((lookL P [c]).getD [c]).length ≤ 100 := by
      cases h : lookL P [c] with
      | none => simp
      | some v => exact (hP _ (lookL_some h)).2.2.2
    simp [recastL] at this h1 ⊢
    omega
@[simp] theorem mtT_get2 {ks : List L2.Key} {vs : List D} : mtT .get2 (.dic ks vs) = true := (rfl)
@[simp] theorem get2_P {P : Prs} {c : List Nat} : mtF .get2 (.dic (pK P) (pV P)) [dS c, dS c] = some (.at_ (.val (dS ((lookL P c).getD c)))) := by
  show some (Res.at_ (.val ((lookD (pK P) (pV P) (.inr (S c))).getD (dS c)))) = _
  rw [lookD_eq]
  cases lookL P c <;> rfl
theorem recast_eq (n : Nat) (t : List Nat) (P : Prs) (ht : okS t = true) (hlen : t.length ≤ 1000) (hP : okP P) (hn : (P.map Prod.fst).Nodup) (hl : P.length ≤ 1000) :
    callF tab xt.sub (n + 4) "recast" [.fro (dS t) none, .own (dicT P) none] = resR t P [.non, .own (dicT P) none] := by
  rw [callF_succ, t_recast]
  have hlim : t.length ≤ LIM := by rw [LIM_m]; omega
  have hck := check_text_eq n t AF ht ok_AF hlim
  have hcm := check_moves_eq (n + 1) P hP hn hl
  unfold resR
  cases h : fwD AF t with
  | some i =>
    rw [h] at hck
    simp [c_recast, hck]
  | none =>
    rw [h] at hck
    cases hw : wrongM (P.map Prod.fst) P [] with
    | some k =>
      rw [hw] at hcm
      simp at hcm
      simp [c_recast, hck, hcm]
    | none =>
      rw [hw] at hcm
      have hm := lcGo_mapG (own := [2]) (t := turnL ⟨callF tab xt.sub (n + 3), xt.sub⟩ 3 (.nm 2) [] (.mt .get2 (.var 1) [.var 2, .var 2])) (e0 := [.fro (dS t) none, .own (dicT P) (some 1), .non])
        (g := fun c : Nat => dS [c]) (h := fun c => some (dS ((lookL P [c]).getD [c]))) t [] [.fro (dS t) none, .own (dicT P) (some 1), .non] (by simp) (fun c hc => by
          exact ⟨[.fro (dS t) none, .own (dicT P) (some 1), .fro (dS [c]) none], by simp [turnL_eq]⟩) (by simpa using hlim)
      rw [List.nil_append, show (fun c : Nat => some (dS ((lookL P [c]).getD [c]))) = some ∘ fun c : Nat => dS ((lookL P [c]).getD [c]) from rfl, List.filterMap_eq_map,
        show (fun c : Nat => dS ((lookL P [c]).getD [c])) = dS ∘ fun c : Nat => (lookL P [c]).getD [c] from rfl, ← List.map_map] at hm
      have hrl := recastL_len hP t
      have hl2 : (t.map fun c => (lookL P [c]).getD [c]).flatten.length ≤ LIM := by
        rw [LIM_m]; unfold recastL at hrl; omega
      generalize hF : (t.map fun c => (lookL P [c]).getD [c]) = fs at hm hl2
      have hrr : recastL t P = fs.flatten := by rw [← hF]; rfl
      simp at hm hcm
      simp [c_recast, hck, hcm, hlim]
      rw [hm]
      rw [List.length_flatten] at hl2
      simp [hl2, hrr]
end LawK01
end

section
set_option linter.all false
set_option maxRecDepth 100000
set_option maxHeartbeats 4000000
namespace LawK01
open PV PS
open PySem (Str)
open SX (S)
/-! ### _law_is -/
def lp : Nat → D → Bool
  | _, .non => true
  | _, .int _ => true
  | _, .bl _ => true
  | _, .str s => PySem.PyData.strOk s
  | n + 1, .lst xs => xs.all (lp n) && decide (xs.length < LIM)
  | _, _ => false
theorem str_S (s : Str) : s = S s.cps.toList := rfl
theorem law_is_eq : ∀ (k n : Nat) (d : D), lp k d = true → callF tab xt.sub (n + k + 1) "_law_is" [.fro d none, .fro d none] = .ret (.val (.bl true)) [.non, .non] := by
  have base : ∀ (n : Nat) (d : D), (match d with | .non => True | .int _ => True | .bl _ => True | .str s => PySem.PyData.strOk s = true | _ => False) → callF tab xt.sub (n + 1) "_law_is" [.fro d none, .fro d none] = .ret (.val (.bl true)) [.non, .non] := by
    intro n d h
    rw [callF_succ, t__law_is]
    cases d with
    | non => simp [c__law_is]
    | int i => simp [c__law_is]
    | bl b => simp [c__law_is]
    | str s =>
      have h1 : PySem.PyData.strOk s = true := h
      obtain ⟨q, rfl⟩ : ∃ q, s = S q := ⟨_, str_S s⟩
      rw [strOk_S] at h1
      simp [c__law_is, h1]
    | _ => exact h.elim
  intro k
  induction k with
  | zero =>
    intro n d h
    apply base
    cases d <;> first | trivial | exact h | cases h
  | succ k ih =>
    intro n d h
    cases d with
    | lst xs =>
      have h' : (xs.all (lp k) && decide (xs.length < LIM)) = true := h
      rw [Bool.and_eq_true, decide_eq_true_iff] at h'
      rw [show n + (k + 1) + 1 = (n + k + 1) + 1 by omega, callF_succ, t__law_is]
      have hm := lcGo_mapG (own := [2]) (t := turnL ⟨callF tab xt.sub (n + k + 1), xt.sub⟩ 3 (.nm 2) [] (.callR "_law_is" [.ix (.var 0) (.var 2), .ix (.var 1) (.var 2)] [] [0, 1])) (e0 := [.fro (.lst xs) none, .fro (.lst xs) none, .non])
        (g := fun i : Nat => D.int (i : Int)) (h := fun _ => some (D.bl true)) (List.range xs.length) [] [.fro (.lst xs) none, .fro (.lst xs) none, .non] (by simp) (fun i hi => by
          have hi' := List.mem_range.mp hi
          have := ih n xs[i] (List.all_eq_true.mp h'.1 _ (List.getElem_mem hi'))
          exact ⟨[.fro (.lst xs) none, .fro (.lst xs) none, .fro (.int i) none], by simp [turnL_eq, hi', this, simple]⟩) (by simp; omega)
      have hr : (List.range xs.length).filterMap (fun _ => some (D.bl true)) = (List.replicate xs.length true).map .bl := by
        rw [show (fun _ : Nat => some (D.bl true)) = some ∘ fun _ => D.bl true from rfl, List.filterMap_eq_map]
        apply List.ext_getElem
        · simp
        · simp
      rw [hr, List.nil_append] at hm
      have hall := all_bl (bs := List.replicate xs.length true)
      generalize hL : List.map D.bl (List.replicate xs.length true) = L at hm hall
      simp [c__law_is, h'.2]
      rw [hm]
      have hF : flats (List.map OD.fro L) = some L := flats_fro L
      simp
      rw [hall]
      simp
    | _ =>
      rw [show n + (k + 1) + 1 = (n + k + 1) + 1 by omega]
      apply base
      first | trivial | exact h | cases h
/-! ### _law_wrong -/
theorem head_fIx (f : Nat → Bool) : ∀ (t : List Nat), ((List.range t.length).filterMap fun i => if f (t.getD i 0) = true then some i else none).head? = t.findIdx? f
  | [] => rfl
  | c :: t => by
    rw [List.length_cons, List.range_succ_eq_map, List.filterMap_cons, List.findIdx?_cons]
    by_cases h : f c = true
    · simp [h]
    · have e : ((List.range t.length).map Nat.succ).filterMap (fun i => if f ((c :: t).getD i 0) = true then some i else none) = ((List.range t.length).filterMap (fun i => if f (t.getD i 0) = true then some i else none)).map (· + 1) := by
        rw [List.filterMap_map, List.map_filterMap]
        congr 1
        funext i
        simp only [Function.comp]
        show (if f (t.getD i 0) = true then some (i + 1) else none) = _
        by_cases h2 : f (t.getD i 0) = true
        · rw [if_pos h2, if_pos h2]; rfl
        · rw [if_neg h2, if_neg h2]; rfl
      have h0 : (if f ((c :: t).getD 0 0) = true then some 0 else none) = (none : Option Nat) := if_neg h
      rw [e, h0]
      dsimp only
      rw [List.head?_map, head_fIx f t, if_neg h]
theorem law_wrong_eq (n : Nat) (t ls : List Nat) (hl : okS ls = true) (hlen : t.length ≤ 10000) (hlen2 : ls.length ≤ 100) :
    callF tab xt.sub (n + 1) "_law_wrong" [.fro (dS t) none, .fro (dS ls) none] = .ret (.val (dOpt (fwD ls t))) [.non, .non] := by
  rw [callF_succ, t__law_wrong]
  have hlim : t.length < LIM := by rw [LIM_m]; omega
  have hl2 : ls.length + 2 ≤ LIM := by rw [LIM_m]; omega
  have hm := lcGo_mapG (own := [4]) (t := turnL ⟨callF tab xt.sub n, xt.sub⟩ 5 (.nm 4) [.tru (.cmp .nmem (.ix (.var 0) (.var 4)) (.var 2))] (.var 4)) (e0 := [.fro (dS t) none, .fro (dS ls) none, .fro (dS (ls ++ [122, 63])) none, .non, .non])
    (g := fun i : Nat => D.int (i : Int)) (h := fun i => (if bad ls (t.getD i 0) = true then some i else none).map fun i : Nat => D.int i) (List.range t.length) [] [.fro (dS t) none, .fro (dS ls) none, .fro (dS (ls ++ [122, 63])) none, .non, .non] (by simp) (fun i hi => by
      have hi' := List.mem_range.mp hi
      have hg : t.getD i 0 = t[i] := by simp [List.getD_eq_getElem?_getD, List.getElem?_eq_getElem hi']
      refine ⟨[.fro (dS t) none, .fro (dS ls) none, .fro (dS (ls ++ [122, 63])) none, .non, .fro (.int i) none], ?_⟩
      rw [hg]
      by_cases hb : bad ls t[i] = true
      · have hb' := hb
        simp [bad] at hb'
        simp [turnL_eq, hi', Nat.le_of_lt hlim, hb, hb'.1, hb'.2.1, hb'.2.2]
      · have hb' := hb
        simp [bad] at hb'
        by_cases h1 : t[i] ∈ ls
        · simp [turnL_eq, hi', Nat.le_of_lt hlim, hb, h1]
        · by_cases h2 : t[i] = 122
          · simp [turnL_eq, hi', Nat.le_of_lt hlim, hb, h1, h2]
            simp [bad]
          · simp [turnL_eq, hi', Nat.le_of_lt hlim, hb, h1, h2, hb' h1 h2]
            simp [bad]) (by simp; omega)
  rw [← List.map_filterMap, List.nil_append] at hm
  have hh := head_fIx (bad ls) t
  generalize hW : ((List.range t.length).filterMap fun i => if bad ls (t.getD i 0) = true then some i else none) = W at hm hh
  have hdeq : deq (.lst (W.map fun i : Nat => D.int i)) (.lst []) = some (decide (W = [])) := by
    rw [deq_plain (n := 1) (by decide) (by simp) (by simp)]
    congr 1
    rw [Bool.eq_iff_iff]
    simp only [decide_eq_true_eq]
    simp
  have hfw : fwD ls t = match W.head? with
    | some i => some i
    | none => if 12 < t.length then some 12 else none := by
    rw [hh]; rfl
  rw [hfw]
  try simp at hm
  simp [c__law_wrong, Nat.le_of_lt hlim, hl2, hlim]
  rw [hm]
  cases W with
  | nil =>
    simp at hdeq
    by_cases h12 : 12 < t.length
    · simp [hdeq, Nat.le_of_lt hlim, show (12 : Int) < t.length by omega, h12, dOpt, lim1, Nat.le_trans (by decide : 2 ≤ 1000) lim1]
    · simp [hdeq, Nat.le_of_lt hlim, show ¬ (12 : Int) < t.length by omega, h12, dOpt, lim1, Nat.le_trans (by decide : 2 ≤ 1000) lim1]
  | cons w W =>
    simp at hdeq
    simp [hdeq, dOpt]
end LawK01
end

section
set_option linter.all false
set_option maxRecDepth 100000
set_option maxHeartbeats 4000000
namespace LawK01
open PV PS
open PySem (Str)
open SX (S)
/-! ### the letters ascend: plain -/
def rise : List Nat → Bool
  | a :: b :: l => decide (a < b) && rise (b :: l)
  | _ => true
theorem rise_range : ∀ l : List Nat, ((List.range (l.length - 1)).all fun i => decide (l.getD i 0 < l.getD (i + 1) 0)) = rise l
  | [] => rfl
  | [a] => rfl
  | a :: b :: l => by
    have ih := rise_range (b :: l)
    rw [show (a :: b :: l).length - 1 = ((b :: l).length - 1) + 1 by simp, List.range_succ_eq_map, List.all_cons, List.all_map, rise, ← ih]
    congr 1
theorem rise_pw : ∀ {l : List Nat}, rise l = true ↔ l.Pairwise (· < ·)
  | [] => by simp [rise]
  | [a] => by simp [rise]
  | a :: b :: l => by
    have ih := rise_pw (l := b :: l)
    rw [rise, Bool.and_eq_true, decide_eq_true_iff, ih]
    simp only [List.pairwise_cons]
    constructor
    · rintro ⟨h1, h2, h3⟩
      refine ⟨fun x hx => ?_, h2, h3⟩
      rcases List.mem_cons.mp hx with rfl | hx
      · exact h1
      · exact Nat.lt_trans h1 (h2 x hx)
    · rintro ⟨h1, h2⟩
      exact ⟨h1 b List.mem_cons_self, h2⟩
theorem pw_eq : ∀ {a b : List Nat}, a.Pairwise (· < ·) → b.Pairwise (· < ·) → (∀ x, x ∈ a ↔ x ∈ b) → a = b
  | [], [], _, _, _ => rfl
  | [], y :: b, _, _, h => by have := (h y).mpr List.mem_cons_self; cases this
  | x :: a, [], _, _, h => by have := (h x).mp List.mem_cons_self; cases this
  | x :: a, y :: b, ha, hb, h => by
    rw [List.pairwise_cons] at ha hb
    have hxy : x = y := by
      rcases List.mem_cons.mp ((h x).mp List.mem_cons_self) with e | e
      · exact e
      · rcases List.mem_cons.mp ((h y).mpr List.mem_cons_self) with e2 | e2
        · exact e2.symm
        · have h1 := hb.1 x e
          have h2 := ha.1 y e2
          omega
    subst hxy
    congr 1
    refine pw_eq ha.2 hb.2 fun z => ?_
    constructor
    · intro hz
      rcases List.mem_cons.mp ((h z).mp (List.mem_cons_of_mem _ hz)) with e | e
      · have := ha.1 z hz; omega
      · exact e
    · intro hz
      rcases List.mem_cons.mp ((h z).mpr (List.mem_cons_of_mem _ hz)) with e | e
      · have := hb.1 z hz; omega
      · exact e
theorem row_iff (ls : List Nat) : isRow ls = (decide (1 ≤ ls.length) && decide (ls.length ≤ 6) && (ls.all (fun c => decide (c ∈ AF)) && rise ls)) := by
  rw [Bool.eq_iff_iff]
  unfold isRow
  simp only [Bool.and_eq_true, decide_eq_true_iff, List.all_eq_true, rise_pw]
  have pAF : AF.Pairwise (· < ·) := rise_pw.mp (by decide)
  constructor
  · rintro ⟨h1, h2⟩
    refine ⟨⟨h1, ?_⟩, ?_, ?_⟩
    · rw [h2]; exact List.length_filter_le _ _
    · intro c hc
      rw [h2] at hc
      exact (List.mem_filter.mp hc).1
    · rw [h2]; exact pAF.filter _
  · rintro ⟨⟨h1, _⟩, h3, h4⟩
    refine ⟨h1, pw_eq h4 (pAF.filter _) fun x => ?_⟩
    rw [List.mem_filter, decide_eq_true_iff]
    exact ⟨fun h => ⟨h3 x h, h⟩, fun h => h.2⟩
/-! ### _law_ascends -/
theorem mem_chr {c : Nat} {l : List Nat} (hc : c < 1114112) (hl : okS l = true) : memD (dS [c]) (.lst (l.map fun c => dS [c])) = some (decide (c ∈ l)) := by
  have := mem_strs (v := [c]) (l := l.map fun c => [c]) (by simp [hc]) (by intro x hx; obtain ⟨y, h1, rfl⟩ := List.mem_map.mp hx; simp [okS_mem.mp hl y h1])
  rw [List.map_map] at this
  rw [show (fun c => dS [c]) = dS ∘ fun c => [c] from rfl, this]
  congr 1
  rw [Bool.eq_iff_iff]
  simp only [decide_eq_true_eq]
  simp
theorem lt_one {a b : Nat} : ([a] < [b]) ↔ a < b := by
  rw [List.cons_lt_cons_iff]
  simp
theorem law_ascends_eq (n : Nat) (ls : List Nat) (hl : okS ls = true) (hlen : ls.length ≤ 100) :
    callF tab xt.sub (n + 1) "_law_ascends" [.fro (dS ls) none] = .ret (.val (.bl (ls.all (fun c => decide (c ∈ AF)) && rise ls))) [.non] := by
  rw [callF_succ, t__law_ascends]
  have hlim : ls.length < LIM := by rw [LIM_m]; omega
  have l6 : 6 ≤ LIM := by rw [LIM_m]; decide
  have hm1 := lcGo_mapG (own := [4]) (t := turnL ⟨callF tab xt.sub n, xt.sub⟩ 5 (.nm 4) [] (.cmp .mem (.ix (.var 1) (.var 4)) (.bi .list [.cst (.str "abcdef")]))) (e0 := [.fro (dS ls) none, .own (.lst ((ls.map fun c => dS [c]).map .fro)) none, .non, .non, .non])
    (g := fun i : Nat => D.int (i : Int)) (h := fun i => some (D.bl (decide (ls.getD i 0 ∈ AF)))) (List.range ls.length) [] [.fro (dS ls) none, .own (.lst ((ls.map fun c => dS [c]).map .fro)) none, .non, .non, .non] (by simp) (fun i hi => by
      have hi' := List.mem_range.mp hi
      have hg : ls.getD i 0 = ls[i] := by simp [List.getD_eq_getElem?_getD, List.getElem?_eq_getElem hi']
      have hmc := mem_chr (c := ls[i]) (l := AF) (okS_mem.mp hl _ (List.getElem_mem hi')) ok_AF
      refine ⟨[.fro (dS ls) none, .own (.lst ((ls.map fun c => dS [c]).map .fro)) none, .non, .non, .fro (.int i) none], ?_⟩
      rw [hg]
      simp at hmc
      simp [turnL_eq, hi', l6, hmc]) (by simp; omega)
  have hm2 := fun s2 => lcGo_mapG (own := [4]) (t := turnL ⟨callF tab xt.sub n, xt.sub⟩ 5 (.nm 4) [] (.cmp .lt (.ix (.var 1) (.bin .sub (.var 4) (.cst (.int 1)))) (.ix (.var 1) (.var 4)))) (e0 := [.fro (dS ls) none, .own (.lst ((ls.map fun c => dS [c]).map .fro)) none, s2, .non, .non])
    (g := fun i : Nat => D.int (1 + (i : Int))) (h := fun i => some (D.bl (decide (ls.getD i 0 < ls.getD (i + 1) 0)))) (List.range (ls.length - 1)) [] [.fro (dS ls) none, .own (.lst ((ls.map fun c => dS [c]).map .fro)) none, s2, .non, .non] (by simp) (fun i hi => by
      have hi' := List.mem_range.mp hi
      have hg : ls.getD i 0 = ls[i] := by simp [List.getD_eq_getElem?_getD, List.getElem?_eq_getElem (show i < ls.length by omega)]
      have hg2 : ls.getD (i + 1) 0 = ls[i + 1] := by simp [List.getD_eq_getElem?_getD, List.getElem?_eq_getElem (show i + 1 < ls.length by omega)]
      refine ⟨[.fro (dS ls) none, .own (.lst ((ls.map fun c => dS [c]).map .fro)) none, s2, .non, .fro (.int (1 + (i : Int))) none], ?_⟩
      rw [hg, hg2]
      have e1 : (1 + (i : Int) - 1) = ((i : Nat) : Int) := by omega
      have e2 : (1 + (i : Int)) = ((i + 1 : Nat) : Int) := by omega
      have x1 : ixD (.lst (ls.map fun c => dS [c])) (.int (1 + (i : Int) - 1)) = some (dS [ls[i]]) := by
        rw [e1, ix_lst]; simp [show i < ls.length by omega]
      have x2 : ixD (.lst (ls.map fun c => dS [c])) (.int (1 + (i : Int))) = some (dS [ls[i + 1]]) := by
        rw [e2, ix_lst]; simp [show i + 1 < ls.length by omega]
      simp only [turnL_eq]
      simp [x1, x2, lt_one]) (by simp; omega)
  have hr1 : (List.range ls.length).filterMap (fun i => some (D.bl (decide (ls.getD i 0 ∈ AF)))) = ((List.range ls.length).map fun i => decide (ls.getD i 0 ∈ AF)).map .bl := by
    rw [show (fun i => some (D.bl (decide (ls.getD i 0 ∈ AF)))) = some ∘ fun i => D.bl (decide (ls.getD i 0 ∈ AF)) from rfl, List.filterMap_eq_map, List.map_map]; rfl
  have hr2 : (List.range (ls.length - 1)).filterMap (fun i => some (D.bl (decide (ls.getD i 0 < ls.getD (i + 1) 0)))) = ((List.range (ls.length - 1)).map fun i => decide (ls.getD i 0 < ls.getD (i + 1) 0)).map .bl := by
    rw [show (fun i => some (D.bl (decide (ls.getD i 0 < ls.getD (i + 1) 0)))) = some ∘ fun i => D.bl (decide (ls.getD i 0 < ls.getD (i + 1) 0)) from rfl, List.filterMap_eq_map, List.map_map]; rfl
  have ha1 : ((List.range ls.length).map fun i => decide (ls.getD i 0 ∈ AF)).all id = ls.all fun c => decide (c ∈ AF) := by
    rw [Bool.eq_iff_iff, List.all_map, List.all_eq_true, List.all_eq_true]
    constructor
    · intro h c hc
      obtain ⟨i, hi, rfl⟩ := List.getElem_of_mem hc
      have := h i (List.mem_range.mpr hi)
      simpa [List.getD_eq_getElem?_getD, List.getElem?_eq_getElem hi] using this
    · intro h i hi
      have hi' := List.mem_range.mp hi
      have := h ls[i] (List.getElem_mem hi')
      simpa [List.getD_eq_getElem?_getD, List.getElem?_eq_getElem hi'] using this
  have ha2 : ((List.range (ls.length - 1)).map fun i => decide (ls.getD i 0 < ls.getD (i + 1) 0)).all id = rise ls := by
    rw [List.all_map]; exact rise_range ls
  rw [hr1, List.nil_append] at hm1
  simp only [hr2, List.nil_append] at hm2
  have hb1 := all_bl (bs := (List.range ls.length).map fun i => decide (ls.getD i 0 ∈ AF))
  have hb2 := all_bl (bs := (List.range (ls.length - 1)).map fun i => decide (ls.getD i 0 < ls.getD (i + 1) 0))
  rw [ha1] at hb1
  rw [ha2] at hb2
  generalize (ls.all fun c => decide (c ∈ AF)) = A at hb1 ⊢
  generalize rise ls = R at hb2 ⊢
  generalize hL1 : ((List.range ls.length).map fun i => decide (ls.getD i 0 ∈ AF)).map D.bl = L1 at hm1 hb1
  generalize hL2 : ((List.range (ls.length - 1)).map fun i => decide (ls.getD i 0 < ls.getD (i + 1) 0)).map D.bl = L2 at hm2 hb2
  have hrng : itF .rng [.int 1, .int (ls.length : Int)] = some ((List.range (ls.length - 1)).map fun (i : Nat) => .int (1 + (i : Int))) := by
    show (if -(2 ^ 62) ≤ (1 : Int) ∧ (1 : Int).toNat < 2 ^ 62 ∧ -(2 ^ 62) ≤ (ls.length : Int) ∧ (ls.length : Int).toNat < 2 ^ 62 ∧ ((ls.length : Int) - 1).toNat < LIM then some ((List.range ((ls.length : Int) - 1).toNat).map fun (i : Nat) => D.int (1 + (i : Int))) else none) = _
    rw [if_pos ⟨by omega, by omega, by omega, by omega, by omega⟩, show ((ls.length : Int) - 1).toNat = ls.length - 1 by omega]
  simp at hm1 hm2
  simp [c__law_ascends, Nat.le_of_lt hlim, hlim]
  rw [hm1]
  simp [hrng]
  rw [hm2]
  have f1 : flats (List.map OD.fro L1) = some L1 := flats_fro L1
  have f2 : flats (List.map OD.fro L2) = some L2 := flats_fro L2
  simp
  rw [hb1]
  cases A with
  | true =>
    simp
    rw [hb2]
    simp
  | false => simp
end LawK01
end

section
set_option linter.all false
set_option maxRecDepth 100000
set_option maxHeartbeats 4000000
namespace LawK01
open PV PS
open PySem (Str)
open SX (S)
/-! ### all filled texts: plain -/
def rowsT (ls : List Nat) (rows : List (List Nat)) (c : Nat) : List (List Nat) := rows.flatMap fun r => if c = 63 then ls.map fun d => r ++ [d] else [r ++ [c]]
theorem fillGo_app {ls : List Nat} : ∀ (ps sg x : List Nat) (r : Nat), (∀ p ∈ ps, p < sg.length) → fillGo ls ps (sg ++ x) r = fillGo ls ps sg r ++ x
  | [], sg, x, r, _ => rfl
  | p :: ps, sg, x, r, h => by
    have hp := h p List.mem_cons_self
    rw [fillGo, fillGo, List.set_append_left _ _ hp, fillGo_app ps _ x _ (fun q hq => by rw [List.length_set]; exact h q (List.mem_cons_of_mem _ hq))]
theorem holes_app (u : List Nat) (c k : Nat) : holes (u ++ [c]) k = holes u k ++ (if c = 63 then [k + u.length] else []) := by
  unfold holes
  rw [List.zipIdx_append, List.filterMap_append]
  congr 1
  by_cases h : c = 63
  · simp [h]
  · simp [h]
theorem holes_lt0 {t : List Nat} {p : Nat} (h : p ∈ holes t 0) : p < t.length := by have := holes_lt h; omega
theorem filled_app1 (u ls : List Nat) (c n : Nat) (h : c ≠ 63) : filledL (u ++ [c]) ls n = filledL u ls n ++ [c] := by
  unfold filledL
  rw [holes_app, if_neg h, List.append_nil, fillGo_app _ _ _ _ (fun p hp => holes_lt0 (List.mem_reverse.mp hp))]
theorem filled_app2 (u ls : List Nat) (n : Nat) : filledL (u ++ [63]) ls n = filledL u ls (n / ls.length) ++ [ls.getD (n % ls.length) 0] := by
  unfold filledL
  rw [holes_app, if_pos rfl, List.reverse_append, Nat.zero_add]
  show fillGo ls (u.length :: (holes u 0).reverse) (u ++ [63]) n = _
  rw [fillGo, List.set_append_right _ _ (Nat.le_refl _), Nat.sub_self, List.set_cons_zero, fillGo_app _ _ _ _ (fun p hp => holes_lt0 (List.mem_reverse.mp hp))]
theorem range_mul (ls : List Nat) (f : Nat → List Nat) (h : 0 < ls.length) : ∀ a : Nat, ((List.range a).map f).flatMap (fun r => ls.map fun d => r ++ [d]) = (List.range (a * ls.length)).map fun n => f (n / ls.length) ++ [ls.getD (n % ls.length) 0]
  | 0 => by simp
  | a + 1 => by
    rw [List.range_succ, List.map_append, List.flatMap_append, range_mul ls f h a, Nat.succ_mul, List.range_add, List.map_append]
    congr 1
    simp only [List.map_cons, List.map_nil, List.flatMap_cons, List.flatMap_nil, List.append_nil, List.map_map]
    apply List.ext_getElem
    · simp
    · intro i h1 h2
      have hi : i < ls.length := by simpa using h1
      simp only [List.getElem_map, List.getElem_range, Function.comp]
      rw [show (a * ls.length + i) / ls.length = a by rw [Nat.mul_comm, Nat.mul_add_div h, Nat.div_eq_of_lt hi, Nat.add_zero], show (a * ls.length + i) % ls.length = i by rw [Nat.mul_comm, Nat.mul_add_mod, Nat.mod_eq_of_lt hi]]
      simp [List.getD_eq_getElem?_getD, List.getElem?_eq_getElem hi]
def allF (u ls : List Nat) : List (List Nat) := (List.range (ls.length ^ (holes u 0).length)).map (filledL u ls)
theorem rows_step (u ls : List Nat) (c : Nat) (h : 0 < ls.length) : rowsT ls (allF u ls) c = allF (u ++ [c]) ls := by
  unfold rowsT allF
  by_cases h63 : c = 63
  · subst h63
    simp only [if_true]
    rw [range_mul ls (filledL u ls) h, holes_app, if_pos rfl, List.length_append, List.length_singleton, Nat.pow_succ]
    congr 1
    funext n
    exact (filled_app2 u ls n).symm
  · simp only [if_neg h63]
    rw [holes_app, if_neg h63, List.append_nil]
    rw [show ∀ l : List (List Nat), (l.flatMap fun r => [r ++ [c]]) = l.map fun r => r ++ [c] from fun l => by induction l with | nil => rfl | cons r l ih => simp_all]
    rw [List.map_map]
    congr 1
    funext n
    exact (filled_app1 u ls c n h63).symm
theorem filledL_len {t ls : List Nat} {n : Nat} : (filledL t ls n).length = t.length := fillGo_len _ _ _
theorem allF_len {t ls : List Nat} : (allF t ls).length = ls.length ^ (holes t 0).length := by simp [allF]
/-! ### _law_all_filled -/
theorem inner_loop {C : Ctx} {t0 : D} {ls : List Nat} {c : Nat} {s2 : Slot} (hc : c < 1114112) (hls : ls.length ≤ 6) : ∀ (rows acc : List (List Nat)) (s5 : Slot), (∀ r ∈ rows, r.length ≤ 1000) → acc.length + 6 * rows.length ≤ 100000 → frS s5 = true →
    ∃ s5' : Slot, frS s5' = true ∧ forGo (turnS C (.nm 5) (.ite (.tru (.cmp .eq (.var 3) (.cst (.str "?")))) (.expr (.mu .extend (.var 4) [.lc (.nm 6) [6] .seq [.var 1] [] (.bin .add (.var 5) (.var 6))])) (.expr (.mu .append (.var 4) [.bin .add (.var 5) (.var 3)])))) (rows.map dS) [.fro t0 none, .fro (dS ls) none, s2, .fro (dS [c]) none, .own (.lst ((acc.map dS).map .fro)) none, s5, .non] =
      .nx [.fro t0 none, .fro (dS ls) none, s2, .fro (dS [c]) none, .own (.lst (((acc ++ rowsT ls rows c).map dS).map .fro)) none, s5', .non]
  | [], acc, s5, _, _, h5 => ⟨s5, h5, by simp [rowsT]⟩
  | r :: rows, acc, s5, hr, hl, h5 => by
    have hr0 := hr r List.mem_cons_self
    have hlim6 : ls.length ≤ LIM := by rw [LIM_m]; omega
    have hrl : r.length + 1 ≤ LIM := by rw [LIM_m]; omega
    have hal : acc.length < LIM := by rw [LIM_m]; simp at hl; omega
    have hal2 : acc.length + ls.length ≤ LIM := by rw [LIM_m]; simp at hl; omega
    rw [List.map_cons, forGo_cons, turnS_eq]
    by_cases h63 : c = 63
    · obtain ⟨s5', h5', e⟩ := inner_loop (C := C) (t0 := t0) (s2 := s2) hc hls rows (acc ++ ls.map fun d => r ++ [d]) (.fro (dS r) none) (fun x hx => hr x (List.mem_cons_of_mem _ hx)) (by simp at hl ⊢; omega) rfl
      refine ⟨s5', h5', ?_⟩
      have hm := lcGo_mapG (own := [6]) (t := turnL C 7 (.nm 6) [] (.bin .add (.var 5) (.var 6))) (e0 := [.fro t0 none, .fro (dS ls) none, s2, .fro (dS [c]) none, .own (.lst ((acc.map dS).map .fro)) none, .fro (dS r) none, .non])
        (g := fun d : Nat => dS [d]) (h := fun d => some (dS (r ++ [d]))) ls [] [.fro t0 none, .fro (dS ls) none, s2, .fro (dS [c]) none, .own (.lst ((acc.map dS).map .fro)) none, .fro (dS r) none, .non] (by simp) (fun d hd => by
          exact ⟨[.fro t0 none, .fro (dS ls) none, s2, .fro (dS [c]) none, .own (.lst ((acc.map dS).map .fro)) none, .fro (dS r) none, .fro (dS [d]) none], by simp [turnL_eq, hrl]⟩) (by simpa using hlim6)
      rw [List.nil_append, show (fun d : Nat => some (dS (r ++ [d]))) = some ∘ fun d : Nat => dS (r ++ [d]) from rfl, List.filterMap_eq_map] at hm
      have hw : acc ++ rowsT ls (r :: rows) c = (acc ++ ls.map fun d => r ++ [d]) ++ rowsT ls rows c := by
        simp [rowsT, h63]
      rw [hw]
      subst h63
      simp at hm e
      simp [h5, hlim6]
      rw [hm]
      simp [hal2]
      exact e
    · obtain ⟨s5', h5', e⟩ := inner_loop (C := C) (t0 := t0) (s2 := s2) hc hls rows (acc ++ [r ++ [c]]) (.fro (dS r) none) (fun x hx => hr x (List.mem_cons_of_mem _ hx)) (by simp at hl ⊢; omega) rfl
      refine ⟨s5', h5', ?_⟩
      have hw : acc ++ rowsT ls (r :: rows) c = (acc ++ [r ++ [c]]) ++ rowsT ls rows c := by
        simp [rowsT, h63]
      rw [hw]
      simp at e
      simp [h5, hc, h63, hrl, hal]
      exact e
def rowsS (s : Slot) (rows : List (List Nat)) : Prop := s = .own (.lst ((rows.map dS).map .fro)) none ∨ s = .fro (.lst (rows.map dS)) none
theorem outer_loop {C : Ctx} {t : List Nat} {ls : List Nat} (ht : okS t = true) (hls0 : 0 < ls.length) (hls : ls.length ≤ 6) (hlen : t.length ≤ 1000) (hmax : ls.length ^ (holes t 0).length ≤ 2000) : ∀ (v u : List Nat) (s2 s3 s4 s5 : Slot), t = u ++ v → rowsS s2 (allF u ls) → frS s3 = true → frS s4 = true → frS s5 = true →
    ∃ s2' s3' s4' s5' : Slot, rowsS s2' (allF t ls) ∧ forGo (turnS C (.nm 3) (bodyOf c__law_all_filled)) (v.map fun c => dS [c]) [.fro (dS t) none, .fro (dS ls) none, s2, s3, s4, s5, .non] =
      .nx [.fro (dS t) none, .fro (dS ls) none, s2', s3', s4', s5', .non]
  | [], u, s2, s3, s4, s5, hu, h2, _, _, _ => ⟨s2, s3, s4, s5, by rw [hu, List.append_nil]; exact h2, by simp⟩
  | c :: v, u, s2, s3, s4, s5, hu, h2, h3, h4, h5 => by
    have hc : c < 1114112 := okS_mem.mp ht c (by rw [hu]; simp)
    have hul : u.length ≤ 1000 := by rw [hu] at hlen; simp at hlen; omega
    have hsub : (holes u 0).length ≤ (holes t 0).length := by
      have : holes t 0 = holes u 0 ++ (holes t 0).drop (holes u 0).length := by
        have h1 : holes (u ++ (c :: v)) 0 = holes u 0 ++ ((c :: v).zipIdx (0 + u.length)).filterMap fun p => if p.1 = 63 then some p.2 else none := by
          unfold holes; rw [List.zipIdx_append, List.filterMap_append]
        rw [hu, h1]; simp
      rw [this, List.length_append]; omega
    have hal : (allF u ls).length ≤ 2000 := by
      rw [allF_len]
      exact Nat.le_trans (Nat.pow_le_pow_right hls0 hsub) hmax
    obtain ⟨s5a, h5a, e1⟩ := inner_loop (C := C) (t0 := dS t) (s2 := s2) hc hls (allF u ls) [] s5 (fun r hr => by
      obtain ⟨n, _, rfl⟩ := List.mem_map.mp hr
      rw [filledL_len]; exact hul) (by simp; omega) h5
    rw [List.nil_append, rows_step u ls c hls0] at e1
    obtain ⟨s2', s3', s4', s5', hr, e⟩ := outer_loop (C := C) ht hls0 hls hlen hmax v (u ++ [c]) (.fro (.lst ((allF (u ++ [c]) ls).map dS)) none) (.fro (dS [c]) none) (.fro (.lst ((allF (u ++ [c]) ls).map dS)) none) s5a (by simp [hu]) (.inr rfl) rfl rfl h5a
    refine ⟨s2', s3', s4', s5', hr, ?_⟩
    rw [List.map_cons, forGo_cons, turnS_eq]
    simp [c__law_all_filled, bodyOf] at e
    rcases h2 with rfl | rfl
    · simp at e1
      simp [c__law_all_filled, h3, h4]
      rw [e1]
      simp
      exact e
    · simp at e1
      simp [c__law_all_filled, h3, h4]
      rw [e1]
      simp
      exact e
theorem law_all_eq (n : Nat) (t ls : List Nat) (ht : okS t = true) (hls0 : 0 < ls.length) (hls : ls.length ≤ 6) (hlen : t.length ≤ 1000) (hmax : ls.length ^ (holes t 0).length ≤ 2000) :
    ∃ r, callF tab xt.sub (n + 1) "_law_all_filled" [.fro (dS t) none, .fro (dS ls) none] = .ret r [.non, .non] ∧ (r = .val (.lst ((allF t ls).map dS)) ∨ r = .frs (.lst (((allF t ls).map dS).map .fro))) := by
  rw [callF_succ, t__law_all_filled]
  have h0 : allF [] ls = [[]] := by simp [allF, holes, filledL, fillGo]
  obtain ⟨s2, s3, s4, s5, hr, e⟩ := outer_loop (C := ⟨callF tab xt.sub n, xt.sub⟩) ht hls0 hls hlen hmax t [] (.own (.lst [.fro (dS [])]) none) .non .non .non rfl (by rw [h0]; exact .inl rfl) rfl rfl rfl
  have hlim : t.length ≤ LIM := by rw [LIM_m]; omega
  have l1 : 1 ≤ LIM := by rw [LIM_m]; decide
  simp [c__law_all_filled, bodyOf] at e
  rcases hr with rfl | rfl
  · refine ⟨_, ?_, .inr rfl⟩
    simp [c__law_all_filled, hlim, l1]
    rw [e]
    simp
  · refine ⟨_, ?_, .inl rfl⟩
    simp [c__law_all_filled, hlim, l1]
    rw [e]
    simp
end LawK01
end

section
set_option linter.all false
set_option maxRecDepth 100000
set_option maxHeartbeats 4000000
namespace LawK01
open PV PS
open PySem (Str)
open SX (S)
def badD (c : Str) (d : D) : D := .lst [.str c, d, .bl true, .bl false]
def toldD (d : D) : D := .lst [.str "told", d]
theorem l4 : 4 ≤ LIM := by rw [LIM_m]; decide
theorem l2 : 2 ≤ LIM := by rw [LIM_m]; decide
theorem l6 : 6 ≤ LIM := by rw [LIM_m]; decide
theorem l1 : 1 ≤ LIM := by rw [LIM_m]; decide
/-! ### _law_fillings_due -/
def ansF (t ls : List Nat) : D := match fwD AF t with
  | some i => badD "BadText" (.int i)
  | none => if isRow ls = true then (if 2000 < ls.length ^ (holes t 0).length then badD "TooMany" (.int (ls.length ^ (holes t 0).length : Nat)) else toldD (.lst ((allF t ls).map dS))) else badD "BadLetters" (dS ls)
theorem holes_cnt : ∀ (t : List Nat) (k : Nat), (holes t k).length = (t.filter fun c => decide (c = 63)).length
  | [], k => rfl
  | c :: t, k => by
    have ih := holes_cnt t (k + 1)
    unfold holes at ih ⊢
    rw [List.zipIdx_cons, List.filterMap_cons]
    by_cases h : c = 63
    · simp only [h, if_true, List.length_cons, ih]; simp
    · simp only [if_neg h, ih]; simp [h]
theorem cnt_loop {C : Ctx} {t0 s2 : Slot} {ls : List Nat} (hls : ls.length ≤ 100) : ∀ (v : List Nat) (f : Nat) (s4 : Slot), okS v = true → f * 100 ^ v.length ≤ CAP → frS s4 = true →
    ∃ s4' : Slot, forGo (turnS C (.nm 4) (.ite (.tru (.cmp .eq (.var 4) (.cst (.str "?")))) (.set 3 (.bin .mul (.var 3) (.bi .len [.var 1]))) (.skip))) (v.map fun c => dS [c]) [t0, .fro (dS ls) none, s2, .fro (.int (f : Nat)) none, s4] =
      .nx [t0, .fro (dS ls) none, s2, .fro (.int ((f * ls.length ^ (holes v 0).length : Nat) : Int)) none, s4']
  | [], f, s4, _, _, h4 => ⟨s4, by simp [holes]⟩
  | c :: v, f, s4, hv, hb, h4 => by
    rw [okS_cons, Bool.and_eq_true, decide_eq_true_iff] at hv
    have hlim : ls.length ≤ LIM := by rw [LIM_m]; omega
    have hf : f ≤ CAP := Nat.le_trans (Nat.le_mul_of_pos_right f (Nat.pow_pos (by decide))) hb
    have b1 : f < BIG := big_of hf
    have b2 : ls.length < BIG := big_of (Nat.le_trans hls cap100)
    rw [List.map_cons, forGo_cons, turnS_eq]
    by_cases h : c = 63
    · obtain ⟨s4', e⟩ := cnt_loop (C := C) (t0 := t0) (s2 := s2) hls v (f * ls.length) (.fro (dS [c]) none) hv.2 (by
        refine Nat.le_trans ?_ hb
        rw [List.length_cons, Nat.pow_succ, Nat.mul_assoc, Nat.mul_comm (100 ^ _) 100]
        exact Nat.mul_le_mul_left f (Nat.mul_le_mul_right _ hls)) rfl
      refine ⟨s4', ?_⟩
      have e2 : (f * ls.length * ls.length ^ (holes v 0).length : Nat) = f * ls.length ^ (holes (c :: v) 0).length := by
        rw [holes_cnt (c :: v), holes_cnt v]
        simp only [h, decide_true, List.filter_cons_of_pos, List.length_cons]
        rw [Nat.pow_succ, Nat.mul_assoc, Nat.mul_comm ls.length]
      rw [e2] at e
      subst h
      simp at e
      simp [h4, hlim, b1, b2]
      exact e
    · obtain ⟨s4', e⟩ := cnt_loop (C := C) (t0 := t0) (s2 := s2) hls v f (.fro (dS [c]) none) hv.2 (by
        refine Nat.le_trans ?_ hb
        rw [List.length_cons, Nat.pow_succ]
        exact Nat.mul_le_mul_left f (Nat.le_mul_of_pos_right _ (by decide))) rfl
      refine ⟨s4', ?_⟩
      have e2 : (holes (c :: v) 0).length = (holes v 0).length := by
        rw [holes_cnt (c :: v), holes_cnt v]; simp [h]
      rw [e2]
      simp at e
      simp [h4, h, hv.1]
      exact e
theorem fill_due_eq (n : Nat) (t ls : List Nat) (ht : okS t = true) (hl : okS ls = true) (hlen : t.length ≤ 1000) (hlen2 : ls.length ≤ 100) :
    ∃ o : OD, callF tab xt.sub (n + 2) "_law_fillings_due" [.fro (dS t) none, .fro (dS ls) none] = .ret (.frs o) [.non, .non] ∧ o.toD = ansF t ls := by
  rw [callF_succ, t__law_fillings_due]
  have hlim : t.length ≤ LIM := by rw [LIM_m]; omega
  have hlim2 : ls.length ≤ LIM := by rw [LIM_m]; omega
  have hw := law_wrong_eq n t AF ok_AF (by omega) (by decide)
  have has := law_ascends_eq n ls hl hlen2
  unfold ansF
  cases h : fwD AF t with
  | some i =>
    rw [h] at hw
    simp [dOpt] at hw
    refine ⟨.lst [.fro (.str "BadText"), .fro (.int i), .fro (.bl true), .fro (.bl false)], ?_, ?_⟩
    · simp [c__law_fillings_due, hw, l4]
    · simp [badD]
  | none =>
    rw [h] at hw
    simp [dOpt] at hw
    have h12 := (fwD_none h).1
    rw [row_iff]
    by_cases hrow : isRow ls = true
    · have hrow' := hrow
      obtain ⟨r0, r6⟩ := isRow_len hrow
      rw [row_iff, Bool.and_eq_true, Bool.and_eq_true] at hrow'
      have hA := hrow'.2
      rw [hA] at has
      have hcap : 1 * 100 ^ t.length ≤ CAP := by
        rw [Nat.one_mul]
        exact Nat.le_trans (Nat.pow_le_pow_right (by omega) (by omega)) cap20
      obtain ⟨s4, e⟩ := cnt_loop (C := ⟨callF tab xt.sub (n + 1), xt.sub⟩) (t0 := .fro (dS t) none) (s2 := .fro .non none) (ls := ls) (by omega) t 1 .non ht hcap rfl
      have i1 : (1 : Int) ≤ ls.length := by omega
      have i6 : (ls.length : Int) ≤ 6 := by omega
      have hrow2 : (decide (1 ≤ ls.length) && decide (ls.length ≤ 6) && (ls.all (fun c => decide (c ∈ AF)) && rise ls)) = true := by rw [← row_iff]; exact hrow
      rw [if_pos hrow2]
      clear hcap hrow2 hrow'
      rw [Nat.one_mul] at e
      by_cases hm : 2000 < ls.length ^ (holes t 0).length
      · have hmi : (2000 : Int) < ((ls.length : Int) ^ (holes t 0).length) := by
          have : ((2000 : Nat) : Int) < ((ls.length ^ (holes t 0).length : Nat) : Int) := by omega
          simpa using this
        refine ⟨.lst [.fro (.str "TooMany"), .fro (.int (ls.length ^ (holes t 0).length : Nat)), .fro (.bl true), .fro (.bl false)], ?_, ?_⟩
        · simp at e
          simp [c__law_fillings_due, hw, hlim2, i1, i6, has, hlim]
          rw [e]
          simp [hmi, l4]
        · rw [if_pos hm]; simp [badD]
      · have hmi : ¬ (2000 : Int) < ((ls.length : Int) ^ (holes t 0).length) := by
          have : ¬ ((2000 : Nat) : Int) < ((ls.length ^ (holes t 0).length : Nat) : Int) := by omega
          simpa using this
        obtain ⟨r, hr1, hr2⟩ := law_all_eq n t ls ht r0 r6 hlen (by omega)
        rw [if_neg hm]
        simp at e
        rcases hr2 with rfl | rfl
        · refine ⟨.lst [.fro (.str "told"), .fro (.lst ((allF t ls).map dS))], ?_, ?_⟩
          · simp [c__law_fillings_due, hw, hlim2, i1, i6, has, hlim]
            rw [e]
            simp [hmi, hr1, l2]
          · simp [toldD]
        · refine ⟨.lst [.fro (.str "told"), .lst (((allF t ls).map dS).map .fro)], ?_, ?_⟩
          · simp at hr1
            simp [c__law_fillings_due, hw, hlim2, i1, i6, has, hlim]
            rw [e]
            simp [hmi, hr1, l2]
          · simp [toldD]
    · have hrow2 : ¬ (decide (1 ≤ ls.length) && decide (ls.length ≤ 6) && (ls.all (fun c => decide (c ∈ AF)) && rise ls)) = true := by rw [← row_iff]; exact hrow
      rw [if_neg hrow2]
      refine ⟨.lst [.fro (.str "BadLetters"), .fro (dS ls), .fro (.bl true), .fro (.bl false)], ?_, by simp [badD]⟩
      by_cases i1 : 1 ≤ ls.length
      · by_cases i6 : ls.length ≤ 6
        · have hA : (ls.all (fun c => decide (c ∈ AF)) && rise ls) = false := by
            cases hq : (ls.all (fun c => decide (c ∈ AF)) && rise ls) with
            | false => rfl
            | true => rw [hq] at hrow2; simp [i1, i6] at hrow2
          rw [hA] at has
          simp [c__law_fillings_due, hw, hlim2, has, l4, show (1 : Int) ≤ ls.length by omega, show (ls.length : Int) ≤ 6 by omega]
        · simp [c__law_fillings_due, hw, hlim2, l4, show (1 : Int) ≤ ls.length by omega, show ¬ (ls.length : Int) ≤ 6 by omega]
      · simp [c__law_fillings_due, hw, hlim2, l4, show ¬ (1 : Int) ≤ ls.length by omega]
end LawK01
end

section
set_option linter.all false
set_option maxRecDepth 100000
set_option maxHeartbeats 4000000
namespace LawK01
open PV PS
open PySem (Str)
open SX (S)
/-! ### _law_strange_due -/
def ansS (t : List Nat) (l : List Int) : D := match fwD AF t with
  | some i => badD "BadText" (.int i)
  | none => match wrongPlace t.length l with
    | some p => badD "NoPlace" (.int p)
    | none => toldD (dS (strangeL t l))
def setZ : List Nat → List Int → List Nat
  | sg, [] => sg
  | sg, p :: l => setZ (sg.set p.toNat 122) l
theorem setZ_len : ∀ (l : List Int) (sg : List Nat), (setZ sg l).length = sg.length
  | [], sg => rfl
  | p :: l, sg => by rw [setZ, setZ_len l, List.length_set]
theorem setZ_get : ∀ (l : List Int) (sg : List Nat) (i : Nat), (∀ p ∈ l, 0 ≤ p) → i < sg.length → (setZ sg l).getD i 0 = if (i : Int) ∈ l then 122 else sg.getD i 0
  | [], sg, i, _, _ => by simp [setZ]
  | p :: l, sg, i, h, hi => by
    have hp := h p List.mem_cons_self
    rw [setZ, setZ_get l _ i (fun q hq => h q (List.mem_cons_of_mem _ hq)) (by rw [List.length_set]; exact hi)]
    by_cases hl : (i : Int) ∈ l
    · simp [hl]
    · by_cases hpi : (i : Int) = p
      · have : p.toNat = i := by omega
        simp [hpi, this, hi]
      · have : p.toNat ≠ i := by omega
        simp [hl, hpi, this, List.getD_eq_getElem?_getD, List.getElem?_set]
theorem wrongPlace_none {m : Nat} {l : List Int} (h : wrongPlace m l = none) : ∀ p ∈ l, 0 ≤ p := by
  intro p hp
  unfold wrongPlace at h
  have := List.find?_eq_none.mp h p hp
  simp at this
  exact this.1
theorem setZ_eq {t : List Nat} {l : List Int} (h : ∀ p ∈ l, 0 ≤ p) : setZ t l = strangeL t l := by
  apply List.ext_getElem
  · rw [setZ_len, strangeL_len]
  · intro i h1 h2
    have hi : i < t.length := by rw [setZ_len] at h1; exact h1
    have := setZ_get l t i h hi
    rw [List.getD_eq_getElem?_getD, List.getElem?_eq_getElem h1, List.getD_eq_getElem?_getD, List.getElem?_eq_getElem hi] at this
    simp only [Option.getD_some] at this
    rw [this]
    simp [strangeL]
theorem due_loop {C : Ctx} {t0 : D} {s1 s2 : Slot} : ∀ (l : List Int) (sg : List Nat) (s4 : Slot), frS s4 = true →
    ∃ s3' s4' : Slot, forGo (turnS C (.nm 4) (bodyOf c__law_strange_due)) (l.map D.int) [.fro t0 none, s1, s2, .own (.lst ((sg.map fun c => dS [c]).map .fro)) none, s4] =
      (match wrongPlace sg.length l with
      | some p => .rt (.frs (.lst [.fro (.str "NoPlace"), .fro (.int p), .fro (.bl true), .fro (.bl false)])) [.fro t0 none, s1, s2, s3', s4']
      | none => .nx [.fro t0 none, s1, s2, .own (.lst (((setZ sg l).map fun c => dS [c]).map .fro)) none, s4'])
  | [], sg, s4, h4 => ⟨.non, s4, by simp [wrongPlace, setZ]⟩
  | p :: l, sg, s4, h4 => by
    obtain ⟨s3', s4', e⟩ := due_loop (C := C) (t0 := t0) (s1 := s1) (s2 := s2) l (sg.set p.toNat 122) (.fro (.int p) none) rfl
    rw [List.length_set] at e
    rw [List.map_cons, forGo_cons, turnS_eq]
    by_cases h0 : 0 ≤ p
    · obtain ⟨k, rfl⟩ : ∃ k : Nat, p = k := ⟨p.toNat, by omega⟩
      by_cases h1 : k < sg.length
      · refine ⟨s3', s4', ?_⟩
        have hw : wrongPlace sg.length ((k : Int) :: l) = wrongPlace sg.length l := by simp [wrongPlace, h1]
        rw [hw, setZ]
        rw [Int.toNat_natCast] at e ⊢
        rw [List.map_set, List.map_set] at e
        simp [c__law_strange_due, bodyOf] at e
        simp [c__law_strange_due, bodyOf, h4, h1, show ¬ ((k : Int) < 0) by omega, show ¬ ((sg.length : Int) ≤ k) by omega]
        exact e
      · refine ⟨.own (.lst ((sg.map fun c => dS [c]).map .fro)) none, .fro (.int k) none, ?_⟩
        have hw : wrongPlace sg.length ((k : Int) :: l) = some (k : Int) := by simp [wrongPlace, h1]
        simp [c__law_strange_due, bodyOf, h4, hw, l4, show ¬ ((k : Int) < 0) by omega, show ((sg.length : Int) ≤ k) by omega]
    · refine ⟨.own (.lst ((sg.map fun c => dS [c]).map .fro)) none, .fro (.int p) none, ?_⟩
      have hw : wrongPlace sg.length (p :: l) = some p := by simp [wrongPlace, h0]
      simp [c__law_strange_due, bodyOf, h4, hw, l4, show p < 0 by omega]
theorem str_due_own (n : Nat) (t : List Nat) (l : List Int) (ht : okS t = true) (hlen : t.length ≤ 1000) :
    ∃ (s' : Slot) (o : OD), keptS l s' ∧ callF tab xt.sub (n + 2) "_law_strange_due" [.fro (dS t) none, .own (plT l) none] = .ret (.frs o) [.non, s'] ∧ o.toD = ansS t l := by
  rw [callF_succ, t__law_strange_due]
  have hlim : t.length ≤ LIM := by rw [LIM_m]; omega
  have hw := law_wrong_eq n t AF ok_AF (by omega) (by decide)
  unfold ansS
  cases h : fwD AF t with
  | some i =>
    rw [h] at hw
    simp [dOpt] at hw
    refine ⟨.own (plT l) none, .lst [.fro (.str "BadText"), .fro (.int i), .fro (.bl true), .fro (.bl false)], .inl rfl, ?_, ?_⟩
    · simp [c__law_strange_due, hw, l4]
    · simp [badD]
  | none =>
    rw [h] at hw
    simp [dOpt] at hw
    obtain ⟨s3, s4, e⟩ := due_loop (C := ⟨callF tab xt.sub (n + 1), xt.sub⟩) (t0 := dS t) (s1 := .fro (.lst (l.map D.int)) (some 1)) (s2 := .fro .non none) l t .non rfl
    cases hp : wrongPlace t.length l with
    | some p =>
      rw [hp] at e
      refine ⟨.fro (.lst (l.map D.int)) none, .lst [.fro (.str "NoPlace"), .fro (.int p), .fro (.bl true), .fro (.bl false)], .inr rfl, ?_, by simp [badD]⟩
      simp [c__law_strange_due, bodyOf] at e
      simp [c__law_strange_due, hw, hlim]
      rw [e]
      simp
    | none =>
      rw [hp, setZ_eq (wrongPlace_none hp)] at e
      have hsl : (strangeL t l).length ≤ LIM := by rw [strangeL_len]; exact hlim
      refine ⟨.fro (.lst (l.map D.int)) none, .lst [.fro (.str "told"), .fro (dS (strangeL t l))], .inr rfl, ?_, by simp [toldD]⟩
      simp [c__law_strange_due, bodyOf] at e
      simp [c__law_strange_due, hw, hlim]
      rw [e]
      simp [hsl, l2]
theorem str_due_fro (n : Nat) (t : List Nat) (l : List Int) (ht : okS t = true) (hlen : t.length ≤ 1000) :
    ∃ (o : OD), callF tab xt.sub (n + 2) "_law_strange_due" [.fro (dS t) none, .fro (.lst (l.map D.int)) none] = .ret (.frs o) [.non, .non] ∧ o.toD = ansS t l := by
  rw [callF_succ, t__law_strange_due]
  have hlim : t.length ≤ LIM := by rw [LIM_m]; omega
  have hw := law_wrong_eq n t AF ok_AF (by omega) (by decide)
  unfold ansS
  cases h : fwD AF t with
  | some i =>
    rw [h] at hw
    simp [dOpt] at hw
    refine ⟨.lst [.fro (.str "BadText"), .fro (.int i), .fro (.bl true), .fro (.bl false)], ?_, ?_⟩
    · simp [c__law_strange_due, hw, l4]
    · simp [badD]
  | none =>
    rw [h] at hw
    simp [dOpt] at hw
    obtain ⟨s3, s4, e⟩ := due_loop (C := ⟨callF tab xt.sub (n + 1), xt.sub⟩) (t0 := dS t) (s1 := .fro (.lst (l.map D.int)) none) (s2 := .fro .non none) l t .non rfl
    cases hp : wrongPlace t.length l with
    | some p =>
      rw [hp] at e
      refine ⟨.lst [.fro (.str "NoPlace"), .fro (.int p), .fro (.bl true), .fro (.bl false)], ?_, by simp [badD]⟩
      simp [c__law_strange_due, bodyOf] at e
      simp [c__law_strange_due, hw, hlim]
      rw [e]
      simp
    | none =>
      rw [hp, setZ_eq (wrongPlace_none hp)] at e
      have hsl : (strangeL t l).length ≤ LIM := by rw [strangeL_len]; exact hlim
      refine ⟨.lst [.fro (.str "told"), .fro (dS (strangeL t l))], ?_, by simp [toldD]⟩
      simp [c__law_strange_due, bodyOf] at e
      simp [c__law_strange_due, hw, hlim]
      rw [e]
      simp [hsl, l2]
/-! ### _law_recast_due -/
def ansR (t : List Nat) (P : Prs) : D := match fwD AF t with
  | some i => badD "BadText" (.int i)
  | none => match wrongM (P.map Prod.fst) P [] with
    | some k => badD "BadLetters" (dS k)
    | none => toldD (dS (recastL t P))
def tupD (p : List Nat × List Nat) : D := .tup [dS p.1, dS p.2]
theorem tok_iff (k : List Nat) : tok k ↔ k ∈ AF.map fun c => [c] := by
  constructor
  · rintro ⟨c, h1, rfl⟩; exact List.mem_map.mpr ⟨c, h1, rfl⟩
  · intro h
    obtain ⟨c, h1, h2⟩ := List.mem_map.mp h
    exact ⟨c, h1, h2.symm⟩
/-- stored over at will, and no tree -/
def vS (s : Slot) : Prop := s = .non ∨ ∃ d, s = .fro d none
theorem vS_fr {s : Slot} (h : vS s) : frS s = true := by rcases h with rfl | ⟨d, rfl⟩ <;> rfl
theorem rd_loop {C : Ctx} {t0 : D} (P : Prs) (hP : okP P) {s2 s6 s7 s8 : Slot} : ∀ (ps : Prs) (vals : List (List Nat)) (s3 : Slot), (∀ p ∈ ps, p ∈ P) → (∀ v ∈ vals, okS v = true) → vals.length + ps.length ≤ 1000 → vS s3 →
    ∃ s3' s5' : Slot, vS s3' ∧ forGo (turnS C (.nm 3) (.seq (.ite (.or_ (.tru (.cmp .nmem (.ix (.var 3) (.cst (.int 0))) (.bi .list [.cst (.str "abcdef")]))) (.or_ (.tru (.cmp .nmem (.ix (.var 3) (.cst (.int 1))) (.var 4))) (.tru (.cmp .mem (.ix (.var 3) (.cst (.int 1))) (.var 5))))) (.ret (.lst [.cst (.str "BadLetters"), .ix (.var 3) (.cst (.int 0)), .cst (.bl true), .cst (.bl false)])) (.skip)) (.expr (.mu .append (.var 5) [.ix (.var 3) (.cst (.int 1))])))) (ps.map tupD)
        [.fro t0 none, .fro (.lst (P.map tupD)) none, s2, s3, .own (.lst ((P.map fun p => dS p.1).map .fro)) none, .own (.lst ((vals.map dS).map .fro)) none, s6, s7, s8] =
      (match wrongM (P.map Prod.fst) ps vals with
      | some k => .rt (.frs (.lst [.fro (.str "BadLetters"), .fro (dS k), .fro (.bl true), .fro (.bl false)])) [.fro t0 none, .fro (.lst (P.map tupD)) none, s2, s3', .own (.lst ((P.map fun p => dS p.1).map .fro)) none, s5', s6, s7, s8]
      | none => .nx [.fro t0 none, .fro (.lst (P.map tupD)) none, s2, s3', .own (.lst ((P.map fun p => dS p.1).map .fro)) none, s5', s6, s7, s8])
  | [], vals, s3, _, _, _, h3 => ⟨s3, .own (.lst ((vals.map dS).map .fro)) none, h3, by simp [wrongM]⟩
  | (k, v) :: ps, vals, s3, hs, hv, hlen, h3 => by
    have h3' := vS_fr h3
    have hkv := hP (k, v) (hs _ List.mem_cons_self)
    dsimp only at hkv
    have hm0 : memD (dS k) (.lst (AF.map fun c => dS [c])) = some (decide (tok k)) := by
      have := mem_strs (v := k) (l := AF.map fun c => [c]) hkv.1 (by decide)
      rw [List.map_map] at this
      rw [show (fun c => dS [c]) = dS ∘ fun c => [c] from rfl, this]
      congr 1
      rw [Bool.eq_iff_iff]
      simp only [decide_eq_true_eq]
      exact (tok_iff k).symm
    have hm1 : memD (dS v) (.lst (P.map fun p => dS p.1)) = some (decide (v ∈ P.map Prod.fst)) := by
      have := mem_strs (l := P.map Prod.fst) hkv.2.1 (fun x hx => by
        obtain ⟨p, h1, rfl⟩ := List.mem_map.mp hx
        exact (hP p h1).1)
      rw [List.map_map] at this
      exact this
    have hm2 := mem_strs hkv.2.1 hv
    obtain ⟨s3', s5', h3a, e⟩ := rd_loop (C := C) (t0 := t0) (s2 := s2) (s6 := s6) (s7 := s7) (s8 := s8) P hP ps (vals ++ [v]) (.fro (tupD (k, v)) none) (fun p hp => hs p (List.mem_cons_of_mem _ hp)) (fun x hx => by
      rcases List.mem_append.mp hx with hx | hx
      · exact hv x hx
      · rw [List.mem_singleton.mp hx]; exact hkv.2.1) (by simp at hlen ⊢; omega) (.inr ⟨_, rfl⟩)
    have hvl : vals.length < LIM := by rw [LIM_m]; simp at hlen; omega
    rw [List.map_cons, forGo_cons, turnS_eq]
    by_cases c1 : tok k
    · by_cases c2 : v ∈ P.map Prod.fst
      · by_cases c3 : v ∈ vals
        · have hw : wrongM (P.map Prod.fst) ((k, v) :: ps) vals = some k := by rw [wrongM, if_pos (.inr (.inr c3))]
          rw [hw]
          refine ⟨.fro (tupD (k, v)) none, .own (.lst ((vals.map dS).map .fro)) none, .inr ⟨_, rfl⟩, ?_⟩
          simp only [decide_eq_true c1, decide_eq_true c2, decide_eq_true c3] at hm0 hm1 hm2
          simp at hm0
          simp [h3', tupD, hm0, hm1, hm2, l6, l4]
        · have hw : wrongM (P.map Prod.fst) ((k, v) :: ps) vals = wrongM (P.map Prod.fst) ps (vals ++ [v]) := by rw [wrongM, if_neg (fun h => by rcases h with h | h | h <;> contradiction)]
          rw [hw]
          refine ⟨s3', s5', h3a, ?_⟩
          simp only [decide_eq_true c1, decide_eq_true c2, decide_eq_false c3] at hm0 hm1 hm2
          simp at hm0
          simp at e
          simp [tupD] at e
          simp [h3', tupD, hm0, hm1, hm2, l6, hvl]
          exact e
      · have hw : wrongM (P.map Prod.fst) ((k, v) :: ps) vals = some k := by rw [wrongM, if_pos (.inr (.inl c2))]
        rw [hw]
        refine ⟨.fro (tupD (k, v)) none, .own (.lst ((vals.map dS).map .fro)) none, .inr ⟨_, rfl⟩, ?_⟩
        simp only [decide_eq_true c1, decide_eq_false c2] at hm0 hm1
        simp at hm0
        simp [h3', tupD, hm0, hm1, l6, l4]
    · have hw : wrongM (P.map Prod.fst) ((k, v) :: ps) vals = some k := by rw [wrongM, if_pos (.inl c1)]
      rw [hw]
      refine ⟨.fro (tupD (k, v)) none, .own (.lst ((vals.map dS).map .fro)) none, .inr ⟨_, rfl⟩, ?_⟩
      simp only [decide_eq_false c1] at hm0
      simp at hm0
      simp [h3', tupD, hm0, l6, l4]
end LawK01
end

section
set_option linter.all false
set_option maxRecDepth 100000
set_option maxHeartbeats 4000000
namespace LawK01
open PV PS
open PySem (Str)
open SX (S)
@[simp] theorem flats_app {α : Type} (f : α → D) (xs : List α) (ys : List OD) : flats (xs.map (OD.fro ∘ f) ++ ys) = (flats ys).map (xs.map f ++ ·) := by
  induction xs with
  | nil => simp
  | cons x xs ih =>
    simp [ih]
    cases flats ys <;> rfl
theorem sg_loop {C : Ctx} {t0 : D} (P : Prs) (hP : okP P) (hPl : P.length ≤ 1000) {s2 s4 s5 : Slot} : ∀ (v : List Nat) (ys : List (List Nat)) (s3 s7 s8 : Slot), okS v = true → ys.length + v.length ≤ 2000 → vS s3 → frS s7 = true → frS s8 = true →
    ∃ s3' s7' s8' : Slot, forGo (turnS C (.nm 7) (.seq (.set 8 (.lc (.nm 3) [3] .seq [.var 1] [.tru (.cmp .eq (.ix (.var 3) (.cst (.int 0))) (.var 7))] (.ix (.var 3) (.cst (.int 1))))) (.expr (.mu .append (.var 6) [.ix (.bin .add (.var 8) (.lst [.var 7])) (.cst (.int 0))])))) (v.map fun c => dS [c])
        [.fro t0 none, .fro (.lst (P.map tupD)) none, s2, s3, s4, s5, .own (.lst ((ys.map dS).map .fro)) none, s7, s8] =
      .nx [.fro t0 none, .fro (.lst (P.map tupD)) none, s2, s3', s4, s5, .own (.lst (((ys ++ v.map fun c => (lookL P [c]).getD [c]).map dS).map .fro)) none, s7', s8']
  | [], ys, s3, s7, s8, _, _, _, _, _ => ⟨s3, s7, s8, by simp⟩
  | c :: v, ys, s3, s7, s8, hv, hl, h3, h7, h8 => by
    rw [okS_cons, Bool.and_eq_true, decide_eq_true_iff] at hv
    have hplim : P.length ≤ LIM := by rw [LIM_m]; omega
    have hm := fun q7 q8 : Slot => lcGo_mapG (own := [3]) (t := turnL C 9 (.nm 3) [.tru (.cmp .eq (.ix (.var 3) (.cst (.int 0))) (.var 7))] (.ix (.var 3) (.cst (.int 1)))) (e0 := [.fro t0 none, .fro (.lst (P.map tupD)) none, s2, .non, s4, s5, .own (.lst ((ys.map dS).map .fro)) none, .fro (dS [c]) none, q8])
      (g := tupD) (h := fun p => (if p.1 = [c] then some p.2 else none).map dS) P [] [.fro t0 none, .fro (.lst (P.map tupD)) none, s2, s3, s4, s5, .own (.lst ((ys.map dS).map .fro)) none, .fro (dS [c]) none, q8] (by simp) (fun p hp => by
        have hk := hP p hp
        refine ⟨[.fro t0 none, .fro (.lst (P.map tupD)) none, s2, .fro (tupD p) none, s4, s5, .own (.lst ((ys.map dS).map .fro)) none, .fro (dS [c]) none, q8], ?_⟩
        by_cases h : p.1 = [c]
        · have hk1 := hk.1
          rw [h] at hk1
          simp [turnL_eq, tupD, h, hv.1]
        · simp [turnL_eq, tupD, h, hv.1, hk.1]) (by simpa using hplim)
    obtain ⟨s3', s7', s8', e⟩ := sg_loop (C := C) (t0 := t0) P hP hPl (s2 := s2) (s4 := s4) (s5 := s5) v (ys ++ [(lookL P [c]).getD [c]]) s3 (.fro (dS [c]) none) (.own (.lst (((P.filterMap fun p : List Nat × List Nat => if p.1 = [c] then some p.2 else none).map dS).map .fro)) none) hv.2 (by simp at hl ⊢; omega) h3 rfl rfl
    refine ⟨s3', s7', s8', ?_⟩
    rw [List.map_cons, forGo_cons, turnS_eq]
    have hyl : ys.length < LIM := by rw [LIM_m]; simp at hl; omega
    have hlk : lookL P [c] = (P.filterMap fun p : List Nat × List Nat => if p.1 = [c] then some p.2 else none).head? := rfl
    have hWl : (P.filterMap fun p : List Nat × List Nat => if p.1 = [c] then some p.2 else none).length ≤ 1000 := Nat.le_trans (List.length_filterMap_le _ _) hPl
    simp only [← List.map_filterMap, List.nil_append] at hm
    rw [hlk] at e
    simp only [List.map_cons]
    rw [hlk]
    generalize (P.filterMap fun p : List Nat × List Nat => if p.1 = [c] then some p.2 else none) = W at hm e hWl ⊢
    have hWl1 : W.length + 1 ≤ LIM := by rw [LIM_m]; omega
    have hWl2 : W.length ≤ LIM := by omega
    simp at hm e
    have key : ∀ q3 : Slot, q3 = s3 → freeS [.fro t0 none, .fro (.lst (P.map tupD)) none, s2, q3, s4, s5, .own (.lst (ys.map (OD.fro ∘ dS))) none, .fro (dS [c]) none, s8] [3] = true := by
      rintro _ rfl
      rcases h3 with rfl | ⟨d, rfl⟩ <;> rfl
    have key' := key s3 rfl
    simp at key'
    have hres : (List.map dS W ++ [dS [c]])[0]? = some (dS (W.head?.getD [c])) := by
      cases W with
      | nil => rfl
      | cons w W => rfl
    simp [h7, h8, key']
    rw [hm s7 s8]
    simp [h8, hyl, l1, hWl1, hWl2]
    have hres0 : ∀ h, (List.map dS W ++ [dS [c]])[0]'h = dS (W.head?.getD [c]) := by intro h; cases W <;> rfl
    rw [hres0]
    exact e
theorem recast_due_eq (n : Nat) (t : List Nat) (P : Prs) (ht : okS t = true) (hlen : t.length ≤ 1000) (hP : okP P) (hl : P.length ≤ 1000) :
    ∃ o : OD, callF tab xt.sub (n + 2) "_law_recast_due" [.fro (dS t) none, .fro (.lst (P.map tupD)) none] = .ret (.frs o) [.non, .non] ∧ o.toD = ansR t P := by
  rw [callF_succ, t__law_recast_due]
  have hlim : t.length ≤ LIM := by rw [LIM_m]; omega
  have hplim : P.length ≤ LIM := by rw [LIM_m]; omega
  have hw := law_wrong_eq n t AF ok_AF (by omega) (by decide)
  unfold ansR
  cases h : fwD AF t with
  | some i =>
    rw [h] at hw
    simp [dOpt] at hw
    refine ⟨.lst [.fro (.str "BadText"), .fro (.int i), .fro (.bl true), .fro (.bl false)], ?_, ?_⟩
    · simp [c__law_recast_due, hw, l4]
    · simp [badD]
  | none =>
    rw [h] at hw
    simp [dOpt] at hw
    have hm := lcGo_mapG (own := [3]) (t := turnL ⟨callF tab xt.sub (n + 1), xt.sub⟩ 9 (.nm 3) [] (.ix (.var 3) (.cst (.int 0)))) (e0 := [.fro (dS t) none, .fro (.lst (P.map tupD)) none, .fro .non none, .non, .non, .non, .non, .non, .non])
      (g := tupD) (h := fun p => some (dS p.1)) P [] [.fro (dS t) none, .fro (.lst (P.map tupD)) none, .fro .non none, .non, .non, .non, .non, .non, .non] (by simp) (fun p hp => by
        exact ⟨[.fro (dS t) none, .fro (.lst (P.map tupD)) none, .fro .non none, .fro (tupD p) none, .non, .non, .non, .non, .non], by simp [turnL_eq, tupD]⟩) (by simpa using hplim)
    rw [List.nil_append, show (fun p : List Nat × List Nat => some (dS p.1)) = some ∘ fun p => dS p.1 from rfl, List.filterMap_eq_map] at hm
    obtain ⟨s3, s5, h3, e⟩ := rd_loop (C := ⟨callF tab xt.sub (n + 1), xt.sub⟩) (t0 := dS t) P hP (s2 := .fro .non none) (s6 := .non) (s7 := .non) (s8 := .non) P [] .non (fun p hp => hp) (fun v hv => by cases hv) (by simpa using hl) (.inl rfl)
    cases hw2 : wrongM (P.map Prod.fst) P [] with
    | some k =>
      rw [hw2] at e
      refine ⟨.lst [.fro (.str "BadLetters"), .fro (dS k), .fro (.bl true), .fro (.bl false)], ?_, by simp [badD]⟩
      simp at e hm
      simp [c__law_recast_due, hw]
      rw [hm]
      simp
      rw [e]
      simp
    | none =>
      rw [hw2] at e
      obtain ⟨s3', s7', s8', e3⟩ := sg_loop (C := ⟨callF tab xt.sub (n + 1), xt.sub⟩) (t0 := dS t) P hP hl (s2 := .fro .non none) (s4 := .own (.lst ((P.map fun p => dS p.1).map .fro)) none) (s5 := s5) t [] s3 .non .non ht (by simp; omega) h3 rfl rfl
      have hrl := recastL_len hP t
      have hl2 : (t.map fun c => (lookL P [c]).getD [c]).flatten.length ≤ LIM := by
        rw [LIM_m]; unfold recastL at hrl; omega
      refine ⟨.lst [.fro (.str "told"), .fro (dS (recastL t P))], ?_, by simp [toldD]⟩
      have hrr : recastL t P = (t.map fun c => (lookL P [c]).getD [c]).flatten := rfl
      rw [hrr]
      simp at e3
      generalize hF : (t.map fun c => (lookL P [c]).getD [c]) = fs at hl2 ⊢
      have hF2 : List.map (OD.fro ∘ dS ∘ fun c => (lookL P [c]).getD [c]) t = List.map (OD.fro ∘ dS) fs := by
        rw [← hF, List.map_map]; rfl
      try rw [hF2] at e3
      simp at e hm
      simp [c__law_recast_due, hw, hlim]
      rw [hm]
      simp
      rw [e]
      simp [hlim]
      rw [e3]
      rw [List.length_flatten] at hl2
      simp [hl2, l2]
end LawK01
end

section
set_option linter.all false
set_option maxRecDepth 100000
set_option maxHeartbeats 4000000
namespace LawK01
open PV PS
open PySem (Str)
open SX (S)
/-! ### _law_ask -/
@[simp] theorem k_holes : Str.ofString "holes" = S [104, 111, 108, 101, 115] := by decide +kernel
@[simp] theorem k_mirrored : Str.ofString "mirrored" = S [109, 105, 114, 114, 111, 114, 101, 100] := by decide +kernel
@[simp] theorem k_fillings : Str.ofString "fillings" = S [102, 105, 108, 108, 105, 110, 103, 115] := by decide +kernel
@[simp] theorem k_strange : Str.ofString "strange" = S [115, 116, 114, 97, 110, 103, 101] := by decide +kernel
@[simp] theorem k_recast : Str.ofString "recast" = S [114, 101, 99, 97, 115, 116] := by decide +kernel
@[simp] theorem sub_BadText_BadLetters : xt.sub (Str.ofString "BadText") (Str.ofString "BadLetters") = some false := by decide +kernel
@[simp] theorem sub_BadText_NoPlace : xt.sub (Str.ofString "BadText") (Str.ofString "NoPlace") = some false := by decide +kernel
@[simp] theorem sub_BadText_TooMany : xt.sub (Str.ofString "BadText") (Str.ofString "TooMany") = some false := by decide +kernel
@[simp] theorem sub_BadText_MendError : xt.sub (Str.ofString "BadText") (Str.ofString "MendError") = some true := by decide +kernel
@[simp] theorem sub_BadText_ValueError : xt.sub (Str.ofString "BadText") (Str.ofString "ValueError") = some true := by decide +kernel
@[simp] theorem sub_BadLetters_BadText : xt.sub (Str.ofString "BadLetters") (Str.ofString "BadText") = some false := by decide +kernel
@[simp] theorem sub_BadLetters_NoPlace : xt.sub (Str.ofString "BadLetters") (Str.ofString "NoPlace") = some false := by decide +kernel
@[simp] theorem sub_BadLetters_TooMany : xt.sub (Str.ofString "BadLetters") (Str.ofString "TooMany") = some false := by decide +kernel
@[simp] theorem sub_BadLetters_MendError : xt.sub (Str.ofString "BadLetters") (Str.ofString "MendError") = some true := by decide +kernel
@[simp] theorem sub_BadLetters_ValueError : xt.sub (Str.ofString "BadLetters") (Str.ofString "ValueError") = some true := by decide +kernel
@[simp] theorem sub_NoPlace_BadText : xt.sub (Str.ofString "NoPlace") (Str.ofString "BadText") = some false := by decide +kernel
@[simp] theorem sub_NoPlace_BadLetters : xt.sub (Str.ofString "NoPlace") (Str.ofString "BadLetters") = some false := by decide +kernel
@[simp] theorem sub_NoPlace_TooMany : xt.sub (Str.ofString "NoPlace") (Str.ofString "TooMany") = some false := by decide +kernel
@[simp] theorem sub_NoPlace_MendError : xt.sub (Str.ofString "NoPlace") (Str.ofString "MendError") = some true := by decide +kernel
@[simp] theorem sub_NoPlace_ValueError : xt.sub (Str.ofString "NoPlace") (Str.ofString "ValueError") = some true := by decide +kernel
@[simp] theorem sub_TooMany_BadText : xt.sub (Str.ofString "TooMany") (Str.ofString "BadText") = some false := by decide +kernel
@[simp] theorem sub_TooMany_BadLetters : xt.sub (Str.ofString "TooMany") (Str.ofString "BadLetters") = some false := by decide +kernel
@[simp] theorem sub_TooMany_NoPlace : xt.sub (Str.ofString "TooMany") (Str.ofString "NoPlace") = some false := by decide +kernel
@[simp] theorem sub_TooMany_MendError : xt.sub (Str.ofString "TooMany") (Str.ofString "MendError") = some true := by decide +kernel
@[simp] theorem sub_TooMany_ValueError : xt.sub (Str.ofString "TooMany") (Str.ofString "ValueError") = some true := by decide +kernel
def ansH (t : List Nat) : D := match fwD AF t with
  | some i => badD "BadText" (.int i)
  | none => toldD (.lst ((holes t 0).map fun i : Nat => D.int i))
def ansM (t : List Nat) : D := match fwD AF t with
  | some i => badD "BadText" (.int i)
  | none => toldD (dS t.reverse)
theorem ask_holes (n : Nat) (t : List Nat) (ht : okS t = true) (hlen : t.length ≤ LIM) :
    callF tab xt.sub (n + 5) "_law_ask" [.fro (.str "holes") none, .fro (dS t) none, .fro .non none] = .ret (.frs (match fwD AF t with
      | some i => .lst [.fro (.str "BadText"), .fro (.int i), .fro (.bl true), .fro (.bl false)]
      | none => .lst [.fro (.str "told"), .lst (((holes t 0).map fun i : Nat => D.int i).map .fro)])) [.non, .non, .non] := by
  rw [callF_succ, t__law_ask]
  have hh := hole_places_eq n t ht hlen
  cases h : fwD AF t with
  | some i =>
    rw [h] at hh
    simp [badText] at hh
    simp [c__law_ask, hh, noXs, SO.unb, unbind, subs, l4, List.lookup]
  | none =>
    rw [h] at hh
    simp at hh
    simp [c__law_ask, hh, l2]
end LawK01
end

section
set_option linter.all false
set_option maxRecDepth 100000
set_option maxHeartbeats 4000000
namespace LawK01
open PV PS
open PySem (Str)
open SX (S)
@[simp] theorem rng2 : List.range 2 = [0, 1] := by decide
theorem ask_mirrored (n : Nat) (t : List Nat) (ht : okS t = true) (hlen : t.length ≤ LIM) :
    ∃ o : OD, callF tab xt.sub (n + 5) "_law_ask" [.fro (.str "mirrored") none, .fro (dS t) none, .fro .non none] = .ret (.frs o) [.non, .non, .non] ∧ o.toD = ansM t := by
  rw [callF_succ, t__law_ask]
  have hh := mirrored_eq n t ht hlen
  unfold ansM
  cases h : fwD AF t with
  | some i =>
    rw [h] at hh
    simp [badText] at hh
    exact ⟨.lst [.fro (.str "BadText"), .fro (.int i), .fro (.bl true), .fro (.bl false)], by simp [c__law_ask, hh, noXs, SO.unb, unbind, subs, l4, List.lookup], by simp [badD]⟩
  | none =>
    rw [h] at hh
    simp at hh
    exact ⟨.lst [.fro (.str "told"), .fro (dS t.reverse)], by (try simp at hh); simp [c__law_ask, hh, l2], by simp [toldD]⟩
theorem ask_holes_toD (t : List Nat) : (match fwD AF t with
      | some i => OD.lst [.fro (.str "BadText"), .fro (.int i), .fro (.bl true), .fro (.bl false)]
      | none => .lst [.fro (.str "told"), .lst (((holes t 0).map fun i : Nat => D.int i).map .fro)]).toD = ansH t := by
  unfold ansH
  cases fwD AF t with
  | some i => simp [badD]
  | none => simp [toldD]
theorem ask_fill (n : Nat) (t ls : List Nat) (ht : okS t = true) (hl : okS ls = true) (hlen : t.length ≤ LIM) (hlen2 : ls.length ≤ LIM) :
    ∃ o : OD, callF tab xt.sub (n + 7) "_law_ask" [.fro (.str "fillings") none, .fro (dS t) none, .fro (dS ls) none] = .ret (.frs o) [.non, .non, .non] ∧ o.toD = ansF t ls := by
  rw [callF_succ, t__law_ask]
  have hh := fillings_eq n t ls ht hl hlen hlen2
  unfold fillRes at hh
  unfold ansF
  cases h : fwD AF t with
  | some i =>
    rw [h] at hh
    simp [badText] at hh
    exact ⟨.lst [.fro (.str "BadText"), .fro (.int i), .fro (.bl true), .fro (.bl false)], by simp [c__law_ask, hh, noXs, SO.unb, unbind, subs, l4, List.lookup], by simp [badD]⟩
  | none =>
    rw [h] at hh
    dsimp only at hh ⊢
    by_cases hrow : isRow ls = true
    · rw [if_pos hrow] at hh ⊢
      by_cases hm : 2000 < ls.length ^ (holes t 0).length
      · rw [if_pos hm] at hh ⊢
        simp [tooMany] at hh
        exact ⟨.lst [.fro (.str "TooMany"), .fro (.int (ls.length ^ (holes t 0).length : Nat)), .fro (.bl true), .fro (.bl false)], by simp [c__law_ask, hh, noXs, SO.unb, unbind, subs, l4, List.lookup], by simp [badD]⟩
      · rw [if_neg hm] at hh ⊢
        have hq : ((List.range (ls.length ^ (holes t 0).length)).map fun k => dS (filledL t ls k)) = (allF t ls).map dS := by rw [allF, List.map_map]; rfl
        rw [hq] at hh
        generalize (allF t ls).map dS = L at hh ⊢
        refine ⟨.lst [.fro (.str "told"), .lst (L.map .fro)], ?_, by simp [toldD]⟩
        simp at hh
        simp [c__law_ask, hh, l2]
    · rw [if_neg hrow] at hh ⊢
      simp [badLetters] at hh
      exact ⟨.lst [.fro (.str "BadLetters"), .fro (dS ls), .fro (.bl true), .fro (.bl false)], by simp [c__law_ask, hh, noXs, SO.unb, unbind, subs, l4, List.lookup], by simp [badD]⟩
theorem ask_strange_own (n : Nat) (t : List Nat) (l : List Int) (ht : okS t = true) (hlen : t.length ≤ LIM) (hl : ∀ p ∈ l, p.natAbs ≤ 10 ^ 12) :
    ∃ (s' : Slot) (o : OD), keptS l s' ∧ callF tab xt.sub (n + 5) "_law_ask" [.fro (.str "strange") none, .fro (dS t) none, .own (plT l) none] = .ret (.frs o) [.non, .non, s'] ∧ o.toD = ansS t l := by
  rw [callF_succ, t__law_ask]
  obtain ⟨s', hk, hh⟩ := strange_own n t l ht hlen hl
  unfold resS at hh
  unfold ansS
  cases h : fwD AF t with
  | some i =>
    rw [h] at hh
    simp [badText] at hh
    rcases hk with rfl | rfl
    · exact ⟨_, .lst [.fro (.str "BadText"), .fro (.int i), .fro (.bl true), .fro (.bl false)], .inl rfl, by (try simp at hh); simp [c__law_ask, hh, noXs, SO.unb, unbind, subs, l4, List.lookup], by simp [badD]⟩
    · exact ⟨_, .lst [.fro (.str "BadText"), .fro (.int i), .fro (.bl true), .fro (.bl false)], .inr rfl, by simp [c__law_ask, hh, noXs, SO.unb, unbind, subs, l4, List.lookup], by simp [badD]⟩
  | none =>
    rw [h] at hh
    dsimp only at hh ⊢
    cases hp : wrongPlace t.length l with
    | some p =>
      rw [hp] at hh
      simp [noPlace] at hh
      rcases hk with rfl | rfl
      · exact ⟨_, .lst [.fro (.str "NoPlace"), .fro (.int p), .fro (.bl true), .fro (.bl false)], .inl rfl, by (try simp at hh); simp [c__law_ask, hh, noXs, SO.unb, unbind, subs, l4, List.lookup], by simp [badD]⟩
      · exact ⟨_, .lst [.fro (.str "NoPlace"), .fro (.int p), .fro (.bl true), .fro (.bl false)], .inr rfl, by simp [c__law_ask, hh, noXs, SO.unb, unbind, subs, l4, List.lookup], by simp [badD]⟩
    | none =>
      rw [hp] at hh
      dsimp only at hh ⊢
      rcases hk with rfl | rfl
      · exact ⟨_, .lst [.fro (.str "told"), .fro (dS (strangeL t l))], .inl rfl, by (try simp at hh); simp [c__law_ask, hh, l2], by simp [toldD]⟩
      · exact ⟨_, .lst [.fro (.str "told"), .fro (dS (strangeL t l))], .inr rfl, by (try simp at hh); simp [c__law_ask, hh, l2], by simp [toldD]⟩
theorem ask_strange_tup (n : Nat) (t : List Nat) (l : List Int) (ht : okS t = true) (hlen : t.length ≤ LIM) (hl : ∀ p ∈ l, p.natAbs ≤ 10 ^ 12) :
    ∃ (o : OD), callF tab xt.sub (n + 5) "_law_ask" [.fro (.str "strange") none, .fro (dS t) none, .fro (.tup (l.map D.int)) none] = .ret (.frs o) [.non, .non, .non] ∧ o.toD = ansS t l := by
  rw [callF_succ, t__law_ask]
  have hh := strange_fro n t l (.tup (l.map D.int)) (.inr rfl) ht hlen hl
  unfold resS at hh
  unfold ansS
  cases h : fwD AF t with
  | some i =>
    rw [h] at hh
    simp [badText] at hh
    exact ⟨.lst [.fro (.str "BadText"), .fro (.int i), .fro (.bl true), .fro (.bl false)], by simp [c__law_ask, hh, noXs, SO.unb, unbind, subs, l4, List.lookup], by simp [badD]⟩
  | none =>
    rw [h] at hh
    dsimp only at hh ⊢
    cases hp : wrongPlace t.length l with
    | some p =>
      rw [hp] at hh
      simp [noPlace] at hh
      exact ⟨.lst [.fro (.str "NoPlace"), .fro (.int p), .fro (.bl true), .fro (.bl false)], by simp [c__law_ask, hh, noXs, SO.unb, unbind, subs, l4, List.lookup], by simp [badD]⟩
    | none =>
      rw [hp] at hh
      dsimp only at hh ⊢
      exact ⟨.lst [.fro (.str "told"), .fro (dS (strangeL t l))], by (try simp at hh); simp [c__law_ask, hh, l2], by simp [toldD]⟩
theorem ask_recast (n : Nat) (t : List Nat) (P : Prs) (ht : okS t = true) (hlen : t.length ≤ 1000) (hP : okP P) (hn : (P.map Prod.fst).Nodup) (hl : P.length ≤ 1000) :
    ∃ (o : OD), callF tab xt.sub (n + 5) "_law_ask" [.fro (.str "recast") none, .fro (dS t) none, .own (dicT P) none] = .ret (.frs o) [.non, .non, .own (dicT P) none] ∧ o.toD = ansR t P := by
  rw [callF_succ, t__law_ask]
  have hh := recast_eq n t P ht hlen hP hn hl
  unfold resR at hh
  unfold ansR
  cases h : fwD AF t with
  | some i =>
    rw [h] at hh
    simp [badText] at hh
    exact ⟨.lst [.fro (.str "BadText"), .fro (.int i), .fro (.bl true), .fro (.bl false)], by simp [c__law_ask, hh, noXs, SO.unb, unbind, subs, l4, List.lookup], by simp [badD]⟩
  | none =>
    rw [h] at hh
    dsimp only at hh ⊢
    cases hp : wrongM (P.map Prod.fst) P [] with
    | some p =>
      rw [hp] at hh
      simp [badLetters] at hh
      exact ⟨.lst [.fro (.str "BadLetters"), .fro (dS p), .fro (.bl true), .fro (.bl false)], by simp [c__law_ask, hh, noXs, SO.unb, unbind, subs, l4, List.lookup], by simp [badD]⟩
    | none =>
      rw [hp] at hh
      dsimp only at hh ⊢
      exact ⟨.lst [.fro (.str "told"), .fro (dS (recastL t P))], by (try simp at hh); simp [c__law_ask, hh, l2], by simp [toldD]⟩
end LawK01
end

section
set_option linter.all false
set_option maxRecDepth 100000
set_option maxHeartbeats 4000000
namespace LawK01
open PV PS
open PySem (Str)
open SX (S)
@[simp] theorem k_ace : Str.ofString "ace" = S [97, 99, 101] := by decide +kernel
theorem ok_ace : okS [97, 99, 101] = true := by decide
theorem holes_range : ∀ (t : List Nat) (k : Nat), (List.range t.length).filterMap (fun i => if t.getD i 0 = 63 then some (k + i) else none) = holes t k
  | [], k => rfl
  | c :: t, k => by
    have ih := holes_range t (k + 1)
    unfold holes at ih ⊢
    rw [List.length_cons, List.range_succ_eq_map, List.filterMap_cons, List.zipIdx_cons, List.filterMap_cons, List.filterMap_map]
    have e : (List.range t.length).filterMap ((fun i => if (c :: t).getD i 0 = 63 then some (k + i) else none) ∘ Nat.succ) = (List.range t.length).filterMap fun i => if t.getD i 0 = 63 then some (k + 1 + i) else none := by
      congr 1
      funext i
      show (if t.getD i 0 = 63 then some (k + (i + 1)) else none) = _
      rw [show k + (i + 1) = k + 1 + i by omega]
    rw [e, ih]
    have e0 : (c :: t).getD 0 0 = c := rfl
    simp only [e0, Nat.add_zero]
theorem rev_loop {C : Ctx} {s0 s1 s2 s3 s6 s7 s8 : Slot} : ∀ (v acc : List Nat) (s5 : Slot), v.length + acc.length ≤ 10000 → frS s5 = true →
    ∃ s5' : Slot, forGo (turnS C (.nm 5) (.set 4 (.bin .add (.var 5) (.var 4)))) (v.map fun c => dS [c]) [s0, s1, s2, s3, .fro (dS acc) none, s5, s6, s7, s8] = .nx [s0, s1, s2, s3, .fro (dS (v.reverse ++ acc)) none, s5', s6, s7, s8]
  | [], acc, s5, _, h5 => ⟨s5, by simp⟩
  | c :: v, acc, s5, hl, h5 => by
    obtain ⟨s5', e⟩ := rev_loop (C := C) (s0 := s0) (s1 := s1) (s2 := s2) (s3 := s3) (s6 := s6) (s7 := s7) (s8 := s8) v (c :: acc) (.fro (dS [c]) none) (by simp at hl ⊢; omega) rfl
    refine ⟨s5', ?_⟩
    rw [List.map_cons, forGo_cons, turnS_eq]
    have hal : 1 + acc.length ≤ LIM := by rw [LIM_m]; simp at hl; omega
    have hw : (c :: v).reverse ++ acc = v.reverse ++ c :: acc := by simp
    rw [hw]
    simp [h5, hal]
    exact e
theorem lp_dOpt (x : Option Nat) : lp 0 (dOpt x) = true := by cases x <;> rfl
theorem strOk_told : PySem.PyData.strOk (Str.ofString "told") = true := by decide +kernel
theorem strOk_bt : PySem.PyData.strOk (Str.ofString "BadText") = true := by decide +kernel
theorem strOk_bl : PySem.PyData.strOk (Str.ofString "BadLetters") = true := by decide +kernel
theorem strOk_np : PySem.PyData.strOk (Str.ofString "NoPlace") = true := by decide +kernel
theorem strOk_tm : PySem.PyData.strOk (Str.ofString "TooMany") = true := by decide +kernel
theorem lp_str (k : Nat) (s : Str) : lp k (.str s) = PySem.PyData.strOk s := by cases k <;> rfl
theorem lp_int (k : Nat) (i : Int) : lp k (.int i) = true := by cases k <;> rfl
theorem lp_bl (k : Nat) (i : Bool) : lp k (.bl i) = true := by cases k <;> rfl
theorem lp_lst (k : Nat) (xs : List D) : lp (k + 1) (.lst xs) = (xs.all (lp k) && decide (xs.length < LIM)) := rfl
theorem l4' : 4 < LIM := by rw [LIM_m]; decide
theorem l2' : 2 < LIM := by rw [LIM_m]; decide
theorem lp_bad {k : Nat} {c : Str} {d : D} (hc : PySem.PyData.strOk c = true) (hd : lp k d = true) : lp (k + 1) (badD c d) = true := by
  simp [badD, lp_lst, lp_str, lp_bl, hc, hd, l4']
theorem lp_told {k : Nat} {d : D} (hd : lp k d = true) : lp (k + 1) (toldD d) = true := by
  simp [toldD, lp_lst, lp_str, strOk_told, hd, l2']
theorem lp_ansH (t : List Nat) (hlen : t.length ≤ 1000) : lp 2 (ansH t) = true := by
  unfold ansH
  cases fwD AF t with
  | some i => exact lp_bad strOk_bt (lp_int _ _)
  | none =>
    refine lp_told ?_
    have := holes_len (t := t) (k := 0)
    have h2 : (holes t 0).length < LIM := by rw [LIM_m]; omega
    simp [lp_lst, lp_int, h2]
theorem lp_ansM (t : List Nat) (ht : okS t = true) : lp 2 (ansM t) = true := by
  unfold ansM
  cases fwD AF t with
  | some i => exact lp_bad strOk_bt (lp_int _ _)
  | none =>
    refine lp_told ?_
    rw [lp_str, strOk_S]
    exact okS_mem.mpr fun c hc => okS_mem.mp ht c (List.mem_reverse.mp hc)
theorem plain_right_eq (n : Nat) (t ls : List Nat) (ht : okS t = true) (hl : okS ls = true) (hlen : t.length ≤ 1000) (hlen2 : ls.length ≤ 100) :
    callF tab xt.sub (n + 11) "_law_plain_right" [.fro (dS t) none, .fro (dS ls) none] = .ret (.val (.bl true)) [.non, .non] := by
  rw [callF_succ, t__law_plain_right]
  have hlim : t.length ≤ LIM := by rw [LIM_m]; omega
  have hlim' : t.length < LIM := by rw [LIM_m]; omega
  have f1 : callF tab xt.sub (n + 10) "first_wrong" _ = _ := first_wrong_eq (n + 8) t AF ht ok_AF hlim
  have f2 : callF tab xt.sub (n + 10) "first_wrong" _ = _ := first_wrong_eq (n + 8) t ls ht hl hlim
  have f3 : callF tab xt.sub (n + 10) "first_wrong" _ = _ := first_wrong_eq (n + 8) t [97, 99, 101] ht ok_ace hlim
  have w1 : callF tab xt.sub (n + 10) "_law_wrong" _ = _ := law_wrong_eq (n + 9) t AF ok_AF (by omega) (by decide)
  have w2 : callF tab xt.sub (n + 10) "_law_wrong" _ = _ := law_wrong_eq (n + 9) t ls hl (by omega) hlen2
  have w3 : callF tab xt.sub (n + 10) "_law_wrong" _ = _ := law_wrong_eq (n + 9) t [97, 99, 101] ok_ace (by omega) (by decide)
  have i0 : ∀ x, callF tab xt.sub (n + 10) "_law_is" [.fro (dOpt x) none, .fro (dOpt x) none] = _ := fun x => law_is_eq 0 (n + 9) (dOpt x) (lp_dOpt x)
  have iH : callF tab xt.sub (n + 10) "_law_is" [.fro (ansH t) none, .fro (ansH t) none] = _ := law_is_eq 2 (n + 7) (ansH t) (lp_ansH t hlen)
  have iM : callF tab xt.sub (n + 10) "_law_is" [.fro (ansM t) none, .fro (ansM t) none] = _ := law_is_eq 2 (n + 7) (ansM t) (lp_ansM t ht)
  have aH : callF tab xt.sub (n + 10) "_law_ask" _ = _ := ask_holes (n + 5) t ht hlim
  obtain ⟨om, aM, hom⟩ : ∃ o : OD, callF tab xt.sub (n + 10) "_law_ask" [.fro (.str "mirrored") none, .fro (dS t) none, .fro .non none] = .ret (.frs o) [.non, .non, .non] ∧ o.toD = ansM t := ask_mirrored (n + 5) t ht hlim
  have hm := fun q2 : Slot => lcGo_mapG (own := [8]) (t := turnL ⟨callF tab xt.sub (n + 10), xt.sub⟩ 9 (.nm 8) [.tru (.cmp .eq (.ix (.var 0) (.var 8)) (.cst (.str "?")))] (.var 8)) (e0 := [.fro (dS t) none, .fro (dS ls) none, q2, .non, .non, .non, .non, .non, .non])
      (g := fun i : Nat => D.int (i : Int)) (h := fun i => (if t.getD i 0 = 63 then some (0 + i) else none).map fun i : Nat => D.int i) (List.range t.length) [] [.fro (dS t) none, .fro (dS ls) none, q2, .non, .non, .non, .non, .non, .non] (by simp) (fun i hi => by
        have hi' := List.mem_range.mp hi
        have hg : t.getD i 0 = t[i] := by simp [List.getD_eq_getElem?_getD, List.getElem?_eq_getElem hi']
        have hc : t[i] < 1114112 := okS_mem.mp ht _ (List.getElem_mem hi')
        refine ⟨[.fro (dS t) none, .fro (dS ls) none, q2, .non, .non, .non, .non, .non, .fro (.int i) none], ?_⟩
        rw [hg]
        by_cases h : t[i] = 63
        · simp [turnL_eq, hi', hlim, hc, h]
        · simp [turnL_eq, hi', hlim, hc, h]) (by simp; omega)
  simp only [← List.map_filterMap, List.nil_append, holes_range] at hm
  cases h : fwD AF t with
  | some i =>
    have h1 : ansH t = badD "BadText" (.int i) := by unfold ansH; rw [h]
    have h2 : ansM t = badD "BadText" (.int i) := by unfold ansM; rw [h]
    rw [h1] at iH
    rw [h2] at iM hom
    rw [h] at aH
    have i0i := i0 (some i)
    have i0f := i0 (fwD ls t)
    have i0a := i0 (fwD [97, 99, 101] t)
    rw [h] at f1 w1
    obtain ⟨s5, e⟩ := rev_loop (C := ⟨callF tab xt.sub (n + 10), xt.sub⟩) (s0 := .fro (dS t) none) (s1 := .fro (dS ls) none) (s2 := .fro (dOpt (some i)) none) (s3 := .own (.lst [.fro (.str "told"), .lst (((holes t 0).map fun i : Nat => D.int i).map .fro)]) none) (s6 := .non) (s7 := .non) (s8 := .non) t [] .non (by simp; omega) rfl
    have hm' := hm (.fro (dOpt (some i)) none)
    generalize dOpt (fwD ls t) = X2 at f2 w2 i0f
    generalize dOpt (fwD [97, 99, 101] t) = X3 at f3 w3 i0a
    simp [dOpt] at f1 w1 i0i e hm' f2 f3 w2 w3 i0f i0a aH aM
    simp [badD] at iH iM hom
    simp [c__law_plain_right, f1, f2, f3, w1, w2, w3, i0i, i0f, i0a, simple, hlim, hlim']
    rw [hm']
    simp [hlim, l2]
    rw [e]
    simp [l4, l2, aH, aM, hom, iH, simple]
  | none =>
    have h1 : ansH t = toldD (.lst ((holes t 0).map fun i : Nat => D.int i)) := by unfold ansH; rw [h]
    have h2 : ansM t = toldD (dS t.reverse) := by unfold ansM; rw [h]
    rw [h1] at iH
    rw [h2] at iM hom
    rw [h] at aH
    have i0i := i0 none
    have i0f := i0 (fwD ls t)
    have i0a := i0 (fwD [97, 99, 101] t)
    rw [h] at f1 w1
    obtain ⟨s5, e⟩ := rev_loop (C := ⟨callF tab xt.sub (n + 10), xt.sub⟩) (s0 := .fro (dS t) none) (s1 := .fro (dS ls) none) (s2 := .fro (dOpt none) none) (s3 := .own (.lst [.fro (.str "told"), .lst (((holes t 0).map fun i : Nat => D.int i).map .fro)]) none) (s6 := .non) (s7 := .non) (s8 := .non) t [] .non (by simp; omega) rfl
    have hm' := hm (.fro (dOpt none) none)
    have hhl : (holes t 0).length < LIM := by
      have := holes_len (t := t) (k := 0)
      omega
    generalize dOpt (fwD ls t) = X2 at f2 w2 i0f
    generalize dOpt (fwD [97, 99, 101] t) = X3 at f3 w3 i0a
    simp [dOpt] at f1 w1 i0i e hm' f2 f3 w2 w3 i0f i0a aH aM
    simp [toldD] at iH iM hom
    simp [c__law_plain_right, f1, f2, f3, w1, w2, w3, i0i, i0f, i0a, simple, hlim, hlim']
    rw [hm']
    simp [hlim, l2]
    rw [e]
    simp [l4, l2, aH, aM, hom, iH, iM, simple, hhl]
end LawK01
end

section
set_option linter.all false
set_option maxRecDepth 100000
set_option maxHeartbeats 4000000
namespace LawK01
open PV PS
open PySem (Str)
open SX (S)
theorem lp_ansS (t : List Nat) (l : List Int) (ht : okS t = true) : lp 2 (ansS t l) = true := by
  unfold ansS
  cases fwD AF t with
  | some i => exact lp_bad strOk_bt (lp_int _ _)
  | none =>
    dsimp only
    cases wrongPlace t.length l with
    | some p => exact lp_bad strOk_np (lp_int _ _)
    | none =>
      refine lp_told ?_
      rw [lp_str, strOk_S]
      refine okS_mem.mpr fun c hc => ?_
      unfold strangeL at hc
      obtain ⟨p, h1, h2⟩ := List.mem_map.mp hc
      split at h2
      · omega
      · rw [← h2]
        exact okS_mem.mp ht _ (List.mem_zipIdx' h1 |>.2 ▸ List.getElem_mem _)
theorem wrongM_mem {ks : List (List Nat)} : ∀ {ps : Prs} {vals : List (List Nat)} {k : List Nat}, wrongM ks ps vals = some k → ∃ p ∈ ps, p.1 = k
  | [], _, _, h => by cases h
  | (a, b) :: ps, vals, k, h => by
    rw [wrongM] at h
    split at h
    · cases h; exact ⟨_, List.mem_cons_self, rfl⟩
    · obtain ⟨p, h1, h2⟩ := wrongM_mem h
      exact ⟨p, List.mem_cons_of_mem _ h1, h2⟩
theorem lp_ansR (t : List Nat) (P : Prs) (ht : okS t = true) (hP : okP P) : lp 2 (ansR t P) = true := by
  unfold ansR
  cases fwD AF t with
  | some i => exact lp_bad strOk_bt (lp_int _ _)
  | none =>
    dsimp only
    cases hw : wrongM (P.map Prod.fst) P [] with
    | some k =>
      refine lp_bad strOk_bl ?_
      obtain ⟨p, h1, rfl⟩ := wrongM_mem hw
      rw [lp_str, strOk_S]
      exact (hP p h1).1
    | none =>
      refine lp_told ?_
      rw [lp_str, strOk_S]
      refine okS_mem.mpr fun c hc => ?_
      unfold recastL at hc
      obtain ⟨x, h1, h2⟩ := List.mem_flatten.mp hc
      obtain ⟨d, h3, rfl⟩ := List.mem_map.mp h1
      cases hlk : lookL P [d] with
      | none =>
        rw [hlk] at h2
        have : c = d := by simpa using h2
        subst this
        exact okS_mem.mp ht _ h3
      | some v =>
        rw [hlk] at h2
        exact okS_mem.mp (hP _ (lookL_some hlk)).2.1 c h2
theorem pK_nodup {Q : Prs} (h : (Q.map Prod.fst).Nodup) : (pK Q).Nodup := by
  unfold pK
  rw [show (fun p : List Nat × List Nat => (Sum.inr (S p.1) : L2.Key)) = (fun k => Sum.inr (S k)) ∘ Prod.fst from rfl, ← List.map_map]
  exact List.Pairwise.map _ (fun a b hab he => hab (S_eq.mp (Sum.inr.inj he))) h
theorem sub_dic {Q : Prs} {k v : List Nat} (hk : k ∉ Q.map Prod.fst) (hn : (Q.map Prod.fst).Nodup) (hl : Q.length ≤ 1000) : subF (dicT Q) (dS k) (.fro (dS v)) = some (dicT (Q ++ [(k, v)])) := by
  show (if (pK Q).length < LIM ∧ (pK Q).Nodup then (match (pK Q).findIdx? fun a => decide (a = .inr (S k)) with
      | some j => some (OD.dic (pK Q) (((pV Q).map OD.fro).set j (.fro (dS v))))
      | none => some (OD.dic (pK Q ++ [.inr (S k)]) ((pV Q).map OD.fro ++ [.fro (dS v)]))) else none) = _
  have hl2 : (pK Q).length < LIM := by rw [LIM_m]; simp [pK]; omega
  rw [if_pos ⟨hl2, pK_nodup hn⟩]
  have hf : (pK Q).findIdx? (fun a => decide (a = .inr (S k))) = none := by
    rw [List.findIdx?_eq_none_iff]
    intro x hx
    obtain ⟨p, h1, rfl⟩ := List.mem_map.mp hx
    rw [decide_eq_false_iff_not]
    intro he
    exact hk (List.mem_map.mpr ⟨p, h1, S_eq.mp (Sum.inr.inj he)⟩)
  rw [hf]
  simp [dicT, pK, pV]
theorem dic_loop {C : Ctx} {s0 s1 s2 s3 s4 s7 : Slot} {P : Prs} (hn : (P.map Prod.fst).Nodup) (hl : P.length ≤ 1000) : ∀ (ps Q : Prs) (s6 : Slot), P = Q ++ ps → frS s6 = true →
    ∃ s6' : Slot, forGo (turnS C (.nm 6) (.sub (.var 5) (.ix (.var 6) (.cst (.int 0))) (.ix (.var 6) (.cst (.int 1))))) (ps.map tupD) [s0, s1, s2, s3, s4, .own (dicT Q) none, s6, s7] = .nx [s0, s1, s2, s3, s4, .own (dicT P) none, s6', s7]
  | [], Q, s6, h, h6 => ⟨s6, by rw [h]; simp⟩
  | (k, v) :: ps, Q, s6, h, h6 => by
    have hn2 := hn
    rw [h, List.map_append, List.map_cons, List.nodup_append] at hn2
    have hk : k ∉ Q.map Prod.fst := fun hk => hn2.2.2 k hk k List.mem_cons_self rfl
    have hs := sub_dic (v := v) hk hn2.1 (by rw [h] at hl; simp at hl; omega)
    obtain ⟨s6', e⟩ := dic_loop (C := C) (s0 := s0) (s1 := s1) (s2 := s2) (s3 := s3) (s4 := s4) (s7 := s7) hn hl ps (Q ++ [(k, v)]) (.fro (tupD (k, v)) none) (by simp [h]) rfl
    refine ⟨s6', ?_⟩
    rw [List.map_cons, forGo_cons, turnS_eq]
    simp only [dicT] at hs e ⊢
    simp [h6, tupD]
    try simp at hs
    rw [hs]
    simp [tupD] at e
    try simp
    exact e
theorem items_P (P : Prs) : itemsD (pK P) (pV P) = P.map tupD := by
  induction P with
  | nil => rfl
  | cons p P ih =>
    unfold itemsD pK pV at ih ⊢
    simp only [List.map_cons, List.zip_cons_cons]
    rw [ih]
    rfl
theorem plain_pairs {P : Prs} (hP : okP P) : plain 2 (.lst (P.map tupD)) = true := by
  rw [plain_lst, List.all_eq_true]
  intro x hx
  obtain ⟨p, h1, rfl⟩ := List.mem_map.mp hx
  have := hP p h1
  simp [tupD, this.1, this.2.1]
theorem deq_pairs {P : Prs} (hP : okP P) : deq (.lst (P.map tupD)) (.lst (P.map tupD)) = some true := by
  rw [deq_plain (n := 2) (by decide) (plain_pairs hP) (plain_pairs hP)]
  simp
theorem deq_ints (l : List Int) : deq (.lst (l.map D.int)) (.lst (l.map D.int)) = some true := by
  rw [deq_plain (n := 1) (by decide) (by simp) (by simp)]
  simp
end LawK01
end

section
set_option linter.all false
set_option maxRecDepth 100000
set_option maxHeartbeats 4000000
namespace LawK01
open PV PS
open PySem (Str)
open SX (S)
abbrev prT (P : Prs) : OD := .lst ((P.map tupD).map .fro)
def pin1 (s : Slot) : Slot := match s with
  | .own o _ => .own o (some 1)
  | s => s
@[simp] theorem pin1_own {o : OD} {q : Option Nat} : pin1 (.own o q) = .own o (some 1) := (rfl)
@[simp] theorem pin1_fro {o : D} {q : Option Nat} : pin1 (.fro o q) = .fro o q := (rfl)
def outL (l : List Int) (s s' : Slot) : Prop := match s with
  | .own _ _ => keptS l s'
  | _ => s' = .non
def outQ (P : Prs) (s s' : Slot) : Prop := match s with
  | .own _ _ => s' = .fro (.lst (P.map tupD)) none
  | _ => s' = .non
theorem moved_eq (n : Nat) (t : List Nat) (l : List Int) (P : Prs) (ht : okS t = true) (hlen : t.length ≤ 1000) (hl : ∀ p ∈ l, p.natAbs ≤ 10 ^ 12) (hP : okP P) (hn : (P.map Prod.fst).Nodup) (hPl : P.length ≤ 1000)
    (s1 s2 : Slot) (h1 : keptS l s1) (h2 : s2 = .own (prT P) none ∨ s2 = .fro (.lst (P.map tupD)) none) :
    ∃ s1' s2' : Slot, outL l s1 s1' ∧ outQ P s2 s2' ∧
      callF tab xt.sub (n + 11) "_law_moved_right" [.fro (dS t) none, s1, s2] = .ret (.val (.bl true)) [.non, s1', s2'] := by
  rw [callF_succ, t__law_moved_right]
  have hlim : t.length ≤ LIM := by rw [LIM_m]; omega
  have iS : callF tab xt.sub (n + 10) "_law_is" [.fro (ansS t l) none, .fro (ansS t l) none] = _ := law_is_eq 2 (n + 7) (ansS t l) (lp_ansS t l ht)
  have iR : callF tab xt.sub (n + 10) "_law_is" [.fro (ansR t P) none, .fro (ansR t P) none] = _ := law_is_eq 2 (n + 7) (ansR t P) (lp_ansR t P ht hP)
  obtain ⟨s3, o1, hk3, a1, ho1⟩ : ∃ (s' : Slot) (o : OD), keptS l s' ∧ callF tab xt.sub (n + 10) "_law_ask" [.fro (.str "strange") none, .fro (dS t) none, .own (plT l) none] = .ret (.frs o) [.non, .non, s'] ∧ o.toD = ansS t l := ask_strange_own (n + 5) t l ht hlim hl
  obtain ⟨o2, a2, ho2⟩ : ∃ (o : OD), callF tab xt.sub (n + 10) "_law_ask" [.fro (.str "strange") none, .fro (dS t) none, .fro (.tup (l.map D.int)) none] = .ret (.frs o) [.non, .non, .non] ∧ o.toD = ansS t l := ask_strange_tup (n + 5) t l ht hlim hl
  obtain ⟨o3, a3, ho3⟩ : ∃ (o : OD), callF tab xt.sub (n + 10) "_law_ask" [.fro (.str "recast") none, .fro (dS t) none, .own (dicT P) none] = .ret (.frs o) [.non, .non, .own (dicT P) none] ∧ o.toD = ansR t P := ask_recast (n + 5) t P ht hlen hP hn hPl
  obtain ⟨o4, a4, ho4⟩ : ∃ o : OD, callF tab xt.sub (n + 10) "_law_recast_due" [.fro (dS t) none, .fro (.lst (P.map tupD)) none] = .ret (.frs o) [.non, .non] ∧ o.toD = ansR t P := recast_due_eq (n + 8) t P ht hlen hP hPl
  have hde := deq_ints l
  have hdp := deq_pairs hP
  have hit := items_P P
  -- behind the first test
  have rest : ∀ (q1 q3 : Slot) (o : OD), (q1 = .own (plT l) (some 1) ∨ q1 = .fro (.lst (l.map D.int)) (some 1) ∨ q1 = .fro (.lst (l.map D.int)) none) → o.toD = ansS t l → ∀ q2 : Slot, (q2 = .own (prT P) (some 2) ∨ q2 = .fro (.lst (P.map tupD)) none) →
      ∃ s6 : Slot, PV.run ⟨callF tab xt.sub (n + 10), xt.sub⟩ (.seq (.ite (.not_ (.tru (.callR "_law_is" [.call "_law_ask" [.cst (.str "strange"), .var 0, .bi .tuple [.var 1]] [] [0, 1, 2], .var 4] [] [0, 1]))) (.ret (.cst (.bl false))) (.skip)) (.seq (.set 5 (.dic0)) (.seq (.for_ (.nm 6) .seq [.var 2] (.sub (.var 5) (.ix (.var 6) (.cst (.int 0))) (.ix (.var 6) (.cst (.int 1))))) (.seq (.set 7 (.call "_law_ask" [.cst (.str "recast"), .var 0, .var 5] [] [0, 1, 2])) (.seq (.ite (.not_ (.tru (.callR "_law_is" [.var 7, .call "_law_recast_due" [.var 0, .var 2] [] [0, 1]] [] [0, 1]))) (.ret (.cst (.bl false))) (.skip)) (.ret (.cmp .eq (.items (.var 5)) (.var 2)))))))) [.fro (dS t) none, q1, q2, q3, .own o none, .non, .non, .non] =
        .rt (.val (.bl true)) [.fro (dS t) none, q1, (match q2 with | .own _ _ => .fro (.lst (P.map tupD)) (some 2) | _ => .fro (.lst (P.map tupD)) none), q3, .own o none, .own (dicT P) none, s6, .own o3 none] := by
    intro q1 q3 o hq1 ho q2 hq2
    have e : ∀ q : Slot, ∃ s6' : Slot, forGo (turnS ⟨callF tab xt.sub (n + 10), xt.sub⟩ (.nm 6) (.sub (.var 5) (.ix (.var 6) (.cst (.int 0))) (.ix (.var 6) (.cst (.int 1))))) (P.map tupD) [.fro (dS t) none, q1, q, q3, .own o none, .own (.dic [] []) none, .non, .non] = .nx [.fro (dS t) none, q1, q, q3, .own o none, .own (dicT P) none, s6', .non] :=
      fun q => dic_loop (C := ⟨callF tab xt.sub (n + 10), xt.sub⟩) hn hPl P [] .non rfl rfl
    have a3' := a3
    have a2' := a2
    have a4' := a4
    simp at a3' a2' a4'
    rcases hq2 with rfl | rfl
    · obtain ⟨s6, e⟩ := e (.fro (.lst (P.map tupD)) (some 2))
      refine ⟨s6, ?_⟩
      rcases hq1 with rfl | rfl | rfl
      · simp [a2', ho, ho2, iS, simple]
        rw [e]
        simp [a3', a4', ho3, ho4, iR, simple, hit, hdp]
      · simp [a2', ho, ho2, iS, simple]
        rw [e]
        simp [a3', a4', ho3, ho4, iR, simple, hit, hdp]
      · simp [a2', ho, ho2, iS, simple]
        rw [e]
        simp [a3', a4', ho3, ho4, iR, simple, hit, hdp]
    · obtain ⟨s6, e⟩ := e (.fro (.lst (P.map tupD)) none)
      refine ⟨s6, ?_⟩
      rcases hq1 with rfl | rfl | rfl
      · simp [a2', ho, ho2, iS, simple]
        rw [e]
        simp [a3', a4', ho3, ho4, iR, simple, hit, hdp]
      · simp [a2', ho, ho2, iS, simple]
        rw [e]
        simp [a3', a4', ho3, ho4, iR, simple, hit, hdp]
      · simp [a2', ho, ho2, iS, simple]
        rw [e]
        simp [a3', a4', ho3, ho4, iR, simple, hit, hdp]
  have front : ∀ q2 : Slot, ∃ (q1 q3 : Slot) (o : OD) (s1' : Slot), outL l s1 s1' ∧ (q1 = .own (plT l) (some 1) ∨ q1 = .fro (.lst (l.map D.int)) (some 1) ∨ q1 = .fro (.lst (l.map D.int)) none) ∧ o.toD = ansS t l ∧
      (∀ ss e, outs 1 (s1 :: ss) (q1 :: e) = s1' :: outs 2 ss e) ∧
      ∀ R : CS, PV.run ⟨callF tab xt.sub (n + 10), xt.sub⟩ (.seq (.set 3 (.bi .list [.var 1])) (.seq (.set 4 (.call "_law_strange_due" [.var 0, .var 1] [] [0, 1])) (.seq (.ite (.or_ (.not_ (.tru (.callR "_law_is" [.call "_law_ask" [.cst (.str "strange"), .var 0, .var 3] [] [0, 1, 2], .var 4] [] [0, 1]))) (.tru (.cmp .ne (.var 3) (.var 1)))) (.ret (.cst (.bl false))) (.skip)) R)))
        [.fro (dS t) none, pin1 s1, q2, .non, .non, .non, .non, .non] = PV.run ⟨callF tab xt.sub (n + 10), xt.sub⟩ R [.fro (dS t) none, q1, q2, q3, .own o none, .non, .non, .non] := by
    intro q2
    have a1' := a1
    simp at a1'
    rcases h1 with rfl | rfl
    · obtain ⟨s1', o, hk1, d1, ho⟩ : ∃ (s' : Slot) (o : OD), keptS l s' ∧ callF tab xt.sub (n + 10) "_law_strange_due" [.fro (dS t) none, .own (plT l) none] = .ret (.frs o) [.non, s'] ∧ o.toD = ansS t l := str_due_own (n + 8) t l ht hlen
      try simp at d1
      rcases hk1 with rfl | rfl
      · rcases hk3 with rfl | rfl
        · refine ⟨.own (plT l) (some 1), .own (plT l) none, o, .own (plT l) none, .inl rfl, .inl rfl, ho, fun ss e => by simp, fun R => ?_⟩
          try simp [plT] at a1' d1
          simp [plT, d1, a1', ho, ho1, iS, simple, hde]
        · refine ⟨.own (plT l) (some 1), .fro (.lst (l.map D.int)) none, o, .own (plT l) none, .inl rfl, .inl rfl, ho, fun ss e => by simp, fun R => ?_⟩
          try simp [plT] at a1' d1
          simp [plT, d1, a1', ho, ho1, iS, simple, hde]
      · rcases hk3 with rfl | rfl
        · refine ⟨.fro (.lst (l.map D.int)) (some 1), .own (plT l) none, o, .fro (.lst (l.map D.int)) none, .inr rfl, .inr (.inl rfl), ho, fun ss e => by simp, fun R => ?_⟩
          try simp [plT] at a1' d1
          simp [plT, d1, a1', ho, ho1, iS, simple, hde]
        · refine ⟨.fro (.lst (l.map D.int)) (some 1), .fro (.lst (l.map D.int)) none, o, .fro (.lst (l.map D.int)) none, .inr rfl, .inr (.inl rfl), ho, fun ss e => by simp, fun R => ?_⟩
          try simp [plT] at a1' d1
          simp [plT, d1, a1', ho, ho1, iS, simple, hde]
    · obtain ⟨o, d1, ho⟩ : ∃ (o : OD), callF tab xt.sub (n + 10) "_law_strange_due" [.fro (dS t) none, .fro (.lst (l.map D.int)) none] = .ret (.frs o) [.non, .non] ∧ o.toD = ansS t l := str_due_fro (n + 8) t l ht hlen
      try simp at d1
      rcases hk3 with rfl | rfl
      · refine ⟨.fro (.lst (l.map D.int)) none, .own (plT l) none, o, .non, rfl, .inr (.inr rfl), ho, fun ss e => by simp, fun R => ?_⟩
        try simp [plT] at a1' d1
        simp [plT, d1, a1', ho, ho1, iS, simple, hde]
      · refine ⟨.fro (.lst (l.map D.int)) none, .fro (.lst (l.map D.int)) none, o, .non, rfl, .inr (.inr rfl), ho, fun ss e => by simp, fun R => ?_⟩
        try simp [plT] at a1' d1
        simp [plT, d1, a1', ho, ho1, iS, simple, hde]
  have m1 : ∀ ss, marked 1 (s1 :: ss) = pin1 s1 :: marked 2 ss := by
    rcases h1 with rfl | rfl <;> (intro ss; simp)
  rcases h2 with rfl | rfl
  · obtain ⟨q1, q3, o, s1', hs1, hq1, ho, hout, hf⟩ := front (.own (prT P) (some 2))
    obtain ⟨s6, hr⟩ := rest q1 q3 o hq1 ho (.own (prT P) (some 2)) (.inl rfl)
    refine ⟨s1', _, hs1, rfl, ?_⟩
    have hrun := hf (.seq (.ite (.not_ (.tru (.callR "_law_is" [.call "_law_ask" [.cst (.str "strange"), .var 0, .bi .tuple [.var 1]] [] [0, 1, 2], .var 4] [] [0, 1]))) (.ret (.cst (.bl false))) (.skip)) (.seq (.set 5 (.dic0)) (.seq (.for_ (.nm 6) .seq [.var 2] (.sub (.var 5) (.ix (.var 6) (.cst (.int 0))) (.ix (.var 6) (.cst (.int 1))))) (.seq (.set 7 (.call "_law_ask" [.cst (.str "recast"), .var 0, .var 5] [] [0, 1, 2])) (.seq (.ite (.not_ (.tru (.callR "_law_is" [.var 7, .call "_law_recast_due" [.var 0, .var 2] [] [0, 1]] [] [0, 1]))) (.ret (.cst (.bl false))) (.skip)) (.ret (.cmp .eq (.items (.var 5)) (.var 2))))))))
    rw [hr] at hrun
    change PV.run _ c__law_moved_right _ = _ at hrun
    simp only [marked_fro, m1, marked_own, marked_nil]
    simp only [List.length_cons, List.length_nil, List.replicate, List.cons_append, List.nil_append, if_true, Nat.reduceAdd, Nat.reduceSub]
    rw [hrun]
    simp [hout]
  · obtain ⟨q1, q3, o, s1', hs1, hq1, ho, hout, hf⟩ := front (.fro (.lst (P.map tupD)) none)
    obtain ⟨s6, hr⟩ := rest q1 q3 o hq1 ho (.fro (.lst (P.map tupD)) none) (.inr rfl)
    refine ⟨s1', _, hs1, rfl, ?_⟩
    have hrun := hf (.seq (.ite (.not_ (.tru (.callR "_law_is" [.call "_law_ask" [.cst (.str "strange"), .var 0, .bi .tuple [.var 1]] [] [0, 1, 2], .var 4] [] [0, 1]))) (.ret (.cst (.bl false))) (.skip)) (.seq (.set 5 (.dic0)) (.seq (.for_ (.nm 6) .seq [.var 2] (.sub (.var 5) (.ix (.var 6) (.cst (.int 0))) (.ix (.var 6) (.cst (.int 1))))) (.seq (.set 7 (.call "_law_ask" [.cst (.str "recast"), .var 0, .var 5] [] [0, 1, 2])) (.seq (.ite (.not_ (.tru (.callR "_law_is" [.var 7, .call "_law_recast_due" [.var 0, .var 2] [] [0, 1]] [] [0, 1]))) (.ret (.cst (.bl false))) (.skip)) (.ret (.cmp .eq (.items (.var 5)) (.var 2))))))))
    rw [hr] at hrun
    change PV.run _ c__law_moved_right _ = _ at hrun
    simp only [marked_fro, m1, marked_own, marked_nil]
    simp only [List.length_cons, List.length_nil, List.replicate, List.cons_append, List.nil_append, if_true, Nat.reduceAdd, Nat.reduceSub]
    rw [hrun]
    simp [hout]
end LawK01
end

section
set_option linter.all false
set_option maxRecDepth 100000
set_option maxHeartbeats 4000000
namespace LawK01
open PV PS
open PySem (Str)
open SX (S)
/-! ### the pool -/
def ptree (p : List Nat) : OD := .lst ((p.map fun i : Nat => D.int i).map .fro)
def okQ (p : List Nat) : Prop := p ≠ [] ∧ p.length ≤ 100
def drv (p : List Nat) (m : Nat) : Nat := p.headD 0 % m
def drp (p : List Nat) (m : Nat) : List Nat := match p with
  | [] => []
  | x :: q => if x / m = 0 ∧ q ≠ [] then q else x / m :: q
theorem okQ_drp {p : List Nat} {m : Nat} (h : okQ p) : okQ (drp p m) := by
  obtain ⟨h1, h2⟩ := h
  cases p with
  | nil => exact (h1 rfl).elim
  | cons x q =>
    unfold drp
    dsimp only
    split
    · rename_i h3
      exact ⟨h3.2, by simp at h2; omega⟩
    · exact ⟨by simp, by simpa using h2⟩
theorem drv_lt {p : List Nat} {m : Nat} (h : 0 < m) : drv p m < m := Nat.mod_lt _ h
theorem law_draw_eq (n : Nat) (p : List Nat) (m : Nat) (hp : okQ p) (hm : 0 < m) (hm2 : m ≤ 100000) :
    callF tab xt.sub (n + 1) "_law_draw" [.own (ptree p) none, .fro (.int (m : Nat)) none] = .ret (.val (.int ((drv p m : Nat) : Int))) [.own (ptree (drp p m)) none, .non] := by
  rw [callF_succ, t__law_draw]
  obtain ⟨h1, h2⟩ := hp
  have hbig : m < BIG := big_of (Nat.le_trans hm2 (by unfold CAP; decide +kernel))
  cases p with
  | nil => exact (h1 rfl).elim
  | cons x q =>
    have e1 : ((x : Int) % (m : Int)) = ((x % m : Nat) : Int) := by simp
    have e2 : ((x : Int) / (m : Int)) = ((x / m : Nat) : Int) := by simp
    have hsub : ∀ (xs : List OD) (a v : OD), subF (.lst (a :: xs)) (.int 0) v = some (.lst (v :: xs)) := fun xs a v => by
      have := sub_lst (xs := a :: xs) (p := 0) (v := v)
      simpa using this
    by_cases h0 : x / m = 0
    · have h0i : ((x : Int) / (m : Int)) = 0 := by rw [e2, h0]; rfl
      cases q with
      | nil =>
        have hq : drp [x] m = [x / m] := by simp [drp]
        rw [hq]
        simp [c__law_draw, ptree, hm, hbig, hsub, drv, h0i, h0]
      | cons y q =>
        have hq : drp (x :: y :: q) m = y :: q := by simp [drp, h0]
        have hpop := muF_popAt (ys := .int 0 :: .int y :: q.map fun i : Nat => D.int i) (i := 0) (d := .int 0) rfl (by simp at h2 ⊢; omega)
        simp at hpop
        rw [hq]
        have i1 : (1 : Int) < ((q.length : Int) + 1 + 1) := by omega
        simp [c__law_draw, ptree, hm, hbig, hsub, drv, h0i, i1]
        rw [hpop]
        simp
    · have hq : drp (x :: q) m = x / m :: q := by simp [drp, h0]
      rw [hq]
      have h0i : ¬ ((x / m : Nat) : Int) = 0 := by omega
      simp only [Nat.div_eq_zero_iff] at h0
      simp [c__law_draw, ptree, hm, hbig, hsub, drv]
      have h0i' : ¬ ((x : Int) / (m : Int) = 0) := by rw [e2]; exact h0i
      simp [h0i']
/-! ### _law_letters -/
theorem lt_loop (n : Nat) : ∀ (ks : List Nat) (p left : List Nat) (s2 : Slot), okQ p → ks.length < left.length → okS left = true → left.length ≤ 6 → frS s2 = true →
    ∃ (p' left' : List Nat) (s2' : Slot), okQ p' ∧ okS left' = true ∧ left'.length ≤ 6 ∧
      forGo (turnS ⟨callF tab xt.sub (n + 1), xt.sub⟩ (.nm 2) (.expr (.mu .popAt (.var 1) [.call "_law_draw" [.var 0, .bi .len [.var 1]] [] [0, 1]]))) (ks.map fun i : Nat => D.int i) [.own (ptree p) (some 0), .own (.lst ((left.map fun c => dS [c]).map .fro)) none, s2] =
        .nx [.own (ptree p') (some 0), .own (.lst ((left'.map fun c => dS [c]).map .fro)) none, s2']
  | [], p, left, s2, hp, _, ho, hl, _ => ⟨p, left, s2, hp, ho, hl, by simp⟩
  | k :: ks, p, left, s2, hp, hk, ho, hl, h2 => by
    have h0 : 0 < left.length := by omega
    have hd := law_draw_eq n p left.length hp h0 (by omega)
    have hlt : drv p left.length < left.length := drv_lt h0
    obtain ⟨p', left', s2', a1, a2, a3, e⟩ := lt_loop n ks (drp p left.length) (left.eraseIdx (drv p left.length)) (.fro (.int k) none) (okQ_drp hp) (by
      rw [List.length_eraseIdx_of_lt hlt]; simp at hk; omega) (okS_mem.mpr fun c hc => okS_mem.mp ho c (List.mem_of_mem_eraseIdx hc)) (by rw [List.length_eraseIdx_of_lt hlt]; omega) rfl
    refine ⟨p', left', s2', a1, a2, a3, ?_⟩
    have hpop := muF_popAt (ys := left.map fun c => dS [c]) (i := drv p left.length) (d := dS [left[drv p left.length]]) (by simp [hlt]) (by simp; omega)
    have hme : ∀ (l : List Nat) (i : Nat), (l.map fun c => dS [c]).eraseIdx i = (l.eraseIdx i).map fun c => dS [c] := by
      intro l
      induction l with
      | nil => intro i; rfl
      | cons y ys ih => intro i; cases i with
        | zero => rfl
        | succ i => simp [ih]
    rw [hme] at hpop
    rw [List.map_cons, forGo_cons, turnS_eq]
    simp at hpop e
    simp [h2, hd, hpop]
    exact e
theorem letters_eq (n : Nat) (p : List Nat) (hp : okQ p) :
    ∃ (p' ls : List Nat), okQ p' ∧ okS ls = true ∧ ls.length ≤ 6 ∧ callF tab xt.sub (n + 2) "_law_letters" [.own (ptree p) none] = .ret (.val (dS ls)) [.own (ptree p') none] := by
  rw [callF_succ, t__law_letters]
  have hd := law_draw_eq n p 6 hp (by decide) (by decide)
  have hlt : drv p 6 < 6 := drv_lt (by decide)
  obtain ⟨p', ls, s2, a1, a2, a3, e⟩ := lt_loop n (List.range (drv p 6)) (drp p 6) AF .non (okQ_drp hp) (by simpa using hlt) ok_AF (by decide) rfl
  refine ⟨p', ls, a1, a2, a3, ?_⟩
  have h6 : drv p 6 < LIM := by rw [LIM_m]; omega
  have hll : ls.length ≤ LIM := by rw [LIM_m]; omega
  simp at hd e
  simp [c__law_letters, l6, hd, h6]
  rw [e]
  simp [hll]
/-! ### signs drawn in a comprehension -/
theorem lcGo_cons {own : List Nat} {t : D → Env → Out (Option D)} {d : D} {ds acc : List D} {e e' : Env} {y : D} (h : t d (clearS e own) = .ok (some y) e') (hl : acc.length < LIM) : lcGo own t (d :: ds) acc e = lcGo own t ds (acc ++ [y]) e' := by
  rw [lcGo, h]
  exact if_pos hl
theorem draw_lc {own : List Nat} {turn : D → Env → Out (Option D)} {E : List Nat → Env} (step : ∀ p d, okQ p → ∃ (p' : List Nat) (c : Nat) (e' : Env), okQ p' ∧ c < 1114112 ∧ turn d (E p) = .ok (some (dS [c])) e' ∧ clearS e' own = E p') :
    ∀ (items : List D) (acc : List Nat) (e : Env) (p : List Nat), okQ p → clearS e own = E p → okS acc = true → acc.length + items.length ≤ 1000 →
      ∃ (p' out : List Nat), okQ p' ∧ okS out = true ∧ out.length = acc.length + items.length ∧ lcGo own turn items (acc.map fun c => dS [c]) e = .ok (out.map fun c => dS [c]) (E p')
  | [], acc, e, p, hp, he, ha, hl => ⟨p, acc, hp, ha, by simp, by simp [he]⟩
  | d :: items, acc, e, p, hp, he, ha, hl => by
    obtain ⟨p', c, e', h1, h2, h3, h4⟩ := step p d hp
    obtain ⟨p2, out, h5, h6, h7, h8⟩ := draw_lc step items (acc ++ [c]) e' p' h1 h4 (by rw [okS_append, ha]; simp [h2]) (by simp at hl ⊢; omega)
    refine ⟨p2, out, h5, h6, by rw [h7]; simp; omega, ?_⟩
    have hal : (acc.map fun c => dS [c]).length < LIM := by rw [LIM_m]; simp at hl ⊢; omega
    rw [lcGo_cons (by rw [he]; exact h3) hal]
    rw [List.map_append] at h8
    exact h8
def TXT : List Nat := [97, 98, 99, 100, 101, 102, 122, 63, 63, 63, 63, 63]
@[simp] theorem k_TXT : Str.ofString "abcdefz?????" = S TXT := by decide +kernel
theorem TXT_len : TXT.length = 12 := rfl
theorem pick_ok {T : List Nat} {i : Nat} (hT : okS T = true) (hi : i < T.length) : ∃ c, T[i]? = some c ∧ c < 1114112 :=
  ⟨T[i], List.getElem?_eq_getElem hi, okS_mem.mp hT _ (List.getElem_mem hi)⟩
theorem text_eq (n : Nat) (p : List Nat) (hp : okQ p) :
    ∃ (p' t : List Nat), okQ p' ∧ okS t = true ∧ t.length ≤ 12 ∧ callF tab xt.sub (n + 2) "_law_text" [.own (ptree p) none] = .ret (.val (dS t)) [.own (ptree p') none] := by
  rw [callF_succ, t__law_text]
  have hd := law_draw_eq n p 13 hp (by decide) (by decide)
  have hlt : drv p 13 < 13 := drv_lt (by decide)
  have l12 : TXT.length ≤ LIM := by rw [LIM_m, TXT_len]; decide
  obtain ⟨p', t, h1, h2, h3, h4⟩ := draw_lc (own := [2]) (turn := turnL ⟨callF tab xt.sub (n + 1), xt.sub⟩ 3 (.nm 2) [] (.ix (.cst (.str "abcdefz?????")) (.call "_law_draw" [.var 0, .cst (.int 12)] [] [0, 1])))
    (E := fun p2 => [.own (ptree p2) (some 0), .fro (.int (drv p 13 : Nat)) none, .non]) (fun p2 d hp2 => by
      have hd2 := law_draw_eq n p2 12 hp2 (by decide) (by decide)
      obtain ⟨c, hc, hc2⟩ := pick_ok (T := TXT) (i := drv p2 12) (by decide) (drv_lt (by decide))
      refine ⟨drp p2 12, c, [.own (ptree (drp p2 12)) (some 0), .fro (.int (drv p 13 : Nat)) none, .fro d none], okQ_drp hp2, hc2, ?_, by simp⟩
      simp at hd2
      simp [turnL_eq, hd2, l12, hc]) ((List.range (drv p 13)).map fun i : Nat => D.int i) [] [.own (ptree (drp p 13)) (some 0), .fro (.int (drv p 13 : Nat)) none, .non] (drp p 13) (okQ_drp hp) (by simp) rfl (by simp; omega)
  refine ⟨p', t, h1, h2, by simp at h3; omega, ?_⟩
  have h6 : drv p 13 < LIM := by rw [LIM_m]; omega
  have hll : t.length ≤ LIM := by rw [LIM_m]; simp at h3; omega
  simp at hd h4
  simp [c__law_text, hd, h6]
  rw [h4]
  simp [hll]
end LawK01
end

section
set_option linter.all false
set_option maxRecDepth 100000
set_option maxHeartbeats 4000000
namespace LawK01
open PV PS
open PySem (Str)
open SX (S)
/-! ### _law_odd -/
def SG1 : List Nat := [32, 33, 34, 35, 36, 38, 39, 40, 41, 42, 43, 44, 45, 46, 47, 48, 49, 50, 51, 52, 53, 54, 55, 56, 57, 58, 59, 60, 61, 62, 63, 64, 65, 66, 67, 68, 69, 70, 71, 72, 73, 74, 75, 76, 77, 78, 79, 80, 81, 82, 83, 84, 85, 86, 87, 88, 89, 90, 91, 92, 93, 94, 95, 96]
def SG2 : List Nat := [97, 98, 99, 100, 101, 102, 103, 104, 105, 106, 107, 108, 109, 110, 111, 112, 113, 114, 115, 116, 117, 118, 119, 120, 121, 122, 123, 124, 125, 126, 10]
@[simp] theorem k_SG1 : Str.ofString " !\"#$&'()*+,-./0123456789:;<=>?@ABCDEFGHIJKLMNOPQRSTUVWXYZ[\\]^_`" = S SG1 := by decide +kernel
@[simp] theorem k_SG2 : Str.ofString "abcdefghijklmnopqrstuvwxyz{|}~\n" = S SG2 := by decide +kernel
@[simp] theorem k_azq : Str.ofString "az?" = S [97, 122, 63] := by decide +kernel
theorem SG_len : (SG1 ++ SG2).length = 95 := by decide
theorem SG_l1 : SG1.length = 64 := by decide
theorem SG_l2 : SG2.length = 31 := by decide
theorem SG_ok : okS (SG1 ++ SG2) = true := by decide
theorem mul_q13 : bop .mul (dS [63]) (.int 13) = some (.at_ (.val (dS (List.replicate 13 63)))) := by
  have := mul_S (l := [63]) (k := 13)
  simpa using this
theorem sl_lo2 {l : List Nat} {i j : Nat} (h : l.length ≤ LIM) : slD (dS l) (some ((i : Int) + (j : Int))) none = some (.at_ (.val (dS (l.drop (i + j))))) := by
  rw [show (i : Int) + (j : Int) = ((i + j : Nat) : Int) by omega, sl_lo, if_pos h]
theorem tail_ok (i : Nat) (h : i < 4) : ∃ x, okS x = true ∧ x.length ≤ 13 ∧ [dS [], dS [], dS [97, 122, 63], dS (List.replicate 13 63)][i]? = some (dS x) := by
  rcases i with _ | _ | _ | _ | i
  · exact ⟨[], by decide, by decide, rfl⟩
  · exact ⟨[], by decide, by decide, rfl⟩
  · exact ⟨[97, 122, 63], by decide, by decide, rfl⟩
  · exact ⟨List.replicate 13 63, by decide, by decide, rfl⟩
  · omega
theorem odd_eq (n : Nat) (p t : List Nat) (hp : okQ p) (ht : okS t = true) (hlen : t.length ≤ 100) :
    ∃ (p' u : List Nat), okQ p' ∧ okS u = true ∧ u.length ≤ 300 ∧ callF tab xt.sub (n + 2) "_law_odd" [.own (ptree p) none, .fro (dS t) none] = .ret (.val (dS u)) [.own (ptree p') none, .non] := by
  rw [callF_succ, t__law_odd]
  have hlim : t.length ≤ LIM := by rw [LIM_m]; omega
  have d1 := law_draw_eq n p 95 hp (by decide) (by decide)
  have p1 := okQ_drp (m := 95) hp
  obtain ⟨c, hc, hc2⟩ := pick_ok (T := SG1 ++ SG2) (i := drv p 95) SG_ok (by rw [SG_len]; exact drv_lt (by decide))
  generalize drv p 95 = v1 at d1 hc
  generalize drp p 95 = q1 at d1 p1
  have d2 := law_draw_eq n q1 (t.length + 1) p1 (by omega) (by omega)
  have p2 := okQ_drp (m := t.length + 1) p1
  generalize drv q1 (t.length + 1) = v2 at d2
  generalize drp q1 (t.length + 1) = q2 at d2 p2
  have d3 := law_draw_eq n q2 2 p2 (by decide) (by decide)
  have p3 := okQ_drp (m := 2) p2
  generalize drv q2 2 = v3 at d3
  generalize drp q2 2 = q3 at d3 p3
  have d4 := law_draw_eq n q3 4 p3 (by decide) (by decide)
  have p4 := okQ_drp (m := 4) p3
  obtain ⟨x, hx1, hx2, hx3⟩ := tail_ok (drv q3 4) (drv_lt (by decide))
  generalize drv q3 4 = v4 at d4 hx3
  generalize drp q3 4 = q4 at d4 p4
  have hsg : SG1.length + SG2.length ≤ LIM := by rw [LIM_m, SG_l1, SG_l2]; decide
  have t1 : (t.take v2).length ≤ 100 := by simp; omega
  have t2 : (t.drop (v2 + v3)).length ≤ 100 := by simp; omega
  have ot1 : okS (t.take v2) = true := okS_mem.mpr fun c hc => okS_mem.mp ht c (List.mem_of_mem_take hc)
  have ot2 : okS (t.drop (v2 + v3)) = true := okS_mem.mpr fun c hc => okS_mem.mp ht c (List.mem_of_mem_drop hc)
  refine ⟨q4, t.take v2 ++ [c] ++ t.drop (v2 + v3) ++ x, p4, by simp [okS_append, ot1, ot2, hx1, hc2], by simp only [List.length_append, List.length_singleton]; omega, ?_⟩
  have hs := sl_lo2 (i := v2) (j := v3) hlim
  have b1 : (t.take v2).length + 1 ≤ LIM := by rw [LIM_m]; omega
  have b2 : (t.take v2 ++ [c]).length + (t.drop (v2 + v3)).length ≤ LIM := by rw [LIM_m]; simp only [List.length_append, List.length_singleton]; omega
  have b3 : (t.take v2 ++ [c] ++ t.drop (v2 + v3)).length + x.length ≤ LIM := by rw [LIM_m]; simp only [List.length_append, List.length_singleton]; omega
  have hsl : slD (dS t) none (some (v2 : Int)) = some (.at_ (.val (dS (t.take v2)))) := by rw [sl_hi, if_pos hlim]
  have c1 := add_S (a := t.take v2) (b := [c])
  rw [if_pos (by simpa using b1)] at c1
  have c2 := add_S (a := t.take v2 ++ [c]) (b := t.drop (v2 + v3))
  rw [if_pos b2] at c2
  have c3 := add_S (a := t.take v2 ++ [c] ++ t.drop (v2 + v3)) (b := x)
  rw [if_pos b3] at c3
  have gg : ((SG1 ++ SG2)[v1]?.map fun c => dS [c]) = some (dS [c]) := by rw [hc]; rfl
  generalize hA : t.take v2 = A at hsl c1 c2 c3 ⊢
  generalize hB : t.drop (v2 + v3) = B at hs c2 c3 ⊢
  generalize hX1 : A ++ [c] = X1 at c1 c2 c3 ⊢
  generalize hX2 : X1 ++ B = X2 at c2 c3 ⊢
  generalize hX3 : X2 ++ x = X3 at c3 ⊢
  have hix : ixD (dS (SG1 ++ SG2)) (.int (v1 : Int)) = some (dS [c]) := by
    rw [ix_S, if_pos (by rw [List.length_append]; exact hsg), gg]
  have hix2 : ixD (.lst [dS [], dS [], dS [97, 122, 63], dS (List.replicate 13 63)]) (.int (v4 : Int)) = some (dS x) := by
    rw [ix_lst]; exact hx3
  clear hX1 hX2 hX3 hA hB b1 b2 b3 gg hx3 hc
  have hadd := add_S (a := SG1) (b := SG2)
  rw [if_pos hsg] at hadd
  have hmul := mul_q13
  generalize SG1 ++ SG2 = SG at hix hadd
  generalize List.replicate 13 63 = RR at hix2 hmul
  simp at d1 d2 d3 d4
  simp [c__law_odd, -add_S, -mul_S, -ix_S, -ix_lst, -sl_hi, hadd, hmul, hix, hix2, d1, d2, d3, d4, hs, hsl, c1, c2, c3, hlim, l4]
end LawK01
end

section
set_option linter.all false
set_option maxRecDepth 100000
set_option maxHeartbeats 4000000
namespace LawK01
open PV PS
open PySem (Str)
open SX (S)
/-! ### _law_places -/
def smallI (l : List Int) : Prop := ∀ p ∈ l, p.natAbs ≤ 10 ^ 12
theorem max_n (m : Nat) : biF .max2 [.int 1, .int (m : Int)] = some (.at_ (.val (.int ((if 1 < m then m else 1 : Nat) : Int)))) := by
  rw [max_int]
  by_cases h : 1 < m
  · rw [if_pos h, if_pos (by omega)]
  · rw [if_neg h, if_neg (by omega)]; rfl
theorem pl_loop (n : Nat) {t : List Nat} (hlen : t.length ≤ 1000) {s4 : Slot} : ∀ (ks : List Nat) (p : List Nat) (l : List Int) (s3 : Slot), okQ p → smallI l → l.length + ks.length ≤ 1000 → frS s3 = true →
    ∃ (p' : List Nat) (l' : List Int) (s3' : Slot), okQ p' ∧ smallI l' ∧ l'.length = l.length + ks.length ∧
      forGo (turnS ⟨callF tab xt.sub (n + 1), xt.sub⟩ (.nm 3) (.expr (.mu .append (.var 2) [.call "_law_draw" [.var 0, .bi .max2 [.cst (.int 1), .bi .len [.var 1]]] [] [0, 1]]))) (ks.map fun i : Nat => D.int i) [.own (ptree p) (some 0), .fro (dS t) none, .own (.lst ((l.map D.int).map .fro)) none, s3, s4] =
        .nx [.own (ptree p') (some 0), .fro (dS t) none, .own (.lst ((l'.map D.int).map .fro)) none, s3', s4]
  | [], p, l, s3, hp, hl, _, _ => ⟨p, l, s3, hp, hl, rfl, by simp⟩
  | k :: ks, p, l, s3, hp, hl, hb, h3 => by
    have hlim : t.length ≤ LIM := by rw [LIM_m]; omega
    have hmx := max_n t.length
    have hM : 0 < (if 1 < t.length then t.length else 1) ∧ (if 1 < t.length then t.length else 1) ≤ 1000 := by split <;> omega
    generalize (if 1 < t.length then t.length else 1) = M at hmx hM
    have hd := law_draw_eq n p M hp hM.1 (by omega)
    have hlt : drv p M < M := drv_lt hM.1
    have hq := okQ_drp (m := M) hp
    generalize drv p M = v at hd hlt
    generalize drp p M = q at hd hq
    obtain ⟨p', l', s3', a1, a2, a3, e⟩ := pl_loop n hlen (s4 := s4) ks q (l ++ [(v : Int)]) (.fro (.int k) none) hq (fun x hx => by
      rcases List.mem_append.mp hx with hx | hx
      · exact hl x hx
      · rw [List.mem_singleton.mp hx, Int.natAbs_natCast]; omega) (by simp at hb ⊢; omega) rfl
    refine ⟨p', l', s3', a1, a2, by rw [a3]; simp; omega, ?_⟩
    have hll : l.length < LIM := by rw [LIM_m]; simp at hb; omega
    rw [List.map_cons, forGo_cons, turnS_eq]
    simp at e
    simp [-max_int, h3, hlim, hmx, hd, hll]
    exact e
theorem pow1011 : bop .pow (.int 10) (.int 11) = some (.at_ (.val (.int 100000000000))) := by
  rw [pow_int, if_pos ⟨by decide, .inl (by decide)⟩]
  rfl
theorem wrong_ok (m i : Nat) (hm : m ≤ 1000) (h : i < 6) : ∃ w : Int, w.natAbs ≤ 10 ^ 12 ∧ [D.int (-1), .int (m : Int), .int 13, .int 100000000000, .int (-12), .int 12][i]? = some (.int w) := by
  rcases i with _ | _ | _ | _ | _ | _ | i
  · exact ⟨_, by decide, rfl⟩
  · exact ⟨_, by rw [Int.natAbs_natCast]; omega, rfl⟩
  · exact ⟨_, by decide, rfl⟩
  · exact ⟨_, by decide, rfl⟩
  · exact ⟨_, by decide, rfl⟩
  · exact ⟨_, by decide, rfl⟩
  · omega
theorem places_eq (n : Nat) (p t : List Nat) (hp : okQ p) (hlen : t.length ≤ 1000) :
    ∃ (p' : List Nat) (l : List Int), okQ p' ∧ smallI l ∧ l.length ≤ 100 ∧ callF tab xt.sub (n + 2) "_law_places" [.own (ptree p) none, .fro (dS t) none] = .ret (.frs (plT l)) [.own (ptree p') none, .non] := by
  rw [callF_succ, t__law_places]
  have hlim : t.length ≤ LIM := by rw [LIM_m]; omega
  have d1 := law_draw_eq n p 5 hp (by decide) (by decide)
  have p1 := okQ_drp (m := 5) hp
  have v1 : drv p 5 < 5 := drv_lt (by decide)
  generalize drv p 5 = k at d1 v1
  generalize drp p 5 = q1 at d1 p1
  have hk : k < LIM := by rw [LIM_m]; omega
  obtain ⟨q2, l, s3, p2, hl, hll, e⟩ := pl_loop n hlen (s4 := .non) (List.range k) q1 [] .non p1 (fun x hx => by cases hx) (by simp; omega) rfl
  have hll2 : l.length ≤ 4 := by simp at hll; omega
  have d2 := law_draw_eq n q2 6 p2 (by decide) (by decide)
  have p3 := okQ_drp (m := 6) p2
  obtain ⟨w, hw, hw2⟩ := wrong_ok t.length (drv q2 6) hlen (drv_lt (by decide))
  generalize drv q2 6 = v2 at d2 hw2
  generalize drp q2 6 = q3 at d2 p3
  have d3 := law_draw_eq n q3 2 p3 (by decide) (by decide)
  have p4 := okQ_drp (m := 2) p3
  generalize drv q3 2 = v3 at d3
  generalize drp q3 2 = q4 at d3 p4
  have hix : ixD (.lst [D.int (-1), .int (t.length : Int), .int 13, .int 100000000000, .int (-12), .int 12]) (.int (v2 : Int)) = some (.int w) := by rw [ix_lst]; exact hw2
  by_cases h1 : v3 = 1
  · have d4 := law_draw_eq n q4 (l.length + 1) p4 (by omega) (by omega)
    have p5 := okQ_drp (m := l.length + 1) p4
    have v4 : drv q4 (l.length + 1) < l.length + 1 := drv_lt (by omega)
    generalize drv q4 (l.length + 1) = i at d4 v4
    generalize drp q4 (l.length + 1) = q5 at d4 p5
    refine ⟨q5, l.take i ++ w :: l.drop i, p5, ?_, by simp; omega, ?_⟩
    · intro x hx
      rcases List.mem_append.mp hx with hx | hx
      · exact hl x (List.mem_of_mem_take hx)
      · rcases List.mem_cons.mp hx with rfl | hx
        · exact hw
        · exact hl x (List.mem_of_mem_drop hx)
    · have hmu : muF .insert (.lst (l.map (OD.fro ∘ D.int))) [.fro (.int (i : Int)), .fro (.int w)] = some (.at_ (.val .non), .lst ((l.take i ++ w :: l.drop i).map (OD.fro ∘ D.int))) := by
        rw [muF_insert, if_pos ⟨by rw [LIM_m]; simp; omega, by simp; omega⟩]
        simp [List.map_take, List.map_drop]
      subst h1
      simp at d1 d2 d3 d4 e
      generalize l.take i ++ w :: l.drop i = l2 at hmu ⊢
      simp [c__law_places, -max_int, -ix_lst, d1, hk]
      rw [e]
      simp [-max_int, -ix_lst, hlim, pow1011, l6, d2, d3, d4, hix, -muF_insert, hmu]
  · have h1i : ¬ ((v3 : Int) = 1) := by omega
    refine ⟨q4, l, p4, hl, by omega, ?_⟩
    simp at d1 d2 d3 e
    simp [c__law_places, -max_int, -ix_lst, d1, hk]
    rw [e]
    simp [-max_int, -ix_lst, hlim, pow1011, l6, d2, d3, hix, h1i, h1]
/-! ### _law_pool -/
@[irreducible] def B60 : Nat := 10 ^ 60
theorem B60_pos : 0 < B60 := by unfold B60; decide +kernel
theorem pow1060 : bop .pow (.int 10) (.int 60) = some (.at_ (.val (.int (B60 : Nat)))) := by
  rw [pow_int, if_pos ⟨by decide, .inl (by decide)⟩]
  unfold B60
  congr 4
@[irreducible] def SPARE : Nat := 27182818284590452353602874713526624977572470936999595749669676277240766303535475945713821785
theorem spare_int : (27182818284590452353602874713526624977572470936999595749669676277240766303535475945713821785 : Int) = (SPARE : Nat) := by unfold SPARE; rfl
theorem spare_b : SPARE < BIG := by
  unfold SPARE BIG
  exact Nat.lt_of_lt_of_le (by decide +kernel : _ < 2 ^ 400) (Nat.pow_le_pow_right (by decide) (by decide))
theorem spare_2 : 2 ≤ SPARE := by unfold SPARE; decide +kernel
theorem pow_spare : bop .pow (.int (SPARE : Nat)) (.int 3) = some (.at_ (.val (.int ((SPARE ^ 3 : Nat) : Int)))) := by
  rw [pow_int, if_pos ⟨by decide, .inr ⟨by have := spare_2; omega, by decide, by rw [Int.natAbs_natCast]; exact spare_b⟩⟩]
  simp
theorem abs_n (i : Int) : biF .abs [.int i] = some (.at_ (.val (.int (i.natAbs : Nat)))) := by
  rw [abs_int]
  congr 4
  split <;> omega
theorem sum_n (L : List Nat) : biF .sum [.lst (L.map fun i : Nat => D.int i)] = some (.at_ (.val (.int ((L.sum : Nat) : Int)))) := by
  have := sum_int (bs := L.map fun i : Nat => (i : Int))
  rw [List.map_map] at this
  rw [show (fun i : Nat => D.int i) = D.int ∘ fun i : Nat => (i : Int) from rfl, this]
  congr 4
  induction L with
  | nil => rfl
  | cons x L ih =>
    have h2 := sum_int (bs := L.map fun i : Nat => (i : Int))
    rw [List.map_map] at h2
    simp [ih h2]
theorem sum_le {b : Nat} : ∀ L : List Nat, (∀ x ∈ L, x ≤ b) → L.sum ≤ L.length * b
  | [], _ => by simp
  | x :: L, h => by
    have := sum_le L fun y hy => h y (List.mem_cons_of_mem _ hy)
    have h0 := h x List.mem_cons_self
    rw [List.sum_cons, List.length_cons, Nat.succ_mul]
    omega
theorem pool_eq (n : Nat) (ns : List Int) (hns : ns.length ≤ 63) :
    ∃ p, okQ p ∧ callF tab xt.sub (n + 1) "_law_pool" [.fro (.lst (ns.map D.int)) none] = .ret (.frs (ptree p)) [.non] := by
  rw [callF_succ, t__law_pool]
  have hlim : ns.length ≤ LIM := by rw [LIM_m]; omega
  have hb0 : (0 : Int) < (B60 : Int) := by have := B60_pos; omega
  have hm := lcGo_mapG (own := [3]) (t := turnL ⟨callF tab xt.sub n, xt.sub⟩ 4 (.nm 3) [] (.bin .mod (.bi .abs [.var 3]) (.bin .pow (.cst (.int 10)) (.cst (.int 60))))) (e0 := [.fro (.lst (ns.map D.int)) none, .non, .non, .non])
    (g := fun i : Int => D.int i) (h := fun i => some (D.int ((i.natAbs % B60 : Nat) : Int))) ns [] [.fro (.lst (ns.map D.int)) none, .non, .non, .non] (by simp) (fun i hi => by
      exact ⟨[.fro (.lst (ns.map D.int)) none, .non, .non, .fro (.int i) none], by simp [turnL_eq, -abs_int, abs_n, pow1060, hb0, B60_pos]⟩) (by simpa using hlim)
  rw [List.nil_append, show (fun i : Int => some (D.int ((i.natAbs % B60 : Nat) : Int))) = some ∘ (fun j : Nat => D.int j) ∘ fun i : Int => i.natAbs % B60 from rfl, List.filterMap_eq_map, ← List.map_map] at hm
  have hL1 : (ns.map fun i : Int => i.natAbs % B60).length ≤ 63 := by simpa using hns
  have hL2 : ∀ x ∈ (ns.map fun i : Int => i.natAbs % B60), x ≤ B60 := fun x hx => by
    obtain ⟨i, _, rfl⟩ := List.mem_map.mp hx
    exact Nat.le_of_lt (Nat.mod_lt _ B60_pos)
  generalize (ns.map fun i : Int => i.natAbs % B60) = L at hm hL1 hL2
  have hs := sum_le L hL2
  have hs2 : L.sum < BIG := by
    refine Nat.lt_of_le_of_lt (Nat.le_trans hs (Nat.mul_le_mul_right _ hL1)) ?_
    unfold B60 BIG
    exact Nat.lt_of_lt_of_le (by decide +kernel : _ < 2 ^ 400) (Nat.pow_le_pow_right (by decide) (by decide))
  have h1009 : 1009 < BIG := big_of (by unfold CAP; decide +kernel)
  have hsum := sum_n L
  have hmul : bop .mul (.int 1009) (.int ((L.sum : Nat) : Int)) = some (.at_ (.val (.int ((1009 * L.sum : Nat) : Int)))) := by
    rw [mul_int, if_pos ⟨h1009, by rw [Int.natAbs_natCast]; exact hs2⟩]
    simp
  generalize L.sum = sm at hsum hmul
  have hadd : bop .add (.int ((SPARE ^ 3 : Nat) : Int)) (.int ((1009 * sm : Nat) : Int)) = some (.at_ (.val (.int ((SPARE ^ 3 + 1009 * sm : Nat) : Int)))) := by
    rw [add_int]; congr 4
  have hps := pow_spare
  generalize SPARE ^ 3 = s3 at hps hadd
  generalize 1009 * sm = m3 at hmul hadd
  refine ⟨L ++ [s3 + m3], ⟨by simp, by simp; omega⟩, ?_⟩
  have hll : L.length + 1 ≤ LIM := by rw [LIM_m]; omega
  have hcut : slD (.lst (ns.map D.int)) none (some 63) = some (.frs (.lst ((ns.map D.int).map .fro))) := by
    show some (Res.frs (.lst ((cutD (ns.map D.int) none (some 63)).map .fro))) = _
    unfold cutD
    rw [HT.sIx_none, show (63 : Int) = ((63 : Nat) : Int) from rfl, HT.sIx_nat, List.drop_zero, Nat.sub_zero, List.take_of_length_le (by simp; omega)]
  have hFl : flats (L.map fun i : Nat => OD.fro (D.int i)) = some (L.map fun i : Nat => D.int i) := flats_comp (fun i : Nat => D.int i) L
  rw [show (L.map fun j : Nat => D.int j) = L.map fun i : Nat => D.int i from rfl] at hm
  generalize hq : s3 + m3 = z at hadd ⊢
  simp at hm hcut
  simp [c__law_pool, hcut]
  rw [hm]
  simp
  try simp only [spare_int]
  simp [-sum_int, -mul_int, -add_int, hsum, hps, hmul, hadd, hll, l1, ptree]
end LawK01
end

section
set_option linter.all false
set_option maxRecDepth 100000
set_option maxHeartbeats 4000000
namespace LawK01
open PV PS
open PySem (Str)
open SX (S)
/-! ### _law_pairs -/
@[simp] theorem k_ab : Str.ofString "ab" = S [97, 98] := by decide +kernel
@[simp] theorem k_A : Str.ofString "A" = S [65] := by decide +kernel
abbrev chT (l : List Nat) : OD := .lst ((l.map fun c => dS [c]).map .fro)
theorem erase_chr : ∀ (l : List Nat) (i : Nat), (l.map fun c => dS [c]).eraseIdx i = (l.eraseIdx i).map fun c => dS [c] := by
  intro l
  induction l with
  | nil => intro i; rfl
  | cons y ys ih => intro i; cases i with
    | zero => rfl
    | succ i => simp [ih]
theorem pop_chr {l : List Nat} {i : Nat} (hi : i < l.length) (hl : l.length ≤ 100) : muF .popAt (.lst (l.map (OD.fro ∘ fun c => dS [c]))) [.fro (.int (i : Int))] = some (.at_ (.val (dS [l[i]])), .lst ((l.eraseIdx i).map (OD.fro ∘ fun c => dS [c]))) := by
  have hpop := muF_popAt (ys := l.map fun c => dS [c]) (i := i) (d := dS [l[i]]) (by simp [hi]) (by simp; omega)
  rw [erase_chr, List.map_map, List.map_map] at hpop
  exact hpop
theorem er_perm : ∀ (l : List Nat) (i : Nat) (hi : i < l.length), (l[i] :: l.eraseIdx i).Perm l
  | x :: l, 0, _ => List.Perm.refl _
  | x :: l, i + 1, hi => by
    have hi' : i < l.length := by simpa using hi
    have ih := er_perm l i hi'
    show (l[i] :: x :: l.eraseIdx i).Perm (x :: l)
    exact (List.Perm.swap _ _ _).trans (ih.cons x)
theorem nd_step {ks left : List Nat} {i : Nat} (hi : i < left.length) (h : (ks ++ left).Nodup) : ((ks ++ [left[i]]) ++ left.eraseIdx i).Nodup := by
  have hp := er_perm left i hi
  rw [List.append_assoc, List.singleton_append]
  exact (List.Perm.append_left ks hp).nodup_iff.mpr h
theorem keys_loop (n : Nat) {s4 s5 s6 s7 s8 s9 : Slot} : ∀ (is : List Nat) (p keys left : List Nat) (s3 : Slot), okQ p → is.length < left.length → (keys ++ left).Nodup → (∀ c ∈ keys ++ left, c ∈ AF) → left.length + keys.length ≤ 6 → frS s3 = true →
    ∃ (p' keys' left' : List Nat) (s3' : Slot), okQ p' ∧ 0 < left'.length ∧ (keys' ++ left').Nodup ∧ (∀ c ∈ keys' ++ left', c ∈ AF) ∧ left'.length + keys'.length ≤ 6 ∧
      forGo (turnS ⟨callF tab xt.sub (n + 1), xt.sub⟩ (.nm 3) (.expr (.mu .append (.var 2) [.mu .popAt (.var 1) [.call "_law_draw" [.var 0, .bi .len [.var 1]] [] [0, 1]]]))) (is.map fun i : Nat => D.int i) [.own (ptree p) (some 0), .own (chT left) none, .own (chT keys) none, s3, s4, s5, s6, s7, s8, s9] =
        .nx [.own (ptree p') (some 0), .own (chT left') none, .own (chT keys') none, s3', s4, s5, s6, s7, s8, s9]
  | [], p, keys, left, s3, hp, h1, h2, h3, h4, _ => ⟨p, keys, left, s3, hp, by simpa using h1, h2, h3, h4, by simp⟩
  | k :: is, p, keys, left, s3, hp, h1, h2, h3, h4, h5 => by
    have h0 : 0 < left.length := by omega
    have hd := law_draw_eq n p left.length hp h0 (by omega)
    have hlt : drv p left.length < left.length := drv_lt h0
    have hq := okQ_drp (m := left.length) hp
    generalize drv p left.length = i at hd hlt
    generalize drp p left.length = q at hd hq
    have hpop := pop_chr hlt (by omega)
    obtain ⟨p', keys', left', s3', a1, a2, a3, a4, a5, e⟩ := keys_loop n (s4 := s4) (s5 := s5) (s6 := s6) (s7 := s7) (s8 := s8) (s9 := s9) is q (keys ++ [left[i]]) (left.eraseIdx i) (.fro (.int k) none) hq (by
      rw [List.length_eraseIdx_of_lt hlt]; simp at h1; omega) (nd_step hlt h2) (fun c hc => by
        apply h3
        rcases List.mem_append.mp hc with hc | hc
        · rcases List.mem_append.mp hc with hc | hc
          · exact List.mem_append_left _ hc
          · rw [List.mem_singleton.mp hc]; exact List.mem_append_right _ (List.getElem_mem hlt)
        · exact List.mem_append_right _ (List.mem_of_mem_eraseIdx hc)) (by rw [List.length_eraseIdx_of_lt hlt]; simp; omega) rfl
    refine ⟨p', keys', left', s3', a1, a2, a3, a4, a5, ?_⟩
    have hkl : keys.length < LIM := by rw [LIM_m]; omega
    rw [List.map_cons, forGo_cons, turnS_eq]
    simp [chT] at e
    simp [chT, h5, hd, hpop, hkl]
    exact e
theorem vals_loop (n : Nat) {s1 s2 s3 s7 s8 s9 : Slot} : ∀ (ks : List Nat) (p rest : List Nat) (P : Prs) (s6 : Slot), okQ p → ks.length ≤ rest.length → okS rest = true → rest.length ≤ 6 → okS ks = true → okP P → P.length + ks.length ≤ 100 → frS s6 = true →
    ∃ (p' rest' : List Nat) (P' : Prs) (s6' : Slot), okQ p' ∧ okP P' ∧ P'.map Prod.fst = P.map Prod.fst ++ ks.map (fun c => [c]) ∧ P'.length = P.length + ks.length ∧
      forGo (turnS ⟨callF tab xt.sub (n + 1), xt.sub⟩ (.nm 6) (.expr (.mu .append (.var 5) [.tup [.var 6, .mu .popAt (.var 4) [.call "_law_draw" [.var 0, .bi .len [.var 4]] [] [0, 1]]]]))) (ks.map fun c => dS [c]) [.own (ptree p) (some 0), s1, s2, s3, .own (chT rest) none, .own (prT P) none, s6, s7, s8, s9] =
        .nx [.own (ptree p') (some 0), s1, s2, s3, .own (chT rest') none, .own (prT P') none, s6', s7, s8, s9]
  | [], p, rest, P, s6, hp, _, _, _, _, hP, _, _ => ⟨p, rest, P, s6, hp, hP, by simp, by simp, by simp⟩
  | k :: ks, p, rest, P, s6, hp, h1, h2, h3, h4, hP, h5, h6 => by
    have h0 : 0 < rest.length := by simp at h1; omega
    have hd := law_draw_eq n p rest.length hp h0 (by omega)
    have hlt : drv p rest.length < rest.length := drv_lt h0
    have hq := okQ_drp (m := rest.length) hp
    generalize drv p rest.length = i at hd hlt
    generalize drp p rest.length = q at hd hq
    have hpop := pop_chr hlt (by omega)
    rw [okS_cons, Bool.and_eq_true, decide_eq_true_iff] at h4
    have hri := okS_mem.mp h2 _ (List.getElem_mem hlt)
    obtain ⟨p', rest', P', s6', a1, a2, a3, a4, e⟩ := vals_loop n (s1 := s1) (s2 := s2) (s3 := s3) (s7 := s7) (s8 := s8) (s9 := s9) ks q (rest.eraseIdx i) (P ++ [([k], [rest[i]])]) (.fro (dS [k]) none) hq (by
      rw [List.length_eraseIdx_of_lt hlt]; simp at h1; omega) (okS_mem.mpr fun c hc => okS_mem.mp h2 c (List.mem_of_mem_eraseIdx hc)) (by rw [List.length_eraseIdx_of_lt hlt]; omega) h4.2 (fun x hx => by
        rcases List.mem_append.mp hx with hx | hx
        · exact hP x hx
        · rw [List.mem_singleton.mp hx]; simp [h4.1, hri]) (by simp at h5 ⊢; omega) rfl
    refine ⟨p', rest', P', s6', a1, a2, by rw [a3]; simp, by rw [a4]; simp; omega, ?_⟩
    have hpl : P.length < LIM := by rw [LIM_m]; simp at h5; omega
    rw [List.map_cons, forGo_cons, turnS_eq]
    simp [chT, prT, tupD] at e
    simp [chT, prT, h6, hd, hpop, hpl, l2]
    exact e
theorem word_ok (i : Nat) (h : i < 5) : ∃ w, okS w = true ∧ w.length ≤ 2 ∧ (∀ c ∈ AF, w ≠ [c]) ∧ [dS [122], dS [63], dS [97, 98], dS [], dS [65]][i]? = some (dS w) := by
  rcases i with _ | _ | _ | _ | _ | i
  · exact ⟨[122], by decide, by decide, by decide, rfl⟩
  · exact ⟨[63], by decide, by decide, by decide, rfl⟩
  · exact ⟨[97, 98], by decide, by decide, by decide, rfl⟩
  · exact ⟨[], by decide, by decide, by decide, rfl⟩
  · exact ⟨[65], by decide, by decide, by decide, rfl⟩
  · omega
end LawK01
end

section
set_option linter.all false
set_option maxRecDepth 100000
set_option maxHeartbeats 4000000
namespace LawK01
open PV PS
open PySem (Str)
open SX (S)
theorem set_fst {P : Prs} {i : Nat} {a b w : List Nat} (h : P[i]? = some (a, b)) : (P.set i (a, w)).map Prod.fst = P.map Prod.fst := by
  induction P generalizing i with
  | nil => rfl
  | cons x P ih =>
    cases i with
    | zero =>
      have : x = (a, b) := by simpa using h
      subst this
      rfl
    | succ i =>
      have h' : P[i]? = some (a, b) := by simpa using h
      simp only [List.set_cons_succ, List.map_cons, ih h']
theorem okP_set {P : Prs} {i : Nat} {a b w : List Nat} (hP : okP P) (h : P[i]? = some (a, b)) (hw : okS w = true ∧ w.length ≤ 100) : okP (P.set i (a, w)) := by
  intro p hp
  rcases List.mem_or_eq_of_mem_set hp with hp | rfl
  · exact hP p hp
  · have := hP (a, b) (List.mem_of_getElem? h)
    exact ⟨this.1, hw.1, this.2.2.1, hw.2⟩
def tailC : CS := match c__law_pairs with
  | .seq _ (.seq _ (.seq _ (.seq _ (.seq _ (.seq _ r))))) => r
  | _ => .skip
theorem tail_eq (n : Nat) (p left : List Nat) (P : Prs) (x0 : Nat) (hp : okQ p) (hx : left[0]? = some x0) (hx0 : x0 ∈ AF) (hP : okP P) (hn : (P.map Prod.fst).Nodup) (hfst : ∀ k ∈ P.map Prod.fst, ∃ c ∈ AF, k = [c]) (hxn : [x0] ∉ P.map Prod.fst) (hl : P.length ≤ 50) (s2 s3 s4 s6 : Slot) :
    ∃ (p' : List Nat) (P' : Prs) (e' : Env), okQ p' ∧ okP P' ∧ (P'.map Prod.fst).Nodup ∧ P'.length ≤ 100 ∧
      PV.run ⟨callF tab xt.sub (n + 1), xt.sub⟩ tailC [.own (ptree p) (some 0), .own (chT left) none, s2, s3, s4, .own (prT P) none, s6, .non, .non, .non] = .rt (.frs (prT P')) (.own (ptree p') (some 0) :: e') := by
  have d1 := law_draw_eq n p 6 hp (by decide) (by decide)
  have p1 := okQ_drp (m := 6) hp
  have v1 : drv p 6 < 6 := drv_lt (by decide)
  generalize drv p 6 = v at d1 v1
  generalize drp p 6 = q1 at d1 p1
  have d2 := law_draw_eq n q1 5 p1 (by decide) (by decide)
  have p2 := okQ_drp (m := 5) p1
  obtain ⟨w, hw1, hw2, hw3, hw4⟩ := word_ok (drv q1 5) (drv_lt (by decide))
  generalize drv q1 5 = v2 at d2 hw4
  generalize drp q1 5 = q2 at d2 p2
  have d3 := law_draw_eq n q2 (P.length + 1) p2 (by omega) (by omega)
  have p3 := okQ_drp (m := P.length + 1) p2
  have v3 : drv q2 (P.length + 1) < P.length + 1 := drv_lt (by omega)
  generalize drv q2 (P.length + 1) = i at d3 v3
  generalize drp q2 (P.length + 1) = q3 at d3 p3
  have hixw : ixD (.lst [dS [122], dS [63], dS [97, 98], dS [], dS [65]]) (.int (v2 : Int)) = some (dS w) := by rw [ix_lst]; exact hw4
  have l5 : 5 ≤ LIM := by rw [LIM_m]; decide
  have hw100 : okS w = true ∧ w.length ≤ 100 := ⟨hw1, by omega⟩
  have hx100 : x0 < 1114112 := okS_mem.mp ok_AF _ hx0
  have hwn : w ∉ P.map Prod.fst := fun h => by
    obtain ⟨c, h1, h2⟩ := hfst w h
    exact hw3 c h1 h2
  have hix : ∀ (j : Nat) (a b : List Nat), P[j]? = some (a, b) → ixD (.lst (P.map tupD)) (.int (j : Int)) = some (.tup [dS a, dS b]) := fun j a b h => by
    rw [ix_lst, List.getElem?_map, h]; rfl
  have hset : ∀ (a u : List Nat), ((P.map (OD.fro ∘ tupD)).set i (.fro (.tup [dS a, dS u]))) = (P.set i (a, u)).map (OD.fro ∘ tupD) := fun a u => by
    rw [List.map_set]; rfl
  simp at d1 d2 d3
  have hx' : (left.map fun c => dS [c])[0]? = some (dS [x0]) := by rw [List.getElem?_map, hx]; rfl
  have hixl : ixD (.lst (left.map fun c => dS [c])) (.int 0) = some (dS [x0]) := by rw [ix_lst0]; exact hx'
  by_cases c0 : v = 0
  · subst c0
    refine ⟨q3, P, ?_, p3, hP, hn, by omega, ?_⟩
    rotate_left
    · simp [tailC, prT, chT, c__law_pairs, -ix_lst, d1, d2, d3, hixw, l5]
      rfl
  by_cases c1 : v = 1
  · subst c1
    have hmu : muF .insert (.lst (P.map (OD.fro ∘ tupD))) [.fro (.int (i : Int)), .fro (.tup [dS w, dS w])] = some (.at_ (.val .non), .lst ((P.take i ++ (w, w) :: P.drop i).map (OD.fro ∘ tupD))) := by
      rw [muF_insert, if_pos ⟨by rw [LIM_m]; simp; omega, by simp; omega⟩]
      simp [List.map_take, List.map_drop, tupD]
    refine ⟨q3, P.take i ++ (w, w) :: P.drop i, ?_, p3, ?_, ?_, by simp; omega, ?_⟩
    rotate_left
    · intro x hx
      rcases List.mem_append.mp hx with hx | hx
      · exact hP x (List.mem_of_mem_take hx)
      · rcases List.mem_cons.mp hx with rfl | hx
        · exact ⟨hw1, hw1, hw100.2, hw100.2⟩
        · exact hP x (List.mem_of_mem_drop hx)
    · have hpm : ((P.take i ++ (w, w) :: P.drop i).map Prod.fst).Perm (w :: P.map Prod.fst) := by
        have h1 := (List.perm_middle (a := (w, w)) (l₁ := P.take i) (l₂ := P.drop i)).map Prod.fst
        rw [List.take_append_drop] at h1
        exact h1
      exact hpm.nodup_iff.mpr (List.nodup_cons.mpr ⟨hwn, hn⟩)
    · simp [tailC, prT, chT, c__law_pairs, -ix_lst, -muF_insert, d1, d2, d3, hixw, l5, l2, hmu]
      rfl
  by_cases c2 : v = 2
  · subst c2
    by_cases hi : i < P.length
    · obtain ⟨⟨a, b⟩, hab⟩ : ∃ x, P[i]? = some x := ⟨P[i], List.getElem?_eq_getElem hi⟩
      have hix1 := hix i a b hab
      refine ⟨q3, P.set i (a, w), ?_, p3, okP_set hP hab hw100, by rw [set_fst hab]; exact hn, by simp; omega, ?_⟩
      rotate_left
      · simp [tailC, prT, chT, c__law_pairs, -ix_lst, d1, d2, d3, hixw, l5, l2, hi, hix1, hset]
        rfl
    · refine ⟨q3, P, ?_, p3, hP, hn, by omega, ?_⟩
      rotate_left
      · simp [tailC, prT, chT, c__law_pairs, -ix_lst, d1, d2, d3, hixw, l5, hi]
        rfl
  by_cases c3 : v = 3
  · subst c3
    by_cases hi : i < P.length
    · obtain ⟨⟨a, b⟩, hab⟩ : ∃ x, P[i]? = some x := ⟨P[i], List.getElem?_eq_getElem hi⟩
      have hix1 := hix i a b hab
      refine ⟨q3, P.set i (a, [x0]), ?_, p3, okP_set hP hab ⟨by simp [hx100], by simp⟩, by rw [set_fst hab]; exact hn, by simp; omega, ?_⟩
      rotate_left
      · simp [tailC, prT, chT, c__law_pairs, -ix_lst, -ix_lst0, d1, d2, d3, hixw, l5, l2, hi, hix1, hixl, hset]
        rfl
    · refine ⟨q3, P, ?_, p3, hP, hn, by omega, ?_⟩
      rotate_left
      · simp [tailC, prT, chT, c__law_pairs, -ix_lst, d1, d2, d3, hixw, l5, hi]
        rfl
  by_cases c4 : v = 4
  · subst c4
    by_cases hi : i < P.length
    · obtain ⟨⟨a, b⟩, hab⟩ : ∃ x, P[i]? = some x := ⟨P[i], List.getElem?_eq_getElem hi⟩
      obtain ⟨⟨a0, b0⟩, hab0⟩ : ∃ x, P[0]? = some x := ⟨P[0], List.getElem?_eq_getElem (by omega)⟩
      have hix1 := hix i a b hab
      have hix0 := hix 0 a0 b0 hab0
      have hb0 := hP _ (List.mem_of_getElem? hab0)
      simp only [Int.natCast_zero] at hix0
      have hix0' : ixD (.lst (P.map tupD)) (.int 0) = some (.tup [dS a0, dS b0]) := hix0
      refine ⟨q3, P.set i (a, b0), ?_, p3, okP_set hP hab ⟨hb0.2.1, hb0.2.2.2⟩, by rw [set_fst hab]; exact hn, by simp; omega, ?_⟩
      rotate_left
      · simp [tailC, prT, chT, c__law_pairs, -ix_lst, -ix_lst0, d1, d2, d3, hixw, l5, l2, hi, hix1, hix0', hset]
        rfl
    · refine ⟨q3, P, ?_, p3, hP, hn, by omega, ?_⟩
      rotate_left
      · simp [tailC, prT, chT, c__law_pairs, -ix_lst, d1, d2, d3, hixw, l5, hi]
        rfl
  · have c5 : v = 5 := by omega
    subst c5
    have hpl : P.length < LIM := by rw [LIM_m]; omega
    have hpl1 : P.length + 1 < LIM := by rw [LIM_m]; omega
    refine ⟨q3, P ++ [([x0], w), (w, [x0])], ?_, p3, ?_, ?_, by simp; omega, ?_⟩
    rotate_left
    · intro x hx
      rcases List.mem_append.mp hx with hx | hx
      · exact hP x hx
      · simp at hx
        rcases hx with rfl | rfl
        · simp [hx100, hw1]; omega
        · simp [hx100, hw1]; omega
    · rw [List.map_append, List.nodup_append]
      refine ⟨hn, ?_, ?_⟩
      · simp
        exact fun h => hw3 x0 hx0 h.symm
      · intro a ha b hb hab
        subst hab
        simp at hb
        rcases hb with rfl | rfl
        · exact hxn ha
        · exact hwn ha
    · simp [tailC, prT, chT, c__law_pairs, -ix_lst, -ix_lst0, d1, d2, d3, hixw, l5, l2, hixl, hpl, hpl1, tupD]
      rfl
end LawK01
end

section
set_option linter.all false
set_option maxRecDepth 100000
set_option maxHeartbeats 4000000
namespace LawK01
open PV PS
open PySem (Str)
open SX (S)
theorem pairs_eq (n : Nat) (p : List Nat) (hp : okQ p) :
    ∃ (p' : List Nat) (P : Prs), okQ p' ∧ okP P ∧ (P.map Prod.fst).Nodup ∧ P.length ≤ 100 ∧ callF tab xt.sub (n + 2) "_law_pairs" [.own (ptree p) none] = .ret (.frs (prT P)) [.own (ptree p') none] := by
  have hc : c__law_pairs = .seq (.set 1 (.bi .list [.cst (.str "abcdef")])) (.seq (.set 2 (.lst [])) (.seq (.for_ (.nm 3) .rng [.call "_law_draw" [.var 0, .cst (.int 6)] [] [0, 1]] (.expr (.mu .append (.var 2) [.mu .popAt (.var 1) [.call "_law_draw" [.var 0, .bi .len [.var 1]] [] [0, 1]]]))) (.seq (.set 4 (.bi .list [.var 2])) (.seq (.set 5 (.lst [])) (.seq (.for_ (.nm 6) .seq [.var 2] (.expr (.mu .append (.var 5) [.tup [.var 6, .mu .popAt (.var 4) [.call "_law_draw" [.var 0, .bi .len [.var 4]] [] [0, 1]]]]))) tailC))))) := rfl
  rw [callF_succ, t__law_pairs, hc]
  have d1 := law_draw_eq n p 6 hp (by decide) (by decide)
  have p1 := okQ_drp (m := 6) hp
  have v1 : drv p 6 < 6 := drv_lt (by decide)
  generalize drv p 6 = v at d1 v1
  generalize drp p 6 = q1 at d1 p1
  have hv : v < LIM := by rw [LIM_m]; omega
  obtain ⟨q2, keys, left, s3, p2, h1, h2, h3, h4, e1⟩ := keys_loop n (s4 := .non) (s5 := .non) (s6 := .non) (s7 := .non) (s8 := .non) (s9 := .non) (List.range v) q1 [] AF .non p1 (by simpa using v1) (by decide) (fun c hc => by simpa using hc) (by decide) rfl
  have okk : okS keys = true := okS_mem.mpr fun c hc => okS_mem.mp ok_AF c (h3 c (List.mem_append_left _ hc))
  obtain ⟨q3, rest, P, s6, p3, hP, hf, hPl, e2⟩ := vals_loop n (s1 := .own (chT left) none) (s2 := .fro (.lst (keys.map fun c => dS [c])) none) (s3 := s3) (s7 := .non) (s8 := .non) (s9 := .non) keys q2 keys [] .non p2 (Nat.le_refl _) okk (by omega) okk (fun x hx => by cases hx) (by simp; omega) rfl
  rw [List.map_nil, List.nil_append] at hf
  obtain ⟨x0, hx0⟩ : ∃ x, left[0]? = some x := ⟨left[0], List.getElem?_eq_getElem h1⟩
  have hxm : x0 ∈ left := List.mem_of_getElem? hx0
  rw [List.nodup_append] at h2
  have hn : (P.map Prod.fst).Nodup := by
    rw [hf]
    exact List.Pairwise.map _ (fun a b hab he => hab (by simpa using he)) h2.1
  obtain ⟨p', P', e', a1, a2, a3, a4, a5⟩ := tail_eq n q3 left P x0 p3 hx0 (h3 x0 (List.mem_append_right _ hxm)) hP hn (fun k hk => by
    rw [hf] at hk
    obtain ⟨c, h5, rfl⟩ := List.mem_map.mp hk
    exact ⟨c, h3 c (List.mem_append_left _ h5), rfl⟩) (fun hk => by
    rw [hf] at hk
    obtain ⟨c, h5, h6⟩ := List.mem_map.mp hk
    have : c = x0 := by simpa using h6
    subst this
    exact h2.2.2 c h5 c hxm rfl) (by simp at hPl; omega) (.fro (.lst (keys.map fun c => dS [c])) none) s3 (.own (chT rest) none) s6
  refine ⟨p', P', a1, a2, a3, a4, ?_⟩
  simp [chT, prT] at d1 e1 e2 a5
  simp [l6, d1, hv]
  rw [e1]
  simp
  rw [e2]
  simp
  rw [a5]
  simp [prT]
/-! ### law -/
theorem fill_ok {ls : List Nat} (hl : okS ls = true) : ∀ (ps sg : List Nat) (r : Nat), okS sg = true → okS (fillGo ls ps sg r) = true
  | [], sg, r, h => h
  | p :: ps, sg, r, h => by
    rw [fillGo]
    refine fill_ok hl ps _ _ (okS_mem.mpr fun c hc => ?_)
    rcases List.mem_or_eq_of_mem_set hc with hc | rfl
    · exact okS_mem.mp h c hc
    · rw [List.getD_eq_getElem?_getD]
      cases hq : ls[r % ls.length]? with
      | none => simp
      | some d => exact okS_mem.mp hl d (List.mem_of_getElem? hq)
theorem lp_ansF (t ls : List Nat) (ht : okS t = true) (hl : okS ls = true) : lp 2 (ansF t ls) = true := by
  unfold ansF
  cases fwD AF t with
  | some i => exact lp_bad strOk_bt (lp_int _ _)
  | none =>
    dsimp only
    by_cases hr : isRow ls = true
    · rw [if_pos hr]
      by_cases hm : 2000 < ls.length ^ (holes t 0).length
      · rw [if_pos hm]; exact lp_bad strOk_tm (lp_int _ _)
      · rw [if_neg hm]
        refine lp_told ?_
        rw [lp_lst, Bool.and_eq_true, decide_eq_true_iff]
        refine ⟨?_, by rw [List.length_map, allF_len, LIM_m]; omega⟩
        rw [List.all_eq_true]
        intro x hx
        obtain ⟨y, hy, rfl⟩ := List.mem_map.mp hx
        rw [lp_str, strOk_S]
        obtain ⟨k, _, rfl⟩ := List.mem_map.mp hy
        exact fill_ok hl _ _ _ ht
    · rw [if_neg hr]
      refine lp_bad strOk_bl ?_
      rw [lp_str, strOk_S]; exact hl
abbrev okT (t : List Nat) : Prop := okS t = true ∧ t.length ≤ 1000
theorem loop1 (n : Nat) {ls : List Nat} (hl : okS ls = true) (hls : ls.length ≤ 100) {s0 s1 s3 s4 s5 s6 s7 s8 s9 s12 : Slot} : ∀ (ts : List (List Nat)) (s10 s11 : Slot), (∀ t ∈ ts, okT t) → frS s10 = true → frS s11 = true →
    ∃ s10' s11' : Slot, frS s10' = true ∧ frS s11' = true ∧
      forGo (turnS ⟨callF tab xt.sub (n + 11), xt.sub⟩ (.nm 10) (.seq (.ite (.not_ (.tru (.call "_law_plain_right" [.var 10, .var 2] [] [0, 1]))) (.ret (.cst (.bl false))) (.skip)) (.seq (.set 11 (.call "_law_fillings_due" [.var 10, .var 2] [] [0, 1])) (.ite (.not_ (.tru (.callR "_law_is" [.call "_law_ask" [.cst (.str "fillings"), .var 10, .var 2] [] [0, 1, 2], .var 11] [] [0, 1]))) (.ret (.cst (.bl false))) (.skip))))) (ts.map dS)
        [s0, s1, .fro (dS ls) none, s3, s4, s5, s6, s7, s8, s9, s10, s11, s12] = .nx [s0, s1, .fro (dS ls) none, s3, s4, s5, s6, s7, s8, s9, s10', s11', s12]
  | [], s10, s11, _, h1, h2 => ⟨s10, s11, h1, h2, by simp⟩
  | t :: ts, s10, s11, hts, h1, h2 => by
    obtain ⟨ht, hlen⟩ := hts t List.mem_cons_self
    have hlim : t.length ≤ LIM := by rw [LIM_m]; omega
    have hlim2 : ls.length ≤ LIM := by rw [LIM_m]; omega
    have a1 := plain_right_eq n t ls ht hl hlen hls
    obtain ⟨o1, a2, ho1⟩ : ∃ o : OD, callF tab xt.sub (n + 11) "_law_fillings_due" [.fro (dS t) none, .fro (dS ls) none] = .ret (.frs o) [.non, .non] ∧ o.toD = ansF t ls := fill_due_eq (n + 9) t ls ht hl hlen hls
    obtain ⟨o2, a3, ho2⟩ : ∃ o : OD, callF tab xt.sub (n + 11) "_law_ask" [.fro (.str "fillings") none, .fro (dS t) none, .fro (dS ls) none] = .ret (.frs o) [.non, .non, .non] ∧ o.toD = ansF t ls := ask_fill (n + 4) t ls ht hl hlim hlim2
    have iF : callF tab xt.sub (n + 11) "_law_is" [.fro (ansF t ls) none, .fro (ansF t ls) none] = _ := law_is_eq 2 (n + 8) (ansF t ls) (lp_ansF t ls ht hl)
    obtain ⟨s10', s11', b1, b2, e⟩ := loop1 n hl hls (s0 := s0) (s1 := s1) (s3 := s3) (s4 := s4) (s5 := s5) (s6 := s6) (s7 := s7) (s8 := s8) (s9 := s9) (s12 := s12) ts (.fro (dS t) none) (.own o1 none) (fun u hu => hts u (List.mem_cons_of_mem _ hu)) rfl rfl
    refine ⟨s10', s11', b1, b2, ?_⟩
    rw [List.map_cons, forGo_cons, turnS_eq]
    simp at a3 e
    simp [h1, h2, a1, a2, a3, ho1, ho2, iF, simple]
    exact e
def keptQ (P : Prs) (s : Slot) : Prop := s = .own (prT P) none ∨ s = .fro (.lst (P.map tupD)) none
theorem loop2 (n : Nat) {ls : List Nat} (hl : okS ls = true) (hls : ls.length ≤ 100) {l : List Int} (hli : smallI l) {P : Prs} (hP : okP P) (hn : (P.map Prod.fst).Nodup) (hPl : P.length ≤ 1000) {s0 s1 s2 s3 s4 s5 s6 s12 : Slot} : ∀ (ts : List (List Nat)) (s8 s9 s10 s11 : Slot), (∀ t ∈ ts, okT t) → keptS l s8 → keptQ P s9 → frS s10 = true → frS s11 = true →
    ∃ s8' s9' s10' s11' : Slot,
      forGo (turnS ⟨callF tab xt.sub (n + 11), xt.sub⟩ (.nm 10) (.seq (.set 11 (.call "_law_fillings_due" [.var 10, .var 7] [] [0, 1])) (.seq (.ite (.not_ (.tru (.callR "_law_is" [.call "_law_ask" [.cst (.str "fillings"), .var 10, .var 7] [] [0, 1, 2], .var 11] [] [0, 1]))) (.ret (.cst (.bl false))) (.skip)) (.seq (.ite (.not_ (.tru (.call "_law_moved_right" [.var 10, .var 8, .var 9] [] [0, 1, 2]))) (.ret (.cst (.bl false))) (.skip)) (.ite (.not_ (.tru (.call "_law_moved_right" [.var 10, .lst [], .lst []] [] [0, 1, 2]))) (.ret (.cst (.bl false))) (.skip)))))) (ts.map dS)
        [s0, s1, s2, s3, s4, s5, s6, .fro (dS ls) none, s8, s9, s10, s11, s12] = .nx [s0, s1, s2, s3, s4, s5, s6, .fro (dS ls) none, s8', s9', s10', s11', s12]
  | [], s8, s9, s10, s11, _, _, _, h1, h2 => ⟨s8, s9, s10, s11, by simp⟩
  | t :: ts, s8, s9, s10, s11, hts, h8, h9, h1, h2 => by
    obtain ⟨ht, hlen⟩ := hts t List.mem_cons_self
    have hlim : t.length ≤ LIM := by rw [LIM_m]; omega
    have hlim2 : ls.length ≤ LIM := by rw [LIM_m]; omega
    have l0 : 0 ≤ LIM := Nat.zero_le _
    obtain ⟨o1, a2, ho1⟩ : ∃ o : OD, callF tab xt.sub (n + 11) "_law_fillings_due" [.fro (dS t) none, .fro (dS ls) none] = .ret (.frs o) [.non, .non] ∧ o.toD = ansF t ls := fill_due_eq (n + 9) t ls ht hl hlen hls
    obtain ⟨o2, a3, ho2⟩ : ∃ o : OD, callF tab xt.sub (n + 11) "_law_ask" [.fro (.str "fillings") none, .fro (dS t) none, .fro (dS ls) none] = .ret (.frs o) [.non, .non, .non] ∧ o.toD = ansF t ls := ask_fill (n + 4) t ls ht hl hlim hlim2
    have iF : callF tab xt.sub (n + 11) "_law_is" [.fro (ansF t ls) none, .fro (ansF t ls) none] = _ := law_is_eq 2 (n + 8) (ansF t ls) (lp_ansF t ls ht hl)
    obtain ⟨m1, m2, mo1, mo2, a4⟩ := moved_eq n t l P ht hlen hli hP hn hPl s8 s9 h8 h9
    obtain ⟨m3, m4, mo3, mo4, a5⟩ := moved_eq n t [] [] ht hlen (fun x hx => by cases hx) (fun x hx => by cases hx) (by simp) (by decide) (.own (plT []) none) (.own (prT []) none) (.inl rfl) (.inl rfl)
    have a5' : callF tab xt.sub (n + 11) "_law_moved_right" [.fro (dS t) none, .own (.lst []) none, .own (.lst []) none] = .ret (.val (.bl true)) [.non, m3, m4] := a5
    have mo4' : m4 = .fro (.lst []) none := mo4
    have mo3' : m3 = .own (.lst []) none ∨ m3 = .fro (.lst []) none := mo3
    subst mo4'
    have ih := fun s8' s9' h8' h9' => loop2 n hl hls hli hP hn hPl (s0 := s0) (s1 := s1) (s2 := s2) (s3 := s3) (s4 := s4) (s5 := s5) (s6 := s6) (s12 := s12) ts s8' s9' (.fro (dS t) none) (.own o1 none) (fun u hu => hts u (List.mem_cons_of_mem _ hu)) h8' h9' rfl rfl
    rw [List.map_cons, forGo_cons, turnS_eq]
    -- the slots of places and pairs behind the turn
    have fin : ∀ s8' s9' : Slot, keptS l s8' → keptQ P s9' → (∀ R : Env → SO, (match R [s0, s1, s2, s3, s4, s5, s6, .fro (dS ls) none, s8', s9', .fro (dS t) none, .own o1 none, s12] with | x => x) = R [s0, s1, s2, s3, s4, s5, s6, .fro (dS ls) none, s8', s9', .fro (dS t) none, .own o1 none, s12]) := fun _ _ _ _ _ => rfl
    clear fin
    rcases h8 with rfl | rfl
    · have k1 : keptS l m1 := mo1
      rcases h9 with rfl | rfl
      · have k2 : m2 = .fro (.lst (P.map tupD)) none := mo2
        subst k2
        rcases k1 with rfl | rfl
        · obtain ⟨u8, u9, u10, u11, e⟩ := ih (.own (plT l) none) (.fro (.lst (P.map tupD)) none) (.inl rfl) (.inr rfl)
          refine ⟨u8, u9, u10, u11, ?_⟩
          simp [plT, prT] at a3 a4 e
          rcases mo3' with rfl | rfl <;> (simp [plT, prT, h1, h2, a2, a3, a4, a5', ho1, ho2, iF, simple, l0]; exact e)
        · obtain ⟨u8, u9, u10, u11, e⟩ := ih (.fro (.lst (l.map D.int)) none) (.fro (.lst (P.map tupD)) none) (.inr rfl) (.inr rfl)
          refine ⟨u8, u9, u10, u11, ?_⟩
          simp [plT, prT] at a3 a4 e
          rcases mo3' with rfl | rfl <;> (simp [plT, prT, h1, h2, a2, a3, a4, a5', ho1, ho2, iF, simple, l0]; exact e)
      · have k2 : m2 = .non := mo2
        subst k2
        rcases k1 with rfl | rfl
        · obtain ⟨u8, u9, u10, u11, e⟩ := ih (.own (plT l) none) (.fro (.lst (P.map tupD)) none) (.inl rfl) (.inr rfl)
          refine ⟨u8, u9, u10, u11, ?_⟩
          simp [plT, prT] at a3 a4 e
          rcases mo3' with rfl | rfl <;> (simp [plT, prT, h1, h2, a2, a3, a4, a5', ho1, ho2, iF, simple, l0]; exact e)
        · obtain ⟨u8, u9, u10, u11, e⟩ := ih (.fro (.lst (l.map D.int)) none) (.fro (.lst (P.map tupD)) none) (.inr rfl) (.inr rfl)
          refine ⟨u8, u9, u10, u11, ?_⟩
          simp [plT, prT] at a3 a4 e
          rcases mo3' with rfl | rfl <;> (simp [plT, prT, h1, h2, a2, a3, a4, a5', ho1, ho2, iF, simple, l0]; exact e)
    · have k1 : m1 = .non := mo1
      subst k1
      rcases h9 with rfl | rfl
      · have k2 : m2 = .fro (.lst (P.map tupD)) none := mo2
        subst k2
        obtain ⟨u8, u9, u10, u11, e⟩ := ih (.fro (.lst (l.map D.int)) none) (.fro (.lst (P.map tupD)) none) (.inr rfl) (.inr rfl)
        refine ⟨u8, u9, u10, u11, ?_⟩
        simp [plT, prT] at a3 a4 e
        rcases mo3' with rfl | rfl <;> (simp [plT, prT, h1, h2, a2, a3, a4, a5', ho1, ho2, iF, simple, l0]; exact e)
      · have k2 : m2 = .non := mo2
        subst k2
        obtain ⟨u8, u9, u10, u11, e⟩ := ih (.fro (.lst (l.map D.int)) none) (.fro (.lst (P.map tupD)) none) (.inr rfl) (.inr rfl)
        refine ⟨u8, u9, u10, u11, ?_⟩
        simp [plT, prT] at a3 a4 e
        rcases mo3' with rfl | rfl <;> (simp [plT, prT, h1, h2, a2, a3, a4, a5', ho1, ho2, iF, simple, l0]; exact e)
end LawK01
end

section
set_option linter.all false
set_option maxRecDepth 100000
set_option maxHeartbeats 4000000
namespace LawK01
open PV PS
open PySem (Str)
open SX (S)
def TX9 : List Nat := [97, 98, 99, 100, 101, 102, 122, 63, 65]
@[simp] theorem k_TX9 : Str.ofString "abcdefz?A" = S TX9 := by decide +kernel
theorem TX9_len : TX9.length = 9 := rfl
theorem law_main (n : Nat) (ns : List Int) (hns : ns.length ≤ 63) : ∃ os, callF tab xt.sub (n + 12) "law" [.fro (.lst (ns.map D.int)) none] = .ret (.val (.bl true)) os := by
  rw [callF_succ, t_law]
  refine ⟨[.non], ?_⟩
  obtain ⟨p0, o0, e0⟩ : ∃ p, okQ p ∧ callF tab xt.sub (n + 11) "_law_pool" [.fro (.lst (ns.map D.int)) none] = .ret (.frs (ptree p)) [.non] := pool_eq (n + 10) ns hns
  obtain ⟨p1, ls, o1, hl, hls, e1⟩ : ∃ (p' ls : List Nat), okQ p' ∧ okS ls = true ∧ ls.length ≤ 6 ∧ callF tab xt.sub (n + 11) "_law_letters" [.own (ptree p0) none] = .ret (.val (dS ls)) [.own (ptree p') none] := letters_eq (n + 9) p0 o0
  obtain ⟨p2, t, o2, ht, hlt, e2⟩ : ∃ (p' t : List Nat), okQ p' ∧ okS t = true ∧ t.length ≤ 12 ∧ callF tab xt.sub (n + 11) "_law_text" [.own (ptree p1) none] = .ret (.val (dS t)) [.own (ptree p') none] := text_eq (n + 9) p1 o1
  have d3 := law_draw_eq (n + 10) p2 13 o2 (by decide) (by decide)
  have o3 := okQ_drp (m := 13) o2
  have v3 : drv p2 13 < 13 := drv_lt (by decide)
  generalize drv p2 13 = k at d3 v3
  generalize drp p2 13 = p3 at d3 o3
  have hmul := mul_S (l := [63]) (k := k)
  rw [if_pos ⟨by decide, by omega⟩] at hmul
  have hYl : (List.replicate k [63]).flatten.length ≤ 13 := by simp; omega
  have hYo : okS (List.replicate k [63]).flatten = true := okS_mem.mpr fun c hc => by
    simp at hc; omega
  generalize (List.replicate k [63]).flatten = Y at hmul hYl hYo
  have hadd := add_S (a := Y) (b := t)
  rw [if_pos (by rw [LIM_m]; omega)] at hadd
  have hZo : okS (Y ++ t) = true := by rw [okS_append, hYo, ht]; rfl
  have hZl : (Y ++ t).length ≤ 1000 := by rw [List.length_append]; omega
  generalize Y ++ t = Z at hadd hZo hZl
  have hsl : slD (dS Z) none (some 12) = some (.at_ (.val (dS (Z.take 12)))) := by
    have := sl_hi (l := Z) (i := 12)
    rw [if_pos (by rw [LIM_m]; omega)] at this
    exact this
  have hWo : okS (Z.take 12) = true := okS_mem.mpr fun c hc => okS_mem.mp hZo c (List.mem_of_mem_take hc)
  have hWl : (Z.take 12).length ≤ 1000 := by rw [List.length_take]; omega
  generalize Z.take 12 = W at hsl hWo hWl
  obtain ⟨p4, u, o4, hu, hul, e4⟩ : ∃ (p' u : List Nat), okQ p' ∧ okS u = true ∧ u.length ≤ 300 ∧ callF tab xt.sub (n + 11) "_law_odd" [.own (ptree p3) none, .fro (dS t) none] = .ret (.val (dS u)) [.own (ptree p') none, .non] := odd_eq (n + 9) p3 t o3 ht (by omega)
  have d5 := law_draw_eq (n + 10) p4 8 o4 (by decide) (by decide)
  have o5 := okQ_drp (m := 8) o4
  have v5 : drv p4 8 < 8 := drv_lt (by decide)
  generalize drv p4 8 = v6 at d5 v5
  generalize drp p4 8 = p5 at d5 o5
  have l9 : TX9.length ≤ LIM := by rw [LIM_m, TX9_len]; decide
  obtain ⟨p6, sm, o6, hsm, hsml, e6⟩ := draw_lc (own := [12]) (turn := turnL ⟨callF tab xt.sub (n + 11), xt.sub⟩ 13 (.nm 12) [] (.ix (.cst (.str "abcdefz?A")) (.call "_law_draw" [.var 1, .cst (.int 9)] [] [0, 1])))
    (E := fun q => [.fro (.lst (ns.map D.int)) none, .own (ptree q) none, .fro (dS ls) none, .fro (dS t) none, .fro (dS W) none, .fro (dS u) none, .fro (.int (v6 : Nat)) none, .non, .non, .non, .non, .non, .non]) (fun q d hq => by
      have hd2 := law_draw_eq (n + 10) q 9 hq (by decide) (by decide)
      obtain ⟨c, hc, hc2⟩ := pick_ok (T := TX9) (i := drv q 9) (by decide) (drv_lt (by decide))
      refine ⟨drp q 9, c, [.fro (.lst (ns.map D.int)) none, .own (ptree (drp q 9)) none, .fro (dS ls) none, .fro (dS t) none, .fro (dS W) none, .fro (dS u) none, .fro (.int (v6 : Nat)) none, .non, .non, .non, .non, .non, .fro d none], okQ_drp hq, hc2, ?_, by simp⟩
      simp at hd2
      simp [turnL_eq, hd2, l9, hc]) ((List.range v6).map fun i : Nat => D.int i) [] [.fro (.lst (ns.map D.int)) none, .own (ptree p5) none, .fro (dS ls) none, .fro (dS t) none, .fro (dS W) none, .fro (dS u) none, .fro (.int (v6 : Nat)) none, .non, .non, .non, .non, .non, .non] p5 o5 (by simp) rfl (by simp; omega)
  have hv6 : v6 < LIM := by rw [LIM_m]; omega
  have hsl9 : sm.length ≤ 8 := by simp at hsml; omega
  have hslim : sm.length ≤ LIM := by rw [LIM_m]; omega
  obtain ⟨p7, l, o7, hli, hll, e7⟩ : ∃ (p' : List Nat) (l : List Int), okQ p' ∧ smallI l ∧ l.length ≤ 100 ∧ callF tab xt.sub (n + 11) "_law_places" [.own (ptree p6) none, .fro (dS t) none] = .ret (.frs (plT l)) [.own (ptree p') none, .non] := places_eq (n + 9) p6 t o6 (by omega)
  obtain ⟨p8, P, o8, hP, hn, hPl, e8⟩ : ∃ (p' : List Nat) (P : Prs), okQ p' ∧ okP P ∧ (P.map Prod.fst).Nodup ∧ P.length ≤ 100 ∧ callF tab xt.sub (n + 11) "_law_pairs" [.own (ptree p7) none] = .ret (.frs (prT P)) [.own (ptree p') none] := pairs_eq (n + 9) p7 o7
  have hne : deq (.lst [dS [97, 98, 99, 100, 101, 102], dS [122], dS [63]]) (.lst [dS [97, 98, 99, 100, 101, 102], dS [122], dS [63]]) = some true := by
    rw [deq_plain (n := 1) (by decide) (by simp) (by simp)]
    simp
  have okt : okT t := ⟨ht, by omega⟩
  have oku : okT u := ⟨hu, by omega⟩
  have okw : okT W := ⟨hWo, hWl⟩
  obtain ⟨s10, s11, f10, f11, el1⟩ := loop1 n hl (by omega) (s0 := .fro (.lst (ns.map D.int)) none) (s1 := .own (ptree p8) none) (s3 := .fro (dS t) none) (s4 := .fro (dS W) none) (s5 := .fro (dS u) none) (s6 := .fro (.int (v6 : Nat)) none) (s7 := .fro (dS sm) none) (s8 := .own (plT l) none) (s9 := .own (prT P) none) (s12 := .non) [t, W, u] .non .non (by
    intro x hx
    simp at hx
    rcases hx with rfl | rfl | rfl <;> assumption) rfl rfl
  obtain ⟨r8, r9, r10, r11, el2⟩ := loop2 n hsm (by omega) hli hP hn (by omega) (s0 := .fro (.lst (ns.map D.int)) none) (s1 := .own (ptree p8) none) (s2 := .fro (dS ls) none) (s3 := .fro (dS t) none) (s4 := .fro (dS W) none) (s5 := .fro (dS u) none) (s6 := .fro (.int (v6 : Nat)) none) (s12 := .non) [t, u] (.own (plT l) none) (.own (prT P) none) s10 s11 (by
    intro x hx
    simp at hx
    rcases hx with rfl | rfl <;> assumption) (.inl rfl) (.inl rfl) f10 f11
  have l3 : 3 ≤ LIM := by rw [LIM_m]; decide
  clear hsml hsl9 v5 v3 hns
  simp [plT, prT] at e0 e1 e2 d3 e4 d5 e6 e7 e8 el1 el2
  simp [c_law, -mul_S, -add_S, -sl_hi, e0, e1, e2, d3, hmul, hadd, hsl, e4, d5, hv6]
  rw [e6]
  simp [hslim, e7, e8, l3, hne]
  rw [el1]
  simp [l2]
  rw [el2]
  simp
theorem law_is : LawIs tab xt.sub 12 := fun ns h => law_main 0 ns h
end LawK01
end

section
set_option Elab.async false
set_option linter.all false
set_option maxRecDepth 100000
set_option maxHeartbeats 4000000
namespace LawK01
open PV PySem PySem.Spec PyProof.Rows L2 He
section
variable {w : World} {K : PySem.W.Frag} {mg : Str → Option Value} {base : Heap} {n : Nat}
theorem b_is_token (F : Fcts HD K mg) (ih : Good PySem.Challenge.pw_mendedtexts_k01_letters_and_fillings w K mg base n) (f : Addr) (pv : Nat → Option V) (cdv : Value) (A : Around) (outer : List PySem.Env) (s : Shared) (H : Hp) (E : XK) (hr7 : Room (4 * n + 7) (A.deeper (envOfC "is_token" sc_t_is_token s.heap.objs.size f cdv))) :
    VSs ⟨callF tab xt.sub n, xt.sub⟩ ⟨none, pv⟩ (cxOf (L2.CX PySem.Challenge.pw_mendedtexts_k01_letters_and_fillings w) PySem.Challenge.pw_mendedtexts_k01_letters_and_fillings w K mg base n_is_token "is_token" sc_t_is_token f cdv A outer s H E) (defBody (top 12)) c_is_token :=
  have hr4 : Room (4 * n + 4) (A.deeper (envOfC "is_token" sc_t_is_token s.heap.objs.size f cdv)) := hr7.mono (by omega)
  have hr2 : Room 2 (A.deeper (envOfC "is_token" sc_t_is_token s.heap.objs.size f cdv)) := hr7.mono (by omega)
  have hu : (A.deeper (envOfC "is_token" sc_t_is_token s.heap.objs.size f cdv)).units + 200 < cLine := Room.u hr7
  (vss_one (vs_ret (ve_and (ve_isi (by decide) (g_isinstance F) (g_str F) bo_str (ve_nm 0 rfl (.inl rfl))) (ve_and (ve_cmpR (cr_eq hu) (ve_len (g_len F) (va_cons (ve_nm 0 rfl (.inl rfl)) va_nil)) ve_int) (ve_one (ve_cmpR (cr_mem hu) (ve_nm 0 rfl (.inl rfl)) (ve_gstr (g_TOKENS F))))))))
theorem b_is_row (F : Fcts HD K mg) (ih : Good PySem.Challenge.pw_mendedtexts_k01_letters_and_fillings w K mg base n) (f : Addr) (pv : Nat → Option V) (cdv : Value) (A : Around) (outer : List PySem.Env) (s : Shared) (H : Hp) (E : XK) (hr7 : Room (4 * n + 7) (A.deeper (envOfC "is_row" sc_t_is_row s.heap.objs.size f cdv))) :
    VSs ⟨callF tab xt.sub n, xt.sub⟩ ⟨none, pv⟩ (cxOf (L2.CX PySem.Challenge.pw_mendedtexts_k01_letters_and_fillings w) PySem.Challenge.pw_mendedtexts_k01_letters_and_fillings w K mg base n_is_row "is_row" sc_t_is_row f cdv A outer s H E) (defBody (top 13)) c_is_row :=
  have hr4 : Room (4 * n + 4) (A.deeper (envOfC "is_row" sc_t_is_row s.heap.objs.size f cdv)) := hr7.mono (by omega)
  have hr2 : Room 2 (A.deeper (envOfC "is_row" sc_t_is_row s.heap.objs.size f cdv)) := hr7.mono (by omega)
  have hu : (A.deeper (envOfC "is_row" sc_t_is_row s.heap.objs.size f cdv)).units + 200 < cLine := Room.u hr7
  (vss_one (vs_ret (ve_and (ve_cmpR cr_ge (ve_len (g_len F) (va_cons (ve_nm 0 rfl (.inr (.inl rfl))) va_nil)) (ve_nm 1 rfl (.inl rfl))) (ve_one (ve_cmpR (cr_eq hu) (ve_nm 0 rfl (.inr (.inl rfl))) (ve_join ve_str (va_cons (ve_lc (own := [("token", 2)]) rfl sc_is_row.nd (vi_seq (ve_gstr (g_TOKENS F))) bk_is_row_0 (fun _ _ _ _ _ => (vg_nm sc_is_row.nd rfl (.inl rfl))) (fun _ _ _ _ _ => (vts_one (vt_cmpR (cr_mem hu) (ve_nm 2 rfl (.inl rfl)) (ve_nm 0 rfl (.inr (.inl rfl)))))) (fun _ _ _ _ _ => (ve_nm 2 rfl (.inl rfl)))) va_nil)))))))
theorem b_wrong_sign (F : Fcts HD K mg) (ih : Good PySem.Challenge.pw_mendedtexts_k01_letters_and_fillings w K mg base n) (f : Addr) (pv : Nat → Option V) (cdv : Value) (A : Around) (outer : List PySem.Env) (s : Shared) (H : Hp) (E : XK) (hr7 : Room (4 * n + 7) (A.deeper (envOfC "wrong_sign" sc_t_wrong_sign s.heap.objs.size f cdv))) :
    VSs ⟨callF tab xt.sub n, xt.sub⟩ ⟨none, pv⟩ (cxOf (L2.CX PySem.Challenge.pw_mendedtexts_k01_letters_and_fillings w) PySem.Challenge.pw_mendedtexts_k01_letters_and_fillings w K mg base n_wrong_sign "wrong_sign" sc_t_wrong_sign f cdv A outer s H E) (defBody (top 14)) c_wrong_sign :=
  have hr4 : Room (4 * n + 4) (A.deeper (envOfC "wrong_sign" sc_t_wrong_sign s.heap.objs.size f cdv)) := hr7.mono (by omega)
  have hr2 : Room 2 (A.deeper (envOfC "wrong_sign" sc_t_wrong_sign s.heap.objs.size f cdv)) := hr7.mono (by omega)
  have hu : (A.deeper (envOfC "wrong_sign" sc_t_wrong_sign s.heap.objs.size f cdv)).units + 200 < cLine := Room.u hr7
  (vss_cons (vs_for (passes_of rfl) rfl (vi_enum rfl (g_enumerate F) (va_cons (ve_nm 0 rfl (.inl rfl)) va_nil)) (vg_tup rfl (vgs_cons (vg_nm sc_wrong_sign.nd rfl (.inl rfl)) (vgs_cons (vg_nm sc_wrong_sign.nd rfl (.inl rfl)) vgs_nil))) (vss_one (vs_if (vt_w (vw_and (vt_cmpR (cr_nmem hu) (ve_nm 3 rfl (.inl rfl)) (ve_nm 1 rfl (.inl rfl))) (vw_and (vt_cmpR (cr_ne hu) (ve_nm 3 rfl (.inl rfl)) (ve_gstr (g_STRANGER F))) (vw_and1 (vt_cmpR (cr_ne hu) (ve_nm 3 rfl (.inl rfl)) (ve_gstr (g_HOLE F))))))) (vss_one (vs_ret (ve_nm 2 rfl (.inl rfl)))) vss_nil))) (vss_one (vs_ret ve_non)))
theorem b_first_wrong (F : Fcts HD K mg) (ih : Good PySem.Challenge.pw_mendedtexts_k01_letters_and_fillings w K mg base n) (f : Addr) (pv : Nat → Option V) (cdv : Value) (A : Around) (outer : List PySem.Env) (s : Shared) (H : Hp) (E : XK) (hr7 : Room (4 * n + 7) (A.deeper (envOfC "first_wrong" sc_t_first_wrong s.heap.objs.size f cdv))) :
    VSs ⟨callF tab xt.sub n, xt.sub⟩ ⟨none, pv⟩ (cxOf (L2.CX PySem.Challenge.pw_mendedtexts_k01_letters_and_fillings w) PySem.Challenge.pw_mendedtexts_k01_letters_and_fillings w K mg base n_first_wrong "first_wrong" sc_t_first_wrong f cdv A outer s H E) (defBody (top 15)) c_first_wrong :=
  have hr4 : Room (4 * n + 4) (A.deeper (envOfC "first_wrong" sc_t_first_wrong s.heap.objs.size f cdv)) := hr7.mono (by omega)
  have hr2 : Room 2 (A.deeper (envOfC "first_wrong" sc_t_first_wrong s.heap.objs.size f cdv)) := hr7.mono (by omega)
  have hu : (A.deeper (envOfC "first_wrong" sc_t_first_wrong s.heap.objs.size f cdv)).units + 200 < cLine := Room.u hr7
  (vss_cons (vs_set sc_first_wrong.nd rfl (.inl rfl) (ve_call (fn_wrong_sign_2 F ih hr4) rfl (va_cons (ve_nm 0 rfl (.inl rfl)) (va_cons (ve_nm 1 rfl (.inl rfl)) va_nil)))) (vss_cons (vs_if (vt_w (vw_and (vt_cmpR cr_is (ve_nm 2 rfl (.inl rfl)) ve_non) (vw_and1 (vt_cmpR cr_gt (ve_len (g_len F) (va_cons (ve_nm 0 rfl (.inl rfl)) va_nil)) (ve_gint (g_MOST_LETTERS F)))))) (vss_one (vs_ret (ve_gint (g_MOST_LETTERS F)))) vss_nil) (vss_one (vs_ret (ve_nm 2 rfl (.inl rfl))))))
theorem b_check_text (F : Fcts HD K mg) (ih : Good PySem.Challenge.pw_mendedtexts_k01_letters_and_fillings w K mg base n) (f : Addr) (pv : Nat → Option V) (cdv : Value) (A : Around) (outer : List PySem.Env) (s : Shared) (H : Hp) (E : XK) (hr7 : Room (4 * n + 7) (A.deeper (envOfC "check_text" sc_t_check_text s.heap.objs.size f cdv))) :
    VSs ⟨callF tab xt.sub n, xt.sub⟩ ⟨none, pv⟩ (cxOf (L2.CX PySem.Challenge.pw_mendedtexts_k01_letters_and_fillings w) PySem.Challenge.pw_mendedtexts_k01_letters_and_fillings w K mg base n_check_text "check_text" sc_t_check_text f cdv A outer s H E) (defBody (top 16)) c_check_text :=
  have hr4 : Room (4 * n + 4) (A.deeper (envOfC "check_text" sc_t_check_text s.heap.objs.size f cdv)) := hr7.mono (by omega)
  have hr2 : Room 2 (A.deeper (envOfC "check_text" sc_t_check_text s.heap.objs.size f cdv)) := hr7.mono (by omega)
  have hu : (A.deeper (envOfC "check_text" sc_t_check_text s.heap.objs.size f cdv)).units + 200 < cLine := Room.u hr7
  (vss_cons (vs_set sc_check_text.nd rfl (.inl rfl) (ve_call (fn_first_wrong_2 F ih hr4) rfl (va_cons (ve_nm 0 rfl (.inl rfl)) (va_cons (ve_nm 1 rfl (.inl rfl)) va_nil)))) (vss_one (vs_if (vt_cmpR cr_isnot (ve_nm 2 rfl (.inl rfl)) ve_non) (vss_one (vs_raise rfl ((vxc_BadText F rfl).vx hr2 rfl (ve_nm 2 rfl (.inl rfl))))) vss_nil)))
theorem b_hole_places (F : Fcts HD K mg) (ih : Good PySem.Challenge.pw_mendedtexts_k01_letters_and_fillings w K mg base n) (f : Addr) (pv : Nat → Option V) (cdv : Value) (A : Around) (outer : List PySem.Env) (s : Shared) (H : Hp) (E : XK) (hr7 : Room (4 * n + 7) (A.deeper (envOfC "hole_places" sc_t_hole_places s.heap.objs.size f cdv))) :
    VSs ⟨callF tab xt.sub n, xt.sub⟩ ⟨none, pv⟩ (cxOf (L2.CX PySem.Challenge.pw_mendedtexts_k01_letters_and_fillings w) PySem.Challenge.pw_mendedtexts_k01_letters_and_fillings w K mg base n_hole_places "hole_places" sc_t_hole_places f cdv A outer s H E) (defBody (top 17)) c_hole_places :=
  have hr4 : Room (4 * n + 4) (A.deeper (envOfC "hole_places" sc_t_hole_places s.heap.objs.size f cdv)) := hr7.mono (by omega)
  have hr2 : Room 2 (A.deeper (envOfC "hole_places" sc_t_hole_places s.heap.objs.size f cdv)) := hr7.mono (by omega)
  have hu : (A.deeper (envOfC "hole_places" sc_t_hole_places s.heap.objs.size f cdv)).units + 200 < cLine := Room.u hr7
  (vss_cons (vs_expr (ve_call (fn_check_text_1 F ih hr4) rfl (va_cons (ve_nm 0 rfl (.inl rfl)) va_nil))) (vss_one (vs_ret (ve_lc (own := [("at", 1), ("sign", 2)]) rfl sc_hole_places.nd (vi_enum rfl (g_enumerate F) (va_cons (ve_nm 0 rfl (.inl rfl)) va_nil)) bk_hole_places_0 (fun _ _ _ _ _ => (vg_tup rfl (vgs_cons (vg_nm sc_hole_places.nd rfl (.inl rfl)) (vgs_cons (vg_nm sc_hole_places.nd rfl (.inl rfl)) vgs_nil)))) (fun _ _ _ _ _ => (vts_one (vt_cmpR (cr_eq hu) (ve_nm 2 rfl (.inl rfl)) (ve_gstr (g_HOLE F))))) (fun _ _ _ _ _ => (ve_nm 1 rfl (.inl rfl)))))))
theorem b_mirrored (F : Fcts HD K mg) (ih : Good PySem.Challenge.pw_mendedtexts_k01_letters_and_fillings w K mg base n) (f : Addr) (pv : Nat → Option V) (cdv : Value) (A : Around) (outer : List PySem.Env) (s : Shared) (H : Hp) (E : XK) (hr7 : Room (4 * n + 7) (A.deeper (envOfC "mirrored" sc_t_mirrored s.heap.objs.size f cdv))) :
    VSs ⟨callF tab xt.sub n, xt.sub⟩ ⟨none, pv⟩ (cxOf (L2.CX PySem.Challenge.pw_mendedtexts_k01_letters_and_fillings w) PySem.Challenge.pw_mendedtexts_k01_letters_and_fillings w K mg base n_mirrored "mirrored" sc_t_mirrored f cdv A outer s H E) (defBody (top 18)) c_mirrored :=
  have hr4 : Room (4 * n + 4) (A.deeper (envOfC "mirrored" sc_t_mirrored s.heap.objs.size f cdv)) := hr7.mono (by omega)
  have hr2 : Room 2 (A.deeper (envOfC "mirrored" sc_t_mirrored s.heap.objs.size f cdv)) := hr7.mono (by omega)
  have hu : (A.deeper (envOfC "mirrored" sc_t_mirrored s.heap.objs.size f cdv)).units + 200 < cLine := Room.u hr7
  (vss_cons (vs_expr (ve_call (fn_check_text_1 F ih hr4) rfl (va_cons (ve_nm 0 rfl (.inl rfl)) va_nil))) (vss_one (vs_ret (ve_rev (ve_nm 0 rfl (.inl rfl))))))
theorem b_fillings (F : Fcts HD K mg) (ih : Good PySem.Challenge.pw_mendedtexts_k01_letters_and_fillings w K mg base n) (f : Addr) (pv : Nat → Option V) (cdv : Value) (A : Around) (outer : List PySem.Env) (s : Shared) (H : Hp) (E : XK) (pn : List (Addr × Obj)) (hr7 : Room (4 * n + 7) (A.deeper (envOfC "fillings" sc_t_fillings s.heap.objs.size f cdv))) :
    VGSs ⟨callF tab xt.sub n, xt.sub⟩ ⟨none, pv⟩ (gcxOf PySem.Challenge.pw_mendedtexts_k01_letters_and_fillings w K mg base n_fillings "fillings" sc_t_fillings f cdv A outer s H E pn) (defBody (top 19)) c_fillings :=
  have hr4 : Room (4 * n + 4) (A.deeper (envOfC "fillings" sc_t_fillings s.heap.objs.size f cdv)) := hr7.mono (by omega)
  have hr2 : Room 2 (A.deeper (envOfC "fillings" sc_t_fillings s.heap.objs.size f cdv)) := hr7.mono (by omega)
  have hu : (A.deeper (envOfC "fillings" sc_t_fillings s.heap.objs.size f cdv)).units + 200 < cLine := Room.u hr7
  (vgs_cons' (vg_plain (vs_set sc_fillings.nd rfl (.inl rfl) (ve_call (fn_hole_places_1 F ih hr4) rfl (va_cons (ve_nm 0 rfl (.inl rfl)) va_nil)))) (vgs_cons' (vg_plain (vs_if (vt_not (vt_tru (ve_call (fn_is_row_2 F ih hr4) rfl (va_cons (ve_nm 1 rfl (.inl rfl)) (va_cons ve_int va_nil))))) (vss_one (vs_raise rfl ((vxc_BadLetters F rfl).vx hr2 rfl (ve_nm 1 rfl (.inl rfl))))) vss_nil)) (vgs_cons' (vg_plain (vs_set sc_fillings.nd rfl (.inl rfl) (ve_call (fn_filling_count_2 F ih hr4) rfl (va_cons (ve_len (g_len F) (va_cons (ve_nm 2 rfl (.inl rfl)) va_nil)) (va_cons (ve_len (g_len F) (va_cons (ve_nm 1 rfl (.inl rfl)) va_nil)) va_nil))))) (vgs_cons' (vg_plain (vs_if (vt_cmpR cr_gt (ve_nm 3 rfl (.inl rfl)) (ve_gint (g_MOST_FILLINGS F))) (vss_one (vs_raise rfl ((vxc_TooMany F rfl).vx hr2 rfl (ve_nm 3 rfl (.inl rfl))))) vss_nil)) (vgs_one (vg_for owns_gcx rfl (vi_rng1 rfl (g_range F) (va_cons (ve_nm 3 rfl (.inl rfl)) va_nil)) (vg_nm sc_fillings.nd rfl (.inl rfl)) (vgs_one (vg_yield (ve_call (fn_filled_4 F ih hr4) rfl (va_cons (ve_nm 0 rfl (.inl rfl)) (va_cons (ve_nm 2 rfl (.inl rfl)) (va_cons (ve_nm 1 rfl (.inl rfl)) (va_cons (ve_nm 4 rfl (.inl rfl)) va_nil)))))))))))))
theorem b_filling_count (F : Fcts HD K mg) (ih : Good PySem.Challenge.pw_mendedtexts_k01_letters_and_fillings w K mg base n) (f : Addr) (pv : Nat → Option V) (cdv : Value) (A : Around) (outer : List PySem.Env) (s : Shared) (H : Hp) (E : XK) (hr7 : Room (4 * n + 7) (A.deeper (envOfC "filling_count" sc_t_filling_count s.heap.objs.size f cdv))) :
    VSs ⟨callF tab xt.sub n, xt.sub⟩ ⟨none, pv⟩ (cxOf (L2.CX PySem.Challenge.pw_mendedtexts_k01_letters_and_fillings w) PySem.Challenge.pw_mendedtexts_k01_letters_and_fillings w K mg base n_filling_count "filling_count" sc_t_filling_count f cdv A outer s H E) (defBody (top 20)) c_filling_count :=
  have hr4 : Room (4 * n + 4) (A.deeper (envOfC "filling_count" sc_t_filling_count s.heap.objs.size f cdv)) := hr7.mono (by omega)
  have hr2 : Room 2 (A.deeper (envOfC "filling_count" sc_t_filling_count s.heap.objs.size f cdv)) := hr7.mono (by omega)
  have hu : (A.deeper (envOfC "filling_count" sc_t_filling_count s.heap.objs.size f cdv)).units + 200 < cLine := Room.u hr7
  (vss_cons (vs_set sc_filling_count.nd rfl (.inl rfl) ve_int) (vss_cons (vs_for (passes_of rfl) rfl (vi_rng1 rfl (g_range F) (va_cons (ve_nm 0 rfl (.inl rfl)) va_nil)) (vg_nm sc_filling_count.nd rfl (.inl rfl)) (vss_one (vs_set sc_filling_count.nd rfl (.inl rfl) (ve_mul (ve_nm 2 rfl (.inl rfl)) (ve_nm 1 rfl (.inl rfl)))))) (vss_one (vs_ret (ve_nm 2 rfl (.inl rfl))))))
theorem b_filled (F : Fcts HD K mg) (ih : Good PySem.Challenge.pw_mendedtexts_k01_letters_and_fillings w K mg base n) (f : Addr) (pv : Nat → Option V) (cdv : Value) (A : Around) (outer : List PySem.Env) (s : Shared) (H : Hp) (E : XK) (hr7 : Room (4 * n + 7) (A.deeper (envOfC "filled" sc_t_filled s.heap.objs.size f cdv))) :
    VSs ⟨callF tab xt.sub n, xt.sub⟩ ⟨none, pv⟩ (cxOf (L2.CX PySem.Challenge.pw_mendedtexts_k01_letters_and_fillings w) PySem.Challenge.pw_mendedtexts_k01_letters_and_fillings w K mg base n_filled "filled" sc_t_filled f cdv A outer s H E) (defBody (top 21)) c_filled :=
  have hr4 : Room (4 * n + 4) (A.deeper (envOfC "filled" sc_t_filled s.heap.objs.size f cdv)) := hr7.mono (by omega)
  have hr2 : Room 2 (A.deeper (envOfC "filled" sc_t_filled s.heap.objs.size f cdv)) := hr7.mono (by omega)
  have hu : (A.deeper (envOfC "filled" sc_t_filled s.heap.objs.size f cdv)).units + 200 < cLine := Room.u hr7
  (vss_cons (vs_set sc_filled.nd rfl (.inl rfl) (ve_list rfl (g_list F) (va_cons (ve_nm 0 rfl (.inl rfl)) va_nil))) (vss_cons (vs_set sc_filled.nd rfl (.inl rfl) (ve_nm 3 rfl (.inl rfl))) (vss_cons (vs_for (passes_of rfl) rfl (vi_seq (ve_rev (ve_nm 1 rfl (.inl rfl)))) (vg_nm sc_filled.nd rfl (.inl rfl)) (vss_cons (vs_sub hu (ve_nm 4 rfl (.inl rfl)) (ve_nm 6 rfl (.inl rfl)) (ve_ix (ve_nm 2 rfl (.inl rfl)) (ve_mod (ve_nm 5 rfl (.inl rfl)) (ve_len (g_len F) (va_cons (ve_nm 2 rfl (.inl rfl)) va_nil))))) (vss_one (vs_set sc_filled.nd rfl (.inl rfl) (ve_fdiv (ve_nm 5 rfl (.inl rfl)) (ve_len (g_len F) (va_cons (ve_nm 2 rfl (.inl rfl)) va_nil))))))) (vss_one (vs_ret (ve_join ve_str (va_cons (ve_nm 4 rfl (.inl rfl)) va_nil)))))))
theorem b_strange (F : Fcts HD K mg) (ih : Good PySem.Challenge.pw_mendedtexts_k01_letters_and_fillings w K mg base n) (f : Addr) (pv : Nat → Option V) (cdv : Value) (A : Around) (outer : List PySem.Env) (s : Shared) (H : Hp) (E : XK) (hr7 : Room (4 * n + 7) (A.deeper (envOfC "strange" sc_t_strange s.heap.objs.size f cdv))) :
    VSs ⟨callF tab xt.sub n, xt.sub⟩ ⟨none, pv⟩ (cxOf (L2.CX PySem.Challenge.pw_mendedtexts_k01_letters_and_fillings w) PySem.Challenge.pw_mendedtexts_k01_letters_and_fillings w K mg base n_strange "strange" sc_t_strange f cdv A outer s H E) (defBody (top 22)) c_strange :=
  have hr4 : Room (4 * n + 4) (A.deeper (envOfC "strange" sc_t_strange s.heap.objs.size f cdv)) := hr7.mono (by omega)
  have hr2 : Room 2 (A.deeper (envOfC "strange" sc_t_strange s.heap.objs.size f cdv)) := hr7.mono (by omega)
  have hu : (A.deeper (envOfC "strange" sc_t_strange s.heap.objs.size f cdv)).units + 200 < cLine := Room.u hr7
  (vss_cons (vs_expr (ve_call (fn_check_text_1 F ih hr4) rfl (va_cons (ve_nm 0 rfl (.inl rfl)) va_nil))) (vss_cons (vs_for (passes_of rfl) rfl (vi_seq (ve_nm 1 rfl (.inr (.inl rfl)))) (vg_nm sc_strange.nd rfl (.inl rfl)) (vss_one (vs_if (vt_not (vt_chn cr_le cr_lt ve_int (ve_nm 2 rfl (.inl rfl)) (ve_len (g_len F) (va_cons (ve_nm 0 rfl (.inl rfl)) va_nil)))) (vss_one (vs_raise rfl ((vxc_NoPlace F rfl).vx hr2 rfl (ve_nm 2 rfl (.inl rfl))))) vss_nil))) (vss_one (vs_ret (ve_join ve_str (va_cons (ve_lc (own := [("at", 3), ("sign", 4)]) rfl sc_strange.nd (vi_enum rfl (g_enumerate F) (va_cons (ve_nm 0 rfl (.inl rfl)) va_nil)) bk_strange_0 (fun _ _ _ _ _ => (vg_tup rfl (vgs_cons (vg_nm sc_strange.nd rfl (.inl rfl)) (vgs_cons (vg_nm sc_strange.nd rfl (.inl rfl)) vgs_nil)))) (fun _ _ _ _ _ => vts_nil) (fun _ _ _ _ _ => (ve_ite (vt_cmpR (cr_mem hu) (ve_nm 3 rfl (.inl rfl)) (ve_nm 1 rfl (.inr (.inl rfl)))) (ve_gstr (g_STRANGER F)) (ve_nm 4 rfl (.inl rfl))))) va_nil))))))
theorem b_check_moves (F : Fcts HD K mg) (ih : Good PySem.Challenge.pw_mendedtexts_k01_letters_and_fillings w K mg base n) (f : Addr) (pv : Nat → Option V) (cdv : Value) (A : Around) (outer : List PySem.Env) (s : Shared) (H : Hp) (E : XK) (hr7 : Room (4 * n + 7) (A.deeper (envOfC "check_moves" sc_t_check_moves s.heap.objs.size f cdv))) :
    VSs ⟨callF tab xt.sub n, xt.sub⟩ ⟨none, pv⟩ (cxOf (L2.CX PySem.Challenge.pw_mendedtexts_k01_letters_and_fillings w) PySem.Challenge.pw_mendedtexts_k01_letters_and_fillings w K mg base n_check_moves "check_moves" sc_t_check_moves f cdv A outer s H E) (defBody (top 23)) c_check_moves :=
  have hr4 : Room (4 * n + 4) (A.deeper (envOfC "check_moves" sc_t_check_moves s.heap.objs.size f cdv)) := hr7.mono (by omega)
  have hr2 : Room 2 (A.deeper (envOfC "check_moves" sc_t_check_moves s.heap.objs.size f cdv)) := hr7.mono (by omega)
  have hu : (A.deeper (envOfC "check_moves" sc_t_check_moves s.heap.objs.size f cdv)).units + 200 < cLine := Room.u hr7
  (vss_cons (vs_set sc_check_moves.nd rfl (.inl rfl) (ve_list rfl (g_list F) (va_cons (ve_nm 0 rfl (.inl rfl)) va_nil))) (vss_cons (vs_set sc_check_moves.nd rfl (.inl rfl) (ve_lst va_nil)) (vss_one (vs_for (passes_of rfl) rfl (vi_seq (ve_nm 1 rfl (.inl rfl))) (vg_nm sc_check_moves.nd rfl (.inl rfl)) (vss_cons (vs_set sc_check_moves.nd rfl (.inl rfl) (ve_dix hu (ve_nm 0 rfl (.inl rfl)) (ve_nm 3 rfl (.inl rfl)))) (vss_cons (vs_if (vt_w (vw_or (vt_not (vt_tru (ve_call (fn_is_token_1 F ih hr4) rfl (va_cons (ve_nm 3 rfl (.inl rfl)) va_nil)))) (vw_or (vt_cmpR (cr_nmem hu) (ve_nm 4 rfl (.inl rfl)) (ve_nm 1 rfl (.inl rfl))) (vw_or1 (vt_cmpR (cr_mem hu) (ve_nm 4 rfl (.inl rfl)) (ve_nm 2 rfl (.inl rfl))))))) (vss_one (vs_raise rfl ((vxc_BadLetters F rfl).vx hr2 rfl (ve_nm 3 rfl (.inl rfl))))) vss_nil) (vss_one (vs_expr (ve_append (ve_nm 2 rfl (.inl rfl)) (va_cons (ve_nm 4 rfl (.inl rfl)) va_nil))))))))))
theorem b_recast (F : Fcts HD K mg) (ih : Good PySem.Challenge.pw_mendedtexts_k01_letters_and_fillings w K mg base n) (f : Addr) (pv : Nat → Option V) (cdv : Value) (A : Around) (outer : List PySem.Env) (s : Shared) (H : Hp) (E : XK) (hr7 : Room (4 * n + 7) (A.deeper (envOfC "recast" sc_t_recast s.heap.objs.size f cdv))) :
    VSs ⟨callF tab xt.sub n, xt.sub⟩ ⟨none, pv⟩ (cxOf (L2.CX PySem.Challenge.pw_mendedtexts_k01_letters_and_fillings w) PySem.Challenge.pw_mendedtexts_k01_letters_and_fillings w K mg base n_recast "recast" sc_t_recast f cdv A outer s H E) (defBody (top 24)) c_recast :=
  have hr4 : Room (4 * n + 4) (A.deeper (envOfC "recast" sc_t_recast s.heap.objs.size f cdv)) := hr7.mono (by omega)
  have hr2 : Room 2 (A.deeper (envOfC "recast" sc_t_recast s.heap.objs.size f cdv)) := hr7.mono (by omega)
  have hu : (A.deeper (envOfC "recast" sc_t_recast s.heap.objs.size f cdv)).units + 200 < cLine := Room.u hr7
  (vss_cons (vs_expr (ve_call (fn_check_text_1 F ih hr4) rfl (va_cons (ve_nm 0 rfl (.inl rfl)) va_nil))) (vss_cons (vs_expr (ve_call (fn_check_moves_1 F ih hr4) rfl (va_cons (ve_nm 1 rfl (.inr (.inl rfl))) va_nil))) (vss_one (vs_ret (ve_join ve_str (va_cons (ve_lc (own := [("sign", 2)]) rfl sc_recast.nd (vi_seq (ve_nm 0 rfl (.inl rfl))) bk_recast_0 (fun _ _ _ _ _ => (vg_nm sc_recast.nd rfl (.inl rfl))) (fun _ _ _ _ _ => vts_nil) (fun _ _ _ _ _ => (ve_get2 hu (ve_nm 1 rfl (.inr (.inl rfl))) (ve_nm 2 rfl (.inl rfl)) (ve_nm 2 rfl (.inl rfl)) ⟨rfl, rfl, rfl, rfl⟩))) va_nil))))))
theorem b__law_pool (F : Fcts HD K mg) (ih : Good PySem.Challenge.pw_mendedtexts_k01_letters_and_fillings w K mg base n) (f : Addr) (pv : Nat → Option V) (cdv : Value) (A : Around) (outer : List PySem.Env) (s : Shared) (H : Hp) (E : XK) (hr7 : Room (4 * n + 7) (A.deeper (envOfC "_law_pool" sc_t__law_pool s.heap.objs.size f cdv))) :
    VSs ⟨callF tab xt.sub n, xt.sub⟩ ⟨none, pv⟩ (cxOf (L2.CX PySem.Challenge.pw_mendedtexts_k01_letters_and_fillings w) PySem.Challenge.pw_mendedtexts_k01_letters_and_fillings w K mg base n__law_pool "_law_pool" sc_t__law_pool f cdv A outer s H E) (defBody (top 26)) c__law_pool :=
  have hr4 : Room (4 * n + 4) (A.deeper (envOfC "_law_pool" sc_t__law_pool s.heap.objs.size f cdv)) := hr7.mono (by omega)
  have hr2 : Room 2 (A.deeper (envOfC "_law_pool" sc_t__law_pool s.heap.objs.size f cdv)) := hr7.mono (by omega)
  have hu : (A.deeper (envOfC "_law_pool" sc_t__law_pool s.heap.objs.size f cdv)).units + 200 < cLine := Room.u hr7
  (vss_cons (vs_setLc (own := [("cell", 3)]) rfl sc__law_pool.nd rfl rfl rfl (vi_seq (ve_sl (ve_nm 0 rfl (.inl rfl)) vo_none (vo_some ve_int))) bk__law_pool_0 (fun _ _ _ _ _ => (vg_nm sc__law_pool.nd rfl (.inl rfl))) (fun _ _ _ _ _ => vts_nil) (fun _ _ _ _ _ => (ve_mod (ve_abs (g_abs F) (va_cons (ve_nm 3 rfl (.inl rfl)) va_nil)) (ve_pow ve_int ve_int)))) (vss_cons (vs_set sc__law_pool.nd rfl (.inl rfl) ve_int) (vss_one (vs_ret (ve_add (ve_nm 1 rfl (.inl rfl)) (ve_lst (va_cons (ve_add (ve_pow (ve_nm 2 rfl (.inl rfl)) ve_int) (ve_mul ve_int (ve_sum rfl (g_sum F) (va_cons (ve_nm 1 rfl (.inl rfl)) va_nil)))) va_nil)))))))
theorem b__law_draw (F : Fcts HD K mg) (ih : Good PySem.Challenge.pw_mendedtexts_k01_letters_and_fillings w K mg base n) (f : Addr) (pv : Nat → Option V) (cdv : Value) (A : Around) (outer : List PySem.Env) (s : Shared) (H : Hp) (E : XK) (hr7 : Room (4 * n + 7) (A.deeper (envOfC "_law_draw" sc_t__law_draw s.heap.objs.size f cdv))) :
    VSs ⟨callF tab xt.sub n, xt.sub⟩ ⟨none, pv⟩ (cxOf (L2.CX PySem.Challenge.pw_mendedtexts_k01_letters_and_fillings w) PySem.Challenge.pw_mendedtexts_k01_letters_and_fillings w K mg base n__law_draw "_law_draw" sc_t__law_draw f cdv A outer s H E) (defBody (top 27)) c__law_draw :=
  have hr4 : Room (4 * n + 4) (A.deeper (envOfC "_law_draw" sc_t__law_draw s.heap.objs.size f cdv)) := hr7.mono (by omega)
  have hr2 : Room 2 (A.deeper (envOfC "_law_draw" sc_t__law_draw s.heap.objs.size f cdv)) := hr7.mono (by omega)
  have hu : (A.deeper (envOfC "_law_draw" sc_t__law_draw s.heap.objs.size f cdv)).units + 200 < cLine := Room.u hr7
  (vss_cons (vs_set sc__law_draw.nd rfl (.inl rfl) (ve_mod (ve_int_ (g_int F) (va_cons (ve_ix (ve_nm 0 rfl (.inl rfl)) ve_int) va_nil)) (ve_nm 1 rfl (.inl rfl)))) (vss_cons (vs_sub hu (ve_nm 0 rfl (.inl rfl)) ve_int (ve_fdiv (ve_ix (ve_nm 0 rfl (.inl rfl)) ve_int) (ve_nm 1 rfl (.inl rfl)))) (vss_cons (vs_if (vt_w (vw_and (vt_cmpR (cr_eq hu) (ve_ix (ve_nm 0 rfl (.inl rfl)) ve_int) ve_int) (vw_and1 (vt_cmpR cr_gt (ve_len (g_len F) (va_cons (ve_nm 0 rfl (.inl rfl)) va_nil)) ve_int)))) (vss_one (vs_expr (ve_popAt (ve_nm 0 rfl (.inl rfl)) (va_cons ve_int va_nil)))) vss_nil) (vss_one (vs_ret (ve_nm 2 rfl (.inl rfl)))))))
theorem b__law_is (F : Fcts HD K mg) (ih : Good PySem.Challenge.pw_mendedtexts_k01_letters_and_fillings w K mg base n) (f : Addr) (pv : Nat → Option V) (cdv : Value) (A : Around) (outer : List PySem.Env) (s : Shared) (H : Hp) (E : XK) (hr7 : Room (4 * n + 7) (A.deeper (envOfC "_law_is" sc_t__law_is s.heap.objs.size f cdv))) :
    VSs ⟨callF tab xt.sub n, xt.sub⟩ ⟨none, pv⟩ (cxOf (L2.CX PySem.Challenge.pw_mendedtexts_k01_letters_and_fillings w) PySem.Challenge.pw_mendedtexts_k01_letters_and_fillings w K mg base n__law_is "_law_is" sc_t__law_is f cdv A outer s H E) (defBody (top 28)) c__law_is :=
  have hr4 : Room (4 * n + 4) (A.deeper (envOfC "_law_is" sc_t__law_is s.heap.objs.size f cdv)) := hr7.mono (by omega)
  have hr2 : Room 2 (A.deeper (envOfC "_law_is" sc_t__law_is s.heap.objs.size f cdv)) := hr7.mono (by omega)
  have hu : (A.deeper (envOfC "_law_is" sc_t__law_is s.heap.objs.size f cdv)).units + 200 < cLine := Room.u hr7
  (vss_cons (vs_if (vt_cmpR cr_is (ve_nm 1 rfl (.inr (.inl rfl))) ve_non) (vss_one (vs_ret (ve_cmpR cr_is (ve_nm 0 rfl (.inr (.inl rfl))) ve_non))) vss_nil) (vss_cons (vs_if (vt_tru (ve_isi (by decide) (g_isinstance F) (g_bool F) bo_bool (ve_nm 1 rfl (.inr (.inl rfl))))) (vss_one (vs_ret (ve_and (ve_isi (by decide) (g_isinstance F) (g_bool F) bo_bool (ve_nm 0 rfl (.inr (.inl rfl)))) (ve_one (ve_cmpR (cr_eq hu) (ve_nm 0 rfl (.inr (.inl rfl))) (ve_nm 1 rfl (.inr (.inl rfl)))))))) vss_nil) (vss_cons (vs_if (vt_tru (ve_isi (by decide) (g_isinstance F) (g_int F) bo_int (ve_nm 1 rfl (.inr (.inl rfl))))) (vss_one (vs_ret (ve_and (ve_isi (by decide) (g_isinstance F) (g_int F) bo_int (ve_nm 0 rfl (.inr (.inl rfl)))) (ve_and (ve_not (ve_isi (by decide) (g_isinstance F) (g_bool F) bo_bool (ve_nm 0 rfl (.inr (.inl rfl))))) (ve_one (ve_cmpR (cr_eq hu) (ve_nm 0 rfl (.inr (.inl rfl))) (ve_nm 1 rfl (.inr (.inl rfl))))))))) vss_nil) (vss_cons (vs_if (vt_tru (ve_isi (by decide) (g_isinstance F) (g_str F) bo_str (ve_nm 1 rfl (.inr (.inl rfl))))) (vss_one (vs_ret (ve_and (ve_isi (by decide) (g_isinstance F) (g_str F) bo_str (ve_nm 0 rfl (.inr (.inl rfl)))) (ve_one (ve_cmpR (cr_eq hu) (ve_nm 0 rfl (.inr (.inl rfl))) (ve_nm 1 rfl (.inr (.inl rfl)))))))) vss_nil) (vss_cons (vs_if (vt_w (vw_or (vt_not (vt_tru (ve_isi (by decide) (g_isinstance F) (g_list F) bo_list (ve_nm 0 rfl (.inr (.inl rfl)))))) (vw_or1 (vt_cmpR (cr_ne hu) (ve_len (g_len F) (va_cons (ve_nm 0 rfl (.inr (.inl rfl))) va_nil)) (ve_len (g_len F) (va_cons (ve_nm 1 rfl (.inr (.inl rfl))) va_nil)))))) (vss_one (vs_ret ve_bl)) vss_nil) (vss_one (vs_ret (ve_all rfl (g_all F) (va_cons (ve_lc (own := [("k", 2)]) rfl sc__law_is.nd (vi_rng1 rfl (g_range F) (va_cons (ve_len (g_len F) (va_cons (ve_nm 1 rfl (.inr (.inl rfl))) va_nil)) va_nil)) bk__law_is_0 (fun _ _ _ _ _ => (vg_nm sc__law_is.nd rfl (.inl rfl))) (fun _ _ _ _ _ => vts_nil) (fun _ _ _ _ _ => (ve_callR (fn__law_is_2 F ih hr4) rfl (va_cons (ve_ix (ve_nm 0 rfl (.inr (.inl rfl))) (ve_nm 2 rfl (.inl rfl))) (va_cons (ve_ix (ve_nm 1 rfl (.inr (.inl rfl))) (ve_nm 2 rfl (.inl rfl))) va_nil))))) va_nil)))))))))
theorem b__law_letters (F : Fcts HD K mg) (ih : Good PySem.Challenge.pw_mendedtexts_k01_letters_and_fillings w K mg base n) (f : Addr) (pv : Nat → Option V) (cdv : Value) (A : Around) (outer : List PySem.Env) (s : Shared) (H : Hp) (E : XK) (hr7 : Room (4 * n + 7) (A.deeper (envOfC "_law_letters" sc_t__law_letters s.heap.objs.size f cdv))) :
    VSs ⟨callF tab xt.sub n, xt.sub⟩ ⟨none, pv⟩ (cxOf (L2.CX PySem.Challenge.pw_mendedtexts_k01_letters_and_fillings w) PySem.Challenge.pw_mendedtexts_k01_letters_and_fillings w K mg base n__law_letters "_law_letters" sc_t__law_letters f cdv A outer s H E) (defBody (top 29)) c__law_letters :=
  have hr4 : Room (4 * n + 4) (A.deeper (envOfC "_law_letters" sc_t__law_letters s.heap.objs.size f cdv)) := hr7.mono (by omega)
  have hr2 : Room 2 (A.deeper (envOfC "_law_letters" sc_t__law_letters s.heap.objs.size f cdv)) := hr7.mono (by omega)
  have hu : (A.deeper (envOfC "_law_letters" sc_t__law_letters s.heap.objs.size f cdv)).units + 200 < cLine := Room.u hr7
  (vss_cons (vs_set sc__law_letters.nd rfl (.inl rfl) (ve_list rfl (g_list F) (va_cons ve_str va_nil))) (vss_cons (vs_for (passes_of rfl) rfl (vi_rng1 rfl (g_range F) (va_cons (ve_call (fn__law_draw_2 F ih hr4) rfl (va_cons (ve_nm 0 rfl (.inl rfl)) (va_cons ve_int va_nil))) va_nil)) (vg_nm sc__law_letters.nd rfl (.inl rfl)) (vss_one (vs_expr (ve_popAt (ve_nm 1 rfl (.inl rfl)) (va_cons (ve_call (fn__law_draw_2 F ih hr4) rfl (va_cons (ve_nm 0 rfl (.inl rfl)) (va_cons (ve_len (g_len F) (va_cons (ve_nm 1 rfl (.inl rfl)) va_nil)) va_nil))) va_nil))))) (vss_one (vs_ret (ve_join ve_str (va_cons (ve_nm 1 rfl (.inl rfl)) va_nil))))))
theorem b__law_text (F : Fcts HD K mg) (ih : Good PySem.Challenge.pw_mendedtexts_k01_letters_and_fillings w K mg base n) (f : Addr) (pv : Nat → Option V) (cdv : Value) (A : Around) (outer : List PySem.Env) (s : Shared) (H : Hp) (E : XK) (hr7 : Room (4 * n + 7) (A.deeper (envOfC "_law_text" sc_t__law_text s.heap.objs.size f cdv))) :
    VSs ⟨callF tab xt.sub n, xt.sub⟩ ⟨none, pv⟩ (cxOf (L2.CX PySem.Challenge.pw_mendedtexts_k01_letters_and_fillings w) PySem.Challenge.pw_mendedtexts_k01_letters_and_fillings w K mg base n__law_text "_law_text" sc_t__law_text f cdv A outer s H E) (defBody (top 30)) c__law_text :=
  have hr4 : Room (4 * n + 4) (A.deeper (envOfC "_law_text" sc_t__law_text s.heap.objs.size f cdv)) := hr7.mono (by omega)
  have hr2 : Room 2 (A.deeper (envOfC "_law_text" sc_t__law_text s.heap.objs.size f cdv)) := hr7.mono (by omega)
  have hu : (A.deeper (envOfC "_law_text" sc_t__law_text s.heap.objs.size f cdv)).units + 200 < cLine := Room.u hr7
  (vss_cons (vs_set sc__law_text.nd rfl (.inl rfl) (ve_call (fn__law_draw_2 F ih hr4) rfl (va_cons (ve_nm 0 rfl (.inr (.inl rfl))) (va_cons ve_int va_nil)))) (vss_one (vs_ret (ve_join ve_str (va_cons (ve_lc (own := [("k", 2)]) rfl sc__law_text.nd (vi_rng1 rfl (g_range F) (va_cons (ve_nm 1 rfl (.inl rfl)) va_nil)) bk__law_text_0 (fun _ _ _ _ _ => (vg_nm sc__law_text.nd rfl (.inl rfl))) (fun _ _ _ _ _ => vts_nil) (fun _ _ _ _ _ => (ve_ix ve_str (ve_call (fn__law_draw_2 F ih hr4) rfl (va_cons (ve_nm 0 rfl (.inr (.inl rfl))) (va_cons ve_int va_nil)))))) va_nil)))))
theorem b__law_odd (F : Fcts HD K mg) (ih : Good PySem.Challenge.pw_mendedtexts_k01_letters_and_fillings w K mg base n) (f : Addr) (pv : Nat → Option V) (cdv : Value) (A : Around) (outer : List PySem.Env) (s : Shared) (H : Hp) (E : XK) (hr7 : Room (4 * n + 7) (A.deeper (envOfC "_law_odd" sc_t__law_odd s.heap.objs.size f cdv))) :
    VSs ⟨callF tab xt.sub n, xt.sub⟩ ⟨none, pv⟩ (cxOf (L2.CX PySem.Challenge.pw_mendedtexts_k01_letters_and_fillings w) PySem.Challenge.pw_mendedtexts_k01_letters_and_fillings w K mg base n__law_odd "_law_odd" sc_t__law_odd f cdv A outer s H E) (defBody (top 31)) c__law_odd :=
  have hr4 : Room (4 * n + 4) (A.deeper (envOfC "_law_odd" sc_t__law_odd s.heap.objs.size f cdv)) := hr7.mono (by omega)
  have hr2 : Room 2 (A.deeper (envOfC "_law_odd" sc_t__law_odd s.heap.objs.size f cdv)) := hr7.mono (by omega)
  have hu : (A.deeper (envOfC "_law_odd" sc_t__law_odd s.heap.objs.size f cdv)).units + 200 < cLine := Room.u hr7
  (vss_cons (vs_set sc__law_odd.nd rfl (.inl rfl) ve_str) (vss_cons (vs_set sc__law_odd.nd rfl (.inl rfl) (ve_add (ve_nm 2 rfl (.inl rfl)) ve_str)) (vss_cons (vs_set sc__law_odd.nd rfl (.inl rfl) (ve_ix (ve_nm 2 rfl (.inl rfl)) (ve_call (fn__law_draw_2 F ih hr4) rfl (va_cons (ve_nm 0 rfl (.inl rfl)) (va_cons ve_int va_nil))))) (vss_cons (vs_set sc__law_odd.nd rfl (.inl rfl) (ve_call (fn__law_draw_2 F ih hr4) rfl (va_cons (ve_nm 0 rfl (.inl rfl)) (va_cons (ve_add (ve_len (g_len F) (va_cons (ve_nm 1 rfl (.inl rfl)) va_nil)) ve_int) va_nil)))) (vss_cons (vs_set sc__law_odd.nd rfl (.inl rfl) (ve_sl (ve_nm 1 rfl (.inl rfl)) (vo_some (ve_add (ve_nm 4 rfl (.inl rfl)) (ve_call (fn__law_draw_2 F ih hr4) rfl (va_cons (ve_nm 0 rfl (.inl rfl)) (va_cons ve_int va_nil))))) vo_none)) (vss_cons (vs_set sc__law_odd.nd rfl (.inl rfl) (ve_ix (ve_lst (va_cons ve_str (va_cons ve_str (va_cons ve_str (va_cons (ve_mul ve_str ve_int) va_nil))))) (ve_call (fn__law_draw_2 F ih hr4) rfl (va_cons (ve_nm 0 rfl (.inl rfl)) (va_cons ve_int va_nil))))) (vss_one (vs_ret (ve_add (ve_add (ve_add (ve_sl (ve_nm 1 rfl (.inl rfl)) vo_none (vo_some (ve_nm 4 rfl (.inl rfl)))) (ve_nm 3 rfl (.inl rfl))) (ve_nm 5 rfl (.inl rfl))) (ve_nm 6 rfl (.inl rfl)))))))))))
theorem b__law_places (F : Fcts HD K mg) (ih : Good PySem.Challenge.pw_mendedtexts_k01_letters_and_fillings w K mg base n) (f : Addr) (pv : Nat → Option V) (cdv : Value) (A : Around) (outer : List PySem.Env) (s : Shared) (H : Hp) (E : XK) (hr7 : Room (4 * n + 7) (A.deeper (envOfC "_law_places" sc_t__law_places s.heap.objs.size f cdv))) :
    VSs ⟨callF tab xt.sub n, xt.sub⟩ ⟨none, pv⟩ (cxOf (L2.CX PySem.Challenge.pw_mendedtexts_k01_letters_and_fillings w) PySem.Challenge.pw_mendedtexts_k01_letters_and_fillings w K mg base n__law_places "_law_places" sc_t__law_places f cdv A outer s H E) (defBody (top 32)) c__law_places :=
  have hr4 : Room (4 * n + 4) (A.deeper (envOfC "_law_places" sc_t__law_places s.heap.objs.size f cdv)) := hr7.mono (by omega)
  have hr2 : Room 2 (A.deeper (envOfC "_law_places" sc_t__law_places s.heap.objs.size f cdv)) := hr7.mono (by omega)
  have hu : (A.deeper (envOfC "_law_places" sc_t__law_places s.heap.objs.size f cdv)).units + 200 < cLine := Room.u hr7
  (vss_cons (vs_set sc__law_places.nd rfl (.inl rfl) (ve_lst va_nil)) (vss_cons (vs_for (passes_of rfl) rfl (vi_rng1 rfl (g_range F) (va_cons (ve_call (fn__law_draw_2 F ih hr4) rfl (va_cons (ve_nm 0 rfl (.inl rfl)) (va_cons ve_int va_nil))) va_nil)) (vg_nm sc__law_places.nd rfl (.inl rfl)) (vss_one (vs_expr (ve_append (ve_nm 2 rfl (.inl rfl)) (va_cons (ve_call (fn__law_draw_2 F ih hr4) rfl (va_cons (ve_nm 0 rfl (.inl rfl)) (va_cons (ve_max2 rfl (g_max F) (va_cons ve_int (va_cons (ve_len (g_len F) (va_cons (ve_nm 1 rfl (.inl rfl)) va_nil)) va_nil))) va_nil))) va_nil))))) (vss_cons (vs_set sc__law_places.nd rfl (.inl rfl) (ve_ix (ve_lst (va_cons (ve_neg ve_int) (va_cons (ve_len (g_len F) (va_cons (ve_nm 1 rfl (.inl rfl)) va_nil)) (va_cons ve_int (va_cons (ve_pow ve_int ve_int) (va_cons (ve_neg ve_int) (va_cons ve_int va_nil))))))) (ve_call (fn__law_draw_2 F ih hr4) rfl (va_cons (ve_nm 0 rfl (.inl rfl)) (va_cons ve_int va_nil))))) (vss_cons (vs_if (vt_cmpR (cr_eq hu) (ve_call (fn__law_draw_2 F ih hr4) rfl (va_cons (ve_nm 0 rfl (.inl rfl)) (va_cons ve_int va_nil))) ve_int) (vss_one (vs_expr (ve_insert (ve_nm 2 rfl (.inl rfl)) (va_cons (ve_call (fn__law_draw_2 F ih hr4) rfl (va_cons (ve_nm 0 rfl (.inl rfl)) (va_cons (ve_add (ve_len (g_len F) (va_cons (ve_nm 2 rfl (.inl rfl)) va_nil)) ve_int) va_nil))) (va_cons (ve_nm 4 rfl (.inl rfl)) va_nil))))) vss_nil) (vss_one (vs_ret (ve_nm 2 rfl (.inl rfl))))))))
theorem b__law_pairs (F : Fcts HD K mg) (ih : Good PySem.Challenge.pw_mendedtexts_k01_letters_and_fillings w K mg base n) (f : Addr) (pv : Nat → Option V) (cdv : Value) (A : Around) (outer : List PySem.Env) (s : Shared) (H : Hp) (E : XK) (hr7 : Room (4 * n + 7) (A.deeper (envOfC "_law_pairs" sc_t__law_pairs s.heap.objs.size f cdv))) :
    VSs ⟨callF tab xt.sub n, xt.sub⟩ ⟨none, pv⟩ (cxOf (L2.CX PySem.Challenge.pw_mendedtexts_k01_letters_and_fillings w) PySem.Challenge.pw_mendedtexts_k01_letters_and_fillings w K mg base n__law_pairs "_law_pairs" sc_t__law_pairs f cdv A outer s H E) (defBody (top 33)) c__law_pairs :=
  have hr4 : Room (4 * n + 4) (A.deeper (envOfC "_law_pairs" sc_t__law_pairs s.heap.objs.size f cdv)) := hr7.mono (by omega)
  have hr2 : Room 2 (A.deeper (envOfC "_law_pairs" sc_t__law_pairs s.heap.objs.size f cdv)) := hr7.mono (by omega)
  have hu : (A.deeper (envOfC "_law_pairs" sc_t__law_pairs s.heap.objs.size f cdv)).units + 200 < cLine := Room.u hr7
  (vss_cons (vs_set sc__law_pairs.nd rfl (.inl rfl) (ve_list rfl (g_list F) (va_cons ve_str va_nil))) (vss_cons (vs_set sc__law_pairs.nd rfl (.inl rfl) (ve_lst va_nil)) (vss_cons (vs_for (passes_of rfl) rfl (vi_rng1 rfl (g_range F) (va_cons (ve_call (fn__law_draw_2 F ih hr4) rfl (va_cons (ve_nm 0 rfl (.inl rfl)) (va_cons ve_int va_nil))) va_nil)) (vg_nm sc__law_pairs.nd rfl (.inl rfl)) (vss_one (vs_expr (ve_append (ve_nm 2 rfl (.inl rfl)) (va_cons (ve_popAt (ve_nm 1 rfl (.inl rfl)) (va_cons (ve_call (fn__law_draw_2 F ih hr4) rfl (va_cons (ve_nm 0 rfl (.inl rfl)) (va_cons (ve_len (g_len F) (va_cons (ve_nm 1 rfl (.inl rfl)) va_nil)) va_nil))) va_nil)) va_nil))))) (vss_cons (vs_set sc__law_pairs.nd rfl (.inl rfl) (ve_list rfl (g_list F) (va_cons (ve_nm 2 rfl (.inl rfl)) va_nil))) (vss_cons (vs_set sc__law_pairs.nd rfl (.inl rfl) (ve_lst va_nil)) (vss_cons (vs_for (passes_of rfl) rfl (vi_seq (ve_nm 2 rfl (.inl rfl))) (vg_nm sc__law_pairs.nd rfl (.inl rfl)) (vss_one (vs_expr (ve_append (ve_nm 5 rfl (.inl rfl)) (va_cons (ve_tup (va_cons (ve_nm 6 rfl (.inl rfl)) (va_cons (ve_popAt (ve_nm 4 rfl (.inl rfl)) (va_cons (ve_call (fn__law_draw_2 F ih hr4) rfl (va_cons (ve_nm 0 rfl (.inl rfl)) (va_cons (ve_len (g_len F) (va_cons (ve_nm 4 rfl (.inl rfl)) va_nil)) va_nil))) va_nil)) va_nil))) va_nil))))) (vss_cons (vs_set sc__law_pairs.nd rfl (.inl rfl) (ve_call (fn__law_draw_2 F ih hr4) rfl (va_cons (ve_nm 0 rfl (.inl rfl)) (va_cons ve_int va_nil)))) (vss_cons (vs_set sc__law_pairs.nd rfl (.inl rfl) (ve_ix (ve_lst (va_cons ve_str (va_cons ve_str (va_cons ve_str (va_cons ve_str (va_cons ve_str va_nil)))))) (ve_call (fn__law_draw_2 F ih hr4) rfl (va_cons (ve_nm 0 rfl (.inl rfl)) (va_cons ve_int va_nil))))) (vss_cons (vs_set sc__law_pairs.nd rfl (.inl rfl) (ve_call (fn__law_draw_2 F ih hr4) rfl (va_cons (ve_nm 0 rfl (.inl rfl)) (va_cons (ve_add (ve_len (g_len F) (va_cons (ve_nm 5 rfl (.inl rfl)) va_nil)) ve_int) va_nil)))) (vss_cons (vs_if (vt_cmpR (cr_eq hu) (ve_nm 7 rfl (.inl rfl)) ve_int) (vss_one (vs_expr (ve_insert (ve_nm 5 rfl (.inl rfl)) (va_cons (ve_nm 9 rfl (.inl rfl)) (va_cons (ve_tup (va_cons (ve_nm 8 rfl (.inl rfl)) (va_cons (ve_nm 8 rfl (.inl rfl)) va_nil))) va_nil))))) vss_nil) (vss_cons (vs_if (vt_w (vw_and (vt_cmpR (cr_eq hu) (ve_nm 7 rfl (.inl rfl)) ve_int) (vw_and1 (vt_cmpR cr_lt (ve_nm 9 rfl (.inl rfl)) (ve_len (g_len F) (va_cons (ve_nm 5 rfl (.inl rfl)) va_nil)))))) (vss_one (vs_sub hu (ve_nm 5 rfl (.inl rfl)) (ve_nm 9 rfl (.inl rfl)) (ve_tup (va_cons (ve_ix (ve_ix (ve_nm 5 rfl (.inl rfl)) (ve_nm 9 rfl (.inl rfl))) ve_int) (va_cons (ve_nm 8 rfl (.inl rfl)) va_nil))))) vss_nil) (vss_cons (vs_if (vt_w (vw_and (vt_cmpR (cr_eq hu) (ve_nm 7 rfl (.inl rfl)) ve_int) (vw_and1 (vt_cmpR cr_lt (ve_nm 9 rfl (.inl rfl)) (ve_len (g_len F) (va_cons (ve_nm 5 rfl (.inl rfl)) va_nil)))))) (vss_one (vs_sub hu (ve_nm 5 rfl (.inl rfl)) (ve_nm 9 rfl (.inl rfl)) (ve_tup (va_cons (ve_ix (ve_ix (ve_nm 5 rfl (.inl rfl)) (ve_nm 9 rfl (.inl rfl))) ve_int) (va_cons (ve_ix (ve_nm 1 rfl (.inl rfl)) ve_int) va_nil))))) vss_nil) (vss_cons (vs_if (vt_w (vw_and (vt_cmpR (cr_eq hu) (ve_nm 7 rfl (.inl rfl)) ve_int) (vw_and1 (vt_cmpR cr_lt (ve_nm 9 rfl (.inl rfl)) (ve_len (g_len F) (va_cons (ve_nm 5 rfl (.inl rfl)) va_nil)))))) (vss_one (vs_sub hu (ve_nm 5 rfl (.inl rfl)) (ve_nm 9 rfl (.inl rfl)) (ve_tup (va_cons (ve_ix (ve_ix (ve_nm 5 rfl (.inl rfl)) (ve_nm 9 rfl (.inl rfl))) ve_int) (va_cons (ve_ix (ve_ix (ve_nm 5 rfl (.inl rfl)) ve_int) ve_int) va_nil))))) vss_nil) (vss_cons (vs_if (vt_cmpR (cr_eq hu) (ve_nm 7 rfl (.inl rfl)) ve_int) (vss_cons (vs_expr (ve_append (ve_nm 5 rfl (.inl rfl)) (va_cons (ve_tup (va_cons (ve_ix (ve_nm 1 rfl (.inl rfl)) ve_int) (va_cons (ve_nm 8 rfl (.inl rfl)) va_nil))) va_nil))) (vss_one (vs_expr (ve_append (ve_nm 5 rfl (.inl rfl)) (va_cons (ve_tup (va_cons (ve_nm 8 rfl (.inl rfl)) (va_cons (ve_ix (ve_nm 1 rfl (.inl rfl)) ve_int) va_nil))) va_nil))))) vss_nil) (vss_one (vs_ret (ve_nm 5 rfl (.inl rfl))))))))))))))))))
theorem b__law_ask (F : Fcts HD K mg) (ih : Good PySem.Challenge.pw_mendedtexts_k01_letters_and_fillings w K mg base n) (f : Addr) (pv : Nat → Option V) (cdv : Value) (A : Around) (outer : List PySem.Env) (s : Shared) (H : Hp) (E : XK) (hr7 : Room (4 * n + 7) (A.deeper (envOfC "_law_ask" sc_t__law_ask s.heap.objs.size f cdv))) :
    VSs ⟨callF tab xt.sub n, xt.sub⟩ ⟨none, pv⟩ (cxOf (L2.CX PySem.Challenge.pw_mendedtexts_k01_letters_and_fillings w) PySem.Challenge.pw_mendedtexts_k01_letters_and_fillings w K mg base n__law_ask "_law_ask" sc_t__law_ask f cdv A outer s H E) (defBody (top 34)) c__law_ask :=
  have hr4 : Room (4 * n + 4) (A.deeper (envOfC "_law_ask" sc_t__law_ask s.heap.objs.size f cdv)) := hr7.mono (by omega)
  have hr2 : Room 2 (A.deeper (envOfC "_law_ask" sc_t__law_ask s.heap.objs.size f cdv)) := hr7.mono (by omega)
  have hu : (A.deeper (envOfC "_law_ask" sc_t__law_ask s.heap.objs.size f cdv)).units + 200 < cLine := Room.u hr7
  (vss_one (vs_try (l := [("BadText", .ref (ga K "BadText"), 3, .seq (.set 4 (.exis 3 ["BadLetters", "NoPlace", "TooMany"])) (.ret (.lst [.cst (.str "BadText"), .exat 3 "at", .and_ (.exis 3 ["MendError"]) (.exis 3 ["ValueError"]), .var 4]))), ("BadLetters", .ref (ga K "BadLetters"), 3, .seq (.set 4 (.exis 3 ["BadText", "NoPlace", "TooMany"])) (.ret (.lst [.cst (.str "BadLetters"), .exat 3 "given", .and_ (.exis 3 ["MendError"]) (.exis 3 ["ValueError"]), .var 4]))), ("NoPlace", .ref (ga K "NoPlace"), 3, .seq (.set 4 (.exis 3 ["BadText", "BadLetters", "TooMany"])) (.ret (.lst [.cst (.str "NoPlace"), .exat 3 "place", .and_ (.exis 3 ["MendError"]) (.exis 3 ["ValueError"]), .var 4]))), ("TooMany", .ref (ga K "TooMany"), 3, .seq (.set 4 (.exis 3 ["BadText", "BadLetters", "NoPlace"])) (.ret (.lst [.cst (.str "TooMany"), .exat 3 "found", .and_ (.exis 3 ["MendError"]) (.exis 3 ["ValueError"]), .var 4])))]) rfl rfl sc__law_ask.nd (fun pn xe hp => (vss_cons (vs_if (vt_cmpR (cr_eq hu) (ve_nm 0 rfl (.inl rfl)) ve_str) (vss_one (vs_ret (ve_lst (va_cons ve_str (va_cons (ve_call (fn_hole_places_1 F ih hr4) rfl (va_cons (ve_nm 1 rfl (.inl rfl)) va_nil)) va_nil))))) vss_nil) (vss_cons (vs_if (vt_cmpR (cr_eq hu) (ve_nm 0 rfl (.inl rfl)) ve_str) (vss_one (vs_ret (ve_lst (va_cons ve_str (va_cons (ve_call (fn_mirrored_1 F ih hr4) rfl (va_cons (ve_nm 1 rfl (.inl rfl)) va_nil)) va_nil))))) vss_nil) (vss_cons (vs_if (vt_cmpR (cr_eq hu) (ve_nm 0 rfl (.inl rfl)) ve_str) (vss_one (vs_ret (ve_lst (va_cons ve_str (va_cons (ve_listG (fng_fillings F ih hr7) rfl (va_cons (ve_nm 1 rfl (.inl rfl)) (va_cons (ve_nm 2 rfl (.inl rfl)) va_nil)) (g_list F)) va_nil))))) vss_nil) (vss_cons (vs_if (vt_cmpR (cr_eq hu) (ve_nm 0 rfl (.inl rfl)) ve_str) (vss_one (vs_ret (ve_lst (va_cons ve_str (va_cons (ve_call (fn_strange_2 F ih hr4) rfl (va_cons (ve_nm 1 rfl (.inl rfl)) (va_cons (ve_nm 2 rfl (.inl rfl)) va_nil))) va_nil))))) vss_nil) (vss_one (vs_ret (ve_lst (va_cons ve_str (va_cons (ve_callK0 (fn_recast_0_text_moves F ih hr4) rfl (vk_cons (ve_nm 1 rfl (.inl rfl)) (vk_cons (ve_nm 2 rfl (.inl rfl)) vk_nil)) rfl) va_nil)))))))))) (hx_of F (by intro p hp; simp only [List.mem_cons, List.not_mem_nil, or_false] at hp; rcases hp with rfl | rfl | rfl | rfl <;> rfl)) (.cons ⟨rfl, by decide, .inl (g_BadText F)⟩ rfl rfl (fun a oe cls dx pn hz hf => (vss_cons (vs_set sc__law_ask.nd rfl (.inl rfl) (ve_exisT (cs := [("BadLetters", (.ref (ga K "BadLetters"))), ("NoPlace", (.ref (ga K "NoPlace"))), ("TooMany", (.ref (ga K "TooMany")))]) F.excT (fun n cl _ hm => exs_of F hm (by intro p hp; simp only [List.mem_cons, List.not_mem_nil, or_false] at hp; rcases hp with rfl | rfl | rfl <;> rfl)) hz hf rfl (.inl rfl) (g_isinstance F) (kns_cons (v := (.ref (ga K "BadLetters"))) (u := (.ref (ga K "BadLetters"))) (pe_glob rfl (g_BadLetters F) rfl) (fun _ h => h) (kns_cons (v := (.ref (ga K "NoPlace"))) (u := (.ref (ga K "NoPlace"))) (pe_glob rfl (g_NoPlace F) rfl) (fun _ h => h) (kns_cons (v := (.ref (ga K "TooMany"))) (u := (.ref (ga K "TooMany"))) (pe_glob rfl (g_TooMany F) rfl) (fun _ h => h) kns_nil))) (by simp))) (vss_one (vs_ret (ve_lst (va_cons ve_str (va_cons (ve_exat F.excT (F.noat (f_at)) hz hf rfl (.inl rfl)) (va_cons (ve_and (ve_exis1 (cn := "MendError") (cv := (.ref (ga K "MendError"))) (cu := (.ref (ga K "MendError"))) F.excT (fun n cl b _ hm h => (F.exm h hm).2) hz hf rfl (.inl rfl) (g_isinstance F) rfl (pe_glob rfl (g_MendError F) rfl) (fun _ h => h)) (ve_one (ve_exis1 (cn := "ValueError") (cv := (.ty "ValueError")) (cu := (.type "ValueError")) F.excT (fun n cl b _ hm h => (F.exm h hm).2) hz hf rfl (.inl rfl) (g_isinstance F) rfl (pe_bltn rfl (g_ValueError F) bo_ValueError rfl) (fun _ h => h)))) (va_cons (ve_nm 4 rfl (.inl rfl)) va_nil))))))))) (.cons ⟨rfl, by decide, .inl (g_BadLetters F)⟩ rfl rfl (fun a oe cls dx pn hz hf => (vss_cons (vs_set sc__law_ask.nd rfl (.inl rfl) (ve_exisT (cs := [("BadText", (.ref (ga K "BadText"))), ("NoPlace", (.ref (ga K "NoPlace"))), ("TooMany", (.ref (ga K "TooMany")))]) F.excT (fun n cl _ hm => exs_of F hm (by intro p hp; simp only [List.mem_cons, List.not_mem_nil, or_false] at hp; rcases hp with rfl | rfl | rfl <;> rfl)) hz hf rfl (.inl rfl) (g_isinstance F) (kns_cons (v := (.ref (ga K "BadText"))) (u := (.ref (ga K "BadText"))) (pe_glob rfl (g_BadText F) rfl) (fun _ h => h) (kns_cons (v := (.ref (ga K "NoPlace"))) (u := (.ref (ga K "NoPlace"))) (pe_glob rfl (g_NoPlace F) rfl) (fun _ h => h) (kns_cons (v := (.ref (ga K "TooMany"))) (u := (.ref (ga K "TooMany"))) (pe_glob rfl (g_TooMany F) rfl) (fun _ h => h) kns_nil))) (by simp))) (vss_one (vs_ret (ve_lst (va_cons ve_str (va_cons (ve_exat F.excT (F.noat (f_given)) hz hf rfl (.inl rfl)) (va_cons (ve_and (ve_exis1 (cn := "MendError") (cv := (.ref (ga K "MendError"))) (cu := (.ref (ga K "MendError"))) F.excT (fun n cl b _ hm h => (F.exm h hm).2) hz hf rfl (.inl rfl) (g_isinstance F) rfl (pe_glob rfl (g_MendError F) rfl) (fun _ h => h)) (ve_one (ve_exis1 (cn := "ValueError") (cv := (.ty "ValueError")) (cu := (.type "ValueError")) F.excT (fun n cl b _ hm h => (F.exm h hm).2) hz hf rfl (.inl rfl) (g_isinstance F) rfl (pe_bltn rfl (g_ValueError F) bo_ValueError rfl) (fun _ h => h)))) (va_cons (ve_nm 4 rfl (.inl rfl)) va_nil))))))))) (.cons ⟨rfl, by decide, .inl (g_NoPlace F)⟩ rfl rfl (fun a oe cls dx pn hz hf => (vss_cons (vs_set sc__law_ask.nd rfl (.inl rfl) (ve_exisT (cs := [("BadText", (.ref (ga K "BadText"))), ("BadLetters", (.ref (ga K "BadLetters"))), ("TooMany", (.ref (ga K "TooMany")))]) F.excT (fun n cl _ hm => exs_of F hm (by intro p hp; simp only [List.mem_cons, List.not_mem_nil, or_false] at hp; rcases hp with rfl | rfl | rfl <;> rfl)) hz hf rfl (.inl rfl) (g_isinstance F) (kns_cons (v := (.ref (ga K "BadText"))) (u := (.ref (ga K "BadText"))) (pe_glob rfl (g_BadText F) rfl) (fun _ h => h) (kns_cons (v := (.ref (ga K "BadLetters"))) (u := (.ref (ga K "BadLetters"))) (pe_glob rfl (g_BadLetters F) rfl) (fun _ h => h) (kns_cons (v := (.ref (ga K "TooMany"))) (u := (.ref (ga K "TooMany"))) (pe_glob rfl (g_TooMany F) rfl) (fun _ h => h) kns_nil))) (by simp))) (vss_one (vs_ret (ve_lst (va_cons ve_str (va_cons (ve_exat F.excT (F.noat (f_place)) hz hf rfl (.inl rfl)) (va_cons (ve_and (ve_exis1 (cn := "MendError") (cv := (.ref (ga K "MendError"))) (cu := (.ref (ga K "MendError"))) F.excT (fun n cl b _ hm h => (F.exm h hm).2) hz hf rfl (.inl rfl) (g_isinstance F) rfl (pe_glob rfl (g_MendError F) rfl) (fun _ h => h)) (ve_one (ve_exis1 (cn := "ValueError") (cv := (.ty "ValueError")) (cu := (.type "ValueError")) F.excT (fun n cl b _ hm h => (F.exm h hm).2) hz hf rfl (.inl rfl) (g_isinstance F) rfl (pe_bltn rfl (g_ValueError F) bo_ValueError rfl) (fun _ h => h)))) (va_cons (ve_nm 4 rfl (.inl rfl)) va_nil))))))))) (.cons ⟨rfl, by decide, .inl (g_TooMany F)⟩ rfl rfl (fun a oe cls dx pn hz hf => (vss_cons (vs_set sc__law_ask.nd rfl (.inl rfl) (ve_exisT (cs := [("BadText", (.ref (ga K "BadText"))), ("BadLetters", (.ref (ga K "BadLetters"))), ("NoPlace", (.ref (ga K "NoPlace")))]) F.excT (fun n cl _ hm => exs_of F hm (by intro p hp; simp only [List.mem_cons, List.not_mem_nil, or_false] at hp; rcases hp with rfl | rfl | rfl <;> rfl)) hz hf rfl (.inl rfl) (g_isinstance F) (kns_cons (v := (.ref (ga K "BadText"))) (u := (.ref (ga K "BadText"))) (pe_glob rfl (g_BadText F) rfl) (fun _ h => h) (kns_cons (v := (.ref (ga K "BadLetters"))) (u := (.ref (ga K "BadLetters"))) (pe_glob rfl (g_BadLetters F) rfl) (fun _ h => h) (kns_cons (v := (.ref (ga K "NoPlace"))) (u := (.ref (ga K "NoPlace"))) (pe_glob rfl (g_NoPlace F) rfl) (fun _ h => h) kns_nil))) (by simp))) (vss_one (vs_ret (ve_lst (va_cons ve_str (va_cons (ve_exat F.excT (F.noat (f_found)) hz hf rfl (.inl rfl)) (va_cons (ve_and (ve_exis1 (cn := "MendError") (cv := (.ref (ga K "MendError"))) (cu := (.ref (ga K "MendError"))) F.excT (fun n cl b _ hm h => (F.exm h hm).2) hz hf rfl (.inl rfl) (g_isinstance F) rfl (pe_glob rfl (g_MendError F) rfl) (fun _ h => h)) (ve_one (ve_exis1 (cn := "ValueError") (cv := (.ty "ValueError")) (cu := (.type "ValueError")) F.excT (fun n cl b _ hm h => (F.exm h hm).2) hz hf rfl (.inl rfl) (g_isinstance F) rfl (pe_bltn rfl (g_ValueError F) bo_ValueError rfl) (fun _ h => h)))) (va_cons (ve_nm 4 rfl (.inl rfl)) va_nil))))))))) .nil))))))
theorem b__law_wrong (F : Fcts HD K mg) (ih : Good PySem.Challenge.pw_mendedtexts_k01_letters_and_fillings w K mg base n) (f : Addr) (pv : Nat → Option V) (cdv : Value) (A : Around) (outer : List PySem.Env) (s : Shared) (H : Hp) (E : XK) (hr7 : Room (4 * n + 7) (A.deeper (envOfC "_law_wrong" sc_t__law_wrong s.heap.objs.size f cdv))) :
    VSs ⟨callF tab xt.sub n, xt.sub⟩ ⟨none, pv⟩ (cxOf (L2.CX PySem.Challenge.pw_mendedtexts_k01_letters_and_fillings w) PySem.Challenge.pw_mendedtexts_k01_letters_and_fillings w K mg base n__law_wrong "_law_wrong" sc_t__law_wrong f cdv A outer s H E) (defBody (top 35)) c__law_wrong :=
  have hr4 : Room (4 * n + 4) (A.deeper (envOfC "_law_wrong" sc_t__law_wrong s.heap.objs.size f cdv)) := hr7.mono (by omega)
  have hr2 : Room 2 (A.deeper (envOfC "_law_wrong" sc_t__law_wrong s.heap.objs.size f cdv)) := hr7.mono (by omega)
  have hu : (A.deeper (envOfC "_law_wrong" sc_t__law_wrong s.heap.objs.size f cdv)).units + 200 < cLine := Room.u hr7
  (vss_cons (vs_set sc__law_wrong.nd rfl (.inr rfl) (ve_add (ve_nm 1 rfl (.inl rfl)) ve_str)) (vss_cons (vs_setLc (own := [("k", 4)]) rfl sc__law_wrong.nd rfl rfl rfl (vi_rng1 rfl (g_range F) (va_cons (ve_len (g_len F) (va_cons (ve_nm 0 rfl (.inr (.inl rfl))) va_nil)) va_nil)) bk__law_wrong_0 (fun _ _ _ _ _ => (vg_nm sc__law_wrong.nd rfl (.inl rfl))) (fun _ _ _ _ _ => (vts_one (vt_cmpR (cr_nmem hu) (ve_ix (ve_nm 0 rfl (.inr (.inl rfl))) (ve_nm 4 rfl (.inl rfl))) (ve_nm 2 rfl (.inr (.inl rfl)))))) (fun _ _ _ _ _ => (ve_nm 4 rfl (.inl rfl)))) (vss_cons (vs_if (vt_cmpR (cr_ne hu) (ve_nm 3 rfl (.inl rfl)) (ve_lst va_nil)) (vss_one (vs_ret (ve_ix (ve_nm 3 rfl (.inl rfl)) ve_int))) vss_nil) (vss_one (vs_ret (ve_ix (ve_lst (va_cons ve_non (va_cons ve_int va_nil))) (ve_int_ (g_int F) (va_cons (ve_cmpR cr_gt (ve_len (g_len F) (va_cons (ve_nm 0 rfl (.inr (.inl rfl))) va_nil)) ve_int) va_nil))))))))
theorem b__law_ascends (F : Fcts HD K mg) (ih : Good PySem.Challenge.pw_mendedtexts_k01_letters_and_fillings w K mg base n) (f : Addr) (pv : Nat → Option V) (cdv : Value) (A : Around) (outer : List PySem.Env) (s : Shared) (H : Hp) (E : XK) (hr7 : Room (4 * n + 7) (A.deeper (envOfC "_law_ascends" sc_t__law_ascends s.heap.objs.size f cdv))) :
    VSs ⟨callF tab xt.sub n, xt.sub⟩ ⟨none, pv⟩ (cxOf (L2.CX PySem.Challenge.pw_mendedtexts_k01_letters_and_fillings w) PySem.Challenge.pw_mendedtexts_k01_letters_and_fillings w K mg base n__law_ascends "_law_ascends" sc_t__law_ascends f cdv A outer s H E) (defBody (top 36)) c__law_ascends :=
  have hr4 : Room (4 * n + 4) (A.deeper (envOfC "_law_ascends" sc_t__law_ascends s.heap.objs.size f cdv)) := hr7.mono (by omega)
  have hr2 : Room 2 (A.deeper (envOfC "_law_ascends" sc_t__law_ascends s.heap.objs.size f cdv)) := hr7.mono (by omega)
  have hu : (A.deeper (envOfC "_law_ascends" sc_t__law_ascends s.heap.objs.size f cdv)).units + 200 < cLine := Room.u hr7
  (vss_cons (vs_set sc__law_ascends.nd rfl (.inr rfl) (ve_list rfl (g_list F) (va_cons (ve_nm 0 rfl (.inl rfl)) va_nil))) (vss_cons (vs_setLc (own := [("k", 4)]) rfl sc__law_ascends.nd rfl rfl rfl (vi_rng1 rfl (g_range F) (va_cons (ve_len (g_len F) (va_cons (ve_nm 1 rfl (.inr (.inl rfl))) va_nil)) va_nil)) bk__law_ascends_0 (fun _ _ _ _ _ => (vg_nm sc__law_ascends.nd rfl (.inl rfl))) (fun _ _ _ _ _ => vts_nil) (fun _ _ _ _ _ => (ve_cmpR (cr_mem hu) (ve_ix (ve_nm 1 rfl (.inr (.inl rfl))) (ve_nm 4 rfl (.inl rfl))) (ve_list rfl (g_list F) (va_cons ve_str va_nil))))) (vss_cons (vs_setLc (own := [("k", 4)]) rfl sc__law_ascends.nd rfl rfl rfl (vi_rng2 rfl (g_range F) (va_cons ve_int (va_cons (ve_len (g_len F) (va_cons (ve_nm 1 rfl (.inr (.inl rfl))) va_nil)) va_nil))) bk__law_ascends_1 (fun _ _ _ _ _ => (vg_nm sc__law_ascends.nd rfl (.inl rfl))) (fun _ _ _ _ _ => vts_nil) (fun _ _ _ _ _ => (ve_cmpR cr_lt (ve_ix (ve_nm 1 rfl (.inr (.inl rfl))) (ve_sub (ve_nm 4 rfl (.inl rfl)) ve_int)) (ve_ix (ve_nm 1 rfl (.inr (.inl rfl))) (ve_nm 4 rfl (.inl rfl)))))) (vss_one (vs_ret (ve_and (ve_all rfl (g_all F) (va_cons (ve_nm 2 rfl (.inl rfl)) va_nil)) (ve_one (ve_all rfl (g_all F) (va_cons (ve_nm 3 rfl (.inl rfl)) va_nil)))))))))
theorem b__law_all_filled (F : Fcts HD K mg) (ih : Good PySem.Challenge.pw_mendedtexts_k01_letters_and_fillings w K mg base n) (f : Addr) (pv : Nat → Option V) (cdv : Value) (A : Around) (outer : List PySem.Env) (s : Shared) (H : Hp) (E : XK) (hr7 : Room (4 * n + 7) (A.deeper (envOfC "_law_all_filled" sc_t__law_all_filled s.heap.objs.size f cdv))) :
    VSs ⟨callF tab xt.sub n, xt.sub⟩ ⟨none, pv⟩ (cxOf (L2.CX PySem.Challenge.pw_mendedtexts_k01_letters_and_fillings w) PySem.Challenge.pw_mendedtexts_k01_letters_and_fillings w K mg base n__law_all_filled "_law_all_filled" sc_t__law_all_filled f cdv A outer s H E) (defBody (top 37)) c__law_all_filled :=
  have hr4 : Room (4 * n + 4) (A.deeper (envOfC "_law_all_filled" sc_t__law_all_filled s.heap.objs.size f cdv)) := hr7.mono (by omega)
  have hr2 : Room 2 (A.deeper (envOfC "_law_all_filled" sc_t__law_all_filled s.heap.objs.size f cdv)) := hr7.mono (by omega)
  have hu : (A.deeper (envOfC "_law_all_filled" sc_t__law_all_filled s.heap.objs.size f cdv)).units + 200 < cLine := Room.u hr7
  (vss_cons (vs_set sc__law_all_filled.nd rfl (.inl rfl) (ve_lst (va_cons ve_str va_nil))) (vss_cons (vs_for (passes_of rfl) rfl (vi_seq (ve_nm 0 rfl (.inl rfl))) (vg_nm sc__law_all_filled.nd rfl (.inl rfl)) (vss_cons (vs_set sc__law_all_filled.nd rfl (.inl rfl) (ve_lst va_nil)) (vss_cons (vs_for (passes_of rfl) rfl (vi_seq (ve_list rfl (g_list F) (va_cons (ve_nm 2 rfl (.inl rfl)) va_nil))) (vg_nm sc__law_all_filled.nd rfl (.inr rfl)) (vss_one (vs_if (vt_cmpR (cr_eq hu) (ve_nm 3 rfl (.inl rfl)) ve_str) (vss_one (vs_expr (ve_extend (ve_nm 4 rfl (.inl rfl)) (va_cons (ve_lc (own := [("letter", 6)]) rfl sc__law_all_filled.nd (vi_seq (ve_nm 1 rfl (.inl rfl))) bk__law_all_filled_0 (fun _ _ _ _ _ => (vg_nm sc__law_all_filled.nd rfl (.inl rfl))) (fun _ _ _ _ _ => vts_nil) (fun _ _ _ _ _ => (ve_add (ve_nm 5 rfl (.inr (.inl rfl))) (ve_nm 6 rfl (.inl rfl))))) va_nil)))) (vss_one (vs_expr (ve_append (ve_nm 4 rfl (.inl rfl)) (va_cons (ve_add (ve_nm 5 rfl (.inr (.inl rfl))) (ve_nm 3 rfl (.inl rfl))) va_nil))))))) (vss_one (vs_set sc__law_all_filled.nd rfl (.inl rfl) (ve_nm 4 rfl (.inl rfl))))))) (vss_one (vs_ret (ve_nm 2 rfl (.inl rfl))))))
theorem b__law_fillings_due (F : Fcts HD K mg) (ih : Good PySem.Challenge.pw_mendedtexts_k01_letters_and_fillings w K mg base n) (f : Addr) (pv : Nat → Option V) (cdv : Value) (A : Around) (outer : List PySem.Env) (s : Shared) (H : Hp) (E : XK) (hr7 : Room (4 * n + 7) (A.deeper (envOfC "_law_fillings_due" sc_t__law_fillings_due s.heap.objs.size f cdv))) :
    VSs ⟨callF tab xt.sub n, xt.sub⟩ ⟨none, pv⟩ (cxOf (L2.CX PySem.Challenge.pw_mendedtexts_k01_letters_and_fillings w) PySem.Challenge.pw_mendedtexts_k01_letters_and_fillings w K mg base n__law_fillings_due "_law_fillings_due" sc_t__law_fillings_due f cdv A outer s H E) (defBody (top 38)) c__law_fillings_due :=
  have hr4 : Room (4 * n + 4) (A.deeper (envOfC "_law_fillings_due" sc_t__law_fillings_due s.heap.objs.size f cdv)) := hr7.mono (by omega)
  have hr2 : Room 2 (A.deeper (envOfC "_law_fillings_due" sc_t__law_fillings_due s.heap.objs.size f cdv)) := hr7.mono (by omega)
  have hu : (A.deeper (envOfC "_law_fillings_due" sc_t__law_fillings_due s.heap.objs.size f cdv)).units + 200 < cLine := Room.u hr7
  (vss_cons (vs_set sc__law_fillings_due.nd rfl (.inl rfl) (ve_call (fn__law_wrong_2 F ih hr4) rfl (va_cons (ve_nm 0 rfl (.inl rfl)) (va_cons ve_str va_nil)))) (vss_cons (vs_if (vt_cmpR cr_isnot (ve_nm 2 rfl (.inl rfl)) ve_non) (vss_one (vs_ret (ve_lst (va_cons ve_str (va_cons (ve_nm 2 rfl (.inl rfl)) (va_cons ve_bl (va_cons ve_bl va_nil))))))) vss_nil) (vss_cons (vs_if (vt_w (vw_or (vt_not (vt_chn cr_le cr_le ve_int (ve_len (g_len F) (va_cons (ve_nm 1 rfl (.inl rfl)) va_nil)) ve_int)) (vw_or1 (vt_not (vt_tru (ve_call (fn__law_ascends_1 F ih hr4) rfl (va_cons (ve_nm 1 rfl (.inl rfl)) va_nil))))))) (vss_one (vs_ret (ve_lst (va_cons ve_str (va_cons (ve_nm 1 rfl (.inl rfl)) (va_cons ve_bl (va_cons ve_bl va_nil))))))) vss_nil) (vss_cons (vs_set sc__law_fillings_due.nd rfl (.inl rfl) ve_int) (vss_cons (vs_for (passes_of rfl) rfl (vi_seq (ve_nm 0 rfl (.inl rfl))) (vg_nm sc__law_fillings_due.nd rfl (.inl rfl)) (vss_one (vs_if (vt_cmpR (cr_eq hu) (ve_nm 4 rfl (.inl rfl)) ve_str) (vss_one (vs_set sc__law_fillings_due.nd rfl (.inl rfl) (ve_mul (ve_nm 3 rfl (.inl rfl)) (ve_len (g_len F) (va_cons (ve_nm 1 rfl (.inl rfl)) va_nil))))) vss_nil))) (vss_cons (vs_if (vt_cmpR cr_gt (ve_nm 3 rfl (.inl rfl)) ve_int) (vss_one (vs_ret (ve_lst (va_cons ve_str (va_cons (ve_nm 3 rfl (.inl rfl)) (va_cons ve_bl (va_cons ve_bl va_nil))))))) vss_nil) (vss_one (vs_ret (ve_lst (va_cons ve_str (va_cons (ve_call (fn__law_all_filled_2 F ih hr4) rfl (va_cons (ve_nm 0 rfl (.inl rfl)) (va_cons (ve_nm 1 rfl (.inl rfl)) va_nil))) va_nil)))))))))))
theorem b__law_strange_due (F : Fcts HD K mg) (ih : Good PySem.Challenge.pw_mendedtexts_k01_letters_and_fillings w K mg base n) (f : Addr) (pv : Nat → Option V) (cdv : Value) (A : Around) (outer : List PySem.Env) (s : Shared) (H : Hp) (E : XK) (hr7 : Room (4 * n + 7) (A.deeper (envOfC "_law_strange_due" sc_t__law_strange_due s.heap.objs.size f cdv))) :
    VSs ⟨callF tab xt.sub n, xt.sub⟩ ⟨none, pv⟩ (cxOf (L2.CX PySem.Challenge.pw_mendedtexts_k01_letters_and_fillings w) PySem.Challenge.pw_mendedtexts_k01_letters_and_fillings w K mg base n__law_strange_due "_law_strange_due" sc_t__law_strange_due f cdv A outer s H E) (defBody (top 39)) c__law_strange_due :=
  have hr4 : Room (4 * n + 4) (A.deeper (envOfC "_law_strange_due" sc_t__law_strange_due s.heap.objs.size f cdv)) := hr7.mono (by omega)
  have hr2 : Room 2 (A.deeper (envOfC "_law_strange_due" sc_t__law_strange_due s.heap.objs.size f cdv)) := hr7.mono (by omega)
  have hu : (A.deeper (envOfC "_law_strange_due" sc_t__law_strange_due s.heap.objs.size f cdv)).units + 200 < cLine := Room.u hr7
  (vss_cons (vs_set sc__law_strange_due.nd rfl (.inl rfl) (ve_call (fn__law_wrong_2 F ih hr4) rfl (va_cons (ve_nm 0 rfl (.inl rfl)) (va_cons ve_str va_nil)))) (vss_cons (vs_if (vt_cmpR cr_isnot (ve_nm 2 rfl (.inl rfl)) ve_non) (vss_one (vs_ret (ve_lst (va_cons ve_str (va_cons (ve_nm 2 rfl (.inl rfl)) (va_cons ve_bl (va_cons ve_bl va_nil))))))) vss_nil) (vss_cons (vs_set sc__law_strange_due.nd rfl (.inl rfl) (ve_list rfl (g_list F) (va_cons (ve_nm 0 rfl (.inl rfl)) va_nil))) (vss_cons (vs_for (passes_of rfl) rfl (vi_seq (ve_nm 1 rfl (.inl rfl))) (vg_nm sc__law_strange_due.nd rfl (.inl rfl)) (vss_cons (vs_if (vt_w (vw_or (vt_cmpR cr_lt (ve_nm 4 rfl (.inl rfl)) ve_int) (vw_or1 (vt_cmpR cr_ge (ve_nm 4 rfl (.inl rfl)) (ve_len (g_len F) (va_cons (ve_nm 3 rfl (.inl rfl)) va_nil)))))) (vss_one (vs_ret (ve_lst (va_cons ve_str (va_cons (ve_nm 4 rfl (.inl rfl)) (va_cons ve_bl (va_cons ve_bl va_nil))))))) vss_nil) (vss_one (vs_sub hu (ve_nm 3 rfl (.inl rfl)) (ve_nm 4 rfl (.inl rfl)) ve_str)))) (vss_one (vs_ret (ve_lst (va_cons ve_str (va_cons (ve_join ve_str (va_cons (ve_nm 3 rfl (.inl rfl)) va_nil)) va_nil)))))))))
theorem b__law_recast_due (F : Fcts HD K mg) (ih : Good PySem.Challenge.pw_mendedtexts_k01_letters_and_fillings w K mg base n) (f : Addr) (pv : Nat → Option V) (cdv : Value) (A : Around) (outer : List PySem.Env) (s : Shared) (H : Hp) (E : XK) (hr7 : Room (4 * n + 7) (A.deeper (envOfC "_law_recast_due" sc_t__law_recast_due s.heap.objs.size f cdv))) :
    VSs ⟨callF tab xt.sub n, xt.sub⟩ ⟨none, pv⟩ (cxOf (L2.CX PySem.Challenge.pw_mendedtexts_k01_letters_and_fillings w) PySem.Challenge.pw_mendedtexts_k01_letters_and_fillings w K mg base n__law_recast_due "_law_recast_due" sc_t__law_recast_due f cdv A outer s H E) (defBody (top 40)) c__law_recast_due :=
  have hr4 : Room (4 * n + 4) (A.deeper (envOfC "_law_recast_due" sc_t__law_recast_due s.heap.objs.size f cdv)) := hr7.mono (by omega)
  have hr2 : Room 2 (A.deeper (envOfC "_law_recast_due" sc_t__law_recast_due s.heap.objs.size f cdv)) := hr7.mono (by omega)
  have hu : (A.deeper (envOfC "_law_recast_due" sc_t__law_recast_due s.heap.objs.size f cdv)).units + 200 < cLine := Room.u hr7
  (vss_cons (vs_set sc__law_recast_due.nd rfl (.inl rfl) (ve_call (fn__law_wrong_2 F ih hr4) rfl (va_cons (ve_nm 0 rfl (.inl rfl)) (va_cons ve_str va_nil)))) (vss_cons (vs_if (vt_cmpR cr_isnot (ve_nm 2 rfl (.inl rfl)) ve_non) (vss_one (vs_ret (ve_lst (va_cons ve_str (va_cons (ve_nm 2 rfl (.inl rfl)) (va_cons ve_bl (va_cons ve_bl va_nil))))))) vss_nil) (vss_cons (vs_setLc (own := [("pair", 3)]) rfl sc__law_recast_due.nd rfl rfl rfl (vi_seq (ve_nm 1 rfl (.inl rfl))) bk__law_recast_due_0 (fun _ _ _ _ _ => (vg_nm sc__law_recast_due.nd rfl (.inl rfl))) (fun _ _ _ _ _ => vts_nil) (fun _ _ _ _ _ => (ve_ix (ve_nm 3 rfl (.inl rfl)) ve_int))) (vss_cons (vs_set sc__law_recast_due.nd rfl (.inl rfl) (ve_lst va_nil)) (vss_cons (vs_for (passes_of rfl) rfl (vi_seq (ve_nm 1 rfl (.inl rfl))) (vg_nm sc__law_recast_due.nd rfl (.inl rfl)) (vss_cons (vs_if (vt_w (vw_or (vt_cmpR (cr_nmem hu) (ve_ix (ve_nm 3 rfl (.inl rfl)) ve_int) (ve_list rfl (g_list F) (va_cons ve_str va_nil))) (vw_or (vt_cmpR (cr_nmem hu) (ve_ix (ve_nm 3 rfl (.inl rfl)) ve_int) (ve_nm 4 rfl (.inl rfl))) (vw_or1 (vt_cmpR (cr_mem hu) (ve_ix (ve_nm 3 rfl (.inl rfl)) ve_int) (ve_nm 5 rfl (.inl rfl))))))) (vss_one (vs_ret (ve_lst (va_cons ve_str (va_cons (ve_ix (ve_nm 3 rfl (.inl rfl)) ve_int) (va_cons ve_bl (va_cons ve_bl va_nil))))))) vss_nil) (vss_one (vs_expr (ve_append (ve_nm 5 rfl (.inl rfl)) (va_cons (ve_ix (ve_nm 3 rfl (.inl rfl)) ve_int) va_nil)))))) (vss_cons (vs_set sc__law_recast_due.nd rfl (.inl rfl) (ve_lst va_nil)) (vss_cons (vs_for (passes_of rfl) rfl (vi_seq (ve_nm 0 rfl (.inl rfl))) (vg_nm sc__law_recast_due.nd rfl (.inr rfl)) (vss_cons (vs_setLc (own := [("pair", 3)]) rfl sc__law_recast_due.nd rfl rfl rfl (vi_seq (ve_nm 1 rfl (.inl rfl))) bk__law_recast_due_1 (fun _ _ _ _ _ => (vg_nm sc__law_recast_due.nd rfl (.inl rfl))) (fun _ _ _ _ _ => (vts_one (vt_cmpR (cr_eq hu) (ve_ix (ve_nm 3 rfl (.inl rfl)) ve_int) (ve_nm 7 rfl (.inr (.inl rfl)))))) (fun _ _ _ _ _ => (ve_ix (ve_nm 3 rfl (.inl rfl)) ve_int))) (vss_one (vs_expr (ve_append (ve_nm 6 rfl (.inl rfl)) (va_cons (ve_ix (ve_add (ve_nm 8 rfl (.inl rfl)) (ve_lst (va_cons (ve_nm 7 rfl (.inr (.inl rfl))) va_nil))) ve_int) va_nil)))))) (vss_one (vs_ret (ve_lst (va_cons ve_str (va_cons (ve_join ve_str (va_cons (ve_nm 6 rfl (.inl rfl)) va_nil)) va_nil))))))))))))
theorem b__law_plain_right (F : Fcts HD K mg) (ih : Good PySem.Challenge.pw_mendedtexts_k01_letters_and_fillings w K mg base n) (f : Addr) (pv : Nat → Option V) (cdv : Value) (A : Around) (outer : List PySem.Env) (s : Shared) (H : Hp) (E : XK) (hr7 : Room (4 * n + 7) (A.deeper (envOfC "_law_plain_right" sc_t__law_plain_right s.heap.objs.size f cdv))) :
    VSs ⟨callF tab xt.sub n, xt.sub⟩ ⟨none, pv⟩ (cxOf (L2.CX PySem.Challenge.pw_mendedtexts_k01_letters_and_fillings w) PySem.Challenge.pw_mendedtexts_k01_letters_and_fillings w K mg base n__law_plain_right "_law_plain_right" sc_t__law_plain_right f cdv A outer s H E) (defBody (top 41)) c__law_plain_right :=
  have hr4 : Room (4 * n + 4) (A.deeper (envOfC "_law_plain_right" sc_t__law_plain_right s.heap.objs.size f cdv)) := hr7.mono (by omega)
  have hr2 : Room 2 (A.deeper (envOfC "_law_plain_right" sc_t__law_plain_right s.heap.objs.size f cdv)) := hr7.mono (by omega)
  have hu : (A.deeper (envOfC "_law_plain_right" sc_t__law_plain_right s.heap.objs.size f cdv)).units + 200 < cLine := Room.u hr7
  (vss_cons (vs_if (vt_not (vt_tru (ve_callR (fn__law_is_2 F ih hr4) rfl (va_cons (ve_call (fn_first_wrong_1 F ih hr4) rfl (va_cons (ve_nm 0 rfl (.inr (.inl rfl))) va_nil)) (va_cons (ve_call (fn__law_wrong_2 F ih hr4) rfl (va_cons (ve_nm 0 rfl (.inr (.inl rfl))) (va_cons ve_str va_nil))) va_nil))))) (vss_one (vs_ret ve_bl)) vss_nil) (vss_cons (vs_if (vt_not (vt_tru (ve_callR (fn__law_is_2 F ih hr4) rfl (va_cons (ve_call (fn_first_wrong_2 F ih hr4) rfl (va_cons (ve_nm 0 rfl (.inr (.inl rfl))) (va_cons (ve_nm 1 rfl (.inl rfl)) va_nil))) (va_cons (ve_call (fn__law_wrong_2 F ih hr4) rfl (va_cons (ve_nm 0 rfl (.inr (.inl rfl))) (va_cons (ve_nm 1 rfl (.inl rfl)) va_nil))) va_nil))))) (vss_one (vs_ret ve_bl)) vss_nil) (vss_cons (vs_if (vt_not (vt_tru (ve_callR (fn__law_is_2 F ih hr4) rfl (va_cons (ve_callK0 (fn_first_wrong_0_text_letters F ih hr4) rfl (vk_cons (ve_nm 0 rfl (.inr (.inl rfl))) (vk_cons ve_str vk_nil)) rfl) (va_cons (ve_call (fn__law_wrong_2 F ih hr4) rfl (va_cons (ve_nm 0 rfl (.inr (.inl rfl))) (va_cons ve_str va_nil))) va_nil))))) (vss_one (vs_ret ve_bl)) vss_nil) (vss_cons (vs_set sc__law_plain_right.nd rfl (.inl rfl) (ve_call (fn__law_wrong_2 F ih hr4) rfl (va_cons (ve_nm 0 rfl (.inr (.inl rfl))) (va_cons ve_str va_nil)))) (vss_cons (vs_set sc__law_plain_right.nd rfl (.inl rfl) (ve_lst (va_cons ve_str (va_cons (ve_lc (own := [("k", 8)]) rfl sc__law_plain_right.nd (vi_rng1 rfl (g_range F) (va_cons (ve_len (g_len F) (va_cons (ve_nm 0 rfl (.inr (.inl rfl))) va_nil)) va_nil)) bk__law_plain_right_0 (fun _ _ _ _ _ => (vg_nm sc__law_plain_right.nd rfl (.inl rfl))) (fun _ _ _ _ _ => (vts_one (vt_cmpR (cr_eq hu) (ve_ix (ve_nm 0 rfl (.inr (.inl rfl))) (ve_nm 8 rfl (.inl rfl))) ve_str))) (fun _ _ _ _ _ => (ve_nm 8 rfl (.inl rfl)))) va_nil)))) (vss_cons (vs_set sc__law_plain_right.nd rfl (.inl rfl) ve_str) (vss_cons (vs_for (passes_of rfl) rfl (vi_seq (ve_nm 0 rfl (.inr (.inl rfl)))) (vg_nm sc__law_plain_right.nd rfl (.inl rfl)) (vss_one (vs_set sc__law_plain_right.nd rfl (.inl rfl) (ve_add (ve_nm 5 rfl (.inl rfl)) (ve_nm 4 rfl (.inl rfl)))))) (vss_cons (vs_set sc__law_plain_right.nd rfl (.inl rfl) (ve_lst (va_cons ve_str (va_cons (ve_nm 4 rfl (.inl rfl)) va_nil)))) (vss_cons (vs_if (vt_cmpR cr_isnot (ve_nm 2 rfl (.inl rfl)) ve_non) (vss_cons (vs_set sc__law_plain_right.nd rfl (.inl rfl) (ve_lst (va_cons ve_str (va_cons (ve_nm 2 rfl (.inl rfl)) (va_cons ve_bl (va_cons ve_bl va_nil)))))) (vss_one (vs_set sc__law_plain_right.nd rfl (.inl rfl) (ve_nm 3 rfl (.inl rfl))))) vss_nil) (vss_cons (vs_set sc__law_plain_right.nd rfl (.inl rfl) (ve_call (fn__law_ask_3 F ih hr4) rfl (va_cons ve_str (va_cons (ve_nm 0 rfl (.inr (.inl rfl))) (va_cons ve_non va_nil))))) (vss_cons (vs_if (vt_w (vw_or (vt_not (vt_tru (ve_callR (fn__law_is_2 F ih hr4) rfl (va_cons (ve_nm 7 rfl (.inl rfl)) (va_cons (ve_nm 3 rfl (.inl rfl)) va_nil))))) (vw_or1 (vt_not (vt_tru (ve_callR (fn__law_is_2 F ih hr4) rfl (va_cons (ve_call (fn__law_ask_3 F ih hr4) rfl (va_cons ve_str (va_cons (ve_nm 0 rfl (.inr (.inl rfl))) (va_cons ve_non va_nil)))) (va_cons (ve_nm 6 rfl (.inl rfl)) va_nil)))))))) (vss_one (vs_ret ve_bl)) vss_nil) (vss_cons (vs_if (vt_cmpR cr_is (ve_nm 2 rfl (.inl rfl)) ve_non) (vss_one (vs_mu2 rfl (.inl rfl) pe_int (fun _ => rfl))) vss_nil) (vss_one (vs_ret (ve_callR (fn__law_is_2 F ih hr4) rfl (va_cons (ve_call (fn__law_ask_3 F ih hr4) rfl (va_cons ve_str (va_cons (ve_nm 0 rfl (.inr (.inl rfl))) (va_cons ve_non va_nil)))) (va_cons (ve_nm 3 rfl (.inl rfl)) va_nil)))))))))))))))))
theorem b__law_moved_right (F : Fcts HD K mg) (ih : Good PySem.Challenge.pw_mendedtexts_k01_letters_and_fillings w K mg base n) (f : Addr) (pv : Nat → Option V) (cdv : Value) (A : Around) (outer : List PySem.Env) (s : Shared) (H : Hp) (E : XK) (hr7 : Room (4 * n + 7) (A.deeper (envOfC "_law_moved_right" sc_t__law_moved_right s.heap.objs.size f cdv))) :
    VSs ⟨callF tab xt.sub n, xt.sub⟩ ⟨none, pv⟩ (cxOf (L2.CX PySem.Challenge.pw_mendedtexts_k01_letters_and_fillings w) PySem.Challenge.pw_mendedtexts_k01_letters_and_fillings w K mg base n__law_moved_right "_law_moved_right" sc_t__law_moved_right f cdv A outer s H E) (defBody (top 42)) c__law_moved_right :=
  have hr4 : Room (4 * n + 4) (A.deeper (envOfC "_law_moved_right" sc_t__law_moved_right s.heap.objs.size f cdv)) := hr7.mono (by omega)
  have hr2 : Room 2 (A.deeper (envOfC "_law_moved_right" sc_t__law_moved_right s.heap.objs.size f cdv)) := hr7.mono (by omega)
  have hu : (A.deeper (envOfC "_law_moved_right" sc_t__law_moved_right s.heap.objs.size f cdv)).units + 200 < cLine := Room.u hr7
  (vss_cons (vs_set sc__law_moved_right.nd rfl (.inl rfl) (ve_list rfl (g_list F) (va_cons (ve_nm 1 rfl (.inl rfl)) va_nil))) (vss_cons (vs_set sc__law_moved_right.nd rfl (.inl rfl) (ve_call (fn__law_strange_due_2 F ih hr4) rfl (va_cons (ve_nm 0 rfl (.inl rfl)) (va_cons (ve_nm 1 rfl (.inl rfl)) va_nil)))) (vss_cons (vs_if (vt_w (vw_or (vt_not (vt_tru (ve_callR (fn__law_is_2 F ih hr4) rfl (va_cons (ve_call (fn__law_ask_3 F ih hr4) rfl (va_cons ve_str (va_cons (ve_nm 0 rfl (.inl rfl)) (va_cons (ve_nm 3 rfl (.inl rfl)) va_nil)))) (va_cons (ve_nm 4 rfl (.inl rfl)) va_nil))))) (vw_or1 (vt_cmpR (cr_ne hu) (ve_nm 3 rfl (.inl rfl)) (ve_nm 1 rfl (.inl rfl)))))) (vss_one (vs_ret ve_bl)) vss_nil) (vss_cons (vs_if (vt_not (vt_tru (ve_callR (fn__law_is_2 F ih hr4) rfl (va_cons (ve_call (fn__law_ask_3 F ih hr4) rfl (va_cons ve_str (va_cons (ve_nm 0 rfl (.inl rfl)) (va_cons (ve_tuple (g_tuple F) (va_cons (ve_nm 1 rfl (.inl rfl)) va_nil)) va_nil)))) (va_cons (ve_nm 4 rfl (.inl rfl)) va_nil))))) (vss_one (vs_ret ve_bl)) vss_nil) (vss_cons (vs_set sc__law_moved_right.nd rfl (.inl rfl) ve_dic0) (vss_cons (vs_for (passes_of rfl) rfl (vi_seq (ve_nm 2 rfl (.inl rfl))) (vg_nm sc__law_moved_right.nd rfl (.inl rfl)) (vss_one (vs_sub hu (ve_nm 5 rfl (.inl rfl)) (ve_ix (ve_nm 6 rfl (.inl rfl)) ve_int) (ve_ix (ve_nm 6 rfl (.inl rfl)) ve_int)))) (vss_cons (vs_set sc__law_moved_right.nd rfl (.inl rfl) (ve_call (fn__law_ask_3 F ih hr4) rfl (va_cons ve_str (va_cons (ve_nm 0 rfl (.inl rfl)) (va_cons (ve_nm 5 rfl (.inl rfl)) va_nil))))) (vss_cons (vs_if (vt_not (vt_tru (ve_callR (fn__law_is_2 F ih hr4) rfl (va_cons (ve_nm 7 rfl (.inl rfl)) (va_cons (ve_call (fn__law_recast_due_2 F ih hr4) rfl (va_cons (ve_nm 0 rfl (.inl rfl)) (va_cons (ve_nm 2 rfl (.inl rfl)) va_nil))) va_nil))))) (vss_one (vs_ret ve_bl)) vss_nil) (vss_one (vs_ret (ve_cmpR (cr_eq hu) (ve_items rfl (ve_nm 5 rfl (.inl rfl)) rfl (g_list F) PyProof.Rows.boot_list) (ve_nm 2 rfl (.inl rfl)))))))))))))
theorem b_law (F : Fcts HD K mg) (ih : Good PySem.Challenge.pw_mendedtexts_k01_letters_and_fillings w K mg base n) (f : Addr) (pv : Nat → Option V) (cdv : Value) (A : Around) (outer : List PySem.Env) (s : Shared) (H : Hp) (E : XK) (hr7 : Room (4 * n + 7) (A.deeper (envOfC "law" sc_t_law s.heap.objs.size f cdv))) :
    VSs ⟨callF tab xt.sub n, xt.sub⟩ ⟨none, pv⟩ (cxOf (L2.CX PySem.Challenge.pw_mendedtexts_k01_letters_and_fillings w) PySem.Challenge.pw_mendedtexts_k01_letters_and_fillings w K mg base n_law "law" sc_t_law f cdv A outer s H E) (defBody (top 43)) c_law :=
  have hr4 : Room (4 * n + 4) (A.deeper (envOfC "law" sc_t_law s.heap.objs.size f cdv)) := hr7.mono (by omega)
  have hr2 : Room 2 (A.deeper (envOfC "law" sc_t_law s.heap.objs.size f cdv)) := hr7.mono (by omega)
  have hu : (A.deeper (envOfC "law" sc_t_law s.heap.objs.size f cdv)).units + 200 < cLine := Room.u hr7
  (vss_cons (vs_set sc_law.nd rfl (.inr rfl) (ve_call (fn__law_pool_1 F ih hr4) rfl (va_cons (ve_nm 0 rfl (.inl rfl)) va_nil))) (vss_cons (vs_set sc_law.nd rfl (.inl rfl) (ve_call (fn__law_letters_1 F ih hr4) rfl (va_cons (ve_nm 1 rfl (.inr (.inl rfl))) va_nil))) (vss_cons (vs_set sc_law.nd rfl (.inl rfl) (ve_call (fn__law_text_1 F ih hr4) rfl (va_cons (ve_nm 1 rfl (.inr (.inl rfl))) va_nil))) (vss_cons (vs_set sc_law.nd rfl (.inl rfl) (ve_sl (ve_add (ve_mul ve_str (ve_call (fn__law_draw_2 F ih hr4) rfl (va_cons (ve_nm 1 rfl (.inr (.inl rfl))) (va_cons ve_int va_nil)))) (ve_nm 3 rfl (.inl rfl))) vo_none (vo_some ve_int))) (vss_cons (vs_set sc_law.nd rfl (.inl rfl) (ve_call (fn__law_odd_2 F ih hr4) rfl (va_cons (ve_nm 1 rfl (.inr (.inl rfl))) (va_cons (ve_nm 3 rfl (.inl rfl)) va_nil)))) (vss_cons (vs_set sc_law.nd rfl (.inl rfl) (ve_call (fn__law_draw_2 F ih hr4) rfl (va_cons (ve_nm 1 rfl (.inr (.inl rfl))) (va_cons ve_int va_nil)))) (vss_cons (vs_set sc_law.nd rfl (.inl rfl) (ve_join ve_str (va_cons (ve_lc (own := [("k", 12)]) rfl sc_law.nd (vi_rng1 rfl (g_range F) (va_cons (ve_nm 6 rfl (.inl rfl)) va_nil)) bk_law_0 (fun _ _ _ _ _ => (vg_nm sc_law.nd rfl (.inl rfl))) (fun _ _ _ _ _ => vts_nil) (fun _ _ _ _ _ => (ve_ix ve_str (ve_call (fn__law_draw_2 F ih hr4) rfl (va_cons (ve_nm 1 rfl (.inr (.inl rfl))) (va_cons ve_int va_nil)))))) va_nil))) (vss_cons (vs_set sc_law.nd rfl (.inl rfl) (ve_call (fn__law_places_2 F ih hr4) rfl (va_cons (ve_nm 1 rfl (.inr (.inl rfl))) (va_cons (ve_nm 3 rfl (.inl rfl)) va_nil)))) (vss_cons (vs_set sc_law.nd rfl (.inl rfl) (ve_call (fn__law_pairs_1 F ih hr4) rfl (va_cons (ve_nm 1 rfl (.inr (.inl rfl))) va_nil))) (vss_cons (vs_if (vt_cmpR (cr_ne hu) (ve_lst (va_cons (ve_gstr (g_TOKENS F)) (va_cons (ve_gstr (g_STRANGER F)) (va_cons (ve_gstr (g_HOLE F)) va_nil)))) (ve_lst (va_cons ve_str (va_cons ve_str (va_cons ve_str va_nil))))) (vss_one (vs_ret ve_bl)) vss_nil) (vss_cons (vs_for (passes_of rfl) rfl (vi_seq (ve_lst (va_cons (ve_nm 3 rfl (.inl rfl)) (va_cons (ve_nm 4 rfl (.inl rfl)) (va_cons (ve_nm 5 rfl (.inl rfl)) va_nil))))) (vg_nm sc_law.nd rfl (.inl rfl)) (vss_cons (vs_if (vt_not (vt_tru (ve_call (fn__law_plain_right_2 F ih hr4) rfl (va_cons (ve_nm 10 rfl (.inl rfl)) (va_cons (ve_nm 2 rfl (.inl rfl)) va_nil))))) (vss_one (vs_ret ve_bl)) vss_nil) (vss_cons (vs_set sc_law.nd rfl (.inl rfl) (ve_call (fn__law_fillings_due_2 F ih hr4) rfl (va_cons (ve_nm 10 rfl (.inl rfl)) (va_cons (ve_nm 2 rfl (.inl rfl)) va_nil)))) (vss_one (vs_if (vt_not (vt_tru (ve_callR (fn__law_is_2 F ih hr4) rfl (va_cons (ve_call (fn__law_ask_3 F ih hr4) rfl (va_cons ve_str (va_cons (ve_nm 10 rfl (.inl rfl)) (va_cons (ve_nm 2 rfl (.inl rfl)) va_nil)))) (va_cons (ve_nm 11 rfl (.inl rfl)) va_nil))))) (vss_one (vs_ret ve_bl)) vss_nil))))) (vss_cons (vs_for (passes_of rfl) rfl (vi_seq (ve_lst (va_cons (ve_nm 3 rfl (.inl rfl)) (va_cons (ve_nm 5 rfl (.inl rfl)) va_nil)))) (vg_nm sc_law.nd rfl (.inl rfl)) (vss_cons (vs_set sc_law.nd rfl (.inl rfl) (ve_call (fn__law_fillings_due_2 F ih hr4) rfl (va_cons (ve_nm 10 rfl (.inl rfl)) (va_cons (ve_nm 7 rfl (.inl rfl)) va_nil)))) (vss_cons (vs_if (vt_not (vt_tru (ve_callR (fn__law_is_2 F ih hr4) rfl (va_cons (ve_call (fn__law_ask_3 F ih hr4) rfl (va_cons ve_str (va_cons (ve_nm 10 rfl (.inl rfl)) (va_cons (ve_nm 7 rfl (.inl rfl)) va_nil)))) (va_cons (ve_nm 11 rfl (.inl rfl)) va_nil))))) (vss_one (vs_ret ve_bl)) vss_nil) (vss_cons (vs_if (vt_not (vt_tru (ve_call (fn__law_moved_right_3 F ih hr4) rfl (va_cons (ve_nm 10 rfl (.inl rfl)) (va_cons (ve_nm 8 rfl (.inl rfl)) (va_cons (ve_nm 9 rfl (.inl rfl)) va_nil)))))) (vss_one (vs_ret ve_bl)) vss_nil) (vss_one (vs_if (vt_not (vt_tru (ve_call (fn__law_moved_right_3 F ih hr4) rfl (va_cons (ve_nm 10 rfl (.inl rfl)) (va_cons (ve_lst va_nil) (va_cons (ve_lst va_nil) va_nil)))))) (vss_one (vs_ret ve_bl)) vss_nil)))))) (vss_one (vs_ret ve_bl))))))))))))))
theorem good (F : Fcts HD K mg) : ∀ n, Good PySem.Challenge.pw_mendedtexts_k01_letters_and_fillings w K mg base n
  | 0 => ⟨GoodF.zero F.says (List.mem_of_getElem? (i := 0) rfl), GoodF.zero F.says (List.mem_of_getElem? (i := 1) rfl), GoodF.zero F.says (List.mem_of_getElem? (i := 2) rfl), GoodF.zero F.says (List.mem_of_getElem? (i := 3) rfl), GoodF.zero F.says (List.mem_of_getElem? (i := 4) rfl), GoodF.zero F.says (List.mem_of_getElem? (i := 5) rfl), GoodF.zero F.says (List.mem_of_getElem? (i := 6) rfl), GoodG.zero F.says (List.mem_of_getElem? (i := 7) rfl), GoodF.zero F.says (List.mem_of_getElem? (i := 8) rfl), GoodF.zero F.says (List.mem_of_getElem? (i := 9) rfl), GoodF.zero F.says (List.mem_of_getElem? (i := 10) rfl), GoodF.zero F.says (List.mem_of_getElem? (i := 11) rfl), GoodF.zero F.says (List.mem_of_getElem? (i := 12) rfl), GoodF.zero F.says (List.mem_of_getElem? (i := 13) rfl), GoodF.zero F.says (List.mem_of_getElem? (i := 14) rfl), GoodF.zero F.says (List.mem_of_getElem? (i := 15) rfl), GoodF.zero F.says (List.mem_of_getElem? (i := 16) rfl), GoodF.zero F.says (List.mem_of_getElem? (i := 17) rfl), GoodF.zero F.says (List.mem_of_getElem? (i := 18) rfl), GoodF.zero F.says (List.mem_of_getElem? (i := 19) rfl), GoodF.zero F.says (List.mem_of_getElem? (i := 20) rfl), GoodF.zero F.says (List.mem_of_getElem? (i := 21) rfl), GoodF.zero F.says (List.mem_of_getElem? (i := 22) rfl), GoodF.zero F.says (List.mem_of_getElem? (i := 23) rfl), GoodF.zero F.says (List.mem_of_getElem? (i := 24) rfl), GoodF.zero F.says (List.mem_of_getElem? (i := 25) rfl), GoodF.zero F.says (List.mem_of_getElem? (i := 26) rfl), GoodF.zero F.says (List.mem_of_getElem? (i := 27) rfl), GoodF.zero F.says (List.mem_of_getElem? (i := 28) rfl), GoodF.zero F.says (List.mem_of_getElem? (i := 29) rfl), GoodF.zero F.says (List.mem_of_getElem? (i := 30) rfl)⟩
  | n + 1 => by
    have ih := good F n
    exact ⟨GoodF.succ F.says (List.mem_of_getElem? (i := 0) rfl) sc_is_token t_is_token (b_is_token F ih),
      GoodF.succ F.says (List.mem_of_getElem? (i := 1) rfl) sc_is_row t_is_row (b_is_row F ih),
      GoodF.succ F.says (List.mem_of_getElem? (i := 2) rfl) sc_wrong_sign t_wrong_sign (b_wrong_sign F ih),
      GoodF.succ F.says (List.mem_of_getElem? (i := 3) rfl) sc_first_wrong t_first_wrong (b_first_wrong F ih),
      GoodF.succ F.says (List.mem_of_getElem? (i := 4) rfl) sc_check_text t_check_text (b_check_text F ih),
      GoodF.succ F.says (List.mem_of_getElem? (i := 5) rfl) sc_hole_places t_hole_places (b_hole_places F ih),
      GoodF.succ F.says (List.mem_of_getElem? (i := 6) rfl) sc_mirrored t_mirrored (b_mirrored F ih),
      GoodG.succ F.says (List.mem_of_getElem? (i := 7) rfl) sc_fillings t_fillings (fun y cls h1 h2 => F.stop h1 h2) (b_fillings F ih),
      GoodF.succ F.says (List.mem_of_getElem? (i := 8) rfl) sc_filling_count t_filling_count (b_filling_count F ih),
      GoodF.succ F.says (List.mem_of_getElem? (i := 9) rfl) sc_filled t_filled (b_filled F ih),
      GoodF.succ F.says (List.mem_of_getElem? (i := 10) rfl) sc_strange t_strange (b_strange F ih),
      GoodF.succ F.says (List.mem_of_getElem? (i := 11) rfl) sc_check_moves t_check_moves (b_check_moves F ih),
      GoodF.succ F.says (List.mem_of_getElem? (i := 12) rfl) sc_recast t_recast (b_recast F ih),
      GoodF.succ F.says (List.mem_of_getElem? (i := 13) rfl) sc__law_pool t__law_pool (b__law_pool F ih),
      GoodF.succ F.says (List.mem_of_getElem? (i := 14) rfl) sc__law_draw t__law_draw (b__law_draw F ih),
      GoodF.succ F.says (List.mem_of_getElem? (i := 15) rfl) sc__law_is t__law_is (b__law_is F ih),
      GoodF.succ F.says (List.mem_of_getElem? (i := 16) rfl) sc__law_letters t__law_letters (b__law_letters F ih),
      GoodF.succ F.says (List.mem_of_getElem? (i := 17) rfl) sc__law_text t__law_text (b__law_text F ih),
      GoodF.succ F.says (List.mem_of_getElem? (i := 18) rfl) sc__law_odd t__law_odd (b__law_odd F ih),
      GoodF.succ F.says (List.mem_of_getElem? (i := 19) rfl) sc__law_places t__law_places (b__law_places F ih),
      GoodF.succ F.says (List.mem_of_getElem? (i := 20) rfl) sc__law_pairs t__law_pairs (b__law_pairs F ih),
      GoodF.succ F.says (List.mem_of_getElem? (i := 21) rfl) sc__law_ask t__law_ask (b__law_ask F ih),
      GoodF.succ F.says (List.mem_of_getElem? (i := 22) rfl) sc__law_wrong t__law_wrong (b__law_wrong F ih),
      GoodF.succ F.says (List.mem_of_getElem? (i := 23) rfl) sc__law_ascends t__law_ascends (b__law_ascends F ih),
      GoodF.succ F.says (List.mem_of_getElem? (i := 24) rfl) sc__law_all_filled t__law_all_filled (b__law_all_filled F ih),
      GoodF.succ F.says (List.mem_of_getElem? (i := 25) rfl) sc__law_fillings_due t__law_fillings_due (b__law_fillings_due F ih),
      GoodF.succ F.says (List.mem_of_getElem? (i := 26) rfl) sc__law_strange_due t__law_strange_due (b__law_strange_due F ih),
      GoodF.succ F.says (List.mem_of_getElem? (i := 27) rfl) sc__law_recast_due t__law_recast_due (b__law_recast_due F ih),
      GoodF.succ F.says (List.mem_of_getElem? (i := 28) rfl) sc__law_plain_right t__law_plain_right (b__law_plain_right F ih),
      GoodF.succ F.says (List.mem_of_getElem? (i := 29) rfl) sc__law_moved_right t__law_moved_right (b__law_moved_right F ih),
      GoodF.succ F.says (List.mem_of_getElem? (i := 30) rfl) sc_law t_law (b_law F ih)⟩
end
end LawK01
end

section
set_option Elab.async false
set_option linter.all false
set_option maxRecDepth 100000
set_option maxHeartbeats 4000000
namespace LawK01
open PV PySem PySem.Spec PyProof.Rows L2 He
def loose0 : List Str := ["MendError", "BadText", "BadLetters", "NoPlace", "TooMany", "TOKENS", "STRANGER", "HOLE", "MOST_LETTERS", "MOST_FILLINGS", "is_token", "is_row", "wrong_sign", "first_wrong", "check_text", "hole_places", "mirrored", "fillings", "filling_count", "filled"]
def loose1 : List Str := ["strange", "check_moves", "recast", "_law_pool", "_law_draw", "_law_is", "_law_letters", "_law_text", "_law_odd", "_law_places", "_law_pairs", "_law_ask", "_law_wrong", "_law_ascends", "_law_all_filled", "_law_fillings_due", "_law_strange_due", "_law_recast_due", "_law_plain_right", "_law_moved_right"]
def loose : List Str := loose0 ++ loose1
abbrev R : PySem.W.OpenRow := PySem.W.OpenLaw.row PySem.Challenge.rw_mendedtexts_k01_letters_and_fillings
abbrev hk : PySem.W.Hook := hookP 5 HD
def ob (s : PySem.W.SharedT) : AlD := obsP 5 HD (HandSHeadRun.getT s)
theorem ob_eq (s : PySem.W.SharedT) : ob s = hk.obs s.abs := obsP_eq (HandSHeadRun.getT_eq s)
set_option maxHeartbeats 0 in
theorem run (w : World) : HandSHeadRun.RunEq R (PySem.W.view R.prog [43]) hk ob 4000 loose w := by
  intro os
  kernel_rfl
end LawK01
open PySem PySem.W PySem.Calls PyProof.Rows
set_option maxHeartbeats 0 in
theorem LawK01.holds_of (hl : PV.LawIs LawK01.tab LawK01.xt.sub 12) : PySem.Challenge.rw_mendedtexts_k01_letters_and_fillings.Holds := by
  w_on; o_law
  refine HandSHeadRun.head_any (r := OpenLaw.row PySem.Challenge.rw_mendedtexts_k01_letters_and_fillings) (q := view (OpenLaw.row PySem.Challenge.rw_mendedtexts_k01_letters_and_fillings).prog [43]) (H := LawK01.hk) (ob := LawK01.ob) (M := 4000) (loose := LawK01.loose) (d := HandSHeadRun.topDef (OpenLaw.row PySem.Challenge.rw_mendedtexts_k01_letters_and_fillings).prog 43) (kwd := []) LawK01.ob_eq
    (by kernel_rfl) (fun s => by kernel_rfl) LawK01.run (by kernel_rfl) (by kernel_rfl) (by kernel_rfl) (by rfl) (by first | assumption | decide +kernel) (by decide +kernel) ⟨rfl, rfl, rfl, rfl, rfl, by decide +kernel⟩ ?hw ?hc
  case hw => w_witness2
  case hc =>
    exact PV.law_fn (d := LawK01.d_law) hl rfl (by kernel_rfl) ⟨rfl, by decide, by decide⟩ (by kernel_rfl) rfl (List.mem_of_getElem? (i := 30) rfl) (List.mem_of_getElem? (i := 54) rfl) rfl rfl rfl (fun kV doc pm an cdv ct us h => match us, h with | [_], _ => rfl) (fun w K mg base F => (LawK01.good F 12).q_law)
end
theorem PySem.Challenge.cw_mendedtexts_k01_letters_and_fillings_holds : PySem.Challenge.rw_mendedtexts_k01_letters_and_fillings.Holds := by
  exact LawK01.holds_of LawK01.law_is
