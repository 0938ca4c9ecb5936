import PyProof.Rows.All
import Wide.All
import OpenK.AllK
import Wide.FinOn
import HandS.ForMost
import HandS.ForExc
import HandS.Wide
import HandS.WideBits
import HandS.Gcd
import HandS.TupMul
import HandS.TupAny
import HandS.TryMany
import HandS.Lambda
import HandS.Deep
import HandS.Conv
import KE.SortData
import KE.KMathG
import HandS.IsInst
import HandS.Zip
import HandS.Style
import HandS.Codes
import HandS.HeadHook2
import HandS.Head3
import HandS.EndOwn
import HandS.EndTab
import HandS.HeadWalk
import HandS.Defaults
import KE.KNestM
import HandS.Ends
import HandS.Words
import PySem.Challenge.RW_treespace_k09_whole_spiders
set_option Elab.async false
set_option linter.all false
set_option autoImplicit false
set_option maxRecDepth 100000
/-! DP, part A: a small core language and what it computes over data. -/
namespace DP
open PySem

/-- the content of a slot: data, or an object of one's own -/
inductive OV where
  | fr (d : PyData)
  | lst (xs : List OV)
  | tup (xs : List OV)
  | dct (t : Bool) (kvs : List (PyData × PyData))

mutual
def OV.fz : OV → PyData
  | .fr d => d
  | .lst xs => .list (OV.fzs xs)
  | .tup xs => .tuple (OV.fzs xs)
  | .dct _ kvs => .dict kvs
def OV.fzs : List OV → List PyData
  | [] => []
  | x :: xs => x.fz :: OV.fzs xs
end
def OV.isFr : OV → Bool
  | .fr _ => true
  | _ => false
/-- all of a row are data -/
def frsO : List OV → Option (List PyData)
  | [] => some []
  | .fr d :: r => match frsO r with
    | some ds => some (d :: ds)
    | none => none
  | _ :: _ => none
def mkTup (xs : List OV) : OV := match frsO xs with
  | some ds => .fr (.tuple ds)
  | none => .tup xs

abbrev En := List (Option OV)
/-- an answer (or an error's number), and the slots behind it -/
abbrev R (α : Type) := Option (Except Nat α × En)
def R.bind {α β : Type} (x : R α) (f : α → En → R β) : R β := match x with
  | none => none
  | some (.error e, ρ) => some (.error e, ρ)
  | some (.ok a, ρ) => f a ρ
def R.ok {α : Type} (a : α) (ρ : En) : R α := some (.ok a, ρ)
/-- without an error -/
def R.noE {α : Type} (x : R α) : R α := match x with
  | some (.error _, _) => none
  | x => x
/-- a partial answer, the slots as they are -/
def R.of {α : Type} (o : Option α) (ρ : En) : R α := match o with
  | some a => some (.ok a, ρ)
  | none => none

inductive Bop where
  | add | sub | mul | fdiv | mod | pow | shl | shr
  deriving DecidableEq
inductive Cop where
  | eq | ne | lt | le | gt | ge | isin | notin
  deriving DecidableEq
/-- built-in functions -/
inductive Blt where
  | len | all | any | sorted | tuple | list | dict | int | str | max | min | gcd | isqrt | set | sum | lrange
  | isInt | isBool | isStr | isTuple | isList | isTupleList
  deriving DecidableEq
/-- methods that change nothing -/
inductive Mth where
  | get | split | partition | join | count
  deriving DecidableEq
/-- methods that change the object -/
inductive Mut where
  | append | extend | pop | pop0 | popAt | update
  deriving DecidableEq
/-- how an argument is handed over: a value; a slot whose object the callee may change; a look -/
inductive AM where
  | v | io | pk
  deriving DecidableEq

/-- a target -/
inductive Tg where
  | nm (i : Nat)
  | tp (ts : List Tg)

mutual
inductive Ex where
  | var (i : Nat)
  | cst (d : PyData)
  | glo (d : PyData)
  | bin (o : Bop) (a b : Ex)
  | neg (a : Ex)
  | nt (a : Ex)
  | bo (isAnd : Bool) (es : Exs)
  | cmp (o : Cop) (a b : Ex)
  | isN (yes : Bool) (a : Ex)
  | chain (o1 o2 : Cop) (a b c : Ex)
  | ite (c a b : Ex)
  | tup (es : Exs)
  | lst (es : Exs)
  | dct (t : Bool) (ks vs : Exs)
  | idx (a i : Ex)
  | slc (a : Ex) (lo hi : Exs)
  | stp (a : Ex) (k : Int)
  | call (f : Nat) (ms : List AM) (es : Exs)
  | blt (b : Blt) (es : Exs)
  | meth (m : Mth) (o : Ex) (es : Exs)
  | mut (m : Mut) (p : Ex) (es : Exs)
  | comp (elt : Ex) (gs : Gns) (own : List Nat)
  | told (f : Nat) (hs : List (Nat × Str)) (k : Nat) (body : Ex)
  | frz (a : Ex)
inductive Exs where
  | nil
  | cons (e : Ex) (es : Exs)
/-- what is walked -/
inductive Itr where
  | it (e : Ex)
  | rng (es : Exs)
  | zip (a b : Ex)
  | enum (a : Ex)
inductive Gns where
  | nil
  | cons (t : Tg) (i : Itr) (c : Exs) (gs : Gns)
end

inductive Fl where
  | nx
  | rt (d : PyData)

mutual
inductive Sm where
  | asg (t : Tg) (e : Ex)
  | par (ts : List Nat) (es : Exs)
  | aug (i : Nat) (o : Bop) (e : Ex)
  | sto (p i e : Ex)
  | exp (e : Ex)
  | ret (e : Ex)
  | rtn
  | rse (c : Nat)
  | ifs (c : Ex) (a b : Sms)
  | whl (c : Ex) (b : Sms)
  | fors (t : Tg) (i : Itr) (b : Sms)
  | pas
  | tryS (b : Sms) (i c j : Nat) (d : PyData)
inductive Sms where
  | nil
  | cons (s : Sm) (ss : Sms)
end

/-! ### data operations -/
def intD : PyData → Option Int
  | .int i => some i
  | _ => none
def boolD : PyData → Option Bool
  | .bool b => some b
  | _ => none
def strD : PyData → Option Str
  | .str x => some x
  | _ => none
/-- the items of a list or a tuple whose items are data -/
def seqO : OV → Option (List PyData)
  | .fr (.list ds) => some ds
  | .fr (.tuple ds) => some ds
  | .lst xs => frsO xs
  | .tup xs => frsO xs
  | _ => none
def lstO : OV → Option (List PyData)
  | .fr (.list ds) => some ds
  | .lst xs => frsO xs
  | _ => none
def mkLst (ds : List PyData) : OV := .lst (ds.map .fr)
def small (n : Nat) : Bool := decide (n ≤ 1000000)
def okDiv (j : Int) : Bool := decide (j ≠ 0) && decide (j.natAbs.log2 < 9000)
def okShl (i j : Int) : Bool := decide (0 ≤ j) && decide ((Builtin.Int.intBits i : Int) + j ≤ 2 ^ 27)
def okMul (i j : Int) : Bool := decide ((Builtin.Int.intBits i : Int) ≤ 64) || decide ((Builtin.Int.intBits j : Int) ≤ 64) || decide ((Builtin.Int.intBits i : Int) + (Builtin.Int.intBits j : Int) ≤ 134217728)
def okPow (i j : Int) : Bool := decide (0 ≤ j) && decide (j ≤ 1000000) && decide (i.natAbs < 2 ^ 64)
def strCat (x y : Str) : Str := ⟨x.cps ++ y.cps⟩

def binO (o : Bop) (a b : OV) : Option OV := match o with
  | .add => match a, b with
    | .fr (.int i), .fr (.int j) => some (.fr (.int (i + j)))
    | .fr (.str x), .fr (.str y) => if small (x.cps.size + y.cps.size) then some (.fr (.str (strCat x y))) else none
    | .fr (.tuple xs), .fr (.tuple ys) => if small (xs.length + ys.length) then some (.fr (.tuple (xs ++ ys))) else none
    | a, b => match lstO a, lstO b with
      | some xs, some ys => if small (xs.length + ys.length) then some (mkLst (xs ++ ys)) else none
      | _, _ => none
  | .sub => match a, b with
    | .fr (.int i), .fr (.int j) => some (.fr (.int (i - j)))
    | _, _ => none
  | .mul => match a, b with
    | .fr (.int i), .fr (.int j) => if okMul i j then some (.fr (.int (i * j))) else none
    | .fr (.str x), .fr (.int j) => if decide (0 ≤ j) && decide (j ≤ 1000) && decide (x.cps.size ≤ 1000) then some (.fr (.str (Txt.mul x j))) else none
    | .fr (.tuple xs), .fr (.int j) => if decide (2 ≤ j) && decide (j ≤ 1000) && !xs.isEmpty && decide (xs.length ≤ 1000) then some (.fr (.tuple (List.replicate j.toNat xs).flatten)) else none
    | .lst a, .fr (.int j) => match frsO a with
      | some xs => if decide (0 ≤ j) && decide (j ≤ 1000) && decide (xs.length ≤ 1000) then some (mkLst (List.replicate j.toNat xs).flatten) else none
      | none => none
    | _, _ => none
  | .fdiv => match a, b with
    | .fr (.int i), .fr (.int j) => if okDiv j then some (.fr (.int (i.fdiv j))) else none
    | _, _ => none
  | .mod => match a, b with
    | .fr (.int i), .fr (.int j) => if decide (j ≠ 0) then some (.fr (.int (i.fmod j))) else none
    | _, _ => none
  | .pow => match a, b with
    | .fr (.int i), .fr (.int j) => if okPow i j then some (.fr (.int (i ^ j.toNat))) else none
    | _, _ => none
  | .shl => match a, b with
    | .fr (.int i), .fr (.int j) => if okShl i j then some (.fr (.int (i * 2 ^ j.toNat))) else none
    | _, _ => none
  | .shr => match a, b with
    | .fr (.int i), .fr (.int j) => if decide (0 ≤ j) then some (.fr (.int (i / 2 ^ j.toNat))) else none
    | _, _ => none

/-- an item by its place or its key -/
def idxO (a : OV) (i : PyData) : Option OV := match a with
  | .fr (.list ds) => match i with
    | .int k => (L2.atI ds k).map .fr
    | _ => none
  | .fr (.tuple ds) => match i with
    | .int k => (L2.atI ds k).map .fr
    | _ => none
  | .lst xs => match i with
    | .int k => L2.atI xs k
    | _ => none
  | .tup xs => match i with
    | .int k => L2.atI xs k
    | _ => none
  | _ => none
where
  lookD : List (PyData × PyData) → PyData → Option PyData
  | [], _ => none
  | (k, v) :: r, i => if PyData.eqv k i then some v else lookD r i
def optI : List PyData → Option (Option Int)
  | [] => some none
  | [.int i] => some (some i)
  | _ => none
def optO : List OV → Option (Option Int)
  | [] => some none
  | [.fr (.int i)] => some (some i)
  | _ => none
def cutD {α : Type} (xs : List α) (lo hi : Option Int) : List α := (xs.drop (HT.sIx xs.length 0 lo)).take (HT.sIx xs.length xs.length hi - HT.sIx xs.length 0 lo)
def slcO (a : OV) (lo hi : Option Int) : Option OV := match a with
  | .fr (.tuple ds) => some (.fr (.tuple (cutD ds lo hi)))
  | .fr (.str x) => if small x.cps.size then some (.fr (.str (Txt.slice x lo hi))) else none
  | a => match lstO a with
    | some ds => some (mkLst (cutD ds lo hi))
    | none => none
/-- every k-th item, or backwards -/
def stpL {α : Type} (xs : List α) (k : Int) : Option (List α) :=
  if k = -1 then some xs.reverse
  else if k = 2 then some (ev2 xs)
  else none
where
  ev2 {α : Type} : List α → List α
  | [] => []
  | [x] => [x]
  | x :: _ :: r => x :: ev2 r
def stpO (a : OV) (k : Int) : Option OV := match a with
  | .fr (.tuple ds) => (stpL ds k).map fun l => .fr (.tuple l)
  | a => match lstO a with
    | some ds => (stpL ds k).map mkLst
    | none => none

def notNone : PyData → Bool
  | .none => false
  | _ => true
/-- comparisons of data -/
def cmpD (o : Cop) (a b : PyData) : Option Bool := match o with
  | .eq => if SeqAt.shaped a && SeqAt.shaped b then some (PyData.eqv a b) else none
  | .ne => if SeqAt.shaped a && SeqAt.shaped b then some (!PyData.eqv a b) else none
  | .lt => match a, b with
    | .int i, .int j => some (decide (i < j))
    | a, b => if SeqAt.shaped a && SeqAt.shaped b && PySem.W.alike a b && notNone a then some (PySem.W.dataLt a b) else none
  | .le => match a, b with
    | .int i, .int j => some (decide (i ≤ j))
    | _, _ => none
  | .gt => match a, b with
    | .int i, .int j => some (decide (j < i))
    | _, _ => none
  | .ge => match a, b with
    | .int i, .int j => some (decide (j ≤ i))
    | _, _ => none
  | .isin => inD a b
  | .notin => (inD a b).map (!·)
where
  inD (a b : PyData) : Option Bool := match b with
    | .list ds => if SeqAt.shaped a && SeqAt.shaped (.list ds) then some (ds.any fun z => PyData.eqv z a) else none
    | .tuple ds => if SeqAt.shaped a && SeqAt.shaped (.tuple ds) then some (ds.any fun z => PyData.eqv z a) else none
    | .str z => match a with
      | .str x => match x.cps.toList with
        | [c] => some (decide (c ∈ z.cps.toList))
        | _ => none
      | _ => none
    | _ => none

def sortOk (ds : List PyData) : Bool :=
  ((ds.all fun a => ds.all fun b => PySem.W.alike a b) && (ds.all fun a => SeqAt.shaped a) &&
    ((ds.all fun a => match a with | .tuple (_ :: _) => true | _ => false) || (ds.all fun a => match a with | .tuple _ => false | .none => false | _ => true)))
def sortD (ds : List PyData) : List PyData := ds.mergeSort (PySem.W.dataLe false id)
def boolsL : List PyData → Option (List Bool)
  | [] => some []
  | .bool b :: r => match boolsL r with
    | some l => some (b :: l)
    | none => none
  | _ :: _ => none
def intsL : List PyData → Option (List Int)
  | [] => some []
  | .int b :: r => match intsL r with
    | some l => some (b :: l)
    | none => none
  | _ :: _ => none
def strsL : List PyData → Option (List Str)
  | [] => some []
  | .str b :: r => match strsL r with
    | some l => some (b :: l)
    | none => none
  | _ :: _ => none
/-- a dict of pairs: later values win -/
def putD : List (PyData × PyData) → PyData → PyData → List (PyData × PyData)
  | [], k, v => [(k, v)]
  | (k', v') :: r, k, v => if PyData.eqv k' k then (k', v) :: r else (k', v') :: putD r k v
def dictO (kvs : List (PyData × PyData)) : List PyData → Option (List (PyData × PyData))
  | [] => some kvs
  | .tuple [k, v] :: r => dictO (putD kvs k v) r
  | _ :: _ => none
def chrsD (x : Str) : List PyData := x.cps.toList.map fun c => .str ⟨#[c]⟩
def keysO : OV → Option (List PyData)
  | .fr (.str x) => some (chrsD x)
  | o => seqO o
def isTup : OV → Bool
  | .fr (.tuple _) => true
  | .tup _ => true
  | _ => false
def isLst : OV → Bool
  | .fr (.list _) => true
  | .lst _ => true
  | _ => false

def bltO (b : Blt) (xs : List OV) : Option OV := match b with
  | .len => match xs with
    | [.fr (.str x)] => if small x.cps.size then some (.fr (.int x.cps.size)) else none
    | [.lst ys] => some (.fr (.int ys.length))
    | [a] => (seqO a).map fun ds => .fr (.int ds.length)
    | _ => none
  | .all => match xs with
    | [a] => match lstO a with
      | some ds => (boolsL ds).map fun l => .fr (.bool (l.all id))
      | none => none
    | _ => none
  | .any => match xs with
    | [a] => match lstO a with
      | some ds => (boolsL ds).map fun l => .fr (.bool (l.any id))
      | none => none
    | _ => none
  | .sorted => match xs with
    | [a] => match lstO a with
      | some ds => if sortOk ds && small ds.length then some (mkLst (sortD ds)) else none
      | none => none
    | _ => none
  | .tuple => match xs with
    | [a] => (seqO a).map fun ds => .fr (.tuple ds)
    | _ => none
  | .list => match xs with
    | [a] => (seqO a).map mkLst
    | _ => none
  | .dict => none
  | .int => match xs with
    | [.fr (.int i)] => some (.fr (.int i))
    | [.fr (.str x)] => if decide (x.cps.size ≤ 640) then (PySem.intText? x).map fun i => .fr (.int i) else none
    | _ => none
  | .str => match xs with
    | [.fr (.int i)] => if decide (i.natAbs.log2 < 1920) then some (.fr (.str (Str.ofString (toString i)))) else none
    | _ => none
  | .max => match xs with
    | [.fr (.int i), .fr (.int j)] => some (.fr (.int (max i j)))
    | _ => none
  | .min => match xs with
    | [.fr (.int i), .fr (.int j)] => some (.fr (.int (min i j)))
    | _ => none
  | .gcd => match xs with
    | [.fr (.int i), .fr (.int j)] => some (.fr (.int (Nat.gcd i.natAbs j.natAbs : Nat)))
    | _ => none
  | .isqrt => none
  | .set => none
  | .sum => match xs with
    | [a] => match lstO a with
      | some ds => (intsL ds).map fun l => .fr (.int l.sum)
      | none => none
    | _ => none
  | .lrange => match xs with
    | [.fr (.int i), .fr (.int j)] => if decide (0 ≤ i) && decide (i ≤ 1000) && decide (0 ≤ j) && decide (j ≤ 1000) then some (mkLst ((List.range (j - i).toNat).map fun k : Nat => .int (i + (k : Int)))) else none
    | _ => none
  | .isInt => match xs with
    | [.fr (.int _)] => some (.fr (.bool true))
    | [.fr (.bool _)] => some (.fr (.bool true))
    | [_] => some (.fr (.bool false))
    | _ => none
  | .isBool => match xs with
    | [.fr (.bool _)] => some (.fr (.bool true))
    | [_] => some (.fr (.bool false))
    | _ => none
  | .isStr => match xs with
    | [.fr (.str _)] => some (.fr (.bool true))
    | [_] => some (.fr (.bool false))
    | _ => none
  | .isTuple => match xs with
    | [a] => some (.fr (.bool (isTup a)))
    | _ => none
  | .isList => match xs with
    | [a] => some (.fr (.bool (isLst a)))
    | _ => none
  | .isTupleList => match xs with
    | [a] => some (.fr (.bool (isTup a || isLst a)))
    | _ => none

/-- the receiver is of the method's kind -/
def mthOk (m : Mth) (o : OV) : Bool := match m with
  | .get => false
  | .split => (strD o.fz).isSome && o.isFr
  | .partition => (strD o.fz).isSome && o.isFr
  | .join => (strD o.fz).isSome && o.isFr
  | .count => false
def mthO (m : Mth) (o : OV) (xs : List PyData) : Option OV := match m with
  | .get => none
  | .split => match o, xs with
    | .fr (.str a), [.str b] => if decide (b.cps.size ≠ 0) && small a.cps.size then some (mkLst ((Txt.split a b).map .str)) else none
    | _, _ => none
  | .partition => match o, xs with
    | .fr (.str a), [.str b] => if decide (b.cps.size ≠ 0) && small a.cps.size then
        some (.fr (.tuple [.str (Txt.partition a b).1, .str (Txt.partition a b).2.1, .str (Txt.partition a b).2.2])) else none
    | _, _ => none
  | .join => match o, xs with
    | .fr (.str a), [.list ds] => match strsL ds with
      | some ys => if small ((ys.map (·.length)).sum + ys.length * a.length) then some (.fr (.str (Txt.join a ys))) else none
      | none => none
    | _, _ => none
  | .count => match o, xs with
    | o, [.int k] => match lstO o with
      | some ds => (intsL ds).map fun l => .fr (.int (l.count k : Nat))
      | none => none
    | _, _ => none

/-- what a method that changes its object gives, and the object behind it -/
def mutO (m : Mut) (o : OV) (xs : List OV) : Option (OV × OV) := match m with
  | .append => match o, xs with
    | .lst ys, [x] => if small ys.length then some (.fr .none, .lst (ys ++ [x])) else none
    | _, _ => none
  | .extend => match o, xs with
    | .lst ys, [.lst zs] => if small (ys.length + zs.length) then some (.fr .none, .lst (ys ++ zs)) else none
    | _, _ => none
  | .pop => match o, xs with
    | .lst ys, [] => match ys.getLast? with
      | some y => some (y, .lst ys.dropLast)
      | none => none
    | _, _ => none
  | .pop0 => match o, xs with
    | .lst (y :: ys), [] => some (y, .lst ys)
    | _, _ => none
  | .popAt => match o, xs with
    | .lst ys, [.fr (.int i)] => if decide (0 ≤ i) && decide (i < 1000000) then match ys[i.toNat]? with
        | some y => some (y, .lst (ys.eraseIdx i.toNat))
        | none => none
      else none
    | _, _ => none
  | .update => none
/-- o[i] = v -/
def stoO (o : OV) (i : PyData) (v : OV) : Option OV := match o with
  | .lst xs => match i with
    | .int k => (L2.ixN xs.length k).map fun j => .lst (xs.set j v)
    | _ => none
  | _ => none
/-- the object at a path, and the object with another one there -/
def rdP : OV → List Int → Option OV
  | o, [] => some o
  | .lst xs, k :: ks => match L2.atI xs k with
    | some o => rdP o ks
    | none => none
  | _, _ => none
def wrP : OV → List Int → OV → Option OV
  | _, [], v => some v
  | .lst xs, k :: ks, v => match L2.ixN xs.length k with
    | some j => match xs[j]? with
      | some o => match wrP o ks v with
        | some o' => some (.lst (xs.set j o'))
        | none => none
      | none => none
    | none => none
  | _, _, _ => none

/-! ### slots -/
def getS (ρ : En) (i : Nat) : Option OV := match ρ[i]? with
  | some (some v) => some v
  | _ => none
def setS (ρ : En) (i : Nat) (v : OV) : En := ρ.set i (some v)
def wipeS (ρ : En) : List Nat → En
  | [] => ρ
  | i :: is => (wipeS ρ is).set i none
mutual
def asgT : Tg → OV → En → Option En
  | .nm i, v, ρ => if i < ρ.length then some (setS ρ i v) else none
  | .tp ts, .fr (.tuple ds), ρ => if ts.length = ds.length then asgTs ts (ds.map .fr) ρ else none
  | .tp ts, .tup xs, ρ => if ts.length = xs.length then asgTs ts xs ρ else none
  | .tp _, _, _ => none
def asgTs : List Tg → List OV → En → Option En
  | [], [], ρ => some ρ
  | t :: ts, v :: vs, ρ => match asgT t v ρ with
    | some ρ' => asgTs ts vs ρ'
    | none => none
  | _, _, _ => none
end
mutual
def tgs : Tg → List Nat
  | .nm i => [i]
  | .tp ts => tgss ts
def tgss : List Tg → List Nat
  | [] => []
  | t :: ts => tgs t ++ tgss ts
end
mutual
/-- no list, no dict within -/
def noList : PyData → Bool
  | .list _ => false
  | .dict _ => false
  | .tuple ds => noLists ds
  | _ => true
def noLists : List PyData → Bool
  | [] => true
  | d :: ds => noList d && noLists ds
end

/-- a list stands at the path -/
def isLP (ρ : En) (i : Nat) (ks : List Int) : Bool := match getS ρ i with
  | some o => match rdP o ks with
    | some (.lst _) => true
    | _ => false
  | none => false

/-! ### the meaning of the core language -/
inductive AV where
  | v (d : PyData)
  | io (i : Nat)
  | pk (d : PyData)
/-- how a call goes: the arguments' contents, the answer, the contents of the io arguments behind it -/
abbrev CF := Nat → List OV → Option (Except Nat PyData × List OV)
def isPath : Ex → Bool
  | .var _ => true
  | .idx a _ => isPath a
  | _ => false
mutual
/-- what changes no object of one's own -/
def quiet : Ex → Bool
  | .var _ => true
  | .cst _ => true
  | .glo _ => true
  | .bin _ a b => quiet a && quiet b
  | .neg a => quiet a
  | .nt a => quiet a
  | .bo _ es => quiets es
  | .cmp _ a b => quiet a && quiet b
  | .isN _ a => quiet a
  | .chain _ _ a b c => quiet a && quiet b && quiet c
  | .ite c a b => quiet c && quiet a && quiet b
  | .tup es => quiets es
  | .lst es => quiets es
  | .dct _ ks vs => quiets ks && quiets vs
  | .idx a i => quiet a && quiet i
  | .slc a lo hi => quiet a && quiets lo && quiets hi
  | .stp a _ => quiet a
  | .call _ ms es => !ms.contains .io && quiets es
  | .blt _ es => quiets es
  | .meth _ o es => quiet o && quiets es
  | .mut _ _ _ => false
  | .comp elt gs _ => quiet elt && quietG gs
  | .told _ _ _ _ => false
  | .frz a => quiet a
def quiets : Exs → Bool
  | .nil => true
  | .cons e es => quiet e && quiets es
def quietI : Itr → Bool
  | .it e => quiet e
  | .rng es => quiets es
  | .zip a b => quiet a && quiet b
  | .enum a => quiet a
def quietG : Gns → Bool
  | .nil => true
  | .cons _ i c gs => quietI i && quiets c && quietG gs
end
/-- a look at an object that does not change meanwhile: q tells that what follows is quiet -/
def okAl (a : Ex) (v : OV) (q : Bool) : Bool := !isPath a || v.isFr || q
def takeA : List AV → En → Option (List OV × En)
  | [], ρ => some ([], ρ)
  | .v d :: r, ρ => match takeA r ρ with
    | some (l, ρ') => some (.fr d :: l, ρ')
    | none => none
  | .pk d :: r, ρ => match takeA r ρ with
    | some (l, ρ') => some (.fr d :: l, ρ')
    | none => none
  | .io i :: r, ρ => match getS ρ i with
    | some o => match takeA r (ρ.set i none) with
      | some (l, ρ') => some (o :: l, ρ')
      | none => none
    | none => none
def giveA : List AV → List OV → En → Option En
  | [], [], ρ => some ρ
  | .v _ :: r, l, ρ => giveA r l ρ
  | .pk _ :: r, l, ρ => giveA r l ρ
  | .io i :: r, o :: l, ρ => giveA r l (setS ρ i o)
  | _, _, _ => none
def anyPk : List AV → Bool
  | [] => false
  | .pk _ :: _ => true
  | _ :: r => anyPk r
def doCall (cf : CF) (f : Nat) (avs : List AV) (ρ : En) : R OV := match takeA avs ρ with
  | none => none
  | some (args, ρ1) => match cf f args with
    | none => none
    | some (res, outs) => match giveA avs outs ρ1 with
      | none => none
      | some ρ2 => match res with
        | .error c => if c < 1000 then some (.error c, ρ2) else none
        | .ok d => if anyPk avs && !noList d then none else some (.ok (.fr d), ρ2)
def loopL (f : PyData → En → R (List OV)) : List PyData → En → R (List OV)
  | [], ρ => R.ok [] ρ
  | d :: ds, ρ => (f d ρ).bind fun xs ρ1 => (loopL f ds ρ1).bind fun ys ρ2 => R.ok (xs ++ ys) ρ2
def zipD : List PyData → List PyData → List PyData
  | x :: xs, y :: ys => .tuple [x, y] :: zipD xs ys
  | _, _ => []
def enumD : Nat → List PyData → List PyData
  | _, [] => []
  | n, x :: xs => .tuple [.int n, x] :: enumD (n + 1) xs
def okR (i : Int) : Bool := decide (-(2 ^ 62) ≤ i) && decide (i < 2 ^ 62)
def rngD : List PyData → Option (List PyData)
  | [.int j] => if okR j then some ((List.range j.toNat).map fun k : Nat => .int (k : Int)) else none
  | [.int i, .int j] => if okR i && okR j then some ((List.range (j - i).toNat).map fun k : Nat => .int (i + (k : Int))) else none
  | _ => none
def bopO (o : Cop) (a b : OV) : Option OV := (cmpD o a.fz b.fz).map fun r => .fr (.bool r)
def tstO : OV → Option Bool
  | .fr (.bool b) => some b
  | _ => none

section
variable (cf : CF)
open Classical in
mutual
noncomputable def ev : Bool → Ex → En → R OV
  | m, .var i, ρ => match getS ρ i with
    | none => none
    | some (.fr d) => R.ok (.fr d) ρ
    | some v => if m then R.ok v ρ else R.ok (.fr v.fz) (setS ρ i (.fr v.fz))
  | _, .cst d, ρ => R.ok (.fr d) ρ
  | _, .glo d, ρ => R.ok (.fr d) ρ
  | _, .bin o a b, ρ => (ev true a ρ).bind fun x ρ1 => (ev true b ρ1).bind fun y ρ2 => if okAl a x (quiet b) then R.of (binO o x y) ρ2 else none
  | _, .neg a, ρ => (ev true a ρ).bind fun x ρ1 => R.of ((intD x.fz).map fun i => .fr (.int (-i))) ρ1
  | _, .nt a, ρ => (ev true a ρ).bind fun x ρ1 => R.of ((tstO x).map fun b => .fr (.bool (!b))) ρ1
  | _, .bo k es, ρ => (evB k es ρ).bind fun c ρ1 => R.ok (.fr (.bool c)) ρ1
  | _, .cmp o a b, ρ => (ev true a ρ).bind fun x ρ1 => (ev true b ρ1).bind fun y ρ2 => if okAl a x (quiet b) then R.of (bopO o x y) ρ2 else none
  | _, .isN k a, ρ => (ev true a ρ).bind fun x ρ1 => R.ok (.fr (.bool (match x with | .fr .none => k | _ => !k))) ρ1
  | _, .chain o1 o2 a b c, ρ => (ev true a ρ).bind fun x ρ1 => (ev true b ρ1).bind fun y ρ2 => if okAl a x (quiet b) then
      match cmpD o1 x.fz y.fz with
      | none => none
      | some false => R.ok (.fr (.bool false)) ρ2
      | some true => (ev true c ρ2).bind fun z ρ3 => if okAl b y (quiet c) then R.of (bopO o2 y z) ρ3 else none
    else none
  | _, .ite c a b, ρ => (ev true c ρ).bind fun x ρ1 => match tstO x with
    | none => none
    | some true => ev false a ρ1
    | some false => ev false b ρ1
  | _, .tup es, ρ => (evs es ρ).bind fun xs ρ1 => R.ok (mkTup xs) ρ1
  | _, .lst es, ρ => (evs es ρ).bind fun xs ρ1 => R.ok (.lst xs) ρ1
  | _, .dct t ks vs, ρ => (evs ks ρ).bind fun xs ρ1 => (evs vs ρ1).bind fun ys ρ2 => match frsO xs, frsO ys with
    | some ds, some es => match dictO [] (zipD ds es) with
      | some kvs => R.ok (.dct t kvs) ρ2
      | none => none
    | _, _ => none
  | m, .idx a i, ρ => (ev true a ρ).bind fun x ρ1 => (ev true i ρ1).bind fun y ρ2 => if okAl a x (quiet i) then
      match idxO x y.fz with
      | none => none
      | some z => if (m && isPath a) || z.isFr then R.ok z ρ2 else none
    else none
  | _, .slc a lo hi, ρ => (ev true a ρ).bind fun x ρ1 => (evs lo ρ1).bind fun ys ρ2 => match optO ys with
    | none => none
    | some l => (evs hi ρ2).bind fun zs ρ3 => match optO zs with
      | none => none
      | some h => if okAl a x (quiets lo && quiets hi) then R.of (slcO x l h) ρ3 else none
  | _, .stp a k, ρ => (ev true a ρ).bind fun x ρ1 => R.of (stpO x k) ρ1
  | _, .call f ms es, ρ => (evA ms es ρ).bind fun avs ρ1 => doCall cf f avs ρ1
  | _, .blt b (.cons e .nil), ρ => (ev true e ρ).bind fun x ρ1 => R.of (bltO b [x]) ρ1
  | _, .blt b es, ρ => (evs es ρ).bind fun xs ρ1 => R.of (bltO b xs) ρ1
  | _, .meth m o es, ρ => (ev true o ρ).bind fun x ρ1 => if mthOk m x then (evs es ρ1).bind fun ys ρ2 => if okAl o x (quiets es) then R.of (mthO m x (OV.fzs ys)) ρ2 else none
    else none
  | _, .mut m p es, ρ => (evP p ρ).bind fun q ρ1 => if (q.2.isEmpty || quiets es) && isLP ρ1 q.1 q.2 then (evs es ρ1).bind fun ys ρ2 => match getS ρ2 q.1 with
        | none => none
        | some o => match rdP o q.2 with
          | none => none
          | some x => match mutO m x ys with
            | none => none
            | some (z, x') => match wrP o q.2 x' with
              | none => none
              | some o' => R.ok z (setS ρ2 q.1 o')
      else none
  | _, .comp elt gs own, ρ => (evC gs own (fun ρ => (ev false elt ρ).bind fun x ρ1 => R.ok [x] ρ1) ρ).bind fun xs ρ1 => if small xs.length then R.ok (.lst xs) (wipeS ρ1 own) else none
  | _, .frz a, ρ => (ev false a ρ).bind fun x ρ1 => R.ok (.fr x.fz) ρ1
  | _, .told _ hs _ b, ρ => match ev false b ρ with
    | none => none
    | some (.ok _, ρ1) => R.ok (.fr (.str "")) ρ1
    | some (.error c, ρ1) => match hs.lookup c with
      | some x => R.ok (.fr (.str x)) ρ1
      | none => none
/-- and, or -/
noncomputable def evB : Bool → Exs → En → R Bool
  | _, .nil, _ => none
  | k, .cons e es, ρ => (ev true e ρ).bind fun x ρ1 => match tstO x with
    | none => none
    | some c => match es with
      | .nil => R.ok c ρ1
      | .cons e' es' => if c = k then evB k (.cons e' es') ρ1 else R.ok c ρ1
noncomputable def evs : Exs → En → R (List OV)
  | .nil, ρ => R.ok [] ρ
  | .cons e es, ρ => (ev false e ρ).bind fun x ρ1 => (evs es ρ1).bind fun xs ρ2 => R.ok (x :: xs) ρ2
/-- the arguments of a call -/
noncomputable def evA : List AM → Exs → En → R (List AV)
  | [], .nil, ρ => R.ok [] ρ
  | .v :: ms, .cons e es, ρ => (ev false e ρ).bind fun x ρ1 => (evA ms es ρ1).bind fun xs ρ2 => R.ok (.v x.fz :: xs) ρ2
  | .pk :: ms, .cons e es, ρ => (ev true e ρ).bind fun x ρ1 => (evA ms es ρ1).bind fun xs ρ2 => if quiets es then R.ok (.pk x.fz :: xs) ρ2 else none
  | .io :: ms, .cons (.var i) es, ρ => match getS ρ i with
    | some _ => (evA ms es ρ).bind fun xs ρ2 => R.ok (.io i :: xs) ρ2
    | none => none
  | _, _, _ => none
/-- the slot and the places of a path -/
noncomputable def evP : Ex → En → R (Nat × List Int)
  | .var i, ρ => match getS ρ i with
    | some _ => R.ok (i, []) ρ
    | none => none
  | .idx a e, ρ => (evP a ρ).bind fun q ρ1 => (ev true e ρ1).bind fun x ρ2 => if quiet e then match x with
      | .fr (.int k) => match getS ρ2 q.1 with
        | some o => match rdP o (q.2 ++ [k]) with
          | some _ => R.ok (q.1, q.2 ++ [k]) ρ2
          | none => none
        | none => none
      | _ => none
    else none
  | _, _ => none
/-- what is walked: its items -/
noncomputable def evI : Itr → En → R (List PyData)
  | .it e, ρ => (ev false e ρ).bind fun x ρ1 => R.of (keysO x) ρ1
  | .rng es, ρ => (evs es ρ).bind fun xs ρ1 => R.of (match frsO xs with | some ds => rngD ds | none => none) ρ1
  | .zip a b, ρ => (ev false a ρ).bind fun x ρ1 => (ev false b ρ1).bind fun y ρ2 => match seqO x, seqO y with
    | some xs, some ys => if isTup x == isTup y then R.ok (zipD xs ys) ρ2 else none
    | _, _ => none
  | .enum a, ρ => (ev false a ρ).bind fun x ρ1 => R.of ((lstO x).map (enumD 0)) ρ1
/-- all tests hold -/
noncomputable def evT : Exs → En → R Bool
  | .nil, ρ => R.ok true ρ
  | .cons e es, ρ => (ev true e ρ).bind fun x ρ1 => match tstO x with
    | none => none
    | some true => evT es ρ1
    | some false => R.ok false ρ1
/-- the inner clauses of a comprehension -/
noncomputable def evG : Gns → (En → R (List OV)) → En → R (List OV)
  | .nil, k, ρ => k ρ
  | .cons t i c gs, k, ρ => (evI i ρ).bind fun ds ρ1 => (loopL (fun d ρ => match asgT t (.fr d) (wipeS ρ (tgs t)) with
      | none => none
      | some ρ => (evT c ρ).bind fun b ρ => if b then evG gs k ρ else R.ok [] ρ) ds ρ1).bind fun xs ρ2 => R.ok xs (wipeS ρ2 (tgs t))
/-- a comprehension -/
noncomputable def evC : Gns → List Nat → (En → R (List OV)) → En → R (List OV)
  | .nil, _, _, _ => none
  | .cons t i c gs, own, k, ρ => (evI i ρ).bind fun ds ρ1 => R.noE (loopL (fun d ρ => match asgT t (.fr d) (wipeS ρ own) with
      | none => none
      | some ρ => (evT c ρ).bind fun b ρ => if b then evG gs k ρ else R.ok [] ρ) ds ρ1)
end
end

/-! ### loops -/
def forL (f : PyData → En → R Fl) : List PyData → En → R Fl
  | [], ρ => R.ok .nx ρ
  | d :: ds, ρ => (f d ρ).bind fun r ρ1 => match r with
    | .nx => forL f ds ρ1
    | .rt d => R.ok (.rt d) ρ1
/-- at most n turns of a while -/
def whlN (c : En → R Bool) (b : En → R Fl) : Nat → En → R Fl
  | 0, _ => none
  | n + 1, ρ => (c ρ).bind fun t ρ1 => if t then (b ρ1).bind fun r ρ2 => match r with
      | .nx => whlN c b n ρ2
      | .rt d => R.ok (.rt d) ρ2
    else R.ok .nx ρ1
theorem whlN_mono (c : En → R Bool) (b : En → R Fl) : ∀ (n : Nat) (ρ : En) (r : Except Nat Fl × En), whlN c b n ρ = some r → whlN c b (n + 1) ρ = some r
  | 0, _, _, h => by cases h
  | n + 1, ρ, r, h => by
    rw [whlN] at h ⊢
    cases hc : c ρ with
    | none => rw [hc] at h; cases h
    | some q =>
      obtain ⟨q1, ρ1⟩ := q
      rw [hc] at h
      cases q1 with
      | error e => exact h
      | ok t =>
        cases t with
        | false => exact h
        | true =>
          simp only [R.bind, if_true] at h ⊢
          cases hb : b ρ1 with
          | none => rw [hb] at h; cases h
          | some q2 =>
            obtain ⟨q2, ρ2⟩ := q2
            rw [hb] at h
            cases q2 with
            | error e => exact h
            | ok f =>
              cases f with
              | nx => exact whlN_mono c b n ρ2 r h
              | rt d => exact h
theorem whlN_le (c : En → R Bool) (b : En → R Fl) {n m : Nat} {ρ : En} {r : Except Nat Fl × En} (h : whlN c b n ρ = some r) (hm : n ≤ m) : whlN c b m ρ = some r := by
  induction hm with
  | refl => exact h
  | step _ ih => exact whlN_mono c b _ ρ r ih
open Classical in
/-- a while: what some number of turns gives -/
noncomputable def whlR (c : En → R Bool) (b : En → R Fl) (ρ : En) : R Fl :=
  if h : ∃ n r, whlN c b n ρ = some r then whlN c b (Classical.choose h) ρ else none
theorem whlR_of {c : En → R Bool} {b : En → R Fl} {n : Nat} {ρ : En} {r : Except Nat Fl × En} (h : whlN c b n ρ = some r) : whlR c b ρ = some r := by
  have hx : ∃ n r, whlN c b n ρ = some r := ⟨n, r, h⟩
  unfold whlR
  rw [dif_pos hx]
  obtain ⟨r', hr⟩ := Classical.choose_spec hx
  have h1 := whlN_le c b hr (Nat.le_max_left (Classical.choose hx) n)
  have h2 := whlN_le c b h (Nat.le_max_right (Classical.choose hx) n)
  rw [h1] at h2
  rw [hr, h2]
theorem of_whlR {c : En → R Bool} {b : En → R Fl} {ρ : En} {r : Except Nat Fl × En} (h : whlR c b ρ = some r) : ∃ n, whlN c b n ρ = some r := by
  unfold whlR at h
  split at h
  · exact ⟨_, h⟩
  · cases h
/-- one turn -/
theorem whlR_eq (c : En → R Bool) (b : En → R Fl) (ρ : En) : whlR c b ρ = (c ρ).bind fun t ρ1 => if t then (b ρ1).bind fun r ρ2 => match r with
      | .nx => whlR c b ρ2
      | .rt d => R.ok (.rt d) ρ2
    else R.ok .nx ρ1 := by
  cases hc : c ρ with
  | none =>
    cases hw : whlR c b ρ with
    | none => rfl
    | some r =>
      obtain ⟨n, hn⟩ := of_whlR hw
      cases n with
      | zero => cases hn
      | succ n => rw [whlN, hc] at hn; cases hn
  | some q =>
    obtain ⟨q1, ρ1⟩ := q
    cases q1 with
    | error e => exact whlR_of (n := 1) (by rw [whlN, hc]; rfl)
    | ok t =>
      cases t with
      | false => exact whlR_of (n := 1) (by rw [whlN, hc]; rfl)
      | true =>
        simp only [R.bind, if_true]
        cases hb : b ρ1 with
        | none =>
          cases hw : whlR c b ρ with
          | none => rfl
          | some r =>
            obtain ⟨n, hn⟩ := of_whlR hw
            cases n with
            | zero => cases hn
            | succ n => rw [whlN, hc] at hn; simp only [R.bind, if_true, hb] at hn; cases hn
        | some q2 =>
          obtain ⟨q2, ρ2⟩ := q2
          cases q2 with
          | error e => exact whlR_of (n := 1) (by rw [whlN, hc]; simp only [R.bind, if_true, hb])
          | ok f =>
            cases f with
            | rt d => exact whlR_of (n := 1) (by rw [whlN, hc]; simp only [R.bind, if_true, hb]; rfl)
            | nx =>
              simp only
              cases hw : whlR c b ρ2 with
              | some r =>
                obtain ⟨n, hn⟩ := of_whlR hw
                exact whlR_of (n := n + 1) (by rw [whlN, hc]; simp only [R.bind, if_true, hb]; exact hn)
              | none =>
                cases hw2 : whlR c b ρ with
                | none => rfl
                | some r =>
                  obtain ⟨n, hn⟩ := of_whlR hw2
                  cases n with
                  | zero => cases hn
                  | succ n =>
                    rw [whlN, hc] at hn
                    simp only [R.bind, if_true, hb] at hn
                    rw [whlR_of hn] at hw
                    cases hw
end DP
namespace DP
open PySem
section
variable (cf : CF)
open Classical in
mutual
noncomputable def exS : Sm → En → R Fl
  | .asg t e, ρ => (ev cf false e ρ).bind fun x ρ1 => match asgT t x ρ1 with
    | none => none
    | some ρ2 => R.ok .nx ρ2
  | .par ts es, ρ => (evs cf es ρ).bind fun xs ρ1 => match asgTs (ts.map .nm) xs ρ1 with
    | none => none
    | some ρ2 => R.ok .nx ρ2
  | .aug i o e, ρ => match getS ρ i with
    | some (.fr (.int k)) => (ev cf true e ρ).bind fun y ρ1 => match binO o (.fr (.int k)) y with
      | none => none
      | some z => if i < ρ1.length then R.ok .nx (setS ρ1 i z) else none
    | _ => none
  | .sto p i e, ρ => (ev cf false e ρ).bind fun x ρ1 => (evP cf p ρ1).bind fun q ρ2 => (ev cf true i ρ2).bind fun y ρ3 =>
      if quiet i && isLP ρ2 q.1 q.2 then match getS ρ3 q.1 with
        | none => none
        | some o => match rdP o q.2 with
          | none => none
          | some z => match stoO z y.fz x with
            | none => none
            | some z' => match wrP o q.2 z' with
              | none => none
              | some o' => R.ok .nx (setS ρ3 q.1 o')
      else none
  | .exp e, ρ => (ev cf false e ρ).bind fun _ ρ1 => R.ok .nx ρ1
  | .ret e, ρ => (ev cf false e ρ).bind fun x ρ1 => R.ok (.rt x.fz) ρ1
  | .rtn, ρ => R.ok (.rt .none) ρ
  | .rse c, ρ => some (.error c, ρ)
  | .ifs c a b, ρ => (ev cf true c ρ).bind fun x ρ1 => match tstO x with
    | none => none
    | some true => exSs a ρ1
    | some false => exSs b ρ1
  | .whl c b, ρ => whlR (fun ρ => (ev cf true c ρ).bind fun x ρ1 => R.of (tstO x) ρ1) (fun ρ => exSs b ρ) ρ
  | .fors t i b, ρ => (evI cf i ρ).bind fun ds ρ1 => forL (fun d ρ => match asgT t (.fr d) ρ with
      | none => none
      | some ρ => exSs b ρ) ds ρ1
  | .pas, ρ => R.ok .nx ρ
  | .tryS b i c j d, ρ => match exSs b ρ with
    | some (.error c', ρ1) => if c' = c ∧ j < ρ1.length then R.ok .nx (setS (ρ1.set i none) j (.fr d)) else none
    | r => r
noncomputable def exSs : Sms → En → R Fl
  | .nil, ρ => R.ok .nx ρ
  | .cons s ss, ρ => (exS s ρ).bind fun f ρ1 => match f with
    | .nx => exSs ss ρ1
    | .rt d => R.ok (.rt d) ρ1
end
end
/-- a def: which parameters it changes, how many slots, its body -/
structure Fn where
  ps : List Bool
  ns : Nat
  body : Sms
def okArgs : List Bool → List OV → Bool
  | [], [] => true
  | true :: ps, _ :: l => okArgs ps l
  | false :: ps, .fr _ :: l => okArgs ps l
  | _, _ => false
def outs : List Bool → Nat → En → Option (List OV)
  | [], _, _ => some []
  | false :: ps, i, ρ => outs ps (i + 1) ρ
  | true :: ps, i, ρ => match getS ρ i with
    | none => none
    | some o => match outs ps (i + 1) ρ with
      | none => none
      | some l => some (o :: l)
def startE (F : Fn) (args : List OV) : En := args.map some ++ List.replicate (F.ns - args.length) none
noncomputable def callF (G : Nat → Option Fn) : Nat → CF
  | 0 => fun _ _ => none
  | n + 1 => fun f args => match G f with
    | none => none
    | some F => if okArgs F.ps args then match exSs (callF G n) F.body (startE F args) with
        | none => none
        | some (r, ρ) => match outs F.ps 0 ρ with
          | none => none
          | some os => match r with
            | .error c => some (.error c, os)
            | .ok .nx => some (.ok .none, os)
            | .ok (.rt d) => some (.ok d, os)
      else none
end DP


set_option Elab.async false
set_option linter.all false
set_option autoImplicit false
set_option maxRecDepth 100000
set_option maxHeartbeats 1000000
/-! DP, part B: how contents lie in the abstract heap; what a step may do. -/
namespace DP
open PySem PySem.Spec PyProof.Rows L2

/-! ### data in the heap -/
def keyD : Key → PyData
  | .inl i => .int i
  | .inr x => .str x
def tkeyD (k : List Key) : PyData := .tuple (k.map keyD)
mutual
inductive RD (K : PySem.W.Frag) (F : Hp) : V → PyData → Prop
  | non : RD K F .non .none
  | bl (b : Bool) : RD K F (.bl b) (.bool b)
  | int (i : Int) : RD K F (.int i) (.int i)
  | str (x : Str) : RD K F (.str x) (.str x)
  | lst {a : Addr} {xs : List V} {ds : List PyData} : Rd F a (.lst xs) → RDs K F xs ds → RD K F (.ref a) (.list ds)
  | tup {a : Addr} {xs : List V} {ds : List PyData} : Rd F a (.tup xs) → RDs K F xs ds → RD K F (.ref a) (.tuple ds)
  | dK {a : Addr} {l : List (Key × V)} {ds : List PyData} : F a = some (.dK l) → RDs K F (l.map (·.2)) ds → RD K F (.ref a) (.dict ((l.map fun p => keyD p.1).zip ds))
  | dT {a : Addr} {l : List (List Key × V)} {ds : List PyData} : F a = some (.dT l) → RDs K F (l.map (·.2)) ds → RD K F (.ref a) (.dict ((l.map fun p => tkeyD p.1).zip ds))
inductive RDs (K : PySem.W.Frag) (F : Hp) : List V → List PyData → Prop
  | nil : RDs K F [] []
  | cons {v : V} {vs : List V} {d : PyData} {ds : List PyData} : RD K F v d → RDs K F vs ds → RDs K F (v :: vs) (d :: ds)
end

abbrev OP := Addr → Prop
open Classical in
/-- the heap without what is owned -/
noncomputable def mask (H : Hp) (P : OP) : Hp := fun a => if P a then none else H a
theorem mask_some {H : Hp} {P : OP} {a : Addr} {o : HO} : mask H P a = some o ↔ ¬ P a ∧ H a = some o := by
  unfold mask
  by_cases h : P a
  · rw [if_pos h]
    exact ⟨(fun q => by simp at q), fun q => absurd h q.1⟩
  · rw [if_neg h]
    exact ⟨fun q => ⟨h, q⟩, fun q => q.2⟩
/-- what is not owned stays, not owned -/
def Tr (P : OP) (H : Hp) (P' : OP) (H' : Hp) : Prop := ∀ a o, ¬ P a → H a = some o → ¬ P' a ∧ H' a = some o
theorem Tr.same {P P' : OP} {H H' : Hp} (t : Tr P H P' H') : Same (mask H P) (mask H' P') := fun a o e => by
  obtain ⟨h1, h2⟩ := mask_some.mp e
  exact mask_some.mpr (t a o h1 h2)
theorem Tr.refl (P : OP) (H : Hp) : Tr P H P H := fun _ _ h e => ⟨h, e⟩
theorem Tr.trans {P1 P2 P3 : OP} {H1 H2 H3 : Hp} (a : Tr P1 H1 P2 H2) (b : Tr P2 H2 P3 H3) : Tr P1 H1 P3 H3 := fun x o h e => by
  obtain ⟨h2, e2⟩ := a x o h e
  exact b x o h2 e2
theorem Same.rd {H H' : Hp} {a : Addr} {u : HO} (e : Same H H') (h : Rd H a u) : Rd H' a u := by
  rcases h with h | ⟨o, h⟩
  · exact .inl (e _ _ h)
  · exact .inr ⟨o, e _ _ h⟩
mutual
theorem RD.same {K : PySem.W.Frag} {F F' : Hp} (s : Same F F') : ∀ {v : V} {d : PyData}, RD K F v d → RD K F' v d
  | _, _, .non => .non
  | _, _, .bl b => .bl b
  | _, _, .int b => .int b
  | _, _, .str b => .str b
  | _, _, .lst h1 h2 => .lst (Same.rd s h1) (RDs.same s h2)
  | _, _, .tup h1 h2 => .tup (Same.rd s h1) (RDs.same s h2)
  | _, _, .dK h1 h2 => .dK (s _ _ h1) (RDs.same s h2)
  | _, _, .dT h1 h2 => .dT (s _ _ h1) (RDs.same s h2)
theorem RDs.same {K : PySem.W.Frag} {F F' : Hp} (s : Same F F') : ∀ {vs : List V} {ds : List PyData}, RDs K F vs ds → RDs K F' vs ds
  | _, _, .nil => .nil
  | _, _, .cons h1 h2 => .cons (RD.same s h1) (RDs.same s h2)
end
section
variable {K : PySem.W.Frag} {F : Hp}
theorem RDs.length : ∀ {vs : List V} {ds : List PyData}, RDs K F vs ds → vs.length = ds.length
  | _, _, .nil => rfl
  | _, _, .cons _ t => by rw [List.length_cons, List.length_cons, RDs.length t]
theorem RDs.get : ∀ {vs : List V} {ds : List PyData} {i : Nat} {d : PyData}, RDs K F vs ds → ds[i]? = some d → ∃ v, vs[i]? = some v ∧ RD K F v d
  | _, _, _, _, .nil, h => by simp at h
  | _, _, 0, _, .cons (v := v) r t, h => by
    simp at h
    subst h
    exact ⟨v, rfl, r⟩
  | _, _, i + 1, _, .cons r t, h => by
    obtain ⟨u, h1, h2⟩ := RDs.get (i := i) t (by simpa using h)
    exact ⟨u, by simpa using h1, h2⟩
theorem RDs.getV : ∀ {vs : List V} {ds : List PyData} {i : Nat} {v : V}, RDs K F vs ds → vs[i]? = some v → ∃ d, ds[i]? = some d ∧ RD K F v d
  | _, _, _, _, .nil, h => by simp at h
  | _, _, 0, _, .cons (d := d) r t, h => by
    simp at h
    subst h
    exact ⟨d, rfl, r⟩
  | _, _, i + 1, _, .cons r t, h => by
    obtain ⟨u, h1, h2⟩ := RDs.getV (i := i) t (by simpa using h)
    exact ⟨u, by simpa using h1, h2⟩
theorem RDs.append : ∀ {vs ws : List V} {ds es : List PyData}, RDs K F vs ds → RDs K F ws es → RDs K F (vs ++ ws) (ds ++ es)
  | _, _, _, _, .nil, s => s
  | _, _, _, _, .cons r t, s => .cons r (RDs.append t s)
theorem RDs.take : ∀ {vs : List V} {ds : List PyData} (n : Nat), RDs K F vs ds → RDs K F (vs.take n) (ds.take n)
  | _, _, 0, _ => .nil
  | _, _, _ + 1, .nil => .nil
  | _, _, n + 1, .cons r t => .cons r (RDs.take n t)
theorem RDs.drop : ∀ {vs : List V} {ds : List PyData} (n : Nat), RDs K F vs ds → RDs K F (vs.drop n) (ds.drop n)
  | _, _, 0, r => r
  | _, _, _ + 1, .nil => .nil
  | _, _, n + 1, .cons r t => RDs.drop n t
theorem RDs.reverse : ∀ {vs : List V} {ds : List PyData}, RDs K F vs ds → RDs K F vs.reverse ds.reverse
  | _, _, .nil => .nil
  | _, _, .cons r t => by
    rw [List.reverse_cons, List.reverse_cons]
    exact (RDs.reverse t).append (.cons r .nil)
theorem RDs.of_append : ∀ {vs : List V} {ds es : List PyData}, RDs K F vs (ds ++ es) → RDs K F (vs.take ds.length) ds ∧ RDs K F (vs.drop ds.length) es
  | vs, [], es, h => ⟨.nil, h⟩
  | _, d :: ds, es, .cons r t => ⟨.cons r (RDs.of_append t).1, (RDs.of_append t).2⟩
theorem RDs.rep {vs : List V} {ds : List PyData} (h : RDs K F vs ds) : ∀ n : Nat, RDs K F (List.replicate n vs).flatten (List.replicate n ds).flatten
  | 0 => .nil
  | n + 1 => by
    rw [List.replicate_succ, List.replicate_succ, List.flatten_cons, List.flatten_cons]
    exact h.append (RDs.rep h n)
mutual
/-- data without dicts, as the layer tells it -/
theorem RD.dp : ∀ {v : V} {d : PyData}, RD K F v d → d.canLay0 = true → Dp K F v d
  | _, _, .non, _ => .non
  | _, _, .bl b, _ => .bl b
  | _, _, .int b, _ => .int b
  | _, _, .str b, _ => .str b
  | _, _, .lst h1 h2, h => .lst (.inl h1) (RDs.dp h2 (by simpa [PyData.canLay0] using h))
  | _, _, .tup h1 h2, h => .tup (.inl h1) (RDs.dp h2 (by simpa [PyData.canLay0] using h))
  | _, _, .dK h1 h2, h => by simp [PyData.canLay0] at h
  | _, _, .dT h1 h2, h => by simp [PyData.canLay0] at h
theorem RDs.dp : ∀ {vs : List V} {ds : List PyData}, RDs K F vs ds → PyData.canLayAll0 ds = true → DpAll K F vs ds
  | _, _, .nil, _ => .nil
  | _, _, .cons h1 h2, h => by
    simp only [PyData.canLayAll0, Bool.and_eq_true] at h
    exact .cons (RD.dp h1 h.1) (RDs.dp h2 h.2)
end
end

/-! ### contents in the heap, with what they own -/
mutual
inductive OR (K : PySem.W.Frag) (H : Hp) (P : OP) : V → OV → List Addr → Prop
  | fr {v : V} {d : PyData} : RD K (mask H P) v d → OR K H P v (.fr d) []
  | lst {a : Addr} {vs : List V} {xs : List OV} {as : List Addr} : H a = some (.lst vs) → ORs K H P vs xs as → OR K H P (.ref a) (.lst xs) (a :: as)
  | tup {a : Addr} {vs : List V} {xs : List OV} {as : List Addr} : H a = some (.tup vs) → ¬ P a → ORs K H P vs xs as → OR K H P (.ref a) (.tup xs) as
  | dK {a : Addr} {l : List (Key × V)} {ds : List PyData} : H a = some (.dK l) → RDs K (mask H P) (l.map (·.2)) ds → OR K H P (.ref a) (.dct false ((l.map fun p => keyD p.1).zip ds)) [a]
  | dT {a : Addr} {l : List (List Key × V)} {ds : List PyData} : H a = some (.dT l) → RDs K (mask H P) (l.map (·.2)) ds → OR K H P (.ref a) (.dct true ((l.map fun p => tkeyD p.1).zip ds)) [a]
inductive ORs (K : PySem.W.Frag) (H : Hp) (P : OP) : List V → List OV → List Addr → Prop
  | nil : ORs K H P [] [] []
  | cons {v : V} {vs : List V} {o : OV} {os : List OV} {as bs : List Addr} : OR K H P v o as → ORs K H P vs os bs → ORs K H P (v :: vs) (o :: os) (as ++ bs)
end
section
variable {K : PySem.W.Frag} {H H' : Hp} {P P' : OP}
mutual
/-- contents stay where what they own stays -/
theorem OR.tr (t : Tr P H P' H') : ∀ {v : V} {o : OV} {as : List Addr}, OR K H P v o as → (∀ a ∈ as, ∀ x, H a = some x → H' a = some x) → OR K H' P' v o as
  | _, _, _, .fr r, _ => .fr (r.same t.same)
  | _, _, _, .lst e r, h => .lst (h _ List.mem_cons_self _ e) (ORs.tr t r fun a ha => h a (List.mem_cons_of_mem _ ha))
  | _, _, _, .tup e n r, h => .tup (t _ _ n e).2 (t _ _ n e).1 (ORs.tr t r h)
  | _, _, _, .dK e r, h => .dK (h _ List.mem_cons_self _ e) (r.same t.same)
  | _, _, _, .dT e r, h => .dT (h _ List.mem_cons_self _ e) (r.same t.same)
theorem ORs.tr (t : Tr P H P' H') : ∀ {vs : List V} {os : List OV} {as : List Addr}, ORs K H P vs os as → (∀ a ∈ as, ∀ x, H a = some x → H' a = some x) → ORs K H' P' vs os as
  | _, _, _, .nil, _ => .nil
  | _, _, _, .cons r q, h => .cons (OR.tr t r fun a ha => h a (List.mem_append_left _ ha)) (ORs.tr t q fun a ha => h a (List.mem_append_right _ ha))
end
mutual
/-- what is owned is there -/
theorem OR.there : ∀ {v : V} {o : OV} {as : List Addr}, OR K H P v o as → ∀ a ∈ as, ∃ x, H a = some x
  | _, _, _, .fr r, a, h => by simp at h
  | _, _, _, .lst e r, a, h => by
    rcases List.mem_cons.mp h with rfl | h
    · exact ⟨_, e⟩
    · exact ORs.there r a h
  | _, _, _, .tup e n r, a, h => ORs.there r a h
  | _, _, _, .dK e r, a, h => by
    rw [List.mem_singleton] at h
    rw [h]
    exact ⟨_, e⟩
  | _, _, _, .dT e r, a, h => by
    rw [List.mem_singleton] at h
    rw [h]
    exact ⟨_, e⟩
theorem ORs.there : ∀ {vs : List V} {os : List OV} {as : List Addr}, ORs K H P vs os as → ∀ a ∈ as, ∃ x, H a = some x
  | _, _, _, .nil, a, h => by simp at h
  | _, _, _, .cons r q, a, h => by
    rcases List.mem_append.mp h with h | h
    · exact OR.there r a h
    · exact ORs.there q a h
end
mutual
/-- frozen: seen from a heap in which what it owned counts as data -/
theorem OR.rd (t : Tr P H P' H') : ∀ {v : V} {o : OV} {as : List Addr}, OR K H P v o as → (∀ a ∈ as, ∀ x, H a = some x → ¬ P' a ∧ H' a = some x) → RD K (mask H' P') v o.fz
  | _, _, _, .fr r, _ => r.same t.same
  | _, _, _, .lst e r, h => .lst (.inl (mask_some.mpr (h _ List.mem_cons_self _ e))) (ORs.rd t r fun a ha => h a (List.mem_cons_of_mem _ ha))
  | _, _, _, .tup e n r, h => .tup (.inl (mask_some.mpr (t _ _ n e))) (ORs.rd t r h)
  | _, _, _, .dK e r, h => .dK (mask_some.mpr (h _ List.mem_cons_self _ e)) (r.same t.same)
  | _, _, _, .dT e r, h => .dT (mask_some.mpr (h _ List.mem_cons_self _ e)) (r.same t.same)
theorem ORs.rd (t : Tr P H P' H') : ∀ {vs : List V} {os : List OV} {as : List Addr}, ORs K H P vs os as → (∀ a ∈ as, ∀ x, H a = some x → ¬ P' a ∧ H' a = some x) → RDs K (mask H' P') vs (OV.fzs os)
  | _, _, _, .nil, _ => .nil
  | _, _, _, .cons r q, h => .cons (OR.rd t r fun a ha => h a (List.mem_append_left _ ha)) (ORs.rd t q fun a ha => h a (List.mem_append_right _ ha))
end
/-- .. in the whole heap -/
theorem mask_all : mask H (fun _ => False) = H := by
  funext a
  unfold mask
  rw [if_neg id]
theorem OR.full {v : V} {o : OV} {as : List Addr} (r : OR K H P v o as) : RD K H v o.fz := by
  have h := OR.rd (P' := fun _ => False) (H' := H) (fun a o _ e => ⟨id, e⟩) r (fun a _ x e => ⟨id, e⟩)
  rw [mask_all] at h
  exact h
theorem ORs.full {vs : List V} {os : List OV} {as : List Addr} (r : ORs K H P vs os as) : RDs K H vs (OV.fzs os) := by
  have h := ORs.rd (P' := fun _ => False) (H' := H) (fun a o _ e => ⟨id, e⟩) r (fun a _ x e => ⟨id, e⟩)
  rw [mask_all] at h
  exact h
theorem mask_sub (P : OP) : Same (mask H P) H := fun a o e => (mask_some.mp e).2
theorem ORs.length : ∀ {vs : List V} {os : List OV} {as : List Addr}, ORs K H P vs os as → vs.length = os.length
  | _, _, _, .nil => rfl
  | _, _, _, .cons _ t => by rw [List.length_cons, List.length_cons, ORs.length t]
theorem ORs.append : ∀ {vs ws : List V} {os ps : List OV} {as bs : List Addr}, ORs K H P vs os as → ORs K H P ws ps bs → ORs K H P (vs ++ ws) (os ++ ps) (as ++ bs)
  | _, _, _, _, _, _, .nil, s => s
  | _, _, _, _, _, _, .cons r t, s => by
    rw [List.append_assoc]
    exact .cons r (ORs.append t s)
theorem fzs_fr : ∀ ds : List PyData, OV.fzs (ds.map .fr) = ds
  | [] => rfl
  | d :: ds => by
    show d :: OV.fzs (ds.map .fr) = d :: ds
    rw [fzs_fr ds]
theorem fzs_length : ∀ os : List OV, (OV.fzs os).length = os.length
  | [] => rfl
  | d :: ds => by
    show (OV.fzs ds).length + 1 = ds.length + 1
    rw [fzs_length ds]
theorem frsO_some : ∀ {os : List OV} {ds : List PyData}, frsO os = some ds → os = ds.map .fr
  | [], ds, h => by
    cases h
    rfl
  | .fr d :: r, ds, h => by
    unfold frsO at h
    cases hr : frsO r with
    | none => rw [hr] at h; cases h
    | some es =>
      rw [hr] at h
      cases h
      rw [frsO_some hr]
      rfl
  | .lst _ :: r, ds, h => by cases h
  | .tup _ :: r, ds, h => by cases h
  | .dct _ _ :: r, ds, h => by cases h
theorem frsO_map : ∀ ds : List PyData, frsO (ds.map .fr) = some ds
  | [] => rfl
  | d :: ds => by
    show (match frsO (ds.map .fr) with | some es => some (d :: es) | none => none) = _
    rw [frsO_map ds]
/-- a row of data owns nothing -/
theorem ORs.data : ∀ {vs : List V} {ds : List PyData} {as : List Addr}, ORs K H P vs (ds.map .fr) as → RDs K (mask H P) vs ds ∧ as = []
  | _, [], _, h => by
    cases h
    exact ⟨.nil, rfl⟩
  | _, d :: ds, _, h => by
    cases h with
    | cons h1 h2 =>
      cases h1 with
      | fr h1 =>
        obtain ⟨h3, h4⟩ := ORs.data h2
        exact ⟨.cons h1 h3, by rw [h4]; rfl⟩
theorem ORs.ofData : ∀ {vs : List V} {ds : List PyData}, RDs K (mask H P) vs ds → ORs K H P vs (ds.map .fr) []
  | _, _, .nil => .nil
  | _, _, .cons h1 h2 => .cons (as := []) (.fr h1) (ORs.ofData h2)
end
end DP

set_option Elab.async false
set_option linter.all false
set_option autoImplicit false
set_option maxRecDepth 100000
set_option maxHeartbeats 1000000
/-! DP, part C: slots and steps. -/
namespace DP
open PySem PySem.Spec PyProof.Rows L2

def Own (T : OP) (l : List Addr) : OP := fun a => T a ∨ a ∈ l
theorem own_app (T : OP) (a b : List Addr) : Own T (a ++ b) = Own (Own T b) a := by
  funext x
  unfold Own
  rw [List.mem_append]
  exact propext ⟨fun h => by rcases h with h | h | h <;> simp [h], fun h => by rcases h with (h | h) | h <;> simp [h]⟩
theorem own_perm {T : OP} {a b : List Addr} (h : a.Perm b) : Own T a = Own T b := by
  funext x
  unfold Own
  rw [h.mem_iff]
theorem own_nil (T : OP) : Own T [] = T := by
  funext x
  unfold Own
  simp
section
variable {K : PySem.W.Frag} {tb : Option Addr}
/-- the name of the law's lambdas -/
def lamQ : Str := ("law" ++ ".<locals>." : Str) ++ "<lambda>"
/-- where the law's table of code objects stands, told by the errors' row -/
def tbE (er : Nat → Value) : Option Addr := match er 1000000 with
  | .ref a => some a
  | _ => none
/-- the law's table of code objects -/
def TabO (H : Hp) (P : OP) (a : Addr) : Prop := ∃ ps : Array Value, H a = some (.tbl ps) ∧ TriplesOk ps.toList ∧ ∀ (pos : Pos) (cv : Value), codeAmong pos ps.toList = some cv → ∃ c, cv = .ref c ∧ H c = some (LamX.CodeO c lamQ) ∧ ¬ P c
theorem TabO.tr {H H' : Hp} {P P' : OP} {a : Addr} (t : Tr P H P' H') (h : TabO H P a) (k : ∀ x, H a = some x → H' a = some x) : TabO H' P' a := by
  obtain ⟨ps, h1, h2, h3⟩ := h
  refine ⟨ps, k _ h1, h2, fun pos cv e => ?_⟩
  obtain ⟨c, e1, e2, e3⟩ := h3 pos cv e
  exact ⟨c, e1, (t c _ e3 e2).2, (t c _ e3 e2).1⟩
theorem TabO.there {H : Hp} {P : OP} {a : Addr} (h : TabO H P a) : ∃ x, H a = some x := let ⟨_, h1, _⟩ := h; ⟨_, h1⟩
/-- the slots' contents, with all that they own -/
inductive ESl (K : PySem.W.Frag) (tb : Option Addr) (H : Hp) (P : OP) : L2.St → En → List Addr → Prop
  | nil : tb = none → ESl K tb H P [] [] []
  | base {a : Addr} : tb = some a → TabO H P a → ESl K tb H P [] [] [a]
  | skip {s : Option V} {σ : L2.St} {ρ : En} {as : List Addr} : ESl K tb H P σ ρ as → ESl K tb H P (s :: σ) (none :: ρ) as
  | cons {v : V} {o : OV} {σ : L2.St} {ρ : En} {as bs : List Addr} : OR K H P v o as → ESl K tb H P σ ρ bs → ESl K tb H P (some v :: σ) (some o :: ρ) (as ++ bs)
theorem ESl.length {H : Hp} {P : OP} : ∀ {σ : L2.St} {ρ : En} {as : List Addr}, ESl K tb H P σ ρ as → σ.length = ρ.length
  | _, _, _, .nil _ => rfl
  | _, _, _, .base _ _ => rfl
  | _, _, _, .skip h => by rw [List.length_cons, List.length_cons, ESl.length h]
  | _, _, _, .cons _ h => by rw [List.length_cons, List.length_cons, ESl.length h]
theorem ESl.tr {H H' : Hp} {P P' : OP} (t : Tr P H P' H') : ∀ {σ : L2.St} {ρ : En} {as : List Addr}, ESl K tb H P σ ρ as → (∀ a ∈ as, ∀ x, H a = some x → H' a = some x) → ESl K tb H' P' σ ρ as
  | _, _, _, .nil e, _ => .nil e
  | _, _, _, .base e b, k => .base e (b.tr t (k _ List.mem_cons_self))
  | _, _, _, .skip h, k => .skip (ESl.tr t h k)
  | _, _, _, .cons r h, k => .cons (OR.tr t r fun a ha => k a (List.mem_append_left _ ha)) (ESl.tr t h fun a ha => k a (List.mem_append_right _ ha))
theorem ESl.there {H : Hp} {P : OP} : ∀ {σ : L2.St} {ρ : En} {as : List Addr}, ESl K tb H P σ ρ as → ∀ a ∈ as, ∃ x, H a = some x
  | _, _, _, .nil _, a, h => by simp at h
  | _, _, _, .base _ b, a, h => by
    rw [List.mem_singleton] at h
    rw [h]
    exact b.there
  | _, _, _, .skip h, a, k => ESl.there h a k
  | _, _, _, .cons r h, a, k => by
    rcases List.mem_append.mp k with k | k
    · exact r.there a k
    · exact ESl.there h a k
theorem getS_zero {o : OV} {ρ : En} : getS (some o :: ρ) 0 = some o := rfl
theorem getS_zeroN {ρ : En} : getS (none :: ρ) 0 = none := rfl
theorem getS_succ {s : Option OV} {ρ : En} {i : Nat} : getS (s :: ρ) (i + 1) = getS ρ i := rfl
theorem getS_len {ρ : En} {i : Nat} {o : OV} (h : getS ρ i = some o) : i < ρ.length := by
  unfold getS at h
  by_cases hi : i < ρ.length
  · exact hi
  · rw [List.getElem?_eq_none (by omega)] at h
    cases h
/-- a slot's content taken out -/
theorem ESl.take {H : Hp} {P : OP} : ∀ {σ : L2.St} {ρ : En} {as : List Addr} {i : Nat} {o : OV}, ESl K tb H P σ ρ as → getS ρ i = some o →
    ∃ v a0 rest, σ[i]? = some (some v) ∧ OR K H P v o a0 ∧ as.Perm (a0 ++ rest) ∧ ESl K tb H P σ (ρ.set i none) rest
  | _, _, _, i, o, .nil _, h => by simp [getS] at h
  | _, _, _, i, o, .base _ _, h => by simp [getS] at h
  | _, _, _, 0, o, .skip h, k => by rw [getS_zeroN] at k; cases k
  | _, _, _, i + 1, o, .skip h, k => by
    rw [getS_succ] at k
    obtain ⟨v, a0, rest, e, r, p, s⟩ := ESl.take h k
    exact ⟨v, a0, rest, by simpa using e, r, p, .skip s⟩
  | _, _, _, 0, o, .cons r h, k => by
    rw [getS_zero] at k
    cases k
    exact ⟨_, _, _, rfl, r, .refl _, .skip h⟩
  | _, _, _, i + 1, o, .cons (as := as) r h, k => by
    rw [getS_succ] at k
    obtain ⟨v, a0, rest, e, r', p, s⟩ := ESl.take h k
    refine ⟨v, a0, as ++ rest, by simpa using e, r', ?_, .cons r s⟩
    exact (p.append_left as).trans (by rw [← List.append_assoc, ← List.append_assoc]; exact (List.perm_append_comm).append_right _)
/-- an empty slot filled -/
theorem ESl.put {H : Hp} {P : OP} {v : V} {o : OV} {a0 : List Addr} (r : OR K H P v o a0) : ∀ {σ : L2.St} {ρ : En} {rest : List Addr} {i : Nat}, ESl K tb H P σ ρ rest → ρ[i]? = some none → σ[i]? = some (some v) →
    ∃ as, as.Perm (a0 ++ rest) ∧ ESl K tb H P σ (setS ρ i o) as
  | _, _, _, i, .nil _, h, _ => by simp at h
  | _, _, _, i, .base _ _, h, _ => by simp at h
  | _, _, _, 0, .skip h, _, e => by
    simp at e
    subst e
    exact ⟨_, .refl _, .cons r h⟩
  | _, _, _, i + 1, .skip h, k, e => by
    obtain ⟨as, p, s⟩ := ESl.put r h (by simpa using k) (by simpa using e)
    exact ⟨as, p, .skip s⟩
  | _, _, _, 0, .cons q h, k, _ => by simp at k
  | _, _, _, i + 1, .cons (as := bs) q h, k, e => by
    obtain ⟨as, p, s⟩ := ESl.put r h (by simpa using k) (by simpa using e)
    refine ⟨bs ++ as, ?_, .cons q s⟩
    exact (p.append_left bs).trans (by rw [← List.append_assoc, ← List.append_assoc]; exact (List.perm_append_comm).append_right _)
/-- a slot forgotten -/
theorem ESl.drop {H : Hp} {P : OP} : ∀ {σ : L2.St} {ρ : En} {as : List Addr} (i : Nat), ESl K tb H P σ ρ as → ∃ rest, rest.Sublist as ∧ ESl K tb H P σ (ρ.set i none) rest
  | _, _, _, i, .nil e => ⟨[], .refl _, .nil e⟩
  | _, _, _, i, .base e b => ⟨_, .refl _, .base e b⟩
  | _, _, _, 0, .skip h => ⟨_, .refl _, .skip h⟩
  | _, _, _, i + 1, .skip h => by
    obtain ⟨rest, s, q⟩ := ESl.drop i h
    exact ⟨rest, s, .skip q⟩
  | _, _, _, 0, .cons r h => ⟨_, List.sublist_append_right _ _, .skip h⟩
  | _, _, _, i + 1, .cons r h => by
    obtain ⟨rest, s, q⟩ := ESl.drop i h
    exact ⟨_, s.append_left _, .cons r q⟩
/-- an empty slot's value does not matter -/
theorem ESl.any {H : Hp} {P : OP} {s' : Option V} : ∀ {σ : L2.St} {ρ : En} {as : List Addr} {i : Nat}, ESl K tb H P σ ρ as → (∀ o, ρ[i]? ≠ some (some o)) → ESl K tb H P (σ.set i s') ρ as
  | _, _, _, i, .nil e, _ => .nil e
  | _, _, _, i, .base e b, _ => .base e b
  | _, _, _, 0, .skip h, _ => .skip h
  | _, _, _, i + 1, .skip h, k => .skip (ESl.any h fun o e => k o (by simpa using e))
  | _, _, _, 0, .cons r h, k => absurd rfl (k _)
  | _, _, _, i + 1, .cons r h, k => .cons r (ESl.any h fun o e => k o (by simpa using e))
end

/-- what a step may do to the heap: own: what it may change; own': what is owned behind it -/
structure Ext (own : List Addr) (H H' : Hp) (own' : List Addr) : Prop where
  keep : ∀ a o, a ∉ own → H a = some o → H' a = some o
  live : ∀ a, H a ≠ none → H' a ≠ none
  new : ∀ a ∈ own', a ∈ own ∨ H a = none
theorem Ext.refl (own : List Addr) (H : Hp) : Ext own H H own := ⟨fun _ _ _ e => e, fun _ e => e, fun _ h => .inl h⟩
theorem Ext.dead {own own' : List Addr} {H H' : Hp} (x : Ext own H H' own') {a : Addr} (h : H' a = none) : H a = none := by
  cases e : H a with
  | none => rfl
  | some o => exact absurd h (x.live a (by rw [e]; simp))
theorem Ext.trans {own own1 own2 : List Addr} {H H1 H2 : Hp} (x : Ext own H H1 own1) (y : Ext own1 H1 H2 own2) : Ext own H H2 own2 where
  keep := fun a o h e => y.keep a o (fun q => by
    rcases x.new a q with z | z
    · exact h z
    · rw [z] at e; cases e) (x.keep a o h e)
  live := fun a h => y.live a (x.live a h)
  new := fun a h => by
    rcases y.new a h with z | z
    · exact x.new a z
    · exact .inr (x.dead z)
theorem Ext.sub {own own1 own2 : List Addr} {H H1 : Hp} (x : Ext own H H1 own1) (s : ∀ a ∈ own2, a ∈ own1) : Ext own H H1 own2 := ⟨x.keep, x.live, fun a h => x.new a (s a h)⟩
theorem Ext.tr {own own' : List Addr} {H H' : Hp} {T : OP} (x : Ext own H H' own') : Tr (Own T own) H (Own T own') H' := fun a o h e =>
  And.intro (fun z => by
    rcases z with z | z
    · exact h (.inl z)
    · rcases x.new a z with q | q
      · exact h (.inr q)
      · rw [q] at e
        cases e) (x.keep a o (fun z => h (.inr z)) e)
theorem Ext.upd {own own' : List Addr} {H H' : Hp} {p : Addr} {o : HO} (x : Ext own H H' own') (n : H' p = none) : Ext own H (upd H' p o) (p :: own') where
  keep := fun a u h e => by
    have e1 := x.keep a u h e
    rw [upd_ne (ne_of_none e1 n)]
    exact e1
  live := fun a h => by
    by_cases e : a = p
    · rw [e, upd_same]; simp
    · rw [upd_ne e]
      exact x.live a h
  new := fun a h => by
    rcases List.mem_cons.mp h with rfl | h
    · exact .inr (x.dead n)
    · exact x.new a h

structure Pre (K : PySem.W.Frag) (tb : Option Addr) (T : OP) (H : Hp) (σ : L2.St) (ρ : En) (own : List Addr) : Prop where
  es : ∃ l, ESl K tb H (Own T own) σ ρ l ∧ l.Perm own
  nd : own.Nodup
  dis : ∀ a ∈ own, ¬ T a
  al : ∀ a, T a → H a ≠ none
/-- behind a step: own' is what the slots own, tv what the values in hand own -/
structure Post (K : PySem.W.Frag) (tb : Option Addr) (T : OP) (σ : L2.St) (H : Hp) (own : List Addr) (q : Bool) (H' : Hp) (ρ' : En) (own' tv : List Addr) : Prop where
  ext : Ext own H H' (own' ++ tv)
  es : ∃ l, ESl K tb H' (Own T (own' ++ tv)) σ ρ' l ∧ l.Perm own'
  nd : (own' ++ tv).Nodup
  dis : ∀ a ∈ own' ++ tv, ¬ T a
  qui : q = true → Same H H'
section
variable {K : PySem.W.Frag} {tb : Option Addr} {T : OP} {σ : L2.St} {H H' H1 H2 : Hp} {ρ ρ' ρ1 ρ2 : En} {own own' own1 own2 tv tv1 tv2 : List Addr} {q q1 q2 : Bool}
theorem Pre.length (p : Pre K tb T H σ ρ own) : σ.length = ρ.length := let ⟨_, e, _⟩ := p.es; e.length
theorem Post.length (p : Post K tb T σ H own q H' ρ' own' tv) : σ.length = ρ'.length := let ⟨_, e, _⟩ := p.es; e.length
theorem Pre.post (p : Pre K tb T H σ ρ own) : Post K tb T σ H own true H ρ own [] := by
  refine ⟨by rw [List.append_nil]; exact .refl _ _, ?_, by rw [List.append_nil]; exact p.nd, by rw [List.append_nil]; exact p.dis, fun _ => Same.refl H⟩
  rw [List.append_nil]
  exact p.es
theorem Post.quiet (p : Post K tb T σ H own q H' ρ' own' tv) (h : q2 = true → q = true) : Post K tb T σ H own q2 H' ρ' own' tv := ⟨p.ext, p.es, p.nd, p.dis, fun e => p.qui (h e)⟩
theorem Post.tr (p : Post K tb T σ H own q H' ρ' own' tv) : Tr (Own T own) H (Own T (own' ++ tv)) H' := p.ext.tr
/-- what others own stays -/
theorem Post.other (p : Post K tb T σ H own q H' ρ' own' tv) (h : Pre K tb T H σ ρ own) {a : Addr} (ha : T a) : ∀ x, H a = some x → H' a = some x := fun x e => p.ext.keep a x (fun z => h.dis a z ha) e
theorem Post.there (p : Post K tb T σ H own q H' ρ' own' tv) : ∀ a ∈ own', ∃ x, H' a = some x := fun a h => by
  obtain ⟨l, e, pm⟩ := p.es
  exact e.there a (pm.mem_iff.mpr h)
/-- the next step's start: the values in hand are others' -/
theorem Post.pre (p : Post K tb T σ H own q H' ρ' own' tv) (h : Pre K tb T H σ ρ own) (ht : ∀ a ∈ tv, H' a ≠ none) : Pre K tb (Own T tv) H' σ ρ' own' := by
  refine ⟨?_, (List.nodup_append.mp p.nd).1, fun a ha z => ?_, fun a ha => ?_⟩
  · rw [← own_app]
    exact p.es
  · rcases z with z | z
    · exact p.dis a (List.mem_append_left _ ha) z
    · exact (List.nodup_append.mp p.nd).2.2 a ha a z rfl
  · rcases ha with z | z
    · exact p.ext.live a (h.al a z)
    · exact ht a z
/-- two steps -/
theorem Post.seq (a : Post K tb T σ H own q1 H1 ρ1 own1 tv1) (b : Post K tb (Own T tv1) σ H1 own1 q2 H2 ρ2 own2 tv2) : Post K tb T σ H own (q1 && q2) H2 ρ2 own2 (tv2 ++ tv1) := by
  have e : own2 ++ (tv2 ++ tv1) = (own2 ++ tv2) ++ tv1 := by rw [List.append_assoc]
  have nd1 := List.nodup_append.mp a.nd
  refine ⟨?_, ?_, ?_, fun x hx => ?_, fun h => ?_⟩
  · refine ⟨fun x o hx ex => ?_, fun x hx => b.ext.live x (a.ext.live x hx), fun x hx => ?_⟩
    · refine b.ext.keep x o (fun z => ?_) (a.ext.keep x o hx ex)
      rcases a.ext.new x (List.mem_append_left _ z) with w | w
      · exact hx w
      · rw [w] at ex; cases ex
    · rw [e] at hx
      rcases List.mem_append.mp hx with hx | hx
      · rcases b.ext.new x hx with w | w
        · exact a.ext.new x (List.mem_append_left _ w)
        · exact .inr (a.ext.dead w)
      · exact a.ext.new x (List.mem_append_right _ hx)
  · rw [e, own_app]
    exact b.es
  · rw [e]
    refine List.nodup_append.mpr ⟨b.nd, nd1.2.1, fun x hx y hy z => ?_⟩
    subst z
    exact b.dis x hx (.inr hy)
  · rw [e] at hx
    rcases List.mem_append.mp hx with hx | hx
    · exact fun z => b.dis x hx (.inl z)
    · exact a.dis x (List.mem_append_right _ hx)
  · rw [Bool.and_eq_true] at h
    exact (a.qui h.1).trans (b.qui h.2)
/-- some of the values in hand become data -/
theorem Post.sub (p : Post K tb T σ H own q H' ρ' own' tv) (s : tv2.Sublist tv) : Post K tb T σ H own q H' ρ' own' tv2 := by
  have s2 : (own' ++ tv2).Sublist (own' ++ tv) := (List.Sublist.refl _).append s
  refine ⟨p.ext.sub fun a h => s2.subset h, ?_, p.nd.sublist s2, fun a h => p.dis a (s2.subset h), p.qui⟩
  obtain ⟨l, e, pm⟩ := p.es
  refine ⟨l, e.tr (fun a o h e => ⟨fun z => h ?_, e⟩) (fun _ _ _ e => e), pm⟩
  rcases z with z | z
  · exact .inl z
  · exact .inr (s2.subset z)
theorem Post.perm (p : Post K tb T σ H own q H' ρ' own' tv) (s : tv.Perm tv2) : Post K tb T σ H own q H' ρ' own' tv2 := by
  have s2 : (own' ++ tv).Perm (own' ++ tv2) := s.append_left _
  refine ⟨p.ext.sub fun a h => s2.mem_iff.mpr h, ?_, s2.nodup_iff.mp p.nd, fun a h => p.dis a (s2.mem_iff.mpr h), p.qui⟩
  rw [← own_perm s2]
  exact p.es
/-- a new object, data -/
theorem Post.newF {p : Addr} {o : HO} (a : Post K tb T σ H own q H' ρ' own' tv) (n : H' p = none) : Post K tb T σ H own q (upd H' p o) ρ' own' tv := by
  refine ⟨(a.ext.upd n).sub fun x h => List.mem_cons_of_mem _ h, ?_, a.nd, a.dis, fun h b u e => ?_⟩
  · obtain ⟨l, e, pm⟩ := a.es
    refine ⟨l, e.tr (fun b u h e => ⟨h, by rw [upd_ne (ne_of_none e n)]; exact e⟩) (fun b h x e => by rw [upd_ne (ne_of_none e n)]; exact e), pm⟩
  · have e1 := a.qui h b u e
    rw [upd_ne (ne_of_none e1 n)]
    exact e1
/-- a new object, one's own -/
theorem Post.newO {p : Addr} {o : HO} (a : Post K tb T σ H own q H' ρ' own' tv) (h : ∀ x, T x → H' x ≠ none) (ht : ∀ x ∈ tv, H' x ≠ none) (n : H' p = none) : Post K tb T σ H own q (upd H' p o) ρ' own' (p :: tv) := by
  have np : p ∉ own' ++ tv := fun z => by
    rcases List.mem_append.mp z with z | z
    · obtain ⟨x, e⟩ := a.there p z
      rw [n] at e; cases e
    · exact ht p z n
  have pm : (own' ++ p :: tv).Perm (p :: (own' ++ tv)) := List.perm_middle
  refine ⟨(a.ext.upd n).sub fun x hx => pm.mem_iff.mp hx, ?_, pm.nodup_iff.mpr (List.nodup_cons.mpr ⟨np, a.nd⟩), fun x hx => ?_, fun hq b u e => ?_⟩
  · obtain ⟨l, e, pl⟩ := a.es
    refine ⟨l, e.tr (fun b u hb e => ⟨fun z => ?_, by rw [upd_ne (ne_of_none e n)]; exact e⟩) (fun b hb x e => by rw [upd_ne (ne_of_none e n)]; exact e), pl⟩
    rcases z with z | z
    · exact hb (.inl z)
    · rcases List.mem_cons.mp (pm.mem_iff.mp z) with z | z
      · rw [z, n] at e; cases e
      · exact hb (.inr z)
  · rcases List.mem_cons.mp (pm.mem_iff.mp hx) with rfl | hx
    · exact fun z => h _ z n
    · exact a.dis x hx
  · have e1 := a.qui hq b u e
    rw [upd_ne (ne_of_none e1 n)]
    exact e1
end
end DP

set_option Elab.async false
set_option linter.all false
set_option autoImplicit false
set_option maxRecDepth 100000
set_option maxHeartbeats 1000000
/-! DP, part D: readings by the core language. -/
namespace DP
open PySem PySem.Spec PyProof.Rows L2

theorem bind_some {α β : Type} {x : R α} {f : α → En → R β} {r : Except Nat β × En} (h : x.bind f = some r) :
    (∃ c ρ, x = some (.error c, ρ) ∧ r = (.error c, ρ)) ∨ ∃ a ρ, x = some (.ok a, ρ) ∧ f a ρ = some r := by
  cases x with
  | none => cases h
  | some y =>
    obtain ⟨y, ρ⟩ := y
    cases y with
    | error c => cases h; exact .inl ⟨c, ρ, rfl, rfl⟩
    | ok a => exact .inr ⟨a, ρ, rfl, h⟩
theorem of_some {α : Type} {o : Option α} {ρ : En} {r : Except Nat α × En} (h : R.of o ρ = some r) : ∃ a, o = some a ∧ r = (.ok a, ρ) := by
  cases o with
  | none => cases h
  | some a => cases h; exact ⟨a, rfl, rfl⟩
theorem ok_some {α : Type} {a : α} {ρ : En} {r : Except Nat α × En} (h : R.ok a ρ = some r) : r = (.ok a, ρ) := by cases h; rfl

section
variable (K : PySem.W.Frag)
/-- a value in hand: one's own (tv), or a look at what a slot holds -/
def VR (T : OP) (H' : Hp) (own' tv : List Addr) (m path : Bool) (v : V) (o : OV) : Prop :=
  (OR K H' (Own T (own' ++ tv)) v o tv ∧ (path = true → o.isFr = true)) ∨ (m = true ∧ path = true ∧ o.isFr = false ∧ tv = [] ∧ ∃ as, OR K H' (Own T own') v o as)
variable (er : Nat → Value) (W : WX)
def AftX (T : OP) (σ : L2.St) (H : Hp) (own : List Addr) (c : Nat) (ρ' : En) : Prop := ∀ H' own', Post K (tbE er) T σ H own false H' ρ' own' [] → W (er c) none σ H'
def AftE (T : OP) (σ : L2.St) (H : Hp) (own : List Addr) (q m path : Bool) (Q : VK) : Except Nat OV × En → Prop
  | (.ok o, ρ') => ∀ v H' own' tv, Post K (tbE er) T σ H own q H' ρ' own' tv → VR K T H' own' tv m path v o → Q v H'
  | (.error c, ρ') => AftX K er W T σ H own c ρ'
/-- the reading of an expression whose meaning is f -/
def tE (f : En → R OV) (q m path : Bool) : TE := fun σ H Q => ∃ T ρ own r, Pre K (tbE er) T H σ ρ own ∧ f ρ = some r ∧ AftE K er W T σ H own q m path Q r
def AftT (T : OP) (σ : L2.St) (H : Hp) (own : List Addr) (q : Bool) (Q : Bool → Hp → Prop) : Except Nat Bool × En → Prop
  | (.ok b, ρ') => ∀ H' own', Post K (tbE er) T σ H own q H' ρ' own' [] → Q b H'
  | (.error c, ρ') => AftX K er W T σ H own c ρ'
/-- .. of a test -/
def tT (f : En → R Bool) (q : Bool) : TT := fun σ H Q => ∃ T ρ own r, Pre K (tbE er) T H σ ρ own ∧ f ρ = some r ∧ AftT K er W T σ H own q Q r
def AftA (T : OP) (σ : L2.St) (H : Hp) (own : List Addr) (q : Bool) (Q : List V → Hp → Prop) : Except Nat (List OV) × En → Prop
  | (.ok xs, ρ') => ∀ vs H' own' tv, Post K (tbE er) T σ H own q H' ρ' own' tv → ORs K H' (Own T (own' ++ tv)) vs xs tv → Q vs H'
  | (.error c, ρ') => AftX K er W T σ H own c ρ'
/-- .. of a row of expressions -/
def tA (f : En → R (List OV)) (q : Bool) : TA := fun σ H Q => ∃ T ρ own r, Pre K (tbE er) T H σ ρ own ∧ f ρ = some r ∧ AftA K er W T σ H own q Q r
end

theorem PE.imp {X : Cx} {e : Expr} {t t' : TE} (h : L2.PE X e t) (i : ∀ σ H Q, t' σ H Q → t σ H Q) : L2.PE X e t' := ⟨fun pins s σ H Q I q => h.run pins s σ H Q I (i σ H Q q)⟩
theorem PT.imp {X : Cx} {e : Expr} {t t' : TT} (h : L2.PT X e t) (i : ∀ σ H Q, t' σ H Q → t σ H Q) : L2.PT X e t' := ⟨fun pins s σ H Q I q => h.run pins s σ H Q I (i σ H Q q)⟩
theorem PW.imp {X : Cx} {e : Expr} {t t' : TT} (h : L2.PW X e t) (i : ∀ σ H Q, t' σ H Q → t σ H Q) : L2.PW X e t' := ⟨fun w pins s σ H Q I q => h.run w pins s σ H Q I (i σ H Q q)⟩
theorem PA.imp {X : Cx} {es : List Expr} {t t' : TA} (h : L2.PA X es t) (i : ∀ σ H Q, t' σ H Q → t σ H Q) : L2.PA X es t' := ⟨fun p pins s σ H Q I q => h.run p pins s σ H Q I (i σ H Q q)⟩
theorem PS.imp {X : Cx} {st : Stmt} {t t' : TS} (h : L2.PS X st t) (i : ∀ D σ H, t' D σ H → t D σ H) : L2.PS X st t' := ⟨fun pins s σ H D I q => h.run pins s σ H D I (i D σ H q)⟩
theorem PSs.imp {X : Cx} {st : List Stmt} {t t' : TS} (h : L2.PSs X st t) (i : ∀ D σ H, t' D σ H → t D σ H) : L2.PSs X st t' := ⟨fun pins s σ H D I q => h.run pins s σ H D I (i D σ H q)⟩

section
variable {K : PySem.W.Frag} {tb : Option Addr} {T : OP} {σ : L2.St} {H H' H1 H2 : Hp} {ρ ρ' ρ1 ρ2 : En} {own own' own1 own2 tv tv1 tv2 : List Addr} {q q1 q2 m path : Bool} {v : V} {o : OV}
theorem VR.there (h : VR K T H' own' tv m path v o) : ∀ a ∈ tv, H' a ≠ none := fun a ha => by
  rcases h with ⟨h, _⟩ | ⟨_, _, _, e, _⟩
  · obtain ⟨x, e⟩ := h.there a ha
    rw [e]
    simp
  · rw [e] at ha
    simp at ha
theorem ORs.thereN {P : OP} {vs : List V} {os : List OV} (h : ORs K H' P vs os tv) : ∀ a ∈ tv, H' a ≠ none := fun a ha => by
  obtain ⟨x, e⟩ := h.there a ha
  rw [e]
  simp
/-- a value in mode false is one's own -/
theorem VR.sep (h : VR K T H' own' tv false path v o) : OR K H' (Own T (own' ++ tv)) v o tv := by
  rcases h with ⟨h, _⟩ | ⟨z, _⟩
  · exact h
  · cases z
theorem VR.sepP (h : VR K T H' own' tv m false v o) : OR K H' (Own T (own' ++ tv)) v o tv := by
  rcases h with ⟨h, _⟩ | ⟨_, z, _⟩
  · exact h
  · cases z
/-- in a look or one's own -/
theorem VR.or (h : VR K T H' own' tv m path v o) : ∃ as, OR K H' (Own T (own' ++ tv)) v o as := by
  rcases h with ⟨h, _⟩ | ⟨_, _, _, e, as, h⟩
  · exact ⟨_, h⟩
  · rw [e, List.append_nil]
    exact ⟨as, h⟩
/-- what one holds is kept by the next step -/
theorem OR.held (p : Pre K tb T H σ ρ own) (h : OR K H (Own T own) v o tv) (a : Post K tb T σ H own q H' ρ' own' tv2) (s : ∀ x ∈ tv, T x) : OR K H' (Own T (own' ++ tv2)) v o tv :=
  h.tr a.tr fun x hx u e => a.other p (s x hx) u e
theorem ORs.held {vs : List V} {os : List OV} (p : Pre K tb T H σ ρ own) (h : ORs K H (Own T own) vs os tv) (a : Post K tb T σ H own q H' ρ' own' tv2) (s : ∀ x ∈ tv, T x) : ORs K H' (Own T (own' ++ tv2)) vs os tv :=
  h.tr a.tr fun x hx u e => a.other p (s x hx) u e
theorem okAl_quiet {a : Ex} {b : Bool} (h : okAl a o b = true) (hp : isPath a = true) (hf : o.isFr = false) : b = true := by
  unfold okAl at h
  rw [hp, hf] at h
  simpa using h
/-- a first operand behind the second one's evaluation -/
theorem VR.next {a : Ex} {b : Bool} (p1 : Post K tb T σ H own q1 H1 ρ1 own1 tv1) (p : Pre K tb (Own T tv1) H1 σ ρ1 own1) (h : VR K T H1 own1 tv1 m (isPath a) v o) (hq : okAl a o b = true)
    (p2 : Post K tb (Own T tv1) σ H1 own1 b H2 ρ2 own2 tv2) : ∃ as, OR K H2 (Own (Own T tv1) (own2 ++ tv2)) v o as := by
  rcases h with ⟨h, _⟩ | ⟨_, hp, hf, e, as, h⟩
  · rw [own_app] at h
    exact ⟨_, OR.held p h p2 fun x hx => .inr hx⟩
  · subst e
    have sm : Same H1 H2 := p2.qui (okAl_quiet hq hp hf)
    have e1 : Own (Own T []) own1 = Own T own1 := by rw [own_nil]
    refine ⟨as, OR.tr (P := Own (Own T []) own1) p2.tr (by rw [e1]; exact h) fun x _ u e => sm x u e⟩

/-- a value that an operation gives: data that was there; a new object, data or one's own -/
inductive NewV (K : PySem.W.Frag) (H : Hp) (P : OP) : V → OV → Hp → List Addr → Prop
  | old {u : V} {d : PyData} : RD K (mask H P) u d → NewV K H P u (.fr d) H []
  | frz {p : Addr} {o : HO} {u : V} {d : PyData} : H p = none → RD K (mask (upd H p o) P) u d → NewV K H P u (.fr d) (upd H p o) []
  | own {p : Addr} {o : HO} {z : OV} : H p = none → OR K (upd H p o) (fun a => P a ∨ a ∈ [p]) (.ref p) z [p] → NewV K H P (.ref p) z (upd H p o) [p]
theorem NewV.post {u : V} {z : OV} {tz : List Addr} (a : Post K tb T σ H own q H1 ρ1 own1 tv1) (al : ∀ x, T x → H1 x ≠ none) (ht : ∀ x ∈ tv1, H1 x ≠ none) (n : NewV K H1 (Own T (own1 ++ tv1)) u z H2 tz) :
    Post K tb T σ H own q H2 ρ1 own1 tz ∧ OR K H2 (Own T (own1 ++ tz)) u z tz := by
  have dn : ∀ (Hz : Hp) (tz : List Addr), Tr (Own T (own1 ++ (tz ++ tv1))) Hz (Own T (own1 ++ tz)) Hz := fun Hz tz x o h e => ⟨fun w => h (by
    rcases w with w | w
    · exact .inl w
    · refine .inr ?_
      rcases List.mem_append.mp w with w | w
      · exact List.mem_append_left _ w
      · exact List.mem_append_right _ (List.mem_append_left _ w)), e⟩
  cases n with
  | old r =>
    refine ⟨a.sub (List.nil_sublist _), .fr (r.same (Tr.same ?_))⟩
    exact dn H1 []
  | frz hn r =>
    refine ⟨(a.newF hn).sub (List.nil_sublist _), .fr (r.same (Tr.same ?_))⟩
    exact dn _ []
  | own hn r =>
    rename_i p o
    refine ⟨(a.newO al ht hn).sub (tv2 := [p]) (List.Sublist.cons₂ p (List.nil_sublist _)), r.tr (fun x o h e => ?_) fun _ _ _ e => e⟩
    refine ⟨fun w => h ?_, e⟩
    rcases w with w | w
    · exact .inl (.inl w)
    · rcases List.mem_append.mp w with w | w
      · exact .inl (.inr (List.mem_append_left _ w))
      · exact .inr w
end
end DP

set_option Elab.async false
set_option linter.all false
set_option autoImplicit false
set_option maxRecDepth 100000
set_option maxHeartbeats 1000000
/-! DP, part E: operators by values. -/
namespace DP
open PySem PySem.Spec PyProof.Rows L2

theorem sizeLine_big : 2000001 ≤ sizeLine := by rw [sizeLine_eq]; decide
section
variable {K : PySem.W.Frag} {H : Hp} {P : OP}
theorem new_same {p : Addr} {o : HO} (n : H p = none) : Same (mask H P) (mask (upd H p o) (fun a => P a ∨ a ∈ [p])) := fun a u e => by
  obtain ⟨h1, h2⟩ := mask_some.mp e
  refine mask_some.mpr ⟨fun z => ?_, by rw [upd_ne (ne_of_none h2 n)]; exact h2⟩
  rcases z with z | z
  · exact h1 z
  · rw [List.mem_singleton] at z
    exact ne_of_none h2 n z
theorem new_sameF {p : Addr} {o : HO} (n : H p = none) : Same (mask H P) (mask (upd H p o) P) := fun a u e => by
  obtain ⟨h1, h2⟩ := mask_some.mp e
  exact mask_some.mpr ⟨h1, by rw [upd_ne (ne_of_none h2 n)]; exact h2⟩
theorem rdSub {a : Addr} {u : HO} (h : Rd (mask H P) a u) : Rd H a u := Same.rd (mask_sub P) h
/-- a new list of data -/
theorem NewV.list {p : Addr} {vs : List V} {ds : List PyData} (n : H p = none) (r : RDs K (mask H P) vs ds) : NewV K H P (.ref p) (mkLst ds) (upd H p (.lst vs)) [p] :=
  .own n (.lst upd_same (ORs.ofData (r.same (new_same n))))
/-- a new tuple of data -/
theorem NewV.tuple {p : Addr} {vs : List V} {ds : List PyData} (al : ∀ a, P a → H a ≠ none) (n : H p = none) (r : RDs K (mask H P) vs ds) : NewV K H P (.ref p) (.fr (.tuple ds)) (upd H p (.tup vs)) [] :=
  .frz n (.tup (.inl (mask_some.mpr ⟨fun z => al p z n, upd_same⟩)) (r.same (new_sameF n)))
theorem lstO_at {v : V} {x : OV} {as : List Addr} {ds : List PyData} (h : OR K H P v x as) (e : lstO x = some ds) : ∃ a vs, v = .ref a ∧ Rd H a (.lst vs) ∧ RDs K (mask H P) vs ds := by
  cases h with
  | fr r =>
    rename_i d
    cases r with
    | lst h1 h2 =>
      cases e
      exact ⟨_, _, rfl, (rdSub h1), h2⟩
    | _ => cases e
  | lst h1 h2 =>
    have e2 := frsO_some e
    rw [e2] at h2
    exact ⟨_, _, rfl, .inl h1, (ORs.data h2).1⟩
  | tup h1 h2 h3 => cases e
  | dK h1 h2 => cases e
  | dT h1 h2 => cases e
theorem seqO_at {v : V} {x : OV} {as : List Addr} {ds : List PyData} (h : OR K H P v x as) (e : seqO x = some ds) :
    ∃ a vs, v = .ref a ∧ RDs K (mask H P) vs ds ∧ ((Rd H a (.lst vs) ∧ lstO x = some ds) ∨ (Rd H a (.tup vs) ∧ isTup x = true)) := by
  cases h with
  | fr r =>
    cases r with
    | lst h1 h2 =>
      cases e
      exact ⟨_, _, rfl, h2, .inl ⟨(rdSub h1), rfl⟩⟩
    | tup h1 h2 =>
      cases e
      exact ⟨_, _, rfl, h2, .inr ⟨(rdSub h1), rfl⟩⟩
    | _ => cases e
  | lst h1 h2 =>
    have e2 := frsO_some e
    rw [e2] at h2
    exact ⟨_, _, rfl, (ORs.data h2).1, .inl ⟨.inl h1, e⟩⟩
  | tup h1 h2 h3 =>
    have e2 := frsO_some e
    rw [e2] at h3
    exact ⟨_, _, rfl, (ORs.data h3).1, .inr ⟨.inl h1, rfl⟩⟩
  | dK h1 h2 => cases e
  | dT h1 h2 => cases e
theorem RD.int_inv {v : V} {i : Int} (h : RD K H v (.int i)) : v = .int i := by cases h; rfl
theorem RD.str_inv {v : V} {i : Str} (h : RD K H v (.str i)) : v = .str i := by cases h; rfl
theorem RD.bl_inv {v : V} {i : Bool} (h : RD K H v (.bool i)) : v = .bl i := by cases h; rfl
theorem RD.non_inv {v : V} (h : RD K H v .none) : v = .non := by cases h; rfl
theorem RD.tup_inv {v : V} {ds : List PyData} (h : RD K H v (.tuple ds)) : ∃ a vs, v = .ref a ∧ Rd H a (.tup vs) ∧ RDs K H vs ds := by
  cases h with
  | tup h1 h2 => exact ⟨_, _, rfl, h1, h2⟩
theorem RD.lst_inv {v : V} {ds : List PyData} (h : RD K H v (.list ds)) : ∃ a vs, v = .ref a ∧ Rd H a (.lst vs) ∧ RDs K H vs ds := by
  cases h with
  | lst h1 h2 => exact ⟨_, _, rfl, h1, h2⟩
theorem RDs.nil_inv {vs : List V} (h : RDs K H vs []) : vs = [] := by cases h; rfl
theorem RDs.ints {F : Hp} : ∀ {vs : List V} {ds : List PyData} {l : List Int}, RDs K F vs ds → intsL ds = some l → vs = l.map V.int
  | _, _, l, .nil, e => by cases e; rfl
  | _, _, l, .cons (d := d) (ds := ds) h1 h2, e => by
    cases d <;> try (cases e; done)
    rename_i i
    unfold intsL at e
    cases hr : intsL ds with
    | none => rw [hr] at e; cases e
    | some l' =>
      rw [hr] at e
      cases e
      rw [h1.int_inv, RDs.ints h2 hr]
      rfl
theorem RDs.bools {F : Hp} : ∀ {vs : List V} {ds : List PyData} {l : List Bool}, RDs K F vs ds → boolsL ds = some l → vs = l.map V.bl
  | _, _, l, .nil, e => by cases e; rfl
  | _, _, l, .cons (d := d) (ds := ds) h1 h2, e => by
    cases d <;> try (cases e; done)
    rename_i i
    unfold boolsL at e
    cases hr : boolsL ds with
    | none => rw [hr] at e; cases e
    | some l' =>
      rw [hr] at e
      cases e
      rw [h1.bl_inv, RDs.bools h2 hr]
      rfl
theorem RDs.strs {F : Hp} : ∀ {vs : List V} {ds : List PyData} {l : List Str}, RDs K F vs ds → strsL ds = some l → vs = l.map V.str
  | _, _, l, .nil, e => by cases e; rfl
  | _, _, l, .cons (d := d) (ds := ds) h1 h2, e => by
    cases d <;> try (cases e; done)
    rename_i i
    unfold strsL at e
    cases hr : strsL ds with
    | none => rw [hr] at e; cases e
    | some l' =>
      rw [hr] at e
      cases e
      rw [h1.str_inv, RDs.strs h2 hr]
      rfl
end

section
variable {X : Cx} {pins : List (Addr × Obj)} {σ : L2.St} {H : Hp} {s : Shared}
theorem rdL (I : Inv X pins σ H s) {a : Addr} {xs : List V} (h : Rd H a (.lst xs)) : ∃ (its : List Value) (n : Nat), xs.length ≤ sizeLine ∧ Vals xs its ∧ xs.length = its.length ∧ s.heap.get? a = some { cls := .type "list", data := .seq its.toArray n } := by
  obtain ⟨z, its, n, r, e⟩ := h.ok I.hok
  exact ⟨its, n, z, r, r.length, e⟩
/-- list + list, whatever they are -/
theorem op_catR : OpR X (binaryOp .Add) (fun x y H Q => ∃ l b xs zs, x = .ref l ∧ y = .ref b ∧ Rd H l (.lst xs) ∧ Rd H b (.lst zs) ∧ xs.length + zs.length ≤ sizeLine ∧ ∀ p, H p = none → Q (.ref p) (upd H p (.lst (xs ++ zs)))) := by
  intro pins s σ H x y v u Q I rx ry h
  obtain ⟨l, b, xs, zs, rfl, rfl, hH, hB, hz, q⟩ := h
  cases rx
  cases ry
  obtain ⟨its, n, z, r, hl, e⟩ := rdL I hH
  obtain ⟨its2, n2, z2, r2, hl2, e2⟩ := rdL I hB
  refine PySem.P.add_list e e2 ?_ (by rw [List.size_toArray, List.size_toArray]; omega)
  have ea : its.toArray ++ its2.toArray = (its ++ its2).toArray := by simp
  rw [ea]
  exact ⟨.ref _, _, I.lnew (t' := s.toks) (r.append r2) (by rw [List.length_append]; omega), rfl, q _ I.fresh⟩
theorem okMul_ok {i j : Int} (h : okMul i j = true) : IntMulOk i j := by
  unfold okMul at h
  simp only [Bool.or_eq_true, decide_eq_true_eq] at h
  rcases h with (h | h) | h
  · exact .of_left (by omega)
  · exact .of_right (by omega)
  · exact CMulX.ok h
theorem op_mulD : OpR X (binaryOp .Mult) (rI (fun i j => okMul i j = true) fun i j => .int (i * j)) := opI fun _ _ _ _ _ _ _ hc q => mul_int q (okMul_ok hc)
theorem op_fdivD : OpR X (binaryOp .FloorDiv) (rI (fun _ j => okDiv j = true) fun i j => .int (i.fdiv j)) := opI fun _ _ _ _ _ _ _ hc q => by
  unfold okDiv at hc
  simp only [Bool.and_eq_true, decide_eq_true_eq] at hc
  exact floordiv_int hc.1 q (.inl (PyProof.noPylong_of_log2 hc.2))
end

def bopE : Bop → Operator
  | .add => .Add
  | .sub => .Sub
  | .mul => .Mult
  | .fdiv => .FloorDiv
  | .mod => .Mod
  | .pow => .Pow
  | .shl => .LShift
  | .shr => .RShift
/-- an operator by contents -/
def rBin (K : PySem.W.Frag) (o : Bop) : R2 := fun v w H Q => ∃ P x y z as bs, (∀ a, P a → H a ≠ none) ∧ OR K H P v x as ∧ OR K H P w y bs ∧ binO o x y = some z ∧ ∀ u H' tz, NewV K H P u z H' tz → Q u H'
section
variable {X : Cx}
theorem small_le {n : Nat} (h : small n = true) : n ≤ 1000000 := of_decide_eq_true h
theorem op_add (X : Cx) : OpR X (binaryOp .Add) (rBin X.K .add) := by
  intro pins s σ H v w u1 u2 Q I r1 r2 h
  obtain ⟨P, x, y, z, as, bs, al, hx, hy, hz, q⟩ := h
  have hb := sizeLine_big
  -- lists
  have lists : ∀ ds es, lstO x = some ds → lstO y = some es → (if small (ds.length + es.length) then some (mkLst (ds ++ es)) else none) = some z → wpAny (model X.prog X.w) X.A (binaryOp .Add u1 u2) (EP X pins σ Q) X.xe s := by
    intro ds es e1 e2 ez
    split at ez
    · rename_i hs
      cases ez
      obtain ⟨a, vs, rfl, ha, ra⟩ := lstO_at hx e1
      obtain ⟨b, ws, rfl, hb', rb⟩ := lstO_at hy e2
      have l1 := ra.length
      have l2 := rb.length
      have l3 := small_le hs
      exact op_catR pins s σ H _ _ u1 u2 Q I r1 r2 ⟨a, b, vs, ws, rfl, rfl, ha, hb', by omega, fun p hp => q _ _ _ (.list hp (ra.append rb))⟩
    · cases ez
  dsimp only [binO] at hz
  split at hz
  · cases hz
    cases hx with
    | fr hx =>
      cases hy with
      | fr hy =>
        rw [hx.int_inv] at r1
        rw [hy.int_inv] at r2
        exact L2.op_add pins s σ H _ _ u1 u2 Q I r1 r2 ⟨_, _, rfl, rfl, q _ _ _ (.old (.int _))⟩
  · split at hz
    · rename_i hs
      cases hz
      have l3 := small_le hs
      cases hx with
      | fr hx =>
        cases hy with
        | fr hy =>
          rw [hx.str_inv] at r1
          rw [hy.str_inv] at r2
          exact L2.op_add_str pins s σ H _ _ u1 u2 Q I r1 r2 ⟨_, _, rfl, rfl, Nat.le_trans l3 (by omega), q _ _ _ (.old (.str _))⟩
    · cases hz
  · split at hz
    · rename_i xs ys hs
      cases hz
      have l3 := small_le hs
      cases hx with
      | fr hx =>
        cases hy with
        | fr hy =>
          have hx0 := hx
          have hy0 := hy
          obtain ⟨a, vs, rfl, ha, ra⟩ := hx.tup_inv
          obtain ⟨b, ws, rfl, hb', rb⟩ := hy.tup_inv
          have l1 := ra.length
          have l2 := rb.length
          refine L2.op_catA pins s σ H _ _ u1 u2 Q I r1 r2 ⟨a, b, vs, ws, rfl, rfl, .inl (rdSub ha), .inl (rdSub hb'), by omega, fun e => ?_, fun _ e => ?_, fun _ _ p hp => q _ _ _ (.tuple al hp (ra.append rb))⟩
          · subst e
            have e2 : xs = [] := List.eq_nil_of_length_eq_zero l1.symm
            subst e2
            exact q _ _ _ (.old hy0)
          · subst e
            have e2 : ys = [] := List.eq_nil_of_length_eq_zero l2.symm
            subst e2
            rw [List.append_nil] at q
            exact q _ _ _ (.old hx0)
    · cases hz
  · split at hz
    · rename_i e1 e2
      exact lists _ _ e1 e2 hz
    · cases hz
theorem op_sub (X : Cx) : OpR X (binaryOp .Sub) (rBin X.K .sub) := by
  intro pins s σ H v w u1 u2 Q I r1 r2 h
  obtain ⟨P, x, y, z, as, bs, al, hx, hy, hz, q⟩ := h
  dsimp only [binO] at hz
  split at hz
  · cases hz
    cases hx with
    | fr hx =>
      cases hy with
      | fr hy =>
        rw [hx.int_inv] at r1
        rw [hy.int_inv] at r2
        exact L2.op_sub pins s σ H _ _ u1 u2 Q I r1 r2 ⟨_, _, rfl, rfl, q _ _ _ (.old (.int _))⟩
  · cases hz
theorem op_mod (X : Cx) : OpR X (binaryOp .Mod) (rBin X.K .mod) := by
  intro pins s σ H v w u1 u2 Q I r1 r2 h
  obtain ⟨P, x, y, z, as, bs, al, hx, hy, hz, q⟩ := h
  dsimp only [binO] at hz
  split at hz
  · split at hz
    · rename_i hs
      cases hz
      cases hx with
      | fr hx =>
        cases hy with
        | fr hy =>
          rw [hx.int_inv] at r1
          rw [hy.int_inv] at r2
          exact L2.op_modN pins s σ H _ _ u1 u2 Q I r1 r2 ⟨_, _, rfl, rfl, of_decide_eq_true hs, q _ _ _ (.old (.int _))⟩
    · cases hz
  · cases hz
theorem op_fdiv (X : Cx) : OpR X (binaryOp .FloorDiv) (rBin X.K .fdiv) := by
  intro pins s σ H v w u1 u2 Q I r1 r2 h
  obtain ⟨P, x, y, z, as, bs, al, hx, hy, hz, q⟩ := h
  dsimp only [binO] at hz
  split at hz
  · split at hz
    · rename_i hs
      cases hz
      cases hx with
      | fr hx =>
        cases hy with
        | fr hy =>
          rw [hx.int_inv] at r1
          rw [hy.int_inv] at r2
          exact op_fdivD pins s σ H _ _ u1 u2 Q I r1 r2 ⟨_, _, rfl, rfl, hs, q _ _ _ (.old (.int _))⟩
    · cases hz
  · cases hz
theorem op_pow (X : Cx) : OpR X (binaryOp .Pow) (rBin X.K .pow) := by
  intro pins s σ H v w u1 u2 Q I r1 r2 h
  obtain ⟨P, x, y, z, as, bs, al, hx, hy, hz, q⟩ := h
  dsimp only [binO] at hz
  split at hz
  · split at hz
    · rename_i hs
      cases hz
      cases hx with
      | fr hx =>
        cases hy with
        | fr hy =>
          rw [hx.int_inv] at r1
          rw [hy.int_inv] at r2
          unfold okPow at hs
          simp only [Bool.and_eq_true, decide_eq_true_eq] at hs
          exact L2.op_pow pins s σ H _ _ u1 u2 Q I r1 r2 ⟨_, _, rfl, rfl, ⟨hs.1.1, hs.1.2, hs.2⟩, q _ _ _ (.old (.int _))⟩
    · cases hz
  · cases hz
theorem op_shl (X : Cx) : OpR X (binaryOp .LShift) (rBin X.K .shl) := by
  intro pins s σ H v w u1 u2 Q I r1 r2 h
  obtain ⟨P, x, y, z, as, bs, al, hx, hy, hz, q⟩ := h
  dsimp only [binO] at hz
  split at hz
  · split at hz
    · rename_i hs
      cases hz
      cases hx with
      | fr hx =>
        cases hy with
        | fr hy =>
          rw [hx.int_inv] at r1
          rw [hy.int_inv] at r2
          unfold okShl at hs
          simp only [Bool.and_eq_true, decide_eq_true_eq] at hs
          exact op_shlW pins s σ H _ _ u1 u2 Q I r1 r2 ⟨_, _, rfl, rfl, ⟨hs.1, hs.2⟩, q _ _ _ (.old (.int _))⟩
    · cases hz
  · cases hz
theorem op_shr (X : Cx) : OpR X (binaryOp .RShift) (rBin X.K .shr) := by
  intro pins s σ H v w u1 u2 Q I r1 r2 h
  obtain ⟨P, x, y, z, as, bs, al, hx, hy, hz, q⟩ := h
  dsimp only [binO] at hz
  split at hz
  · split at hz
    · rename_i hs
      cases hz
      cases hx with
      | fr hx =>
        cases hy with
        | fr hy =>
          rw [hx.int_inv] at r1
          rw [hy.int_inv] at r2
          exact L2.op_shr pins s σ H _ _ u1 u2 Q I r1 r2 ⟨_, _, rfl, rfl, of_decide_eq_true hs, q _ _ _ (.old (.int _))⟩
    · cases hz
  · cases hz

theorem tooLong_small {n : Nat} (h : n ≤ 2000000) : Builtin.Str.tooLong n = false := by
  unfold Builtin.Str.tooLong
  rw [sizeLine_eq]
  exact decide_eq_false (by omega)
theorem op_mul (X : Cx) : OpR X (binaryOp .Mult) (rBin X.K .mul) := by
  intro pins s σ H v w u1 u2 Q I r1 r2 h
  obtain ⟨P, x, y, z, as, bs, al, hx, hy, hz, q⟩ := h
  have hb := sizeLine_big
  dsimp only [binO] at hz
  split at hz
  · split at hz
    · rename_i hs
      cases hz
      cases hx with
      | fr hx =>
        cases hy with
        | fr hy =>
          rw [hx.int_inv] at r1
          rw [hy.int_inv] at r2
          exact op_mulD pins s σ H _ _ u1 u2 Q I r1 r2 ⟨_, _, rfl, rfl, hs, q _ _ _ (.old (.int _))⟩
    · cases hz
  · split at hz
    · rename_i x j hs
      cases hz
      simp only [Bool.and_eq_true, decide_eq_true_eq] at hs
      obtain ⟨⟨h0, h1⟩, h2⟩ := hs
      cases hx with
      | fr hx =>
        cases hy with
        | fr hy =>
          rw [hx.str_inv] at r1
          rw [hy.int_inv] at r2
          obtain ⟨t, rfl⟩ := r1
          obtain ⟨t2, rfl⟩ := r2
          have h2' : x.length ≤ 1000 := h2
          have hm : x.length * j.toNat ≤ 1000 * 1000 := Nat.mul_le_mul h2' (by omega)
          refine SB.mul ⟨by rw [decide_eq_false (show ¬ j < -(2 ^ 63) by omega), decide_eq_false (show ¬ j ≥ 2 ^ 63 by omega)]; rfl, fun h3 _ h4 => ?_, fun _ _ => tooLong_small (by omega)⟩ fun t' k => ?_
          · have h5 : (x.length : Int) * j ≤ 1000 * 1000 := by
              have h5' : ((x.length * j.toNat : Nat) : Int) ≤ ((1000000 : Nat) : Int) := Int.ofNat_le.mpr hm
              rw [Int.natCast_mul, Int.toNat_of_nonneg h0] at h5'
              omega
            have h6 : (2 ^ 63 - 1) / j < (x.length : Int) := h4
            have h7 := Int.lt_mul_of_ediv_lt (show 0 < j by omega) h6
            have h8 : (x.length : Int) * j = j * (x.length : Int) := Int.mul_comm _ _
            omega
          · exact ⟨.str (Txt.mul x j), H, I.tok _, ⟨_, rfl⟩, q _ _ _ (.old (.str _))⟩
    · cases hz
  · split at hz
    · rename_i xs j hs
      cases hz
      simp only [Bool.and_eq_true, decide_eq_true_eq, Bool.not_eq_true'] at hs
      obtain ⟨⟨⟨h0, h1⟩, h2⟩, h3⟩ := hs
      cases hx with
      | fr hx =>
        cases hy with
        | fr hy =>
          rw [hy.int_inv] at r2
          obtain ⟨a, vs, rfl, ha, ra⟩ := hx.tup_inv
          have l1 := ra.length
          refine op_repT pins s σ H _ _ u1 u2 Q I r1 (by exact r2) ⟨a, j, vs, rfl, rfl, .inl (rdSub ha), fun e => ?_, h0, h1, by omega, fun p hp => q _ _ _ (.tuple al hp (ra.rep _))⟩
          subst e
          have e2 : xs = [] := List.eq_nil_of_length_eq_zero l1.symm
          rw [e2] at h2
          cases h2
    · cases hz
  · split at hz
    · rename_i l j o xs he
      split at hz
      · rename_i hs
        cases hz
        simp only [Bool.and_eq_true, decide_eq_true_eq] at hs
        obtain ⟨⟨h0, h1⟩, h2⟩ := hs
        cases hx with
        | @lst a vs _ as' h3 h4 =>
          have e2 := frsO_some he
          rw [e2] at h4
          obtain ⟨ra, _⟩ := ORs.data h4
          cases hy with
          | fr hy =>
            rw [hy.int_inv] at r2
            have l1 := ra.length
            have hm : vs.length * j.toNat ≤ 1000 * 1000 := Nat.mul_le_mul (by omega) (by omega)
            exact op_rep pins s σ H _ _ u1 u2 Q I r1 r2 ⟨a, j, vs, rfl, rfl, h3, by omega, by omega, by omega, fun p hp => q _ _ _ (.list hp (ra.rep _))⟩
      · cases hz
    · cases hz
  · cases hz
/-- every operator -/
theorem op_bin (X : Cx) : ∀ o : Bop, OpR X (binaryOp (bopE o)) (rBin X.K o)
  | .add => op_add X
  | .sub => op_sub X
  | .mul => op_mul X
  | .fdiv => op_fdiv X
  | .mod => op_mod X
  | .pow => op_pow X
  | .shl => op_shl X
  | .shr => op_shr X
end

def copE : Cop → CmpOp
  | .eq => .Eq
  | .ne => .NotEq
  | .lt => .Lt
  | .le => .LtE
  | .gt => .Gt
  | .ge => .GtE
  | .isin => .In
  | .notin => .NotIn
/-- a comparison by data -/
def rCmp (K : PySem.W.Frag) (o : Cop) : R2 := fun x y H Q => ∃ d e b, RD K H x d ∧ RD K H y e ∧ cmpD o d e = some b ∧ Q (.bl b) H
section
variable {X : Cx} {pins : List (Addr × Obj)} {σ : L2.St} {H : Hp} {s : Shared}
theorem reads (I : Inv X pins σ H s) {d : PyData} {v : V} {u : Value} (h : RD X.K H v d) (c : d.canLay0 = true) (r : RelV v u) : ∃ as, Reads s.heap u d as := Dp.reads I d v u (h.dp c) r
theorem canLay_shaped {d : PyData} (h : SeqAt.shaped d = true) : d.canLay0 = true := SeqAt.canLay_of_shaped h
theorem depth_shaped {d : PyData} (h : SeqAt.shaped d = true) : d.depth ≤ 64 := SeqAt.depth_of_shaped h
theorem op_cmp (X : Cx) (hu : X.A.units + 66 < cLine) : ∀ o : Cop, OpR X (compareOp (copE o)) (rCmp X.K o) := by
  intro o pins s σ H x y v u Q I rx ry h
  obtain ⟨d, e, b, hd, he, hb, q⟩ := h
  have inn : ∀ b, cmpD.inD d e = some b → (wpAny (model X.prog X.w) X.A (compareOp .In v u) (fun r s' => r = .bool b ∧ Inv X pins σ H s') X.xe s) ∧ wpAny (model X.prog X.w) X.A (compareOp .NotIn v u) (fun r s' => r = .bool (!b) ∧ Inv X pins σ H s') X.xe s := by
    intro b hb
    unfold cmpD.inD at hb
    split at hb
    · rename_i ds
      split at hb
      · rename_i hs
        cases hb
        rw [Bool.and_eq_true] at hs
        obtain ⟨as, r1⟩ := reads I hd (canLay_shaped hs.1) rx
        obtain ⟨bs, r2⟩ := reads I he (canLay_shaped hs.2) ry
        exact ⟨SeqAt.in_list_reads r2 r1 (canLay_shaped hs.2) (canLay_shaped hs.1) (room_in_shaped hs.1 (by omega)) ⟨rfl, I⟩, SeqAt.notIn_list_reads r2 r1 (canLay_shaped hs.2) (canLay_shaped hs.1) (room_in_shaped hs.1 (by omega)) ⟨rfl, I⟩⟩
      · cases hb
    · rename_i ds
      split at hb
      · rename_i hs
        cases hb
        rw [Bool.and_eq_true] at hs
        obtain ⟨as, r1⟩ := reads I hd (canLay_shaped hs.1) rx
        obtain ⟨bs, r2⟩ := reads I he (canLay_shaped hs.2) ry
        exact ⟨SeqAt.in_tuple_reads r2 r1 (canLay_shaped hs.2) (canLay_shaped hs.1) (room_in_shaped hs.1 (by omega)) ⟨rfl, I⟩, SeqAt.notIn_tuple_reads r2 r1 (canLay_shaped hs.2) (canLay_shaped hs.1) (room_in_shaped hs.1 (by omega)) ⟨rfl, I⟩⟩
      · cases hb
    · split at hb
      · split at hb
        rotate_left
        · cases hb
        cases hb
        rename_i z _ x _ c hc
        have ex : x = ⟨#[c]⟩ := Str.ext' (Array.toList_inj.mp hc)
        subst ex
        have e1 := hd.str_inv
        have e2 := he.str_inv
        constructor
        · refine thn (L2.op_in_sign pins s σ H x y v u (fun r H' => r = .bl (decide (c ∈ z.cps.toList)) ∧ H' = H) I rx ry ⟨c, z, e1, e2, rfl, rfl⟩) fun r s' hr => ?_
          obtain ⟨v', H', I', r', rfl, rfl⟩ := hr
          exact ⟨r', I'⟩
        · refine thn (L2.op_notIn_sign pins s σ H x y v u (fun r H' => r = .bl (!decide (c ∈ z.cps.toList)) ∧ H' = H) I rx ry ⟨c, z, e1, e2, rfl, rfl⟩) fun r s' hr => ?_
          obtain ⟨v', H', I', r', rfl, rfl⟩ := hr
          exact ⟨r', I'⟩
      · cases hb
    · cases hb
  cases o with
  | eq =>
    dsimp only [cmpD] at hb
    split at hb
    · rename_i hs
      cases hb
      rw [Bool.and_eq_true] at hs
      obtain ⟨as, r1⟩ := reads I hd (canLay_shaped hs.1) rx
      obtain ⟨bs, r2⟩ := reads I he (canLay_shaped hs.2) ry
      exact SeqAt.compareEq_shaped r1 r2 hs.1 hs.2 (by omega) ⟨.bl _, H, I, rfl, q⟩
    · cases hb
  | ne =>
    dsimp only [cmpD] at hb
    split at hb
    · rename_i hs
      cases hb
      rw [Bool.and_eq_true] at hs
      obtain ⟨as, r1⟩ := reads I hd (canLay_shaped hs.1) rx
      obtain ⟨bs, r2⟩ := reads I he (canLay_shaped hs.2) ry
      exact SeqAt.compareNe_shaped r1 r2 hs.1 hs.2 (by omega) ⟨.bl _, H, I, rfl, q⟩
    · cases hb
  | lt =>
    dsimp only [cmpD] at hb
    split at hb
    · cases hb
      exact L2.op_lt pins s σ H x y v u Q I rx ry ⟨_, _, hd.int_inv, he.int_inv, q⟩
    · split at hb
      · rename_i hs
        cases hb
        simp only [Bool.and_eq_true] at hs
        obtain ⟨⟨⟨h1, h2⟩, h3⟩, h4⟩ := hs
        obtain ⟨as, r1⟩ := reads I hd (canLay_shaped h1) rx
        obtain ⟨bs, r2⟩ := reads I he (canLay_shaped h2) ry
        have d1 := depth_shaped h1
        exact PySem.W.rcLt_alike d e X.A s v u as bs r1 r2 h3 (fun z => by subst z; cases h4) (by have := Nat.min_le_left d.depth e.depth; omega) _ _ _ _ ⟨.bl _, H, I, rfl, q⟩
      · cases hb
  | le =>
    dsimp only [cmpD] at hb
    split at hb
    · cases hb
      exact L2.op_le pins s σ H x y v u Q I rx ry ⟨_, _, hd.int_inv, he.int_inv, q⟩
    · cases hb
  | gt =>
    dsimp only [cmpD] at hb
    split at hb
    · cases hb
      exact L2.op_gt pins s σ H x y v u Q I rx ry ⟨_, _, hd.int_inv, he.int_inv, q⟩
    · cases hb
  | ge =>
    dsimp only [cmpD] at hb
    split at hb
    · cases hb
      exact L2.op_ge pins s σ H x y v u Q I rx ry ⟨_, _, hd.int_inv, he.int_inv, q⟩
    · cases hb
  | isin =>
    exact thn (inn b hb).1 fun r s' hr => ⟨.bl b, H, hr.2, hr.1, q⟩
  | notin =>
    dsimp only [cmpD] at hb
    cases hi : cmpD.inD d e with
    | none => rw [hi] at hb; cases hb
    | some b' =>
      rw [hi] at hb
      cases hb
      exact thn (inn b' hi).2 fun r s' hr => ⟨.bl (!b'), H, hr.2, hr.1, q⟩
end
end DP

set_option Elab.async false
set_option linter.all false
set_option autoImplicit false
set_option maxRecDepth 100000
set_option maxHeartbeats 1000000
/-! DP, part F: built-in functions by values. -/
namespace DP
open PySem PySem.Spec PyProof.Rows L2

def rBlt (K : PySem.W.Frag) (b : Blt) : List V → Hp → VK → Prop := fun vs H Q => ∃ P xs z as, (∀ a, P a → H a ≠ none) ∧ ORs K H P vs xs as ∧ bltO b xs = some z ∧ ∀ u H' tz, NewV K H P u z H' tz → Q u H'
section
variable {K : PySem.W.Frag} {H : Hp} {P : OP}
theorem ORs.one {vs : List V} {x : OV} {as : List Addr} (h : ORs K H P vs [x] as) : ∃ v, vs = [v] ∧ OR K H P v x as := by
  cases h with
  | cons h1 h2 =>
    cases h2
    exact ⟨_, rfl, by rw [List.append_nil]; exact h1⟩
theorem ORs.two {vs : List V} {x y : OV} {as : List Addr} (h : ORs K H P vs [x, y] as) : ∃ v w a1 a2, vs = [v, w] ∧ OR K H P v x a1 ∧ OR K H P w y a2 := by
  cases h with
  | cons h1 h2 =>
    obtain ⟨w, rfl, h3⟩ := h2.one
    exact ⟨_, _, _, _, rfl, h1, h3⟩
theorem OR.int {v : V} {i : Int} {as : List Addr} (h : OR K H P v (.fr (.int i)) as) : v = .int i := by
  cases h with
  | fr h => exact h.int_inv
theorem OR.str {v : V} {i : Str} {as : List Addr} (h : OR K H P v (.fr (.str i)) as) : v = .str i := by
  cases h with
  | fr h => exact h.str_inv
theorem OR.bl {v : V} {i : Bool} {as : List Addr} (h : OR K H P v (.fr (.bool i)) as) : v = .bl i := by
  cases h with
  | fr h => exact h.bl_inv
end
section
variable (X : Cx)
theorem blt_len : CallR X (.builtin "len") (rBlt X.K .len) := by
  intro pins s σ H vs us Q I r h
  obtain ⟨P, xs, z, as, al, hx, hz, q⟩ := h
  have fin : ∀ x n, vs = [x] → LenV X.K x H n → z = .fr (.int n) → wpAny (model X.prog X.w) X.A (call (.builtin "len") us) (EP X pins σ Q) X.xe s := fun x n e l ez => by
    subst ez
    exact call_len pins s σ H vs us Q I r ⟨x, n, e, l, q _ _ _ (.old (.int _))⟩
  dsimp only [bltO] at hz
  split at hz
  · split at hz
    · rename_i x hs
      cases hz
      obtain ⟨v, rfl, h⟩ := hx.one
      have e := h.str
      subst e
      exact fin _ x.length rfl ⟨Nat.le_trans (small_le hs) (by have := sizeLine_big; omega), rfl⟩ rfl
    · cases hz
  · cases hz
    obtain ⟨v, rfl, h⟩ := hx.one
    cases h with
    | lst h1 h2 =>
      have l := h2.length
      exact fin _ _ rfl (.inl ⟨_, .inl (.inl h1), rfl⟩) (by rw [l])
  · rename_i a _ _
    obtain ⟨v, rfl, h⟩ := hx.one
    cases hd : seqO a with
    | none => rw [hd] at hz; cases hz
    | some ds =>
      rw [hd] at hz
      cases hz
      obtain ⟨p, ws, rfl, rr, hr⟩ := seqO_at h hd
      have l := rr.length
      rcases hr with ⟨hr, _⟩ | ⟨hr, _⟩
      · exact fin _ _ rfl (.inl ⟨_, .inl hr, rfl⟩) (by rw [l])
      · exact fin _ _ rfl (.inr ⟨_, .inl hr, rfl⟩) (by rw [l])
  · cases hz
theorem blt_all (hc : X.calm = true) : CallR X (.builtin "all") (rBlt X.K .all) := by
  intro pins s σ H vs us Q I r h
  obtain ⟨P, xs, z, as, al, hx, hz, q⟩ := h
  dsimp only [bltO] at hz
  split at hz
  · split at hz
    · rename_i ds he
      obtain ⟨v, rfl, h⟩ := hx.one
      obtain ⟨p, ws, rfl, h1, rr⟩ := lstO_at h he
      cases hb : boolsL ds with
      | none => rw [hb] at hz; cases hz
      | some l =>
        rw [hb] at hz
        cases hz
        have e := rr.bools hb
        subst e
        exact cr_all hc pins s σ H _ us Q I r ⟨p, l, rfl, .inl h1, q _ _ _ (.old (.bl _))⟩
    · cases hz
  · cases hz
theorem blt_any (hc : X.calm = true) : CallR X (.builtin "any") (rBlt X.K .any) := by
  intro pins s σ H vs us Q I r h
  obtain ⟨P, xs, z, as, al, hx, hz, q⟩ := h
  dsimp only [bltO] at hz
  split at hz
  · split at hz
    · rename_i ds he
      obtain ⟨v, rfl, h⟩ := hx.one
      obtain ⟨p, ws, rfl, h1, rr⟩ := lstO_at h he
      cases hb : boolsL ds with
      | none => rw [hb] at hz; cases hz
      | some l =>
        rw [hb] at hz
        cases hz
        have e := rr.bools hb
        subst e
        exact cr_any hc pins s σ H _ us Q I r ⟨p, l, rfl, .inl h1, q _ _ _ (.old (.bl _))⟩
    · cases hz
  · cases hz
theorem blt_sum (hc : X.calm = true) : CallR X (.builtin "sum") (rBlt X.K .sum) := by
  intro pins s σ H vs us Q I r h
  obtain ⟨P, xs, z, as, al, hx, hz, q⟩ := h
  dsimp only [bltO] at hz
  split at hz
  · split at hz
    · rename_i ds he
      obtain ⟨v, rfl, h⟩ := hx.one
      obtain ⟨p, ws, rfl, h1, rr⟩ := lstO_at h he
      cases hb : intsL ds with
      | none => rw [hb] at hz; cases hz
      | some l =>
        rw [hb] at hz
        cases hz
        have e := rr.ints hb
        subst e
        exact cr_sum hc pins s σ H _ us Q I r ⟨p, l, rfl, .inl h1, q _ _ _ (.old (.int _))⟩
    · cases hz
  · cases hz
theorem blt_tuple : CallR X (.type "tuple") (rBlt X.K .tuple) := by
  intro pins s σ H vs us Q I r h
  obtain ⟨P, xs, z, as, al, hx, hz, q⟩ := h
  dsimp only [bltO] at hz
  split at hz
  · rename_i a
    obtain ⟨v, rfl, h⟩ := hx.one
    cases hd : seqO a with
    | none => rw [hd] at hz; cases hz
    | some ds =>
      rw [hd] at hz
      cases hz
      obtain ⟨p, ws, rfl, rr, hr⟩ := seqO_at h hd
      refine call_tuple_of pins s σ H _ us Q I r ⟨p, ws, rfl, ?_⟩
      rcases hr with ⟨hr, _⟩ | ⟨hr, ht⟩
      · exact .inl ⟨.inl hr, fun l hl => q _ _ _ (.tuple al hl rr)⟩
      · refine .inr ⟨.inl hr, q _ _ [] ?_⟩
        cases h with
        | fr h =>
          cases h with
          | tup h1 h2 => cases hd; exact .old (.tup h1 h2)
          | _ => cases ht
        | tup h1 h2 h3 =>
          have e := frsO_some hd
          rw [e] at h3
          exact .old (.tup (.inl (mask_some.mpr ⟨h2, h1⟩)) (ORs.data h3).1)
        | _ => cases ht
  · cases hz
theorem blt_list : CallR X (.type "list") (rBlt X.K .list) := by
  intro pins s σ H vs us Q I r h
  obtain ⟨P, xs, z, as, al, hx, hz, q⟩ := h
  dsimp only [bltO] at hz
  split at hz
  · rename_i a
    obtain ⟨v, rfl, h⟩ := hx.one
    cases hd : seqO a with
    | none => rw [hd] at hz; cases hz
    | some ds =>
      rw [hd] at hz
      cases hz
      obtain ⟨p, ws, rfl, rr, hr⟩ := seqO_at h hd
      refine call_list_of pins s σ H _ us Q I r ⟨p, ws, rfl, ?_, fun l hl => q _ _ _ (.list hl rr)⟩
      rcases hr with ⟨hr, _⟩ | ⟨hr, ht⟩
      · exact .inl (.inl hr)
      · exact .inr (.inl hr)
  · cases hz
theorem blt_int : CallR X (.type "int") (rBlt X.K .int) := by
  intro pins s σ H vs us Q I r h
  obtain ⟨P, xs, z, as, al, hx, hz, q⟩ := h
  dsimp only [bltO] at hz
  split at hz
  · cases hz
    obtain ⟨v, rfl, h⟩ := hx.one
    have e := h.int
    subst e
    exact call_int1 pins s σ H _ us Q I r (.inl ⟨_, rfl, q _ _ _ (.old (.int _))⟩)
  · split at hz
    · rename_i x hs
      obtain ⟨v, rfl, h⟩ := hx.one
      have e := h.str
      subst e
      cases hi : PySem.intText? x with
      | none => rw [hi] at hz; cases hz
      | some i =>
        rw [hi] at hz
        cases hz
        exact call_int_str pins s σ H _ us Q I r ⟨x, i, rfl, hi, of_decide_eq_true hs, q _ _ _ (.old (.int _))⟩
    · cases hz
  · cases hz
theorem blt_str : CallR X (.type "str") (rBlt X.K .str) := by
  intro pins s σ H vs us Q I r h
  obtain ⟨P, xs, z, as, al, hx, hz, q⟩ := h
  dsimp only [bltO] at hz
  split at hz
  · split at hz
    · rename_i hs
      cases hz
      obtain ⟨v, rfl, h⟩ := hx.one
      have e := h.int
      subst e
      exact call_str_int pins s σ H _ us Q I r ⟨_, rfl, of_decide_eq_true hs, q _ _ _ (.old (.str _))⟩
    · cases hz
  · cases hz
theorem blt_max (hc : X.calm = true) : CallR X (.builtin "max") (rBlt X.K .max) := by
  intro pins s σ H vs us Q I r h
  obtain ⟨P, xs, z, as, al, hx, hz, q⟩ := h
  dsimp only [bltO] at hz
  split at hz
  · rename_i i j
    cases hz
    obtain ⟨v, w, a1, a2, rfl, h1, h2⟩ := hx.two
    have e := h1.int
    have e2 := h2.int
    subst e e2
    refine call_max2 hc pins s σ H _ us Q I r ⟨i, j, rfl, ?_⟩
    have em : (if j > i then j else i) = max i j := by split <;> omega
    rw [em]
    exact q _ _ _ (.old (.int _))
  · cases hz
theorem blt_min (hc : X.calm = true) : CallR X (.builtin "min") (rBlt X.K .min) := by
  intro pins s σ H vs us Q I r h
  obtain ⟨P, xs, z, as, al, hx, hz, q⟩ := h
  dsimp only [bltO] at hz
  split at hz
  · rename_i i j
    cases hz
    obtain ⟨v, w, a1, a2, rfl, h1, h2⟩ := hx.two
    have e := h1.int
    have e2 := h2.int
    subst e e2
    refine call_min2 hc pins s σ H _ us Q I r ⟨i, j, rfl, ?_⟩
    have em : (if j < i then j else i) = min i j := by split <;> omega
    rw [em]
    exact q _ _ _ (.old (.int _))
  · cases hz
theorem blt_gcd : CallR X (.builtin "math.gcd") (rBlt X.K .gcd) := by
  intro pins s σ H vs us Q I r h
  obtain ⟨P, xs, z, as, al, hx, hz, q⟩ := h
  dsimp only [bltO] at hz
  split at hz
  · rename_i i j
    cases hz
    obtain ⟨v, w, a1, a2, rfl, h1, h2⟩ := hx.two
    have e := h1.int
    have e2 := h2.int
    subst e e2
    exact cr_gcd pins s σ H _ us Q I r ⟨i, j, rfl, q _ _ _ (.old (.int _))⟩
  · cases hz
/-! sorted -/
theorem each_of {K : PySem.W.Frag} {F : Hp} : ∀ {vs : List V} {us : List Value} {ds : List PyData}, Vals vs us → RDs K F vs ds → PySem.W.EachIs (fun u (b : V × PyData) => RelV b.1 u ∧ RD K F b.1 b.2) us (vs.zip ds)
  | _, _, _, .nil, .nil => .nil
  | _, _, _, .cons r t, .cons h1 h2 => .cons ⟨r, h1⟩ (each_of t h2)
theorem of_each {K : PySem.W.Frag} {F : Hp} : ∀ {us : List Value} {bs : List (V × PyData)}, PySem.W.EachIs (fun u (b : V × PyData) => RelV b.1 u ∧ RD K F b.1 b.2) us bs → Vals (bs.map (·.1)) us ∧ RDs K F (bs.map (·.1)) (bs.map (·.2))
  | _, _, .nil => ⟨.nil, .nil⟩
  | _, _, .cons h t => ⟨.cons h.1 (of_each t).1, .cons h.2 (of_each t).2⟩
theorem zip_snd {α β : Type} : ∀ {xs : List α} {ys : List β}, xs.length = ys.length → (xs.zip ys).map (·.2) = ys
  | [], [], _ => rfl
  | x :: xs, y :: ys, h => by
    rw [List.zip_cons_cons, List.map_cons, zip_snd (by simpa using h)]
  | [], _ :: _, h => by simp at h
  | _ :: _, [], h => by simp at h
theorem sortOk_all {ds : List PyData} (h : sortOk ds = true) : PySem.W.AllAlike ds ∧ (∀ d ∈ ds, SeqAt.shaped d = true) ∧ PySem.W.Sortable ds := by
  unfold sortOk at h
  simp only [Bool.and_eq_true, Bool.or_eq_true, List.all_eq_true] at h
  obtain ⟨⟨h1, h2⟩, h3⟩ := h
  refine ⟨fun d hd d' hd' => h1 d hd d' hd', h2, ?_⟩
  rcases h3 with h3 | h3
  · refine .inl fun d hd => ?_
    have q := h3 d hd
    cases d with
    | tuple xs =>
      cases xs with
      | nil => cases q
      | cons x r => exact ⟨x, r, rfl⟩
    | _ => cases q
  · refine .inr fun d hd => ?_
    have q := h3 d hd
    cases d with
    | tuple xs => cases q
    | none => cases q
    | _ => exact ⟨(fun z => by cases z), (fun xs z => by cases z)⟩
theorem blt_sorted (hu : X.A.units + 70 < cLine) : CallR X (.builtin "sorted") (rBlt X.K .sorted) := by
  intro pins s σ H vs us Q I r h
  obtain ⟨P, xs, z, as, al, hx, hz, q⟩ := h
  dsimp only [bltO] at hz
  split at hz
  · split at hz
    · split at hz
      · rename_i ds he hs
        cases hz
        rw [Bool.and_eq_true] at hs
        obtain ⟨hs, hsm⟩ := hs
        obtain ⟨v, rfl, h⟩ := hx.one
        obtain ⟨p, ws, rfl, h1, rr⟩ := lstO_at h he
        obtain ⟨u, rfl, ru⟩ := vals1 r
        cases ru
        obtain ⟨its, n, hz, rv, hl, e⟩ := rdL I h1
        obtain ⟨h2, h3, h4⟩ := sortOk_all hs
        have hlen := rr.length
        have eb := each_of rv rr
        have esn : (ws.zip ds).map (·.2) = ds := zip_snd hlen
        have hL : (ws.zip ds).length ≤ sizeLine := by
          rw [List.length_zip]
          have := small_le hsm
          have := sizeLine_big
          omega
        refine PySem.W.sorted_data (vs := its) (bs := ws.zip ds) (enc := (·.2)) (PySem.IsL.isList e) eb ((PySem.W.each_mem eb).mono fun u b hb => ?_) (by rw [esn]; exact h2) (by rw [esn]; exact h4) hL (fun b hb => ?_) fun out ho eo => ?_
        · have hm : b.2 ∈ ds := by
            rw [← esn]
            exact List.mem_map.mpr ⟨b, hb.2, rfl⟩
          exact reads I (hb.1.2.same (mask_sub P)) (canLay_shaped (h3 _ hm)) hb.1.1
        · have hm : b.2 ∈ ds := by
            rw [← esn]
            exact List.mem_map.mpr ⟨b, hb, rfl⟩
          have := SeqAt.depth_of_shaped (h3 _ hm)
          omega
        · obtain ⟨o1, o2⟩ := of_each eo
          have em : ((ws.zip ds).mergeSort (PySem.W.dataLe false (·.2))).map (·.2) = sortD ds := by
            unfold sortD
            have := PySem.W.sort_maps (r := PySem.W.dataLe false (fun b : V × PyData => b.2)) (s := PySem.W.dataLe false id) (fun b : V × PyData => b.2) (l := ws.zip ds) (fun a _ b _ => rfl)
            rw [this, esn]
          rw [em] at o2
          obtain ⟨c, hc⟩ := sortedAll_at s.heap its out.toArray
          have hn : H (s.heap.objs.size + 1) = none := I.hok.fresh (Nat.le_succ _)
          refine ⟨.ref (s.heap.objs.size + 1), _, I.laid (t' := s.toks) (o := .lst _) (fun b o q => sortedAll_old q) (Nat.le_succ _) ⟨?_, out, c, o1, hc⟩, rfl, q _ _ _ (.list hn o2)⟩
          rw [List.length_map, List.length_mergeSort]
          exact hL
      · cases hz
    · cases hz
  · cases hz
end
end DP

set_option Elab.async false
set_option linter.all false
set_option autoImplicit false
set_option maxRecDepth 100000
set_option maxHeartbeats 1000000
/-! DP, part G: expressions. -/
namespace DP
open PySem PySem.Spec PyProof.Rows L2

section
variable {K : PySem.W.Frag} {er : Nat → Value} {W : WX} {T : OP} {σ : L2.St} {H H' H1 H2 : Hp} {ρ ρ' ρ1 ρ2 : En} {own own' own1 own2 tv tv1 tv2 : List Addr} {q q1 q2 m path : Bool} {c : Nat}
theorem AftX.lift (p1 : Post K (tbE er) T σ H own q H1 ρ1 own1 tv1) (h : AftX K er W T σ H own c ρ') : AftX K er W (Own T tv1) σ H1 own1 c ρ' := fun H' own' p2 =>
  h H' own' (((Post.seq p1 p2).sub (List.nil_sublist _)).quiet fun z => by cases z)
theorem Post.alive (p : Pre K (tbE er) T H σ ρ own) (a : Post K (tbE er) T σ H own q H' ρ' own' tv) (ht : ∀ x ∈ tv, H' x ≠ none) : ∀ x, Own T (own' ++ tv) x → H' x ≠ none := fun x h => by
  rcases h with h | h
  · exact a.ext.live x (p.al x h)
  · rcases List.mem_append.mp h with h | h
    · obtain ⟨u, e⟩ := a.there x h
      rw [e]
      simp
    · exact ht x h
theorem first {β : Type} {f : En → R OV} {g : OV → En → R β} {r : Except Nat β × En} {Q : VK} (p : Pre K (tbE er) T H σ ρ own) (h : (f ρ).bind g = some r) (hx : ∀ c ρ', r = (.error c, ρ') → AftX K er W T σ H own c ρ')
    (hk : ∀ x ρ1, g x ρ1 = some r → ∀ v H1 own1 tv1, Post K (tbE er) T σ H own q H1 ρ1 own1 tv1 → VR K T H1 own1 tv1 m path v x → Q v H1) : tE K er W f q m path σ H Q := by
  rcases bind_some h with ⟨c, ρ1, e1, e2⟩ | ⟨a, ρ1, e1, e2⟩
  · exact ⟨T, ρ, own, _, p, e1, hx c ρ1 e2⟩
  · exact ⟨T, ρ, own, _, p, e1, fun v H1 own1 tv1 p1 v1 => hk a ρ1 e2 v H1 own1 tv1 p1 v1⟩
theorem firstT {β : Type} {f : En → R Bool} {g : Bool → En → R β} {r : Except Nat β × En} {Q : Bool → Hp → Prop} (p : Pre K (tbE er) T H σ ρ own) (h : (f ρ).bind g = some r) (hx : ∀ c ρ', r = (.error c, ρ') → AftX K er W T σ H own c ρ')
    (hk : ∀ x ρ1, g x ρ1 = some r → ∀ H1 own1, Post K (tbE er) T σ H own q H1 ρ1 own1 [] → Q x H1) : tT K er W f q σ H Q := by
  rcases bind_some h with ⟨c, ρ1, e1, e2⟩ | ⟨a, ρ1, e1, e2⟩
  · exact ⟨T, ρ, own, _, p, e1, hx c ρ1 e2⟩
  · exact ⟨T, ρ, own, _, p, e1, fun H1 own1 p1 => hk a ρ1 e2 H1 own1 p1⟩
theorem firstA {β : Type} {f : En → R (List OV)} {g : List OV → En → R β} {r : Except Nat β × En} {Q : List V → Hp → Prop} (p : Pre K (tbE er) T H σ ρ own) (h : (f ρ).bind g = some r) (hx : ∀ c ρ', r = (.error c, ρ') → AftX K er W T σ H own c ρ')
    (hk : ∀ x ρ1, g x ρ1 = some r → ∀ vs H1 own1 tv1, Post K (tbE er) T σ H own q H1 ρ1 own1 tv1 → ORs K H1 (Own T (own1 ++ tv1)) vs x tv1 → Q vs H1) : tA K er W f q σ H Q := by
  rcases bind_some h with ⟨c, ρ1, e1, e2⟩ | ⟨a, ρ1, e1, e2⟩
  · exact ⟨T, ρ, own, _, p, e1, hx c ρ1 e2⟩
  · exact ⟨T, ρ, own, _, p, e1, fun v H1 own1 tv1 p1 v1 => hk a ρ1 e2 v H1 own1 tv1 p1 v1⟩
theorem AftE.err {Q : VK} {r : Except Nat OV × En} (h : AftE K er W T σ H own q m path Q r) : ∀ c ρ', r = (.error c, ρ') → AftX K er W T σ H own c ρ' := fun c ρ' e => by
  subst e
  exact h
theorem AftT.err {Q : Bool → Hp → Prop} {r : Except Nat Bool × En} (h : AftT K er W T σ H own q Q r) : ∀ c ρ', r = (.error c, ρ') → AftX K er W T σ H own c ρ' := fun c ρ' e => by
  subst e
  exact h
theorem AftA.err {Q : List V → Hp → Prop} {r : Except Nat (List OV) × En} (h : AftA K er W T σ H own q Q r) : ∀ c ρ', r = (.error c, ρ') → AftX K er W T σ H own c ρ' := fun c ρ' e => by
  subst e
  exact h
theorem lifts {β : Type} {r : Except Nat β × En} (p1 : Post K (tbE er) T σ H own q H1 ρ1 own1 tv1) (h : ∀ c ρ', r = (.error c, ρ') → AftX K er W T σ H own c ρ') : ∀ c ρ', r = (.error c, ρ') → AftX K er W (Own T tv1) σ H1 own1 c ρ' :=
  fun c ρ' e => AftX.lift p1 (h c ρ' e)
/-- an operation's value ends an expression -/
theorem AftE.fin {Q : VK} {u : V} {z : OV} {tz : List Addr} (h : AftE K er W T σ H own q m false Q (.ok z, ρ1)) (p : Pre K (tbE er) T H σ ρ own) (a : Post K (tbE er) T σ H own q H1 ρ1 own1 tv1) (ht : ∀ x ∈ tv1, H1 x ≠ none)
    (n : NewV K H1 (Own T (own1 ++ tv1)) u z H2 tz) : Q u H2 := by
  obtain ⟨p3, o3⟩ := NewV.post a (fun x hx => a.ext.live x (p.al x hx)) ht n
  exact h u H2 own1 tz p3 (.inl ⟨o3, fun z => by cases z⟩)
end

section
variable {X : Cx} {er : Nat → Value} {W : WX} {cf : CF}
/-! ### names, constants -/
theorem e_var {i : Nat} {x : Str} {pos : Pos} {m : Bool} (hN : X.N[i]? = some x) (hv : Vis X.env.scope x) (hd : (x == ("__debug__" : Str)) = false) (hcd : (x == ("__classdict__" : Str)) = false) :
    PE X (.Name x pos) (tE X.K er W (ev cf m (.var i)) true m true) := by
  refine PE.imp (pe_var hN hv hd hcd) fun σ H Q h => ?_
  obtain ⟨T, ρ, own, r, p, e, aft⟩ := h
  rw [ev] at e
  cases hg : getS ρ i with
  | none => rw [hg] at e; cases e
  | some o =>
    rw [hg] at e
    obtain ⟨l, es, pm⟩ := p.es
    obtain ⟨v, a0, rest, hσ, r0, pm2, es2⟩ := es.take hg
    refine ⟨v, hσ, ?_⟩
    have look : OR X.K H (Own T (own ++ [])) v o a0 := by
      rw [List.append_nil]
      exact r0
    have sub : ∀ a ∈ a0, a ∈ own := fun a ha => pm.mem_iff.mp (pm2.mem_iff.mpr (List.mem_append_left _ ha))
    have frozen : o.isFr = false → Q v H ∨ (m = false ∧ R.ok (.fr o.fz) (setS ρ i (.fr o.fz)) = some r) := fun hf => by
      cases m with
      | true =>
        left
        cases o with
        | fr d => cases hf
        | _ =>
          have e' := ok_some e
          subst e'
          refine aft v H own [] p.post (.inr ⟨rfl, rfl, rfl, rfl, a0, r0⟩)
      | false =>
        right
        cases o with
        | fr d => cases hf
        | _ => exact ⟨rfl, e⟩
    cases ho : o.isFr with
    | true =>
      cases o with
      | fr d =>
        have e' := ok_some e
        subst e'
        have hr0 : a0 = [] := by cases r0; rfl
        subst hr0
        exact aft v H own [] p.post (.inl ⟨look, fun _ => rfl⟩)
      | _ => cases ho
    | false =>
      rcases frozen ho with h | ⟨hm, e⟩
      · exact h
      · have e' := ok_some e
        subst e'
        -- the slot is frozen
        have ndl : l.Nodup := pm.nodup_iff.mpr p.nd
        have nd2 := List.nodup_append.mp (pm2.nodup_iff.mp ndl)
        have rsub : ∀ a ∈ rest, a ∈ own := fun a ha => pm.mem_iff.mp (pm2.mem_iff.mpr (List.mem_append_right _ ha))
        have tr : Tr (Own T own) H (Own T rest) H := fun a u h e => ⟨fun z => h (by
          rcases z with z | z
          · exact .inl z
          · exact .inr (rsub a z)), e⟩
        have rd : RD X.K (mask H (Own T rest)) v o.fz := r0.rd tr fun a ha u e => ⟨fun z => by
          rcases z with z | z
          · exact p.dis a (sub a ha) z
          · exact nd2.2.2 a ha a z rfl, e⟩
        obtain ⟨l3, pm3, es3⟩ := ESl.put (OR.fr rd) (es2.tr tr fun _ _ _ e => e) (by
          have := es.length
          have hi : i < ρ.length := by
            unfold getS at hg
            by_cases hi : i < ρ.length
            · exact hi
            · rw [List.getElem?_eq_none (by omega)] at hg
              cases hg
          rw [List.getElem?_set_self hi]) hσ
        have eset : setS (ρ.set i none) i (.fr o.fz) = setS ρ i (.fr o.fz) := by
          unfold setS
          rw [List.set_set]
        rw [eset] at es3
        refine aft v H rest [] ⟨?_, ?_, ?_, ?_, fun _ => Same.refl H⟩ (.inl ⟨?_, fun _ => rfl⟩)
        · rw [List.append_nil]
          exact (Ext.refl own H).sub rsub
        · rw [List.append_nil]
          exact ⟨l3, es3, pm3⟩
        · rw [List.append_nil]
          exact nd2.2.1
        · rw [List.append_nil]
          exact fun a ha => p.dis a (rsub a ha)
        · rw [List.append_nil]
          exact .fr rd
/-- a constant value -/
theorem e_const {e : Expr} {v : V} {d : PyData} {m path : Bool} {f : En → R OV} (h : PE X e (tC v)) (hf : ∀ ρ, f ρ = R.ok (.fr d) ρ) (hd : ∀ F, RD X.K F v d) : PE X e (tE X.K er W f true m path) := by
  refine PE.imp h fun σ H Q h => ?_
  obtain ⟨T, ρ, own, r, p, e, aft⟩ := h
  rw [hf] at e
  have e' := ok_some e
  subst e'
  exact aft v H own [] p.post (.inl ⟨.fr (hd _), fun _ => rfl⟩)

/-! ### operators -/
theorem c_bin {o : Bop} {a : Ex} {fa fb : En → R OV} {qa qb m pb : Bool} {σ : L2.St} {H : Hp} {Q : VK}
    (h : tE X.K er W (fun ρ => (fa ρ).bind fun x ρ1 => (fb ρ1).bind fun y ρ2 => if okAl a x qb then R.of (binO o x y) ρ2 else none) (qa && qb) m false σ H Q) :
    tOp (rBin X.K o) (tE X.K er W fa qa true (isPath a)) (tE X.K er W fb qb true pb) σ H Q := by
  obtain ⟨T, ρ, own, r, p, e, aft⟩ := h
  refine first p e aft.err fun x ρ1 e1 v H1 own1 tv1 p1 v1 => ?_
  have pr := p1.pre p v1.there
  refine first pr e1 (lifts p1 aft.err) fun y ρ2 e2 w H2 own2 tv2 p2 v2 => ?_
  split at e2
  · rename_i hq
    obtain ⟨z, ez, e3⟩ := of_some e2
    subst e3
    obtain ⟨as, hx⟩ := v1.next p1 pr hq p2
    obtain ⟨bs, hy⟩ := v2.or
    refine ⟨_, x, y, z, as, bs, p2.alive pr v2.there, hx, hy, ez, fun u H3 tz n => ?_⟩
    have ps := p1.seq p2
    rw [← own_app, List.append_assoc] at n
    refine aft.fin p ps (fun x hx => ?_) n
    rcases List.mem_append.mp hx with hx | hx
    · exact v2.there x hx
    · exact p2.ext.live x (v1.there x hx)
  · cases e2
theorem e_bin {o : Bop} {a : Ex} {ea eb : Expr} {fa fb : En → R OV} {qa qb m pb : Bool} {pos : Pos} (ha : PE X ea (tE X.K er W fa qa true (isPath a))) (hb : PE X eb (tE X.K er W fb qb true pb)) :
    PE X (.BinOp ea (bopE o) eb pos) (tE X.K er W (fun ρ => (fa ρ).bind fun x ρ1 => (fb ρ1).bind fun y ρ2 => if okAl a x qb then R.of (binO o x y) ρ2 else none) (qa && qb) m false) :=
  PE.imp (pe_op (op_bin X o) ha hb) fun σ H Q h => c_bin h
theorem c_cmp {o : Cop} {a : Ex} {fa fb : En → R OV} {qa qb m pb : Bool} {σ : L2.St} {H : Hp} {Q : VK}
    (h : tE X.K er W (fun ρ => (fa ρ).bind fun x ρ1 => (fb ρ1).bind fun y ρ2 => if okAl a x qb then R.of (bopO o x y) ρ2 else none) (qa && qb) m false σ H Q) :
    tOp (rCmp X.K o) (tE X.K er W fa qa true (isPath a)) (tE X.K er W fb qb true pb) σ H Q := by
  obtain ⟨T, ρ, own, r, p, e, aft⟩ := h
  refine first p e aft.err fun x ρ1 e1 v H1 own1 tv1 p1 v1 => ?_
  have pr := p1.pre p v1.there
  refine first pr e1 (lifts p1 aft.err) fun y ρ2 e2 w H2 own2 tv2 p2 v2 => ?_
  split at e2
  · rename_i hq
    obtain ⟨z, ez, e3⟩ := of_some e2
    subst e3
    obtain ⟨as, hx⟩ := v1.next p1 pr hq p2
    obtain ⟨bs, hy⟩ := v2.or
    unfold bopO at ez
    cases hc : cmpD o x.fz y.fz with
    | none => rw [hc] at ez; cases ez
    | some b =>
      rw [hc] at ez
      cases ez
      refine ⟨_, _, b, hx.full, hy.full, hc, ?_⟩
      refine aft.fin p (p1.seq p2) (fun x hx => ?_) (.old (.bl b))
      rcases List.mem_append.mp hx with hx | hx
      · exact v2.there x hx
      · exact p2.ext.live x (v1.there x hx)
  · cases e2
theorem behind {op : CmpOp} {e : Expr} (h : ∀ es k p, e ≠ .Set es k p) : behindInMarks op e = false := by
  cases e <;> first | rfl | exact absurd rfl (h _ _ _)
theorem e_cmp {o : Cop} {a : Ex} {ea eb : Expr} {fa fb : En → R OV} {qa qb m pb : Bool} {pos : Pos} (hu : X.A.units + 66 < cLine) (hm : behindInMarks (copE o) eb = false) (ha : PE X ea (tE X.K er W fa qa true (isPath a))) (hb : PE X eb (tE X.K er W fb qb true pb)) :
    PE X (.Compare ea [copE o] [eb] pos) (tE X.K er W (fun ρ => (fa ρ).bind fun x ρ1 => (fb ρ1).bind fun y ρ2 => if okAl a x qb then R.of (bopO o x y) ρ2 else none) (qa && qb) m false) :=
  PE.imp (pe_cmpR (op_cmp X hu o) ha hb hm) fun σ H Q h => c_cmp h
/-- the test that a value is -/
def tst (f : En → R OV) : En → R Bool := fun ρ => (f ρ).bind fun x ρ1 => R.of (tstO x) ρ1
theorem tst_or {x : OV} {b : Bool} (h : tstO x = some b) : x = .fr (.bool b) := by
  unfold tstO at h
  split at h
  · cases h
    rfl
  · cases h
/-- a reading of a test from a reading of the value -/
theorem c_tst {f : En → R OV} {q m path : Bool} {σ : L2.St} {H : Hp} {Q : Bool → Hp → Prop} (h : tT X.K er W (tst f) q σ H Q) : tE X.K er W f q m path σ H (fun x H1 => ∃ k, x = .bl k ∧ Q k H1) := by
  obtain ⟨T, ρ, own, r, p, e, aft⟩ := h
  refine first p e aft.err fun x ρ1 e1 v H1 own1 tv1 p1 v1 => ?_
  obtain ⟨b, eb, e2⟩ := of_some e1
  subst e2
  have ex := tst_or eb
  subst ex
  obtain ⟨as, hx⟩ := v1.or
  exact ⟨b, hx.bl, aft H1 own1 (p1.sub (List.nil_sublist _))⟩
theorem t_cmp {o : Cop} {a : Ex} {ea eb : Expr} {fa fb : En → R OV} {qa qb pb : Bool} {pos : Pos} (hu : X.A.units + 66 < cLine) (hm : behindInMarks (copE o) eb = false) (ha : PE X ea (tE X.K er W fa qa true (isPath a))) (hb : PE X eb (tE X.K er W fb qb true pb)) :
    PT X (.Compare ea [copE o] [eb] pos) (tT X.K er W (tst fun ρ => (fa ρ).bind fun x ρ1 => (fb ρ1).bind fun y ρ2 => if okAl a x qb then R.of (bopO o x y) ρ2 else none) (qa && qb)) :=
  PT.imp (pt_cmpR (op_cmp X hu o) ha hb hm) fun σ H Q h => c_cmp (m := true) (c_tst h)
/-- x is None -/
def isNO (k : Bool) (x : OV) : OV := .fr (.bool (match x with | .fr .none => k | _ => !k))
theorem isN_dec {K : PySem.W.Frag} {H : Hp} {P : OP} {v : V} {x : OV} {as : List Addr} (h : OR K H P v x as) : decide (v = .non) = (match x with | .fr .none => true | _ => false) := by
  cases h with
  | fr h => cases h <;> rfl
  | _ => rfl
theorem c_isN {k : Bool} {fa : En → R OV} {qa m pa : Bool} {σ : L2.St} {H : Hp} {Q : VK}
    (h : tE X.K er W (fun ρ => (fa ρ).bind fun x ρ1 => R.ok (isNO k x) ρ1) qa m false σ H Q) : tE X.K er W fa qa true pa σ H (fun x H1 => Q (.bl (if k then decide (x = .non) else !decide (x = .non))) H1) := by
  obtain ⟨T, ρ, own, r, p, e, aft⟩ := h
  refine first p e aft.err fun x ρ1 e1 v H1 own1 tv1 p1 v1 => ?_
  have e2 := ok_some e1
  subst e2
  obtain ⟨as, hx⟩ := v1.or
  have en := isN_dec hx
  have ez : isNO k x = .fr (.bool (if k then decide (v = .non) else !decide (v = .non))) := by
    unfold isNO
    rw [en]
    cases x with
    | fr d => cases d <;> cases k <;> rfl
    | _ => cases k <;> rfl
  rw [ez] at aft
  exact aft.fin p p1 v1.there (.old (.bl _))
theorem e_isN {ea : Expr} {fa : En → R OV} {qa m pa : Bool} {pos pos' : Pos} {j : Nat} (ha : PE X ea (tE X.K er W fa qa true pa)) :
    PE X (.Compare ea [.Is] [.Constant .none j pos'] pos) (tE X.K er W (fun ρ => (fa ρ).bind fun x ρ1 => R.ok (isNO true x) ρ1) qa m false) :=
  PE.imp (pe_cmp (pc_isN ha) rfl) fun σ H Q h => c_isN h
theorem e_notN {ea : Expr} {fa : En → R OV} {qa m pa : Bool} {pos pos' : Pos} {j : Nat} (ha : PE X ea (tE X.K er W fa qa true pa)) :
    PE X (.Compare ea [.IsNot] [.Constant .none j pos'] pos) (tE X.K er W (fun ρ => (fa ρ).bind fun x ρ1 => R.ok (isNO false x) ρ1) qa m false) :=
  PE.imp (pe_cmp (pc_notN ha) rfl) fun σ H Q h => c_isN h
theorem t_isN {ea : Expr} {fa : En → R OV} {qa pa : Bool} {pos pos' : Pos} {j : Nat} (ha : PE X ea (tE X.K er W fa qa true pa)) :
    PT X (.Compare ea [.Is] [.Constant .none j pos'] pos) (tT X.K er W (tst fun ρ => (fa ρ).bind fun x ρ1 => R.ok (isNO true x) ρ1) qa) :=
  PT.imp (pt_cmp (pc_isN ha) rfl) fun σ H Q h => c_isN (m := true) (c_tst h)
theorem t_notN {ea : Expr} {fa : En → R OV} {qa pa : Bool} {pos pos' : Pos} {j : Nat} (ha : PE X ea (tE X.K er W fa qa true pa)) :
    PT X (.Compare ea [.IsNot] [.Constant .none j pos'] pos) (tT X.K er W (tst fun ρ => (fa ρ).bind fun x ρ1 => R.ok (isNO false x) ρ1) qa) :=
  PT.imp (pt_cmp (pc_notN ha) rfl) fun σ H Q h => c_isN (m := true) (c_tst h)
/-- -x -/
theorem e_neg {ea : Expr} {fa : En → R OV} {qa m pa : Bool} {pos : Pos} (ha : PE X ea (tE X.K er W fa qa true pa)) :
    PE X (.UnaryOp .USub ea pos) (tE X.K er W (fun ρ => (fa ρ).bind fun x ρ1 => R.of ((intD x.fz).map fun i => .fr (.int (-i))) ρ1) qa m false) := by
  refine PE.imp (pe_un un_neg ha) fun σ H Q h => ?_
  obtain ⟨T, ρ, own, r, p, e, aft⟩ := h
  refine first p e aft.err fun x ρ1 e1 v H1 own1 tv1 p1 v1 => ?_
  obtain ⟨z, ez, e2⟩ := of_some e1
  subst e2
  obtain ⟨as, hx⟩ := v1.or
  cases hi : x.fz with
  | int i =>
    rw [hi] at ez
    cases ez
    have hf := hx.full
    rw [hi] at hf
    exact ⟨i, hf.int_inv, aft.fin p p1 v1.there (.old (.int _))⟩
  | _ => rw [hi] at ez; cases ez
/-- not x -/
theorem c_not {fa : En → R OV} {qa m : Bool} {σ : L2.St} {H : Hp} {Q : VK}
    (h : tE X.K er W (fun ρ => (fa ρ).bind fun x ρ1 => R.of ((tstO x).map fun b => .fr (.bool (!b))) ρ1) qa m false σ H Q) : tT X.K er W (tst fa) qa σ H (fun c H1 => Q (.bl (!c)) H1) := by
  obtain ⟨T, ρ, own, r, p, e, aft⟩ := h
  rcases bind_some e with ⟨c, ρ1, e1, e2⟩ | ⟨a, ρ1, e1, e2⟩
  · refine ⟨T, ρ, own, (.error c, ρ1), p, ?_, aft.err c ρ1 e2⟩
    unfold tst
    rw [e1]
    rfl
  · obtain ⟨z, ez, e3⟩ := of_some e2
    subst e3
    cases ht : tstO a with
    | none => rw [ht] at ez; cases ez
    | some b =>
      rw [ht] at ez
      cases ez
      refine ⟨T, ρ, own, (.ok b, ρ1), p, ?_, fun H1 own1 p1 => ?_⟩
      · unfold tst
        rw [e1]
        show R.of (tstO a) ρ1 = _
        rw [ht]
        rfl
      · exact aft.fin p p1 (fun x hx => absurd hx (by simp)) (.old (.bl _))
theorem e_not {ea : Expr} {fa : En → R OV} {qa m pa : Bool} {pos : Pos} (ha : PE X ea (tE X.K er W fa qa true pa)) :
    PE X (.UnaryOp .Not ea pos) (tE X.K er W (fun ρ => (fa ρ).bind fun x ρ1 => R.of ((tstO x).map fun b => .fr (.bool (!b))) ρ1) qa m false) :=
  PE.imp (pe_not ha) fun σ H Q h => c_tst (c_not h)
theorem t_not {ea : Expr} {fa : En → R OV} {qa : Bool} {pos : Pos} (ha : PT X ea (tT X.K er W (tst fa) qa)) :
    PT X (.UnaryOp .Not ea pos) (tT X.K er W (tst fun ρ => (fa ρ).bind fun x ρ1 => R.of ((tstO x).map fun b => .fr (.bool (!b))) ρ1) qa) := by
  refine PT.imp (pt_not ha) fun σ H Q h => ?_
  have h2 := c_not (m := true) (Q := fun x H1 => ∃ k, x = .bl k ∧ Q k H1) (c_tst h)
  obtain ⟨T, ρ, own, r, p, e, aft⟩ := h2
  refine ⟨T, ρ, own, r, p, e, ?_⟩
  cases r with
  | mk r ρ' =>
    cases r with
    | error c => exact aft
    | ok b =>
      intro H1 own1 p1
      obtain ⟨k, ek, q⟩ := aft H1 own1 p1
      cases ek
      exact q
/-- a plain value as a test -/
theorem t_val {ea : Expr} {fa : En → R OV} {qa m pa : Bool} (ha : PE X ea (tE X.K er W fa qa m pa)) (he : ∀ whole, isTrue ea X.env whole = (do let v ← whole; standAt ea.pos; holding [v] (truthy v))) :
    PT X ea (tT X.K er W (tst fa) qa) := PT.imp (pt_val ha he) fun σ H Q h => c_tst h
/-- a if c else b -/
theorem c_ite {fc fa fb : En → R OV} {qc qa qb m : Bool} {pa pb : Bool} {σ : L2.St} {H : Hp} {Q : VK}
    (h : tE X.K er W (fun ρ => (fc ρ).bind fun x ρ1 => match tstO x with | none => none | some true => fa ρ1 | some false => fb ρ1) (qc && qa && qb) m false σ H Q) :
    tIf (tT X.K er W (tst fc) qc) (tE X.K er W fa qa false pa) (tE X.K er W fb qb false pb) σ H Q := by
  obtain ⟨T, ρ, own, r, p, e, aft⟩ := h
  have go : ∀ {f : En → R OV} {q pp : Bool} {ρ1 : En} {H1 : Hp} {own1 : List Addr}, ((qc && qa && qb) = true → (qc && q) = true) → f ρ1 = some r → Post X.K (tbE er) T σ H own qc H1 ρ1 own1 [] → tE X.K er W f q false pp σ H1 Q := by
    intro f q pp ρ1 H1 own1 hq e1 p1
    have pr := p1.pre p (fun x hx => absurd hx (by simp))
    refine ⟨Own T [], ρ1, own1, r, pr, e1, ?_⟩
    cases r with
    | mk r ρ' =>
      cases r with
      | error c => exact AftX.lift p1 aft
      | ok z =>
        intro v H2 own2 tv2 p2 v2
        have ps := p1.seq p2
        rw [List.append_nil] at ps
        have hv := v2.sep
        rw [own_nil] at hv
        exact aft v H2 own2 tv2 (ps.quiet hq) (.inl ⟨hv, fun z => by cases z⟩)
  rcases bind_some e with ⟨c, ρ1, e1, e2⟩ | ⟨a, ρ1, e1, e2⟩
  · refine ⟨T, ρ, own, (.error c, ρ1), p, ?_, aft.err c ρ1 e2⟩
    unfold tst
    rw [e1]
    rfl
  · cases ht : tstO a with
    | none => rw [ht] at e2; cases e2
    | some b =>
      rw [ht] at e2
      refine ⟨T, ρ, own, (.ok b, ρ1), p, ?_, fun H1 own1 p1 => ?_⟩
      · unfold tst
        rw [e1]
        show R.of (tstO a) ρ1 = _
        rw [ht]
        rfl
      · cases b with
        | true => exact go (fun z => by simp only [Bool.and_eq_true] at z ⊢; exact z.1) e2 p1
        | false => exact go (fun z => by simp only [Bool.and_eq_true] at z ⊢; exact ⟨z.1.1, z.2⟩) e2 p1
theorem e_ite {c a b : Expr} {fc fa fb : En → R OV} {qc qa qb m pa pb : Bool} {pos : Pos} (hc : PT X c (tT X.K er W (tst fc) qc)) (ha : PE X a (tE X.K er W fa qa false pa)) (hb : PE X b (tE X.K er W fb qb false pb)) :
    PE X (.IfExp c a b pos) (tE X.K er W (fun ρ => (fc ρ).bind fun x ρ1 => match tstO x with | none => none | some true => fa ρ1 | some false => fb ρ1) (qc && qa && qb) m false) :=
  PE.imp (pe_ifExp hc ha hb) fun σ H Q h => c_ite h
end
end DP

set_option Elab.async false
set_option linter.all false
set_option autoImplicit false
set_option maxRecDepth 100000
set_option maxHeartbeats 1000000
/-! DP, part H: rows, displays, items, slices, calls of built-ins. -/
namespace DP
open PySem PySem.Spec PyProof.Rows L2

def noStar : Expr → Bool
  | .Starred _ _ => false
  | _ => true
theorem star_cons {e : Expr} {es : List Expr} {env : PySem.Env} (h : noStar e = true) : starEach (e :: es) env = (false, eval e env) :: starEach es env := by
  cases e <;> first | rfl | cases h
theorem star_plain {pos : Pos} {env : PySem.Env} : ∀ {es : List Expr}, es.all noStar = true → (backTo pos (starEach es env)).any (·.1) = false
  | [], _ => rfl
  | e :: es, h => by
    rw [List.all_cons, Bool.and_eq_true] at h
    rw [star_cons h.1]
    show ((false, _) :: backTo pos (starEach es env)).any (·.1) = false
    rw [List.any_cons, star_plain h.2]
    rfl
theorem star_all {pos : Pos} {env : PySem.Env} : ∀ {es : List Expr}, es.all noStar = true → (backTo pos (starEach es env)).all (fun x => !x.1) = true
  | [], _ => rfl
  | e :: es, h => by
    rw [List.all_cons, Bool.and_eq_true] at h
    rw [star_cons h.1]
    show ((false, _) :: backTo pos (starEach es env)).all (fun x => !x.1) = true
    rw [List.all_cons, star_all h.2]
    rfl
section
variable {X : Cx} {er : Nat → Value} {W : WX} {cf : CF}
theorem a_nil : PA X [] (tA X.K er W (fun ρ => R.ok [] ρ) true) := by
  refine PA.imp pa_nil fun σ H Q h => ?_
  obtain ⟨T, ρ, own, r, p, e, aft⟩ := h
  have e' := ok_some e
  subst e'
  exact aft [] H own [] p.post .nil
theorem a_cons {e : Expr} {es : List Expr} {fe : En → R OV} {fs : En → R (List OV)} {qe qs pe : Bool} (he : PE X e (tE X.K er W fe qe false pe)) (hs : PA X es (tA X.K er W fs qs)) (hn : noStar e = true) :
    PA X (e :: es) (tA X.K er W (fun ρ => (fe ρ).bind fun x ρ1 => (fs ρ1).bind fun xs ρ2 => R.ok (x :: xs) ρ2) (qe && qs)) := by
  refine PA.imp (pa_cons he hs (star_cons hn)) fun σ H Q h => ?_
  obtain ⟨T, ρ, own, r, p, e, aft⟩ := h
  refine first p e aft.err fun x ρ1 e1 v H1 own1 tv1 p1 v1 => ?_
  have pr := p1.pre p v1.there
  refine firstA pr e1 (lifts p1 aft.err) fun xs ρ2 e2 vs H2 own2 tv2 p2 v2 => ?_
  have e3 := ok_some e2
  subst e3
  have hv := v1.sep
  rw [own_app] at hv
  have hv2 := OR.held pr hv p2 fun x hx => .inr hx
  have ps := (p1.seq p2).perm (List.perm_append_comm)
  refine aft (v :: vs) H2 own2 (tv1 ++ tv2) ps ?_
  have eo : Own T (own2 ++ (tv1 ++ tv2)) = Own (Own T tv1) (own2 ++ tv2) := by
    rw [← own_app, List.append_assoc]
    exact own_perm ((List.perm_append_comm).append_left _)
  rw [eo]
  exact .cons hv2 v2
/-- (a, b, ..) -/
theorem e_tup {es : List Expr} {fs : En → R (List OV)} {q m : Bool} {k : Nat} {pos : Pos} (ha : PA X es (tA X.K er W fs q)) (hl : ∀ ρ xs ρ', fs ρ = some (.ok xs, ρ') → xs.length ≤ 1000) :
    PE X (.Tuple es k pos) (tE X.K er W (fun ρ => (fs ρ).bind fun xs ρ1 => R.ok (mkTup xs) ρ1) q m false) := by
  refine PE.imp (pe_tup ha) fun σ H Q h => ?_
  obtain ⟨T, ρ, own, r, p, e, aft⟩ := h
  rcases bind_some e with ⟨c, ρ1, e1, e2⟩ | ⟨xs, ρ1, e1, e2⟩
  · exact ⟨T, ρ, own, _, p, e1, aft.err c ρ1 e2⟩
  · refine ⟨T, ρ, own, _, p, e1, fun vs H1 own1 tv1 p1 v1 => ?_⟩
    have e3 := ok_some e2
    subst e3
    have hlen := hl _ _ _ e1
    have hlv := v1.length
    have hb := sizeLine_big
    refine ⟨by omega, fun a ha => ?_⟩
    have al := p1.alive p v1.thereN
    unfold mkTup at aft
    cases hf : frsO xs with
    | some ds =>
      rw [hf] at aft
      have e4 := frsO_some hf
      subst e4
      obtain ⟨rd, et⟩ := v1.data
      exact aft.fin p p1 v1.thereN (.tuple al ha rd)
    | none =>
      rw [hf] at aft
      have p2 := p1.newF (o := .tup vs) ha
      refine aft (.ref a) _ own1 tv1 p2 (.inl ⟨.tup upd_same (fun z => al a z ha) (v1.tr (fun b u h e => ⟨h, by rw [upd_ne (ne_of_none e ha)]; exact e⟩) fun b hb x e => by rw [upd_ne (ne_of_none e ha)]; exact e), fun z => by cases z⟩)
/-- [a, b, ..] -/
theorem e_lst {es : List Expr} {fs : En → R (List OV)} {q m : Bool} {pos : Pos} (ha : PA X es (tA X.K er W fs q)) (hl : ∀ ρ xs ρ', fs ρ = some (.ok xs, ρ') → xs.length ≤ 1000) :
    PE X (.List es pos) (tE X.K er W (fun ρ => (fs ρ).bind fun xs ρ1 => R.ok (.lst xs) ρ1) q m false) := by
  refine PE.imp (pe_lst ha) fun σ H Q h => ?_
  obtain ⟨T, ρ, own, r, p, e, aft⟩ := h
  rcases bind_some e with ⟨c, ρ1, e1, e2⟩ | ⟨xs, ρ1, e1, e2⟩
  · exact ⟨T, ρ, own, _, p, e1, aft.err c ρ1 e2⟩
  · refine ⟨T, ρ, own, _, p, e1, fun vs H1 own1 tv1 p1 v1 => ?_⟩
    have e3 := ok_some e2
    subst e3
    have hlen := hl _ _ _ e1
    have hlv := v1.length
    have hb := sizeLine_big
    refine ⟨by omega, fun a ha => ?_⟩
    have p2 := p1.newO (o := .lst vs) (fun x hx => p1.ext.live x (p.al x hx)) v1.thereN ha
    refine aft (.ref a) _ own1 (a :: tv1) p2 (.inl ⟨.lst upd_same (v1.tr (fun b u h e => ⟨fun z => h ?_, by rw [upd_ne (ne_of_none e ha)]; exact e⟩) fun b hb x e => by rw [upd_ne (ne_of_none e ha)]; exact e), fun z => by cases z⟩)
    rcases z with z | z
    · exact .inl z
    · rcases List.mem_append.mp z with z | z
      · exact .inr (List.mem_append_left _ z)
      · rcases List.mem_cons.mp z with z | z
        · exact absurd z (ne_of_none e ha)
        · exact .inr (List.mem_append_right _ z)

/-! ### items -/
theorem atI_map {α β : Type} {xs : List α} {ys : List β} (hl : xs.length = ys.length) {i : Int} {y : β} (h : atI ys i = some y) : ∃ j : Nat, ys[j]? = some y ∧ atI xs i = xs[j]? := by
  unfold atI at h ⊢
  rw [hl]
  cases hi : ixN ys.length i with
  | none => rw [hi] at h; cases h
  | some j =>
    rw [hi] at h
    exact ⟨j, h, rfl⟩
theorem atI_of {α β : Type} {xs : List α} {ys : List β} (hl : xs.length = ys.length) {i : Int} {y : β} (h : atI ys i = some y) : ∃ (j : Nat) (x : α), ys[j]? = some y ∧ xs[j]? = some x ∧ atI xs i = some x := by
  obtain ⟨j, h1, h2⟩ := atI_map hl h
  obtain ⟨hj, _⟩ := List.getElem?_eq_some_iff.mp h1
  have hx : xs[j]? = some xs[j] := List.getElem?_eq_getElem (by omega)
  exact ⟨j, xs[j], h1, hx, by rw [h2, hx]⟩
theorem ORs.get {K : PySem.W.Frag} {H : Hp} {P : OP} : ∀ {vs : List V} {os : List OV} {as : List Addr} {i : Nat} {o : OV}, ORs K H P vs os as → os[i]? = some o → ∃ v a0, vs[i]? = some v ∧ OR K H P v o a0 ∧ ∀ a ∈ a0, a ∈ as
  | _, _, _, _, _, .nil, h => by simp at h
  | _, _, _, 0, _, .cons (v := v) (as := as) r t, h => by
    simp at h
    subst h
    exact ⟨v, as, rfl, r, fun a ha => List.mem_append_left _ ha⟩
  | _, _, _, i + 1, _, .cons r t, h => by
    obtain ⟨v, a0, h1, h2, h3⟩ := ORs.get (i := i) t (by simpa using h)
    exact ⟨v, a0, by simpa using h1, h2, fun a ha => List.mem_append_right _ (h3 a ha)⟩
/-- what an item's reading gives -/
theorem idx_at {K : PySem.W.Frag} {H : Hp} {P : OP} {v : V} {x z : OV} {as : List Addr} {i : PyData} (h : OR K H P v x as) (e : idxO x i = some z) :
    ∃ a vs k u a0, v = .ref a ∧ i = .int k ∧ (Rd H a (.lst vs) ∨ Rd H a (.tup vs)) ∧ atI vs k = some u ∧ OR K H P u z a0 ∧ ∀ b ∈ a0, b ∈ as := by
  have data : ∀ {a : Addr} {vs : List V} {ds : List PyData} {k : Int}, RDs K (mask H P) vs ds → (atI ds k).map OV.fr = some z → ∃ u, atI vs k = some u ∧ OR K H P u z [] := fun {a vs ds k} r e => by
    cases hd : atI ds k with
    | none => rw [hd] at e; cases e
    | some d =>
      rw [hd] at e
      cases e
      obtain ⟨j, u, h1, h2, h3⟩ := atI_of r.length hd
      obtain ⟨u', h4, h5⟩ := r.get h1
      rw [h2] at h4
      cases h4
      exact ⟨u, h3, .fr h5⟩
  unfold idxO at e
  cases h with
  | fr h =>
    cases h with
    | lst h1 h2 =>
      cases i with
      | int k =>
        obtain ⟨u, h3, h4⟩ := data (a := 0) h2 e
        exact ⟨_, _, k, u, [], rfl, rfl, .inl (rdSub h1), h3, h4, fun b hb => by simp at hb⟩
      | _ => cases e
    | tup h1 h2 =>
      cases i with
      | int k =>
        obtain ⟨u, h3, h4⟩ := data (a := 0) h2 e
        exact ⟨_, _, k, u, [], rfl, rfl, .inr (rdSub h1), h3, h4, fun b hb => by simp at hb⟩
      | _ => cases e
    | _ => cases e
  | lst h1 h2 =>
    cases i with
    | int k =>
      have e : atI _ k = some z := e
      obtain ⟨j, u, h3, h4, h5⟩ := atI_of h2.length e
      obtain ⟨u', a0, h6, h7, h8⟩ := h2.get h3
      rw [h4] at h6
      cases h6
      exact ⟨_, _, k, u, a0, rfl, rfl, .inl (.inl h1), h5, h7, fun b hb => List.mem_cons_of_mem _ (h8 b hb)⟩
    | _ => cases e
  | tup h1 hn h2 =>
    cases i with
    | int k =>
      have e : atI _ k = some z := e
      obtain ⟨j, u, h3, h4, h5⟩ := atI_of h2.length e
      obtain ⟨u', a0, h6, h7, h8⟩ := h2.get h3
      rw [h4] at h6
      cases h6
      exact ⟨_, _, k, u, a0, rfl, rfl, .inr (.inl h1), h5, h7, h8⟩
    | _ => cases e
  | dK h1 h2 => cases e
  | dT h1 h2 => cases e
def rIxS (K : PySem.W.Frag) : R2 := fun x y H Q => rIxL K x y H Q ∨ rIxT K x y H Q
theorem plainIx {b : Expr} (h : ∀ l u s p, b ≠ .Slice l u s p) : PlainIx b := fun o i => by
  cases b <;> first | rfl | exact absurd rfl (h _ _ _ _)
theorem e_idx {a : Ex} {ea eb : Expr} {fa fb : En → R OV} {qa qb m pb : Bool} {pos : Pos} (ha : PE X ea (tE X.K er W fa qa true (isPath a))) (hb : PE X eb (tE X.K er W fb qb true pb)) (hs : ∀ l u s p, eb ≠ .Slice l u s p) :
    PE X (.Subscript ea eb pos) (tE X.K er W (fun ρ => (fa ρ).bind fun x ρ1 => (fb ρ1).bind fun y ρ2 => if okAl a x qb then match idxO x y.fz with
      | none => none
      | some z => if (m && isPath a) || z.isFr then R.ok z ρ2 else none
    else none) (qa && qb) m (isPath a)) := by
  refine PE.imp (pe_ix (ix_list.or ix_tup) ha hb (plainIx hs)) fun σ H Q h => ?_
  obtain ⟨T, ρ, own, r, p, e, aft⟩ := h
  refine first p e aft.err fun x ρ1 e1 v H1 own1 tv1 p1 v1 => ?_
  have pr := p1.pre p v1.there
  refine first pr e1 (lifts p1 aft.err) fun y ρ2 e2 w H2 own2 tv2 p2 v2 => ?_
  split at e2
  · rename_i hq
    cases hz : idxO x y.fz with
    | none => rw [hz] at e2; cases e2
    | some z =>
      rw [hz] at e2
      obtain ⟨as, hx⟩ := v1.next p1 pr hq p2
      obtain ⟨bs, hy⟩ := v2.or
      obtain ⟨ad, vs, k, u, a0, ev, ei, hr, hu, hz', hsub⟩ := idx_at hx hz
      subst ev
      have hyf := hy.full
      rw [ei] at hyf
      have hw := hyf.int_inv
      have goal : Q u H2 := by
        dsimp only at e2
        split at e2
        · rename_i hm
          have e3 := ok_some e2
          subst e3
          have ps := p1.seq p2
          cases hzf : z.isFr with
          | true =>
            cases z with
            | fr d =>
              cases hz' with
              | fr rd =>
                rw [← own_app, List.append_assoc] at rd
                obtain ⟨p3, o3⟩ := NewV.post ps (fun x hx => ps.ext.live x (p.al x hx)) (fun x hx => by
                  rcases List.mem_append.mp hx with hx | hx
                  · exact v2.there x hx
                  · exact p2.ext.live x (v1.there x hx)) (.old rd)
                exact aft u H2 own2 [] p3 (.inl ⟨o3, fun _ => rfl⟩)
            | _ => cases hzf
          | false =>
            rw [hzf, Bool.or_false, Bool.and_eq_true] at hm
            obtain ⟨hm, hp⟩ := hm
            -- an object of one's own, looked at
            have et1 : tv1 = [] := by
              rcases v1 with ⟨h1, h2⟩ | ⟨_, _, _, h3, _⟩
              · have hf := h2 hp
                cases x with
                | fr d =>
                  cases h1
                  rfl
                | _ => cases hf
              · exact h3
            have et2 : tv2 = [] := by
              rcases v2 with ⟨h1, h2⟩ | ⟨_, _, _, h3, _⟩
              · cases y with
                | fr d =>
                  cases h1
                  rfl
                | _ => cases ei
              · exact h3
            subst et1 et2
            rw [own_nil, List.append_nil] at hz'
            exact aft u H2 own2 [] ps (.inr ⟨hm, hp, hzf, rfl, a0, hz'⟩)
        · cases e2
      rcases hr with hr | hr
      · exact .inl ⟨ad, vs, k, u, rfl, hw, .inl hr, hu, goal⟩
      · exact .inr ⟨ad, vs, k, u, rfl, hw, .inl hr, hu, goal⟩
  · cases e2
end
end DP

set_option Elab.async false
set_option linter.all false
set_option autoImplicit false
set_option maxRecDepth 100000
set_option maxHeartbeats 1000000
/-! DP, part I: and, or, chains, slices, calls of built-ins, methods. -/
namespace DP
open PySem PySem.Spec PyProof.Rows L2
section
variable {X : Cx} {er : Nat → Value} {W : WX} {cf : CF}

/-! ### and, or: a row of tests -/
def bopB (k : Bool) : BoolOp := if k then .And else .Or
theorem evB_one (k : Bool) (e : Ex) : evB cf k (.cons e .nil) = tst (ev cf true e) := by
  funext ρ
  rw [evB]
  unfold tst
  cases ev cf true e ρ with
  | none => rfl
  | some y =>
    obtain ⟨y, ρ1⟩ := y
    cases y with
    | error c => rfl
    | ok a =>
      simp only [R.bind]
      cases ht : tstO a <;> rfl
theorem evB_more (k : Bool) (e e' : Ex) (es : Exs) : evB cf k (.cons e (.cons e' es)) = fun ρ => (tst (ev cf true e) ρ).bind fun c ρ1 => if c = k then evB cf k (.cons e' es) ρ1 else R.ok c ρ1 := by
  funext ρ
  rw [evB]
  unfold tst
  cases ev cf true e ρ with
  | none => rfl
  | some y =>
    obtain ⟨y, ρ1⟩ := y
    cases y with
    | error c => rfl
    | ok a =>
      simp only [R.bind]
      cases ht : tstO a <;> rfl
theorem c_seqT {k : Bool} {f g : En → R Bool} {qf qg : Bool} {σ : L2.St} {H : Hp} {Q : Bool → Hp → Prop} (h : tT X.K er W (fun ρ => (f ρ).bind fun c ρ1 => if c = k then g ρ1 else R.ok c ρ1) (qf && qg) σ H Q) :
    tT X.K er W f qf σ H (fun c H1 => if c = k then tT X.K er W g qg σ H1 Q else Q c H1) := by
  obtain ⟨T, ρ, own, r, p, e, aft⟩ := h
  refine firstT p e aft.err fun c ρ1 e1 H1 own1 p1 => ?_
  have pr := p1.pre p (fun x hx => absurd hx (by simp))
  split at e1
  · rename_i hc
    rw [if_pos hc]
    refine ⟨Own T [], ρ1, own1, r, pr, e1, ?_⟩
    obtain ⟨r, ρ'⟩ := r
    cases r with
    | error c => exact AftX.lift p1 aft
    | ok b =>
      intro H2 own2 p2
      exact aft H2 own2 (p1.seq p2)
  · rename_i hc
    rw [if_neg hc]
    have e2 := ok_some e1
    subst e2
    exact aft H1 own1 (p1.quiet fun z => by rw [Bool.and_eq_true] at z; exact z.1)
theorem tw_one {k : Bool} {e : Expr} {f : En → R Bool} {q : Bool} {pos : Pos} (h : PT X e (tT X.K er W f q)) : PW X (.BoolOp (bopB k) [e] pos) (tT X.K er W f q) := by
  cases k with
  | true => exact pw_and1 h
  | false => exact pw_or1 h
theorem tw_more {k : Bool} {e e' : Expr} {es : List Expr} {f g : En → R Bool} {qf qg : Bool} {pos : Pos} (h : PT X e (tT X.K er W f qf)) (h2 : PW X (.BoolOp (bopB k) (e' :: es) pos) (tT X.K er W g qg)) :
    PW X (.BoolOp (bopB k) (e :: e' :: es) pos) (tT X.K er W (fun ρ => (f ρ).bind fun c ρ1 => if c = k then g ρ1 else R.ok c ρ1) (qf && qg)) := by
  cases k with
  | true =>
    refine PW.imp (pw_and h h2) fun σ H Q hq => ?_
    have z := c_seqT hq
    obtain ⟨T, ρ, own, r, p, e, aft⟩ := z
    refine ⟨T, ρ, own, r, p, e, ?_⟩
    obtain ⟨r, ρ'⟩ := r
    cases r with
    | error c => exact aft
    | ok b =>
      intro H1 own1 p1
      have w := aft H1 own1 p1
      cases b with
      | true => exact w
      | false => exact w
  | false =>
    refine PW.imp (pw_or h h2) fun σ H Q hq => ?_
    have z := c_seqT hq
    obtain ⟨T, ρ, own, r, p, e, aft⟩ := z
    refine ⟨T, ρ, own, r, p, e, ?_⟩
    obtain ⟨r, ρ'⟩ := r
    cases r with
    | error c => exact aft
    | ok b =>
      intro H1 own1 p1
      have w := aft H1 own1 p1
      cases b with
      | true =>
        rw [if_neg (by decide)] at w
        rw [if_pos rfl]
        exact w
      | false =>
        rw [if_pos rfl] at w
        rw [if_neg (by decide)]
        exact w
/-- .. as a value -/
def vB (f : En → R Bool) : En → R OV := fun ρ => (f ρ).bind fun c ρ1 => R.ok (.fr (.bool c)) ρ1
theorem c_vB {f : En → R Bool} {q m : Bool} {σ : L2.St} {H : Hp} {Q : VK} (h : tE X.K er W (vB f) q m false σ H Q) : tT X.K er W f q σ H (fun c H1 => Q (.bl c) H1) := by
  obtain ⟨T, ρ, own, r, p, e, aft⟩ := h
  refine firstT p e aft.err fun c ρ1 e1 H1 own1 p1 => ?_
  have e2 := ok_some e1
  subst e2
  exact aft.fin p p1 (fun x hx => absurd hx (by simp)) (.old (.bl _))
theorem vb_one {k : Bool} {e : Expr} {f : En → R OV} {q pa m m' : Bool} {pos : Pos} (h : PE X e (tE X.K er W f q m' pa)) : PE X (.BoolOp (bopB k) [e] pos) (tE X.K er W (vB (tst f)) q m false) := by
  refine PE.imp (pe_one h) fun σ H Q hq => ?_
  have z := c_tst (m := m') (path := pa) (c_vB hq)
  obtain ⟨T, ρ, own, r, p, e, aft⟩ := z
  refine ⟨T, ρ, own, r, p, e, ?_⟩
  obtain ⟨r, ρ'⟩ := r
  cases r with
  | error c => exact aft
  | ok b =>
    intro v H1 own1 tv p1 v1
    obtain ⟨k, rfl, w⟩ := aft v H1 own1 tv p1 v1
    exact w
theorem vb_more {k : Bool} {e e' : Expr} {es : List Expr} {f : En → R OV} {g : En → R Bool} {qf qg pa m m' m2 : Bool} {pos : Pos} (h : PE X e (tE X.K er W f qf m' pa)) (h2 : PE X (.BoolOp (bopB k) (e' :: es) pos) (tE X.K er W (vB g) qg m2 false)) :
    PE X (.BoolOp (bopB k) (e :: e' :: es) pos) (tE X.K er W (vB fun ρ => (tst f ρ).bind fun c ρ1 => if c = k then g ρ1 else R.ok c ρ1) (qf && qg) m false) := by
  have key : ∀ σ H (Q : VK), tE X.K er W (vB fun ρ => (tst f ρ).bind fun c ρ1 => if c = k then g ρ1 else R.ok c ρ1) (qf && qg) m false σ H Q →
      tE X.K er W f qf m' pa σ H (fun x H1 => ∃ c, x = .bl c ∧ if c = k then tE X.K er W (vB g) qg m2 false σ H1 Q else Q (.bl c) H1) := by
    intro σ H Q hq
    have z := c_seqT (c_vB hq)
    have z2 := c_tst (m := m') (path := pa) z
    obtain ⟨T, ρ, own, r, p, e, aft⟩ := z2
    refine ⟨T, ρ, own, r, p, e, ?_⟩
    obtain ⟨r, ρ'⟩ := r
    cases r with
    | error c => exact aft
    | ok b =>
      intro v H1 own1 tv p1 v1
      obtain ⟨c, ec, w⟩ := aft v H1 own1 tv p1 v1
      refine ⟨c, ec, ?_⟩
      split at w
      · rename_i hc
        rw [if_pos hc]
        obtain ⟨T2, ρ2, own2, r2, p2, e2, aft2⟩ := w
        obtain ⟨r2, ρ3⟩ := r2
        cases r2 with
        | error c => exact ⟨T2, ρ2, own2, (.error c, ρ3), p2, by unfold vB; rw [e2]; rfl, aft2⟩
        | ok b =>
          refine ⟨T2, ρ2, own2, (.ok (.fr (.bool b)), ρ3), p2, by unfold vB; rw [e2]; rfl, ?_⟩
          intro v H3 own3 tv3 p3 v3
          obtain ⟨as, hv⟩ := v3.or
          have ev := hv.bl
          subst ev
          exact aft2 H3 own3 (p3.sub (List.nil_sublist _))
      · rename_i hc
        rw [if_neg hc]
        exact w
  cases k with
  | true =>
    refine PE.imp (pe_and h h2) fun σ H Q hq => ?_
    obtain ⟨T, ρ, own, r, p, e, aft⟩ := key σ H Q hq
    refine ⟨T, ρ, own, r, p, e, ?_⟩
    obtain ⟨r, ρ'⟩ := r
    cases r with
    | error c => exact aft
    | ok b =>
      intro v H1 own1 tv p1 v1
      obtain ⟨c, ec, w⟩ := aft v H1 own1 tv p1 v1
      refine ⟨c, ec, ?_⟩
      cases c with
      | true => exact w
      | false => exact w
  | false =>
    refine PE.imp (pe_or h h2) fun σ H Q hq => ?_
    obtain ⟨T, ρ, own, r, p, e, aft⟩ := key σ H Q hq
    refine ⟨T, ρ, own, r, p, e, ?_⟩
    obtain ⟨r, ρ'⟩ := r
    cases r with
    | error c => exact aft
    | ok b =>
      intro v H1 own1 tv p1 v1
      obtain ⟨c, ec, w⟩ := aft v H1 own1 tv p1 v1
      refine ⟨c, ec, ?_⟩
      cases c with
      | true => exact w
      | false => exact w

/-! ### chains -/
def chO (o1 o2 : Cop) (a b : Ex) (fa fb fc : En → R OV) (qb qc : Bool) : En → R OV := fun ρ => (fa ρ).bind fun x ρ1 => (fb ρ1).bind fun y ρ2 => if okAl a x qb then
      match cmpD o1 x.fz y.fz with
      | none => none
      | some false => R.ok (.fr (.bool false)) ρ2
      | some true => (fc ρ2).bind fun z ρ3 => if okAl b y qc then R.of (bopO o2 y z) ρ3 else none
    else none
theorem c_chain {o1 o2 : Cop} {a b : Ex} {fa fb fc : En → R OV} {qa qb qc m pc : Bool} {σ : L2.St} {H : Hp} {Q : VK} (h : tE X.K er W (chO o1 o2 a b fa fb fc qb qc) (qa && qb && qc) m false σ H Q) :
    tChain (rCmp X.K o1) (rCmp X.K o2) (tE X.K er W fa qa true (isPath a)) (tE X.K er W fb qb true (isPath b)) (tE X.K er W fc qc true pc) σ H Q := by
  obtain ⟨T, ρ, own, r, p, e, aft⟩ := h
  refine first p e aft.err fun x ρ1 e1 v H1 own1 tv1 p1 v1 => ?_
  have pr := p1.pre p v1.there
  refine first pr e1 (lifts p1 aft.err) fun y ρ2 e2 w H2 own2 tv2 p2 v2 => ?_
  split at e2
  · rename_i hq
    obtain ⟨as, hx⟩ := v1.next p1 pr hq p2
    obtain ⟨bs, hy⟩ := v2.or
    have ps := p1.seq p2
    have ht : ∀ x ∈ tv2 ++ tv1, H2 x ≠ none := fun x hx => by
      rcases List.mem_append.mp hx with hx | hx
      · exact v2.there x hx
      · exact p2.ext.live x (v1.there x hx)
    cases hc : cmpD o1 x.fz y.fz with
    | none => rw [hc] at e2; cases e2
    | some k =>
      rw [hc] at e2
      refine ⟨_, _, k, hx.full, hy.full, hc, k, rfl, ?_⟩
      cases k with
      | false =>
        have e3 := ok_some e2
        subst e3
        rw [if_neg Bool.false_ne_true]
        exact aft.fin p (ps.quiet fun z => by simp only [Bool.and_eq_true] at z ⊢; exact z.1) ht (.old (.bl _))
      | true =>
        rw [if_pos rfl]
        have e2 : ((fc ρ2).bind fun z ρ3 => if okAl b y qc then R.of (bopO o2 y z) ρ3 else none) = some r := e2
        have pr2 := p2.pre pr v2.there
        refine first pr2 e2 (lifts p2 (lifts p1 aft.err)) fun z ρ3 e3 u H3 own3 tv3 p3 v3 => ?_
        split at e3
        · rename_i hq2
          obtain ⟨z', ez, e4⟩ := of_some e3
          subst e4
          obtain ⟨as2, hy2⟩ := v2.next p2 pr2 hq2 p3
          obtain ⟨cs, hz⟩ := v3.or
          unfold bopO at ez
          cases hc2 : cmpD o2 y.fz z.fz with
          | none => rw [hc2] at ez; cases ez
          | some k2 =>
            rw [hc2] at ez
            cases ez
            refine ⟨_, _, k2, hy2.full, hz.full, hc2, ?_⟩
            have ps2 := p1.seq (p2.seq p3)
            refine aft.fin p (ps2.quiet fun z => by simp only [Bool.and_eq_true] at z ⊢; exact ⟨z.1.1, z.1.2, z.2⟩) (fun x hx => ?_) (.old (.bl _))
            rcases List.mem_append.mp hx with hx | hx
            · rcases List.mem_append.mp hx with hx | hx
              · exact v3.there x hx
              · exact p3.ext.live x (v2.there x hx)
            · exact p3.ext.live x (p2.ext.live x (v1.there x hx))
        · cases e3
  · cases e2
theorem e_chain {o1 o2 : Cop} {a b : Ex} {ea eb ec : Expr} {fa fb fc : En → R OV} {qa qb qc m pc : Bool} {pos : Pos} (hu : X.A.units + 66 < cLine) (hm : lastMarks [copE o1, copE o2] [eb, ec] = false)
    (ha : PE X ea (tE X.K er W fa qa true (isPath a))) (hb : PE X eb (tE X.K er W fb qb true (isPath b))) (hc : PE X ec (tE X.K er W fc qc true pc)) :
    PE X (.Compare ea [copE o1, copE o2] [eb, ec] pos) (tE X.K er W (chO o1 o2 a b fa fb fc qb qc) (qa && qb && qc) m false) :=
  PE.imp (pe_chain (op_cmp X hu o1) (op_cmp X hu o2) ha hb hc hm) fun σ H Q h => c_chain h
theorem t_chain {o1 o2 : Cop} {a b : Ex} {ea eb ec : Expr} {fa fb fc : En → R OV} {qa qb qc pc : Bool} {pos : Pos} (hu : X.A.units + 66 < cLine) (hm : lastMarks [copE o1, copE o2] [eb, ec] = false)
    (ha : PE X ea (tE X.K er W fa qa true (isPath a))) (hb : PE X eb (tE X.K er W fb qb true (isPath b))) (hc : PE X ec (tE X.K er W fc qc true pc)) :
    PT X (.Compare ea [copE o1, copE o2] [eb, ec] pos) (tT X.K er W (tst (chO o1 o2 a b fa fb fc qb qc)) (qa && qb && qc)) :=
  PT.imp (pt_chain (op_cmp X hu o1) (op_cmp X hu o2) ha hb hc hm) fun σ H Q h => c_chain (m := true) (c_tst h)
theorem lastMarks_ok {o1 o2 : CmpOp} {b c : Expr} (h : ∀ es k p, c ≠ .Set es k p) : lastMarks [o1, o2] [b, c] = false := by
  show behindInMarks o2 c = false
  exact behind h

/-! ### calls of built-ins -/
theorem c_blt1 {b : Blt} {fa : En → R OV} {qa m pa : Bool} {σ : L2.St} {H : Hp} {Q : VK} (h : tE X.K er W (fun ρ => (fa ρ).bind fun x ρ1 => R.of (bltO b [x]) ρ1) qa m false σ H Q) :
    tCB (rBlt X.K b) (tCons (tE X.K er W fa qa true pa) tNil) σ H Q := by
  obtain ⟨T, ρ, own, r, p, e, aft⟩ := h
  refine first p e aft.err fun x ρ1 e1 v H1 own1 tv1 p1 v1 => ?_
  obtain ⟨z, ez, e2⟩ := of_some e1
  subst e2
  obtain ⟨as, hx⟩ := v1.or
  exact ⟨_, [x], z, as ++ [], p1.alive p v1.there, .cons hx .nil, ez, fun u H2 tz n => aft.fin p p1 v1.there n⟩
theorem c_bltN {b : Blt} {fs : En → R (List OV)} {q m : Bool} {σ : L2.St} {H : Hp} {Q : VK} (h : tE X.K er W (fun ρ => (fs ρ).bind fun xs ρ1 => R.of (bltO b xs) ρ1) q m false σ H Q) :
    tCB (rBlt X.K b) (tA X.K er W fs q) σ H Q := by
  obtain ⟨T, ρ, own, r, p, e, aft⟩ := h
  refine firstA p e aft.err fun xs ρ1 e1 vs H1 own1 tv1 p1 v1 => ?_
  obtain ⟨z, ez, e2⟩ := of_some e1
  subst e2
  exact ⟨_, xs, z, tv1, p1.alive p v1.thereN, v1, ez, fun u H2 tz n => aft.fin p p1 v1.thereN n⟩

/-! ### isinstance -/
def tyN : OV → String
  | .fr .none => "NoneType"
  | .fr (.bool _) => "bool"
  | .fr (.int _) => "int"
  | .fr (.str _) => "str"
  | .fr (.list _) => "list"
  | .fr (.tuple _) => "tuple"
  | .fr (.dict _) => "dict"
  | .lst _ => "list"
  | .tup _ => "tuple"
  | .dct _ _ => "dict"
theorem tyX {K : PySem.W.Frag} {H : Hp} {P : OP} {v : V} {x : OV} {as : List Addr} (h : OR K H P v x as) : TyX K H v (.type (tyN x)) := by
  cases h with
  | fr h =>
    cases h with
    | non => exact .base .non
    | bl b => exact .base (.bl b)
    | int i => exact .base (.int i)
    | str x => exact .base (.str x)
    | lst h1 h2 =>
      rcases (rdSub h1) with h | ⟨o, h⟩
      · exact .base (.lst h)
      · exact .base (.frz h)
    | tup h1 h2 =>
      rcases (rdSub h1) with h | ⟨o, h⟩
      · exact .base (.tup h)
      · exact .fTuple h
    | dK h1 h2 => exact .base (.dK (mask_some.mp h1).2)
    | dT h1 h2 => exact .base (.dT (mask_some.mp h1).2)
  | lst h1 h2 => exact .base (.lst h1)
  | tup h1 hn h2 => exact .base (.tup h1)
  | dK h1 h2 => exact .base (.dK h1)
  | dT h1 h2 => exact .base (.dT h1)
/-- the classes that a test of kinds names -/
def isiN : Blt → Option String
  | .isInt => some "int"
  | .isBool => some "bool"
  | .isStr => some "str"
  | .isTuple => some "tuple"
  | .isList => some "list"
  | _ => none
theorem isi_val {b : Blt} {n : String} (h : isiN b = some n) (x : OV) : ∃ k, kitB (tyN x) n = some k ∧ bltO b [x] = some (.fr (.bool k)) := by
  cases b <;> try (cases h; done)
  all_goals
    cases h
    cases x with
    | fr d => cases d <;> exact ⟨_, by dsimp only [tyN, isTup, isLst]; decide +kernel, rfl⟩
    | lst xs => exact ⟨_, by dsimp only [tyN, isTup, isLst]; decide +kernel, rfl⟩
    | tup xs => exact ⟨_, by dsimp only [tyN, isTup, isLst]; decide +kernel, rfl⟩
    | dct t l => exact ⟨_, by dsimp only [tyN, isTup, isLst]; decide +kernel, rfl⟩
theorem c_isi {b : Blt} {n : String} (hn : isiN b = some n) {fa : En → R OV} {qa m pa : Bool} {σ : L2.St} {H : Hp} {Q : VK} (h : tE X.K er W (fun ρ => (fa ρ).bind fun x ρ1 => R.of (bltO b [x]) ρ1) qa m false σ H Q) :
    tCB (rIsi X.K) (tCons (tE X.K er W fa qa true pa) (tCons (tC (.ty n)) tNil)) σ H Q := by
  obtain ⟨T, ρ, own, r, p, e, aft⟩ := h
  refine first p e aft.err fun x ρ1 e1 v H1 own1 tv1 p1 v1 => ?_
  obtain ⟨z, ez, e2⟩ := of_some e1
  subst e2
  obtain ⟨as, hx⟩ := v1.or
  obtain ⟨k, hk, hz⟩ := isi_val hn x
  rw [hz] at ez
  cases ez
  exact ⟨v, .ty n, .type (tyN x), .type n, k, rfl, .ty n, tyX hx, kit_ty hk, aft.fin p p1 v1.there (.old (.bl _))⟩
theorem isi2_val (x : OV) : ∃ k1 k2, kitB (tyN x) "tuple" = some k1 ∧ kitB (tyN x) "list" = some k2 ∧ bltO .isTupleList [x] = some (.fr (.bool (k1 || k2))) := by
  cases x with
  | fr d => cases d <;> exact ⟨_, _, by dsimp only [tyN, isTup, isLst]; decide +kernel, by dsimp only [tyN, isTup, isLst]; decide +kernel, rfl⟩
  | lst xs => exact ⟨_, _, by dsimp only [tyN, isTup, isLst]; decide +kernel, by dsimp only [tyN, isTup, isLst]; decide +kernel, rfl⟩
  | tup xs => exact ⟨_, _, by dsimp only [tyN, isTup, isLst]; decide +kernel, by dsimp only [tyN, isTup, isLst]; decide +kernel, rfl⟩
  | dct t l => exact ⟨_, _, by dsimp only [tyN, isTup, isLst]; decide +kernel, by dsimp only [tyN, isTup, isLst]; decide +kernel, rfl⟩
theorem c_isi2 {fa : En → R OV} {qa m pa : Bool} {σ : L2.St} {H : Hp} {Q : VK} (h : tE X.K er W (fun ρ => (fa ρ).bind fun x ρ1 => R.of (bltO .isTupleList [x]) ρ1) qa m false σ H Q) :
    tCB (rIsiT X.K) (tCons (tE X.K er W fa qa true pa) (tCons (tTup (tCons (tC (.ty "tuple")) (tCons (tC (.ty "list")) tNil))) tNil)) σ H Q := by
  obtain ⟨T, ρ, own, r, p, e, aft⟩ := h
  refine first p e aft.err fun x ρ1 e1 v H1 own1 tv1 p1 v1 => ?_
  obtain ⟨z, ez, e2⟩ := of_some e1
  subst e2
  obtain ⟨as, hx⟩ := v1.or
  obtain ⟨k1, k2, hk1, hk2, hz⟩ := isi2_val x
  rw [hz] at ez
  cases ez
  refine ⟨by show 2 ≤ sizeLine; rw [sizeLine_eq]; decide, fun tp htp => ?_⟩
  have ty := tyX hx
  have p2 := p1.newF (o := .tup [.ty "tuple", .ty "list"]) htp
  have ty2 : TyX X.K (upd H1 tp (.tup [.ty "tuple", .ty "list"])) v (.type (tyN x)) := by
    refine tyX (hx.tr (P' := Own T (own1 ++ tv1)) (fun b u h e => ⟨h, by rw [upd_ne (ne_of_none e htp)]; exact e⟩) fun b hb x e => by rw [upd_ne (ne_of_none e htp)]; exact e)
  refine ⟨v, tp, [.ty "tuple", .ty "list"], .type (tyN x), [.type "tuple", .type "list"], k1 || k2, rfl, upd_same, .cons (.ty _) (.cons (.ty _) .nil), ty2, ?_, ?_⟩
  · refine kitAny_cons (kit_ty hk1) (fun e => ?_) (fun e => by rw [e]; rfl)
    refine kitAny_cons (kit_ty hk2) (fun e2 => ?_) (fun e2 => by rw [e2, Bool.or_true])
    rw [e, e2]
    rfl
  · exact aft.fin p p2 (fun x hx => by
      have := v1.there x hx
      by_cases e : x = tp
      · rw [e, upd_same]; simp
      · rw [upd_ne e]; exact this) (.old (.bl _))
end
end DP

set_option Elab.async false
set_option linter.all false
set_option autoImplicit false
set_option maxRecDepth 100000
set_option maxHeartbeats 1000000
/-! DP, part J: slices, methods. -/
namespace DP
open PySem PySem.Spec PyProof.Rows L2
section
variable {X : Cx} {er : Nat → Value} {W : WX} {cf : CF}

/-! ### slices -/
def AftO (K : PySem.W.Frag) (er : Nat → Value) (W : WX) (T : OP) (σ : L2.St) (H : Hp) (own : List Addr) (q : Bool) (Q : Option Int → Hp → Prop) : Except Nat (List OV) × En → Prop
  | (.ok xs, ρ') => ∃ o, optO xs = some o ∧ ∀ H' own', Post K (tbE er) T σ H own q H' ρ' own' [] → Q o H'
  | (.error c, ρ') => AftX K er W T σ H own c ρ'
/-- an end of a slice -/
def tO (K : PySem.W.Frag) (er : Nat → Value) (W : WX) (f : En → R (List OV)) (q : Bool) : TO := fun σ H Q => ∃ T ρ own r, Pre K (tbE er) T H σ ρ own ∧ f ρ = some r ∧ AftO K er W T σ H own q Q r
theorem PO.imp {X : Cx} {e : Option Expr} {t t' : TO} (h : L2.PO X e t) (i : ∀ σ H Q, t' σ H Q → t σ H Q) : L2.PO X e t' := ⟨fun pins s σ H Q I q => h.run pins s σ H Q I (i σ H Q q)⟩
theorem o_none : L2.PO X none (tO X.K er W (fun ρ => R.ok [] ρ) true) := by
  refine PO.imp po_none fun σ H Q h => ?_
  obtain ⟨T, ρ, own, r, p, e, aft⟩ := h
  have e' := ok_some e
  subst e'
  obtain ⟨o, eo, h⟩ := aft
  cases eo
  exact h H own p.post
theorem o_some {e : Expr} {f : En → R OV} {q pe : Bool} (h : PE X e (tE X.K er W f q false pe)) :
    L2.PO X (some e) (tO X.K er W (fun ρ => (f ρ).bind fun x ρ1 => (R.ok [] ρ1).bind fun xs ρ2 => R.ok (x :: xs) ρ2) (q && true)) := by
  refine PO.imp (po_some h) fun σ H Q h => ?_
  obtain ⟨T, ρ, own, r, p, e, aft⟩ := h
  have hx : ∀ c ρ', r = (.error c, ρ') → AftX X.K er W T σ H own c ρ' := fun c ρ' e => by
    subst e
    exact aft
  refine first p e hx fun x ρ1 e1 v H1 own1 tv1 p1 v1 => ?_
  have e2 : r = (.ok [x], ρ1) := ok_some e1
  subst e2
  obtain ⟨o, eo, h⟩ := aft
  unfold optO at eo
  split at eo
  · rename_i hh
    cases hh
  · rename_i i hh
    cases eo
    cases hh
    have hv := v1.sep.int
    exact ⟨i, hv, h H1 own1 ((p1.sub (List.nil_sublist _)).quiet fun z => by simpa using z)⟩
  · cases eo
theorem RDs.cut {K : PySem.W.Frag} {F : Hp} {vs : List V} {ds : List PyData} (r : RDs K F vs ds) (lo hi : Option Int) : RDs K F (cutV vs lo hi) (cutD ds lo hi) := by
  unfold cutV cutD
  rw [r.length]
  exact (r.drop _).take _
theorem cutD_whole {α : Type} {xs : List α} {lo hi : Option Int} (h : HT.sIx xs.length 0 lo = 0 ∧ HT.sIx xs.length xs.length hi = xs.length) : cutD xs lo hi = xs := by
  unfold cutD
  rw [h.1, h.2, Nat.sub_zero, List.drop_zero]
  exact List.take_of_length_le (Nat.le_refl _)
theorem e_slc {a : Ex} {ea : Expr} {elo ehi : Option Expr} {fa : En → R OV} {fl fh : En → R (List OV)} {qa ql qh m : Bool} {p2 pos : Pos} (ha : PE X ea (tE X.K er W fa qa true (isPath a))) (hl : L2.PO X elo (tO X.K er W fl ql)) (hh : L2.PO X ehi (tO X.K er W fh qh)) :
    PE X (.Subscript ea (.Slice elo ehi none p2) pos) (tE X.K er W (fun ρ => (fa ρ).bind fun x ρ1 => (fl ρ1).bind fun ys ρ2 => match optO ys with
    | none => none
    | some l => (fh ρ2).bind fun zs ρ3 => match optO zs with
      | none => none
      | some h => if okAl a x (ql && qh) then R.of (slcO x l h) ρ3 else none) (qa && ql && qh) m false) := by
  refine PE.imp (pe_slice (sl_list.or (sl_tupA.or C8.sl_txt)) ha hl hh) fun σ H Q h => ?_
  obtain ⟨T, ρ, own, r, p, e, aft⟩ := h
  refine first p e aft.err fun x ρ1 e1 v H1 own1 tv1 p1 v1 => ?_
  have pr := p1.pre p v1.there
  rcases bind_some e1 with ⟨c, ρ2, f1, f2⟩ | ⟨ys, ρ2, f1, f2⟩
  · exact ⟨_, ρ1, own1, _, pr, f1, lifts p1 aft.err c ρ2 f2⟩
  refine ⟨_, ρ1, own1, _, pr, f1, ?_⟩
  cases hy : optO ys with
  | none => rw [hy] at f2; cases f2
  | some lo =>
    rw [hy] at f2
    refine ⟨lo, hy, fun H2 own2 p2 => ?_⟩
    have f2 : ((fh ρ2).bind fun zs ρ3 => match optO zs with
      | none => none
      | some h => if okAl a x (ql && qh) then R.of (slcO x lo h) ρ3 else none) = some r := f2
    have pr2 := p2.pre pr (fun x hx => absurd hx (by simp))
    rcases bind_some f2 with ⟨c, ρ3, g1, g2⟩ | ⟨zs, ρ3, g1, g2⟩
    · exact ⟨_, ρ2, own2, _, pr2, g1, lifts p2 (lifts p1 aft.err) c ρ3 g2⟩
    refine ⟨_, ρ2, own2, _, pr2, g1, ?_⟩
    cases hz : optO zs with
    | none => rw [hz] at g2; cases g2
    | some hi =>
      rw [hz] at g2
      refine ⟨hi, hz, fun H3 own3 p3 => ?_⟩
      dsimp only at g2
      split at g2
      · rename_i hq
        obtain ⟨z, ez, e4⟩ := of_some g2
        subst e4
        -- both ends behind the first operand
        have p23 := p2.seq p3
        have e0 : ([] : List Addr) ++ [] = [] := rfl
        rw [e0] at p23
        obtain ⟨as, hx⟩ := v1.next p1 pr hq p23
        have ps := p1.seq p23
        have ht : ∀ x ∈ [] ++ tv1, H3 x ≠ none := fun x hx => by
          rw [List.nil_append] at hx
          exact p23.ext.live x (v1.there x hx)
        have fin : ∀ u H' tz, NewV X.K H3 (Own (Own T tv1) (own3 ++ [])) u z H' tz → Q u H' := fun u H' tz n => by
          rw [← own_app, List.append_assoc] at n
          exact aft.fin p (ps.quiet fun z => by simp only [Bool.and_eq_true] at z ⊢; exact ⟨z.1.1, z.1.2, z.2⟩) ht n
        have al := p23.alive pr (fun x hx => absurd hx (by simp))
        unfold slcO at ez
        split at ez
        · cases ez
          cases hx with
          | fr hx =>
            obtain ⟨ad, vs, rfl, hr, rr⟩ := hx.tup_inv
            refine .inr (.inl ⟨ad, vs, rfl, .inl (rdSub hr), fun hw => fin _ _ [] ?_, fun _ q hq => fin _ _ _ (.tuple al hq (rr.cut _ _))⟩)
            rw [rr.length] at hw
            rw [cutD_whole hw]
            exact .old (.tup hr rr)
        · split at ez
          · rename_i hs
            cases ez
            have e := hx.str
            subst e
            exact .inr (.inr ⟨_, rfl, Nat.le_trans (small_le hs) (by have := sizeLine_big; omega), fin _ _ _ (.old (.str _))⟩)
          · cases ez
        · split at ez
          · rename_i ds he
            cases ez
            obtain ⟨ad, vs, rfl, hr, rr⟩ := lstO_at hx he
            exact .inl ⟨ad, vs, rfl, .inl hr, fun q hq => fin _ _ _ (.list hq (rr.cut _ _))⟩
          · cases ez
      · cases g2

/-! ### methods of texts -/
theorem c_meth {m : Mth} {o : Ex} {fo fa : En → R OV} {qo qa mm po pa : Bool} {rr : V → List V → Hp → VK → Prop} (hm : ∀ x, mthOk m x = true → ∃ z, x = .fr (.str z))
    (hr : ∀ (P : OP) (H : Hp) (v w : V) (x y z : OV) (as bs : List Addr) (Q : VK), (∀ a, P a → H a ≠ none) → OR X.K H P v x as → OR X.K H P w y bs → mthO m x [y.fz] = some z → (∀ u H' tz, NewV X.K H P u z H' tz → Q u H') → rr v [w] H Q)
    {σ : L2.St} {H : Hp} {Q : VK} (h : tE X.K er W (fun ρ => (fo ρ).bind fun x ρ1 => if mthOk m x then ((fa ρ1).bind fun y ρ2 => (R.ok [] ρ2).bind fun ys ρ2 => R.ok (y :: ys) ρ2).bind fun ys ρ2 => if okAl o x (qa && true) then R.of (mthO m x (OV.fzs ys)) ρ2 else none
      else none) (qo && (qa && true)) mm false σ H Q) : tM1 rr (tE X.K er W fo qo true (isPath o)) (tE X.K er W fa qa false pa) σ H Q := by
  obtain ⟨T, ρ, own, r, p, e, aft⟩ := h
  refine first p e aft.err fun x ρ1 e1 v H1 own1 tv1 p1 v1 => ?_
  have pr := p1.pre p v1.there
  split at e1
  · rename_i hx
    obtain ⟨z, rfl⟩ := hm x hx
    obtain ⟨as0, hx0⟩ := v1.or
    refine ⟨⟨z, hx0.str⟩, ?_⟩
    rcases bind_some e1 with ⟨c, ρ2, f1, f2⟩ | ⟨ys, ρ2, f1, f2⟩
    · rcases bind_some f1 with ⟨c', ρ3, g1, g2⟩ | ⟨y, ρ3, g1, g2⟩
      · cases g2
        exact ⟨_, ρ1, own1, _, pr, g1, lifts p1 aft.err c ρ2 f2⟩
      · cases g2
    · rcases bind_some f1 with ⟨c', ρ3, g1, g2⟩ | ⟨y, ρ3, g1, g2⟩
      · cases g2
      · refine ⟨_, ρ1, own1, _, pr, g1, fun w H2 own2 tv2 p2 v2 => ?_⟩
        have e3 : (Except.ok ys, ρ2) = (Except.ok [y], ρ3) := ok_some g2
        cases e3
        split at f2
        · rename_i hq
          obtain ⟨z', ez, e4⟩ := of_some f2
          subst e4
          have hv : OR X.K H1 (Own T (own1 ++ tv1)) v (.fr (.str z)) tv1 := by
            rcases v1 with ⟨h1, _⟩ | ⟨_, _, h2, _⟩
            · exact h1
            · cases h2
          rw [own_app] at hv
          have hx2 := OR.held pr hv p2 fun x hx => .inr hx
          obtain ⟨bs, hy⟩ := v2.or
          refine hr _ H2 v w _ y z' tv1 bs Q (p2.alive pr v2.there) hx2 hy ez fun u H3 tz n => ?_
          rw [← own_app, List.append_assoc] at n
          refine aft.fin p ((p1.seq p2).quiet fun z => by simpa using z) (fun x hx => ?_) n
          rcases List.mem_append.mp hx with hx | hx
          · exact v2.there x hx
          · exact p2.ext.live x (v1.there x hx)
        · cases f2
  · cases e1
theorem strO {x : OV} (h : ((strD x.fz).isSome && x.isFr) = true) : ∃ z, x = .fr (.str z) := by
  rw [Bool.and_eq_true] at h
  cases x with
  | fr d =>
    cases d with
    | str z => exact ⟨z, rfl⟩
    | _ => cases h.1
  | _ => cases h.2
theorem mth_split {P : OP} {H : Hp} {v w : V} {x y z : OV} {as bs : List Addr} {Q : VK} (al : ∀ a, P a → H a ≠ none) (hx : OR X.K H P v x as) (hy : OR X.K H P w y bs) (hz : mthO .split x [y.fz] = some z) (q : ∀ u H' tz, NewV X.K H P u z H' tz → Q u H') :
    ∃ a b, v = .str a ∧ [w] = [V.str b] ∧ (b.length == 0) = false ∧ a.length + 2 ≤ sizeLine ∧ rNewStrs (Txt.split a b) H Q := by
  dsimp only [mthO] at hz
  split at hz
  · rename_i a b hb
    split at hz
    · rename_i hs
      cases hz
      rw [Bool.and_eq_true, decide_eq_true_eq] at hs
      have e := hx.str
      have e2 : [y.fz] = [PyData.str b] := hb
      have hyf := hy.full
      rw [List.cons.inj e2 |>.1] at hyf
      have hb' := sizeLine_big
      have hsm := small_le hs.2
      refine ⟨a, b, e, by rw [hyf.str_inv], beq_eq_false_iff_ne.mpr hs.1, by show a.cps.size + 2 ≤ sizeLine; omega, fun p hp => q _ _ _ (.list hp ?_)⟩
      generalize Txt.split a b = l
      induction l with
      | nil => exact .nil
      | cons x l ih => exact .cons (.str x) ih
    · cases hz
  · cases hz
theorem mth_partition {P : OP} {H : Hp} {v w : V} {x y z : OV} {as bs : List Addr} {Q : VK} (al : ∀ a, P a → H a ≠ none) (hx : OR X.K H P v x as) (hy : OR X.K H P w y bs) (hz : mthO .partition x [y.fz] = some z) (q : ∀ u H' tz, NewV X.K H P u z H' tz → Q u H') :
    ∃ a b, v = .str a ∧ [w] = [V.str b] ∧ (b.length == 0) = false ∧ a.length ≤ sizeLine ∧ ∀ p, H p = none → Q (.ref p) (upd H p (.tup [.str (Txt.partition a b).1, .str (Txt.partition a b).2.1, .str (Txt.partition a b).2.2])) := by
  dsimp only [mthO] at hz
  split at hz
  · rename_i a b hb
    split at hz
    · rename_i hs
      cases hz
      rw [Bool.and_eq_true, decide_eq_true_eq] at hs
      have e := hx.str
      have e2 : [y.fz] = [PyData.str b] := hb
      have hyf := hy.full
      rw [List.cons.inj e2 |>.1] at hyf
      have hb' := sizeLine_big
      have hsm := small_le hs.2
      exact ⟨a, b, e, by rw [hyf.str_inv], beq_eq_false_iff_ne.mpr hs.1, by show a.cps.size ≤ sizeLine; omega, fun p hp => q _ _ _ (.tuple al hp (.cons (.str _) (.cons (.str _) (.cons (.str _) .nil))))⟩
    · cases hz
  · cases hz
theorem mth_join {P : OP} {H : Hp} {v w : V} {x y z : OV} {as bs : List Addr} {Q : VK} (al : ∀ a, P a → H a ≠ none) (hx : OR X.K H P v x as) (hy : OR X.K H P w y bs) (hz : mthO .join x [y.fz] = some z) (q : ∀ u H' tz, NewV X.K H P u z H' tz → Q u H') :
    ∃ a p, ∃ ys : List Str, v = .str a ∧ [w] = [V.ref p] ∧ (SqL X.K H p (ys.map V.str) ∨ SqT X.K H p (ys.map V.str)) ∧ (ys.map (·.length)).sum + ys.length * a.length ≤ 16777216 ∧ Q (.str (Txt.join a ys)) H := by
  dsimp only [mthO] at hz
  split at hz
  · rename_i a ds hb
    split at hz
    · rename_i ys hst
      split at hz
      · rename_i hs
        cases hz
        have e := hx.str
        have e2 : [y.fz] = [PyData.list ds] := hb
        have hyf := hy.full
        rw [List.cons.inj e2 |>.1] at hyf
        obtain ⟨p, vs, rfl, hr, rr⟩ := hyf.lst_inv
        have ev := rr.strs hst
        subst ev
        have hsm := small_le hs
        exact ⟨a, p, ys, e, rfl, .inl (.inl hr), by omega, q _ _ _ (.old (.str _))⟩
      · cases hz
    · cases hz
  · cases hz
end
end DP

set_option Elab.async false
set_option linter.all false
set_option autoImplicit false
set_option maxRecDepth 100000
set_option maxHeartbeats 1000000
/-! DP, part K: objects of one's own, changed. -/
namespace DP
open PySem PySem.Spec PyProof.Rows L2

def noSuper : Expr → Bool
  | .Call (.Name _ _) [] [] _ => false
  | _ => true
theorem base_ok {o : Expr} (h : noSuper o = true) (attr : Str) (env : PySem.Env) (w : Sem Value) : attributeBase o attr env w = w := by
  unfold attributeBase
  split
  · cases h
  · rfl

/-- the value at the places ks within the value v -/
inductive PV (H : Hp) : V → List Int → V → Prop
  | nil {v : V} : PV H v [] v
  | cons {a : Addr} {vs : List V} {k : Int} {u v : V} {ks : List Int} : H a = some (.lst vs) → atI vs k = some u → PV H u ks v → PV H (.ref a) (k :: ks) v
theorem PV.same {H H' : Hp} (s : Same H H') : ∀ {v u : V} {ks : List Int}, PV H v ks u → PV H' v ks u
  | _, _, _, .nil => .nil
  | _, _, _, .cons h1 h2 h3 => .cons (s _ _ h1) h2 (PV.same s h3)
theorem PV.snoc {H : Hp} {a : Addr} {vs : List V} {k : Int} {w : V} : ∀ {v : V} {ks : List Int}, PV H v ks (.ref a) → H a = some (.lst vs) → atI vs k = some w → PV H v (ks ++ [k]) w
  | _, _, .nil, h1, h2 => .cons h1 h2 .nil
  | _, _, .cons h3 h4 h5, h1, h2 => .cons h3 h4 (PV.snoc h5 h1 h2)
section
variable {K : PySem.W.Frag} {H : Hp} {P : OP}
/-- a row, one item taken out -/
theorem ORs.split : ∀ {vs : List V} {os : List OV} {as : List Addr} {j : Nat} {o : OV}, ORs K H P vs os as → os[j]? = some o →
    ∃ v a0 rest, vs[j]? = some v ∧ OR K H P v o a0 ∧ as.Perm (a0 ++ rest) ∧ ∀ (H' : Hp) (P' : OP) (o' : OV) (a0' : List Addr), Tr P H P' H' → (∀ b ∈ rest, ∀ u, H b = some u → H' b = some u) → OR K H' P' v o' a0' →
      ∃ as', as'.Perm (a0' ++ rest) ∧ ORs K H' P' vs (os.set j o') as'
  | _, _, _, _, _, .nil, h => by simp at h
  | _, _, _, 0, _, .cons (v := v) (as := as) (bs := bs) r t, h => by
    simp at h
    subst h
    refine ⟨v, as, bs, rfl, r, .refl _, fun H' P' o' a0' tr k q => ⟨a0' ++ bs, .refl _, .cons q (t.tr tr k)⟩⟩
  | _, _, _, j + 1, _, .cons (as := as) r t, h => by
    obtain ⟨v, a0, rest, h1, h2, h3, h4⟩ := ORs.split (j := j) t (by simpa using h)
    refine ⟨v, a0, as ++ rest, by simpa using h1, h2, ?_, fun H' P' o' a0' tr k q => ?_⟩
    · exact (h3.append_left as).trans (by rw [← List.append_assoc, ← List.append_assoc]; exact (List.perm_append_comm).append_right _)
    · obtain ⟨as', p', t'⟩ := h4 H' P' o' a0' tr (fun b hb => k b (List.mem_append_right _ hb)) q
      refine ⟨as ++ as', ?_, .cons (r.tr tr fun b hb => k b (List.mem_append_left _ hb)) t'⟩
      exact (p'.append_left as).trans (by rw [← List.append_assoc, ← List.append_assoc]; exact (List.perm_append_comm).append_right _)
/-- the object at a path, to be put anew -/
theorem OR.path : ∀ (ks : List Int) {v0 v : V} {o x : OV} {as : List Addr}, OR K H P v0 o as → rdP o ks = some x → PV H v0 ks v →
    ∃ a0 rest, as.Perm (a0 ++ rest) ∧ OR K H P v x a0 ∧ ∀ (H' : Hp) (P' : OP) (x' : OV) (a0' : List Addr), Tr P H P' H' → (∀ b ∈ rest, ∀ u, H b = some u → H' b = some u) → OR K H' P' v x' a0' →
      ∃ o' as', wrP o ks x' = some o' ∧ as'.Perm (a0' ++ rest) ∧ OR K H' P' v0 o' as'
  | [], v0, v, o, x, as, h, hr, hp => by
    have hp' : v = v0 := by cases hp; rfl
    subst hp'
    have e : o = x := by
      cases o <;> exact Option.some.inj hr
    subst e
    refine ⟨as, [], by rw [List.append_nil], h, fun H' P' x' a0' tr k q => ⟨x', a0', ?_, by rw [List.append_nil], q⟩⟩
    cases o <;> rfl
  | k :: ks, v0, v, o, x, as, h, hr, hp => by
    cases hp with
    | @cons a vs _ u _ _ h1 h2 h3 =>
      cases h with
      | @lst _ vs' xs as2 h4 h5 =>
        have ev : vs' = vs := by
          rw [h1] at h4
          cases h4
          rfl
        subst ev
        have hr : (match atI xs k with | some o => rdP o ks | none => none) = some x := hr
        cases hx : atI xs k with
        | none => rw [hx] at hr; cases hr
        | some o1 =>
          rw [hx] at hr
          have hl := h5.length
          cases hi : ixN xs.length k with
          | none =>
            unfold atI at hx
            rw [hi] at hx
            cases hx
          | some j =>
            have hxj : xs[j]? = some o1 := by
              unfold atI at hx
              rw [hi] at hx
              exact hx
            have huj : vs'[j]? = some u := by
              unfold atI at h2
              rw [hl, hi] at h2
              exact h2
            obtain ⟨v1, a0, rest, f1, f2, f3, f4⟩ := h5.split hxj
            rw [huj] at f1
            cases f1
            obtain ⟨b0, rest', g1, g2, g3⟩ := OR.path ks f2 hr h3
            refine ⟨b0, a :: (rest' ++ rest), ?_, g2, fun H' P' x' a0' tr kp q => ?_⟩
            · have e1 : as2.Perm (b0 ++ (rest' ++ rest)) := f3.trans (by rw [← List.append_assoc]; exact g1.append_right rest)
              exact (e1.cons a).trans (List.perm_middle).symm
            · obtain ⟨o1', as1', w1, w2, w3⟩ := g3 H' P' x' a0' tr (fun b hb => kp b (List.mem_cons_of_mem _ (List.mem_append_left _ hb))) q
              obtain ⟨as3, w4, w5⟩ := f4 H' P' o1' as1' tr (fun b hb => kp b (List.mem_cons_of_mem _ (List.mem_append_right _ hb))) w3
              refine ⟨.lst (xs.set j o1'), a :: as3, ?_, ?_, .lst (kp a List.mem_cons_self _ h4) w5⟩
              · show (match ixN xs.length k with
                  | some j => match xs[j]? with
                    | some o => match wrP o ks x' with
                      | some o' => some (OV.lst (xs.set j o'))
                      | none => none
                    | none => none
                  | none => none) = _
                rw [hi]
                dsimp only
                rw [hxj]
                dsimp only
                rw [w1]
              · have e1 : as3.Perm (a0' ++ (rest' ++ rest)) := w4.trans (by rw [← List.append_assoc]; exact w2.append_right rest)
                exact (e1.cons a).trans (List.perm_middle).symm
      | fr h =>
        cases hr
      | tup h4 hn h5 => cases hr
      | dK h4 h5 => cases hr
      | dT h4 h5 => cases hr
theorem rdP_snoc : ∀ (ks : List Int) {k : Int} {o z : OV}, rdP o (ks ++ [k]) = some z → ∃ xs, rdP o ks = some (.lst xs) ∧ atI xs k = some z
  | [], k, o, z, h => by
    cases o with
    | lst xs =>
      have h : (match atI xs k with | some o => rdP o [] | none => none) = some z := h
      cases hx : atI xs k with
      | none => rw [hx] at h; cases h
      | some o1 =>
        rw [hx] at h
        refine ⟨xs, rfl, ?_⟩
        rw [hx]
        cases o1 <;> exact h
    | _ => cases h
  | k' :: ks, k, o, z, h => by
    cases o with
    | lst xs =>
      have h : (match atI xs k' with | some o => rdP o (ks ++ [k]) | none => none) = some z := h
      cases hx : atI xs k' with
      | none => rw [hx] at h; cases h
      | some o1 =>
        rw [hx] at h
        obtain ⟨ys, h1, h2⟩ := rdP_snoc ks h
        refine ⟨ys, ?_, h2⟩
        show (match atI xs k' with | some o => rdP o ks | none => none) = _
        rw [hx]
        exact h1
    | _ => cases h
end

section
variable {K : PySem.W.Frag} {er : Nat → Value} {W : WX}
def AftP (K : PySem.W.Frag) (er : Nat → Value) (W : WX) (T : OP) (σ : L2.St) (H : Hp) (own : List Addr) (q : Bool) (Q : VK) : Except Nat (Nat × List Int) × En → Prop
  | (.ok (i, ks), ρ') => ∀ v v0 H' own', σ[i]? = some (some v0) → PV H' v0 ks v → Post K (tbE er) T σ H own q H' ρ' own' [] → Q v H'
  | (.error c, ρ') => AftX K er W T σ H own c ρ'
/-- a path, as a reference -/
def tP (K : PySem.W.Frag) (er : Nat → Value) (W : WX) (f : En → R (Nat × List Int)) (q : Bool) : TE := fun σ H Q => ∃ T ρ own r, Pre K (tbE er) T H σ ρ own ∧ f ρ = some r ∧ AftP K er W T σ H own q Q r
theorem AftP.err {T : OP} {σ : L2.St} {H : Hp} {own : List Addr} {q : Bool} {Q : VK} {r : Except Nat (Nat × List Int) × En} (h : AftP K er W T σ H own q Q r) : ∀ c ρ', r = (.error c, ρ') → AftX K er W T σ H own c ρ' := fun c ρ' e => by
  subst e
  exact h
end
section
variable {K : PySem.W.Frag} {tb : Option Addr} {T : OP} {σ : L2.St} {H H2 : Hp} {ρ2 : En} {own own2 ts : List Addr} {q : Bool}
/-- the list at a path gets other items -/
theorem putPath {i : Nat} {o : OV} {ks : List Int} {ys : List OV} {v v0 : V} (ps : Post K tb T σ H own q H2 ρ2 own2 ts) (hg : getS ρ2 i = some o) (hr : rdP o ks = some (.lst ys)) (hv2 : PV H2 v0 ks v) (hσ : σ[i]? = some (some v0)) :
    ∃ pa vs as, v = .ref pa ∧ H2 pa = some (.lst vs) ∧ ORs K H2 (Own T (own2 ++ ts)) vs ys as ∧ ∀ (vs' : List V) (ys' : List OV) (as' tz r : List Addr) (o' : OV), ORs K H2 (Own T (own2 ++ ts)) vs' ys' as' → wrP o ks (.lst ys') = some o' →
      (as ++ ts).Perm ((as' ++ tz) ++ r) → ∃ own3, Post K tb T σ H own false (upd H2 pa (.lst vs')) (setS ρ2 i o') own3 tz ∧ ∀ u z, OR K H2 (Own T (own2 ++ ts)) u z tz → OR K (upd H2 pa (.lst vs')) (Own T (own3 ++ tz)) u z tz := by
  obtain ⟨l, es, pm⟩ := ps.es
  obtain ⟨v0', a0, rest, hσ', r0, pm2, es2⟩ := es.take hg
  rw [hσ] at hσ'
  cases hσ'
  obtain ⟨b0, rest0, g1, g2, g3⟩ := OR.path ks r0 hr hv2
  cases g2 with
  | @lst pa vs _ as h3 h4 =>
    refine ⟨pa, vs, as, rfl, h3, h4, fun vs' ys' as' tz r o' n1 hw n3 => ?_⟩
    -- the addresses
    have pmo : (own2 ++ ts).Perm (pa :: (as ++ ts) ++ (rest0 ++ rest)) := by
      have q1 : own2.Perm ((pa :: as) ++ rest0 ++ rest) := pm.symm.trans (pm2.trans (g1.append_right rest))
      refine (q1.append_right ts).trans ?_
      have e1 : (pa :: as) ++ rest0 ++ rest ++ ts = pa :: as ++ (rest0 ++ rest ++ ts) := by simp
      have e2 : pa :: (as ++ ts) ++ (rest0 ++ rest) = pa :: as ++ (ts ++ (rest0 ++ rest)) := by simp
      rw [e1, e2]
      exact (List.perm_append_comm).append_left _
    have pm3 : (pa :: (as ++ ts) ++ (rest0 ++ rest)).Perm (((pa :: as') ++ rest0 ++ rest ++ tz) ++ r) := by
      have e1 : (pa :: (as ++ ts) ++ (rest0 ++ rest)).Perm (pa :: ((as' ++ tz) ++ r) ++ (rest0 ++ rest)) := (n3.cons pa).append_right _
      refine e1.trans ?_
      have e2 : pa :: ((as' ++ tz) ++ r) ++ (rest0 ++ rest) = pa :: as' ++ ((tz ++ r) ++ (rest0 ++ rest)) := by simp
      have e3 : ((pa :: as') ++ rest0 ++ rest ++ tz) ++ r = pa :: as' ++ ((rest0 ++ rest) ++ (tz ++ r)) := by simp
      rw [e2, e3]
      exact (List.perm_append_comm).append_left _
    have ndA := pmo.nodup_iff.mp ps.nd
    have nd4 := pm3.nodup_iff.mp ndA
    have nd3 : ((pa :: as') ++ rest0 ++ rest ++ tz).Nodup := (List.nodup_append.mp nd4).1
    have sb : ∀ b ∈ (pa :: as') ++ rest0 ++ rest ++ tz, b ∈ own2 ++ ts := fun b hb => pmo.mem_iff.mpr (pm3.mem_iff.mpr (List.mem_append_left _ hb))
    have hpa : pa ∈ own2 ++ ts := pmo.mem_iff.mpr List.mem_cons_self
    have tr : Tr (Own T (own2 ++ ts)) H2 (Own T ((pa :: as') ++ rest0 ++ rest ++ tz)) (upd H2 pa (.lst vs')) := fun b u nb eb => by
      have ne : b ≠ pa := fun z => nb (.inr (by rw [z]; exact hpa))
      refine ⟨fun z => nb ?_, by rw [upd_ne ne]; exact eb⟩
      rcases z with z | z
      · exact .inl z
      · exact .inr (sb b z)
    have nin : ∀ b ∈ rest0 ++ rest, b ≠ pa := fun b hb z => by
      have := (List.nodup_append.mp ndA).2.2 pa List.mem_cons_self b hb
      exact this z.symm
    have nin2 : ∀ b ∈ as' ++ tz, b ≠ pa := fun b hb z => by
      have hb2 : b ∈ as ++ ts := n3.mem_iff.mpr (List.mem_append_left _ hb)
      have h5 := (List.nodup_append.mp ndA).1
      rw [z] at hb2
      exact (List.nodup_cons.mp h5).1 hb2
    have keep : ∀ b, b ≠ pa → ∀ x, H2 b = some x → (upd H2 pa (.lst vs')) b = some x := fun b hb x e => by rw [upd_ne hb]; exact e
    have rnew : OR K (upd H2 pa (.lst vs')) (Own T ((pa :: as') ++ rest0 ++ rest ++ tz)) (.ref pa) (.lst ys') (pa :: as') :=
      .lst upd_same (n1.tr tr fun b hb => keep b (nin2 b (List.mem_append_left _ hb)))
    obtain ⟨o2, as2, w3, w4, w5⟩ := g3 _ _ _ _ tr (fun b hb => keep b (nin b (List.mem_append_left _ hb))) rnew
    rw [hw] at w3
    cases w3
    have es3 := es2.tr tr fun b hb => keep b (nin b (List.mem_append_right _ hb))
    obtain ⟨l3, pl3, es4⟩ := ESl.put w5 es3 (by rw [List.getElem?_set_self (getS_len hg)]) hσ
    have eset : setS (ρ2.set i none) i o' = setS ρ2 i o' := by
      unfold setS
      rw [List.set_set]
    rw [eset] at es4
    refine ⟨(pa :: as') ++ rest0 ++ rest, ⟨?_, ⟨l3, es4, pl3.trans (w4.append_right rest)⟩, nd3, fun b hb => ps.dis b (sb b hb), fun z => by cases z⟩, fun u z n2 => n2.tr tr fun b hb => keep b (nin2 b (List.mem_append_right _ hb))⟩
    refine ⟨fun b u nb eb => ?_, fun b hb => ?_, fun b hb => ps.ext.new b (sb b hb)⟩
    · have e5 := ps.ext.keep b u nb eb
      refine keep b (fun z => ?_) u e5
      subst z
      rcases ps.ext.new b hpa with z | z
      · exact nb z
      · rw [z] at eb; cases eb
    · by_cases z : b = pa
      · rw [z, upd_same]; simp
      · rw [upd_ne z]
        exact ps.ext.live b hb
end
section
variable {X : Cx} {er : Nat → Value} {W : WX} {cf : CF}
theorem p_var {i : Nat} {x : Str} {pos : Pos} (hN : X.N[i]? = some x) (hv : Vis X.env.scope x) (hd : (x == ("__debug__" : Str)) = false) (hcd : (x == ("__classdict__" : Str)) = false) :
    PE X (.Name x pos) (tP X.K er W (evP cf (.var i)) true) := by
  refine PE.imp (pe_var hN hv hd hcd) fun σ H Q h => ?_
  obtain ⟨T, ρ, own, r, p, e, aft⟩ := h
  rw [evP] at e
  cases hg : getS ρ i with
  | none => rw [hg] at e; cases e
  | some o =>
    rw [hg] at e
    have e' := ok_some e
    subst e'
    obtain ⟨l, es, pm⟩ := p.es
    obtain ⟨v, a0, rest, hσ, r0, pm2, es2⟩ := es.take hg
    exact ⟨v, hσ, aft v v H own hσ .nil p.post⟩
theorem p_idx {ea eb : Expr} {fa : En → R (Nat × List Int)} {eb' : Ex} {fb : En → R OV} {qa pb : Bool} {pos : Pos} (ha : PE X ea (tP X.K er W fa qa)) (hb : PE X eb (tE X.K er W fb (quiet eb') true pb)) (hs : ∀ l u s p, eb ≠ .Slice l u s p) :
    PE X (.Subscript ea eb pos) (tP X.K er W (fun ρ => (fa ρ).bind fun q ρ1 => (fb ρ1).bind fun x ρ2 => if quiet eb' then match x with
      | .fr (.int k) => match getS ρ2 q.1 with
        | some o => match rdP o (q.2 ++ [k]) with
          | some _ => R.ok (q.1, q.2 ++ [k]) ρ2
          | none => none
        | none => none
      | _ => none
    else none) (qa && quiet eb')) := by
  refine PE.imp (pe_ix ix_list ha hb (plainIx hs)) fun σ H Q h => ?_
  obtain ⟨T, ρ, own, r, p, e, aft⟩ := h
  rcases bind_some e with ⟨c, ρ1, e1, e2⟩ | ⟨⟨i, ks⟩, ρ1, e1, e2⟩
  · exact ⟨T, ρ, own, _, p, e1, aft.err c ρ1 e2⟩
  · refine ⟨T, ρ, own, _, p, e1, fun v v0 H1 own1 hσ hv p1 => ?_⟩
    have pr := p1.pre p (fun x hx => absurd hx (by simp))
    refine first pr e2 (lifts p1 aft.err) fun x ρ2 e3 w H2 own2 tv2 p2 v2 => ?_
    split at e3
    · rename_i hq
      split at e3
      · rename_i k
        split at e3
        · rename_i o hg
          split at e3
          · rename_i z hz
            have e4 := ok_some e3
            subst e4
            obtain ⟨bs, hw⟩ := v2.or
            have sm := p2.qui hq
            obtain ⟨xs, h1, h2⟩ := rdP_snoc ks hz
            obtain ⟨l, es, pm⟩ := p2.es
            obtain ⟨v0', a0, rest, hσ', r0, pm2, es2⟩ := es.take hg
            rw [hσ] at hσ'
            cases hσ'
            have hv2 := hv.same sm
            obtain ⟨b0, rest0, g1, g2, g3⟩ := OR.path ks r0 h1 hv2
            cases g2 with
            | @lst a vs _ as h3 h4 =>
              obtain ⟨j, u, f1, f2, f3⟩ := atI_of h4.length h2
              refine ⟨a, vs, k, u, rfl, hw.int, .inl (.inl h3), f3, ?_⟩
              have ps := (p1.seq p2).sub (tv2 := []) (List.nil_sublist _)
              exact aft u v0 H2 own2 hσ (hv2.snoc h3 f3) ps
          · cases e3
        · cases e3
      · cases e3
    · cases e3

/-- a method that changes its list, by contents -/
def rMut (K : PySem.W.Frag) (m : Mut) : V → List V → Hp → VK → Prop := fun v ws H Q => ∃ P p vs ys as xs ts z x', v = .ref p ∧ H p = some (.lst vs) ∧ ORs K H P vs ys as ∧ ORs K H P ws xs ts ∧ mutO m (.lst ys) xs = some (z, x') ∧
  ∀ u vs' ys' as' tz, x' = .lst ys' → ORs K H P vs' ys' as' → OR K H P u z tz → (∃ r : List Addr, (as ++ ts).Perm ((as' ++ tz) ++ r)) → Q u (upd H p (.lst vs'))
theorem c_mut {m : Mut} {fp : En → R (Nat × List Int)} {fs : En → R (List OV)} {qp qs mm : Bool} {σ : L2.St} {H : Hp} {Q : VK}
    (h : tE X.K er W (fun ρ => (fp ρ).bind fun q ρ1 => if (q.2.isEmpty || qs) && isLP ρ1 q.1 q.2 then (fs ρ1).bind fun ys ρ2 => match getS ρ2 q.1 with
        | none => none
        | some o => match rdP o q.2 with
          | none => none
          | some x => match mutO m x ys with
            | none => none
            | some (z, x') => match wrP o q.2 x' with
              | none => none
              | some o' => R.ok z (setS ρ2 q.1 o')
      else none) false mm false σ H Q) : tBM X.K "list" (rMut X.K m) (tP X.K er W fp qp) (tA X.K er W fs qs) σ H Q := by
  obtain ⟨T, ρ, own, r, p, e, aft⟩ := h
  rcases bind_some e with ⟨c, ρ1, e1, e2⟩ | ⟨⟨i, ks⟩, ρ1, e1, e2⟩
  · exact ⟨T, ρ, own, _, p, e1, aft.err c ρ1 e2⟩
  refine ⟨T, ρ, own, _, p, e1, fun v v0 H1 own1 hσ hv p1 => ?_⟩
  have pr := p1.pre p (fun x hx => absurd hx (by simp))
  dsimp only at e2
  split at e2
  · rename_i hq
    rw [Bool.and_eq_true, Bool.or_eq_true] at hq
    obtain ⟨hq, hlp⟩ := hq
    refine ⟨?_, ?_⟩
    · unfold isLP at hlp
      split at hlp
      · rename_i o hg
        split at hlp
        · rename_i ys hr
          obtain ⟨l, es, pm⟩ := p1.es
          obtain ⟨v0', a0, rest, hσ', r0, pm2, es2⟩ := es.take hg
          rw [hσ] at hσ'
          cases hσ'
          obtain ⟨b0, rest0, g1, g2, g3⟩ := OR.path ks r0 hr hv
          cases g2 with
          | lst h3 h4 => exact .inl ⟨rfl, _, .inl (.inl h3)⟩
        · cases hlp
      · cases hlp
    · refine firstA pr e2 (lifts p1 aft.err) fun xs ρ2 e3 ws H2 own2 ts p2 w2 => ?_
      split at e3
      · cases e3
      · rename_i o hg
        split at e3
        · cases e3
        · rename_i x hr
          split at e3
          · cases e3
          · rename_i z x' hm
            split at e3
            · cases e3
            · rename_i o' hw
              have e4 := ok_some e3
              subst e4
              -- the path stands behind the arguments
              have hv2 : PV H2 v0 ks v := by
                rcases hq with hq | hq
                · cases ks with
                  | nil => cases hv; exact .nil
                  | cons _ _ => cases hq
                · exact hv.same (p2.qui hq)
              have ps := p1.seq p2
              rw [List.append_nil] at ps
              have eT : Own (Own T []) (own2 ++ ts) = Own T (own2 ++ ts) := by rw [own_nil]
              rw [eT] at w2
              have hx : ∃ ys, x = .lst ys := by
                cases x with
                | lst ys => exact ⟨ys, rfl⟩
                | _ => cases m <;> cases hm
              obtain ⟨ys, rfl⟩ := hx
              obtain ⟨pa, vs, as, rfl, h3, h4, fin⟩ := putPath ps hg hr hv2 hσ
              refine ⟨_, pa, vs, ys, as, xs, ts, z, x', rfl, h3, h4, w2, hm, fun u vs' ys' as' tz ex' n1 n2 n3 => ?_⟩
              subst ex'
              obtain ⟨r, n3⟩ := n3
              obtain ⟨own3, p3, n4⟩ := fin vs' ys' as' tz r o' n1 hw n3
              exact aft u _ own3 tz p3 (.inl ⟨n4 u z n2, fun z => by cases z⟩)
  · cases e2
/-! the methods -/
theorem mt_append (X : Cx) : MtM X "list.append" (rMut X.K .append) := by
  intro pins s σ H x ws v us Q I rx rv h
  obtain ⟨P, p, vs, ys, as, xs, ts, z, x', rfl, hp, h1, h2, hm, q⟩ := h
  dsimp only [mutO] at hm
  split at hm
  · split at hm
    · rename_i ys x e1 hs
      cases e1
      cases hm
      obtain ⟨w, rfl, hw⟩ := h2.one
      have hl := h1.length
      have hb := sizeLine_big
      have hsm := small_le hs
      refine L2.mt_append pins s σ H _ _ v us Q I rx rv ⟨p, vs, w, rfl, rfl, hp, by omega, q _ _ _ _ [] rfl (h1.append (.cons hw .nil)) (.fr .non) ⟨[], by simp⟩⟩
    · cases hm
  · cases hm
end
end DP

set_option Elab.async false
set_option linter.all false
set_option autoImplicit false
set_option maxRecDepth 100000
set_option maxHeartbeats 1000000
/-! DP, part L: calls of defs. -/
namespace DP
open PySem PySem.Spec PyProof.Rows L2

inductive AVs (K : PySem.W.Frag) (H : Hp) (P : OP) (σ : L2.St) : List V → List AV → Prop
  | nil : AVs K H P σ [] []
  | v {v : V} {vs : List V} {d : PyData} {avs : List AV} : RD K (mask H P) v d → AVs K H P σ vs avs → AVs K H P σ (v :: vs) (.v d :: avs)
  | io {v : V} {vs : List V} {i : Nat} {avs : List AV} : σ[i]? = some (some v) → AVs K H P σ vs avs → AVs K H P σ (v :: vs) (.io i :: avs)
  | pk {v : V} {vs : List V} {o : OV} {as : List Addr} {avs : List AV} : OR K H P v o as → AVs K H P σ vs avs → AVs K H P σ (v :: vs) (.pk o.fz :: avs)
section
variable {K : PySem.W.Frag} {σ : L2.St}
def AftV (K : PySem.W.Frag) (er : Nat → Value) (W : WX) (T : OP) (σ : L2.St) (H : Hp) (own : List Addr) (q : Bool) (Q : List V → Hp → Prop) : Except Nat (List AV) × En → Prop
  | (.ok avs, ρ') => ∀ vs H' own', Post K (tbE er) T σ H own q H' ρ' own' [] → AVs K H' (Own T own') σ vs avs → Q vs H'
  | (.error c, ρ') => AftX K er W T σ H own c ρ'
/-- the arguments of a call -/
def tV (K : PySem.W.Frag) (er : Nat → Value) (W : WX) (f : En → R (List AV)) (q : Bool) : TA := fun σ H Q => ∃ T ρ own r, Pre K (tbE er) T H σ ρ own ∧ f ρ = some r ∧ AftV K er W T σ H own q Q r
theorem AftV.err {er : Nat → Value} {W : WX} {T : OP} {H : Hp} {own : List Addr} {q : Bool} {Q : List V → Hp → Prop} {r : Except Nat (List AV) × En} (h : AftV K er W T σ H own q Q r) : ∀ c ρ', r = (.error c, ρ') → AftX K er W T σ H own c ρ' := fun c ρ' e => by
  subst e
  exact h
/-- a value in hand becomes data -/
theorem OR.freeze {tb : Option Addr} {T : OP} {H H' : Hp} {own own' tv : List Addr} {ρ' : En} {q : Bool} {v : V} {o : OV} (p : Post K tb T σ H own q H' ρ' own' tv) (h : OR K H' (Own T (own' ++ tv)) v o tv) : RD K (mask H' (Own T own')) v o.fz := by
  have nd := List.nodup_append.mp p.nd
  refine h.rd (fun a u h e => ⟨fun z => h ?_, e⟩) fun a ha u e => ⟨fun z => ?_, e⟩
  · rcases z with z | z
    · exact .inl z
    · exact .inr (List.mem_append_left _ z)
  · rcases z with z | z
    · exact p.dis a (List.mem_append_right _ ha) z
    · exact nd.2.2 a z a ha rfl
theorem AVs.tr {P P' : OP} {H H' : Hp} (t : Tr P H P' H') : ∀ {vs : List V} {avs : List AV}, AVs K H P σ vs avs → anyPk avs = false → AVs K H' P' σ vs avs
  | _, _, .nil, _ => .nil
  | _, _, .v r h, k => .v (r.same t.same) (AVs.tr t h k)
  | _, _, .io e h, k => .io e (AVs.tr t h k)
  | _, _, .pk r h, k => by cases k
end
section
variable {X : Cx} {er : Nat → Value} {W : WX} {cf : CF}
theorem v_nil : PA X [] (tV X.K er W (fun ρ => R.ok [] ρ) true) := by
  refine PA.imp pa_nil fun σ H Q h => ?_
  obtain ⟨T, ρ, own, r, p, e, aft⟩ := h
  have e' := ok_some e
  subst e'
  exact aft [] H own p.post .nil
theorem pre0 {K : PySem.W.Frag} {tb : Option Addr} {T : OP} {σ : L2.St} {H H' : Hp} {ρ ρ' : En} {own own' : List Addr} {q : Bool} (p1 : Post K tb T σ H own q H' ρ' own' []) (p : Pre K tb T H σ ρ own) : Pre K tb T H' σ ρ' own' := by
  have h := p1.pre p (fun x hx => absurd hx (by simp))
  rw [own_nil] at h
  exact h
theorem seq0 {K : PySem.W.Frag} {tb : Option Addr} {T : OP} {σ : L2.St} {H H1 H2 : Hp} {ρ1 ρ2 : En} {own own1 own2 tv : List Addr} {q1 q2 : Bool} (p1 : Post K tb T σ H own q1 H1 ρ1 own1 []) (p2 : Post K tb T σ H1 own1 q2 H2 ρ2 own2 tv) : Post K tb T σ H own (q1 && q2) H2 ρ2 own2 tv := by
  have h := p1.seq (tv1 := []) (q2 := q2) (H2 := H2) (ρ2 := ρ2) (own2 := own2) (tv2 := tv) (by rw [own_nil]; exact p2)
  rw [List.append_nil] at h
  exact h
theorem lifts0 {K : PySem.W.Frag} {T : OP} {σ : L2.St} {H H1 : Hp} {ρ1 : En} {own own1 : List Addr} {q : Bool} {β : Type} {r : Except Nat β × En} (p1 : Post K (tbE er) T σ H own q H1 ρ1 own1 []) (h : ∀ c ρ', r = (.error c, ρ') → AftX K er W T σ H own c ρ') :
    ∀ c ρ', r = (.error c, ρ') → AftX K er W T σ H1 own1 c ρ' := fun c ρ' e H' own' p2 => h c ρ' e H' own' ((seq0 p1 p2).quiet fun z => by cases z)
theorem v_v {e : Expr} {es : List Expr} {fe : En → R OV} {fs : En → R (List AV)} {qe qs pe : Bool} (he : PE X e (tE X.K er W fe qe false pe)) (hs : PA X es (tV X.K er W fs qs)) (hn : noStar e = true) :
    PA X (e :: es) (tV X.K er W (fun ρ => (fe ρ).bind fun x ρ1 => (fs ρ1).bind fun xs ρ2 => R.ok (.v x.fz :: xs) ρ2) (qe && qs)) := by
  refine PA.imp (pa_cons he hs (star_cons hn)) fun σ H Q h => ?_
  obtain ⟨T, ρ, own, r, p, e, aft⟩ := h
  refine first p e aft.err fun x ρ1 e1 v H1 own1 tv1 p1 v1 => ?_
  have rd := OR.freeze p1 v1.sep
  have p1' := p1.sub (tv2 := []) (List.nil_sublist _)
  have pr := pre0 p1' p
  rcases bind_some e1 with ⟨c, ρ2, f1, f2⟩ | ⟨avs, ρ2, f1, f2⟩
  · exact ⟨T, ρ1, own1, _, pr, f1, lifts0 p1' aft.err c ρ2 f2⟩
  · refine ⟨T, ρ1, own1, _, pr, f1, fun vs H2 own2 p2 v2 => ?_⟩
    have e3 := ok_some f2
    subst e3
    have t := p2.tr
    rw [List.append_nil] at t
    exact aft (v :: vs) H2 own2 (seq0 p1' p2) (.v (rd.same t.same) v2)
theorem v_pk {e : Expr} {es : List Expr} {fe : En → R OV} {fs : En → R (List AV)} {qe qs pe : Bool} (he : PE X e (tE X.K er W fe qe true pe)) (hs : PA X es (tV X.K er W fs qs)) (hn : noStar e = true) :
    PA X (e :: es) (tV X.K er W (fun ρ => (fe ρ).bind fun x ρ1 => (fs ρ1).bind fun xs ρ2 => if qs then R.ok (.pk x.fz :: xs) ρ2 else none) (qe && qs)) := by
  refine PA.imp (pa_cons he hs (star_cons hn)) fun σ H Q h => ?_
  obtain ⟨T, ρ, own, r, p, e, aft⟩ := h
  refine first p e aft.err fun x ρ1 e1 v H1 own1 tv1 p1 v1 => ?_
  have p1' := p1.sub (tv2 := []) (List.nil_sublist _)
  have look : ∃ o as, OR X.K H1 (Own T own1) v o as ∧ x.fz = o.fz := by
    rcases v1 with ⟨h1, _⟩ | ⟨_, _, _, _, as, h1⟩
    · exact ⟨.fr x.fz, [], .fr (OR.freeze p1 h1), rfl⟩
    · exact ⟨x, as, h1, rfl⟩
  obtain ⟨o, as, hv, eo⟩ := look
  have pr := pre0 p1' p
  rcases bind_some e1 with ⟨c, ρ2, f1, f2⟩ | ⟨avs, ρ2, f1, f2⟩
  · exact ⟨T, ρ1, own1, _, pr, f1, lifts0 p1' aft.err c ρ2 f2⟩
  · refine ⟨T, ρ1, own1, _, pr, f1, fun vs H2 own2 p2 v2 => ?_⟩
    split at f2
    · rename_i hq
      have e3 := ok_some f2
      subst e3
      have t := p2.tr
      rw [List.append_nil] at t
      have sm := p2.qui hq
      rw [eo] at aft
      exact aft (v :: vs) H2 own2 (seq0 p1' p2) (.pk (hv.tr t fun a _ u e => sm a u e) v2)
    · cases f2
theorem v_io {i : Nat} {x : Str} {pos : Pos} {es : List Expr} {fs : En → R (List AV)} {qs : Bool} (hN : X.N[i]? = some x) (hv : Vis X.env.scope x) (hd : (x == ("__debug__" : Str)) = false) (hcd : (x == ("__classdict__" : Str)) = false) (hs : PA X es (tV X.K er W fs qs)) :
    PA X (.Name x pos :: es) (tV X.K er W (fun ρ => match getS ρ i with
      | some _ => (fs ρ).bind fun xs ρ2 => R.ok (.io i :: xs) ρ2
      | none => none) qs) := by
  refine PA.imp (pa_cons (pe_var hN hv hd hcd) hs rfl) fun σ H Q h => ?_
  obtain ⟨T, ρ, own, r, p, e, aft⟩ := h
  dsimp only at e
  split at e
  · rename_i o hg
    obtain ⟨l, es, pm⟩ := p.es
    obtain ⟨v, a0, rest, hσ, r0, pm2, es2⟩ := es.take hg
    refine ⟨v, hσ, ?_⟩
    rcases bind_some e with ⟨c, ρ2, f1, f2⟩ | ⟨avs, ρ2, f1, f2⟩
    · exact ⟨T, ρ, own, _, p, f1, aft.err c ρ2 f2⟩
    · refine ⟨T, ρ, own, _, p, f1, fun vs H2 own2 p2 v2 => ?_⟩
      have e3 := ok_some f2
      subst e3
      exact aft (v :: vs) H2 own2 p2 (.io hσ v2)
  · cases e

/-! ### a def's promise -/
def ioPick : List Bool → List V → List V
  | true :: ps, v :: vs => v :: ioPick ps vs
  | false :: ps, _ :: vs => ioPick ps vs
  | _, _ => []
def spF (K : PySem.W.Frag) (er : Nat → Value) (cf : CF) (f : Nat) (ps : List Bool) : Sp := fun vs H Q E => vs.length = ps.length ∧ ∃ T own args r outs, (∀ a, T a → H a ≠ none) ∧ ORs K H (Own T own) vs args own ∧ own.Nodup ∧ (∀ a ∈ own, ¬ T a) ∧ cf f args = some (r, outs) ∧ (∀ c, r = .error c → c < 1000) ∧
  ∀ H' own', Ext own H H' own' → own'.Nodup → (∀ a ∈ own', ¬ T a) → ORs K H' (Own T own') (ioPick ps vs) outs own' →
    match r with
    | .ok d => ∀ v, RD K (mask H' (Own T own')) v d → Q v H'
    | .error c => E (er c) none H'
/-- the modes go with the parameters; no looks beside changes -/
def msOk : List AM → List Bool → Bool
  | [], [] => true
  | .io :: ms, true :: ps => msOk ms ps
  | .v :: ms, false :: ps => msOk ms ps
  | .pk :: ms, false :: ps => msOk ms ps
  | _, _ => false
/-- the arguments' modes -/
def mdA : List AV → List AM
  | [] => []
  | .v _ :: r => .v :: mdA r
  | .io _ :: r => .io :: mdA r
  | .pk _ :: r => .pk :: mdA r
def iosA : List AV → List Nat
  | [] => []
  | .io i :: r => i :: iosA r
  | _ :: r => iosA r
section
variable {K : PySem.W.Frag} {σ : L2.St}
theorem take_some : ∀ {avs : List AV} {ρ ρ1 : En} {args : List OV}, takeA avs ρ = some (args, ρ1) → (∀ i ∈ iosA avs, getS ρ i ≠ none) ∧ (iosA avs).Nodup ∧ (∀ i ∈ iosA avs, ρ1[i]? = some none) ∧ (∀ i : Nat, ρ[i]? = some none → ρ1[i]? = some none)
  | [], ρ, ρ1, args, h => by
    cases h
    exact ⟨fun i hi => by simp [iosA] at hi, List.nodup_nil, fun i hi => by simp [iosA] at hi, fun i h => h⟩
  | .v d :: r, ρ, ρ1, args, h => by
    unfold takeA at h
    split at h
    · rename_i l ρ' hr
      cases h
      exact take_some (avs := r) hr
    · cases h
  | .pk d :: r, ρ, ρ1, args, h => by
    unfold takeA at h
    split at h
    · rename_i l ρ' hr
      cases h
      exact take_some (avs := r) hr
    · cases h
  | .io i :: r, ρ, ρ1, args, h => by
    unfold takeA at h
    split at h
    · rename_i o hg
      split at h
      · rename_i l ρ' hr
        cases h
        obtain ⟨h1, h2, h3, h4⟩ := take_some hr
        have hi : i < ρ.length := by
          unfold getS at hg
          by_cases hi : i < ρ.length
          · exact hi
          · rw [List.getElem?_eq_none (by omega)] at hg
            cases hg
        have hn : (ρ.set i none)[i]? = some none := by rw [List.getElem?_set_self hi]
        have hni : i ∉ iosA r := fun z => h1 i z (by unfold getS; rw [hn])
        refine ⟨fun j hj => ?_, List.nodup_cons.mpr ⟨hni, h2⟩, fun j hj => ?_, fun j hj => ?_⟩
        · rcases List.mem_cons.mp hj with rfl | hj
          · rw [hg]; simp
          · have hji : j ≠ i := fun z => hni (z ▸ hj)
            have h5 := h1 j hj
            unfold getS at h5 ⊢
            rw [List.getElem?_set_ne (Ne.symm hji)] at h5
            exact h5
        · rcases List.mem_cons.mp hj with rfl | hj
          · exact h4 _ hn
          · exact h3 j hj
        · refine h4 j ?_
          by_cases hji : j = i
          · rw [hji]; exact hn
          · rw [List.getElem?_set_ne (Ne.symm hji)]; exact hj
      · cases h
    · cases h
/-- the arguments taken out of the slots -/
theorem AVs.take {tb : Option Addr} {H : Hp} {P : OP} : ∀ {vs : List V} {avs : List AV} {ρ ρ1 : En} {args : List OV} {l : List Addr}, AVs K H P σ vs avs → anyPk avs = false → takeA avs ρ = some (args, ρ1) → ESl K tb H P σ ρ l →
    ∃ oc rest, l.Perm (oc ++ rest) ∧ ORs K H P vs args oc ∧ ESl K tb H P σ ρ1 rest
  | _, _, ρ, ρ1, args, l, .nil, _, h, es => by
    cases h
    exact ⟨[], l, .refl _, .nil, es⟩
  | _, _, ρ, ρ1, args, l, .v (d := d) (avs := avs) r h, k, ht, es => by
    unfold takeA at ht
    split at ht
    · rename_i l' ρ' hr
      cases ht
      obtain ⟨oc, rest, h1, h2, h3⟩ := AVs.take h k hr es
      exact ⟨oc, rest, h1, .cons (as := []) (.fr r) h2, h3⟩
    · cases ht
  | _, _, ρ, ρ1, args, l, .io (i := i) (avs := avs) e h, k, ht, es => by
    unfold takeA at ht
    split at ht
    · rename_i o hg
      split at ht
      · rename_i l' ρ' hr
        cases ht
        obtain ⟨v', a0, rest0, hσ, r0, pm, es2⟩ := es.take hg
        rw [e] at hσ
        cases hσ
        obtain ⟨oc, rest, h1, h2, h3⟩ := AVs.take h k hr es2
        exact ⟨a0 ++ oc, rest, pm.trans (by rw [List.append_assoc]; exact h1.append_left a0), .cons r0 h2, h3⟩
      · cases ht
    · cases ht
  | _, _, ρ, ρ1, args, l, .pk r h, k, ht, es => by cases k
/-- .. and put back -/
theorem AVs.give {tb : Option Addr} {H H' : Hp} {P P' : OP} : ∀ {vs : List V} {avs : List AV} {ps : List Bool} {ρ1 ρ2 : En} {outs : List OV} {rest oc : List Addr}, AVs K H P σ vs avs → msOk (mdA avs) ps = true → giveA avs outs ρ1 = some ρ2 → ESl K tb H' P' σ ρ1 rest →
    ORs K H' P' (ioPick ps vs) outs oc → (∀ i ∈ iosA avs, ρ1[i]? = some none) → (iosA avs).Nodup → ∃ l, l.Perm (oc ++ rest) ∧ ESl K tb H' P' σ ρ2 l
  | _, _, ps, ρ1, ρ2, outs, rest, oc, .nil, hm, hg, es, ho, hn, nd => by
    cases outs with
    | nil =>
      cases hg
      cases ps with
      | nil =>
        cases ho
        exact ⟨rest, .refl _, es⟩
      | cons b ps => cases hm
    | cons _ _ => cases hg
  | _, _, ps, ρ1, ρ2, outs, rest, oc, .v (d := d) r h, hm, hg, es, ho, hn, nd => by
    cases ps with
    | nil => cases hm
    | cons b ps =>
      cases b with
      | true => cases hm
      | false =>
        exact AVs.give h hm (by unfold giveA at hg; exact hg) es ho hn nd
  | _, _, ps, ρ1, ρ2, outs, rest, oc, .pk r h, hm, hg, es, ho, hn, nd => by
    cases ps with
    | nil => cases hm
    | cons b ps =>
      cases b with
      | true => cases hm
      | false =>
        exact AVs.give h hm (by unfold giveA at hg; exact hg) es ho hn nd
  | _, _, ps, ρ1, ρ2, outs, rest, oc, .io (i := i) e h, hm, hg, es, ho, hn, nd => by
    cases ps with
    | nil => cases hm
    | cons b ps =>
      cases b with
      | false => cases hm
      | true =>
        cases ho with
        | @cons _ _ o os a0 bs r0 ho =>
          have nd' := List.nodup_cons.mp nd
          obtain ⟨l1, p1, es1⟩ := ESl.put r0 es (hn i List.mem_cons_self) e
          obtain ⟨l2, p2, es2⟩ := AVs.give h hm (by unfold giveA at hg; exact hg) es1 ho (fun j hj => by
            have hji : j ≠ i := fun z => nd'.1 (z ▸ hj)
            unfold setS
            rw [List.getElem?_set_ne (Ne.symm hji)]
            exact hn j (List.mem_cons_of_mem _ hj)) nd'.2
          refine ⟨l2, p2.trans ((p1.append_left bs).trans ?_), es2⟩
          rw [← List.append_assoc]
          exact (List.perm_append_comm).append_right rest
theorem AVs.len {H : Hp} {P : OP} : ∀ {vs : List V} {avs : List AV} {ps : List Bool}, AVs K H P σ vs avs → msOk (mdA avs) ps = true → vs.length = ps.length
  | _, _, [], .nil, _ => rfl
  | _, _, _ :: _, .nil, h => by cases h
  | _, _, [], .v r t, h => by cases h
  | _, _, true :: _, .v r t, h => by cases h
  | _, _, false :: ps, .v r t, h => by rw [List.length_cons, List.length_cons, AVs.len (ps := ps) t h]
  | _, _, [], .pk r t, h => by cases h
  | _, _, true :: _, .pk r t, h => by cases h
  | _, _, false :: ps, .pk r t, h => by rw [List.length_cons, List.length_cons, AVs.len (ps := ps) t h]
  | _, _, [], .io r t, h => by cases h
  | _, _, false :: _, .io r t, h => by cases h
  | _, _, true :: ps, .io r t, h => by rw [List.length_cons, List.length_cons, AVs.len (ps := ps) t h]
end
section
variable {k : Nat} {fa : Addr} {fd : FuncData} {pn : List Str} {x : Str} {p pos : Pos} {e : Expr} {es : List Expr}
theorem noList_tup {K : PySem.W.Frag} {H : Hp} {P P' : OP} (h : ∀ a vs, H a = some (.tup vs) → ¬ P a → ¬ P' a) (h2 : ∀ a o vs, H a = some (.frz o (.tup vs)) → ¬ P a → ¬ P' a) : ∀ {v : V} {d : PyData}, RD K (mask H P) v d → noList d = true → RD K (mask H P') v d := by
  have key : ∀ {a : Addr} {vs : List V}, Rd (mask H P) a (.tup vs) → Rd (mask H P') a (.tup vs) := fun {a vs} r => by
    rcases r with r | ⟨o, r⟩
    · obtain ⟨r1, r2⟩ := mask_some.mp r
      exact .inl (mask_some.mpr ⟨h a vs r2 r1, r2⟩)
    · obtain ⟨r1, r2⟩ := mask_some.mp r
      exact .inr ⟨o, mask_some.mpr ⟨h2 a o vs r2 r1, r2⟩⟩
  intro v d r
  refine RD.rec (K := K) (F := mask H P) (motive_1 := fun v d _ => noList d = true → RD K (mask H P') v d) (motive_2 := fun vs ds _ => noLists ds = true → RDs K (mask H P') vs ds)
    (fun _ => .non) (fun b _ => .bl b) (fun i _ => .int i) (fun x _ => .str x) (fun _ _ _ q => by simp [noList] at q) (fun h1 _ ih q => .tup (key h1) (ih (by simpa [noList] using q))) (fun _ _ _ q => by simp [noList] at q) (fun _ _ _ q => by simp [noList] at q)
    (fun _ => .nil) (fun _ _ ih1 ih2 q => by
      simp only [noLists, Bool.and_eq_true] at q
      exact .cons (ih1 q.1) (ih2 q.2)) r
mutual
theorem OR.kind {K : PySem.W.Frag} {H : Hp} {P : OP} : ∀ {v : V} {o : OV} {as : List Addr}, OR K H P v o as → ∀ a ∈ as, ∃ u, H a = some u ∧ (∀ vs, u ≠ .tup vs) ∧ ∀ ob vs, u ≠ .frz ob (.tup vs)
  | _, _, _, .fr r, a, h => by simp at h
  | _, _, _, .lst e r, a, h => by
    rcases List.mem_cons.mp h with rfl | h
    · exact ⟨_, e, (fun _ z => by cases z), fun _ _ z => by cases z⟩
    · exact ORs.kind r a h
  | _, _, _, .tup e n r, a, h => ORs.kind r a h
  | _, _, _, .dK e r, a, h => by
    rw [List.mem_singleton] at h
    rw [h]
    exact ⟨_, e, (fun _ z => by cases z), fun _ _ z => by cases z⟩
  | _, _, _, .dT e r, a, h => by
    rw [List.mem_singleton] at h
    rw [h]
    exact ⟨_, e, (fun _ z => by cases z), fun _ _ z => by cases z⟩
theorem ORs.kind {K : PySem.W.Frag} {H : Hp} {P : OP} : ∀ {vs : List V} {os : List OV} {as : List Addr}, ORs K H P vs os as → ∀ a ∈ as, ∃ u, H a = some u ∧ (∀ vs, u ≠ .tup vs) ∧ ∀ ob vs, u ≠ .frz ob (.tup vs)
  | _, _, _, .nil, a, h => by simp at h
  | _, _, _, .cons r q, a, h => by
    rcases List.mem_append.mp h with h | h
    · exact OR.kind r a h
    · exact ORs.kind q a h
end
/-- arguments that are values and looks alone -/
theorem AVs.look {K : PySem.W.Frag} {σ : L2.St} {H : Hp} {P : OP} : ∀ {vs : List V} {avs : List AV} {ρ ρ1 : En} {args : List OV}, AVs K H P σ vs avs → iosA avs = [] → takeA avs ρ = some (args, ρ1) →
    ρ1 = ρ ∧ ∃ pks : List Addr, (anyPk avs = false → pks = []) ∧ (∀ a ∈ pks, ∃ u, H a = some u ∧ (∀ vs, u ≠ .tup vs) ∧ ∀ ob vs, u ≠ .frz ob (.tup vs)) ∧ ∀ P' : OP, (∀ a, P' a → P a ∧ a ∉ pks) → ORs K H P' vs args []
  | _, _, ρ, ρ1, args, .nil, _, h => by
    cases h
    exact ⟨rfl, [], fun _ => rfl, fun a h => by simp at h, fun _ _ => .nil⟩
  | _, _, ρ, ρ1, args, .v (avs := avs) r h, hi, ht => by
    unfold takeA at ht
    split at ht
    · rename_i l ρ' hr
      cases ht
      obtain ⟨e, pks, h1, h2, h3⟩ := AVs.look h hi hr
      refine ⟨e, pks, h1, h2, fun P' hP => .cons (as := []) (.fr (r.same (Tr.same fun a u n e => ⟨fun z => n (hP a z).1, e⟩))) (h3 P' hP)⟩
    · cases ht
  | _, _, ρ, ρ1, args, .io e h, hi, ht => by cases hi
  | _, _, ρ, ρ1, args, .pk (as := as) (avs := avs) r h, hi, ht => by
    unfold takeA at ht
    split at ht
    · rename_i l ρ' hr
      cases ht
      obtain ⟨e, pks, h1, h2, h3⟩ := AVs.look h hi hr
      refine ⟨e, as ++ pks, fun z => (by cases z), fun a ha => ?_, fun P' hP => ?_⟩
      · rcases List.mem_append.mp ha with ha | ha
        · exact r.kind a ha
        · exact h2 a ha
      · refine .cons (as := []) (.fr (r.rd (fun a u n e => ⟨fun z => n (hP a z).1, e⟩) fun a ha u e => ⟨fun z => (hP a z).2 (List.mem_append_left _ ha), e⟩)) (h3 P' fun a z => ⟨(hP a z).1, fun w => (hP a z).2 (List.mem_append_right _ w)⟩)
    · cases ht
theorem give_nil : ∀ {avs : List AV} {os : List OV} {ρ ρ1 : En}, iosA avs = [] → giveA avs os ρ = some ρ1 → ρ1 = ρ
  | [], [], ρ, ρ1, _, h => by cases h; rfl
  | [], _ :: _, ρ, ρ1, _, h => by cases h
  | .v _ :: r, os, ρ, ρ1, hi, h => by
    unfold giveA at h
    exact give_nil (avs := r) hi h
  | .pk _ :: r, os, ρ, ρ1, hi, h => by
    unfold giveA at h
    exact give_nil (avs := r) hi h
  | .io _ :: r, os, ρ, ρ1, hi, h => by cases hi
theorem pick_nil : ∀ {avs : List AV} {ps : List Bool} {vs : List V}, iosA avs = [] → msOk (mdA avs) ps = true → ioPick ps vs = []
  | [], [], vs, _, _ => by cases vs <;> rfl
  | [], _ :: _, vs, _, h => by cases h
  | .v _ :: r, [], vs, hi, h => by cases h
  | .v _ :: r, true :: ps, vs, hi, h => by cases h
  | .v _ :: r, false :: ps, [], hi, h => rfl
  | .v _ :: r, false :: ps, v :: vs, hi, h => pick_nil (avs := r) (ps := ps) (vs := vs) hi h
  | .pk _ :: r, [], vs, hi, h => by cases h
  | .pk _ :: r, true :: ps, vs, hi, h => by cases h
  | .pk _ :: r, false :: ps, [], hi, h => rfl
  | .pk _ :: r, false :: ps, v :: vs, hi, h => pick_nil (avs := r) (ps := ps) (vs := vs) hi h
  | .io _ :: r, ps, vs, hi, h => by cases hi
theorem c_call {f : Nat} {ps : List Bool} {fv : En → R (List AV)} {q qm m : Bool} (hmd : ∀ ρ avs ρ', fv ρ = some (.ok avs, ρ') → msOk (mdA avs) ps = true ∧ (anyPk avs = true → iosA avs = []) ∧ (qm = true → iosA avs = [])) {σ : L2.St} {H : Hp} {Q : VK}
    (h : tE X.K er W (fun ρ => (fv ρ).bind fun avs ρ1 => doCall cf f avs ρ1) (qm && q) m false σ H Q) : tCallS (spF X.K er cf f ps) (WE W) (tV X.K er W fv q) σ H Q := by
  obtain ⟨T, ρ, own, r, p, e, aft⟩ := h
  rcases bind_some e with ⟨c, ρ1, e1, e2⟩ | ⟨avs, ρ1, e1, e2⟩
  · exact ⟨T, ρ, own, _, p, e1, aft.err c ρ1 e2⟩
  refine ⟨T, ρ, own, _, p, e1, fun vs H1 own1 p1 v1 => ?_⟩
  obtain ⟨hm, hpk, hqm⟩ := hmd _ _ _ e1
  have pr := pre0 p1 p
  refine ⟨v1.len hm, ?_⟩
  unfold doCall at e2
  split at e2
  · cases e2
  · rename_i args ρ2 ht
    split at e2
    · cases e2
    · rename_i res outs hc
      split at e2
      · cases e2
      · rename_i ρ3 hg
        have hlt : ∀ c, res = .error c → c < 1000 := fun c ec => by
          subst ec
          by_cases hc : c < 1000
          · exact hc
          · dsimp only at e2
            rw [if_neg hc] at e2
            cases e2
        obtain ⟨t1, t2, t3, t4⟩ := take_some ht
        obtain ⟨l, es, pm⟩ := pr.es
        by_cases hio : iosA avs = []
        rotate_left
        · have hp : anyPk avs = false := by
            cases h : anyPk avs with
            | false => rfl
            | true => exact absurd (hpk h) hio
          obtain ⟨oc, rest, q1, q2, q3⟩ := AVs.take v1 hp ht es
          have pmo : own1.Perm (oc ++ rest) := pm.symm.trans q1
          have ndo := pmo.nodup_iff.mp pr.nd
          have nd3 := List.nodup_append.mp ndo
          have eP : Own T own1 = Own (Own T rest) oc := by rw [← own_app]; exact own_perm pmo
          rw [eP] at q2 q3
          refine ⟨Own T rest, oc, args, res, outs, fun a ha => ?_, q2, nd3.1, fun a ha z => ?_, hc, hlt, fun H2 own2 x nd2 dis2 io2 => ?_⟩
          · rcases ha with z | z
            · exact pr.al a z
            · obtain ⟨u, eu⟩ := q3.there a z
              rw [eu]; simp
          · rcases z with z | z
            · exact pr.dis a (pmo.mem_iff.mpr (List.mem_append_left _ ha)) z
            · exact nd3.2.2 a ha a z rfl
          · -- behind the call
            have tr : Tr (Own (Own T rest) oc) H1 (Own (Own T rest) own2) H2 := x.tr
            have kr : ∀ a ∈ rest, ∀ u, H1 a = some u → H2 a = some u := fun a ha u eu => x.keep a u (fun z => nd3.2.2 a z a ha rfl) eu
            have es2 := q3.tr tr kr
            obtain ⟨l3, p3, es3⟩ := AVs.give v1 hm hg es2 io2 t3 t2
            have own3 : Own (Own T rest) own2 = Own T (own2 ++ rest) := (own_app T own2 rest).symm
            rw [own3] at es3
            have post2 : Post X.K (tbE er) T σ H1 own1 qm H2 ρ3 (own2 ++ rest) [] := by
              refine ⟨?_, ?_, ?_, ?_, fun hq => ?_⟩
              · rw [List.append_nil]
                refine ⟨fun a u na eu => x.keep a u (fun z => na (pmo.mem_iff.mpr (List.mem_append_left _ z))) eu, x.live, fun a ha => ?_⟩
                rcases List.mem_append.mp ha with ha | ha
                · rcases x.new a ha with z | z
                  · exact .inl (pmo.mem_iff.mpr (List.mem_append_left _ z))
                  · exact .inr z
                · exact .inl (pmo.mem_iff.mpr (List.mem_append_right _ ha))
              · rw [List.append_nil]
                exact ⟨l3, es3, p3⟩
              · rw [List.append_nil]
                refine List.nodup_append.mpr ⟨nd2, nd3.2.1, fun a ha b hb z => ?_⟩
                subst z
                exact dis2 a ha (.inr hb)
              · rw [List.append_nil]
                intro a ha
                rcases List.mem_append.mp ha with ha | ha
                · exact fun z => dis2 a ha (.inl z)
                · exact pr.dis a (pmo.mem_iff.mpr (List.mem_append_right _ ha))
              · exact absurd (hqm hq) hio
            have ps2 := seq0 p1 post2
            cases res with
            | error c =>
              dsimp only at e2
              rw [if_pos (hlt c rfl)] at e2
              cases e2
              exact aft H2 (own2 ++ rest) (ps2.quiet fun z => by cases z)
            | ok d =>
              dsimp only at e2
              rw [hp, Bool.false_and, if_neg Bool.false_ne_true] at e2
              cases e2
              intro v rv
              rw [own3] at rv
              refine aft v H2 (own2 ++ rest) [] (ps2.quiet fun z => by rw [Bool.and_eq_true] at z ⊢; exact ⟨z.2, z.1⟩) (.inl ⟨.fr (by rw [List.append_nil]; exact rv), fun z => by cases z⟩)
        · obtain ⟨e1', pks, k1, k2, k3⟩ := AVs.look v1 hio ht
          have e3' := give_nil hio hg
          rw [e1'] at e3'
          subst e3'
          have al1 := p1.alive p (fun x hx => absurd hx (by simp))
          rw [List.append_nil] at al1
          refine ⟨fun a => Own T own1 a ∧ a ∉ pks, [], args, res, outs, fun a ha => al1 a ha.1, k3 _ (fun a ha => by rw [own_nil] at ha; exact ha), List.nodup_nil, fun a ha => absurd ha (by simp), hc, hlt, fun H2 own2 x nd2 dis2 io2 => ?_⟩
          rw [pick_nil hio hm] at io2
          have o2 : own2 = [] := by cases io2; rfl
          subst o2
          have sm : Same H1 H2 := fun a u eu => x.keep a u (by simp) eu
          have post2 : Post X.K (tbE er) T σ H1 own1 qm H2 ρ3 own1 [] := by
            refine ⟨?_, ?_, ?_, ?_, fun _ => sm⟩
            · rw [List.append_nil]
              exact ⟨fun a u _ eu => sm a u eu, x.live, fun a ha => .inl ha⟩
            · rw [List.append_nil]
              exact ⟨l, es.tr (fun a u n e => ⟨n, sm a u e⟩) (fun a _ u e => sm a u e), pm⟩
            · rw [List.append_nil]
              exact pr.nd
            · rw [List.append_nil]
              exact pr.dis
          have ps2 := seq0 p1 post2
          cases res with
          | error c =>
            dsimp only at e2
            rw [if_pos (hlt c rfl)] at e2
            cases e2
            exact aft H2 own1 (ps2.quiet fun z => by cases z)
          | ok d =>
            dsimp only at e2
            split at e2
            · cases e2
            · rename_i hno
              cases e2
              intro v rv
              rw [own_nil] at rv
              refine aft v H2 own1 [] (ps2.quiet fun z => by rw [Bool.and_eq_true] at z ⊢; exact ⟨z.2, z.1⟩) (.inl ⟨.fr ?_, fun z => by cases z⟩)
              rw [List.append_nil]
              cases hp : anyPk avs with
              | false =>
                have := k1 hp
                subst this
                exact rv.same (Tr.same fun a u n e => ⟨fun z => n ⟨z, by simp⟩, e⟩)
              | true =>
                rw [hp, Bool.true_and, Bool.not_eq_true', Bool.not_eq_false] at hno
                refine noList_tup (fun a vs e n z => ?_) (fun a o vs e n z => ?_) rv hno
                · by_cases hk : a ∈ pks
                  · obtain ⟨u, eu, n1, n2⟩ := k2 a hk
                    rw [sm a u eu] at e
                    cases e
                    exact n1 _ rfl
                  · exact n ⟨z, hk⟩
                · by_cases hk : a ∈ pks
                  · obtain ⟨u, eu, n1, n2⟩ := k2 a hk
                    rw [sm a u eu] at e
                    cases e
                    exact n2 _ _ rfl
                  · exact n ⟨z, hk⟩
end
end
end DP

set_option Elab.async false
set_option linter.all false
set_option autoImplicit false
set_option maxRecDepth 100000
set_option maxHeartbeats 1000000
/-! DP, part M: what is walked. -/
namespace DP
open PySem PySem.Spec PyProof.Rows L2

/-- J walks the data ds as long as what is not owned stays -/
structure Walk (K : PySem.W.Frag) (J : It) (H0 : Hp) (P0 : OP) (ds : List PyData) : Prop where
  go : ∀ H P i, Tr P0 H0 P H → i < ds.length → J.go i H
  yld : ∀ H P i d, Tr P0 H0 P H → (∀ a, P a → H a ≠ none) → ds[i]? = some d → ∀ x H', J.yld i H x H' → (H' = H ∨ ∃ p o, H p = none ∧ H' = upd H p o) ∧ RD K (mask H' P) x d
  stop : ∀ H P i, Tr P0 H0 P H → ds.length ≤ i → J.stop i H
section
variable (K : PySem.W.Frag) (er : Nat → Value) (W : WX)
def AftI (T : OP) (σ : L2.St) (H : Hp) (own : List Addr) (q : Bool) (R : It → Hp → Prop) : Except Nat (List PyData) × En → Prop
  | (.ok ds, ρ') => ∀ J H' own', Post K (tbE er) T σ H own q H' ρ' own' [] → Walk K J H' (Own T own') ds → R J H'
  | (.error c, ρ') => AftX K er W T σ H own c ρ'
def tI (f : En → R (List PyData)) (q : Bool) : TI := fun σ H R => ∃ T ρ own r, Pre K (tbE er) T H σ ρ own ∧ f ρ = some r ∧ AftI K er W T σ H own q R r
end
theorem AftI.err {K : PySem.W.Frag} {er : Nat → Value} {W : WX} {T : OP} {σ : L2.St} {H : Hp} {own : List Addr} {q : Bool} {Q : It → Hp → Prop} {r : Except Nat (List PyData) × En} (h : AftI K er W T σ H own q Q r) : ∀ c ρ', r = (.error c, ρ') → AftX K er W T σ H own c ρ' := fun c ρ' e => by
  subst e
  exact h
theorem PI.imp {X : Cx} {tg e : Expr} {t t' : TI} (h : L2.PI X tg e t) (i : ∀ σ H Q, t' σ H Q → t σ H Q) : L2.PI X tg e t' := ⟨fun pins s σ H Q I q => h.run pins s σ H Q I (i σ H Q q)⟩
section
variable {K : PySem.W.Frag} {H : Hp} {P : OP}
theorem rdAt {H0 : Hp} {P0 : OP} {a : Addr} {u : HO} (h : Rd (mask H0 P0) a u) (t : Tr P0 H0 P H) : Rd H a u := rdSub (Same.rd t.same h)
theorem walk_list {a : Addr} {vs : List V} {ds : List PyData} (h : Rd (mask H P) a (.lst vs)) (r : RDs K (mask H P) vs ds) : Walk K (Itl K a) H P ds where
  go := fun H' P' i t hi => by
    have hl := r.length
    exact ⟨vs, vs[i]'(by omega), .inl (rdAt h t), List.getElem?_eq_getElem _⟩
  yld := fun H' P' i d t al hd x H2 y => by
    obtain ⟨rfl, y⟩ := y
    obtain ⟨v, hv, rv⟩ := r.get hd
    have e := y vs (.inl (rdAt h t))
    rw [hv] at e
    cases e
    exact ⟨.inl rfl, rv.same t.same⟩
  stop := fun H' P' i t hi => by
    have hl := r.length
    exact ⟨vs, .inl (rdAt h t), by omega⟩
theorem walk_tup {a : Addr} {vs : List V} {ds : List PyData} (h : Rd (mask H P) a (.tup vs)) (r : RDs K (mask H P) vs ds) : Walk K (Itt K a) H P ds where
  go := fun H' P' i t hi => by
    have hl := r.length
    exact ⟨vs, vs[i]'(by omega), .inl (rdAt h t), List.getElem?_eq_getElem _⟩
  yld := fun H' P' i d t al hd x H2 y => by
    obtain ⟨rfl, y⟩ := y
    obtain ⟨v, hv, rv⟩ := r.get hd
    have e := y vs (.inl (rdAt h t))
    rw [hv] at e
    cases e
    exact ⟨.inl rfl, rv.same t.same⟩
  stop := fun H' P' i t hi => by
    have hl := r.length
    exact ⟨vs, .inl (rdAt h t), by omega⟩
theorem walk_str {x : Str} : Walk K (Its x) H P (chrsD x) where
  go := fun H' P' i t hi => by
    unfold chrsD at hi
    show i < x.cps.size
    simpa using hi
  yld := fun H' P' i d t al hd z H2 y => by
    obtain ⟨rfl, c, hc, rfl⟩ := y
    unfold chrsD at hd
    rw [List.getElem?_map, Array.getElem?_toList, hc] at hd
    cases hd
    exact ⟨.inl rfl, .str _⟩
  stop := fun H' P' i t hi => by
    unfold chrsD at hi
    show x.cps.size ≤ i
    simpa using hi
theorem walk_rng {lo : Int} {n : Nat} : Walk K (L2.Itr lo n) H P ((List.range n).map fun k : Nat => .int (lo + (k : Int))) where
  go := fun H' P' i t hi => by
    show i < n
    simpa using hi
  yld := fun H' P' i d t al hd z H2 y => by
    obtain ⟨rfl, rfl⟩ := y
    rw [List.getElem?_map] at hd
    by_cases hi : i < n
    · rw [List.getElem?_range hi] at hd
      cases hd
      exact ⟨.inl rfl, .int _⟩
    · rw [List.getElem?_eq_none (by simpa using hi)] at hd
      cases hd
  stop := fun H' P' i t hi => by
    show n ≤ i
    simpa using hi
theorem zipD_get : ∀ (xs ys : List PyData) (i : Nat) {d : PyData}, (zipD xs ys)[i]? = some d → ∃ x y, xs[i]? = some x ∧ ys[i]? = some y ∧ d = .tuple [x, y]
  | [], _, _, _, h => by simp [zipD] at h
  | _ :: _, [], _, _, h => by simp [zipD] at h
  | x :: xs, y :: ys, 0, d, h => by
    simp [zipD] at h
    exact ⟨x, y, rfl, rfl, h.symm⟩
  | x :: xs, y :: ys, i + 1, d, h => by
    obtain ⟨u, v, h1, h2, h3⟩ := zipD_get xs ys i (d := d) (by simpa [zipD] using h)
    exact ⟨u, v, by simpa using h1, by simpa using h2, h3⟩
theorem zipD_length : ∀ (xs ys : List PyData), (zipD xs ys).length = min xs.length ys.length
  | [], _ => by simp [zipD]
  | _ :: _, [] => by simp [zipD]
  | x :: xs, y :: ys => by
    simp only [zipD, List.length_cons, zipD_length xs ys]
    omega
theorem enumD_get : ∀ (xs : List PyData) (n i : Nat) {d : PyData}, (enumD n xs)[i]? = some d → ∃ x, xs[i]? = some x ∧ d = .tuple [.int ((n + i : Nat) : Int), x]
  | [], _, _, _, h => by simp [enumD] at h
  | x :: xs, n, 0, d, h => by
    simp [enumD] at h
    exact ⟨x, rfl, h.symm⟩
  | x :: xs, n, i + 1, d, h => by
    obtain ⟨u, h1, h3⟩ := enumD_get xs (n + 1) i (d := d) (by simpa [enumD] using h)
    refine ⟨u, by simpa using h1, ?_⟩
    rw [h3]
    congr 3
    omega
theorem enumD_length : ∀ (xs : List PyData) (n : Nat), (enumD n xs).length = xs.length
  | [], _ => rfl
  | x :: xs, n => by rw [enumD, List.length_cons, List.length_cons, enumD_length xs]
theorem newPair {F : Hp} {a : Addr} {x y : V} {d e : PyData} (al : ∀ b, P b → F b ≠ none) (n : F a = none) (h1 : RD K (mask F P) x d) (h2 : RD K (mask F P) y e) : RD K (mask (upd F a (.tup [x, y])) P) (.ref a) (.tuple [d, e]) := by
  have s : Same (mask F P) (mask (upd F a (.tup [x, y])) P) := new_sameF n
  exact .tup (.inl (mask_some.mpr ⟨fun z => al a z n, upd_same⟩)) (.cons (h1.same s) (.cons (h2.same s) .nil))
theorem walk_zipL {a b : Addr} {xs ys : List V} {ds es : List PyData} (h : Rd (mask H P) a (.lst xs)) (r : RDs K (mask H P) xs ds) (h' : Rd (mask H P) b (.lst ys)) (r' : RDs K (mask H P) ys es) : Walk K (Itz K a b) H P (zipD ds es) where
  go := fun H' P' i t hi => by
    have hl := r.length
    have hl' := r'.length
    rw [zipD_length] at hi
    exact ⟨xs, ys, xs[i]'(by omega), ys[i]'(by omega), .inl (rdAt h t), .inl (rdAt h' t), List.getElem?_eq_getElem _, List.getElem?_eq_getElem _⟩
  yld := fun H' P' i d t al hd z H2 y => by
    obtain ⟨T, x, y, rfl, hT, rfl, y1, y2⟩ := y
    obtain ⟨d1, d2, e1, e2, rfl⟩ := zipD_get _ _ _ hd
    obtain ⟨v, hv, rv⟩ := r.get e1
    obtain ⟨v', hv', rv'⟩ := r'.get e2
    have q1 := y1 xs (.inl (rdAt h t))
    have q2 := y2 ys (.inl (rdAt h' t))
    rw [hv] at q1
    rw [hv'] at q2
    cases q1
    cases q2
    exact ⟨.inr ⟨T, _, hT, rfl⟩, newPair al hT (rv.same t.same) (rv'.same t.same)⟩
  stop := fun H' P' i t hi => by
    have hl := r.length
    have hl' := r'.length
    rw [zipD_length] at hi
    exact ⟨xs, ys, .inl (rdAt h t), .inl (rdAt h' t), by omega⟩
theorem walk_zipT {a b : Addr} {xs ys : List V} {ds es : List PyData} (h : Rd (mask H P) a (.tup xs)) (r : RDs K (mask H P) xs ds) (h' : Rd (mask H P) b (.tup ys)) (r' : RDs K (mask H P) ys es) : Walk K (RZ.ItzT K a b) H P (zipD ds es) where
  go := fun H' P' i t hi => by
    have hl := r.length
    have hl' := r'.length
    rw [zipD_length] at hi
    exact ⟨xs, ys, xs[i]'(by omega), ys[i]'(by omega), .inl (rdAt h t), .inl (rdAt h' t), List.getElem?_eq_getElem _, List.getElem?_eq_getElem _⟩
  yld := fun H' P' i d t al hd z H2 y => by
    obtain ⟨T, x, y, rfl, hT, rfl, y1, y2⟩ := y
    obtain ⟨d1, d2, e1, e2, rfl⟩ := zipD_get _ _ _ hd
    obtain ⟨v, hv, rv⟩ := r.get e1
    obtain ⟨v', hv', rv'⟩ := r'.get e2
    have q1 := y1 xs (.inl (rdAt h t))
    have q2 := y2 ys (.inl (rdAt h' t))
    rw [hv] at q1
    rw [hv'] at q2
    cases q1
    cases q2
    exact ⟨.inr ⟨T, _, hT, rfl⟩, newPair al hT (rv.same t.same) (rv'.same t.same)⟩
  stop := fun H' P' i t hi => by
    have hl := r.length
    have hl' := r'.length
    rw [zipD_length] at hi
    exact ⟨xs, ys, .inl (rdAt h t), .inl (rdAt h' t), by omega⟩
theorem walk_enum {a : Addr} {xs : List V} {ds : List PyData} (h : Rd (mask H P) a (.lst xs)) (r : RDs K (mask H P) xs ds) : Walk K (Ite K a) H P (enumD 0 ds) where
  go := fun H' P' i t hi => by
    have hl := r.length
    rw [enumD_length] at hi
    exact ⟨xs, xs[i]'(by omega), .inl (rdAt h t), List.getElem?_eq_getElem _⟩
  yld := fun H' P' i d t al hd z H2 y => by
    obtain ⟨T, x, rfl, hT, rfl, y1⟩ := y
    obtain ⟨d1, e1, rfl⟩ := enumD_get _ _ _ hd
    obtain ⟨v, hv, rv⟩ := r.get e1
    have q1 := y1 xs (.inl (rdAt h t))
    rw [hv] at q1
    cases q1
    refine ⟨.inr ⟨T, _, hT, rfl⟩, newPair al hT ?_ (rv.same t.same)⟩
    have e : ((0 + i : Nat) : Int) = (i : Int) := by omega
    rw [e]
    exact .int _
  stop := fun H' P' i t hi => by
    have hl := r.length
    rw [enumD_length] at hi
    exact ⟨xs, .inl (rdAt h t), by omega⟩
end

/-! ### the rules -/
/-- a list, a tuple, a text -/
def iSeq (K : PySem.W.Frag) (tl : TE) : TI := fun σ H R => tl σ H fun x H1 => (∃ a xs, x = .ref a ∧ SqL K H1 a xs ∧ R (Itl K a) H1) ∨ (∃ a xs, x = .ref a ∧ SqT K H1 a xs ∧ R (Itt K a) H1) ∨ ∃ y, x = .str y ∧ R (Its y) H1
theorem pi_seq {X : Cx} {tg l : Expr} {tl : TE} (hl : PE X l tl) : PI X tg l (iSeq X.K tl) := by
  refine ⟨fun pins s σ H R I h => ?_⟩
  refine thn (hl.run pins s σ H _ I h) fun v s1 ⟨x, H1, I1, r1, q1⟩ => ?_
  rcases q1 with ⟨a, xs, e, hq, q⟩ | ⟨a, xs, e, hq, q⟩ | ⟨y, e, q⟩
  · subst e
    cases r1
    obtain ⟨its, rv, p, hz⟩ := I1.list hq
    refine wpAny_pyIter_list p.isList ?_
    exact pi_one (tk := s1.toks) I1 _ (turn_list a _) ⟨_, Heap.get?_push_size _ rfl, rfl, rfl⟩ q
  · subst e
    cases r1
    obtain ⟨its, rv, p, hz⟩ := I1.tuple hq
    refine wpAny_pyIter_tuple (show s1.heap.IsTuple a its.toArray from p) ?_
    exact pi_one (tk := s1.toks) I1 _ (turn_tuple a _) ⟨_, Heap.get?_push_size _ rfl, rfl, rfl⟩ q
  · subst e
    obtain ⟨t, rfl⟩ := r1
    cases ha : y.cps.all (· < 128)
    · exact wpAny_pyIter_wide ha (pi_one (tk := s1.toks) I1 _ (turn_str _ y t "str_iterator" (.inr rfl)) ⟨_, Heap.get?_push_size _ rfl, rfl, rfl⟩ q)
    · exact wpAny_pyIter_ascii ha (pi_one (tk := s1.toks) I1 _ (turn_str _ y t "str_ascii_iterator" (.inl rfl)) ⟨_, Heap.get?_push_size _ rfl, rfl, rfl⟩ q)
section
variable {X : Cx} {er : Nat → Value} {W : WX} {cf : CF}
/-- what a value of one's own looks like once frozen -/
theorem Post.frozen {K : PySem.W.Frag} {tb : Option Addr} {T : OP} {σ : L2.St} {H H' : Hp} {own own' tv : List Addr} {q : Bool} {ρ' : En} (p : Post K tb T σ H own q H' ρ' own' tv) : Tr (Own T (own' ++ tv)) H' (Own T own') H' ∧ ∀ a ∈ tv, ¬ Own T own' a := by
  refine ⟨fun a o h e => ⟨fun z => h ?_, e⟩, fun a ha z => ?_⟩
  · rcases z with z | z
    · exact .inl z
    · exact .inr (List.mem_append_left _ z)
  · rcases z with z | z
    · exact p.dis a (List.mem_append_right _ ha) z
    · exact (List.nodup_append.mp p.nd).2.2 a z a ha rfl
theorem freezeV {K : PySem.W.Frag} {tb : Option Addr} {T : OP} {σ : L2.St} {H H' : Hp} {own own' tv : List Addr} {q : Bool} {ρ' : En} {v : V} {o : OV} (p : Post K tb T σ H own q H' ρ' own' tv) (h : OR K H' (Own T (own' ++ tv)) v o tv) : RD K (mask H' (Own T own')) v o.fz := by
  obtain ⟨t, n⟩ := p.frozen
  exact h.rd t fun a ha x e => ⟨n a ha, e⟩
theorem freezeVs {K : PySem.W.Frag} {tb : Option Addr} {T : OP} {σ : L2.St} {H H' : Hp} {own own' tv : List Addr} {q : Bool} {ρ' : En} {v : List V} {o : List OV} (p : Post K tb T σ H own q H' ρ' own' tv) (h : ORs K H' (Own T (own' ++ tv)) v o tv) : RDs K (mask H' (Own T own')) v (OV.fzs o) := by
  obtain ⟨t, n⟩ := p.frozen
  exact h.rd t fun a ha x e => ⟨n a ha, e⟩
theorem seqO_fz {x : OV} {ds : List PyData} (h : seqO x = some ds) : x.fz = .list ds ∨ x.fz = .tuple ds := by
  unfold seqO at h
  split at h
  · cases h; exact .inl rfl
  · cases h; exact .inr rfl
  · have e := frsO_some h
    subst e
    left
    show PyData.list (OV.fzs _) = _
    rw [fzs_fr]
  · have e := frsO_some h
    subst e
    right
    show PyData.tuple (OV.fzs _) = _
    rw [fzs_fr]
  · cases h
theorem keysO_fz {x : OV} {ds : List PyData} (h : keysO x = some ds) : x.fz = .list ds ∨ x.fz = .tuple ds ∨ ∃ y, x = .fr (.str y) ∧ ds = chrsD y := by
  unfold keysO at h
  split at h
  · cases h
    exact .inr (.inr ⟨_, rfl, rfl⟩)
  · rcases seqO_fz h with h | h
    · exact .inl h
    · exact .inr (.inl h)
theorem i_it {tg l : Expr} {f : En → R OV} {q pp : Bool} (hl : PE X l (tE X.K er W f q false pp)) : PI X tg l (tI X.K er W (fun ρ => (f ρ).bind fun x ρ1 => R.of (keysO x) ρ1) q) := by
  refine PI.imp (pi_seq hl) fun σ H Rr h => ?_
  obtain ⟨T, ρ, own, r, p, e, aft⟩ := h
  refine first p e aft.err fun x ρ1 e1 v H1 own1 tv1 p1 v1 => ?_
  obtain ⟨ds, ek, e2⟩ := of_some e1
  subst e2
  have rd := freezeV p1 v1.sep
  have p2 := p1.sub (List.nil_sublist _)
  rcases keysO_fz ek with k | k | ⟨y, k, kd⟩
  · rw [k] at rd
    obtain ⟨a, vs, rfl, h1, h2⟩ := rd.lst_inv
    exact .inl ⟨a, vs, rfl, .inl (rdSub h1), aft _ H1 own1 p2 (walk_list h1 h2)⟩
  · rw [k] at rd
    obtain ⟨a, vs, rfl, h1, h2⟩ := rd.tup_inv
    exact .inr (.inl ⟨a, vs, rfl, .inl (rdSub h1), aft _ H1 own1 p2 (walk_tup h1 h2)⟩)
  · subst k
    subst kd
    exact .inr (.inr ⟨y, rd.str_inv, aft _ H1 own1 p2 walk_str⟩)
theorem i_zip {a b : Expr} {p pos tpos : Pos} {elts : List Expr} {kk : Nat} {fa fb : En → R OV} {qa qb pa pb : Bool} (hg : Gl X "zip") (hm : X.mg "zip" = none) (ha : PE X a (tE X.K er W fa qa false pa)) (hb : PE X b (tE X.K er W fb qb false pb)) (na : noStar a = true) (nb : noStar b = true) :
    PI X (.Tuple elts kk tpos) (.Call (.Name "zip" p) [a, b] [] pos) (tI X.K er W (fun ρ => (fa ρ).bind fun x ρ1 => (fb ρ1).bind fun y ρ2 => match seqO x, seqO y with
      | some xs, some ys => if isTup x == isTup y then R.ok (zipD xs ys) ρ2 else none
      | _, _ => none) (qa && qb)) := by
  have hp := RZ.pi_zipA (X := X) (elts := elts) (kk := kk) (tpos := tpos) (p := p) (pos := pos) hg hm (a_cons ha (a_cons hb a_nil nb) na) (star_cons na) (star_plain (by rw [List.all_cons, nb]; rfl))
  refine PI.imp hp fun σ H Rr h => ?_
  obtain ⟨T, ρ, own, r, p, e, aft⟩ := h
  rcases bind_some e with ⟨c, ρ1, e1, e2⟩ | ⟨x, ρ1, e1, e2⟩
  · refine ⟨T, ρ, own, (.error c, ρ1), p, ?_, aft.err c ρ1 e2⟩
    dsimp only
    rw [e1]; rfl
  rcases bind_some e2 with ⟨c, ρ2, e3, e4⟩ | ⟨y, ρ2, e3, e4⟩
  · refine ⟨T, ρ, own, (.error c, ρ2), p, ?_, aft.err c ρ2 e4⟩
    dsimp only
    rw [e1]; show ((fb ρ1).bind _).bind _ = _; rw [e3]; rfl
  refine ⟨T, ρ, own, (.ok [x, y], ρ2), p, ?_, fun vs H1 own1 tv1 p1 v1 => ?_⟩
  · dsimp only
    rw [e1]; show ((fb ρ1).bind _).bind _ = _; rw [e3]; rfl
  have rd := freezeVs p1 v1
  have p2 := p1.sub (List.nil_sublist _)
  cases hx : seqO x with
  | none => rw [hx] at e4; cases e4
  | some xs =>
    cases hy : seqO y with
    | none => rw [hx, hy] at e4; cases e4
    | some ys =>
      rw [hx, hy] at e4
      dsimp only at e4
      split at e4
      · rename_i ht
        have e5 := ok_some e4
        subst e5
        obtain ⟨v, w, rfl⟩ : ∃ v w, vs = [v, w] := by
          have := v1.length
          match vs, this with
          | [v, w], _ => exact ⟨v, w, rfl⟩
        cases rd with
        | cons r1 r2 =>
          cases r2 with
          | cons r2 r3 =>
            rcases seqO_fz hx with k | k
            · rcases seqO_fz hy with k' | k'
              · rw [k] at r1
                rw [k'] at r2
                obtain ⟨a1, us, rfl, h1, h2⟩ := r1.lst_inv
                obtain ⟨a2, us', rfl, h1', h2'⟩ := r2.lst_inv
                exact ⟨a1, a2, us, us', rfl, .inl ⟨.inl (rdSub h1), .inl (rdSub h1'), aft _ H1 own1 (p2.quiet fun z => by simp only [Bool.and_eq_true] at z ⊢; exact ⟨z.1, z.2, trivial⟩) (walk_zipL h1 h2 h1' h2')⟩⟩
              · exfalso
                cases x <;> cases y <;> simp_all [OV.fz, isTup]
            · rcases seqO_fz hy with k' | k'
              · exfalso
                cases x <;> cases y <;> simp_all [OV.fz, isTup]
              · rw [k] at r1
                rw [k'] at r2
                obtain ⟨a1, us, rfl, h1, h2⟩ := r1.tup_inv
                obtain ⟨a2, us', rfl, h1', h2'⟩ := r2.tup_inv
                exact ⟨a1, a2, us, us', rfl, .inr ⟨.inl (rdSub h1), .inl (rdSub h1'), aft _ H1 own1 (p2.quiet fun z => by simp only [Bool.and_eq_true] at z ⊢; exact ⟨z.1, z.2, trivial⟩) (walk_zipT h1 h2 h1' h2')⟩⟩
      · cases e4
theorem i_enum {a : Expr} {p pos tpos : Pos} {elts : List Expr} {kk : Nat} {fa : En → R OV} {qa pa : Bool} (hg : Gl X "enumerate") (hm : X.mg "enumerate" = none) (ha : PE X a (tE X.K er W fa qa false pa)) (na : noStar a = true) :
    PI X (.Tuple elts kk tpos) (.Call (.Name "enumerate" p) [a] [] pos) (tI X.K er W (fun ρ => (fa ρ).bind fun x ρ1 => R.of ((lstO x).map (enumD 0)) ρ1) qa) := by
  have hp := pi_enum (X := X) (elts := elts) (kk := kk) (tpos := tpos) (p := p) (pos := pos) hg hm (a_cons ha a_nil na) (star_cons na)
  refine PI.imp hp fun σ H Rr h => ?_
  obtain ⟨T, ρ, own, r, p, e, aft⟩ := h
  rcases bind_some e with ⟨c, ρ1, e1, e2⟩ | ⟨x, ρ1, e1, e2⟩
  · refine ⟨T, ρ, own, (.error c, ρ1), p, ?_, aft.err c ρ1 e2⟩
    dsimp only
    rw [e1]; rfl
  refine ⟨T, ρ, own, (.ok [x], ρ1), p, ?_, fun vs H1 own1 tv1 p1 v1 => ?_⟩
  · dsimp only
    rw [e1]; rfl
  obtain ⟨l, el, e3⟩ := of_some e2
  subst e3
  cases hx : lstO x with
  | none => rw [hx] at el; cases el
  | some ds =>
    rw [hx] at el
    cases el
    have rd := freezeVs p1 v1
    have p2 := p1.sub (List.nil_sublist _)
    have k : x.fz = .list ds := by
      unfold lstO at hx
      split at hx
      · cases hx; rfl
      · have e := frsO_some hx
        subst e
        show PyData.list (OV.fzs _) = _
        rw [fzs_fr]
      · cases hx
    cases rd with
    | cons r1 r2 =>
      cases r2
      rw [k] at r1
      obtain ⟨a1, us, rfl, h1, h2⟩ := r1.lst_inv
      exact ⟨a1, us, rfl, .inl (rdSub h1), aft _ H1 own1 (p2.quiet fun z => by rw [z]; rfl) (walk_enum h1 h2)⟩
theorem okR_lt {i : Int} (h : okR i = true) : -(2 ^ 62) ≤ i ∧ i < 2 ^ 62 := by
  unfold okR at h
  rw [Bool.and_eq_true] at h
  exact ⟨of_decide_eq_true h.1, of_decide_eq_true h.2⟩
theorem rng1_some {xs : List OV} {l : List PyData} (hl : xs.length = 1) (h : (match frsO xs with | some ds => rngD ds | none => none) = some l) : ∃ j : Int, xs = [.fr (.int j)] ∧ okR j = true ∧ l = (List.range j.toNat).map fun k : Nat => .int (k : Int) := by
  cases hf : frsO xs with
  | none => rw [hf] at h; cases h
  | some ds =>
    rw [hf] at h
    have e := frsO_some hf
    subst e
    match ds, hl, h with
    | [.int j], _, h =>
      have h : (if okR j = true then some ((List.range j.toNat).map fun k : Nat => PyData.int (k : Int)) else none) = some l := h
      by_cases hc : okR j = true
      · rw [if_pos hc] at h
        cases h
        exact ⟨j, rfl, hc, rfl⟩
      · rw [if_neg hc] at h
        cases h
theorem rng2_some {xs : List OV} {l : List PyData} (hl : xs.length = 2) (h : (match frsO xs with | some ds => rngD ds | none => none) = some l) : ∃ i j : Int, xs = [.fr (.int i), .fr (.int j)] ∧ (okR i = true ∧ okR j = true) ∧ l = (List.range (j - i).toNat).map fun k : Nat => .int (i + (k : Int)) := by
  cases hf : frsO xs with
  | none => rw [hf] at h; cases h
  | some ds =>
    rw [hf] at h
    have e := frsO_some hf
    subst e
    match ds, hl, h with
    | [.int i, .int j], _, h =>
      have h : (if (okR i && okR j) = true then some ((List.range (j - i).toNat).map fun k : Nat => PyData.int (i + (k : Int))) else none) = some l := h
      by_cases hc : (okR i && okR j) = true
      · rw [if_pos hc] at h
        cases h
        rw [Bool.and_eq_true] at hc
        exact ⟨i, j, rfl, hc, rfl⟩
      · rw [if_neg hc] at h
        cases h
theorem i_rng1 {a : Expr} {p pos : Pos} {tg : Expr} {fs : En → R (List OV)} {q : Bool} (hl : ∀ ρ xs ρ', fs ρ = some (.ok xs, ρ') → xs.length = 1) (hg : Gl X "range") (hm : X.mg "range" = none) (ha : PA X [a] (tA X.K er W fs q)) (na : noStar a = true) :
    PI X tg (.Call (.Name "range" p) [a] [] pos) (tI X.K er W (fun ρ => (fs ρ).bind fun xs ρ1 => R.of (match frsO xs with | some ds => rngD ds | none => none) ρ1) q) := by
  refine PI.imp (pi_range1 hg hm ha (star_cons na)) fun σ H Rr h => ?_
  obtain ⟨T, ρ, own, r, p, e, aft⟩ := h
  rcases bind_some e with ⟨c, ρ1, e1, e2⟩ | ⟨xs, ρ1, e1, e2⟩
  · exact ⟨T, ρ, own, _, p, e1, aft.err c ρ1 e2⟩
  refine ⟨T, ρ, own, _, p, e1, fun vs H1 own1 tv1 p1 v1 => ?_⟩
  obtain ⟨l, el, e3⟩ := of_some e2
  subst e3
  obtain ⟨j, ex, hj, el2⟩ := rng1_some (hl _ _ _ e1) el
  subst ex
  obtain ⟨v, rfl, hv⟩ := v1.one
  have hj2 := okR_lt hj
  refine ⟨j, by rw [hv.int], hj2.1, hj2.2, aft _ H1 own1 (p1.sub (List.nil_sublist _)) ?_⟩
  subst el2
  have w := walk_rng (K := X.K) (H := H1) (P := Own T own1) (lo := 0) (n := j.toNat)
  have e4 : ((List.range j.toNat).map fun k : Nat => PyData.int (0 + (k : Int))) = (List.range j.toNat).map fun k : Nat => PyData.int (k : Int) := by
    congr 1
    funext k
    rw [Int.zero_add]
  rw [e4] at w
  exact w
theorem i_rng2 {a b : Expr} {p pos : Pos} {tg : Expr} {fs : En → R (List OV)} {q : Bool} (hl : ∀ ρ xs ρ', fs ρ = some (.ok xs, ρ') → xs.length = 2) (hg : Gl X "range") (hm : X.mg "range" = none) (ha : PA X [a, b] (tA X.K er W fs q)) (na : noStar a = true) (nb : noStar b = true) :
    PI X tg (.Call (.Name "range" p) [a, b] [] pos) (tI X.K er W (fun ρ => (fs ρ).bind fun xs ρ1 => R.of (match frsO xs with | some ds => rngD ds | none => none) ρ1) q) := by
  refine PI.imp (pi_range2 hg hm ha (by rw [star_cons na, star_cons nb]; rfl) (star_cons nb)) fun σ H Rr h => ?_
  obtain ⟨T, ρ, own, r, p, e, aft⟩ := h
  rcases bind_some e with ⟨c, ρ1, e1, e2⟩ | ⟨xs, ρ1, e1, e2⟩
  · exact ⟨T, ρ, own, _, p, e1, aft.err c ρ1 e2⟩
  refine ⟨T, ρ, own, _, p, e1, fun vs H1 own1 tv1 p1 v1 => ?_⟩
  obtain ⟨l, el, e3⟩ := of_some e2
  subst e3
  obtain ⟨i, j, ex, ⟨hi, hj⟩, el2⟩ := rng2_some (hl _ _ _ e1) el
  subst ex
  obtain ⟨v, w, a1, a2, rfl, hv, hw⟩ := v1.two
  have hi2 := okR_lt hi
  have hj2 := okR_lt hj
  refine ⟨i, j, by rw [hv.int, hw.int], ⟨hi2.1, hi2.2, hj2.1, hj2.2⟩, aft _ H1 own1 (p1.sub (List.nil_sublist _)) ?_⟩
  subst el2
  exact walk_rng
end
end DP

set_option Elab.async false
set_option linter.all false
set_option autoImplicit false
set_option maxRecDepth 100000
set_option maxHeartbeats 1000000
/-! DP, part N: targets; comprehensions. -/
namespace DP
open PySem PySem.Spec PyProof.Rows L2

mutual
def gOf (K : PySem.W.Frag) : Tg → TG
  | .nm i => gName i
  | .tp ts => gTup K ts.length (gOfs K ts)
def gOfs (K : PySem.W.Frag) : List Tg → TGs
  | [] => gNil
  | t :: ts => gCons (gOf K t) (gOfs K ts)
end
mutual
theorem asgT_len : ∀ (t : Tg) {o : OV} {ρ ρ' : En}, asgT t o ρ = some ρ' → ρ'.length = ρ.length
  | .nm i, o, ρ, ρ', e => by
    unfold asgT at e
    split at e
    · cases e
      exact List.length_set
    · cases e
  | .tp ts, o, ρ, ρ', e => by
    cases o with
    | fr d =>
      cases d with
      | tuple ds =>
        unfold asgT at e
        split at e
        · exact asgTs_len ts e
        · cases e
      | _ =>
        unfold asgT at e
        cases e
    | tup xs =>
      unfold asgT at e
      split at e
      · exact asgTs_len ts e
      · cases e
    | _ =>
      unfold asgT at e
      cases e
theorem asgTs_len : ∀ (ts : List Tg) {os : List OV} {ρ ρ' : En}, asgTs ts os ρ = some ρ' → ρ'.length = ρ.length
  | [], [], ρ, ρ', e => by
    unfold asgTs at e
    cases e
    rfl
  | [], _ :: _, ρ, ρ', e => by
    unfold asgTs at e
    cases e
  | _ :: _, [], ρ, ρ', e => by
    unfold asgTs at e
    cases e
  | t :: ts, o :: os, ρ, ρ', e => by
    unfold asgTs at e
    cases ht : asgT t o ρ with
    | none => rw [ht] at e; cases e
    | some ρ1 =>
      rw [ht] at e
      exact (asgTs_len ts e).trans (asgT_len t ht)
end
section
variable {K : PySem.W.Frag} {tb : Option Addr} {H : Hp} {P : OP}
/-- a slot set -/
theorem ESl.store {σ : L2.St} {ρ : En} {l as : List Addr} {i : Nat} {v : V} {o : OV} (h : ESl K tb H P σ ρ l) (r : OR K H P v o as) (hi : i < ρ.length) :
    ∃ l' r, ESl K tb H P (σ.set i (some v)) (setS ρ i o) l' ∧ (as ++ l).Perm (l' ++ r) := by
  obtain ⟨rest, sub, h1⟩ := h.drop i
  have h2 : ESl K tb H P (σ.set i (some v)) (ρ.set i none) rest := h1.any fun o e => by
    rw [List.getElem?_set_self hi] at e
    cases e
  have hl := h.length
  obtain ⟨l', p, h3⟩ := ESl.put (i := i) r h2 (by rw [List.getElem?_set_self hi]) (by rw [List.getElem?_set_self (by omega)])
  obtain ⟨d, pd⟩ := sub.exists_perm_append
  have e : setS (ρ.set i none) i o = setS ρ i o := by
    unfold setS
    rw [List.set_set]
  rw [e] at h3
  refine ⟨l', d, h3, ?_⟩
  exact (pd.append_left as).trans (by rw [← List.append_assoc]; exact p.symm.append_right d)
mutual
theorem asg_ok : ∀ (t : Tg) {v : V} {o : OV} {as l : List Addr} {σ : L2.St} {ρ ρ' : En}, OR K H P v o as → ESl K tb H P σ ρ l → asgT t o ρ = some ρ' →
    ∃ σ' l' r, (∀ Q : L2.St → Hp → Prop, Q σ' H → gOf K t v σ H Q) ∧ ESl K tb H P σ' ρ' l' ∧ (as ++ l).Perm (l' ++ r) ∧ ∀ i, i ∉ tgs t → σ'[i]? = σ[i]?
  | .nm i, v, o, as, l, σ, ρ, ρ', h, hs, e => by
    unfold asgT at e
    split at e
    · rename_i hi
      cases e
      obtain ⟨l', r, h1, h2⟩ := hs.store h hi
      refine ⟨σ.set i (some v), l', r, fun Q q => q, h1, h2, fun j hj => ?_⟩
      rw [List.getElem?_set_ne]
      intro z
      exact hj (by rw [z]; exact List.mem_singleton.mpr rfl)
    · cases e
  | .tp ts, v, o, as, l, σ, ρ, ρ', h, hs, e => by
    cases h with
    | @fr _ d h =>
      cases d with
      | tuple ds =>
        unfold asgT at e
        split at e
        · rename_i hlen
          cases h with
          | @tup a xs _ h1 h2 =>
            have hl := h2.length
            obtain ⟨σ', l', r, k1, k2, k3, k4⟩ := asgs_ok ts (ORs.ofData h2) hs e
            refine ⟨σ', l', r, fun Q q => ?_, k2, k3, k4⟩
            exact ⟨a, xs, rfl, .inl (rdSub h1), by omega, k1 Q q⟩
        · cases e
      | _ =>
        unfold asgT at e
        cases e
    | @tup a vs xs as h1 h2 h3 =>
      unfold asgT at e
      split at e
      · rename_i hlen
        have hl := h3.length
        obtain ⟨σ', l', r, k1, k2, k3, k4⟩ := asgs_ok ts h3 hs e
        refine ⟨σ', l', r, fun Q q => ?_, k2, k3, k4⟩
        exact ⟨a, vs, rfl, .inl (.inl h1), by omega, k1 Q q⟩
      · cases e
    | lst h1 h2 =>
      unfold asgT at e
      cases e
    | dK h1 h2 =>
      unfold asgT at e
      cases e
    | dT h1 h2 =>
      unfold asgT at e
      cases e
theorem asgs_ok : ∀ (ts : List Tg) {vs : List V} {os : List OV} {as l : List Addr} {σ : L2.St} {ρ ρ' : En}, ORs K H P vs os as → ESl K tb H P σ ρ l → asgTs ts os ρ = some ρ' →
    ∃ σ' l' r, (∀ Q : L2.St → Hp → Prop, Q σ' H → gOfs K ts vs σ H Q) ∧ ESl K tb H P σ' ρ' l' ∧ (as ++ l).Perm (l' ++ r) ∧ ∀ i, i ∉ tgss ts → σ'[i]? = σ[i]?
  | [], vs, os, as, l, σ, ρ, ρ', h, hs, e => by
    cases h with
    | nil =>
      unfold asgTs at e
      cases e
      exact ⟨σ, l, [], fun Q q => ⟨rfl, q⟩, hs, by rw [List.append_nil]; exact .refl _, fun _ _ => rfl⟩
    | cons h1 h2 =>
      unfold asgTs at e
      cases e
  | t :: ts, vs, os, as, l, σ, ρ, ρ', h, hs, e => by
    cases h with
    | nil =>
      unfold asgTs at e
      cases e
    | @cons v vs o os as bs h1 h2 =>
      unfold asgTs at e
      cases ht : asgT t o ρ with
      | none => rw [ht] at e; cases e
      | some ρ1 =>
        rw [ht] at e
        obtain ⟨σ1, l1, r1, k1, k2, k3, k4⟩ := asg_ok t h1 hs ht
        obtain ⟨σ2, l2, r2, q1, q2, q3, q4⟩ := asgs_ok ts h2 k2 e
        refine ⟨σ2, l2, r2 ++ r1, fun Q q => ⟨v, vs, rfl, k1 _ (q1 Q q)⟩, q2, ?_, fun i hi => ?_⟩
        · have p1 : ((as ++ bs) ++ l).Perm (bs ++ (as ++ l)) := by
            rw [← List.append_assoc]
            exact (List.perm_append_comm).append_right l
          have p2 : (bs ++ (as ++ l)).Perm (bs ++ (l1 ++ r1)) := k3.append_left bs
          have p3 : (bs ++ (l1 ++ r1)).Perm (l2 ++ (r2 ++ r1)) := by
            rw [← List.append_assoc, ← List.append_assoc]
            exact q3.append_right r1
          exact (p1.trans p2).trans p3
        · unfold tgss at hi
          rw [List.mem_append, not_or] at hi
          rw [q4 i hi.2, k4 i hi.1]
end
theorem wipe_eq : ∀ (vs : List Nat) {σ σ' : L2.St}, σ.length = σ'.length → (∀ i, i ∉ vs → σ'[i]? = σ[i]?) → wipe σ' vs = wipe σ vs := fun vs σ σ' hl h => by
  refine List.ext_getElem? fun i => ?_
  by_cases hi : i ∈ vs
  · have key : ∀ (τ : L2.St) (vs : List Nat), i ∈ vs → (wipe τ vs)[i]? = if i < τ.length then some none else none := by
      intro τ vs hv
      induction vs with
      | nil => simp at hv
      | cons a r ih =>
        unfold wipe
        rw [List.getElem?_set]
        by_cases ha : a = i
        · subst ha
          rw [if_pos rfl, wipe_length]
        · rw [if_neg ha]
          rcases List.mem_cons.mp hv with z | z
          · exact absurd z.symm ha
          · exact ih z
    rw [key _ _ hi, key _ _ hi, hl]
  · rw [wipe_out hi, wipe_out hi, h i hi]
/-- slots wiped -/
theorem ESl.wip {σ : L2.St} : ∀ (vs : List Nat) {ρ : En} {l : List Addr}, ESl K tb H P σ ρ l → ∃ l', l'.Sublist l ∧ ESl K tb H P σ (wipeS ρ vs) l'
  | [], ρ, l, h => ⟨l, .refl _, h⟩
  | v :: vs, ρ, l, h => by
    obtain ⟨l1, s1, h1⟩ := ESl.wip vs h
    obtain ⟨l2, s2, h2⟩ := h1.drop v
    exact ⟨l2, s2.trans s1, h2⟩
theorem wipeS_at : ∀ (vs : List Nat) (ρ : En) (i : Nat) (o : OV), i ∈ vs → (wipeS ρ vs)[i]? ≠ some (some o)
  | [], _, _, _, h => by simp at h
  | v :: vs, ρ, i, o, h => by
    unfold wipeS
    rw [List.getElem?_set]
    by_cases hv : v = i
    · rw [if_pos hv]
      split
      · exact fun z => by cases z
      · exact fun z => by cases z
    · rw [if_neg hv]
      rcases List.mem_cons.mp h with z | z
      · exact absurd z.symm hv
      · exact wipeS_at vs ρ i o z
/-- .. the values there do not matter -/
theorem ESl.wiped {vs : List Nat} {ρ : En} : ∀ (us : List Nat) {σ : L2.St} {l : List Addr}, (∀ i ∈ us, i ∈ vs) → ESl K tb H P σ (wipeS ρ vs) l → ESl K tb H P (wipe σ us) (wipeS ρ vs) l
  | [], σ, l, _, h => h
  | u :: us, σ, l, hu, h => (ESl.wiped us (fun i hi => hu i (List.mem_cons_of_mem _ hi)) h).any fun o => wipeS_at vs ρ u o (hu u List.mem_cons_self)
theorem ESl.unwiped {vs : List Nat} {ρ : En} {σ σ' : L2.St} {l : List Addr} (h : ESl K tb H P σ (wipeS ρ vs) l) (e : wipe σ vs = wipe σ' vs) : ESl K tb H P σ' (wipeS ρ vs) l := by
  have key : ∀ (us : List Nat) {τ τ' : L2.St} {l : List Addr}, (∀ i ∈ us, i ∈ vs) → τ.length = τ'.length → (∀ i, i ∉ us → τ'[i]? = τ[i]?) → ESl K tb H P τ (wipeS ρ vs) l → ESl K tb H P τ' (wipeS ρ vs) l := by
    intro us
    induction us with
    | nil =>
      intro τ τ' l _ hl hk h
      have : τ' = τ := List.ext_getElem? fun i => hk i (by simp)
      rw [this]
      exact h
    | cons u us ih =>
      intro τ τ' l hu hl hk h
      have h1 : ESl K tb H P (τ.set u ((τ'[u]?).getD none)) (wipeS ρ vs) l := h.any fun o => wipeS_at vs ρ u o (hu u List.mem_cons_self)
      refine ih (fun i hi => hu i (List.mem_cons_of_mem _ hi)) (by rw [List.length_set, hl]) (fun i hi => ?_) h1
      rw [List.getElem?_set]
      by_cases hui : u = i
      · subst hui
        rw [if_pos rfl]
        by_cases hlt : u < τ'.length
        · rw [List.getElem?_eq_getElem hlt, if_pos (by omega)]
          rfl
        · rw [List.getElem?_eq_none (by omega), if_neg (by omega)]
      · rw [if_neg hui]
        exact hk i (by simp only [List.mem_cons, not_or]; exact ⟨fun z => hui z.symm, hi⟩)
  have hl : σ.length = σ'.length := by
    have := congrArg List.length e
    rw [wipe_length, wipe_length] at this
    exact this
  refine key vs (fun _ h => h) hl (fun i hi => ?_) h
  have this : (wipe σ vs)[i]? = (wipe σ' vs)[i]? := by rw [e]
  rw [wipe_out hi, wipe_out hi] at this
  exact this.symm
end
section
variable {K : PySem.W.Frag} {tb : Option Addr} {T : OP} {σ σ2 : L2.St} {H H' H1 H2 : Hp} {ρ ρ' ρ1 ρ2 : En} {own own' own1 own2 tv tv1 tv2 : List Addr} {q q1 q2 : Bool}
/-- other slots, owning a part of what was owned -/
theorem Post.slots {l2 r : List Addr} (p : Post K tb T σ H own q H' ρ' own' tv) (h : ESl K tb H' (Own T (own' ++ tv)) σ2 ρ2 l2) (pm : own'.Perm (l2 ++ r)) : Post K tb T σ2 H own q H' ρ2 l2 tv := by
  have sub : ∀ a, a ∈ l2 ++ tv → a ∈ own' ++ tv := fun a ha => by
    rcases List.mem_append.mp ha with z | z
    · exact List.mem_append_left _ (pm.mem_iff.mpr (List.mem_append_left _ z))
    · exact List.mem_append_right _ z
  have nd : (l2 ++ tv).Nodup := by
    have h1 : ((l2 ++ r) ++ tv).Nodup := (pm.append_right tv).nodup_iff.mp p.nd
    exact h1.sublist ((List.sublist_append_left l2 r).append (.refl tv))
  refine ⟨p.ext.sub sub, ⟨l2, h.tr (fun a o n e => ⟨fun z => n ?_, e⟩) (fun _ _ _ e => e), .refl _⟩, nd, fun a ha => p.dis a (sub a ha), p.qui⟩
  rcases z with z | z
  · exact .inl z
  · exact .inr (sub a z)
/-- an object in hand is written -/
theorem Post.write {D : Addr} {o : HO} (p : Post K tb T σ H own q H' ρ' own' tv) (hD : D ∈ tv) (hn : H D = none) (he : H' D ≠ none) : Post K tb T σ H own q (upd H' D o) ρ' own' tv := by
  refine ⟨⟨fun a u h e => ?_, fun a h => ?_, p.ext.new⟩, ?_, p.nd, p.dis, fun hq a u e => ?_⟩
  · rw [upd_ne (ne_of_none e hn)]
    exact p.ext.keep a u h e
  · by_cases ha : a = D
    · rw [ha, upd_same]
      simp
    · rw [upd_ne ha]
      exact p.ext.live a h
  · obtain ⟨l, e, pm⟩ := p.es
    have nd := List.nodup_append.mp p.nd
    refine ⟨l, e.tr (fun a u h e => ⟨h, ?_⟩) (fun a ha u e => ?_), pm⟩
    · rw [upd_ne (fun z => h (by rw [z]; exact .inr (List.mem_append_right _ hD)))]
      exact e
    · rw [upd_ne (fun z => nd.2.2 a (pm.mem_iff.mp ha) D hD z)]
      exact e
  · rw [upd_ne (ne_of_none e hn)]
    exact p.qui hq a u e
theorem Post.preS {σ0 : L2.St} (p : Post K tb T σ H own q H' ρ' own' tv) (h : Pre K tb T H σ0 ρ own) (ht : ∀ a ∈ tv, H' a ≠ none) : Pre K tb (Own T tv) H' σ ρ' own' := by
  refine ⟨?_, (List.nodup_append.mp p.nd).1, fun a ha z => ?_, fun a ha => ?_⟩
  · rw [← own_app]
    exact p.es
  · rcases z with z | z
    · exact p.dis a (List.mem_append_left _ ha) z
    · exact (List.nodup_append.mp p.nd).2.2 a ha a z rfl
  · rcases ha with z | z
    · exact p.ext.live a (h.al a z)
    · exact ht a z
/-- what the slots own, in a start -/
theorem Pre.slots {l2 r : List Addr} (p : Pre K tb T H σ ρ own) (h : ESl K tb H (Own T own) σ2 ρ2 l2) (pm : own.Perm (l2 ++ r)) : Pre K tb T H σ2 ρ2 l2 := by
  have sub : ∀ a, a ∈ l2 → a ∈ own := fun a ha => pm.mem_iff.mpr (List.mem_append_left _ ha)
  refine ⟨⟨l2, h.tr (fun a o n e => ⟨fun z => n ?_, e⟩) (fun _ _ _ e => e), .refl _⟩, (pm.nodup_iff.mp p.nd).sublist (List.sublist_append_left l2 r), fun a ha => p.dis a (sub a ha), p.al⟩
  rcases z with z | z
  · exact .inl z
  · exact .inr (sub a z)
end

/-! ### a comprehension of one clause -/
abbrev WF : WX := fun _ _ _ _ => False
def turnF (t : Tg) (vs : List Nat) (fT : En → R Bool) (fe : En → R (List OV)) (d : PyData) (ρ : En) : R (List OV) := match asgT t (.fr d) (wipeS ρ vs) with
  | none => none
  | some ρ => (fT ρ).bind fun b ρ => if b then fe ρ else R.ok [] ρ
def oneF (fe : En → R OV) (ρ : En) : R (List OV) := (fe ρ).bind fun x ρ1 => R.ok [x] ρ1
def compF (fI : En → R (List PyData)) (t : Tg) (vs : List Nat) (fT : En → R Bool) (fe : En → R (List OV)) (ρ : En) : R OV :=
  ((fI ρ).bind fun ds ρ1 => R.noE (loopL (turnF t vs fT fe) ds ρ1)).bind fun xs ρ1 => if small xs.length then R.ok (.lst xs) (wipeS ρ1 vs) else none
theorem noE_ok {α : Type} {x : R α} {r : Except Nat α × En} (h : R.noE x = some r) : ∃ a ρ, r = (.ok a, ρ) ∧ x = some (.ok a, ρ) := by
  unfold R.noE at h
  split at h
  · cases h
  · rename_i hn
    obtain ⟨r, ρ⟩ := r
    cases r with
    | error c => exact absurd h (hn c ρ)
    | ok a => exact ⟨a, ρ, rfl, h⟩
theorem loopL_cons {f : PyData → En → R (List OV)} {d : PyData} {ds : List PyData} {ρ ρe : En} {xs : List OV} (h : loopL f (d :: ds) ρ = some (.ok xs, ρe)) :
    ∃ x ρ1 r, f d ρ = some (.ok x, ρ1) ∧ loopL f ds ρ1 = some (.ok r, ρe) ∧ xs = x ++ r := by
  unfold loopL at h
  rcases bind_some h with ⟨c, ρ1, e1, e2⟩ | ⟨x, ρ1, e1, e2⟩
  · cases e2
  rcases bind_some e2 with ⟨c, ρ2, e3, e4⟩ | ⟨y, ρ2, e3, e4⟩
  · cases e4
  cases e4
  exact ⟨x, ρ1, y, e1, e3, rfl⟩
section
variable {X : Cx} {er : Nat → Value} {W : WX}
/-- at a turn -/
structure LcAt (K : PySem.W.Frag) (tb : Option Addr) (T : OP) (σ : L2.St) (H1 : Hp) (own1 : List Addr) (qb : Bool) (D : Addr) (vs : List Nat) (f : PyData → En → R (List OV)) (xs : List OV) (ρe : En) (ds : List PyData) (H : Hp) : Prop where
  at_ : ∃ ρi owni tvi accO accV rest, Post K tb T σ H1 own1 qb H (wipeS ρi vs) owni (D :: tvi) ∧ H D = some (.lst accV) ∧ ORs K H (Own T (owni ++ (D :: tvi))) accV accO tvi ∧ loopL f ds ρi = some (.ok rest, ρe) ∧ accO ++ rest = xs
theorem c_lc {fI : En → R (List PyData)} {t : Tg} {vs : List Nat} {fT : En → R Bool} {fe : En → R OV} {qi qt qe m pe : Bool} (hts : ∀ i ∈ tgs t, i ∈ vs) {σ : L2.St} {H : Hp} {Q : VK}
    (h : tE X.K er W (compF fI t vs fT (oneF fe)) (qi && (qt && qe)) m false σ H Q) :
    tLc (tI X.K er W fI qi) (gOf X.K t) (tT X.K er WF fT qt) (tE X.K er WF fe qe false pe) vs σ H Q := by
  obtain ⟨T, ρ, own, r, p, e, aft⟩ := h
  unfold compF at e
  rcases bind_some e with ⟨c, ρ1, e1, e2⟩ | ⟨xs, ρe, e1, e2⟩
  · rcases bind_some e1 with ⟨c', ρ1', e3, e4⟩ | ⟨ds, ρ1', e3, e4⟩
    · cases e4
      exact ⟨T, ρ, own, _, p, e3, aft.err c ρ1 e2⟩
    · obtain ⟨_, _, z, _⟩ := noE_ok e4
      cases z
  rcases bind_some e1 with ⟨c', ρ1', e3, e4⟩ | ⟨ds, ρ1, e3, e4⟩
  · cases e4
  obtain ⟨xs', ρe', z, e5⟩ := noE_ok e4
  cases z
  split at e2
  rotate_left
  · cases e2
  rename_i hsm
  have e2 := ok_some e2
  subst e2
  have hsize : xs.length < sizeLine := by
    have := small_le hsm
    have := sizeLine_big
    omega
  refine ⟨T, ρ, own, _, p, e3, fun J H1 own1 p1 wk D hD => ?_⟩
  have pr := pre0 p1 p
  -- the start
  have start : LcAt X.K (tbE er) T σ H1 own1 (qt && qe) D vs (turnF t vs fT (oneF fe)) xs ρe ds (upd H1 D (.lst [])) := by
    have b0 : Post X.K (tbE er) T σ H1 own1 (qt && qe) (upd H1 D (.lst [])) ρ1 own1 [D] := (pr.post.newO (o := .lst []) pr.al (fun x hx => absurd hx (by simp)) hD).quiet fun _ => rfl
    obtain ⟨l, es, pm⟩ := b0.es
    obtain ⟨l', sub, es'⟩ := es.wip vs
    obtain ⟨d, pd⟩ := sub.exists_perm_append
    exact ⟨ρ1, l', [], [], [], xs, b0.slots es' (pm.symm.trans pd), upd_same, .nil, e5, rfl⟩
  refine ⟨fun i m H => m = ds.length - i ∧ i ≤ ds.length ∧ LcAt X.K (tbE er) T σ H1 own1 (qt && qe) D vs (turnF t vs fT (oneF fe)) xs ρe (ds.drop i) H, ⟨ds.length, rfl, Nat.zero_le _, start⟩, ?_⟩
  rintro i m H5 ⟨rfl, hi, ⟨ρi, owni, tvi, accO, accV, rest, b, hDv, ac, lp, ex⟩⟩
  have alv : ∀ x ∈ D :: tvi, H5 x ≠ none := fun x hx => by
    rcases List.mem_cons.mp hx with z | z
    · rw [z, hDv]
      simp
    · exact ac.thereN x z
  have tr5 : Tr (Own T own1) H1 (Own T (owni ++ (D :: tvi))) H5 := b.tr
  by_cases hlt : i < ds.length
  · right
    have hd : ds[i]? = some ds[i] := List.getElem?_eq_getElem hlt
    have hdrop : ds.drop i = ds[i] :: ds.drop (i + 1) := List.drop_eq_getElem_cons hlt
    rw [hdrop] at lp
    obtain ⟨x, ρn, r', f1, f2, f3⟩ := loopL_cons lp
    refine ⟨wk.go H5 _ i tr5 hlt, fun H' => LcAt X.K (tbE er) T σ H1 own1 (qt && qe) D vs (turnF t vs fT (oneF fe)) xs ρe (ds.drop (i + 1)) H', fun H' w => ⟨ds.length - (i + 1), by omega, rfl, hlt, w⟩, fun v H6 y => ?_⟩
    obtain ⟨gr, rv⟩ := wk.yld H5 _ i _ tr5 (b.alive pr alv) hd v H6 y
    -- the heap may have grown
    have b6 : Post X.K (tbE er) T σ H1 own1 (qt && qe) H6 (wipeS ρi vs) owni (D :: tvi) ∧ H6 D = some (.lst accV) ∧ ORs X.K H6 (Own T (owni ++ (D :: tvi))) accV accO tvi ∧ ∀ x ∈ D :: tvi, H6 x ≠ none := by
      rcases gr with rfl | ⟨a, o, hn, rfl⟩
      · exact ⟨b, hDv, ac, alv⟩
      · refine ⟨b.newF hn, by rw [upd_ne (ne_of_none hDv hn)]; exact hDv, ac.tr (fun c u h e => ⟨h, by rw [upd_ne (ne_of_none e hn)]; exact e⟩) (fun c hc u e => by rw [upd_ne (ne_of_none e hn)]; exact e), fun x hx => ?_⟩
        have := alv x hx
        cases hh : H5 x with
        | none => exact absurd hh this
        | some u => rw [upd_ne (ne_of_none hh hn), hh]; simp
    obtain ⟨b6, hD6, ac6, alv6⟩ := b6
    -- the target
    unfold turnF at f1
    cases ha : asgT t (.fr ds[i]) (wipeS ρi vs) with
    | none => rw [ha] at f1; cases f1
    | some ρ6 =>
      rw [ha] at f1
      dsimp only at f1
      obtain ⟨l6, es6, pm6⟩ := b6.es
      have es6w := ESl.wiped (vs := vs) vs (fun _ h => h) es6
      obtain ⟨σ2, l2, r2, k1, k2, k3, k4⟩ := asg_ok t (OR.fr rv) es6w ha
      rw [List.nil_append] at k3
      refine k1 _ ?_
      have hlen : (wipe σ vs).length = σ2.length := by
        rw [wipe_length, b6.length, k2.length]
        exact (asgT_len t ha).symm
      have hw : wipe σ2 vs = wipe (wipe σ vs) vs := wipe_eq vs hlen fun i hi => k4 i fun z => hi (hts i z)
      have hw2 : wipe (wipe σ vs) vs = wipe σ vs := wipe_eq vs (wipe_length _ _).symm fun i hi => wipe_out hi
      refine ⟨hw.trans hw2, ?_⟩
      have b7 : Post X.K (tbE er) T σ2 H1 own1 (qt && qe) H6 ρ6 l2 (D :: tvi) := b6.slots k2 (pm6.symm.trans k3)
      have pr7 := b7.preS pr alv6
      refine firstT pr7 f1 (fun c ρ' z => by cases z) fun bt ρ8 f4 H8 own8 p8 => ?_
      have b8 := b7.seq p8
      rw [List.nil_append] at b8
      have pr8 := pre0 p8 pr7
      have keepT : ∀ {H9 : Hp} {ρ9 : En} {own9 tv9 : List Addr} {q9 : Bool}, Post X.K (tbE er) (Own T (D :: tvi)) σ2 H8 own8 q9 H9 ρ9 own9 tv9 → H9 D = some (.lst accV) ∧ ORs X.K H9 (Own T (own9 ++ (tv9 ++ (D :: tvi)))) accV accO tvi := by
        intro H9 ρ9 own9 tv9 q9 p9
        have hD8 := p8.other pr7 (a := D) (.inr List.mem_cons_self) _ hD6
        have hD9 := p9.other pr8 (a := D) (.inr List.mem_cons_self) _ hD8
        refine ⟨hD9, ?_⟩
        have a7 : ORs X.K H6 (Own (Own T (D :: tvi)) l2) accV accO tvi := by
          rw [← own_app]
          refine ac6.tr (fun a u n e => ⟨fun z => n ?_, e⟩) fun _ _ _ e => e
          rcases z with z | z
          · exact .inl z
          · rcases List.mem_append.mp z with z | z
            · exact .inr (List.mem_append_left _ (pm6.mem_iff.mp (k3.mem_iff.mpr (List.mem_append_left _ z))))
            · exact .inr (List.mem_append_right _ z)
        have a8 := ORs.held pr7 a7 p8 fun x hx => .inr (List.mem_cons_of_mem _ hx)
        rw [List.append_nil] at a8
        have a9 := ORs.held pr8 a8 p9 fun x hx => .inr (List.mem_cons_of_mem _ hx)
        rw [← own_app, List.append_assoc] at a9
        exact a9
      cases bt with
      | false =>
        simp only [Bool.false_eq_true, if_false] at f4 ⊢
        have f4 := ok_some f4
        obtain ⟨rfl, rfl⟩ : ([] : List OV) = x ∧ ρ8 = ρn := by
          cases f4
          exact ⟨rfl, rfl⟩
        obtain ⟨hD9, ac9⟩ := keepT pr8.post
        rw [List.nil_append] at ac9
        obtain ⟨l9, es9, pm9⟩ := b8.es
        obtain ⟨l10, sub, es10⟩ := es9.wip vs
        obtain ⟨d10, pd10⟩ := sub.exists_perm_append
        have b9 : Post X.K (tbE er) T σ H1 own1 (qt && qe) H8 (wipeS ρ8 vs) l10 (D :: tvi) := (b8.slots (es10.unwiped (hw.trans hw2)) (pm9.symm.trans pd10)).quiet fun z => by
          rw [Bool.and_eq_true] at z ⊢
          rw [Bool.and_eq_true]
          exact ⟨z, z.1⟩
        refine ⟨ρ8, l10, tvi, accO, accV, r', b9, hD9, ac9.tr (fun a u n e => ⟨fun z => n ?_, e⟩) (fun _ _ _ e => e), f2, by rw [← ex, f3]; rfl⟩
        rcases z with z | z
        · exact .inl z
        · rcases List.mem_append.mp z with z | z
          · exact .inr (List.mem_append_left _ (pm9.mem_iff.mp (sub.subset z)))
          · exact .inr (List.mem_append_right _ z)
      | true =>
        simp only [if_true] at f4 ⊢
        unfold oneF at f4
        refine first pr8 f4 (fun c ρ' z => by cases z) fun z ρ9 f5 y9 H9 own9 tv9 p9 v9 => ?_
        have f5 := ok_some f5
        obtain ⟨rfl, rfl⟩ : [z] = x ∧ ρ9 = ρn := by
          cases f5
          exact ⟨rfl, rfl⟩
        obtain ⟨hD9, ac9⟩ := keepT p9
        have b9 := b8.seq p9
        have z9 := v9.sep
        rw [← own_app, List.append_assoc] at z9
        have eaux : accO ++ ([z] ++ r') = xs := by rw [← ex, f3]
        refine ⟨accV, hD9, ?_, ?_⟩
        · have := ac9.length
          have := congrArg List.length eaux
          simp only [List.length_append] at this
          omega
        have hD1 : H1 D = none := hD
        have b10 := b9.write (o := .lst (accV ++ [y9])) (D := D) (List.mem_append_right _ List.mem_cons_self) hD1 (by rw [hD9]; simp)
        have nd9 := List.nodup_append.mp b9.nd
        have ndt := List.nodup_append.mp nd9.2.1
        have nDt : D ∉ tvi := (List.nodup_cons.mp ndt.2.1).1
        have nD9 : D ∉ tv9 := fun z => ndt.2.2 D z D List.mem_cons_self rfl
        have tr10 : Tr (Own T (own9 ++ (tv9 ++ (D :: tvi)))) H9 (Own T (own9 ++ (tv9 ++ (D :: tvi)))) (upd H9 D (.lst (accV ++ [y9]))) := fun a u n e => ⟨n, by
          rw [upd_ne (fun z => n (by rw [z]; exact .inr (List.mem_append_right _ (List.mem_append_right _ List.mem_cons_self))))]
          exact e⟩
        have ac10 : ORs X.K (upd H9 D (.lst (accV ++ [y9]))) (Own T (own9 ++ (tv9 ++ (D :: tvi)))) (accV ++ [y9]) (accO ++ [z]) (tvi ++ (tv9 ++ [])) :=
          (ac9.tr tr10 fun a ha u e => by rw [upd_ne (fun (w : a = D) => nDt (by rw [← w]; exact ha))]; exact e).append (.cons (z9.tr tr10 fun a ha u e => by rw [upd_ne (fun (w : a = D) => nD9 (by rw [← w]; exact ha))]; exact e) .nil)
        rw [List.append_nil] at ac10
        have pmt : (tv9 ++ (D :: tvi)).Perm (D :: (tvi ++ tv9)) := (List.perm_append_comm).trans (by rw [List.cons_append])
        obtain ⟨l9, es9, pm9⟩ := b10.es
        obtain ⟨l10, sub, es10⟩ := es9.wip vs
        obtain ⟨d10, pd10⟩ := sub.exists_perm_append
        have b11 : Post X.K (tbE er) T σ H1 own1 (qt && qe) (upd H9 D (.lst (accV ++ [y9]))) (wipeS ρ9 vs) l10 (D :: (tvi ++ tv9)) := ((b10.slots (es10.unwiped (hw.trans hw2)) (pm9.symm.trans pd10)).quiet fun z => by
          simp only [Bool.and_eq_true] at z ⊢
          exact ⟨⟨z, z.1⟩, z.2⟩).perm pmt
        refine ⟨ρ9, l10, tvi ++ tv9, accO ++ [z], accV ++ [y9], r', b11, upd_same, ac10.tr (fun a u n e => ⟨fun w => n ?_, e⟩) (fun _ _ _ e => e), f2, by rw [List.append_assoc]; exact eaux⟩
        rcases w with w | w
        · exact .inl w
        · rcases List.mem_append.mp w with w | w
          · exact .inr (List.mem_append_left _ (pm9.mem_iff.mp (sub.subset w)))
          · exact .inr (List.mem_append_right _ (pmt.mem_iff.mpr w))
  · left
    have ei : i = ds.length := by omega
    subst ei
    refine ⟨wk.stop H5 _ _ tr5 (Nat.le_refl _), ?_⟩
    rw [List.drop_length] at lp
    have lp := ok_some (show R.ok [] ρi = some (.ok rest, ρe) from lp)
    cases lp
    rw [List.append_nil] at ex
    subst ex
    have fin := seq0 p1 b
    exact aft (.ref D) H5 owni (D :: tvi) fin (.inl ⟨.lst hDv ac, fun z => by cases z⟩)
end
end DP

set_option Elab.async false
set_option linter.all false
set_option autoImplicit false
set_option maxRecDepth 100000
set_option maxHeartbeats 1000000
/-! DP, part N2: comprehensions of two clauses. -/
namespace DP
open PySem PySem.Spec PyProof.Rows L2
section
variable {X : Cx} {er : Nat → Value} {W : WX}
/-- the row of a comprehension under way: the slots, what D holds, what has not changed since H0 -/
structure RowAt (K : PySem.W.Frag) (tb : Option Addr) (T : OP) (H1 : Hp) (own1 : List Addr) (q : Bool) (D : Addr) (P0 : OP) (H0 : Hp) (σ : L2.St) (ρ : En) (acc : List OV) (H : Hp) : Prop where
  at_ : ∃ own tv accV, Post K tb T σ H1 own1 q H ρ own (D :: tv) ∧ H D = some (.lst accV) ∧ ORs K H (Own T (own ++ (D :: tv))) accV acc tv ∧ Tr P0 H0 (Own T (own ++ (D :: tv))) H
section
variable {K : PySem.W.Frag} {tb : Option Addr} {T : OP} {H1 : Hp} {own1 : List Addr} {q : Bool} {D : Addr} {P0 : OP} {H0 : Hp} {σ σ2 : L2.St} {ρ : En} {acc : List OV} {H : Hp}
/-- the slots of the comprehension are emptied -/
theorem RowAt.wip {vs : List Nat} (h : RowAt K tb T H1 own1 q D P0 H0 σ2 ρ acc H) (hw : wipe σ2 vs = wipe σ vs) : RowAt K tb T H1 own1 q D P0 H0 σ (wipeS ρ vs) acc H := by
  obtain ⟨own, tv, accV, b, hD, ac, t⟩ := h.at_
  obtain ⟨l9, es9, pm9⟩ := b.es
  obtain ⟨l10, sub, es10⟩ := es9.wip vs
  obtain ⟨d10, pd10⟩ := sub.exists_perm_append
  have b9 := b.slots (es10.unwiped hw) (pm9.symm.trans pd10)
  have tr : Tr (Own T (own ++ (D :: tv))) H (Own T (l10 ++ (D :: tv))) H := fun a u n e => ⟨fun z => n (by
    rcases z with z | z
    · exact .inl z
    · rcases List.mem_append.mp z with z | z
      · exact .inr (List.mem_append_left _ (pm9.mem_iff.mp (sub.subset z)))
      · exact .inr (List.mem_append_right _ z)), e⟩
  exact ⟨l10, tv, accV, b9, hD, ac.tr tr (fun _ _ _ e => e), t.trans tr⟩
theorem RowAt.trans {P1 : OP} {H2 : Hp} (h : RowAt K tb T H1 own1 q D P1 H2 σ ρ acc H) (t : Tr P0 H0 P1 H2) : RowAt K tb T H1 own1 q D P0 H0 σ ρ acc H := by
  obtain ⟨own, tv, accV, b, hD, ac, t2⟩ := h.at_
  exact ⟨own, tv, accV, b, hD, ac, t.trans t2⟩
end
/-- what a turn's body has to do: from the row under way it comes to the next one -/
def BodyOk (K : PySem.W.Frag) (tb : Option Addr) (T : OP) (H1 : Hp) (own1 : List Addr) (q : Bool) (D : Addr) (fe : En → R (List OV)) (most : Nat) (Bd : L2.St → Hp → (Hp → Prop) → Prop) : Prop :=
  ∀ (σ : L2.St) (ρ ρn : En) (acc x : List OV) (P0 : OP) (H0 H : Hp) (Nx : Hp → Prop), RowAt K tb T H1 own1 q D P0 H0 σ ρ acc H → fe ρ = some (.ok x, ρn) → acc.length + x.length ≤ most →
    (∀ H', RowAt K tb T H1 own1 q D P0 H0 σ ρn (acc ++ x) H' → Nx H') → Bd σ H Nx
/-- the body of the last clause: the item is added -/
theorem body_one {T : OP} {H1 : Hp} {own1 : List Addr} {q qe pe : Bool} {D : Addr} {fe : En → R OV} {σ0 : L2.St} {ρ0 : En} (pr : Pre X.K (tbE er) T H1 σ0 ρ0 own1) (hD : H1 D = none) (hq : q = true → qe = true) {most : Nat} (hm : most < sizeLine) :
    BodyOk X.K (tbE er) T H1 own1 q D (oneF fe) most (fun σ H Nx => tE X.K er WF fe qe false pe σ H fun y H4 => ∃ acc, H4 D = some (.lst acc) ∧ acc.length < sizeLine ∧ Nx (upd H4 D (.lst (acc ++ [y])))) := by
  intro σ ρ ρn acc x P0 H0 H Nx h f4 hl hN
  obtain ⟨own8, tvi, accV, b8, hD8, ac8, t8⟩ := h.at_
  have alv : ∀ x ∈ D :: tvi, H x ≠ none := fun x hx => by
    rcases List.mem_cons.mp hx with z | z
    · rw [z, hD8]
      simp
    · exact ac8.thereN x z
  have pr8 := b8.preS pr alv
  unfold oneF at f4
  refine first pr8 f4 (fun c ρ' z => by cases z) fun z ρ9 f5 y9 H9 own9 tv9 p9 v9 => ?_
  have f5 := ok_some f5
  obtain ⟨rfl, rfl⟩ : [z] = x ∧ ρ9 = ρn := by
    cases f5
    exact ⟨rfl, rfl⟩
  have hD9 := p9.other pr8 (a := D) (.inr List.mem_cons_self) _ hD8
  have ac8' : ORs X.K H (Own (Own T (D :: tvi)) own8) accV acc tvi := by
    rw [← own_app]
    exact ac8
  have ac9 := ORs.held pr8 ac8' p9 fun x hx => .inr (List.mem_cons_of_mem _ hx)
  rw [← own_app, List.append_assoc] at ac9
  have b9 := b8.seq p9
  have z9 := v9.sep
  rw [← own_app, List.append_assoc] at z9
  refine ⟨accV, hD9, ?_, ?_⟩
  · have := ac9.length
    rw [List.length_singleton] at hl
    omega
  have b10 := b9.write (o := .lst (accV ++ [y9])) (D := D) (List.mem_append_right _ List.mem_cons_self) hD (by rw [hD9]; simp)
  have nd9 := List.nodup_append.mp b9.nd
  have ndt := List.nodup_append.mp nd9.2.1
  have nDt : D ∉ tvi := (List.nodup_cons.mp ndt.2.1).1
  have nD9 : D ∉ tv9 := fun z => ndt.2.2 D z D List.mem_cons_self rfl
  have tr10 : Tr (Own T (own9 ++ (tv9 ++ (D :: tvi)))) H9 (Own T (own9 ++ (tv9 ++ (D :: tvi)))) (upd H9 D (.lst (accV ++ [y9]))) := fun a u n e => ⟨n, by
    rw [upd_ne (fun z => n (by rw [z]; exact .inr (List.mem_append_right _ (List.mem_append_right _ List.mem_cons_self))))]
    exact e⟩
  have ac10 : ORs X.K (upd H9 D (.lst (accV ++ [y9]))) (Own T (own9 ++ (tv9 ++ (D :: tvi)))) (accV ++ [y9]) (acc ++ [z]) (tvi ++ (tv9 ++ [])) :=
    (ac9.tr tr10 fun a ha u e => by rw [upd_ne (fun (w : a = D) => nDt (by rw [← w]; exact ha))]; exact e).append (.cons (z9.tr tr10 fun a ha u e => by rw [upd_ne (fun (w : a = D) => nD9 (by rw [← w]; exact ha))]; exact e) .nil)
  rw [List.append_nil] at ac10
  have pmt : (tv9 ++ (D :: tvi)).Perm (D :: (tvi ++ tv9)) := (List.perm_append_comm).trans (by rw [List.cons_append])
  have b11 := (b10.quiet (q2 := q) (fun z => by
    rw [Bool.and_eq_true]
    exact ⟨z, hq z⟩)).perm pmt
  have t9 := p9.tr
  rw [← own_app, ← own_app, List.append_assoc] at t9
  have eo : Own T (own9 ++ (tv9 ++ (D :: tvi))) = Own T (own9 ++ (D :: (tvi ++ tv9))) := own_perm (pmt.append_left _)
  rw [eo] at ac10 tr10 t9
  exact hN _ ⟨own9, tvi ++ tv9, accV ++ [y9], b11, upd_same, ac10, (t8.trans t9).trans tr10⟩
/-- the turns of a clause -/
theorem loop_core {t : Tg} {vs : List Nat} {fT : En → R Bool} {fe : En → R (List OV)} {q qt : Bool} {T : OP} {H1 : Hp} {own1 : List Addr} {D : Addr} {σ0 : L2.St} {ρ0 : En} (pr : Pre X.K (tbE er) T H1 σ0 ρ0 own1) (hD : H1 D = none) (hts : ∀ i ∈ tgs t, i ∈ vs) (hq : q = true → qt = true)
    {most : Nat} {Bd : L2.St → Hp → (Hp → Prop) → Prop} (body : BodyOk X.K (tbE er) T H1 own1 q D fe most Bd) {σ : L2.St} {J : It} {P0 : OP} {H0 : Hp} {ds : List PyData} (wk : Walk X.K J H0 P0 ds)
    {ρ ρe : En} {acc xs : List OV} {Hs : Hp} (st : RowAt X.K (tbE er) T H1 own1 q D P0 H0 σ ρ acc Hs) (lp : loopL (turnF t vs fT fe) ds ρ = some (.ok xs, ρe)) (hl : acc.length + xs.length ≤ most) {Qe : Hp → Prop}
    (hE : ∀ H, RowAt X.K (tbE er) T H1 own1 q D P0 H0 σ (wipeS ρe vs) (acc ++ xs) H → Qe H) :
    ∃ W0 : Nat → Nat → Hp → Prop, (∃ m, W0 0 m Hs) ∧ ∀ i m H, W0 i m H →
      (J.stop i H ∧ Qe H) ∨ (J.go i H ∧ ∃ Nx : Hp → Prop, (∀ H', Nx H' → ∃ m', m' < m ∧ W0 (i + 1) m' H') ∧ ∀ x H', J.yld i H x H' → (gOf X.K t) x (wipe σ vs) H' fun σ2 H2 => wipe σ2 vs = wipe σ vs ∧ (tT X.K er WF fT qt) σ2 H2 fun b H3 =>
        if b = true then Bd σ2 H3 Nx else Nx H3) := by
  let At : Nat → Hp → Prop := fun i H => ∃ ρi accO rest, RowAt X.K (tbE er) T H1 own1 q D P0 H0 σ (wipeS ρi vs) accO H ∧ loopL (turnF t vs fT fe) (ds.drop i) ρi = some (.ok rest, ρe) ∧ accO ++ rest = acc ++ xs
  refine ⟨fun i m H => m = ds.length - i ∧ i ≤ ds.length ∧ At i H, ⟨ds.length, rfl, Nat.zero_le _, ρ, acc, xs, st.wip rfl, lp, rfl⟩, ?_⟩
  rintro i m H5 ⟨rfl, hi, ⟨ρi, accO, rest, b5, lp, ex⟩⟩
  obtain ⟨owni, tvi, accV, b, hDv, ac, tr5⟩ := b5.at_
  have alv : ∀ x ∈ D :: tvi, H5 x ≠ none := fun x hx => by
    rcases List.mem_cons.mp hx with z | z
    · rw [z, hDv]
      simp
    · exact ac.thereN x z
  by_cases hlt : i < ds.length
  · right
    have hd : ds[i]? = some ds[i] := List.getElem?_eq_getElem hlt
    have hdrop : ds.drop i = ds[i] :: ds.drop (i + 1) := List.drop_eq_getElem_cons hlt
    rw [hdrop] at lp
    obtain ⟨x, ρn, r', f1, f2, f3⟩ := loopL_cons lp
    refine ⟨wk.go H5 _ i tr5 hlt, fun H' => At (i + 1) H', fun H' w => ⟨ds.length - (i + 1), by omega, rfl, hlt, w⟩, fun v H6 y => ?_⟩
    have alive : ∀ x, Own T (owni ++ (D :: tvi)) x → H5 x ≠ none := fun x h => by
      rcases h with h | h
      · exact b.ext.live x (pr.al x h)
      · rcases List.mem_append.mp h with h | h
        · obtain ⟨u, e⟩ := b.there x h
          rw [e]
          simp
        · exact alv x h
    obtain ⟨gr, rv⟩ := wk.yld H5 _ i _ tr5 alive hd v H6 y
    have b6 : Post X.K (tbE er) T σ H1 own1 q H6 (wipeS ρi vs) owni (D :: tvi) ∧ H6 D = some (.lst accV) ∧ ORs X.K H6 (Own T (owni ++ (D :: tvi))) accV accO tvi ∧ (∀ x ∈ D :: tvi, H6 x ≠ none) ∧ Tr P0 H0 (Own T (owni ++ (D :: tvi))) H6 := by
      rcases gr with rfl | ⟨a, o, hn, rfl⟩
      · exact ⟨b, hDv, ac, alv, tr5⟩
      · refine ⟨b.newF hn, by rw [upd_ne (ne_of_none hDv hn)]; exact hDv, ac.tr (fun c u h e => ⟨h, by rw [upd_ne (ne_of_none e hn)]; exact e⟩) (fun c hc u e => by rw [upd_ne (ne_of_none e hn)]; exact e), fun x hx => ?_, tr5.trans fun c u h e => ⟨h, by rw [upd_ne (ne_of_none e hn)]; exact e⟩⟩
        have := alv x hx
        cases hh : H5 x with
        | none => exact absurd hh this
        | some u => rw [upd_ne (ne_of_none hh hn), hh]; simp
    obtain ⟨b6, hD6, ac6, alv6, tr6⟩ := b6
    unfold turnF at f1
    cases ha : asgT t (.fr ds[i]) (wipeS ρi vs) with
    | none => rw [ha] at f1; cases f1
    | some ρ6 =>
      rw [ha] at f1
      dsimp only at f1
      obtain ⟨l6, es6, pm6⟩ := b6.es
      have es6w := ESl.wiped (vs := vs) vs (fun _ h => h) es6
      obtain ⟨σ2, l2, r2, k1, k2, k3, k4⟩ := asg_ok t (OR.fr rv) es6w ha
      rw [List.nil_append] at k3
      refine k1 _ ?_
      have hlen : (wipe σ vs).length = σ2.length := by
        rw [wipe_length, b6.length, k2.length]
        exact (asgT_len t ha).symm
      have hw : wipe σ2 vs = wipe (wipe σ vs) vs := wipe_eq vs hlen fun i hi => k4 i fun z => hi (hts i z)
      have hw2 : wipe (wipe σ vs) vs = wipe σ vs := wipe_eq vs (wipe_length _ _).symm fun i hi => wipe_out hi
      refine ⟨hw.trans hw2, ?_⟩
      have b7 : Post X.K (tbE er) T σ2 H1 own1 q H6 ρ6 l2 (D :: tvi) := b6.slots k2 (pm6.symm.trans k3)
      have pr7 := b7.preS pr alv6
      have tr7 : Tr (Own T (owni ++ (D :: tvi))) H6 (Own T (l2 ++ (D :: tvi))) H6 := fun a u n e => ⟨fun z => n (by
        rcases z with z | z
        · exact .inl z
        · rcases List.mem_append.mp z with z | z
          · exact .inr (List.mem_append_left _ (pm6.mem_iff.mp (k3.mem_iff.mpr (List.mem_append_left _ z))))
          · exact .inr (List.mem_append_right _ z)), e⟩
      refine firstT pr7 f1 (fun c ρ' z => by cases z) fun bt ρ8 f4 H8 own8 p8 => ?_
      have b8 := b7.seq p8
      rw [List.nil_append] at b8
      have hD8 := p8.other pr7 (a := D) (.inr List.mem_cons_self) _ hD6
      have ac7 : ORs X.K H6 (Own (Own T (D :: tvi)) l2) accV accO tvi := by
        rw [← own_app]
        exact ac6.tr tr7 fun _ _ _ e => e
      have ac8 := ORs.held pr7 ac7 p8 fun x hx => .inr (List.mem_cons_of_mem _ hx)
      rw [List.append_nil, ← own_app] at ac8
      have t8 := p8.tr
      rw [List.append_nil, ← own_app, ← own_app] at t8
      have row8 : RowAt X.K (tbE er) T H1 own1 q D P0 H0 σ2 ρ8 accO H8 := ⟨own8, tvi, accV, b8.quiet fun z => by
        rw [Bool.and_eq_true]
        exact ⟨z, hq z⟩, hD8, ac8, (tr6.trans tr7).trans t8⟩
      have eaux : accO ++ (x ++ r') = acc ++ xs := by rw [← ex, f3]
      cases bt with
      | false =>
        simp only [Bool.false_eq_true, if_false] at f4 ⊢
        have f4 := ok_some f4
        obtain ⟨rfl, rfl⟩ : ([] : List OV) = x ∧ ρ8 = ρn := by
          cases f4
          exact ⟨rfl, rfl⟩
        exact ⟨ρ8, accO, r', row8.wip (hw.trans hw2), f2, eaux⟩
      | true =>
        simp only [if_true] at f4 ⊢
        refine body σ2 ρ8 ρn accO x P0 H0 H8 _ row8 f4 (by
          have := congrArg List.length eaux
          simp only [List.length_append] at this
          omega) fun H' h' => ?_
        exact ⟨ρn, accO ++ x, r', h'.wip (hw.trans hw2), f2, by rw [List.append_assoc]; exact eaux⟩
  · left
    have hd : ds.drop i = [] := List.drop_eq_nil_of_le (by omega)
    rw [hd] at lp
    have lp := ok_some lp
    obtain ⟨rfl, rfl⟩ : ([] : List OV) = rest ∧ ρi = ρe := by
      cases lp
      exact ⟨rfl, rfl⟩
    rw [List.append_nil] at ex
    subst ex
    exact ⟨wk.stop H5 _ i tr5 (by omega), hE H5 b5⟩
/-- an inner clause -/
def innerF (fI : En → R (List PyData)) (t : Tg) (fT : En → R Bool) (fe : En → R (List OV)) (ρ : En) : R (List OV) :=
  (fI ρ).bind fun ds ρ1 => (loopL (turnF t (tgs t) fT fe) ds ρ1).bind fun xs ρ2 => R.ok xs (wipeS ρ2 (tgs t))
theorem c_lc2 {fI fI1 : En → R (List PyData)} {t t1 : Tg} {vs : List Nat} {fT fT1 : En → R Bool} {fe : En → R OV} {qi qt qi1 qt1 qe m pe : Bool} (hts : ∀ i ∈ tgs t, i ∈ vs) {σ : L2.St} {H : Hp} {Q : VK}
    (h : tE X.K er W (compF fI t vs fT (innerF fI1 t1 fT1 (oneF fe))) (qi && (qt && (qi1 && (qt1 && qe)))) m false σ H Q) :
    tLc2 (tI X.K er W fI qi) (gOf X.K t) (tT X.K er WF fT qt) (tI X.K er WF fI1 qi1) (gOf X.K t1) (tT X.K er WF fT1 qt1) (tE X.K er WF fe qe false pe) vs (tgs t1) σ H Q := by
  obtain ⟨T, ρ, own, r, p, e, aft⟩ := h
  unfold compF at e
  rcases bind_some e with ⟨c, ρ1, e1, e2⟩ | ⟨xs, ρe, e1, e2⟩
  · rcases bind_some e1 with ⟨c', ρ1', e3, e4⟩ | ⟨ds, ρ1', e3, e4⟩
    · cases e4
      exact ⟨T, ρ, own, _, p, e3, aft.err c ρ1 e2⟩
    · obtain ⟨_, _, z, _⟩ := noE_ok e4
      cases z
  rcases bind_some e1 with ⟨c', ρ1', e3, e4⟩ | ⟨ds, ρ1, e3, e4⟩
  · cases e4
  obtain ⟨xs', ρe', z, e5⟩ := noE_ok e4
  cases z
  split at e2
  rotate_left
  · cases e2
  rename_i hsm
  have e2 := ok_some e2
  subst e2
  have hsize : xs.length < sizeLine := by
    have := small_le hsm
    have := sizeLine_big
    omega
  refine ⟨T, ρ, own, _, p, e3, fun J H1 own1 p1 wk D hD => ?_⟩
  have pr := pre0 p1 p
  have b0 : Post X.K (tbE er) T σ H1 own1 (qt && (qi1 && (qt1 && qe))) (upd H1 D (.lst [])) ρ1 own1 [D] := (pr.post.newO (o := .lst []) pr.al (fun x hx => absurd hx (by simp)) hD).quiet fun _ => rfl
  have start : RowAt X.K (tbE er) T H1 own1 (qt && (qi1 && (qt1 && qe))) D (Own T own1) H1 σ ρ1 [] (upd H1 D (.lst [])) := ⟨own1, [], [], b0, upd_same, .nil, b0.tr⟩
  refine loop_core (most := sizeLine - 1) (Bd := fun σ2 H3 Nx => tI X.K er WF fI1 qi1 σ2 H3 fun J1 H4 => ∃ W1 : Nat → Nat → Hp → Prop, (∃ m, W1 0 m H4) ∧ ∀ j k H, W1 j k H →
      (J1.stop j H ∧ Nx H) ∨ (J1.go j H ∧ ∃ Nx1 : Hp → Prop, (∀ H', Nx1 H' → ∃ k', k' < k ∧ W1 (j + 1) k' H') ∧ ∀ x H', J1.yld j H x H' → (gOf X.K t1) x (wipe σ2 (tgs t1)) H' fun σ3 H5 => wipe σ3 (tgs t1) = wipe σ2 (tgs t1) ∧ (tT X.K er WF fT1 qt1) σ3 H5 fun b H6 =>
        if b = true then (tE X.K er WF fe qe false pe) σ3 H6 fun y H7 => ∃ acc, H7 D = some (.lst acc) ∧ acc.length < sizeLine ∧ Nx1 (upd H7 D (.lst (acc ++ [y]))) else Nx1 H6)) pr hD hts (fun z => (Bool.and_eq_true_iff.mp z).1) ?body wk start e5 (by rw [List.length_nil]; omega) ?fin
  case body =>
    intro σ2 ρ8 ρn acc x P0 H0 H8 Nx row8 f4 hl hN
    obtain ⟨own8, tvi, accV, b8, hD8, ac8, t8⟩ := row8.at_
    have alv : ∀ x ∈ D :: tvi, H8 x ≠ none := fun x hx => by
      rcases List.mem_cons.mp hx with z | z
      · rw [z, hD8]
        simp
      · exact ac8.thereN x z
    have pr8 := b8.preS pr alv
    unfold innerF at f4
    rcases bind_some f4 with ⟨c, ρ9, g1, g2⟩ | ⟨ds1, ρ9, g1, g2⟩
    · cases g2
    rcases bind_some g2 with ⟨c, ρ10, g3, g4⟩ | ⟨xs1, ρ10, g3, g4⟩
    · cases g4
    have g4 := ok_some g4
    obtain ⟨rfl, rfl⟩ : xs1 = x ∧ wipeS ρ10 (tgs t1) = ρn := by
      cases g4
      exact ⟨rfl, rfl⟩
    refine ⟨Own T (D :: tvi), ρ8, own8, _, pr8, g1, fun J1 H9 own9 p9 wk1 => ?_⟩
    have hD9 := p9.other pr8 (a := D) (.inr List.mem_cons_self) _ hD8
    have ac8' : ORs X.K H8 (Own (Own T (D :: tvi)) own8) accV acc tvi := by
      rw [← own_app]
      exact ac8
    have ac9 := ORs.held pr8 ac8' p9 fun x hx => .inr (List.mem_cons_of_mem _ hx)
    rw [List.append_nil, ← own_app] at ac9
    have b9 := b8.seq p9
    rw [List.nil_append] at b9
    have t9 := p9.tr
    rw [List.append_nil, ← own_app, ← own_app] at t9
    rw [← own_app] at wk1
    have hq3 : (qt && (qi1 && (qt1 && qe))) = true → qi1 = true ∧ qt1 = true ∧ qe = true := fun z => by
      simp only [Bool.and_eq_true] at z
      exact ⟨z.2.1, z.2.2.1, z.2.2.2⟩
    have row9 : RowAt X.K (tbE er) T H1 own1 (qt && (qi1 && (qt1 && qe))) D (Own T (own9 ++ (D :: tvi))) H9 σ2 ρ9 acc H9 := ⟨own9, tvi, accV, b9.quiet (fun z => by
      rw [Bool.and_eq_true]
      exact ⟨z, (hq3 z).1⟩), hD9, ac9, Tr.refl _ _⟩
    exact loop_core pr hD (fun i h => h) (fun z => (hq3 z).2.1) (body_one (pe := pe) pr hD (fun z => (hq3 z).2.2) (by have := sizeLine_big; omega)) wk1 row9 g3 hl fun H h => hN H (h.trans (t8.trans t9))
  case fin =>
    intro H5 h5
    obtain ⟨own5, tv5, accV, b5, hD5, ac5, t5⟩ := h5.at_
    rw [List.nil_append] at ac5
    exact aft (.ref D) H5 own5 (D :: tv5) (seq0 p1 b5) (.inl ⟨.lst hD5 ac5, fun z => by cases z⟩)
end
end DP

set_option Elab.async false
set_option linter.all false
set_option autoImplicit false
set_option maxRecDepth 100000
set_option maxHeartbeats 1000000
/-! DP, part O: statements. -/
namespace DP
open PySem PySem.Spec PyProof.Rows L2

/-- slots that stay -/
def Kept (fx : List Nat) (σ σ' : L2.St) : Prop := ∀ i ∈ fx, σ'[i]? = σ[i]?
theorem Kept.refl (fx : List Nat) (σ : L2.St) : Kept fx σ σ := fun _ _ => rfl
theorem Kept.trans {fx : List Nat} {σ σ1 σ2 : L2.St} (a : Kept fx σ σ1) (b : Kept fx σ1 σ2) : Kept fx σ σ2 := fun i h => (b i h).trans (a i h)
section
variable (K : PySem.W.Frag) (er : Nat → Value) (W : WX) (fx : List Nat)
def AftS (T : OP) (σ : L2.St) (H : Hp) (own : List Addr) (D : Ends) : Except Nat Fl × En → Prop
  | (.ok .nx, ρ') => ∀ σ' H' own', Ext own H H' own' → Pre K (tbE er) T H' σ' ρ' own' → Kept fx σ σ' → D.nx σ' H'
  | (.ok (.rt d), ρ') => ∀ v σ' H' own', Ext own H H' own' → Pre K (tbE er) T H' σ' ρ' own' → Kept fx σ σ' → RD K (mask H' (Own T own')) v d → D.rt v H'
  | (.error c, ρ') => ∀ σ' H' own', Ext own H H' own' → Pre K (tbE er) T H' σ' ρ' own' → Kept fx σ σ' → W (er c) none σ' H'
/-- the reading of a statement whose meaning is f -/
def tS (f : En → R Fl) : TS := fun D σ H => ∃ T ρ own r, Pre K (tbE er) T H σ ρ own ∧ f ρ = some r ∧ AftS K er W fx T σ H own D r
end
section
variable {K : PySem.W.Frag} {er : Nat → Value} {W : WX} {fx : List Nat} {T : OP} {σ σ1 σ' : L2.St} {H H' H1 H2 : Hp} {ρ ρ' ρ1 ρ2 : En} {own own' own1 own2 tv tv1 tv2 : List Addr} {q q1 q2 m path : Bool} {c : Nat} {D : Ends}
theorem AftS.err {r : Except Nat Fl × En} (h : AftS K er W fx T σ H own D r) (p : Pre K (tbE er) T H σ ρ own) : ∀ c ρ', r = (.error c, ρ') → AftX K er W T σ H own c ρ' := fun c ρ' e H' own' p1 => by
  subst e
  have x := p1.ext
  rw [List.append_nil] at x
  exact h σ H' own' x (pre0 p1 p) (Kept.refl fx σ)
theorem AftS.after {r : Except Nat Fl × En} (h : AftS K er W fx T σ H own D r) (x : Ext own H H1 own1) (k : Kept fx σ σ1) : AftS K er W fx T σ1 H1 own1 D r := by
  obtain ⟨r, ρ'⟩ := r
  cases r with
  | error c => exact fun σ' H' own' x' p' k' => h σ' H' own' (x.trans x') p' (k.trans k')
  | ok f =>
    cases f with
    | nx => exact fun σ' H' own' x' p' k' => h σ' H' own' (x.trans x') p' (k.trans k')
    | rt d => exact fun v σ' H' own' x' p' k' rv => h v σ' H' own' (x.trans x') p' (k.trans k') rv
/-- behind an expression, the slots stored -/
theorem Post.ends {l r : List Addr} (a : Post K (tbE er) T σ H own q H1 ρ1 own1 tv1) (p : Pre K (tbE er) T H σ ρ own) (h : ESl K (tbE er) H1 (Own T (own1 ++ tv1)) σ' ρ2 l) (pm : (own1 ++ tv1).Perm (l ++ r)) : Ext own H H1 l ∧ Pre K (tbE er) T H1 σ' ρ2 l := by
  have sub : ∀ x, x ∈ l → x ∈ own1 ++ tv1 := fun x hx => pm.mem_iff.mpr (List.mem_append_left _ hx)
  refine ⟨a.ext.sub sub, ⟨l, h.tr (fun x o n e => ⟨fun z => n ?_, e⟩) (fun _ _ _ e => e), .refl _⟩, (pm.nodup_iff.mp a.nd).sublist (List.sublist_append_left l r), fun x hx => a.dis x (sub x hx), fun x hx => a.ext.live x (p.al x hx)⟩
  rcases z with z | z
  · exact .inl z
  · exact .inr (sub x z)
/-- .. nothing in hand -/
theorem Post.ends0 (a : Post K (tbE er) T σ H own q H1 ρ1 own1 tv1) (p : Pre K (tbE er) T H σ ρ own) : Ext own H H1 own1 ∧ Pre K (tbE er) T H1 σ ρ1 own1 := by
  have b := a.sub (List.nil_sublist _)
  have x := b.ext
  rw [List.append_nil] at x
  exact ⟨x, pre0 b p⟩

/-! ### the meanings -/
def asgF (f : En → R OV) (t : Tg) (ρ : En) : R Fl := (f ρ).bind fun x ρ1 => match asgT t x ρ1 with
  | none => none
  | some ρ2 => R.ok .nx ρ2
def parF (f : En → R (List OV)) (ts : List Nat) (ρ : En) : R Fl := (f ρ).bind fun xs ρ1 => match asgTs (ts.map .nm) xs ρ1 with
  | none => none
  | some ρ2 => R.ok .nx ρ2
def expF (f : En → R OV) (ρ : En) : R Fl := (f ρ).bind fun _ ρ1 => R.ok .nx ρ1
def retF (f : En → R OV) (ρ : En) : R Fl := (f ρ).bind fun x ρ1 => R.ok (.rt x.fz) ρ1
def ifF (fc : En → R OV) (fa fb : En → R Fl) (ρ : En) : R Fl := (fc ρ).bind fun x ρ1 => match tstO x with
  | none => none
  | some true => fa ρ1
  | some false => fb ρ1
def forF (fi : En → R (List PyData)) (t : Tg) (fb : En → R Fl) (ρ : En) : R Fl := (fi ρ).bind fun ds ρ1 => forL (fun d ρ => match asgT t (.fr d) ρ with
  | none => none
  | some ρ => fb ρ) ds ρ1
def seqF (f g : En → R Fl) (ρ : En) : R Fl := (f ρ).bind fun fl ρ1 => match fl with
  | .nx => g ρ1
  | .rt d => R.ok (.rt d) ρ1

/-! ### the rules -/
theorem c_asg {f : En → R OV} {t : Tg} (hts : ∀ i ∈ tgs t, i ∉ fx) (h : tS K er W fx (asgF f t) D σ H) : tE K er W f q false path σ H (fun x H1 => gOf K t x σ H1 D.nx) := by
  obtain ⟨T, ρ, own, r, p, e, aft⟩ := h
  refine first p e (aft.err p) fun x ρ1 e1 v H1 own1 tv1 p1 v1 => ?_
  cases ha : asgT t x ρ1 with
  | none => rw [ha] at e1; cases e1
  | some ρ2 =>
    rw [ha] at e1
    have e2 := ok_some e1
    subst e2
    obtain ⟨l, es, pm⟩ := p1.es
    obtain ⟨σ', l', r, k1, k2, k3, k4⟩ := asg_ok t v1.sep es ha
    refine k1 _ ?_
    obtain ⟨x', p'⟩ := p1.ends p k2 ((List.perm_append_comm).trans ((pm.symm.append_left tv1).trans k3))
    exact aft σ' H1 l' x' p' fun i hi => k4 i fun z => hts i z hi
theorem s_asg {X : Cx} {tg e : Expr} {t : Tg} {f : En → R OV} {pos : Pos} (he : PE X e (tE X.K er W f q false path)) (hg : PG X tg (gOf X.K t)) (hts : ∀ i ∈ tgs t, i ∉ fx) (hs : swapsWithSole [tg] e pos.line X.env = pure false) (hw : swappedStores [tg] e X.env = pure none)
    (h1 : (assignEach [tg] X.env).map (·.2) = [assign tg X.env]) : PS X (.Assign [tg] e pos) (tS X.K er W fx (asgF f t)) :=
  PS.imp (ps_asg he hg hs hw h1) fun D σ H h => c_asg hts h
theorem s_set {X : Cx} {i : Nat} {x : Str} {e : Expr} {f : En → R OV} {pos pos' : Pos} (hN : X.N.Nodup) (hi : X.N[i]? = some x) (hx : Loc X.env.scope x) (he : PE X e (tE X.K er W f q false path)) (hts : i ∉ fx) (hs : swapsWith e (some (.Name x pos')) pos.line X.env = pure false) (hf : X.fn x = true ∨ X.env.scope.names.lookup x = some .local) :
    PS X (.Assign [.Name x pos'] e pos) (tS X.K er W fx (asgF f (.nm i))) :=
  PS.imp (ps_set hN hi hx he hs hf) fun D σ H h => c_asg (t := .nm i) (fun j hj => by rw [List.mem_singleton.mp hj]; exact hts) h
theorem par_ok {vs : List V} {xs : List OV} {ts : List Nat} (a : Post K (tbE er) T σ H own q H1 ρ1 own1 tv1) (p : Pre K (tbE er) T H σ ρ own) (r1 : ORs K H1 (Own T (own1 ++ tv1)) vs xs tv1) (ha : asgTs (ts.map .nm) xs ρ1 = some ρ2) (hts : ∀ i ∈ ts, i ∉ fx) :
    ∃ σ' l', (∀ Q : L2.St → Hp → Prop, Q σ' H1 → gOfs K (ts.map .nm) vs σ H1 Q) ∧ Ext own H H1 l' ∧ Pre K (tbE er) T H1 σ' ρ2 l' ∧ Kept fx σ σ' := by
  obtain ⟨l, es, pm⟩ := a.es
  obtain ⟨σ', l', r, k1, k2, k3, k4⟩ := asgs_ok (ts.map .nm) r1 es ha
  obtain ⟨x', p'⟩ := a.ends p k2 ((List.perm_append_comm).trans ((pm.symm.append_left tv1).trans k3))
  refine ⟨σ', l', k1, x', p', fun i hi => k4 i fun z => ?_⟩
  have key : ∀ (ts : List Nat), i ∈ tgss (ts.map .nm) → i ∈ ts := by
    intro ts
    induction ts with
    | nil => intro h; simp [tgss] at h
    | cons a r ih =>
      intro h
      rw [List.map_cons] at h
      unfold tgss at h
      rcases List.mem_append.mp h with h | h
      · rw [List.mem_singleton.mp h]
        exact List.mem_cons_self
      · exact List.mem_cons_of_mem _ (ih h)
  exact hts i (key ts z) hi
theorem c_par2 {f : En → R (List OV)} {i j : Nat} (hi : i ∉ fx) (hj : j ∉ fx) (h : tS K er W fx (parF f [i, j]) D σ H) : tPar i j (tA K er W f q) D σ H := by
  obtain ⟨T, ρ, own, r, p, e, aft⟩ := h
  refine firstA p e (aft.err p) fun x ρ1 e1 vs H1 own1 tv1 p1 v1 => ?_
  cases ha : asgTs ([i, j].map .nm) x ρ1 with
  | none => rw [ha] at e1; cases e1
  | some ρ2 =>
    rw [ha] at e1
    have e2 := ok_some e1
    subst e2
    obtain ⟨σ', l', k1, x', p', k⟩ := par_ok p1 p v1 ha (fx := fx) (fun a ha => by
      rcases List.mem_cons.mp ha with rfl | ha
      · exact hi
      · rw [List.mem_singleton.mp ha]
        exact hj)
    have hn := aft σ' H1 l' x' p' k
    obtain ⟨v, r1, ev, h2⟩ := k1 (fun s _ => D.nx s H1) hn
    obtain ⟨w, r2, ew, h3⟩ := (show ∃ w r2, r1 = w :: r2 ∧ _ from h2)
    obtain ⟨en, h4⟩ := (show r2 = [] ∧ _ from h3)
    subst en
    subst ew
    exact ⟨v, w, ev, h4⟩
theorem c_par3 {f : En → R (List OV)} {i j l : Nat} (hi : i ∉ fx) (hj : j ∉ fx) (hl : l ∉ fx) (h : tS K er W fx (parF f [i, j, l]) D σ H) : tPar3 i j l (tA K er W f q) D σ H := by
  obtain ⟨T, ρ, own, r, p, e, aft⟩ := h
  refine firstA p e (aft.err p) fun x ρ1 e1 vs H1 own1 tv1 p1 v1 => ?_
  cases ha : asgTs ([i, j, l].map .nm) x ρ1 with
  | none => rw [ha] at e1; cases e1
  | some ρ2 =>
    rw [ha] at e1
    have e2 := ok_some e1
    subst e2
    obtain ⟨σ', l', k1, x', p', k⟩ := par_ok p1 p v1 ha (fx := fx) (fun a ha => by
      rcases List.mem_cons.mp ha with rfl | ha
      · exact hi
      · rcases List.mem_cons.mp ha with rfl | ha
        · exact hj
        · rw [List.mem_singleton.mp ha]
          exact hl)
    have hn := aft σ' H1 l' x' p' k
    obtain ⟨v, r1, ev, h2⟩ := k1 (fun s _ => D.nx s H1) hn
    obtain ⟨w, r2, ew, h3⟩ := (show ∃ w r2, r1 = w :: r2 ∧ _ from h2)
    obtain ⟨u, r3, eu, h4⟩ := (show ∃ w r3, r2 = w :: r3 ∧ _ from h3)
    obtain ⟨en, h5⟩ := (show r3 = [] ∧ _ from h4)
    subst en
    subst eu
    subst ew
    exact ⟨v, w, u, ev, h5⟩
theorem s_expr {X : Cx} {e : Expr} {f : En → R OV} {pos : Pos} (he : PE X e (tE X.K er W f q m path)) (hs : swapsWith e none pos.line X.env = pure false) : PS X (.Expr e pos) (tS X.K er W fx (expF f)) := by
  refine PS.imp (ps_expr he hs) fun D σ H h => ?_
  obtain ⟨T, ρ, own, r, p, e, aft⟩ := h
  refine first p e (aft.err p) fun x ρ1 e1 v H1 own1 tv1 p1 v1 => ?_
  have e2 := ok_some e1
  subst e2
  obtain ⟨x', p'⟩ := p1.ends0 p
  exact aft σ H1 own1 x' p' (Kept.refl _ _)
theorem s_ret {X : Cx} {e : Expr} {f : En → R OV} {pos : Pos} (he : PE X e (tE X.K er W f q false path)) : PS X (.Return (some e) pos) (tS X.K er W fx (retF f)) := by
  refine PS.imp (ps_ret he) fun D σ H h => ?_
  obtain ⟨T, ρ, own, r, p, e, aft⟩ := h
  refine first p e (aft.err p) fun x ρ1 e1 v H1 own1 tv1 p1 v1 => ?_
  have e2 := ok_some e1
  subst e2
  obtain ⟨x', p'⟩ := p1.ends0 p
  exact aft v σ H1 own1 x' p' (Kept.refl _ _) (freezeV p1 v1.sep)
theorem s_retN {X : Cx} {pos : Pos} : PS X (.Return none pos) (tS X.K er W fx fun ρ => R.ok (.rt .none) ρ) := by
  refine PS.imp ps_retN fun D σ H h => ?_
  obtain ⟨T, ρ, own, r, p, e, aft⟩ := h
  have e2 := ok_some e
  subst e2
  exact aft .non σ H own (Ext.refl _ _) p (Kept.refl _ _) .non
theorem c_nx (h : tS K er W fx (fun ρ => R.ok .nx ρ) D σ H) : tNext D σ H := by
  obtain ⟨T, ρ, own, r, p, e, aft⟩ := h
  have e2 := ok_some e
  subst e2
  exact aft σ H own (Ext.refl _ _) p (Kept.refl _ _)
theorem c_seq {f g : En → R Fl} (h : tS K er W fx (seqF f g) D σ H) : tSeq (tS K er W fx f) (tS K er W fx g) D σ H := by
  obtain ⟨T, ρ, own, r, p, e, aft⟩ := h
  rcases bind_some e with ⟨c, ρ1, e1, e2⟩ | ⟨fl, ρ1, e1, e2⟩
  · subst e2
    exact ⟨T, ρ, own, _, p, e1, fun σ' H' own' x p' k => aft σ' H' own' x p' k⟩
  · cases fl with
    | nx => exact ⟨T, ρ, own, _, p, e1, fun σ' H' own' x p' k => ⟨T, ρ1, own', r, p', e2, aft.after x k⟩⟩
    | rt d =>
      have e3 := ok_some e2
      subst e3
      exact ⟨T, ρ, own, _, p, e1, fun v σ' H' own' x p' k rv => aft v σ' H' own' x p' k rv⟩
theorem c_if {fc : En → R OV} {fa fb : En → R Fl} {qc : Bool} (h : tS K er W fx (ifF fc fa fb) D σ H) : tIfS (tT K er W (tst fc) qc) (tS K er W fx fa) (tS K er W fx fb) D σ H := by
  obtain ⟨T, ρ, own, r, p, e, aft⟩ := h
  rcases bind_some e with ⟨c, ρ1, e1, e2⟩ | ⟨a, ρ1, e1, e2⟩
  · refine ⟨T, ρ, own, (.error c, ρ1), p, ?_, aft.err p c ρ1 e2⟩
    unfold tst
    rw [e1]
    rfl
  · cases ht : tstO a with
    | none => rw [ht] at e2; cases e2
    | some b =>
      rw [ht] at e2
      refine ⟨T, ρ, own, (.ok b, ρ1), p, ?_, fun H1 own1 p1 => ?_⟩
      · unfold tst
        rw [e1]
        show R.of (tstO a) ρ1 = _
        rw [ht]
        rfl
      · obtain ⟨x', p'⟩ := p1.ends0 p
        cases b with
        | true =>
          rw [if_pos rfl]
          exact ⟨T, ρ1, own1, r, p', e2, aft.after x' (Kept.refl _ _)⟩
        | false =>
          rw [if_neg Bool.false_ne_true]
          exact ⟨T, ρ1, own1, r, p', e2, aft.after x' (Kept.refl _ _)⟩
theorem c_whl {fc : En → R Bool} {fb : En → R Fl} {qc : Bool} (h : tS K er W fx (whlR fc fb) D σ H) : tWhile (tT K er W fc qc) (tS K er W fx fb) D σ H := by
  obtain ⟨T, ρ, own, r, p, e, aft⟩ := h
  obtain ⟨n, hn⟩ := of_whlR e
  refine ⟨fun m σ' H' => ∃ ρ' own', Pre K (tbE er) T H' σ' ρ' own' ∧ Ext own H H' own' ∧ Kept fx σ σ' ∧ whlN fc fb m ρ' = some r, ⟨n, ρ, own, p, Ext.refl _ _, Kept.refl _ _, hn⟩, ?_⟩
  rintro m σ1 H1 ⟨ρ1, own1, p1, x1, k1, hm⟩
  cases m with
  | zero => cases hm
  | succ m =>
    rw [whlN] at hm
    have aft1 := aft.after x1 k1
    refine firstT p1 hm (aft1.err p1) fun b ρ2 e2 H2 own2 p2 => ?_
    obtain ⟨x2, pr2⟩ := p2.ends0 p1
    cases b with
    | true =>
      rw [if_pos rfl] at e2 ⊢
      refine ⟨fun σ' H' => ∃ ρ' own', Pre K (tbE er) T H' σ' ρ' own' ∧ Ext own H H' own' ∧ Kept fx σ σ' ∧ whlN fc fb m ρ' = some r, fun σ' H' w => ⟨m, Nat.lt_succ_self m, w⟩, ?_⟩
      have aft2 := aft1.after x2 (Kept.refl fx σ1)
      rcases bind_some e2 with ⟨c, ρ3, e3, e4⟩ | ⟨fl, ρ3, e3, e4⟩
      · subst e4
        exact ⟨T, ρ2, own2, _, pr2, e3, fun σ' H' own' x p' k => aft2 σ' H' own' x p' k⟩
      · cases fl with
        | nx => exact ⟨T, ρ2, own2, _, pr2, e3, fun σ' H' own' x p' k => ⟨ρ3, own', p', (x1.trans x2).trans x, k1.trans k, e4⟩⟩
        | rt d =>
          have e5 := ok_some e4
          subst e5
          exact ⟨T, ρ2, own2, _, pr2, e3, fun v σ' H' own' x p' k rv => aft2 v σ' H' own' x p' k rv⟩
    | false =>
      rw [if_neg Bool.false_ne_true] at e2 ⊢
      have e3 := ok_some e2
      subst e3
      exact aft1 σ1 H2 own2 x2 pr2 (Kept.refl _ _)
theorem c_for {fi : En → R (List PyData)} {t : Tg} {fb : En → R Fl} {qi : Bool} (hts : ∀ i ∈ tgs t, i ∉ fx) (h : tS K er W fx (forF fi t fb) D σ H) : tFor (tI K er W fi qi) (gOf K t) (tS K er W fx fb) D σ H := by
  obtain ⟨T, ρ, own, r, p, e, aft⟩ := h
  rcases bind_some e with ⟨c, ρ1, e1, e2⟩ | ⟨ds, ρ1, e1, e2⟩
  · exact ⟨T, ρ, own, _, p, e1, aft.err p c ρ1 e2⟩
  refine ⟨T, ρ, own, _, p, e1, fun J H1 own1 p1 wk => ?_⟩
  obtain ⟨x1, pr1⟩ := p1.ends0 p
  have aft1 := aft.after x1 (Kept.refl fx σ)
  refine ⟨fun i m σ' H' => m = ds.length - i ∧ i ≤ ds.length ∧ ∃ ρ' own', Pre K (tbE er) T H' σ' ρ' own' ∧ Ext own1 H1 H' own' ∧ Kept fx σ σ' ∧ forL (fun d ρ => match asgT t (.fr d) ρ with | none => none | some ρ => fb ρ) (ds.drop i) ρ' = some r,
    ⟨ds.length, rfl, Nat.zero_le _, ρ1, own1, pr1, Ext.refl _ _, Kept.refl _ _, e2⟩, ?_⟩
  rintro i m σ2 H2 ⟨rfl, hi, ρ2, own2, p2, x2, k2, lp⟩
  have aft2 := aft1.after x2 k2
  have tr2 : Tr (Own T own1) H1 (Own T own2) H2 := x2.tr
  have al2 : ∀ a, Own T own2 a → H2 a ≠ none := fun a ha => by
    have := p2.post.alive p2 (fun x hx => absurd hx (by simp))
    rw [List.append_nil] at this
    exact this a ha
  by_cases hlt : i < ds.length
  · right
    have hd : ds[i]? = some ds[i] := List.getElem?_eq_getElem hlt
    have hdrop : ds.drop i = ds[i] :: ds.drop (i + 1) := List.drop_eq_getElem_cons hlt
    rw [hdrop] at lp
    unfold forL at lp
    refine ⟨wk.go H2 _ i tr2 hlt, fun σ' H' => ∃ ρ' own', Pre K (tbE er) T H' σ' ρ' own' ∧ Ext own1 H1 H' own' ∧ Kept fx σ σ' ∧ forL (fun d ρ => match asgT t (.fr d) ρ with | none => none | some ρ => fb ρ) (ds.drop (i + 1)) ρ' = some r, fun σ' H' w => ⟨ds.length - (i + 1), by omega, rfl, hlt, w⟩, fun v H3 y => ?_⟩
    obtain ⟨gr, rv⟩ := wk.yld H2 _ i _ tr2 al2 hd v H3 y
    have b3 : Post K (tbE er) T σ2 H2 own2 false H3 ρ2 own2 [] := by
      rcases gr with rfl | ⟨a, o, hn, rfl⟩
      · exact p2.post.quiet fun z => by cases z
      · exact (p2.post.newF hn).quiet fun z => by cases z
    obtain ⟨l3, es3, pm3⟩ := b3.es
    rw [List.append_nil] at es3
    have key : ∀ {ρ3 : En}, asgT t (.fr ds[i]) ρ2 = some ρ3 → ∃ σ3 l4, (∀ Q : L2.St → Hp → Prop, Q σ3 H3 → gOf K t v σ2 H3 Q) ∧ Ext own2 H2 H3 l4 ∧ Pre K (tbE er) T H3 σ3 ρ3 l4 ∧ Kept fx σ2 σ3 := fun {ρ3} ha => by
      obtain ⟨σ3, l4, r4, k1, k2, k3, k4⟩ := asg_ok t (OR.fr rv) es3 ha
      rw [List.nil_append] at k3
      obtain ⟨x4, p4⟩ := b3.ends p2 (l := l4) (r := r4) (σ' := σ3) (ρ2 := ρ3) (by rw [List.append_nil]; exact k2) (by rw [List.append_nil]; exact pm3.symm.trans k3)
      exact ⟨σ3, l4, k1, x4, p4, fun j hj => k4 j fun z => hts j z hj⟩
    rcases bind_some lp with ⟨c, ρ4, f1, f2⟩ | ⟨fl, ρ4, f1, f2⟩
    · cases ha : asgT t (.fr ds[i]) ρ2 with
      | none => rw [ha] at f1; cases f1
      | some ρ3 =>
        rw [ha] at f1
        obtain ⟨σ3, l4, k1, x4, p4, k4⟩ := key ha
        refine k1 _ ?_
        subst f2
        have aft4 := (aft2.after x4 k4)
        exact ⟨T, ρ3, l4, _, p4, f1, fun σ' H' own' x p' k => aft4 σ' H' own' x p' k⟩
    · cases ha : asgT t (.fr ds[i]) ρ2 with
      | none => rw [ha] at f1; cases f1
      | some ρ3 =>
        rw [ha] at f1
        obtain ⟨σ3, l4, k1, x4, p4, k4⟩ := key ha
        refine k1 _ ?_
        have aft4 := (aft2.after x4 k4)
        cases fl with
        | nx => exact ⟨T, ρ3, l4, _, p4, f1, fun σ' H' own' x p' k => ⟨ρ4, own', p', (x2.trans x4).trans x, (k2.trans k4).trans k, f2⟩⟩
        | rt d =>
          have f3 := ok_some f2
          subst f3
          exact ⟨T, ρ3, l4, _, p4, f1, fun v σ' H' own' x p' k rv => aft4 v σ' H' own' x p' k rv⟩
  · left
    have ei : i = ds.length := by omega
    subst ei
    refine ⟨wk.stop H2 _ _ tr2 (Nat.le_refl _), ?_⟩
    rw [List.drop_length] at lp
    have lp := ok_some (show R.ok .nx ρ2 = some r from lp)
    subst lp
    exact aft2 σ2 H2 own2 (Ext.refl _ _) p2 (Kept.refl _ _)
end
end DP

set_option Elab.async false
set_option linter.all false
set_option autoImplicit false
set_option maxRecDepth 100000
set_option maxHeartbeats 1000000
/-! DP, part P: stores to places; errors. -/
namespace DP
open PySem PySem.Spec PyProof.Rows L2

section
variable {K : PySem.W.Frag}
/-- a row, one item set -/
theorem ORs.set1 {H : Hp} {P : OP} {v : V} {o : OV} {ts : List Addr} (r : OR K H P v o ts) : ∀ {vs : List V} {ys : List OV} {as : List Addr} {j : Nat}, ORs K H P vs ys as → j < ys.length → ∃ as' r, ORs K H P (vs.set j v) (ys.set j o) as' ∧ (as ++ ts).Perm (as' ++ r)
  | _, _, _, _, .nil, hj => by simp at hj
  | _, _, _, 0, .cons (as := as1) (bs := bs1) h1 h2, _ => by
    refine ⟨ts ++ bs1, as1, .cons r h2, ?_⟩
    have e : (as1 ++ bs1) ++ ts = as1 ++ (bs1 ++ ts) := by simp
    rw [e]
    refine (List.perm_append_comm).trans ?_
    exact (List.perm_append_comm).append_right as1
  | _, _, _, j + 1, .cons (as := as1) (bs := bs1) h1 h2, hj => by
    obtain ⟨as', r', h3, h4⟩ := ORs.set1 r h2 (by simpa using hj)
    refine ⟨as1 ++ as', r', .cons h1 h3, ?_⟩
    have e : (as1 ++ bs1) ++ ts = as1 ++ (bs1 ++ ts) := by simp
    rw [e, List.append_assoc]
    exact h4.append_left as1
end
section
variable {K : PySem.W.Frag} {er : Nat → Value} {W : WX} {fx : List Nat} {D : Ends} {σ : L2.St} {H : Hp}
def stoF (f : En → R OV) (fp : En → R (Nat × List Int)) (fi : En → R OV) (qi : Bool) (ρ : En) : R Fl := (f ρ).bind fun x ρ1 => (fp ρ1).bind fun q ρ2 => (fi ρ2).bind fun y ρ3 =>
  if qi && isLP ρ2 q.1 q.2 then match getS ρ3 q.1 with
    | none => none
    | some o => match rdP o q.2 with
      | none => none
      | some z => match stoO z y.fz x with
        | none => none
        | some z' => match wrP o q.2 z' with
          | none => none
          | some o' => R.ok .nx (setS ρ3 q.1 o')
  else none
theorem c_sto {f fi : En → R OV} {fp : En → R (Nat × List Int)} {q qp qi pe pi : Bool} (h : tS K er W fx (stoF f fp fi qi) D σ H) :
    tAsg (tE K er W f q false pe) (gSub (tP K er W fp qp) (tE K er W fi qi true pi) rSetL) D σ H := by
  obtain ⟨T, ρ, own, r, p, e, aft⟩ := h
  refine first p e (aft.err p) fun x ρ1 e1 v H1 own1 tv1 p1 v1 => ?_
  have pr := p1.pre p v1.there
  have ox := v1.sep
  rcases bind_some e1 with ⟨c, ρ2, e2, e3⟩ | ⟨⟨i, ks⟩, ρ2, e2, e3⟩
  · exact ⟨_, ρ1, own1, _, pr, e2, lifts p1 (aft.err p) c ρ2 e3⟩
  refine ⟨_, ρ1, own1, _, pr, e2, fun w v0 H2 own2 hσ hv p2 => ?_⟩
  have pr2 := pre0 p2 pr
  refine first pr2 e3 (lifts0 p2 (lifts p1 (aft.err p))) fun y ρ3 e4 u H3 own3 tv3 p3 v3 => ?_
  dsimp only at e4
  split at e4
  rotate_left
  · cases e4
  rename_i hq
  rw [Bool.and_eq_true] at hq
  split at e4
  · cases e4
  rename_i o hg
  split at e4
  · cases e4
  rename_i z hr
  split at e4
  · cases e4
  rename_i z' hs
  split at e4
  · cases e4
  rename_i o' hw
  have e5 := ok_some e4
  subst e5
  -- the steps together
  have ps := p1.seq (seq0 p2 p3)
  have ps := ps.sub (tv2 := tv1) (List.sublist_append_right _ _)
  have hv3 := hv.same (p3.qui hq.1)
  have hz : ∃ ys k, z = .lst ys ∧ y.fz = .int k := by
    cases z with
    | lst ys =>
      cases hy : y.fz with
      | int k => exact ⟨ys, k, rfl, rfl⟩
      | _ => rw [hy] at hs; cases hs
    | _ => cases hs
  obtain ⟨ys, k, rfl, hy⟩ := hz
  rw [hy] at hs
  obtain ⟨pa, vs, as, rfl, hpa, hvs, fin⟩ := putPath ps hg hr hv3 hσ
  have hs : ((L2.ixN ys.length k).map fun j => OV.lst (ys.set j x)) = some z' := hs
  cases hi : ixN ys.length k with
  | none => rw [hi] at hs; cases hs
  | some j =>
    rw [hi] at hs
    cases hs
    have hk : u = .int k := by
      obtain ⟨bs, hb⟩ := v3.or
      have := hb.full
      rw [hy] at this
      exact this.int_inv
    subst hk
    have hl := hvs.length
    have hj : j < ys.length := by
      obtain ⟨_, h4, _, _⟩ := ixN_seq hi
      exact h4
    have ox3 : OR K H3 (Own T (own3 ++ tv1)) v x tv1 := by
      rw [own_app] at ox
      have o2 := OR.held pr ox p2 fun a ha => .inr ha
      rw [List.append_nil] at o2
      have o3 := OR.held pr2 o2 p3 fun a ha => .inr ha
      rw [← own_app, List.append_assoc] at o3
      refine o3.tr (fun a o n e => ⟨fun z => n ?_, e⟩) fun _ _ _ e => e
      rcases z with z | z
      · exact .inl z
      · rcases List.mem_append.mp z with z | z
        · exact .inr (List.mem_append_left _ z)
        · exact .inr (List.mem_append_right _ (List.mem_append_right _ z))
    obtain ⟨as', r', h1, h2⟩ := ORs.set1 ox3 hvs hj
    refine ⟨pa, vs, k, j, rfl, rfl, hpa, by rw [hl]; exact hi, ?_⟩
    obtain ⟨own4, p4, _⟩ := fin (vs.set j v) (ys.set j x) as' [] r' o' h1 hw (by rw [List.append_nil]; exact h2)
    obtain ⟨x5, pr5⟩ := p4.ends0 p
    exact aft σ _ own4 x5 pr5 (Kept.refl _ _)
end
section
variable {X : Cx} {er : Nat → Value} {W : WX} {fx : List Nat}
theorem s_sto {o i e : Expr} {f fi : En → R OV} {fp : En → R (Nat × List Int)} {q qp qi pe pi : Bool} {p2 pos : Pos} (he : PE X e (tE X.K er W f q false pe)) (ho : PE X o (tP X.K er W fp qp)) (hi : PE X i (tE X.K er W fi qi true pi))
    (hs : swapsWithSole [.Subscript o i p2] e pos.line X.env = pure false) (hsl : ∀ l u s p, i ≠ .Slice l u s p) : PS X (.Assign [.Subscript o i p2] e pos) (tS X.K er W fx (stoF f fp fi qi)) :=
  PS.imp (ps_asg he (pg_sub ho hi set_list (by
    intro v
    cases i <;> first | rfl | exact absurd rfl (hsl _ _ _ _))) hs (by cases e <;> rfl) rfl) fun D σ H h => c_sto h
/-! ### more methods -/
theorem mt_extend (X : Cx) : MtM X "list.extend" (rMut X.K .extend) := by
  intro pins s σ H x ws v us Q I rx rv h
  obtain ⟨P, p, vs, ys, as, xs, ts, z, x', rfl, hp, h1, h2, hm, q⟩ := h
  dsimp only [mutO] at hm
  split at hm
  · split at hm
    · rename_i ys zs e1 hs
      cases e1
      cases hm
      obtain ⟨w, rfl, hw⟩ := h2.one
      cases h2 with
      | @cons _ _ _ _ a2 b2 h3 h4 =>
        cases h4
        cases h3 with
        | @lst b vz _ as3 h5 h6 =>
          have hl := h1.length
          have hl6 := h6.length
          have hb := sizeLine_big
          have hsm := small_le hs
          refine L2.mt_extend pins s σ H _ _ v us Q I rx rv ⟨p, b, vs, vz, rfl, rfl, hp, h5, by omega, q _ _ _ _ [] rfl (h1.append h6) (.fr .non) ⟨[b], ?_⟩⟩
          have e : as ++ (b :: as3 ++ []) = as ++ ([b] ++ as3) := by simp
          have e2 : (as ++ as3 ++ []) ++ [b] = as ++ (as3 ++ [b]) := by simp
          rw [e, e2]
          exact (List.perm_append_comm).append_left as
    · cases hm
  · cases hm
theorem ORs.eraseIdx {K : PySem.W.Frag} {H : Hp} {P : OP} : ∀ {vs : List V} {ys : List OV} {as : List Addr} {j : Nat} {y : OV}, ORs K H P vs ys as → ys[j]? = some y → ∃ v a0 rest, vs[j]? = some v ∧ OR K H P v y a0 ∧ ORs K H P (vs.eraseIdx j) (ys.eraseIdx j) rest ∧ (rest ++ a0).Perm as
  | _, _, _, _, _, .nil, h => by simp at h
  | _, _, _, 0, y, .cons (v := v) (as := as1) (bs := bs1) h1 h2, h => by
    simp at h
    subst h
    exact ⟨v, as1, bs1, rfl, h1, h2, List.perm_append_comm⟩
  | _, _, _, j + 1, y, .cons (as := as1) (bs := bs1) h1 h2, h => by
    obtain ⟨v, a0, rest, e1, e2, e3, e4⟩ := ORs.eraseIdx (j := j) h2 (by simpa using h)
    refine ⟨v, a0, as1 ++ rest, by simpa using e1, e2, .cons h1 e3, ?_⟩
    rw [List.append_assoc]
    exact e4.append_left as1
theorem erase_last {α : Type} : ∀ (l : List α), l.eraseIdx (l.length - 1) = l.dropLast
  | [] => rfl
  | [x] => rfl
  | x :: y :: r => by
    have := erase_last (y :: r)
    simp only [List.length_cons, Nat.add_sub_cancel, List.eraseIdx_cons_succ, List.dropLast_cons₂] at this ⊢
    rw [this]
end
section
variable {X : Cx} {er : Nat → Value} {W : WX} {fx : List Nat}
theorem mt_pop (X : Cx) : MtM X "list.pop" (rMut X.K .pop) := by
  intro pins s σ H x ws v us Q I rx rv h
  obtain ⟨P, p, vs, ys, as, xs, ts, z, x', rfl, hp, h1, h2, hm, q⟩ := h
  dsimp only [mutO] at hm
  split at hm
  · split at hm
    · rename_i ys e0 _ y e1
      cases hm
      cases e0
      cases h2
      have hy : ys[ys.length - 1]? = some z := by rw [← List.getLast?_eq_getElem?]; exact e1
      obtain ⟨v1, a0, rest, f1, f2, f3, f4⟩ := h1.eraseIdx hy
      have hl := h1.length
      rw [erase_last] at f3
      rw [← hl, erase_last] at f3
      refine L2.mt_pop pins s σ H _ _ v us Q I rx rv ⟨p, vs, v1, rfl, rfl, hp, by rw [hl]; exact f1, q _ _ _ rest a0 rfl f3 f2 ⟨[], ?_⟩⟩
      rw [List.append_nil, List.append_nil]
      exact f4.symm
    · cases hm
  · cases hm
theorem mt_popAt (X : Cx) : MtM X "list.pop" (rMut X.K .popAt) := by
  intro pins s σ H x ws v us Q I rx rv h
  obtain ⟨P, p, vs, ys, as, xs, ts, z, x', rfl, hp, h1, h2, hm, q⟩ := h
  dsimp only [mutO] at hm
  split at hm
  · split at hm
    · rename_i ys i e1 hi
      cases e1
      split at hm
      · rename_i y hy
        cases hm
        obtain ⟨w, rfl, hw⟩ := h2.one
        obtain ⟨v1, a0, rest, f1, f2, f3, f4⟩ := h1.eraseIdx hy
        have hl := h1.length
        rw [Bool.and_eq_true] at hi
        have i1 := of_decide_eq_true hi.1
        have i2 := of_decide_eq_true hi.2
        have hlt : i.toNat < ys.length := by
          obtain ⟨h, _⟩ := List.getElem?_eq_some_iff.mp hy
          exact h
        refine L2.mt_popAt pins s σ H _ _ v us Q I rx rv ⟨p, vs, i, i.toNat, v1, rfl, by rw [hw.int], hp, by omega, by omega, ?_, f1, q _ _ _ rest a0 rfl f3 f2 ⟨ts, ?_⟩⟩
        · rw [seqIndex_of i1 (by omega)]
        · exact f4.symm.append_right ts
      · cases hm
    · cases hm
  · cases hm
/-! ### errors -/
theorem pmk_own0 {C : Addr} {bmB : List Value} {B newId initId : String} {x : Str} {p pos : Pos} (F : ExcBaseFacts B newId initId bmB) (q : PySem.W.excIn X.K C bmB newId = true) (gC : X.mg x = some (.ref C)) (kC : PySem.W.keepIn X.K (.ref C) = true) (r : Raises X (.ref C)) (hg : Gl X x)
    (hdb : (x == ("__debug__" : Str)) = false) : PMk X (.Call (.Name x p) [] [] pos) (fun _ H Q => Q (.ref C) none H) := by
  intro pins s σ H Q I h
  refine wpAny_Call_Name_kw (ld_glob I hg gC ?_ hdb)
  refine PySem.W.callWith_K0 I.kIn kC ?_
  show wpAny _ _ (call (.ref C) []) _ _ _
  obtain ⟨bm, N, nm, qn, bs, hdct, sn, sub, ab, col, dd, k0, k1, k2, k3, k5, mN, hC, hN, hni, T⟩ := exc_obj I.kIn q
  refine wpAny_call_exc_subT F T hC hN hni (fun h' e hm => ?_) (Nat.zero_le _)
  exact mk_of I hm r h (I.hok.gone hm.new)
theorem s_rse {e : Expr} {c : Nat} {pos : Pos} (hc : X.calm = true) (tk : Takes X W) (he : PMk X e (fun _ H Q => Q (er c) none H)) : PS X (.Raise (some e) none pos) (tS X.K er W fx fun ρ => some (.error c, ρ)) := by
  refine PS.imp (ps_raise hc tk he) fun D σ H h => ?_
  obtain ⟨T, ρ, own, r, p, e, aft⟩ := h
  cases e
  exact aft σ H own (Ext.refl _ _) p (Kept.refl _ _)
end
end DP

set_option Elab.async false
set_option linter.all false
set_option autoImplicit false
set_option maxRecDepth 100000
set_option maxHeartbeats 4000000
/-! DP, part Y: a lambda handed to the def that tells its error. -/
namespace DP
open PySem PySem.Spec PyProof.Rows L2

/-! ### several clauses, each with a name -/
def wManyA (K : PySem.W.Frag) (Wout : WX) (D : Ends) : List (Value × Nat × (Addr → Value → Option Addr → TS)) → WX
  | [] => Wout
  | (c, i, ts) :: r => fun cls d σ H => ∃ b, PySem.W.exmOne K cls c = some b ∧
      (b = true → ∀ a, H a = none → ts a cls d { nx := fun σ' H' => D.nx (σ'.set i none) H', rt := D.rt, bk := fun σ' H' => D.bk (σ'.set i none) H', ct := fun σ' H' => D.ct (σ'.set i none) H' } (σ.set i (some (.ref a))) H) ∧ (b = false → wManyA K Wout D r cls d σ H)
inductive HdA (X : Cx) : List ExceptHandler → List (Value × Nat × (Addr → Value → Option Addr → TS)) → Prop
  | nil : HdA X [] []
  | cons {x n : Str} {i : Nat} {c : Value} {ts : Addr → Value → Option Addr → TS} {b₀ : Stmt} {suite : List Stmt} {np pos' : Pos} {hds : List ExceptHandler} {l : List (Value × Nat × (Addr → Value → Option Addr → TS))} (hi : X.N[i]? = some n) (hln : X.env.kindOf n = some .local) (hc : Names X x c)
      (hsu : ∀ (a : Addr) (oe : Obj) (cls : Value) (d : Option Addr) (pn : List (Addr × Obj)), Zc cls d oe → (∃ vs, oe.data = .fields vs) → PSs (X.suite a ((a, oe) :: pn)) (b₀ :: suite) (ts a cls d)) (r : HdA X hds l) :
      HdA X (.ExceptHandler (some (.Name x np)) (some n) (b₀ :: suite) pos' :: hds) ((c, i, ts) :: l)
section
variable {X : Cx} {body : List Stmt} {h₀ : ExceptHandler} {hds : List ExceptHandler} {l : List (Value × Nat × (Addr → Value → Option Addr → TS))} {pos : Pos} {tb : WX → TS} {Wout : WX}
theorem ps_tryA (hs : X.stack = X.env :: X.outer) (hf : X.env.frame = some X.env.locals) (hN : X.N.Nodup) (tk : Takes X Wout)
    (hb : ∀ (W : WX) (pn : List (Addr × Obj)) (xe : Value → Shared → Prop), Takes (X.tr pn xe) W → PassesOwn (model X.prog X.w) X.A X.env xe → PSs (X.tr pn xe) body (tb W))
    (hh : HdA X (h₀ :: hds) l) : PS X (.Try body (h₀ :: hds) [] [] pos) (fun D σ H => tb (wManyA X.K Wout D l) D σ H) := by
  refine ⟨fun pins s σ H D I hq => ?_⟩
  have ok := I.ok
  refine wpAny_Try_except (wpAny_mono ((hb (wManyA X.K Wout D l) (X.pn ++ pins) (fun e s₁ => wpAny (model X.prog X.w) X.A (noteFrame e X.env) (fun _ s₂ => wpAny (model X.prog X.w) X.A (setFlight e none) (fun _ s₃ =>
    wpAny (model X.prog X.w) X.A (handleBy e X.env (h₀ :: hds)) (SP X pins D) X.xe s₃) X.xe s₂) X.xe s₁) (fun u s' z => ?_) PassesOwn.looking).run [] s σ H D (I.toTry _) hq) (fun f s1 z => ?_) (fun _ _ z => z))
  · obtain ⟨a, B, sI, pins', σ1, H1, cls, d, rfl, J0, nb, up, sky, na, os, ag, w⟩ := z
    have J := J0.ofTry (X := X) (pins := pins) ok
    show wpAny (model X.prog X.w) X.A (noteFrame (.ref a) X.env) _ _ _
    have hfr : X.A.frames = some (X.env :: X.outer) := by rw [ok.frames, hs]
    refine Sky.land Zc.steady hfr hf (show Sky B (X.env :: X.outer) a (Zc cls d) X.env.locals s'.heap by rw [← hs]; exact sky) fun h3 fl3 up3 => ?_
    have J3 : Inv X pins σ1 H1 { s' with heap := h3 } := J.landed nb fl3.1 (up.trans up3) os ag
    obtain ⟨oe3, vs3, he3, hz3, hd3⟩ := fl3.there
    have nfr : a ∉ frs (X.env :: X.outer) := fun hm => by
      obtain ⟨_, o', e', hnf⟩ := fl3.2.2.1.mem hm
      rw [he3] at e'
      cases e'
      exact hnf _ hd3
    have nL : a ≠ X.env.locals := fun z => nfr (List.mem_filterMap.mpr ⟨X.env, List.mem_cons_self, by rw [hf, z]⟩)
    have nF : a ∉ X.fs := fun hm => by
      obtain ⟨e, he, q⟩ := List.mem_filterMap.mp hm
      exact nfr (List.mem_filterMap.mpr ⟨e, List.mem_cons_of_mem _ he, q⟩)
    have S3 := J3.suite he3 hd3 na nL nF
    suffices go : ∀ {k : List ExceptHandler} {m : List (Value × Nat × (Addr → Value → Option Addr → TS))}, HdA X k m → wManyA X.K Wout D m cls d σ1 H1 → wpAny (model X.prog X.w) X.A (handleBy (.ref a) X.env k) (SP X pins D) X.xe { s' with heap := h3 } from go hh w
    intro k m hk
    induction hk with
    | nil =>
      intro w
      refine wpAny_handleBy_nil ?_
      obtain ⟨k1, k2, k3, oe, vs, T, oT, ts', he, hz, hd, h1, hr⟩ := id fl3
      unfold PySem.passOn
      refine wpAny_bind (wpAny_field he hd h1 ?_)
      rw [if_neg (show ¬ ((Value.ref T == Value.none) = true) from by simp)]
      have fin : wpAny (model X.prog X.w) X.A (setFlight (.ref a) X.env.frame) (fun _ s4 => wpAny (model X.prog X.w) X.A (throw (.ref a) : Sem Flow) (SP X pins D) X.xe s4) X.xe { s' with heap := h3 } := by
        rw [hf]
        refine HandSPX.setFlight_upZ fl3 fun h4 hh4 up4 => wpAny_throw (tk _ _ ⟨a, B, sI, pins, σ1, H1, cls, d, rfl, J, nb, (up.trans up3).trans up4, .inr (.inr (by rw [hs]; exact hh4)), na, os, ag, w⟩)
      first
        | exact wpAny_bind (wpAny_pure (wpAny_bind fin))
        | exact wpAny_bind fin
    | @cons x n i c ts b₀ suite np pos' hds2 l2 hi hln hc hsu r ih =>
      intro w
      obtain ⟨b, hb1, hyes, hno⟩ := w
      refine wpAny_handleBy_cons (codeAny_handlers_test ?_) (fun q => by cases q)
      have LT : PySem.W.Looks (model X.prog X.w) h3 (typeOf (.ref a)) cls := fun A Q E s k q => wpAny_typeOf_ref (k _ _ he3) (by rw [hz3.1]; exact q)
      have test : ∀ {Q : Value → Shared → Prop} {E : Value → Shared → Prop}, Q c { s' with heap := h3 } → wpAny (model X.prog X.w) (X.A.mark (some (.ref a))) (eval (.Name x np) X.env) Q E { s' with heap := h3 } := fun {Q E} q => by
        obtain ⟨hg, hdbg, hm | ⟨hm, hv, hnn⟩⟩ := hc
        · exact ld_glob (X := X.suite a ((a, oe3) :: (X.pn ++ pins))) S3 hg hm q hdbg
        · exact ld_blt (X := X.suite a ((a, oe3) :: (X.pn ++ pins))) S3 hg hm hv q hnn hdbg
      refine test ((PySem.W.exm_one (M := model X.prog X.w) (J3.kIn) LT hb1).here ?_)
      cases b with
      | false =>
        show wpAny _ X.A (handleBy (.ref a) X.env hds2) _ _ _
        exact ih (hno rfl)
      | true =>
        refine codeAny_handlers_suite_as (HandSPX.lands_againZ fl3 fun h4 fl4 up4 => ?_)
        obtain ⟨oe4, vs4, he4, hz4, hd4⟩ := fl4.there
        have J4 : Inv X pins σ1 H1 { s' with heap := h4 } := J.landed nb fl4.1 ((up.trans up3).trans up4) os ag
        have S4 := J4.suite he4 hd4 na nL nF
        refine store_ok (X := X.suite a ((a, oe4) :: (X.pn ++ pins))) (v := .ref a) S4 hN hi (.inl hln) rfl (fun s5 S5 => ?_) (.inr hln)
        refine wpAny_mono ((hsu a oe4 cls d (X.pn ++ pins) hz4 ⟨_, hd4⟩).run [] s5 _ H1 _ S5 (hyes rfl a na)) (fun f s6 z => ?_) (fun _ _ z => False.elim z)
        have end_ : ∀ {σ6 : L2.St} {H6 : Hp} {Q : Shared → Prop}, Inv (X.suite a ((a, oe4) :: (X.pn ++ pins))) [] σ6 H6 s6 → (∀ s7, Inv X pins (σ6.set i none) H6 s7 → Q s7) →
            wpAny (model X.prog X.w) X.A (do bindName X.env n .none; unbindBehindTheSuite X.env n pos') (fun _ s7 => Q s7) X.xe s6 := fun {σ6 H6 Q} S6 hq => gone_ok (S6.unsuite ok) hN hi hln hq
        cases f with
        | next => exact let ⟨σ6, H6, S6, q6⟩ := z; end_ S6 fun s7 J7 => ⟨_, _, J7, q6⟩
        | brk => exact let ⟨σ6, H6, S6, q6⟩ := z; end_ S6 fun s7 J7 => ⟨_, _, J7, q6⟩
        | cont => exact let ⟨σ6, H6, S6, q6⟩ := z; end_ S6 fun s7 J7 => ⟨_, _, J7, q6⟩
        | ret u => exact let ⟨v6, σ6, H6, S6, r6, q6⟩ := z; end_ S6 fun s7 J7 => ⟨_, _, _, J7, r6, q6⟩
  · cases f with
    | next => exact let ⟨σ1, H1, J, q⟩ := z; wpAny_execs_nil ⟨σ1, H1, J.ofTry ok, q⟩
    | brk => exact let ⟨σ1, H1, J, q⟩ := z; ⟨σ1, H1, J.ofTry ok, q⟩
    | cont => exact let ⟨σ1, H1, J, q⟩ := z; ⟨σ1, H1, J.ofTry ok, q⟩
    | ret u => exact let ⟨v, σ1, H1, J, r, q⟩ := z; ⟨v, σ1, H1, J.ofTry ok, r, q⟩
end

/-! ### the lambda is made; all but the table stays -/
section
variable {X : Cx} {pins : List (Addr × Obj)} {σ : L2.St} {H : Hp} {s : Shared} {q : Str}
/-- what the making of a lambda leaves: H1 -/
structure Made (P : Addr) (q : Str) (H H1 : Hp) : Prop where
  keep : ∀ b o, H b = some o → b ≠ P → H1 b = some o
  live : ∀ b, H b ≠ none → H1 b ≠ none
  tab : LamX.TabS H1 P q
  tabo : q = lamQ → ∀ Pw : OP, (∀ a, Pw a → H a ≠ none) → TabO H Pw P → TabO H1 Pw P
theorem lam_mk {c P : Addr} {params : Arguments} {body : Expr} {scope : Scope} {pos : Pos} {E : Value → Shared → Prop} {Q : Value → Shared → Prop} (I : Inv X pins σ H s) (TB : LamX.TabB X.base X.mg c P) (hcode : X.env.code = .ref c) (hq : X.env.qual ++ "<lambda>" = q)
    (hT : LamX.TabS H P q) (hdef : defaultsOf params X.env = ([], [])) (hfree : ∀ y ∈ scope.names, y.2 = .free → ∃ c, X.env.cells.lookup y.1 = some c)
    (h : ∀ (f c' : Addr) (pm ctv : Value) (H1 : Hp) (s' : Shared), Inv X pins σ H1 s' → Made P q H H1 → s'.heap.get? f = some (PySem.W.kla_obj "<lambda>" q params body scope (cloFrom X.env.cells scope.names []) pm c' ctv) → H1 f = none → f ∉ frs X.stack → H1 c' = some (LamX.CodeO c' q) → Q (.ref f) s') :
    wpAny (model X.prog X.w) X.A (eval (.Lambda params body scope pos) X.env) Q E s := by
  subst hq
  obtain ⟨ps, hP, ht, ha⟩ := hT
  have bP : s.heap.BuiltinsAt X.mg P := TB.bm.keeps I.bk
  have hP' : s.heap.get? P = some { cls := .none, data := .fields ps } := I.hok P _ hP
  have nofr : ∀ f, s.heap.objs.size ≤ f → f ∉ frs X.stack := fun f hf z => by
    rcases List.mem_cons.mp (I.stkSub _ z) with e | e
    · exact absurd (Nat.lt_of_lt_of_le I.lt hf) (by rw [← e]; exact Nat.lt_irrefl _)
    · exact I.nofs hf e
  refine PySem.W.kla_eval hdef ?_
  cases hc : codeAmong pos ps.toList with
  | some cv =>
    obtain ⟨c', e, hco⟩ := ha pos cv hc
    subst e
    refine PySem.W.kla_makeFunctionHit (mg := X.mg) (c := c) (P := P) (ps := ps) (closure_ok hfree) I.ok.glob (I.mod.glob.keeps I.bk) hcode (TB.code.keeps I.bk) hP' ht hc bP fun ctv h' tk hx hsz => ?_
    have I1 : Inv X pins σ H { s with heap := h'.push (PySem.W.kla_obj "<lambda>" (X.env.qual ++ "<lambda>") params body scope (cloFrom X.env.cells scope.names []) ((X.mg "__name__").getD .none) c' ctv), toks := tk } := I.kept fun b o e => Heap.get?_push_of_some _ (hx b o e)
    exact h h'.objs.size c' ((X.mg "__name__").getD .none) ctv H _ I1 ⟨fun _ _ e _ => e, fun _ e => e, ⟨ps, hP, ht, ha⟩, fun _ _ _ t => t⟩ (Heap.get?_push_size _ rfl) (I.hok.fresh hsz) (nofr _ hsz) hco
  | none =>
    refine PySem.W.kla_makeFunction (mg := X.mg) (c := c) (P := P) (ps := ps) (closure_ok hfree) I.ok.glob (I.mod.glob.keeps I.bk) hcode (TB.code.keeps I.bk) hP' ht hc TB.gP bP fun c' ctv h' tk hx hge hlt hrec htb => ?_
    obtain ⟨c2, oc, vs, t, e2, hoc, hd, hv⟩ := hrec
    cases e2
    have hsz : s.heap.objs.size ≤ h'.objs.size := Nat.le_trans hge (Nat.le_of_lt hlt)
    have nC : H c' = none := I.hok.fresh hge
    have I1 := LamX.inv_table (q := X.env.qual ++ "<lambda>") (t' := tk) (more := #[rawInt pos.line, rawInt pos.col, .ref c']) (h' := h'.push (PySem.W.kla_obj "<lambda>" (X.env.qual ++ "<lambda>") params body scope (cloFrom X.env.cells scope.names []) ((X.mg "__name__").getD .none) c' ctv)) I hP
      (fun b o hb e => Heap.get?_push_of_some _ (hx b o hb e)) (Heap.get?_push_of_some _ htb) hge ⟨oc, vs, t, Heap.get?_push_of_some _ hoc, hd, hv⟩
    generalize hH1 : upd (upd H P (.tbl (ps ++ #[rawInt pos.line, rawInt pos.col, .ref c']))) c' (LamX.CodeO c' (X.env.qual ++ "<lambda>")) = H1 at I1
    have at1 : ∀ b, b ≠ c' → b ≠ P → H1 b = H b := fun b h1 h2 => by rw [← hH1, upd_ne h1, upd_ne h2]
    have atC : H1 c' = some (LamX.CodeO c' (X.env.qual ++ "<lambda>")) := by rw [← hH1, upd_same]
    have atP : H1 P = some (.tbl (ps ++ #[rawInt pos.line, rawInt pos.col, .ref c'])) := by rw [← hH1, upd_ne (ne_of_none hP nC), upd_same]
    have eL : (ps ++ #[rawInt pos.line, rawInt pos.col, .ref c']).toList = ps.toList ++ [rawInt pos.line, rawInt pos.col, .ref c'] := by simp
    have old : ∀ b o, H b = some o → b ≠ P → H1 b = some o := fun b o e n => by rw [at1 b (ne_of_none e nC) n]; exact e
    have codeP : ∀ c0, H c0 = some (LamX.CodeO c0 (X.env.qual ++ "<lambda>")) → c0 ≠ P := fun c0 e z => by
      rw [z, hP] at e
      exact LamX.codeO_ne _ (Option.some.inj e).symm
    have tok : TriplesOk (ps ++ #[rawInt pos.line, rawInt pos.col, .ref c']).toList := by rw [eL]; exact PySem.TriplesOk_snoc _ _ _ _ ht
    refine h h'.objs.size c' ((X.mg "__name__").getD .none) ctv H1 _ I1 ⟨old, fun b hb => ?_, ⟨_, atP, tok, fun p' cv hcv => ?_⟩, fun eq Pw hPw tb => ?_⟩ (Heap.get?_push_size _ rfl) ?_ (nofr _ hsz) atC
    · by_cases h1 : b = c'
      · rw [h1, atC]; simp
      · by_cases h2 : b = P
        · rw [h2, atP]; simp
        · rw [at1 b h1 h2]; exact hb
    · rw [eL] at hcv
      rcases LamX.among_app _ ht hcv with z | z
      · obtain ⟨c0, e1, e2⟩ := ha p' cv z
        exact ⟨c0, e1, old _ _ e2 (codeP c0 e2)⟩
      · exact ⟨c', z, atC⟩
    · obtain ⟨ps0, hP0, ht0, ha0⟩ := tb
      rw [hP] at hP0
      cases hP0
      refine ⟨_, atP, tok, fun p' cv hcv => ?_⟩
      rw [eL] at hcv
      rcases LamX.among_app _ ht hcv with z | z
      · obtain ⟨c0, e1, e2, e3⟩ := ha0 p' cv z
        rw [← eq] at e2 ⊢
        exact ⟨c0, e1, old _ _ e2 (codeP c0 e2), e3⟩
      · rw [← eq]
        exact ⟨c', z, atC, fun z2 => hPw c' z2 nC⟩
    · have n1 : h'.objs.size ≠ c' := Nat.ne_of_gt hlt
      have n2 : h'.objs.size ≠ P := Nat.ne_of_gt (Nat.lt_of_lt_of_le (Heap.lt_size hP') hsz)
      rw [at1 _ n1 n2]
      exact I.hok.fresh hsz
end

/-! ### handed to the def that calls it -/
def tLamP (P : Addr) (q : Str) (TT : (XK → Hp → VK → Prop) → Hp → VK → Prop) (t : XK → TE) : TE := fun σ H Q => LamX.TabS H P q ∧ ∀ H1, Made P q H H1 → TT (fun E H' Q' => t E σ H' Q') H1 Q
theorem pe_lamP {X : Cx} {TT : (XK → Hp → VK → Prop) → Hp → VK → Prop} {x a q : Str} {g c P : Addr} {k : Nat} {pg : Arguments} {bg : List Stmt} {sg : Scope} {dV kV doc pm cdv ct oc : Value} {an od : Option Addr} {osl : Array (Option Value)} {Ng : List Str}
    {params : Arguments} {body : Expr} {scope : Scope} {t : XK → TE} {p lpos pos : Pos} (hg : Gl X x) (hm : X.mg x = some (.ref g)) (hk : PySem.W.keepIn X.K (.ref g) = true)
    (lk : X.K.lookup g = some ⟨oc, od, .func (PySem.W.fnOf x x pg bg sg dV kV doc pm an cdv ct), osl⟩) (hcg : PySem.W.codeIn X.K cdv x = true) (hb : L2.Binds X.K (PySem.W.fnOf x x pg bg sg dV kV doc pm an cdv ct) [a] []) (Sg : FnScope Ng [a] sg) (hNg : Ng[0]? = some a) (hva : Vis sg a)
    (hG : LamX.GivesTo X Ng x sg g cdv bg a q TT) (TB : LamX.TabB X.base X.mg c P) (hcode : X.env.code = .ref c) (hq : X.env.qual ++ "<lambda>" = q) (hr : Room (k + 2) X.A) (L : LamX.LamS X.env.scope scope) (hdef : defaultsOf params X.env = ([], []))
    (hbind : ∀ (q : Str) (cl : List (Str × Addr)) (pm cv ctv : Value), bindArgs (PySem.W.kla_fn "<lambda>" q params body scope cl pm cv ctv) ⟨[], []⟩ = pure [])
    (hbody : ∀ (A : Around) (outer : List PySem.Env) (s : Shared) (H : Hp) (E : XK) (f c' : Addr), Room k (A.deeper (LamX.lamEnv X scope s.heap.objs.size f c')) → PE (LamX.lamCx X A outer s H E scope f c') body (t E))
    (hdb : (x == ("__debug__" : Str)) = false) (hd : (a == ("__debug__" : Str)) = false) (hcd : (a == ("__classdict__" : Str)) = false) :
    PE X (.Call (.Name x p) [.Lambda params body scope lpos] [] pos) (tLamP P q TT t) := by
  refine ⟨fun pins s σ H Q I hw => ?_⟩
  obtain ⟨hT, hw⟩ := hw
  refine wpAny_Call_Name_kw (ld_glob I hg hm (PySem.W.callWith_K (h₀ := X.base) I.ok.mod.kin hk ?_ rfl rfl) hdb)
  show wpAny _ _ (spliced ((false, eval (.Lambda params body scope lpos) X.env) :: backTo pos (starEach [] X.env))) _ _ s
  refine Calls.spliced_cons (lam_mk I TB hcode hq hT hdef (L.has I.ok) fun f c' pm' ctv H1 s' I1 md hf hfn hfr hco => Calls.spliced_nil ⟨I1.kIn, ?_⟩)
  subst hq
  have rc : codeAny (model X.prog X.w) X.A (.call (.ref g) ⟨[.ref f], []⟩) (CR C8.CX0 X.stack X.prog X.w H1 s' Q C8.E0) s' := by
    refine LamX.run_ofS (N := Ng) (ps := [a]) (us := [.ref f]) (vs := [.ref f]) lk hcg Sg hr I1.env0 (hb s' [.ref f] I1.kIn rfl) (.cons rfl .nil) rfl fun hr' => ?_
    obtain ⟨t', ht', hq'⟩ := hG f c' s' H1 Q (fun E H' Q' => t E σ H' Q') (fun W pn xe E p1 p2 tk hW => LamX.pe_act (i := 0) I1 L hf hfn hfr (hbind _ _ _ _ _) tk hW hr' (fun A outer s H hr2 => hbody A outer s H E f c' hr2) hNg hva hd hcd) hco (hw H1 md)
    exact ⟨t', ht'.nox, hq'⟩
  refine wpAny_call (codeAny_mono rc fun r s2 z => ?_)
  cases r with
  | error e => exact (show False from z).elim
  | ok fl =>
    cases fl with
    | ret u => exact I1.after z
    | next => exact False.elim z
    | brk => exact False.elim z
    | cont => exact False.elim z
/-- what the clauses make of an error -/
def clz (K : PySem.W.Frag) : List (Value × Str) → Value → Hp → VK → Prop
  | [], _, _, _ => False
  | (c, r) :: l, cls, H', Q => ∃ b, PySem.W.exmOne K cls c = some b ∧ (b = true → Q (.str r) H') ∧ (b = false → clz K l cls H' Q)
/-- try: a() / except x as e: return r .. / return r0 -/
def TTm (K : PySem.W.Frag) (l : List (Value × Str)) (r0 : Str) : (XK → Hp → VK → Prop) → Hp → VK → Prop := fun tl H Q => tl (fun cls _ H' => clz K l cls H' Q) H fun _ H' => Q (.str r0) H'
/-- the clauses' text -/
inductive ClzB (n : Str) : List ExceptHandler → List (Str × Str) → Prop
  | nil : ClzB n [] []
  | cons {x r : Str} {np p1 p2 p3 : Pos} {j : Nat} {hds : List ExceptHandler} {l : List (Str × Str)} : ClzB n hds l → ClzB n (.ExceptHandler (some (.Name x np)) (some n) [.Return (some (.Constant (.str r) j p1)) p2] p3 :: hds) ((x, r) :: l)
theorem told_gives {X : Cx} {x a n q r0 : Str} {sg : Scope} {g : Addr} {cdg : Value} {i : Nat} {Ng : List Str} {h₀ : ExceptHandler} {hds : List ExceptHandler} {l : List (Str × Str)} {cs : List (Value × Str)} {j : Nat} {p1 p2 p3 p4 p5 p6 : Pos} (hNd : Ng.Nodup) (hi : Ng[i]? = some n) (hln : sg.names.lookup n = some .local)
    (h0 : ∀ f : Addr, (L2.start Ng [V.ref f])[0]? = some (some (V.ref f))) (hB : ClzB n (h₀ :: hds) l) (hcs : cs.map (·.2) = l.map (·.2)) (hnm : ∀ (k : Nat) (y : Str × Str) (v : Value × Str), l[k]? = some y → cs[k]? = some v → sg.names.lookup y.1 = some .globalImplicit ∧ (y.1 == ("__debug__" : Str)) = false ∧ X.mg y.1 = some v.1) :
    LamX.GivesTo X Ng x sg g cdg [.Try [.Expr (.Call (.Name a p1) [] [] p2) p3] (h₀ :: hds) [] [] p4, .Return (some (.Constant (.str r0) j p5)) p6] a q (TTm X.K cs r0) := by
  intro f c' s H Q tl act hc hw
  generalize hZ : (cxOf C8.CX0 X.prog X.w X.K X.mg X.base Ng x sg g cdg X.A X.stack s H C8.E0).nox = Z at *
  have zs : Z.stack = Z.env :: Z.outer := by subst hZ; rfl
  have zf : Z.env.frame = some Z.env.locals := by subst hZ; rfl
  have zN : Z.N = Ng := by subst hZ; rfl
  have zsc : Z.env.scope = sg := by subst hZ; rfl
  have zm : Z.mg = X.mg := by subst hZ; rfl
  have zK : Z.K = X.K := by subst hZ; rfl
  have hds : ∀ {hs : List ExceptHandler} {l : List (Str × Str)} {cs : List (Value × Str)}, ClzB n hs l → cs.map (·.2) = l.map (·.2) → (∀ (k : Nat) (y : Str × Str) (v : Value × Str), l[k]? = some y → cs[k]? = some v → sg.names.lookup y.1 = some .globalImplicit ∧ (y.1 == ("__debug__" : Str)) = false ∧ X.mg y.1 = some v.1) →
      HdA Z hs (cs.map fun v => (v.1, i, fun _ _ _ => tRet (tC (.str v.2)))) := by
    intro hs l cs hb
    induction hb generalizing cs with
    | nil =>
      intro e _
      cases cs with
      | nil => exact .nil
      | cons _ _ => cases e
    | cons hb ih =>
      intro e hk
      cases cs with
      | nil => cases e
      | cons v vs =>
        rw [List.map_cons, List.map_cons] at e
        obtain ⟨e1, e2⟩ := List.cons.inj e
        obtain ⟨k1, k2, k3⟩ := hk 0 _ v rfl rfl
        refine .cons (by rw [zN]; exact hi) (by show Z.env.scope.names.lookup n = _; rw [zsc]; exact hln) ⟨by show Z.env.scope.names.lookup _ = _; rw [zsc]; exact k1, k2, .inl (by rw [zm]; exact k3)⟩ (fun b oe cls d pn _ _ => ?_) (ih e2 fun k y u h1 h2 => hk (k + 1) y u h1 h2)
        have e3 : v.2 = _ := e1
        rw [e3]
        exact pss_one (ps_ret pe_str)
  refine ⟨_, pss_cons (ps_tryA zs zf (by rw [zN]; exact hNd) (Wout := fun _ _ _ _ => False) takes_none5
      (tb := fun W D σ H => ∃ Ech : XK, (∀ cls d σ' H', Ech cls d H' → W cls d σ' H') ∧ σ[0]? = some (some (.ref f)) ∧ H c' = some (LamX.CodeO c' q) ∧ tl Ech H fun _ H' => D.nx σ H') (fun W pn xe tk _ => ?_) (hds hB hcs hnm)) (pss_one (ps_ret pe_str)), ?_⟩
  · refine ⟨fun pins s' σ' H' D I' z => ?_⟩
    obtain ⟨Ech, hW, z1, z2, z3⟩ := z
    subst hZ
    have hp := act W pn xe Ech p1 p2 tk hW
    exact (pss_one (ps_expr (pos := p3) hp rfl)).run pins s' σ' H' D I' ⟨z1, z2, z3⟩
  · refine ⟨fun cls _ H' => clz X.K cs cls H' Q, fun cls d σ' H' z => ?_, h0 f, hc, hw⟩
    have key : ∀ (cs : List (Value × Str)), clz X.K cs cls H' Q → wManyA Z.K (fun _ _ _ _ => False) { nx := tRet (tC (.str r0)) { nx := fun _ H' => Q .non H', rt := Q }, rt := Q } (cs.map fun v => (v.1, i, fun _ _ _ => tRet (tC (.str v.2)))) cls d σ' H' := by
      intro cs
      induction cs with
      | nil => exact fun z => z
      | cons v vs ih =>
        rintro ⟨b, e1, e2, e3⟩
        exact ⟨b, by rw [zK]; exact e1, fun hb _ _ => e2 hb, fun hb => ih (e3 hb)⟩
    exact key cs z

/-! ### what the lambda's body does -/
section
variable {K : PySem.W.Frag} {P : Addr} {H H1 : Hp} {Pw : OP}
theorem ESl.tab : ∀ {σ : L2.St} {ρ : En} {l : List Addr}, ESl K (some P) H Pw σ ρ l → TabO H Pw P ∧ P ∈ l
  | _, _, _, .nil e => by cases e
  | _, _, _, .base e b => by
    cases e
    exact ⟨b, List.mem_singleton.mpr rfl⟩
  | _, _, _, .skip h => ESl.tab h
  | _, _, _, .cons r h => ⟨(ESl.tab h).1, List.mem_append_right _ (ESl.tab h).2⟩
theorem ESl.retab (t : Tr Pw H Pw H1) (n : TabO H1 Pw P) (k : ∀ a x, a ≠ P → H a = some x → H1 a = some x) : ∀ {σ : L2.St} {ρ : En} {l : List Addr}, ESl K (some P) H Pw σ ρ l → l.Nodup → ESl K (some P) H1 Pw σ ρ l
  | _, _, _, .nil e, _ => by cases e
  | _, _, _, .base e b, _ => by
    cases e
    exact .base rfl n
  | _, _, _, .skip h, nd => .skip (ESl.retab t n k h nd)
  | _, _, _, .cons r h, nd => by
    have nd2 := List.nodup_append.mp nd
    exact .cons (r.tr t fun a ha x e => k a x (fun z => nd2.2.2 a ha P h.tab.2 z) e) (ESl.retab t n k h nd2.2.1)
end
def toldF (fb : En → R OV) (hs : List (Nat × Str)) (ρ : En) : R OV := match fb ρ with
  | none => none
  | some (.ok _, ρ1) => R.ok (.fr (.str "")) ρ1
  | some (.error c, ρ1) => match hs.lookup c with
    | some x => R.ok (.fr (.str x)) ρ1
    | none => none
theorem clz_at {K : PySem.W.Frag} {er : Nat → Value} {H' : Hp} {Q : VK} {c : Nat} {x : Str} (q : Q (.str x) H') : ∀ (hs : List (Nat × Str)), (∀ v ∈ hs, PySem.W.exmOne K (er c) (er v.1) = some (decide (c = v.1))) → hs.lookup c = some x → clz K (hs.map fun v => (er v.1, v.2)) (er c) H' Q
  | [], _, h => by cases h
  | (c', y) :: hs, hex, h => by
    refine ⟨_, hex (c', y) List.mem_cons_self, fun hb => ?_, fun hb => ?_⟩
    · have e : c = c' := of_decide_eq_true hb
      subst e
      rw [List.lookup_cons, beq_self_eq_true] at h
      cases h
      exact q
    · have ne : c ≠ c' := of_decide_eq_false hb
      rw [List.lookup_cons, beq_eq_false_iff_ne.mpr ne] at h
      exact clz_at q hs (fun v hv => hex v (List.mem_cons_of_mem _ hv)) h
theorem c_told {K : PySem.W.Frag} {er : Nat → Value} {W : WX} {P : Addr} {hs : List (Nat × Str)} {fb : En → R OV} {q m pb : Bool} {σ : L2.St} {H : Hp} {Q : VK} (htb : tbE er = some P) (hex : ∀ u ∈ hs, ∀ v ∈ hs, PySem.W.exmOne K (er u.1) (er v.1) = some (decide (u.1 = v.1)))
    (h : tE K er W (toldF fb hs) false m false σ H Q) : tLamP P lamQ (TTm K (hs.map fun v => (er v.1, v.2)) "") (fun E => tE K er (fun cls d _ H => E cls d H) fb q false pb) σ H Q := by
  obtain ⟨T, ρ, own, r, p, e, aft⟩ := h
  obtain ⟨l, es, pm⟩ := p.es
  have nd : l.Nodup := pm.nodup_iff.mpr p.nd
  rw [htb] at es
  obtain ⟨tb, hmem⟩ := es.tab
  have hown : P ∈ own := pm.mem_iff.mp hmem
  obtain ⟨ps, t1, t2, t3⟩ := id tb
  refine ⟨⟨ps, t1, t2, fun pos cv hc => let ⟨c, e1, e2, _⟩ := t3 pos cv hc; ⟨c, e1, e2⟩⟩, fun H1 md => ?_⟩
  have al : ∀ a, Own T own a → H a ≠ none := by
    have := p.post.alive p (fun x hx => absurd hx (by simp))
    rw [List.append_nil] at this
    exact this
  have tb1 := md.tabo rfl _ al tb
  have tr : Tr (Own T own) H (Own T own) H1 := fun a o n e => ⟨n, md.keep a o e fun z => n (.inr (z ▸ hown))⟩
  have es1 := es.retab tr tb1 (fun a x n e => md.keep a x e n) nd
  rw [← htb] at es1
  have p1 : Pre K (tbE er) T H1 σ ρ own := ⟨⟨l, es1, pm⟩, p.nd, p.dis, fun a ha => md.live a (p.al a ha)⟩
  have x1 : Ext own H H1 own := ⟨fun a o n e => md.keep a o e fun z => n (z ▸ hown), md.live, fun a ha => .inl ha⟩
  have fin : ∀ {H' : Hp} {ρ' : En} {own' tv : List Addr} {q' : Bool}, Post K (tbE er) T σ H1 own q' H' ρ' own' tv → Post K (tbE er) T σ H own false H' ρ' own' [] := fun {H' ρ' own' tv q'} pp => by
    have p2 := pp.sub (tv2 := []) (List.nil_sublist _)
    exact ⟨x1.trans p2.ext, p2.es, p2.nd, p2.dis, fun z => by cases z⟩
  unfold toldF at e
  split at e
  · cases e
  · rename_i z ρ1 hf
    have e2 := ok_some e
    subst e2
    exact ⟨T, ρ, own, _, p1, hf, fun v H' own' tv pp _ => aft _ H' own' [] (fin pp) (.inl ⟨.fr (.str _), fun z => by cases z⟩)⟩
  · rename_i c ρ1 hf
    split at e
    · rename_i x hx
      have e2 := ok_some e
      subst e2
      refine ⟨T, ρ, own, _, p1, hf, fun H' own' pp => clz_at (aft _ H' own' [] (fin pp) (.inl ⟨.fr (.str _), fun z => by cases z⟩)) hs (fun v hv => ?_) hx⟩
      have key : ∀ (l : List (Nat × Str)), l.lookup c = some x → ∃ u ∈ l, u.1 = c := by
        intro l
        induction l with
        | nil => intro h; cases h
        | cons u l ih =>
          intro h
          obtain ⟨u1, u2⟩ := u
          rw [List.lookup_cons] at h
          cases hb : c == u1 with
          | true => exact ⟨_, List.mem_cons_self, (eq_of_beq hb).symm⟩
          | false =>
            rw [hb] at h
            obtain ⟨w, hw, ew⟩ := ih h
            exact ⟨w, List.mem_cons_of_mem _ hw, ew⟩
      obtain ⟨u, hu, eu⟩ := key hs hx
      have := hex u hu v hv
      rw [eu] at this
      exact this
    · cases e
end DP

set_option Elab.async false
set_option linter.all false
set_option autoImplicit false
set_option maxRecDepth 100000
set_option maxHeartbeats 1000000
/-! DP, part Q: which text a term of the core language tells; expressions. -/
namespace DP
open PySem PySem.Spec PyProof.Rows L2

structure Sg where
  N : List Str
  fns : List (Str × Nat × List Bool)
  nums : List (Str × Int)
  bl : List Str
  bf : List (Str × String)
  ers : List (Str × Nat)
  told : List (Nat × Str)
def Sg.noTold (Γ : Sg) : Sg := { Γ with told := [] }
def noArgs : Arguments → Bool
  | ⟨[], [], none, [], [], none, []⟩ => true
  | _ => false
def visB (sc : Scope) (x : Str) : Bool := match sc.names.lookup x with
  | some .local => true
  | some .cell => true
  | some .free => true
  | _ => false
def glB (sc : Scope) (x : Str) : Bool := match sc.names.lookup x with
  | some .globalImplicit => true
  | _ => false
def okN (x : Str) : Bool := !(x == ("__debug__" : Str)) && !(x == ("__classdict__" : Str))
def nmB (Γ : Sg) (sc : Scope) (i : Nat) (x : Str) : Bool := decide (Γ.N[i]? = some x) && (visB sc x && okN x)
def notSet : Expr → Bool
  | .Set _ _ _ => false
  | _ => true
def notSlice : Expr → Bool
  | .Slice _ _ _ _ => false
  | _ => true
def cstB : PyData → Const → Bool
  | .none, .none => true
  | .bool a, .bool b => a == b
  | .int a, .int b => a == b
  | .str a, .str b => a == b
  | _, _ => false
def bopM (o : Bop) (op : Operator) : Bool := decide (op = bopE o)
/-- the names of the built-ins -/
def bltX : Blt → Option (Str × Value)
  | .len => some ("len", .builtin "len")
  | .all => some ("all", .builtin "all")
  | .any => some ("any", .builtin "any")
  | .sum => some ("sum", .builtin "sum")
  | .max => some ("max", .builtin "max")
  | .min => some ("min", .builtin "min")
  | .sorted => some ("sorted", .builtin "sorted")
  | .tuple => some ("tuple", .type "tuple")
  | .list => some ("list", .type "list")
  | .int => some ("int", .type "int")
  | .str => some ("str", .type "str")
  | _ => none
def tyS : Blt → Option Str
  | .isInt => some "int"
  | .isBool => some "bool"
  | .isStr => some "str"
  | .isTuple => some "tuple"
  | .isList => some "list"
  | _ => none
def mthN : Mth → Option Str
  | .split => some "split"
  | .partition => some "partition"
  | .join => some "join"
  | _ => none
def mutN : Mut → Option (Str × Nat)
  | .append => some ("append", 1)
  | .extend => some ("extend", 1)
  | .pop => some ("pop", 0)
  | .popAt => some ("pop", 1)
  | _ => none
def exsLen : Exs → Nat
  | .nil => 0
  | .cons _ es => exsLen es + 1
def gblB (Γ : Sg) (sc : Scope) (x : Str) : Bool := glB sc x && (decide (x ∈ Γ.bl) && okN x)
mutual
def ckG (Γ : Sg) (sc : Scope) (fl : Bool) : Tg → Expr → Bool
  | .nm i, e => match e with
    | .Name x _ => decide (Γ.N[i]? = some x) && (match sc.names.lookup x with | some .local => true | some .cell => fl | _ => false)
    | _ => false
  | .tp ts, e => match e with
    | .Tuple es _ _ => ckGs Γ sc fl ts es
    | _ => false
def ckGs (Γ : Sg) (sc : Scope) (fl : Bool) : List Tg → List Expr → Bool
  | [], [] => true
  | t :: ts, e :: es => noStar e && (ckG Γ sc fl t e && ckGs Γ sc fl ts es)
  | _, _ => false
end
def isTupE : Expr → Bool
  | .Tuple _ _ _ => true
  | _ => false
def ownP (Γ : Sg) (own : List Nat) : List (Str × Nat) := own.filterMap fun i => (Γ.N[i]?).map fun x => (x, i)
mutual
/-- may stand as a test -/
def tk : Ex → Bool
  | .ite _ _ _ => false
  | .frz _ => false
  | .nt a => tk a
  | .bo _ es => tks es
  | _ => true
def tks : Exs → Bool
  | .nil => true
  | .cons x xs => tk x && tks xs
end
mutual
def ck (Γ : Sg) (sc : Scope) : Ex → Expr → Bool
  | .var i, e => match e with
    | .Name x _ => nmB Γ sc i x
    | _ => false
  | .cst d, e => match e with
    | .Constant c _ _ => cstB d c
    | _ => false
  | .glo d, e => match d with
    | .int i => match e with
      | .Name x _ => glB sc x && (okN x && decide ((x, i) ∈ Γ.nums))
      | _ => false
    | _ => false
  | .bin o a b, e => match e with
    | .BinOp ea op eb _ => bopM o op && (ck Γ sc a ea && ck Γ sc b eb)
    | _ => false
  | .neg a, e => match e with
    | .UnaryOp .USub ea _ => ck Γ sc a ea
    | _ => false
  | .nt a, e => match e with
    | .UnaryOp .Not ea _ => ck Γ sc a ea
    | _ => false
  | .bo k es, e => match e with
    | .BoolOp op es' _ => decide (op = bopB k) && ckL Γ sc es es'
    | _ => false
  | .cmp o a b, e => match e with
    | .Compare ea [op] [eb] _ => decide (op = copE o) && (notSet eb && (ck Γ sc a ea && ck Γ sc b eb))
    | _ => false
  | .isN k a, e => match e with
    | .Compare ea [op] [.Constant .none _ _] _ => decide (op = if k then .Is else .IsNot) && ck Γ sc a ea
    | _ => false
  | .chain o1 o2 a b c, e => match e with
    | .Compare ea [op1, op2] [eb, ec] _ => decide (op1 = copE o1) && (decide (op2 = copE o2) && (notSet ec && (ck Γ sc a ea && (ck Γ sc b eb && ck Γ sc c ec))))
    | _ => false
  | .ite c a b, e => match e with
    | .IfExp ec ea eb _ => tk c && (ck Γ sc c ec && (ck Γ sc a ea && ck Γ sc b eb))
    | _ => false
  | .tup es, e => match e with
    | .Tuple es' _ _ => decide (exsLen es ≤ 1000) && ckL Γ sc es es'
    | _ => false
  | .lst es, e => match e with
    | .List es' _ => decide (exsLen es ≤ 1000) && ckL Γ sc es es'
    | _ => false
  | .dct _ _ _, _ => false
  | .idx a i, e => match e with
    | .Subscript ea ei _ => notSlice ei && (ck Γ sc a ea && ck Γ sc i ei)
    | _ => false
  | .slc a lo hi, e => match e with
    | .Subscript ea (.Slice l u none _) _ => ck Γ sc a ea && (ckO Γ sc lo l && ckO Γ sc hi u)
    | _ => false
  | .stp _ _, _ => false
  | .call f ms es, e => match e with
    | .Call (.Name x _) es' [] _ => (match Γ.fns.lookup x with
        | some (id, ps) => decide (id = f) && (msOk ms ps && (!(ms.contains .pk && ms.contains .io) && (glB sc x && okN x)))
        | none => false) && (!es'.isEmpty && ckA Γ sc ms es es')
    | _ => false
  | .blt b es, e => match b, es with
    | .lrange, .cons a (.cons a' .nil) => match e with
      | .Call (.Name x _) [.Call (.Name y _) [ea, ea'] [] _] [] _ => decide (x = ("list" : Str)) && (decide (y = ("range" : Str)) && (gblB Γ sc x && (gblB Γ sc y && (noStar ea && (noStar ea' && (ck Γ sc a ea && ck Γ sc a' ea'))))))
      | _ => false
    | .gcd, es => match e with
      | .Call (.Name x _) es' [] _ => glB sc x && (okN x && (decide ((x, "math.gcd") ∈ Γ.bf) && (decide (exsLen es = 2) && ckL Γ sc es es')))
      | _ => false
    | .isTupleList, .cons a .nil => match e with
      | .Call (.Name x _) [ea, .Tuple [.Name y _, .Name z _] _ _] [] _ => decide (x = ("isinstance" : Str)) && (gblB Γ sc x && (decide (y = ("tuple" : Str)) && (gblB Γ sc y && (decide (z = ("list" : Str)) && (gblB Γ sc z && (noStar ea && ck Γ sc a ea))))))
      | _ => false
    | b, .cons a .nil => match tyS b with
      | some n => match e with
        | .Call (.Name x _) [ea, .Name y _] [] _ => decide (x = ("isinstance" : Str)) && (gblB Γ sc x && (decide (y = n) && (gblB Γ sc y && (noStar ea && ck Γ sc a ea))))
        | _ => false
      | none => match bltX b with
        | some (n, _) => match e with
          | .Call (.Name x _) [ea] [] _ => decide (x = n) && (gblB Γ sc x && (noStar ea && ck Γ sc a ea))
          | _ => false
        | none => false
    | b, .cons a (.cons a' es) => match bltX b with
      | some (n, _) => match e with
        | .Call (.Name x _) (ea :: es') [] _ => decide (x = n) && (gblB Γ sc x && (noStar ea && (ck Γ sc a ea && ckL Γ sc (.cons a' es) es')))
        | _ => false
      | none => false
    | _, _ => false
  | .meth m o es, e => match es with
    | .cons a .nil => match mthN m with
      | some n => match e with
        | .Call (.Attribute eo name apos) [ea] [] cpos => decide (name = n) && (noSuper eo && (decide (apos.endLine = cpos.line) && (noStar ea && (ck Γ sc o eo && ck Γ sc a ea))))
        | _ => false
      | none => false
    | _ => false
  | .mut m p es, e => match mutN m with
    | some (n, k) => match e with
      | .Call (.Attribute eo name apos) es' [] cpos => decide (name = n) && (noSuper eo && (decide (apos.endLine = cpos.line) && (decide (exsLen es = k) && (ckP Γ sc p eo && ckL Γ sc es es'))))
      | _ => false
    | none => false
  | .comp elt gs own, e => match gs with
    | .cons t i c .nil => match e with
      | .ListComp eelt [⟨tg, iter, ifs, k⟩] scope _ => decide (k = 0) && (blkC Γ.N sc scope (ownP Γ own) && (decide ((ownP Γ own).map (·.2) = own) && (notSet iter && ((tgs t).all (fun j => own.contains j) && (ckG Γ.noTold (relS scope sc) false t tg && (ckI Γ sc i tg iter &&
          (ckF Γ.noTold (relS scope sc) c ifs && ck Γ.noTold (relS scope sc) elt eelt)))))))
      | _ => false
    | .cons t i c (.cons t1 i1 c1 .nil) => match e with
      | .ListComp eelt [⟨tg, iter, ifs, k⟩, ⟨tg1, iter1, ifs1, k1⟩] scope _ => decide (k = 0) && (decide (k1 = 0) && (blkC Γ.N sc scope (ownP Γ own) && (decide ((ownP Γ own).map (·.2) = own) && (notSet iter && (notSet iter1 && ((tgs t).all (fun j => own.contains j) && ((tgs t1).all (fun j => own.contains j) &&
          (ckG Γ.noTold (relS scope sc) false t tg && (ckG Γ.noTold (relS scope sc) false t1 tg1 && (ckI Γ sc i tg iter && (ckI Γ.noTold (relS scope sc) i1 tg1 iter1 && (ckF Γ.noTold (relS scope sc) c ifs && (ckF Γ.noTold (relS scope sc) c1 ifs1 && ck Γ.noTold (relS scope sc) elt eelt)))))))))))))
      | _ => false
    | _ => false
  | .told _ hs _ b, e => match e with
    | .Call (.Name x _) [.Lambda params lb lsc _] [] _ => decide (x = ("_law_told" : Str)) && (decide (hs = Γ.told) && (!hs.isEmpty && (glB sc x && (LamX.lamSB sc lsc && (noArgs params && ck Γ.noTold lsc b lb)))))
    | _ => false
  | .frz a, e => ck Γ sc a e
/-- a row -/
def ckL (Γ : Sg) (sc : Scope) : Exs → List Expr → Bool
  | .nil, es => es.isEmpty
  | .cons x xs, es => match es with
    | e :: es => noStar e && (ck Γ sc x e && ckL Γ sc xs es)
    | [] => false
/-- an end of a slice -/
def ckO (Γ : Sg) (sc : Scope) : Exs → Option Expr → Bool
  | .nil, e => e.isNone
  | .cons x xs, e => match xs with
    | .nil => match e with
      | some e => ck Γ sc x e
      | none => false
    | .cons _ _ => false
/-- arguments -/
def ckA (Γ : Sg) (sc : Scope) : List AM → Exs → List Expr → Bool
  | ms, .nil, es => ms.isEmpty && es.isEmpty
  | ms, .cons x xs, es => match ms with
    | .io :: ms => match x with
      | .var i => match es with
        | .Name y _ :: es => nmB Γ sc i y && ckA Γ sc ms xs es
        | _ => false
      | _ => false
    | _ :: ms => match es with
      | e :: es => noStar e && (ck Γ sc x e && ckA Γ sc ms xs es)
      | [] => false
    | [] => false
/-- a path -/
def ckP (Γ : Sg) (sc : Scope) : Ex → Expr → Bool
  | .var i, e => match e with
    | .Name x _ => nmB Γ sc i x
    | _ => false
  | .idx a i, e => match e with
    | .Subscript ea ei _ => notSlice ei && (ckP Γ sc a ea && ck Γ sc i ei)
    | _ => false
  | _, _ => false
/-- what is walked -/
def ckI (Γ : Sg) (sc : Scope) : DP.Itr → Expr → Expr → Bool
  | .it x, _, e => ck Γ sc x e
  | .rng es, _, e => match e with
    | .Call (.Name x _) es' [] _ => decide (x = ("range" : Str)) && (gblB Γ sc x && (decide (exsLen es = 1 ∨ exsLen es = 2) && ckL Γ sc es es'))
    | _ => false
  | .zip a b, tg, e => match e with
    | .Call (.Name x _) [ea, eb] [] _ => decide (x = ("zip" : Str)) && (gblB Γ sc x && (isTupE tg && (noStar ea && (noStar eb && (ck Γ sc a ea && ck Γ sc b eb)))))
    | _ => false
  | .enum a, tg, e => match e with
    | .Call (.Name x _) [ea] [] _ => decide (x = ("enumerate" : Str)) && (gblB Γ sc x && (isTupE tg && (noStar ea && ck Γ sc a ea)))
    | _ => false
/-- the tests of a clause -/
def ckF (Γ : Sg) (sc : Scope) : Exs → List Expr → Bool
  | .nil, es => es.isEmpty
  | .cons x xs, es => match xs with
    | .nil => match es with
      | [e] => tk x && ck Γ sc x e
      | _ => false
    | .cons _ _ => false
end
end DP

set_option Elab.async false
set_option linter.all false
set_option autoImplicit false
set_option maxRecDepth 100000
set_option maxHeartbeats 2000000
/-! DP, part R: the check is sound; expressions. -/
namespace DP
open PySem PySem.Spec PyProof.Rows L2

def FnAt (X : Cx) (er : Nat → Value) (cf : CF) (x : Str) (id : Nat) (ps : List Bool) : Prop :=
  ∃ k f fd pn, FnOk X.prog X.w X.K X.mg X.base (L2.CX X.prog X.w) k f fd pn (spF X.K er cf id ps) ∧ Room k X.A ∧ X.mg x = some (.ref f) ∧ PySem.W.keepIn X.K (.ref f) = true ∧ L2.Binds X.K fd pn []
/-- what a lambda's walk asks -/
def ToldAt (Γ : Sg) (cf : CF) (er : Nat → Value) (X : Cx) : Prop :=
  ∃ (c P g : Addr) (k : Nat) (a : Str) (pg : Arguments) (bg : List Stmt) (sg : Scope) (dV kV doc pm cdv ct oc : Value) (an od : Option Addr) (osl : Array (Option Value)) (Ng : List Str), tbE er = some P ∧ X.mg "_law_told" = some (.ref g) ∧ PySem.W.keepIn X.K (.ref g) = true ∧
    X.K.lookup g = some ⟨oc, od, .func (PySem.W.fnOf "_law_told" "_law_told" pg bg sg dV kV doc pm an cdv ct), osl⟩ ∧ PySem.W.codeIn X.K cdv "_law_told" = true ∧ L2.Binds X.K (PySem.W.fnOf "_law_told" "_law_told" pg bg sg dV kV doc pm an cdv ct) [a] [] ∧ FnScope Ng [a] sg ∧ Ng[0]? = some a ∧ Vis sg a ∧
    LamX.GivesTo X Ng "_law_told" sg g cdv bg a lamQ (TTm X.K (Γ.told.map fun v => (er v.1, v.2)) "") ∧ LamX.TabB X.base X.mg c P ∧ X.env.code = .ref c ∧ X.env.qual ++ "<lambda>" = lamQ ∧ Room (k + 2) X.A ∧ (a == ("__debug__" : Str)) = false ∧ (a == ("__classdict__" : Str)) = false ∧
    (∀ u ∈ Γ.told, ∀ v ∈ Γ.told, PySem.W.exmOne X.K (er u.1) (er v.1) = some (decide (u.1 = v.1))) ∧
    ∀ x id ps, Γ.fns.lookup x = some (id, ps) → ∃ f fd pn, FnOk X.prog X.w X.K X.mg X.base (L2.CX X.prog X.w) k f fd pn (spF X.K er cf id ps) ∧ X.mg x = some (.ref f) ∧ PySem.W.keepIn X.K (.ref f) = true ∧ L2.Binds X.K fd pn []
/-- a context in which a text is told -/
structure EC (Γ : Sg) (cf : CF) (er : Nat → Value) (sc : Scope) (X : Cx) (W : WX) : Prop where
  hN : X.N = Γ.N
  nd : X.N.Nodup
  calm : X.calm = true
  scope : X.env.scope = sc
  hu : X.A.units + 70 < cLine
  tk : Takes X W
  fns : ∀ x id ps, Γ.fns.lookup x = some (id, ps) → FnAt X er cf x id ps
  nums : ∀ x i, (x, i) ∈ Γ.nums → ∃ t, X.mg x = some (.int i t)
  bl : ∀ x, x ∈ Γ.bl → X.mg x = none
  bf : ∀ x id, (x, id) ∈ Γ.bf → X.mg x = some (.builtin id)
  tl : Γ.told ≠ [] → ToldAt Γ cf er X
section
variable {Γ : Sg} {cf : CF} {er : Nat → Value} {sc : Scope} {X : Cx} {W : WX}
theorem EC.vis {x : Str} (E : EC Γ cf er sc X W) (h : visB sc x = true) : Vis X.env.scope x := by
  rw [E.scope]
  unfold visB at h
  unfold Vis
  split at h
  · rename_i h1; exact .inl h1
  · rename_i h1; exact .inr (.inl h1)
  · rename_i h1; exact .inr (.inr h1)
  · cases h
theorem EC.gl {x : Str} (E : EC Γ cf er sc X W) (h : glB sc x = true) : Gl X x := by
  unfold glB at h
  split at h
  · rename_i h1
    show X.env.scope.names.lookup x = _
    rw [E.scope]
    exact h1
  · cases h
theorem okN_of {x : Str} (h : okN x = true) : (x == ("__debug__" : Str)) = false ∧ (x == ("__classdict__" : Str)) = false := by
  unfold okN at h
  simp only [Bool.and_eq_true, Bool.not_eq_true'] at h
  exact h
theorem EC.nm {i : Nat} {x : Str} (E : EC Γ cf er sc X W) (h : nmB Γ sc i x = true) : X.N[i]? = some x ∧ Vis X.env.scope x ∧ (x == ("__debug__" : Str)) = false ∧ (x == ("__classdict__" : Str)) = false := by
  unfold nmB at h
  simp only [Bool.and_eq_true, decide_eq_true_eq] at h
  obtain ⟨h1, h2, h3⟩ := h
  rw [E.hN]
  exact ⟨h1, E.vis h2, (okN_of h3).1, (okN_of h3).2⟩
theorem EC.gbl {x : Str} (E : EC Γ cf er sc X W) (h : gblB Γ sc x = true) : Gl X x ∧ X.mg x = none ∧ (x == ("__debug__" : Str)) = false := by
  unfold gblB at h
  simp only [Bool.and_eq_true, decide_eq_true_eq] at h
  exact ⟨E.gl h.1, E.bl x h.2.1, (okN_of h.2.2).1⟩
theorem both {f : Bool → En → R OV} {q path b : Bool} {e : Expr} (h : ∀ m, PE X e (tE X.K er W (f m) q m path)) (he : ∀ whole, isTrue e X.env whole = (do let v ← whole; standAt e.pos; holding [v] (truthy v))) :
    (∀ m, PE X e (tE X.K er W (f m) q m path)) ∧ (b = true → PT X e (tT X.K er W (tst (f true)) q)) := ⟨h, fun _ => t_val (h true) he⟩
theorem isSlice {e : Expr} (h : notSlice e = true) : ∀ l u s p, e ≠ .Slice l u s p := fun l u s p z => by
  subst z
  cases h
theorem isSet {e : Expr} (h : notSet e = true) : ∀ es k p, e ≠ .Set es k p := fun l u s z => by
  subst z
  cases h
theorem cst_pe {d : PyData} {c : Const} {k : Nat} {p : Pos} (h : cstB d c = true) : ∃ v, PE X (.Constant c k p) (tC v) ∧ ∀ F, RD X.K F v d := by
  cases d <;> cases c <;> first | (cases h; done) | skip
  · exact ⟨_, pe_non, fun _ => .non⟩
  · have e := eq_of_beq (show (_ == _) = true from h)
    subst e
    exact ⟨_, pe_bl, fun _ => .bl _⟩
  · have e := eq_of_beq (show (_ == _) = true from h)
    subst e
    exact ⟨_, pe_int, fun _ => .int _⟩
  · have e := eq_of_beq (show (_ == _) = true from h)
    subst e
    exact ⟨_, pe_str, fun _ => .str _⟩
theorem pe_nothing {e : Expr} {f : En → R OV} {q m path : Bool} (h : ∀ ρ, f ρ = none) : PE X e (tE X.K er W f q m path) := ⟨fun pins s σ H Q I hw => by
  obtain ⟨T, ρ, own, r, p, e, _⟩ := hw
  rw [h] at e
  cases e⟩
theorem pt_nothing {e : Expr} {f : En → R Bool} {q : Bool} (h : ∀ ρ, f ρ = none) : PW X e (tT X.K er W f q) := ⟨fun _ pins s σ H Q I hw => by
  obtain ⟨T, ρ, own, r, p, e, _⟩ := hw
  rw [h] at e
  cases e⟩
theorem tst_vB (f : En → R Bool) : tst (vB f) = f := by
  funext ρ
  unfold tst vB
  cases f ρ with
  | none => rfl
  | some r =>
    obtain ⟨r, ρ1⟩ := r
    cases r <;> rfl
/-- a built-in called -/
theorem pe_blt {b : Blt} {n : Str} {v : Value} {e : Expr} {es : List Expr} {t : TA} {p pos : Pos} (E : EC Γ cf er sc X W) (hb : bltX b = some (n, v)) (hg : Gl X n) (hm : X.mg n = none) (hd : (n == ("__debug__" : Str)) = false) (ha : PA X (e :: es) t) (ne : noStar e = true) (ns : es.all noStar = true) :
    PE X (.Call (.Name n p) (e :: es) [] pos) (tCB (rBlt X.K b) t) := by
  have hc := E.calm
  have hu := E.hu
  cases b <;> first | (cases hb; done) | skip
  all_goals cases hb
  · exact pe_callB (blt_len X) hg hm (by rfl) ha (by decide) hd (star_cons ne) (star_plain ns)
  · exact pe_callB (blt_all X hc) hg hm (by rfl) ha (by decide) hd (star_cons ne) (star_plain ns)
  · exact pe_callB (blt_any X hc) hg hm (by rfl) ha (by decide) hd (star_cons ne) (star_plain ns)
  · exact pe_callB (blt_sorted X hu) hg hm (by rfl) ha (by decide) hd (star_cons ne) (star_plain ns)
  · exact pe_callTy (blt_tuple X) hg hm (by rfl) ha (by decide) hd (star_cons ne) (star_plain ns)
  · exact pe_callTy (blt_list X) hg hm (by rfl) ha (by decide) hd (star_cons ne) (star_plain ns)
  · exact pe_callTy (blt_int X) hg hm (by rfl) ha (by decide) hd (star_cons ne) (star_plain ns)
  · exact pe_callTy (blt_str X) hg hm (by rfl) ha (by decide) hd (star_cons ne) (star_plain ns)
  · exact pe_callB (blt_max X hc) hg hm (by rfl) ha (by decide) hd (star_cons ne) (star_plain ns)
  · exact pe_callB (blt_min X hc) hg hm (by rfl) ha (by decide) hd (star_cons ne) (star_plain ns)
  · exact pe_callB (blt_sum X hc) hg hm (by rfl) ha (by decide) hd (star_cons ne) (star_plain ns)
theorem pe_ty {x : Str} {T : String} {p : Pos} (hg : Gl X x) (hm : X.mg x = none) (hv : bootBuiltins x = some (.type T)) (hn : x ≠ "__name__") (hd : (x == ("__debug__" : Str)) = false) : PE X (.Name x p) (tC (.ty T)) :=
  pe_bltn (v := .ty T) (u := .type T) hg hm hv rfl hn hd
theorem pe_isi {b : Blt} {n : Str} {e : Expr} {f : En → R OV} {q m pa : Bool} {p p2 pos : Pos} (hb : tyS b = some n) (hg : Gl X "isinstance") (hm : X.mg "isinstance" = none) (hg2 : Gl X n) (hm2 : X.mg n = none) (ha : PE X e (tE X.K er W f q true pa)) (ne : noStar e = true) :
    PE X (.Call (.Name "isinstance" p) [e, .Name n p2] [] pos) (tE X.K er W (fun ρ => (f ρ).bind fun x ρ1 => R.of (bltO b [x]) ρ1) q m false) := by
  have st : (backTo pos (starEach [.Name n p2] X.env)).any (·.1) = false := star_plain (by rfl)
  cases b <;> first | (cases hb; done) | skip
  all_goals cases hb
  · exact PE.imp (pe_callB call_isi hg hm (by rfl) (pa_cons ha (pa_cons (pe_ty hg2 hm2 (by rfl) (by decide) (by decide)) pa_nil) (star_cons ne)) (by decide) (by decide) (star_cons ne) st) fun σ H Q h => c_isi (b := .isInt) rfl h
  · exact PE.imp (pe_callB call_isi hg hm (by rfl) (pa_cons ha (pa_cons (pe_ty hg2 hm2 (by rfl) (by decide) (by decide)) pa_nil) (star_cons ne)) (by decide) (by decide) (star_cons ne) st) fun σ H Q h => c_isi (b := .isBool) rfl h
  · exact PE.imp (pe_callB call_isi hg hm (by rfl) (pa_cons ha (pa_cons (pe_ty hg2 hm2 (by rfl) (by decide) (by decide)) pa_nil) (star_cons ne)) (by decide) (by decide) (star_cons ne) st) fun σ H Q h => c_isi (b := .isStr) rfl h
  · exact PE.imp (pe_callB call_isi hg hm (by rfl) (pa_cons ha (pa_cons (pe_ty hg2 hm2 (by rfl) (by decide) (by decide)) pa_nil) (star_cons ne)) (by decide) (by decide) (star_cons ne) st) fun σ H Q h => c_isi (b := .isTuple) rfl h
  · exact PE.imp (pe_callB call_isi hg hm (by rfl) (pa_cons ha (pa_cons (pe_ty hg2 hm2 (by rfl) (by decide) (by decide)) pa_nil) (star_cons ne)) (by decide) (by decide) (star_cons ne) st) fun σ H Q h => c_isi (b := .isList) rfl h
theorem pe_isi2 {e : Expr} {f : En → R OV} {q m pa : Bool} {p p2 p3 p4 pos : Pos} {k : Nat} (hg : Gl X "isinstance") (hm : X.mg "isinstance" = none) (hg2 : Gl X "tuple") (hm2 : X.mg "tuple" = none) (hg3 : Gl X "list") (hm3 : X.mg "list" = none)
    (ha : PE X e (tE X.K er W f q true pa)) (ne : noStar e = true) :
    PE X (.Call (.Name "isinstance" p) [e, .Tuple [.Name "tuple" p2, .Name "list" p3] k p4] [] pos) (tE X.K er W (fun ρ => (f ρ).bind fun x ρ1 => R.of (bltO .isTupleList [x]) ρ1) q m false) := by
  have st : (backTo pos (starEach [.Tuple [.Name "tuple" p2, .Name "list" p3] k p4] X.env)).any (·.1) = false := star_plain (by rfl)
  exact PE.imp (pe_callB call_isiT hg hm (by rfl) (pa_cons ha (pa_cons (pe_tup (pa_cons (pe_ty hg2 hm2 (by rfl) (by decide) (by decide)) (pa_cons (pe_ty hg3 hm3 (by rfl) (by decide) (by decide)) pa_nil))) pa_nil) (star_cons ne)) (by decide) (by decide) (star_cons ne) st) fun σ H Q h => c_isi2 h
/-- list(range(a, b)) -/
theorem e_lrg {ea eb : Expr} {f g : En → R OV} {qa qb m pa pb : Bool} {p p2 pos pos2 : Pos} (hc : X.calm = true) (hg : Gl X "list") (hm : X.mg "list" = none) (hg2 : Gl X "range") (hm2 : X.mg "range" = none)
    (ha : PE X ea (tE X.K er W f qa false pa)) (hb : PE X eb (tE X.K er W g qb false pb)) (na : noStar ea = true) (nb : noStar eb = true) :
    PE X (.Call (.Name "list" p) [.Call (.Name "range" p2) [ea, eb] [] pos2] [] pos) (tE X.K er W (fun ρ => (f ρ).bind fun x ρ1 => (g ρ1).bind fun y ρ2 => R.of (bltO .lrange [x, y]) ρ2) (qa && qb) m false) := by
  refine PE.imp (pe_listRg hc hg hm (prg_2 hg2 hm2 ha hb (by rw [star_cons na]) (by rw [star_cons nb]) (star_plain (by rw [List.all_cons, nb]; rfl)))) fun σ H Q h => ?_
  obtain ⟨T, ρ, own, r, p, e, aft⟩ := h
  refine first p e aft.err fun x ρ1 e1 v H1 own1 tv1 p1 v1 => ?_
  have pr := p1.pre p v1.there
  refine first pr e1 (lifts p1 aft.err) fun y ρ2 e2 w H2 own2 tv2 p2 v2 => ?_
  obtain ⟨z, ez, e3⟩ := of_some e2
  subst e3
  dsimp only [bltO] at ez
  split at ez
  · rename_i i j ex
    split at ez
    · rename_i hij
      cases ez
      obtain ⟨rfl, rfl⟩ : x = .fr (.int i) ∧ y = .fr (.int j) := by
        cases ex
        exact ⟨rfl, rfl⟩
      simp only [Bool.and_eq_true, decide_eq_true_eq] at hij
      obtain ⟨⟨⟨h1, h2⟩, h3⟩, h4⟩ := hij
      have ps := p1.seq p2
      have hv : v = .int i := v1.sep.int
      have hw : w = .int j := v2.sep.int
      refine ⟨i, j, hv, hw, RgOk.of_le h1 (by omega) (by omega) h3, fun q hq => ?_⟩
      refine aft.fin p ps (fun x hx => ?_) (.list hq ?_)
      · rcases List.mem_append.mp hx with hx | hx
        · exact v2.there x hx
        · exact p2.ext.live x (v1.there x hx)
      · unfold rgV
        generalize List.range (j - i).toNat = l
        induction l with
        | nil => exact .nil
        | cons x l ih => exact .cons (.int _) ih
    · cases ez
  · cases ez
end
end DP

set_option Elab.async false
set_option linter.all false
set_option autoImplicit false
set_option maxRecDepth 100000
set_option maxHeartbeats 4000000
/-! DP, part S: the check is sound; expressions, the whole. -/
namespace DP
open PySem PySem.Spec PyProof.Rows L2
section
variable {Γ : Sg} {cf : CF} {er : Nat → Value} {sc : Scope} {X : Cx} {W : WX}
theorem EC.blk (E : EC Γ cf er sc X W) (s : Shared) (H : Hp) (scope : Scope) (C : Addr) (cl : List (Str × Addr)) (fp : List Addr) : EC Γ.noTold cf er (relS scope sc) (X.blk s H scope (compEnvC scope cl C X.env) fp) WF where
  hN := E.hN
  nd := E.nd
  calm := E.calm
  scope := by
    show relS scope X.env.scope = _
    rw [E.scope]
  hu := E.hu
  tk := takes_none5
  fns := E.fns
  nums := E.nums
  bl := E.bl
  bf := E.bf
  tl := fun h => absurd rfl h
/-- the context of a lambda's body -/
theorem EC.lam {k : Nat} {A : Around} {outer : List PySem.Env} {s : Shared} {H : Hp} {E0 : XK} {lsc : Scope} {f c' : Addr} (E : EC Γ cf er sc X W) (hr : Room k (A.deeper (LamX.lamEnv X lsc s.heap.objs.size f c')))
    (hf : ∀ x id ps, Γ.fns.lookup x = some (id, ps) → ∃ f fd pn, FnOk X.prog X.w X.K X.mg X.base (L2.CX X.prog X.w) k f fd pn (spF X.K er cf id ps) ∧ X.mg x = some (.ref f) ∧ PySem.W.keepIn X.K (.ref f) = true ∧ L2.Binds X.K fd pn []) :
    EC Γ.noTold cf er lsc (LamX.lamCx X A outer s H E0 lsc f c') (fun cls d _ H => E0 cls d H) where
  hN := E.hN
  nd := E.nd
  calm := rfl
  scope := rfl
  hu := by
    have := hr.un
    show (A.deeper _).units + 70 < cLine
    omega
  tk := takes_of rfl rfl rfl rfl
  fns := fun x id ps hl => by
    obtain ⟨f', fd, pn, h1, h2, h3, h4⟩ := hf x id ps hl
    exact ⟨k, f', fd, pn, h1, hr, h2, h3, h4⟩
  nums := E.nums
  bl := E.bl
  bf := E.bf
  tl := fun h => absurd rfl h
theorem each_star {env : PySem.Env} : ∀ {es : List Expr}, es.all noStar = true → (assignEach es env).length = es.length ∧ (assignEach es env).findIdx? (·.1) = none
  | [], _ => ⟨rfl, rfl⟩
  | e :: es, h => by
    rw [List.all_cons, Bool.and_eq_true] at h
    obtain ⟨h1, h2⟩ := each_star (env := env) h.2
    have e1 : assignEach (e :: es) env = (false, assign e env) :: assignEach es env := by
      have h0 := h.1
      cases e <;> first | rfl | cases h0
    rw [e1]
    refine ⟨by simp [h1], ?_⟩
    rw [List.findIdx?_cons]
    simp [h2]
theorem each_cons {env : PySem.Env} {e : Expr} {es : List Expr} (h : noStar e = true) : (assignEach (e :: es) env).map (·.2) = assign e env :: (assignEach es env).map (·.2) := by
  cases e <;> first | rfl | cases h
theorem ckGs_len (fl : Bool) : ∀ {ts : List Tg} {es : List Expr}, ckGs Γ sc fl ts es = true → ts.length = es.length ∧ es.all noStar = true
  | [], [], _ => ⟨rfl, rfl⟩
  | [], _ :: _, h => by unfold ckGs at h; cases h
  | _ :: _, [], h => by unfold ckGs at h; cases h
  | t :: ts, e :: es, h => by
    unfold ckGs at h
    simp only [Bool.and_eq_true] at h
    obtain ⟨h1, h2⟩ := ckGs_len fl h.2.2
    exact ⟨by simp [h1], by rw [List.all_cons, h.1, h2]; rfl⟩
mutual
theorem ckG_ok (E : EC Γ cf er sc X W) {fl : Bool} (hf : fl = true → ∀ x, X.fn x = true) : ∀ (t : Tg) {e : Expr}, ckG Γ sc fl t e = true → PG X e (gOf X.K t)
  | .nm i, e, h => by
    unfold ckG at h
    split at h
    · rename_i x p
      rw [Bool.and_eq_true, decide_eq_true_eq] at h
      obtain ⟨h1, h2⟩ := h
      have hi : X.N[i]? = some x := by rw [E.hN]; exact h1
      split at h2
      · rename_i hl
        rw [← E.scope] at hl
        exact pg_name E.nd hi (.inl hl) (.inr hl)
      · rename_i hl
        rw [← E.scope] at hl
        exact pg_name E.nd hi (.inr hl) (.inl (hf h2 x))
      · cases h2
    · cases h
  | .tp ts, e, h => by
    unfold ckG at h
    split at h
    · rename_i es k p
      obtain ⟨h1, h2⟩ := ckGs_len fl h
      obtain ⟨h3, h4⟩ := each_star (env := X.env) h2
      exact pg_tup E.calm (ckGs_ok E hf ts h) (by rw [h3, h1]) h4
    · cases h
theorem ckGs_ok (E : EC Γ cf er sc X W) {fl : Bool} (hf : fl = true → ∀ x, X.fn x = true) : ∀ (ts : List Tg) {es : List Expr}, ckGs Γ sc fl ts es = true → PGs X es (gOfs X.K ts)
  | [], [], _ => pgs_nil
  | [], _ :: _, h => by unfold ckGs at h; cases h
  | _ :: _, [], h => by unfold ckGs at h; cases h
  | t :: ts, e :: es, h => by
    unfold ckGs at h
    simp only [Bool.and_eq_true] at h
    exact pgs_cons (ckG_ok E hf t h.2.1) (ckGs_ok E hf ts h.2.2) (each_cons h.1)
end
theorem evs_len : ∀ {es : Exs} {ρ ρ' : En} {xs : List OV}, evs cf es ρ = some (.ok xs, ρ') → xs.length = exsLen es
  | .nil, ρ, ρ', xs, h => by
    rw [evs] at h
    cases h
    rfl
  | .cons e es, ρ, ρ', xs, h => by
    rw [evs] at h
    rcases bind_some h with ⟨c, ρ1, e1, e2⟩ | ⟨x, ρ1, e1, e2⟩
    · cases e2
    rcases bind_some e2 with ⟨c, ρ2, e3, e4⟩ | ⟨ys, ρ2, e3, e4⟩
    · cases e4
    cases e4
    have := evs_len e3
    show ys.length + 1 = exsLen es + 1
    rw [this]
theorem evA_md : ∀ {ms : List AM} {es : Exs} {ρ ρ' : En} {avs : List AV}, evA cf ms es ρ = some (.ok avs, ρ') → mdA avs = ms
  | [], .nil, ρ, ρ', avs, h => by
    rw [evA] at h
    cases h
    rfl
  | [], .cons e es, ρ, ρ', avs, h => by
    rw [evA] at h
    · cases h
    all_goals simp
  | .v :: ms, .nil, ρ, ρ', avs, h => by
    rw [evA] at h
    · cases h
    all_goals simp
  | .pk :: ms, .nil, ρ, ρ', avs, h => by
    rw [evA] at h
    · cases h
    all_goals simp
  | .io :: ms, .nil, ρ, ρ', avs, h => by
    rw [evA] at h
    · cases h
    all_goals simp
  | .v :: ms, .cons e es, ρ, ρ', avs, h => by
    rw [evA] at h
    rcases bind_some h with ⟨c, ρ1, e1, e2⟩ | ⟨x, ρ1, e1, e2⟩
    · cases e2
    rcases bind_some e2 with ⟨c, ρ2, e3, e4⟩ | ⟨ys, ρ2, e3, e4⟩
    · cases e4
    cases e4
    show AM.v :: mdA ys = _
    rw [evA_md e3]
  | .pk :: ms, .cons e es, ρ, ρ', avs, h => by
    rw [evA] at h
    rcases bind_some h with ⟨c, ρ1, e1, e2⟩ | ⟨x, ρ1, e1, e2⟩
    · cases e2
    rcases bind_some e2 with ⟨c, ρ2, e3, e4⟩ | ⟨ys, ρ2, e3, e4⟩
    · cases e4
    split at e4
    · cases e4
      show AM.pk :: mdA ys = _
      rw [evA_md e3]
    · cases e4
  | .io :: ms, .cons e es, ρ, ρ', avs, h => by
    cases e with
    | var i =>
      rw [evA] at h
      split at h
      · rcases bind_some h with ⟨c, ρ2, e3, e4⟩ | ⟨ys, ρ2, e3, e4⟩
        · cases e4
        cases e4
        show AM.io :: mdA ys = _
        rw [evA_md e3]
      · cases h
    | _ =>
      rw [evA] at h
      · cases h
      all_goals simp
theorem mdA_pk : ∀ {avs : List AV}, anyPk avs = (mdA avs).contains .pk
  | [] => rfl
  | .v _ :: r => by
    show anyPk r = (AM.v :: mdA r).contains .pk
    rw [List.contains_cons, mdA_pk (avs := r)]
    rfl
  | .pk _ :: r => by
    show true = (AM.pk :: mdA r).contains .pk
    rw [List.contains_cons]
    rfl
  | .io _ :: r => by
    show anyPk r = (AM.io :: mdA r).contains .pk
    rw [List.contains_cons, mdA_pk (avs := r)]
    rfl
theorem mdA_io : ∀ {avs : List AV}, (mdA avs).contains .io = false → iosA avs = []
  | [], _ => rfl
  | .v _ :: r, h => by
    rw [show mdA (AV.v _ :: r) = AM.v :: mdA r from rfl, List.contains_cons] at h
    exact mdA_io (avs := r) (by simpa using h)
  | .pk _ :: r, h => by
    rw [show mdA (AV.pk _ :: r) = AM.pk :: mdA r from rfl, List.contains_cons] at h
    exact mdA_io (avs := r) (by simpa using h)
  | .io _ :: r, h => by
    rw [show mdA (AV.io _ :: r) = AM.io :: mdA r from rfl, List.contains_cons] at h
    cases h
end
end DP

set_option Elab.async false
set_option linter.all false
set_option autoImplicit false
set_option maxRecDepth 100000
set_option maxHeartbeats 4000000
/-! DP, part T: the check is sound; expressions, the recursion. -/
namespace DP
open PySem PySem.Spec PyProof.Rows L2
section
variable (cf : CF)
theorem ev_bin (m : Bool) (o : Bop) (a b : Ex) : ev cf m (.bin o a b) = fun ρ => (ev cf true a ρ).bind fun x ρ1 => (ev cf true b ρ1).bind fun y ρ2 => if okAl a x (quiet b) then R.of (binO o x y) ρ2 else none := by funext ρ; rw [ev] <;> rfl
theorem ev_neg (m : Bool) (a : Ex) : ev cf m (.neg a) = fun ρ => (ev cf true a ρ).bind fun x ρ1 => R.of ((intD x.fz).map fun i => .fr (.int (-i))) ρ1 := by funext ρ; rw [ev] <;> rfl
theorem ev_nt (m : Bool) (a : Ex) : ev cf m (.nt a) = fun ρ => (ev cf true a ρ).bind fun x ρ1 => R.of ((tstO x).map fun b => .fr (.bool (!b))) ρ1 := by funext ρ; rw [ev] <;> rfl
theorem ev_bo (m : Bool) (k : Bool) (es : Exs) : ev cf m (.bo k es) = vB (evB cf k es) := by funext ρ; rw [ev] <;> rfl
theorem ev_cmp (m : Bool) (o : Cop) (a b : Ex) : ev cf m (.cmp o a b) = fun ρ => (ev cf true a ρ).bind fun x ρ1 => (ev cf true b ρ1).bind fun y ρ2 => if okAl a x (quiet b) then R.of (bopO o x y) ρ2 else none := by funext ρ; rw [ev] <;> rfl
theorem ev_isN (m k : Bool) (a : Ex) : ev cf m (.isN k a) = fun ρ => (ev cf true a ρ).bind fun x ρ1 => R.ok (isNO k x) ρ1 := by funext ρ; rw [ev] <;> rfl
theorem ev_chain (m : Bool) (o1 o2 : Cop) (a b c : Ex) : ev cf m (.chain o1 o2 a b c) = chO o1 o2 a b (ev cf true a) (ev cf true b) (ev cf true c) (quiet b) (quiet c) := by funext ρ; rw [ev] <;> rfl
theorem ev_ite (m : Bool) (c a b : Ex) : ev cf m (.ite c a b) = fun ρ => (ev cf true c ρ).bind fun x ρ1 => match tstO x with | none => none | some true => ev cf false a ρ1 | some false => ev cf false b ρ1 := by funext ρ; rw [ev] <;> rfl
theorem ev_tup (m : Bool) (es : Exs) : ev cf m (.tup es) = fun ρ => (evs cf es ρ).bind fun xs ρ1 => R.ok (mkTup xs) ρ1 := by funext ρ; rw [ev] <;> rfl
theorem ev_lst (m : Bool) (es : Exs) : ev cf m (.lst es) = fun ρ => (evs cf es ρ).bind fun xs ρ1 => R.ok (.lst xs) ρ1 := by funext ρ; rw [ev] <;> rfl
theorem ev_idx (m : Bool) (a i : Ex) : ev cf m (.idx a i) = fun ρ => (ev cf true a ρ).bind fun x ρ1 => (ev cf true i ρ1).bind fun y ρ2 => if okAl a x (quiet i) then match idxO x y.fz with
      | none => none
      | some z => if (m && isPath a) || z.isFr then R.ok z ρ2 else none
    else none := by funext ρ; rw [ev] <;> rfl
theorem ev_slc (m : Bool) (a : Ex) (lo hi : Exs) : ev cf m (.slc a lo hi) = fun ρ => (ev cf true a ρ).bind fun x ρ1 => (evs cf lo ρ1).bind fun ys ρ2 => match optO ys with
    | none => none
    | some l => (evs cf hi ρ2).bind fun zs ρ3 => match optO zs with
      | none => none
      | some h => if okAl a x (quiets lo && quiets hi) then R.of (slcO x l h) ρ3 else none := by funext ρ; rw [ev] <;> rfl
theorem ev_call (m : Bool) (f : Nat) (ms : List AM) (es : Exs) : ev cf m (.call f ms es) = fun ρ => (evA cf ms es ρ).bind fun avs ρ1 => doCall cf f avs ρ1 := by funext ρ; rw [ev] <;> rfl
theorem ev_blt1 (m : Bool) (b : Blt) (a : Ex) : ev cf m (.blt b (.cons a .nil)) = fun ρ => (ev cf true a ρ).bind fun x ρ1 => R.of (bltO b [x]) ρ1 := by funext ρ; rw [ev] <;> rfl
theorem ev_blt2 (m : Bool) (b : Blt) (a a' : Ex) (es : Exs) : ev cf m (.blt b (.cons a (.cons a' es))) = fun ρ => (evs cf (.cons a (.cons a' es)) ρ).bind fun xs ρ1 => R.of (bltO b xs) ρ1 := by
  funext ρ
  rw [ev]
  all_goals simp
theorem evs_nil : evs cf .nil = fun ρ => R.ok [] ρ := by funext ρ; rw [evs] <;> rfl
theorem evs_cons (a : Ex) (es : Exs) : evs cf (.cons a es) = fun ρ => (ev cf false a ρ).bind fun x ρ1 => (evs cf es ρ1).bind fun xs ρ2 => R.ok (x :: xs) ρ2 := by funext ρ; rw [evs] <;> rfl
theorem bind_assoc {α β γ : Type} (x : R α) (f : α → En → R β) (g : β → En → R γ) : (x.bind f).bind g = x.bind fun a ρ => (f a ρ).bind g := by
  cases x with
  | none => rfl
  | some r =>
    obtain ⟨r, ρ⟩ := r
    cases r <;> rfl
theorem ok_bind {α β : Type} (a : α) (ρ : En) (f : α → En → R β) : (R.ok a ρ).bind f = f a ρ := rfl
theorem evs2 (b : Blt) (a a' : Ex) : (fun ρ => (evs cf (.cons a (.cons a' .nil)) ρ).bind fun xs ρ1 => R.of (bltO b xs) ρ1) = fun ρ => (ev cf false a ρ).bind fun x ρ1 => (ev cf false a' ρ1).bind fun y ρ2 => R.of (bltO b [x, y]) ρ2 := by
  funext ρ
  rw [evs_cons, evs_cons, evs_nil]
  simp only [bind_assoc, ok_bind]
theorem ev_meth (mm : Bool) (m : Mth) (o a : Ex) : ev cf mm (.meth m o (.cons a .nil)) = fun ρ => (ev cf true o ρ).bind fun x ρ1 => if mthOk m x then ((ev cf false a ρ1).bind fun y ρ2 => (R.ok [] ρ2).bind fun ys ρ2 => R.ok (y :: ys) ρ2).bind fun ys ρ2 => if okAl o x (quiet a && true) then R.of (mthO m x (OV.fzs ys)) ρ2 else none
      else none := by
  funext ρ
  rw [ev]
  simp only [evs_cons, evs_nil]
  rfl
theorem ev_mut (mm : Bool) (m : Mut) (p : Ex) (es : Exs) : ev cf mm (.mut m p es) = fun ρ => (evP cf p ρ).bind fun q ρ1 => if (q.2.isEmpty || quiets es) && isLP ρ1 q.1 q.2 then (evs cf es ρ1).bind fun ys ρ2 => match getS ρ2 q.1 with
        | none => none
        | some o => match rdP o q.2 with
          | none => none
          | some x => match mutO m x ys with
            | none => none
            | some (z, x') => match wrP o q.2 x' with
              | none => none
              | some o' => R.ok z (setS ρ2 q.1 o')
      else none := by funext ρ; rw [ev] <;> rfl
theorem ev_comp (m : Bool) (elt : Ex) (t : Tg) (i : Itr) (c : Exs) (own : List Nat) : ev cf m (.comp elt (.cons t i c .nil) own) = compF (evI cf i) t own (evT cf c) (oneF (ev cf false elt)) := by
  funext ρ
  rw [ev, evC]
  unfold compF turnF oneF
  simp only [evG]
  try rfl
theorem ev_comp2 (m : Bool) (elt : Ex) (t t1 : Tg) (i i1 : Itr) (c c1 : Exs) (own : List Nat) : ev cf m (.comp elt (.cons t i c (.cons t1 i1 c1 .nil)) own) = compF (evI cf i) t own (evT cf c) (innerF (evI cf i1) t1 (evT cf c1) (oneF (ev cf false elt))) := by
  funext ρ
  rw [ev, evC]
  unfold compF turnF innerF turnF oneF
  simp only [evG]
  try rfl
theorem ev_frz (m : Bool) (a : Ex) : ev cf m (.frz a) = fun ρ => (ev cf false a ρ).bind fun x ρ1 => R.ok (.fr x.fz) ρ1 := by funext ρ; rw [ev] <;> rfl
theorem ev_told (m : Bool) (f : Nat) (hs : List (Nat × Str)) (k : Nat) (b : Ex) : ev cf m (.told f hs k b) = toldF (ev cf false b) hs := by funext ρ; rw [ev] <;> rfl
theorem evT_nil : evT cf .nil = fun ρ => R.ok true ρ := by funext ρ; rw [evT] <;> rfl
theorem evT_one (x : Ex) : evT cf (.cons x .nil) = tst (ev cf true x) := by
  funext ρ
  rw [evT]
  unfold tst
  cases ev cf true x ρ with
  | none => rfl
  | some y =>
    obtain ⟨y, ρ1⟩ := y
    cases y with
    | error c => rfl
    | ok a =>
      simp only [R.bind, evT_nil]
      cases ht : tstO a with
      | none => rfl
      | some b => cases b <;> rfl
theorem evA_nil : evA cf [] .nil = fun ρ => R.ok [] ρ := by funext ρ; rw [evA] <;> rfl
theorem evA_v (ms : List AM) (e : Ex) (es : Exs) : evA cf (.v :: ms) (.cons e es) = fun ρ => (ev cf false e ρ).bind fun x ρ1 => (evA cf ms es ρ1).bind fun xs ρ2 => R.ok (.v x.fz :: xs) ρ2 := by funext ρ; rw [evA] <;> rfl
theorem evA_pk (ms : List AM) (e : Ex) (es : Exs) : evA cf (.pk :: ms) (.cons e es) = fun ρ => (ev cf true e ρ).bind fun x ρ1 => (evA cf ms es ρ1).bind fun xs ρ2 => if quiets es then R.ok (.pk x.fz :: xs) ρ2 else none := by funext ρ; rw [evA] <;> rfl
theorem evA_io (ms : List AM) (i : Nat) (es : Exs) : evA cf (.io :: ms) (.cons (.var i) es) = fun ρ => match getS ρ i with
    | some _ => (evA cf ms es ρ).bind fun xs ρ2 => R.ok (.io i :: xs) ρ2
    | none => none := by funext ρ; rw [evA] <;> rfl
theorem evP_idx (a e : Ex) : evP cf (.idx a e) = fun ρ => (evP cf a ρ).bind fun q ρ1 => (ev cf true e ρ1).bind fun x ρ2 => if quiet e then match x with
      | .fr (.int k) => match getS ρ2 q.1 with
        | some o => match rdP o (q.2 ++ [k]) with
          | some _ => R.ok (q.1, q.2 ++ [k]) ρ2
          | none => none
        | none => none
      | _ => none
    else none := by funext ρ; rw [evP] <;> rfl
theorem evI_it (e : Ex) : evI cf (.it e) = fun ρ => (ev cf false e ρ).bind fun x ρ1 => R.of (keysO x) ρ1 := by funext ρ; rw [evI] <;> rfl
theorem evI_rng (es : Exs) : evI cf (.rng es) = fun ρ => (evs cf es ρ).bind fun xs ρ1 => R.of (match frsO xs with | some ds => rngD ds | none => none) ρ1 := by funext ρ; rw [evI] <;> rfl
theorem evI_zip (a b : Ex) : evI cf (.zip a b) = fun ρ => (ev cf false a ρ).bind fun x ρ1 => (ev cf false b ρ1).bind fun y ρ2 => match seqO x, seqO y with
    | some xs, some ys => if isTup x == isTup y then R.ok (zipD xs ys) ρ2 else none
    | _, _ => none := by funext ρ; rw [evI] <;> rfl
theorem evI_enum (a : Ex) : evI cf (.enum a) = fun ρ => (ev cf false a ρ).bind fun x ρ1 => R.of ((lstO x).map (enumD 0)) ρ1 := by funext ρ; rw [evI] <;> rfl
end
section
variable {Γ : Sg} {cf : CF} {er : Nat → Value}
theorem PTs.imp {X : Cx} {es : List Expr} {t t' : TT} (h : L2.PTs X es t) (i : ∀ σ H Q, t' σ H Q → t σ H Q) : L2.PTs X es t' := ⟨fun pins s σ H Q I q => h.run pins s σ H Q I (i σ H Q q)⟩
theorem e_frz {X : Cx} {W : WX} {e : Expr} {f : En → R OV} {q m pa : Bool} (h : PE X e (tE X.K er W f q false pa)) : PE X e (tE X.K er W (fun ρ => (f ρ).bind fun x ρ1 => R.ok (.fr x.fz) ρ1) q m false) := by
  refine PE.imp h fun σ H Q hq => ?_
  obtain ⟨T, ρ, own, r, p, e, aft⟩ := hq
  refine first p e aft.err fun x ρ1 e1 v H1 own1 tv1 p1 v1 => ?_
  have e2 := ok_some e1
  subst e2
  refine aft v H1 own1 [] (p1.sub (List.nil_sublist _)) (.inl ⟨.fr ?_, fun z => by cases z⟩)
  rw [List.append_nil]
  exact freezeV p1 v1.sep
theorem tP_mono {K : PySem.W.Frag} {er : Nat → Value} {W : WX} {f : En → R (Nat × List Int)} {q : Bool} {σ : L2.St} {H : Hp} {Q Q' : VK} (h : tP K er W f q σ H Q) (i : ∀ v H', Q v H' → Q' v H') : tP K er W f q σ H Q' := by
  obtain ⟨T, ρ, own, r, p, e, aft⟩ := h
  refine ⟨T, ρ, own, r, p, e, ?_⟩
  obtain ⟨r, ρ'⟩ := r
  cases r with
  | error c => exact aft
  | ok z => exact fun v v0 H' own' h1 h2 h3 => i _ _ (aft v v0 H' own' h1 h2 h3)
theorem tA_nil {K : PySem.W.Frag} {er : Nat → Value} {W : WX} {σ : L2.St} {H : Hp} {Q : List V → Hp → Prop} (h : tA K er W (fun ρ => R.ok [] ρ) true σ H Q) : Q [] H := by
  obtain ⟨T, ρ, own, r, p, e, aft⟩ := h
  have e' := ok_some e
  subst e'
  exact aft [] H own [] p.post .nil
theorem pe_mut1 {X : Cx} {W : WX} {m : Mut} {n : Str} {k : Nat} {o e : Expr} {fp : En → R (Nat × List Int)} {fs : En → R (List OV)} {qp qs : Bool} {apos cpos : Pos} (hm : mutN m = some (n, k)) (hk : k = 1) (ho : PE X o (tP X.K er W fp qp)) (ha : PA X [e] (tA X.K er W fs qs)) (ns : noSuper o = true) (hl : apos.endLine = cpos.line) (ne : noStar e = true) :
    PE X (.Call (.Attribute o n apos) [e] [] cpos) (tBM X.K "list" (rMut X.K m) (tP X.K er W fp qp) (tA X.K er W fs qs)) := by
  have few : ((backTo cpos (starEach [e] X.env)).all (fun x => !x.1) && (backToKw cpos (keywordEach [] X.env)).all (fun x => x.1.isSome) && decide ([e].length + ([] : List Keyword).length + (if ([] : List Keyword).isEmpty then 0 else 1) < 30)) = true := by
    rw [star_all (by rw [List.all_cons, ne]; rfl)]
    rfl
  have hl' : (apos.endLine == cpos.line) = true := by rw [hl]; exact beq_self_eq_true _
  cases m <;> first | (cases hm; done) | skip
  · cases hm
    exact pe_bm F.plainAttrs_list F.slot_list_append F.type_list_append (mt_append X) ho ha (base_ok ns _ _ _) few hl' (star_cons ne) rfl
  · cases hm
    exact pe_bm F.plainAttrs_list F.slot_list_extend F.type_list_extend (mt_extend X) ho ha (base_ok ns _ _ _) few hl' (star_cons ne) rfl
  · cases hm
    cases hk
  · cases hm
    exact pe_bm F.plainAttrs_list F.slot_list_pop F.type_list_pop (mt_popAt X) ho ha (base_ok ns _ _ _) few hl' (star_cons ne) rfl
theorem pe_mut0 {X : Cx} {W : WX} {m : Mut} {n : Str} {k : Nat} {o : Expr} {fp : En → R (Nat × List Int)} {qp : Bool} {apos cpos : Pos} (hm : mutN m = some (n, k)) (hk : k = 0) (ho : PE X o (tP X.K er W fp qp)) (ns : noSuper o = true) (hl : apos.endLine = cpos.line) :
    PE X (.Call (.Attribute o n apos) [] [] cpos) (tBM0 X.K "list" (rMut X.K m) (tP X.K er W fp qp)) := by
  have hl' : (apos.endLine == cpos.line) = true := by rw [hl]; exact beq_self_eq_true _
  cases m <;> first | (cases hm; done) | skip
  · cases hm
    cases hk
  · cases hm
    cases hk
  · cases hm
    exact pe_bm0 F.plainAttrs_list F.slot_list_pop F.type_list_pop (mt_pop X) ho (base_ok ns _ _ _) hl'
  · cases hm
    cases hk
theorem pe_meth1 {X : Cx} {W : WX} {m : Mth} {n : Str} {o : Ex} {eo ea : Expr} {fo fa : En → R OV} {qo qa mm pa : Bool} {apos cpos : Pos} (hm : mthN m = some n) (ho : PE X eo (tE X.K er W fo qo true (isPath o))) (ha : PE X ea (tE X.K er W fa qa false pa)) (ns : noSuper eo = true) (hl : apos.endLine = cpos.line) (ne : noStar ea = true) :
    PE X (.Call (.Attribute eo n apos) [ea] [] cpos) (tE X.K er W (fun ρ => (fo ρ).bind fun x ρ1 => if mthOk m x then ((fa ρ1).bind fun y ρ2 => (R.ok [] ρ2).bind fun ys ρ2 => R.ok (y :: ys) ρ2).bind fun ys ρ2 => if okAl o x (qa && true) then R.of (mthO m x (OV.fzs ys)) ρ2 else none
      else none) (qo && (qa && true)) mm false) := by
  have hl' : (apos.endLine == cpos.line) = true := by rw [hl]; exact beq_self_eq_true _
  cases m <;> first | (cases hm; done) | skip
  · cases hm
    exact PE.imp (pe_split ho ha (star_cons ne) (base_ok ns _ _ _) hl') fun σ H Q h => c_meth (po := true) (m := .split) (fun x hx => strO hx) (fun P H v w x y z as bs Q al hx hy hz q => mth_split al hx hy hz q) h
  · cases hm
    exact PE.imp (pe_partition ho ha (star_cons ne) (base_ok ns _ _ _) hl') fun σ H Q h => c_meth (po := true) (m := .partition) (fun x hx => strO hx) (fun P H v w x y z as bs Q al hx hy hz q => mth_partition al hx hy hz q) h
  · cases hm
    exact PE.imp (pe_join ho ha (star_cons ne) (base_ok ns _ _ _) hl') fun σ H Q h => c_meth (po := true) (m := .join) (fun x hx => strO hx) (fun P H v w x y z as bs Q al hx hy hz q => mth_join al hx hy hz q) h
end
end DP

set_option Elab.async false
set_option linter.all false
set_option autoImplicit false
set_option maxRecDepth 100000
set_option maxHeartbeats 8000000
/-! DP, part U: the check is sound; expressions, the recursion. -/
namespace DP
open PySem PySem.Spec PyProof.Rows L2
section
variable {Γ : Sg} {cf : CF} {er : Nat → Value}
theorem ckA_star : ∀ {es : Exs} {ms : List AM} {es' : List Expr} {sc : Scope}, ckA Γ sc ms es es' = true → es'.all noStar = true
  | .nil, ms, es', sc, h => by
    unfold ckA at h
    rw [Bool.and_eq_true] at h
    rw [List.isEmpty_iff.mp h.2]
    rfl
  | .cons x xs, ms, es', sc, h => by
    unfold ckA at h
    split at h
    · split at h
      · split at h
        · rw [Bool.and_eq_true] at h
          rw [List.all_cons, ckA_star h.2]
          rfl
        · cases h
      · cases h
    · split at h
      · simp only [Bool.and_eq_true] at h
        rw [List.all_cons, h.1, ckA_star h.2.2]
        rfl
      · cases h
    · cases h
theorem ckL_star : ∀ {es : Exs} {es' : List Expr} {sc : Scope}, ckL Γ sc es es' = true → es'.all noStar = true ∧ es'.length = exsLen es
  | .nil, es', sc, h => by
    unfold ckL at h
    rw [List.isEmpty_iff.mp h]
    exact ⟨rfl, rfl⟩
  | .cons x xs, es', sc, h => by
    unfold ckL at h
    split at h
    · simp only [Bool.and_eq_true] at h
      obtain ⟨h1, h2⟩ := ckL_star h.2.2
      rw [List.all_cons, h.1, h1]
      exact ⟨rfl, by simp [h2, exsLen]⟩
    · cases h
mutual
theorem sd : ∀ (x : Ex) {Γ : Sg} {sc : Scope} {X : Cx} {W : WX} {e : Expr}, EC Γ cf er sc X W → ck Γ sc x e = true →
    (∀ m, PE X e (tE X.K er W (ev cf m x) (quiet x) m (isPath x))) ∧ (tk x = true → PT X e (tT X.K er W (tst (ev cf true x)) (quiet x)))
  | .var i, Γ, sc, X, W, e, E, h => by
    unfold ck at h
    split at h
    · obtain ⟨h1, h2, h3, h4⟩ := E.nm h
      exact both (f := fun m => ev cf m (.var i)) (fun m => e_var h1 h2 h3 h4) (fun _ => rfl)
    · cases h
  | .cst d, Γ, sc, X, W, e, E, h => by
    unfold ck at h
    split at h
    · obtain ⟨v, h1, h2⟩ := cst_pe (X := X) h
      exact both (f := fun m => ev cf m (.cst d)) (fun m => e_const h1 (fun ρ => by rw [ev]) h2) (fun _ => rfl)
    · cases h
  | .glo d, Γ, sc, X, W, e, E, h => by
    unfold ck at h
    split at h
    · split at h
      · simp only [Bool.and_eq_true, decide_eq_true_eq] at h
        obtain ⟨t, ht⟩ := E.nums _ _ h.2.2
        exact both (f := fun m => ev cf m (.glo _)) (fun m => e_const (pe_glob (v := .int _) (E.gl h.1) ht ⟨t, rfl⟩ (okN_of h.2.1).1) (fun ρ => by rw [ev]) (fun _ => .int _)) (fun _ => rfl)
      · cases h
    · cases h
  | .bin o a b, Γ, sc, X, W, e, E, h => by
    unfold ck at h
    split at h
    · unfold bopM at h
      simp only [Bool.and_eq_true, decide_eq_true_eq] at h
      obtain ⟨h1, h2, h3⟩ := h
      subst h1
      refine both (f := fun m => ev cf m (.bin o a b)) (fun m => ?_) (fun _ => rfl)
      rw [ev_bin]
      exact e_bin ((sd a E h2).1 true) ((sd b E h3).1 true)
    · cases h
  | .neg a, Γ, sc, X, W, e, E, h => by
    unfold ck at h
    split at h
    · refine both (f := fun m => ev cf m (.neg a)) (fun m => ?_) (fun _ => rfl)
      rw [ev_neg]
      exact e_neg ((sd a E h).1 true)
    · cases h
  | .nt a, Γ, sc, X, W, e, E, h => by
    unfold ck at h
    split at h
    · refine ⟨fun m => ?_, fun ht => ?_⟩
      · rw [ev_nt]
        exact e_not ((sd a E h).1 true)
      · rw [ev_nt]
        exact t_not ((sd a E h).2 ht)
    · cases h
  | .bo k es, Γ, sc, X, W, e, E, h => by
    unfold ck at h
    split at h
    · rw [Bool.and_eq_true, decide_eq_true_eq] at h
      obtain ⟨h1, h2⟩ := h
      subst h1
      obtain ⟨g1, g2⟩ := sb es (k := k) E h2
      refine ⟨fun m => ?_, fun ht => ?_⟩
      · rw [ev_bo]
        exact g1 _ m
      · rw [ev_bo, tst_vB]
        exact (g2 ht _).pt
    · cases h
  | .cmp o a b, Γ, sc, X, W, e, E, h => by
    unfold ck at h
    split at h
    · simp only [Bool.and_eq_true, decide_eq_true_eq] at h
      obtain ⟨h1, h2, h3, h4⟩ := h
      subst h1
      have hu := E.hu
      refine ⟨fun m => ?_, fun ht => ?_⟩
      · rw [ev_cmp]
        exact e_cmp (by omega) (behind (isSet h2)) ((sd a E h3).1 true) ((sd b E h4).1 true)
      · rw [ev_cmp]
        exact t_cmp (by omega) (behind (isSet h2)) ((sd a E h3).1 true) ((sd b E h4).1 true)
    · cases h
  | .isN k a, Γ, sc, X, W, e, E, h => by
    unfold ck at h
    split at h
    · simp only [Bool.and_eq_true, decide_eq_true_eq] at h
      obtain ⟨h1, h2⟩ := h
      subst h1
      cases k with
      | true =>
        refine ⟨fun m => ?_, fun ht => ?_⟩
        · rw [ev_isN]
          exact e_isN ((sd a E h2).1 true)
        · rw [ev_isN]
          exact t_isN ((sd a E h2).1 true)
      | false =>
        refine ⟨fun m => ?_, fun ht => ?_⟩
        · rw [ev_isN]
          exact e_notN ((sd a E h2).1 true)
        · rw [ev_isN]
          exact t_notN ((sd a E h2).1 true)
    · cases h
  | .chain o1 o2 a b c, Γ, sc, X, W, e, E, h => by
    unfold ck at h
    split at h
    · simp only [Bool.and_eq_true, decide_eq_true_eq] at h
      obtain ⟨h1, h2, h3, h4, h5, h6⟩ := h
      subst h1
      subst h2
      have hu := E.hu
      refine ⟨fun m => ?_, fun ht => ?_⟩
      · rw [ev_chain]
        exact e_chain (by omega) (lastMarks_ok (isSet h3)) ((sd a E h4).1 true) ((sd b E h5).1 true) ((sd c E h6).1 true)
      · rw [ev_chain]
        exact t_chain (by omega) (lastMarks_ok (isSet h3)) ((sd a E h4).1 true) ((sd b E h5).1 true) ((sd c E h6).1 true)
    · cases h
  | .ite c a b, Γ, sc, X, W, e, E, h => by
    unfold ck at h
    split at h
    · simp only [Bool.and_eq_true] at h
      obtain ⟨h1, h2, h3, h4⟩ := h
      refine ⟨fun m => ?_, fun ht => by cases ht⟩
      rw [ev_ite]
      exact e_ite ((sd c E h2).2 h1) ((sd a E h3).1 false) ((sd b E h4).1 false)
    · cases h
  | .tup es, Γ, sc, X, W, e, E, h => by
    unfold ck at h
    split at h
    · rw [Bool.and_eq_true, decide_eq_true_eq] at h
      refine both (f := fun m => ev cf m (.tup es)) (fun m => ?_) (fun _ => rfl)
      rw [ev_tup]
      exact e_tup (sl es E h.2) fun ρ xs ρ' hx => by rw [evs_len hx]; exact h.1
    · cases h
  | .lst es, Γ, sc, X, W, e, E, h => by
    unfold ck at h
    split at h
    · rw [Bool.and_eq_true, decide_eq_true_eq] at h
      refine both (f := fun m => ev cf m (.lst es)) (fun m => ?_) (fun _ => rfl)
      rw [ev_lst]
      exact e_lst (sl es E h.2) fun ρ xs ρ' hx => by rw [evs_len hx]; exact h.1
    · cases h
  | .dct _ _ _, Γ, sc, X, W, e, E, h => by
    unfold ck at h
    cases h
  | .idx a i, Γ, sc, X, W, e, E, h => by
    unfold ck at h
    split at h
    · simp only [Bool.and_eq_true] at h
      obtain ⟨h1, h2, h3⟩ := h
      refine both (f := fun m => ev cf m (.idx a i)) (fun m => ?_) (fun _ => rfl)
      rw [ev_idx]
      exact e_idx ((sd a E h2).1 true) ((sd i E h3).1 true) (isSlice h1)
    · cases h
  | .slc a lo hi, Γ, sc, X, W, e, E, h => by
    unfold ck at h
    split at h
    · simp only [Bool.and_eq_true] at h
      obtain ⟨h1, h2, h3⟩ := h
      refine both (f := fun m => ev cf m (.slc a lo hi)) (fun m => ?_) (fun _ => rfl)
      rw [ev_slc]
      exact e_slc ((sd a E h1).1 true) (so lo E h2) (so hi E h3)
    · cases h
  | .stp _ _, Γ, sc, X, W, e, E, h => by
    unfold ck at h
    cases h
  | .call f ms es, Γ, sc, X, W, e, E, h => by
    unfold ck at h
    split at h
    · rename_i x p es' pos
      rw [Bool.and_eq_true] at h
      obtain ⟨h1, h2⟩ := h
      rw [Bool.and_eq_true] at h2
      obtain ⟨h2, h3⟩ := h2
      split at h1
      · rename_i id ps hl
        simp only [Bool.and_eq_true, decide_eq_true_eq, Bool.not_eq_true'] at h1
        obtain ⟨h4, h5, h6, h7, h8⟩ := h1
        subst h4
        obtain ⟨k, fa, fd, pn, Fo, hr, hm, hk, hb⟩ := E.fns x id ps hl
        have hst := ckA_star h3
        cases es' with
        | nil => cases h2
        | cons e1 es1 =>
          rw [List.all_cons, Bool.and_eq_true] at hst
          refine both (f := fun m => ev cf m (.call id ms es)) (fun m => ?_) (fun _ => rfl)
          rw [ev_call]
          refine PE.imp (pe_callS Fo hr (E.gl h7) hm hk hb (fun σ => passAt E.tk σ) (sa es E h3) (okN_of h8).1 (star_cons hst.1) (star_plain hst.2)) fun σ H Q hq => c_call (fun ρ avs ρ' ha => ?_) hq
          have hmd := evA_md ha
          refine ⟨by rw [hmd]; exact h5, fun hp => ?_, fun hq => ?_⟩
          · rw [mdA_pk, hmd] at hp
            refine mdA_io ?_
            rw [hmd]
            rw [hp, Bool.true_and] at h6
            exact h6
          · refine mdA_io ?_
            rw [hmd]
            simpa using hq
      · cases h1
    · cases h
  | .blt b .nil, Γ, sc, X, W, e, E, h => by
    unfold ck at h
    split at h <;> first | (cases h; done) | skip
    all_goals (try (rename_i heq; cases heq; done))
    · split at h
      · simp only [Bool.and_eq_true, decide_eq_true_eq] at h
        obtain ⟨_, _, _, h4, _⟩ := h
        cases h4
      · cases h
  | .blt b (.cons a .nil), Γ, sc, X, W, e, E, h => by
    have key : (∀ m, PE X e (tE X.K er W (fun ρ => (ev cf true a ρ).bind fun x ρ1 => R.of (bltO b [x]) ρ1) (quiet a) m false)) ∧ (∀ whole, isTrue e X.env whole = (do let v ← whole; standAt e.pos; holding [v] (truthy v))) := by
      unfold ck at h
      split at h <;> first | (cases h; done) | skip
      all_goals (try (rename_i heq; cases heq; done))
      · split at h
        · simp only [Bool.and_eq_true, decide_eq_true_eq] at h
          obtain ⟨_, _, _, h4, _⟩ := h
          cases h4
        · cases h
      · rename_i a0 heq
        cases heq
        split at h
        · simp only [Bool.and_eq_true, decide_eq_true_eq] at h
          obtain ⟨rfl, h1, rfl, h2, rfl, h3, h4, h5⟩ := h
          obtain ⟨g1, m1, _⟩ := E.gbl h1
          obtain ⟨g2, m2, _⟩ := E.gbl h2
          obtain ⟨g3, m3, _⟩ := E.gbl h3
          exact ⟨fun m => pe_isi2 g1 m1 g2 m2 g3 m3 ((sd a E h5).1 true) h4, fun _ => rfl⟩
        · cases h
      · rename_i a0 _ heq
        cases heq
        split at h
        · rename_i n hn
          split at h
          · simp only [Bool.and_eq_true, decide_eq_true_eq] at h
            obtain ⟨rfl, h1, rfl, h2, h3, h4⟩ := h
            obtain ⟨g1, m1, _⟩ := E.gbl h1
            obtain ⟨g2, m2, _⟩ := E.gbl h2
            exact ⟨fun m => pe_isi hn g1 m1 g2 m2 ((sd a E h4).1 true) h3, fun _ => rfl⟩
          · cases h
        · split at h
          · rename_i n v hn
            split at h
            · simp only [Bool.and_eq_true, decide_eq_true_eq] at h
              obtain ⟨rfl, h1, h2, h3⟩ := h
              obtain ⟨g1, m1, d1⟩ := E.gbl h1
              exact ⟨fun m => PE.imp (pe_blt E hn g1 m1 d1 (pa_cons ((sd a E h3).1 true) pa_nil (star_cons h2)) h2 rfl) fun σ H Q hq => c_blt1 hq, fun _ => rfl⟩
            · cases h
          · cases h
    have hq : quiet (.blt b (.cons a .nil)) = quiet a := Bool.and_true _
    rw [hq]
    refine both (f := fun m => ev cf m (.blt b (.cons a .nil))) (fun m => ?_) key.2
    rw [ev_blt1]
    exact key.1 m
  | .blt b (.cons a (.cons a' es)), Γ, sc, X, W, e, E, h => by
    have key : (∀ m, PE X e (tE X.K er W (fun ρ => (evs cf (.cons a (.cons a' es)) ρ).bind fun xs ρ1 => R.of (bltO b xs) ρ1) (quiets (.cons a (.cons a' es))) m false)) ∧ (∀ whole, isTrue e X.env whole = (do let v ← whole; standAt e.pos; holding [v] (truthy v))) := by
      unfold ck at h
      split at h <;> first | (cases h; done) | skip
      all_goals (try (rename_i heq; cases heq; done))
      · rename_i a0 a1 heq
        cases heq
        split at h
        · simp only [Bool.and_eq_true, decide_eq_true_eq] at h
          obtain ⟨rfl, rfl, h1, h2, h3, h4, h5, h6⟩ := h
          obtain ⟨g1, m1, _⟩ := E.gbl h1
          obtain ⟨g2, m2, _⟩ := E.gbl h2
          refine ⟨fun m => ?_, fun _ => rfl⟩
          have hq : quiets (.cons a (.cons a' .nil)) = (quiet a && quiet a') := by
            show (quiet a && (quiet a' && true)) = _
            rw [Bool.and_true]
          rw [hq, evs2]
          exact e_lrg (m := m) E.calm g1 m1 g2 m2 ((sd a E h5).1 false) ((sd a' E h6).1 false) h3 h4
        · cases h
      · split at h
        · simp only [Bool.and_eq_true, decide_eq_true_eq] at h
          obtain ⟨h1, h2, h3, h4, h5⟩ := h
          obtain ⟨st, len⟩ := ckL_star h5
          have hs := sl (.cons a (.cons a' es)) E h5
          rename_i es1 _
          cases es1 with
          | nil => cases len
          | cons e1 es1 =>
            rw [List.all_cons, Bool.and_eq_true] at st
            exact ⟨fun m => PE.imp (pe_callBfun (blt_gcd X) (E.gl h1) (E.bf _ _ h3) hs (okN_of h2).1 (star_cons st.1) (star_plain st.2)) fun σ H Q hq => c_bltN hq, fun _ => rfl⟩
        · cases h
      · rename_i heq
        cases heq
        split at h
        · rename_i n v hn
          split at h
          · simp only [Bool.and_eq_true, decide_eq_true_eq] at h
            obtain ⟨rfl, h1, h2, h3, h4⟩ := h
            obtain ⟨g1, m1, d1⟩ := E.gbl h1
            obtain ⟨st, len⟩ := ckL_star h4
            have hs := sl (.cons a' es) E h4
            refine ⟨fun m => ?_, fun _ => rfl⟩
            rw [evs_cons]
            exact PE.imp (pe_blt E hn g1 m1 d1 (a_cons ((sd a E h3).1 false) hs h2) h2 st) fun σ H Q hq => c_bltN hq
          · cases h
        · cases h
    refine both (f := fun m => ev cf m (.blt b (.cons a (.cons a' es)))) (fun m => ?_) key.2
    rw [ev_blt2]
    exact key.1 m
  | .meth m o .nil, Γ, sc, X, W, e, E, h => by
    unfold ck at h
    cases h
  | .meth m o (.cons a (.cons a' es)), Γ, sc, X, W, e, E, h => by
    unfold ck at h
    cases h
  | .meth m o (.cons a .nil), Γ, sc, X, W, e, E, h => by
    unfold ck at h
    dsimp only at h
    split at h
    · rename_i n hn
      split at h
      · simp only [Bool.and_eq_true, decide_eq_true_eq] at h
        obtain ⟨rfl, h1, h2, h3, h4, h5⟩ := h
        refine both (f := fun mm => ev cf mm (.meth m o (.cons a .nil))) (fun mm => ?_) (fun _ => rfl)
        rw [ev_meth]
        exact pe_meth1 hn ((sd o E h4).1 true) ((sd a E h5).1 false) h1 h2 h3
      · cases h
    · cases h
  | .mut m p es, Γ, sc, X, W, e, E, h => by
    unfold ck at h
    split at h
    · rename_i n k hn
      split at h
      · rename_i eo name apos es' cpos
        simp only [Bool.and_eq_true, decide_eq_true_eq] at h
        obtain ⟨rfl, h1, h2, h3, h4, h5⟩ := h
        refine both (f := fun mm => ev cf mm (.mut m p es)) (fun mm => ?_) (fun _ => rfl)
        rw [ev_mut]
        have hp := sp p E h4
        have hs := sl es E h5
        obtain ⟨st, len⟩ := ckL_star h5
        match es', st, len, hs with
        | [], _, len, hs =>
          have hk : k = 0 := by rw [← h3, ← len]; rfl
          have hes : es = .nil := by
            cases es with
            | nil => rfl
            | cons _ _ => cases len
          subst hes
          refine PE.imp (pe_mut0 hn hk hp h1 h2) fun σ H Q hq => ?_
          refine tP_mono (c_mut (qp := quiet p) hq) fun v H' hv => ⟨hv.1, ?_⟩
          have := hv.2
          rw [evs_nil] at this
          exact tA_nil this
        | [e1], st, len, hs =>
          have hk : k = 1 := by rw [← h3, ← len]; rfl
          rw [List.all_cons, Bool.and_eq_true] at st
          exact PE.imp (pe_mut1 hn hk hp hs h1 h2 st.1) fun σ H Q hq => c_mut hq
        | e1 :: e2 :: r, st, len, hs =>
          exfalso
          have hk : k = r.length + 2 := by rw [← h3, ← len]; rfl
          cases m <;> cases hn <;> omega
      · cases h
    · cases h
  | .comp elt .nil own, Γ, sc, X, W, e, E, h => by
    unfold ck at h
    cases h
  | .comp elt (.cons t i c (.cons t' i' c' (.cons t2 i2 c2 gs))) own, Γ, sc, X, W, e, E, h => by
    unfold ck at h
    cases h
  | .comp elt (.cons t i c (.cons t1 i1 c1 .nil)) own, Γ, sc, X, W, e, E, h => by
    unfold ck at h
    dsimp only at h
    split at h
    · rename_i eelt tg iter ifs k tg1 iter1 ifs1 k1 scope pos
      simp only [Bool.and_eq_true, decide_eq_true_eq] at h
      obtain ⟨rfl, rfl, h1, h2, h3, h3', h4, h4', h5, h5', h6, h6', h7, h7', h8⟩ := h
      · refine both (f := fun mm => ev cf mm (.comp elt (.cons t i c (.cons t1 i1 c1 .nil)) own)) (fun mm => ?_) (fun _ => rfl)
        rw [ev_comp2]
        have EB := fun (s : Shared) (H : Hp) (C : Addr) (cl : List (Str × Addr)) (fp : List Addr) => E.blk s H scope C cl fp
        have hb : BlkOk X.N X.env.scope scope (ownP Γ own) := by
          rw [E.hN, E.scope]
          exact blkOk_by h1
        have hp := pe_lc2 (X := X) (pos := pos) (elt := eelt) (iter := iter) (iter1 := iter1) (tg := tg) (tg1 := tg1) (g := gOf X.K t) (g1 := gOf X.K t1) (wi1 := tI X.K er WF (evI cf i1) (quietI i1)) (vs1 := tgs t1) (te := tE X.K er WF (ev cf false elt) (quiet elt) false (isPath elt)) E.calm E.nd (si i E h6) hb (fun j hj => by
            rw [h2]
            have := List.all_eq_true.mp h4' j hj
            simpa using this)
          (fun s H C cl fp => ckG_ok (EB s H C cl fp) (fun z => by cases z) t h5) (ifs := ifs) (tt := tT X.K er WF (evT cf c) (quiets c)) (fun s H C cl fp => sf c (EB s H C cl fp) h7)
          (fun s H C cl fp => si i1 (EB s H C cl fp) h6')
          (fun s H C cl fp => ckG_ok (EB s H C cl fp) (fun z => by cases z) t1 h5') (ifs1 := ifs1) (tt1 := tT X.K er WF (evT cf c1) (quiets c1)) (fun s H C cl fp => sf c1 (EB s H C cl fp) h7')
          (fun s H C cl fp => (sd elt (EB s H C cl fp) h8).1 false)
          (fun x => by cases iter <;> first | rfl | cases h3)
          (fun env x => by cases iter1 <;> first | rfl | cases h3')
        rw [h2] at hp
        have hq : quiet (.comp elt (.cons t i c (.cons t1 i1 c1 .nil)) own) = (quietI i && (quiets c && (quietI i1 && (quiets c1 && quiet elt)))) := by
          show (quiet elt && (quietI i && quiets c && (quietI i1 && quiets c1 && true))) = _
          cases quiet elt <;> cases quietI i <;> cases quiets c <;> cases quietI i1 <;> cases quiets c1 <;> rfl
        rw [hq]
        refine PE.imp hp fun σ H Q hq => c_lc2 (fun j hj => ?_) hq
        have := List.all_eq_true.mp h4 j hj
        simpa using this
    · cases h
  | .comp elt (.cons t i c .nil) own, Γ, sc, X, W, e, E, h => by
    unfold ck at h
    dsimp only at h
    split at h
    · rename_i eelt tg iter ifs k scope pos
      simp only [Bool.and_eq_true, decide_eq_true_eq] at h
      obtain ⟨rfl, h1, h2, h3, h4, h5, h6, h7, h8⟩ := h
      · refine both (f := fun mm => ev cf mm (.comp elt (.cons t i c .nil) own)) (fun mm => ?_) (fun _ => rfl)
        rw [ev_comp]
        have EB := fun (s : Shared) (H : Hp) (C : Addr) (cl : List (Str × Addr)) (fp : List Addr) => E.blk s H scope C cl fp
        have hb : BlkOk X.N X.env.scope scope (ownP Γ own) := by
          rw [E.hN, E.scope]
          exact blkOk_by h1
        have hp := pe_lc (X := X) (pos := pos) (elt := eelt) (tg := tg) (g := gOf X.K t) (te := tE X.K er WF (ev cf false elt) (quiet elt) false (isPath elt)) E.calm E.nd (si i E h6) hb (fun s H C cl fp => ckG_ok (EB s H C cl fp) (fun z => by cases z) t h5) (ifs := ifs) (tt := tT X.K er WF (evT cf c) (quiets c)) (fun s H C cl fp => sf c (EB s H C cl fp) h7) (fun s H C cl fp => (sd elt (EB s H C cl fp) h8).1 false)
          (fun x => by cases iter <;> first | rfl | cases h3)
        rw [h2] at hp
        have hq : quiet (.comp elt (.cons t i c .nil) own) = (quietI i && (quiets c && quiet elt)) := by
          show (quiet elt && (quietI i && quiets c && true)) = _
          cases quiet elt <;> cases quietI i <;> cases quiets c <;> rfl
        rw [hq]
        refine PE.imp hp fun σ H Q hq => c_lc (fun j hj => ?_) hq
        have := List.all_eq_true.mp h4 j hj
        simpa using this
    · cases h
  | .told f0 hs k0 b, Γ, sc, X, W, e, E, h => by
    unfold ck at h
    split at h
    · rename_i x p params lb lsc lpos pos
      simp only [Bool.and_eq_true, decide_eq_true_eq, Bool.not_eq_true'] at h
      obtain ⟨rfl, rfl, h1, h2, h3, h4, h5⟩ := h
      have hne : Γ.told ≠ [] := fun z => by rw [z] at h1; cases h1
      obtain ⟨c, P, g, k, a, pg, bg, sg, dV, kV, doc, pm, cdv, ct, oc, an, od, osl, Ng, t1, t2, t3, t4, t5, t6, t7, t8, t9, t10, t11, t12, t13, t14, t15, t16, t17, t18⟩ := E.tl hne
      refine both (f := fun m => ev cf m (.told f0 Γ.told k0 b)) (fun m => ?_) (fun _ => rfl)
      rw [ev_told]
      unfold noArgs at h4
      split at h4
      · have L : LamX.LamS X.env.scope lsc := LamX.lamS_by (by rw [E.scope]; exact h3)
        refine PE.imp (pe_lamP (t := fun E0 => tE X.K er (fun cls d _ H => E0 cls d H) (ev cf false b) (quiet b) false (isPath b)) (E.gl h2) t2 t3 t4 t5 t6 t7 t8 t9 t10 t11 t12 t13 t14 L rfl (fun _ _ _ _ _ => rfl) (fun A outer s H E0 f c' hr => (sd b (E.lam hr t18) h5).1 false) (by decide) t15 t16) fun σ H Q hq => c_told t1 t17 hq
      · cases h4
    · cases h
  | .frz a, Γ, sc, X, W, e, E, h => by
    unfold ck at h
    refine ⟨fun m => ?_, fun z => by cases z⟩
    rw [ev_frz]
    exact e_frz ((sd a E h).1 false)
theorem sb : ∀ (es : Exs) {Γ : Sg} {sc : Scope} {X : Cx} {W : WX} {k : Bool} {es' : List Expr}, EC Γ cf er sc X W → ckL Γ sc es es' = true →
    (∀ pos m, PE X (.BoolOp (bopB k) es' pos) (tE X.K er W (vB (evB cf k es)) (quiets es) m false)) ∧ (tks es = true → ∀ pos, PW X (.BoolOp (bopB k) es' pos) (tT X.K er W (evB cf k es) (quiets es)))
  | .nil, Γ, sc, X, W, k, es', E, h => by
    have hn : ∀ ρ, evB cf k .nil ρ = none := fun ρ => by rw [evB]
    exact ⟨fun pos m => pe_nothing fun ρ => by unfold vB; rw [hn]; rfl, fun _ pos => pt_nothing hn⟩
  | .cons x .nil, Γ, sc, X, W, k, es', E, h => by
    unfold ckL at h
    split at h
    · rename_i e es1
      simp only [Bool.and_eq_true] at h
      obtain ⟨h1, h2, h3⟩ := h
      unfold ckL at h3
      have he := List.isEmpty_iff.mp h3
      subst he
      have hq : quiets (.cons x .nil) = quiet x := Bool.and_true _
      rw [hq, evB_one]
      obtain ⟨g1, g2⟩ := sd x E h2
      refine ⟨fun pos m => vb_one (g1 true), fun ht pos => tw_one (g2 ?_)⟩
      unfold tks at ht
      rw [Bool.and_eq_true] at ht
      exact ht.1
    · cases h
  | .cons x (.cons y ys), Γ, sc, X, W, k, es', E, h => by
    unfold ckL at h
    split at h
    · rename_i e es1
      simp only [Bool.and_eq_true] at h
      obtain ⟨h1, h2, h3⟩ := h
      obtain ⟨g1, g2⟩ := sd x E h2
      obtain ⟨g3, g4⟩ := sb (.cons y ys) (k := k) E h3
      obtain ⟨_, len⟩ := ckL_star h3
      cases es1 with
      | nil => cases len
      | cons e1 es1 =>
        rw [evB_more]
        refine ⟨fun pos m => vb_more (g1 true) (g3 pos true), fun ht pos => ?_⟩
        unfold tks at ht
        rw [Bool.and_eq_true] at ht
        exact tw_more (g2 ht.1) (g4 ht.2 pos)
    · cases h
theorem sl : ∀ (es : Exs) {Γ : Sg} {sc : Scope} {X : Cx} {W : WX} {es' : List Expr}, EC Γ cf er sc X W → ckL Γ sc es es' = true → PA X es' (tA X.K er W (evs cf es) (quiets es))
  | .nil, Γ, sc, X, W, es', E, h => by
    unfold ckL at h
    rw [List.isEmpty_iff.mp h, evs_nil]
    exact a_nil
  | .cons x xs, Γ, sc, X, W, es', E, h => by
    unfold ckL at h
    split at h
    · simp only [Bool.and_eq_true] at h
      rw [evs_cons]
      exact a_cons ((sd x E h.2.1).1 false) (sl xs E h.2.2) h.1
    · cases h
theorem so : ∀ (es : Exs) {Γ : Sg} {sc : Scope} {X : Cx} {W : WX} {e : Option Expr}, EC Γ cf er sc X W → ckO Γ sc es e = true → L2.PO X e (tO X.K er W (evs cf es) (quiets es))
  | .nil, Γ, sc, X, W, e, E, h => by
    unfold ckO at h
    cases e with
    | none =>
      rw [evs_nil]
      exact o_none
    | some _ => cases h
  | .cons x .nil, Γ, sc, X, W, e, E, h => by
    unfold ckO at h
    dsimp only at h
    split at h
    · rw [evs_cons, evs_nil]
      exact o_some ((sd x E h).1 false)
    · cases h
  | .cons x (.cons y ys), Γ, sc, X, W, e, E, h => by
    unfold ckO at h
    cases h
theorem sa : ∀ (es : Exs) {Γ : Sg} {sc : Scope} {X : Cx} {W : WX} {ms : List AM} {es' : List Expr}, EC Γ cf er sc X W → ckA Γ sc ms es es' = true → PA X es' (tV X.K er W (evA cf ms es) (quiets es))
  | .nil, Γ, sc, X, W, ms, es', E, h => by
    unfold ckA at h
    rw [Bool.and_eq_true] at h
    rw [List.isEmpty_iff.mp h.1, List.isEmpty_iff.mp h.2, evA_nil]
    exact v_nil
  | .cons x xs, Γ, sc, X, W, ms, es', E, h => by
    unfold ckA at h
    split at h
    · split at h
      · split at h
        · rename_i ms' i _ y p es1
          rw [Bool.and_eq_true] at h
          obtain ⟨h1, h2⟩ := h
          obtain ⟨n1, n2, n3, n4⟩ := E.nm h1
          rw [evA_io]
          exact v_io n1 n2 n3 n4 (sa xs E h2)
        · cases h
      · cases h
    · rename_i a ms' hne
      split at h
      · simp only [Bool.and_eq_true] at h
        cases a with
        | io => exact absurd rfl hne
        | v =>
          rw [evA_v]
          exact v_v ((sd x E h.2.1).1 false) (sa xs E h.2.2) h.1
        | pk =>
          rw [evA_pk]
          exact v_pk ((sd x E h.2.1).1 true) (sa xs E h.2.2) h.1
      · cases h
    · cases h
theorem sp : ∀ (x : Ex) {Γ : Sg} {sc : Scope} {X : Cx} {W : WX} {e : Expr}, EC Γ cf er sc X W → ckP Γ sc x e = true → PE X e (tP X.K er W (evP cf x) (quiet x))
  | .var i, Γ, sc, X, W, e, E, h => by
    unfold ckP at h
    split at h
    · obtain ⟨h1, h2, h3, h4⟩ := E.nm h
      exact p_var h1 h2 h3 h4
    · cases h
  | .idx a i, Γ, sc, X, W, e, E, h => by
    unfold ckP at h
    split at h
    · simp only [Bool.and_eq_true] at h
      rw [evP_idx]
      exact p_idx (sp a E h.2.1) ((sd i E h.2.2).1 true) (isSlice h.1)
    · cases h
  | .cst _, _, _, _, _, _, _, h => by unfold ckP at h; cases h
  | .glo _, _, _, _, _, _, _, h => by unfold ckP at h; cases h
  | .bin _ _ _, _, _, _, _, _, _, h => by unfold ckP at h; cases h
  | .neg _, _, _, _, _, _, _, h => by unfold ckP at h; cases h
  | .nt _, _, _, _, _, _, _, h => by unfold ckP at h; cases h
  | .bo _ _, _, _, _, _, _, _, h => by unfold ckP at h; cases h
  | .cmp _ _ _, _, _, _, _, _, _, h => by unfold ckP at h; cases h
  | .isN _ _, _, _, _, _, _, _, h => by unfold ckP at h; cases h
  | .chain _ _ _ _ _, _, _, _, _, _, _, h => by unfold ckP at h; cases h
  | .ite _ _ _, _, _, _, _, _, _, h => by unfold ckP at h; cases h
  | .tup _, _, _, _, _, _, _, h => by unfold ckP at h; cases h
  | .lst _, _, _, _, _, _, _, h => by unfold ckP at h; cases h
  | .dct _ _ _, _, _, _, _, _, _, h => by unfold ckP at h; cases h
  | .slc _ _ _, _, _, _, _, _, _, h => by unfold ckP at h; cases h
  | .stp _ _, _, _, _, _, _, _, h => by unfold ckP at h; cases h
  | .call _ _ _, _, _, _, _, _, _, h => by unfold ckP at h; cases h
  | .blt _ _, _, _, _, _, _, _, h => by unfold ckP at h; cases h
  | .meth _ _ _, _, _, _, _, _, _, h => by unfold ckP at h; cases h
  | .mut _ _ _, _, _, _, _, _, _, h => by unfold ckP at h; cases h
  | .comp _ _ _, _, _, _, _, _, _, h => by unfold ckP at h; cases h
  | .told _ _ _ _, _, _, _, _, _, _, h => by unfold ckP at h; cases h
  | .frz _, _, _, _, _, _, _, h => by unfold ckP at h; cases h
theorem si : ∀ (i : DP.Itr) {Γ : Sg} {sc : Scope} {X : Cx} {W : WX} {tg e : Expr}, EC Γ cf er sc X W → ckI Γ sc i tg e = true → PI X tg e (tI X.K er W (evI cf i) (quietI i))
  | .it x, Γ, sc, X, W, tg, e, E, h => by
    unfold ckI at h
    rw [evI_it]
    exact i_it ((sd x E h).1 false)
  | .rng es, Γ, sc, X, W, tg, e, E, h => by
    unfold ckI at h
    split at h
    · rename_i x0 p1 es' p2
      simp only [Bool.and_eq_true, decide_eq_true_eq] at h
      obtain ⟨rfl, h1, h2, h3⟩ := h
      obtain ⟨g1, m1, _⟩ := E.gbl h1
      obtain ⟨st, len⟩ := ckL_star h3
      have hs := sl es E h3
      rw [evI_rng]
      match es', st, len, hs with
      | [], _, len, _ => exact absurd h2 (by rw [← len]; decide)
      | [a], st, len, hs =>
        rw [List.all_cons, Bool.and_eq_true] at st
        exact i_rng1 (fun ρ xs ρ' hx => by rw [evs_len hx, ← len]; rfl) g1 m1 hs st.1
      | [a, b], st, len, hs =>
        simp only [List.all_cons, Bool.and_eq_true] at st
        exact i_rng2 (fun ρ xs ρ' hx => by rw [evs_len hx, ← len]; rfl) g1 m1 hs st.1 st.2.1
      | a :: b :: c :: r, _, len, _ => exact absurd h2 (by rw [← len]; simp only [List.length_cons]; omega)
    · cases h
  | .zip a b, Γ, sc, X, W, tg, e, E, h => by
    unfold ckI at h
    split at h
    · simp only [Bool.and_eq_true, decide_eq_true_eq] at h
      obtain ⟨rfl, h1, h2, h3, h4, h5, h6⟩ := h
      obtain ⟨g1, m1, _⟩ := E.gbl h1
      cases tg <;> first | (cases h2; done) | skip
      rw [evI_zip]
      exact i_zip g1 m1 ((sd a E h5).1 false) ((sd b E h6).1 false) h3 h4
    · cases h
  | .enum a, Γ, sc, X, W, tg, e, E, h => by
    unfold ckI at h
    split at h
    · simp only [Bool.and_eq_true, decide_eq_true_eq] at h
      obtain ⟨rfl, h1, h2, h3, h4⟩ := h
      obtain ⟨g1, m1, _⟩ := E.gbl h1
      cases tg <;> first | (cases h2; done) | skip
      rw [evI_enum]
      exact i_enum g1 m1 ((sd a E h4).1 false) h3
    · cases h
theorem sf : ∀ (es : Exs) {Γ : Sg} {sc : Scope} {X : Cx} {W : WX} {es' : List Expr}, EC Γ cf er sc X W → ckF Γ sc es es' = true → L2.PTs X es' (tT X.K er W (evT cf es) (quiets es))
  | .nil, Γ, sc, X, W, es', E, h => by
    unfold ckF at h
    rw [List.isEmpty_iff.mp h, evT_nil]
    refine PTs.imp pts_nil fun σ H Q hq => ?_
    obtain ⟨T, ρ, own, r, p, e, aft⟩ := hq
    have e' := ok_some e
    subst e'
    exact aft H own p.post
  | .cons x .nil, Γ, sc, X, W, es', E, h => by
    unfold ckF at h
    dsimp only at h
    split at h
    · rw [Bool.and_eq_true] at h
      have hq : quiets (.cons x .nil) = quiet x := Bool.and_true _
      rw [hq, evT_one]
      exact pts_one ((sd x E h.2).2 h.1)
    · cases h
  | .cons x (.cons y ys), Γ, sc, X, W, es', E, h => by
    unfold ckF at h
    cases h
end
end
end DP

set_option Elab.async false
set_option linter.all false
set_option autoImplicit false
set_option maxRecDepth 100000
set_option maxHeartbeats 4000000
/-! DP, part V: statements, checked. -/
namespace DP
open PySem PySem.Spec PyProof.Rows L2

def noComp : Expr → Bool
  | .ListComp _ _ _ _ => false
  | .SetComp _ _ _ _ => false
  | .DictComp _ _ _ _ _ => false
  | _ => true
theorem sw_none {e : Expr} (h : noComp e = true) (t : Option Expr) (l : Nat) (env : PySem.Env) : swapsWith e t l env = pure false := by
  cases e <;> first | rfl | cases h
/-- name = [..]: the value is stored in the comprehension's own block -/
def lcOwn (sc : Scope) (x : Str) (px : Pos) (scope : Scope) (pos : Pos) : Bool := decide (sc.kind = .function) && (decide (sc.names.lookup x = some .local) && ((px.line == pos.line) && !(scope.names.any fun (n, k) => n == x && (k == .local || k == .cell))))
theorem lcOwn_false {sc : Scope} {x : Str} {px : Pos} {scope : Scope} {pos : Pos} {env : PySem.Env} {elt : Expr} {gs : List Comprehension} {l : Nat} (hk : sc.kind = .function) (he : env.scope = sc) (h : lcOwn sc x px scope pos = false) : swapsWith (.ListComp elt gs scope pos) (some (.Name x px)) l env = pure false := by
  have hb : env.blockKind = .function := by
    unfold Env.blockKind
    rw [he, hk]
    rfl
  have hx : env.kindOf x = sc.names.lookup x := by
    show env.scope.names.lookup x = _
    rw [he]
  unfold lcOwn at h
  unfold swapsWith
  simp only [hb, hx, Expr.pos]
  rw [hk] at h
  simp only [decide_true, Bool.true_and] at h
  by_cases h1 : sc.names.lookup x = some .local
  · rw [h1] at h ⊢
    simp only [decide_true, Bool.true_and] at h
    have : (some NameKind.local == some NameKind.local) = true := rfl
    simp only [this, beq_self_eq_true, Bool.true_and]
    rw [show ((px.line == pos.line) && !(scope.names.any fun (n, k) => n == x && (k == .local || k == .cell))) = false from h]
  · have : (sc.names.lookup x == some NameKind.local) = false := by
      rw [beq_eq_false_iff_ne]
      exact h1
    simp only [this, beq_self_eq_true, Bool.true_and, Bool.false_and]

/-! ### the order of the stores -/
def swHead (ts : List Expr) : Nat := (ts.head?.map (·.pos.line)).getD 0
def isNamed (sc : Scope) (l : Nat) : Expr → Bool
  | .Name x p => decide (sc.names.lookup x = some .local) && decide (p.line = l)
  | _ => false
def noneB (sc : Scope) (ts vs : List Expr) : Bool := !(ts.length == 2 || ts.length == 3) || vs.all (foldedForSure 8) || !(ts.all (isNamed sc (swHead ts)))
theorem fm_len {sc : Scope} {l : Nat} {env : PySem.Env} (he : env.scope = sc) : ∀ (ts : List Expr), (ts.filterMap fun
    | .Name id pos => if env.kindOf id == some .local && pos.line == l then some id else none
    | _ => none).length ≤ ts.length ∧ ((ts.filterMap fun
    | .Name id pos => if env.kindOf id == some .local && pos.line == l then some id else none
    | _ => none).length = ts.length → ts.all (isNamed sc l) = true)
  | [] => ⟨Nat.le_refl _, fun _ => rfl⟩
  | t :: ts => by
    obtain ⟨h1, h2⟩ := fm_len he (l := l) ts
    have key : ∀ {o : Option Str}, (match t with
      | .Name id pos => if env.kindOf id == some .local && pos.line == l then some id else none
      | _ => none) = o → ((o = none ∧ True) ∨ ∃ x, o = some x ∧ isNamed sc l t = true) := by
      intro o ho
      cases t with
      | Name id pos =>
        dsimp only at ho
        split at ho
        · rename_i hc
          rw [Bool.and_eq_true] at hc
          refine .inr ⟨id, ho.symm, ?_⟩
          unfold isNamed
          rw [Bool.and_eq_true, decide_eq_true_eq, decide_eq_true_eq]
          refine ⟨?_, ?_⟩
          · have := eq_of_beq hc.1
            rw [← he]
            exact this
          · exact eq_of_beq hc.2
        · exact .inl ⟨ho.symm, trivial⟩
      | _ => exact .inl ⟨ho.symm, trivial⟩
    rw [List.filterMap_cons]
    split
    · rename_i ho
      refine ⟨Nat.le_succ_of_le h1, fun z => ?_⟩
      rw [List.length_cons] at z
      omega
    · rename_i x ho
      rcases key ho with ⟨z, _⟩ | ⟨x', _, hn⟩
      · cases z
      · refine ⟨Nat.succ_le_succ h1, fun z => ?_⟩
        rw [List.all_cons, hn, h2 (by simpa using z)]
        rfl
theorem sws_none {sc : Scope} {ts vs : List Expr} {k k2 : Nat} {p p2 : Pos} {env : PySem.Env} (he : env.scope = sc) (h : noneB sc ts vs = true) : swappedStores [.Tuple ts k p] (.Tuple vs k2 p2) env = pure none := by
  unfold noneB at h
  rw [Bool.or_eq_true, Bool.or_eq_true] at h
  unfold swappedStores
  dsimp only
  split
  · rfl
  · rename_i c1
    split
    · rfl
    · split
      · rfl
      · rename_i c3
        rcases h with (h | h) | h
        · exfalso
          apply c1
          simp only [Bool.or_eq_true]
          exact .inl (.inl h)
        · rw [if_pos h]
        · exfalso
          apply c3
          rw [Bool.or_eq_true]
          left
          rw [bne_iff_ne]
          intro hl
          have := (fm_len he (l := swHead ts) ts).2 hl
          rw [this] at h
          cases h
/-- local names on one line, stored from the right -/
def parB (sc : Scope) (ts vs : List Expr) : Bool := decide (sc.kind = .function) && (ts.all (isNamed sc (swHead ts)) && (vs.all noStar && (!vs.all (foldedForSure 8) && !vs.all (constantsAlone 8))))
theorem noStar_any {vs : List Expr} (h : vs.all noStar = true) : (vs.any fun | .Starred .. => true | _ => false) = false := by
  induction vs with
  | nil => rfl
  | cons e es ih =>
    rw [List.all_cons, Bool.and_eq_true] at h
    rw [List.any_cons, ih h.2]
    have h0 := h.1
    cases e <;> first | rfl | cases h0
theorem isNamed_at {sc : Scope} {l : Nat} {env : PySem.Env} (he : env.scope = sc) {x : Str} {p : Pos} (h : isNamed sc l (.Name x p) = true) : sc.names.lookup x = some .local ∧ (env.kindOf x == some .local && p.line == l) = true := by
  unfold isNamed at h
  rw [Bool.and_eq_true, decide_eq_true_eq, decide_eq_true_eq] at h
  refine ⟨h.1, ?_⟩
  rw [Bool.and_eq_true]
  refine ⟨?_, by rw [h.2]; exact beq_self_eq_true _⟩
  show (env.scope.names.lookup x == _) = true
  rw [he, h.1]
  rfl
theorem sws_par2 {sc : Scope} {x y : Str} {px py : Pos} {a b : Expr} {k k2 : Nat} {p p2 : Pos} {env : PySem.Env} (he : env.scope = sc) (hne : x ≠ y) (h : parB sc [.Name x px, .Name y py] [a, b] = true) :
    swappedStores [.Tuple [.Name x px, .Name y py] k p] (.Tuple [a, b] k2 p2) env = pure (some [x, y]) ∧ sc.names.lookup x = some .local ∧ sc.names.lookup y = some .local := by
  unfold parB at h
  simp only [Bool.and_eq_true, decide_eq_true_eq, Bool.not_eq_true', List.all_cons, List.all_nil] at h
  obtain ⟨hk, ⟨h1, h2, _⟩, ⟨s1, s2, _⟩, h3, h4⟩ := h
  obtain ⟨l1, n1⟩ := isNamed_at he h1
  obtain ⟨l2, n2⟩ := isNamed_at he h2
  have hb : env.blockKind = .function := by
    unfold Env.blockKind
    rw [he, hk]
    rfl
  have hs : ([a, b].any fun | .Starred .. => true | _ => false) = false := noStar_any (by rw [List.all_cons, List.all_cons, s1, s2]; rfl)
  refine ⟨?_, l1, l2⟩
  have hl : (([Expr.Name x px, Expr.Name y py].head?.map (·.pos.line)).getD 0) = swHead [.Name x px, .Name y py] := rfl
  have hd : ([x, y].eraseDups).length = 2 := by
    have h1 : (y == x) = false := beq_eq_false_iff_ne.mpr (Ne.symm hne)
    simp [List.eraseDups_cons, List.filter, h1]
  have hf : ([Expr.Name x px, Expr.Name y py].filterMap fun
    | .Name id pos => if env.kindOf id == some .local && pos.line == swHead [.Name x px, .Name y py] then some id else none
    | _ => none) = [x, y] := by
    simp only [List.filterMap_cons, n1, n2, if_true, List.filterMap_nil]
  unfold swappedStores
  dsimp only
  split
  · rename_i c
    rw [hb] at c
    cases c
  · split
    · rename_i c
      cases hs.symm.trans c
    · split
      · rename_i c
        have c' : (([x, y].length != 2) || ([x, y].eraseDups.length != [x, y].length)) = true := by
          rw [← hf]
          exact c
        rw [hd] at c'
        cases c'
      · split
        · rename_i c
          have h3' : [a, b].all (foldedForSure 8) = false := by simpa using h3
          cases h3'.symm.trans c
        · split
          · rename_i c
            have h4' : [a, b].all (constantsAlone 8) = false := by simpa using h4
            cases h4'.symm.trans c
          · exact congrArg (fun l => pure (some l)) hf
theorem sws_par3 {sc : Scope} {x y z : Str} {px py pz : Pos} {a b c : Expr} {k k2 : Nat} {p p2 : Pos} {env : PySem.Env} (he : env.scope = sc) (hne : x ≠ y) (hne2 : x ≠ z) (hne3 : y ≠ z) (h : parB sc [.Name x px, .Name y py, .Name z pz] [a, b, c] = true) :
    swappedStores [.Tuple [.Name x px, .Name y py, .Name z pz] k p] (.Tuple [a, b, c] k2 p2) env = pure (some [x, y, z]) ∧ sc.names.lookup x = some .local ∧ sc.names.lookup y = some .local ∧ sc.names.lookup z = some .local := by
  unfold parB at h
  simp only [Bool.and_eq_true, decide_eq_true_eq, Bool.not_eq_true', List.all_cons, List.all_nil] at h
  obtain ⟨hk, ⟨h1, h2, h5, _⟩, ⟨s1, s2, s3, _⟩, h3, h4⟩ := h
  obtain ⟨l1, n1⟩ := isNamed_at he h1
  obtain ⟨l2, n2⟩ := isNamed_at he h2
  obtain ⟨l3, n3⟩ := isNamed_at he h5
  have hb : env.blockKind = .function := by
    unfold Env.blockKind
    rw [he, hk]
    rfl
  have hs : ([a, b, c].any fun | .Starred .. => true | _ => false) = false := noStar_any (by rw [List.all_cons, List.all_cons, List.all_cons, s1, s2, s3]; rfl)
  refine ⟨?_, l1, l2, l3⟩
  have hd : ([x, y, z].eraseDups).length = 3 := by
    have h1 : (y == x) = false := beq_eq_false_iff_ne.mpr (Ne.symm hne)
    have h2 : (z == x) = false := beq_eq_false_iff_ne.mpr (Ne.symm hne2)
    have h3 : (z == y) = false := beq_eq_false_iff_ne.mpr (Ne.symm hne3)
    simp [List.eraseDups_cons, List.filter, h1, h2, h3]
  have hf : ([Expr.Name x px, Expr.Name y py, Expr.Name z pz].filterMap fun
    | .Name id pos => if env.kindOf id == some .local && pos.line == swHead [.Name x px, .Name y py, .Name z pz] then some id else none
    | _ => none) = [x, y, z] := by
    simp only [List.filterMap_cons, n1, n2, n3, if_true, List.filterMap_nil]
  unfold swappedStores
  dsimp only
  split
  · rename_i cc
    rw [hb] at cc
    cases cc
  · split
    · rename_i cc
      cases hs.symm.trans cc
    · split
      · rename_i cc
        have c' : (([x, y, z].length != 3) || ([x, y, z].eraseDups.length != [x, y, z].length)) = true := by
          rw [← hf]
          exact cc
        rw [hd] at c'
        cases c'
      · split
        · rename_i cc
          have h3' : [a, b, c].all (foldedForSure 8) = false := by simpa using h3
          cases h3'.symm.trans cc
        · split
          · rename_i cc
            have h4' : [a, b, c].all (constantsAlone 8) = false := by simpa using h4
            cases h4'.symm.trans cc
          · exact congrArg (fun l => pure (some l)) hf
end DP

set_option Elab.async false
set_option linter.all false
set_option autoImplicit false
set_option maxRecDepth 100000
set_option maxHeartbeats 8000000
/-! DP, part W: the check is sound; statements. -/
namespace DP
open PySem PySem.Spec PyProof.Rows L2

def notFrz : Ex → Bool
  | .frz _ => false
  | _ => true
def asgB (sc : Scope) : Expr → Expr → Bool
  | .Name _ _, ee => match ee with
    | .ListComp _ gs _ _ => decide (sc.kind = .function) && decide (gs.length = 1)
    | ee => noComp ee
  | .Tuple ts _ _, ee => match ee with
    | .Tuple vs _ _ => noneB sc ts vs
    | ee => noComp ee
  | _, _ => false
mutual
def ckS (Γ : Sg) (sc : Scope) (fl tr : Bool) (fx : List Nat) : Sm → Stmt → Bool
  | .asg t e, st => match st with
    | .Assign [tg] ee _ => ckG Γ sc fl t tg && (ck Γ sc e ee && ((tgs t).all (fun j => !fx.contains j) && (notFrz e && asgB sc tg ee)))
    | _ => false
  | .par ts es, st => match st with
    | .Assign [.Tuple [.Name x px, .Name y py] _ _] (.Tuple [a, b] _ _) _ => (match ts with
      | [i, j] => decide (i ≠ j) && (decide (Γ.N[i]? = some x) && (decide (Γ.N[j]? = some y) && (decide (x ≠ y) && (parB sc [.Name x px, .Name y py] [a, b] && (ckL Γ sc es [a, b] && (!fx.contains i && !fx.contains j))))))
      | _ => false)
    | .Assign [.Tuple [.Name x px, .Name y py, .Name z pz] _ _] (.Tuple [a, b, c] _ _) _ => (match ts with
      | [i, j, l] => decide (i ≠ j) && (decide (i ≠ l) && (decide (j ≠ l) && (decide (Γ.N[i]? = some x) && (decide (Γ.N[j]? = some y) && (decide (Γ.N[l]? = some z) && (decide (x ≠ y) && (decide (x ≠ z) && (decide (y ≠ z) &&
          (parB sc [.Name x px, .Name y py, .Name z pz] [a, b, c] && (ckL Γ sc es [a, b, c] && (!fx.contains i && (!fx.contains j && !fx.contains l))))))))))))
      | _ => false)
    | _ => false
  | .aug _ _ _, _ => false
  | .sto p i e, st => match st with
    | .Assign [.Subscript o ei _] ee _ => notSlice ei && (noComp ee && (ckP Γ sc p o && (ck Γ sc i ei && ck Γ sc e ee)))
    | _ => false
  | .exp e, st => match st with
    | .Expr ee _ => noComp ee && ck Γ sc e ee
    | _ => false
  | .ret e, st => match st with
    | .Return (some ee) _ => ck Γ sc e ee
    | _ => false
  | .rtn, st => match st with
    | .Return none _ => true
    | _ => false
  | .rse c, st => match st with
    | .Raise (some (.Call (.Name x _) [] [] _)) none _ => decide ((x, c) ∈ Γ.ers) && (glB sc x && okN x)
    | _ => false
  | .ifs c a b, st => match st with
    | .If ec sa sb _ => tk c && (ck Γ sc c ec && (ckSs Γ sc fl tr fx a sa && ckSs Γ sc fl tr fx b sb))
    | _ => false
  | .whl c b, st => match st with
    | .While ec sb [] _ => tk c && (ck Γ sc c ec && ckSs Γ sc fl tr fx b sb)
    | _ => false
  | .fors t i b, st => match st with
    | .For tg ei sb [] _ => ckG Γ sc fl t tg && (ckI Γ sc i tg ei && (notSet ei && (ckSs Γ sc fl tr fx b sb && (tgs t).all (fun j => !fx.contains j))))
    | _ => false
  | .pas, st => match st with
    | .Pass _ => true
    | .Expr (.Constant (.str _) _ _) _ => true
    | _ => false
  | .tryS b i c j d, st => match st with
    | .Try body [.ExceptHandler (some (.Name x _)) (some n) [.Assign [.Name y _] (.Constant k _ _) _] _] [] [] _ => tr && (ckSs { Γ.noTold with ers := [] } sc fl false fx b body && (decide ((x, c) ∈ Γ.ers) && (glB sc x && (okN x && (decide (Γ.N[i]? = some n) &&
        (decide (sc.names.lookup n = some .local) && (decide (Γ.N[j]? = some y) && (decide (sc.names.lookup y = some .local) && (decide (i ≠ j) && (cstB d k && (!fx.contains i && !fx.contains j)))))))))))
    | _ => false
def ckSs (Γ : Sg) (sc : Scope) (fl tr : Bool) (fx : List Nat) : Sms → List Stmt → Bool
  | .nil, sts => sts.isEmpty
  | .cons s ss, sts => match sts with
    | st :: sts => ckS Γ sc fl tr fx s st && ckSs Γ sc fl tr fx ss sts
    | [] => false
end
/-- a context of statements -/
structure SC (Γ : Sg) (cf : CF) (er : Nat → Value) (sc : Scope) (fl tr : Bool) (X : Cx) (W : WX) : Prop where
  ec : EC Γ cf er sc X W
  fn : fl = true → ∀ x, X.fn x = true
  hp : PassesOwn (model X.prog X.w) X.A X.env X.xe
  ers : ∀ x c, (x, c) ∈ Γ.ers → Gl X x → (x == ("__debug__" : Str)) = false → ∀ p pos, PMk X (.Call (.Name x p) [] [] pos) (fun _ H Q => Q (er c) none H)
  trs : tr = true → (X.stack = X.env :: X.outer ∧ X.env.frame = some X.env.locals) ∧ ∀ x c, (x, c) ∈ Γ.ers → Gl X x → (x == ("__debug__" : Str)) = false → Names X x (er c) ∧ PySem.W.exmOne X.K (er c) (er c) = some true
def tryF (fb : En → R Fl) (i c j : Nat) (d : PyData) (ρ : En) : R Fl := match fb ρ with
  | some (.error c', ρ1) => if c' = c ∧ j < ρ1.length then R.ok .nx (setS (ρ1.set i none) j (.fr d)) else none
  | r => r
theorem c_try {K : PySem.W.Frag} {er : Nat → Value} {W : WX} {fx : List Nat} {D : Ends} {σ : L2.St} {H : Hp} {fb : En → R Fl} {i c j : Nat} {d : PyData} {v : V} (hi : i ∉ fx) (hj : j ∉ fx) (hij : i ≠ j) (hv : ∀ F, RD K F v d) (hex : PySem.W.exmOne K (er c) (er c) = some true)
    (h : tS K er W fx (tryF fb i c j d) D σ H) : tS K er (wAs K (er c) i (fun _ _ _ => tAsg (tC v) (gName j)) W D) fx fb D σ H := by
  obtain ⟨T, ρ, own, r, p, e, aft⟩ := h
  unfold tryF at e
  split at e
  · rename_i c' ρ1 he
    split at e
    · rename_i hc
      obtain ⟨rfl, hjl⟩ := hc
      have e2 := ok_some e
      subst e2
      refine ⟨T, ρ, own, _, p, he, fun σ' H' own' x p' k => ⟨true, hex, fun _ a ha => ?_, fun z => by cases z⟩⟩
      show D.nx (((σ'.set i (some (.ref a))).set j (some v)).set i none) H'
      obtain ⟨l, es, pm⟩ := p'.es
      obtain ⟨l1, sub, es1⟩ := es.drop i
      have none_i : ∀ o, (ρ1.set i none)[i]? ≠ some (some o) := fun o z => by
        rw [List.getElem?_set] at z
        split at z
        · split at z <;> cases z
        · rename_i hh; exact hh rfl
      have es2 := es1.any (s' := some (.ref a)) none_i
      obtain ⟨l3, r3, es3, pm3⟩ := es2.store (v := v) (i := j) (.fr (hv _)) (by rw [List.length_set]; exact hjl)
      have es4 := es3.any (i := i) (s' := none) fun o z => by
        unfold setS at z
        rw [List.getElem?_set_ne (Ne.symm hij)] at z
        exact none_i o z
      obtain ⟨d1, pd⟩ := sub.exists_perm_append
      rw [List.nil_append] at pm3
      have pmA : own'.Perm (l3 ++ (r3 ++ d1)) := pm.symm.trans (pd.trans (by rw [← List.append_assoc]; exact pm3.append_right d1))
      refine aft _ H' l3 (x.sub fun b hb => pmA.mem_iff.mpr (List.mem_append_left _ hb)) (p'.slots es4 pmA) fun b hb => ?_
      have ni : i ≠ b := fun z => hi (z ▸ hb)
      have nj : j ≠ b := fun z => hj (z ▸ hb)
      rw [List.getElem?_set_ne ni, List.getElem?_set_ne nj, List.getElem?_set_ne ni]
      exact k b hb
    · cases e
  · rename_i hn
    refine ⟨T, ρ, own, r, p, e, ?_⟩
    obtain ⟨r, ρ'⟩ := r
    cases r with
    | error c' => exact absurd e (hn c' ρ')
    | ok f => cases f <;> exact aft
section
variable {cf : CF} {er : Nat → Value}
theorem EC.tr {Γ : Sg} {sc : Scope} {X : Cx} {W W' : WX} (E : EC Γ cf er sc X W) (pn : List (Addr × Obj)) (xe : Value → Shared → Prop) (tk : Takes (X.tr pn xe) W') : EC { Γ.noTold with ers := [] } cf er sc (X.tr pn xe) W' :=
  ⟨E.hN, E.nd, E.calm, E.scope, E.hu, tk, E.fns, E.nums, E.bl, E.bf, fun h => absurd rfl h⟩
theorem all_fx {fx l : List Nat} (h : l.all (fun j => !fx.contains j) = true) : ∀ i ∈ l, i ∉ fx := fun i hi z => by
  have := List.all_eq_true.mp h i hi
  simp at this
  exact this z
theorem cst_v {d : PyData} {c : Const} (h : cstB d c = true) : ∃ v, (∀ (X : Cx) (k : Nat) (p : Pos), PE X (.Constant c k p) (tC v)) ∧ ∀ (K : PySem.W.Frag) (F : Hp), RD K F v d := by
  cases d <;> cases c <;> first | (cases h; done) | skip
  · exact ⟨_, fun _ _ _ => pe_non, fun _ _ => .non⟩
  · have e := eq_of_beq (show (_ == _) = true from h)
    subst e
    exact ⟨_, fun _ _ _ => pe_bl, fun _ _ => .bl _⟩
  · have e := eq_of_beq (show (_ == _) = true from h)
    subst e
    exact ⟨_, fun _ _ _ => pe_int, fun _ _ => .int _⟩
  · have e := eq_of_beq (show (_ == _) = true from h)
    subst e
    exact ⟨_, fun _ _ _ => pe_str, fun _ _ => .str _⟩
theorem not_fx {fx : List Nat} {i : Nat} (h : (!fx.contains i) = true) : i ∉ fx := by
  simpa using h
theorem exS_asg (t : Tg) (e : Ex) : exS cf (.asg t e) = asgF (ev cf false e) t := by funext ρ; rw [exS] <;> rfl
theorem exS_par (ts : List Nat) (es : Exs) : exS cf (.par ts es) = parF (evs cf es) ts := by funext ρ; rw [exS] <;> rfl
theorem exS_sto (p i e : Ex) : exS cf (.sto p i e) = stoF (ev cf false e) (evP cf p) (ev cf true i) (quiet i) := by funext ρ; rw [exS] <;> rfl
theorem exS_exp (e : Ex) : exS cf (.exp e) = expF (ev cf false e) := by funext ρ; rw [exS] <;> rfl
theorem exS_ret (e : Ex) : exS cf (.ret e) = retF (ev cf false e) := by funext ρ; rw [exS] <;> rfl
theorem exS_rtn : exS cf .rtn = fun ρ => R.ok (.rt .none) ρ := by funext ρ; rw [exS]
theorem exS_rse (c : Nat) : exS cf (.rse c) = fun ρ => some (.error c, ρ) := by funext ρ; rw [exS]
theorem exS_ifs (c : Ex) (a b : Sms) : exS cf (.ifs c a b) = ifF (ev cf true c) (exSs cf a) (exSs cf b) := by funext ρ; rw [exS] <;> rfl
theorem exS_whl (c : Ex) (b : Sms) : exS cf (.whl c b) = whlR (tst (ev cf true c)) (exSs cf b) := by funext ρ; rw [exS] <;> rfl
theorem exS_fors (t : Tg) (i : DP.Itr) (b : Sms) : exS cf (.fors t i b) = forF (evI cf i) t (exSs cf b) := by funext ρ; rw [exS] <;> rfl
theorem exS_pas : exS cf .pas = fun ρ => R.ok .nx ρ := by funext ρ; rw [exS]
theorem exS_try (b : Sms) (i c j : Nat) (d : PyData) : exS cf (.tryS b i c j d) = tryF (exSs cf b) i c j d := by funext ρ; rw [exS] <;> rfl
theorem exSs_nil : exSs cf .nil = fun ρ => R.ok .nx ρ := by funext ρ; rw [exSs]
theorem exSs_cons (s : Sm) (ss : Sms) : exSs cf (.cons s ss) = seqF (exS cf s) (exSs cf ss) := by funext ρ; rw [exSs] <;> rfl
theorem ck_lc {Γ : Sg} {sc : Scope} {e : Ex} {elt : Expr} {gs : List Comprehension} {scope : Scope} {pos : Pos} (h1 : gs.length = 1) (hz : notFrz e = true) (h : ck Γ sc e (.ListComp elt gs scope pos) = true) : ∃ elt' t i c own, e = .comp elt' (.cons t i c .nil) own := by
  cases e with
  | comp elt' gs' own =>
    cases gs' with
    | nil => unfold ck at h; cases h
    | cons t i c gs' =>
      cases gs' with
      | nil => exact ⟨_, _, _, _, _, rfl⟩
      | cons t2 i2 c2 gs2 =>
        exfalso
        match gs, h1 with
        | [g], _ =>
          cases g
          cases gs2 with
          | nil =>
            unfold ck at h
            exact Bool.false_ne_true h
          | cons t3 i3 c3 gs3 =>
            unfold ck at h
            exact Bool.false_ne_true h
  | glo d =>
    unfold ck at h
    cases d <;> cases h
  | blt b es =>
    exfalso
    unfold ck at h
    (repeat' split at h) <;> first | (cases h; done) | (rename_i hh; cases hh; done) | contradiction | (simp_all; done)
  | meth m o es =>
    exfalso
    unfold ck at h
    (repeat' split at h) <;> first | (cases h; done) | (rename_i hh; cases hh; done) | contradiction | (simp_all; done)
  | «mut» m p es =>
    exfalso
    unfold ck at h
    (repeat' split at h) <;> first | (cases h; done) | (rename_i hh; cases hh; done) | contradiction | (simp_all; done)
  | frz a => cases hz
  | told f0 hs k0 b =>
    exfalso
    unfold ck at h
    split at h
    · rename_i hh; cases hh
    · cases h
  | _ =>
    unfold ck at h
    cases h
/-- name = value -/
theorem s_asgN {Γ : Sg} {sc : Scope} {fl tr : Bool} {X : Cx} {W : WX} {fx : List Nat} {t : Tg} {x : Str} {px pos : Pos} {e : Ex} {ee : Expr} (S : SC Γ cf er sc fl tr X W) (hg : ckG Γ sc fl t (.Name x px) = true) (he : ck Γ sc e ee = true) (hf : ∀ i ∈ tgs t, i ∉ fx) (hz : notFrz e = true) (hb : asgB sc (.Name x px) ee = true) :
    PS X (.Assign [.Name x px] ee pos) (tS X.K er W fx (asgF (ev cf false e) t)) := by
  have E := S.ec
  cases t with
  | tp ts =>
    unfold ckG at hg
    cases hg
  | nm i =>
    have hg0 := hg
    unfold ckG at hg
    dsimp only at hg
    rw [Bool.and_eq_true, decide_eq_true_eq] at hg
    obtain ⟨h1, h2⟩ := hg
    have hi : X.N[i]? = some x := by rw [E.hN]; exact h1
    have hfx : i ∉ fx := hf i (List.mem_singleton.mpr rfl)
    have loc : Loc X.env.scope x ∧ (X.fn x = true ∨ X.env.scope.names.lookup x = some .local) := by
      rw [E.scope]
      split at h2
      · rename_i hl
        exact ⟨.inl hl, .inr hl⟩
      · rename_i hl
        exact ⟨.inr hl, .inl (S.fn h2 x)⟩
      · cases h2
    have plain : swapsWith ee (some (.Name x px)) pos.line X.env = pure false → PS X (.Assign [.Name x px] ee pos) (tS X.K er W fx (asgF (ev cf false e) (.nm i))) := fun hs =>
      s_set E.nd hi loc.1 ((sd e E he).1 false) hfx hs loc.2
    cases ee with
    | ListComp elt gs scope pos' =>
      have hk : sc.kind = .function := by
        unfold asgB at hb
        exact of_decide_eq_true (Bool.and_eq_true_iff.mp hb).1
      have hk1 : gs.length = 1 := by
        unfold asgB at hb
        exact of_decide_eq_true (Bool.and_eq_true_iff.mp hb).2
      by_cases hl : lcOwn sc x px scope pos' = true
      · -- stored in the block
        obtain ⟨elt', t', i', c', own, rfl⟩ := ck_lc hk1 hz he
        unfold ck at he
        dsimp only at he
        split at he
        · rename_i eelt tg iter ifs k scope' pos2 heq
          cases heq
          simp only [Bool.and_eq_true, decide_eq_true_eq] at he
          obtain ⟨rfl, g1, g2, g3, g4, g5, g6, g7, g8⟩ := he
          unfold lcOwn at hl
          simp only [Bool.and_eq_true, decide_eq_true_eq, Bool.not_eq_true'] at hl
          obtain ⟨_, l1, l2, l3⟩ := hl
          have EB := fun (s : Shared) (H : Hp) (C : Addr) (cl : List (Str × Addr)) (fp : List Addr) => E.blk s H scope C cl fp
          have hbk : BlkOk X.N X.env.scope scope (ownP Γ own) := by
            rw [E.hN, E.scope]
            exact blkOk_by g1
          have hl1 : X.env.scope.names.lookup x = some .local := by rw [E.scope]; exact l1
          have hp := ps_setLc (X := X) (pos := pos') (spos := pos) (py := px) (elt := elt) (tg := tg) (g := gOf X.K t') (te := tE X.K er WF (ev cf false elt') (quiet elt') false (isPath elt')) E.calm E.nd hi hl1
            (sw_true (by rw [E.scope]; exact hk) hl1 l2 l3) (si i' E g6) hbk (fun s H C cl fp => ckG_ok (EB s H C cl fp) (fun z => by cases z) t' g5)
            (ifs := ifs) (tt := tT X.K er WF (evT cf c') (quiets c')) (fun s H C cl fp => sf c' (EB s H C cl fp) g7) (fun s H C cl fp => (sd elt' (EB s H C cl fp) g8).1 false)
            (fun x => by cases iter <;> first | rfl | cases g3)
          rw [g2] at hp
          refine PS.imp hp fun D σ H hq => ?_
          rw [ev_comp] at hq
          refine c_lc (m := false) (fun j hj => ?_) (c_asg (t := .nm i) (q := quietI i' && (quiets c' && quiet elt')) (path := false) (fun j hj => by rw [List.mem_singleton.mp hj]; exact hfx) hq)
          have := List.all_eq_true.mp g4 j hj
          simpa using this
        · cases he
      · exact plain (lcOwn_false hk E.scope (by simpa using hl))
    | _ => exact plain (sw_none (by unfold asgB at hb; exact hb) _ _ _)
mutual
theorem ss : ∀ (s : Sm) {Γ : Sg} {sc : Scope} {fl tr : Bool} {fx : List Nat} {X : Cx} {W : WX} {st : Stmt}, SC Γ cf er sc fl tr X W → ckS Γ sc fl tr fx s st = true → PS X st (tS X.K er W fx (exS cf s))
  | .asg t e, Γ, sc, fl, tr, fx, X, W, st, S, h => by
    have E := S.ec
    unfold ckS at h
    split at h
    · rename_i tg ee pos
      simp only [Bool.and_eq_true] at h
      obtain ⟨h1, h2, h3, hz, h4⟩ := h
      rw [exS_asg]
      cases tg with
      | Name x px => exact s_asgN S h1 h2 (all_fx h3) hz h4
      | Tuple ts k p =>
        refine s_asg ((sd e E h2).1 false) (ckG_ok E S.fn t h1) (all_fx h3) ?_ ?_ rfl
        · cases ee <;> first | rfl | (unfold asgB at h4; cases h4; done)
        · cases ee <;> first | rfl | skip
          unfold asgB at h4
          exact sws_none E.scope h4
      | _ =>
        unfold asgB at h4
        cases h4
    · cases h
  | .par ts es, Γ, sc, fl, tr, fx, X, W, st, S, h => by
    have E := S.ec
    unfold ckS at h
    rw [exS_par]
    split at h
    · split at h
      · simp only [Bool.and_eq_true, decide_eq_true_eq] at h
        obtain ⟨h1, h2, h3, h4, h5, h6, h7, h8⟩ := h
        obtain ⟨w1, w2, w3⟩ := sws_par2 (env := X.env) E.scope h4 h5
        exact PS.imp (ps_par E.calm E.nd (by rw [E.hN]; exact h2) (by rw [E.hN]; exact h3) h1 (by rw [E.scope]; exact w2) (by rw [E.scope]; exact w3) (sl es E h6) w1 rfl) fun D σ H hq => c_par2 (not_fx h7) (not_fx h8) hq
      · cases h
    · split at h
      · simp only [Bool.and_eq_true, decide_eq_true_eq] at h
        obtain ⟨h1, h2, h3, h4, h5, h6, h7, h8, h9, h10, h11, h12, h13, h14⟩ := h
        obtain ⟨w1, w2, w3, w4⟩ := sws_par3 (env := X.env) E.scope h7 h8 h9 h10
        exact PS.imp (ps_par3 E.calm E.nd (by rw [E.hN]; exact h4) (by rw [E.hN]; exact h5) (by rw [E.hN]; exact h6) h1 h2 h3 (by rw [E.scope]; exact w2) (by rw [E.scope]; exact w3) (by rw [E.scope]; exact w4) (sl es E h11) w1 rfl) fun D σ H hq =>
          c_par3 (not_fx h12) (not_fx h13) (not_fx h14) hq
      · cases h
    · cases h
  | .aug _ _ _, Γ, sc, fl, tr, fx, X, W, st, S, h => by
    unfold ckS at h
    cases h
  | .sto p i e, Γ, sc, fl, tr, fx, X, W, st, S, h => by
    have E := S.ec
    unfold ckS at h
    rw [exS_sto]
    split at h
    · simp only [Bool.and_eq_true] at h
      obtain ⟨h1, h2, h3, h4, h5⟩ := h
      exact s_sto ((sd e E h5).1 false) (sp p E h3) ((sd i E h4).1 true) (by unfold swapsWithSole; exact sw_none h2 _ _ _) (isSlice h1)
    · cases h
  | .exp e, Γ, sc, fl, tr, fx, X, W, st, S, h => by
    have E := S.ec
    unfold ckS at h
    rw [exS_exp]
    split at h
    · rw [Bool.and_eq_true] at h
      exact s_expr ((sd e E h.2).1 false) (sw_none h.1 _ _ _)
    · cases h
  | .ret e, Γ, sc, fl, tr, fx, X, W, st, S, h => by
    have E := S.ec
    unfold ckS at h
    rw [exS_ret]
    split at h
    · exact s_ret ((sd e E h).1 false)
    · cases h
  | .rtn, Γ, sc, fl, tr, fx, X, W, st, S, h => by
    unfold ckS at h
    rw [exS_rtn]
    split at h
    · exact s_retN
    · cases h
  | .rse c, Γ, sc, fl, tr, fx, X, W, st, S, h => by
    have E := S.ec
    unfold ckS at h
    rw [exS_rse]
    split at h
    · simp only [Bool.and_eq_true, decide_eq_true_eq] at h
      obtain ⟨h1, h2, h3⟩ := h
      exact s_rse E.calm E.tk (S.ers _ _ h1 (E.gl h2) (okN_of h3).1 _ _)
    · cases h
  | .ifs c a b, Γ, sc, fl, tr, fx, X, W, st, S, h => by
    have E := S.ec
    unfold ckS at h
    rw [exS_ifs]
    split at h
    · simp only [Bool.and_eq_true] at h
      obtain ⟨h1, h2, h3, h4⟩ := h
      exact PS.imp (ps_if ((sd c E h2).2 h1) (sss a S h3) (sss b S h4)) fun D σ H hq => c_if hq
    · cases h
  | .whl c b, Γ, sc, fl, tr, fx, X, W, st, S, h => by
    have E := S.ec
    unfold ckS at h
    rw [exS_whl]
    split at h
    · simp only [Bool.and_eq_true] at h
      obtain ⟨h1, h2, h3⟩ := h
      exact PS.imp (ps_while S.hp ((sd c E h2).2 h1) (sss b S h3)) fun D σ H hq => c_whl hq
    · cases h
  | .fors t i b, Γ, sc, fl, tr, fx, X, W, st, S, h => by
    have E := S.ec
    unfold ckS at h
    rw [exS_fors]
    split at h
    · rename_i tg ei sb pos
      simp only [Bool.and_eq_true] at h
      obtain ⟨h1, h2, h3, h4, h5⟩ := h
      exact PS.imp (ps_for S.hp E.calm (si i E h2) (ckG_ok E S.fn t h1) (sss b S h4) (fun x => by cases ei <;> first | rfl | cases h3)) fun D σ H hq => c_for (all_fx h5) hq
    · cases h
  | .pas, Γ, sc, fl, tr, fx, X, W, st, S, h => by
    unfold ckS at h
    rw [exS_pas]
    split at h
    · exact PS.imp ps_pass fun D σ H hq => c_nx hq
    · exact PS.imp ps_doc fun D σ H hq => c_nx hq
    · cases h
  | .tryS b i c j d, Γ, sc, fl, tr, fx, X, W, st, S, h => by
    have E := S.ec
    unfold ckS at h
    rw [exS_try]
    split at h
    · simp only [Bool.and_eq_true, decide_eq_true_eq] at h
      obtain ⟨h0, h1, h2, h3, h4, h5, h6, h7, h8, h9, h10, h11, h12⟩ := h
      obtain ⟨⟨hs, hf⟩, hx⟩ := S.trs h0
      obtain ⟨hn, hex⟩ := hx _ _ h2 (E.gl h3) (okN_of h4).1
      obtain ⟨v, hv, hr⟩ := cst_v h10
      refine PS.imp (ps_try_as hs hf E.nd (by rw [E.hN]; exact h5) (by show X.env.scope.names.lookup _ = _; rw [E.scope]; exact h6) hn E.tk
        (tb := fun W' => tS X.K er W' fx (exSs cf b)) (ts := fun _ _ _ => tAsg (tC v) (gName j)) (fun W' pn xe tk' hp' => ?_) (fun a oe cls dd pn _ _ => ?_)) fun D σ H hq => c_try (not_fx h11) (not_fx h12) h9 (hr _) hex hq
      · have E' := E.tr pn xe tk'
        exact sss b (X := X.tr pn xe) ⟨E', S.fn, hp', fun x c hm => absurd hm (by simp), fun z => by cases z⟩ h1
      · exact pss_one (ps_set (X := X.suite a ((a, oe) :: pn)) E.nd (by show X.N[j]? = _; rw [E.hN]; exact h7) (.inl (by show X.env.scope.names.lookup _ = _; rw [E.scope]; exact h8)) (hv _ _ _) rfl (.inr (by show X.env.scope.names.lookup _ = _; rw [E.scope]; exact h8)))
    · cases h
theorem sss : ∀ (s : Sms) {Γ : Sg} {sc : Scope} {fl tr : Bool} {fx : List Nat} {X : Cx} {W : WX} {st : List Stmt}, SC Γ cf er sc fl tr X W → ckSs Γ sc fl tr fx s st = true → PSs X st (tS X.K er W fx (exSs cf s))
  | .nil, Γ, sc, fl, tr, fx, X, W, st, S, h => by
    unfold ckSs at h
    rw [List.isEmpty_iff.mp h, exSs_nil]
    exact PSs.imp pss_nil fun D σ H hq => c_nx hq
  | .cons s r, Γ, sc, fl, tr, fx, X, W, st, S, h => by
    unfold ckSs at h
    split at h
    · rw [Bool.and_eq_true] at h
      rw [exSs_cons]
      exact PSs.imp (pss_cons (ss s S h.1) (sss r S h.2)) fun D σ H hq => c_seq hq
    · cases h
end
end
end DP

set_option Elab.async false
set_option linter.all false
set_option autoImplicit false
set_option maxRecDepth 100000
set_option maxHeartbeats 4000000
/-! DP, part X: defs. -/
namespace DP
open PySem PySem.Spec PyProof.Rows L2

section
variable {K : PySem.W.Frag} {tb : Option Addr} {H : Hp} {P : OP}
theorem ESl.nones' {bs : List Addr} (b : ESl K tb H P [] [] bs) : ∀ (n : Nat), ESl K tb H P (List.replicate n none) (List.replicate n none) bs
  | 0 => b
  | n + 1 => .skip (ESl.nones' b n)
theorem ESl.start {bs : List Addr} (b : ESl K tb H P [] [] bs) : ∀ {vs : List V} {os : List OV} {as : List Addr} (n : Nat), ORs K H P vs os as → ESl K tb H P (vs.map some ++ List.replicate n none) (os.map some ++ List.replicate n none) (as ++ bs)
  | _, _, _, n, .nil => ESl.nones' b n
  | _, _, _, n, .cons r t => by
    rw [List.append_assoc]
    exact .cons r (ESl.start b n t)
theorem getS_set_ne {ρ : En} {i j : Nat} (h : i ≠ j) : getS (ρ.set i none) j = getS ρ j := by
  unfold getS
  rw [List.getElem?_set_ne h]
theorem outs_set : ∀ (ps : List Bool) {ρ : En} {i j : Nat}, i < j → outs ps j (ρ.set i none) = outs ps j ρ
  | [], _, _, _, _ => rfl
  | false :: ps, ρ, i, j, h => outs_set ps (Nat.lt_succ_of_lt h)
  | true :: ps, ρ, i, j, h => by
    unfold outs
    rw [getS_set_ne (Nat.ne_of_lt h), outs_set ps (Nat.lt_succ_of_lt h)]
/-- the contents of the parameters that the caller sees -/
theorem outs_ok : ∀ (ps : List Bool) {σ : L2.St} {ρ : En} {l : List Addr} {i : Nat} {vs : List V} {os : List OV}, ESl K tb H P σ ρ l → outs ps i ρ = some os → vs.length = ps.length → (∀ j v, ps[j]? = some true → vs[j]? = some v → σ[i + j]? = some (some v)) →
    ∃ own2 r, l.Perm (own2 ++ r) ∧ ORs K H P (ioPick ps vs) os own2
  | [], σ, ρ, l, i, vs, os, es, h, hl, hk => by
    cases h
    have : vs = [] := List.eq_nil_of_length_eq_zero hl
    subst this
    exact ⟨[], l, .refl _, .nil⟩
  | false :: ps, σ, ρ, l, i, v :: vs, os, es, h, hl, hk => by
    have h : outs ps (i + 1) ρ = some os := h
    obtain ⟨own2, r, p, q⟩ := outs_ok ps (vs := vs) es h (by simpa using hl) fun j w h1 h2 => by
      have := hk (j + 1) w (by simpa using h1) (by simpa using h2)
      rw [show i + (j + 1) = i + 1 + j from by omega] at this
      exact this
    exact ⟨own2, r, p, q⟩
  | true :: ps, σ, ρ, l, i, v :: vs, os, es, h, hl, hk => by
    unfold outs at h
    cases hg : getS ρ i with
    | none => rw [hg] at h; cases h
    | some o =>
      rw [hg] at h
      cases ho : outs ps (i + 1) ρ with
      | none => rw [ho] at h; cases h
      | some os' =>
        rw [ho] at h
        cases h
        obtain ⟨v', a0, rest, e1, e2, e3, e4⟩ := es.take hg
        have e0 := hk 0 v rfl rfl
        rw [Nat.add_zero, e1] at e0
        cases e0
        obtain ⟨own2, r, p, q⟩ := outs_ok ps (vs := vs) (os := os') (i := i + 1) e4 (by rw [outs_set ps (Nat.lt_succ_self i)]; exact ho) (by simpa using hl) fun j w h1 h2 => by
          have := hk (j + 1) w (by simpa using h1) (by simpa using h2)
          rw [show i + (j + 1) = i + 1 + j from by omega] at this
          exact this
        refine ⟨a0 ++ own2, r, ?_, .cons e2 q⟩
        rw [List.append_assoc]
        exact e3.trans (p.append_left a0)
end
/-- the slots of the parameters that a def changes -/
def fxOf : List Bool → Nat → List Nat
  | [], _ => []
  | true :: ps, i => i :: fxOf ps (i + 1)
  | false :: ps, i => fxOf ps (i + 1)
theorem fxOf_mem : ∀ {ps : List Bool} {i j : Nat}, ps[j]? = some true → i + j ∈ fxOf ps i
  | [], _, _, h => by simp at h
  | true :: ps, i, 0, _ => List.mem_cons_self
  | true :: ps, i, j + 1, h => by
    have := fxOf_mem (ps := ps) (i := i + 1) (j := j) (by simpa using h)
    rw [show i + (j + 1) = i + 1 + j from by omega]
    exact List.mem_cons_of_mem _ this
  | false :: ps, i, 0, h => by simp at h
  | false :: ps, i, j + 1, h => by
    have := fxOf_mem (ps := ps) (i := i + 1) (j := j) (by simpa using h)
    rw [show i + (j + 1) = i + 1 + j from by omega]
    exact this
section
variable {P : Program} {w : World} {K : PySem.W.Frag} {mg : Str → Option Value} {base : Heap} {er : Nat → Value} {G : Nat → Option Fn}
/-- what a module tells of the names that defs use -/
structure MC (P : Program) (w : World) (K : PySem.W.Frag) (mg : Str → Option Value) (base : Heap) (er : Nat → Value) (Γ : Sg) : Prop where
  nums : ∀ x i, (x, i) ∈ Γ.nums → ∃ t, mg x = some (.int i t)
  bl : ∀ x, x ∈ Γ.bl → mg x = none
  bf : ∀ x id, (x, id) ∈ Γ.bf → mg x = some (.builtin id)
  ers : ∀ x c, (x, c) ∈ Γ.ers → ∃ (C : Addr) (bmB : List Value) (B newId initId : String), er c = .ref C ∧ ExcBaseFacts B newId initId bmB ∧ PySem.W.excIn K C bmB newId = true ∧ mg x = some (.ref C) ∧ PySem.W.keepIn K (.ref C) = true ∧ (∀ X : Cx, X.prog = P → X.w = w → X.K = K → X.mg = mg → X.base = base → Raises X (.ref C)) ∧
    PySem.W.exmOne K (er c) (er c) = some true
theorem callF_succ (n id : Nat) (args : List OV) {F : Fn} (hG : G id = some F) : callF G (n + 1) id args = if okArgs F.ps args then match exSs (callF G n) F.body (startE F args) with
        | none => none
        | some (r, ρ) => match outs F.ps 0 ρ with
          | none => none
          | some os => match r with
            | .error c => some (.error c, os)
            | .ok .nx => some (.ok .none, os)
            | .ok (.rt d) => some (.ok d, os)
      else none := by
  show (match G id with | none => none | some F => _) = _
  rw [hG]
  try rfl
/-- the promise of a def whose text is checked -/
theorem fn_step {Γ : Sg} {n id : Nat} {F : Fn} {f : Addr} {name qual : Str} {params : Arguments} {body : List Stmt} {scope : Scope} {dV kV doc pm cdv ct oc : Value} {an od : Option Addr} {osl : Array (Option Value)} {ps : List Str} (htb : tbE er = none) (htd : Γ.told = []) (hG : G id = some F)
    (lk : K.lookup f = some ⟨oc, od, .func (PySem.W.fnOf name qual params body scope dV kV doc pm an cdv ct), osl⟩) (hcd : PySem.W.codeIn K cdv qual = true) (S : FnScope Γ.N ps scope) (hps : F.ps.length = ps.length) (hns : F.ns = Γ.N.length) (M : MC P w K mg base er Γ)
    (hf : ∀ x id' ps', Γ.fns.lookup x = some (id', ps') → ∃ f' fd pn, FnOk P w K mg base (L2.CX P w) n f' fd pn (spF K er (callF G n) id' ps') ∧ mg x = some (.ref f') ∧ PySem.W.keepIn K (.ref f') = true ∧ L2.Binds K fd pn [])
    (hck : ckSs Γ scope true true (fxOf F.ps 0) F.body body = true) :
    FnOk P w K mg base (L2.CX P w) (n + 1) f (PySem.W.fnOf name qual params body scope dV kV doc pm an cdv ct) ps (spF K er (callF G (n + 1)) id F.ps) := by
  refine fn_of lk hcd S (fun vs H Q E h => by rw [h.1, hps]) fun A outer s H vs Q E hr hsp => ?_
  obtain ⟨hlen, T, own, args, r, os, al, hargs, nd, dis, hc, hlt, fin⟩ := hsp
  have hX : SC Γ (callF G n) er scope true true (cxOf (L2.CX P w) P w K mg base Γ.N qual scope f cdv A outer s H E) (fun cls d _ H => E cls d H) := by
    have tkk : Takes (cxOf (L2.CX P w) P w K mg base Γ.N qual scope f cdv A outer s H E) (fun cls d _ H => E cls d H) := takes_of rfl rfl rfl rfl
    refine ⟨⟨rfl, S.nd, rfl, rfl, ?_, tkk, fun x id' ps' hl => ?_, M.nums, M.bl, M.bf, fun h => absurd htd h⟩, fun _ _ => rfl, passes_of rfl, fun x c hm hg hd p pos => ?_, fun _ => ⟨⟨rfl, rfl⟩, fun x c hm hg hd => ?_⟩⟩
    · have := hr.un
      show (A.deeper _).units + 70 < cLine
      omega
    · obtain ⟨f', fd, pn, h1, h2, h3, h4⟩ := hf x id' ps' hl
      exact ⟨n, f', fd, pn, h1, hr, h2, h3, h4⟩
    · obtain ⟨C, bmB, B, newId, initId, e1, h1, h2, h3, h4, h5, _⟩ := M.ers x c hm
      rw [e1]
      exact pmk_own0 h1 h2 h3 h4 (h5 _ rfl rfl rfl rfl rfl) hg hd
    · obtain ⟨C, bmB, B, newId, initId, e1, h1, h2, h3, h4, h5, h6⟩ := M.ers x c hm
      exact ⟨⟨hg, hd, .inl (by rw [e1]; exact h3)⟩, h6⟩
  refine ⟨_, sss F.body hX hck, ?_⟩
  rw [callF_succ n id args hG] at hc
  split at hc
  rotate_left
  · cases hc
  split at hc
  · cases hc
  rename_i r' ρ' he
  split at hc
  · cases hc
  rename_i os' ho
  have hla := hargs.length
  have pre : Pre K (tbE er) T H (L2.start Γ.N vs) (startE F args) own := by
    refine ⟨⟨own, ?_, .refl _⟩, nd, dis, al⟩
    have := ESl.start (K := K) (tb := tbE er) (H := H) (P := Own T own) (.nil htb) (F.ns - args.length) hargs
    rw [List.append_nil] at this
    unfold L2.start startE
    rw [hns] at this ⊢
    rw [← hla] at this ⊢
    exact this
  have ends : ∀ {σ' : L2.St} {H' : Hp} {own' : List Addr}, Ext own H H' own' → Pre K (tbE er) T H' σ' ρ' own' → Kept (fxOf F.ps 0) (L2.start Γ.N vs) σ' → ∃ own2, Ext own H H' own2 ∧ own2.Nodup ∧ (∀ a ∈ own2, ¬ T a) ∧ ORs K H' (Own T own2) (ioPick F.ps vs) os' own2 ∧ ∀ v d, RD K (mask H' (Own T own')) v d → RD K (mask H' (Own T own2)) v d := by
    intro σ' H' own' x p k
    obtain ⟨l, es, pm⟩ := p.es
    obtain ⟨own2, rr, q1, q2⟩ := outs_ok F.ps (vs := vs) es ho hlen fun j v h1 h2 => by
      rw [k _ (fxOf_mem h1), Nat.zero_add]
      unfold L2.start
      have hj : j < vs.length := (List.getElem?_eq_some_iff.mp h2).1
      rw [List.getElem?_append_left (by simpa using hj), List.getElem?_map, h2]
      rfl
    have pm2 : own'.Perm (own2 ++ rr) := pm.symm.trans q1
    have sub : ∀ a ∈ own2, a ∈ own' := fun a ha => pm2.mem_iff.mpr (List.mem_append_left _ ha)
    have tr : Tr (Own T own') H' (Own T own2) H' := fun a o n e => ⟨fun z => n (by
      rcases z with z | z
      · exact .inl z
      · exact .inr (sub a z)), e⟩
    exact ⟨own2, x.sub sub, (pm2.nodup_iff.mp p.nd).sublist (List.sublist_append_left _ _), fun a ha => p.dis a (sub a ha), q2.tr tr fun _ _ _ e => e, fun v d rv => rv.same tr.same⟩
  refine ⟨T, startE F args, own, (r', ρ'), pre, he, ?_⟩
  cases r' with
  | error c =>
    cases hc
    intro σ' H' own' x p k
    obtain ⟨own2, k1, k2, k3, k4, _⟩ := ends x p k
    exact fin H' own2 k1 k2 k3 k4
  | ok fl =>
    cases fl with
    | nx =>
      cases hc
      intro σ' H' own' x p k
      obtain ⟨own2, k1, k2, k3, k4, _⟩ := ends x p k
      exact fin H' own2 k1 k2 k3 k4 .non .non
    | rt d =>
      cases hc
      intro v σ' H' own' x p k rv
      obtain ⟨own2, k1, k2, k3, k4, k5⟩ := ends x p k
      exact fin H' own2 k1 k2 k3 k4 v (k5 v d rv)
end
end DP

set_option Elab.async false
set_option linter.all false
set_option autoImplicit false
set_option maxRecDepth 100000
set_option maxHeartbeats 4000000
/-! M0: how meanings are computed. -/
namespace DP
open PySem PySem.Spec
@[simp] theorem b_ok {α β : Type} (a : α) (ρ : En) (f : α → En → R β) : R.bind (some (.ok a, ρ)) f = f a ρ := (rfl)
@[simp] theorem b_err {α β : Type} (c : Nat) (ρ : En) (f : α → En → R β) : R.bind (some (.error c, ρ)) f = some (.error c, ρ) := (rfl)
@[simp] theorem b_none {α β : Type} (f : α → En → R β) : R.bind none f = none := (rfl)
theorem b_congr {α β : Type} {x y : R α} {f : α → En → R β} (h : x = y) : R.bind x f = R.bind y f := by rw [h]
@[simp] theorem r_ok {α : Type} (a : α) (ρ : En) : R.ok a ρ = some (.ok a, ρ) := (rfl)
@[simp] theorem r_of {α : Type} (a : α) (ρ : En) : R.of (some a) ρ = some (.ok a, ρ) := (rfl)
@[simp] theorem r_ofn {α : Type} (ρ : En) : R.of (none : Option α) ρ = none := (rfl)
@[simp] theorem r_noE {α : Type} (a : α) (ρ : En) : R.noE (some (.ok a, ρ)) = some (.ok a, ρ) := (rfl)
@[simp] theorem fz_fr (d : PyData) : (OV.fr d).fz = d := (rfl)
@[simp] theorem isFr_fr (d : PyData) : (OV.fr d).isFr = true := (rfl)
@[simp] theorem okAl_fr (a : Ex) (d : PyData) (q : Bool) : okAl a (.fr d) q = true := by simp -implicitDefEqProofs [okAl]
@[simp] theorem okAl_q (a : Ex) (v : OV) : okAl a v true = true := by simp -implicitDefEqProofs [okAl]
@[simp] theorem tst_b (b : Bool) : tstO (.fr (.bool b)) = some b := (rfl)
theorem frsO_fr : ∀ ds : List PyData, frsO (ds.map .fr) = some ds
  | [] => rfl
  | d :: ds => by rw [List.map_cons, frsO, frsO_fr ds]
theorem frsO_mapF {α : Type} (f : α → PyData) : ∀ l : List α, frsO (l.map fun x => .fr (f x)) = some (l.map f)
  | [] => rfl
  | d :: ds => by rw [List.map_cons, frsO, frsO_mapF f ds, List.map_cons]
theorem boolsL_map {α : Type} (f : α → Bool) : ∀ l : List α, boolsL (l.map fun x => .bool (f x)) = some (l.map f)
  | [] => rfl
  | d :: ds => by rw [List.map_cons, boolsL, boolsL_map f ds, List.map_cons]
theorem loopL_pure {f : PyData → En → R (List OV)} {own : List Nat} {base : En} {g : PyData → List OV} : ∀ (ds : List PyData), (∀ d ∈ ds, ∀ ρ, wipeS ρ own = base → ∃ ρ', f d ρ = some (.ok (g d), ρ') ∧ wipeS ρ' own = base) →
    ∀ ρ, wipeS ρ own = base → ∃ ρe, loopL f ds ρ = some (.ok (ds.flatMap g), ρe) ∧ wipeS ρe own = base
  | [], _, ρ, h => ⟨ρ, rfl, h⟩
  | d :: ds, hf, ρ, h => by
    obtain ⟨ρ1, e1, h1⟩ := hf d List.mem_cons_self ρ h
    obtain ⟨ρ2, e2, h2⟩ := loopL_pure ds (fun d hd => hf d (List.mem_cons_of_mem _ hd)) ρ1 h1
    refine ⟨ρ2, ?_, h2⟩
    unfold loopL
    rw [e1, b_ok, e2, b_ok, List.flatMap_cons]
    rfl
/-- a comprehension whose turns change nothing else -/
theorem comp_pure {fI : En → R (List PyData)} {t : Tg} {vs : List Nat} {fT : En → R Bool} {fe : En → R (List OV)} {ρ ρ1 : En} {ds : List PyData} (g : PyData → List OV) (hI : fI ρ = some (.ok ds, ρ1)) (hs : (ds.flatMap g).length ≤ 1000000)
    (h : ∀ d ∈ ds, ∃ ρ2 b ρ3, asgT t (.fr d) (wipeS ρ1 vs) = some ρ2 ∧ fT ρ2 = some (.ok b, ρ3) ∧ ((b = false ∧ g d = [] ∧ wipeS ρ3 vs = wipeS ρ1 vs) ∨ (b = true ∧ ∃ ρ4, fe ρ3 = some (.ok (g d), ρ4) ∧ wipeS ρ4 vs = wipeS ρ1 vs))) :
    compF fI t vs fT fe ρ = some (.ok (.lst (ds.flatMap g)), wipeS ρ1 vs) := by
  obtain ⟨ρe, e1, e2⟩ := loopL_pure (f := turnF t vs fT fe) (own := vs) (base := wipeS ρ1 vs) (g := g) ds (fun d hd ρ h0 => by
    obtain ⟨ρ2, b, ρ3, h1, h2, h3⟩ := h d hd
    unfold turnF
    rw [h0, h1]
    dsimp only
    rw [h2, b_ok]
    rcases h3 with ⟨rfl, hg, hw⟩ | ⟨rfl, ρ4, he, hw⟩
    · exact ⟨ρ3, by rw [if_neg Bool.false_ne_true, hg]; rfl, hw⟩
    · exact ⟨ρ4, by rw [if_pos rfl]; exact he, hw⟩) ρ1 rfl
  unfold compF
  rw [hI, b_ok, e1, r_noE, b_ok, if_pos (show small _ = true from decide_eq_true hs), e2]
  rfl
theorem fm1 {α β : Type} (f : α → β) : ∀ l : List α, (l.flatMap fun x => [f x]) = l.map f
  | [] => rfl
  | a :: l => by rw [List.flatMap_cons, fm1 f l]; rfl
section
variable {cf : CF} {m : Bool} {elt : Ex} {t : Tg} {i : Itr} {own : List Nat} {ρ ρ1 : En} {ds : List PyData}
/-- [e for t in i] -/
theorem comp_map (hI : evI cf i ρ = some (.ok ds, ρ1)) (hs : ds.length ≤ 1000000) (h : PyData → PyData)
    (hd : ∀ d ∈ ds, ∃ ρ2 ρ4 v, asgT t (.fr d) (wipeS ρ1 own) = some ρ2 ∧ ev cf false elt ρ2 = some (.ok (.fr (h d)), ρ4) ∧ wipeS ρ4 own = v ∧ v = wipeS ρ1 own) :
    ev cf m (.comp elt (.cons t i .nil .nil) own) ρ = some (.ok (mkLst (ds.map h)), wipeS ρ1 own) := by
  rw [ev_comp]
  have e : mkLst (ds.map h) = .lst (ds.flatMap fun d => [.fr (h d)]) := by
    unfold mkLst
    rw [List.map_map, fm1]
    rfl
  rw [e]
  refine comp_pure (fun d => [.fr (h d)]) hI (by rw [fm1 (fun d => OV.fr (h d)), List.length_map]; exact hs) fun d hm => ?_
  obtain ⟨ρ2, ρ4, v, h1, h2, h3, h4⟩ := hd d hm
  exact ⟨ρ2, true, ρ2, h1, by simp -implicitDefEqProofs [evT], .inr ⟨rfl, ρ4, by unfold oneF; rw [h2]; rfl, h3.trans h4⟩⟩
/-- [e for t in i if c] -/
theorem comp_filter {c : Ex} (hI : evI cf i ρ = some (.ok ds, ρ1)) (hs : ds.length ≤ 1000000) (p : PyData → Bool) (h : PyData → PyData)
    (hd : ∀ d ∈ ds, ∃ ρ2 ρ3, asgT t (.fr d) (wipeS ρ1 own) = some ρ2 ∧ ev cf true c ρ2 = some (.ok (.fr (.bool (p d))), ρ3) ∧ wipeS ρ3 own = wipeS ρ1 own ∧ (p d = true → ∃ ρ4, ev cf false elt ρ3 = some (.ok (.fr (h d)), ρ4) ∧ wipeS ρ4 own = wipeS ρ1 own)) :
    ev cf m (.comp elt (.cons t i (.cons c .nil) .nil) own) ρ = some (.ok (mkLst ((ds.filter p).map h)), wipeS ρ1 own) := by
  rw [ev_comp]
  have e : ∀ l : List PyData, (l.flatMap fun d => if p d then [OV.fr (h d)] else []) = ((l.filter p).map h).map .fr := by
    intro l
    induction l with
    | nil => rfl
    | cons a l ih =>
      rw [List.flatMap_cons, ih, List.filter_cons]
      cases p a <;> rfl
  unfold mkLst
  rw [← e ds]
  refine comp_pure _ hI ?_ fun d hm => ?_
  · rw [e, List.length_map, List.length_map]
    exact Nat.le_trans (List.length_filter_le _ _) hs
  obtain ⟨ρ2, ρ3, h1, h2, h3, h4⟩ := hd d hm
  have h2' : evT cf (.cons c .nil) ρ2 = some (.ok (p d), ρ3) := by
    simp -implicitDefEqProofs only [evT, h2, b_ok, tst_b]
    cases p d <;> rfl
  refine ⟨ρ2, p d, ρ3, h1, h2', ?_⟩
  cases hp : p d with
  | false => exact .inl ⟨rfl, rfl, h3⟩
  | true =>
    obtain ⟨ρ4, h5, h6⟩ := h4 hp
    exact .inr ⟨rfl, ρ4, by unfold oneF; rw [h5]; rfl, h6⟩
/-- all([c for t in i]) -/
theorem all_comp (hI : evI cf i ρ = some (.ok ds, ρ1)) (hs : ds.length ≤ 1000000) (p : PyData → Bool)
    (hd : ∀ d ∈ ds, ∃ ρ2 ρ4 v, asgT t (.fr d) (wipeS ρ1 own) = some ρ2 ∧ ev cf false elt ρ2 = some (.ok (.fr (.bool (p d))), ρ4) ∧ wipeS ρ4 own = v ∧ v = wipeS ρ1 own) :
    ev cf m (.blt .all (.cons (.comp elt (.cons t i .nil .nil) own) .nil)) ρ = some (.ok (.fr (.bool (ds.all p))), wipeS ρ1 own) := by
  rw [ev, comp_map hI hs (fun d => .bool (p d)) hd]
  simp -implicitDefEqProofs only [b_ok, mkLst, bltO, lstO, frsO_fr, boolsL_map, Option.map_some, r_of]
  rw [List.all_map]
  rfl
end
end DP

set_option Elab.async false
set_option linter.all false
set_option autoImplicit false
set_option maxRecDepth 100000
set_option maxHeartbeats 4000000
/-! M1: the meanings as rules for `simp -implicitDefEqProofs`. -/
namespace DP
open PySem PySem.Spec
/-- a slot is read -/
def rdV (m : Bool) (i : Nat) (ρ : En) : Option OV → R OV
  | none => none
  | some (.fr d) => R.ok (.fr d) ρ
  | some v => if m then R.ok v ρ else R.ok (.fr v.fz) (setS ρ i (.fr v.fz))
@[simp] theorem rdV_n (m : Bool) (i : Nat) (ρ : En) : rdV m i ρ none = none := (rfl)
@[simp] theorem rdV_fr (m : Bool) (i : Nat) (ρ : En) (d : PyData) : rdV m i ρ (some (.fr d)) = some (.ok (.fr d), ρ) := (rfl)
@[simp] theorem rdV_lt (i : Nat) (ρ : En) (xs : List OV) : rdV true i ρ (some (.lst xs)) = some (.ok (.lst xs), ρ) := (rfl)
@[simp] theorem rdV_lf (i : Nat) (ρ : En) (xs : List OV) : rdV false i ρ (some (.lst xs)) = some (.ok (.fr (OV.lst xs).fz), setS ρ i (.fr (OV.lst xs).fz)) := (rfl)
@[simp] theorem rdV_tt (i : Nat) (ρ : En) (xs : List OV) : rdV true i ρ (some (.tup xs)) = some (.ok (.tup xs), ρ) := (rfl)
@[simp] theorem rdV_tf (i : Nat) (ρ : En) (xs : List OV) : rdV false i ρ (some (.tup xs)) = some (.ok (.fr (OV.tup xs).fz), setS ρ i (.fr (OV.tup xs).fz)) := (rfl)
@[simp] theorem rdV_mt (i : Nat) (ρ : En) (ds : List PyData) : rdV true i ρ (some (mkLst ds)) = some (.ok (mkLst ds), ρ) := (rfl)
/-! ### what is decided, one at a time -/
def obn {α β : Type} (o : Option α) (f : α → R β) : R β := match o with
  | none => none
  | some a => f a
theorem obn_congr {α β : Type} {o o' : Option α} {f : α → R β} (h : o = o') : obn o f = obn o' f := by rw [h]
@[simp] theorem obn_n {α β : Type} (f : α → R β) : obn none f = none := (rfl)
@[simp] theorem obn_s {α β : Type} (a : α) (f : α → R β) : obn (some a) f = f a := (rfl)
def cnd {β : Type} (o : Option Bool) (a b : R β) : R β := match o with
  | none => none
  | some true => a
  | some false => b
theorem cnd_congr {β : Type} {o o' : Option Bool} {a b : R β} (h : o = o') : cnd o a b = cnd o' a b := by rw [h]
@[simp] theorem cnd_n {β : Type} (a b : R β) : cnd none a b = none := (rfl)
@[simp] theorem cnd_t {β : Type} (a b : R β) : cnd (some true) a b = a := (rfl)
@[simp] theorem cnd_f {β : Type} (a b : R β) : cnd (some false) a b = b := (rfl)
def flK (f : Fl) (a : R Fl) (ρ : En) : R Fl := match f with
  | .nx => a
  | .rt d => R.ok (.rt d) ρ
theorem flK_congr {f f' : Fl} {a : R Fl} {ρ : En} (h : f = f') : flK f a ρ = flK f' a ρ := by rw [h]
@[simp] theorem flK_nx (a : R Fl) (ρ : En) : flK .nx a ρ = a := (rfl)
@[simp] theorem flK_rt (d : PyData) (a : R Fl) (ρ : En) : flK (.rt d) a ρ = some (.ok (.rt d), ρ) := (rfl)
/-! ### what is not looked into -/
inductive Lk {α : Type} (a : α) : Type where
  | mk : Lk a
def bnd {α β : Type} (x : R α) (f : α → En → R β) (_ : Lk f) : R β := R.bind x f
@[simp] theorem k_ok {α β : Type} (a : α) (ρ : En) (f : α → En → R β) (l : Lk f) : bnd (some (.ok a, ρ)) f l = f a ρ := (rfl)
@[simp] theorem k_err {α β : Type} (c : Nat) (ρ : En) (f : α → En → R β) (l : Lk f) : bnd (some (.error c, ρ)) f l = some (.error c, ρ) := (rfl)
@[simp] theorem k_none {α β : Type} (f : α → En → R β) (l : Lk f) : bnd none f l = none := (rfl)
def obl {α β : Type} (o : Option α) (f : α → R β) (_ : Lk f) : R β := obn o f
@[simp] theorem obl_n {α β : Type} (f : α → R β) (l : Lk f) : obl none f l = none := (rfl)
@[simp] theorem obl_s {α β : Type} (a : α) (f : α → R β) (l : Lk f) : obl (some a) f l = f a := (rfl)
def cnl {β : Type} (o : Option Bool) (a b : R β) (_ : Lk a) (_ : Lk b) : R β := cnd o a b
@[simp] theorem cnl_n {β : Type} (a b : R β) (l : Lk a) (k : Lk b) : cnl none a b l k = none := (rfl)
@[simp] theorem cnl_t {β : Type} (a b : R β) (l : Lk a) (k : Lk b) : cnl (some true) a b l k = a := (rfl)
@[simp] theorem cnl_f {β : Type} (a b : R β) (l : Lk a) (k : Lk b) : cnl (some false) a b l k = b := (rfl)
def flL (f : Fl) (a : R Fl) (_ : Lk a) (ρ : En) : R Fl := flK f a ρ
@[simp] theorem flL_nx (a : R Fl) (l : Lk a) (ρ : En) : flL .nx a l ρ = a := (rfl)
@[simp] theorem flL_rt (d : PyData) (a : R Fl) (l : Lk a) (ρ : En) : flL (.rt d) a l ρ = some (.ok (.rt d), ρ) := (rfl)
def resK (avs : List AV) (res : Except Nat PyData) (ρ : En) : R OV := match res with
  | .error c => if c < 1000 then some (.error c, ρ) else none
  | .ok d => if anyPk avs && !noList d then none else some (.ok (.fr d), ρ)
@[simp] theorem resK_e (avs : List AV) (c : Nat) (ρ : En) : resK avs (.error c) ρ = if c < 1000 then some (.error c, ρ) else none := (rfl)
@[simp] theorem resK_o (avs : List AV) (d : PyData) (ρ : En) : resK avs (.ok d) ρ = if anyPk avs && !noList d then none else some (.ok (.fr d), ρ) := (rfl)
def isNone (x : OV) : Bool := match x with
  | .fr .none => true
  | _ => false
@[simp] theorem isNone_0 : isNone (.fr .none) = true := (rfl)
@[simp] theorem isNone_i (i : Int) : isNone (.fr (.int i)) = false := (rfl)
@[simp] theorem isNone_b (i : Bool) : isNone (.fr (.bool i)) = false := (rfl)
@[simp] theorem isNone_s (i : Str) : isNone (.fr (.str i)) = false := (rfl)
@[simp] theorem isNone_t (i : List PyData) : isNone (.fr (.tuple i)) = false := (rfl)
@[simp] theorem isNone_l (i : List PyData) : isNone (.fr (.list i)) = false := (rfl)
@[simp] theorem isNone_m (i : List PyData) : isNone (mkLst i) = false := (rfl)
def intK (x : OV) : Option Int := match x with
  | .fr (.int k) => some k
  | _ => none
@[simp] theorem intK_i (i : Int) : intK (.fr (.int i)) = some i := (rfl)
def toldK (hs : List (Nat × Str)) (x : R OV) : R OV := match x with
  | none => none
  | some (.ok _, ρ1) => R.ok (.fr (.str "")) ρ1
  | some (.error c, ρ1) => match hs.lookup c with
    | some x => R.ok (.fr (.str x)) ρ1
    | none => none
@[simp] theorem toldK_o (hs : List (Nat × Str)) (v : OV) (ρ : En) : toldK hs (some (.ok v, ρ)) = some (.ok (.fr (.str "")), ρ) := (rfl)
theorem toldK_e_0 (hs : List (Nat × Str)) (c : Nat) (ρ : En) : toldK hs (some (.error c, ρ)) = obn (hs.lookup c) fun x => some (.ok (.fr (.str x)), ρ) := by
  unfold toldK obn
  dsimp only
  cases hs.lookup c <;> rfl
@[simp] theorem toldK_e (hs : List (Nat × Str)) (c : Nat) (ρ : En) : toldK hs (some (.error c, ρ)) = obl (hs.lookup c) (fun x => some (.ok (.fr (.str x)), ρ)) .mk := by
  rw [toldK_e_0]
  rfl
section
variable {cf : CF} {m : Bool} {ρ : En}
@[simp] theorem x_var (i : Nat) : ev cf m (.var i) ρ = rdV m i ρ (getS ρ i) := by
  rw [ev] <;> rfl
@[simp] theorem x_cst (d : PyData) : ev cf m (.cst d) ρ = some (.ok (.fr d), ρ) := by rw [ev] <;> rfl
@[simp] theorem x_glo (d : PyData) : ev cf m (.glo d) ρ = some (.ok (.fr d), ρ) := by rw [ev] <;> rfl
theorem x_bin_0 (o : Bop) (a b : Ex) : ev cf m (.bin o a b) ρ = (ev cf true a ρ).bind fun x ρ1 => (ev cf true b ρ1).bind fun y ρ2 => if okAl a x (quiet b) then R.of (binO o x y) ρ2 else none := by rw [ev] <;> rfl
@[simp] theorem x_bin (o : Bop) (a b : Ex) : ev cf m (.bin o a b) ρ = bnd (ev cf true a ρ) (fun x ρ1 => bnd (ev cf true b ρ1) (fun y ρ2 => if okAl a x (quiet b) then R.of (binO o x y) ρ2 else none) .mk) .mk := by
  rw [x_bin_0]
  rfl
theorem x_neg_0 (a : Ex) : ev cf m (.neg a) ρ = (ev cf true a ρ).bind fun x ρ1 => R.of ((intD x.fz).map fun i => .fr (.int (-i))) ρ1 := by rw [ev] <;> rfl
@[simp] theorem x_neg (a : Ex) : ev cf m (.neg a) ρ = bnd (ev cf true a ρ) (fun x ρ1 => R.of ((intD x.fz).map fun i => .fr (.int (-i))) ρ1) .mk := by
  rw [x_neg_0]
  rfl
theorem x_nt_0 (a : Ex) : ev cf m (.nt a) ρ = (ev cf true a ρ).bind fun x ρ1 => R.of ((tstO x).map fun b => .fr (.bool (!b))) ρ1 := by rw [ev] <;> rfl
@[simp] theorem x_nt (a : Ex) : ev cf m (.nt a) ρ = bnd (ev cf true a ρ) (fun x ρ1 => R.of ((tstO x).map fun b => .fr (.bool (!b))) ρ1) .mk := by
  rw [x_nt_0]
  rfl
theorem x_bo_0 (k : Bool) (es : Exs) : ev cf m (.bo k es) ρ = (evB cf k es ρ).bind fun c ρ1 => R.ok (.fr (.bool c)) ρ1 := by rw [ev] <;> rfl
@[simp] theorem x_bo (k : Bool) (es : Exs) : ev cf m (.bo k es) ρ = bnd (evB cf k es ρ) (fun c ρ1 => R.ok (.fr (.bool c)) ρ1) .mk := by
  rw [x_bo_0]
  rfl
theorem x_cmp_0 (o : Cop) (a b : Ex) : ev cf m (.cmp o a b) ρ = (ev cf true a ρ).bind fun x ρ1 => (ev cf true b ρ1).bind fun y ρ2 => if okAl a x (quiet b) then R.of (bopO o x y) ρ2 else none := by rw [ev] <;> rfl
@[simp] theorem x_cmp (o : Cop) (a b : Ex) : ev cf m (.cmp o a b) ρ = bnd (ev cf true a ρ) (fun x ρ1 => bnd (ev cf true b ρ1) (fun y ρ2 => if okAl a x (quiet b) then R.of (bopO o x y) ρ2 else none) .mk) .mk := by
  rw [x_cmp_0]
  rfl
theorem x_isN_0 (k : Bool) (a : Ex) : ev cf m (.isN k a) ρ = (ev cf true a ρ).bind fun x ρ1 => R.ok (.fr (.bool (if isNone x then k else !k))) ρ1 := by
  rw [ev]
  congr 1
  funext x ρ1
  unfold isNone
  split <;> simp -implicitDefEqProofs
@[simp] theorem x_isN (k : Bool) (a : Ex) : ev cf m (.isN k a) ρ = bnd (ev cf true a ρ) (fun x ρ1 => R.ok (.fr (.bool (if isNone x then k else !k))) ρ1) .mk := by
  rw [x_isN_0]
  rfl
theorem x_chain_0 (o1 o2 : Cop) (a b c : Ex) : ev cf m (.chain o1 o2 a b c) ρ = (ev cf true a ρ).bind fun x ρ1 => (ev cf true b ρ1).bind fun y ρ2 => if okAl a x (quiet b) then
      cnd (cmpD o1 x.fz y.fz) ((ev cf true c ρ2).bind fun z ρ3 => if okAl b y (quiet c) then R.of (bopO o2 y z) ρ3 else none) (R.ok (.fr (.bool false)) ρ2)
    else none := by
  rw [ev]
  congr 1; funext x ρ1
  congr 1; funext y ρ2
  congr 1
  unfold cnd
  cases cmpD o1 x.fz y.fz with
  | none => rfl
  | some r => cases r <;> rfl
@[simp] theorem x_chain (o1 o2 : Cop) (a b c : Ex) : ev cf m (.chain o1 o2 a b c) ρ = bnd (ev cf true a ρ) (fun x ρ1 => bnd (ev cf true b ρ1) (fun y ρ2 => if okAl a x (quiet b) then cnl (cmpD o1 x.fz y.fz) ((bnd (ev cf true c ρ2) (fun z ρ3 => if okAl b y (quiet c) then R.of (bopO o2 y z) ρ3 else none) .mk)) ((R.ok (.fr (.bool false)) ρ2)) .mk .mk else none) .mk) .mk := by
  rw [x_chain_0]
  rfl
theorem x_ite_0 (c a b : Ex) : ev cf m (.ite c a b) ρ = (ev cf true c ρ).bind fun x ρ1 => cnd (tstO x) (ev cf false a ρ1) (ev cf false b ρ1) := by
  rw [ev]
  congr 1
@[simp] theorem x_ite (c a b : Ex) : ev cf m (.ite c a b) ρ = bnd (ev cf true c ρ) (fun x ρ1 => cnl (tstO x) ((ev cf false a ρ1)) ((ev cf false b ρ1)) .mk .mk) .mk := by
  rw [x_ite_0]
  rfl
theorem x_tup_0 (es : Exs) : ev cf m (.tup es) ρ = (evs cf es ρ).bind fun xs ρ1 => R.ok (mkTup xs) ρ1 := by rw [ev] <;> rfl
@[simp] theorem x_tup (es : Exs) : ev cf m (.tup es) ρ = bnd (evs cf es ρ) (fun xs ρ1 => R.ok (mkTup xs) ρ1) .mk := by
  rw [x_tup_0]
  rfl
theorem x_lst_0 (es : Exs) : ev cf m (.lst es) ρ = (evs cf es ρ).bind fun xs ρ1 => R.ok (.lst xs) ρ1 := by rw [ev] <;> rfl
@[simp] theorem x_lst (es : Exs) : ev cf m (.lst es) ρ = bnd (evs cf es ρ) (fun xs ρ1 => R.ok (.lst xs) ρ1) .mk := by
  rw [x_lst_0]
  rfl
theorem x_idx_0 (a i : Ex) : ev cf m (.idx a i) ρ = (ev cf true a ρ).bind fun x ρ1 => (ev cf true i ρ1).bind fun y ρ2 => if okAl a x (quiet i) then
      obn (idxO x y.fz) fun z => if (m && isPath a) || z.isFr then R.ok z ρ2 else none
    else none := by
  rw [ev]
  congr 1; funext x ρ1
  congr 1; funext y ρ2
  congr 1
  cases idxO x y.fz <;> rfl
@[simp] theorem x_idx (a i : Ex) : ev cf m (.idx a i) ρ = bnd (ev cf true a ρ) (fun x ρ1 => bnd (ev cf true i ρ1) (fun y ρ2 => if okAl a x (quiet i) then obl (idxO x y.fz) (fun z => if (m && isPath a) || z.isFr then R.ok z ρ2 else none) .mk else none) .mk) .mk := by
  rw [x_idx_0]
  rfl
theorem x_slc_0 (a : Ex) (lo hi : Exs) : ev cf m (.slc a lo hi) ρ = (ev cf true a ρ).bind fun x ρ1 => (evs cf lo ρ1).bind fun ys ρ2 => obn (optO ys) fun l => (evs cf hi ρ2).bind fun zs ρ3 => obn (optO zs) fun h =>
      if okAl a x (quiets lo && quiets hi) then R.of (slcO x l h) ρ3 else none := by
  rw [ev]
  congr 1; funext x ρ1
  congr 1; funext y ρ2
  cases optO y with
  | none => rfl
  | some l =>
    show R.bind _ _ = R.bind _ _
    congr 1; funext z ρ3
    cases optO z <;> rfl
@[simp] theorem x_slc (a : Ex) (lo hi : Exs) : ev cf m (.slc a lo hi) ρ = bnd (ev cf true a ρ) (fun x ρ1 => bnd (evs cf lo ρ1) (fun ys ρ2 => obl (optO ys) (fun l => bnd (evs cf hi ρ2) (fun zs ρ3 => obl (optO zs) (fun h => if okAl a x (quiets lo && quiets hi) then R.of (slcO x l h) ρ3 else none) .mk) .mk) .mk) .mk) .mk := by
  rw [x_slc_0]
  rfl
theorem x_call_0 (f : Nat) (ms : List AM) (es : Exs) : ev cf m (.call f ms es) ρ = (evA cf ms es ρ).bind fun avs ρ1 => doCall cf f avs ρ1 := by rw [ev] <;> rfl
@[simp] theorem x_call (f : Nat) (ms : List AM) (es : Exs) : ev cf m (.call f ms es) ρ = bnd (evA cf ms es ρ) (fun avs ρ1 => doCall cf f avs ρ1) .mk := by
  rw [x_call_0]
  rfl
theorem x_blt1_0 (b : Blt) (e : Ex) : ev cf m (.blt b (.cons e .nil)) ρ = (ev cf true e ρ).bind fun x ρ1 => R.of (bltO b [x]) ρ1 := by rw [ev] <;> rfl
@[simp] theorem x_blt1 (b : Blt) (e : Ex) : ev cf m (.blt b (.cons e .nil)) ρ = bnd (ev cf true e ρ) (fun x ρ1 => R.of (bltO b [x]) ρ1) .mk := by
  rw [x_blt1_0]
  rfl
@[simp] theorem x_blt0 (b : Blt) : ev cf m (.blt b .nil) ρ = R.of (bltO b []) ρ := by rw [ev, evs] <;> (try rfl); intro e h; cases h
theorem x_blt2_0 (b : Blt) (e e' : Ex) (es : Exs) : ev cf m (.blt b (.cons e (.cons e' es))) ρ = (evs cf (.cons e (.cons e' es)) ρ).bind fun xs ρ1 => R.of (bltO b xs) ρ1 := by rw [ev] <;> (try rfl); intro e h; cases h
@[simp] theorem x_blt2 (b : Blt) (e e' : Ex) (es : Exs) : ev cf m (.blt b (.cons e (.cons e' es))) ρ = bnd (evs cf (.cons e (.cons e' es)) ρ) (fun xs ρ1 => R.of (bltO b xs) ρ1) .mk := by
  rw [x_blt2_0]
  rfl
theorem x_meth_0 (k : Mth) (o : Ex) (es : Exs) : ev cf m (.meth k o es) ρ = (ev cf true o ρ).bind fun x ρ1 => if mthOk k x then (evs cf es ρ1).bind fun ys ρ2 => if okAl o x (quiets es) then R.of (mthO k x (OV.fzs ys)) ρ2 else none
    else none := by rw [ev] <;> rfl
@[simp] theorem x_meth (k : Mth) (o : Ex) (es : Exs) : ev cf m (.meth k o es) ρ = bnd (ev cf true o ρ) (fun x ρ1 => if mthOk k x then bnd (evs cf es ρ1) (fun ys ρ2 => if okAl o x (quiets es) then R.of (mthO k x (OV.fzs ys)) ρ2 else none) .mk else none) .mk := by
  rw [x_meth_0]
  rfl
theorem x_mut_0 (k : Mut) (p : Ex) (es : Exs) : ev cf m (.mut k p es) ρ = (evP cf p ρ).bind fun q ρ1 => if (q.2.isEmpty || quiets es) && isLP ρ1 q.1 q.2 then (evs cf es ρ1).bind fun ys ρ2 => obn (getS ρ2 q.1) fun o =>
      obn (rdP o q.2) fun x => obn (mutO k x ys) fun zx => obn (wrP o q.2 zx.2) fun o' => R.ok zx.1 (setS ρ2 q.1 o')
      else none := by
  rw [ev]
  congr 1; funext q ρ1
  congr 1
  congr 1; funext ys ρ2
  cases getS ρ2 q.1 with
  | none => rfl
  | some o =>
    rw [obn_s]
    dsimp only
    cases rdP o q.2 with
    | none => rfl
    | some x =>
      rw [obn_s]
      dsimp only
      cases mutO k x ys with
      | none => rfl
      | some zx =>
        rw [obn_s]
        obtain ⟨z, x'⟩ := zx
        dsimp only
        cases wrP o q.2 x' <;> rfl
@[simp] theorem x_mut (k : Mut) (p : Ex) (es : Exs) : ev cf m (.mut k p es) ρ = bnd (evP cf p ρ) (fun q ρ1 => if (q.2.isEmpty || quiets es) && isLP ρ1 q.1 q.2 then bnd (evs cf es ρ1) (fun ys ρ2 => obl (getS ρ2 q.1) (fun o => obl (rdP o q.2) (fun x => obl (mutO k x ys) (fun zx => obl (wrP o q.2 zx.2) (fun o' => R.ok zx.1 (setS ρ2 q.1 o')) .mk) .mk) .mk) .mk) .mk else none) .mk := by
  rw [x_mut_0]
  rfl
theorem x_frz_0 (a : Ex) : ev cf m (.frz a) ρ = (ev cf false a ρ).bind fun x ρ1 => R.ok (.fr x.fz) ρ1 := by rw [ev] <;> rfl
@[simp] theorem x_frz (a : Ex) : ev cf m (.frz a) ρ = bnd (ev cf false a ρ) (fun x ρ1 => R.ok (.fr x.fz) ρ1) .mk := by
  rw [x_frz_0]
  rfl
@[simp] theorem x_told (f : Nat) (hs : List (Nat × Str)) (k : Nat) (b : Ex) : ev cf m (.told f hs k b) ρ = toldK hs (ev cf false b ρ) := by
  rw [ev]
  cases ev cf false b ρ with
  | none => rfl
  | some r =>
    obtain ⟨r, ρ1⟩ := r
    cases r with
    | ok _ => rfl
    | error c =>
      first
        | rfl
        | (unfold toldK; rfl)
        | (unfold toldK; dsimp only; cases hs.lookup c <;> rfl)
theorem x_b1_0 (k : Bool) (e : Ex) : evB cf k (.cons e .nil) ρ = (ev cf true e ρ).bind fun x ρ1 => obn (tstO x) fun c => R.ok c ρ1 := by
  rw [evB]
  congr 1; funext x ρ1
  cases tstO x <;> rfl
@[simp] theorem x_b1 (k : Bool) (e : Ex) : evB cf k (.cons e .nil) ρ = bnd (ev cf true e ρ) (fun x ρ1 => obl (tstO x) (fun c => R.ok c ρ1) .mk) .mk := by
  rw [x_b1_0]
  rfl
theorem x_b2_0 (k : Bool) (e e' : Ex) (es : Exs) : evB cf k (.cons e (.cons e' es)) ρ = (ev cf true e ρ).bind fun x ρ1 => obn (tstO x) fun c => if c = k then evB cf k (.cons e' es) ρ1 else R.ok c ρ1 := by
  rw [evB]
  congr 1; funext x ρ1
  cases tstO x <;> rfl
@[simp] theorem x_b2 (k : Bool) (e e' : Ex) (es : Exs) : evB cf k (.cons e (.cons e' es)) ρ = bnd (ev cf true e ρ) (fun x ρ1 => obl (tstO x) (fun c => if c = k then evB cf k (.cons e' es) ρ1 else R.ok c ρ1) .mk) .mk := by
  rw [x_b2_0]
  rfl
@[simp] theorem x_s0 : evs cf .nil ρ = some (.ok [], ρ) := by rw [evs] <;> rfl
theorem x_s1_0 (e : Ex) (es : Exs) : evs cf (.cons e es) ρ = (ev cf false e ρ).bind fun x ρ1 => (evs cf es ρ1).bind fun xs ρ2 => R.ok (x :: xs) ρ2 := by rw [evs] <;> rfl
@[simp] theorem x_s1 (e : Ex) (es : Exs) : evs cf (.cons e es) ρ = bnd (ev cf false e ρ) (fun x ρ1 => bnd (evs cf es ρ1) (fun xs ρ2 => R.ok (x :: xs) ρ2) .mk) .mk := by
  rw [x_s1_0]
  rfl
@[simp] theorem x_a0 : evA cf [] .nil ρ = some (.ok [], ρ) := by rw [evA] <;> rfl
theorem x_av_0 (ms : List AM) (e : Ex) (es : Exs) : evA cf (.v :: ms) (.cons e es) ρ = (ev cf false e ρ).bind fun x ρ1 => (evA cf ms es ρ1).bind fun xs ρ2 => R.ok (.v x.fz :: xs) ρ2 := by rw [evA] <;> rfl
@[simp] theorem x_av (ms : List AM) (e : Ex) (es : Exs) : evA cf (.v :: ms) (.cons e es) ρ = bnd (ev cf false e ρ) (fun x ρ1 => bnd (evA cf ms es ρ1) (fun xs ρ2 => R.ok (.v x.fz :: xs) ρ2) .mk) .mk := by
  rw [x_av_0]
  rfl
theorem x_apk_0 (ms : List AM) (e : Ex) (es : Exs) : evA cf (.pk :: ms) (.cons e es) ρ = (ev cf true e ρ).bind fun x ρ1 => (evA cf ms es ρ1).bind fun xs ρ2 => if quiets es then R.ok (.pk x.fz :: xs) ρ2 else none := by rw [evA] <;> rfl
@[simp] theorem x_apk (ms : List AM) (e : Ex) (es : Exs) : evA cf (.pk :: ms) (.cons e es) ρ = bnd (ev cf true e ρ) (fun x ρ1 => bnd (evA cf ms es ρ1) (fun xs ρ2 => if quiets es then R.ok (.pk x.fz :: xs) ρ2 else none) .mk) .mk := by
  rw [x_apk_0]
  rfl
theorem x_aio_0 (ms : List AM) (i : Nat) (es : Exs) : evA cf (.io :: ms) (.cons (.var i) es) ρ = obn (getS ρ i) fun _ => (evA cf ms es ρ).bind fun xs ρ2 => R.ok (.io i :: xs) ρ2 := by
  rw [evA]
  cases getS ρ i <;> rfl
@[simp] theorem x_aio (ms : List AM) (i : Nat) (es : Exs) : evA cf (.io :: ms) (.cons (.var i) es) ρ = obl (getS ρ i) (fun _ => bnd (evA cf ms es ρ) (fun xs ρ2 => R.ok (.io i :: xs) ρ2) .mk) .mk := by
  rw [x_aio_0]
  rfl
theorem x_p0_0 (i : Nat) : evP cf (.var i) ρ = obn (getS ρ i) fun _ => R.ok (i, []) ρ := by
  rw [evP]
  cases getS ρ i <;> rfl
@[simp] theorem x_p0 (i : Nat) : evP cf (.var i) ρ = obl (getS ρ i) (fun _ => R.ok (i, []) ρ) .mk := by
  rw [x_p0_0]
  rfl
theorem x_p1_0 (a e : Ex) : evP cf (.idx a e) ρ = (evP cf a ρ).bind fun q ρ1 => (ev cf true e ρ1).bind fun x ρ2 => if quiet e then obn (intK x) fun k => obn (getS ρ2 q.1) fun o => obn (rdP o (q.2 ++ [k])) fun _ => R.ok (q.1, q.2 ++ [k]) ρ2
    else none := by
  rw [evP]
  congr 1; funext q ρ1
  congr 1; funext x ρ2
  congr 1
  cases x with
  | fr d =>
    cases d with
    | int k =>
      show _ = obn (some k) _
      rw [obn_s]
      dsimp only
      cases getS ρ2 q.1 with
      | none => rfl
      | some o =>
        rw [obn_s]
        dsimp only
        cases rdP o (q.2 ++ [k]) <;> rfl
    | _ => rfl
  | _ => rfl
@[simp] theorem x_p1 (a e : Ex) : evP cf (.idx a e) ρ = bnd (evP cf a ρ) (fun q ρ1 => bnd (ev cf true e ρ1) (fun x ρ2 => if quiet e then obl (intK x) (fun k => obl (getS ρ2 q.1) (fun o => obl (rdP o (q.2 ++ [k])) (fun _ => R.ok (q.1, q.2 ++ [k]) ρ2) .mk) .mk) .mk else none) .mk) .mk := by
  rw [x_p1_0]
  rfl
theorem x_it_0 (e : Ex) : evI cf (.it e) ρ = (ev cf false e ρ).bind fun x ρ1 => R.of (keysO x) ρ1 := by rw [evI] <;> rfl
@[simp] theorem x_it (e : Ex) : evI cf (.it e) ρ = bnd (ev cf false e ρ) (fun x ρ1 => R.of (keysO x) ρ1) .mk := by
  rw [x_it_0]
  rfl
theorem x_rng_0 (es : Exs) : evI cf (.rng es) ρ = (evs cf es ρ).bind fun xs ρ1 => R.of ((frsO xs).bind rngD) ρ1 := by
  rw [evI]
  congr 1; funext xs ρ1
  cases frsO xs <;> rfl
@[simp] theorem x_rng (es : Exs) : evI cf (.rng es) ρ = bnd (evs cf es ρ) (fun xs ρ1 => R.of ((frsO xs).bind rngD) ρ1) .mk := by
  rw [x_rng_0]
  rfl
theorem x_zip_0 (a b : Ex) : evI cf (.zip a b) ρ = (ev cf false a ρ).bind fun x ρ1 => (ev cf false b ρ1).bind fun y ρ2 => obn (seqO x) fun xs => obn (seqO y) fun ys => if isTup x == isTup y then R.ok (zipD xs ys) ρ2 else none := by
  rw [evI]
  congr 1; funext x ρ1
  congr 1; funext y ρ2
  unfold obn
  cases seqO x <;> cases seqO y <;> rfl
@[simp] theorem x_zip (a b : Ex) : evI cf (.zip a b) ρ = bnd (ev cf false a ρ) (fun x ρ1 => bnd (ev cf false b ρ1) (fun y ρ2 => obl (seqO x) (fun xs => obl (seqO y) (fun ys => if isTup x == isTup y then R.ok (zipD xs ys) ρ2 else none) .mk) .mk) .mk) .mk := by
  rw [x_zip_0]
  rfl
theorem x_enum_0 (a : Ex) : evI cf (.enum a) ρ = (ev cf false a ρ).bind fun x ρ1 => R.of ((lstO x).map (enumD 0)) ρ1 := by rw [evI] <;> rfl
@[simp] theorem x_enum (a : Ex) : evI cf (.enum a) ρ = bnd (ev cf false a ρ) (fun x ρ1 => R.of ((lstO x).map (enumD 0)) ρ1) .mk := by
  rw [x_enum_0]
  rfl
@[simp] theorem x_t0 : evT cf .nil ρ = some (.ok true, ρ) := by rw [evT] <;> rfl
theorem x_t1_0 (e : Ex) (es : Exs) : evT cf (.cons e es) ρ = (ev cf true e ρ).bind fun x ρ1 => cnd (tstO x) (evT cf es ρ1) (R.ok false ρ1) := by
  rw [evT]
  congr 1
@[simp] theorem x_t1 (e : Ex) (es : Exs) : evT cf (.cons e es) ρ = bnd (ev cf true e ρ) (fun x ρ1 => cnl (tstO x) ((evT cf es ρ1)) ((R.ok false ρ1)) .mk .mk) .mk := by
  rw [x_t1_0]
  rfl
theorem y_asg_0 (t : Tg) (e : Ex) : exS cf (.asg t e) ρ = (ev cf false e ρ).bind fun x ρ1 => obn (asgT t x ρ1) fun ρ2 => R.ok .nx ρ2 := by
  rw [exS]
  congr 1; funext x ρ1
  cases asgT t x ρ1 <;> rfl
@[simp] theorem y_asg (t : Tg) (e : Ex) : exS cf (.asg t e) ρ = bnd (ev cf false e ρ) (fun x ρ1 => obl (asgT t x ρ1) (fun ρ2 => R.ok .nx ρ2) .mk) .mk := by
  rw [y_asg_0]
  rfl
theorem y_par_0 (ts : List Nat) (es : Exs) : exS cf (.par ts es) ρ = (evs cf es ρ).bind fun xs ρ1 => obn (asgTs (ts.map .nm) xs ρ1) fun ρ2 => R.ok .nx ρ2 := by
  rw [exS]
  congr 1; funext x ρ1
  cases asgTs (ts.map .nm) x ρ1 <;> rfl
@[simp] theorem y_par (ts : List Nat) (es : Exs) : exS cf (.par ts es) ρ = bnd (evs cf es ρ) (fun xs ρ1 => obl (asgTs (ts.map .nm) xs ρ1) (fun ρ2 => R.ok .nx ρ2) .mk) .mk := by
  rw [y_par_0]
  rfl
theorem y_sto_0 (p i e : Ex) : exS cf (.sto p i e) ρ = (ev cf false e ρ).bind fun x ρ1 => (evP cf p ρ1).bind fun q ρ2 => (ev cf true i ρ2).bind fun y ρ3 =>
      if quiet i && isLP ρ2 q.1 q.2 then obn (getS ρ3 q.1) fun o => obn (rdP o q.2) fun z => obn (stoO z y.fz x) fun z' => obn (wrP o q.2 z') fun o' => R.ok .nx (setS ρ3 q.1 o')
      else none := by
  rw [exS]
  congr 1; funext x ρ1
  congr 1; funext q ρ2
  congr 1; funext y ρ3
  congr 1
  cases getS ρ3 q.1 with
  | none => rfl
  | some o =>
    rw [obn_s]
    dsimp only
    cases rdP o q.2 with
    | none => rfl
    | some z =>
      rw [obn_s]
      dsimp only
      cases stoO z y.fz x with
      | none => rfl
      | some z' =>
        rw [obn_s]
        dsimp only
        cases wrP o q.2 z' <;> rfl
@[simp] theorem y_sto (p i e : Ex) : exS cf (.sto p i e) ρ = bnd (ev cf false e ρ) (fun x ρ1 => bnd (evP cf p ρ1) (fun q ρ2 => bnd (ev cf true i ρ2) (fun y ρ3 => if quiet i && isLP ρ2 q.1 q.2 then obl (getS ρ3 q.1) (fun o => obl (rdP o q.2) (fun z => obl (stoO z y.fz x) (fun z' => obl (wrP o q.2 z') (fun o' => R.ok .nx (setS ρ3 q.1 o')) .mk) .mk) .mk) .mk else none) .mk) .mk) .mk := by
  rw [y_sto_0]
  rfl
theorem y_exp_0 (e : Ex) : exS cf (.exp e) ρ = (ev cf false e ρ).bind fun _ ρ1 => R.ok .nx ρ1 := by rw [exS] <;> rfl
@[simp] theorem y_exp (e : Ex) : exS cf (.exp e) ρ = bnd (ev cf false e ρ) (fun _ ρ1 => R.ok .nx ρ1) .mk := by
  rw [y_exp_0]
  rfl
theorem y_ret_0 (e : Ex) : exS cf (.ret e) ρ = (ev cf false e ρ).bind fun x ρ1 => R.ok (.rt x.fz) ρ1 := by rw [exS] <;> rfl
@[simp] theorem y_ret (e : Ex) : exS cf (.ret e) ρ = bnd (ev cf false e ρ) (fun x ρ1 => R.ok (.rt x.fz) ρ1) .mk := by
  rw [y_ret_0]
  rfl
@[simp] theorem y_rtn : exS cf .rtn ρ = some (.ok (.rt .none), ρ) := by rw [exS] <;> rfl
@[simp] theorem y_rse (c : Nat) : exS cf (.rse c) ρ = some (.error c, ρ) := by rw [exS] <;> rfl
theorem y_ifs_0 (c : Ex) (a b : Sms) : exS cf (.ifs c a b) ρ = (ev cf true c ρ).bind fun x ρ1 => cnd (tstO x) (exSs cf a ρ1) (exSs cf b ρ1) := by
  rw [exS]
  congr 1
@[simp] theorem y_ifs (c : Ex) (a b : Sms) : exS cf (.ifs c a b) ρ = bnd (ev cf true c ρ) (fun x ρ1 => cnl (tstO x) ((exSs cf a ρ1)) ((exSs cf b ρ1)) .mk .mk) .mk := by
  rw [y_ifs_0]
  rfl
@[simp] theorem y_pas : exS cf .pas ρ = some (.ok .nx, ρ) := by rw [exS] <;> rfl
@[simp] theorem y_0 : exSs cf .nil ρ = some (.ok .nx, ρ) := by rw [exSs] <;> rfl
theorem y_1_0 (s : Sm) (ss : Sms) : exSs cf (.cons s ss) ρ = (exS cf s ρ).bind fun f ρ1 => flK f (exSs cf ss ρ1) ρ1 := by
  rw [exSs]
  congr 1
@[simp] theorem y_1 (s : Sm) (ss : Sms) : exSs cf (.cons s ss) ρ = bnd (exS cf s ρ) (fun f ρ1 => flL f ((exSs cf ss ρ1)) .mk ρ1) .mk := by
  rw [y_1_0]
  rfl
end
/-! ### slots -/
@[simp] theorem g_0 (v : Option OV) (ρ : En) : getS (v :: ρ) 0 = v := by cases v <;> rfl
@[simp] theorem g_s (v : Option OV) (ρ : En) (i : Nat) : getS (v :: ρ) (i + 1) = getS ρ i := (rfl)
@[simp] theorem s_0 (v : Option OV) (ρ : En) (x : OV) : setS (v :: ρ) 0 x = some x :: ρ := (rfl)
@[simp] theorem s_s (v : Option OV) (ρ : En) (i : Nat) (x : OV) : setS (v :: ρ) (i + 1) x = v :: setS ρ i x := (rfl)
@[simp] theorem w_0 (ρ : En) : wipeS ρ [] = ρ := (rfl)
@[simp] theorem w_1 (ρ : En) (i : Nat) (l : List Nat) : wipeS ρ (i :: l) = (wipeS ρ l).set i none := (rfl)
@[simp] theorem a_nm (i : Nat) (v : OV) (ρ : En) : asgT (.nm i) v ρ = if i < ρ.length then some (setS ρ i v) else none := by rw [asgT]
@[simp] theorem a_tp (ts : List Tg) (ds : List PyData) (ρ : En) : asgT (.tp ts) (.fr (.tuple ds)) ρ = if ts.length = ds.length then asgTs ts (ds.map .fr) ρ else none := by rw [asgT]
@[simp] theorem a_tu (ts : List Tg) (ds : List OV) (ρ : En) : asgT (.tp ts) (.tup ds) ρ = if ts.length = ds.length then asgTs ts ds ρ else none := by rw [asgT]
@[simp] theorem a_0 (ρ : En) : asgTs [] [] ρ = some ρ := by rw [asgTs]
@[simp] theorem a_1 (t : Tg) (ts : List Tg) (v : OV) (vs : List OV) (ρ : En) : asgTs (t :: ts) (v :: vs) ρ = (asgT t v ρ).bind fun ρ' => asgTs ts vs ρ' := by
  rw [asgTs]
  cases asgT t v ρ <;> rfl
@[simp] theorem o_addI (i j : Int) : binO .add (.fr (.int i)) (.fr (.int j)) = some (.fr (.int (i + j))) := (rfl)
@[simp] theorem o_subI (i j : Int) : binO .sub (.fr (.int i)) (.fr (.int j)) = some (.fr (.int (i - j))) := (rfl)
@[simp] theorem o_addS (x y : Str) : binO .add (.fr (.str x)) (.fr (.str y)) = if small (x.cps.size + y.cps.size) then some (.fr (.str (strCat x y))) else none := (rfl)
@[simp] theorem o_addT (x y : List PyData) : binO .add (.fr (.tuple x)) (.fr (.tuple y)) = if small (x.length + y.length) then some (.fr (.tuple (x ++ y))) else none := (rfl)
@[simp] theorem c_ltI (i j : Int) : cmpD .lt (.int i) (.int j) = some (decide (i < j)) := (rfl)
@[simp] theorem c_leI (i j : Int) : cmpD .le (.int i) (.int j) = some (decide (i ≤ j)) := (rfl)
@[simp] theorem c_gtI (i j : Int) : cmpD .gt (.int i) (.int j) = some (decide (j < i)) := (rfl)
@[simp] theorem c_geI (i j : Int) : cmpD .ge (.int i) (.int j) = some (decide (j ≤ i)) := (rfl)
theorem eqv_int (i j : Int) : PyData.eqv (.int i) (.int j) = decide (i = j) := by
  rw [PyData.eqv]
  first | rfl | exact beq_eq_decide i j | simp -implicitDefEqProofs
@[simp] theorem c_eqI (i j : Int) : cmpD .eq (.int i) (.int j) = some (decide (i = j)) := by
  rw [← eqv_int]
  rfl
@[simp] theorem c_neI (i j : Int) : cmpD .ne (.int i) (.int j) = some (!decide (i = j)) := by
  rw [← eqv_int]
  rfl
@[simp] theorem bop_fr (o : Cop) (a b : PyData) : bopO o (.fr a) (.fr b) = (cmpD o a b).map fun r => .fr (.bool r) := (rfl)
@[simp] theorem lenT (ds : List PyData) : bltO .len [.fr (.tuple ds)] = some (.fr (.int ds.length)) := (rfl)
@[simp] theorem lenFL (ds : List PyData) : bltO .len [.fr (.list ds)] = some (.fr (.int ds.length)) := (rfl)
@[simp] theorem lenL (xs : List OV) : bltO .len [.lst xs] = some (.fr (.int xs.length)) := (rfl)
@[simp] theorem maxI (i j : Int) : bltO .max [.fr (.int i), .fr (.int j)] = some (.fr (.int (max i j))) := (rfl)
@[simp] theorem minI (i j : Int) : bltO .min [.fr (.int i), .fr (.int j)] = some (.fr (.int (min i j))) := (rfl)
@[simp] theorem gcdI (i j : Int) : bltO .gcd [.fr (.int i), .fr (.int j)] = some (.fr (.int (Nat.gcd i.natAbs j.natAbs : Nat))) := (rfl)
@[simp] theorem isTupO (x : OV) : bltO .isTuple [x] = some (.fr (.bool (isTup x))) := (rfl)
@[simp] theorem isLstO (x : OV) : bltO .isList [x] = some (.fr (.bool (isLst x))) := (rfl)
@[simp] theorem isTLO (x : OV) : bltO .isTupleList [x] = some (.fr (.bool (isTup x || isLst x))) := (rfl)
@[simp] theorem tupleT (ds : List PyData) : bltO .tuple [.fr (.tuple ds)] = some (.fr (.tuple ds)) := (rfl)
@[simp] theorem tupleFL (ds : List PyData) : bltO .tuple [.fr (.list ds)] = some (.fr (.tuple ds)) := (rfl)
@[simp] theorem tupleL (ds : List PyData) : bltO .tuple [mkLst ds] = some (.fr (.tuple ds)) := by
  simp -implicitDefEqProofs only [bltO, mkLst, seqO, frsO_fr, Option.map_some]
@[simp] theorem listT (ds : List PyData) : bltO .list [.fr (.tuple ds)] = some (mkLst ds) := (rfl)
@[simp] theorem lenM (ds : List PyData) : bltO .len [mkLst ds] = some (.fr (.int ds.length)) := by
  simp -implicitDefEqProofs only [bltO, mkLst, List.length_map]
@[simp] theorem keysT (ds : List PyData) : keysO (.fr (.tuple ds)) = some ds := (rfl)
@[simp] theorem keysFL (ds : List PyData) : keysO (.fr (.list ds)) = some ds := (rfl)
@[simp] theorem keysM (ds : List PyData) : keysO (mkLst ds) = some ds := by
  simp -implicitDefEqProofs only [keysO, mkLst, seqO, frsO_fr]
@[simp] theorem fzM (ds : List PyData) : (mkLst ds).fz = .list ds := by
  show PyData.list (OV.fzs (ds.map .fr)) = _
  rw [fzs_fr]
theorem call1_0 {cf : CF} {f : Nat} {avs : List AV} {ρ : En} : doCall cf f avs ρ = obn (takeA avs ρ) fun p => obn (cf f p.1) fun q => obn (giveA avs q.2 p.2) fun ρ2 => resK avs q.1 ρ2 := by
  unfold doCall
  cases takeA avs ρ with
  | none => rfl
  | some p =>
    obtain ⟨args, ρ1⟩ := p
    rw [obn_s]
    dsimp only
    cases cf f args with
    | none => rfl
    | some q =>
      obtain ⟨res, os⟩ := q
      rw [obn_s]
      dsimp only
      cases giveA avs os ρ1 with
      | none => rfl
      | some ρ2 => cases res <;> rfl
@[simp] theorem call1 {cf : CF} {f : Nat} {avs : List AV} {ρ : En} : doCall cf f avs ρ = obl (takeA avs ρ) (fun p => obl (cf f p.1) (fun q => obl (giveA avs q.2 p.2) (fun ρ2 => resK avs q.1 ρ2) .mk) .mk) .mk := by
  rw [call1_0]
  rfl
@[simp] theorem tk0 (ρ : En) : takeA [] ρ = some ([], ρ) := (rfl)
@[simp] theorem tkv (d : PyData) (r : List AV) (ρ : En) : takeA (.v d :: r) ρ = (takeA r ρ).map fun p => (.fr d :: p.1, p.2) := by
  rw [takeA]
  cases takeA r ρ <;> rfl
@[simp] theorem tkp (d : PyData) (r : List AV) (ρ : En) : takeA (.pk d :: r) ρ = (takeA r ρ).map fun p => (.fr d :: p.1, p.2) := by
  rw [takeA]
  cases takeA r ρ <;> rfl
@[simp] theorem tki (i : Nat) (r : List AV) (ρ : En) : takeA (.io i :: r) ρ = (getS ρ i).bind fun o => (takeA r (ρ.set i none)).map fun p => (o :: p.1, p.2) := by
  rw [takeA]
  cases getS ρ i with
  | none => rfl
  | some o =>
    dsimp only [Option.bind]
    cases takeA r (ρ.set i none) <;> rfl
@[simp] theorem gv0 (ρ : En) : giveA [] [] ρ = some ρ := (rfl)
@[simp] theorem gvv (d : PyData) (r : List AV) (l : List OV) (ρ : En) : giveA (.v d :: r) l ρ = giveA r l ρ := (rfl)
@[simp] theorem gvp (d : PyData) (r : List AV) (l : List OV) (ρ : En) : giveA (.pk d :: r) l ρ = giveA r l ρ := (rfl)
@[simp] theorem gvi (i : Nat) (r : List AV) (o : OV) (l : List OV) (ρ : En) : giveA (.io i :: r) (o :: l) ρ = giveA r l (setS ρ i o) := (rfl)
@[simp] theorem ap0 : anyPk [] = false := (rfl)
@[simp] theorem apv (d : PyData) (r : List AV) : anyPk (.v d :: r) = anyPk r := (rfl)
@[simp] theorem api (i : Nat) (r : List AV) : anyPk (.io i :: r) = anyPk r := (rfl)
@[simp] theorem app (d : PyData) (r : List AV) : anyPk (.pk d :: r) = true := (rfl)
@[simp] theorem allM (ds : List PyData) : bltO .all [mkLst ds] = (boolsL ds).map fun l => .fr (.bool (l.all id)) := by
  simp -implicitDefEqProofs only [bltO, lstO, mkLst, frsO_fr]
@[simp] theorem boolsL0 : boolsL [] = some [] := (rfl)
@[simp] theorem boolsL1 (b : Bool) (r : List PyData) : boolsL (.bool b :: r) = (boolsL r).map (b :: ·) := by
  rw [boolsL]
  cases boolsL r <;> rfl
@[simp] theorem boolsL_m {α : Type} (f : α → Bool) (l : List α) : boolsL (l.map fun x => .bool (f x)) = some (l.map f) := boolsL_map f l
@[simp] theorem ixT (ds : List PyData) (i : Int) : idxO (.fr (.tuple ds)) (.int i) = (L2.atI ds i).map .fr := (rfl)
@[simp] theorem ixFL (ds : List PyData) (i : Int) : idxO (.fr (.list ds)) (.int i) = (L2.atI ds i).map .fr := (rfl)
@[simp] theorem ixL (xs : List OV) (i : Int) : idxO (.lst xs) (.int i) = L2.atI xs i := (rfl)
@[simp] theorem rdV_mf (i : Nat) (ρ : En) (ds : List PyData) : rdV false i ρ (some (mkLst ds)) = some (.ok (.fr (.list ds)), setS ρ i (.fr (.list ds))) := by
  have e := fzM ds
  rw [← e]
  rfl
/-- what a body's end answers -/
def ansO : Except Nat Fl → Except Nat PyData
  | .error c => .error c
  | .ok .nx => .ok .none
  | .ok (.rt d) => .ok d
/-- a call's answer by its body -/
theorem callF_of {G : Nat → Option Fn} {n f : Nat} {F : Fn} {args : List OV} (h : G f = some F) (ha : okArgs F.ps args = true) {r : Except Nat Fl} {ρ : En} (hb : exSs (callF G n) F.body (startE F args) = some (r, ρ)) {os : List OV} (ho : outs F.ps 0 ρ = some os) :
    callF G (n + 1) f args = some (ansO r, os) := by
  unfold callF
  rw [h]
  dsimp only
  rw [if_pos ha, hb]
  dsimp only
  rw [ho]
  cases r with
  | error c => rfl
  | ok f => cases f <;> rfl
@[simp] theorem q_var (i : Nat) : quiet (.var i) = true := by rw [quiet]
@[simp] theorem q_cst (d : PyData) : quiet (.cst d) = true := by rw [quiet]
@[simp] theorem q_glo (d : PyData) : quiet (.glo d) = true := by rw [quiet]
@[simp] theorem q_bin (o : Bop) (a b : Ex) : quiet (.bin o a b) = (quiet a && quiet b) := by rw [quiet]
@[simp] theorem q_neg (a : Ex) : quiet (.neg a) = quiet a := by rw [quiet]
@[simp] theorem q_nt (a : Ex) : quiet (.nt a) = quiet a := by rw [quiet]
@[simp] theorem q_bo (k : Bool) (es : Exs) : quiet (.bo k es) = quiets es := by rw [quiet]
@[simp] theorem q_cmp (o : Cop) (a b : Ex) : quiet (.cmp o a b) = (quiet a && quiet b) := by rw [quiet]
@[simp] theorem q_isN (k : Bool) (a : Ex) : quiet (.isN k a) = quiet a := by rw [quiet]
@[simp] theorem q_chain (o p : Cop) (a b c : Ex) : quiet (.chain o p a b c) = (quiet a && quiet b && quiet c) := by rw [quiet]
@[simp] theorem q_ite (c a b : Ex) : quiet (.ite c a b) = (quiet c && quiet a && quiet b) := by rw [quiet]
@[simp] theorem q_tup (es : Exs) : quiet (.tup es) = quiets es := by rw [quiet]
@[simp] theorem q_lst (es : Exs) : quiet (.lst es) = quiets es := by rw [quiet]
@[simp] theorem q_idx (a b : Ex) : quiet (.idx a b) = (quiet a && quiet b) := by rw [quiet]
@[simp] theorem q_slc (a : Ex) (lo hi : Exs) : quiet (.slc a lo hi) = (quiet a && quiets lo && quiets hi) := by rw [quiet]
@[simp] theorem q_call (f : Nat) (ms : List AM) (es : Exs) : quiet (.call f ms es) = (!ms.contains .io && quiets es) := by rw [quiet]
@[simp] theorem q_blt (b : Blt) (es : Exs) : quiet (.blt b es) = quiets es := by rw [quiet]
@[simp] theorem q_meth (k : Mth) (o : Ex) (es : Exs) : quiet (.meth k o es) = (quiet o && quiets es) := by rw [quiet]
@[simp] theorem q_comp (e : Ex) (g : Gns) (own : List Nat) : quiet (.comp e g own) = (quiet e && quietG g) := by rw [quiet]
@[simp] theorem q_frz (a : Ex) : quiet (.frz a) = quiet a := by rw [quiet]
@[simp] theorem q_0 : quiets .nil = true := by rw [quiets]
@[simp] theorem q_1 (e : Ex) (es : Exs) : quiets (.cons e es) = (quiet e && quiets es) := by rw [quiets]
@[simp] theorem qi_it (e : Ex) : quietI (.it e) = quiet e := by rw [quietI]
@[simp] theorem qi_rng (es : Exs) : quietI (.rng es) = quiets es := by rw [quietI]
@[simp] theorem qi_zip (a b : Ex) : quietI (.zip a b) = (quiet a && quiet b) := by rw [quietI]
@[simp] theorem qi_enum (a : Ex) : quietI (.enum a) = quiet a := by rw [quietI]
@[simp] theorem qg_0 : quietG .nil = true := by rw [quietG]
@[simp] theorem qg_1 (t : Tg) (i : Itr) (c : Exs) (gs : Gns) : quietG (.cons t i c gs) = (quietI i && quiets c && quietG gs) := by rw [quietG]
@[simp] theorem ip_var (i : Nat) : isPath (.var i) = true := (rfl)
@[simp] theorem ip_idx (a i : Ex) : isPath (.idx a i) = isPath a := (rfl)
@[simp] theorem ip_call (f : Nat) (ms : List AM) (es : Exs) : isPath (.call f ms es) = false := (rfl)
@[simp] theorem ip_lst (es : Exs) : isPath (.lst es) = false := (rfl)
@[simp] theorem ip_tup (es : Exs) : isPath (.tup es) = false := (rfl)
@[simp] theorem ip_blt (b : Blt) (es : Exs) : isPath (.blt b es) = false := (rfl)
@[simp] theorem ip_comp (e : Ex) (g : Gns) (own : List Nat) : isPath (.comp e g own) = false := (rfl)
@[simp] theorem ip_slc (a : Ex) (lo hi : Exs) : isPath (.slc a lo hi) = false := (rfl)
@[simp] theorem ip_meth (k : Mth) (o : Ex) (es : Exs) : isPath (.meth k o es) = false := (rfl)
@[simp] theorem ip_bin (o : Bop) (a b : Ex) : isPath (.bin o a b) = false := (rfl)
@[simp] theorem frsO_0 : frsO [] = some [] := (rfl)
@[simp] theorem frsO_1 (d : PyData) (xs : List OV) : frsO (.fr d :: xs) = (frsO xs).map (d :: ·) := by
  rw [frsO]
  cases frsO xs <;> rfl
@[simp] theorem frsO_m (ds : List PyData) : frsO (ds.map .fr) = some ds := frsO_fr ds
@[simp] theorem mkTup_e (xs : List OV) : mkTup xs = match frsO xs with
  | some ds => .fr (.tuple ds)
  | none => .tup xs := (rfl)
end DP
namespace DP
open PySem PySem.Spec
@[simp] theorem bop_fM (o : Cop) (a : PyData) (ds : List PyData) : bopO o (.fr a) (mkLst ds) = (cmpD o a (.list ds)).map fun r => .fr (.bool r) := by
  unfold bopO
  rw [fzM]
  rfl
@[simp] theorem bop_Mf (o : Cop) (a : PyData) (ds : List PyData) : bopO o (mkLst ds) (.fr a) = (cmpD o (.list ds) a).map fun r => .fr (.bool r) := by
  unfold bopO
  rw [fzM]
  rfl
@[simp] theorem bop_MM (o : Cop) (es ds : List PyData) : bopO o (mkLst es) (mkLst ds) = (cmpD o (.list es) (.list ds)).map fun r => .fr (.bool r) := by
  unfold bopO
  rw [fzM, fzM]
@[simp] theorem bop_M0 (o : Cop) (es : List PyData) : bopO o (mkLst es) (.lst []) = (cmpD o (.list es) (.list [])).map fun r => .fr (.bool r) := by
  have : OV.lst [] = mkLst [] := (rfl)
  rw [this, bop_MM]
end DP
namespace DP
open PySem PySem.Spec
@[simp] theorem rdP_0 (o : OV) : rdP o [] = some o := by cases o <;> rfl
@[simp] theorem wrP_0 (o v : OV) : wrP o [] v = some v := by cases o <;> rfl
def lstB (o : Option OV) : Bool := match o with
  | some (.lst _) => true
  | _ => false
@[simp] theorem lstB_M (ds : List PyData) : lstB (some (mkLst ds)) = true := (rfl)
@[simp] theorem lstB_L (xs : List OV) : lstB (some (.lst xs)) = true := (rfl)
@[simp] theorem isLP_e (ρ : En) (i : Nat) (ks : List Int) : isLP ρ i ks = lstB ((getS ρ i).bind fun o => rdP o ks) := by
  unfold isLP lstB
  cases getS ρ i with
  | none => rfl
  | some o =>
    dsimp only [Option.bind]
    try (cases rdP o ks with
    | none => rfl
    | some o => cases o <;> rfl)
@[simp] theorem rdP_1 (xs : List OV) (k : Int) (ks : List Int) : rdP (.lst xs) (k :: ks) = (L2.atI xs k).bind fun o => rdP o ks := by
  rw [rdP]
  cases L2.atI xs k <;> rfl
theorem mut_app {ds : List PyData} (d : PyData) (h : ds.length ≤ 1000000) : mutO .append (mkLst ds) [.fr d] = some (.fr .none, mkLst (ds ++ [d])) := by
  unfold mutO mkLst
  dsimp only
  rw [if_pos (show small (ds.map OV.fr).length = true from decide_eq_true (by rw [List.length_map]; exact h)), List.map_append]
  rfl
theorem mut_ext {ds es : List PyData} (h : ds.length + es.length ≤ 1000000) : mutO .extend (mkLst ds) [mkLst es] = some (.fr .none, mkLst (ds ++ es)) := by
  unfold mutO mkLst
  dsimp only
  rw [if_pos (show small ((ds.map OV.fr).length + (es.map OV.fr).length) = true from decide_eq_true (by rw [List.length_map, List.length_map]; exact h)), List.map_append]
end DP

set_option Elab.async false
set_option linter.all false
set_option autoImplicit false
set_option maxRecDepth 100000
set_option maxHeartbeats 4000000
/-! M2: plain data: equality, order, lists of places. -/
namespace DP
open PySem PySem.Spec
mutual
/-- no truth value, no dict, at most so deep -/
def pl : Nat → PyData → Bool
  | _, .none => true
  | _, .int _ => true
  | _, .str x => PyData.strOk x
  | _, .bool _ => false
  | _, .dict _ => false
  | 0, .list _ => false
  | 0, .tuple _ => false
  | k + 1, .list ds => pls k ds
  | k + 1, .tuple ds => pls k ds
def pls : Nat → List PyData → Bool
  | _, [] => true
  | k, d :: ds => pl k d && pls k ds
end
theorem pls_iff {k : Nat} : ∀ {ds : List PyData}, pls k ds = true ↔ ∀ d ∈ ds, pl k d = true
  | [] => by simp -implicitDefEqProofs [pls]
  | d :: ds => by simp -implicitDefEqProofs [pls, pls_iff (ds := ds)]
mutual
theorem pl_depth : ∀ (k : Nat) (d : PyData), pl k d = true → d.canLay0 = true ∧ d.depth ≤ k
  | k, .none, _ => ⟨rfl, by simp -implicitDefEqProofs [PyData.depth]⟩
  | k, .int _, _ => ⟨rfl, by simp -implicitDefEqProofs [PyData.depth]⟩
  | k, .str x, h => ⟨by simpa [pl, PyData.canLay0] using h, by simp -implicitDefEqProofs [PyData.depth]⟩
  | k, .bool _, h => by simp -implicitDefEqProofs [pl] at h
  | k, .dict _, h => by simp -implicitDefEqProofs [pl] at h
  | 0, .list _, h => by simp -implicitDefEqProofs [pl] at h
  | 0, .tuple _, h => by simp -implicitDefEqProofs [pl] at h
  | k + 1, .list ds, h => by
    obtain ⟨h1, h2⟩ := pls_depth k ds (by simpa [pl] using h)
    exact ⟨by simpa [PyData.canLay0] using h1, by simp -implicitDefEqProofs [PyData.depth]; omega⟩
  | k + 1, .tuple ds, h => by
    obtain ⟨h1, h2⟩ := pls_depth k ds (by simpa [pl] using h)
    exact ⟨by simpa [PyData.canLay0] using h1, by simp -implicitDefEqProofs [PyData.depth]; omega⟩
theorem pls_depth : ∀ (k : Nat) (ds : List PyData), pls k ds = true → PyData.canLayAll0 ds = true ∧ PyData.depthAll ds ≤ k
  | k, [], _ => ⟨by simp -implicitDefEqProofs [PyData.canLayAll0], by simp -implicitDefEqProofs [PyData.depthAll]⟩
  | k, d :: ds, h => by
    have h' : pl k d = true ∧ pls k ds = true := by simpa [pls] using h
    obtain ⟨h1, h2⟩ := pl_depth k d h'.1
    obtain ⟨h3, h4⟩ := pls_depth k ds h'.2
    exact ⟨by simp -implicitDefEqProofs [PyData.canLayAll0, h1, h3], by simp -implicitDefEqProofs [PyData.depthAll]; omega⟩
end
theorem pl_shaped {k : Nat} {d : PyData} (h : pl k d = true) (hk : k ≤ 64 := by omega) : SeqAt.shaped d = true := by
  obtain ⟨h1, h2⟩ := pl_depth k d h
  unfold SeqAt.shaped
  rw [h1, decide_eq_true (by omega)]
  rfl
mutual
theorem pl_eqv : ∀ (k j : Nat) (a b : PyData), pl k a = true → pl j b = true → (PyData.eqv a b = true ↔ a = b)
  | k, j, .none, b, _, h => by cases b <;> simp -implicitDefEqProofs [PyData.eqv]
  | k, j, .int i, b, _, h => by cases b <;> simp -implicitDefEqProofs [PyData.eqv, pl] at h ⊢
  | k, j, .str x, b, _, h => by cases b <;> simp -implicitDefEqProofs [PyData.eqv, pl] at h ⊢
  | k, j, .bool _, b, h, _ => by simp -implicitDefEqProofs [pl] at h
  | k, j, .dict _, b, h, _ => by simp -implicitDefEqProofs [pl] at h
  | 0, j, .list _, b, h, _ => by simp -implicitDefEqProofs [pl] at h
  | 0, j, .tuple _, b, h, _ => by simp -implicitDefEqProofs [pl] at h
  | k + 1, j, .list xs, b, h, h' => by
    cases b with
    | list ys =>
      cases j with
      | zero => simp -implicitDefEqProofs [pl] at h'
      | succ j => simpa [PyData.eqv] using pls_eqv k j xs ys (by simpa [pl] using h) (by simpa [pl] using h')
    | _ => simp -implicitDefEqProofs [PyData.eqv]
  | k + 1, j, .tuple xs, b, h, h' => by
    cases b with
    | tuple ys =>
      cases j with
      | zero => simp -implicitDefEqProofs [pl] at h'
      | succ j => simpa [PyData.eqv] using pls_eqv k j xs ys (by simpa [pl] using h) (by simpa [pl] using h')
    | _ => simp -implicitDefEqProofs [PyData.eqv]
theorem pls_eqv : ∀ (k j : Nat) (xs ys : List PyData), pls k xs = true → pls j ys = true → (PyData.eqvAll xs ys = true ↔ xs = ys)
  | k, j, [], [], _, _ => by simp -implicitDefEqProofs [PyData.eqvAll]
  | k, j, [], _ :: _, _, _ => by simp -implicitDefEqProofs [PyData.eqvAll]
  | k, j, _ :: _, [], _, _ => by simp -implicitDefEqProofs [PyData.eqvAll]
  | k, j, x :: xs, y :: ys, h, h' => by
    have h1 : pl k x = true ∧ pls k xs = true := by simpa [pls] using h
    have h2 : pl j y = true ∧ pls j ys = true := by simpa [pls] using h'
    have e1 := pl_eqv k j x y h1.1 h2.1
    have e2 := pls_eqv k j xs ys h1.2 h2.2
    simp -implicitDefEqProofs [PyData.eqvAll, e1, e2]
end

def tupI (l : List Int) : PyData := .tuple (l.map .int)
theorem pls_ints (k : Nat) : ∀ l : List Int, pls k (l.map .int) = true
  | [] => rfl
  | i :: l => by rw [List.map_cons, pls, pls_ints k l]; simp -implicitDefEqProofs [pl]
@[simp] theorem pl_tupI (k : Nat) (l : List Int) : pl (k + 1) (tupI l) = true := by
  unfold tupI
  rw [pl]
  exact pls_ints k l
theorem tupI_inj {a b : List Int} (h : tupI a = tupI b) : a = b := by
  unfold tupI at h
  injection h with h
  exact (List.map_inj_right (fun x y e => by injection e)).mp h
/-- each one before the next -/
def upBy (lt : PyData → PyData → Bool) : List PyData → Bool
  | a :: b :: r => lt a b && upBy lt (b :: r)
  | _ => true
theorem up_range (lt : PyData → PyData → Bool) : ∀ ds : List PyData, ((List.range (ds.length - 1)).all fun i => lt (ds.getD i .none) (ds.getD (i + 1) .none)) = upBy lt ds
  | [] => rfl
  | [_] => rfl
  | a :: b :: r => by
    have ih := up_range lt (b :: r)
    rw [upBy, ← ih]
    show ((List.range (r.length + 1)).all _) = _
    rw [List.range_succ_eq_map, List.all_cons, List.all_map]
    rfl
/-- the numbers below a bound, as data -/
def natsD (n : Nat) : List PyData := (List.range n).map fun k : Nat => .int (k : Int)
theorem rng_nat (n : Nat) (h : n ≤ 1000000) : rngD [.int (n : Int)] = some (natsD n) := by
  have : okR (n : Int) = true := by
    unfold okR
    rw [Bool.and_eq_true, decide_eq_true_eq, decide_eq_true_eq]
    omega
  rw [rngD, if_pos this]
  rfl
theorem mem_nats {n : Nat} {d : PyData} (h : d ∈ natsD n) : ∃ k, k < n ∧ d = .int (k : Nat) := by
  obtain ⟨k, h1, h2⟩ := List.mem_map.mp h
  exact ⟨k, List.mem_range.mp h1, h2.symm⟩
theorem atI_nat {α : Type} {xs : List α} {k : Nat} (h : k < xs.length) : L2.atI xs (k : Int) = xs[k]? := by
  unfold L2.atI L2.ixN
  rw [if_pos (by omega), if_pos (by omega)]
  simp -implicitDefEqProofs
theorem atI_getD {xs : List PyData} {k : Nat} (h : k < xs.length) : L2.atI xs (k : Int) = some (xs.getD k .none) := by
  rw [atI_nat h, List.getElem?_eq_getElem h, List.getD_eq_getElem?_getD, List.getElem?_eq_getElem h]
  rfl
end DP

set_option Elab.async false
set_option linter.all false
set_option autoImplicit false
set_option maxRecDepth 100000
set_option maxHeartbeats 4000000
/-! M3: comprehensions and loops over typed rows. -/
namespace DP
open PySem PySem.Spec
/-- what a turn gives, with the slots of the comprehension emptied -/
def wipeR {α : Type} (own : List Nat) : R α → Option (α × En)
  | some (.ok v, ρ) => some (v, wipeS ρ own)
  | _ => none
@[simp] theorem wipeR_ok {α : Type} (own : List Nat) (v : α) (ρ : En) : wipeR own (some (.ok v, ρ)) = some (v, wipeS ρ own) := (rfl)
theorem wipeR_iff {α : Type} {own : List Nat} {r : R α} {v : α} {ρ : En} (h : wipeR own r = some (v, ρ)) : ∃ ρ', r = some (.ok v, ρ') ∧ wipeS ρ' own = ρ := by
  unfold wipeR at h
  split at h
  · cases h
    exact ⟨_, rfl, rfl⟩
  · cases h
theorem loopL_typed {α : Type} (enc : α → PyData) {f : PyData → En → R (List OV)} {own : List Nat} {base : En} {g : α → List OV} : ∀ (xs : List α), (∀ x ∈ xs, ∀ ρ, wipeS ρ own = base → ∃ ρ', f (enc x) ρ = some (.ok (g x), ρ') ∧ wipeS ρ' own = base) →
    ∀ ρ, wipeS ρ own = base → ∃ ρe, loopL f (xs.map enc) ρ = some (.ok (xs.flatMap g), ρe) ∧ wipeS ρe own = base
  | [], _, ρ, h => ⟨ρ, rfl, h⟩
  | d :: ds, hf, ρ, h => by
    obtain ⟨ρ1, e1, h1⟩ := hf d List.mem_cons_self ρ h
    obtain ⟨ρ2, e2, h2⟩ := loopL_typed enc ds (fun d hd => hf d (List.mem_cons_of_mem _ hd)) ρ1 h1
    refine ⟨ρ2, ?_, h2⟩
    rw [List.map_cons]
    unfold loopL
    rw [e1, b_ok, e2, b_ok, List.flatMap_cons]
    rfl
theorem comp_typed {α : Type} (enc : α → PyData) {fI : En → R (List PyData)} {t : Tg} {vs : List Nat} {fT : En → R Bool} {fe : En → R (List OV)} {ρ ρ1 : En} {xs : List α} (g : α → List OV) (hI : fI ρ = some (.ok (xs.map enc), ρ1)) (hs : (xs.flatMap g).length ≤ 1000000)
    (h : ∀ x ∈ xs, ∃ ρ2 b ρ3, asgT t (.fr (enc x)) (wipeS ρ1 vs) = some ρ2 ∧ fT ρ2 = some (.ok b, ρ3) ∧ ((b = false ∧ g x = [] ∧ wipeS ρ3 vs = wipeS ρ1 vs) ∨ (b = true ∧ ∃ ρ4, fe ρ3 = some (.ok (g x), ρ4) ∧ wipeS ρ4 vs = wipeS ρ1 vs))) :
    compF fI t vs fT fe ρ = some (.ok (.lst (xs.flatMap g)), wipeS ρ1 vs) := by
  obtain ⟨ρe, e1, e2⟩ := loopL_typed enc (f := turnF t vs fT fe) (own := vs) (base := wipeS ρ1 vs) (g := g) xs (fun d hd ρ h0 => by
    obtain ⟨ρ2, b, ρ3, h1, h2, h3⟩ := h d hd
    unfold turnF
    rw [h0, h1]
    dsimp only
    rw [h2, b_ok]
    rcases h3 with ⟨rfl, hg, hw⟩ | ⟨rfl, ρ4, he, hw⟩
    · exact ⟨ρ3, by rw [if_neg Bool.false_ne_true, hg]; rfl, hw⟩
    · exact ⟨ρ4, by rw [if_pos rfl]; exact he, hw⟩) ρ1 rfl
  unfold compF
  rw [hI, b_ok, e1, r_noE, b_ok, if_pos (show small _ = true from decide_eq_true hs), e2]
  rfl
section
variable {α : Type} {cf : CF} {m : Bool} {elt : Ex} {t : Tg} {i : Itr} {own : List Nat} {ρ ρ1 : En}
/-- [e for t in i] -/
theorem c_map (enc : α → PyData) (xs : List α) (f : α → PyData) (hI : evI cf i ρ = some (.ok (xs.map enc), ρ1)) (hs : xs.length ≤ 1000000)
    (hd : ∀ x ∈ xs, (asgT t (.fr (enc x)) (wipeS ρ1 own)).bind (fun ρ2 => wipeR own (ev cf false elt ρ2)) = some (.fr (f x), wipeS ρ1 own)) :
    ev cf m (.comp elt (.cons t i .nil .nil) own) ρ = some (.ok (mkLst (xs.map f)), wipeS ρ1 own) := by
  rw [ev_comp]
  have e : mkLst (xs.map f) = .lst (xs.flatMap fun d => [.fr (f d)]) := by
    unfold mkLst
    rw [List.map_map, fm1]
    rfl
  rw [e]
  refine comp_typed enc (fun d => [.fr (f d)]) hI (by rw [fm1 (fun d => OV.fr (f d)), List.length_map]; exact hs) fun d hm => ?_
  have h := hd d hm
  rw [Option.bind_eq_some_iff] at h
  obtain ⟨ρ2, h1, h2⟩ := h
  obtain ⟨ρ4, h3, h4⟩ := wipeR_iff h2
  exact ⟨ρ2, true, ρ2, h1, by simp -implicitDefEqProofs [evT], .inr ⟨rfl, ρ4, by unfold oneF; rw [h3]; rfl, h4⟩⟩
/-- [e for t in i if c] -/
theorem c_filter {c : Ex} (enc : α → PyData) (xs : List α) (p : α → Bool) (f : α → PyData) (hI : evI cf i ρ = some (.ok (xs.map enc), ρ1)) (hs : xs.length ≤ 1000000)
    (hd : ∀ x ∈ xs, ∃ ρ2 ρ3, asgT t (.fr (enc x)) (wipeS ρ1 own) = some ρ2 ∧ ev cf true c ρ2 = some (.ok (.fr (.bool (p x))), ρ3) ∧ wipeS ρ3 own = wipeS ρ1 own ∧ (p x = true → wipeR own (ev cf false elt ρ3) = some (.fr (f x), wipeS ρ1 own))) :
    ev cf m (.comp elt (.cons t i (.cons c .nil) .nil) own) ρ = some (.ok (mkLst ((xs.filter p).map f)), wipeS ρ1 own) := by
  rw [ev_comp]
  have e : ∀ l : List α, (l.flatMap fun d => if p d then [OV.fr (f d)] else []) = ((l.filter p).map f).map .fr := by
    intro l
    induction l with
    | nil => rfl
    | cons a l ih =>
      rw [List.flatMap_cons, ih, List.filter_cons]
      cases p a <;> rfl
  unfold mkLst
  rw [← e xs]
  refine comp_typed enc _ hI ?_ fun d hm => ?_
  · rw [e, List.length_map, List.length_map]
    exact Nat.le_trans (List.length_filter_le _ _) hs
  obtain ⟨ρ2, ρ3, h1, h2, h3, h4⟩ := hd d hm
  have h2' : evT cf (.cons c .nil) ρ2 = some (.ok (p d), ρ3) := by
    simp -implicitDefEqProofs only [evT, h2, b_ok, tst_b]
    cases p d <;> rfl
  refine ⟨ρ2, p d, ρ3, h1, h2', ?_⟩
  cases hp : p d with
  | false => exact .inl ⟨rfl, rfl, h3⟩
  | true =>
    obtain ⟨ρ4, h5, h6⟩ := wipeR_iff (h4 hp)
    exact .inr ⟨rfl, ρ4, by unfold oneF; rw [h5]; rfl, h6⟩
/-- all([c for t in i]) -/
theorem c_all (enc : α → PyData) (xs : List α) (p : α → Bool) (hI : evI cf i ρ = some (.ok (xs.map enc), ρ1)) (hs : xs.length ≤ 1000000)
    (hd : ∀ x ∈ xs, (asgT t (.fr (enc x)) (wipeS ρ1 own)).bind (fun ρ2 => wipeR own (ev cf false elt ρ2)) = some (.fr (.bool (p x)), wipeS ρ1 own)) :
    ev cf m (.blt .all (.cons (.comp elt (.cons t i .nil .nil) own) .nil)) ρ = some (.ok (.fr (.bool (xs.all p))), wipeS ρ1 own) := by
  rw [ev, c_map enc xs (fun d => .bool (p d)) hI hs hd]
  simp -implicitDefEqProofs only [b_ok, mkLst, bltO, lstO, frsO_fr, boolsL_map, Option.map_some, r_of]
  rw [List.all_map]
  rfl
theorem c_any (enc : α → PyData) (xs : List α) (p : α → Bool) (hI : evI cf i ρ = some (.ok (xs.map enc), ρ1)) (hs : xs.length ≤ 1000000)
    (hd : ∀ x ∈ xs, (asgT t (.fr (enc x)) (wipeS ρ1 own)).bind (fun ρ2 => wipeR own (ev cf false elt ρ2)) = some (.fr (.bool (p x)), wipeS ρ1 own)) :
    ev cf m (.blt .any (.cons (.comp elt (.cons t i .nil .nil) own) .nil)) ρ = some (.ok (.fr (.bool (xs.any p))), wipeS ρ1 own) := by
  rw [ev, c_map enc xs (fun d => .bool (p d)) hI hs hd]
  simp -implicitDefEqProofs only [b_ok, mkLst, bltO, lstO, frsO_fr, boolsL_map, Option.map_some, r_of]
  rw [List.any_map]
  rfl
end
/-- a for loop: P tells what holds after each turn -/
theorem for_run {α β : Type} (enc : α → PyData) {f : PyData → En → R Fl} (P : β → En → Prop) (step : β → α → β) : ∀ (xs : List α) (b : β) (ρ : En), P b ρ → (∀ b, ∀ x ∈ xs, ∀ ρ, P b ρ → ∃ ρ', f (enc x) ρ = some (.ok .nx, ρ') ∧ P (step b x) ρ') →
    ∃ ρ', forL f (xs.map enc) ρ = some (.ok .nx, ρ') ∧ P (xs.foldl step b) ρ'
  | [], b, ρ, h, _ => ⟨ρ, rfl, h⟩
  | x :: xs, b, ρ, h, hf => by
    obtain ⟨ρ1, e1, h1⟩ := hf b x List.mem_cons_self ρ h
    obtain ⟨ρ2, e2, h2⟩ := for_run enc P step xs (step b x) ρ1 h1 (fun b y hy => hf b y (List.mem_cons_of_mem _ hy))
    refine ⟨ρ2, ?_, h2⟩
    rw [List.map_cons]
    unfold forL
    rw [e1, b_ok]
    exact e2
/-- the same, with a state that keeps an invariant -/
theorem for_inv {α β : Type} (enc : α → PyData) {f : PyData → En → R Fl} (P : β → En → Prop) (I : β → Prop) (step : β → α → β) : ∀ (xs : List α) (b : β) (ρ : En), P b ρ → I b → (∀ b, I b → ∀ x ∈ xs, ∀ ρ, P b ρ → I (step b x) ∧ ∃ ρ', f (enc x) ρ = some (.ok .nx, ρ') ∧ P (step b x) ρ') →
    I (xs.foldl step b) ∧ ∃ ρ', forL f (xs.map enc) ρ = some (.ok .nx, ρ') ∧ P (xs.foldl step b) ρ'
  | [], b, ρ, h, hi, _ => ⟨hi, ρ, rfl, h⟩
  | x :: xs, b, ρ, h, hi, hf => by
    obtain ⟨i1, ρ1, e1, h1⟩ := hf b hi x List.mem_cons_self ρ h
    obtain ⟨i2, ρ2, e2, h2⟩ := for_inv enc P I step xs (step b x) ρ1 h1 i1 (fun b hb y hy => hf b hb y (List.mem_cons_of_mem _ hy))
    refine ⟨i2, ρ2, ?_, h2⟩
    rw [List.map_cons]
    unfold forL
    rw [e1, b_ok]
    exact e2
/-- a number as data -/
def natD (k : Nat) : PyData := .int (k : Int)
theorem rng_int {j : Int} (h0 : -1000000 ≤ j) (h : j ≤ 1000000) : rngD [.int j] = some ((List.range j.toNat).map natD) := by
  have : okR j = true := by
    unfold okR
    rw [Bool.and_eq_true, decide_eq_true_eq, decide_eq_true_eq]
    omega
  rw [rngD, if_pos this]
  rfl
theorem rng_int2 {i j : Int} (h0 : -1000000 ≤ i) (h1 : i ≤ 1000000) (h2 : -1000000 ≤ j) (h3 : j ≤ 1000000) : rngD [.int i, .int j] = some ((List.range (j - i).toNat).map fun k : Nat => .int (i + k)) := by
  have o1 : okR i = true := by
    unfold okR
    rw [Bool.and_eq_true, decide_eq_true_eq, decide_eq_true_eq]
    omega
  have o2 : okR j = true := by
    unfold okR
    rw [Bool.and_eq_true, decide_eq_true_eq, decide_eq_true_eq]
    omega
  rw [rngD, o1, o2]
  rfl
theorem atI_lt {α : Type} {xs : List α} {k : Nat} (h : k < xs.length) : L2.atI xs (k : Int) = some xs[k] := by
  rw [atI_nat h, List.getElem?_eq_getElem h]
theorem atI_lt1 {α : Type} {xs : List α} {k : Nat} (h : k + 1 < xs.length) : L2.atI xs ((k : Int) + 1) = some xs[k + 1] := by
  have e : (k : Int) + 1 = ((k + 1 : Nat) : Int) := by omega
  rw [e]
  exact atI_lt h
end DP
namespace DP
open PySem PySem.Spec
theorem atI_m {α β : Type} (f : α → β) (xs : List α) (d : α) {k : Nat} (h : k < xs.length) : L2.atI (xs.map f) (k : Int) = some (f (xs.getD k d)) := by
  rw [atI_nat (by rw [List.length_map]; exact h), List.getElem?_map, List.getElem?_eq_getElem h, List.getD_eq_getElem?_getD, List.getElem?_eq_getElem h]
  rfl
theorem atI_m1 {α β : Type} (f : α → β) (xs : List α) (d : α) {k : Nat} (h : k + 1 < xs.length) : L2.atI (xs.map f) ((k : Int) + 1) = some (f (xs.getD (k + 1) d)) := by
  have e : (k : Int) + 1 = ((k + 1 : Nat) : Int) := by omega
  rw [e]
  exact atI_m f xs d h
/-- each one before the next -/
def upB {α : Type} (lt : α → α → Bool) : List α → Bool
  | a :: b :: r => lt a b && upB lt (b :: r)
  | _ => true
theorem upB_range {α : Type} (lt : α → α → Bool) (d : α) : ∀ xs : List α, ((List.range (xs.length - 1)).all fun i => lt (xs.getD i d) (xs.getD (i + 1) d)) = upB lt xs
  | [] => rfl
  | [_] => rfl
  | a :: b :: r => by
    have ih := upB_range lt d (b :: r)
    rw [upB, ← ih]
    show ((List.range (r.length + 1)).all _) = _
    rw [List.range_succ_eq_map, List.all_cons, List.all_map]
    rfl
end DP
namespace DP
open PySem PySem.Spec
theorem allP {α : Type} (p : α → Bool) (xs : List α) : bltO .all [mkLst (xs.map fun x => .bool (p x))] = some (.fr (.bool (xs.all p))) := by
  simp -implicitDefEqProofs only [bltO, mkLst, lstO, frsO_fr, boolsL_map, Option.map_some, List.all_map]
  rfl
theorem anyP {α : Type} (p : α → Bool) (xs : List α) : bltO .any [mkLst (xs.map fun x => .bool (p x))] = some (.fr (.bool (xs.any p))) := by
  simp -implicitDefEqProofs only [bltO, mkLst, lstO, frsO_fr, boolsL_map, Option.map_some, List.any_map]
  rfl
end DP
namespace DP
open PySem PySem.Spec
theorem pls_tup {k : Nat} (ds : List PyData) (h : pls k ds = true) (hk : k ≤ 60) : SeqAt.shaped (.tuple ds) = true := pl_shaped (k := k + 1) (by rw [pl]; exact h)
theorem pls_lst {k : Nat} (ds : List PyData) (h : pls k ds = true) (hk : k ≤ 60) : SeqAt.shaped (.list ds) = true := pl_shaped (k := k + 1) (by rw [pl]; exact h)
theorem eqv_nil : ∀ ds : List PyData, PyData.eqv (.list ds) (.list []) = ds.isEmpty
  | [] => by simp -implicitDefEqProofs [PyData.eqv, PyData.eqvAll]
  | d :: ds => by simp -implicitDefEqProofs [PyData.eqv, PyData.eqvAll]
theorem eq_nil {k : Nat} {ds : List PyData} (h : pls k ds = true) (hk : k ≤ 60) : cmpD .eq (.list ds) (.list []) = some ds.isEmpty := by
  show (if SeqAt.shaped (.list ds) && SeqAt.shaped (.list []) then _ else _) = _
  rw [pls_lst ds h hk, pls_lst (k := 0) [] rfl (by omega)]
  show some (PyData.eqv (.list ds) (.list [])) = _
  rw [eqv_nil]
theorem ne_nil {k : Nat} {ds : List PyData} (h : pls k ds = true) (hk : k ≤ 60) : cmpD .ne (.list ds) (.list []) = some (!ds.isEmpty) := by
  show (if SeqAt.shaped (.list ds) && SeqAt.shaped (.list []) then _ else _) = _
  rw [pls_lst ds h hk, pls_lst (k := 0) [] rfl (by omega)]
  show some (!PyData.eqv (.list ds) (.list [])) = _
  rw [eqv_nil]
theorem bool_iff {a b : Bool} {P : Prop} (h1 : a = true ↔ P) (h2 : P ↔ b = true) : a = b := by
  cases a <;> cases b <;> simp_all
/-- equality of plain data -/
theorem c_eq {k j : Nat} {a b : PyData} {p : Bool} (ha : pl k a = true) (hb : pl j b = true) (hk : k ≤ 60) (hj : j ≤ 60) (h : a = b ↔ p = true) : cmpD .eq a b = some p := by
  have e := pl_eqv k j a b ha hb
  show (if SeqAt.shaped a && SeqAt.shaped b then _ else _) = _
  rw [pl_shaped ha, pl_shaped hb]
  show some (PyData.eqv a b) = _
  congr 1
  exact bool_iff e h
theorem c_ne {k j : Nat} {a b : PyData} {p : Bool} (ha : pl k a = true) (hb : pl j b = true) (hk : k ≤ 60) (hj : j ≤ 60) (h : a = b ↔ p = true) : cmpD .ne a b = some (!p) := by
  have e := pl_eqv k j a b ha hb
  show (if SeqAt.shaped a && SeqAt.shaped b then _ else _) = _
  rw [pl_shaped ha, pl_shaped hb]
  show some (!PyData.eqv a b) = _
  congr 2
  exact bool_iff e h
theorem any_eqv {k j : Nat} {a : PyData} (ha : pl k a = true) {ds : List PyData} (h : pls j ds = true) : (ds.any fun z => PyData.eqv z a) = true ↔ a ∈ ds := by
  rw [List.any_eq_true]
  constructor
  · rintro ⟨x, hx, e⟩
    rw [← (pl_eqv j k x a (pls_iff.mp h x hx) ha).mp e]
    exact hx
  · exact fun hm => ⟨a, hm, (pl_eqv j k a a (pls_iff.mp h a hm) ha).mpr rfl⟩
theorem c_inT {k j : Nat} {a : PyData} {ds : List PyData} {p : Bool} (ha : pl k a = true) (hb : pls j ds = true) (hk : k ≤ 60) (hj : j ≤ 60) (h : a ∈ ds ↔ p = true) : cmpD .isin a (.tuple ds) = some p := by
  show (if SeqAt.shaped a && SeqAt.shaped (.tuple ds) then _ else _) = _
  rw [pl_shaped ha, pls_tup ds hb hj]
  show some _ = _
  rw [bool_iff (any_eqv ha hb) h]
theorem c_inL {k j : Nat} {a : PyData} {ds : List PyData} {p : Bool} (ha : pl k a = true) (hb : pls j ds = true) (hk : k ≤ 60) (hj : j ≤ 60) (h : a ∈ ds ↔ p = true) : cmpD .isin a (.list ds) = some p := by
  show (if SeqAt.shaped a && SeqAt.shaped (.list ds) then _ else _) = _
  rw [pl_shaped ha, pls_lst ds hb hj]
  show some _ = _
  rw [bool_iff (any_eqv ha hb) h]
theorem c_nin {a b : PyData} {p : Bool} (e : cmpD .isin a b = some p) : cmpD .notin a b = some (!p) := by
  show (cmpD.inD a b).map _ = _
  have e' : cmpD.inD a b = some p := e
  rw [e']
  rfl
theorem pls_map {α : Type} {k : Nat} (f : α → PyData) : ∀ (l : List α), (∀ x ∈ l, pl k (f x) = true) → pls k (l.map f) = true := fun l h => pls_iff.mpr fun d hd => by
  obtain ⟨x, hx, rfl⟩ := List.mem_map.mp hd
  exact h x hx
theorem pls_ints0 (l : List Int) : pls 0 (l.map .int) = true := pls_ints 0 l
theorem mem_ints {i : Int} {l : List Int} : PyData.int i ∈ l.map PyData.int ↔ i ∈ l := by simp -implicitDefEqProofs
theorem mem_tups {a : List Int} {l : List (List Int)} : tupI a ∈ l.map tupI ↔ a ∈ l := by
  constructor
  · intro h
    obtain ⟨b, hb, e⟩ := List.mem_map.mp h
    rw [← tupI_inj e]
    exact hb
  · exact fun h => List.mem_map_of_mem h
theorem c_inI (i : Int) (l : List Int) : cmpD .isin (.int i) (.tuple (l.map .int)) = some (decide (i ∈ l)) :=
  c_inT (k := 0) (j := 0) rfl (pls_ints 0 l) (by omega) (by omega) (by simp -implicitDefEqProofs)
theorem pls_tups (l : List (List Int)) : pls 1 (l.map tupI) = true := pls_map tupI l fun x _ => pl_tupI 0 x
end DP
namespace DP
open PySem PySem.Spec
theorem y_whl {cf : CF} {ρ : En} (c : Ex) (b : Sms) : exS cf (.whl c b) ρ = whlR (fun ρ => (ev cf true c ρ).bind fun x ρ1 => R.of (tstO x) ρ1) (fun ρ => exSs cf b ρ) ρ := by rw [exS] <;> rfl
theorem y_fors {cf : CF} {ρ : En} (t : Tg) (i : Itr) (b : Sms) : exS cf (.fors t i b) ρ = (evI cf i ρ).bind fun ds ρ1 => forL (fun d ρ => match asgT t (.fr d) ρ with
      | none => none
      | some ρ => exSs cf b ρ) ds ρ1 := by rw [exS] <;> rfl
/-- a while whose measure falls -/
theorem whl_run {σ : Type} {c : En → R Bool} {b : En → R Fl} (P : σ → En → Prop) (cond : σ → Bool) (step : σ → σ) (μ : σ → Nat)
    (hc : ∀ s ρ, P s ρ → c ρ = some (.ok (cond s), ρ))
    (hb : ∀ s ρ, P s ρ → cond s = true → ∃ ρ', b ρ = some (.ok .nx, ρ') ∧ P (step s) ρ' ∧ μ (step s) < μ s) :
    ∀ (k : Nat) (s : σ) (ρ : En), μ s < k → P s ρ → ∃ s' ρ', whlR c b ρ = some (.ok .nx, ρ') ∧ P s' ρ' ∧ cond s' = false
  | 0, s, ρ, h, _ => absurd h (Nat.not_lt_zero _)
  | k + 1, s, ρ, h, hp => by
    rw [whlR_eq, hc s ρ hp, b_ok]
    cases hs : cond s with
    | false => exact ⟨s, ρ, by simp -implicitDefEqProofs, hp, hs⟩
    | true =>
      obtain ⟨ρ1, e1, p1, m1⟩ := hb s ρ hp hs
      obtain ⟨s', ρ', e2, p2, c2⟩ := whl_run P cond step μ hc hb k (step s) ρ1 (by omega) p1
      exact ⟨s', ρ', by rw [if_pos rfl, e1, b_ok]; exact e2, p2, c2⟩
/-- the statement -/
theorem s_whl {σ : Type} {cf : CF} {c : Ex} {b : Sms} (P : σ → En → Prop) (cond : σ → Bool) (step : σ → σ) (μ : σ → Nat)
    (hc : ∀ s ρ, P s ρ → ev cf true c ρ = some (.ok (.fr (.bool (cond s))), ρ))
    (hb : ∀ s ρ, P s ρ → cond s = true → ∃ ρ', exSs cf b ρ = some (.ok .nx, ρ') ∧ P (step s) ρ' ∧ μ (step s) < μ s) (s : σ) (ρ : En) (h : P s ρ) :
    ∃ s' ρ', exS cf (.whl c b) ρ = some (.ok .nx, ρ') ∧ P s' ρ' ∧ cond s' = false := by
  rw [y_whl]
  exact whl_run P cond step μ (fun s ρ h => by rw [hc s ρ h, b_ok, tst_b, r_of]) hb (μ s + 1) s ρ (Nat.lt_succ_self _) h
theorem s_for {α β : Type} {cf : CF} {t : Tg} {i : Itr} {b : Sms} {ρ ρ1 : En} (enc : α → PyData) (P : β → En → Prop) (step : β → α → β) (xs : List α) (b0 : β) (hi : evI cf i ρ = some (.ok (xs.map enc), ρ1)) (h0 : P b0 ρ1)
    (hb : ∀ s, ∀ x ∈ xs, ∀ ρ, P s ρ → ∃ ρ' ρ'', asgT t (.fr (enc x)) ρ = some ρ' ∧ exSs cf b ρ' = some (.ok .nx, ρ'') ∧ P (step s x) ρ'') :
    ∃ ρ', exS cf (.fors t i b) ρ = some (.ok .nx, ρ') ∧ P (xs.foldl step b0) ρ' := by
  rw [y_fors, hi, b_ok]
  refine for_run enc P step xs b0 ρ1 h0 fun s x hx ρ hp => ?_
  obtain ⟨ρ', ρ'', e1, e2, e3⟩ := hb s x hx ρ hp
  exact ⟨ρ'', by rw [e1]; exact e2, e3⟩
end DP
namespace DP
open PySem PySem.Spec
theorem for_idx {α : Type} (enc : α → PyData) {f : PyData → En → R Fl} (P : Nat → En → Prop) : ∀ (xs : List α) (k : Nat) (ρ : En), P k ρ → (∀ i (h : i < xs.length) ρ, P (k + i) ρ → ∃ ρ', f (enc xs[i]) ρ = some (.ok .nx, ρ') ∧ P (k + i + 1) ρ') →
    ∃ ρ', forL f (xs.map enc) ρ = some (.ok .nx, ρ') ∧ P (k + xs.length) ρ'
  | [], k, ρ, h, _ => ⟨ρ, rfl, h⟩
  | x :: xs, k, ρ, h, hf => by
    obtain ⟨ρ1, e1, h1⟩ := hf 0 (by simp -implicitDefEqProofs) ρ h
    obtain ⟨ρ2, e2, h2⟩ := for_idx enc P xs (k + 1) ρ1 h1 (fun i hi ρ hp => by
      have := hf (i + 1) (by simp -implicitDefEqProofs; omega) ρ (by rw [show k + (i + 1) = k + 1 + i by omega]; exact hp)
      rw [show k + (i + 1) = k + 1 + i by omega] at this
      exact this)
    refine ⟨ρ2, ?_, by rw [show k + (x :: xs).length = k + 1 + xs.length by simp -implicitDefEqProofs; omega]; exact h2⟩
    rw [List.map_cons]
    unfold forL
    rw [show enc x = enc (x :: xs)[0] from rfl, e1, b_ok]
    exact e2
theorem s_forI {α : Type} {cf : CF} {t : Tg} {i : Itr} {b : Sms} {ρ ρ1 : En} (enc : α → PyData) (P : Nat → En → Prop) (xs : List α) (hi : evI cf i ρ = some (.ok (xs.map enc), ρ1)) (h0 : P 0 ρ1)
    (hb : ∀ k (h : k < xs.length) ρ, P k ρ → ∃ ρ' ρ'', asgT t (.fr (enc xs[k])) ρ = some ρ' ∧ exSs cf b ρ' = some (.ok .nx, ρ'') ∧ P (k + 1) ρ'') :
    ∃ ρ', exS cf (.fors t i b) ρ = some (.ok .nx, ρ') ∧ P xs.length ρ' := by
  rw [y_fors, hi, b_ok]
  obtain ⟨ρ', e1, e2⟩ := for_idx enc (f := fun d ρ => match asgT t (.fr d) ρ with
      | none => none
      | some ρ => exSs cf b ρ) P xs 0 ρ1 h0 fun k hk ρ hp => by
    rw [Nat.zero_add] at hp ⊢
    obtain ⟨ρ', ρ'', e1, e2, e3⟩ := hb k hk ρ hp
    exact ⟨ρ'', by rw [e1]; exact e2, e3⟩
  rw [Nat.zero_add] at e2
  exact ⟨ρ', e1, e2⟩
/-- a row made with a state -/
def stMap {α β σ : Type} (f : σ → α → β) (g : σ → α → σ) : List α → σ → List β
  | [], _ => []
  | x :: xs, s => f s x :: stMap f g xs (g s x)
theorem stMap_len {α β σ : Type} (f : σ → α → β) (g : σ → α → σ) : ∀ (xs : List α) (s : σ), (stMap f g xs s).length = xs.length
  | [], _ => rfl
  | x :: xs, s => by rw [stMap, List.length_cons, stMap_len f g xs, List.length_cons]
theorem stMap_map {α β γ σ : Type} (h : β → γ) (f : σ → α → β) (g : σ → α → σ) : ∀ (xs : List α) (s : σ), (stMap f g xs s).map h = stMap (fun s x => h (f s x)) g xs s
  | [], _ => rfl
  | x :: xs, s => by rw [stMap, List.map_cons, stMap_map h f g xs, stMap]
theorem loopL_st {α σ : Type} (enc : α → PyData) {F : PyData → En → R (List OV)} {own : List Nat} (E : σ → En) (f : σ → α → PyData) (g : σ → α → σ) (I : σ → Prop) : ∀ (xs : List α), (∀ s, I s → ∀ x ∈ xs, ∀ ρ, wipeS ρ own = E s → I (g s x) ∧ ∃ ρ', F (enc x) ρ = some (.ok [.fr (f s x)], ρ') ∧ wipeS ρ' own = E (g s x)) →
    ∀ s ρ, I s → wipeS ρ own = E s → I (xs.foldl g s) ∧ ∃ ρe, loopL F (xs.map enc) ρ = some (.ok ((stMap f g xs s).map .fr), ρe) ∧ wipeS ρe own = E (xs.foldl g s)
  | [], _, s, ρ, hi, h => ⟨hi, ρ, rfl, h⟩
  | x :: xs, hf, s, ρ, hi, h => by
    obtain ⟨i1, ρ1, e1, h1⟩ := hf s hi x List.mem_cons_self ρ h
    obtain ⟨i2, ρ2, e2, h2⟩ := loopL_st enc E f g I xs (fun s hs y hy => hf s hs y (List.mem_cons_of_mem _ hy)) (g s x) ρ1 i1 h1
    refine ⟨i2, ρ2, ?_, h2⟩
    rw [List.map_cons]
    unfold loopL
    rw [e1, b_ok, e2, b_ok]
    rfl
/-- [e for t in i] where the turns change slots -/
theorem c_st {α σ : Type} {cf : CF} {m : Bool} {elt : Ex} {t : Tg} {i : Itr} {own : List Nat} {ρ ρ1 : En} (enc : α → PyData) (xs : List α) (E : σ → En) (f : σ → α → PyData) (g : σ → α → σ) (I : σ → Prop) (s0 : σ)
    (hI : evI cf i ρ = some (.ok (xs.map enc), ρ1)) (h0 : wipeS ρ1 own = E s0) (hi : I s0) (hs : xs.length ≤ 1000000)
    (hd : ∀ s, I s → ∀ x ∈ xs, I (g s x) ∧ (asgT t (.fr (enc x)) (E s)).bind (fun ρ2 => wipeR own (ev cf false elt ρ2)) = some (.fr (f s x), E (g s x))) :
    I (xs.foldl g s0) ∧ ev cf m (.comp elt (.cons t i .nil .nil) own) ρ = some (.ok (mkLst (stMap f g xs s0)), E (xs.foldl g s0)) := by
  rw [ev_comp]
  obtain ⟨i2, ρe, e1, e2⟩ := loopL_st enc (F := turnF t own (evT cf .nil) (oneF (ev cf false elt))) (own := own) E f g I xs (fun s hI x hx ρ hw => by
    obtain ⟨j1, j2⟩ := hd s hI x hx
    refine ⟨j1, ?_⟩
    rw [Option.bind_eq_some_iff] at j2
    obtain ⟨ρ2, h1, h2⟩ := j2
    obtain ⟨ρ4, h3, h4⟩ := wipeR_iff h2
    refine ⟨ρ4, ?_, h4⟩
    unfold turnF
    rw [hw, h1]
    dsimp only
    rw [x_t0, b_ok, if_pos rfl]
    unfold oneF
    rw [h3]
    rfl) s0 ρ1 hi h0
  refine ⟨i2, ?_⟩
  unfold compF
  rw [hI, b_ok, e1, r_noE, b_ok, List.length_map, stMap_len, if_pos (show small xs.length = true from decide_eq_true hs), e2]
  rfl
@[simp] theorem o_addM (xs ys : List PyData) : binO .add (mkLst xs) (mkLst ys) = if small (xs.length + ys.length) then some (mkLst (xs ++ ys)) else none := by
  unfold binO mkLst
  simp -implicitDefEqProofs only [lstO, frsO_m]
@[simp] theorem o_addFM (xs ys : List PyData) : binO .add (.fr (.list xs)) (mkLst ys) = if small (xs.length + ys.length) then some (mkLst (xs ++ ys)) else none := by
  unfold binO mkLst
  simp -implicitDefEqProofs only [lstO, frsO_m]
theorem small_of {n : Nat} (h : n ≤ 1000000) : small n = true := decide_eq_true h
end DP
namespace DP
open PySem PySem.Spec
@[simp] theorem ite_and {p : Prop} [Decidable p] (c : Bool) (ρ : En) : (if p then (some (.ok c, ρ) : R Bool) else some (.ok false, ρ)) = some (.ok (decide p && c), ρ) := by
  by_cases h : p <;> simp -implicitDefEqProofs [h]
@[simp] theorem ite_or {p : Prop} [Decidable p] (c : Bool) (ρ : En) : (if p then (some (.ok true, ρ) : R Bool) else some (.ok c, ρ)) = some (.ok (decide p || c), ρ) := by
  by_cases h : p <;> simp -implicitDefEqProofs [h]
@[simp] theorem ite_and2 {p : Prop} [Decidable p] (c : Bool) (ρ : En) : (if p then (some (.ok c, ρ) : R Bool) else some (.ok (decide p), ρ)) = some (.ok (decide p && c), ρ) := by
  by_cases h : p <;> simp -implicitDefEqProofs [h]
@[simp] theorem ite_or2 {p : Prop} [Decidable p] (c : Bool) (ρ : En) : (if p then (some (.ok (decide p), ρ) : R Bool) else some (.ok c, ρ)) = some (.ok (decide p || c), ρ) := by
  by_cases h : p <;> simp -implicitDefEqProofs [h]
@[simp] theorem ite_andB (b c : Bool) (ρ : En) : (if b = true then (some (.ok c, ρ) : R Bool) else some (.ok b, ρ)) = some (.ok (b && c), ρ) := by
  cases b <;> simp -implicitDefEqProofs
@[simp] theorem ite_orB (b c : Bool) (ρ : En) : (if b = false then (some (.ok c, ρ) : R Bool) else some (.ok b, ρ)) = some (.ok (b || c), ρ) := by
  cases b <;> simp -implicitDefEqProofs
end DP
namespace DP
open PySem PySem.Spec
@[simp] theorem at_0 {α : Type} (a : α) (l : List α) : L2.atI (a :: l) 0 = some a := by
  have := atI_nat (xs := a :: l) (k := 0) (by simp)
  simpa using this
@[simp] theorem at_1 {α : Type} (a b : α) (l : List α) : L2.atI (a :: b :: l) 1 = some b := by
  have := atI_nat (xs := a :: b :: l) (k := 1) (by simp)
  simpa using this
@[simp] theorem at_2 {α : Type} (a b c : α) (l : List α) : L2.atI (a :: b :: c :: l) 2 = some c := by
  have := atI_nat (xs := a :: b :: c :: l) (k := 2) (by simp)
  simpa using this
@[simp] theorem at_3 {α : Type} (a b c d : α) (l : List α) : L2.atI (a :: b :: c :: d :: l) 3 = some d := by
  have := atI_nat (xs := a :: b :: c :: d :: l) (k := 3) (by simp)
  simpa using this
end DP
namespace DP
open PySem PySem.Spec
@[simp] theorem isStrS (x : Str) : bltO .isStr [.fr (.str x)] = some (.fr (.bool true)) := (rfl)
@[simp] theorem slcM (ds : List PyData) (l h : Option Int) : slcO (mkLst ds) l h = some (mkLst (cutD ds l h)) := by
  unfold slcO mkLst
  simp -implicitDefEqProofs only [lstO, frsO_m]
@[simp] theorem slcT (ds : List PyData) (l h : Option Int) : slcO (.fr (.tuple ds)) l h = some (.fr (.tuple (cutD ds l h))) := (rfl)
theorem cut_last {α : Type} (xs : List α) : cutD xs none (some (-1)) = xs.dropLast := by
  unfold cutD HT.sIx
  simp
  rw [List.dropLast_eq_take]
  congr 1
  omega
@[simp] theorem optO_0 : optO [] = some none := (rfl)
@[simp] theorem optO_1 (i : Int) : optO [.fr (.int i)] = some (some i) := (rfl)
@[simp] theorem intD_1 (i : Int) : intD (.int i) = some i := (rfl)
theorem cut_from {α : Type} (xs : List α) (k : Nat) : cutD xs (some (k : Int)) none = xs.drop k := by
  unfold cutD
  rw [HT.sIx_none, HT.sIx_nat]
  by_cases h : k ≤ xs.length
  · rw [Nat.min_eq_left h]
    exact List.take_of_length_le (by simp)
  · rw [Nat.min_eq_right (by omega), List.drop_eq_nil_of_le (by omega), List.drop_eq_nil_of_le (by omega), List.take_nil]
end DP
namespace DP
open PySem PySem.Spec
def tryK (i c j : Nat) (d : PyData) (r : R Fl) : R Fl := match r with
  | some (.error c', ρ1) => if c' = c ∧ j < ρ1.length then R.ok .nx (setS (ρ1.set i none) j (.fr d)) else none
  | r => r
@[simp] theorem tryK_o (i c j : Nat) (d : PyData) (f : Fl) (ρ : En) : tryK i c j d (some (.ok f, ρ)) = some (.ok f, ρ) := (rfl)
@[simp] theorem tryK_e (i c j : Nat) (d : PyData) (c' : Nat) (ρ : En) : tryK i c j d (some (.error c', ρ)) = if c' = c ∧ j < ρ.length then some (.ok .nx, setS (ρ.set i none) j (.fr d)) else none := (rfl)
@[simp] theorem y_try {cf : CF} {ρ : En} (b : Sms) (i c j : Nat) (d : PyData) : exS cf (.tryS b i c j d) ρ = tryK i c j d (exSs cf b ρ) := by
  rw [exS]
  unfold tryK
  cases exSs cf b ρ with
  | none => rfl
  | some r =>
    obtain ⟨r, ρ1⟩ := r
    cases r <;> rfl
end DP
namespace DP
open PySem PySem.Spec
@[simp] theorem fz_l (xs : List OV) : (OV.lst xs).fz = .list (OV.fzs xs) := by rw [OV.fz]
@[simp] theorem fz_t (xs : List OV) : (OV.tup xs).fz = .tuple (OV.fzs xs) := by rw [OV.fz]
end DP
namespace DP
open PySem PySem.Spec
@[simp] theorem bop_fl (o : Cop) (a : PyData) (xs : List OV) : bopO o (.fr a) (.lst xs) = (cmpD o a (.list (OV.fzs xs))).map fun r => .fr (.bool r) := by
  unfold bopO
  rw [fz_l]
  rfl
@[simp] theorem bop_lf (o : Cop) (a : PyData) (xs : List OV) : bopO o (.lst xs) (.fr a) = (cmpD o (.list (OV.fzs xs)) a).map fun r => .fr (.bool r) := by
  unfold bopO
  rw [fz_l]
  rfl
end DP
namespace DP
open PySem PySem.Spec
theorem inner_typed {α : Type} (enc : α → PyData) {fI : En → R (List PyData)} {t : Tg} {fT : En → R Bool} {fe : En → R OV} {ρ ρ1 : En} {ys : List α} (p : α → Bool) (f : α → PyData) (hI : fI ρ = some (.ok (ys.map enc), ρ1))
    (h : ∀ y ∈ ys, ∃ ρ4 ρ5, asgT t (.fr (enc y)) (wipeS ρ1 (tgs t)) = some ρ4 ∧ fT ρ4 = some (.ok (p y), ρ5) ∧ wipeS ρ5 (tgs t) = wipeS ρ1 (tgs t) ∧ (p y = true → wipeR (tgs t) (fe ρ5) = some (.fr (f y), wipeS ρ1 (tgs t)))) :
    innerF fI t fT (oneF fe) ρ = some (.ok (((ys.filter p).map f).map .fr), wipeS ρ1 (tgs t)) := by
  obtain ⟨ρe, e1, e2⟩ := loopL_typed enc (f := turnF t (tgs t) fT (oneF fe)) (own := tgs t) (base := wipeS ρ1 (tgs t)) (g := fun y => if p y then [OV.fr (f y)] else []) ys (fun y hy ρ h0 => by
    obtain ⟨ρ4, ρ5, h1, h2, h3, h4⟩ := h y hy
    unfold turnF
    rw [h0, h1]
    dsimp only
    rw [h2, b_ok]
    cases hp : p y with
    | false => exact ⟨ρ5, by rw [if_neg Bool.false_ne_true]; rfl, h3⟩
    | true =>
      obtain ⟨ρ6, h5, h6⟩ := wipeR_iff (h4 hp)
      exact ⟨ρ6, by rw [if_pos rfl]; unfold oneF; rw [h5]; rfl, h6⟩) ρ1 rfl
  have e : ∀ l : List α, (l.flatMap fun d => if p d then [OV.fr (f d)] else []) = ((l.filter p).map f).map .fr := by
    intro l
    induction l with
    | nil => rfl
    | cons a l ih =>
      rw [List.flatMap_cons, ih, List.filter_cons]
      cases p a <;> rfl
  unfold innerF
  rw [hI, b_ok, e1, b_ok, e2, e ys]
  rfl
/-- [e for t in i for t1 in i1 if c1] -/
theorem c_two {α β : Type} {cf : CF} {m : Bool} {elt : Ex} {t t1 : Tg} {i i1 : Itr} {c1 : Exs} {own : List Nat} {ρ ρ1 : En} (enc : α → PyData) (xs : List α) (enc1 : β → PyData) (ys : α → List β) (p : α → β → Bool) (f : α → β → PyData)
    (hI : evI cf i ρ = some (.ok (xs.map enc), ρ1)) (hs : (xs.flatMap fun x => ((ys x).filter (p x)).map (f x)).length ≤ 1000000)
    (hd : ∀ x ∈ xs, ∃ ρ2 ρ3, asgT t (.fr (enc x)) (wipeS ρ1 own) = some ρ2 ∧ evI cf i1 ρ2 = some (.ok ((ys x).map enc1), ρ3) ∧ wipeS (wipeS ρ3 (tgs t1)) own = wipeS ρ1 own ∧
      ∀ y ∈ ys x, ∃ ρ4 ρ5, asgT t1 (.fr (enc1 y)) (wipeS ρ3 (tgs t1)) = some ρ4 ∧ evT cf c1 ρ4 = some (.ok (p x y), ρ5) ∧ wipeS ρ5 (tgs t1) = wipeS ρ3 (tgs t1) ∧ (p x y = true → wipeR (tgs t1) (ev cf false elt ρ5) = some (.fr (f x y), wipeS ρ3 (tgs t1)))) :
    ev cf m (.comp elt (.cons t i .nil (.cons t1 i1 c1 .nil)) own) ρ = some (.ok (mkLst (xs.flatMap fun x => ((ys x).filter (p x)).map (f x))), wipeS ρ1 own) := by
  rw [ev_comp2]
  have e : ∀ l : List α, mkLst (l.flatMap fun x => ((ys x).filter (p x)).map (f x)) = .lst (l.flatMap fun x => (((ys x).filter (p x)).map (f x)).map .fr) := by
    intro l
    unfold mkLst
    rw [List.map_flatMap]
  rw [e]
  refine comp_typed enc (fun x => (((ys x).filter (p x)).map (f x)).map .fr) hI ?_ fun x hx => ?_
  · have := hs
    rw [← List.length_map (f := OV.fr), List.map_flatMap] at this
    exact this
  obtain ⟨ρ2, ρ3, h1, h2, h3, h4⟩ := hd x hx
  exact ⟨ρ2, true, ρ2, h1, by rw [x_t0], .inr ⟨rfl, _, inner_typed enc1 (p x) (f x) h2 h4, h3⟩⟩
@[simp] theorem fzs_0 : OV.fzs [] = [] := (rfl)
@[simp] theorem fzs_1 (x : OV) (xs : List OV) : OV.fzs (x :: xs) = x.fz :: OV.fzs xs := by rw [OV.fzs]
end DP

set_option autoImplicit false
/-! Q0: fractions in lowest terms. -/
namespace DP
theorem low_pos {a b : Int} (hb : 0 < b) : a.fdiv (Nat.gcd a.natAbs b.natAbs : Nat) = (Rat.divInt a b).num ∧ b.fdiv (Nat.gcd a.natAbs b.natAbs : Nat) = ((Rat.divInt a b).den : Int) := by
  have e : b.gcd a = Nat.gcd a.natAbs b.natAbs := by rw [Int.gcd_comm]; rfl
  have h0 : b ≠ 0 := by omega
  rw [Rat.num_divInt, Rat.den_divInt, e, Int.sign_eq_one_of_pos hb, Int.one_mul, if_neg h0]
  rw [Int.fdiv_eq_ediv_of_nonneg _ (by omega), Int.fdiv_eq_ediv_of_nonneg _ (by omega)]
  refine ⟨rfl, ?_⟩
  rw [Int.natCast_ediv]
  congr 1
  omega
theorem low_neg {a b : Int} (hb : b < 0) : a.fdiv (-(Nat.gcd a.natAbs b.natAbs : Nat)) = (Rat.divInt a b).num ∧ b.fdiv (-(Nat.gcd a.natAbs b.natAbs : Nat)) = ((Rat.divInt a b).den : Int) := by
  have e : b.gcd a = Nat.gcd a.natAbs b.natAbs := by rw [Int.gcd_comm]; rfl
  have h0 : b ≠ 0 := by omega
  have f : ∀ x y : Int, x.fdiv (-y) = (-x).fdiv y := fun x y => by
    have := Int.neg_fdiv_neg (-x) y
    rw [Int.neg_neg] at this
    exact this
  rw [Rat.num_divInt, Rat.den_divInt, e, Int.sign_eq_neg_one_of_neg hb, if_neg h0, f, f]
  rw [Int.fdiv_eq_ediv_of_nonneg _ (by omega), Int.fdiv_eq_ediv_of_nonneg _ (by omega)]
  constructor
  · congr 1
    omega
  · rw [Int.natCast_ediv]
    congr 1
    omega
theorem q_add (x y : Rat) : Rat.divInt (x.num * y.den + y.num * x.den) (x.den * y.den) = x + y := by
  have hx := x.den_nz
  have hy := y.den_nz
  rw [← Rat.divInt_add_divInt _ _ (by omega) (by omega), Rat.num_divInt_den, Rat.num_divInt_den]
theorem q_mul (x y : Rat) : Rat.divInt (x.num * y.num) (x.den * y.den) = x * y := by
  rw [← Rat.divInt_mul_divInt, Rat.num_divInt_den, Rat.num_divInt_den]
theorem q_div (x y : Rat) : Rat.divInt (x.num * y.den) (x.den * y.num) = x / y := by
  rw [Rat.div_def, ← Rat.divInt_mul_divInt, Rat.num_divInt_den]
  congr 1
  have e := Rat.inv_divInt y.num y.den
  rw [Rat.num_divInt_den] at e
  exact e.symm
theorem q_lt (x y : Rat) : x.num * y.den < y.num * x.den ↔ x < y := (Rat.lt_iff x y).symm
theorem q_self (x : Rat) : Rat.divInt x.num x.den = x := Rat.num_divInt_den x
theorem q_ext {x y : Rat} (h1 : x.num = y.num) (h2 : (x.den : Int) = y.den) : x = y := Rat.ext h1 (by omega)
/-- a pair in lowest terms is a fraction -/
theorem q_of {a b : Int} (hb : 0 < b) (h : Nat.gcd a.natAbs b.natAbs = 1) : ∃ q : Rat, q.num = a ∧ (q.den : Int) = b :=
  ⟨⟨a, b.toNat, by omega, by unfold Nat.Coprime; rw [show b.toNat = b.natAbs by omega]; exact h⟩, rfl, by show ((b.toNat : Nat) : Int) = b; omega⟩
/-- the greatest common divisor by remainders -/
def eucl : Nat → Nat → Nat → Nat
  | 0, a, _ => a
  | n + 1, a, b => if b = 0 then a else eucl n b (a % b)
theorem eucl_gcd : ∀ (n a b : Nat), b < n → eucl n a b = Nat.gcd a b
  | 0, a, b, h => by omega
  | n + 1, a, b, h => by
    rw [eucl]
    by_cases hb : b = 0
    · subst hb
      simp
    · rw [if_neg hb, eucl_gcd n b (a % b) (by have := Nat.mod_lt a (Nat.pos_of_ne_zero hb); omega), Nat.gcd_comm b, Nat.gcd_comm a b, Nat.gcd_rec b a]
end DP

set_option autoImplicit false
/-! Q1: how large fractions grow. -/
namespace DP
/-- top and low below 2^B -/
def fits (B : Nat) (q : Rat) : Prop := q.num.natAbs < 2 ^ B ∧ q.den < 2 ^ B
theorem fits_mono {A B : Nat} {q : Rat} (h : fits A q) (hAB : A ≤ B) : fits B q :=
  ⟨Nat.lt_of_lt_of_le h.1 (Nat.pow_le_pow_right (by omega) hAB), Nat.lt_of_lt_of_le h.2 (Nat.pow_le_pow_right (by omega) hAB)⟩
theorem divInt_le (a b : Int) (hb : b ≠ 0) : (Rat.divInt a b).num.natAbs ≤ a.natAbs ∧ (Rat.divInt a b).den ≤ b.natAbs := by
  rw [Rat.num_divInt, Rat.den_divInt, if_neg hb]
  have hg : 0 < b.gcd a := Int.gcd_pos_of_ne_zero_left _ hb
  refine ⟨?_, Nat.div_le_self _ _⟩
  rw [Int.natAbs_ediv_of_dvd]
  · rw [Int.natAbs_mul, Int.natAbs_natCast]
    refine Nat.le_trans (Nat.div_le_self _ _) ?_
    rw [Int.natAbs_sign_of_ne_zero hb, Nat.one_mul]
    exact Nat.le_refl _
  · exact Int.dvd_mul_of_dvd_right (Int.gcd_dvd_right ..)
theorem fits_divInt {B : Nat} {a b : Int} (hb : b ≠ 0) (h1 : a.natAbs < 2 ^ B) (h2 : b.natAbs < 2 ^ B) : fits B (Rat.divInt a b) := by
  obtain ⟨g1, g2⟩ := divInt_le a b hb
  exact ⟨Nat.lt_of_le_of_lt g1 h1, Nat.lt_of_le_of_lt g2 h2⟩
theorem mul_lt2 {a b A B : Nat} (ha : a < 2 ^ A) (hb : b < 2 ^ B) : a * b < 2 ^ (A + B) := by
  rw [Nat.pow_add]
  have h1 : 0 < 2 ^ A := Nat.two_pow_pos A
  have h2 : 0 < 2 ^ B := Nat.two_pow_pos B
  calc a * b ≤ a * 2 ^ B := Nat.mul_le_mul_left _ (Nat.le_of_lt hb)
    _ < 2 ^ A * 2 ^ B := Nat.mul_lt_mul_of_pos_right ha h2
theorem fits_add {A B : Nat} {x y : Rat} (hx : fits A x) (hy : fits B y) : fits (A + B + 1) (x + y) := by
  rw [← q_add]
  have hx0 := x.den_nz
  have hy0 := y.den_nz
  have e0 : (x.den : Int) * y.den ≠ 0 := Int.mul_ne_zero (by omega) (by omega)
  have m1 := mul_lt2 hx.1 hy.2
  have m2 := mul_lt2 hy.1 hx.2
  have m3 := mul_lt2 hx.2 hy.2
  have p : 2 ^ (A + B + 1) = 2 * 2 ^ (A + B) := by rw [Nat.pow_succ]; omega
  rw [Nat.add_comm B A] at m2
  refine fits_divInt e0 ?_ ?_
  · refine Nat.lt_of_le_of_lt (Int.natAbs_add_le _ _) ?_
    rw [Int.natAbs_mul, Int.natAbs_mul, Int.natAbs_natCast, Int.natAbs_natCast]
    omega
  · rw [Int.natAbs_mul, Int.natAbs_natCast, Int.natAbs_natCast]
    omega
theorem fits_mul {A B : Nat} {x y : Rat} (hx : fits A x) (hy : fits B y) : fits (A + B) (x * y) := by
  rw [← q_mul]
  have hx0 := x.den_nz
  have hy0 := y.den_nz
  have e0 : (x.den : Int) * y.den ≠ 0 := Int.mul_ne_zero (by omega) (by omega)
  refine fits_divInt e0 ?_ ?_
  · rw [Int.natAbs_mul]
    exact mul_lt2 hx.1 hy.1
  · rw [Int.natAbs_mul, Int.natAbs_natCast, Int.natAbs_natCast]
    exact mul_lt2 hx.2 hy.2
theorem fits_div {A B : Nat} {x y : Rat} (hx : fits A x) (hy : fits B y) (h0 : y ≠ 0) : fits (A + B) (x / y) := by
  rw [← q_div]
  have hx0 := x.den_nz
  have e0 : (x.den : Int) * y.num ≠ 0 := Int.mul_ne_zero (by omega) (fun e => h0 (Rat.num_eq_zero.mp e))
  refine fits_divInt e0 ?_ ?_
  · rw [Int.natAbs_mul, Int.natAbs_natCast]
    exact mul_lt2 hx.1 hy.2
  · rw [Int.natAbs_mul, Int.natAbs_natCast]
    exact mul_lt2 hx.2 hy.1
theorem fits_neg {A : Nat} {x : Rat} (hx : fits A x) : fits A (-x) := by
  unfold fits at *
  rw [Rat.neg_num, Rat.neg_den, Int.natAbs_neg]
  exact hx
theorem fits_int {B : Nat} {i : Int} (h : i.natAbs < 2 ^ B) (hB : 1 ≤ B) : fits B (i : Rat) := by
  unfold fits
  rw [Rat.num_intCast, Rat.den_intCast]
  exact ⟨h, Nat.lt_of_lt_of_le (by decide : 1 < 2 ^ 1) (Nat.pow_le_pow_right (by omega) hB)⟩
theorem fits_sum {α : Type} (f : α → Rat) (B : Nat) : ∀ (l : List α) (A : Nat) (a : Rat), fits A a → (∀ x ∈ l, fits B (f x)) → fits (A + l.length * (B + 1)) (l.foldl (fun a x => a + f x) a)
  | [], A, a, ha, _ => by simpa using ha
  | x :: l, A, a, ha, h => by
    have h1 := fits_add ha (h x List.mem_cons_self)
    have h2 := fits_sum f B l (A + B + 1) (a + f x) h1 (fun y hy => h y (List.mem_cons_of_mem _ hy))
    rw [List.foldl_cons]
    refine fits_mono h2 ?_
    rw [List.length_cons, Nat.succ_mul]
    omega
theorem foldl_sum {α : Type} (f : α → Rat) : ∀ (l : List α) (a : Rat), l.foldl (fun a x => a + f x) a = a + (l.map f).sum
  | [], a => by simp [Rat.add_zero]
  | x :: l, a => by
    rw [List.foldl_cons, foldl_sum f l, List.map_cons, List.sum_cons, Rat.add_assoc]
theorem take_one {α : Type} (l : List α) (k : Nat) (h : k < l.length) : l.take (k + 1) = l.take k ++ [l[k]] := by
  rw [List.take_succ, List.getElem?_eq_getElem h]
  rfl
end DP

set_option Elab.async false
set_option linter.all false
set_option autoImplicit false
set_option maxRecDepth 100000
/-! T0: the texts of trees, as rows of signs. -/
namespace DP
open PySem SX
abbrev Lot := List Int
abbrev Road := Lot × Rat
/-- a whole number's text (numbers from 0 on) -/
def nT (i : Int) : List Nat := TL.numL i.toNat
def lenT' (q : Rat) : List Nat := if (q.den : Int) = 1 then nT q.num else nT q.num ++ ([47] ++ nT q.den)
def lotT (l : Lot) : List Nat := TL.joinL [32] (l.map nT)
def roadT (r : Road) : List Nat := lotT r.1 ++ ([32, 61, 32] ++ lenT' r.2)
def partT (r : Road) : List Nat := 32 :: roadT r
def restT : List Road → List Nat
  | [] => []
  | r :: rs => partT r ++ ([59] ++ restT rs)
def writeT (m : Int) (rs : List Road) : List Nat := nT m ++ ([58] ++ restT rs)
/-- a word's number -/
def numO (w : List Nat) : Option Int := if w = [] ∨ 4 < w.length ∨ ¬ (w.all fun c => decide (48 ≤ c) && decide (c ≤ 57)) then none else some (NumText.digitsVal w : Nat)
def lenO (w : List Nat) : Option (Option Int × Int) :=
  if 2 < (TL.spl [47] 0 [] w).length ∨ ((TL.spl [47] 0 [] w).length = 2 ∧ (TL.spl [47] 0 [] w)[1]? ≠ some [50]) then none else some (numO ((TL.spl [47] 0 [] w).headD []), ((TL.spl [47] 0 [] w).length : Nat))
def parO (sep a : List Nat) : List Nat × List Nat := match TL.par sep [] a with
  | some (p, q) => (p, q)
  | none => (a, [])
def lotO (w : List Nat) : List (Option Int) := (TL.spl [32] 0 [] (w.drop 1)).map numO
def roadO (w : List Nat) : List (Option Int) × Option (Option Int × Int) := (lotO (parO [32, 61, 32] w).1, lenO (parO [32, 61, 32] w).2)
def roadsO (w : List Nat) : List (List (Option Int) × Option (Option Int × Int)) := ((TL.spl [59] 0 [] w).dropLast).map roadO
/-! ### there and back -/
theorem nT_no (c : Nat) (h : c < 48 ∨ 57 < c) (i : Int) : c ∉ nT i := TL.numL_free h
theorem numO_nT {i : Int} (h0 : 0 ≤ i) (h : i < 10000) : numO (nT i) = some i := by
  have hl : (nT i).length ≤ 4 := TL.numL_len (by omega) (by omega)
  have hd := TL.numL_digits i.toNat
  have ha : (nT i).all (fun c => decide (48 ≤ c) && decide (c ≤ 57)) = true := by
    rw [List.all_eq_true]
    intro c hc
    have := hd c hc
    simp
    omega
  unfold numO
  rw [if_neg (by
    rintro (h | h | h)
    · exact TL.numL_ne _ h
    · omega
    · exact h ha)]
  unfold nT
  rw [TL.numL_val]
  congr 1
  omega
theorem free_eq : ∀ {p : List Nat}, 61 ∉ p → free [32, 61, 32] p = true
  | [], _ => rfl
  | [c], h => by
    show (!(TL.pre [32, 61, 32] (c :: [32, 61, 32])) && true) = true
    unfold TL.pre
    simp
  | c :: d :: r, h => by
    show (!(TL.pre [32, 61, 32] (c :: d :: (r ++ [32, 61, 32]))) && free [32, 61, 32] (d :: r)) = true
    rw [free_eq (p := d :: r) (fun hm => h (List.mem_cons_of_mem _ hm)), Bool.and_true, Bool.not_eq_true']
    unfold TL.pre
    simp
    intro _ h2
    exact absurd h2 (fun e => h (by simp [e]))
theorem joinL_no {c s : Nat} (hs : c ≠ s) : ∀ (ps : List (List Nat)), (∀ p ∈ ps, c ∉ p) → c ∉ TL.joinL [s] ps
  | [], _ => by simp [TL.joinL]
  | [p], h => h p (by simp)
  | p :: q :: r, h => by
    rw [TL.joinL]
    have ih := joinL_no hs (q :: r) (fun x hx => h x (List.mem_cons_of_mem _ hx))
    have h1 := h p (by simp)
    simp [h1, hs, ih]
theorem lotT_no (c : Nat) (h : c < 48 ∨ 57 < c) (hs : c ≠ 32) (l : Lot) : c ∉ lotT l := by
  unfold lotT
  refine joinL_no hs _ fun p hp => ?_
  obtain ⟨i, _, rfl⟩ := List.mem_map.mp hp
  exact nT_no c h i
theorem lenT_no (c : Nat) (h : c < 47 ∨ 57 < c) (q : Rat) : c ∉ lenT' q := by
  unfold lenT'
  split
  · exact nT_no c (by omega) _
  · simp
    exact ⟨nT_no c (by omega) _, by omega, nT_no c (by omega) _⟩
theorem partT_no (c : Nat) (h : c = 58 ∨ c = 59) (r : Road) : c ∉ partT r := by
  unfold partT roadT
  simp
  exact ⟨by omega, lotT_no c (by omega) (by omega) _, by omega, by omega, by omega, lenT_no c (by omega) _⟩
theorem restT_no (rs : List Road) : 58 ∉ restT rs := by
  induction rs with
  | nil => simp [restT]
  | cons r rs ih =>
    rw [restT]
    simp [ih]
    exact partT_no 58 (by omega) r
theorem spl_restT : ∀ rs : List Road, TL.spl [59] 0 [] (restT rs) = rs.map partT ++ [[]]
  | [] => rfl
  | r :: rs => by
    rw [restT, spl_free _ (by simp) (free_head (partT_no 59 (by omega) r)), spl_restT rs]
    rfl
theorem lotO_lotT {l : Lot} (hne : l ≠ []) (h : ∀ i ∈ l, 0 ≤ i ∧ i < 10000) : lotO (32 :: lotT l) = l.map some := by
  unfold lotO lotT
  show (TL.spl [32] 0 [] (TL.joinL [32] (l.map nT))).map numO = _
  rw [spl_join (by simpa using hne) (fun p hp => by
    obtain ⟨i, _, rfl⟩ := List.mem_map.mp hp
    exact nT_no 32 (by omega) i), List.map_map]
  exact List.map_congr_left fun i hi => numO_nT (h i hi).1 (h i hi).2
theorem lenT1 {q : Rat} (hd : q.den = 1) : lenT' q = nT q.num := by
  unfold lenT'
  rw [if_pos (by omega)]
theorem lenT2 {q : Rat} (hd : q.den = 2) : lenT' q = nT q.num ++ ([47] ++ [50]) := by
  unfold lenT'
  rw [if_neg (by omega), hd]
  rfl
theorem lenO_lenT {q : Rat} (h0 : 0 ≤ q.num) (h : q.num < 10000) (hd : q.den = 1 ∨ q.den = 2) : lenO (lenT' q) = some (some q.num, (q.den : Int)) := by
  rcases hd with hd | hd
  · have e : TL.spl [47] 0 [] (lenT' q) = [nT q.num] := by
      rw [lenT1 hd]
      exact spl_join (c := 47) (sep := []) (parts := [nT q.num]) (by simp) (fun p hp => by
        rw [List.mem_singleton.mp hp]
        exact nT_no 47 (by omega) _)
    unfold lenO
    rw [e]
    simp [numO_nT h0 h, hd]
  · have e : TL.spl [47] 0 [] (lenT' q) = [nT q.num, [50]] := by
      rw [lenT2 hd]
      exact spl_join (c := 47) (sep := []) (parts := [nT q.num, [50]]) (by simp) (fun p hp => by
        rcases List.mem_cons.mp hp with rfl | hp
        · exact nT_no 47 (by omega) _
        · rw [List.mem_singleton.mp hp]
          simp)
    unfold lenO
    rw [e]
    simp [numO_nT h0 h, hd]
theorem roadO_partT {r : Road} (hne : r.1 ≠ []) (h : ∀ i ∈ r.1, 0 ≤ i ∧ i < 10000) (h0 : 0 ≤ r.2.num) (h1 : r.2.num < 10000) (hd : r.2.den = 1 ∨ r.2.den = 2) :
    roadO (partT r) = (r.1.map some, some (some r.2.num, (r.2.den : Int))) := by
  have e : parO [32, 61, 32] (partT r) = (32 :: lotT r.1, lenT' r.2) := by
    unfold parO partT roadT
    have := par_free (sep := [32, 61, 32]) (p := 32 :: lotT r.1) (lenT' r.2) (by simp) (free_eq (by
      simp
      exact lotT_no 61 (by omega) (by omega) _))
    rw [List.cons_append] at this
    rw [this]
  unfold roadO
  rw [e, lotO_lotT hne h, lenO_lenT h0 h1 hd]
theorem par_writeT (m : Int) (rs : List Road) : parO [58] (writeT m rs) = (nT m, restT rs) := by
  unfold parO writeT
  rw [par_free (sep := [58]) (p := nT m) (restT rs) (by simp) (free_head (nT_no 58 (by omega) m))]
end DP

set_option Elab.async false
set_option linter.all false
set_option autoImplicit false
set_option maxRecDepth 100000
set_option maxHeartbeats 4000000
namespace DP
open PySem PySem.Spec
/-- is_integer(thing): slots 0 thing -/
def b_fis_integer : Sms := (.cons (.ret (.bo true (.cons (.blt .isInt (.cons (.var 0) .nil)) (.cons (.nt (.blt .isBool (.cons (.var 0) .nil))) .nil)))) .nil)
def F_fis_integer : Fn := ⟨[false], 1, b_fis_integer⟩
abbrev i_fis_integer : Nat := 0
/-- is_among(thing, least, most): slots 0 thing 1 least 2 most -/
def b_fis_among : Sms := (.cons (.ret (.bo true (.cons (.call 0 [.v] (.cons (.var 0) .nil)) (.cons (.chain .le .le (.var 1) (.var 0) (.var 2)) .nil)))) .nil)
def F_fis_among : Fn := ⟨[false, false, false], 3, b_fis_among⟩
abbrev i_fis_among : Nat := 1
/-- lowest(top, low): slots 0 top 1 low 2 part -/
def b_flowest : Sms := (.cons (.asg (.nm 2) (.blt .gcd (.cons (.var 0) (.cons (.var 1) .nil)))) (.cons (.ifs (.cmp .lt (.var 1) (.cst (.int 0))) (.cons (.asg (.nm 2) (.neg (.var 2))) .nil) .nil) (.cons (.ret (.tup (.cons (.bin .fdiv (.var 0) (.var 2)) (.cons (.bin .fdiv (.var 1) (.var 2)) .nil)))) .nil)))
def F_flowest : Fn := ⟨[false, false], 3, b_flowest⟩
abbrev i_flowest : Nat := 2
/-- is_fraction(thing): slots 0 thing 1 part -/
def b_fis_fraction : Sms := (.cons (.ifs (.bo false (.cons (.nt (.blt .isTuple (.cons (.var 0) .nil))) (.cons (.cmp .ne (.blt .len (.cons (.var 0) .nil)) (.cst (.int 2))) (.cons (.nt (.blt .all (.cons (.comp (.call 0 [.v] (.cons (.var 1) .nil)) (.cons (.nm 1) (.it (.var 0)) .nil .nil) [1]) .nil))) .nil)))) (.cons (.ret (.cst (.bool false))) .nil) .nil) (.cons (.ret (.bo true (.cons (.cmp .gt (.idx (.var 0) (.cst (.int 1))) (.cst (.int 0))) (.cons (.cmp .eq (.blt .gcd (.cons (.idx (.var 0) (.cst (.int 0))) (.cons (.idx (.var 0) (.cst (.int 1))) .nil))) (.cst (.int 1))) .nil)))) .nil))
def F_fis_fraction : Fn := ⟨[false], 2, b_fis_fraction⟩
abbrev i_fis_fraction : Nat := 3
/-- added(one, other): slots 0 one 1 other -/
def b_fadded : Sms := (.cons (.ret (.call 2 [.v, .v] (.cons (.bin .add (.bin .mul (.idx (.var 0) (.cst (.int 0))) (.idx (.var 1) (.cst (.int 1)))) (.bin .mul (.idx (.var 1) (.cst (.int 0))) (.idx (.var 0) (.cst (.int 1))))) (.cons (.bin .mul (.idx (.var 0) (.cst (.int 1))) (.idx (.var 1) (.cst (.int 1)))) .nil)))) .nil)
def F_fadded : Fn := ⟨[false, false], 2, b_fadded⟩
abbrev i_fadded : Nat := 4
/-- multiplied(one, other): slots 0 one 1 other -/
def b_fmultiplied : Sms := (.cons (.ret (.call 2 [.v, .v] (.cons (.bin .mul (.idx (.var 0) (.cst (.int 0))) (.idx (.var 1) (.cst (.int 0)))) (.cons (.bin .mul (.idx (.var 0) (.cst (.int 1))) (.idx (.var 1) (.cst (.int 1)))) .nil)))) .nil)
def F_fmultiplied : Fn := ⟨[false, false], 2, b_fmultiplied⟩
abbrev i_fmultiplied : Nat := 5
-- fparted: AugAssign(target=Name(id='part', ctx=Store()), op=Add(), value=Constant(value=1))
-- fis_sum: name MOST_RADICAND
/-- need_sum(thing): slots 0 thing -/
def b_fneed_sum : Sms := (.cons (.ifs (.nt (.call 7 [.v] (.cons (.var 0) .nil))) (.cons (.rse 2) .nil) .nil) .nil)
def F_fneed_sum : Fn := ⟨[false], 1, b_fneed_sum⟩
abbrev i_fneed_sum : Nat := 8
/-- root_of(one): slots 0 one 1 side 2 rest -/
def b_froot_of : Sms := (.cons (.ifs (.cmp .eq (.idx (.var 0) (.cst (.int 0))) (.cst (.int 0))) (.cons (.ret (.tup .nil)) .nil) .nil) (.cons (.asg (.tp [(.nm 1), (.nm 2)]) (.call 6 [.v] (.cons (.bin .mul (.idx (.var 0) (.cst (.int 0))) (.idx (.var 0) (.cst (.int 1)))) .nil))) (.cons (.ret (.tup (.cons (.tup (.cons (.var 2) (.cons (.call 2 [.v, .v] (.cons (.var 1) (.cons (.idx (.var 0) (.cst (.int 1))) .nil))) .nil))) .nil))) .nil)))
def F_froot_of : Fn := ⟨[false], 3, b_froot_of⟩
abbrev i_froot_of : Nat := 9
-- fgathered: Dict(keys=[], values=[])
/-- sum_of(one, other): slots 0 one 1 other -/
def b_fsum_of : Sms := (.cons (.ret (.call 10 [.v] (.cons (.bin .add (.var 0) (.var 1)) .nil))) .nil)
def F_fsum_of : Fn := ⟨[false, false], 2, b_fsum_of⟩
abbrev i_fsum_of : Nat := 11
/-- product_of(one, other): slots 0 one 1 other 2 found 3 first 4 part 5 second 6 more 7 both -/
def b_fproduct_of : Sms := (.cons (.asg (.nm 2) (.lst .nil)) (.cons (.fors (.tp [(.nm 3), (.nm 4)]) (.it (.var 0)) (.cons (.fors (.tp [(.nm 5), (.nm 6)]) (.it (.var 1)) (.cons (.asg (.nm 7) (.blt .gcd (.cons (.var 3) (.cons (.var 5) .nil)))) (.cons (.exp (.mut .append (.var 2) (.cons (.tup (.cons (.bin .mul (.bin .fdiv (.var 3) (.var 7)) (.bin .fdiv (.var 5) (.var 7))) (.cons (.call 5 [.v, .v] (.cons (.call 5 [.v, .v] (.cons (.var 4) (.cons (.var 6) .nil))) (.cons (.tup (.cons (.var 7) (.cons (.cst (.int 1)) .nil))) .nil))) .nil))) .nil))) .nil))) .nil)) (.cons (.ret (.call 10 [.pk] (.cons (.var 2) .nil))) .nil)))
def F_fproduct_of : Fn := ⟨[false, false], 8, b_fproduct_of⟩
abbrev i_fproduct_of : Nat := 12
-- fspan: call isqrt
-- fsign_of: AugAssign(target=Name(id='bits', ctx=Store()), op=Mult(), value=Constant(value=2))
-- froot: name MOST_ROOT
/-- plus(one, other): slots 0 one 1 other -/
def b_fplus : Sms := (.cons (.exp (.call 8 [.v] (.cons (.var 0) .nil))) (.cons (.exp (.call 8 [.v] (.cons (.var 1) .nil))) (.cons (.ret (.call 11 [.v, .v] (.cons (.var 0) (.cons (.var 1) .nil)))) .nil)))
def F_fplus : Fn := ⟨[false, false], 2, b_fplus⟩
abbrev i_fplus : Nat := 16
/-- times(one, other): slots 0 one 1 other -/
def b_ftimes : Sms := (.cons (.exp (.call 8 [.v] (.cons (.var 0) .nil))) (.cons (.exp (.call 8 [.v] (.cons (.var 1) .nil))) (.cons (.ret (.call 12 [.v, .v] (.cons (.var 0) (.cons (.var 1) .nil)))) .nil)))
def F_ftimes : Fn := ⟨[false, false], 2, b_ftimes⟩
abbrev i_ftimes : Nat := 17
/-- sign(one): slots 0 one -/
def b_fsign : Sms := (.cons (.exp (.call 8 [.v] (.cons (.var 0) .nil))) (.cons (.ret (.call 14 [.v] (.cons (.var 0) .nil))) .nil))
def F_fsign : Fn := ⟨[false], 1, b_fsign⟩
abbrev i_fsign : Nat := 18
-- ffigures: AugAssign(target=Name(id='more', ctx=Store()), op=Mult(), value=Constant(value=2))
/-- _law_taken(row, many): slots 0 row 1 many 2 cell 3 found -/
def b_f_law_taken : Sms := (.cons (.ifs (.cmp .gt (.idx (.var 0) (.cst (.int 3))) (.cst (.int 0))) (.cons (.asg (.nm 3) (.bin .mod (.blt .int (.cons (.idx (.var 0) (.cst (.int 3))) .nil)) (.var 1))) (.cons (.sto (.var 0) (.cst (.int 3)) (.bin .fdiv (.idx (.var 0) (.cst (.int 3))) (.var 1))) (.cons (.ret (.var 3)) .nil))) .nil) (.cons (.sto (.var 0) (.cst (.int 1)) (.bin .add (.idx (.var 0) (.cst (.int 1))) (.cst (.int 1)))) (.cons (.ifs (.cmp .gt (.idx (.var 0) (.cst (.int 1))) (.blt .len (.cons (.idx (.var 0) (.cst (.int 0))) .nil))) (.cons (.sto (.var 0) (.cst (.int 2)) (.bin .mod (.blt .int (.cons (.bin .add (.bin .mul (.idx (.var 0) (.cst (.int 2))) (.cst (.int 48271))) (.cst (.int 11))) .nil)) (.cst (.int 2147483647)))) (.cons (.ret (.bin .mod (.blt .int (.cons (.bin .fdiv (.idx (.var 0) (.cst (.int 2))) (.cst (.int 7))) .nil)) (.var 1))) .nil)) .nil) (.cons (.asg (.nm 2) (.idx (.idx (.var 0) (.cst (.int 0))) (.bin .sub (.idx (.var 0) (.cst (.int 1))) (.cst (.int 1))))) (.cons (.sto (.var 0) (.cst (.int 2)) (.bin .mod (.blt .int (.cons (.bin .add (.bin .add (.bin .mul (.idx (.var 0) (.cst (.int 2))) (.cst (.int 48271))) (.var 2)) (.cst (.int 11))) .nil)) (.cst (.int 2147483647)))) (.cons (.ifs (.cmp .ge (.var 2) (.bin .pow (.cst (.int 10)) (.cst (.int 18)))) (.cons (.sto (.var 0) (.cst (.int 3)) (.bin .fdiv (.var 2) (.var 1))) .nil) .nil) (.cons (.ret (.bin .mod (.blt .int (.cons (.var 2) .nil)) (.var 1))) .nil)))))))
def F_f_law_taken : Fn := ⟨[true, false], 4, b_f_law_taken⟩
abbrev i_f_law_taken : Nat := 20
/-- _law_pick(row, things): slots 0 row 1 things -/
def b_f_law_pick : Sms := (.cons (.ret (.idx (.var 1) (.call 20 [.io, .v] (.cons (.var 0) (.cons (.blt .len (.cons (.var 1) .nil)) .nil))))) .nil)
def F_f_law_pick : Fn := ⟨[true, false], 2, b_f_law_pick⟩
abbrev i_f_law_pick : Nat := 21
/-- _law_alike(found, due): slots 0 found 1 due 2 k -/
def b_f_law_alike : Sms := (.cons (.ifs (.blt .isTupleList (.cons (.var 1) .nil)) (.cons (.ifs (.bo false (.cons (.nt (.blt .isTupleList (.cons (.var 0) .nil))) (.cons (.cmp .ne (.blt .isList (.cons (.var 0) .nil)) (.blt .isList (.cons (.var 1) .nil))) .nil))) (.cons (.ret (.cst (.bool false))) .nil) .nil) (.cons (.ifs (.cmp .ne (.blt .len (.cons (.var 0) .nil)) (.blt .len (.cons (.var 1) .nil))) (.cons (.ret (.cst (.bool false))) .nil) .nil) (.cons (.ret (.cmp .eq (.comp (.var 2) (.cons (.nm 2) (.rng (.cons (.blt .len (.cons (.var 1) .nil)) .nil)) (.cons (.nt (.call 22 [.v, .v] (.cons (.idx (.var 0) (.var 2)) (.cons (.idx (.var 1) (.var 2)) .nil)))) .nil) .nil) [2]) (.lst .nil))) .nil))) .nil) (.cons (.ifs (.bo false (.cons (.isN true (.var 1)) (.cons (.blt .isStr (.cons (.var 1) .nil)) .nil))) (.cons (.ret (.bo true (.cons (.cmp .eq (.var 0) (.var 1)) (.cons (.cmp .eq (.blt .isStr (.cons (.var 0) .nil)) (.blt .isStr (.cons (.var 1) .nil))) .nil)))) .nil) .nil) (.cons (.ret (.bo true (.cons (.blt .isInt (.cons (.var 0) .nil)) (.cons (.cmp .eq (.blt .isBool (.cons (.var 0) .nil)) (.blt .isBool (.cons (.var 1) .nil))) (.cons (.cmp .eq (.var 0) (.var 1)) .nil))))) .nil)))
def F_f_law_alike : Fn := ⟨[false, false], 3, b_f_law_alike⟩
abbrev i_f_law_alike : Nat := 22
/-- _law_fr(top, low): slots 0 top 1 low 2 a 3 b -/
def b_f_law_fr : Sms := (.cons (.par [2, 3] (.cons (.blt .max (.cons (.var 0) (.cons (.bin .sub (.cst (.int 0)) (.var 0)) .nil))) (.cons (.blt .max (.cons (.var 1) (.cons (.bin .sub (.cst (.int 0)) (.var 1)) .nil))) .nil))) (.cons (.whl (.cmp .ne (.var 3) (.cst (.int 0))) (.cons (.par [2, 3] (.cons (.var 3) (.cons (.bin .mod (.var 2) (.var 3)) .nil))) .nil)) (.cons (.asg (.nm 2) (.ite (.cmp .gt (.var 1) (.cst (.int 0))) (.var 2) (.bin .sub (.cst (.int 0)) (.var 2)))) (.cons (.ret (.tup (.cons (.bin .fdiv (.var 0) (.var 2)) (.cons (.bin .fdiv (.var 1) (.var 2)) .nil)))) .nil))))
def F_f_law_fr : Fn := ⟨[false, false], 4, b_f_law_fr⟩
abbrev i_f_law_fr : Nat := 23
/-- _law_plus(one, other): slots 0 one 1 other -/
def b_f_law_plus : Sms := (.cons (.ret (.call 23 [.v, .v] (.cons (.bin .add (.bin .mul (.idx (.var 0) (.cst (.int 0))) (.idx (.var 1) (.cst (.int 1)))) (.bin .mul (.idx (.var 1) (.cst (.int 0))) (.idx (.var 0) (.cst (.int 1))))) (.cons (.bin .mul (.idx (.var 0) (.cst (.int 1))) (.idx (.var 1) (.cst (.int 1)))) .nil)))) .nil)
def F_f_law_plus : Fn := ⟨[false, false], 2, b_f_law_plus⟩
abbrev i_f_law_plus : Nat := 24
/-- _law_times(one, other): slots 0 one 1 other -/
def b_f_law_times : Sms := (.cons (.ret (.call 23 [.v, .v] (.cons (.bin .mul (.idx (.var 0) (.cst (.int 0))) (.idx (.var 1) (.cst (.int 0)))) (.cons (.bin .mul (.idx (.var 0) (.cst (.int 1))) (.idx (.var 1) (.cst (.int 1)))) .nil)))) .nil)
def F_f_law_times : Fn := ⟨[false, false], 2, b_f_law_times⟩
abbrev i_f_law_times : Nat := 25
/-- _law_floor_root(number): slots 0 number 1 low 2 high 3 middle -/
def b_f_law_floor_root : Sms := (.cons (.asg (.tp [(.nm 1), (.nm 2)]) (.tup (.cons (.cst (.int 0)) (.cons (.cst (.int 1)) .nil)))) (.cons (.whl (.cmp .le (.bin .mul (.var 2) (.var 2)) (.var 0)) (.cons (.asg (.nm 2) (.bin .mul (.var 2) (.cst (.int 2)))) .nil)) (.cons (.whl (.cmp .gt (.bin .sub (.var 2) (.var 1)) (.cst (.int 1))) (.cons (.asg (.nm 3) (.bin .fdiv (.bin .add (.var 1) (.var 2)) (.cst (.int 2)))) (.cons (.asg (.tp [(.nm 1), (.nm 2)]) (.ite (.cmp .le (.bin .mul (.var 3) (.var 3)) (.var 0)) (.tup (.cons (.var 3) (.cons (.var 2) .nil))) (.tup (.cons (.var 1) (.cons (.var 3) .nil))))) .nil))) (.cons (.ret (.var 1)) .nil))))
def F_f_law_floor_root : Fn := ⟨[false], 4, b_f_law_floor_root⟩
abbrev i_f_law_floor_root : Nat := 26
/-- _law_side(number): slots 0 number 1 whole 2 side 3 rest 4 part -/
def b_f_law_side : Sms := (.cons (.asg (.tp [(.nm 2), (.nm 3), (.nm 4)]) (.tup (.cons (.cst (.int 1)) (.cons (.cst (.int 1)) (.cons (.cst (.int 2)) .nil))))) (.cons (.whl (.cmp .le (.bin .mul (.bin .mul (.var 4) (.var 4)) (.var 4)) (.var 0)) (.cons (.ifs (.cmp .gt (.bin .mod (.var 0) (.var 4)) (.cst (.int 0))) (.cons (.asg (.nm 4) (.bin .add (.var 4) (.cst (.int 1)))) .nil) (.cons (.ifs (.cmp .eq (.bin .mod (.bin .fdiv (.var 0) (.var 4)) (.var 4)) (.cst (.int 0))) (.cons (.par [0, 2] (.cons (.bin .fdiv (.bin .fdiv (.var 0) (.var 4)) (.var 4)) (.cons (.bin .mul (.var 2) (.var 4)) .nil))) .nil) (.cons (.par [0, 3] (.cons (.bin .fdiv (.var 0) (.var 4)) (.cons (.bin .mul (.var 3) (.var 4)) .nil))) .nil)) .nil)) .nil)) (.cons (.asg (.nm 1) (.call 26 [.v] (.cons (.var 0) .nil))) (.cons (.ret (.ite (.cmp .eq (.bin .mul (.var 1) (.var 1)) (.var 0)) (.tup (.cons (.bin .mul (.var 2) (.var 1)) (.cons (.var 3) .nil))) (.tup (.cons (.var 2) (.cons (.bin .mul (.var 3) (.var 0)) .nil))))) .nil))))
def F_f_law_side : Fn := ⟨[false], 5, b_f_law_side⟩
abbrev i_f_law_side : Nat := 27
/-- _law_root(one): slots 0 one 1 side 2 rest -/
def b_f_law_root : Sms := (.cons (.ifs (.cmp .eq (.idx (.var 0) (.cst (.int 0))) (.cst (.int 0))) (.cons (.ret (.tup .nil)) .nil) .nil) (.cons (.asg (.tp [(.nm 1), (.nm 2)]) (.call 27 [.v] (.cons (.bin .mul (.idx (.var 0) (.cst (.int 0))) (.idx (.var 0) (.cst (.int 1)))) .nil))) (.cons (.ret (.tup (.cons (.tup (.cons (.var 2) (.cons (.call 23 [.v, .v] (.cons (.var 1) (.cons (.idx (.var 0) (.cst (.int 1))) .nil))) .nil))) .nil))) .nil)))
def F_f_law_root : Fn := ⟨[false], 3, b_f_law_root⟩
abbrev i_f_law_root : Nat := 28
/-- _law_of(one): slots 0 one -/
def b_f_law_of : Sms := (.cons (.ret (.ite (.cmp .ne (.idx (.var 0) (.cst (.int 0))) (.cst (.int 0))) (.tup (.cons (.tup (.cons (.cst (.int 1)) (.cons (.var 0) .nil))) .nil)) (.tup .nil))) .nil)
def F_f_law_of : Fn := ⟨[false], 1, b_f_law_of⟩
abbrev i_f_law_of : Nat := 29
-- f_law_add: Dict(keys=[], values=[])
/-- _law_multiply(one, other): slots 0 one 1 other 2 found 3 first 4 part 5 second 6 more 7 a 8 b -/
def b_f_law_multiply : Sms := (.cons (.asg (.nm 2) (.tup .nil)) (.cons (.fors (.tp [(.nm 3), (.nm 4)]) (.it (.var 0)) (.cons (.fors (.tp [(.nm 5), (.nm 6)]) (.it (.var 1)) (.cons (.par [7, 8] (.cons (.var 3) (.cons (.var 5) .nil))) (.cons (.whl (.cmp .ne (.var 8) (.cst (.int 0))) (.cons (.par [7, 8] (.cons (.var 8) (.cons (.bin .mod (.var 7) (.var 8)) .nil))) .nil)) (.cons (.asg (.nm 2) (.call 30 [.v, .v, .v] (.cons (.var 2) (.cons (.tup (.cons (.tup (.cons (.bin .mul (.bin .fdiv (.var 3) (.var 7)) (.bin .fdiv (.var 5) (.var 7))) (.cons (.call 25 [.v, .v] (.cons (.var 4) (.cons (.var 6) .nil))) .nil))) .nil)) (.cons (.tup (.cons (.var 7) (.cons (.cst (.int 1)) .nil))) .nil))))) .nil)))) .nil)) (.cons (.ret (.var 2)) .nil)))
def F_f_law_multiply : Fn := ⟨[false, false], 9, b_f_law_multiply⟩
abbrev i_f_law_multiply : Nat := 31
/-- _law_span(one, many): slots 0 one 1 many 2 low 3 high 4 radicand 5 part 6 top 7 floor -/
def b_f_law_span : Sms := (.cons (.asg (.tp [(.nm 2), (.nm 3)]) (.tup (.cons (.cst (.int 0)) (.cons (.cst (.int 0)) .nil)))) (.cons (.fors (.tp [(.nm 4), (.nm 5)]) (.it (.var 0)) (.cons (.asg (.nm 6) (.bin .mul (.blt .max (.cons (.idx (.var 5) (.cst (.int 0))) (.cons (.bin .sub (.cst (.int 0)) (.idx (.var 5) (.cst (.int 0)))) .nil))) (.var 1))) (.cons (.asg (.nm 7) (.bin .fdiv (.call 26 [.v] (.cons (.bin .mul (.bin .mul (.var 6) (.var 6)) (.var 4)) .nil)) (.idx (.var 5) (.cst (.int 1))))) (.cons (.asg (.nm 2) (.bin .add (.var 2) (.ite (.cmp .gt (.idx (.var 5) (.cst (.int 0))) (.cst (.int 0))) (.var 7) (.bin .sub (.bin .sub (.cst (.int 0)) (.var 7)) (.cst (.int 1)))))) (.cons (.asg (.nm 3) (.bin .add (.var 3) (.ite (.cmp .gt (.idx (.var 5) (.cst (.int 0))) (.cst (.int 0))) (.bin .add (.var 7) (.cst (.int 1))) (.bin .sub (.cst (.int 0)) (.var 7))))) .nil))))) (.cons (.ret (.tup (.cons (.var 2) (.cons (.var 3) .nil)))) .nil)))
def F_f_law_span : Fn := ⟨[false, false], 8, b_f_law_span⟩
abbrev i_f_law_span : Nat := 32
/-- _law_sign(one): slots 0 one 1 many 2 low 3 high -/
def b_f_law_sign : Sms := (.cons (.ifs (.cmp .eq (.var 0) (.tup .nil)) (.cons (.ret (.cst (.int 0))) .nil) .nil) (.cons (.asg (.nm 1) (.bin .pow (.cst (.int 10)) (.cst (.int 6)))) (.cons (.asg (.tp [(.nm 2), (.nm 3)]) (.call 32 [.v, .v] (.cons (.var 0) (.cons (.var 1) .nil)))) (.cons (.whl (.chain .le .le (.var 2) (.cst (.int 0)) (.var 3)) (.cons (.asg (.nm 1) (.bin .mul (.var 1) (.var 1))) (.cons (.asg (.tp [(.nm 2), (.nm 3)]) (.call 32 [.v, .v] (.cons (.var 0) (.cons (.var 1) .nil)))) .nil))) (.cons (.ret (.ite (.cmp .gt (.var 2) (.cst (.int 0))) (.cst (.int 1)) (.neg (.cst (.int 1))))) .nil)))))
def F_f_law_sign : Fn := ⟨[false], 4, b_f_law_sign⟩
abbrev i_f_law_sign : Nat := 33
/-- _law_drawn(row): slots 0 row 1 found 2 turn 3 top 4 part -/
def b_f_law_drawn : Sms := (.cons (.asg (.nm 1) (.tup .nil)) (.cons (.fors (.nm 2) (.rng (.cons (.call 20 [.io, .v] (.cons (.var 0) (.cons (.cst (.int 5)) .nil))) .nil)) (.cons (.asg (.nm 3) (.call 20 [.io, .v] (.cons (.var 0) (.cons (.call 21 [.io, .v] (.cons (.var 0) (.cons (.lst (.cons (.cst (.int 5)) (.cons (.cst (.int 31)) (.cons (.cst (.int 1000)) .nil)))) .nil))) .nil)))) (.cons (.asg (.nm 4) (.call 23 [.v, .v] (.cons (.bin .sub (.call 20 [.io, .v] (.cons (.var 0) (.cons (.cst (.int 19)) .nil))) (.cst (.int 9))) (.cons (.bin .add (.cst (.int 1)) (.call 20 [.io, .v] (.cons (.var 0) (.cons (.cst (.int 6)) .nil)))) .nil)))) (.cons (.asg (.nm 1) (.call 30 [.v, .v, .v] (.cons (.var 1) (.cons (.call 28 [.v] (.cons (.call 23 [.v, .v] (.cons (.var 3) (.cons (.bin .add (.cst (.int 1)) (.call 20 [.io, .v] (.cons (.var 0) (.cons (.cst (.int 4)) .nil)))) .nil))) .nil)) (.cons (.var 4) .nil))))) .nil)))) (.cons (.ret (.var 1)) .nil)))
def F_f_law_drawn : Fn := ⟨[true], 5, b_f_law_drawn⟩
abbrev i_f_law_drawn : Nat := 34
/-- law(script): slots 0 script 1 row 2 top 3 low 4 one 5 gap 6 bits 7 turn 8 odd 9 bad 10 wrong 11 words 12 first 13 second 14 found 15 power -/
def b_flaw_k00 : Sms := (.cons (.asg (.nm 1) (.lst (.cons (.var 0) (.cons (.cst (.int 0)) (.cons (.cst (.int 6000)) (.cons (.cst (.int 0)) .nil)))))) (.cons (.asg (.nm 2) (.call 20 [.io, .v] (.cons (.var 1) (.cons (.call 21 [.io, .v] (.cons (.var 1) (.cons (.lst (.cons (.cst (.int 10)) (.cons (.cst (.int 1000)) (.cons (.bin .pow (.cst (.int 10)) (.cst (.int 6))) .nil)))) .nil))) .nil)))) (.cons (.asg (.nm 3) (.bin .add (.cst (.int 1)) (.call 20 [.io, .v] (.cons (.var 1) (.cons (.call 21 [.io, .v] (.cons (.var 1) (.cons (.lst (.cons (.cst (.int 2)) (.cons (.cst (.int 12)) (.cons (.cst (.int 1000)) .nil)))) .nil))) .nil))))) (.cons (.asg (.nm 4) (.call 23 [.v, .v] (.cons (.var 2) (.cons (.var 3) .nil)))) (.cons (.ifs (.bo false (.cons (.nt (.call 22 [.v, .v] (.cons (.call 15 [.v] (.cons (.var 4) .nil)) (.cons (.call 28 [.v] (.cons (.var 4) .nil)) .nil)))) (.cons (.cmp .ne (.call 17 [.v, .v] (.cons (.call 15 [.v] (.cons (.var 4) .nil)) (.cons (.call 15 [.v] (.cons (.var 4) .nil)) .nil))) (.call 29 [.v] (.cons (.var 4) .nil))) .nil))) (.cons (.ret (.cst (.bool false))) .nil) .nil) (.cons (.asg (.tp [(.nm 12), (.nm 13)]) (.tup (.cons (.call 34 [.io] (.cons (.var 1) .nil)) (.cons (.call 34 [.io] (.cons (.var 1) .nil)) .nil)))) (.cons (.ifs (.cmp .eq (.call 20 [.io, .v] (.cons (.var 1) (.cons (.cst (.int 4)) .nil))) (.cst (.int 0))) (.cons (.asg (.nm 13) (.call 30 [.v, .v, .v] (.cons (.tup .nil) (.cons (.var 12) (.cons (.tup (.cons (.neg (.cst (.int 1))) (.cons (.cst (.int 1)) .nil))) .nil))))) .nil) .nil) (.cons (.ifs (.nt (.call 22 [.v, .v] (.cons (.call 16 [.v, .v] (.cons (.var 12) (.cons (.var 13) .nil))) (.cons (.call 30 [.v, .v, .v] (.cons (.var 12) (.cons (.var 13) (.cons (.tup (.cons (.cst (.int 1)) (.cons (.cst (.int 1)) .nil))) .nil)))) .nil)))) (.cons (.ret (.cst (.bool false))) .nil) .nil) (.cons (.ifs (.nt (.call 22 [.v, .v] (.cons (.call 17 [.v, .v] (.cons (.var 12) (.cons (.var 13) .nil))) (.cons (.call 31 [.v, .v] (.cons (.var 12) (.cons (.var 13) .nil))) .nil)))) (.cons (.ret (.cst (.bool false))) .nil) .nil) (.cons (.asg (.nm 5) (.call 30 [.v, .v, .v] (.cons (.var 12) (.cons (.var 13) (.cons (.tup (.cons (.neg (.cst (.int 1))) (.cons (.cst (.int 1)) .nil))) .nil))))) (.cons (.ifs (.bo false (.cons (.nt (.call 22 [.v, .v] (.cons (.call 18 [.v] (.cons (.var 5) .nil)) (.cons (.call 33 [.v] (.cons (.var 5) .nil)) .nil)))) (.cons (.cmp .ne (.call 18 [.v] (.cons (.call 31 [.v, .v] (.cons (.var 12) (.cons (.var 12) .nil))) .nil)) (.blt .min (.cons (.cst (.int 1)) (.cons (.blt .len (.cons (.var 12) .nil)) .nil)))) .nil))) (.cons (.ret (.cst (.bool false))) .nil) .nil) (.cons (.asg (.nm 6) (.call 20 [.io, .v] (.cons (.var 1) (.cons (.cst (.int 201)) .nil)))) (.cons (.par [14, 15] (.cons (.call 19 [.v, .v] (.cons (.var 5) (.cons (.var 6) .nil))) (.cons (.cst (.int 1)) .nil))) (.cons (.fors (.nm 7) (.rng (.cons (.var 6) .nil)) (.cons (.asg (.nm 15) (.bin .mul (.var 15) (.cst (.int 2)))) .nil)) (.cons (.ifs (.bo false (.cons (.nt (.blt .isInt (.cons (.var 14) .nil))) (.cons (.cmp .lt (.call 33 [.v] (.cons (.call 30 [.v, .v, .v] (.cons (.var 5) (.cons (.call 29 [.v] (.cons (.tup (.cons (.var 14) (.cons (.var 15) .nil))) .nil)) (.cons (.tup (.cons (.neg (.cst (.int 1))) (.cons (.cst (.int 1)) .nil))) .nil)))) .nil)) (.cst (.int 0))) .nil))) (.cons (.ret (.cst (.bool false))) .nil) .nil) (.cons (.ifs (.cmp .lt (.call 33 [.v] (.cons (.call 30 [.v, .v, .v] (.cons (.call 29 [.v] (.cons (.tup (.cons (.bin .add (.var 14) (.cst (.int 1))) (.cons (.var 15) .nil))) .nil)) (.cons (.var 5) (.cons (.tup (.cons (.neg (.cst (.int 1))) (.cons (.cst (.int 1)) .nil))) .nil)))) .nil)) (.cst (.int 1))) (.cons (.ret (.cst (.bool false))) .nil) .nil) (.cons (.asg (.nm 8) (.call 21 [.io, .v] (.cons (.var 1) (.cons (.lst (.cons (.cst .none) (.cons (.frz (.lst .nil)) (.cons (.tup (.cons (.tup (.cons (.cst (.int 4)) (.cons (.tup (.cons (.cst (.int 1)) (.cons (.cst (.int 1)) .nil))) .nil))) .nil)) (.cons (.tup (.cons (.tup (.cons (.cst (.int 1)) (.cons (.tup (.cons (.cst (.int 0)) (.cons (.cst (.int 1)) .nil))) .nil))) .nil)) (.cons (.tup (.cons (.tup (.cons (.cst (.int 2)) (.cons (.tup (.cons (.cst (.int 1)) (.cons (.cst (.int 1)) .nil))) .nil))) (.cons (.tup (.cons (.cst (.int 1)) (.cons (.tup (.cons (.cst (.int 1)) (.cons (.cst (.int 1)) .nil))) .nil))) .nil))) (.cons (.tup (.cons (.tup (.cons (.cst (.int 0)) (.cons (.tup (.cons (.cst (.int 1)) (.cons (.cst (.int 1)) .nil))) .nil))) .nil)) .nil))))))) .nil)))) (.cons (.asg (.nm 8) (.call 21 [.io, .v] (.cons (.var 1) (.cons (.lst (.cons (.var 8) (.cons (.tup (.cons (.tup (.cons (.cst (.int 12)) (.cons (.tup (.cons (.cst (.int 1)) (.cons (.cst (.int 1)) .nil))) .nil))) .nil)) (.cons (.tup (.cons (.tup (.cons (.cst (.int 1)) (.cons (.tup (.cons (.cst (.int 2)) (.cons (.cst (.int 4)) .nil))) .nil))) .nil)) (.cons (.tup (.cons (.tup (.cons (.cst (.int 2)) (.cons (.tup (.cons (.cst (.int 1)) (.cons (.neg (.cst (.int 1))) .nil))) .nil))) .nil)) (.cons (.tup (.cons (.tup (.cons (.cst (.int 1)) (.cons (.cst (.int 1)) .nil))) .nil)) (.cons (.tup (.cons (.cst (.int 1)) (.cons (.cst (.int 1)) .nil))) (.cons (.cst (.str ("" : Str))) .nil)))))))) .nil)))) (.cons (.ifs (.bo false (.cons (.cmp .ne (.told 0 [(2, ("BadSum" : Str)), (1, ("BadFraction" : Str)), (3, ("BadNumber" : Str))] 0 (.call 16 [.v, .v] (.cons (.var 8) (.cons (.var 12) .nil)))) (.cst (.str ("BadSum" : Str)))) (.cons (.cmp .ne (.told 0 [(2, ("BadSum" : Str)), (1, ("BadFraction" : Str)), (3, ("BadNumber" : Str))] 0 (.call 18 [.v] (.cons (.var 8) .nil))) (.cst (.str ("BadSum" : Str)))) .nil))) (.cons (.ret (.cst (.bool false))) .nil) .nil) (.cons (.asg (.nm 9) (.call 21 [.io, .v] (.cons (.var 1) (.cons (.lst (.cons (.cst .none) (.cons (.cst (.int 2)) (.cons (.tup (.cons (.cst (.int 1)) (.cons (.cst (.int 0)) .nil))) (.cons (.tup (.cons (.cst (.int 2)) (.cons (.cst (.int 4)) .nil))) (.cons (.tup (.cons (.neg (.cst (.int 1))) (.cons (.cst (.int 1)) .nil))) (.cons (.tup (.cons (.bin .add (.bin .pow (.cst (.int 10)) (.cst (.int 9))) (.cst (.int 1))) (.cons (.cst (.int 1)) .nil))) (.cons (.tup (.cons (.cst (.int 1)) (.cons (.cst (.int 1001)) .nil))) (.cons (.tup (.cons (.cst (.bool true)) (.cons (.cst (.int 1)) .nil))) (.cons (.frz (.lst (.cons (.cst (.int 1)) (.cons (.cst (.int 1)) .nil)))) .nil)))))))))) .nil)))) (.cons (.asg (.nm 10) (.call 21 [.io, .v] (.cons (.var 1) (.cons (.lst (.cons (.cst .none) (.cons (.neg (.cst (.int 1))) (.cons (.cst (.int 201)) (.cons (.cst (.bool true)) (.cons (.cst (.str ("1" : Str))) .nil)))))) .nil)))) (.cons (.asg (.nm 11) (.lst (.cons (.told 0 [(2, ("BadSum" : Str)), (1, ("BadFraction" : Str)), (3, ("BadNumber" : Str))] 0 (.call 15 [.v] (.cons (.var 9) .nil))) (.cons (.told 0 [(2, ("BadSum" : Str)), (1, ("BadFraction" : Str)), (3, ("BadNumber" : Str))] 0 (.call 17 [.v, .v] (.cons (.var 12) (.cons (.var 8) .nil)))) .nil)))) (.cons (.asg (.nm 11) (.bin .add (.var 11) (.lst (.cons (.told 0 [(2, ("BadSum" : Str)), (1, ("BadFraction" : Str)), (3, ("BadNumber" : Str))] 0 (.call 19 [.v, .v] (.cons (.var 8) (.cons (.var 10) .nil)))) (.cons (.told 0 [(2, ("BadSum" : Str)), (1, ("BadFraction" : Str)), (3, ("BadNumber" : Str))] 0 (.call 19 [.v, .v] (.cons (.var 12) (.cons (.var 10) .nil)))) .nil))))) (.cons (.ret (.cmp .eq (.var 11) (.lst (.cons (.cst (.str ("BadFraction" : Str))) (.cons (.cst (.str ("BadSum" : Str))) (.cons (.cst (.str ("BadSum" : Str))) (.cons (.cst (.str ("BadNumber" : Str))) .nil))))))) .nil))))))))))))))))))))))))
def F_flaw_k00 : Fn := ⟨[false], 16, b_flaw_k00⟩
abbrev i_flaw_k00 : Nat := 35
/-- need_many(many): slots 0 many -/
def b_fneed_many : Sms := (.cons (.ifs (.nt (.call 1 [.v, .v, .v] (.cons (.var 0) (.cons (.glo (.int 3)) (.cons (.glo (.int 6)) .nil))))) (.cons (.rse 3) .nil) .nil) .nil)
def F_fneed_many : Fn := ⟨[false], 1, b_fneed_many⟩
abbrev i_fneed_many : Nat := 36
/-- is_lot(many, thing): slots 0 many 1 thing 2 at 3 tip -/
def b_fis_lot : Sms := (.cons (.ifs (.bo false (.cons (.nt (.blt .isTuple (.cons (.var 1) .nil))) (.cons (.nt (.chain .le .lt (.cst (.int 2)) (.blt .len (.cons (.var 1) .nil)) (.var 0))) .nil))) (.cons (.ret (.cst (.bool false))) .nil) .nil) (.cons (.ifs (.nt (.blt .all (.cons (.comp (.call 1 [.v, .v, .v] (.cons (.var 3) (.cons (.cst (.int 1)) (.cons (.var 0) .nil)))) (.cons (.nm 3) (.it (.var 1)) .nil .nil) [3]) .nil))) (.cons (.ret (.cst (.bool false))) .nil) .nil) (.cons (.ret (.blt .all (.cons (.comp (.cmp .lt (.idx (.var 1) (.var 2)) (.idx (.var 1) (.bin .add (.var 2) (.cst (.int 1))))) (.cons (.nm 2) (.rng (.cons (.bin .sub (.blt .len (.cons (.var 1) .nil)) (.cst (.int 1))) .nil)) .nil .nil) [2]) .nil))) .nil)))
def F_fis_lot : Fn := ⟨[false, false], 4, b_fis_lot⟩
abbrev i_fis_lot : Nat := 37
/-- do_fit(one, other): slots 0 one 1 other 2 both 3 tip -/
def b_fdo_fit : Sms := (.cons (.asg (.nm 2) (.comp (.var 3) (.cons (.nm 3) (.it (.var 0)) (.cons (.cmp .isin (.var 3) (.var 1)) .nil) .nil) [3])) (.cons (.ret (.bo false (.cons (.cmp .eq (.var 2) (.lst .nil)) (.cons (.cmp .isin (.blt .len (.cons (.var 2) .nil)) (.tup (.cons (.blt .len (.cons (.var 0) .nil)) (.cons (.blt .len (.cons (.var 1) .nil)) .nil)))) .nil)))) .nil))
def F_fdo_fit : Fn := ⟨[false, false], 4, b_fdo_fit⟩
abbrev i_fdo_fit : Nat := 38
/-- fits_all(lot, lots): slots 0 lot 1 lots 2 other -/
def b_ffits_all : Sms := (.cons (.ret (.blt .all (.cons (.comp (.call 38 [.v, .v] (.cons (.var 0) (.cons (.var 2) .nil))) (.cons (.nm 2) (.it (.var 1)) .nil .nil) [2]) .nil))) .nil)
def F_ffits_all : Fn := ⟨[false, false], 3, b_ffits_all⟩
abbrev i_ffits_all : Nat := 39
/-- is_shape(many, thing): slots 0 many 1 thing 2 at 3 lot -/
def b_fis_shape : Sms := (.cons (.ifs (.bo false (.cons (.nt (.blt .isTuple (.cons (.var 1) .nil))) (.cons (.nt (.blt .all (.cons (.comp (.call 37 [.v, .v] (.cons (.var 0) (.cons (.var 3) .nil))) (.cons (.nm 3) (.it (.var 1)) .nil .nil) [3]) .nil))) .nil))) (.cons (.ret (.cst (.bool false))) .nil) .nil) (.cons (.ifs (.nt (.blt .all (.cons (.comp (.cmp .lt (.idx (.var 1) (.var 2)) (.idx (.var 1) (.bin .add (.var 2) (.cst (.int 1))))) (.cons (.nm 2) (.rng (.cons (.bin .sub (.blt .len (.cons (.var 1) .nil)) (.cst (.int 1))) .nil)) .nil .nil) [2]) .nil))) (.cons (.ret (.cst (.bool false))) .nil) .nil) (.cons (.ret (.blt .all (.cons (.comp (.call 39 [.v, .v] (.cons (.idx (.var 1) (.var 2)) (.cons (.slc (.var 1) .nil (.cons (.var 2) .nil)) .nil))) (.cons (.nm 2) (.rng (.cons (.blt .len (.cons (.var 1) .nil)) .nil)) .nil .nil) [2]) .nil))) .nil)))
def F_fis_shape : Fn := ⟨[false, false], 4, b_fis_shape⟩
abbrev i_fis_shape : Nat := 40
/-- need_shape(many, thing): slots 0 many 1 thing -/
def b_fneed_shape : Sms := (.cons (.ifs (.nt (.call 40 [.v, .v] (.cons (.var 0) (.cons (.var 1) .nil)))) (.cons (.rse 5) .nil) .nil) .nil)
def F_fneed_shape : Fn := ⟨[false, false], 2, b_fneed_shape⟩
abbrev i_fneed_shape : Nat := 41
/-- is_length(thing): slots 0 thing -/
def b_fis_length : Sms := (.cons (.ret (.bo true (.cons (.call 3 [.v] (.cons (.var 0) .nil)) (.cons (.cmp .isin (.idx (.var 0) (.cst (.int 1))) (.tup (.cons (.cst (.int 1)) (.cons (.cst (.int 2)) .nil)))) (.cons (.chain .lt .le (.cst (.int 0)) (.idx (.var 0) (.cst (.int 0))) (.bin .mul (.glo (.int 500)) (.idx (.var 0) (.cst (.int 1))))) .nil))))) .nil)
def F_fis_length : Fn := ⟨[false], 1, b_fis_length⟩
abbrev i_fis_length : Nat := 42
/-- lots_of(tree): slots 0 tree 1 lot 2 length -/
def b_flots_of : Sms := (.cons (.ret (.blt .tuple (.cons (.comp (.var 1) (.cons (.tp [(.nm 1), (.nm 2)]) (.it (.idx (.var 0) (.cst (.int 1)))) .nil .nil) [1, 2]) .nil))) .nil)
def F_flots_of : Fn := ⟨[false], 3, b_flots_of⟩
abbrev i_flots_of : Nat := 43
/-- is_tree(thing): slots 0 thing 1 road 2 lot 3 length -/
def b_fis_tree : Sms := (.cons (.ifs (.bo false (.cons (.nt (.blt .isTuple (.cons (.var 0) .nil))) (.cons (.cmp .ne (.blt .len (.cons (.var 0) .nil)) (.cst (.int 2))) (.cons (.nt (.call 1 [.v, .v, .v] (.cons (.idx (.var 0) (.cst (.int 0))) (.cons (.glo (.int 3)) (.cons (.glo (.int 6)) .nil))))) .nil)))) (.cons (.ret (.cst (.bool false))) .nil) .nil) (.cons (.ifs (.bo false (.cons (.nt (.blt .isTuple (.cons (.idx (.var 0) (.cst (.int 1))) .nil))) (.cons (.nt (.blt .all (.cons (.comp (.bo true (.cons (.blt .isTuple (.cons (.var 1) .nil)) (.cons (.cmp .eq (.blt .len (.cons (.var 1) .nil)) (.cst (.int 2))) .nil))) (.cons (.nm 1) (.it (.idx (.var 0) (.cst (.int 1)))) .nil .nil) [1]) .nil))) .nil))) (.cons (.ret (.cst (.bool false))) .nil) .nil) (.cons (.ret (.bo true (.cons (.call 40 [.v, .v] (.cons (.idx (.var 0) (.cst (.int 0))) (.cons (.call 43 [.v] (.cons (.var 0) .nil)) .nil))) (.cons (.blt .all (.cons (.comp (.call 42 [.v] (.cons (.var 3) .nil)) (.cons (.tp [(.nm 2), (.nm 3)]) (.it (.idx (.var 0) (.cst (.int 1)))) .nil .nil) [2, 3]) .nil)) .nil)))) .nil)))
def F_fis_tree : Fn := ⟨[false], 4, b_fis_tree⟩
abbrev i_fis_tree : Nat := 44
/-- need_tree(thing): slots 0 thing -/
def b_fneed_tree : Sms := (.cons (.ifs (.nt (.call 44 [.v] (.cons (.var 0) .nil))) (.cons (.rse 6) .nil) .nil) .nil)
def F_fneed_tree : Fn := ⟨[false], 1, b_fneed_tree⟩
abbrev i_fneed_tree : Nat := 45
/-- lots_for(many): slots 0 many 1 found 2 tip 3 lot -/
def b_flots_for : Sms := (.cons (.asg (.nm 1) (.lst (.cons (.tup .nil) .nil))) (.cons (.fors (.nm 2) (.rng (.cons (.cst (.int 1)) (.cons (.bin .add (.var 0) (.cst (.int 1))) .nil))) (.cons (.asg (.nm 1) (.bin .add (.var 1) (.comp (.bin .add (.var 3) (.tup (.cons (.var 2) .nil))) (.cons (.nm 3) (.it (.var 1)) .nil .nil) [3]))) .nil)) (.cons (.ret (.blt .sorted (.cons (.comp (.var 3) (.cons (.nm 3) (.it (.var 1)) (.cons (.chain .le .lt (.cst (.int 2)) (.blt .len (.cons (.var 3) .nil)) (.var 0)) .nil) .nil) [3]) .nil))) .nil)))
def F_flots_for : Fn := ⟨[false], 4, b_flots_for⟩
abbrev i_flots_for : Nat := 46
/-- grown(many, shape, roads): slots 0 many 1 shape 2 roads 3 free 4 rows 5 turn 6 later 7 lot 8 some 9 start 10 at -/
def b_fgrown : Sms := (.cons (.asg (.nm 3) (.comp (.var 7) (.cons (.nm 7) (.it (.call 46 [.v] (.cons (.var 0) .nil))) (.cons (.bo true (.cons (.cmp .notin (.var 7) (.var 1)) (.cons (.call 39 [.v, .v] (.cons (.var 7) (.cons (.var 1) .nil))) .nil))) .nil) .nil) [7])) (.cons (.asg (.nm 4) (.lst (.cons (.tup (.cons (.tup .nil) (.cons (.cst (.int 0)) .nil))) .nil))) (.cons (.fors (.nm 5) (.rng (.cons (.bin .sub (.var 2) (.blt .len (.cons (.var 1) .nil))) .nil)) (.cons (.asg (.nm 6) (.lst .nil)) (.cons (.fors (.tp [(.nm 8), (.nm 9)]) (.it (.var 4)) (.cons (.fors (.nm 10) (.rng (.cons (.var 9) (.cons (.blt .len (.cons (.var 3) .nil)) .nil))) (.cons (.ifs (.call 39 [.v, .v] (.cons (.idx (.var 3) (.var 10)) (.cons (.var 8) .nil))) (.cons (.exp (.mut .append (.var 6) (.cons (.tup (.cons (.bin .add (.var 8) (.tup (.cons (.idx (.var 3) (.var 10)) .nil))) (.cons (.bin .add (.var 10) (.cst (.int 1))) .nil))) .nil))) .nil) .nil) .nil)) .nil)) (.cons (.asg (.nm 4) (.var 6)) .nil)))) (.cons (.ret (.blt .sorted (.cons (.comp (.blt .tuple (.cons (.blt .sorted (.cons (.bin .add (.var 1) (.var 8)) .nil)) .nil)) (.cons (.tp [(.nm 8), (.nm 9)]) (.it (.var 4)) .nil .nil) [8, 9]) .nil))) .nil))))
def F_fgrown : Fn := ⟨[false, false, false], 11, b_fgrown⟩
abbrev i_fgrown : Nat := 47
/-- fits(many, one, other): slots 0 many 1 one 2 other 3 lot -/
def b_ffits : Sms := (.cons (.exp (.call 36 [.v] (.cons (.var 0) .nil))) (.cons (.fors (.nm 3) (.it (.tup (.cons (.var 1) (.cons (.var 2) .nil)))) (.cons (.ifs (.nt (.call 37 [.v, .v] (.cons (.var 0) (.cons (.var 3) .nil)))) (.cons (.rse 4) .nil) .nil) .nil)) (.cons (.ret (.call 38 [.v, .v] (.cons (.var 1) (.cons (.var 2) .nil)))) .nil)))
def F_ffits : Fn := ⟨[false, false, false], 4, b_ffits⟩
abbrev i_ffits : Nat := 48
/-- shape_of(tree): slots 0 tree -/
def b_fshape_of : Sms := (.cons (.exp (.call 45 [.v] (.cons (.var 0) .nil))) (.cons (.ret (.call 43 [.v] (.cons (.var 0) .nil))) .nil))
def F_fshape_of : Fn := ⟨[false], 1, b_fshape_of⟩
abbrev i_fshape_of : Nat := 49
/-- shapes(many, roads): slots 0 many 1 roads -/
def b_fshapes : Sms := (.cons (.exp (.call 36 [.v] (.cons (.var 0) .nil))) (.cons (.ifs (.nt (.call 1 [.v, .v, .v] (.cons (.var 1) (.cons (.cst (.int 0)) (.cons (.bin .sub (.var 0) (.cst (.int 2))) .nil))))) (.cons (.rse 3) .nil) .nil) (.cons (.ret (.call 47 [.v, .v, .v] (.cons (.var 0) (.cons (.tup .nil) (.cons (.var 1) .nil))))) .nil)))
def F_fshapes : Fn := ⟨[false, false], 2, b_fshapes⟩
abbrev i_fshapes : Nat := 50
/-- around(many, shape): slots 0 many 1 shape -/
def b_faround : Sms := (.cons (.exp (.call 36 [.v] (.cons (.var 0) .nil))) (.cons (.exp (.call 41 [.v, .v] (.cons (.var 0) (.cons (.var 1) .nil)))) (.cons (.ret (.call 47 [.v, .v, .v] (.cons (.var 0) (.cons (.var 1) (.cons (.bin .sub (.var 0) (.cst (.int 2))) .nil))))) .nil)))
def F_faround : Fn := ⟨[false, false], 2, b_faround⟩
abbrev i_faround : Nat := 51
/-- renamed(tree, order): slots 0 tree 1 order 2 tip 3 lot 4 one -/
def b_frenamed : Sms := (.cons (.exp (.call 45 [.v] (.cons (.var 0) .nil))) (.cons (.ifs (.bo false (.cons (.nt (.blt .isTuple (.cons (.var 1) .nil))) (.cons (.nt (.blt .all (.cons (.comp (.call 1 [.v, .v, .v] (.cons (.var 2) (.cons (.cst (.int 1)) (.cons (.idx (.var 0) (.cst (.int 0))) .nil)))) (.cons (.nm 2) (.it (.var 1)) .nil .nil) [2]) .nil))) .nil))) (.cons (.rse 3) .nil) .nil) (.cons (.ifs (.cmp .ne (.blt .sorted (.cons (.var 1) .nil)) (.blt .lrange (.cons (.cst (.int 1)) (.cons (.bin .add (.idx (.var 0) (.cst (.int 0))) (.cst (.int 1))) .nil)))) (.cons (.rse 3) .nil) .nil) (.cons (.ret (.tup (.cons (.idx (.var 0) (.cst (.int 0))) (.cons (.blt .tuple (.cons (.blt .sorted (.cons (.comp (.tup (.cons (.blt .tuple (.cons (.blt .sorted (.cons (.comp (.idx (.var 1) (.bin .sub (.var 2) (.cst (.int 1)))) (.cons (.nm 2) (.it (.var 3)) .nil .nil) [2]) .nil)) .nil)) (.cons (.var 4) .nil))) (.cons (.tp [(.nm 3), (.nm 4)]) (.it (.idx (.var 0) (.cst (.int 1)))) .nil .nil) [3, 4]) .nil)) .nil)) .nil)))) .nil))))
def F_frenamed : Fn := ⟨[false, false], 5, b_frenamed⟩
abbrev i_frenamed : Nat := 52
/-- joined(one, other, length): slots 0 one 1 other 2 length 3 tree 4 roads 5 lot 6 part 7 tip -/
def b_fjoined : Sms := (.cons (.fors (.nm 3) (.it (.tup (.cons (.var 0) (.cons (.var 1) .nil)))) (.cons (.exp (.call 45 [.v] (.cons (.var 3) .nil))) (.cons (.ifs (.cmp .ne (.idx (.var 3) (.cst (.int 0))) (.glo (.int 3))) (.cons (.rse 6) .nil) .nil) .nil))) (.cons (.ifs (.nt (.call 42 [.v] (.cons (.var 2) .nil))) (.cons (.rse 1) .nil) .nil) (.cons (.asg (.nm 4) (.bin .add (.blt .list (.cons (.idx (.var 0) (.cst (.int 1))) .nil)) (.lst (.cons (.tup (.cons (.tup (.cons (.cst (.int 1)) (.cons (.cst (.int 2)) (.cons (.cst (.int 3)) .nil)))) (.cons (.var 2) .nil))) (.cons (.tup (.cons (.tup (.cons (.cst (.int 4)) (.cons (.cst (.int 5)) (.cons (.cst (.int 6)) .nil)))) (.cons (.var 2) .nil))) .nil))))) (.cons (.exp (.mut .extend (.var 4) (.cons (.comp (.tup (.cons (.blt .tuple (.cons (.comp (.bin .add (.var 7) (.cst (.int 3))) (.cons (.nm 7) (.it (.var 5)) .nil .nil) [7]) .nil)) (.cons (.var 6) .nil))) (.cons (.tp [(.nm 5), (.nm 6)]) (.it (.idx (.var 1) (.cst (.int 1)))) .nil .nil) [5, 6]) .nil))) (.cons (.ret (.tup (.cons (.glo (.int 6)) (.cons (.blt .tuple (.cons (.blt .sorted (.cons (.var 4) .nil)) .nil)) .nil)))) .nil)))))
def F_fjoined : Fn := ⟨[false, false, false], 8, b_fjoined⟩
abbrev i_fjoined : Nat := 53
/-- _law_is(found, due): slots 0 found 1 due -/
def b_f_law_is : Sms := (.cons (.ret (.bo true (.cons (.blt .isBool (.cons (.var 0) .nil)) (.cons (.cmp .eq (.var 0) (.var 1)) .nil)))) .nil)
def F_f_law_is : Fn := ⟨[false, false], 2, b_f_law_is⟩
abbrev i_f_law_is : Nat := 54
/-- _law_fit(one, other): slots 0 one 1 other 2 both 3 tip -/
def b_f_law_fit : Sms := (.cons (.asg (.nm 2) (.blt .len (.cons (.comp (.var 3) (.cons (.nm 3) (.it (.var 0)) (.cons (.cmp .isin (.var 3) (.var 1)) .nil) .nil) [3]) .nil))) (.cons (.ret (.bo false (.cons (.cmp .eq (.var 2) (.cst (.int 0))) (.cons (.cmp .eq (.var 2) (.blt .len (.cons (.var 0) .nil))) (.cons (.cmp .eq (.var 2) (.blt .len (.cons (.var 1) .nil))) .nil))))) .nil))
def F_f_law_fit : Fn := ⟨[false, false], 4, b_f_law_fit⟩
abbrev i_f_law_fit : Nat := 55
/-- _law_all_fit(lot, lots): slots 0 lot 1 lots 2 other -/
def b_f_law_all_fit : Sms := (.cons (.ret (.cmp .eq (.comp (.var 2) (.cons (.nm 2) (.it (.var 1)) (.cons (.nt (.call 55 [.v, .v] (.cons (.var 0) (.cons (.var 2) .nil)))) .nil) .nil) [2]) (.lst .nil))) .nil)
def F_f_law_all_fit : Fn := ⟨[false, false], 3, b_f_law_all_fit⟩
abbrev i_f_law_all_fit : Nat := 56
/-- _law_lots(many): slots 0 many 1 found 2 tip 3 lot -/
def b_f_law_lots : Sms := (.cons (.asg (.nm 1) (.lst (.cons (.tup .nil) .nil))) (.cons (.fors (.nm 2) (.rng (.cons (.cst (.int 1)) (.cons (.bin .add (.var 0) (.cst (.int 1))) .nil))) (.cons (.asg (.nm 1) (.bin .add (.var 1) (.comp (.bin .add (.var 3) (.tup (.cons (.var 2) .nil))) (.cons (.nm 3) (.it (.var 1)) .nil .nil) [3]))) .nil)) (.cons (.ret (.blt .sorted (.cons (.comp (.var 3) (.cons (.nm 3) (.it (.var 1)) (.cons (.chain .lt .lt (.cst (.int 1)) (.blt .len (.cons (.var 3) .nil)) (.var 0)) .nil) .nil) [3]) .nil))) .nil)))
def F_f_law_lots : Fn := ⟨[false], 4, b_f_law_lots⟩
abbrev i_f_law_lots : Nat := 57
/-- _law_length(row): slots 0 row 1 way -/
def b_f_law_length : Sms := (.cons (.asg (.nm 1) (.call 20 [.io, .v] (.cons (.var 0) (.cons (.cst (.int 8)) .nil)))) (.cons (.ifs (.cmp .lt (.var 1) (.cst (.int 4))) (.cons (.ret (.tup (.cons (.bin .add (.cst (.int 1)) (.call 20 [.io, .v] (.cons (.var 0) (.cons (.idx (.lst (.cons (.cst (.int 2)) (.cons (.cst (.int 4)) (.cons (.cst (.int 9)) (.cons (.cst (.int 20)) .nil))))) (.var 1)) .nil)))) (.cons (.cst (.int 1)) .nil)))) .nil) .nil) (.cons (.ifs (.cmp .eq (.var 1) (.cst (.int 4))) (.cons (.ret (.tup (.cons (.bin .add (.cst (.int 1)) (.call 20 [.io, .v] (.cons (.var 0) (.cons (.cst (.int 500)) .nil)))) (.cons (.cst (.int 1)) .nil)))) .nil) .nil) (.cons (.ret (.call 23 [.v, .v] (.cons (.bin .add (.cst (.int 1)) (.call 20 [.io, .v] (.cons (.var 0) (.cons (.cst (.int 30)) .nil)))) (.cons (.cst (.int 2)) .nil)))) .nil))))
def F_f_law_length : Fn := ⟨[true], 2, b_f_law_length⟩
abbrev i_f_law_length : Nat := 58
/-- _law_shape(row, many, held, roads): slots 0 row 1 many 2 held 3 roads 4 found 5 turn 6 free 7 lot -/
def b_f_law_shape : Sms := (.cons (.asg (.nm 4) (.blt .list (.cons (.var 2) .nil))) (.cons (.fors (.nm 5) (.rng (.cons (.blt .max (.cons (.cst (.int 0)) (.cons (.bin .sub (.var 3) (.blt .len (.cons (.var 2) .nil))) .nil))) .nil)) (.cons (.asg (.nm 6) (.comp (.var 7) (.cons (.nm 7) (.it (.call 57 [.v] (.cons (.var 1) .nil))) (.cons (.bo true (.cons (.cmp .notin (.var 7) (.var 4)) (.cons (.call 56 [.v, .pk] (.cons (.var 7) (.cons (.var 4) .nil))) .nil))) .nil) .nil) [7])) (.cons (.ifs (.cmp .ne (.var 6) (.lst .nil)) (.cons (.exp (.mut .append (.var 4) (.cons (.call 21 [.io, .v] (.cons (.var 0) (.cons (.var 6) .nil))) .nil))) .nil) .nil) .nil))) (.cons (.ret (.blt .tuple (.cons (.blt .sorted (.cons (.var 4) .nil)) .nil))) .nil)))
def F_f_law_shape : Fn := ⟨[true, false, false, false], 8, b_f_law_shape⟩
abbrev i_f_law_shape : Nat := 59
/-- _law_tree(row, many, held): slots 0 row 1 many 2 held 3 roads 4 lot -/
def b_f_law_tree : Sms := (.cons (.asg (.nm 3) (.ite (.cmp .gt (.call 20 [.io, .v] (.cons (.var 0) (.cons (.cst (.int 3)) .nil))) (.cst (.int 0))) (.bin .sub (.var 1) (.cst (.int 2))) (.call 20 [.io, .v] (.cons (.var 0) (.cons (.bin .sub (.var 1) (.cst (.int 1))) .nil))))) (.cons (.ret (.tup (.cons (.var 1) (.cons (.blt .tuple (.cons (.comp (.tup (.cons (.var 4) (.cons (.call 58 [.io] (.cons (.var 0) .nil)) .nil))) (.cons (.nm 4) (.it (.call 59 [.io, .v, .v, .v] (.cons (.var 0) (.cons (.var 1) (.cons (.var 2) (.cons (.var 3) .nil)))))) .nil .nil) [4]) .nil)) .nil)))) .nil))
def F_f_law_tree : Fn := ⟨[true, false, false], 5, b_f_law_tree⟩
abbrev i_f_law_tree : Nat := 60
-- f_law_ward: Dict(keys=[Tuple(elts=[Constant(value=2), Constant(value=1)], ctx=Load())], values=[Constant(value=1)])
-- flaw_k01: call set
/-- divided(one, other): slots 0 one 1 other -/
def b_fdivided : Sms := (.cons (.ret (.call 2 [.v, .v] (.cons (.bin .mul (.idx (.var 0) (.cst (.int 0))) (.idx (.var 1) (.cst (.int 1)))) (.cons (.bin .mul (.idx (.var 0) (.cst (.int 1))) (.idx (.var 1) (.cst (.int 0)))) .nil)))) .nil)
def F_fdivided : Fn := ⟨[false, false], 2, b_fdivided⟩
abbrev i_fdivided : Nat := 63
/-- turned(one): slots 0 one -/
def b_fturned : Sms := (.cons (.ret (.tup (.cons (.neg (.idx (.var 0) (.cst (.int 0)))) (.cons (.idx (.var 0) (.cst (.int 1))) .nil)))) .nil)
def F_fturned : Fn := ⟨[false], 1, b_fturned⟩
abbrev i_fturned : Nat := 64
/-- is_below(one, other): slots 0 one 1 other -/
def b_fis_below : Sms := (.cons (.ret (.cmp .lt (.bin .mul (.idx (.var 0) (.cst (.int 0))) (.idx (.var 1) (.cst (.int 1)))) (.bin .mul (.idx (.var 1) (.cst (.int 0))) (.idx (.var 0) (.cst (.int 1)))))) .nil)
def F_fis_below : Fn := ⟨[false, false], 2, b_fis_below⟩
abbrev i_fis_below : Nat := 65
/-- total(some): slots 0 some 1 found 2 one -/
def b_ftotal : Sms := (.cons (.asg (.nm 1) (.tup (.cons (.cst (.int 0)) (.cons (.cst (.int 1)) .nil)))) (.cons (.fors (.nm 2) (.it (.var 0)) (.cons (.asg (.nm 1) (.call 4 [.v, .v] (.cons (.var 1) (.cons (.var 2) .nil)))) .nil)) (.cons (.ret (.var 1)) .nil)))
def F_ftotal : Fn := ⟨[false], 3, b_ftotal⟩
abbrev i_ftotal : Nat := 66
/-- square_of(roads): slots 0 roads 1 lot 2 length -/
def b_fsquare_of : Sms := (.cons (.ret (.call 66 [.v] (.cons (.comp (.call 5 [.v, .v] (.cons (.var 2) (.cons (.var 2) .nil))) (.cons (.tp [(.nm 1), (.nm 2)]) (.it (.var 0)) .nil .nil) [1, 2]) .nil))) .nil)
def F_fsquare_of : Fn := ⟨[false], 3, b_fsquare_of⟩
abbrev i_fsquare_of : Nat := 67
/-- halves(roads): slots 0 roads 1 found 2 road 3 some 4 rest -/
def b_fhalves : Sms := (.cons (.asg (.nm 1) (.lst (.cons (.tup (.cons (.tup .nil) (.cons (.tup .nil) .nil))) .nil))) (.cons (.fors (.nm 2) (.it (.var 0)) (.cons (.asg (.nm 1) (.bin .add (.comp (.tup (.cons (.bin .add (.var 3) (.tup (.cons (.var 2) .nil))) (.cons (.var 4) .nil))) (.cons (.tp [(.nm 3), (.nm 4)]) (.it (.var 1)) .nil .nil) [3, 4]) (.comp (.tup (.cons (.var 3) (.cons (.bin .add (.var 4) (.tup (.cons (.var 2) .nil))) .nil))) (.cons (.tp [(.nm 3), (.nm 4)]) (.it (.var 1)) .nil .nil) [3, 4]))) .nil)) (.cons (.ret (.var 1)) .nil)))
def F_fhalves : Fn := ⟨[false], 5, b_fhalves⟩
abbrev i_fhalves : Nat := 68
/-- split_of(one, other): slots 0 one 1 other 2 best 3 found 4 kept 5 gone 6 lots 7 near 8 far 9 cover 10 lot 11 length 12 road -/
def b_fsplit_of : Sms := (.cons (.par [2, 3] (.cons (.tup (.cons (.cst (.int 1)) (.cons (.cst (.int 1)) .nil))) (.cons (.cst .none) .nil))) (.cons (.fors (.tp [(.nm 4), (.nm 5)]) (.it (.call 68 [.v] (.cons (.var 0) .nil))) (.cons (.asg (.nm 6) (.comp (.var 10) (.cons (.tp [(.nm 10), (.nm 11)]) (.it (.var 5)) .nil .nil) [10, 11])) (.cons (.asg (.nm 7) (.blt .tuple (.cons (.comp (.var 12) (.cons (.nm 12) (.it (.var 1)) (.cons (.call 39 [.v, .v] (.cons (.idx (.var 12) (.cst (.int 0))) (.cons (.var 6) .nil))) .nil) .nil) [12]) .nil))) (.cons (.asg (.nm 8) (.blt .tuple (.cons (.comp (.var 12) (.cons (.nm 12) (.it (.var 1)) (.cons (.nt (.call 39 [.v, .v] (.cons (.idx (.var 12) (.cst (.int 0))) (.cons (.var 6) .nil)))) .nil) .nil) [12]) .nil))) (.cons (.asg (.nm 9) (.call 4 [.v, .v] (.cons (.call 63 [.v, .v] (.cons (.call 67 [.v] (.cons (.var 4) .nil)) (.cons (.call 67 [.v] (.cons (.var 0) .nil)) .nil))) (.cons (.call 63 [.v, .v] (.cons (.call 67 [.v] (.cons (.var 8) .nil)) (.cons (.call 67 [.v] (.cons (.var 1) .nil)) .nil))) .nil)))) (.cons (.ifs (.call 65 [.v, .v] (.cons (.var 9) (.cons (.var 2) .nil))) (.cons (.par [2, 3] (.cons (.var 9) (.cons (.tup (.cons (.tup (.cons (.var 4) (.cons (.var 7) .nil))) (.cons (.tup (.cons (.var 5) (.cons (.var 8) .nil))) .nil))) .nil))) .nil) .nil) .nil)))))) (.cons (.ret (.var 3)) .nil)))
def F_fsplit_of : Fn := ⟨[false, false], 13, b_fsplit_of⟩
abbrev i_fsplit_of : Nat := 69
/-- of_fraction(one): slots 0 one -/
def b_fof_fraction : Sms := (.cons (.ret (.ite (.cmp .ne (.idx (.var 0) (.cst (.int 0))) (.cst (.int 0))) (.tup (.cons (.tup (.cons (.cst (.int 1)) (.cons (.var 0) .nil))) .nil)) (.tup .nil))) .nil)
def F_fof_fraction : Fn := ⟨[false], 1, b_fof_fraction⟩
abbrev i_fof_fraction : Nat := 70
/-- times_fraction(one, many): slots 0 one 1 many 2 radicand 3 part -/
def b_ftimes_fraction : Sms := (.cons (.ret (.call 10 [.v] (.cons (.comp (.tup (.cons (.var 2) (.cons (.call 5 [.v, .v] (.cons (.var 3) (.cons (.var 1) .nil))) .nil))) (.cons (.tp [(.nm 2), (.nm 3)]) (.it (.var 0)) .nil .nil) [2, 3]) .nil))) .nil)
def F_ftimes_fraction : Fn := ⟨[false, false], 4, b_ftimes_fraction⟩
abbrev i_ftimes_fraction : Nat := 71
/-- need_trees(one, other): slots 0 one 1 other -/
def b_fneed_trees : Sms := (.cons (.exp (.call 45 [.v] (.cons (.var 0) .nil))) (.cons (.exp (.call 45 [.v] (.cons (.var 1) .nil))) (.cons (.ifs (.cmp .ne (.idx (.var 0) (.cst (.int 0))) (.idx (.var 1) (.cst (.int 0)))) (.cons (.rse 6) .nil) .nil) .nil)))
def F_fneed_trees : Fn := ⟨[false, false], 2, b_fneed_trees⟩
abbrev i_fneed_trees : Nat := 72
-- fcommon_of: call dict
/-- rest_of(tree, common): slots 0 tree 1 common 2 lots 3 lot 4 first 5 second 6 road -/
def b_frest_of : Sms := (.cons (.asg (.nm 2) (.comp (.var 3) (.cons (.tp [(.nm 3), (.nm 4), (.nm 5)]) (.it (.var 1)) .nil .nil) [3, 4, 5])) (.cons (.ret (.blt .tuple (.cons (.comp (.var 6) (.cons (.nm 6) (.it (.idx (.var 0) (.cst (.int 1)))) (.cons (.cmp .notin (.idx (.var 6) (.cst (.int 0))) (.var 2)) .nil) .nil) [6]) .nil))) .nil))
def F_frest_of : Fn := ⟨[false, false], 7, b_frest_of⟩
abbrev i_frest_of : Nat := 74
/-- legs_of(one, other): slots 0 one 1 other 2 common 3 first 4 second 5 waiting 6 done 7 leg 8 parts -/
def b_flegs_of : Sms := (.cons (.asg (.nm 2) (.call 73 [.v, .v] (.cons (.var 0) (.cons (.var 1) .nil)))) (.cons (.par [3, 4] (.cons (.call 74 [.v, .v] (.cons (.var 0) (.cons (.var 2) .nil))) (.cons (.call 74 [.v, .v] (.cons (.var 1) (.cons (.var 2) .nil))) .nil))) (.cons (.par [5, 6] (.cons (.ite (.cmp .ne (.var 3) (.tup .nil)) (.lst (.cons (.tup (.cons (.var 3) (.cons (.var 4) .nil))) .nil)) (.lst .nil)) (.cons (.lst .nil) .nil))) (.cons (.whl (.cmp .ne (.var 5) (.lst .nil)) (.cons (.asg (.nm 7) (.mut .popAt (.var 5) (.cons (.cst (.int 0)) .nil))) (.cons (.asg (.nm 8) (.call 69 [.v, .v] (.cons (.idx (.var 7) (.cst (.int 0))) (.cons (.idx (.var 7) (.cst (.int 1))) .nil)))) (.cons (.ifs (.isN true (.var 8)) (.cons (.exp (.mut .append (.var 6) (.cons (.var 7) .nil))) .nil) (.cons (.asg (.nm 5) (.bin .add (.lst (.cons (.idx (.var 8) (.cst (.int 0))) (.cons (.idx (.var 8) (.cst (.int 1))) .nil))) (.var 5))) .nil)) .nil)))) (.cons (.ret (.blt .tuple (.cons (.var 6) .nil))) .nil)))))
def F_flegs_of : Fn := ⟨[false, false], 9, b_flegs_of⟩
abbrev i_flegs_of : Nat := 75
/-- bare(legs): slots 0 legs 1 leg 2 side 3 lot 4 length -/
def b_fbare : Sms := (.cons (.ret (.blt .tuple (.cons (.comp (.blt .tuple (.cons (.comp (.blt .tuple (.cons (.comp (.var 3) (.cons (.tp [(.nm 3), (.nm 4)]) (.it (.var 2)) .nil .nil) [3, 4]) .nil)) (.cons (.nm 2) (.it (.var 1)) .nil .nil) [2]) .nil)) (.cons (.nm 1) (.it (.var 0)) .nil .nil) [1]) .nil))) .nil)
def F_fbare : Fn := ⟨[false], 5, b_fbare⟩
abbrev i_fbare : Nat := 76
/-- even_square(common): slots 0 common 1 gaps 2 lot 3 first 4 second 5 gap -/
def b_feven_square : Sms := (.cons (.asg (.nm 1) (.comp (.call 4 [.v, .v] (.cons (.var 4) (.cons (.call 64 [.v] (.cons (.var 3) .nil)) .nil))) (.cons (.tp [(.nm 2), (.nm 3), (.nm 4)]) (.it (.var 0)) .nil .nil) [2, 3, 4])) (.cons (.ret (.call 66 [.v] (.cons (.comp (.call 5 [.v, .v] (.cons (.var 5) (.cons (.var 5) .nil))) (.cons (.nm 5) (.it (.var 1)) .nil .nil) [5]) .nil))) .nil))
def F_feven_square : Fn := ⟨[false], 6, b_feven_square⟩
abbrev i_feven_square : Nat := 77
/-- leg_square(leg): slots 0 leg 1 one 2 other -/
def b_fleg_square : Sms := (.cons (.par [1, 2] (.cons (.call 67 [.v] (.cons (.idx (.var 0) (.cst (.int 0))) .nil)) (.cons (.call 67 [.v] (.cons (.idx (.var 0) (.cst (.int 1))) .nil)) .nil))) (.cons (.ret (.call 11 [.v, .v] (.cons (.call 70 [.v] (.cons (.call 4 [.v, .v] (.cons (.var 1) (.cons (.var 2) .nil))) .nil)) (.cons (.call 71 [.v, .v] (.cons (.call 9 [.v] (.cons (.call 5 [.v, .v] (.cons (.var 1) (.cons (.var 2) .nil))) .nil)) (.cons (.tup (.cons (.cst (.int 2)) (.cons (.cst (.int 1)) .nil))) .nil))) .nil)))) .nil))
def F_fleg_square : Fn := ⟨[false], 3, b_fleg_square⟩
abbrev i_fleg_square : Nat := 78
/-- square_between(one, other): slots 0 one 1 other 2 found 3 leg -/
def b_fsquare_between : Sms := (.cons (.asg (.nm 2) (.call 70 [.v] (.cons (.call 77 [.v] (.cons (.call 73 [.v, .v] (.cons (.var 0) (.cons (.var 1) .nil))) .nil)) .nil))) (.cons (.fors (.nm 3) (.it (.call 75 [.v, .v] (.cons (.var 0) (.cons (.var 1) .nil)))) (.cons (.asg (.nm 2) (.call 11 [.v, .v] (.cons (.var 2) (.cons (.call 78 [.v] (.cons (.var 3) .nil)) .nil)))) .nil)) (.cons (.ret (.var 2)) .nil)))
def F_fsquare_between : Fn := ⟨[false, false], 4, b_fsquare_between⟩
abbrev i_fsquare_between : Nat := 79
/-- shared(one, other): slots 0 one 1 other -/
def b_fshared : Sms := (.cons (.exp (.call 72 [.v, .v] (.cons (.var 0) (.cons (.var 1) .nil)))) (.cons (.ret (.call 73 [.v, .v] (.cons (.var 0) (.cons (.var 1) .nil)))) .nil))
def F_fshared : Fn := ⟨[false, false], 2, b_fshared⟩
abbrev i_fshared : Nat := 80
/-- chain(one, other): slots 0 one 1 other -/
def b_fchain : Sms := (.cons (.exp (.call 72 [.v, .v] (.cons (.var 0) (.cons (.var 1) .nil)))) (.cons (.ret (.call 76 [.v] (.cons (.call 75 [.v, .v] (.cons (.var 0) (.cons (.var 1) .nil))) .nil))) .nil))
def F_fchain : Fn := ⟨[false, false], 2, b_fchain⟩
abbrev i_fchain : Nat := 81
/-- square(one, other): slots 0 one 1 other -/
def b_fsquare : Sms := (.cons (.exp (.call 72 [.v, .v] (.cons (.var 0) (.cons (.var 1) .nil)))) (.cons (.ret (.call 79 [.v, .v] (.cons (.var 0) (.cons (.var 1) .nil)))) .nil))
def F_fsquare : Fn := ⟨[false, false], 2, b_fsquare⟩
abbrev i_fsquare : Nat := 82
/-- bounds(one, other): slots 0 one 1 other 2 common 3 sides 4 least 5 twice -/
def b_fbounds : Sms := (.cons (.exp (.call 72 [.v, .v] (.cons (.var 0) (.cons (.var 1) .nil)))) (.cons (.asg (.nm 2) (.call 73 [.v, .v] (.cons (.var 0) (.cons (.var 1) .nil)))) (.cons (.asg (.nm 3) (.tup (.cons (.call 74 [.v, .v] (.cons (.var 0) (.cons (.var 2) .nil))) (.cons (.call 74 [.v, .v] (.cons (.var 1) (.cons (.var 2) .nil))) .nil)))) (.cons (.asg (.nm 4) (.call 70 [.v] (.cons (.call 66 [.v] (.cons (.lst (.cons (.call 77 [.v] (.cons (.var 2) .nil)) (.cons (.call 67 [.v] (.cons (.idx (.var 3) (.cst (.int 0))) .nil)) (.cons (.call 67 [.v] (.cons (.idx (.var 3) (.cst (.int 1))) .nil)) .nil)))) .nil)) .nil))) (.cons (.asg (.nm 5) (.call 71 [.v, .v] (.cons (.call 9 [.v] (.cons (.call 5 [.v, .v] (.cons (.call 67 [.v] (.cons (.idx (.var 3) (.cst (.int 0))) .nil)) (.cons (.call 67 [.v] (.cons (.idx (.var 3) (.cst (.int 1))) .nil)) .nil))) .nil)) (.cons (.tup (.cons (.cst (.int 2)) (.cons (.cst (.int 1)) .nil))) .nil)))) (.cons (.ret (.tup (.cons (.var 4) (.cons (.call 11 [.v, .v] (.cons (.var 4) (.cons (.var 5) .nil))) .nil)))) .nil))))))
def F_fbounds : Fn := ⟨[false, false], 6, b_fbounds⟩
abbrev i_fbounds : Nat := 83
/-- unshared(one, other): slots 0 one 1 other 2 common -/
def b_funshared : Sms := (.cons (.exp (.call 72 [.v, .v] (.cons (.var 0) (.cons (.var 1) .nil)))) (.cons (.asg (.nm 2) (.call 73 [.v, .v] (.cons (.var 0) (.cons (.var 1) .nil)))) (.cons (.ret (.bin .add (.blt .len (.cons (.call 74 [.v, .v] (.cons (.var 0) (.cons (.var 2) .nil))) .nil)) (.blt .len (.cons (.call 74 [.v, .v] (.cons (.var 1) (.cons (.var 2) .nil))) .nil)))) .nil)))
def F_funshared : Fn := ⟨[false, false], 3, b_funshared⟩
abbrev i_funshared : Nat := 84
/-- _law_below(one, other): slots 0 one 1 other -/
def b_f_law_below : Sms := (.cons (.ret (.cmp .lt (.bin .mul (.idx (.var 0) (.cst (.int 0))) (.idx (.var 1) (.cst (.int 1)))) (.bin .mul (.idx (.var 1) (.cst (.int 0))) (.idx (.var 0) (.cst (.int 1)))))) .nil)
def F_f_law_below : Fn := ⟨[false, false], 2, b_f_law_below⟩
abbrev i_f_law_below : Nat := 85
/-- _law_two(row, most): slots 0 row 1 most 2 many 3 other 4 one 5 held 6 lot 7 length -/
def b_f_law_two : Sms := (.cons (.asg (.nm 2) (.blt .min (.cons (.var 1) (.cons (.idx (.lst (.cons (.cst (.int 3)) (.cons (.cst (.int 4)) (.cons (.cst (.int 4)) (.cons (.cst (.int 5)) (.cons (.cst (.int 5)) (.cons (.cst (.int 5)) (.cons (.cst (.int 6)) (.cons (.cst (.int 6)) .nil))))))))) (.call 20 [.io, .v] (.cons (.var 0) (.cons (.cst (.int 8)) .nil)))) .nil)))) (.cons (.par [4, 5] (.cons (.call 60 [.io, .v, .v] (.cons (.var 0) (.cons (.var 2) (.cons (.tup .nil) .nil)))) (.cons (.lst .nil) .nil))) (.cons (.ifs (.cmp .eq (.call 20 [.io, .v] (.cons (.var 0) (.cons (.cst (.int 3)) .nil))) (.cst (.int 0))) (.cons (.asg (.nm 5) (.comp (.var 6) (.cons (.tp [(.nm 6), (.nm 7)]) (.it (.idx (.var 4) (.cst (.int 1)))) (.cons (.cmp .eq (.call 20 [.io, .v] (.cons (.var 0) (.cons (.cst (.int 3)) .nil))) (.cst (.int 0))) .nil) .nil) [6, 7])) .nil) .nil) (.cons (.asg (.nm 3) (.call 60 [.io, .v, .v] (.cons (.var 0) (.cons (.var 2) (.cons (.blt .tuple (.cons (.var 5) .nil)) .nil))))) (.cons (.ifs (.cmp .eq (.call 20 [.io, .v] (.cons (.var 0) (.cons (.cst (.int 4)) .nil))) (.cst (.int 0))) (.cons (.asg (.nm 4) (.tup (.cons (.var 2) (.cons (.blt .tuple (.cons (.comp (.tup (.cons (.var 6) (.cons (.tup (.cons (.bin .add (.cst (.int 1)) (.call 20 [.io, .v] (.cons (.var 0) (.cons (.cst (.int 2)) .nil)))) (.cons (.cst (.int 1)) .nil))) .nil))) (.cons (.tp [(.nm 6), (.nm 7)]) (.it (.idx (.var 4) (.cst (.int 1)))) .nil .nil) [6, 7]) .nil)) .nil)))) (.cons (.asg (.nm 3) (.tup (.cons (.var 2) (.cons (.blt .tuple (.cons (.comp (.tup (.cons (.var 6) (.cons (.tup (.cons (.bin .add (.cst (.int 1)) (.call 20 [.io, .v] (.cons (.var 0) (.cons (.cst (.int 2)) .nil)))) (.cons (.cst (.int 1)) .nil))) .nil))) (.cons (.tp [(.nm 6), (.nm 7)]) (.it (.idx (.var 3) (.cst (.int 1)))) .nil .nil) [6, 7]) .nil)) .nil)))) .nil)) .nil) (.cons (.ret (.tup (.cons (.var 4) (.cons (.var 3) .nil)))) .nil))))))
def F_f_law_two : Fn := ⟨[true, false], 8, b_f_law_two⟩
abbrev i_f_law_two : Nat := 86
-- f_law_shared: call dict
/-- _law_rest(tree, common): slots 0 tree 1 common 2 road 3 row -/
def b_f_law_rest : Sms := (.cons (.ret (.blt .tuple (.cons (.comp (.var 2) (.cons (.nm 2) (.it (.idx (.var 0) (.cst (.int 1)))) (.cons (.cmp .notin (.idx (.var 2) (.cst (.int 0))) (.comp (.idx (.var 3) (.cst (.int 0))) (.cons (.nm 3) (.it (.var 1)) .nil .nil) [3])) .nil) .nil) [2]) .nil))) .nil)
def F_f_law_rest : Fn := ⟨[false, false], 4, b_f_law_rest⟩
abbrev i_f_law_rest : Nat := 88
/-- _law_square(roads): slots 0 roads 1 found 2 lot 3 length -/
def b_f_law_square : Sms := (.cons (.asg (.nm 1) (.tup (.cons (.cst (.int 0)) (.cons (.cst (.int 1)) .nil)))) (.cons (.fors (.tp [(.nm 2), (.nm 3)]) (.it (.var 0)) (.cons (.asg (.nm 1) (.call 24 [.v, .v] (.cons (.var 1) (.cons (.call 25 [.v, .v] (.cons (.var 3) (.cons (.var 3) .nil))) .nil)))) .nil)) (.cons (.ret (.var 1)) .nil)))
def F_f_law_square : Fn := ⟨[false], 4, b_f_law_square⟩
abbrev i_f_law_square : Nat := 89
/-- _law_halves(roads): slots 0 roads 1 found 2 road 3 some 4 more -/
def b_f_law_halves : Sms := (.cons (.asg (.nm 1) (.lst (.cons (.tup (.cons (.tup .nil) (.cons (.tup .nil) .nil))) .nil))) (.cons (.fors (.nm 2) (.it (.var 0)) (.cons (.asg (.nm 1) (.bin .add (.comp (.tup (.cons (.bin .add (.var 3) (.tup (.cons (.var 2) .nil))) (.cons (.var 4) .nil))) (.cons (.tp [(.nm 3), (.nm 4)]) (.it (.var 1)) .nil .nil) [3, 4]) (.comp (.tup (.cons (.var 3) (.cons (.bin .add (.var 4) (.tup (.cons (.var 2) .nil))) .nil))) (.cons (.tp [(.nm 3), (.nm 4)]) (.it (.var 1)) .nil .nil) [3, 4]))) .nil)) (.cons (.ret (.var 1)) .nil)))
def F_f_law_halves : Fn := ⟨[false], 5, b_f_law_halves⟩
abbrev i_f_law_halves : Nat := 90
/-- _law_chains(first, second): slots 0 first 1 second 2 found 3 near 4 late 5 come 6 more 7 lot 8 length 9 some 10 road -/
def b_f_law_chains : Sms := (.cons (.ifs (.bo false (.cons (.cmp .eq (.var 0) (.tup .nil)) (.cons (.cmp .eq (.var 1) (.tup .nil)) .nil))) (.cons (.ret (.ite (.cmp .eq (.var 0) (.var 1)) (.lst (.cons (.tup .nil) .nil)) (.lst .nil))) .nil) .nil) (.cons (.asg (.nm 2) (.lst .nil)) (.cons (.fors (.tp [(.nm 3), (.nm 4)]) (.it (.call 90 [.v] (.cons (.var 0) .nil))) (.cons (.fors (.tp [(.nm 5), (.nm 6)]) (.it (.call 90 [.v] (.cons (.var 1) .nil))) (.cons (.ifs (.bo true (.cons (.cmp .ne (.var 3) (.tup .nil)) (.cons (.cmp .ne (.var 5) (.tup .nil)) (.cons (.cmp .eq (.cmp .eq (.var 4) (.tup .nil)) (.cmp .eq (.var 6) (.tup .nil))) .nil)))) (.cons (.ifs (.cmp .eq (.comp (.var 7) (.cons (.tp [(.nm 7), (.nm 8)]) (.it (.var 4)) (.cons (.nt (.call 56 [.v, .v] (.cons (.var 7) (.cons (.comp (.idx (.var 10) (.cst (.int 0))) (.cons (.nm 10) (.it (.var 5)) .nil .nil) [10]) .nil)))) .nil) .nil) [7, 8]) (.lst .nil)) (.cons (.exp (.mut .extend (.var 2) (.cons (.comp (.bin .add (.tup (.cons (.tup (.cons (.var 3) (.cons (.var 5) .nil))) .nil)) (.var 9)) (.cons (.nm 9) (.it (.call 91 [.v, .v] (.cons (.var 4) (.cons (.var 6) .nil)))) .nil .nil) [9]) .nil))) .nil) .nil) .nil) .nil) .nil)) .nil)) (.cons (.ret (.var 2)) .nil))))
def F_f_law_chains : Fn := ⟨[false, false], 11, b_f_law_chains⟩
abbrev i_f_law_chains : Nat := 91
/-- _law_quotient(leg): slots 0 leg 1 one 2 other -/
def b_f_law_quotient : Sms := (.cons (.par [1, 2] (.cons (.call 89 [.v] (.cons (.idx (.var 0) (.cst (.int 0))) .nil)) (.cons (.call 89 [.v] (.cons (.idx (.var 0) (.cst (.int 1))) .nil)) .nil))) (.cons (.ret (.call 23 [.v, .v] (.cons (.bin .mul (.idx (.var 1) (.cst (.int 0))) (.idx (.var 2) (.cst (.int 1)))) (.cons (.bin .mul (.idx (.var 1) (.cst (.int 1))) (.idx (.var 2) (.cst (.int 0)))) .nil)))) .nil))
def F_f_law_quotient : Fn := ⟨[false], 3, b_f_law_quotient⟩
abbrev i_f_law_quotient : Nat := 92
/-- _law_rises(legs): slots 0 legs 1 rows 2 leg 3 at -/
def b_f_law_rises : Sms := (.cons (.asg (.nm 1) (.comp (.call 92 [.v] (.cons (.var 2) .nil)) (.cons (.nm 2) (.it (.var 0)) .nil .nil) [2])) (.cons (.ret (.cmp .eq (.comp (.var 3) (.cons (.nm 3) (.rng (.cons (.bin .sub (.blt .len (.cons (.var 1) .nil)) (.cst (.int 1))) .nil)) (.cons (.nt (.call 85 [.v, .v] (.cons (.idx (.var 1) (.var 3)) (.cons (.idx (.var 1) (.bin .add (.var 3) (.cst (.int 1)))) .nil)))) .nil) .nil) [3]) (.lst .nil))) .nil))
def F_f_law_rises : Fn := ⟨[false], 4, b_f_law_rises⟩
abbrev i_f_law_rises : Nat := 93
/-- _law_leg_square(leg, memo): slots 0 leg 1 memo 2 one 3 other -/
def b_f_law_leg_square : Sms := (.cons (.par [2, 3] (.cons (.call 89 [.v] (.cons (.idx (.var 0) (.cst (.int 0))) .nil)) (.cons (.call 89 [.v] (.cons (.idx (.var 0) (.cst (.int 1))) .nil)) .nil))) (.cons (.ifs (.cmp .notin (.tup (.cons (.var 2) (.cons (.var 3) .nil))) (.var 1)) (.cons (.sto (.var 1) (.tup (.cons (.var 2) (.cons (.var 3) .nil))) (.call 30 [.v, .v, .v] (.cons (.call 29 [.v] (.cons (.call 24 [.v, .v] (.cons (.var 2) (.cons (.var 3) .nil))) .nil)) (.cons (.call 28 [.v] (.cons (.call 25 [.v, .v] (.cons (.var 2) (.cons (.var 3) .nil))) .nil)) (.cons (.tup (.cons (.cst (.int 2)) (.cons (.cst (.int 1)) .nil))) .nil))))) .nil) .nil) (.cons (.ret (.idx (.var 1) (.tup (.cons (.var 2) (.cons (.var 3) .nil))))) .nil)))
def F_f_law_leg_square : Fn := ⟨[false, true], 4, b_f_law_leg_square⟩
abbrev i_f_law_leg_square : Nat := 94
-- f_law_legs: Dict(keys=[], values=[])
/-- _law_even(one, other): slots 0 one 1 other 2 found 3 lot 4 first 5 second 6 gap -/
def b_f_law_even : Sms := (.cons (.asg (.nm 2) (.tup (.cons (.cst (.int 0)) (.cons (.cst (.int 1)) .nil)))) (.cons (.fors (.tp [(.nm 3), (.nm 4), (.nm 5)]) (.it (.call 87 [.v, .v] (.cons (.var 0) (.cons (.var 1) .nil)))) (.cons (.asg (.nm 6) (.call 24 [.v, .v] (.cons (.var 5) (.cons (.tup (.cons (.bin .sub (.cst (.int 0)) (.idx (.var 4) (.cst (.int 0)))) (.cons (.idx (.var 4) (.cst (.int 1))) .nil))) .nil)))) (.cons (.asg (.nm 2) (.call 24 [.v, .v] (.cons (.var 2) (.cons (.call 25 [.v, .v] (.cons (.var 6) (.cons (.var 6) .nil))) .nil)))) .nil))) (.cons (.ret (.var 2)) .nil)))
def F_f_law_even : Fn := ⟨[false, false], 7, b_f_law_even⟩
abbrev i_f_law_even : Nat := 96
/-- _law_bare(legs): slots 0 legs 1 leg 2 side 3 lot 4 length -/
def b_f_law_bare : Sms := (.cons (.ret (.blt .tuple (.cons (.comp (.blt .tuple (.cons (.comp (.blt .tuple (.cons (.comp (.var 3) (.cons (.tp [(.nm 3), (.nm 4)]) (.it (.var 2)) .nil .nil) [3, 4]) .nil)) (.cons (.nm 2) (.it (.var 1)) .nil .nil) [2]) .nil)) (.cons (.nm 1) (.it (.var 0)) .nil .nil) [1]) .nil))) .nil)
def F_f_law_bare : Fn := ⟨[false], 5, b_f_law_bare⟩
abbrev i_f_law_bare : Nat := 97
/-- _law_tied(row): slots 0 row 1 firsts 2 seconds 3 trees 4 size 5 order 6 left 7 lots 8 lengths 9 roads 10 lot 11 length 12 tip -/
def b_f_law_tied : Sms := (.cons (.asg (.nm 1) (.lst (.cons (.tup (.cons (.cst (.int 1)) (.cons (.cst (.int 2)) .nil))) (.cons (.tup (.cons (.cst (.int 1)) (.cons (.cst (.int 2)) (.cons (.cst (.int 3)) .nil)))) (.cons (.tup (.cons (.cst (.int 1)) (.cons (.cst (.int 2)) (.cons (.cst (.int 3)) (.cons (.cst (.int 4)) (.cons (.cst (.int 5)) .nil)))))) (.cons (.tup (.cons (.cst (.int 1)) (.cons (.cst (.int 2)) (.cons (.cst (.int 3)) (.cons (.cst (.int 4)) .nil))))) .nil)))))) (.cons (.asg (.nm 2) (.call 21 [.io, .v] (.cons (.var 0) (.cons (.lst (.cons (.frz (.lst (.cons (.tup (.cons (.cst (.int 1)) (.cons (.cst (.int 3)) .nil))) (.cons (.tup (.cons (.cst (.int 2)) (.cons (.cst (.int 4)) .nil))) (.cons (.tup (.cons (.cst (.int 1)) (.cons (.cst (.int 2)) (.cons (.cst (.int 3)) (.cons (.cst (.int 4)) (.cons (.cst (.int 6)) .nil)))))) (.cons (.tup (.cons (.cst (.int 1)) (.cons (.cst (.int 3)) (.cons (.cst (.int 6)) .nil)))) .nil)))))) (.cons (.frz (.lst (.cons (.tup (.cons (.cst (.int 1)) (.cons (.cst (.int 3)) .nil))) (.cons (.tup (.cons (.cst (.int 2)) (.cons (.cst (.int 4)) .nil))) (.cons (.tup (.cons (.cst (.int 5)) (.cons (.cst (.int 6)) .nil))) (.cons (.tup (.cons (.cst (.int 1)) (.cons (.cst (.int 3)) (.cons (.cst (.int 5)) (.cons (.cst (.int 6)) .nil))))) .nil)))))) .nil))) .nil)))) (.cons (.asg (.tp [(.nm 4), (.nm 5), (.nm 6)]) (.tup (.cons (.bin .add (.cst (.int 1)) (.call 20 [.io, .v] (.cons (.var 0) (.cons (.cst (.int 9)) .nil)))) (.cons (.frz (.lst (.cons (.cst (.int 0)) .nil))) (.cons (.frz (.blt .lrange (.cons (.cst (.int 1)) (.cons (.cst (.int 7)) .nil)))) .nil))))) (.cons (.whl (.cmp .ne (.var 6) (.lst .nil)) (.cons (.exp (.mut .append (.var 5) (.cons (.mut .popAt (.var 6) (.cons (.call 20 [.io, .v] (.cons (.var 0) (.cons (.blt .len (.cons (.var 6) .nil)) .nil))) .nil)) .nil))) .nil)) (.cons (.asg (.nm 3) (.lst .nil)) (.cons (.fors (.tp [(.nm 7), (.nm 8)]) (.it (.lst (.cons (.tup (.cons (.var 1) (.cons (.tup (.cons (.cst (.int 1)) (.cons (.cst (.int 1)) (.cons (.cst (.int 1)) (.cons (.cst (.int 2)) .nil))))) .nil))) (.cons (.tup (.cons (.var 2) (.cons (.tup (.cons (.cst (.int 2)) (.cons (.cst (.int 1)) (.cons (.cst (.int 1)) (.cons (.cst (.int 1)) .nil))))) .nil))) .nil)))) (.cons (.asg (.nm 9) (.lst .nil)) (.cons (.fors (.tp [(.nm 10), (.nm 11)]) (.zip (.var 7) (.var 8)) (.cons (.exp (.mut .append (.var 9) (.cons (.tup (.cons (.blt .tuple (.cons (.blt .sorted (.cons (.comp (.idx (.var 5) (.var 12)) (.cons (.nm 12) (.it (.var 10)) .nil .nil) [12]) .nil)) .nil)) (.cons (.tup (.cons (.bin .mul (.var 11) (.var 4)) (.cons (.cst (.int 1)) .nil))) .nil))) .nil))) .nil)) (.cons (.exp (.mut .append (.var 3) (.cons (.tup (.cons (.cst (.int 6)) (.cons (.blt .tuple (.cons (.blt .sorted (.cons (.var 9) .nil)) .nil)) .nil))) .nil))) .nil)))) (.cons (.ret (.tup (.cons (.idx (.var 3) (.cst (.int 0))) (.cons (.idx (.var 3) (.cst (.int 1))) .nil)))) .nil)))))))
def F_f_law_tied : Fn := ⟨[true], 13, b_f_law_tied⟩
abbrev i_f_law_tied : Nat := 98
/-- law(script): slots 0 script 1 row 2 common 3 even 4 low 5 high 6 own 7 odds 8 odd 9 words 10 one 11 other 12 first 13 second 14 legs 15 whole 16 a 17 b 18 wrong -/
def b_flaw_k02 : Sms := (.cons (.asg (.nm 1) (.lst (.cons (.var 0) (.cons (.cst (.int 0)) (.cons (.cst (.int 6002)) (.cons (.cst (.int 0)) .nil)))))) (.cons (.asg (.tp [(.nm 10), (.nm 11)]) (.ite (.cmp .gt (.call 20 [.io, .v] (.cons (.var 1) (.cons (.cst (.int 9)) .nil))) (.cst (.int 0))) (.call 86 [.io, .v] (.cons (.var 1) (.cons (.cst (.int 6)) .nil))) (.call 98 [.io] (.cons (.var 1) .nil)))) (.cons (.asg (.nm 2) (.call 87 [.v, .v] (.cons (.var 10) (.cons (.var 11) .nil)))) (.cons (.par [12, 13] (.cons (.call 88 [.v, .v] (.cons (.var 10) (.cons (.var 2) .nil))) (.cons (.call 88 [.v, .v] (.cons (.var 11) (.cons (.var 2) .nil))) .nil))) (.cons (.ifs (.bo false (.cons (.nt (.call 22 [.v, .v] (.cons (.call 80 [.v, .v] (.cons (.var 10) (.cons (.var 11) .nil))) (.cons (.var 2) .nil)))) (.cons (.nt (.call 22 [.v, .v] (.cons (.call 84 [.v, .v] (.cons (.var 10) (.cons (.var 11) .nil))) (.cons (.bin .add (.blt .len (.cons (.var 12) .nil)) (.blt .len (.cons (.var 13) .nil))) .nil)))) .nil))) (.cons (.ret (.cst (.bool false))) .nil) .nil) (.cons (.asg (.tp [(.nm 14), (.nm 15)]) (.call 95 [.v, .v] (.cons (.var 10) (.cons (.var 11) .nil)))) (.cons (.ifs (.nt (.call 22 [.v, .v] (.cons (.call 81 [.v, .v] (.cons (.var 10) (.cons (.var 11) .nil))) (.cons (.call 97 [.v] (.cons (.var 14) .nil)) .nil)))) (.cons (.ret (.cst (.bool false))) .nil) .nil) (.cons (.asg (.nm 3) (.call 96 [.v, .v] (.cons (.var 10) (.cons (.var 11) .nil)))) (.cons (.ifs (.nt (.call 22 [.v, .v] (.cons (.call 82 [.v, .v] (.cons (.var 10) (.cons (.var 11) .nil))) (.cons (.call 30 [.v, .v, .v] (.cons (.call 29 [.v] (.cons (.var 3) .nil)) (.cons (.var 15) (.cons (.tup (.cons (.cst (.int 1)) (.cons (.cst (.int 1)) .nil))) .nil)))) .nil)))) (.cons (.ret (.cst (.bool false))) .nil) .nil) (.cons (.par [16, 17] (.cons (.call 89 [.v] (.cons (.var 12) .nil)) (.cons (.call 89 [.v] (.cons (.var 13) .nil)) .nil))) (.cons (.asg (.nm 4) (.call 29 [.v] (.cons (.call 24 [.v, .v] (.cons (.var 3) (.cons (.call 24 [.v, .v] (.cons (.var 16) (.cons (.var 17) .nil))) .nil))) .nil))) (.cons (.asg (.nm 5) (.call 30 [.v, .v, .v] (.cons (.var 4) (.cons (.call 28 [.v] (.cons (.call 25 [.v, .v] (.cons (.var 16) (.cons (.var 17) .nil))) .nil)) (.cons (.tup (.cons (.cst (.int 2)) (.cons (.cst (.int 1)) .nil))) .nil))))) (.cons (.ifs (.nt (.call 22 [.v, .v] (.cons (.call 83 [.v, .v] (.cons (.var 10) (.cons (.var 11) .nil))) (.cons (.tup (.cons (.var 4) (.cons (.var 5) .nil))) .nil)))) (.cons (.ret (.cst (.bool false))) .nil) .nil) (.cons (.asg (.nm 6) (.call 82 [.v, .v] (.cons (.var 10) (.cons (.var 11) .nil)))) (.cons (.ifs (.bo false (.cons (.cmp .lt (.call 33 [.v] (.cons (.call 30 [.v, .v, .v] (.cons (.var 6) (.cons (.var 4) (.cons (.tup (.cons (.neg (.cst (.int 1))) (.cons (.cst (.int 1)) .nil))) .nil)))) .nil)) (.cst (.int 0))) (.cons (.cmp .lt (.call 33 [.v] (.cons (.call 30 [.v, .v, .v] (.cons (.var 5) (.cons (.var 6) (.cons (.tup (.cons (.neg (.cst (.int 1))) (.cons (.cst (.int 1)) .nil))) .nil)))) .nil)) (.cst (.int 0))) .nil))) (.cons (.ret (.cst (.bool false))) .nil) .nil) (.cons (.ifs (.bo false (.cons (.cmp .ne (.call 81 [.v, .v] (.cons (.var 10) (.cons (.var 10) .nil))) (.tup .nil)) (.cons (.cmp .ne (.call 82 [.v, .v] (.cons (.var 11) (.cons (.var 11) .nil))) (.tup .nil)) .nil))) (.cons (.ret (.cst (.bool false))) .nil) .nil) (.cons (.asg (.nm 7) (.lst (.cons (.cst .none) (.cons (.idx (.var 10) (.cst (.int 1))) (.cons (.tup (.cons (.idx (.var 10) (.cst (.int 0))) (.cons (.frz (.blt .list (.cons (.idx (.var 10) (.cst (.int 1))) .nil))) .nil))) (.cons (.tup (.cons (.idx (.var 10) (.cst (.int 0))) (.cons (.bin .add (.idx (.var 10) (.cst (.int 1))) (.tup (.cons (.tup (.cons (.tup (.cons (.cst (.int 1)) .nil)) (.cons (.tup (.cons (.cst (.int 1)) (.cons (.cst (.int 1)) .nil))) .nil))) .nil))) .nil))) (.cons (.tup (.cons (.cst (.int 7)) (.cons (.tup .nil) .nil))) (.cons (.tup (.cons (.cst (.int 2)) (.cons (.tup .nil) .nil))) (.cons (.cst (.str ("tree" : Str))) .nil))))))))) (.cons (.asg (.nm 7) (.bin .add (.var 7) (.lst (.cons (.tup (.cons (.bin .add (.cst (.int 3)) (.bin .mod (.bin .sub (.idx (.var 10) (.cst (.int 0))) (.cst (.int 2))) (.cst (.int 4)))) (.cons (.tup .nil) .nil))) (.cons (.tup (.cons (.idx (.var 10) (.cst (.int 0))) (.cons (.tup (.cons (.tup (.cons (.tup (.cons (.cst (.int 2)) (.cons (.cst (.int 1)) .nil))) (.cons (.tup (.cons (.cst (.int 1)) (.cons (.cst (.int 1)) .nil))) .nil))) .nil)) .nil))) .nil))))) (.cons (.asg (.nm 7) (.bin .add (.var 7) (.comp (.tup (.cons (.idx (.var 10) (.cst (.int 0))) (.cons (.tup (.cons (.tup (.cons (.tup (.cons (.cst (.int 1)) (.cons (.cst (.int 2)) .nil))) (.cons (.var 18) .nil))) .nil)) .nil))) (.cons (.nm 18) (.it (.lst (.cons (.tup (.cons (.cst (.int 1)) (.cons (.cst (.int 3)) .nil))) (.cons (.tup (.cons (.cst (.int 0)) (.cons (.cst (.int 1)) .nil))) (.cons (.tup (.cons (.cst (.int 501)) (.cons (.cst (.int 1)) .nil))) (.cons (.tup (.cons (.cst (.int 2)) (.cons (.cst (.int 2)) .nil))) (.cons (.tup (.cons (.neg (.cst (.int 1))) (.cons (.cst (.int 1)) .nil))) (.cons (.cst (.int 1)) (.cons (.cst .none) .nil))))))))) .nil .nil) [18]))) (.cons (.asg (.nm 8) (.call 21 [.io, .v] (.cons (.var 1) (.cons (.var 7) .nil)))) (.cons (.asg (.nm 9) (.lst (.cons (.told 0 [(6, ("BadTree" : Str))] 0 (.call 81 [.v, .v] (.cons (.var 10) (.cons (.var 8) .nil)))) (.cons (.told 0 [(6, ("BadTree" : Str))] 0 (.call 82 [.v, .v] (.cons (.var 10) (.cons (.var 8) .nil)))) .nil)))) (.cons (.asg (.nm 9) (.bin .add (.var 9) (.lst (.cons (.told 0 [(6, ("BadTree" : Str))] 0 (.call 80 [.v, .v] (.cons (.var 10) (.cons (.var 8) .nil)))) (.cons (.told 0 [(6, ("BadTree" : Str))] 0 (.call 83 [.v, .v] (.cons (.var 8) (.cons (.var 10) .nil)))) .nil))))) (.cons (.ret (.bo true (.cons (.cmp .eq (.var 9) (.bin .mul (.lst (.cons (.cst (.str ("BadTree" : Str))) .nil)) (.cst (.int 4)))) (.cons (.cmp .eq (.told 0 [(6, ("BadTree" : Str))] 0 (.call 84 [.v, .v] (.cons (.var 8) (.cons (.var 10) .nil)))) (.cst (.str ("BadTree" : Str)))) .nil)))) .nil)))))))))))))))))))))))
def F_flaw_k02 : Fn := ⟨[false], 19, b_flaw_k02⟩
abbrev i_flaw_k02 : Nat := 99
/-- weights_of(roads): slots 0 roads 1 whole 2 lot 3 length -/
def b_fweights_of : Sms := (.cons (.asg (.nm 1) (.call 67 [.v] (.cons (.var 0) .nil))) (.cons (.ret (.blt .tuple (.cons (.comp (.call 63 [.v, .v] (.cons (.call 5 [.v, .v] (.cons (.var 3) (.cons (.var 3) .nil))) (.cons (.var 1) .nil))) (.cons (.tp [(.nm 2), (.nm 3)]) (.it (.var 0)) .nil .nil) [2, 3]) .nil))) .nil))
def F_fweights_of : Fn := ⟨[false], 4, b_fweights_of⟩
abbrev i_fweights_of : Nat := 100
-- fpushed: step
/-- led(flow, row, part): slots 0 flow 1 row 2 part 3 at -/
def b_fled : Sms := (.cons (.fors (.nm 3) (.rng (.cons (.cst (.int 0)) (.cons (.bin .sub (.blt .len (.cons (.var 1) .nil)) (.cst (.int 1))) (.cons (.cst (.int 2)) .nil)))) (.cons (.sto (.idx (.var 0) (.idx (.var 1) (.var 3))) (.idx (.var 1) (.bin .add (.var 3) (.cst (.int 1)))) (.call 4 [.pk, .v] (.cons (.idx (.idx (.var 0) (.idx (.var 1) (.var 3))) (.idx (.var 1) (.bin .add (.var 3) (.cst (.int 1))))) (.cons (.var 2) .nil)))) (.cons (.ifs (.cmp .gt (.var 3) (.cst (.int 0))) (.cons (.sto (.idx (.var 0) (.idx (.var 1) (.var 3))) (.idx (.var 1) (.bin .sub (.var 3) (.cst (.int 1)))) (.call 4 [.pk, .v] (.cons (.idx (.idx (.var 0) (.idx (.var 1) (.var 3))) (.idx (.var 1) (.bin .sub (.var 3) (.cst (.int 1))))) (.cons (.call 2 [.v, .v] (.cons (.neg (.idx (.var 2) (.cst (.int 0)))) (.cons (.idx (.var 2) (.cst (.int 1))) .nil))) .nil)))) .nil) .nil) .nil))) .nil)
def F_fled : Fn := ⟨[true, false, false], 4, b_fled⟩
abbrev i_fled : Nat := 102
/-- room_of(flow, one, other, row): slots 0 flow 1 one 2 other 3 row 4 left 5 room 6 taken 7 rooms 8 part 9 first 10 last 11 k 12 at -/
def b_froom_of : Sms := (.cons (.asg (.tp [(.nm 9), (.nm 10)]) (.tup (.cons (.idx (.var 3) (.cst (.int 0))) (.cons (.idx (.var 3) (.neg (.cst (.int 1)))) .nil)))) (.cons (.asg (.nm 4) (.call 66 [.v] (.cons (.idx (.var 0) (.var 9)) .nil))) (.cons (.asg (.nm 5) (.call 4 [.v, .v] (.cons (.idx (.call 100 [.v] (.cons (.var 1) .nil)) (.var 9)) (.cons (.tup (.cons (.neg (.idx (.var 4) (.cst (.int 0)))) (.cons (.idx (.var 4) (.cst (.int 1))) .nil))) .nil)))) (.cons (.asg (.nm 6) (.call 66 [.v] (.cons (.comp (.idx (.idx (.var 0) (.var 11)) (.var 10)) (.cons (.nm 11) (.rng (.cons (.blt .len (.cons (.var 1) .nil)) .nil)) .nil .nil) [11]) .nil))) (.cons (.asg (.nm 7) (.lst (.cons (.var 5) (.cons (.call 4 [.v, .v] (.cons (.idx (.call 100 [.v] (.cons (.var 2) .nil)) (.var 10)) (.cons (.tup (.cons (.neg (.idx (.var 6) (.cst (.int 0)))) (.cons (.idx (.var 6) (.cst (.int 1))) .nil))) .nil))) .nil)))) (.cons (.exp (.mut .extend (.var 7) (.cons (.comp (.idx (.idx (.var 0) (.idx (.var 3) (.var 12))) (.idx (.var 3) (.bin .sub (.var 12) (.cst (.int 1))))) (.cons (.nm 12) (.rng (.cons (.cst (.int 2)) (.cons (.blt .len (.cons (.var 3) .nil)) (.cons (.cst (.int 2)) .nil)))) .nil .nil) [12]) .nil))) (.cons (.fors (.nm 8) (.it (.var 7)) (.cons (.asg (.nm 5) (.ite (.call 65 [.v, .v] (.cons (.var 8) (.cons (.var 5) .nil))) (.var 8) (.var 5))) .nil)) (.cons (.ret (.var 5)) .nil))))))))
def F_froom_of : Fn := ⟨[false, false, false, false], 13, b_froom_of⟩
abbrev i_froom_of : Nat := 103
/-- flow_of(one, other): slots 0 one 1 other 2 flow 3 at 4 row 5 road -/
def b_fflow_of : Sms := (.cons (.asg (.nm 2) (.comp (.bin .mul (.lst (.cons (.tup (.cons (.cst (.int 0)) (.cons (.cst (.int 1)) .nil))) .nil)) (.blt .len (.cons (.var 1) .nil))) (.cons (.nm 5) (.it (.var 0)) .nil .nil) [5])) (.cons (.fors (.nm 3) (.rng (.cons (.blt .len (.cons (.var 0) .nil)) .nil)) (.cons (.asg (.nm 4) (.ite (.call 65 [.v, .v] (.cons (.call 66 [.pk] (.cons (.idx (.var 2) (.var 3)) .nil)) (.cons (.idx (.call 100 [.v] (.cons (.var 0) .nil)) (.var 3)) .nil))) (.call 101 [.pk, .v, .v, .v] (.cons (.var 2) (.cons (.var 0) (.cons (.var 1) (.cons (.var 3) .nil))))) (.cst .none))) (.cons (.whl (.isN false (.var 4)) (.cons (.exp (.call 102 [.io, .v, .v] (.cons (.var 2) (.cons (.var 4) (.cons (.call 103 [.pk, .v, .v, .v] (.cons (.var 2) (.cons (.var 0) (.cons (.var 1) (.cons (.var 4) .nil))))) .nil))))) (.cons (.asg (.nm 4) (.ite (.call 65 [.v, .v] (.cons (.call 66 [.pk] (.cons (.idx (.var 2) (.var 3)) .nil)) (.cons (.idx (.call 100 [.v] (.cons (.var 0) .nil)) (.var 3)) .nil))) (.call 101 [.pk, .v, .v, .v] (.cons (.var 2) (.cons (.var 0) (.cons (.var 1) (.cons (.var 3) .nil))))) (.cst .none))) .nil))) .nil))) (.cons (.ret (.var 2)) .nil)))
def F_fflow_of : Fn := ⟨[false, false], 6, b_fflow_of⟩
abbrev i_fflow_of : Nat := 104
/-- shares_of(one, other): slots 0 one 1 other 2 flow 3 found 4 at 5 part 6 k -/
def b_fshares_of : Sms := (.cons (.asg (.tp [(.nm 2), (.nm 3)]) (.tup (.cons (.call 104 [.v, .v] (.cons (.var 0) (.cons (.var 1) .nil))) (.cons (.frz (.lst .nil)) .nil)))) (.cons (.fors (.tp [(.nm 4), (.nm 5)]) (.enum (.call 100 [.v] (.cons (.var 0) .nil))) (.cons (.ifs (.cmp .ne (.call 66 [.v] (.cons (.idx (.var 2) (.var 4)) .nil)) (.var 5)) (.cons (.ret (.cst .none)) .nil) .nil) (.cons (.exp (.mut .extend (.var 3) (.cons (.comp (.tup (.cons (.idx (.idx (.var 0) (.var 4)) (.cst (.int 0))) (.cons (.idx (.idx (.var 1) (.var 6)) (.cst (.int 0))) (.cons (.idx (.idx (.var 2) (.var 4)) (.var 6)) .nil)))) (.cons (.nm 6) (.rng (.cons (.blt .len (.cons (.var 1) .nil)) .nil)) (.cons (.cmp .gt (.idx (.idx (.idx (.var 2) (.var 4)) (.var 6)) (.cst (.int 0))) (.cst (.int 0))) .nil) .nil) [6]) .nil))) .nil))) (.cons (.ret (.blt .tuple (.cons (.var 3) .nil))) .nil)))
def F_fshares_of : Fn := ⟨[false, false], 7, b_fshares_of⟩
abbrev i_fshares_of : Nat := 105
/-- is_side(many, thing): slots 0 many 1 thing 2 road 3 lot 4 length -/
def b_fis_side : Sms := (.cons (.ifs (.bo false (.cons (.nt (.blt .isTuple (.cons (.var 1) .nil))) (.cons (.cmp .eq (.var 1) (.tup .nil)) .nil))) (.cons (.ret (.cst (.bool false))) .nil) .nil) (.cons (.ifs (.nt (.blt .all (.cons (.comp (.bo true (.cons (.blt .isTuple (.cons (.var 2) .nil)) (.cons (.cmp .eq (.blt .len (.cons (.var 2) .nil)) (.cst (.int 2))) (.cons (.call 42 [.v] (.cons (.idx (.var 2) (.cst (.int 1))) .nil)) .nil)))) (.cons (.nm 2) (.it (.var 1)) .nil .nil) [2]) .nil))) (.cons (.ret (.cst (.bool false))) .nil) .nil) (.cons (.ret (.call 40 [.v, .v] (.cons (.var 0) (.cons (.blt .tuple (.cons (.comp (.var 3) (.cons (.tp [(.nm 3), (.nm 4)]) (.it (.var 1)) .nil .nil) [3, 4]) .nil)) .nil)))) .nil)))
def F_fis_side : Fn := ⟨[false, false], 5, b_fis_side⟩
abbrev i_fis_side : Nat := 106
/-- need_leg(many, one, other): slots 0 many 1 one 2 other 3 side 4 far 5 lot 6 part 7 more 8 length -/
def b_fneed_leg : Sms := (.cons (.ifs (.bo false (.cons (.nt (.call 106 [.v, .v] (.cons (.var 0) (.cons (.var 1) .nil)))) (.cons (.nt (.call 106 [.v, .v] (.cons (.var 0) (.cons (.var 2) .nil)))) .nil))) (.cons (.rse 8) .nil) .nil) (.cons (.fors (.tp [(.nm 3), (.nm 4)]) (.it (.tup (.cons (.tup (.cons (.var 1) (.cons (.var 2) .nil))) (.cons (.tup (.cons (.var 2) (.cons (.var 1) .nil))) .nil)))) (.cons (.ifs (.blt .any (.cons (.comp (.call 39 [.v, .v] (.cons (.var 5) (.cons (.comp (.var 7) (.cons (.tp [(.nm 7), (.nm 8)]) (.it (.var 4)) .nil .nil) [7, 8]) .nil))) (.cons (.tp [(.nm 5), (.nm 6)]) (.it (.var 3)) .nil .nil) [5, 6]) .nil)) (.cons (.rse 8) .nil) .nil) .nil)) .nil))
def F_fneed_leg : Fn := ⟨[false, false, false], 9, b_fneed_leg⟩
abbrev i_fneed_leg : Nat := 107
/-- cheaper(many, one, other): slots 0 many 1 one 2 other -/
def b_fcheaper : Sms := (.cons (.exp (.call 36 [.v] (.cons (.var 0) .nil))) (.cons (.exp (.call 107 [.v, .v, .v] (.cons (.var 0) (.cons (.var 1) (.cons (.var 2) .nil))))) (.cons (.ret (.call 69 [.v, .v] (.cons (.var 1) (.cons (.var 2) .nil)))) .nil)))
def F_fcheaper : Fn := ⟨[false, false, false], 3, b_fcheaper⟩
abbrev i_fcheaper : Nat := 108
/-- shares(many, one, other): slots 0 many 1 one 2 other -/
def b_fshares : Sms := (.cons (.exp (.call 36 [.v] (.cons (.var 0) .nil))) (.cons (.exp (.call 107 [.v, .v, .v] (.cons (.var 0) (.cons (.var 1) (.cons (.var 2) .nil))))) (.cons (.ret (.call 105 [.v, .v] (.cons (.var 1) (.cons (.var 2) .nil)))) .nil)))
def F_fshares : Fn := ⟨[false, false, false], 3, b_fshares⟩
abbrev i_fshares : Nat := 109
/-- _law_parting_right(told, first, second): slots 0 told 1 first 2 second 3 lots 4 at 5 side 6 lot 7 length 8 leg -/
def b_f_law_parting_right : Sms := (.cons (.ifs (.bo false (.cons (.nt (.blt .isTuple (.cons (.var 0) .nil))) (.cons (.cmp .ne (.blt .len (.cons (.var 0) .nil)) (.cst (.int 2))) (.cons (.cmp .ne (.comp (.var 8) (.cons (.nm 8) (.it (.var 0)) (.cons (.bo false (.cons (.cmp .ne (.blt .len (.cons (.var 8) .nil)) (.cst (.int 2))) (.cons (.cmp .isin (.tup .nil) (.var 8)) .nil))) .nil) .nil) [8]) (.lst .nil)) .nil)))) (.cons (.ret (.cst (.bool false))) .nil) .nil) (.cons (.fors (.tp [(.nm 4), (.nm 5)]) (.it (.lst (.cons (.tup (.cons (.cst (.int 0)) (.cons (.var 1) .nil))) (.cons (.tup (.cons (.cst (.int 1)) (.cons (.var 2) .nil))) .nil)))) (.cons (.ifs (.bo false (.cons (.cmp .ne (.blt .tuple (.cons (.blt .sorted (.cons (.bin .add (.idx (.idx (.var 0) (.cst (.int 0))) (.var 4)) (.idx (.idx (.var 0) (.cst (.int 1))) (.var 4))) .nil)) .nil)) (.var 5)) (.cons (.cmp .ne (.blt .list (.cons (.idx (.idx (.var 0) (.cst (.int 0))) (.var 4)) .nil)) (.blt .sorted (.cons (.idx (.idx (.var 0) (.cst (.int 0))) (.var 4)) .nil))) .nil))) (.cons (.ret (.cst (.bool false))) .nil) .nil) .nil)) (.cons (.asg (.nm 3) (.comp (.var 6) (.cons (.tp [(.nm 6), (.nm 7)]) (.it (.idx (.idx (.var 0) (.cst (.int 0))) (.cst (.int 1)))) .nil .nil) [6, 7])) (.cons (.ifs (.cmp .ne (.comp (.var 6) (.cons (.tp [(.nm 6), (.nm 7)]) (.it (.idx (.idx (.var 0) (.cst (.int 1))) (.cst (.int 0)))) (.cons (.nt (.call 56 [.v, .v] (.cons (.var 6) (.cons (.var 3) .nil)))) .nil) .nil) [6, 7]) (.lst .nil)) (.cons (.ret (.cst (.bool false))) .nil) .nil) (.cons (.ret (.call 85 [.v, .v] (.cons (.call 92 [.v] (.cons (.idx (.var 0) (.cst (.int 0))) .nil)) (.cons (.call 92 [.v] (.cons (.idx (.var 0) (.cst (.int 1))) .nil)) .nil)))) .nil)))))
def F_f_law_parting_right : Fn := ⟨[false, false, false], 9, b_f_law_parting_right⟩
abbrev i_f_law_parting_right : Nat := 110
-- f_law_table_right: call dict
-- flaw_k03: method count
/-- quotient(leg): slots 0 leg -/
def b_fquotient : Sms := (.cons (.ret (.call 63 [.v, .v] (.cons (.call 67 [.v] (.cons (.idx (.var 0) (.cst (.int 0))) .nil)) (.cons (.call 67 [.v] (.cons (.idx (.var 0) (.cst (.int 1))) .nil)) .nil)))) .nil)
def F_fquotient : Fn := ⟨[false], 1, b_fquotient⟩
abbrev i_fquotient : Nat := 113
/-- is_rising(legs): slots 0 legs 1 rows 2 leg 3 at -/
def b_fis_rising : Sms := (.cons (.asg (.nm 1) (.comp (.call 113 [.v] (.cons (.var 2) .nil)) (.cons (.nm 2) (.it (.var 0)) .nil .nil) [2])) (.cons (.ret (.blt .all (.cons (.comp (.call 65 [.v, .v] (.cons (.idx (.var 1) (.var 3)) (.cons (.idx (.var 1) (.bin .add (.var 3) (.cst (.int 1)))) .nil))) (.cons (.nm 3) (.rng (.cons (.bin .sub (.blt .len (.cons (.var 1) .nil)) (.cst (.int 1))) .nil)) .nil .nil) [3]) .nil))) .nil))
def F_fis_rising : Fn := ⟨[false], 4, b_fis_rising⟩
abbrev i_fis_rising : Nat := 114
/-- are_pairs(thing): slots 0 thing 1 leg 2 side -/
def b_fare_pairs : Sms := (.cons (.ifs (.bo false (.cons (.nt (.blt .isTuple (.cons (.var 0) .nil))) (.cons (.nt (.blt .all (.cons (.comp (.bo true (.cons (.blt .isTuple (.cons (.var 1) .nil)) (.cons (.cmp .eq (.blt .len (.cons (.var 1) .nil)) (.cst (.int 2))) .nil))) (.cons (.nm 1) (.it (.var 0)) .nil .nil) [1]) .nil))) .nil))) (.cons (.ret (.cst (.bool false))) .nil) .nil) (.cons (.ret (.blt .all (.cons (.comp (.bo true (.cons (.blt .isTuple (.cons (.var 2) .nil)) (.cons (.cmp .ne (.var 2) (.tup .nil)) .nil))) (.cons (.nm 1) (.it (.var 0)) .nil (.cons (.nm 2) (.it (.var 1)) .nil .nil)) [1, 2]) .nil))) .nil))
def F_fare_pairs : Fn := ⟨[false], 3, b_fare_pairs⟩
abbrev i_fare_pairs : Nat := 115
/-- are_lots(many, thing): slots 0 many 1 thing 2 leg 3 side 4 lot -/
def b_fare_lots : Sms := (.cons (.ret (.blt .all (.cons (.comp (.call 37 [.v, .v] (.cons (.var 0) (.cons (.var 4) .nil))) (.cons (.nm 2) (.it (.var 1)) .nil (.cons (.nm 3) (.it (.var 2)) .nil (.cons (.nm 4) (.it (.var 3)) .nil .nil))) [2, 3, 4]) .nil))) .nil)
def F_fare_lots : Fn := ⟨[false, false], 5, b_fare_lots⟩
abbrev i_fare_lots : Nat := 116
-- fside_told: call dict
/-- legs_told(one, other, thing): slots 0 one 1 other 2 thing 3 common 4 legs 5 first 6 second 7 sides 8 at 9 tree 10 lots 11 leg 12 lot 13 length -/
def b_flegs_told : Sms := (.cons (.asg (.nm 3) (.call 73 [.v, .v] (.cons (.var 0) (.cons (.var 1) .nil)))) (.cons (.ifs (.bo false (.cons (.nt (.call 115 [.v] (.cons (.var 2) .nil))) (.cons (.nt (.call 116 [.v, .v] (.cons (.idx (.var 0) (.cst (.int 0))) (.cons (.var 2) .nil)))) .nil))) (.cons (.ret (.cst .none)) .nil) .nil) (.cons (.asg (.nm 4) (.lst .nil)) (.cons (.fors (.tp [(.nm 5), (.nm 6)]) (.it (.var 2)) (.cons (.asg (.nm 7) (.tup (.cons (.call 117 [.v, .v] (.cons (.call 74 [.v, .v] (.cons (.var 0) (.cons (.var 3) .nil))) (.cons (.var 5) .nil))) (.cons (.call 117 [.v, .v] (.cons (.call 74 [.v, .v] (.cons (.var 1) (.cons (.var 3) .nil))) (.cons (.var 6) .nil))) .nil)))) (.cons (.ifs (.cmp .isin (.cst .none) (.var 7)) (.cons (.ret (.cst .none)) .nil) .nil) (.cons (.exp (.mut .append (.var 4) (.cons (.var 7) .nil))) .nil)))) (.cons (.fors (.tp [(.nm 8), (.nm 9)]) (.enum (.tup (.cons (.var 0) (.cons (.var 1) .nil)))) (.cons (.asg (.nm 10) (.blt .sorted (.cons (.comp (.var 12) (.cons (.nm 11) (.it (.var 2)) .nil (.cons (.nm 12) (.it (.idx (.var 11) (.var 8))) .nil .nil)) [11, 12]) .nil))) (.cons (.ifs (.cmp .ne (.var 10) (.comp (.var 12) (.cons (.tp [(.nm 12), (.nm 13)]) (.it (.call 74 [.v, .v] (.cons (.var 9) (.cons (.var 3) .nil)))) .nil .nil) [12, 13])) (.cons (.ret (.cst .none)) .nil) .nil) .nil))) (.cons (.ret (.blt .tuple (.cons (.var 4) .nil))) .nil))))))
def F_flegs_told : Fn := ⟨[false, false, false], 14, b_flegs_told⟩
abbrev i_flegs_told : Nat := 118
/-- are_in_order(legs): slots 0 legs 1 at 2 leg 3 lot 4 length 5 more 6 part -/
def b_fare_in_order : Sms := (.cons (.fors (.nm 1) (.rng (.cons (.blt .len (.cons (.var 0) .nil)) .nil)) (.cons (.fors (.nm 2) (.it (.slc (.var 0) .nil (.cons (.var 1) .nil))) (.cons (.ifs (.nt (.blt .all (.cons (.comp (.call 39 [.v, .v] (.cons (.var 3) (.cons (.comp (.var 5) (.cons (.tp [(.nm 5), (.nm 6)]) (.it (.idx (.var 2) (.cst (.int 1)))) .nil .nil) [5, 6]) .nil))) (.cons (.tp [(.nm 3), (.nm 4)]) (.it (.idx (.idx (.var 0) (.var 1)) (.cst (.int 0)))) .nil .nil) [3, 4]) .nil))) (.cons (.ret (.cst (.bool false))) .nil) .nil) .nil)) .nil)) (.cons (.ret (.cst (.bool true))) .nil))
def F_fare_in_order : Fn := ⟨[false], 7, b_fare_in_order⟩
abbrev i_fare_in_order : Nat := 119
/-- is_table(many, leg, thing): slots 0 many 1 leg 2 thing 3 firsts 4 lasts 5 one 6 other 7 part 8 at 9 lots 10 lot 11 due 12 row -/
def b_fis_table : Sms := (.cons (.ifs (.bo false (.cons (.nt (.blt .isTuple (.cons (.var 2) .nil))) (.cons (.nt (.blt .all (.cons (.comp (.bo true (.cons (.blt .isTuple (.cons (.var 12) .nil)) (.cons (.cmp .eq (.blt .len (.cons (.var 12) .nil)) (.cst (.int 3))) .nil))) (.cons (.nm 12) (.it (.var 2)) .nil .nil) [12]) .nil))) .nil))) (.cons (.ret (.cst (.bool false))) .nil) .nil) (.cons (.par [3, 4] (.cons (.comp (.var 10) (.cons (.tp [(.nm 10), (.nm 7)]) (.it (.idx (.var 1) (.cst (.int 0)))) .nil .nil) [10, 7]) (.cons (.comp (.var 10) (.cons (.tp [(.nm 10), (.nm 7)]) (.it (.idx (.var 1) (.cst (.int 1)))) .nil .nil) [10, 7]) .nil))) (.cons (.fors (.tp [(.nm 5), (.nm 6), (.nm 7)]) (.it (.var 2)) (.cons (.ifs (.bo false (.cons (.nt (.call 37 [.v, .v] (.cons (.var 0) (.cons (.var 5) .nil)))) (.cons (.nt (.call 37 [.v, .v] (.cons (.var 0) (.cons (.var 6) .nil)))) (.cons (.cmp .notin (.var 5) (.var 3)) (.cons (.cmp .notin (.var 6) (.var 4)) .nil))))) (.cons (.ret (.cst (.bool false))) .nil) .nil) (.cons (.ifs (.bo false (.cons (.call 38 [.v, .v] (.cons (.var 5) (.cons (.var 6) .nil))) (.cons (.nt (.call 3 [.v] (.cons (.var 7) .nil))) (.cons (.cmp .le (.idx (.var 7) (.cst (.int 0))) (.cst (.int 0))) .nil)))) (.cons (.ret (.cst (.bool false))) .nil) .nil) .nil))) (.cons (.ifs (.nt (.blt .all (.cons (.comp (.cmp .lt (.slc (.idx (.var 2) (.var 8)) .nil (.cons (.cst (.int 2)) .nil)) (.slc (.idx (.var 2) (.bin .add (.var 8) (.cst (.int 1)))) .nil (.cons (.cst (.int 2)) .nil))) (.cons (.nm 8) (.rng (.cons (.bin .sub (.blt .len (.cons (.var 2) .nil)) (.cst (.int 1))) .nil)) .nil .nil) [8]) .nil))) (.cons (.ret (.cst (.bool false))) .nil) .nil) (.cons (.fors (.tp [(.nm 8), (.nm 9)]) (.enum (.tup (.cons (.var 3) (.cons (.var 4) .nil)))) (.cons (.fors (.tp [(.nm 10), (.nm 11)]) (.zip (.var 9) (.call 100 [.v] (.cons (.idx (.var 1) (.var 8)) .nil))) (.cons (.ifs (.cmp .ne (.call 66 [.v] (.cons (.comp (.idx (.var 12) (.cst (.int 2))) (.cons (.nm 12) (.it (.var 2)) (.cons (.cmp .eq (.idx (.var 12) (.var 8)) (.var 10)) .nil) .nil) [12]) .nil)) (.var 11)) (.cons (.ret (.cst (.bool false))) .nil) .nil) .nil)) .nil)) (.cons (.ret (.cst (.bool true))) .nil))))))
def F_fis_table : Fn := ⟨[false, false, false], 13, b_fis_table⟩
abbrev i_fis_table : Nat := 120
/-- way_paper(one, other): slots 0 one 1 other 2 legs 3 leg -/
def b_fway_paper : Sms := (.cons (.exp (.call 72 [.v, .v] (.cons (.var 0) (.cons (.var 1) .nil)))) (.cons (.asg (.nm 2) (.call 75 [.v, .v] (.cons (.var 0) (.cons (.var 1) .nil)))) (.cons (.ret (.tup (.cons (.call 76 [.v] (.cons (.var 2) .nil)) (.cons (.blt .tuple (.cons (.comp (.call 105 [.v, .v] (.cons (.idx (.var 3) (.cst (.int 0))) (.cons (.idx (.var 3) (.cst (.int 1))) .nil))) (.cons (.nm 3) (.it (.var 2)) .nil .nil) [3]) .nil)) .nil)))) .nil)))
def F_fway_paper : Fn := ⟨[false, false], 4, b_fway_paper⟩
abbrev i_fway_paper : Nat := 121
/-- shows_way(one, other, thing): slots 0 one 1 other 2 thing 3 legs 4 leg 5 table -/
def b_fshows_way : Sms := (.cons (.exp (.call 72 [.v, .v] (.cons (.var 0) (.cons (.var 1) .nil)))) (.cons (.ifs (.bo false (.cons (.nt (.blt .isTuple (.cons (.var 2) .nil))) (.cons (.cmp .ne (.blt .len (.cons (.var 2) .nil)) (.cst (.int 2))) .nil))) (.cons (.ret (.cst (.bool false))) .nil) .nil) (.cons (.asg (.nm 3) (.call 118 [.v, .v, .v] (.cons (.var 0) (.cons (.var 1) (.cons (.idx (.var 2) (.cst (.int 0))) .nil))))) (.cons (.ifs (.bo false (.cons (.isN true (.var 3)) (.cons (.nt (.blt .isTuple (.cons (.idx (.var 2) (.cst (.int 1))) .nil))) (.cons (.cmp .ne (.blt .len (.cons (.idx (.var 2) (.cst (.int 1))) .nil)) (.blt .len (.cons (.var 3) .nil))) .nil)))) (.cons (.ret (.cst (.bool false))) .nil) .nil) (.cons (.ifs (.bo false (.cons (.nt (.call 119 [.v] (.cons (.var 3) .nil))) (.cons (.nt (.call 114 [.v] (.cons (.var 3) .nil))) .nil))) (.cons (.ret (.cst (.bool false))) .nil) .nil) (.cons (.ret (.blt .all (.cons (.comp (.call 120 [.v, .v, .v] (.cons (.idx (.var 0) (.cst (.int 0))) (.cons (.var 4) (.cons (.var 5) .nil)))) (.cons (.tp [(.nm 4), (.nm 5)]) (.zip (.var 3) (.idx (.var 2) (.cst (.int 1)))) .nil .nil) [4, 5]) .nil))) .nil))))))
def F_fshows_way : Fn := ⟨[false, false, false], 6, b_fshows_way⟩
abbrev i_fshows_way : Nat := 122
/-- _law_same_shares(legs, tables): slots 0 legs 1 tables 2 told 3 first 4 second 5 at 6 side 7 whole 8 lot 9 length 10 line 11 own 12 due -/
def b_f_law_same_shares : Sms := (.cons (.fors (.tp [(.tp [(.nm 3), (.nm 4)]), (.nm 2)]) (.zip (.var 0) (.var 1)) (.cons (.fors (.tp [(.nm 5), (.nm 6)]) (.it (.lst (.cons (.tup (.cons (.cst (.int 0)) (.cons (.var 3) .nil))) (.cons (.tup (.cons (.cst (.int 1)) (.cons (.var 4) .nil))) .nil)))) (.cons (.asg (.nm 7) (.call 89 [.v] (.cons (.var 6) .nil))) (.cons (.fors (.tp [(.nm 8), (.nm 9)]) (.it (.var 6)) (.cons (.par [11, 12] (.cons (.tup (.cons (.cst (.int 0)) (.cons (.cst (.int 1)) .nil))) (.cons (.call 25 [.v, .v] (.cons (.call 25 [.v, .v] (.cons (.var 9) (.cons (.var 9) .nil))) (.cons (.tup (.cons (.idx (.var 7) (.cst (.int 1))) (.cons (.idx (.var 7) (.cst (.int 0))) .nil))) .nil))) .nil))) (.cons (.fors (.nm 10) (.it (.var 2)) (.cons (.asg (.nm 11) (.ite (.cmp .eq (.idx (.var 10) (.var 5)) (.var 8)) (.call 24 [.v, .v] (.cons (.var 11) (.cons (.idx (.var 10) (.cst (.int 2))) .nil))) (.var 11))) .nil)) (.cons (.ifs (.cmp .ne (.var 11) (.var 12)) (.cons (.ret (.cst (.bool false))) .nil) .nil) .nil)))) .nil))) .nil)) (.cons (.ret (.cst (.bool true))) .nil))
def F_f_law_same_shares : Fn := ⟨[false, false], 13, b_f_law_same_shares⟩
abbrev i_f_law_same_shares : Nat := 123
-- f_law_bent: step
-- flaw_k04: <class 'ast.IsNot'>
/-- need_share(share): slots 0 share -/
def b_fneed_share : Sms := (.cons (.ifs (.bo false (.cons (.nt (.call 3 [.v] (.cons (.var 0) .nil))) (.cons (.nt (.chain .le .le (.cst (.int 0)) (.idx (.var 0) (.cst (.int 0))) (.idx (.var 0) (.cst (.int 1))))) (.cons (.cmp .gt (.idx (.var 0) (.cst (.int 1))) (.glo (.int 100))) .nil)))) (.cons (.rse 1) .nil) .nil) .nil)
def F_fneed_share : Fn := ⟨[false], 1, b_fneed_share⟩
abbrev i_fneed_share : Nat := 126
/-- break_of(leg): slots 0 leg 1 gap 2 both 3 one 4 other -/
def b_fbreak_of : Sms := (.cons (.par [3, 4] (.cons (.call 67 [.v] (.cons (.idx (.var 0) (.cst (.int 0))) .nil)) (.cons (.call 67 [.v] (.cons (.idx (.var 0) (.cst (.int 1))) .nil)) .nil))) (.cons (.ifs (.cmp .eq (.var 3) (.var 4)) (.cons (.ret (.call 70 [.v] (.cons (.tup (.cons (.cst (.int 1)) (.cons (.cst (.int 2)) .nil))) .nil))) .nil) .nil) (.cons (.asg (.nm 1) (.call 4 [.v, .v] (.cons (.var 4) (.cons (.call 64 [.v] (.cons (.var 3) .nil)) .nil)))) (.cons (.asg (.nm 2) (.call 11 [.v, .v] (.cons (.call 9 [.v] (.cons (.call 5 [.v, .v] (.cons (.var 3) (.cons (.var 4) .nil))) .nil)) (.cons (.call 70 [.v] (.cons (.call 64 [.v] (.cons (.var 3) .nil)) .nil)) .nil)))) (.cons (.ret (.call 71 [.v, .v] (.cons (.var 2) (.cons (.call 63 [.v, .v] (.cons (.tup (.cons (.cst (.int 1)) (.cons (.cst (.int 1)) .nil))) (.cons (.var 1) .nil))) .nil)))) .nil)))))
def F_fbreak_of : Fn := ⟨[false], 5, b_fbreak_of⟩
abbrev i_fbreak_of : Nat := 127
/-- is_behind(leg, share): slots 0 leg 1 share 2 rest 3 own -/
def b_fis_behind : Sms := (.cons (.asg (.nm 2) (.call 2 [.v, .v] (.cons (.bin .sub (.idx (.var 1) (.cst (.int 1))) (.idx (.var 1) (.cst (.int 0)))) (.cons (.idx (.var 1) (.cst (.int 1))) .nil)))) (.cons (.asg (.nm 3) (.call 5 [.v, .v] (.cons (.call 67 [.v] (.cons (.idx (.var 0) (.cst (.int 1))) .nil)) (.cons (.call 5 [.v, .v] (.cons (.var 1) (.cons (.var 1) .nil))) .nil)))) (.cons (.ret (.call 65 [.v, .v] (.cons (.call 5 [.v, .v] (.cons (.call 67 [.v] (.cons (.idx (.var 0) (.cst (.int 0))) .nil)) (.cons (.call 5 [.v, .v] (.cons (.var 2) (.cons (.var 2) .nil))) .nil))) (.cons (.var 3) .nil)))) .nil)))
def F_fis_behind : Fn := ⟨[false, false], 4, b_fis_behind⟩
abbrev i_fis_behind : Nat := 128
/-- side_at(leg, share): slots 0 leg 1 share 2 rest 3 root 4 part 5 near 6 far 7 first 8 second 9 lot 10 length -/
def b_fside_at : Sms := (.cons (.asg (.nm 2) (.call 2 [.v, .v] (.cons (.bin .sub (.idx (.var 1) (.cst (.int 1))) (.idx (.var 1) (.cst (.int 0)))) (.cons (.idx (.var 1) (.cst (.int 1))) .nil)))) (.cons (.asg (.tp [(.nm 5), (.nm 6), (.nm 7), (.nm 8)]) (.tup (.cons (.idx (.var 0) (.cst (.int 0))) (.cons (.idx (.var 0) (.cst (.int 1))) (.cons (.var 2) (.cons (.var 1) .nil)))))) (.cons (.ifs (.call 128 [.v, .v] (.cons (.var 0) (.cons (.var 1) .nil))) (.cons (.asg (.tp [(.nm 5), (.nm 6), (.nm 7), (.nm 8)]) (.tup (.cons (.var 6) (.cons (.var 5) (.cons (.var 8) (.cons (.var 7) .nil)))))) .nil) .nil) (.cons (.asg (.nm 3) (.call 9 [.v] (.cons (.call 63 [.v, .v] (.cons (.call 67 [.v] (.cons (.var 6) .nil)) (.cons (.call 67 [.v] (.cons (.var 5) .nil)) .nil))) .nil))) (.cons (.asg (.nm 4) (.call 11 [.v, .v] (.cons (.call 70 [.v] (.cons (.var 7) .nil)) (.cons (.call 71 [.v, .v] (.cons (.var 3) (.cons (.call 64 [.v] (.cons (.var 8) .nil)) .nil))) .nil)))) (.cons (.ret (.comp (.tup (.cons (.var 9) (.cons (.call 71 [.v, .v] (.cons (.var 4) (.cons (.var 10) .nil))) .nil))) (.cons (.tp [(.nm 9), (.nm 10)]) (.it (.var 5)) (.cons (.cmp .ne (.var 4) (.tup .nil)) .nil) .nil) [9, 10])) .nil))))))
def F_fside_at : Fn := ⟨[false, false], 11, b_fside_at⟩
abbrev i_fside_at : Nat := 129
/-- breaks(one, other): slots 0 one 1 other 2 leg -/
def b_fbreaks : Sms := (.cons (.exp (.call 72 [.v, .v] (.cons (.var 0) (.cons (.var 1) .nil)))) (.cons (.ret (.blt .tuple (.cons (.comp (.call 127 [.v] (.cons (.var 2) .nil)) (.cons (.nm 2) (.it (.call 75 [.v, .v] (.cons (.var 0) (.cons (.var 1) .nil)))) .nil .nil) [2]) .nil))) .nil))
def F_fbreaks : Fn := ⟨[false, false], 3, b_fbreaks⟩
abbrev i_fbreaks : Nat := 130
/-- spot(one, other, share): slots 0 one 1 other 2 share 3 rest 4 found 5 leg 6 lot 7 first 8 second 9 length -/
def b_fspot : Sms := (.cons (.exp (.call 72 [.v, .v] (.cons (.var 0) (.cons (.var 1) .nil)))) (.cons (.exp (.call 126 [.v] (.cons (.var 2) .nil))) (.cons (.asg (.nm 3) (.call 2 [.v, .v] (.cons (.bin .sub (.idx (.var 2) (.cst (.int 1))) (.idx (.var 2) (.cst (.int 0)))) (.cons (.idx (.var 2) (.cst (.int 1))) .nil)))) (.cons (.asg (.nm 4) (.lst .nil)) (.cons (.fors (.tp [(.nm 6), (.nm 7), (.nm 8)]) (.it (.call 73 [.v, .v] (.cons (.var 0) (.cons (.var 1) .nil)))) (.cons (.asg (.nm 9) (.call 4 [.v, .v] (.cons (.call 5 [.v, .v] (.cons (.var 3) (.cons (.var 7) .nil))) (.cons (.call 5 [.v, .v] (.cons (.var 2) (.cons (.var 8) .nil))) .nil)))) (.cons (.ifs (.cmp .gt (.idx (.var 9) (.cst (.int 0))) (.cst (.int 0))) (.cons (.exp (.mut .append (.var 4) (.cons (.tup (.cons (.var 6) (.cons (.call 70 [.v] (.cons (.var 9) .nil)) .nil))) .nil))) .nil) .nil) .nil))) (.cons (.fors (.nm 5) (.it (.call 75 [.v, .v] (.cons (.var 0) (.cons (.var 1) .nil)))) (.cons (.exp (.mut .extend (.var 4) (.cons (.call 129 [.v, .v] (.cons (.var 5) (.cons (.var 2) .nil))) .nil))) .nil)) (.cons (.ret (.blt .tuple (.cons (.blt .sorted (.cons (.var 4) .nil)) .nil))) .nil)))))))
def F_fspot : Fn := ⟨[false, false, false], 10, b_fspot⟩
abbrev i_fspot : Nat := 131
/-- stretches(one, other): slots 0 one 1 other 2 found 3 many 4 legs 5 common 6 lots 7 at 8 leg 9 lot 10 first 11 second -/
def b_fstretches : Sms := (.cons (.exp (.call 72 [.v, .v] (.cons (.var 0) (.cons (.var 1) .nil)))) (.cons (.par [4, 5] (.cons (.call 76 [.v] (.cons (.call 75 [.v, .v] (.cons (.var 0) (.cons (.var 1) .nil))) .nil)) (.cons (.comp (.var 9) (.cons (.tp [(.nm 9), (.nm 10), (.nm 11)]) (.it (.call 73 [.v, .v] (.cons (.var 0) (.cons (.var 1) .nil)))) .nil .nil) [9, 10, 11]) .nil))) (.cons (.asg (.nm 2) (.lst .nil)) (.cons (.fors (.nm 3) (.rng (.cons (.bin .add (.blt .len (.cons (.var 4) .nil)) (.cst (.int 1))) .nil)) (.cons (.asg (.nm 6) (.blt .list (.cons (.var 5) .nil))) (.cons (.fors (.tp [(.nm 7), (.nm 8)]) (.enum (.var 4)) (.cons (.exp (.mut .extend (.var 6) (.cons (.ite (.cmp .lt (.var 7) (.var 3)) (.idx (.var 8) (.cst (.int 1))) (.idx (.var 8) (.cst (.int 0)))) .nil))) .nil)) (.cons (.exp (.mut .append (.var 2) (.cons (.blt .tuple (.cons (.blt .sorted (.cons (.var 6) .nil)) .nil)) .nil))) .nil)))) (.cons (.ret (.blt .tuple (.cons (.var 2) .nil))) .nil)))))
def F_fstretches : Fn := ⟨[false, false], 12, b_fstretches⟩
abbrev i_fstretches : Nat := 132
/-- past_star(one, other): slots 0 one 1 other -/
def b_fpast_star : Sms := (.cons (.exp (.call 72 [.v, .v] (.cons (.var 0) (.cons (.var 1) .nil)))) (.cons (.ifs (.bo false (.cons (.cmp .eq (.idx (.var 0) (.cst (.int 1))) (.tup .nil)) (.cons (.cmp .eq (.idx (.var 1) (.cst (.int 1))) (.tup .nil)) .nil))) (.cons (.ret (.cst (.bool true))) .nil) .nil) (.cons (.ret (.bo true (.cons (.cmp .eq (.call 73 [.v, .v] (.cons (.var 0) (.cons (.var 1) .nil))) (.tup .nil)) (.cons (.cmp .eq (.blt .len (.cons (.call 75 [.v, .v] (.cons (.var 0) (.cons (.var 1) .nil))) .nil)) (.cst (.int 1))) .nil)))) .nil)))
def F_fpast_star : Fn := ⟨[false, false], 2, b_fpast_star⟩
abbrev i_fpast_star : Nat := 133
/-- _law_share(row): slots 0 row 1 low -/
def b_f_law_share : Sms := (.cons (.asg (.nm 1) (.bin .add (.cst (.int 1)) (.call 20 [.io, .v] (.cons (.var 0) (.cons (.call 21 [.io, .v] (.cons (.var 0) (.cons (.lst (.cons (.cst (.int 3)) (.cons (.cst (.int 12)) (.cons (.cst (.int 100)) .nil)))) .nil))) .nil))))) (.cons (.ret (.call 23 [.v, .v] (.cons (.call 20 [.io, .v] (.cons (.var 0) (.cons (.bin .add (.var 1) (.cst (.int 1))) .nil))) (.cons (.var 1) .nil)))) .nil))
def F_f_law_share : Fn := ⟨[true], 2, b_f_law_share⟩
abbrev i_f_law_share : Nat := 134
/-- _law_is_behind(leg, share): slots 0 leg 1 share 2 rest 3 one -/
def b_f_law_is_behind : Sms := (.cons (.asg (.nm 2) (.call 23 [.v, .v] (.cons (.bin .sub (.idx (.var 1) (.cst (.int 1))) (.idx (.var 1) (.cst (.int 0)))) (.cons (.idx (.var 1) (.cst (.int 1))) .nil)))) (.cons (.asg (.nm 3) (.call 25 [.v, .v] (.cons (.call 89 [.v] (.cons (.idx (.var 0) (.cst (.int 0))) .nil)) (.cons (.call 25 [.v, .v] (.cons (.var 2) (.cons (.var 2) .nil))) .nil)))) (.cons (.ret (.call 85 [.v, .v] (.cons (.var 3) (.cons (.call 25 [.v, .v] (.cons (.call 89 [.v] (.cons (.idx (.var 0) (.cst (.int 1))) .nil)) (.cons (.call 25 [.v, .v] (.cons (.var 1) (.cons (.var 1) .nil))) .nil))) .nil)))) .nil)))
def F_f_law_is_behind : Fn := ⟨[false, false], 4, b_f_law_is_behind⟩
abbrev i_f_law_is_behind : Nat := 135
-- f_law_spot: Dict(keys=[], values=[])
-- flaw_k05: Dict(keys=[], values=[])
/-- _law_whole(one, other): slots 0 one 1 other -/
def b_f_law_whole : Sms := (.cons (.ret (.call 30 [.v, .v, .v] (.cons (.call 29 [.v] (.cons (.call 96 [.v, .v] (.cons (.var 0) (.cons (.var 1) .nil))) .nil)) (.cons (.idx (.call 95 [.v, .v] (.cons (.var 0) (.cons (.var 1) .nil))) (.cst (.int 1))) (.cons (.tup (.cons (.cst (.int 1)) (.cons (.cst (.int 1)) .nil))) .nil))))) .nil)
def F_f_law_whole : Fn := ⟨[false, false], 2, b_f_law_whole⟩
abbrev i_f_law_whole : Nat := 138
/-- _law_way_span(one): slots 0 one 1 low 2 high -/
def b_f_law_way_span : Sms := (.cons (.asg (.tp [(.nm 1), (.nm 2)]) (.call 32 [.v, .v] (.cons (.var 0) (.cons (.bin .pow (.cst (.int 10)) (.cst (.int 12))) .nil)))) (.cons (.ret (.tup (.cons (.call 26 [.v] (.cons (.blt .max (.cons (.cst (.int 0)) (.cons (.var 1) .nil))) .nil)) (.cons (.bin .add (.call 26 [.v] (.cons (.blt .max (.cons (.cst (.int 0)) (.cons (.var 2) .nil))) .nil)) (.cst (.int 1))) .nil)))) .nil))
def F_f_law_way_span : Fn := ⟨[false], 3, b_f_law_way_span⟩
abbrev i_f_law_way_span : Nat := 139
/-- law(script): slots 0 script 1 row 2 held 3 third 4 rows 5 at 6 lot 7 ends 8 ways 9 bound 10 one 11 other 12 first 13 second 14 last 15 shape 16 near 17 far 18 middle 19 part 20 a 21 b 22 tree 23 length -/
def b_flaw_k06 : Sms := (.cons (.asg (.nm 1) (.lst (.cons (.var 0) (.cons (.cst (.int 0)) (.cons (.cst (.int 6006)) (.cons (.cst (.int 0)) .nil)))))) (.cons (.asg (.tp [(.nm 10), (.nm 11)]) (.call 86 [.io, .v] (.cons (.var 1) (.cons (.cst (.int 6)) .nil)))) (.cons (.asg (.nm 2) (.slc (.comp (.var 6) (.cons (.tp [(.nm 6), (.nm 23)]) (.it (.idx (.call 21 [.io, .v] (.cons (.var 1) (.cons (.lst (.cons (.var 10) (.cons (.var 11) .nil))) .nil))) (.cst (.int 1)))) .nil .nil) [6, 23]) .nil (.cons (.call 20 [.io, .v] (.cons (.var 1) (.cons (.cst (.int 3)) .nil))) .nil))) (.cons (.asg (.nm 3) (.call 60 [.io, .v, .v] (.cons (.var 1) (.cons (.idx (.var 10) (.cst (.int 0))) (.cons (.blt .tuple (.cons (.var 2) .nil)) .nil))))) (.cons (.par [12, 13, 14] (.cons (.call 82 [.v, .v] (.cons (.var 10) (.cons (.var 11) .nil))) (.cons (.call 82 [.v, .v] (.cons (.var 10) (.cons (.var 3) .nil))) (.cons (.call 82 [.v, .v] (.cons (.var 3) (.cons (.var 11) .nil))) .nil)))) (.cons (.ifs (.bo false (.cons (.nt (.call 22 [.v, .v] (.cons (.var 12) (.cons (.call 138 [.v, .v] (.cons (.var 10) (.cons (.var 11) .nil))) .nil)))) (.cons (.nt (.call 22 [.v, .v] (.cons (.var 14) (.cons (.call 138 [.v, .v] (.cons (.var 3) (.cons (.var 11) .nil))) .nil)))) .nil))) (.cons (.ret (.cst (.bool false))) .nil) .nil) (.cons (.ifs (.bo false (.cons (.cmp .ne (.call 82 [.v, .v] (.cons (.var 11) (.cons (.var 10) .nil))) (.var 12)) (.cons (.cmp .ne (.call 82 [.v, .v] (.cons (.var 3) (.cons (.var 10) .nil))) (.var 13)) (.cons (.cmp .ne (.call 82 [.v, .v] (.cons (.var 11) (.cons (.var 3) .nil))) (.var 14)) .nil)))) (.cons (.ret (.cst (.bool false))) .nil) .nil) (.cons (.asg (.nm 4) (.comp (.call 139 [.v] (.cons (.var 19) .nil)) (.cons (.nm 19) (.it (.lst (.cons (.var 12) (.cons (.var 13) (.cons (.var 14) .nil))))) .nil .nil) [19])) (.cons (.fors (.nm 5) (.rng (.cons (.cst (.int 3)) .nil)) (.cons (.ifs (.cmp .gt (.idx (.idx (.var 4) (.var 5)) (.cst (.int 0))) (.bin .add (.idx (.idx (.var 4) (.bin .sub (.var 5) (.cst (.int 1)))) (.cst (.int 1))) (.idx (.idx (.var 4) (.bin .sub (.var 5) (.cst (.int 2)))) (.cst (.int 1))))) (.cons (.ret (.cst (.bool false))) .nil) .nil) .nil)) (.cons (.asg (.tp [(.nm 15), (.nm 16), (.nm 17), (.nm 18)]) (.tup (.cons (.call 59 [.io, .v, .v, .v] (.cons (.var 1) (.cons (.idx (.var 10) (.cst (.int 0))) (.cons (.tup .nil) (.cons (.bin .sub (.idx (.var 10) (.cst (.int 0))) (.cst (.int 2))) .nil))))) (.cons (.frz (.lst .nil)) (.cons (.frz (.lst .nil)) (.cons (.frz (.lst .nil)) .nil)))))) (.cons (.fors (.nm 6) (.it (.var 15)) (.cons (.par [20, 21] (.cons (.bin .add (.cst (.int 1)) (.call 20 [.io, .v] (.cons (.var 1) (.cons (.cst (.int 40)) .nil)))) (.cons (.bin .add (.cst (.int 1)) (.call 20 [.io, .v] (.cons (.var 1) (.cons (.cst (.int 40)) .nil)))) .nil))) (.cons (.exp (.mut .append (.var 16) (.cons (.tup (.cons (.var 6) (.cons (.tup (.cons (.var 20) (.cons (.cst (.int 1)) .nil))) .nil))) .nil))) (.cons (.exp (.mut .append (.var 17) (.cons (.tup (.cons (.var 6) (.cons (.tup (.cons (.var 21) (.cons (.cst (.int 1)) .nil))) .nil))) .nil))) (.cons (.exp (.mut .append (.var 18) (.cons (.tup (.cons (.var 6) (.cons (.call 23 [.v, .v] (.cons (.bin .add (.var 20) (.var 21)) (.cons (.cst (.int 2)) .nil))) .nil))) .nil))) .nil))))) (.cons (.asg (.nm 7) (.lst (.cons (.tup (.cons (.idx (.var 10) (.cst (.int 0))) (.cons (.blt .tuple (.cons (.var 16) .nil)) .nil))) (.cons (.tup (.cons (.idx (.var 10) (.cst (.int 0))) (.cons (.blt .tuple (.cons (.var 17) .nil)) .nil))) (.cons (.tup (.cons (.idx (.var 10) (.cst (.int 0))) (.cons (.blt .tuple (.cons (.var 18) .nil)) .nil))) .nil))))) (.cons (.asg (.nm 8) (.comp (.call 82 [.v, .v] (.cons (.var 10) (.cons (.var 22) .nil))) (.cons (.nm 22) (.it (.var 7)) .nil .nil) [22])) (.cons (.ifs (.cmp .ne (.call 96 [.v, .v] (.cons (.idx (.var 7) (.cst (.int 0))) (.cons (.idx (.var 7) (.cst (.int 1))) .nil))) (.call 25 [.v, .v] (.cons (.call 96 [.v, .v] (.cons (.idx (.var 7) (.cst (.int 0))) (.cons (.idx (.var 7) (.cst (.int 2))) .nil))) (.cons (.tup (.cons (.cst (.int 4)) (.cons (.cst (.int 1)) .nil))) .nil)))) (.cons (.ret (.cst (.bool false))) .nil) .nil) (.cons (.asg (.nm 9) (.call 30 [.v, .v, .v] (.cons (.call 30 [.v, .v, .v] (.cons (.tup .nil) (.cons (.idx (.var 8) (.cst (.int 0))) (.cons (.tup (.cons (.cst (.int 1)) (.cons (.cst (.int 2)) .nil))) .nil)))) (.cons (.idx (.var 8) (.cst (.int 1))) (.cons (.tup (.cons (.cst (.int 1)) (.cons (.cst (.int 2)) .nil))) .nil))))) (.cons (.asg (.nm 9) (.call 30 [.v, .v, .v] (.cons (.var 9) (.cons (.call 82 [.v, .v] (.cons (.idx (.var 7) (.cst (.int 0))) (.cons (.idx (.var 7) (.cst (.int 1))) .nil))) (.cons (.tup (.cons (.neg (.cst (.int 1))) (.cons (.cst (.int 4)) .nil))) .nil))))) (.cons (.ifs (.cmp .lt (.call 33 [.v] (.cons (.call 30 [.v, .v, .v] (.cons (.var 9) (.cons (.idx (.var 8) (.cst (.int 2))) (.cons (.tup (.cons (.neg (.cst (.int 1))) (.cons (.cst (.int 1)) .nil))) .nil)))) .nil)) (.cst (.int 0))) (.cons (.ret (.cst (.bool false))) .nil) .nil) (.cons (.ifs (.cmp .ne (.call 82 [.v, .v] (.cons (.idx (.var 7) (.cst (.int 0))) (.cons (.idx (.var 7) (.cst (.int 1))) .nil))) (.call 29 [.v] (.cons (.call 96 [.v, .v] (.cons (.idx (.var 7) (.cst (.int 0))) (.cons (.idx (.var 7) (.cst (.int 1))) .nil))) .nil))) (.cons (.ret (.cst (.bool false))) .nil) .nil) (.cons (.ret (.cmp .eq (.told 0 [(6, ("BadTree" : Str))] 0 (.call 82 [.v, .v] (.cons (.var 10) (.cons (.tup (.cons (.bin .add (.cst (.int 3)) (.bin .mod (.bin .sub (.idx (.var 10) (.cst (.int 0))) (.cst (.int 2))) (.cst (.int 4)))) (.cons (.tup .nil) .nil))) .nil)))) (.cst (.str ("BadTree" : Str))))) .nil)))))))))))))))))))
def F_flaw_k06 : Fn := ⟨[false], 24, b_flaw_k06⟩
abbrev i_flaw_k06 : Nat := 140
/-- bare_tree(many, shape): slots 0 many 1 shape 2 lot -/
def b_fbare_tree : Sms := (.cons (.ret (.tup (.cons (.var 0) (.cons (.blt .tuple (.cons (.comp (.tup (.cons (.var 2) (.cons (.tup (.cons (.cst (.int 1)) (.cons (.cst (.int 1)) .nil))) .nil))) (.cons (.nm 2) (.it (.var 1)) .nil .nil) [2]) .nil)) .nil)))) .nil)
def F_fbare_tree : Fn := ⟨[false, false], 3, b_fbare_tree⟩
abbrev i_fbare_tree : Nat := 141
/-- sides_of(many, shape, other): slots 0 many 1 shape 2 other 3 lots 4 lot 5 first 6 second 7 side -/
def b_fsides_of : Sms := (.cons (.asg (.nm 3) (.comp (.var 4) (.cons (.tp [(.nm 4), (.nm 5), (.nm 6)]) (.it (.call 73 [.v, .v] (.cons (.call 141 [.v, .v] (.cons (.var 0) (.cons (.var 1) .nil))) (.cons (.call 141 [.v, .v] (.cons (.var 0) (.cons (.var 2) .nil))) .nil)))) .nil .nil) [4, 5, 6])) (.cons (.ret (.blt .tuple (.cons (.comp (.blt .tuple (.cons (.comp (.var 4) (.cons (.nm 4) (.it (.var 7)) (.cons (.cmp .notin (.var 4) (.var 3)) .nil) .nil) [4]) .nil)) (.cons (.nm 7) (.it (.tup (.cons (.var 1) (.cons (.var 2) .nil)))) .nil .nil) [7]) .nil))) .nil))
def F_fsides_of : Fn := ⟨[false, false, false], 8, b_fsides_of⟩
abbrev i_fsides_of : Nat := 142
/-- parts_of(lots): slots 0 lots 1 found 2 lot 3 some 4 rest -/
def b_fparts_of : Sms := (.cons (.asg (.nm 1) (.lst (.cons (.tup (.cons (.tup .nil) (.cons (.tup .nil) .nil))) .nil))) (.cons (.fors (.nm 2) (.it (.var 0)) (.cons (.asg (.nm 1) (.bin .add (.comp (.tup (.cons (.bin .add (.var 3) (.tup (.cons (.var 2) .nil))) (.cons (.var 4) .nil))) (.cons (.tp [(.nm 3), (.nm 4)]) (.it (.var 1)) .nil .nil) [3, 4]) (.comp (.tup (.cons (.var 3) (.cons (.bin .add (.var 4) (.tup (.cons (.var 2) .nil))) .nil))) (.cons (.tp [(.nm 3), (.nm 4)]) (.it (.var 1)) .nil .nil) [3, 4]))) .nil)) (.cons (.ret (.comp (.tup (.cons (.var 3) (.cons (.var 4) .nil))) (.cons (.tp [(.nm 3), (.nm 4)]) (.it (.var 1)) (.cons (.cmp .ne (.var 3) (.tup .nil)) .nil) .nil) [3, 4])) .nil)))
def F_fparts_of : Fn := ⟨[false], 5, b_fparts_of⟩
abbrev i_fparts_of : Nat := 143
/-- is_woven(one, other): slots 0 one 1 other 2 known 3 waiting 4 lot 5 more -/
def b_fis_woven : Sms := (.cons (.par [2, 3] (.cons (.lst (.cons (.idx (.var 0) (.cst (.int 0))) .nil)) (.cons (.lst (.cons (.idx (.var 0) (.cst (.int 0))) .nil)) .nil))) (.cons (.whl (.cmp .ne (.var 3) (.lst .nil)) (.cons (.asg (.nm 4) (.mut .pop (.var 3) .nil)) (.cons (.fors (.nm 5) (.it (.ite (.cmp .isin (.var 4) (.var 0)) (.var 1) (.var 0))) (.cons (.ifs (.bo true (.cons (.cmp .notin (.var 5) (.var 2)) (.cons (.nt (.call 38 [.v, .v] (.cons (.var 4) (.cons (.var 5) .nil)))) .nil))) (.cons (.exp (.mut .append (.var 2) (.cons (.var 5) .nil))) (.cons (.exp (.mut .append (.var 3) (.cons (.var 5) .nil))) .nil)) .nil) .nil)) .nil))) (.cons (.ret (.cmp .eq (.blt .len (.cons (.var 2) .nil)) (.bin .add (.blt .len (.cons (.var 0) .nil)) (.blt .len (.cons (.var 1) .nil))))) .nil)))
def F_fis_woven : Fn := ⟨[false, false], 6, b_fis_woven⟩
abbrev i_fis_woven : Nat := 144
/-- chains_from(one, other): slots 0 one 1 other 2 found 3 first 4 left 5 second 6 more 7 lot 8 rest -/
def b_fchains_from : Sms := (.cons (.ifs (.bo true (.cons (.cmp .eq (.var 0) (.tup .nil)) (.cons (.cmp .eq (.var 1) (.tup .nil)) .nil))) (.cons (.ret (.lst (.cons (.tup .nil) .nil))) .nil) .nil) (.cons (.asg (.nm 2) (.lst .nil)) (.cons (.fors (.tp [(.nm 3), (.nm 4)]) (.it (.call 143 [.v] (.cons (.var 0) .nil))) (.cons (.fors (.tp [(.nm 5), (.nm 6)]) (.it (.call 143 [.v] (.cons (.var 1) .nil))) (.cons (.ifs (.bo true (.cons (.cmp .eq (.cmp .eq (.var 4) (.tup .nil)) (.cmp .eq (.var 6) (.tup .nil))) (.cons (.call 144 [.v, .v] (.cons (.var 3) (.cons (.var 5) .nil))) .nil))) (.cons (.ifs (.blt .all (.cons (.comp (.call 39 [.v, .v] (.cons (.var 7) (.cons (.var 5) .nil))) (.cons (.nm 7) (.it (.var 4)) .nil .nil) [7]) .nil)) (.cons (.exp (.mut .extend (.var 2) (.cons (.comp (.bin .add (.tup (.cons (.tup (.cons (.var 3) (.cons (.var 5) .nil))) .nil)) (.var 8)) (.cons (.nm 8) (.it (.call 145 [.v, .v] (.cons (.var 4) (.cons (.var 6) .nil)))) .nil .nil) [8]) .nil))) .nil) .nil) .nil) .nil) .nil)) .nil)) (.cons (.ret (.var 2)) .nil))))
def F_fchains_from : Fn := ⟨[false, false], 9, b_fchains_from⟩
abbrev i_fchains_from : Nat := 145
-- fnear_root: call isqrt
/-- roads_by(lots, far, times): slots 0 lots 1 far 2 times 3 found 4 lot 5 many 6 more -/
def b_froads_by : Sms := (.cons (.asg (.nm 3) (.lst .nil)) (.cons (.fors (.nm 4) (.it (.var 0)) (.cons (.asg (.nm 5) (.blt .len (.cons (.comp (.var 6) (.cons (.nm 6) (.it (.var 1)) (.cons (.nt (.call 38 [.v, .v] (.cons (.var 4) (.cons (.var 6) .nil)))) .nil) .nil) [6]) .nil))) (.cons (.exp (.mut .append (.var 3) (.cons (.tup (.cons (.var 4) (.cons (.tup (.cons (.bin .mul (.var 2) (.call 146 [.v] (.cons (.var 5) .nil))) (.cons (.cst (.int 1)) .nil))) .nil))) .nil))) .nil))) (.cons (.ret (.var 3)) .nil)))
def F_froads_by : Fn := ⟨[false, false, false], 7, b_froads_by⟩
abbrev i_froads_by : Nat := 147
/-- need_shapes(many, one, other): slots 0 many 1 one 2 other -/
def b_fneed_shapes : Sms := (.cons (.exp (.call 36 [.v] (.cons (.var 0) .nil))) (.cons (.exp (.call 41 [.v, .v] (.cons (.var 0) (.cons (.var 1) .nil)))) (.cons (.exp (.call 41 [.v, .v] (.cons (.var 0) (.cons (.var 2) .nil)))) .nil)))
def F_fneed_shapes : Fn := ⟨[false, false, false], 3, b_fneed_shapes⟩
abbrev i_fneed_shapes : Nat := 148
/-- open_chains(many, one, other): slots 0 many 1 one 2 other 3 sides -/
def b_fopen_chains : Sms := (.cons (.exp (.call 148 [.v, .v, .v] (.cons (.var 0) (.cons (.var 1) (.cons (.var 2) .nil))))) (.cons (.asg (.nm 3) (.call 142 [.v, .v, .v] (.cons (.var 0) (.cons (.var 1) (.cons (.var 2) .nil))))) (.cons (.ret (.blt .sorted (.cons (.call 145 [.v, .v] (.cons (.idx (.var 3) (.cst (.int 0))) (.cons (.idx (.var 3) (.cst (.int 1))) .nil))) .nil))) .nil)))
def F_fopen_chains : Fn := ⟨[false, false, false], 4, b_fopen_chains⟩
abbrev i_fopen_chains : Nat := 149
/-- lengths_for(many, one, other, told): slots 0 many 1 one 2 other 3 told 4 chains 5 sides 6 rows 7 shape 8 side 9 at 10 first 11 second 12 roads 13 lot -/
def b_flengths_for : Sms := (.cons (.asg (.nm 4) (.call 149 [.v, .v, .v] (.cons (.var 0) (.cons (.var 1) (.cons (.var 2) .nil))))) (.cons (.ifs (.bo false (.cons (.nt (.call 115 [.v] (.cons (.var 3) .nil))) (.cons (.nt (.call 116 [.v, .v] (.cons (.var 0) (.cons (.var 3) .nil)))) (.cons (.cmp .notin (.var 3) (.var 4)) .nil)))) (.cons (.rse 9) .nil) .nil) (.cons (.asg (.nm 5) (.call 142 [.v, .v, .v] (.cons (.var 0) (.cons (.var 1) (.cons (.var 2) .nil))))) (.cons (.asg (.nm 6) (.lst .nil)) (.cons (.fors (.tp [(.nm 7), (.nm 8)]) (.zip (.tup (.cons (.var 1) (.cons (.var 2) .nil))) (.var 5)) (.cons (.exp (.mut .append (.var 6) (.cons (.frz (.comp (.tup (.cons (.var 13) (.cons (.tup (.cons (.cst (.int 1)) (.cons (.cst (.int 1)) .nil))) .nil))) (.cons (.nm 13) (.it (.var 7)) (.cons (.cmp .notin (.var 13) (.var 8)) .nil) .nil) [13])) .nil))) .nil)) (.cons (.fors (.tp [(.nm 9), (.tp [(.nm 10), (.nm 11)])]) (.enum (.var 3)) (.cons (.exp (.mut .extend (.idx (.var 6) (.cst (.int 0))) (.cons (.call 147 [.v, .v, .v] (.cons (.var 10) (.cons (.var 11) (.cons (.bin .add (.var 9) (.cst (.int 1))) .nil)))) .nil))) (.cons (.exp (.mut .extend (.idx (.var 6) (.cst (.int 1))) (.cons (.call 147 [.v, .v, .v] (.cons (.var 11) (.cons (.var 10) (.cons (.cst (.int 1)) .nil)))) .nil))) .nil))) (.cons (.ret (.blt .tuple (.cons (.comp (.tup (.cons (.var 0) (.cons (.blt .tuple (.cons (.blt .sorted (.cons (.var 12) .nil)) .nil)) .nil))) (.cons (.nm 12) (.it (.var 6)) .nil .nil) [12]) .nil))) .nil)))))))
def F_flengths_for : Fn := ⟨[false, false, false, false], 14, b_flengths_for⟩
abbrev i_flengths_for : Nat := 150
/-- always_star(many, one, other): slots 0 many 1 one 2 other 3 lot 4 more -/
def b_falways_star : Sms := (.cons (.exp (.call 148 [.v, .v, .v] (.cons (.var 0) (.cons (.var 1) (.cons (.var 2) .nil))))) (.cons (.ifs (.bo false (.cons (.cmp .eq (.var 1) (.tup .nil)) (.cons (.cmp .eq (.var 2) (.tup .nil)) .nil))) (.cons (.ret (.cst (.bool true))) .nil) .nil) (.cons (.ret (.bo true (.cons (.cmp .eq (.call 142 [.v, .v, .v] (.cons (.var 0) (.cons (.var 1) (.cons (.var 2) .nil)))) (.tup (.cons (.var 1) (.cons (.var 2) .nil)))) (.cons (.nt (.blt .any (.cons (.comp (.call 38 [.v, .v] (.cons (.var 3) (.cons (.var 4) .nil))) (.cons (.nm 3) (.it (.var 1)) .nil (.cons (.nm 4) (.it (.var 2)) .nil .nil)) [3, 4]) .nil))) .nil)))) .nil)))
def F_falways_star : Fn := ⟨[false, false, false], 5, b_falways_star⟩
abbrev i_falways_star : Nat := 151
/-- _law_woven(leg): slots 0 leg 1 known 2 turn 3 firsts 4 seconds 5 lot 6 side 7 length 8 more -/
def b_f_law_woven : Sms := (.cons (.par [3, 4] (.cons (.comp (.var 5) (.cons (.tp [(.nm 5), (.nm 7)]) (.it (.idx (.var 0) (.cst (.int 0)))) .nil .nil) [5, 7]) (.cons (.comp (.var 5) (.cons (.tp [(.nm 5), (.nm 7)]) (.it (.idx (.var 0) (.cst (.int 1)))) .nil .nil) [5, 7]) .nil))) (.cons (.asg (.nm 1) (.slc (.var 3) .nil (.cons (.cst (.int 1)) .nil))) (.cons (.fors (.nm 2) (.rng (.cons (.bin .add (.blt .len (.cons (.var 3) .nil)) (.blt .len (.cons (.var 4) .nil))) .nil)) (.cons (.fors (.nm 5) (.it (.bin .add (.var 3) (.var 4))) (.cons (.asg (.nm 6) (.ite (.cmp .isin (.var 5) (.var 3)) (.var 4) (.var 3))) (.cons (.ifs (.bo true (.cons (.cmp .notin (.var 5) (.var 1)) (.cons (.cmp .ne (.comp (.var 8) (.cons (.nm 8) (.it (.var 6)) (.cons (.bo true (.cons (.cmp .isin (.var 8) (.var 1)) (.cons (.nt (.call 55 [.v, .v] (.cons (.var 5) (.cons (.var 8) .nil)))) .nil))) .nil) .nil) [8]) (.lst .nil)) .nil))) (.cons (.exp (.mut .append (.var 1) (.cons (.var 5) .nil))) .nil) .nil) .nil))) .nil)) (.cons (.ret (.cmp .eq (.blt .len (.cons (.var 1) .nil)) (.bin .add (.blt .len (.cons (.var 3) .nil)) (.blt .len (.cons (.var 4) .nil))))) .nil))))
def F_f_law_woven : Fn := ⟨[false], 9, b_f_law_woven⟩
abbrev i_f_law_woven : Nat := 152
/-- law(script): slots 0 script 1 row 2 common 3 legs 4 some 5 trees 6 at 7 bare 8 odd 9 bad 10 wrong 11 words 12 one 13 other 14 many 15 shapes 16 first 17 second 18 told 19 due 20 lot 21 length 22 tree 23 leg 24 chain -/
def b_flaw_k07 : Sms := (.cons (.asg (.nm 1) (.lst (.cons (.var 0) (.cons (.cst (.int 0)) (.cons (.cst (.int 6007)) (.cons (.cst (.int 0)) .nil)))))) (.cons (.asg (.tp [(.nm 12), (.nm 13)]) (.call 86 [.io, .v] (.cons (.var 1) (.cons (.cst (.int 6)) .nil)))) (.cons (.asg (.tp [(.nm 14), (.nm 15)]) (.tup (.cons (.idx (.var 12) (.cst (.int 0))) (.cons (.frz (.comp (.blt .tuple (.cons (.comp (.var 20) (.cons (.tp [(.nm 20), (.nm 21)]) (.it (.idx (.var 22) (.cst (.int 1)))) .nil .nil) [20, 21]) .nil)) (.cons (.nm 22) (.it (.lst (.cons (.var 12) (.cons (.var 13) .nil)))) .nil .nil) [22])) .nil)))) (.cons (.asg (.nm 2) (.call 87 [.v, .v] (.cons (.var 12) (.cons (.var 13) .nil)))) (.cons (.par [16, 17] (.cons (.call 88 [.v, .v] (.cons (.var 12) (.cons (.var 2) .nil))) (.cons (.call 88 [.v, .v] (.cons (.var 13) (.cons (.var 2) .nil))) .nil))) (.cons (.par [18, 19] (.cons (.call 149 [.v, .v, .v] (.cons (.var 14) (.cons (.idx (.var 15) (.cst (.int 0))) (.cons (.idx (.var 15) (.cst (.int 1))) .nil)))) (.cons (.lst .nil) .nil))) (.cons (.fors (.nm 3) (.it (.call 91 [.v, .v] (.cons (.var 16) (.cons (.var 17) .nil)))) (.cons (.ifs (.cmp .eq (.comp (.var 23) (.cons (.nm 23) (.it (.var 3)) (.cons (.nt (.call 152 [.v] (.cons (.var 23) .nil))) .nil) .nil) [23]) (.lst .nil)) (.cons (.exp (.mut .append (.var 19) (.cons (.call 97 [.v] (.cons (.var 3) .nil)) .nil))) .nil) .nil) .nil)) (.cons (.ifs (.nt (.call 22 [.v, .v] (.cons (.var 18) (.cons (.blt .sorted (.cons (.var 19) .nil)) .nil)))) (.cons (.ret (.cst (.bool false))) .nil) .nil) (.cons (.asg (.nm 3) (.idx (.call 95 [.v, .v] (.cons (.var 12) (.cons (.var 13) .nil))) (.cst (.int 0)))) (.cons (.ifs (.cmp .ne (.cmp .isin (.call 97 [.v] (.cons (.var 3) .nil)) (.var 18)) (.cmp .eq (.comp (.var 23) (.cons (.nm 23) (.it (.var 3)) (.cons (.nt (.call 152 [.v] (.cons (.var 23) .nil))) .nil) .nil) [23]) (.lst .nil))) (.cons (.ret (.cst (.bool false))) .nil) .nil) (.cons (.asg (.nm 4) (.call 21 [.io, .v] (.cons (.var 1) (.cons (.var 18) .nil)))) (.cons (.asg (.nm 5) (.call 150 [.v, .v, .v, .v] (.cons (.var 14) (.cons (.idx (.var 15) (.cst (.int 0))) (.cons (.idx (.var 15) (.cst (.int 1))) (.cons (.var 4) .nil)))))) (.cons (.ifs (.bo false (.cons (.nt (.blt .isTuple (.cons (.var 5) .nil))) (.cons (.cmp .ne (.blt .len (.cons (.var 5) .nil)) (.cst (.int 2))) .nil))) (.cons (.ret (.cst (.bool false))) .nil) .nil) (.cons (.ifs (.cmp .ne (.comp (.var 22) (.cons (.nm 22) (.it (.var 5)) (.cons (.bo false (.cons (.cmp .ne (.blt .len (.cons (.var 22) .nil)) (.cst (.int 2))) (.cons (.cmp .ne (.idx (.var 22) (.cst (.int 0))) (.var 14)) .nil))) .nil) .nil) [22]) (.lst .nil)) (.cons (.ret (.cst (.bool false))) .nil) .nil) (.cons (.fors (.nm 6) (.rng (.cons (.cst (.int 2)) .nil)) (.cons (.ifs (.cmp .ne (.blt .tuple (.cons (.comp (.var 20) (.cons (.tp [(.nm 20), (.nm 21)]) (.it (.idx (.idx (.var 5) (.var 6)) (.cst (.int 1)))) .nil .nil) [20, 21]) .nil)) (.idx (.var 15) (.var 6))) (.cons (.ret (.cst (.bool false))) .nil) .nil) (.cons (.fors (.tp [(.nm 20), (.nm 21)]) (.it (.idx (.idx (.var 5) (.var 6)) (.cst (.int 1)))) (.cons (.ifs (.bo false (.cons (.cmp .ne (.call 23 [.v, .v] (.cons (.idx (.var 21) (.cst (.int 0))) (.cons (.idx (.var 21) (.cst (.int 1))) .nil))) (.var 21)) (.cons (.cmp .notin (.idx (.var 21) (.cst (.int 1))) (.lst (.cons (.cst (.int 1)) (.cons (.cst (.int 2)) .nil)))) .nil))) (.cons (.ret (.cst (.bool false))) .nil) .nil) (.cons (.ifs (.nt (.chain .lt .le (.cst (.int 0)) (.idx (.var 21) (.cst (.int 0))) (.bin .mul (.cst (.int 500)) (.idx (.var 21) (.cst (.int 1)))))) (.cons (.ret (.cst (.bool false))) .nil) .nil) .nil))) .nil))) (.cons (.ifs (.cmp .ne (.call 97 [.v] (.cons (.idx (.call 95 [.v, .v] (.cons (.idx (.var 5) (.cst (.int 0))) (.cons (.idx (.var 5) (.cst (.int 1))) .nil))) (.cst (.int 0))) .nil)) (.var 4)) (.cons (.ret (.cst (.bool false))) .nil) .nil) (.cons (.asg (.nm 7) (.bo false (.cons (.cmp .isin (.tup .nil) (.var 15)) (.cons (.bo true (.cons (.cmp .eq (.var 2) (.tup .nil)) (.cons (.cmp .eq (.comp (.var 24) (.cons (.nm 24) (.it (.var 18)) (.cons (.cmp .gt (.blt .len (.cons (.var 24) .nil)) (.cst (.int 1))) .nil) .nil) [24]) (.lst .nil)) .nil))) .nil)))) (.cons (.ifs (.nt (.call 54 [.v, .v] (.cons (.call 151 [.v, .v, .v] (.cons (.var 14) (.cons (.idx (.var 15) (.cst (.int 0))) (.cons (.idx (.var 15) (.cst (.int 1))) .nil)))) (.cons (.var 7) .nil)))) (.cons (.ret (.cst (.bool false))) .nil) .nil) (.cons (.asg (.nm 8) (.call 21 [.io, .v] (.cons (.var 1) (.cons (.lst (.cons (.cst .none) (.cons (.frz (.blt .list (.cons (.var 4) .nil))) (.cons (.bin .add (.var 4) (.tup (.cons (.tup (.cons (.tup .nil) (.cons (.tup .nil) .nil))) .nil))) (.cons (.cst (.int 3)) (.cons (.tup (.cons (.var 4) .nil)) (.cons (.cst (.str ("chain" : Str))) .nil))))))) .nil)))) (.cons (.asg (.nm 9) (.call 21 [.io, .v] (.cons (.var 1) (.cons (.lst (.cons (.cst .none) (.cons (.tup (.cons (.tup (.cons (.cst (.int 1)) (.cons (.cst (.int 2)) .nil))) (.cons (.tup (.cons (.cst (.int 1)) (.cons (.cst (.int 2)) .nil))) .nil))) (.cons (.tup (.cons (.tup (.cons (.cst (.int 2)) (.cons (.cst (.int 3)) .nil))) (.cons (.tup (.cons (.cst (.int 1)) (.cons (.cst (.int 3)) .nil))) .nil))) (.cons (.frz (.lst .nil)) (.cons (.tup (.cons (.tup (.cons (.cst (.int 1)) .nil)) .nil)) (.cons (.cst (.int 4)) .nil))))))) .nil)))) (.cons (.asg (.nm 10) (.call 21 [.io, .v] (.cons (.var 1) (.cons (.lst (.cons (.cst .none) (.cons (.cst (.int 2)) (.cons (.cst (.int 7)) .nil)))) .nil)))) (.cons (.asg (.nm 11) (.lst (.cons (.told 0 [(9, ("BadChain" : Str)), (5, ("BadShape" : Str)), (3, ("BadNumber" : Str))] 0 (.call 150 [.v, .v, .v, .v] (.cons (.var 14) (.cons (.idx (.var 15) (.cst (.int 0))) (.cons (.idx (.var 15) (.cst (.int 1))) (.cons (.var 8) .nil)))))) .nil))) (.cons (.exp (.mut .append (.var 11) (.cons (.told 0 [(9, ("BadChain" : Str)), (5, ("BadShape" : Str)), (3, ("BadNumber" : Str))] 0 (.call 149 [.v, .v, .v] (.cons (.var 14) (.cons (.var 9) (.cons (.tup .nil) .nil))))) .nil))) (.cons (.exp (.mut .append (.var 11) (.cons (.told 0 [(9, ("BadChain" : Str)), (5, ("BadShape" : Str)), (3, ("BadNumber" : Str))] 0 (.call 151 [.v, .v, .v] (.cons (.var 14) (.cons (.tup .nil) (.cons (.var 9) .nil))))) .nil))) (.cons (.exp (.mut .append (.var 11) (.cons (.told 0 [(9, ("BadChain" : Str)), (5, ("BadShape" : Str)), (3, ("BadNumber" : Str))] 0 (.call 151 [.v, .v, .v] (.cons (.var 10) (.cons (.tup .nil) (.cons (.var 9) .nil))))) .nil))) (.cons (.ret (.cmp .eq (.var 11) (.lst (.cons (.cst (.str ("BadChain" : Str))) (.cons (.cst (.str ("BadShape" : Str))) (.cons (.cst (.str ("BadShape" : Str))) (.cons (.cst (.str ("BadNumber" : Str))) .nil))))))) .nil))))))))))))))))))))))))))
def F_flaw_k07 : Fn := ⟨[false], 25, b_flaw_k07⟩
abbrev i_flaw_k07 : Nat := 153
/-- need_some(many, some): slots 0 many 1 some 2 tree -/
def b_fneed_some : Sms := (.cons (.ifs (.bo false (.cons (.nt (.blt .isTuple (.cons (.var 1) .nil))) (.cons (.nt (.chain .le .le (.cst (.int 1)) (.blt .len (.cons (.var 1) .nil)) (.glo (.int 6)))) .nil))) (.cons (.rse 7) .nil) .nil) (.cons (.ifs (.nt (.blt .all (.cons (.comp (.bo true (.cons (.call 44 [.v] (.cons (.var 2) .nil)) (.cons (.cmp .eq (.idx (.var 2) (.cst (.int 0))) (.var 0)) .nil))) (.cons (.nm 2) (.it (.var 1)) .nil .nil) [2]) .nil))) (.cons (.rse 7) .nil) .nil) .nil))
def F_fneed_some : Fn := ⟨[false, false], 3, b_fneed_some⟩
abbrev i_fneed_some : Nat := 154
/-- need_full(tree): slots 0 tree -/
def b_fneed_full : Sms := (.cons (.exp (.call 45 [.v] (.cons (.var 0) .nil))) (.cons (.ifs (.cmp .ne (.blt .len (.cons (.idx (.var 0) (.cst (.int 1))) .nil)) (.bin .sub (.idx (.var 0) (.cst (.int 0))) (.cst (.int 2)))) (.cons (.rse 6) .nil) .nil) .nil))
def F_fneed_full : Fn := ⟨[false], 1, b_fneed_full⟩
abbrev i_fneed_full : Nat := 155
-- fpulls_from: Dict(keys=[], values=[])
/-- pull_of(tree, some): slots 0 tree 1 some 2 rows 3 found 4 lot 5 whole 6 row 7 other -/
def b_fpull_of : Sms := (.cons (.asg (.nm 2) (.comp (.call 156 [.v, .v] (.cons (.var 0) (.cons (.var 7) .nil))) (.cons (.nm 7) (.it (.var 1)) .nil .nil) [7])) (.cons (.asg (.nm 3) (.lst .nil)) (.cons (.fors (.nm 4) (.it (.call 43 [.v] (.cons (.var 0) .nil))) (.cons (.asg (.nm 5) (.tup .nil)) (.cons (.fors (.nm 6) (.it (.var 2)) (.cons (.asg (.nm 5) (.call 11 [.v, .v] (.cons (.var 5) (.cons (.idx (.var 6) (.var 4)) .nil)))) .nil)) (.cons (.exp (.mut .append (.var 3) (.cons (.tup (.cons (.var 4) (.cons (.var 5) .nil))) .nil))) .nil)))) (.cons (.ret (.blt .tuple (.cons (.var 3) .nil))) .nil))))
def F_fpull_of : Fn := ⟨[false, false], 8, b_fpull_of⟩
abbrev i_fpull_of : Nat := 157
/-- pull(tree, some): slots 0 tree 1 some -/
def b_fpull : Sms := (.cons (.exp (.call 155 [.v] (.cons (.var 0) .nil))) (.cons (.exp (.call 154 [.v, .v] (.cons (.idx (.var 0) (.cst (.int 0))) (.cons (.var 1) .nil)))) (.cons (.ret (.call 157 [.v, .v] (.cons (.var 0) (.cons (.var 1) .nil)))) .nil)))
def F_fpull : Fn := ⟨[false, false], 2, b_fpull⟩
abbrev i_fpull : Nat := 158
/-- is_mean(tree, some): slots 0 tree 1 some 2 lot 3 whole -/
def b_fis_mean : Sms := (.cons (.exp (.call 155 [.v] (.cons (.var 0) .nil))) (.cons (.exp (.call 154 [.v, .v] (.cons (.idx (.var 0) (.cst (.int 0))) (.cons (.var 1) .nil)))) (.cons (.ret (.blt .all (.cons (.comp (.cmp .eq (.var 3) (.tup .nil)) (.cons (.tp [(.nm 2), (.nm 3)]) (.it (.call 157 [.v, .v] (.cons (.var 0) (.cons (.var 1) .nil)))) .nil .nil) [2, 3]) .nil))) .nil)))
def F_fis_mean : Fn := ⟨[false, false], 4, b_fis_mean⟩
abbrev i_fis_mean : Nat := 159
/-- square_sum(tree, some): slots 0 tree 1 some 2 found 3 other -/
def b_fsquare_sum : Sms := (.cons (.exp (.call 45 [.v] (.cons (.var 0) .nil))) (.cons (.exp (.call 154 [.v, .v] (.cons (.idx (.var 0) (.cst (.int 0))) (.cons (.var 1) .nil)))) (.cons (.asg (.nm 2) (.tup .nil)) (.cons (.fors (.nm 3) (.it (.var 1)) (.cons (.asg (.nm 2) (.call 11 [.v, .v] (.cons (.var 2) (.cons (.call 79 [.v, .v] (.cons (.var 0) (.cons (.var 3) .nil))) .nil)))) .nil)) (.cons (.ret (.var 2)) .nil)))))
def F_fsquare_sum : Fn := ⟨[false, false], 4, b_fsquare_sum⟩
abbrev i_fsquare_sum : Nat := 160
-- f_law_pulls: Dict(keys=[], values=[])
/-- _law_square_sum(tree, some): slots 0 tree 1 some 2 found 3 other -/
def b_f_law_square_sum : Sms := (.cons (.asg (.nm 2) (.tup .nil)) (.cons (.fors (.nm 3) (.it (.var 1)) (.cons (.asg (.nm 2) (.call 30 [.v, .v, .v] (.cons (.var 2) (.cons (.call 138 [.v, .v] (.cons (.var 0) (.cons (.var 3) .nil))) (.cons (.tup (.cons (.cst (.int 1)) (.cons (.cst (.int 1)) .nil))) .nil))))) .nil)) (.cons (.ret (.var 2)) .nil)))
def F_f_law_square_sum : Fn := ⟨[false, false], 4, b_f_law_square_sum⟩
abbrev i_f_law_square_sum : Nat := 162
/-- _law_full(row, many): slots 0 row 1 many 2 lot -/
def b_f_law_full : Sms := (.cons (.ret (.tup (.cons (.var 1) (.cons (.blt .tuple (.cons (.comp (.tup (.cons (.var 2) (.cons (.call 58 [.io] (.cons (.var 0) .nil)) .nil))) (.cons (.nm 2) (.it (.call 59 [.io, .v, .v, .v] (.cons (.var 0) (.cons (.var 1) (.cons (.tup .nil) (.cons (.bin .sub (.var 1) (.cst (.int 2))) .nil)))))) .nil .nil) [2]) .nil)) .nil)))) .nil)
def F_f_law_full : Fn := ⟨[true, false], 3, b_f_law_full⟩
abbrev i_f_law_full : Nat := 163
-- flaw_k08: call dict
/-- spider(some): slots 0 some 1 whole 2 lot 3 own 4 rest 5 tree 6 length 7 more -/
def b_fspider : Sms := (.cons (.exp (.call 154 [.v, .v] (.cons (.glo (.int 3)) (.cons (.var 0) .nil)))) (.cons (.asg (.nm 1) (.call 66 [.v] (.cons (.comp (.var 6) (.cons (.nm 5) (.it (.var 0)) .nil (.cons (.tp [(.nm 2), (.nm 6)]) (.it (.idx (.var 5) (.cst (.int 1)))) .nil .nil)) [5, 2, 6]) .nil))) (.cons (.fors (.nm 2) (.it (.tup (.cons (.tup (.cons (.cst (.int 1)) (.cons (.cst (.int 2)) .nil))) (.cons (.tup (.cons (.cst (.int 1)) (.cons (.cst (.int 3)) .nil))) (.cons (.tup (.cons (.cst (.int 2)) (.cons (.cst (.int 3)) .nil))) .nil))))) (.cons (.asg (.nm 3) (.call 66 [.v] (.cons (.comp (.var 6) (.cons (.nm 5) (.it (.var 0)) .nil (.cons (.tp [(.nm 7), (.nm 6)]) (.it (.idx (.var 5) (.cst (.int 1)))) (.cons (.cmp .eq (.var 7) (.var 2)) .nil) .nil)) [5, 7, 6]) .nil))) (.cons (.asg (.nm 4) (.call 4 [.v, .v] (.cons (.var 1) (.cons (.call 64 [.v] (.cons (.var 3) .nil)) .nil)))) (.cons (.ifs (.call 65 [.v, .v] (.cons (.var 4) (.cons (.var 3) .nil))) (.cons (.ret (.tup (.cons (.tup (.cons (.var 2) (.cons (.call 63 [.v, .v] (.cons (.call 4 [.v, .v] (.cons (.var 3) (.cons (.call 64 [.v] (.cons (.var 4) .nil)) .nil))) (.cons (.call 2 [.v, .v] (.cons (.blt .len (.cons (.var 0) .nil)) (.cons (.cst (.int 1)) .nil))) .nil))) .nil))) .nil))) .nil) .nil) .nil)))) (.cons (.ret (.tup .nil)) .nil))))
def F_fspider : Fn := ⟨[false], 8, b_fspider⟩
abbrev i_fspider : Nat := 165
/-- _law_at(some, lot, length): slots 0 some 1 lot 2 length 3 found 4 many 5 roads 6 part 7 more 8 own -/
def b_f_law_at : Sms := (.cons (.asg (.nm 3) (.tup (.cons (.cst (.int 0)) (.cons (.cst (.int 1)) .nil)))) (.cons (.fors (.tp [(.nm 4), (.nm 5)]) (.it (.var 0)) (.cons (.asg (.nm 6) (.var 2)) (.cons (.fors (.tp [(.nm 7), (.nm 8)]) (.it (.var 5)) (.cons (.asg (.nm 6) (.call 24 [.v, .v] (.cons (.var 2) (.cons (.ite (.cmp .ne (.var 7) (.var 1)) (.var 8) (.tup (.cons (.bin .sub (.cst (.int 0)) (.idx (.var 8) (.cst (.int 0)))) (.cons (.idx (.var 8) (.cst (.int 1))) .nil)))) .nil)))) .nil)) (.cons (.asg (.nm 3) (.call 24 [.v, .v] (.cons (.var 3) (.cons (.call 25 [.v, .v] (.cons (.var 6) (.cons (.var 6) .nil))) .nil)))) .nil)))) (.cons (.ret (.var 3)) .nil)))
def F_f_law_at : Fn := ⟨[false, false, false], 9, b_f_law_at⟩
abbrev i_f_law_at : Nat := 166
/-- law(script): slots 0 script 1 row 2 some 3 told 4 best 5 lot 6 odd 7 rows 8 whole 9 top 10 turn 11 tips 12 roads 13 length 14 many 15 more 16 own 17 part -/
def b_flaw_k09 : Sms := (.cons (.asg (.nm 1) (.lst (.cons (.var 0) (.cons (.cst (.int 0)) (.cons (.cst (.int 6009)) (.cons (.cst (.int 0)) .nil)))))) (.cons (.asg (.nm 2) (.blt .tuple (.cons (.comp (.call 60 [.io, .v, .v] (.cons (.var 1) (.cons (.cst (.int 3)) (.cons (.tup .nil) .nil)))) (.cons (.nm 10) (.rng (.cons (.bin .add (.cst (.int 1)) (.call 20 [.io, .v] (.cons (.var 1) (.cons (.cst (.int 6)) .nil)))) .nil)) .nil .nil) [10]) .nil))) (.cons (.ifs (.cmp .eq (.call 20 [.io, .v] (.cons (.var 1) (.cons (.cst (.int 3)) .nil))) (.cst (.int 0))) (.cons (.asg (.nm 7) (.lst .nil)) (.cons (.fors (.tp [(.nm 11), (.nm 12)]) (.it (.var 2)) (.cons (.exp (.mut .append (.var 7) (.cons (.tup (.cons (.cst (.int 3)) (.cons (.blt .tuple (.cons (.comp (.tup (.cons (.var 5) (.cons (.tup (.cons (.bin .add (.cst (.int 1)) (.call 20 [.io, .v] (.cons (.var 1) (.cons (.cst (.int 3)) .nil)))) (.cons (.cst (.int 1)) .nil))) .nil))) (.cons (.tp [(.nm 5), (.nm 17)]) (.it (.var 12)) .nil .nil) [5, 17]) .nil)) .nil))) .nil))) .nil)) (.cons (.asg (.nm 2) (.blt .tuple (.cons (.var 7) .nil))) .nil))) .nil) (.cons (.asg (.nm 3) (.call 165 [.v] (.cons (.var 2) .nil))) (.cons (.ifs (.bo false (.cons (.nt (.blt .isTuple (.cons (.var 3) .nil))) (.cons (.cmp .gt (.blt .len (.cons (.var 3) .nil)) (.cst (.int 1))) .nil))) (.cons (.ret (.cst (.bool false))) .nil) .nil) (.cons (.asg (.nm 4) (.call 166 [.v, .v, .v] (.cons (.var 2) (.cons (.tup (.cons (.cst (.int 1)) (.cons (.cst (.int 2)) .nil))) (.cons (.tup (.cons (.cst (.int 0)) (.cons (.cst (.int 1)) .nil))) .nil))))) (.cons (.ifs (.cmp .ne (.var 3) (.tup .nil)) (.cons (.asg (.tp [(.nm 5), (.nm 13)]) (.idx (.var 3) (.cst (.int 0)))) (.cons (.ifs (.bo false (.cons (.cmp .notin (.var 5) (.lst (.cons (.tup (.cons (.cst (.int 1)) (.cons (.cst (.int 2)) .nil))) (.cons (.tup (.cons (.cst (.int 1)) (.cons (.cst (.int 3)) .nil))) (.cons (.tup (.cons (.cst (.int 2)) (.cons (.cst (.int 3)) .nil))) .nil))))) (.cons (.cmp .ne (.call 23 [.v, .v] (.cons (.idx (.var 13) (.cst (.int 0))) (.cons (.idx (.var 13) (.cst (.int 1))) .nil))) (.var 13)) (.cons (.cmp .lt (.idx (.var 13) (.cst (.int 0))) (.cst (.int 1))) .nil)))) (.cons (.ret (.cst (.bool false))) .nil) .nil) (.cons (.ifs (.nt (.call 85 [.v, .v] (.cons (.call 166 [.v, .v, .v] (.cons (.var 2) (.cons (.var 5) (.cons (.var 13) .nil)))) (.cons (.var 4) .nil)))) (.cons (.ret (.cst (.bool false))) .nil) .nil) (.cons (.asg (.nm 4) (.call 166 [.v, .v, .v] (.cons (.var 2) (.cons (.var 5) (.cons (.var 13) .nil))))) .nil)))) .nil) (.cons (.fors (.nm 5) (.it (.lst (.cons (.tup (.cons (.cst (.int 1)) (.cons (.cst (.int 2)) .nil))) (.cons (.tup (.cons (.cst (.int 1)) (.cons (.cst (.int 3)) .nil))) (.cons (.tup (.cons (.cst (.int 2)) (.cons (.cst (.int 3)) .nil))) .nil))))) (.cons (.asg (.nm 8) (.tup (.cons (.cst (.int 0)) (.cons (.cst (.int 1)) .nil)))) (.cons (.fors (.tp [(.nm 14), (.nm 12)]) (.it (.var 2)) (.cons (.fors (.tp [(.nm 15), (.nm 16)]) (.it (.var 12)) (.cons (.asg (.nm 8) (.call 24 [.v, .v] (.cons (.var 8) (.cons (.ite (.cmp .eq (.var 15) (.var 5)) (.var 16) (.tup (.cons (.bin .sub (.cst (.int 0)) (.idx (.var 16) (.cst (.int 0)))) (.cons (.idx (.var 16) (.cst (.int 1))) .nil)))) .nil)))) .nil)) .nil)) (.cons (.asg (.nm 9) (.call 25 [.v, .v] (.cons (.var 8) (.cons (.tup (.cons (.cst (.int 1)) (.cons (.blt .len (.cons (.var 2) .nil)) .nil))) .nil)))) (.cons (.ifs (.bo true (.cons (.cmp .gt (.idx (.var 9) (.cst (.int 0))) (.cst (.int 0))) (.cons (.cmp .ne (.var 3) (.tup (.cons (.tup (.cons (.var 5) (.cons (.var 9) .nil))) .nil))) .nil))) (.cons (.ret (.cst (.bool false))) .nil) .nil) (.cons (.fors (.nm 10) (.rng (.cons (.cst (.int 3)) .nil)) (.cons (.asg (.nm 13) (.call 23 [.v, .v] (.cons (.call 20 [.io, .v] (.cons (.var 1) (.cons (.cst (.int 400)) .nil))) (.cons (.bin .add (.cst (.int 1)) (.call 20 [.io, .v] (.cons (.var 1) (.cons (.cst (.int 20)) .nil)))) .nil)))) (.cons (.ifs (.call 85 [.v, .v] (.cons (.call 166 [.v, .v, .v] (.cons (.var 2) (.cons (.var 5) (.cons (.var 13) .nil)))) (.cons (.var 4) .nil))) (.cons (.ret (.cst (.bool false))) .nil) .nil) .nil))) .nil)))))) (.cons (.asg (.nm 6) (.call 21 [.io, .v] (.cons (.var 1) (.cons (.lst (.cons (.cst .none) (.cons (.tup .nil) (.cons (.frz (.blt .list (.cons (.var 2) .nil))) (.cons (.tup (.cons (.tup (.cons (.cst (.int 4)) (.cons (.tup .nil) .nil))) .nil)) (.cons (.bin .mul (.var 2) (.cst (.int 7))) (.cons (.bin .add (.var 2) (.tup (.cons (.tup (.cons (.cst (.int 3)) (.cons (.cst .none) .nil))) .nil))) .nil))))))) .nil)))) (.cons (.ret (.cmp .eq (.told 0 [(7, ("BadTrees" : Str))] 0 (.call 165 [.v] (.cons (.var 6) .nil))) (.cst (.str ("BadTrees" : Str))))) .nil))))))))))
def F_flaw_k09 : Fn := ⟨[false], 18, b_flaw_k09⟩
abbrev i_flaw_k09 : Nat := 167
/-- _law_doubled(tree): slots 0 tree 1 lot 2 length -/
def b_f_law_doubled : Sms := (.cons (.ret (.tup (.cons (.idx (.var 0) (.cst (.int 0))) (.cons (.blt .tuple (.cons (.comp (.tup (.cons (.var 1) (.cons (.call 25 [.v, .v] (.cons (.var 2) (.cons (.tup (.cons (.cst (.int 2)) (.cons (.cst (.int 1)) .nil))) .nil))) .nil))) (.cons (.tp [(.nm 1), (.nm 2)]) (.it (.idx (.var 0) (.cst (.int 1)))) .nil .nil) [1, 2]) .nil)) .nil)))) .nil)
def F_f_law_doubled : Fn := ⟨[false], 3, b_f_law_doubled⟩
abbrev i_f_law_doubled : Nat := 168
-- flaw_k10: step
-- flaw_k11: call dict
/-- road_text(lot, length): slots 0 lot 1 length 2 own 3 tip -/
def b_froad_text : Sms := (.cons (.asg (.nm 2) (.ite (.cmp .eq (.idx (.var 1) (.cst (.int 1))) (.cst (.int 1))) (.blt .str (.cons (.idx (.var 1) (.cst (.int 0))) .nil)) (.bin .add (.bin .add (.blt .str (.cons (.idx (.var 1) (.cst (.int 0))) .nil)) (.cst (.str ("/" : Str)))) (.blt .str (.cons (.idx (.var 1) (.cst (.int 1))) .nil))))) (.cons (.ret (.bin .add (.bin .add (.meth .join (.cst (.str (" " : Str))) (.cons (.comp (.blt .str (.cons (.var 3) .nil)) (.cons (.nm 3) (.it (.var 0)) .nil .nil) [3]) .nil)) (.cst (.str (" = " : Str)))) (.var 2))) .nil))
def F_froad_text : Fn := ⟨[false, false], 4, b_froad_text⟩
abbrev i_froad_text : Nat := 171
/-- write(tree): slots 0 tree 1 lot 2 length -/
def b_fwrite : Sms := (.cons (.exp (.call 45 [.v] (.cons (.var 0) .nil))) (.cons (.ret (.bin .add (.bin .add (.blt .str (.cons (.idx (.var 0) (.cst (.int 0))) .nil)) (.cst (.str (":" : Str)))) (.meth .join (.cst (.str ("" : Str))) (.cons (.comp (.bin .add (.bin .add (.cst (.str (" " : Str))) (.call 171 [.v, .v] (.cons (.var 1) (.cons (.var 2) .nil)))) (.cst (.str (";" : Str)))) (.cons (.tp [(.nm 1), (.nm 2)]) (.it (.idx (.var 0) (.cst (.int 1)))) .nil .nil) [1, 2]) .nil)))) .nil))
def F_fwrite : Fn := ⟨[false], 3, b_fwrite⟩
abbrev i_fwrite : Nat := 172
/-- number_of(word): slots 0 word 1 sign -/
def b_fnumber_of : Sms := (.cons (.ifs (.bo false (.cons (.cmp .eq (.var 0) (.cst (.str ("" : Str)))) (.cons (.cmp .gt (.blt .len (.cons (.var 0) .nil)) (.cst (.int 4))) (.cons (.nt (.blt .all (.cons (.comp (.cmp .isin (.var 1) (.cst (.str ("0123456789" : Str)))) (.cons (.nm 1) (.it (.var 0)) .nil .nil) [1]) .nil))) .nil)))) (.cons (.ret (.cst .none)) .nil) .nil) (.cons (.ret (.blt .int (.cons (.var 0) .nil))) .nil))
def F_fnumber_of : Fn := ⟨[false], 2, b_fnumber_of⟩
abbrev i_fnumber_of : Nat := 173
/-- length_of(text): slots 0 text 1 words -/
def b_flength_of : Sms := (.cons (.asg (.nm 1) (.meth .split (.var 0) (.cons (.cst (.str ("/" : Str))) .nil))) (.cons (.ifs (.bo false (.cons (.cmp .gt (.blt .len (.cons (.var 1) .nil)) (.cst (.int 2))) (.cons (.bo true (.cons (.cmp .eq (.blt .len (.cons (.var 1) .nil)) (.cst (.int 2))) (.cons (.cmp .ne (.idx (.var 1) (.cst (.int 1))) (.cst (.str ("2" : Str)))) .nil))) .nil))) (.cons (.ret (.cst .none)) .nil) .nil) (.cons (.ret (.tup (.cons (.call 173 [.v] (.cons (.idx (.var 1) (.cst (.int 0))) .nil)) (.cons (.blt .len (.cons (.var 1) .nil)) .nil)))) .nil)))
def F_flength_of : Fn := ⟨[false], 2, b_flength_of⟩
abbrev i_flength_of : Nat := 174
/-- read(text): slots 0 text 1 roads 2 part 3 tree 4 head 5 mark 6 rest 7 lot 8 sign 9 length 10 word -/
def b_fread : Sms := (.cons (.ifs (.bo false (.cons (.nt (.blt .isStr (.cons (.var 0) .nil))) (.cons (.cmp .gt (.blt .len (.cons (.var 0) .nil)) (.glo (.int 400))) .nil))) (.cons (.rse 10) .nil) .nil) (.cons (.asg (.tp [(.nm 4), (.nm 5), (.nm 6)]) (.meth .partition (.var 0) (.cons (.cst (.str (":" : Str))) .nil))) (.cons (.asg (.nm 1) (.lst .nil)) (.cons (.fors (.nm 2) (.it (.slc (.meth .split (.var 6) (.cons (.cst (.str (";" : Str))) .nil)) .nil (.cons (.neg (.cst (.int 1))) .nil))) (.cons (.asg (.tp [(.nm 7), (.nm 8), (.nm 9)]) (.meth .partition (.var 2) (.cons (.cst (.str (" = " : Str))) .nil))) (.cons (.exp (.mut .append (.var 1) (.cons (.tup (.cons (.blt .tuple (.cons (.comp (.call 173 [.v] (.cons (.var 10) .nil)) (.cons (.nm 10) (.it (.meth .split (.slc (.var 7) (.cons (.cst (.int 1)) .nil) .nil) (.cons (.cst (.str (" " : Str))) .nil))) .nil .nil) [10]) .nil)) (.cons (.call 174 [.v] (.cons (.var 9) .nil)) .nil))) .nil))) .nil))) (.cons (.asg (.nm 3) (.tup (.cons (.call 173 [.v] (.cons (.var 4) .nil)) (.cons (.blt .tuple (.cons (.var 1) .nil)) .nil)))) (.cons (.ifs (.bo false (.cons (.nt (.call 0 [.v] (.cons (.idx (.var 3) (.cst (.int 0))) .nil))) (.cons (.nt (.blt .all (.cons (.comp (.bo true (.cons (.cmp .notin (.cst .none) (.var 7)) (.cons (.isN false (.var 9)) .nil))) (.cons (.tp [(.nm 7), (.nm 9)]) (.it (.var 1)) .nil .nil) [7, 9]) .nil))) .nil))) (.cons (.rse 10) .nil) .nil) (.cons (.ifs (.bo false (.cons (.nt (.call 44 [.v] (.cons (.var 3) .nil))) (.cons (.cmp .ne (.call 172 [.v] (.cons (.var 3) .nil)) (.var 0)) .nil))) (.cons (.rse 10) .nil) .nil) (.cons (.ret (.var 3)) .nil))))))))
def F_fread : Fn := ⟨[false], 11, b_fread⟩
abbrev i_fread : Nat := 175
/-- law(script): slots 0 script 1 row 2 tree 3 due 4 bent 5 e 6 odd_odds 7 odd 8 lot 9 length 10 at 11 sign 12 told 13 found 14 tip -/
def b_flaw_k12 : Sms := (.cons (.asg (.nm 1) (.lst (.cons (.var 0) (.cons (.cst (.int 0)) (.cons (.cst (.int 6012)) (.cons (.cst (.int 0)) .nil)))))) (.cons (.asg (.nm 2) (.call 60 [.io, .v, .v] (.cons (.var 1) (.cons (.bin .add (.cst (.int 3)) (.call 20 [.io, .v] (.cons (.var 1) (.cons (.cst (.int 4)) .nil)))) (.cons (.tup .nil) .nil))))) (.cons (.asg (.nm 3) (.bin .add (.blt .str (.cons (.idx (.var 2) (.cst (.int 0))) .nil)) (.cst (.str (":" : Str))))) (.cons (.fors (.tp [(.nm 8), (.nm 9)]) (.it (.idx (.var 2) (.cst (.int 1)))) (.cons (.asg (.nm 3) (.bin .add (.bin .add (.bin .add (.bin .add (.var 3) (.cst (.str (" " : Str)))) (.meth .join (.cst (.str (" " : Str))) (.cons (.comp (.blt .str (.cons (.var 14) .nil)) (.cons (.nm 14) (.it (.var 8)) .nil .nil) [14]) .nil))) (.cst (.str (" = " : Str)))) (.blt .str (.cons (.idx (.var 9) (.cst (.int 0))) .nil)))) (.cons (.asg (.nm 3) (.bin .add (.var 3) (.ite (.cmp .eq (.idx (.var 9) (.cst (.int 1))) (.cst (.int 2))) (.cst (.str ("/2;" : Str))) (.cst (.str (";" : Str)))))) .nil))) (.cons (.ifs (.bo false (.cons (.nt (.call 22 [.v, .v] (.cons (.call 172 [.v] (.cons (.var 2) .nil)) (.cons (.var 3) .nil)))) (.cons (.nt (.call 22 [.v, .v] (.cons (.call 175 [.v] (.cons (.var 3) .nil)) (.cons (.var 2) .nil)))) .nil))) (.cons (.ret (.cst (.bool false))) .nil) .nil) (.cons (.par [10, 11] (.cons (.call 20 [.io, .v] (.cons (.var 1) (.cons (.blt .len (.cons (.var 3) .nil)) .nil))) (.cons (.call 21 [.io, .v] (.cons (.var 1) (.cons (.lst (.cons (.cst (.str ("" : Str))) (.cons (.cst (.str (" " : Str))) (.cons (.cst (.str (";" : Str))) (.cons (.cst (.str ("0" : Str))) (.cons (.cst (.str ("1" : Str))) (.cons (.cst (.str ("7" : Str))) (.cons (.cst (.str ("/" : Str))) (.cons (.cst (.str ("=" : Str))) (.cons (.cst (.str (":" : Str))) (.cons (.cst (.str ("a" : Str))) (.cons (.cst (.str ("/2" : Str))) .nil)))))))))))) .nil))) .nil))) (.cons (.asg (.nm 4) (.bin .add (.bin .add (.slc (.var 3) .nil (.cons (.var 10) .nil)) (.var 11)) (.slc (.var 3) (.cons (.bin .add (.var 10) (.call 20 [.io, .v] (.cons (.var 1) (.cons (.cst (.int 2)) .nil)))) .nil) .nil))) (.cons (.asg (.tp [(.nm 12), (.nm 13)]) (.tup (.cons (.cst (.str ("" : Str))) (.cons (.cst .none) .nil)))) (.cons (.tryS (.cons (.asg (.nm 13) (.call 175 [.v] (.cons (.var 4) .nil))) .nil) 5 10 12 (.str ("BadText" : Str))) (.cons (.ifs (.bo false (.cons (.bo true (.cons (.cmp .eq (.var 12) (.cst (.str ("" : Str)))) (.cons (.cmp .ne (.call 172 [.v] (.cons (.var 13) .nil)) (.var 4)) .nil))) (.cons (.cmp .notin (.var 12) (.lst (.cons (.cst (.str ("" : Str))) (.cons (.cst (.str ("BadText" : Str))) .nil)))) .nil))) (.cons (.ret (.cst (.bool false))) .nil) .nil) (.cons (.ifs (.bo true (.cons (.cmp .eq (.var 12) (.cst (.str ("BadText" : Str)))) (.cons (.cmp .eq (.var 4) (.var 3)) .nil))) (.cons (.ret (.cst (.bool false))) .nil) .nil) (.cons (.asg (.nm 6) (.lst (.cons (.cst .none) (.cons (.cst (.int 3)) (.cons (.cst (.str ("" : Str))) (.cons (.cst (.str (":" : Str))) (.cons (.bin .add (.var 3) (.cst (.str (" " : Str)))) (.cons (.bin .add (.var 3) (.cst (.str ("\n" : Str)))) (.cons (.cst (.str ("3" : Str))) .nil))))))))) (.cons (.asg (.nm 7) (.call 21 [.io, .v] (.cons (.var 1) (.cons (.bin .add (.var 6) (.lst (.cons (.cst (.str ("7:" : Str))) (.cons (.cst (.str ("2:" : Str))) (.cons (.frz (.lst (.cons (.var 3) .nil))) (.cons (.bin .mul (.var 3) (.cst (.int 40))) (.cons (.cst (.str ("3: 1 2 = 4/4;" : Str))) (.cons (.cst (.str ("4: 1 2 = 02;" : Str))) .nil)))))))) .nil)))) (.cons (.asg (.nm 6) (.lst (.cons (.var 7) (.cons (.cst (.str ("4: 2 1 = 3;" : Str))) (.cons (.cst (.str ("4: 1 2 = 3; 1 3 = 1;" : Str))) .nil))))) (.cons (.asg (.nm 7) (.call 21 [.io, .v] (.cons (.var 1) (.cons (.bin .add (.var 6) (.lst (.cons (.cst (.str ("4: 1 3 = 1; 1 2 3 = 1;;" : Str))) (.cons (.cst (.str ("3: 1 2 = 501;" : Str))) (.cons (.cst (.str ("3: 1 2=1;" : Str))) .nil))))) .nil)))) (.cons (.ifs (.cmp .ne (.told 0 [(10, ("BadText" : Str)), (6, ("BadTree" : Str))] 0 (.call 175 [.v] (.cons (.var 7) .nil))) (.cst (.str ("BadText" : Str)))) (.cons (.ret (.cst (.bool false))) .nil) .nil) (.cons (.ret (.cmp .eq (.told 0 [(10, ("BadText" : Str)), (6, ("BadTree" : Str))] 0 (.call 172 [.v] (.cons (.call 21 [.io, .v] (.cons (.var 1) (.cons (.lst (.cons (.cst .none) (.cons (.tup (.cons (.cst (.int 3)) .nil)) (.cons (.tup (.cons (.cst (.int 2)) (.cons (.tup .nil) .nil))) (.cons (.idx (.var 2) (.cst (.int 1))) (.cons (.tup (.cons (.cst (.int 4)) (.cons (.cst .none) .nil))) (.cons (.frz (.lst (.cons (.cst (.int 3)) (.cons (.tup .nil) .nil)))) .nil))))))) .nil))) .nil))) (.cst (.str ("BadTree" : Str))))) .nil)))))))))))))))))
def F_flaw_k12 : Fn := ⟨[false], 15, b_flaw_k12⟩
abbrev i_flaw_k12 : Nat := 176
def G : Nat → Option Fn
  | 0 => some F_fis_integer
  | 1 => some F_fis_among
  | 2 => some F_flowest
  | 3 => some F_fis_fraction
  | 4 => some F_fadded
  | 5 => some F_fmultiplied
  | 8 => some F_fneed_sum
  | 9 => some F_froot_of
  | 11 => some F_fsum_of
  | 12 => some F_fproduct_of
  | 16 => some F_fplus
  | 17 => some F_ftimes
  | 18 => some F_fsign
  | 20 => some F_f_law_taken
  | 21 => some F_f_law_pick
  | 22 => some F_f_law_alike
  | 23 => some F_f_law_fr
  | 24 => some F_f_law_plus
  | 25 => some F_f_law_times
  | 26 => some F_f_law_floor_root
  | 27 => some F_f_law_side
  | 28 => some F_f_law_root
  | 29 => some F_f_law_of
  | 31 => some F_f_law_multiply
  | 32 => some F_f_law_span
  | 33 => some F_f_law_sign
  | 34 => some F_f_law_drawn
  | 35 => some F_flaw_k00
  | 36 => some F_fneed_many
  | 37 => some F_fis_lot
  | 38 => some F_fdo_fit
  | 39 => some F_ffits_all
  | 40 => some F_fis_shape
  | 41 => some F_fneed_shape
  | 42 => some F_fis_length
  | 43 => some F_flots_of
  | 44 => some F_fis_tree
  | 45 => some F_fneed_tree
  | 46 => some F_flots_for
  | 47 => some F_fgrown
  | 48 => some F_ffits
  | 49 => some F_fshape_of
  | 50 => some F_fshapes
  | 51 => some F_faround
  | 52 => some F_frenamed
  | 53 => some F_fjoined
  | 54 => some F_f_law_is
  | 55 => some F_f_law_fit
  | 56 => some F_f_law_all_fit
  | 57 => some F_f_law_lots
  | 58 => some F_f_law_length
  | 59 => some F_f_law_shape
  | 60 => some F_f_law_tree
  | 63 => some F_fdivided
  | 64 => some F_fturned
  | 65 => some F_fis_below
  | 66 => some F_ftotal
  | 67 => some F_fsquare_of
  | 68 => some F_fhalves
  | 69 => some F_fsplit_of
  | 70 => some F_fof_fraction
  | 71 => some F_ftimes_fraction
  | 72 => some F_fneed_trees
  | 74 => some F_frest_of
  | 75 => some F_flegs_of
  | 76 => some F_fbare
  | 77 => some F_feven_square
  | 78 => some F_fleg_square
  | 79 => some F_fsquare_between
  | 80 => some F_fshared
  | 81 => some F_fchain
  | 82 => some F_fsquare
  | 83 => some F_fbounds
  | 84 => some F_funshared
  | 85 => some F_f_law_below
  | 86 => some F_f_law_two
  | 88 => some F_f_law_rest
  | 89 => some F_f_law_square
  | 90 => some F_f_law_halves
  | 91 => some F_f_law_chains
  | 92 => some F_f_law_quotient
  | 93 => some F_f_law_rises
  | 94 => some F_f_law_leg_square
  | 96 => some F_f_law_even
  | 97 => some F_f_law_bare
  | 98 => some F_f_law_tied
  | 99 => some F_flaw_k02
  | 100 => some F_fweights_of
  | 102 => some F_fled
  | 103 => some F_froom_of
  | 104 => some F_fflow_of
  | 105 => some F_fshares_of
  | 106 => some F_fis_side
  | 107 => some F_fneed_leg
  | 108 => some F_fcheaper
  | 109 => some F_fshares
  | 110 => some F_f_law_parting_right
  | 113 => some F_fquotient
  | 114 => some F_fis_rising
  | 115 => some F_fare_pairs
  | 116 => some F_fare_lots
  | 118 => some F_flegs_told
  | 119 => some F_fare_in_order
  | 120 => some F_fis_table
  | 121 => some F_fway_paper
  | 122 => some F_fshows_way
  | 123 => some F_f_law_same_shares
  | 126 => some F_fneed_share
  | 127 => some F_fbreak_of
  | 128 => some F_fis_behind
  | 129 => some F_fside_at
  | 130 => some F_fbreaks
  | 131 => some F_fspot
  | 132 => some F_fstretches
  | 133 => some F_fpast_star
  | 134 => some F_f_law_share
  | 135 => some F_f_law_is_behind
  | 138 => some F_f_law_whole
  | 139 => some F_f_law_way_span
  | 140 => some F_flaw_k06
  | 141 => some F_fbare_tree
  | 142 => some F_fsides_of
  | 143 => some F_fparts_of
  | 144 => some F_fis_woven
  | 145 => some F_fchains_from
  | 147 => some F_froads_by
  | 148 => some F_fneed_shapes
  | 149 => some F_fopen_chains
  | 150 => some F_flengths_for
  | 151 => some F_falways_star
  | 152 => some F_f_law_woven
  | 153 => some F_flaw_k07
  | 154 => some F_fneed_some
  | 155 => some F_fneed_full
  | 157 => some F_fpull_of
  | 158 => some F_fpull
  | 159 => some F_fis_mean
  | 160 => some F_fsquare_sum
  | 162 => some F_f_law_square_sum
  | 163 => some F_f_law_full
  | 165 => some F_fspider
  | 166 => some F_f_law_at
  | 167 => some F_flaw_k09
  | 168 => some F_f_law_doubled
  | 171 => some F_froad_text
  | 172 => some F_fwrite
  | 173 => some F_fnumber_of
  | 174 => some F_flength_of
  | 175 => some F_fread
  | 176 => some F_flaw_k12
  | _ => none
end DP

set_option Elab.async false
set_option linter.all false
set_option autoImplicit false
set_option maxRecDepth 100000
set_option maxHeartbeats 4000000
/-! P1: what the package's looks at data answer. -/
namespace DP
open PySem PySem.Spec
abbrev fq (q : Rat) : PyData := .tuple [.int q.num, .int (q.den : Int)]
def isIntD : PyData → Bool
  | .int _ => true
  | _ => false
theorem m_is_integer (n : Nat) (d : PyData) : callF G (n + 1) i_fis_integer [.fr d] = some (.ok (.bool (isIntD d)), []) := by
  refine callF_of (F := F_fis_integer) (r := .ok (.rt (.bool (isIntD d)))) (ρ := [some (.fr d)]) rfl rfl ?_ rfl
  cases d <;> simp -implicitDefEqProofs [F_fis_integer, b_fis_integer, startE, isIntD, bltO]
def amongD (d : PyData) (a b : Int) : Bool := match d with
  | .int i => decide (a ≤ i) && decide (i ≤ b)
  | _ => false
theorem m_is_among (n : Nat) (d : PyData) (a b : Int) : callF G (n + 2) i_fis_among [.fr d, .fr (.int a), .fr (.int b)] = some (.ok (.bool (amongD d a b)), []) := by
  refine callF_of (F := F_fis_among) (r := .ok (.rt (.bool (amongD d a b)))) (ρ := [some (.fr d), some (.fr (.int a)), some (.fr (.int b))]) rfl rfl ?_ rfl
  cases d with
  | int i => by_cases h : a ≤ i <;> simp -implicitDefEqProofs [F_fis_among, b_fis_among, startE, m_is_integer, isIntD, amongD, h]
  | _ => simp -implicitDefEqProofs [F_fis_among, b_fis_among, startE, m_is_integer, isIntD, amongD]
def fracD (d : PyData) : Bool := match d with
  | .tuple [.int a, .int b] => decide (0 < b) && decide (Nat.gcd a.natAbs b.natAbs = 1)
  | _ => false
theorem m_is_fraction (n : Nat) (d : PyData) : callF G (n + 2) i_fis_fraction [.fr d] = some (.ok (.bool (fracD d)), []) := by
  refine callF_of (F := F_fis_fraction) (r := .ok (.rt (.bool (fracD d)))) (ρ := [some (.fr d), none]) rfl rfl ?_ rfl
  cases d with
  | tuple ds =>
    by_cases h2 : ds.length = 2
    · obtain ⟨a, b, rfl⟩ : ∃ a b, ds = [a, b] := by
        match ds, h2 with
        | [a, b], _ => exact ⟨a, b, rfl⟩
      simp -implicitDefEqProofs [F_fis_fraction, b_fis_fraction, startE, fracD, isTup]
      rw [comp_map (ρ1 := [some (.fr (.tuple [a, b])), none]) (ds := [a, b]) (by simp -implicitDefEqProofs) (by simp -implicitDefEqProofs) (fun d => .bool (isIntD d)) (fun d hm => by simp -implicitDefEqProofs [m_is_integer])]
      cases a <;> cases b <;> simp -implicitDefEqProofs [isIntD, L2.atI, L2.ixN]
      rename_i i j
      by_cases h : 0 < j <;> simp -implicitDefEqProofs [h]
      omega
    · have e : fracD (.tuple ds) = false := by
        unfold fracD
        split
        · rename_i h
          cases h
          exact absurd rfl h2
        · rfl
      have h3 : ¬ (ds.length : Int) = 2 := by omega
      simp -implicitDefEqProofs [F_fis_fraction, b_fis_fraction, startE, e, isTup, h3]
  | _ => simp -implicitDefEqProofs [F_fis_fraction, b_fis_fraction, startE, fracD, isTup]
theorem fracD_q {d : PyData} (h : fracD d = true) : ∃ q : Rat, d = fq q := by
  unfold fracD at h
  split at h
  · rename_i a b
    rw [Bool.and_eq_true, decide_eq_true_eq, decide_eq_true_eq] at h
    obtain ⟨q, h1, h2⟩ := q_of h.1 h.2
    exact ⟨q, by rw [← h1, ← h2]⟩
  · cases h
@[simp] theorem fracD_fq (q : Rat) : fracD (fq q) = true := by
  have h1 : (0 : Int) < q.den := by have := q.den_pos; omega
  have h2 : Nat.gcd q.num.natAbs q.den = 1 := q.reduced
  show (decide ((0 : Int) < q.den) && decide (Nat.gcd q.num.natAbs ((q.den : Int).natAbs) = 1)) = true
  rw [decide_eq_true h1, Int.natAbs_natCast, decide_eq_true h2]
  rfl
abbrev upI (l : List Int) : Bool := upB (fun a b => decide (a < b)) l
def lotB (m : Int) (l : List Int) : Bool := decide (2 ≤ (l.length : Int)) && decide ((l.length : Int) < m) && (l.all fun t => decide (1 ≤ t) && decide (t ≤ m)) && upI l
def unI (d : PyData) : Int := match d with
  | .int i => i
  | _ => 0
def lotD (m : Int) (d : PyData) : Bool := match d with
  | .tuple ts => ts.all isIntD && lotB m (ts.map unI)
  | _ => false
theorem ints_of : ∀ {ts : List PyData}, ts.all isIntD = true → ts = (ts.map unI).map .int
  | [], _ => rfl
  | d :: ts, h => by
    rw [List.all_cons, Bool.and_eq_true] at h
    rw [List.map_cons, List.map_cons, ← ints_of h.2]
    cases d <;> first | rfl | exact absurd h.1 (by simp -implicitDefEqProofs [isIntD])
theorem bool3 : ∀ u v w : Bool, (u && (v && w)) = ((true && v) && (u && w)) := by decide
theorem all_among (m : Int) : ∀ ts : List PyData, (ts.all fun d => amongD d 1 m) = (ts.all isIntD && ((ts.map unI).all fun t => decide (1 ≤ t) && decide (t ≤ m)))
  | [] => rfl
  | d :: ts => by
    rw [List.all_cons, List.all_cons, List.map_cons, List.all_cons, all_among m ts]
    cases d <;> first | rfl | exact bool3 _ _ _
theorem un_ints (l : List Int) : (l.map PyData.int).map unI = l := by
  rw [List.map_map]
  exact List.map_id _
theorem all_ints (l : List Int) : (l.map PyData.int).all isIntD = true := by
  rw [List.all_map]
  exact List.all_eq_true.mpr fun _ _ => rfl
@[simp] theorem lotD_tupI (m : Int) (l : List Int) : lotD m (tupI l) = lotB m l := by
  unfold tupI lotD
  dsimp only
  rw [all_ints, un_ints]
  rfl
theorem lotD_of {m : Int} {d : PyData} (h : lotD m d = true) : ∃ l, d = tupI l ∧ lotB m l = true := by
  unfold lotD at h
  split at h
  · rename_i ts
    rw [Bool.and_eq_true] at h
    exact ⟨_, by unfold tupI; rw [← ints_of h.1], h.2⟩
  · cases h
theorem m_is_lot (n : Nat) (d : PyData) (k : Int) (hk : k ≤ 1000000) : callF G (n + 3) i_fis_lot [.fr (.int k), .fr d] = some (.ok (.bool (lotD k d)), []) := by
  refine callF_of (F := F_fis_lot) (r := .ok (.rt (.bool (lotD k d)))) (ρ := [some (.fr (.int k)), some (.fr d), none, none]) rfl rfl ?_ rfl
  cases d with
  | tuple ds =>
    by_cases h1 : (2 : Int) ≤ ds.length
    · by_cases h2 : (ds.length : Int) < k
      · simp -implicitDefEqProofs [F_fis_lot, b_fis_lot, startE, isTup, h1, h2]
        rw [comp_map (ρ1 := [some (.fr (.int k)), some (.fr (.tuple ds)), none, none]) (ds := ds) (by simp -implicitDefEqProofs) (by omega) (fun d => .bool (amongD d 1 k)) (fun d hm => by simp -implicitDefEqProofs [m_is_among])]
        have ea := all_among k ds
        by_cases h3 : (ds.all fun t => amongD t 1 k) = true
        · rw [h3] at ea
          have h4 := ea.symm
          rw [Bool.and_eq_true] at h4
          simp -implicitDefEqProofs only [k_ok, allP, h3]
          have ed := ints_of h4.1
          generalize hl : ds.map unI = l at ed h4
          subst ed
          rw [List.length_map] at h1 h2
          simp -implicitDefEqProofs
          rw [c_map natD (List.range (l.length - 1)) (fun i => .bool (decide (l.getD i 0 < l.getD (i + 1) 0))) (ρ1 := [some (.fr (.int k)), some (.fr (.tuple (l.map .int))), none, none])
            (by simp -implicitDefEqProofs [frsO]; rw [rng_int (by omega) (by omega)]; simp -implicitDefEqProofs; try (congr 2; omega)) (by simp -implicitDefEqProofs; omega) (fun i hi => by
              rw [List.mem_range] at hi
              simp -implicitDefEqProofs [natD, atI_m PyData.int l 0 (k := i) (by omega), atI_m1 PyData.int l 0 (k := i) (by omega)])]
          simp -implicitDefEqProofs only [k_ok, allP, r_of]
          rw [upB_range (fun a b : Int => decide (a < b)) 0 l]
          have e := lotD_tupI k l
          unfold tupI at e
          rw [e]
          unfold lotB
          simp -implicitDefEqProofs [h1, h2, h4.2]
        · have e : lotD k (.tuple ds) = false := by
            rw [Bool.not_eq_true] at h3
            rw [h3] at ea
            unfold lotD lotB
            dsimp only
            generalize (ds.map unI).all (fun t => decide (1 ≤ t) && decide (t ≤ k)) = u at ea ⊢
            cases hh : ds.all isIntD with
            | false => rfl
            | true =>
              rw [hh] at ea
              cases u with
              | true => cases ea
              | false => simp -implicitDefEqProofs
          rw [Bool.not_eq_true] at h3
          simp -implicitDefEqProofs only [k_ok, allP, h3]
          simp -implicitDefEqProofs [e]
      · simp -implicitDefEqProofs [F_fis_lot, b_fis_lot, startE, isTup, h1, h2, lotD, lotB]
    · simp -implicitDefEqProofs [F_fis_lot, b_fis_lot, startE, isTup, h1, lotD, lotB]
  | _ => simp -implicitDefEqProofs [F_fis_lot, b_fis_lot, startE, isTup, lotD]

/-- how many tips of one are in the other -/
def bothL (a b : Lot) : List Int := a.filter fun t => decide (t ∈ b)
def fitL (a b : Lot) : Bool := (bothL a b).isEmpty || (decide ((bothL a b).length = a.length) || decide ((bothL a b).length = b.length))
theorem m_do_fit (n : Nat) (a b : Lot) (h : a.length ≤ 1000000) : callF G (n + 1) i_fdo_fit [.fr (tupI a), .fr (tupI b)] = some (.ok (.bool (fitL a b)), []) := by
  refine callF_of (F := F_fdo_fit) (r := .ok (.rt (.bool (fitL a b)))) (ρ := [some (.fr (tupI a)), some (.fr (tupI b)), some (mkLst ((bothL a b).map .int)), none]) rfl rfl ?_ rfl
  unfold tupI
  simp -implicitDefEqProofs only [F_fdo_fit, b_fdo_fit, startE, y_1, y_asg]
  rw [c_filter PyData.int a (fun t => decide (t ∈ b)) PyData.int (ρ1 := [some (.fr (.tuple (a.map .int))), some (.fr (.tuple (b.map .int))), none, none]) (by simp -implicitDefEqProofs) h (fun t ht => by
    simp -implicitDefEqProofs [c_inI])]
  rw [show (List.filter (fun t => decide (t ∈ b)) a) = bothL a b from rfl]
  have e := eq_nil (ds := (bothL a b).map .int) (pls_ints 0 _) (by omega)
  have e2 := c_inI (bothL a b).length [(a.length : Int), (b.length : Int)]
  simp -implicitDefEqProofs only [List.map_cons, List.map_nil] at e2
  cases h0 : (bothL a b).isEmpty with
  | true =>
    simp -implicitDefEqProofs [e, h0, fitL]
  | false =>
    simp -implicitDefEqProofs [e, h0, e2, fitL]
    rw [Bool.eq_iff_iff]
    simp -implicitDefEqProofs
    omega
def fitsL (a : Lot) (ls : List Lot) : Bool := ls.all (fitL a)
theorem m_fits_all (n : Nat) (a : Lot) (ls : List Lot) (d : PyData) (hd : keysO (.fr d) = some (ls.map tupI)) (h : a.length ≤ 1000000) (h2 : ls.length ≤ 1000000) : callF G (n + 2) i_ffits_all [.fr (tupI a), .fr d] = some (.ok (.bool (fitsL a ls)), []) := by
  refine callF_of (F := F_ffits_all) (r := .ok (.rt (.bool (fitsL a ls)))) (ρ := [some (.fr (tupI a)), some (.fr d), none]) rfl rfl ?_ rfl
  simp -implicitDefEqProofs [F_ffits_all, b_ffits_all, startE]
  rw [c_map tupI ls (fun l => .bool (fitL a l)) (ρ1 := [some (.fr (tupI a)), some (.fr d), none]) (by simp -implicitDefEqProofs [hd]) h2 (fun l hl => by
    simp -implicitDefEqProofs [m_do_fit, h])]
  simp -implicitDefEqProofs [allP, fitsL]
def ltL (a b : Lot) : Bool := PySem.W.dataLt (tupI a) (tupI b)
theorem alike_ints : ∀ a b : List Int, PySem.W.alikeAll (a.map .int) (b.map .int) = true
  | [], _ => by simp -implicitDefEqProofs [PySem.W.alikeAll]
  | _ :: _, [] => by simp -implicitDefEqProofs [PySem.W.alikeAll]
  | x :: a, y :: b => by simp -implicitDefEqProofs [PySem.W.alikeAll, PySem.W.alike, alike_ints a b]
theorem c_ltL (a b : Lot) : cmpD .lt (tupI a) (tupI b) = some (ltL a b) := by
  have e : PySem.W.alike (tupI a) (tupI b) = true := by
    unfold tupI
    rw [PySem.W.alike]
    exact alike_ints a b
  have s1 := pl_shaped (pl_tupI 0 a)
  have s2 := pl_shaped (pl_tupI 0 b)
  show (if SeqAt.shaped (tupI a) && SeqAt.shaped (tupI b) && PySem.W.alike (tupI a) (tupI b) && notNone (tupI a) then some (PySem.W.dataLt (tupI a) (tupI b)) else none) = _
  rw [s1, s2, e]
  rfl
theorem cut_to {α : Type} (xs : List α) (k : Nat) (h : k ≤ xs.length) : cutD xs none (some (k : Int)) = xs.take k := by
  unfold cutD
  rw [HT.sIx_none, HT.sIx_nat, Nat.min_eq_left h]
  simp -implicitDefEqProofs
def shapeB (m : Int) (ls : List Lot) : Bool := ls.all (lotB m) && (upB ltL ls && ((List.range ls.length).all fun i => fitsL (ls.getD i []) (ls.take i)))
def unL (d : PyData) : Lot := match d with
  | .tuple ts => ts.map unI
  | _ => []
def shapeD (m : Int) (d : PyData) : Bool := match d with
  | .tuple ds => ds.all (lotD m) && shapeB m (ds.map unL)
  | _ => false

theorem unL_tup (l : Lot) : unL (tupI l) = l := un_ints l
theorem unL_tups (ls : List Lot) : (ls.map tupI).map unL = ls := by
  rw [List.map_map]
  exact (List.map_congr_left (fun l _ => unL_tup l)).trans (List.map_id _)
theorem lots_of {m : Int} : ∀ {ds : List PyData}, ds.all (lotD m) = true → ds = (ds.map unL).map tupI ∧ (ds.map unL).all (lotB m) = true
  | [], _ => ⟨rfl, rfl⟩
  | d :: ds, h => by
    rw [List.all_cons, Bool.and_eq_true] at h
    obtain ⟨l, rfl, hl⟩ := lotD_of h.1
    obtain ⟨e1, e2⟩ := lots_of h.2
    rw [List.map_cons, List.map_cons, ← e1, unL_tup, List.all_cons, hl, e2]
    exact ⟨rfl, rfl⟩
theorem all_lotD (m : Int) (ls : List Lot) : (ls.map tupI).all (lotD m) = ls.all (lotB m) := by
  rw [List.all_map]
  congr 1
  funext l
  exact lotD_tupI m l
@[simp] theorem shapeD_tups (m : Int) (ls : List Lot) : shapeD m (.tuple (ls.map tupI)) = shapeB m ls := by
  unfold shapeD
  dsimp only
  rw [all_lotD, unL_tups]
  unfold shapeB
  cases ls.all (lotB m) <;> rfl
theorem lotB_len {m : Int} {l : Lot} (h : lotB m l = true) : (l.length : Int) < m := by
  unfold lotB at h
  simp -implicitDefEqProofs at h
  exact h.1.1.2
theorem slc_to (ds : List PyData) (k : Nat) (h : k ≤ ds.length) : slcO (.fr (.tuple ds)) none (some (k : Int)) = some (.fr (.tuple (ds.take k))) := by
  show some (OV.fr (.tuple (cutD ds none (some (k : Int))))) = _
  rw [cut_to ds k h]
end DP

set_option Elab.async false
set_option linter.all false
set_option autoImplicit false
set_option maxRecDepth 100000
set_option maxHeartbeats 4000000
namespace DP
open PySem PySem.Spec
theorem m_is_shape (n : Nat) (d : PyData) (k : Int) (hk : k ≤ 1000000) (hs : ∀ ds, d = .tuple ds → ds.length ≤ 1000000) : callF G (n + 4) i_fis_shape [.fr (.int k), .fr d] = some (.ok (.bool (shapeD k d)), []) := by
  refine callF_of (F := F_fis_shape) (r := .ok (.rt (.bool (shapeD k d)))) (ρ := [some (.fr (.int k)), some (.fr d), none, none]) rfl rfl ?_ rfl
  cases d with
  | tuple ds =>
    have h1 := hs ds rfl
    simp -implicitDefEqProofs [F_fis_shape, b_fis_shape, startE, isTup]
    rw [comp_map (ρ1 := [some (.fr (.int k)), some (.fr (.tuple ds)), none, none]) (ds := ds) (by simp -implicitDefEqProofs) h1 (fun d => .bool (lotD k d)) (fun d hm => by simp -implicitDefEqProofs [m_is_lot, hk])]
    cases h2 : ds.all (lotD k) with
    | false =>
      have e : shapeD k (.tuple ds) = false := by
        unfold shapeD
        dsimp only
        rw [h2]
        rfl
      simp -implicitDefEqProofs only [k_ok, allP, h2]
      simp -implicitDefEqProofs [e]
    | true =>
      simp -implicitDefEqProofs only [k_ok, allP, h2]
      obtain ⟨e1, e2⟩ := lots_of h2
      generalize ds.map unL = ls at e1 e2
      subst e1
      rw [shapeD_tups]
      unfold shapeB
      rw [e2]
      rw [List.length_map] at h1
      simp -implicitDefEqProofs
      rw [c_map natD (List.range (ls.length - 1)) (fun i => .bool (ltL (ls.getD i []) (ls.getD (i + 1) []))) (ρ1 := [some (.fr (.int k)), some (.fr (.tuple (ls.map tupI))), none, none])
        (by simp -implicitDefEqProofs; rw [rng_int (by omega) (by omega)]; simp -implicitDefEqProofs; try (congr 2; omega)) (by simp -implicitDefEqProofs; omega) (fun i hi => by
          rw [List.mem_range] at hi
          simp -implicitDefEqProofs [natD, atI_m tupI ls [] (k := i) (by omega), atI_m1 tupI ls [] (k := i) (by omega), c_ltL])]
      simp -implicitDefEqProofs only [k_ok, allP, r_of]
      rw [upB_range ltL [] ls]
      cases upB ltL ls with
      | false => simp -implicitDefEqProofs
      | true =>
        simp -implicitDefEqProofs
        rw [c_map natD (List.range ls.length) (fun i => .bool (fitsL (ls.getD i []) (ls.take i))) (ρ1 := [some (.fr (.int k)), some (.fr (.tuple (ls.map tupI))), none, none])
          (by simp -implicitDefEqProofs; rw [rng_int (by omega) (by omega)]; simp -implicitDefEqProofs) (by simp -implicitDefEqProofs; omega) (fun i hi => by
            rw [List.mem_range] at hi
            have hl : ls.getD i [] ∈ ls := by
              rw [List.getD_eq_getElem?_getD, List.getElem?_eq_getElem hi]
              exact List.getElem_mem _
            have h3 := lotB_len (List.all_eq_true.mp e2 _ hl)
            have h4 := m_fits_all (n + 1) (ls.getD i []) (ls.take i) (.tuple ((ls.map tupI).take i)) (by simp -implicitDefEqProofs) (by omega) (by simp -implicitDefEqProofs; omega)
            simp -implicitDefEqProofs only [List.getD_eq_getElem?_getD] at h4 h3 ⊢
            simp -implicitDefEqProofs [natD, atI_m tupI ls [] (k := i) hi, cut_to (ls.map tupI) i (by simp -implicitDefEqProofs; omega), optO, h4])]
        simp -implicitDefEqProofs [allP]
  | _ => simp -implicitDefEqProofs [F_fis_shape, b_fis_shape, startE, isTup, shapeD]
end DP
namespace DP
open PySem PySem.Spec
def lenB (q : Rat) : Bool := (decide (q.den = 1) || decide (q.den = 2)) && (decide (0 < q.num) && decide (q.num ≤ 500 * q.den))
def lenD (d : PyData) : Bool := match d with
  | .tuple [.int a, .int b] => fracD d && ((decide (b = 1) || decide (b = 2)) && (decide (0 < a) && decide (a ≤ 500 * b)))
  | _ => false
@[simp] theorem lenD_fq (q : Rat) : lenD (fq q) = lenB q := by
  show (fracD (fq q) && ((decide ((q.den : Int) = 1) || decide ((q.den : Int) = 2)) && (decide (0 < q.num) && decide (q.num ≤ 500 * (q.den : Int))))) = _
  rw [fracD_fq]
  unfold lenB
  rw [Bool.eq_iff_iff]
  simp -implicitDefEqProofs
  omega
theorem lenD_of {d : PyData} (h : lenD d = true) : ∃ q, d = fq q ∧ lenB q = true := by
  have h' := h
  unfold lenD at h
  split at h
  · rw [Bool.and_eq_true] at h
    obtain ⟨q, e⟩ := fracD_q h.1
    rw [e, lenD_fq] at h'
    exact ⟨q, e, h'⟩
  · cases h
theorem lenD_no {d : PyData} (h : fracD d = false) : lenD d = false := by
  cases h2 : lenD d with
  | false => rfl
  | true =>
    obtain ⟨q, rfl, _⟩ := lenD_of h2
    rw [fracD_fq] at h
    cases h
theorem c_in12 (i : Int) : cmpD .isin (.int i) (.tuple [.int 1, .int 2]) = some (decide (i = 1) || decide (i = 2)) := by
  have e := c_inI i [1, 2]
  simp -implicitDefEqProofs only [List.map_cons, List.map_nil] at e
  rw [e]
  simp -implicitDefEqProofs
theorem okMul1 {i j : Int} (h : i.natAbs < 2 ^ 64) : okMul i j = true := by
  have : Builtin.Int.intBits i ≤ 64 := by
    unfold Builtin.Int.intBits
    split
    · omega
    · rename_i h0
      have h1 : i.natAbs ≠ 0 := by simpa using h0
      have := (Nat.log2_lt h1).mpr h
      omega
  unfold okMul
  simp -implicitDefEqProofs only [Bool.or_eq_true, decide_eq_true_eq]
  left; left
  omega
theorem o_mul {i j : Int} (h : okMul i j = true) : binO .mul (.fr (.int i)) (.fr (.int j)) = some (.fr (.int (i * j))) := by
  show (if okMul i j then _ else _) = _
  rw [if_pos h]
theorem m_is_length (n : Nat) (d : PyData) : callF G (n + 3) i_fis_length [.fr d] = some (.ok (.bool (lenD d)), []) := by
  refine callF_of (F := F_fis_length) (r := .ok (.rt (.bool (lenD d)))) (ρ := [some (.fr d)]) rfl rfl ?_ rfl
  simp -implicitDefEqProofs [F_fis_length, b_fis_length, startE]
  rw [m_is_fraction]
  cases h : fracD d with
  | false => simp -implicitDefEqProofs [lenD_no h]
  | true =>
    obtain ⟨q, rfl⟩ := fracD_q h
    have e1 : L2.atI [PyData.int q.num, PyData.int (q.den : Int)] 1 = some (.int q.den) := rfl
    have e0 : L2.atI [PyData.int q.num, PyData.int (q.den : Int)] 0 = some (.int q.num) := rfl
    rw [lenD_fq]
    have e2 := c_in12 (q.den : Int)
    have e3 : lenB q = ((decide ((q.den : Int) = 1) || decide ((q.den : Int) = 2)) && (decide (0 < q.num) && decide (q.num ≤ 500 * (q.den : Int)))) := by
      unfold lenB
      rw [Bool.eq_iff_iff]
      simp -implicitDefEqProofs
      omega
    rw [e3]
    generalize (decide ((q.den : Int) = 1) || decide ((q.den : Int) = 2)) = u at e2 ⊢
    cases u with
    | false => simp -implicitDefEqProofs [e1, e0, e2]
    | true =>
      by_cases h3 : 0 < q.num
      · have h1 := q.den_pos
        have h2 : okMul 500 (q.den : Int) = true := okMul1 (by omega)
        simp -implicitDefEqProofs [e1, e0, e2, h3, o_mul h2]
      · simp -implicitDefEqProofs [e1, e0, e2, h3]
/-- a road of a tree -/
def roadE (r : Road) : PyData := .tuple [tupI r.1, fq r.2]
abbrev treeE (m : Int) (rs : List Road) : PyData := .tuple [.int m, .tuple (rs.map roadE)]
def pairE (r : PyData × PyData) : PyData := .tuple [r.1, r.2]
theorem m_lots_of (n : Nat) (m : PyData) (rs : List (PyData × PyData)) (h : rs.length ≤ 1000000) : callF G (n + 1) i_flots_of [.fr (.tuple [m, .tuple (rs.map pairE)])] = some (.ok (.tuple (rs.map Prod.fst)), []) := by
  refine callF_of (F := F_flots_of) (r := .ok (.rt (.tuple (rs.map Prod.fst)))) (ρ := [some (.fr (.tuple [m, .tuple (rs.map pairE)])), none, none]) rfl rfl ?_ rfl
  have e1 : L2.atI [m, PyData.tuple (rs.map pairE)] 1 = some (.tuple (rs.map pairE)) := rfl
  simp -implicitDefEqProofs [F_flots_of, b_flots_of, startE]
  rw [c_map pairE rs Prod.fst (ρ1 := [some (.fr (.tuple [m, .tuple (rs.map pairE)])), none, none]) (by simp -implicitDefEqProofs [e1]) h (fun r hr => by simp -implicitDefEqProofs [pairE])]
  simp -implicitDefEqProofs
def isPair (d : PyData) : Bool := match d with
  | .tuple [_, _] => true
  | _ => false
def unP (d : PyData) : PyData × PyData := match d with
  | .tuple [a, b] => (a, b)
  | _ => (.none, .none)
theorem pairs_of : ∀ {ds : List PyData}, ds.all isPair = true → ds = (ds.map unP).map pairE
  | [], _ => rfl
  | d :: ds, h => by
    rw [List.all_cons, Bool.and_eq_true] at h
    rw [List.map_cons, List.map_cons, ← pairs_of h.2]
    have h1 := h.1
    unfold isPair at h1
    split at h1
    · rfl
    · cases h1
def treeD (d : PyData) : Bool := match d with
  | .tuple [m, .tuple rs] => amongD m 3 6 && (rs.all isPair && (shapeD (unI m) (.tuple (rs.map fun r => (unP r).1)) && rs.all fun r => lenD (unP r).2))
  | _ => false
theorem isPair_eq (d : PyData) : (isTup (.fr d) && (match d with | .tuple ds => decide ((ds.length : Int) = 2) | _ => false)) = isPair d := by
  unfold isPair isTup
  cases d with
  | tuple ds =>
    match ds with
    | [] => rfl
    | [_] => rfl
    | [_, _] => rfl
    | _ :: _ :: _ :: _ =>
      simp -implicitDefEqProofs
      omega
  | _ => rfl
/-- a datum whose rows are not too long -/
def okD (d : PyData) : Prop := ∀ m rs, d = .tuple [m, .tuple rs] → rs.length ≤ 1000000
theorem treeD_no {d : PyData} (h : ∀ m rs, d ≠ .tuple [m, .tuple rs]) : treeD d = false := by
  unfold treeD
  split
  · rename_i m rs
    exact absurd rfl (h m rs)
  · rfl
theorem m_is_tree (n : Nat) (d : PyData) (hd : okD d) : callF G (n + 5) i_fis_tree [.fr d] = some (.ok (.bool (treeD d)), []) := by
  refine callF_of (F := F_fis_tree) (r := .ok (.rt (.bool (treeD d)))) (ρ := [some (.fr d), none, none, none]) rfl rfl ?_ rfl
  cases d with
  | tuple ds =>
    by_cases h2 : ds.length = 2
    · obtain ⟨m, r, rfl⟩ : ∃ a b, ds = [a, b] := by
        match ds, h2 with
        | [a, b], _ => exact ⟨a, b, rfl⟩
      have e1 : L2.atI [m, r] 1 = some r := rfl
      have e0 : L2.atI [m, r] 0 = some m := rfl
      simp -implicitDefEqProofs [F_fis_tree, b_fis_tree, startE, isTup, e0, m_is_among]
      cases h3 : amongD m 3 6 with
      | false =>
        have e : treeD (.tuple [m, r]) = false := by
          unfold treeD
          split
          · rename_i h
            injection h with h
            injection h with h h'
            subst h
            rw [h3]
            rfl
          · rfl
        simp -implicitDefEqProofs [e]
      | true =>
        cases r with
        | tuple rs =>
          have h4 := hd m rs rfl
          simp -implicitDefEqProofs [e1]
          rw [comp_map (ρ1 := [some (.fr (.tuple [m, .tuple rs])), none, none, none]) (ds := rs) (by simp -implicitDefEqProofs [e1]) h4 (fun d => .bool (isPair d)) (fun d hm => by
            have e := isPair_eq d
            cases d with
            | tuple ds => simp -implicitDefEqProofs [isTup, ← e]
            | _ => simp -implicitDefEqProofs [isTup, isPair])]
          cases h5 : rs.all isPair with
          | false => simp -implicitDefEqProofs [allP, h5, treeD, h3]
          | true =>
            simp -implicitDefEqProofs only [k_ok, allP, h5]
            have e5 := pairs_of h5
            generalize hps : rs.map unP = ps at e5
            have h6 : ps.length ≤ 1000000 := by rw [← hps, List.length_map]; exact h4
            cases m with
            | int k =>
              have hk : k ≤ 6 := by
                unfold amongD at h3
                simp -implicitDefEqProofs at h3
                omega
              have em := m_lots_of (n + 3) (.int k) ps h6
              rw [← e5] at em
              have es := m_is_shape n (.tuple (ps.map Prod.fst)) k (by omega) (fun ds h => by
                injection h with h
                rw [← h, List.length_map]
                exact h6)
              simp -implicitDefEqProofs [isTup, e0, em, es]
              have e7 : treeD (.tuple [.int k, .tuple rs]) = (shapeD k (.tuple (ps.map Prod.fst)) && ps.all fun p => lenD p.2) := by
                unfold treeD
                dsimp only
                rw [h3, h5, ← hps, List.map_map, List.all_map]
                rfl
              rw [e7]
              cases shapeD k (.tuple (ps.map Prod.fst)) with
              | false => simp -implicitDefEqProofs
              | true =>
                simp -implicitDefEqProofs
                rw [c_map pairE ps (fun p => .bool (lenD p.2)) (ρ1 := [some (.fr (.tuple [.int k, .tuple rs])), none, none, none]) (by simp -implicitDefEqProofs [e1, ← e5]) h6 (fun p hp => by simp -implicitDefEqProofs [pairE, m_is_length])]
                simp -implicitDefEqProofs [allP]
            | _ => simp -implicitDefEqProofs [amongD] at h3
        | _ => simp -implicitDefEqProofs [e1, isTup, treeD]
    · have e : treeD (.tuple ds) = false := treeD_no (fun m rs h => by injection h with h; subst h; exact h2 rfl)
      have h3 : ¬ (ds.length : Int) = 2 := by omega
      simp -implicitDefEqProofs [F_fis_tree, b_fis_tree, startE, e, isTup, h3]
  | _ => simp -implicitDefEqProofs [F_fis_tree, b_fis_tree, startE, isTup, treeD]

theorem m_need_tree (n : Nat) (d : PyData) (hd : okD d) : callF G (n + 6) i_fneed_tree [.fr d] = some (if treeD d then .ok .none else .error 6, []) := by
  cases h : treeD d with
  | true =>
    refine callF_of (F := F_fneed_tree) (r := .ok .nx) (ρ := [some (.fr d)]) rfl rfl ?_ rfl
    simp -implicitDefEqProofs [F_fneed_tree, b_fneed_tree, startE, m_is_tree n d hd, h]
  | false =>
    refine callF_of (F := F_fneed_tree) (r := .error 6) (ρ := [some (.fr d)]) rfl rfl ?_ rfl
    simp -implicitDefEqProofs [F_fneed_tree, b_fneed_tree, startE, m_is_tree n d hd, h]
/-- a tree that is right -/
def treeB (m : Int) (rs : List Road) : Bool := (decide (3 ≤ m) && decide (m ≤ 6)) && (shapeB m (rs.map Prod.fst) && rs.all fun r => lenB r.2)
theorem roads_pairs (rs : List Road) : rs.map roadE = (rs.map fun r => (tupI r.1, fq r.2)).map pairE := by
  rw [List.map_map]
  rfl
@[simp] theorem treeD_tree (m : Int) (rs : List Road) : treeD (treeE m rs) = treeB m rs := by
  unfold treeD treeE treeB
  dsimp only
  have e1 : (rs.map roadE).all isPair = true := by
    rw [List.all_map]
    exact List.all_eq_true.mpr fun _ _ => rfl
  have e2 : (rs.map roadE).map (fun r => (unP r).1) = (rs.map Prod.fst).map tupI := by
    rw [List.map_map, List.map_map]
    rfl
  have e3 : (rs.map roadE).all (fun r => lenD (unP r).2) = rs.all fun r => lenB r.2 := by
    rw [List.all_map]
    congr 1
    funext r
    exact lenD_fq r.2
  rw [e1, e2, e3, shapeD_tups]
  rfl
theorem treeD_of {d : PyData} (h : treeD d = true) : ∃ m rs, d = treeE m rs ∧ treeB m rs = true := by
  have h' := h
  unfold treeD at h
  split at h
  · rename_i m rs
    rw [Bool.and_eq_true, Bool.and_eq_true, Bool.and_eq_true] at h
    obtain ⟨h1, h2, h3, h4⟩ := h
    cases m with
    | int m =>
      have h3' : (rs.map fun r => (unP r).1).all (lotD m) = true := by
        have e : shapeD m (.tuple (rs.map fun r => (unP r).1)) = true := h3
        unfold shapeD at e
        dsimp only at e
        rw [Bool.and_eq_true] at e
        exact e.1
      have key : ∀ l : List PyData, l.all isPair = true → (l.map fun r => (unP r).1).all (lotD m) = true → (l.all fun r => lenD (unP r).2) = true → ∃ rs : List Road, l = rs.map roadE := by
        intro l
        induction l with
        | nil => exact fun _ _ _ => ⟨[], rfl⟩
        | cons d l ih =>
          intro g1 g2 g3
          rw [List.all_cons, Bool.and_eq_true] at g1 g3
          rw [List.map_cons, List.all_cons, Bool.and_eq_true] at g2
          obtain ⟨rs, e⟩ := ih g1.2 g2.2 g3.2
          obtain ⟨t, ht, _⟩ := lotD_of g2.1
          obtain ⟨q, hq, _⟩ := lenD_of g3.1
          refine ⟨(t, q) :: rs, ?_⟩
          rw [List.map_cons, ← e]
          congr 1
          have g := g1.1
          unfold isPair at g
          split at g
          · have e1 : _ = tupI t := ht
            have e2 : _ = fq q := hq
            unfold roadE
            rw [← e1, ← e2]
            rfl
          · cases g
      obtain ⟨rs', e⟩ := key rs h2 h3' h4
      refine ⟨m, rs', by rw [e], ?_⟩
      rw [e] at h'
      rw [← treeD_tree]
      exact h'
    | _ => simp -implicitDefEqProofs [amongD] at h1
  · cases h
theorem okD_tree {m : Int} {rs : List Road} (h : rs.length ≤ 1000000) : okD (treeE m rs) := by
  intro a b e
  injection e with e
  injection e with _ e
  injection e with e _
  injection e with e
  rw [← e, List.length_map]
  exact h
end DP

set_option Elab.async false
set_option linter.all false
set_option autoImplicit false
set_option maxRecDepth 100000
set_option maxHeartbeats 4000000
/-! S0: rows in order. -/
namespace DP
open PySem PySem.Spec
theorem ltL_cons (x y : Int) (a b : Lot) : ltL (x :: a) (y :: b) = (decide (x < y) || (decide (x = y) && ltL a b)) := by
  unfold ltL tupI
  rw [PySem.W.dataLt_tuple, PySem.W.dataLt_tuple, List.map_cons, List.map_cons]
  by_cases h : x = y
  · subst h
    rw [PySem.W.dataLt_all_yes (x := .int x) (y := .int x) (by simp -implicitDefEqProofs [PySem.W.alike]) (by simp -implicitDefEqProofs [PyData.eqv])]
    simp -implicitDefEqProofs
  · rw [PySem.W.dataLt_all_no (x := .int x) (y := .int y) (by simp -implicitDefEqProofs [PySem.W.alike]) (by simp -implicitDefEqProofs [PyData.eqv, h]), PySem.W.dataLt_int]
    simp -implicitDefEqProofs [h]
theorem ltL_nil (y : Int) (b : Lot) : ltL [] (y :: b) = true := by
  unfold ltL tupI
  rw [PySem.W.dataLt_tuple, List.map_nil, List.map_cons, PySem.W.toks_all_cons, PySem.W.keyToksAll, PyProof.Rows.lex_cons]
  rfl
theorem ltL_r : ∀ a : Lot, ltL a [] = false
  | [] => by
    unfold ltL tupI
    rw [PySem.W.dataLt_tuple, List.map_nil, PySem.W.keyToksAll, PyProof.Rows.lex_cons]
    rfl
  | x :: a => by
    unfold ltL tupI
    rw [PySem.W.dataLt_tuple, List.map_nil, List.map_cons, PySem.W.toks_all_cons, PySem.W.keyToksAll, PyProof.Rows.lex_cons]
    rfl
theorem ltL_irr : ∀ a : Lot, ltL a a = false
  | [] => ltL_r []
  | x :: a => by simp -implicitDefEqProofs [ltL_cons, ltL_irr a]
theorem ltL_tot : ∀ a b : Lot, ltL a b = false → ltL b a = false → a = b
  | [], [], _, _ => rfl
  | [], y :: b, h, _ => by rw [ltL_nil] at h; cases h
  | x :: a, [], _, h => by rw [ltL_nil] at h; cases h
  | x :: a, y :: b, h1, h2 => by
    rw [ltL_cons] at h1 h2
    simp -implicitDefEqProofs at h1 h2
    have e : x = y := by omega
    subst e
    rw [ltL_tot a b (h1.2 rfl) (h2.2 rfl)]
theorem ltL_trans : ∀ a b c : Lot, ltL a b = true → ltL b c = true → ltL a c = true
  | _, [], _, h, _ => by rw [ltL_r] at h; cases h
  | _, _, [], _, h => by rw [ltL_r] at h; cases h
  | [], _ :: _, z :: c, _, _ => ltL_nil z c
  | x :: a, y :: b, z :: c, h1, h2 => by
    rw [ltL_cons] at h1 h2 ⊢
    simp -implicitDefEqProofs at h1 h2 ⊢
    rcases h1 with h1 | ⟨rfl, h1⟩
    · rcases h2 with h2 | ⟨rfl, h2⟩ <;> (left; omega)
    · rcases h2 with h2 | ⟨rfl, h2⟩
      · left; omega
      · exact .inr ⟨rfl, ltL_trans a b c h1 h2⟩
theorem ltL_asym {a b : Lot} (h : ltL a b = true) : ltL b a = false := by
  cases h2 : ltL b a with
  | false => rfl
  | true =>
    have := ltL_trans a b a h h2
    rw [ltL_irr] at this
    cases this
def leL (a b : Lot) : Bool := !ltL b a
theorem leL_tot (a b : Lot) : (leL a b || leL b a) = true := by
  unfold leL
  cases h : ltL b a with
  | false => rfl
  | true => rw [ltL_asym h]; rfl
theorem leL_trans (a b c : Lot) (h1 : leL a b = true) (h2 : leL b c = true) : leL a c = true := by
  unfold leL at *
  simp -implicitDefEqProofs at *
  cases h : ltL c a with
  | false => rfl
  | true =>
    cases h3 : ltL a b with
    | true =>
      have := ltL_trans c a b h h3
      rw [h2] at this
      cases this
    | false =>
      have e := ltL_tot a b h3 h1
      subst e
      rw [h] at h2
      cases h2
def sortL (ls : List Lot) : List Lot := ls.mergeSort leL
theorem sortL_perm (ls : List Lot) : (sortL ls).Perm ls := List.mergeSort_perm ls leL
theorem mem_sortL {a : Lot} {ls : List Lot} : a ∈ sortL ls ↔ a ∈ ls := (sortL_perm ls).mem_iff
theorem sortL_len (ls : List Lot) : (sortL ls).length = ls.length := (sortL_perm ls).length_eq
theorem sortL_pair (ls : List Lot) : (sortL ls).Pairwise (fun a b => leL a b = true) := List.pairwise_mergeSort leL_trans leL_tot ls
theorem dataLe_tup (a b : Lot) : PySem.W.dataLe false id (tupI a) (tupI b) = leL a b := rfl
theorem sortD_tups (ls : List Lot) : sortD (ls.map tupI) = (sortL ls).map tupI := by
  unfold sortD sortL
  rw [List.map_mergeSort (s := PySem.W.dataLe false id)]
  exact fun a _ b _ => (dataLe_tup a b).symm
theorem sortOk_tups {ls : List Lot} (h : ∀ l ∈ ls, l ≠ []) : sortOk (ls.map tupI) = true := by
  unfold sortOk
  have e1 : ((ls.map tupI).all fun a => (ls.map tupI).all fun b => PySem.W.alike a b) = true := by
    rw [List.all_eq_true]
    intro a ha
    rw [List.all_eq_true]
    intro b hb
    obtain ⟨x, _, rfl⟩ := List.mem_map.mp ha
    obtain ⟨y, _, rfl⟩ := List.mem_map.mp hb
    unfold tupI
    rw [PySem.W.alike]
    exact alike_ints x y
  have e2 : ((ls.map tupI).all fun a => SeqAt.shaped a) = true := by
    rw [List.all_eq_true]
    intro a ha
    obtain ⟨x, _, rfl⟩ := List.mem_map.mp ha
    exact pl_shaped (pl_tupI 0 x)
  rw [e1, e2]
  simp -implicitDefEqProofs only [Bool.true_and, Bool.or_eq_true]
  left
  rw [List.all_eq_true]
  intro a ha
  obtain ⟨x, hx, rfl⟩ := List.mem_map.mp ha
  cases x with
  | nil => exact absurd rfl (h _ hx)
  | cons _ _ => rfl
theorem o_sorted {ls : List Lot} (h : ∀ l ∈ ls, l ≠ []) (hs : ls.length ≤ 1000000) : bltO .sorted [mkLst (ls.map tupI)] = some (mkLst ((sortL ls).map tupI)) := by
  have e : lstO (mkLst (ls.map tupI)) = some (ls.map tupI) := frsO_fr _
  unfold bltO
  dsimp only
  rw [e]
  dsimp only
  rw [sortOk_tups h, List.length_map, show small ls.length = true from decide_eq_true hs, sortD_tups]
  rfl
/-- strictly rising -/
theorem upB_pair : ∀ {ls : List Lot}, ls.Pairwise (fun a b => ltL a b = true) → upB ltL ls = true
  | [], _ => rfl
  | [_], _ => rfl
  | a :: b :: r, h => by
    rw [List.pairwise_cons] at h
    rw [upB, h.1 b List.mem_cons_self, upB_pair h.2]
    rfl
theorem pair_upB : ∀ {ls : List Lot}, upB ltL ls = true → ls.Pairwise (fun a b => ltL a b = true)
  | [], _ => .nil
  | [a], _ => List.pairwise_singleton _ _
  | a :: b :: r, h => by
    rw [upB, Bool.and_eq_true] at h
    have ih := pair_upB h.2
    refine List.pairwise_cons.mpr ⟨fun x hx => ?_, ih⟩
    rcases List.mem_cons.mp hx with rfl | hx
    · exact h.1
    · exact ltL_trans a b x h.1 ((List.pairwise_cons.mp ih).1 x hx)
theorem sortL_strict {ls : List Lot} (h : ls.Nodup) : (sortL ls).Pairwise (fun a b => ltL a b = true) := by
  have h1 := sortL_pair ls
  have h2 : (sortL ls).Nodup := (sortL_perm ls).nodup_iff.mpr h
  refine List.Pairwise.imp₂ ?_ h1 h2
  intro a b h3 h4
  unfold leL at h3
  simp -implicitDefEqProofs at h3
  cases h5 : ltL a b with
  | true => rfl
  | false => exact absurd (ltL_tot a b h5 h3) h4
/-- two strictly rising rows with the same members are the same -/
theorem strict_ext {a b : List Lot} (ha : a.Pairwise (fun x y => ltL x y = true)) (hb : b.Pairwise (fun x y => ltL x y = true)) (h : ∀ x, x ∈ a ↔ x ∈ b) : a = b := by
  have na : a.Nodup := ha.imp fun {x y} h e => by subst e; rw [ltL_irr] at h; cases h
  have nb : b.Nodup := hb.imp fun {x y} h e => by subst e; rw [ltL_irr] at h; cases h
  refine List.Perm.eq_of_pairwise (le := fun x y => ltL x y = true) (fun x y _ _ h1 h2 => by rw [ltL_asym h1] at h2; cases h2) ha hb ?_
  exact (List.perm_ext_iff_of_nodup na nb).mpr h
end DP

set_option Elab.async false
set_option linter.all false
set_option autoImplicit false
set_option maxRecDepth 100000
set_option maxHeartbeats 4000000
/-! P2: the law's draws. -/
namespace DP
open PySem PySem.Spec
structure Row where
  script : List Int
  place : Int
  seed : Int
  rest : Int
def Row.ok (s : Row) : Prop := 0 ≤ s.place ∧ (0 ≤ s.seed ∧ s.seed < 2147483647) ∧ 0 ≤ s.rest
abbrev rowE (s : Row) : OV := .lst [.fr (.list (s.script.map .int)), .fr (.int s.place), .fr (.int s.seed), .fr (.int s.rest)]
/-- one draw -/
def take (s : Row) (many : Int) : Int × Row :=
  if 0 < s.rest then (s.rest.fmod many, { s with rest := s.rest.fdiv many })
  else if (s.script.length : Int) < s.place + 1 then
    (((s.seed * 48271 + 11).fmod 2147483647).fdiv 7 |>.fmod many, { s with place := s.place + 1, seed := (s.seed * 48271 + 11).fmod 2147483647 })
  else
    ((s.script.getD s.place.toNat 0).fmod many, { s with place := s.place + 1, seed := (s.seed * 48271 + s.script.getD s.place.toNat 0 + 11).fmod 2147483647, rest := if 1000000000000000000 ≤ s.script.getD s.place.toNat 0 then (s.script.getD s.place.toNat 0).fdiv many else s.rest })
theorem fmod_lt {a b : Int} (h : 0 < b) : 0 ≤ a.fmod b ∧ a.fmod b < b := by
  rw [Int.fmod_eq_emod_of_nonneg _ (by omega)]
  exact ⟨Int.emod_nonneg _ (by omega), Int.emod_lt_of_pos _ h⟩
theorem fdiv_nn {a b : Int} (ha : 0 ≤ a) (h : 0 < b) : 0 ≤ a.fdiv b := by
  rw [Int.fdiv_eq_ediv_of_nonneg _ (by omega)]
  exact Int.ediv_nonneg ha (by omega)
theorem take_lt {s : Row} {many : Int} (h : 0 < many) : 0 ≤ (take s many).1 ∧ (take s many).1 < many := by
  unfold take
  split
  · exact fmod_lt h
  · split
    · exact fmod_lt h
    · exact fmod_lt h
theorem take_ok {s : Row} {many : Int} (h : 0 < many) (hs : s.ok) : (take s many).2.ok := by
  obtain ⟨h1, h2, h3⟩ := hs
  have e := fmod_lt (a := s.seed * 48271 + 11) (b := 2147483647) (by omega)
  have e' := fmod_lt (a := s.seed * 48271 + s.script.getD s.place.toNat 0 + 11) (b := 2147483647) (by omega)
  unfold take
  split
  · exact ⟨h1, h2, fdiv_nn h3 h⟩
  · split
    · exact ⟨by show 0 ≤ s.place + 1; omega, e, h3⟩
    · refine ⟨by show 0 ≤ s.place + 1; omega, e', ?_⟩
      dsimp only
      split
      · exact fdiv_nn (by omega) h
      · exact h3
theorem okDiv1 {j : Int} (h0 : 0 < j) (h : j < 2 ^ 64) : okDiv j = true := by
  unfold okDiv
  have : j.natAbs.log2 < 9000 := by
    have := (Nat.log2_lt (n := j.natAbs) (k := 64) (by omega)).mpr (by omega)
    omega
  simp -implicitDefEqProofs
  omega
theorem o_div {i j : Int} (h : okDiv j = true) : binO .fdiv (.fr (.int i)) (.fr (.int j)) = some (.fr (.int (i.fdiv j))) := by
  show (if okDiv j then _ else _) = _
  rw [if_pos h]
theorem o_mod {i j : Int} (h : j ≠ 0) : binO .mod (.fr (.int i)) (.fr (.int j)) = some (.fr (.int (i.fmod j))) := by
  show (if decide (j ≠ 0) then _ else _) = _
  rw [if_pos (decide_eq_true h)]
@[simp] theorem intI (i : Int) : bltO .int [.fr (.int i)] = some (.fr (.int i)) := (rfl)
theorem m_taken (n : Nat) (s : Row) (hs : s.ok) (many : Int) (h0 : 0 < many) (h1 : many < 2 ^ 64) : callF G (n + 1) i_f_law_taken [rowE s, .fr (.int many)] = some (.ok (.int (take s many).1), [rowE (take s many).2]) := by
  obtain ⟨g1, g2, g3⟩ := hs
  have em : ∀ i : Int, binO .mod (.fr (.int i)) (.fr (.int many)) = some (.fr (.int (i.fmod many))) := fun i => o_mod (by omega)
  have ed : ∀ i : Int, binO .fdiv (.fr (.int i)) (.fr (.int many)) = some (.fr (.int (i.fdiv many))) := fun i => o_div (okDiv1 h0 h1)
  have e7 : ∀ i : Int, binO .fdiv (.fr (.int i)) (.fr (.int 7)) = some (.fr (.int (i.fdiv 7))) := fun i => o_div (okDiv1 (by omega) (by omega))
  have es : ∀ i : Int, binO .mod (.fr (.int i)) (.fr (.int 2147483647)) = some (.fr (.int (i.fmod 2147483647))) := fun i => o_mod (by omega)
  have ex : binO .mul (.fr (.int s.seed)) (.fr (.int 48271)) = some (.fr (.int (s.seed * 48271))) := o_mul (okMul1 (by omega))
  have ep : binO .pow (.fr (.int 10)) (.fr (.int 18)) = some (.fr (.int 1000000000000000000)) := rfl
  have i0 : ∀ a b c d : OV, L2.atI [a, b, c, d] 0 = some a := fun _ _ _ _ => rfl
  have i1 : ∀ a b c d : OV, L2.atI [a, b, c, d] 1 = some b := fun _ _ _ _ => rfl
  have i2 : ∀ a b c d : OV, L2.atI [a, b, c, d] 2 = some c := fun _ _ _ _ => rfl
  have i3 : ∀ a b c d : OV, L2.atI [a, b, c, d] 3 = some d := fun _ _ _ _ => rfl
  have s1 : ∀ (a b c d v : OV), stoO (.lst [a, b, c, d]) (.int 1) v = some (.lst [a, v, c, d]) := fun _ _ _ _ _ => rfl
  have s2 : ∀ (a b c d v : OV), stoO (.lst [a, b, c, d]) (.int 2) v = some (.lst [a, b, v, d]) := fun _ _ _ _ _ => rfl
  have s3 : ∀ (a b c d v : OV), stoO (.lst [a, b, c, d]) (.int 3) v = some (.lst [a, b, c, v]) := fun _ _ _ _ _ => rfl
  unfold take
  by_cases h2 : 0 < s.rest
  · rw [if_pos h2]
    refine callF_of (F := F_f_law_taken) (r := .ok (.rt (.int (s.rest.fmod many)))) (ρ := [some (rowE { s with rest := s.rest.fdiv many }), some (.fr (.int many)), none, some (.fr (.int (s.rest.fmod many)))]) rfl rfl ?_ rfl
    simp -implicitDefEqProofs [F_f_law_taken, b_f_law_taken, startE, h2, em, ed, i3, s3]
  · rw [if_neg h2]
    by_cases h3 : (s.script.length : Int) < s.place + 1
    · rw [if_pos h3]
      refine callF_of (F := F_f_law_taken) (r := .ok (.rt (.int ((((s.seed * 48271 + 11).fmod 2147483647).fdiv 7).fmod many)))) (ρ := [some (rowE { s with place := s.place + 1, seed := (s.seed * 48271 + 11).fmod 2147483647 }), some (.fr (.int many)), none, none]) rfl rfl ?_ rfl
      simp -implicitDefEqProofs [F_f_law_taken, b_f_law_taken, startE, h2, h3, em, ed, e7, es, ex, i0, i1, i2, i3, s1, s2, s3]
    · rw [if_neg h3]
      have hk : s.place.toNat < s.script.length := by omega
      have ec : L2.atI (s.script.map PyData.int) s.place = some (.int (s.script.getD s.place.toNat 0)) := by
        have := atI_m PyData.int s.script 0 hk
        rw [show ((s.place.toNat : Nat) : Int) = s.place by omega] at this
        exact this
      generalize s.script.getD s.place.toNat 0 = cell at ec ⊢
      by_cases h4 : 1000000000000000000 ≤ cell
      · rw [if_pos h4]
        refine callF_of (F := F_f_law_taken) (r := .ok (.rt (.int (cell.fmod many)))) (ρ := [some (rowE { s with place := s.place + 1, seed := (s.seed * 48271 + cell + 11).fmod 2147483647, rest := cell.fdiv many }), some (.fr (.int many)), some (.fr (.int cell)), none]) rfl rfl ?_ rfl
        simp -implicitDefEqProofs [F_f_law_taken, b_f_law_taken, startE, h2, h3, em, ed, e7, es, ex, ep, i0, i1, i2, i3, s1, s2, s3, ec, h4, Int.add_sub_cancel]
      · rw [if_neg h4]
        refine callF_of (F := F_f_law_taken) (r := .ok (.rt (.int (cell.fmod many)))) (ρ := [some (rowE { s with place := s.place + 1, seed := (s.seed * 48271 + cell + 11).fmod 2147483647 }), some (.fr (.int many)), some (.fr (.int cell)), none]) rfl rfl ?_ rfl
        simp -implicitDefEqProofs [F_f_law_taken, b_f_law_taken, startE, h2, h3, em, ed, e7, es, ex, ep, i0, i1, i2, i3, s1, s2, s3, ec, h4, Int.add_sub_cancel]
end DP
namespace DP
open PySem PySem.Spec
/-- a row or a tuple that is picked from -/
theorem m_pick {s : Row} (n : Nat) (hs : s.ok) (d : PyData) (ds : List PyData) (hd : d = .list ds ∨ d = .tuple ds) (h0 : ds ≠ []) (h1 : ds.length < 2 ^ 64) : callF G (n + 2) i_f_law_pick [rowE s, .fr d] = some (.ok (ds.getD (take s ds.length).1.toNat .none), [rowE (take s ds.length).2]) := by
  have hl : 0 < ds.length := List.length_pos_iff.mpr h0
  have et := m_taken n s hs (ds.length : Int) (by omega) (by omega)
  have hb := take_lt (s := s) (many := (ds.length : Int)) (by omega)
  have ei : L2.atI ds (take s ds.length).1 = some (ds.getD (take s ds.length).1.toNat .none) := by
    have := atI_m (fun x : PyData => x) ds .none (k := (take s ds.length).1.toNat) (by omega)
    rw [List.map_id'] at this
    rw [show (((take s ds.length).1.toNat : Nat) : Int) = (take s ds.length).1 by omega] at this
    exact this
  refine callF_of (F := F_f_law_pick) (r := .ok (.rt (ds.getD (take s ds.length).1.toNat .none))) (ρ := [some (rowE (take s ds.length).2), some (.fr d)]) rfl rfl ?_ rfl
  generalize ds.getD (take s ds.length).1.toNat .none = v at ei ⊢
  rcases hd with rfl | rfl
  · simp -implicitDefEqProofs [F_f_law_pick, b_f_law_pick, startE, et, ei]
  · simp -implicitDefEqProofs [F_f_law_pick, b_f_law_pick, startE, et, ei]
theorem okDivG {j : Int} (h0 : j ≠ 0) (h : j.natAbs < 2 ^ 9000) : okDiv j = true := by
  unfold okDiv
  have : j.natAbs.log2 < 9000 := (Nat.log2_lt (n := j.natAbs) (k := 9000) (by omega)).mpr h
  simp -implicitDefEqProofs
  omega
theorem max_abs (a : Int) : max a (-a) = (a.natAbs : Int) := by omega
theorem m_fr (n : Nat) (a b : Int) (hb : b ≠ 0) (h : b.natAbs < 2 ^ 9000) : callF G (n + 1) i_f_law_fr [.fr (.int a), .fr (.int b)] = some (.ok (fq (Rat.divInt a b)), []) := by
  have hg : Nat.gcd a.natAbs b.natAbs < 2 ^ 9000 := Nat.lt_of_le_of_lt (Nat.le_of_dvd (by omega) (Nat.gcd_dvd_right _ _)) h
  have hg0 : 0 < Nat.gcd a.natAbs b.natAbs := Nat.gcd_pos_of_pos_right _ (by omega)
  have hw : ∀ cf : CF, exS cf (.whl (.cmp .ne (.var 3) (.cst (.int 0))) (.cons (.par [2, 3] (.cons (.var 3) (.cons (.bin .mod (.var 2) (.var 3)) .nil))) .nil)) [some (.fr (.int a)), some (.fr (.int b)), some (.fr (.int (a.natAbs : Int))), some (.fr (.int (b.natAbs : Int)))] =
      some (.ok .nx, [some (.fr (.int a)), some (.fr (.int b)), some (.fr (.int (Nat.gcd a.natAbs b.natAbs : Nat))), some (.fr (.int 0))]) := by
    intro cf
    obtain ⟨⟨x, y⟩, ρ', e, ⟨h1, h2⟩, h3⟩ := s_whl (cf := cf) (c := .cmp .ne (.var 3) (.cst (.int 0))) (b := .cons (.par [2, 3] (.cons (.var 3) (.cons (.bin .mod (.var 2) (.var 3)) .nil))) .nil)
      (fun (s : Nat × Nat) ρ => ρ = [some (.fr (.int a)), some (.fr (.int b)), some (.fr (.int (s.1 : Int))), some (.fr (.int (s.2 : Int)))] ∧ Nat.gcd s.1 s.2 = Nat.gcd a.natAbs b.natAbs) (fun s => !decide (s.2 = 0)) (fun s => (s.2, s.1 % s.2)) (fun s => s.2)
      (fun s ρ h => by
        rw [h.1]
        have : (decide ((s.2 : Int) = 0)) = decide (s.2 = 0) := by
          rw [Bool.eq_iff_iff]
          simp -implicitDefEqProofs
        simp -implicitDefEqProofs [this])
      (fun s ρ h hc => by
        have h0 : s.2 ≠ 0 := by simpa using hc
        have h3 : ¬ (s.2 : Int) = 0 := by omega
        have em : binO .mod (.fr (.int (s.1 : Int))) (.fr (.int (s.2 : Int))) = some (.fr (.int ((s.1 % s.2 : Nat) : Int))) := by
          rw [o_mod h3, Int.fmod_eq_emod_of_nonneg _ (by omega)]
          rfl
        refine ⟨_, ?_, ⟨rfl, ?_⟩, ?_⟩
        · rw [h.1]
          simp -implicitDefEqProofs [em]
        · show Nat.gcd s.2 (s.1 % s.2) = _
          rw [Nat.gcd_comm s.2, ← Nat.gcd_rec, Nat.gcd_comm]
          exact h.2
        · exact Nat.mod_lt _ (Nat.pos_of_ne_zero h0)) (a.natAbs, b.natAbs) _ ⟨rfl, rfl⟩
    have h4 : y = 0 := by simpa using h3
    subst h4
    rw [e, h1]
    simp -implicitDefEqProofs only [Nat.gcd_zero_right] at h2
    rw [h2]
    rfl
  by_cases h0 : 0 < b
  · have ed := fun i => o_div (i := i) (okDivG (j := (Nat.gcd a.natAbs b.natAbs : Nat)) (by omega) (by omega))
    obtain ⟨e1, e2⟩ := low_pos (a := a) h0
    refine callF_of (F := F_f_law_fr) (r := .ok (.rt (fq (Rat.divInt a b)))) (ρ := [some (.fr (.int a)), some (.fr (.int b)), some (.fr (.int (Nat.gcd a.natAbs b.natAbs : Nat))), some (.fr (.int 0))]) rfl rfl ?_ rfl
    simp -implicitDefEqProofs [F_f_law_fr, b_f_law_fr, startE, max_abs, hw, h0, ed, e1, e2]
  · have ed := fun i => o_div (i := i) (okDivG (j := -(Nat.gcd a.natAbs b.natAbs : Nat)) (by omega) (by omega))
    obtain ⟨e1, e2⟩ := low_neg (a := a) (b := b) (by omega)
    refine callF_of (F := F_f_law_fr) (r := .ok (.rt (fq (Rat.divInt a b)))) (ρ := [some (.fr (.int a)), some (.fr (.int b)), some (.fr (.int (-(Nat.gcd a.natAbs b.natAbs : Nat)))), some (.fr (.int 0))]) rfl rfl ?_ rfl
    simp -implicitDefEqProofs [F_f_law_fr, b_f_law_fr, startE, max_abs, hw, h0, ed, e1, e2]
end DP

set_option Elab.async false
set_option linter.all false
set_option autoImplicit false
set_option maxRecDepth 100000
set_option maxHeartbeats 4000000
/-! P2b: the law's lots, lengths, shapes, trees. -/
namespace DP
open PySem PySem.Spec
theorem m_lfit (n : Nat) (a b : Lot) (h : a.length ≤ 1000000) : callF G (n + 1) i_f_law_fit [.fr (tupI a), .fr (tupI b)] = some (.ok (.bool (fitL a b)), []) := by
  refine callF_of (F := F_f_law_fit) (r := .ok (.rt (.bool (fitL a b)))) (ρ := [some (.fr (tupI a)), some (.fr (tupI b)), some (.fr (.int (bothL a b).length)), none]) rfl rfl ?_ rfl
  unfold tupI
  simp -implicitDefEqProofs [F_f_law_fit, b_f_law_fit, startE]
  rw [c_filter PyData.int a (fun t => decide (t ∈ b)) PyData.int (ρ1 := [some (.fr (.tuple (a.map .int))), some (.fr (.tuple (b.map .int))), none, none]) (by simp -implicitDefEqProofs) h (fun t ht => by
    simp -implicitDefEqProofs [c_inI])]
  rw [show (List.filter (fun t => decide (t ∈ b)) a) = bothL a b from rfl]
  have e0 : (decide (((bothL a b).length : Int) = 0)) = (bothL a b).isEmpty := by
    cases bothL a b with
    | nil => rfl
    | cons x l => 
      simp -implicitDefEqProofs
      omega
  have e1 : decide (((bothL a b).length : Int) = (a.length : Int)) = decide ((bothL a b).length = a.length) := by
    rw [Bool.eq_iff_iff]; simp -implicitDefEqProofs; omega
  have e2 : decide (((bothL a b).length : Int) = (b.length : Int)) = decide ((bothL a b).length = b.length) := by
    rw [Bool.eq_iff_iff]; simp -implicitDefEqProofs; omega
  unfold fitL
  rw [← e0, ← e1, ← e2]
  simp -implicitDefEqProofs
def lotsFit (a : Lot) (ls : List Lot) : List Lot := ls.filter fun l => !fitL a l
theorem fits_iff (a : Lot) : ∀ ls : List Lot, (lotsFit a ls).isEmpty = fitsL a ls
  | [] => rfl
  | l :: ls => by
    have ih := fits_iff a ls
    unfold lotsFit fitsL at *
    rw [List.filter_cons, List.all_cons]
    cases fitL a l with
    | true => simpa using ih
    | false => simp -implicitDefEqProofs
theorem m_lall_fit (n : Nat) (a : Lot) (ls : List Lot) (d : PyData) (hd : keysO (.fr d) = some (ls.map tupI)) (h : a.length ≤ 1000000) (h2 : ls.length ≤ 1000000) : callF G (n + 2) i_f_law_all_fit [.fr (tupI a), .fr d] = some (.ok (.bool (fitsL a ls)), []) := by
  refine callF_of (F := F_f_law_all_fit) (r := .ok (.rt (.bool (fitsL a ls)))) (ρ := [some (.fr (tupI a)), some (.fr d), none]) rfl rfl ?_ rfl
  simp -implicitDefEqProofs [F_f_law_all_fit, b_f_law_all_fit, startE]
  rw [c_filter tupI ls (fun l => !fitL a l) tupI (ρ1 := [some (.fr (tupI a)), some (.fr d), none]) (by simp -implicitDefEqProofs [hd]) h2 (fun l hl => by
    simp -implicitDefEqProofs [m_lfit, h])]
  rw [show (List.filter (fun l => !fitL a l) ls) = lotsFit a ls from rfl]
  have e := eq_nil (ds := (lotsFit a ls).map tupI) (k := 1) (pls_tups _) (by omega)
  rw [← fits_iff]
  simp -implicitDefEqProofs [e]
def subs : Nat → List Lot
  | 0 => [[]]
  | k + 1 => subs k ++ (subs k).map (· ++ [(k : Int) + 1])
theorem subs_len : ∀ k, (subs k).length = 2 ^ k
  | 0 => rfl
  | k + 1 => by rw [subs, List.length_append, List.length_map, subs_len k, Nat.pow_succ]; omega
theorem subs_size : ∀ k, ∀ l ∈ subs k, l.length ≤ k
  | 0, l, h => by
    rw [List.mem_singleton.mp h]
    exact Nat.le_refl 0
  | k + 1, l, h => by
    rw [subs, List.mem_append] at h
    rcases h with h | h
    · have := subs_size k l h
      omega
    · obtain ⟨l', h', rfl⟩ := List.mem_map.mp h
      have := subs_size k l' h'
      simp -implicitDefEqProofs
      omega
def lotsL (m : Nat) : List Lot := sortL ((subs m).filter fun l => decide (1 < l.length) && decide (l.length < m))
@[simp] theorem o_addTI (a : Lot) (i : Int) : binO .add (.fr (tupI a)) (.fr (.tuple [.int i])) = if small (a.length + 1) then some (.fr (tupI (a ++ [i]))) else none := by
  unfold tupI
  simp -implicitDefEqProofs
theorem m_lots (n : Nat) (m : Nat) (hm : m ≤ 6) : callF G (n + 1) i_f_law_lots [.fr (.int (m : Int))] = some (.ok (.list ((lotsL m).map tupI)), []) := by
  have hp : ∀ k, k ≤ 6 → (2 : Nat) ^ k ≤ 64 := by decide
  have hloop : ∀ cf : CF, ∃ ρ', exS cf (.fors (.nm 2) (.rng (.cons (.cst (.int 1)) (.cons (.bin .add (.var 0) (.cst (.int 1))) .nil))) (.cons (.asg (.nm 1) (.bin .add (.var 1) (.comp (.bin .add (.var 3) (.tup (.cons (.var 2) .nil))) (.cons (.nm 3) (.it (.var 1)) .nil .nil) [3]))) .nil)) [some (.fr (.int (m : Int))), some (mkLst ((subs 0).map tupI)), none, none] = some (.ok .nx, ρ') ∧ ∃ v, ρ' = [some (.fr (.int (m : Int))), some (mkLst ((subs m).map tupI)), v, none] := by
    intro cf
    have key := s_forI (cf := cf) (t := .nm 2) (i := .rng (.cons (.cst (.int 1)) (.cons (.bin .add (.var 0) (.cst (.int 1))) .nil))) (b := .cons (.asg (.nm 1) (.bin .add (.var 1) (.comp (.bin .add (.var 3) (.tup (.cons (.var 2) .nil))) (.cons (.nm 3) (.it (.var 1)) .nil .nil) [3]))) .nil)
      (ρ := [some (.fr (.int (m : Int))), some (mkLst ((subs 0).map tupI)), none, none]) (ρ1 := [some (.fr (.int (m : Int))), some (mkLst ((subs 0).map tupI)), none, none])
      (fun k : Nat => .int (1 + (k : Int))) (fun k ρ => ∃ v, ρ = [some (.fr (.int (m : Int))), some (mkLst ((subs k).map tupI)), v, none]) (List.range m)
      (by
        simp -implicitDefEqProofs
        rw [rng_int2 (by omega) (by omega) (by omega) (by omega)]
        simp -implicitDefEqProofs)
      ⟨none, rfl⟩
      (fun k hk ρ hp' => by
        obtain ⟨v, rfl⟩ := hp'
        rw [List.length_range] at hk
        have h1 := hp k (by omega)
        refine ⟨[some (.fr (.int (m : Int))), some (mkLst ((subs k).map tupI)), some (.fr (.int (1 + (k : Int)))), none], _, by simp -implicitDefEqProofs, ?_, ⟨some (.fr (.int (1 + (k : Int)))), rfl⟩⟩
        simp -implicitDefEqProofs
        rw [c_map tupI (subs k) (fun l => tupI (l ++ [1 + (k : Int)])) (ρ1 := [some (.fr (.int (m : Int))), some (.fr (.list ((subs k).map tupI))), some (.fr (.int (1 + (k : Int)))), none]) (by simp -implicitDefEqProofs) (by rw [subs_len]; omega) (fun l hl => by
          have := subs_size k l hl
          simp -implicitDefEqProofs [small_of (n := l.length + 1) (by omega)])]
        have h2 : (subs k).length + (subs k).length ≤ 1000000 := by rw [subs_len]; omega
        simp -implicitDefEqProofs [small_of h2, subs, Int.add_comm]
        rfl)
    rw [List.length_range] at key
    exact key
  obtain ⟨ρ', e1, v, rfl⟩ := hloop (callF G n)
  refine callF_of (F := F_f_law_lots) (r := .ok (.rt (.list ((lotsL m).map tupI)))) (ρ := [some (.fr (.int (m : Int))), some (.fr (.list ((subs m).map tupI))), v, none]) rfl rfl ?_ rfl
  have e1' := e1
  rw [show mkLst ((subs 0).map tupI) = OV.lst [OV.fr (PyData.tuple [])] from rfl] at e1'
  simp -implicitDefEqProofs [F_f_law_lots, b_f_law_lots, startE, e1']
  rw [c_filter tupI (subs m) (fun l => decide (1 < l.length) && decide (l.length < m)) tupI (ρ1 := [some (.fr (.int (m : Int))), some (.fr (.list ((subs m).map tupI))), v, none]) (by simp -implicitDefEqProofs) (by rw [subs_len]; have := hp m hm; omega) (fun l hl => by
    unfold tupI
    by_cases h1 : (1 : Int) < l.length
    · have h2 : 1 < l.length := by omega
      simp -implicitDefEqProofs [h1, h2]
    · have h2 : ¬ 1 < l.length := by omega
      simp -implicitDefEqProofs [h1, h2])]
  have e3 := o_sorted (ls := (subs m).filter fun l => decide (1 < l.length) && decide (l.length < m)) (fun l hl e => by
    subst e
    simp -implicitDefEqProofs at hl) (Nat.le_trans (List.length_filter_le _ _) (by rw [subs_len]; have := hp m hm; omega))
  simp -implicitDefEqProofs [e3]
  rfl

def lengthF (s : Row) : Rat × Row :=
  let w := take s 8
  if w.1 < 4 then
    let t := take w.2 ([2, 4, 9, 20].getD w.1.toNat 0)
    (((1 + t.1 : Int) : Rat), t.2)
  else if w.1 = 4 then
    let t := take w.2 500
    (((1 + t.1 : Int) : Rat), t.2)
  else
    let t := take w.2 30
    (Rat.divInt (1 + t.1) 2, t.2)
theorem pick4 {k : Int} (h0 : 0 ≤ k) (h : k < 4) : L2.atI [(OV.fr (PyData.int 2)), .fr (.int 4), .fr (.int 9), .fr (.int 20)] k = some (.fr (.int ([2, 4, 9, 20].getD k.toNat 0))) ∧ (0 : Int) < [2, 4, 9, 20].getD k.toNat 0 ∧ ([2, 4, 9, 20].getD k.toNat 0 : Int) < 21 := by
  have : k = 0 ∨ k = 1 ∨ k = 2 ∨ k = 3 := by omega
  rcases this with rfl | rfl | rfl | rfl <;> exact ⟨rfl, by decide, by decide⟩
theorem fq_int (k : Int) : fq (k : Rat) = .tuple [.int k, .int 1] := by
  unfold fq
  rw [Rat.num_intCast, Rat.den_intCast]
  rfl
theorem lengthF_ok {s : Row} (hs : s.ok) : (lengthF s).2.ok ∧ lenB (lengthF s).1 = true := by
  have h1 := take_ok (s := s) (many := 8) (by omega) hs
  have h2 := take_lt (s := s) (many := 8) (by omega)
  unfold lengthF
  dsimp only
  have hi : ∀ k : Int, 0 ≤ k → k < 500 → lenB ((1 + k : Int) : Rat) = true := fun k h0 h => by
    unfold lenB
    rw [Rat.num_intCast, Rat.den_intCast]
    simp -implicitDefEqProofs
    omega
  split
  · rename_i h3
    obtain ⟨_, h4, h5⟩ := pick4 h2.1 h3
    have h6 := take_lt (s := (take s 8).2) h4
    exact ⟨take_ok h4 h1, hi _ h6.1 (by omega)⟩
  · split
    · have h6 := take_lt (s := (take s 8).2) (many := 500) (by omega)
      exact ⟨take_ok (by omega) h1, hi _ h6.1 (by omega)⟩
    · have h6 := take_lt (s := (take s 8).2) (many := 30) (by omega)
      refine ⟨take_ok (by omega) h1, ?_⟩
      have hk : ∀ k : Fin 30, lenB (Rat.divInt (1 + (k.val : Int)) 2) = true := by decide +kernel
      have := hk ⟨(take (take s 8).2 30).1.toNat, by omega⟩
      rw [show (((take (take s 8).2 30).1.toNat : Nat) : Int) = (take (take s 8).2 30).1 by omega] at this
      exact this
theorem m_length (n : Nat) (s : Row) (hs : s.ok) : callF G (n + 2) i_f_law_length [rowE s] = some (.ok (fq (lengthF s).1), [rowE (lengthF s).2]) := by
  have e1 := m_taken n s hs 8 (by omega) (by omega)
  have h1 := take_ok (s := s) (many := 8) (by omega) hs
  have h2 := take_lt (s := s) (many := 8) (by omega)
  unfold lengthF
  dsimp only
  generalize take s 8 = w at e1 h1 h2 ⊢
  obtain ⟨w, s1⟩ := w
  dsimp only at e1 h1 h2 ⊢
  by_cases h3 : w < 4
  · rw [if_pos h3]
    obtain ⟨h4, h5, h6⟩ := pick4 h2.1 h3
    dsimp only
    have e2 := m_taken n s1 h1 ([2, 4, 9, 20].getD w.toNat 0) (by omega) (by omega)
    generalize ([2, 4, 9, 20].getD w.toNat 0 : Int) = many at e2 h4 h5 h6 ⊢
    refine callF_of (F := F_f_law_length) (r := .ok (.rt (fq ((1 + (take s1 many).1 : Int) : Rat)))) (ρ := [some (rowE (take s1 many).2), some (.fr (.int w))]) rfl rfl ?_ rfl
    rw [fq_int]
    simp -implicitDefEqProofs [F_f_law_length, b_f_law_length, startE, e1, e2, h3, h4]
  · rw [if_neg h3]
    by_cases h4 : w = 4
    · rw [if_pos h4]
      subst h4
      have e2 := m_taken n s1 h1 500 (by omega) (by omega)
      refine callF_of (F := F_f_law_length) (r := .ok (.rt (fq ((1 + (take s1 500).1 : Int) : Rat)))) (ρ := [some (rowE (take s1 500).2), some (.fr (.int 4))]) rfl rfl ?_ rfl
      rw [fq_int]
      simp -implicitDefEqProofs [F_f_law_length, b_f_law_length, startE, e1, e2]
    · rw [if_neg h4]
      have e2 := m_taken n s1 h1 30 (by omega) (by omega)
      have e3 := m_fr n (1 + (take s1 30).1) 2 (by omega) (Nat.lt_of_lt_of_le (by decide : (2 : Int).natAbs < 2 ^ 64) (Nat.pow_le_pow_right (by omega) (by omega)))
      refine callF_of (F := F_f_law_length) (r := .ok (.rt (fq (Rat.divInt (1 + (take s1 30).1) 2)))) (ρ := [some (rowE (take s1 30).2), some (.fr (.int w))]) rfl rfl ?_ rfl
      simp -implicitDefEqProofs [F_f_law_length, b_f_law_length, startE, e1, e2, e3, h3, h4]
end DP

set_option Elab.async false
set_option linter.all false
set_option autoImplicit false
set_option maxRecDepth 100000
set_option maxHeartbeats 4000000
/-! P2c: the law's shapes and trees. -/
namespace DP
open PySem PySem.Spec
/-- the lots that may still come -/
def freeL (m : Nat) (found : List Lot) : List Lot := (lotsL m).filter fun l => !decide (l ∈ found) && fitsL l found
def growS (m : Nat) (x : List Lot × Row) : List Lot × Row :=
  if (freeL m x.1).isEmpty then x else (x.1 ++ [(freeL m x.1).getD (take x.2 ((freeL m x.1).length : Int)).1.toNat []], (take x.2 ((freeL m x.1).length : Int)).2)
def growF (m : Nat) : Nat → List Lot × Row → List Lot × Row
  | 0, x => x
  | k + 1, x => growS m (growF m k x)
/-- the lots of a shape, drawn -/
def shapeF (m : Nat) (s : Row) (held : List Lot) (roads : Int) : List Lot × Row :=
  (sortL (growF m (max 0 (roads - held.length)).toNat (held, s)).1, (growF m (max 0 (roads - held.length)).toNat (held, s)).2)
theorem freeL_len (m : Nat) (hm : m ≤ 6) (found : List Lot) : (freeL m found).length ≤ 64 := by
  have hp : ∀ k, k ≤ 6 → (2 : Nat) ^ k ≤ 64 := by decide
  unfold freeL lotsL
  refine Nat.le_trans (List.length_filter_le _ _) ?_
  rw [sortL_len]
  refine Nat.le_trans (List.length_filter_le _ _) ?_
  rw [subs_len]
  exact hp m hm
theorem mem_lotsL {m : Nat} {l : Lot} : l ∈ lotsL m ↔ l ∈ subs m ∧ 1 < l.length ∧ l.length < m := by
  unfold lotsL
  rw [mem_sortL, List.mem_filter]
  simp -implicitDefEqProofs
theorem growS_len (m : Nat) (x : List Lot × Row) : (growS m x).1.length ≤ x.1.length + 1 := by
  unfold growS
  split
  · omega
  · simp -implicitDefEqProofs
theorem growF_len (m : Nat) : ∀ k x, (growF m k x).1.length ≤ x.1.length + k
  | 0, x => Nat.le_refl _
  | k + 1, x => by
    have := growF_len m k x
    have := growS_len m (growF m k x)
    rw [growF]
    omega
/-- the lots that are held together -/
def Fit (m : Nat) (ls : List Lot) : Prop := (∀ l ∈ ls, l ∈ lotsL m) ∧ ls.Nodup ∧ ls.Pairwise (fun a b => fitL a b = true ∧ fitL b a = true)
theorem mem_subs_up : ∀ (k : Nat) (l : Lot), l ∈ subs k → l.Pairwise (fun a b => a < b) ∧ ∀ t ∈ l, 1 ≤ t ∧ t ≤ k
  | 0, l, h => by
    rw [List.mem_singleton.mp h]
    exact ⟨.nil, fun t ht => by cases ht⟩
  | k + 1, l, h => by
    rw [subs, List.mem_append] at h
    rcases h with h | h
    · obtain ⟨h1, h2⟩ := mem_subs_up k l h
      exact ⟨h1, fun t ht => by have := h2 t ht; omega⟩
    · obtain ⟨l', h', rfl⟩ := List.mem_map.mp h
      obtain ⟨h1, h2⟩ := mem_subs_up k l' h'
      refine ⟨List.pairwise_append.mpr ⟨h1, List.pairwise_singleton _ _, fun a ha b hb => ?_⟩, fun t ht => ?_⟩
      · rw [List.mem_singleton.mp hb]
        have := h2 a ha
        omega
      · rcases List.mem_append.mp ht with ht | ht
        · have := h2 t ht
          omega
        · rw [List.mem_singleton.mp ht]
          omega
theorem upI_pair : ∀ {l : Lot}, l.Pairwise (fun a b => a < b) → upI l = true
  | [], _ => rfl
  | [_], _ => rfl
  | a :: b :: r, h => by
    rw [List.pairwise_cons] at h
    show (decide (a < b) && upI (b :: r)) = true
    rw [decide_eq_true (h.1 b List.mem_cons_self), upI_pair h.2]
    rfl
theorem pair_upI : ∀ {l : Lot}, upI l = true → l.Pairwise (fun a b => a < b)
  | [], _ => .nil
  | [a], _ => List.pairwise_singleton _ _
  | a :: b :: r, h => by
    have h' : (decide (a < b) && upI (b :: r)) = true := h
    rw [Bool.and_eq_true, decide_eq_true_eq] at h'
    have ih := pair_upI h'.2
    refine List.pairwise_cons.mpr ⟨fun x hx => ?_, ih⟩
    rcases List.mem_cons.mp hx with rfl | hx
    · exact h'.1
    · have := (List.pairwise_cons.mp ih).1 x hx
      omega
theorem up_nodup {l : Lot} (h : l.Pairwise (fun a b => a < b)) : l.Nodup := h.imp fun {a b} h e => by omega
theorem lotB_of {m : Nat} {l : Lot} (h : l ∈ lotsL m) : lotB m l = true := by
  obtain ⟨h1, h2, h3⟩ := mem_lotsL.mp h
  obtain ⟨h4, h5⟩ := mem_subs_up m l h1
  unfold lotB
  rw [upI_pair h4]
  have : (l.all fun t => decide (1 ≤ t) && decide (t ≤ (m : Int))) = true := by
    rw [List.all_eq_true]
    intro t ht
    have := h5 t ht
    simp -implicitDefEqProofs
    omega
  rw [this]
  simp -implicitDefEqProofs
  omega
/-- whether tips are held in both -/
theorem mem_both {a b : Lot} {t : Int} : t ∈ bothL a b ↔ t ∈ a ∧ t ∈ b := by
  unfold bothL
  simp -implicitDefEqProofs
theorem both_len {a b : Lot} (ha : a.Nodup) (hb : b.Nodup) : (bothL a b).length = (bothL b a).length := by
  refine List.Perm.length_eq ?_
  refine (List.perm_ext_iff_of_nodup (l₁ := bothL a b) (l₂ := bothL b a) (ha.filter _) (hb.filter _)).mpr fun t => ?_
  rw [mem_both, mem_both, and_comm]
theorem fitL_comm {a b : Lot} (ha : a.Nodup) (hb : b.Nodup) : fitL a b = fitL b a := by
  have e := both_len ha hb
  have e0 : (bothL a b).isEmpty = (bothL b a).isEmpty := by
    rw [Bool.eq_iff_iff, List.isEmpty_iff_length_eq_zero, List.isEmpty_iff_length_eq_zero, e]
  unfold fitL
  rw [e0, e]
  generalize (bothL b a).isEmpty = u
  cases u <;> simp -implicitDefEqProofs [Bool.or_comm]
theorem lot_nodup {m : Nat} {l : Lot} (h : l ∈ lotsL m) : l.Nodup := up_nodup (mem_subs_up m l (mem_lotsL.mp h).1).1
theorem growS_ok {m : Nat} {x : List Lot × Row} (hm : m ≤ 6) (hs : x.2.ok) (hf : Fit m x.1) : (growS m x).2.ok ∧ Fit m (growS m x).1 ∧ ∀ l ∈ x.1, l ∈ (growS m x).1 := by
  unfold growS
  split
  · exact ⟨hs, hf, fun _ h => h⟩
  · rename_i h
    have h0 : (freeL m x.1) ≠ [] := by simpa using h
    have hl : 0 < (freeL m x.1).length := List.length_pos_iff.mpr h0
    have ht := take_lt (s := x.2) (many := ((freeL m x.1).length : Int)) (by omega)
    refine ⟨take_ok (by omega) hs, ?_, fun l h => List.mem_append_left _ h⟩
    have hmem : (freeL m x.1).getD (take x.2 ((freeL m x.1).length : Int)).1.toNat [] ∈ freeL m x.1 := by
      rw [List.getD_eq_getElem?_getD, List.getElem?_eq_getElem (by omega)]
      exact List.getElem_mem _
    generalize (freeL m x.1).getD (take x.2 ((freeL m x.1).length : Int)).1.toNat [] = l at hmem ⊢
    unfold freeL at hmem
    rw [List.mem_filter] at hmem
    obtain ⟨hm1, hm2⟩ := hmem
    simp -implicitDefEqProofs at hm2
    obtain ⟨hf1, hf2, hf3⟩ := hf
    refine ⟨fun a ha => ?_, ?_, ?_⟩
    · rcases List.mem_append.mp ha with ha | ha
      · exact hf1 a ha
      · rw [List.mem_singleton.mp ha]
        exact hm1
    · rw [List.nodup_append]
      exact ⟨hf2, by simp -implicitDefEqProofs, fun a ha b hb e => by
        rw [List.mem_singleton.mp hb] at e
        subst e
        exact hm2.1 ha⟩
    · refine List.pairwise_append.mpr ⟨hf3, List.pairwise_singleton _ _, fun a ha b hb => ?_⟩
      rw [List.mem_singleton.mp hb]
      have h1 : fitL l a = true := List.all_eq_true.mp hm2.2 a ha
      exact ⟨by rw [fitL_comm (lot_nodup (hf1 a ha)) (lot_nodup hm1)]; exact h1, h1⟩
theorem growF_ok {m : Nat} (hm : m ≤ 6) : ∀ (k : Nat) (x : List Lot × Row), x.2.ok → Fit m x.1 → (growF m k x).2.ok ∧ Fit m (growF m k x).1 ∧ ∀ l ∈ x.1, l ∈ (growF m k x).1
  | 0, x, h1, h2 => ⟨h1, h2, fun _ h => h⟩
  | k + 1, x, h1, h2 => by
    obtain ⟨i1, i2, i3⟩ := growF_ok hm k x h1 h2
    obtain ⟨j1, j2, j3⟩ := growS_ok hm i1 i2
    exact ⟨j1, j2, fun l h => j3 l (i3 l h)⟩
theorem Fit.perm {m : Nat} {a b : List Lot} (h : Fit m a) (p : b.Perm a) : Fit m b :=
  ⟨fun l hl => h.1 l (p.mem_iff.mp hl), p.nodup_iff.mpr h.2.1, (p.pairwise_iff (fun {x y} h => ⟨h.2, h.1⟩)).mpr h.2.2⟩
theorem shape_of_fit {m : Nat} {ls : List Lot} (h : Fit m ls) (hu : ls.Pairwise (fun a b => ltL a b = true)) : shapeB m ls = true := by
  unfold shapeB
  have h1 : ls.all (lotB m) = true := List.all_eq_true.mpr fun l hl => lotB_of (h.1 l hl)
  rw [h1, upB_pair hu]
  simp -implicitDefEqProofs only [Bool.true_and, List.all_eq_true]
  intro i hi
  rw [List.mem_range] at hi
  unfold fitsL
  rw [List.all_eq_true]
  intro l hl
  obtain ⟨j, hj, e⟩ := List.mem_take_iff_getElem.mp hl
  have h2 := List.pairwise_iff_getElem.mp h.2.2 j i (by omega) hi (by omega)
  rw [List.getD_eq_getElem?_getD, List.getElem?_eq_getElem hi, ← e]
  exact h2.2
theorem shapeF_ok {m : Nat} (hm : m ≤ 6) {s : Row} (hs : s.ok) {held : List Lot} (hh : Fit m held) (roads : Int) :
    (shapeF m s held roads).2.ok ∧ Fit m (shapeF m s held roads).1 ∧ (shapeF m s held roads).1.Pairwise (fun a b => ltL a b = true) ∧ (∀ l ∈ held, l ∈ (shapeF m s held roads).1) ∧ (((shapeF m s held roads).1.length : Int) ≤ max roads held.length) := by
  obtain ⟨h1, h2, h3⟩ := growF_ok hm (max 0 (roads - held.length)).toNat (held, s) hs hh
  unfold shapeF
  dsimp only
  refine ⟨h1, h2.perm (sortL_perm _), sortL_strict h2.2.1, fun l h => mem_sortL.mpr (h3 l h), ?_⟩
  rw [sortL_len]
  have := growF_len m (max 0 (roads - held.length)).toNat (held, s)
  dsimp only at this
  omega

theorem lot_len {m : Nat} {l : Lot} (h : l ∈ lotsL m) : l.length < m := (mem_lotsL.mp h).2.2
theorem keys_list (ds : List PyData) : keysO (.fr (.list ds)) = some ds := rfl
theorem m_shape (n : Nat) (m : Nat) (hm : m ≤ 6) (s : Row) (hs : s.ok) (held : List Lot) (hh : Fit m held) (hl : held.length ≤ 100) (roads : Int) (hr : roads ≤ 100) :
    callF G (n + 3) i_f_law_shape [rowE s, .fr (.int (m : Int)), .fr (.tuple (held.map tupI)), .fr (.int roads)] = some (.ok (.tuple ((shapeF m s held roads).1.map tupI)), [rowE (shapeF m s held roads).2]) := by
  have key := s_forI (cf := callF G (n + 2)) (t := .nm 5) (i := .rng (.cons (.blt .max (.cons (.cst (.int 0)) (.cons (.bin .sub (.var 3) (.blt .len (.cons (.var 2) .nil))) .nil))) .nil))
    (b := (.cons (.asg (.nm 6) (.comp (.var 7) (.cons (.nm 7) (.it (.call 57 [.v] (.cons (.var 1) .nil))) (.cons (.bo true (.cons (.cmp .notin (.var 7) (.var 4)) (.cons (.call 56 [.v, .pk] (.cons (.var 7) (.cons (.var 4) .nil))) .nil))) .nil) .nil) [7])) (.cons (.ifs (.cmp .ne (.var 6) (.lst .nil)) (.cons (.exp (.mut .append (.var 4) (.cons (.call 21 [.io, .v] (.cons (.var 0) (.cons (.var 6) .nil))) .nil))) .nil) .nil) .nil)))
    (ρ := [some (rowE s), some (.fr (.int (m : Int))), some (.fr (.tuple (held.map tupI))), some (.fr (.int roads)), some (mkLst (held.map tupI)), none, none, none])
    (ρ1 := [some (rowE s), some (.fr (.int (m : Int))), some (.fr (.tuple (held.map tupI))), some (.fr (.int roads)), some (mkLst (held.map tupI)), none, none, none])
    natD (fun k ρ => ∃ v w, ρ = [some (rowE (growF m k (held, s)).2), some (.fr (.int (m : Int))), some (.fr (.tuple (held.map tupI))), some (.fr (.int roads)), some (mkLst ((growF m k (held, s)).1.map tupI)), v, w, none])
    (List.range (max 0 (roads - held.length)).toNat)
    (by
      simp -implicitDefEqProofs
      rw [rng_int (by omega) (by omega)]
      simp -implicitDefEqProofs)
    ⟨none, none, rfl⟩
    (fun k hk ρ hp => by
      obtain ⟨v, w, rfl⟩ := hp
      rw [List.length_range] at hk
      obtain ⟨g1, g2, g3⟩ := growF_ok hm k (held, s) hs hh
      have g4 := growF_len m k (held, s)
      generalize hx : growF m k (held, s) = x at g1 g2 g3 g4
      have hfl := freeL_len m hm x.1
      dsimp only at g4
      have hx1 : x.1.length ≤ 1000 := by omega
      refine ⟨[some (rowE x.2), some (.fr (.int (m : Int))), some (.fr (.tuple (held.map tupI))), some (.fr (.int roads)), some (mkLst (x.1.map tupI)), some (.fr (.int (k : Int))), w, none], [some (rowE (growS m x).2), some (.fr (.int (m : Int))), some (.fr (.tuple (held.map tupI))), some (.fr (.int roads)), some (mkLst ((growS m x).1.map tupI)), some (.fr (.int (k : Int))), some (if (freeL m x.1).isEmpty then mkLst [] else .fr (.list ((freeL m x.1).map tupI))), none], by simp -implicitDefEqProofs [natD], ?_, ⟨_, _, by rw [growF, hx]⟩⟩
      have hlots : (lotsL m).length ≤ 1000000 := by
        have hp : ∀ k, k ≤ 6 → (2 : Nat) ^ k ≤ 64 := by decide
        unfold lotsL
        rw [sortL_len]
        refine Nat.le_trans (List.length_filter_le _ _) ?_
        rw [subs_len]
        have := hp m hm
        omega
      have hnin : ∀ l : Lot, cmpD .notin (tupI l) (.list (x.1.map tupI)) = some (!decide (l ∈ x.1)) := fun l =>
        c_nin (c_inL (k := 1) (j := 1) (pl_tupI 0 l) (pls_tups _) (by omega) (by omega) (by rw [mem_tups]; simp -implicitDefEqProofs))
      simp -implicitDefEqProofs
      rw [c_filter tupI (lotsL m) (fun l => !decide (l ∈ x.1) && fitsL l x.1) tupI (ρ1 := [some (rowE x.2), some (.fr (.int (m : Int))), some (.fr (.tuple (held.map tupI))), some (.fr (.int roads)), some (mkLst (x.1.map tupI)), some (.fr (.int (k : Int))), w, none])
        (by simp -implicitDefEqProofs [m_lots (n + 1) m hm]) hlots (fun l hl => by
          have hlen := lot_len hl
          have e := m_lall_fit n l x.1 (.list (x.1.map tupI)) rfl (by omega) (by omega)
          simp -implicitDefEqProofs [hnin, e]
          by_cases h : l ∈ x.1 <;> simp -implicitDefEqProofs [h, e, noList])]
      rw [show ((lotsL m).filter fun l => !decide (l ∈ x.1) && fitsL l x.1) = freeL m x.1 from rfl]
      have en := ne_nil (ds := (freeL m x.1).map tupI) (k := 1) (pls_tups _) (by omega)
      have en0 : cmpD .ne (.list []) (.list []) = some false := ne_nil (ds := []) (k := 0) rfl (by omega)
      cases h0 : (freeL m x.1).isEmpty with
      | true =>
        have h1 : freeL m x.1 = [] := by simpa using h0
        unfold growS
        rw [h1]
        simp -implicitDefEqProofs [en0]
      | false =>
        have h1 : freeL m x.1 ≠ [] := by simpa using h0
        have ep := m_pick (n + 0) g1 (.list ((freeL m x.1).map tupI)) ((freeL m x.1).map tupI) (.inl rfl) (by simpa using h1) (by rw [List.length_map]; omega)
        have eg : ((freeL m x.1).map tupI).getD (take x.2 (((freeL m x.1).map tupI).length : Int)).1.toNat .none = tupI ((freeL m x.1).getD (take x.2 ((freeL m x.1).length : Int)).1.toNat []) := by
          rw [List.length_map]
          have hl : 0 < (freeL m x.1).length := List.length_pos_iff.mpr h1
          have ht := take_lt (s := x.2) (many := ((freeL m x.1).length : Int)) (by omega)
          rw [List.getD_eq_getElem?_getD, List.getD_eq_getElem?_getD, List.getElem?_map, List.getElem?_eq_getElem (by omega)]
          rfl
        rw [eg, List.length_map] at ep
        have em := fun l : Lot => mut_app (ds := x.1.map tupI) (tupI l) (by rw [List.length_map]; omega)
        unfold growS
        rw [h0]
        generalize hp : take x.2 ((freeL m x.1).length : Int) = p at ep
        generalize (freeL m x.1).getD p.1.toNat [] = l at ep ⊢
        simp -implicitDefEqProofs [en, h0, ep, em, hp]
        exact fun h => absurd h h1)
  rw [List.length_range] at key
  obtain ⟨ρ', e1, v, w, rfl⟩ := key
  obtain ⟨g1, g2, g3⟩ := growF_ok hm (max 0 (roads - held.length)).toNat (held, s) hs hh
  have g4 := growF_len m (max 0 (roads - held.length)).toNat (held, s)
  unfold shapeF
  dsimp only
  generalize growF m (max 0 (roads - held.length)).toNat (held, s) = x at e1 g1 g2 g3 g4 ⊢
  dsimp only at g4
  refine callF_of (F := F_f_law_shape) (r := .ok (.rt (.tuple ((sortL x.1).map tupI)))) (ρ := [some (rowE x.2), some (.fr (.int (m : Int))), some (.fr (.tuple (held.map tupI))), some (.fr (.int roads)), some (mkLst (x.1.map tupI)), v, w, none]) rfl rfl ?_ rfl
  have e3 := o_sorted (ls := x.1) (fun l hl e => by
    have := (mem_lotsL.mp (g2.1 l hl)).2.1
    rw [e] at this
    simp at this) (by omega)
  simp -implicitDefEqProofs [F_f_law_shape, b_f_law_shape, startE, e1, e3]
/-- a tree, drawn -/
def treeF (m : Nat) (s : Row) (held : List Lot) : List Road × Row :=
  let t := take s 3
  let r := if 0 < t.1 then ((m : Int) - 2, t.2) else take t.2 ((m : Int) - 1)
  let p := shapeF m r.2 held r.1
  (stMap (fun s l => (l, (lengthF s).1)) (fun s _ => (lengthF s).2) p.1 p.2, p.1.foldl (fun s _ => (lengthF s).2) p.2)
theorem stMap_fst : ∀ (ls : List Lot) (s : Row), (stMap (fun s l => (l, (lengthF s).1)) (fun s _ => (lengthF s).2) ls s).map Prod.fst = ls
  | [], _ => rfl
  | l :: ls, s => by rw [stMap, List.map_cons, stMap_fst ls]
theorem stMap_len_ok : ∀ (ls : List Lot) (s : Row), s.ok → ∀ r ∈ stMap (fun s l => (l, (lengthF s).1)) (fun s _ => (lengthF s).2) ls s, lenB r.2 = true
  | [], _, _, r, h => by cases h
  | l :: ls, s, hs, r, h => by
    rw [stMap] at h
    rcases List.mem_cons.mp h with rfl | h
    · exact (lengthF_ok hs).2
    · exact stMap_len_ok ls _ (lengthF_ok hs).1 r h
theorem fold_ok : ∀ (ls : List Lot) (s : Row), s.ok → (ls.foldl (fun s _ => (lengthF s).2) s).ok
  | [], _, h => h
  | l :: ls, s, h => fold_ok ls _ (lengthF_ok h).1
theorem treeF_ok {m : Nat} (h3 : 3 ≤ m) (hm : m ≤ 6) {s : Row} (hs : s.ok) {held : List Lot} (hh : Fit m held) (hl : held.length ≤ m - 2) :
    (treeF m s held).2.ok ∧ treeB m (treeF m s held).1 = true ∧ Fit m ((treeF m s held).1.map Prod.fst) ∧ (∀ l ∈ held, l ∈ (treeF m s held).1.map Prod.fst) ∧ (treeF m s held).1.length ≤ m - 2 := by
  unfold treeF
  dsimp only
  have h1 := take_ok (s := s) (many := 3) (by omega) hs
  generalize take s 3 = t at h1 ⊢
  have hr : (if 0 < t.1 then ((m : Int) - 2, t.2) else take t.2 ((m : Int) - 1)).2.ok ∧ (if 0 < t.1 then ((m : Int) - 2, t.2) else take t.2 ((m : Int) - 1)).1 ≤ (m : Int) - 2 := by
    split
    · exact ⟨h1, Int.le_refl _⟩
    · have := take_lt (s := t.2) (many := (m : Int) - 1) (by omega)
      exact ⟨take_ok (by omega) h1, by omega⟩
  generalize (if 0 < t.1 then ((m : Int) - 2, t.2) else take t.2 ((m : Int) - 1)) = r at hr ⊢
  obtain ⟨p1, p2, p3, p4, p5⟩ := shapeF_ok hm hr.1 hh r.1
  generalize shapeF m r.2 held r.1 = p at p1 p2 p3 p4 p5 ⊢
  have e := stMap_fst p.1 p.2
  refine ⟨fold_ok _ _ p1, ?_, by rw [e]; exact p2, by rw [e]; exact p4, ?_⟩
  · unfold treeB
    rw [e, shape_of_fit p2 p3]
    simp
    exact ⟨⟨by omega, by omega⟩, fun l q h => stMap_len_ok _ _ p1 _ h⟩
  · rw [stMap_len]
    omega
theorem m_tree (n : Nat) (m : Nat) (h3 : 3 ≤ m) (hm : m ≤ 6) (s : Row) (hs : s.ok) (held : List Lot) (hh : Fit m held) (hl : held.length ≤ m - 2) :
    callF G (n + 4) i_f_law_tree [rowE s, .fr (.int (m : Int)), .fr (.tuple (held.map tupI))] = some (.ok (treeE m (treeF m s held).1), [rowE (treeF m s held).2]) := by
  have e1 := m_taken (n + 2) s hs 3 (by omega) (by omega)
  have h1 := take_ok (s := s) (many := 3) (by omega) hs
  have hb := take_lt (s := s) (many := 3) (by omega)
  unfold treeF
  dsimp only
  generalize take s 3 = t at e1 h1 hb ⊢
  have e2 := m_taken (n + 2) t.2 h1 ((m : Int) - 1) (by omega) (by omega)
  have hb2 := take_lt (s := t.2) (many := (m : Int) - 1) (by omega)
  have h2 := take_ok (s := t.2) (many := (m : Int) - 1) (by omega) h1
  generalize hr : (if 0 < t.1 then ((m : Int) - 2, t.2) else take t.2 ((m : Int) - 1)) = r
  have hro : r.2.ok ∧ r.1 ≤ (m : Int) - 2 := by
    rw [← hr]
    split
    · exact ⟨h1, Int.le_refl _⟩
    · exact ⟨h2, by omega⟩
  have e3 := m_shape n m hm r.2 hro.1 held hh (by omega) r.1 (by omega)
  obtain ⟨p1, p2, p3, p4, p5⟩ := shapeF_ok hm hro.1 hh r.1
  generalize shapeF m r.2 held r.1 = p at e3 p1 p2 p3 p4 p5 ⊢
  have hp : p.1.length ≤ 1000000 := by omega
  refine callF_of (F := F_f_law_tree) (r := .ok (.rt (treeE m (stMap (fun s l => (l, (lengthF s).1)) (fun s _ => (lengthF s).2) p.1 p.2)))) (ρ := [some (rowE (p.1.foldl (fun s _ => (lengthF s).2) p.2)), some (.fr (.int (m : Int))), some (.fr (.tuple (held.map tupI))), some (.fr (.int r.1)), none]) rfl rfl ?_ rfl
  obtain ⟨c1, c2⟩ := c_st (cf := callF G (n + 3)) (m := true) (elt := .tup (.cons (.var 4) (.cons (.call 58 [.io] (.cons (.var 0) .nil)) .nil))) (t := .nm 4) (i := .it (.call 59 [.io, .v, .v, .v] (.cons (.var 0) (.cons (.var 1) (.cons (.var 2) (.cons (.var 3) .nil)))))) (own := [4])
    (ρ := [some (rowE r.2), some (.fr (.int (m : Int))), some (.fr (.tuple (held.map tupI))), some (.fr (.int r.1)), none]) (ρ1 := [some (rowE p.2), some (.fr (.int (m : Int))), some (.fr (.tuple (held.map tupI))), some (.fr (.int r.1)), none]) tupI p.1
    (fun s => [some (rowE s), some (.fr (.int (m : Int))), some (.fr (.tuple (held.map tupI))), some (.fr (.int r.1)), none]) (fun s l => roadE (l, (lengthF s).1)) (fun s _ => (lengthF s).2) Row.ok p.2
    (by simp -implicitDefEqProofs [e3]) (by simp) p1 hp (fun s hs x hx => ⟨(lengthF_ok hs).1, by
      have e4 := m_length (n + 1) s hs
      simp -implicitDefEqProofs [e4, roadE]⟩)
  have e5 : (stMap (fun s l => (l, (lengthF s).1)) (fun s _ => (lengthF s).2) p.1 p.2).map roadE = stMap (fun s l => roadE (l, (lengthF s).1)) (fun s _ => (lengthF s).2) p.1 p.2 := stMap_map roadE _ _ _ _
  by_cases h0 : 0 < t.1
  · rw [if_pos h0] at hr
    subst hr
    simp -implicitDefEqProofs [F_f_law_tree, b_f_law_tree, startE, e1, h0, c2, e5]
  · rw [if_neg h0] at hr
    subst hr
    simp -implicitDefEqProofs [F_f_law_tree, b_f_law_tree, startE, e1, e2, h0, c2, e5]
end DP

set_option Elab.async false
set_option linter.all false
set_option autoImplicit false
set_option maxRecDepth 100000
set_option maxHeartbeats 4000000
set_option exponentiation.threshold 10000
/-! MQ: arithmetic with fractions. -/
namespace DP
open PySem PySem.Spec
theorem okMulB {i j : Int} {A B : Nat} (hi : i.natAbs < 2 ^ A) (hj : j.natAbs < 2 ^ B) (h : A + B ≤ 100000) : okMul i j = true := by
  have key : ∀ {i : Int} {A : Nat}, i.natAbs < 2 ^ A → Builtin.Int.intBits i ≤ A + 1 := fun {i A} hi => by
    unfold Builtin.Int.intBits
    split
    · omega
    · rename_i h0
      have h1 : i.natAbs ≠ 0 := by simpa using h0
      have := (Nat.log2_lt h1).mpr hi
      omega
  have h1 := key hi
  have h2 := key hj
  unfold okMul
  simp only [Bool.or_eq_true, decide_eq_true_eq]
  right
  omega
theorem low_lt (B : Nat) (hB : B ≤ 8000) : 2 ^ B < 2 ^ 9000 := Nat.pow_lt_pow_right (by omega) (by omega)
theorem m_lowest (n : Nat) (a b : Int) (hb : b ≠ 0) (h : b.natAbs < 2 ^ 8000) : callF G (n + 1) i_flowest [.fr (.int a), .fr (.int b)] = some (.ok (fq (Rat.divInt a b)), []) := by
  have hg : Nat.gcd a.natAbs b.natAbs < 2 ^ 9000 := Nat.lt_of_le_of_lt (Nat.le_of_dvd (by omega) (Nat.gcd_dvd_right _ _)) (Nat.lt_trans h (low_lt 8000 (by omega)))
  have hg0 : 0 < Nat.gcd a.natAbs b.natAbs := Nat.gcd_pos_of_pos_right _ (by omega)
  generalize hG : (2 : Nat) ^ 9000 = big at hg
  by_cases h0 : b < 0
  · have ed := fun i => o_div (i := i) (okDivG (j := -(Nat.gcd a.natAbs b.natAbs : Nat)) (by omega) (by rw [hG]; omega))
    obtain ⟨e1, e2⟩ := low_neg (a := a) h0
    refine callF_of (F := F_flowest) (r := .ok (.rt (fq (Rat.divInt a b)))) (ρ := [some (.fr (.int a)), some (.fr (.int b)), some (.fr (.int (-(Nat.gcd a.natAbs b.natAbs : Nat))))]) rfl rfl ?_ rfl
    simp -implicitDefEqProofs [F_flowest, b_flowest, startE, h0, ed, e1, e2]
  · have ed := fun i => o_div (i := i) (okDivG (j := (Nat.gcd a.natAbs b.natAbs : Nat)) (by omega) (by rw [hG]; omega))
    obtain ⟨e1, e2⟩ := low_pos (a := a) (b := b) (by omega)
    refine callF_of (F := F_flowest) (r := .ok (.rt (fq (Rat.divInt a b)))) (ρ := [some (.fr (.int a)), some (.fr (.int b)), some (.fr (.int (Nat.gcd a.natAbs b.natAbs : Nat)))]) rfl rfl ?_ rfl
    simp -implicitDefEqProofs [F_flowest, b_flowest, startE, h0, ed, e1, e2]
section
variable {x y : Rat} {A B : Nat}
theorem den_abs (x : Rat) : ((x.den : Int)).natAbs = x.den := Int.natAbs_natCast _
theorem m_added (n : Nat) (hx : fits A x) (hy : fits B y) (h : A + B ≤ 7000) : callF G (n + 2) i_fadded [.fr (fq x), .fr (fq y)] = some (.ok (fq (x + y)), []) := by
  have m1 := o_mul (okMulB (i := x.num) (j := (y.den : Int)) hx.1 (by rw [den_abs]; exact hy.2) (by omega))
  have m2 := o_mul (okMulB (i := y.num) (j := (x.den : Int)) hy.1 (by rw [den_abs]; exact hx.2) (by omega))
  have m3 := o_mul (okMulB (i := (x.den : Int)) (j := (y.den : Int)) (by rw [den_abs]; exact hx.2) (by rw [den_abs]; exact hy.2) (by omega))
  have hx0 := x.den_nz
  have hy0 := y.den_nz
  have e0 : (x.den : Int) * y.den ≠ 0 := Int.mul_ne_zero (by omega) (by omega)
  have el := m_lowest n (x.num * y.den + y.num * x.den) (x.den * y.den) e0 (by
    rw [Int.natAbs_mul, den_abs, den_abs]
    exact Nat.lt_of_lt_of_le (mul_lt2 hx.2 hy.2) (Nat.pow_le_pow_right (by omega) (by omega)))
  rw [q_add] at el
  refine callF_of (F := F_fadded) (r := .ok (.rt (fq (x + y)))) (ρ := [some (.fr (fq x)), some (.fr (fq y))]) rfl rfl ?_ rfl
  simp -implicitDefEqProofs [F_fadded, b_fadded, startE, m1, m2, m3, el]
theorem m_lplus (n : Nat) (hx : fits A x) (hy : fits B y) (h : A + B ≤ 7000) : callF G (n + 2) i_f_law_plus [.fr (fq x), .fr (fq y)] = some (.ok (fq (x + y)), []) := by
  have m1 := o_mul (okMulB (i := x.num) (j := (y.den : Int)) hx.1 (by rw [den_abs]; exact hy.2) (by omega))
  have m2 := o_mul (okMulB (i := y.num) (j := (x.den : Int)) hy.1 (by rw [den_abs]; exact hx.2) (by omega))
  have m3 := o_mul (okMulB (i := (x.den : Int)) (j := (y.den : Int)) (by rw [den_abs]; exact hx.2) (by rw [den_abs]; exact hy.2) (by omega))
  have hx0 := x.den_nz
  have hy0 := y.den_nz
  have e0 : (x.den : Int) * y.den ≠ 0 := Int.mul_ne_zero (by omega) (by omega)
  have el := m_fr n (x.num * y.den + y.num * x.den) (x.den * y.den) e0 (by
    rw [Int.natAbs_mul, den_abs, den_abs]
    exact Nat.lt_of_lt_of_le (mul_lt2 hx.2 hy.2) (Nat.pow_le_pow_right (by omega) (by omega)))
  rw [q_add] at el
  refine callF_of (F := F_f_law_plus) (r := .ok (.rt (fq (x + y)))) (ρ := [some (.fr (fq x)), some (.fr (fq y))]) rfl rfl ?_ rfl
  simp -implicitDefEqProofs [F_f_law_plus, b_f_law_plus, startE, m1, m2, m3, el]
theorem m_multiplied (n : Nat) (hx : fits A x) (hy : fits B y) (h : A + B ≤ 7000) : callF G (n + 2) i_fmultiplied [.fr (fq x), .fr (fq y)] = some (.ok (fq (x * y)), []) := by
  have m1 := o_mul (okMulB (i := x.num) (j := y.num) hx.1 hy.1 (by omega))
  have m3 := o_mul (okMulB (i := (x.den : Int)) (j := (y.den : Int)) (by rw [den_abs]; exact hx.2) (by rw [den_abs]; exact hy.2) (by omega))
  have hx0 := x.den_nz
  have hy0 := y.den_nz
  have e0 : (x.den : Int) * y.den ≠ 0 := Int.mul_ne_zero (by omega) (by omega)
  have el := m_lowest n (x.num * y.num) (x.den * y.den) e0 (by
    rw [Int.natAbs_mul, den_abs, den_abs]
    exact Nat.lt_of_lt_of_le (mul_lt2 hx.2 hy.2) (Nat.pow_le_pow_right (by omega) (by omega)))
  rw [q_mul] at el
  refine callF_of (F := F_fmultiplied) (r := .ok (.rt (fq (x * y)))) (ρ := [some (.fr (fq x)), some (.fr (fq y))]) rfl rfl ?_ rfl
  simp -implicitDefEqProofs [F_fmultiplied, b_fmultiplied, startE, m1, m3, el]
theorem m_ltimes (n : Nat) (hx : fits A x) (hy : fits B y) (h : A + B ≤ 7000) : callF G (n + 2) i_f_law_times [.fr (fq x), .fr (fq y)] = some (.ok (fq (x * y)), []) := by
  have m1 := o_mul (okMulB (i := x.num) (j := y.num) hx.1 hy.1 (by omega))
  have m3 := o_mul (okMulB (i := (x.den : Int)) (j := (y.den : Int)) (by rw [den_abs]; exact hx.2) (by rw [den_abs]; exact hy.2) (by omega))
  have hx0 := x.den_nz
  have hy0 := y.den_nz
  have e0 : (x.den : Int) * y.den ≠ 0 := Int.mul_ne_zero (by omega) (by omega)
  have el := m_fr n (x.num * y.num) (x.den * y.den) e0 (by
    rw [Int.natAbs_mul, den_abs, den_abs]
    exact Nat.lt_of_lt_of_le (mul_lt2 hx.2 hy.2) (Nat.pow_le_pow_right (by omega) (by omega)))
  rw [q_mul] at el
  refine callF_of (F := F_f_law_times) (r := .ok (.rt (fq (x * y)))) (ρ := [some (.fr (fq x)), some (.fr (fq y))]) rfl rfl ?_ rfl
  simp -implicitDefEqProofs [F_f_law_times, b_f_law_times, startE, m1, m3, el]
theorem m_divided (n : Nat) (hx : fits A x) (hy : fits B y) (h0 : y ≠ 0) (h : A + B ≤ 7000) : callF G (n + 2) i_fdivided [.fr (fq x), .fr (fq y)] = some (.ok (fq (x / y)), []) := by
  have m1 := o_mul (okMulB (i := x.num) (j := (y.den : Int)) hx.1 (by rw [den_abs]; exact hy.2) (by omega))
  have m3 := o_mul (okMulB (i := (x.den : Int)) (j := y.num) (by rw [den_abs]; exact hx.2) hy.1 (by omega))
  have hx0 := x.den_nz
  have e0 : (x.den : Int) * y.num ≠ 0 := Int.mul_ne_zero (by omega) (fun e => h0 (Rat.num_eq_zero.mp e))
  have el := m_lowest n (x.num * y.den) (x.den * y.num) e0 (by
    rw [Int.natAbs_mul, den_abs]
    exact Nat.lt_of_lt_of_le (mul_lt2 hx.2 hy.1) (Nat.pow_le_pow_right (by omega) (by omega)))
  rw [q_div] at el
  refine callF_of (F := F_fdivided) (r := .ok (.rt (fq (x / y)))) (ρ := [some (.fr (fq x)), some (.fr (fq y))]) rfl rfl ?_ rfl
  simp -implicitDefEqProofs [F_fdivided, b_fdivided, startE, m1, m3, el]
theorem m_turned (n : Nat) (x : Rat) : callF G (n + 1) i_fturned [.fr (fq x)] = some (.ok (fq (-x)), []) := by
  refine callF_of (F := F_fturned) (r := .ok (.rt (fq (-x)))) (ρ := [some (.fr (fq x))]) rfl rfl ?_ rfl
  have e : fq (-x) = .tuple [.int (-x.num), .int x.den] := by
    unfold fq
    rw [Rat.neg_num, Rat.neg_den]
  rw [e]
  simp -implicitDefEqProofs [F_fturned, b_fturned, startE]
theorem lt_dec (x y : Rat) : decide (x.num * (y.den : Int) < y.num * (x.den : Int)) = decide (x < y) := by
  rw [Bool.eq_iff_iff, decide_eq_true_eq, decide_eq_true_eq]
  exact q_lt x y
theorem m_is_below (n : Nat) (hx : fits A x) (hy : fits B y) (h : A + B ≤ 90000) : callF G (n + 1) i_fis_below [.fr (fq x), .fr (fq y)] = some (.ok (.bool (decide (x < y))), []) := by
  have m1 := o_mul (okMulB (i := x.num) (j := (y.den : Int)) hx.1 (by rw [den_abs]; exact hy.2) (by omega))
  have m2 := o_mul (okMulB (i := y.num) (j := (x.den : Int)) hy.1 (by rw [den_abs]; exact hx.2) (by omega))
  refine callF_of (F := F_fis_below) (r := .ok (.rt (.bool (decide (x < y))))) (ρ := [some (.fr (fq x)), some (.fr (fq y))]) rfl rfl ?_ rfl
  rw [← lt_dec]
  simp -implicitDefEqProofs [F_fis_below, b_fis_below, startE, m1, m2]
theorem m_lbelow (n : Nat) (hx : fits A x) (hy : fits B y) (h : A + B ≤ 90000) : callF G (n + 1) i_f_law_below [.fr (fq x), .fr (fq y)] = some (.ok (.bool (decide (x < y))), []) := by
  have m1 := o_mul (okMulB (i := x.num) (j := (y.den : Int)) hx.1 (by rw [den_abs]; exact hy.2) (by omega))
  have m2 := o_mul (okMulB (i := y.num) (j := (x.den : Int)) hy.1 (by rw [den_abs]; exact hx.2) (by omega))
  refine callF_of (F := F_f_law_below) (r := .ok (.rt (.bool (decide (x < y))))) (ρ := [some (.fr (fq x)), some (.fr (fq y))]) rfl rfl ?_ rfl
  rw [← lt_dec]
  simp -implicitDefEqProofs [F_f_law_below, b_f_law_below, startE, m1, m2]
theorem fits_0 (B : Nat) (hB : 1 ≤ B) : fits B 0 := fits_int (i := 0) (Nat.two_pow_pos B) hB
theorem fq_0 : fq 0 = .tuple [.int 0, .int 1] := rfl
theorem m_total (n : Nat) (l : List Rat) (d : PyData) (hd : keysO (.fr d) = some (l.map fq)) (h : ∀ x ∈ l, fits B x) (hl : 1 + l.length * (B + 1) + B ≤ 6000) : callF G (n + 3) i_ftotal [.fr d] = some (.ok (fq l.sum), []) := by
  obtain ⟨ρ', e1, v, rfl⟩ := s_forI (cf := callF G (n + 2)) (t := .nm 2) (i := .it (.var 0)) (b := .cons (.asg (.nm 1) (.call 4 [.v, .v] (.cons (.var 1) (.cons (.var 2) .nil)))) .nil)
    (ρ := [some (.fr d), some (.fr (fq 0)), none]) (ρ1 := [some (.fr d), some (.fr (fq 0)), none]) fq (fun k ρ => ∃ v, ρ = [some (.fr d), some (.fr (fq ((l.take k).foldl (fun a x => a + x) 0))), v]) l
    (by simp -implicitDefEqProofs [hd]) ⟨none, rfl⟩ (fun k hk ρ hp => by
      obtain ⟨v, rfl⟩ := hp
      have f1 := fits_sum (fun x : Rat => x) B (l.take k) 1 0 (fits_0 1 (by omega)) (fun x hx => h x (List.mem_of_mem_take hx))
      have f2 := h _ (List.getElem_mem hk)
      rw [List.length_take, Nat.min_eq_left (by omega)] at f1
      have f3 := m_added (n := n) f1 f2 (by
        have := Nat.mul_le_mul_right (B + 1) (Nat.le_of_lt hk)
        omega)
      have et : (l.take (k + 1)).foldl (fun a x => a + x) 0 = (l.take k).foldl (fun a x => a + x) 0 + l[k] := by
        rw [take_one l k hk, List.foldl_append]
        rfl
      rw [et]
      exact ⟨[some (.fr d), some (.fr (fq ((l.take k).foldl (fun a x => a + x) 0))), some (.fr (fq l[k]))], _, by simp -implicitDefEqProofs, by simp -implicitDefEqProofs [f3]; rfl, ⟨_, rfl⟩⟩)
  rw [List.take_length] at e1
  have es : l.foldl (fun a x => a + x) 0 = l.sum := by
    have := foldl_sum (fun x : Rat => x) l 0
    rw [Rat.zero_add] at this
    rw [this]
    simp
  rw [es] at e1
  refine callF_of (F := F_ftotal) (r := .ok (.rt (fq l.sum))) (ρ := [some (.fr d), some (.fr (fq l.sum)), v]) rfl rfl ?_ rfl
  have e2 : mkTup [.fr (.int 0), .fr (.int 1)] = .fr (fq 0) := rfl
  rw [fq_0] at e1
  simp -implicitDefEqProofs [F_ftotal, b_ftotal, startE, e1]
end
end DP

set_option Elab.async false
set_option linter.all false
set_option autoImplicit false
set_option maxRecDepth 100000
set_option maxHeartbeats 4000000
/-! P9: spiders. -/
namespace DP
open PySem PySem.Spec
def goodD (d : PyData) : Bool := treeD d && (match d with
  | .tuple [.int m, _] => decide (m = 3)
  | _ => false)
def someD (d : PyData) : Bool := match d with
  | .tuple ds => (decide ((1 : Int) ≤ ds.length) && decide ((ds.length : Int) ≤ 6)) && ds.all goodD
  | _ => false
theorem need_some_no (n : Nat) (d : PyData) (h1 : isTup (.fr d) = false) (h2 : someD d = false) : callF G (n + 6) i_fneed_some [.fr (.int 3), .fr d] = some (if someD d then .ok .none else .error 7, []) := by
  rw [h2]
  refine callF_of (F := F_fneed_some) (r := .error 7) (ρ := [some (.fr (.int 3)), some (.fr d), none]) rfl rfl ?_ rfl
  simp -implicitDefEqProofs [F_fneed_some, b_fneed_some, startE, h1]
theorem m_need_some (n : Nat) (d : PyData) (hd : ∀ ds, d = .tuple ds → (ds.length : Int) ≤ 6 → ∀ t ∈ ds, okD t) : callF G (n + 6) i_fneed_some [.fr (.int 3), .fr d] = some (if someD d then .ok .none else .error 7, []) := by
  cases d with
  | tuple ds =>
    by_cases h1 : (1 : Int) ≤ ds.length
    · by_cases h2 : (ds.length : Int) ≤ 6
      · have hm : ∀ mm : Bool, ev (callF G (n + 5)) mm (.comp (.bo true (.cons (.call 44 [.v] (.cons (.var 2) .nil)) (.cons (.cmp .eq (.idx (.var 2) (.cst (.int 0))) (.var 0)) .nil))) (.cons (.nm 2) (.it (.var 1)) .nil .nil) [2]) [some (.fr (.int 3)), some (.fr (.tuple ds)), none] = some (.ok (mkLst (ds.map fun t => .bool (goodD t))), [some (.fr (.int 3)), some (.fr (.tuple ds)), none]) := fun mm => by
          rw [comp_map (ρ1 := [some (.fr (.int 3)), some (.fr (.tuple ds)), none]) (ds := ds) (by simp -implicitDefEqProofs) (by omega) (fun t => .bool (goodD t)) (fun t ht => by
            have e := m_is_tree n t (hd ds rfl h2 t ht)
            cases h3 : treeD t with
            | false =>
              rw [h3] at e
              have e2 : goodD t = false := by
                unfold goodD
                rw [h3]
                rfl
              simp -implicitDefEqProofs [e, e2]
            | true =>
              rw [h3] at e
              obtain ⟨m, rs, rfl, h4⟩ := treeD_of h3
              have e2 : goodD (treeE m rs) = decide (m = 3) := by
                unfold goodD
                rw [h3]
                rfl
              simp -implicitDefEqProofs [e, e2])]
          rfl
        cases h3 : ds.all goodD with
        | false =>
          have e : someD (.tuple ds) = false := by
            unfold someD
            dsimp only
            rw [h3, Bool.and_false]
          rw [e]
          refine callF_of (F := F_fneed_some) (r := .error 7) (ρ := [some (.fr (.int 3)), some (.fr (.tuple ds)), none]) rfl rfl ?_ rfl
          simp -implicitDefEqProofs [F_fneed_some, b_fneed_some, startE, isTup, h1, h2, hm, allP, h3]
        | true =>
          have e : someD (.tuple ds) = true := by
            unfold someD
            dsimp only
            rw [h3, decide_eq_true h1, decide_eq_true h2]
            rfl
          rw [e]
          refine callF_of (F := F_fneed_some) (r := .ok .nx) (ρ := [some (.fr (.int 3)), some (.fr (.tuple ds)), none]) rfl rfl ?_ rfl
          simp -implicitDefEqProofs [F_fneed_some, b_fneed_some, startE, isTup, h1, h2, hm, allP, h3]
      · have e : someD (.tuple ds) = false := by
          unfold someD
          dsimp only
          rw [decide_eq_false h2, Bool.and_false, Bool.false_and]
        rw [e]
        refine callF_of (F := F_fneed_some) (r := .error 7) (ρ := [some (.fr (.int 3)), some (.fr (.tuple ds)), none]) rfl rfl ?_ rfl
        simp -implicitDefEqProofs [F_fneed_some, b_fneed_some, startE, isTup, h1, h2]
    · have e : someD (.tuple ds) = false := by
        unfold someD
        dsimp only
        rw [decide_eq_false h1, Bool.false_and, Bool.false_and]
      rw [e]
      refine callF_of (F := F_fneed_some) (r := .error 7) (ρ := [some (.fr (.int 3)), some (.fr (.tuple ds)), none]) rfl rfl ?_ rfl
      simp -implicitDefEqProofs [F_fneed_some, b_fneed_some, startE, isTup, h1]
  | _ => exact need_some_no n _ rfl rfl
/-- some trees with three tips, as data -/
abbrev someE (ts : List (List Road)) : PyData := .tuple (ts.map (treeE 3))
def lensA (ts : List (List Road)) : List Rat := ts.flatMap fun rs => rs.map Prod.snd
def lensOf (l : Lot) (ts : List (List Road)) : List Rat := ts.flatMap fun rs => (rs.filter fun r => decide (r.1 = l)).map Prod.snd
/-- one tree after the other, each with at most one road -/
def Some (ts : List (List Road)) : Prop := (1 ≤ ts.length ∧ ts.length ≤ 6) ∧ ∀ rs ∈ ts, treeB 3 rs = true ∧ rs.length ≤ 1
theorem someD_some {ts : List (List Road)} (h : Some ts) : someD (someE ts) = true := by
  obtain ⟨⟨h1, h2⟩, h3⟩ := h
  unfold someD someE
  dsimp only
  rw [List.length_map, decide_eq_true (by omega), decide_eq_true (by omega), List.all_map]
  simp only [Bool.and_self, Bool.true_and]
  rw [List.all_eq_true]
  intro rs hrs
  show goodD (treeE 3 rs) = true
  unfold goodD
  rw [treeD_tree, (h3 rs hrs).1]
  rfl
theorem lensA_le {ts : List (List Road)} (h : Some ts) : (lensA ts).length ≤ 6 ∧ ∀ q ∈ lensA ts, fits 10 q := by
  obtain ⟨⟨h1, h2⟩, h3⟩ := h
  unfold lensA
  constructor
  · have : ∀ l : List (List Road), (∀ rs ∈ l, rs.length ≤ 1) → (l.flatMap fun rs => rs.map Prod.snd).length ≤ l.length := by
      intro l
      induction l with
      | nil => exact fun _ => Nat.le_refl _
      | cons a l ih =>
        intro h
        have g1 := h a List.mem_cons_self
        have g2 := ih (fun rs hr => h rs (List.mem_cons_of_mem _ hr))
        rw [List.flatMap_cons, List.length_append, List.length_map, List.length_cons]
        omega
    have := this ts (fun rs hr => (h3 rs hr).2)
    omega
  · intro q hq
    obtain ⟨rs, hr, hq⟩ := List.mem_flatMap.mp hq
    obtain ⟨r, hr2, rfl⟩ := List.mem_map.mp hq
    have hb := (h3 rs hr).1
    unfold treeB at hb
    simp only [Bool.and_eq_true, List.all_eq_true] at hb
    have hl := hb.2.2 r hr2
    unfold lenB at hl
    simp at hl
    unfold fits
    have : (2 : Nat) ^ 10 = 1024 := by decide
    rw [this]
    omega

theorem lensOf_sub (l : Lot) (ts : List (List Road)) : (lensOf l ts).length ≤ (lensA ts).length ∧ ∀ q ∈ lensOf l ts, q ∈ lensA ts := by
  unfold lensOf lensA
  constructor
  · induction ts with
    | nil => exact Nat.le_refl _
    | cons a ts ih =>
      rw [List.flatMap_cons, List.flatMap_cons, List.length_append, List.length_append, List.length_map, List.length_map]
      have := List.length_filter_le (fun r : Road => decide (r.1 = l)) a
      omega
  · intro q hq
    obtain ⟨rs, hr, hq⟩ := List.mem_flatMap.mp hq
    obtain ⟨r, hr2, rfl⟩ := List.mem_map.mp hq
    exact List.mem_flatMap.mpr ⟨rs, hr, List.mem_map_of_mem (List.mem_filter.mp hr2).1⟩
theorem fits_lsum {B : Nat} (l : List Rat) (h : ∀ q ∈ l, fits B q) : fits (1 + l.length * (B + 1)) l.sum := by
  have f := fits_sum (fun x : Rat => x) B l 1 0 (fits_0 1 (by omega)) h
  have := foldl_sum (fun x : Rat => x) l 0
  rw [Rat.zero_add] at this
  rw [this] at f
  simpa using f
theorem fits_own {ts : List (List Road)} (h : Some ts) (l : Lot) : fits 67 (lensOf l ts).sum ∧ fits 67 (lensA ts).sum := by
  obtain ⟨h1, h2⟩ := lensA_le h
  obtain ⟨h3, h4⟩ := lensOf_sub l ts
  constructor
  · have := fits_lsum (B := 10) (lensOf l ts) (fun q hq => h2 q (h4 q hq))
    exact fits_mono this (by omega)
  · have := fits_lsum (B := 10) (lensA ts) h2
    exact fits_mono this (by omega)
/-- by how much the roads of a lot outdo the others -/
def gain (l : Lot) (ts : List (List Road)) : Rat := (lensOf l ts).sum + -((lensA ts).sum + -(lensOf l ts).sum)
def wins (l : Lot) (ts : List (List Road)) : Bool := decide ((lensA ts).sum + -(lensOf l ts).sum < (lensOf l ts).sum)
def spidE (l : Lot) (ts : List (List Road)) : PyData := .tuple [.tuple [tupI l, fq (gain l ts / ((ts.length : Int) : Rat))]]
def spidF (ts : List (List Road)) : PyData := if wins [1, 2] ts then spidE [1, 2] ts else if wins [1, 3] ts then spidE [1, 3] ts else if wins [2, 3] ts then spidE [2, 3] ts else .tuple []
def spB : Sms := (.cons (.asg (.nm 3) (.call 66 [.v] (.cons (.comp (.var 6) (.cons (.nm 5) (.it (.var 0)) .nil (.cons (.tp [(.nm 7), (.nm 6)]) (.it (.idx (.var 5) (.cst (.int 1)))) (.cons (.cmp .eq (.var 7) (.var 2)) .nil) .nil)) [5, 7, 6]) .nil))) (.cons (.asg (.nm 4) (.call 4 [.v, .v] (.cons (.var 1) (.cons (.call 64 [.v] (.cons (.var 3) .nil)) .nil)))) (.cons (.ifs (.call 65 [.v, .v] (.cons (.var 4) (.cons (.var 3) .nil))) (.cons (.ret (.tup (.cons (.tup (.cons (.var 2) (.cons (.call 63 [.v, .v] (.cons (.call 4 [.v, .v] (.cons (.var 3) (.cons (.call 64 [.v] (.cons (.var 4) .nil)) .nil))) (.cons (.call 2 [.v, .v] (.cons (.blt .len (.cons (.var 0) .nil)) (.cons (.cst (.int 1)) .nil))) .nil))) .nil))) .nil))) .nil) .nil) .nil)))
theorem spid_turn (n : Nat) (ts : List (List Road)) (h : Some ts) (l : Lot) (v3 v4 : Option OV) : ∃ ρ', exSs (callF G (n + 6)) spB
    [some (.fr (someE ts)), some (.fr (fq (lensA ts).sum)), some (.fr (tupI l)), v3, v4, none, none, none] = some (.ok (if wins l ts then .rt (spidE l ts) else .nx), ρ') ∧ ∃ u3 u4, ρ' = [some (.fr (someE ts)), some (.fr (fq (lensA ts).sum)), some (.fr (tupI l)), u3, u4, none, none, none] := by
  obtain ⟨f1, f2⟩ := fits_own h l
  obtain ⟨⟨h1, h2⟩, h3⟩ := h
  obtain ⟨g1, g2⟩ := lensA_le (ts := ts) ⟨⟨h1, h2⟩, h3⟩
  obtain ⟨g3, g4⟩ := lensOf_sub l ts
  have hm : ∀ mm, ev (callF G (n + 6)) mm (.comp (.var 6) (.cons (.nm 5) (.it (.var 0)) .nil (.cons (.tp [(.nm 7), (.nm 6)]) (.it (.idx (.var 5) (.cst (.int 1)))) (.cons (.cmp .eq (.var 7) (.var 2)) .nil) .nil)) [5, 7, 6]) [some (.fr (someE ts)), some (.fr (fq (lensA ts).sum)), some (.fr (tupI l)), v3, v4, none, none, none] =
      some (.ok (mkLst ((lensOf l ts).map fq)), [some (.fr (someE ts)), some (.fr (fq (lensA ts).sum)), some (.fr (tupI l)), v3, v4, none, none, none]) := fun mm => by
    rw [c_two (treeE 3) ts roadE (fun rs => rs) (fun _ r => decide (r.1 = l)) (fun _ r => fq r.2) (ρ1 := [some (.fr (someE ts)), some (.fr (fq (lensA ts).sum)), some (.fr (tupI l)), v3, v4, none, none, none])
      (by simp -implicitDefEqProofs) (by
        have : (ts.flatMap fun x => ((x.filter fun r => decide (r.1 = l)).map fun r => fq r.2)).length = (lensOf l ts).length := by
          unfold lensOf
          rw [List.length_flatMap, List.length_flatMap]
          simp
        rw [this]
        omega) (fun rs hrs => by
      refine ⟨[some (.fr (someE ts)), some (.fr (fq (lensA ts).sum)), some (.fr (tupI l)), v3, v4, some (.fr (treeE 3 rs)), none, none], [some (.fr (someE ts)), some (.fr (fq (lensA ts).sum)), some (.fr (tupI l)), v3, v4, some (.fr (treeE 3 rs)), none, none], by simp -implicitDefEqProofs, by simp -implicitDefEqProofs, by simp -implicitDefEqProofs [tgs, tgss], fun r hr => ?_⟩
      have e : cmpD .eq (tupI r.1) (tupI l) = some (decide (r.1 = l)) := c_eq (k := 1) (j := 1) (pl_tupI 0 _) (pl_tupI 0 _) (by omega) (by omega) (by
        rw [decide_eq_true_eq]
        exact ⟨fun e => tupI_inj e, fun e => by rw [e]⟩)
      refine ⟨[some (.fr (someE ts)), some (.fr (fq (lensA ts).sum)), some (.fr (tupI l)), v3, v4, some (.fr (treeE 3 rs)), some (.fr (fq r.2)), some (.fr (tupI r.1))], [some (.fr (someE ts)), some (.fr (fq (lensA ts).sum)), some (.fr (tupI l)), v3, v4, some (.fr (treeE 3 rs)), some (.fr (fq r.2)), some (.fr (tupI r.1))], by simp -implicitDefEqProofs [roadE, tgs, tgss], ?_, by simp -implicitDefEqProofs [tgs, tgss], fun _ => by simp -implicitDefEqProofs [tgs, tgss]⟩
      simp -implicitDefEqProofs [e]
      cases decide (r.1 = l) <;> simp -implicitDefEqProofs)]
    have : (ts.flatMap fun x => ((x.filter fun r => decide (r.1 = l)).map fun r => fq r.2)) = (lensOf l ts).map fq := by
      unfold lensOf
      rw [List.map_flatMap]
      congr 1
      funext x
      rw [List.map_map]
      rfl
    rw [this]
    simp -implicitDefEqProofs
  have e1 := m_total (n := n + 3) (lensOf l ts) (.list ((lensOf l ts).map fq)) rfl (fun q hq => g2 q (g4 q hq)) (by omega)
  have f3 := fits_neg f1
  have f4 := fits_add f2 f3
  have e2 := m_turned (n + 5) (lensOf l ts).sum
  have e3 := m_added (n := n + 4) f2 f3 (by omega)
  have e4 := m_is_below (n := n + 5) f4 f1 (by omega)
  have f5 := fits_neg f4
  have e5 := m_turned (n + 5) ((lensA ts).sum + -(lensOf l ts).sum)
  have e6 := m_added (n := n + 4) f1 f5 (by omega)
  have f6 := fits_add f1 f5
  have hn0 : (ts.length : Int) ≠ 0 := by omega
  have e7 := m_lowest (n := n + 5) (ts.length : Int) 1 (by omega) (by
    have : (1 : Int).natAbs < 2 ^ 1 := by decide
    exact Nat.lt_of_lt_of_le this (Nat.pow_le_pow_right (by omega) (by omega)))
  have e8 : Rat.divInt (ts.length : Int) 1 = ((ts.length : Int) : Rat) := by
    have := q_self ((ts.length : Int) : Rat)
    rw [Rat.num_intCast, Rat.den_intCast] at this
    exact this
  rw [e8] at e7
  have f7 : fits 4 ((ts.length : Int) : Rat) := fits_int (by
    have : (2 : Nat) ^ 4 = 16 := by decide
    rw [this]
    omega) (by omega)
  have e9 := m_divided (n := n + 4) f6 f7 (fun e => hn0 (by
    have := congrArg Rat.num e
    rw [Rat.num_intCast] at this
    exact this)) (by omega)
  cases hw : wins l ts with
  | true =>
    unfold wins at hw
    rw [hw] at e4
    refine ⟨?w, ?h, ?v⟩
    case h =>
      simp -implicitDefEqProofs [spB, hm, e1, e2, e3, e4, e5, e6, e7, e9, spidE, gain]
      rfl
    case v => exact ⟨_, _, rfl⟩
  | false =>
    unfold wins at hw
    rw [hw] at e4
    refine ⟨?w, ?h, ?v⟩
    case h =>
      simp -implicitDefEqProofs [spB, hm, e1, e2, e3, e4]
    case v => exact ⟨_, _, rfl⟩

theorem m_spider (n : Nat) (ts : List (List Road)) (h : Some ts) : callF G (n + 7) i_fspider [.fr (someE ts)] = some (.ok (spidF ts), []) := by
  have h0 := h
  obtain ⟨f1, f2⟩ := fits_own h [1, 2]
  obtain ⟨⟨h1, h2⟩, h3⟩ := h
  obtain ⟨g1, g2⟩ := lensA_le h0
  have hf : ∀ x : List Road, x.filter (fun _ => true) = x := fun x => List.filter_eq_self.mpr (by simp)
  have e0 := m_need_some n (someE ts) (fun ds e _ t ht => by
    injection e with e
    rw [← e] at ht
    obtain ⟨rs, hr, rfl⟩ := List.mem_map.mp ht
    exact okD_tree (by have := (h3 rs hr).2; omega))
  rw [someD_some h0, if_pos rfl] at e0
  have hm : ∀ mm, ev (callF G (n + 6)) mm (.comp (.var 6) (.cons (.nm 5) (.it (.var 0)) .nil (.cons (.tp [(.nm 2), (.nm 6)]) (.it (.idx (.var 5) (.cst (.int 1)))) .nil .nil)) [5, 2, 6]) [some (.fr (someE ts)), none, none, none, none, none, none, none] =
      some (.ok (mkLst ((lensA ts).map fq)), [some (.fr (someE ts)), none, none, none, none, none, none, none]) := fun mm => by
    rw [c_two (treeE 3) ts roadE (fun rs => rs) (fun _ r => true) (fun _ r => fq r.2) (ρ1 := [some (.fr (someE ts)), none, none, none, none, none, none, none])
      (by simp -implicitDefEqProofs) (by
        have : (ts.flatMap fun x => ((x.filter fun r => true).map fun r => fq r.2)).length = (lensA ts).length := by
          unfold lensA
          rw [List.length_flatMap, List.length_flatMap]
          simp [hf]
        rw [this]
        omega) (fun rs hrs => by
      refine ⟨[some (.fr (someE ts)), none, none, none, none, some (.fr (treeE 3 rs)), none, none], [some (.fr (someE ts)), none, none, none, none, some (.fr (treeE 3 rs)), none, none], by simp -implicitDefEqProofs, by simp -implicitDefEqProofs, by simp -implicitDefEqProofs [tgs, tgss], fun r hr => ?_⟩
      exact ⟨[some (.fr (someE ts)), none, some (.fr (tupI r.1)), none, none, some (.fr (treeE 3 rs)), some (.fr (fq r.2)), none], [some (.fr (someE ts)), none, some (.fr (tupI r.1)), none, none, some (.fr (treeE 3 rs)), some (.fr (fq r.2)), none], by simp -implicitDefEqProofs [roadE, tgs, tgss], by simp -implicitDefEqProofs, by simp -implicitDefEqProofs [tgs, tgss], fun _ => by simp -implicitDefEqProofs [tgs, tgss]⟩)]
    have : (ts.flatMap fun x => ((x.filter fun r => true).map fun r => fq r.2)) = (lensA ts).map fq := by
      unfold lensA
      rw [List.map_flatMap]
      congr 1
      funext x
      rw [List.map_map, hf]
      rfl
    rw [this]
    simp -implicitDefEqProofs
  have e1 := m_total (n := n + 3) (lensA ts) (.list ((lensA ts).map fq)) rfl g2 (by omega)
  have hi : ∀ (ρ : En), evI (callF G (n + 6)) (.it (.tup (.cons (.tup (.cons (.cst (.int 1)) (.cons (.cst (.int 2)) .nil))) (.cons (.tup (.cons (.cst (.int 1)) (.cons (.cst (.int 3)) .nil))) (.cons (.tup (.cons (.cst (.int 2)) (.cons (.cst (.int 3)) .nil))) .nil))))) ρ = some (.ok [tupI [1, 2], tupI [1, 3], tupI [2, 3]], ρ) := fun ρ => by
    simp -implicitDefEqProofs [tupI]
  obtain ⟨ρ1, s1, u3, u4, rfl⟩ := spid_turn n ts h0 [1, 2] none none
  obtain ⟨ρ2, s2, w3, w4, rfl⟩ := spid_turn n ts h0 [1, 3] u3 u4
  obtain ⟨ρ3, s3, x3, x4, rfl⟩ := spid_turn n ts h0 [2, 3] w3 w4
  have hb : F_fspider.body = (.cons (.exp (.call 154 [.v, .v] (.cons (.glo (.int 3)) (.cons (.var 0) .nil)))) (.cons (.asg (.nm 1) (.call 66 [.v] (.cons (.comp (.var 6) (.cons (.nm 5) (.it (.var 0)) .nil (.cons (.tp [(.nm 2), (.nm 6)]) (.it (.idx (.var 5) (.cst (.int 1)))) .nil .nil)) [5, 2, 6]) .nil))) (.cons (.fors (.nm 2) (.it (.tup (.cons (.tup (.cons (.cst (.int 1)) (.cons (.cst (.int 2)) .nil))) (.cons (.tup (.cons (.cst (.int 1)) (.cons (.cst (.int 3)) .nil))) (.cons (.tup (.cons (.cst (.int 2)) (.cons (.cst (.int 3)) .nil))) .nil))))) spB) (.cons (.ret (.tup .nil)) .nil)))) := rfl
  have hend : ∃ ρ', exSs (callF G (n + 6)) F_fspider.body (startE F_fspider [.fr (someE ts)]) = some (.ok (.rt (spidF ts)), ρ') := by
    rw [hb]
    unfold spidF
    cases k1 : wins [1, 2] ts with
    | true =>
      rw [k1] at s1
      exact ⟨[some (.fr (someE ts)), some (.fr (fq (lensA ts).sum)), some (.fr (tupI [1, 2])), u3, u4, none, none, none], by simp -implicitDefEqProofs [F_fspider, startE, e0, hm, e1, y_fors, hi, forL, s1]⟩
    | false =>
      rw [k1] at s1
      cases k2 : wins [1, 3] ts with
      | true =>
        rw [k2] at s2
        exact ⟨[some (.fr (someE ts)), some (.fr (fq (lensA ts).sum)), some (.fr (tupI [1, 3])), w3, w4, none, none, none], by simp -implicitDefEqProofs [F_fspider, startE, e0, hm, e1, y_fors, hi, forL, s1, s2]⟩
      | false =>
        rw [k2] at s2
        refine ⟨[some (.fr (someE ts)), some (.fr (fq (lensA ts).sum)), some (.fr (tupI [2, 3])), x3, x4, none, none, none], ?_⟩
        cases k3 : wins [2, 3] ts with
        | true =>
          rw [k3] at s3
          simp -implicitDefEqProofs [F_fspider, startE, e0, hm, e1, y_fors, hi, forL, s1, s2, s3]
        | false =>
          rw [k3] at s3
          simp -implicitDefEqProofs [F_fspider, startE, e0, hm, e1, y_fors, hi, forL, s1, s2, s3]
  obtain ⟨ρ', hh⟩ := hend
  exact callF_of (F := F_fspider) rfl rfl hh rfl
end DP

set_option Elab.async false
set_option linter.all false
set_option autoImplicit false
set_option maxRecDepth 100000
set_option maxHeartbeats 4000000
/-! P9b: the law's sum of squares. -/
namespace DP
open PySem PySem.Spec
def partS (l : Lot) (x : Rat) (r : Road) : Rat := x + (if r.1 = l then -r.2 else r.2)
def partF (l : Lot) (x : Rat) (rs : List Road) : Rat := rs.foldl (fun _ r => partS l x r) x
def atF (l : Lot) (x : Rat) (ts : List (List Road)) : Rat := (ts.map fun rs => partF l x rs * partF l x rs).sum
theorem road_fits {rs : List Road} (h : treeB 3 rs = true) : ∀ r ∈ rs, fits 10 r.2 := fun r hr => by
  unfold treeB at h
  simp only [Bool.and_eq_true, List.all_eq_true] at h
  have hl := h.2.2 r hr
  unfold lenB at hl
  simp at hl
  unfold fits
  have : (2 : Nat) ^ 10 = 1024 := by decide
  rw [this]
  omega
theorem partS_fits {l : Lot} {x : Rat} {A : Nat} (hx : fits A x) {r : Road} (hr : fits 10 r.2) : fits (A + 11) (partS l x r) := by
  unfold partS
  split
  · exact fits_add hx (fits_neg hr)
  · exact fits_add hx hr
theorem partF_fits {l : Lot} {x : Rat} {A : Nat} (hx : fits A x) : ∀ (rs : List Road) (a : Rat), fits (A + 11) a → (∀ r ∈ rs, fits 10 r.2) → fits (A + 11) (rs.foldl (fun _ r => partS l x r) a)
  | [], a, ha, _ => ha
  | r :: rs, a, _, h => by
    rw [List.foldl_cons]
    exact partF_fits hx rs _ (partS_fits hx (h r List.mem_cons_self)) (fun y hy => h y (List.mem_cons_of_mem _ hy))
theorem m_lat (n : Nat) (ts : List (List Road)) (h : Some ts) (l : Lot) (x : Rat) (A : Nat) (hx : fits A x) (hA : A ≤ 300) : callF G (n + 3) i_f_law_at [.fr (someE ts), .fr (tupI l), .fr (fq x)] = some (.ok (fq (atF l x ts)), []) := by
  have h0 := h
  obtain ⟨⟨h1, h2⟩, h3⟩ := h
  have hfit : ∀ rs ∈ ts, fits (A + 11) (partF l x rs) := fun rs hr => partF_fits hx rs x (fits_mono hx (by omega)) (road_fits (h3 rs hr).1)
  obtain ⟨ρ', e1, v4, v5, v6, v7, v8, rfl⟩ := s_forI (cf := callF G (n + 2)) (t := .tp [(.nm 4), (.nm 5)]) (i := .it (.var 0)) (b := (.cons (.asg (.nm 6) (.var 2)) (.cons (.fors (.tp [(.nm 7), (.nm 8)]) (.it (.var 5)) (.cons (.asg (.nm 6) (.call 24 [.v, .v] (.cons (.var 2) (.cons (.ite (.cmp .ne (.var 7) (.var 1)) (.var 8) (.tup (.cons (.bin .sub (.cst (.int 0)) (.idx (.var 8) (.cst (.int 0)))) (.cons (.idx (.var 8) (.cst (.int 1))) .nil)))) .nil)))) .nil)) (.cons (.asg (.nm 3) (.call 24 [.v, .v] (.cons (.var 3) (.cons (.call 25 [.v, .v] (.cons (.var 6) (.cons (.var 6) .nil))) .nil)))) .nil))))
    (ρ := [some (.fr (someE ts)), some (.fr (tupI l)), some (.fr (fq x)), some (.fr (fq 0)), none, none, none, none, none]) (ρ1 := [some (.fr (someE ts)), some (.fr (tupI l)), some (.fr (fq x)), some (.fr (fq 0)), none, none, none, none, none])
    (treeE 3) (fun k ρ => ∃ v4 v5 v6 v7 v8, ρ = [some (.fr (someE ts)), some (.fr (tupI l)), some (.fr (fq x)), some (.fr (fq (((ts.take k).map fun rs => partF l x rs * partF l x rs).foldl (fun a q => a + q) 0))), v4, v5, v6, v7, v8]) ts
    (by simp -implicitDefEqProofs) ⟨none, none, none, none, none, rfl⟩ (fun k hk ρ hp => by
      obtain ⟨v4, v5, v6, v7, v8, rfl⟩ := hp
      have hr := h3 _ (List.getElem_mem hk)
      have hpf := hfit _ (List.getElem_mem hk)
      have fs := fits_sum (fun q : Rat => q) (2 * A + 22) ((ts.take k).map fun rs => partF l x rs * partF l x rs) 1 0 (fits_0 1 (by omega)) (fun q hq => by
        obtain ⟨rs, hrs, rfl⟩ := List.mem_map.mp hq
        have := hfit rs (List.mem_of_mem_take hrs)
        exact fits_mono (fits_mul this this) (by omega))
      rw [List.length_map, List.length_take, Nat.min_eq_left (by omega)] at fs
      have hk6 : k * (2 * A + 22 + 1) ≤ 5 * (2 * A + 22 + 1) := Nat.mul_le_mul_right _ (by omega)
      have et : ((ts.take (k + 1)).map fun rs => partF l x rs * partF l x rs).foldl (fun a q => a + q) 0 = ((ts.take k).map fun rs => partF l x rs * partF l x rs).foldl (fun a q => a + q) 0 + partF l x ts[k] * partF l x ts[k] := by
        rw [take_one ts k hk, List.map_append, List.foldl_append]
        rfl
      rw [et]
      generalize ts[k] = rs at hr hpf
      generalize ((ts.take k).map fun rs => partF l x rs * partF l x rs).foldl (fun a q => a + q) 0 = found at fs
      obtain ⟨ρ', e1, w7, w8, rfl⟩ := s_forI (cf := callF G (n + 2)) (t := .tp [(.nm 7), (.nm 8)]) (i := .it (.var 5)) (b := (.cons (.asg (.nm 6) (.call 24 [.v, .v] (.cons (.var 2) (.cons (.ite (.cmp .ne (.var 7) (.var 1)) (.var 8) (.tup (.cons (.bin .sub (.cst (.int 0)) (.idx (.var 8) (.cst (.int 0)))) (.cons (.idx (.var 8) (.cst (.int 1))) .nil)))) .nil)))) .nil))
        (ρ := [some (.fr (someE ts)), some (.fr (tupI l)), some (.fr (fq x)), some (.fr (fq found)), some (.fr (.int 3)), some (.fr (.tuple (rs.map roadE))), some (.fr (fq x)), v7, v8]) (ρ1 := [some (.fr (someE ts)), some (.fr (tupI l)), some (.fr (fq x)), some (.fr (fq found)), some (.fr (.int 3)), some (.fr (.tuple (rs.map roadE))), some (.fr (fq x)), v7, v8])
        roadE (fun k ρ => ∃ v7 v8, ρ = [some (.fr (someE ts)), some (.fr (tupI l)), some (.fr (fq x)), some (.fr (fq found)), some (.fr (.int 3)), some (.fr (.tuple (rs.map roadE))), some (.fr (fq (partF l x (rs.take k)))), v7, v8]) rs
        (by simp -implicitDefEqProofs) ⟨v7, v8, rfl⟩ (fun k hk ρ hp => by
          obtain ⟨v7, v8, rfl⟩ := hp
          have hf := road_fits hr.1 _ (List.getElem_mem hk)
          have et : partF l x (rs.take (k + 1)) = partS l x rs[k] := by
            unfold partF
            rw [take_one rs k hk, List.foldl_append]
            rfl
          rw [et]
          generalize rs[k] = r at hf
          refine ⟨[some (.fr (someE ts)), some (.fr (tupI l)), some (.fr (fq x)), some (.fr (fq found)), some (.fr (.int 3)), some (.fr (.tuple (rs.map roadE))), some (.fr (fq (partF l x (rs.take k)))), some (.fr (tupI r.1)), some (.fr (fq r.2))], [some (.fr (someE ts)), some (.fr (tupI l)), some (.fr (fq x)), some (.fr (fq found)), some (.fr (.int 3)), some (.fr (.tuple (rs.map roadE))), some (.fr (fq (partS l x r))), some (.fr (tupI r.1)), some (.fr (fq r.2))], by simp -implicitDefEqProofs [roadE], ?_, ⟨_, _, rfl⟩⟩
          have en : cmpD .ne (tupI r.1) (tupI l) = some (!decide (r.1 = l)) := c_ne (k := 1) (j := 1) (pl_tupI 0 _) (pl_tupI 0 _) (by omega) (by omega) (by
            rw [decide_eq_true_eq]
            exact ⟨fun e => tupI_inj e, fun e => by rw [e]⟩)
          by_cases hl : r.1 = l
          · have e5 := m_lplus (n := n) hx (fits_neg hf) (by omega)
            have eneg : PyData.tuple [.int (-r.2.num), .int (r.2.den : Int)] = fq (-r.2) := by
              unfold fq
              rw [Rat.neg_num, Rat.neg_den]
            have ep : partS l x r = x + -r.2 := by unfold partS; rw [if_pos hl]
            rw [ep]
            rw [decide_eq_true hl] at en
            simp -implicitDefEqProofs [en, eneg, e5]
          · have e5 := m_lplus (n := n) hx hf (by omega)
            have ep : partS l x r = x + r.2 := by unfold partS; rw [if_neg hl]
            rw [ep]
            rw [decide_eq_false hl] at en
            simp -implicitDefEqProofs [en, e5])
      rw [List.take_length] at e1
      have e6 := m_ltimes (n := n) hpf hpf (by omega)
      have e7 := m_lplus (n := n) fs (fits_mul hpf hpf) (by omega)
      refine ⟨[some (.fr (someE ts)), some (.fr (tupI l)), some (.fr (fq x)), some (.fr (fq found)), some (.fr (.int 3)), some (.fr (.tuple (rs.map roadE))), v6, v7, v8], [some (.fr (someE ts)), some (.fr (tupI l)), some (.fr (fq x)), some (.fr (fq (found + partF l x rs * partF l x rs))), some (.fr (.int 3)), some (.fr (.tuple (rs.map roadE))), some (.fr (fq (partF l x rs))), w7, w8], by simp -implicitDefEqProofs, ?_, ⟨_, _, _, _, _, rfl⟩⟩
      simp -implicitDefEqProofs [e1, e6, e7])
  rw [List.take_length] at e1
  have es : (ts.map fun rs => partF l x rs * partF l x rs).foldl (fun a q => a + q) 0 = atF l x ts := by
    have := foldl_sum (fun q : Rat => q) (ts.map fun rs => partF l x rs * partF l x rs) 0
    rw [Rat.zero_add] at this
    rw [this]
    unfold atF
    rw [List.map_map]
    rfl
  rw [es] at e1
  rw [fq_0] at e1
  refine callF_of (F := F_f_law_at) (r := .ok (.rt (fq (atF l x ts)))) (ρ := [some (.fr (someE ts)), some (.fr (tupI l)), some (.fr (fq x)), some (.fr (fq (atF l x ts))), v4, v5, v6, v7, v8]) rfl rfl ?_ rfl
  simp -implicitDefEqProofs [F_f_law_at, b_f_law_at, startE, e1]
theorem atF_fits {ts : List (List Road)} (h : Some ts) (l : Lot) {x : Rat} {A : Nat} (hx : fits A x) : fits (1 + 6 * (2 * A + 23)) (atF l x ts) := by
  obtain ⟨⟨h1, h2⟩, h3⟩ := h
  have := fits_lsum (B := 2 * A + 22) (ts.map fun rs => partF l x rs * partF l x rs) (fun q hq => by
    obtain ⟨rs, hrs, rfl⟩ := List.mem_map.mp hq
    have := partF_fits (l := l) hx rs x (fits_mono hx (by omega)) (road_fits (h3 rs hrs).1)
    exact fits_mono (fits_mul this this) (by omega))
  rw [List.length_map] at this
  refine fits_mono this ?_
  have := Nat.mul_le_mul_right (2 * A + 22 + 1) h2
  omega
end DP

set_option Elab.async false
set_option linter.all false
set_option autoImplicit false
set_option maxRecDepth 100000
set_option maxHeartbeats 4000000
/-! P9m: the mathematics of spiders. -/
namespace DP
open PySem PySem.Spec
def sg (l : Lot) (r : Road) : Rat := if r.1 = l then r.2 else -r.2
def gsum (l : Lot) (rs : List Road) : Rat := (rs.map (sg l)).sum
def gainS (l : Lot) (ts : List (List Road)) : Rat := (ts.map (gsum l)).sum
def sqS (rs : List Road) : Rat := (rs.map fun r => r.2 * r.2).sum
def quadS (ts : List (List Road)) : Rat := (ts.map sqS).sum
theorem sum_nil : ([] : List Rat).sum = 0 := rfl
theorem sum_one (q : Rat) : [q].sum = q := by rw [List.sum_cons, sum_nil, Rat.add_zero]
theorem at_eq (l : Lot) (x : Rat) : ∀ (ts : List (List Road)), (∀ rs ∈ ts, rs.length ≤ 1) → atF l x ts = ((ts.length : Int) : Rat) * (x * x) - 2 * x * gainS l ts + quadS ts
  | [], _ => by
    unfold atF gainS quadS
    simp only [List.map_nil, sum_nil, List.length_nil]
    grind
  | rs :: ts, h => by
    have ih := at_eq l x ts (fun r hr => h r (List.mem_cons_of_mem _ hr))
    have h1 := h rs List.mem_cons_self
    unfold atF gainS quadS at *
    simp only [List.map_cons, List.sum_cons, List.length_cons]
    rw [ih]
    have hn : (((ts.length + 1 : Nat) : Int) : Rat) = ((ts.length : Int) : Rat) + 1 := by
      rw [Int.natCast_add, Rat.intCast_add]
      rfl
    rw [hn]
    match rs, h1 with
    | [], _ =>
      have e1 : partF l x [] = x := rfl
      have e2 : gsum l [] = 0 := rfl
      have e3 : sqS [] = 0 := rfl
      rw [e1, e2, e3]
      grind
    | [r], _ =>
      have e1 : partF l x [r] = x + (if r.1 = l then -r.2 else r.2) := rfl
      have e2 : gsum l [r] = if r.1 = l then r.2 else -r.2 := sum_one _
      have e3 : sqS [r] = r.2 * r.2 := sum_one _
      rw [e1, e2, e3]
      split <;> grind
theorem own_eq (l : Lot) : ∀ (ts : List (List Road)), gainS l ts = (lensOf l ts).sum + (lensOf l ts).sum - (lensA ts).sum
  | [] => by
    unfold gainS lensOf lensA
    simp only [List.map_nil, List.flatMap_nil, sum_nil]
    grind
  | rs :: ts => by
    have ih := own_eq l ts
    unfold gainS lensOf lensA at *
    simp only [List.map_cons, List.flatMap_cons, List.sum_cons, List.sum_append]
    rw [ih]
    have e : gsum l rs = (((rs.filter fun r => decide (r.1 = l)).map Prod.snd).sum + ((rs.filter fun r => decide (r.1 = l)).map Prod.snd).sum) - (rs.map Prod.snd).sum := by
      clear ih
      induction rs with
      | nil =>
        unfold gsum
        simp only [List.map_nil, List.filter_nil, sum_nil]
        grind
      | cons r rs ih =>
        unfold gsum at *
        simp only [List.map_cons, List.sum_cons]
        rw [ih, List.filter_cons]
        unfold sg
        by_cases h : r.1 = l
        · simp only [h, decide_true, if_true, List.map_cons, List.sum_cons]
          grind
        · simp only [h, decide_false, if_false, Bool.false_eq_true]
          grind
    rw [e]
    grind
theorem gain_eq (l : Lot) (ts : List (List Road)) : gain l ts = gainS l ts := by
  rw [own_eq]
  unfold gain
  grind
theorem wins_iff (l : Lot) (ts : List (List Road)) : wins l ts = true ↔ 0 < gainS l ts := by
  rw [own_eq]
  unfold wins
  rw [decide_eq_true_eq]
  constructor <;> intro h <;> grind
theorem nn_sum : ∀ (l : List Rat), (∀ q ∈ l, 0 ≤ q) → 0 ≤ l.sum
  | [], _ => by rw [sum_nil]; grind
  | q :: l, h => by
    have h1 := h q List.mem_cons_self
    have h2 := nn_sum l (fun x hx => h x (List.mem_cons_of_mem _ hx))
    rw [List.sum_cons]
    grind
/-- the three lots of three tips -/
theorem lots3 {l : Lot} (h : lotB 3 l = true) : l = [1, 2] ∨ l = [1, 3] ∨ l = [2, 3] := by
  unfold lotB at h
  simp only [Bool.and_eq_true, decide_eq_true_eq, List.all_eq_true] at h
  obtain ⟨⟨⟨h1, h2⟩, h3⟩, h4⟩ := h
  match l, h1, h2 with
  | [a, b], _, _ =>
    have ha := h3 a (by simp)
    have hb := h3 b (by simp)
    have hab : a < b := by
      have h4' : (decide (a < b) && true) = true := h4
      simpa using h4'
    have : (a = 1 ∧ b = 2) ∨ (a = 1 ∧ b = 3) ∨ (a = 2 ∧ b = 3) := by omega
    rcases this with ⟨rfl, rfl⟩ | ⟨rfl, rfl⟩ | ⟨rfl, rfl⟩
    · exact .inl rfl
    · exact .inr (.inl rfl)
    · exact .inr (.inr rfl)
  | [], h1, _ => simp at h1
  | [_], h1, _ => simp at h1
  | _ :: _ :: _ :: _, _, h2 => simp at h2; omega
theorem tree_lots {rs : List Road} (h : treeB 3 rs = true) : ∀ r ∈ rs, (r.1 = [1, 2] ∨ r.1 = [1, 3] ∨ r.1 = [2, 3]) ∧ 0 < r.2 := fun r hr => by
  unfold treeB shapeB at h
  simp only [Bool.and_eq_true, List.all_eq_true] at h
  obtain ⟨_, ⟨h2, _⟩, h3⟩ := h
  refine ⟨lots3 (h2 r.1 (List.mem_map_of_mem hr)), ?_⟩
  have := h3 r hr
  unfold lenB at this
  simp only [Bool.and_eq_true, decide_eq_true_eq] at this
  refine (q_lt 0 r.2).mp ?_
  show (0 : Int) * _ < r.2.num * ((1 : Nat) : Int)
  have := this.2.1
  omega
theorem three {ts : List (List Road)} (h : Some ts) : (lensA ts).sum = (lensOf [1, 2] ts).sum + (lensOf [1, 3] ts).sum + (lensOf [2, 3] ts).sum := by
  have key : ∀ ts : List (List Road), (∀ rs ∈ ts, ∀ r ∈ rs, r.1 = [1, 2] ∨ r.1 = [1, 3] ∨ r.1 = [2, 3]) → (lensA ts).sum = (lensOf [1, 2] ts).sum + (lensOf [1, 3] ts).sum + (lensOf [2, 3] ts).sum := by
    intro ts
    induction ts with
    | nil => exact fun _ => by unfold lensA lensOf; simp only [List.flatMap_nil, sum_nil]; grind
    | cons rs ts ih =>
      intro h
      have ih := ih (fun r hr => h r (List.mem_cons_of_mem _ hr))
      have h1 := h rs List.mem_cons_self
      unfold lensA lensOf at *
      simp only [List.flatMap_cons, List.sum_append]
      rw [ih]
      have e : ∀ rs : List Road, (∀ r ∈ rs, r.1 = [1, 2] ∨ r.1 = [1, 3] ∨ r.1 = [2, 3]) → (rs.map Prod.snd).sum = ((rs.filter fun r => decide (r.1 = [1, 2])).map Prod.snd).sum + ((rs.filter fun r => decide (r.1 = [1, 3])).map Prod.snd).sum + ((rs.filter fun r => decide (r.1 = [2, 3])).map Prod.snd).sum := by
        intro rs
        induction rs with
        | nil => exact fun _ => by simp only [List.map_nil, List.filter_nil, sum_nil]; grind
        | cons r rs ih2 =>
          intro h2
          have ih2 := ih2 (fun x hx => h2 x (List.mem_cons_of_mem _ hx))
          simp only [List.map_cons, List.sum_cons, List.filter_cons]
          rw [ih2]
          rcases h2 r List.mem_cons_self with e | e | e <;> rw [e] <;> simp <;> grind
      rw [e rs h1]
      grind
  exact key ts fun rs hr r hr2 => (tree_lots (h.2 rs hr).1 r hr2).1
theorem own_nn {ts : List (List Road)} (h : Some ts) (l : Lot) : 0 ≤ (lensOf l ts).sum := nn_sum _ fun q hq => by
  unfold lensOf at hq
  obtain ⟨rs, hr, hq⟩ := List.mem_flatMap.mp hq
  obtain ⟨r, hr2, rfl⟩ := List.mem_map.mp hq
  have := (tree_lots (h.2 rs hr).1 r (List.mem_filter.mp hr2).1).2
  grind
/-- what the lot that wins gives -/
theorem best_one {ts : List (List Road)} (h : Some ts) : (∃ l, (l = [1, 2] ∨ l = [1, 3] ∨ l = [2, 3]) ∧ 0 < gainS l ts ∧ spidF ts = spidE l ts ∧ ∀ k, (k = [1, 2] ∨ k = [1, 3] ∨ k = [2, 3]) → k ≠ l → gainS k ts ≤ 0) ∨ (spidF ts = .tuple [] ∧ ∀ k, (k = [1, 2] ∨ k = [1, 3] ∨ k = [2, 3]) → gainS k ts ≤ 0) := by
  have t := three h
  have n1 := own_nn h [1, 2]
  have n2 := own_nn h [1, 3]
  have n3 := own_nn h [2, 3]
  have o1 := own_eq [1, 2] ts
  have o2 := own_eq [1, 3] ts
  have o3 := own_eq [2, 3] ts
  have w1 := wins_iff [1, 2] ts
  have w2 := wins_iff [1, 3] ts
  have w3 := wins_iff [2, 3] ts
  unfold spidF
  cases h1 : wins [1, 2] ts with
  | true =>
    have g := w1.mp h1
    left
    refine ⟨[1, 2], .inl rfl, g, rfl, fun k hk hne => ?_⟩
    rcases hk with rfl | rfl | rfl
    · exact absurd rfl hne
    · grind
    · grind
  | false =>
    have g1 : ¬ 0 < gainS [1, 2] ts := fun z => by rw [w1.mpr z] at h1; cases h1
    cases h2 : wins [1, 3] ts with
    | true =>
      have g := w2.mp h2
      left
      refine ⟨[1, 3], .inr (.inl rfl), g, rfl, fun k hk hne => ?_⟩
      rcases hk with rfl | rfl | rfl
      · grind
      · exact absurd rfl hne
      · grind
    | false =>
      have g2 : ¬ 0 < gainS [1, 3] ts := fun z => by rw [w2.mpr z] at h2; cases h2
      cases h3 : wins [2, 3] ts with
      | true =>
        have g := w3.mp h3
        left
        refine ⟨[2, 3], .inr (.inr rfl), g, rfl, fun k hk hne => ?_⟩
        rcases hk with rfl | rfl | rfl
        · grind
        · grind
        · exact absurd rfl hne
      | false =>
        have g3 : ¬ 0 < gainS [2, 3] ts := fun z => by rw [w3.mpr z] at h3; cases h3
        right
        refine ⟨rfl, fun k hk => ?_⟩
        rcases hk with rfl | rfl | rfl <;> grind

theorem n_pos {ts : List (List Road)} (h : Some ts) : (0 : Rat) < ((ts.length : Int) : Rat) := by
  have h1 := h.1.1
  refine (q_lt 0 _).mp ?_
  rw [Rat.num_intCast]
  show (0 : Int) * _ < (ts.length : Int) * ((1 : Nat) : Int)
  omega
theorem mul_nn {a b : Rat} (ha : 0 ≤ a) (hb : 0 ≤ b) : 0 ≤ a * b := Rat.mul_nonneg ha hb
theorem sq_nn (a : Rat) : 0 ≤ a * a := by
  by_cases h : 0 ≤ a
  · exact Rat.mul_nonneg h h
  · have h' : 0 ≤ -a := by grind
    have := Rat.mul_nonneg h' h'
    grind
/-- the least sum of squares -/
def bestF (ts : List (List Road)) (g : Rat) : Rat := quadS ts - g * g / ((ts.length : Int) : Rat)
theorem at_win {ts : List (List Road)} (h : Some ts) (l : Lot) : atF l (gainS l ts / ((ts.length : Int) : Rat)) ts = bestF ts (gainS l ts) := by
  have hn := n_pos h
  rw [at_eq l _ ts fun rs hr => (h.2 rs hr).2]
  unfold bestF
  generalize ((ts.length : Int) : Rat) = n at hn
  have hn0 : n ≠ 0 := by grind
  grind
theorem at_zero {ts : List (List Road)} (h : Some ts) (l : Lot) : atF l 0 ts = quadS ts := by
  rw [at_eq l _ ts fun rs hr => (h.2 rs hr).2]
  grind
theorem best_lt {ts : List (List Road)} (h : Some ts) {g : Rat} (hg : 0 < g) : bestF ts g < quadS ts := by
  have hn := n_pos h
  unfold bestF
  generalize ((ts.length : Int) : Rat) = n at hn
  have h1 : 0 < g * g / n := by
    rw [Rat.div_def]
    exact Rat.mul_pos (Rat.mul_pos hg hg) (Rat.inv_pos.mpr hn)
  grind
theorem at_ge {ts : List (List Road)} (h : Some ts) (l : Lot) (x : Rat) : bestF ts (gainS l ts) ≤ atF l x ts := by
  have hn := n_pos h
  rw [at_eq l _ ts fun rs hr => (h.2 rs hr).2]
  unfold bestF
  generalize ((ts.length : Int) : Rat) = n at hn
  generalize gainS l ts = g
  have h2 : 0 ≤ n * ((x - g / n) * (x - g / n)) := Rat.mul_nonneg (by grind) (sq_nn _)
  have hn0 : n ≠ 0 := by grind
  have e : n * ((x - g / n) * (x - g / n)) = n * (x * x) - 2 * x * g + g * g / n := by grind
  rw [e] at h2
  grind
theorem at_ge0 {ts : List (List Road)} (h : Some ts) (l : Lot) (x : Rat) (hx : 0 ≤ x) (hg : gainS l ts ≤ 0) : quadS ts ≤ atF l x ts := by
  have hn := n_pos h
  rw [at_eq l _ ts fun rs hr => (h.2 rs hr).2]
  generalize ((ts.length : Int) : Rat) = n at hn
  have h1 : 0 ≤ n * (x * x) := Rat.mul_nonneg (by grind) (sq_nn x)
  have h2 : 0 ≤ x * (-gainS l ts) := Rat.mul_nonneg hx (by grind)
  grind
end DP

set_option Elab.async false
set_option linter.all false
set_option autoImplicit false
set_option maxRecDepth 100000
set_option maxHeartbeats 4000000
/-! P9c: law k09, its parts. -/
namespace DP
open PySem PySem.Spec
-- 10 statements
def h0_Lk09 (T : Sms) : Sms := (.cons (.asg (.nm 1) (.lst (.cons (.var 0) (.cons (.cst (.int 0)) (.cons (.cst (.int 6009)) (.cons (.cst (.int 0)) .nil)))))) (.cons (.asg (.nm 2) (.blt .tuple (.cons (.comp (.call 60 [.io, .v, .v] (.cons (.var 1) (.cons (.cst (.int 3)) (.cons (.tup .nil) .nil)))) (.cons (.nm 10) (.rng (.cons (.bin .add (.cst (.int 1)) (.call 20 [.io, .v] (.cons (.var 1) (.cons (.cst (.int 6)) .nil)))) .nil)) .nil .nil) [10]) .nil))) T))
def h1_Lk09 (T : Sms) : Sms := (.cons (.ifs (.cmp .eq (.call 20 [.io, .v] (.cons (.var 1) (.cons (.cst (.int 3)) .nil))) (.cst (.int 0))) (.cons (.asg (.nm 7) (.lst .nil)) (.cons (.fors (.tp [(.nm 11), (.nm 12)]) (.it (.var 2)) (.cons (.exp (.mut .append (.var 7) (.cons (.tup (.cons (.cst (.int 3)) (.cons (.blt .tuple (.cons (.comp (.tup (.cons (.var 5) (.cons (.tup (.cons (.bin .add (.cst (.int 1)) (.call 20 [.io, .v] (.cons (.var 1) (.cons (.cst (.int 3)) .nil)))) (.cons (.cst (.int 1)) .nil))) .nil))) (.cons (.tp [(.nm 5), (.nm 17)]) (.it (.var 12)) .nil .nil) [5, 17]) .nil)) .nil))) .nil))) .nil)) (.cons (.asg (.nm 2) (.blt .tuple (.cons (.var 7) .nil))) .nil))) .nil) T)
def h2_Lk09 (T : Sms) : Sms := (.cons (.asg (.nm 3) (.call 165 [.v] (.cons (.var 2) .nil))) (.cons (.ifs (.bo false (.cons (.nt (.blt .isTuple (.cons (.var 3) .nil))) (.cons (.cmp .gt (.blt .len (.cons (.var 3) .nil)) (.cst (.int 1))) .nil))) (.cons (.ret (.cst (.bool false))) .nil) .nil) (.cons (.asg (.nm 4) (.call 166 [.v, .v, .v] (.cons (.var 2) (.cons (.tup (.cons (.cst (.int 1)) (.cons (.cst (.int 2)) .nil))) (.cons (.tup (.cons (.cst (.int 0)) (.cons (.cst (.int 1)) .nil))) .nil))))) T)))
def h3_Lk09 (T : Sms) : Sms := (.cons (.ifs (.cmp .ne (.var 3) (.tup .nil)) (.cons (.asg (.tp [(.nm 5), (.nm 13)]) (.idx (.var 3) (.cst (.int 0)))) (.cons (.ifs (.bo false (.cons (.cmp .notin (.var 5) (.lst (.cons (.tup (.cons (.cst (.int 1)) (.cons (.cst (.int 2)) .nil))) (.cons (.tup (.cons (.cst (.int 1)) (.cons (.cst (.int 3)) .nil))) (.cons (.tup (.cons (.cst (.int 2)) (.cons (.cst (.int 3)) .nil))) .nil))))) (.cons (.cmp .ne (.call 23 [.v, .v] (.cons (.idx (.var 13) (.cst (.int 0))) (.cons (.idx (.var 13) (.cst (.int 1))) .nil))) (.var 13)) (.cons (.cmp .lt (.idx (.var 13) (.cst (.int 0))) (.cst (.int 1))) .nil)))) (.cons (.ret (.cst (.bool false))) .nil) .nil) (.cons (.ifs (.nt (.call 85 [.v, .v] (.cons (.call 166 [.v, .v, .v] (.cons (.var 2) (.cons (.var 5) (.cons (.var 13) .nil)))) (.cons (.var 4) .nil)))) (.cons (.ret (.cst (.bool false))) .nil) .nil) (.cons (.asg (.nm 4) (.call 166 [.v, .v, .v] (.cons (.var 2) (.cons (.var 5) (.cons (.var 13) .nil))))) .nil)))) .nil) T)
def h4_Lk09 (T : Sms) : Sms := (.cons (.fors (.nm 5) (.it (.lst (.cons (.tup (.cons (.cst (.int 1)) (.cons (.cst (.int 2)) .nil))) (.cons (.tup (.cons (.cst (.int 1)) (.cons (.cst (.int 3)) .nil))) (.cons (.tup (.cons (.cst (.int 2)) (.cons (.cst (.int 3)) .nil))) .nil))))) (.cons (.asg (.nm 8) (.tup (.cons (.cst (.int 0)) (.cons (.cst (.int 1)) .nil)))) (.cons (.fors (.tp [(.nm 14), (.nm 12)]) (.it (.var 2)) (.cons (.fors (.tp [(.nm 15), (.nm 16)]) (.it (.var 12)) (.cons (.asg (.nm 8) (.call 24 [.v, .v] (.cons (.var 8) (.cons (.ite (.cmp .eq (.var 15) (.var 5)) (.var 16) (.tup (.cons (.bin .sub (.cst (.int 0)) (.idx (.var 16) (.cst (.int 0)))) (.cons (.idx (.var 16) (.cst (.int 1))) .nil)))) .nil)))) .nil)) .nil)) (.cons (.asg (.nm 9) (.call 25 [.v, .v] (.cons (.var 8) (.cons (.tup (.cons (.cst (.int 1)) (.cons (.blt .len (.cons (.var 2) .nil)) .nil))) .nil)))) (.cons (.ifs (.bo true (.cons (.cmp .gt (.idx (.var 9) (.cst (.int 0))) (.cst (.int 0))) (.cons (.cmp .ne (.var 3) (.tup (.cons (.tup (.cons (.var 5) (.cons (.var 9) .nil))) .nil))) .nil))) (.cons (.ret (.cst (.bool false))) .nil) .nil) (.cons (.fors (.nm 10) (.rng (.cons (.cst (.int 3)) .nil)) (.cons (.asg (.nm 13) (.call 23 [.v, .v] (.cons (.call 20 [.io, .v] (.cons (.var 1) (.cons (.cst (.int 400)) .nil))) (.cons (.bin .add (.cst (.int 1)) (.call 20 [.io, .v] (.cons (.var 1) (.cons (.cst (.int 20)) .nil)))) .nil)))) (.cons (.ifs (.call 85 [.v, .v] (.cons (.call 166 [.v, .v, .v] (.cons (.var 2) (.cons (.var 5) (.cons (.var 13) .nil)))) (.cons (.var 4) .nil))) (.cons (.ret (.cst (.bool false))) .nil) .nil) .nil))) .nil)))))) T)
def t_Lk09 : Sms := (.cons (.asg (.nm 6) (.call 21 [.io, .v] (.cons (.var 1) (.cons (.lst (.cons (.cst .none) (.cons (.tup .nil) (.cons (.frz (.blt .list (.cons (.var 2) .nil))) (.cons (.tup (.cons (.tup (.cons (.cst (.int 4)) (.cons (.tup .nil) .nil))) .nil)) (.cons (.bin .mul (.var 2) (.cst (.int 7))) (.cons (.bin .add (.var 2) (.tup (.cons (.tup (.cons (.cst (.int 3)) (.cons (.cst .none) .nil))) .nil))) .nil))))))) .nil)))) (.cons (.ret (.cmp .eq (.told 0 [(7, ("BadTrees" : Str))] 0 (.call 165 [.v] (.cons (.var 6) .nil))) (.cst (.str ("BadTrees" : Str))))) .nil))
theorem cut_Lk09 : b_flaw_k09 = (h0_Lk09 (h1_Lk09 (h2_Lk09 (h3_Lk09 (h4_Lk09 t_Lk09))))) := rfl

def startR (ns : List Int) (seed : Int) : Row := ⟨ns, 0, seed, 0⟩
theorem startR_ok {ns : List Int} {seed : Int} (h0 : 0 ≤ seed) (h : seed < 2147483647) : (startR ns seed).ok := ⟨Int.le_refl 0, ⟨h0, h⟩, Int.le_refl 0⟩
theorem fit_nil (m : Nat) : Fit m [] := ⟨fun l hl => (by cases hl), List.nodup_nil, List.Pairwise.nil⟩
theorem trees3 : ∀ (xs : List Nat) (s : Row), s.ok → (∀ rs ∈ stMap (fun s (_ : Nat) => (treeF 3 s []).1) (fun s _ => (treeF 3 s []).2) xs s, treeB 3 rs = true ∧ rs.length ≤ 1) ∧ (xs.foldl (fun s _ => (treeF 3 s []).2) s).ok
  | [], s, h => ⟨fun rs hr => (by cases hr), h⟩
  | x :: xs, s, h => by
    obtain ⟨g1, g2, g3, g4, g5⟩ := treeF_ok (m := 3) (by omega) (by omega) h (fit_nil 3) (by simp)
    obtain ⟨i1, i2⟩ := trees3 xs _ g1
    refine ⟨fun rs hr => ?_, i2⟩
    rw [stMap] at hr
    rcases List.mem_cons.mp hr with rfl | hr
    · exact ⟨g2, g5⟩
    · exact i1 rs hr
theorem part0 (n : Nat) (ns : List Int) : ∃ ts s, Some ts ∧ s.ok ∧ ∀ T, exSs (callF G (n + 9)) (h0_Lk09 T) (startE F_flaw_k09 [.fr (.list (ns.map .int))]) = exSs (callF G (n + 9)) T [some (.fr (.list (ns.map .int))), some (rowE s), some (.fr (someE ts)), none, none, none, none, none, none, none, none, none, none, none, none, none, none, none] := by
  have hs0 : (startR ns 6009).ok := startR_ok (by omega) (by omega)
  have e1 := m_taken (n + 8) (startR ns 6009) hs0 6 (by omega) (by omega)
  have t1 := take_lt (s := startR ns 6009) (many := 6) (by omega)
  have t2 := take_ok (s := startR ns 6009) (many := 6) (by omega) hs0
  generalize take (startR ns 6009) 6 = tk at e1 t1 t2
  obtain ⟨k, s1⟩ := tk
  dsimp only at e1 t1 t2
  unfold startR at e1
  obtain ⟨i1, i2⟩ := c_st (cf := callF G (n + 9)) (m := true) (elt := .call 60 [.io, .v, .v] (.cons (.var 1) (.cons (.cst (.int 3)) (.cons (.tup .nil) .nil)))) (t := .nm 10) (i := .rng (.cons (.bin .add (.cst (.int 1)) (.call 20 [.io, .v] (.cons (.var 1) (.cons (.cst (.int 6)) .nil)))) .nil)) (own := [10])
    (ρ := [some (.fr (.list (ns.map .int))), some (rowE ⟨ns, 0, 6009, 0⟩), none, none, none, none, none, none, none, none, none, none, none, none, none, none, none, none]) (ρ1 := [some (.fr (.list (ns.map .int))), some (rowE s1), none, none, none, none, none, none, none, none, none, none, none, none, none, none, none, none])
    natD (List.range (1 + k).toNat) (fun s => [some (.fr (.list (ns.map .int))), some (rowE s), none, none, none, none, none, none, none, none, none, none, none, none, none, none, none, none]) (fun s _ => treeE 3 (treeF 3 s []).1) (fun s _ => (treeF 3 s []).2) Row.ok s1
    (by
      simp -implicitDefEqProofs [e1]
      rw [rng_int (by omega) (by omega)]
      simp) (by simp) t2 (by simp; omega) (fun s hs x hx => by
        obtain ⟨g1, g2, g3, g4, g5⟩ := treeF_ok (m := 3) (by omega) (by omega) hs (fit_nil 3) (by simp)
        have e2 : callF G (n + 9) i_f_law_tree [rowE s, .fr (.int 3), .fr (.tuple [])] = some (.ok (treeE 3 (treeF 3 s []).1), [rowE (treeF 3 s []).2]) := m_tree (n + 5) 3 (by omega) (by omega) s hs [] (fit_nil 3) (by simp)
        exact ⟨g1, by simp -implicitDefEqProofs [e2, natD]⟩)
  obtain ⟨j1, j2⟩ := trees3 (List.range (1 + k).toNat) s1 t2
  rw [← stMap_map (treeE 3)] at i2
  have hlen := stMap_len (fun s (_ : Nat) => (treeF 3 s []).1) (fun s _ => (treeF 3 s []).2) (List.range (1 + k).toNat) s1
  generalize stMap (fun s (_ : Nat) => (treeF 3 s []).1) (fun s _ => (treeF 3 s []).2) (List.range (1 + k).toNat) s1 = ts at i2 j1 hlen
  rw [List.length_range] at hlen
  refine ⟨ts, _, ⟨⟨by omega, by omega⟩, j1⟩, j2, fun T => ?_⟩
  simp -implicitDefEqProofs [h0_Lk09, F_flaw_k09, startE, i2]
/-- other lengths, the same lots -/
theorem relen_ok {rs rs' : List Road} (h : treeB 3 rs = true) (h1 : rs'.map Prod.fst = rs.map Prod.fst) (h2 : ∀ r ∈ rs', lenB r.2 = true) : treeB 3 rs' = true := by
  unfold treeB at *
  rw [h1]
  simp only [Bool.and_eq_true, List.all_eq_true] at *
  exact ⟨h.1, h.2.1, h2⟩
def relen (s : Row) (r : Road) : Road := (r.1, ((1 + (take s 3).1 : Int) : Rat))
theorem relen_facts : ∀ (rs : List Road) (s : Row), s.ok → (stMap relen (fun s _ => (take s 3).2) rs s).map Prod.fst = rs.map Prod.fst ∧ (∀ r ∈ stMap relen (fun s _ => (take s 3).2) rs s, lenB r.2 = true) ∧ (rs.foldl (fun s _ => (take s 3).2) s).ok
  | [], s, h => ⟨rfl, fun r hr => (by cases hr), h⟩
  | x :: rs, s, h => by
    have t1 := take_lt (s := s) (many := 3) (by omega)
    have t2 := take_ok (s := s) (many := 3) (by omega) h
    obtain ⟨i1, i2, i3⟩ := relen_facts rs _ t2
    refine ⟨by rw [stMap, List.map_cons, i1]; rfl, fun r hr => ?_, i3⟩
    rw [stMap] at hr
    rcases List.mem_cons.mp hr with rfl | hr
    · unfold relen lenB
      rw [Rat.num_intCast, Rat.den_intCast]
      simp
      omega
    · exact i2 r hr
theorem part1 (n : Nat) (v0 : Option OV) (ts : List (List Road)) (s : Row) (h : Some ts) (hs : s.ok) : ∃ ts' s' v7 v11 v12, Some ts' ∧ s'.ok ∧ ∀ T, exSs (callF G (n + 9)) (h1_Lk09 T) [v0, some (rowE s), some (.fr (someE ts)), none, none, none, none, none, none, none, none, none, none, none, none, none, none, none] = exSs (callF G (n + 9)) T [v0, some (rowE s'), some (.fr (someE ts')), none, none, none, none, v7, none, none, none, v11, v12, none, none, none, none, none] := by
  have e1 := m_taken (n + 8) s hs 3 (by omega) (by omega)
  have t2 := take_ok (s := s) (many := 3) (by omega) hs
  generalize take s 3 = tk at e1 t2
  obtain ⟨k, s1⟩ := tk
  dsimp only at e1 t2
  by_cases hk : k = 0
  · subst hk
    obtain ⟨ρ', e2, rows, s2, v11, v12, hr1, hr2, hr3, rfl⟩ := s_forI (cf := callF G (n + 9)) (t := .tp [(.nm 11), (.nm 12)]) (i := .it (.var 2)) (b := (.cons (.exp (.mut .append (.var 7) (.cons (.tup (.cons (.cst (.int 3)) (.cons (.blt .tuple (.cons (.comp (.tup (.cons (.var 5) (.cons (.tup (.cons (.bin .add (.cst (.int 1)) (.call 20 [.io, .v] (.cons (.var 1) (.cons (.cst (.int 3)) .nil)))) (.cons (.cst (.int 1)) .nil))) .nil))) (.cons (.tp [(.nm 5), (.nm 17)]) (.it (.var 12)) .nil .nil) [5, 17]) .nil)) .nil))) .nil))) .nil))
      (ρ := [v0, some (rowE s1), some (.fr (someE ts)), none, none, none, none, some (mkLst []), none, none, none, none, none, none, none, none, none, none]) (ρ1 := [v0, some (rowE s1), some (.fr (someE ts)), none, none, none, none, some (mkLst []), none, none, none, none, none, none, none, none, none, none])
      (treeE 3) (fun k ρ => ∃ (rows : List (List Road)) (s2 : Row) (v11 v12 : Option OV), s2.ok ∧ rows.length = k ∧ (∀ rs ∈ rows, treeB 3 rs = true ∧ rs.length ≤ 1) ∧ ρ = [v0, some (rowE s2), some (.fr (someE ts)), none, none, none, none, some (mkLst (rows.map (treeE 3))), none, none, none, v11, v12, none, none, none, none, none]) ts
      (by simp -implicitDefEqProofs) ⟨[], s1, none, none, t2, rfl, fun rs hr => (by cases hr), rfl⟩ (fun k hk ρ hp => by
        obtain ⟨rows, s2, v11, v12, hr1, hr2, hr3, rfl⟩ := hp
        have hg := h.2 _ (List.getElem_mem hk)
        have hk6 : rows.length ≤ 6 := by have := h.1.2; omega
        generalize ts[k] = rs at hg
        obtain ⟨f1, f2, f3⟩ := relen_facts rs s2 hr1
        have hl2 := stMap_len relen (fun s _ => (take s 3).2) rs s2
        obtain ⟨c1, c2⟩ := c_st (cf := callF G (n + 9)) (m := true) (elt := .tup (.cons (.var 5) (.cons (.tup (.cons (.bin .add (.cst (.int 1)) (.call 20 [.io, .v] (.cons (.var 1) (.cons (.cst (.int 3)) .nil)))) (.cons (.cst (.int 1)) .nil))) .nil))) (t := .tp [(.nm 5), (.nm 17)]) (i := .it (.var 12)) (own := [5, 17])
          (ρ := [v0, some (rowE s2), some (.fr (someE ts)), none, none, none, none, some (mkLst (rows.map (treeE 3))), none, none, none, some (.fr (.int 3)), some (.fr (.tuple (rs.map roadE))), none, none, none, none, none]) (ρ1 := [v0, some (rowE s2), some (.fr (someE ts)), none, none, none, none, some (mkLst (rows.map (treeE 3))), none, none, none, some (.fr (.int 3)), some (.fr (.tuple (rs.map roadE))), none, none, none, none, none])
          roadE rs (fun s => [v0, some (rowE s), some (.fr (someE ts)), none, none, none, none, some (mkLst (rows.map (treeE 3))), none, none, none, some (.fr (.int 3)), some (.fr (.tuple (rs.map roadE))), none, none, none, none, none]) (fun s r => roadE (relen s r)) (fun s _ => (take s 3).2) Row.ok s2
          (by simp -implicitDefEqProofs) (by simp) hr1 (by have := hg.2; omega) (fun s hs r hr => by
            have e3 := m_taken (n + 8) s hs 3 (by omega) (by omega)
            refine ⟨take_ok (by omega) hs, ?_⟩
            have e4 : roadE (relen s r) = .tuple [tupI r.1, .tuple [.int (1 + (take s 3).1), .int 1]] := by
              unfold roadE relen
              dsimp only
              rw [fq_int]
            rw [e4]
            simp -implicitDefEqProofs [roadE, e3])
        rw [← stMap_map roadE] at c2
        generalize stMap relen (fun s _ => (take s 3).2) rs s2 = rs' at c2 f1 f2 hl2
        have e5 := mut_app (ds := rows.map (treeE 3)) (treeE 3 rs') (by rw [List.length_map]; omega)
        refine ⟨[v0, some (rowE s2), some (.fr (someE ts)), none, none, none, none, some (mkLst (rows.map (treeE 3))), none, none, none, some (.fr (.int 3)), some (.fr (.tuple (rs.map roadE))), none, none, none, none, none], _, by simp -implicitDefEqProofs, ?_, ⟨rows ++ [rs'], rs.foldl (fun s _ => (take s 3).2) s2, some (.fr (.int 3)), some (.fr (.tuple (rs.map roadE))), f3, by simp [hr2], fun x hx => ?_, rfl⟩⟩
        · simp -implicitDefEqProofs [c2, e5]
        · rcases List.mem_append.mp hx with hx | hx
          · exact hr3 x hx
          · rw [List.mem_singleton.mp hx]
            exact ⟨relen_ok hg.1 f1 f2, by rw [hl2]; exact hg.2⟩)
    have hm0 : mkLst [] = OV.lst [] := rfl
    rw [hm0] at e2
    refine ⟨rows, s2, some (mkLst (rows.map (treeE 3))), v11, v12, ⟨by rw [hr2]; exact h.1, hr3⟩, hr1, fun T => ?_⟩
    simp -implicitDefEqProofs [h1_Lk09, e1, e2]
  · refine ⟨ts, s1, none, none, none, h, t2, fun T => ?_⟩
    simp -implicitDefEqProofs [h1_Lk09, e1, hk]
end DP

set_option Elab.async false
set_option linter.all false
set_option autoImplicit false
set_option maxRecDepth 100000
set_option maxHeartbeats 4000000
/-! P9d: law k09, told and best. -/
namespace DP
open PySem PySem.Spec
abbrev L3 (l : Lot) : Prop := l = [1, 2] ∨ l = [1, 3] ∨ l = [2, 3]
theorem part2 (n : Nat) (v0 v7 v11 v12 : Option OV) (ts : List (List Road)) (s : Row) (h : Some ts) : ∀ T, exSs (callF G (n + 9)) (h2_Lk09 T) [v0, some (rowE s), some (.fr (someE ts)), none, none, none, none, v7, none, none, none, v11, v12, none, none, none, none, none] =
    exSs (callF G (n + 9)) T [v0, some (rowE s), some (.fr (someE ts)), some (.fr (spidF ts)), some (.fr (fq (quadS ts))), none, none, v7, none, none, none, v11, v12, none, none, none, none, none] := fun T => by
  have e1 := m_spider (n + 2) ts h
  have e2 := m_lat (n + 6) ts h [1, 2] 0 1 (fits_0 1 (by omega)) (by omega)
  rw [at_zero h, fq_0, show tupI [1, 2] = .tuple [.int 1, .int 2] from rfl] at e2
  rcases best_one h with ⟨l, _, _, e3, _⟩ | ⟨e3, _⟩
  · rw [e3] at e1 ⊢
    unfold spidE at e1 ⊢
    simp -implicitDefEqProofs [h2_Lk09, e1, e2, isTup]
  · rw [e3] at e1 ⊢
    simp -implicitDefEqProofs [h2_Lk09, e1, e2, isTup]
theorem gain_fits {ts : List (List Road)} (h : Some ts) (l : Lot) : fits 207 (gainS l ts / ((ts.length : Int) : Rat)) := by
  obtain ⟨f1, f2⟩ := fits_own h l
  have f3 := fits_add f1 (fits_neg (fits_add f2 (fits_neg f1)))
  have e : (lensOf l ts).sum + -((lensA ts).sum + -(lensOf l ts).sum) = gainS l ts := gain_eq l ts
  rw [e] at f3
  have f7 : fits 4 ((ts.length : Int) : Rat) := fits_int (by
    have : (2 : Nat) ^ 4 = 16 := by decide
    rw [this]
    have := h.1
    omega) (by omega)
  have hn := n_pos h
  exact fits_mono (fits_div f3 f7 (by intro e; rw [e] at hn; exact absurd hn (by decide))) (by omega)
theorem pl_fq (q : Rat) (k : Nat) : pl (k + 1) (fq q) = true := rfl
theorem pos_num {q : Rat} (h : 0 < q) : 1 ≤ q.num := by
  have := (q_lt 0 q).mpr h
  have e : (0 : Rat).num = 0 := rfl
  have e2 : ((0 : Rat).den : Int) = 1 := rfl
  rw [e, e2] at this
  omega
theorem in_l3 {l : Lot} (h : L3 l) : cmpD .notin (tupI l) (.list [.tuple [.int 1, .int 2], .tuple [.int 1, .int 3], .tuple [.int 2, .int 3]]) = some false := by
  rcases h with rfl | rfl | rfl <;> decide +kernel
theorem part3 (n : Nat) (v0 v7 v11 v12 : Option OV) (ts : List (List Road)) (s : Row) (h : Some ts) : ∃ b v5 v13, fits 4000 b ∧ (∀ l, L3 l → ∀ x : Rat, 0 ≤ x → b ≤ atF l x ts) ∧ ∀ T, exSs (callF G (n + 9)) (h3_Lk09 T) [v0, some (rowE s), some (.fr (someE ts)), some (.fr (spidF ts)), some (.fr (fq (quadS ts))), none, none, v7, none, none, none, v11, v12, none, none, none, none, none] =
    exSs (callF G (n + 9)) T [v0, some (rowE s), some (.fr (someE ts)), some (.fr (spidF ts)), some (.fr (fq b)), v5, none, v7, none, none, none, v11, v12, v13, none, none, none, none] := by
  have fq0 : fits 200 (quadS ts) := by
    have := atF_fits h [1, 2] (fits_0 1 (by omega))
    rw [at_zero h] at this
    exact fits_mono this (by omega)
  rcases best_one h with ⟨l, hl, hg, e3, hk⟩ | ⟨e3, hk⟩
  · have fg := gain_fits h l
    have e5 := m_lat (n + 6) ts h l (gainS l ts / ((ts.length : Int) : Rat)) 207 fg (by omega)
    have fa := atF_fits h l fg
    rw [at_win h l] at e5 fa
    have hx : 0 < gainS l ts / ((ts.length : Int) : Rat) := by
      rw [Rat.div_def]
      exact Rat.mul_pos hg (Rat.inv_pos.mpr (n_pos h))
    have hb := best_lt h hg
    have e6 := m_lbelow (n := n + 8) fa fq0 (by omega)
    rw [decide_eq_true hb] at e6
    unfold spidE at e3
    rw [gain_eq] at e3
    generalize hxe : gainS l ts / ((ts.length : Int) : Rat) = x at *
    have e4 := m_fr (n + 8) x.num x.den (by have := x.den_nz; omega) (by
      rw [den_abs]
      exact Nat.lt_of_lt_of_le fg.2 (Nat.pow_le_pow_right (by omega) (by omega)))
    rw [q_self] at e4
    have e7 : cmpD .ne (fq x) (fq x) = some (!true) := c_ne (k := 1) (j := 1) (pl_fq x 0) (pl_fq x 0) (by omega) (by omega) (by simp)
    have e8 : ¬ x.num < 1 := by have := pos_num hx; omega
    have e9 : cmpD .ne (.tuple [.tuple [tupI l, fq x]]) (.tuple []) = some (!false) := c_ne (k := 4) (j := 4) (by
        have := pl_tupI 0 l
        have h1 : pl 2 (tupI l) = true := pl_tupI 1 l
        simp [pl, pls, h1]) (by simp [pl, pls]) (by omega) (by omega) (by simp)
    refine ⟨bestF ts (gainS l ts), some (.fr (tupI l)), some (.fr (fq x)), fits_mono fa (by omega), fun k h3 y hy => ?_, fun T => ?_⟩
    · by_cases he : k = l
      · rw [he]
        exact at_ge h l y
      · have g1 := at_ge0 h k y hy (hk k h3 he)
        grind
    · rw [e3]
      simp -implicitDefEqProofs [h3_Lk09, e9, in_l3 hl, e4, e7, e8, e5, e6]
  · have e9 : cmpD .ne (.tuple []) (.tuple []) = some (!true) := c_ne (k := 4) (j := 4) (by simp [pl, pls]) (by simp [pl, pls]) (by omega) (by omega) (by simp)
    refine ⟨quadS ts, none, none, fits_mono fq0 (by omega), fun k h3 y hy => at_ge0 h k y hy (hk k h3), fun T => ?_⟩
    rw [e3]
    simp -implicitDefEqProofs [h3_Lk09, e9]
end DP

set_option Elab.async false
set_option linter.all false
set_option autoImplicit false
set_option maxRecDepth 100000
set_option maxHeartbeats 4000000
/-! P9e: law k09, no lot does better. -/
namespace DP
open PySem PySem.Spec
theorem gsum_fits {l : Lot} {rs : List Road} (h : ∀ r ∈ rs, fits 10 r.2) (hl : rs.length ≤ 1) : fits 12 (gsum l rs) := by
  have := fits_lsum (B := 10) (rs.map (sg l)) (fun q hq => by
    obtain ⟨r, hr, rfl⟩ := List.mem_map.mp hq
    unfold sg
    split
    · exact h r hr
    · exact fits_neg (h r hr))
  rw [List.length_map] at this
  exact fits_mono this (by omega)
theorem gainS_fits {l : Lot} {ts : List (List Road)} (h : ∀ rs ∈ ts, treeB 3 rs = true ∧ rs.length ≤ 1) (hl : ts.length ≤ 6) : fits 79 (gainS l ts) := by
  have := fits_lsum (B := 12) (ts.map (gsum l)) (fun q hq => by
    obtain ⟨rs, hr, rfl⟩ := List.mem_map.mp hq
    exact gsum_fits (road_fits (h rs hr).1) (h rs hr).2)
  rw [List.length_map] at this
  exact fits_mono this (by omega)
theorem sum_snoc (l : List Rat) (q : Rat) : (l ++ [q]).sum = l.sum + q := by
  rw [List.sum_append, sum_one]
/-- the inner loops: what a lot gains -/
def wl9 : Sm := (.fors (.tp [(.nm 14), (.nm 12)]) (.it (.var 2)) (.cons (.fors (.tp [(.nm 15), (.nm 16)]) (.it (.var 12)) (.cons (.asg (.nm 8) (.call 24 [.v, .v] (.cons (.var 8) (.cons (.ite (.cmp .eq (.var 15) (.var 5)) (.var 16) (.tup (.cons (.bin .sub (.cst (.int 0)) (.idx (.var 16) (.cst (.int 0)))) (.cons (.idx (.var 16) (.cst (.int 1))) .nil)))) .nil)))) .nil)) .nil))
theorem whole9 (n : Nat) (v0 v1 v3 v4 v6 v7 v9 v10 v11 v12 v13 v14 v15 v16 v17 : Option OV) (ts : List (List Road)) (h : Some ts) (l : Lot) : ∃ ρ', exS (callF G (n + 9)) wl9 [v0, v1, some (.fr (someE ts)), v3, v4, some (.fr (tupI l)), v6, v7, some (.fr (fq 0)), v9, v10, v11, v12, v13, v14, v15, v16, v17] = some (.ok .nx, ρ') ∧
    ∃ v12 v14 v15 v16, ρ' = [v0, v1, some (.fr (someE ts)), v3, v4, some (.fr (tupI l)), v6, v7, some (.fr (fq (gainS l ts))), v9, v10, v11, v12, v13, v14, v15, v16, v17] := by
  have key := s_forI (cf := callF G (n + 9)) (t := .tp [(.nm 14), (.nm 12)]) (i := .it (.var 2)) (b := (.cons (.fors (.tp [(.nm 15), (.nm 16)]) (.it (.var 12)) (.cons (.asg (.nm 8) (.call 24 [.v, .v] (.cons (.var 8) (.cons (.ite (.cmp .eq (.var 15) (.var 5)) (.var 16) (.tup (.cons (.bin .sub (.cst (.int 0)) (.idx (.var 16) (.cst (.int 0)))) (.cons (.idx (.var 16) (.cst (.int 1))) .nil)))) .nil)))) .nil)) .nil))
    (ρ := [v0, v1, some (.fr (someE ts)), v3, v4, some (.fr (tupI l)), v6, v7, some (.fr (fq 0)), v9, v10, v11, v12, v13, v14, v15, v16, v17]) (ρ1 := [v0, v1, some (.fr (someE ts)), v3, v4, some (.fr (tupI l)), v6, v7, some (.fr (fq 0)), v9, v10, v11, v12, v13, v14, v15, v16, v17])
    (treeE 3) (fun k ρ => ∃ v12 v14 v15 v16, ρ = [v0, v1, some (.fr (someE ts)), v3, v4, some (.fr (tupI l)), v6, v7, some (.fr (fq (gainS l (ts.take k)))), v9, v10, v11, v12, v13, v14, v15, v16, v17]) ts
    (by simp -implicitDefEqProofs) ⟨v12, v14, v15, v16, rfl⟩ (fun k hk ρ hp => by
      obtain ⟨v12, v14, v15, v16, rfl⟩ := hp
      have hr := h.2 _ (List.getElem_mem hk)
      have fs := gainS_fits (l := l) (ts := ts.take k) (fun rs hrs => h.2 rs (List.mem_of_mem_take hrs)) (by rw [List.length_take]; have := h.1; omega)
      have et : gainS l (ts.take (k + 1)) = gainS l (ts.take k) + gsum l ts[k] := by
        unfold gainS
        rw [take_one ts k hk, List.map_append]
        exact sum_snoc _ _
      rw [et]
      generalize ts[k] = rs at hr
      generalize gainS l (ts.take k) = w at fs
      obtain ⟨ρ', e1, w15, w16, rfl⟩ := s_forI (cf := callF G (n + 9)) (t := .tp [(.nm 15), (.nm 16)]) (i := .it (.var 12)) (b := (.cons (.asg (.nm 8) (.call 24 [.v, .v] (.cons (.var 8) (.cons (.ite (.cmp .eq (.var 15) (.var 5)) (.var 16) (.tup (.cons (.bin .sub (.cst (.int 0)) (.idx (.var 16) (.cst (.int 0)))) (.cons (.idx (.var 16) (.cst (.int 1))) .nil)))) .nil)))) .nil))
        (ρ := [v0, v1, some (.fr (someE ts)), v3, v4, some (.fr (tupI l)), v6, v7, some (.fr (fq w)), v9, v10, v11, some (.fr (.tuple (rs.map roadE))), v13, some (.fr (.int 3)), v15, v16, v17]) (ρ1 := [v0, v1, some (.fr (someE ts)), v3, v4, some (.fr (tupI l)), v6, v7, some (.fr (fq w)), v9, v10, v11, some (.fr (.tuple (rs.map roadE))), v13, some (.fr (.int 3)), v15, v16, v17])
        roadE (fun k ρ => ∃ v15 v16, ρ = [v0, v1, some (.fr (someE ts)), v3, v4, some (.fr (tupI l)), v6, v7, some (.fr (fq (w + gsum l (rs.take k)))), v9, v10, v11, some (.fr (.tuple (rs.map roadE))), v13, some (.fr (.int 3)), v15, v16, v17]) rs
        (by simp -implicitDefEqProofs) ⟨v15, v16, by rw [List.take_zero, show gsum l [] = 0 from rfl, Rat.add_zero]⟩ (fun k hk ρ hp => by
          obtain ⟨v15, v16, rfl⟩ := hp
          have hf := road_fits hr.1 _ (List.getElem_mem hk)
          have fg := gsum_fits (l := l) (rs := rs.take k) (fun r hr2 => road_fits hr.1 r (List.mem_of_mem_take hr2)) (by rw [List.length_take]; have := hr.2; omega)
          have et : gsum l (rs.take (k + 1)) = gsum l (rs.take k) + sg l rs[k] := by
            unfold gsum
            rw [take_one rs k hk, List.map_append]
            exact sum_snoc _ _
          rw [et, ← Rat.add_assoc]
          generalize rs[k] = r at hf
          have fw := fits_add fs fg
          generalize w + gsum l (rs.take k) = w2 at fw
          refine ⟨[v0, v1, some (.fr (someE ts)), v3, v4, some (.fr (tupI l)), v6, v7, some (.fr (fq w2)), v9, v10, v11, some (.fr (.tuple (rs.map roadE))), v13, some (.fr (.int 3)), some (.fr (tupI r.1)), some (.fr (fq r.2)), v17], [v0, v1, some (.fr (someE ts)), v3, v4, some (.fr (tupI l)), v6, v7, some (.fr (fq (w2 + sg l r))), v9, v10, v11, some (.fr (.tuple (rs.map roadE))), v13, some (.fr (.int 3)), some (.fr (tupI r.1)), some (.fr (fq r.2)), v17], by simp -implicitDefEqProofs [roadE], ?_, ⟨_, _, rfl⟩⟩
          have en : cmpD .eq (tupI r.1) (tupI l) = some (decide (r.1 = l)) := c_eq (k := 1) (j := 1) (pl_tupI 0 _) (pl_tupI 0 _) (by omega) (by omega) (by
            rw [decide_eq_true_eq]
            exact ⟨fun e => tupI_inj e, fun e => by rw [e]⟩)
          by_cases hl : r.1 = l
          · have e5 := m_lplus (n := n + 7) fw hf (by omega)
            have ep : sg l r = r.2 := by unfold sg; rw [if_pos hl]
            rw [ep]
            rw [decide_eq_true hl] at en
            simp -implicitDefEqProofs [en, e5]
          · have e5 := m_lplus (n := n + 7) fw (fits_neg hf) (by omega)
            have eneg : PyData.tuple [.int (-r.2.num), .int (r.2.den : Int)] = fq (-r.2) := by
              unfold fq
              rw [Rat.neg_num, Rat.neg_den]
            have ep : sg l r = -r.2 := by unfold sg; rw [if_neg hl]
            rw [ep]
            rw [decide_eq_false hl] at en
            simp -implicitDefEqProofs [en, eneg, e5])
      rw [List.take_length] at e1
      refine ⟨[v0, v1, some (.fr (someE ts)), v3, v4, some (.fr (tupI l)), v6, v7, some (.fr (fq w)), v9, v10, v11, some (.fr (.tuple (rs.map roadE))), v13, some (.fr (.int 3)), v15, v16, v17], [v0, v1, some (.fr (someE ts)), v3, v4, some (.fr (tupI l)), v6, v7, some (.fr (fq (w + gsum l rs))), v9, v10, v11, some (.fr (.tuple (rs.map roadE))), v13, some (.fr (.int 3)), w15, w16, v17], by simp -implicitDefEqProofs, by simp -implicitDefEqProofs [e1], ⟨_, _, _, _, rfl⟩⟩)
  rw [List.take_length] at key
  exact key
theorem fq_inv {k : Nat} (h : 0 < k) : fq (Rat.divInt 1 (k : Int)) = .tuple [.int 1, .int (k : Int)] := by
  obtain ⟨e1, e2⟩ := low_pos (a := 1) (b := (k : Int)) (by omega)
  have eg : Nat.gcd (1 : Int).natAbs ((k : Int)).natAbs = 1 := Nat.gcd_one_left _
  rw [eg] at e1 e2
  unfold fq
  rw [← e1, ← e2]
  simp
/-- three tries at a lot -/
def tr9 : Sm := (.fors (.nm 10) (.rng (.cons (.cst (.int 3)) .nil)) (.cons (.asg (.nm 13) (.call 23 [.v, .v] (.cons (.call 20 [.io, .v] (.cons (.var 1) (.cons (.cst (.int 400)) .nil))) (.cons (.bin .add (.cst (.int 1)) (.call 20 [.io, .v] (.cons (.var 1) (.cons (.cst (.int 20)) .nil)))) .nil)))) (.cons (.ifs (.call 85 [.v, .v] (.cons (.call 166 [.v, .v, .v] (.cons (.var 2) (.cons (.var 5) (.cons (.var 13) .nil)))) (.cons (.var 4) .nil))) (.cons (.ret (.cst (.bool false))) .nil) .nil) .nil)))
theorem tries9 (n : Nat) (v0 v3 v6 v7 v8 v9 v10 v11 v12 v13 v14 v15 v16 v17 : Option OV) (ts : List (List Road)) (h : Some ts) (l : Lot) (s : Row) (hs : s.ok) (b : Rat) (fb : fits 4000 b) (hb : ∀ x : Rat, 0 ≤ x → b ≤ atF l x ts) :
    ∃ ρ', exS (callF G (n + 9)) tr9 [v0, some (rowE s), some (.fr (someE ts)), v3, some (.fr (fq b)), some (.fr (tupI l)), v6, v7, v8, v9, v10, v11, v12, v13, v14, v15, v16, v17] = some (.ok .nx, ρ') ∧
    ∃ s' v10 v13, s'.ok ∧ ρ' = [v0, some (rowE s'), some (.fr (someE ts)), v3, some (.fr (fq b)), some (.fr (tupI l)), v6, v7, v8, v9, v10, v11, v12, v13, v14, v15, v16, v17] := by
  have key := s_forI (cf := callF G (n + 9)) (t := .nm 10) (i := .rng (.cons (.cst (.int 3)) .nil)) (b := (.cons (.asg (.nm 13) (.call 23 [.v, .v] (.cons (.call 20 [.io, .v] (.cons (.var 1) (.cons (.cst (.int 400)) .nil))) (.cons (.bin .add (.cst (.int 1)) (.call 20 [.io, .v] (.cons (.var 1) (.cons (.cst (.int 20)) .nil)))) .nil)))) (.cons (.ifs (.call 85 [.v, .v] (.cons (.call 166 [.v, .v, .v] (.cons (.var 2) (.cons (.var 5) (.cons (.var 13) .nil)))) (.cons (.var 4) .nil))) (.cons (.ret (.cst (.bool false))) .nil) .nil) .nil)))
    (ρ := [v0, some (rowE s), some (.fr (someE ts)), v3, some (.fr (fq b)), some (.fr (tupI l)), v6, v7, v8, v9, v10, v11, v12, v13, v14, v15, v16, v17]) (ρ1 := [v0, some (rowE s), some (.fr (someE ts)), v3, some (.fr (fq b)), some (.fr (tupI l)), v6, v7, v8, v9, v10, v11, v12, v13, v14, v15, v16, v17])
    natD (fun _ ρ => ∃ s' v10 v13, s'.ok ∧ ρ = [v0, some (rowE s'), some (.fr (someE ts)), v3, some (.fr (fq b)), some (.fr (tupI l)), v6, v7, v8, v9, v10, v11, v12, v13, v14, v15, v16, v17]) (List.range 3)
    (by
      simp -implicitDefEqProofs
      rw [rng_int (by omega) (by omega)]
      simp) ⟨s, v10, v13, hs, rfl⟩ (fun k hk ρ hp => by
      obtain ⟨s', v10, v13, hs', rfl⟩ := hp
      have e1 := m_taken (n + 8) s' hs' 400 (by omega) (by omega)
      have t1 := take_lt (s := s') (many := 400) (by omega)
      have t2 := take_ok (s := s') (many := 400) (by omega) hs'
      generalize take s' 400 = ta at e1 t1 t2
      obtain ⟨a, s2⟩ := ta
      dsimp only at e1 t1 t2
      have e2 := m_taken (n + 8) s2 t2 20 (by omega) (by omega)
      have t3 := take_lt (s := s2) (many := 20) (by omega)
      have t4 := take_ok (s := s2) (many := 20) (by omega) t2
      generalize take s2 20 = tb at e2 t3 t4
      obtain ⟨c, s3⟩ := tb
      dsimp only at e2 t3 t4
      have hc : (1 + c).natAbs < 2 ^ 9 := by
        have : (2 : Nat) ^ 9 = 512 := by decide
        rw [this]
        omega
      have e3 := m_fr (n + 8) a (1 + c) (by omega) (Nat.lt_of_lt_of_le hc (Nat.pow_le_pow_right (by omega) (by omega)))
      have fx : fits 9 (Rat.divInt a (1 + c)) := fits_divInt (by omega) (by
        have : (2 : Nat) ^ 9 = 512 := by decide
        rw [this]
        omega) hc
      have hx : 0 ≤ Rat.divInt a (1 + c) := Rat.divInt_nonneg (by omega) (by omega)
      generalize Rat.divInt a (1 + c) = x at e3 fx hx
      have e4 := m_lat (n + 6) ts h l x 9 fx (by omega)
      have fa := atF_fits h l fx
      have e5 := m_lbelow (n := n + 8) fa fb (by omega)
      have hn : ¬ atF l x ts < b := by
        have := hb x hx
        grind
      rw [decide_eq_false hn] at e5
      refine ⟨[v0, some (rowE s'), some (.fr (someE ts)), v3, some (.fr (fq b)), some (.fr (tupI l)), v6, v7, v8, v9, some (.fr (natD (List.range 3)[k])), v11, v12, v13, v14, v15, v16, v17], [v0, some (rowE s3), some (.fr (someE ts)), v3, some (.fr (fq b)), some (.fr (tupI l)), v6, v7, v8, v9, some (.fr (natD (List.range 3)[k])), v11, v12, some (.fr (fq x)), v14, v15, v16, v17], by simp -implicitDefEqProofs, ?_, ⟨s3, _, _, t4, rfl⟩⟩
      simp -implicitDefEqProofs [e1, e2, e3, e4, e5])
  exact key
end DP

set_option Elab.async false
set_option linter.all false
set_option autoImplicit false
set_option maxRecDepth 100000
set_option maxHeartbeats 4000000
/-! P9f: law k09. -/
namespace DP
open PySem PySem.Spec
/-- a lot's turn -/
def lt9 : Sms := (.cons (.asg (.nm 8) (.tup (.cons (.cst (.int 0)) (.cons (.cst (.int 1)) .nil)))) (.cons wl9 (.cons (.asg (.nm 9) (.call 25 [.v, .v] (.cons (.var 8) (.cons (.tup (.cons (.cst (.int 1)) (.cons (.blt .len (.cons (.var 2) .nil)) .nil))) .nil)))) (.cons (.ifs (.bo true (.cons (.cmp .gt (.idx (.var 9) (.cst (.int 0))) (.cst (.int 0))) (.cons (.cmp .ne (.var 3) (.tup (.cons (.tup (.cons (.var 5) (.cons (.var 9) .nil))) .nil))) .nil))) (.cons (.ret (.cst (.bool false))) .nil) .nil) (.cons tr9 .nil)))))
theorem pos_of_num {q : Rat} (h : 0 < q.num) : 0 < q := by
  refine (q_lt 0 q).mp ?_
  have e : (0 : Rat).num = 0 := rfl
  have e2 : ((0 : Rat).den : Int) = 1 := rfl
  rw [e, e2]
  omega
theorem pos_back {g m : Rat} (hm : 0 < m) (h : 0 < g / m) : 0 < g := by
  have h2 := Rat.mul_pos h hm
  have hm0 : m ≠ 0 := by grind
  have e : g / m * m = g := by grind
  rw [e] at h2
  exact h2
theorem mul_one_div {g m : Rat} (hm : 0 < m) : g * (1 / m) = g / m := by grind
theorem not_pos {g : Rat} (h : 0 < g) (h2 : g ≤ 0) : False := by grind
theorem turn9 (n : Nat) (v0 v6 v7 v8 v9 v10 v11 v12 v13 v14 v15 v16 v17 : Option OV) (ts : List (List Road)) (h : Some ts) (l : Lot) (hl : L3 l) (s : Row) (hs : s.ok) (b : Rat) (fb : fits 4000 b) (hb : ∀ x : Rat, 0 ≤ x → b ≤ atF l x ts) :
    ∃ ρ', exSs (callF G (n + 9)) lt9 [v0, some (rowE s), some (.fr (someE ts)), some (.fr (spidF ts)), some (.fr (fq b)), some (.fr (tupI l)), v6, v7, v8, v9, v10, v11, v12, v13, v14, v15, v16, v17] = some (.ok .nx, ρ') ∧
    ∃ s' v8 v9 v10 v12 v13 v14 v15 v16, s'.ok ∧ ρ' = [v0, some (rowE s'), some (.fr (someE ts)), some (.fr (spidF ts)), some (.fr (fq b)), some (.fr (tupI l)), v6, v7, v8, v9, v10, v11, v12, v13, v14, v15, v16, v17] := by
  obtain ⟨ρ1, e1, w12, w14, w15, w16, rfl⟩ := whole9 n v0 (some (rowE s)) (some (.fr (spidF ts))) (some (.fr (fq b))) v6 v7 v9 v10 v11 v12 v13 v14 v15 v16 v17 ts h l
  rw [fq_0] at e1
  have fg := gainS_fits (l := l) h.2 h.1.2
  have fn : fits 4 (Rat.divInt 1 (ts.length : Int)) := fits_divInt (by have := h.1; omega) (by decide) (by
    have : (2 : Nat) ^ 4 = 16 := by decide
    rw [this]
    have := h.1
    omega)
  have e2 := m_ltimes (n := n + 7) fg fn (by omega)
  rw [fq_inv (by have := h.1; omega)] at e2
  have en : gainS l ts * Rat.divInt 1 (ts.length : Int) = gainS l ts / ((ts.length : Int) : Rat) := by
    have : Rat.divInt 1 (ts.length : Int) = 1 / ((ts.length : Int) : Rat) := by
      rw [Rat.divInt_eq_div]
      rfl
    rw [this]
    exact mul_one_div (n_pos h)
  rw [en] at e2
  have hd : (if 0 < (gainS l ts / ((ts.length : Int) : Rat)).num then spidF ts = .tuple [.tuple [tupI l, fq (gainS l ts / ((ts.length : Int) : Rat))]] else True) := by
    split
    · rename_i hp
      have hp2 := pos_of_num hp
      have hg : 0 < gainS l ts := pos_back (n_pos h) hp2
      rcases best_one h with ⟨k, hk, hk2, e3, ho⟩ | ⟨e3, ho⟩
      · by_cases he : l = k
        · rw [e3, he]
          unfold spidE
          rw [gain_eq]
        · exact (not_pos hg (ho l hl he)).elim
      · exact (not_pos hg (ho l hl)).elim
    · trivial
  generalize gainS l ts / ((ts.length : Int) : Rat) = x at e2 hd
  obtain ⟨ρ2, e4, s', u10, u13, g1, rfl⟩ := tries9 n v0 (some (.fr (spidF ts))) v6 v7 (some (.fr (fq (gainS l ts)))) (some (.fr (fq x))) v10 v11 w12 v13 w14 w15 w16 v17 ts h l s hs b fb hb
  refine ⟨_, ?_, s', some (.fr (fq (gainS l ts))), some (.fr (fq x)), u10, w12, u13, w14, w15, w16, g1, rfl⟩
  by_cases hp : 0 < x.num
  · rw [if_pos hp] at hd
    rw [hd] at e1 e4 ⊢
    have e5 : cmpD .ne (.tuple [.tuple [tupI l, fq x]]) (.tuple [.tuple [tupI l, fq x]]) = some (!true) := by
      have h1 : pl 2 (tupI l) = true := pl_tupI 1 l
      have h2 : pl 4 (.tuple [.tuple [tupI l, fq x]]) = true := by simp [pl, pls, h1]
      exact c_ne (k := 4) (j := 4) h2 h2 (by omega) (by omega) (by simp)
    simp -implicitDefEqProofs [lt9, e1, e2, hp, e5, e4]
  · simp -implicitDefEqProofs [lt9, e1, e2, hp, e4]
theorem part4 (n : Nat) (v0 v5 v7 v11 v12 v13 : Option OV) (ts : List (List Road)) (s : Row) (h : Some ts) (hs : s.ok) (b : Rat) (fb : fits 4000 b) (hb : ∀ l, L3 l → ∀ x : Rat, 0 ≤ x → b ≤ atF l x ts) :
    ∃ s' ρr, s'.ok ∧ ∀ T, exSs (callF G (n + 9)) (h4_Lk09 T) [v0, some (rowE s), some (.fr (someE ts)), some (.fr (spidF ts)), some (.fr (fq b)), v5, none, v7, none, none, none, v11, v12, v13, none, none, none, none] =
    exSs (callF G (n + 9)) T (v0 :: some (rowE s') :: some (.fr (someE ts)) :: some (.fr (spidF ts)) :: some (.fr (fq b)) :: some (.fr (tupI [2, 3])) :: none :: ρr) := by
  have key := s_forI (cf := callF G (n + 9)) (t := .nm 5) (i := .it (.lst (.cons (.tup (.cons (.cst (.int 1)) (.cons (.cst (.int 2)) .nil))) (.cons (.tup (.cons (.cst (.int 1)) (.cons (.cst (.int 3)) .nil))) (.cons (.tup (.cons (.cst (.int 2)) (.cons (.cst (.int 3)) .nil))) .nil))))) (b := lt9)
    (ρ := [v0, some (rowE s), some (.fr (someE ts)), some (.fr (spidF ts)), some (.fr (fq b)), v5, none, v7, none, none, none, v11, v12, v13, none, none, none, none]) (ρ1 := [v0, some (rowE s), some (.fr (someE ts)), some (.fr (spidF ts)), some (.fr (fq b)), v5, none, v7, none, none, none, v11, v12, v13, none, none, none, none])
    tupI (fun k ρ => ∃ (s' : Row) (v5 v8 v9 v10 v12 v13 v14 v15 v16 : Option OV), s'.ok ∧ (k = 3 → v5 = some (.fr (tupI [2, 3]))) ∧ ρ = [v0, some (rowE s'), some (.fr (someE ts)), some (.fr (spidF ts)), some (.fr (fq b)), v5, none, v7, v8, v9, v10, v11, v12, v13, v14, v15, v16, none]) [[1, 2], [1, 3], [2, 3]]
    (by
      have e : keysO (.lst [OV.fr (.tuple [.int 1, .int 2]), .fr (.tuple [.int 1, .int 3]), .fr (.tuple [.int 2, .int 3])]) = some ([[1, 2], [1, 3], [2, 3]].map tupI) := rfl
      simp -implicitDefEqProofs only [x_it, x_lst, x_s1, x_s0, x_tup, x_cst, k_ok, r_ok, mkTup_e, frsO_1, frsO_0, Option.map_some, e, r_of])
    ⟨s, v5, none, none, none, v12, v13, none, none, none, hs, (fun e => by cases e), rfl⟩ (fun k hk ρ hp => by
      obtain ⟨s', v5, v8, v9, v10, v12, v13, v14, v15, v16, g1, g2, rfl⟩ := hp
      have hl : L3 ([[1, 2], [1, 3], [2, 3]] : List Lot)[k] := by
        have : k = 0 ∨ k = 1 ∨ k = 2 := by simp at hk; omega
        rcases this with rfl | rfl | rfl
        · exact .inl rfl
        · exact .inr (.inl rfl)
        · exact .inr (.inr rfl)
      have h23 : k + 1 = 3 → ([[1, 2], [1, 3], [2, 3]] : List Lot)[k] = [2, 3] := fun e => by
        have : k = 2 := by omega
        subst this
        rfl
      generalize ([[1, 2], [1, 3], [2, 3]] : List Lot)[k] = l at hl h23
      obtain ⟨ρ2, e1, s2, w8, w9, w10, w12, w13, w14, w15, w16, g3, rfl⟩ := turn9 n v0 none v7 v8 v9 v10 v11 v12 v13 v14 v15 v16 none ts h l hl s' g1 b fb (hb l hl)
      exact ⟨_, _, by simp -implicitDefEqProofs, e1, ⟨s2, some (.fr (tupI l)), w8, w9, w10, w12, w13, w14, w15, w16, g3, fun e => by rw [h23 e], rfl⟩⟩)
  obtain ⟨ρ', e1, s', u5, u8, u9, u10, u12, u13, u14, u15, u16, g1, g2, rfl⟩ := key
  have g3 := g2 rfl
  subst g3
  refine ⟨s', [v7, u8, u9, u10, v11, u12, u13, u14, u15, u16, none], g1, fun T => ?_⟩
  have hc : h4_Lk09 T = .cons (.fors (.nm 5) (.it (.lst (.cons (.tup (.cons (.cst (.int 1)) (.cons (.cst (.int 2)) .nil))) (.cons (.tup (.cons (.cst (.int 1)) (.cons (.cst (.int 3)) .nil))) (.cons (.tup (.cons (.cst (.int 2)) (.cons (.cst (.int 3)) .nil))) .nil))))) lt9) T := rfl
  rw [hc, y_1, e1, k_ok, flL_nx]

theorem m_spider_no (n : Nat) (d : PyData) (hd : ∀ ds, d = .tuple ds → (ds.length : Int) ≤ 6 → ∀ t ∈ ds, okD t) (h : someD d = false) : callF G (n + 7) i_fspider [.fr d] = some (.error 7, []) := by
  have e0 := m_need_some n d hd
  rw [h] at e0
  refine callF_of (F := F_fspider) (r := .error 7) (ρ := [some (.fr d), none, none, none, none, none, none, none]) rfl rfl ?_ rfl
  simp -implicitDefEqProofs [F_fspider, b_fspider, startE, e0]
theorem pick_all {s : Row} (hs : s.ok) (ds : List PyData) (h0 : ds ≠ []) (h1 : ds.length < 2 ^ 64) : ds.getD (take s ds.length).1.toNat .none ∈ ds ∧ (take s ds.length).2.ok := by
  have hl : 0 < ds.length := List.length_pos_iff.mpr h0
  have hb := take_lt (s := s) (many := (ds.length : Int)) (by omega)
  refine ⟨?_, take_ok (by omega) hs⟩
  rw [List.getD_eq_getElem?_getD, List.getElem?_eq_getElem (by omega)]
  exact List.getElem_mem _
theorem rep_len {α : Type} (a : List α) : ∀ k, (List.replicate k a).flatten.length = k * a.length
  | 0 => by simp
  | k + 1 => by rw [List.replicate_succ, List.flatten_cons, List.length_append, rep_len a k, Nat.succ_mul]; omega
theorem okD_3 : okD (.tuple [.int 3, .none]) := fun m rs e => by
  injection e with e
  injection e with _ e
  injection e with e _
  cases e
theorem okD_4 : okD (.tuple [.int 4, .tuple []]) := fun m rs e => by
  injection e with e
  injection e with _ e
  injection e with e _
  injection e with e
  rw [← e]
  exact Nat.zero_le _
theorem tail9 (n : Nat) (v0 v3 v4 v5 : Option OV) (ρr : En) (ts : List (List Road)) (s : Row) (h : Some ts) (hs : s.ok) : ∃ ρ', exSs (callF G (n + 9)) t_Lk09 (v0 :: some (rowE s) :: some (.fr (someE ts)) :: v3 :: v4 :: v5 :: none :: ρr) = some (.ok (.rt (.bool true)), ρ') := by
  have hok : ∀ t ∈ ts.map (treeE 3), okD t := fun t ht => by
    obtain ⟨rs, hr, rfl⟩ := List.mem_map.mp ht
    exact okD_tree (by have := (h.2 rs hr).2; omega)
  have hlen := h.1
  let d1 : List PyData := ts.map (treeE 3)
  have hd1 : d1.length = ts.length := List.length_map ..
  let oh := [PyData.none, .tuple [], .list d1, .tuple [.tuple [.int 4, .tuple []]], .tuple (List.replicate 7 d1).flatten, .tuple (d1 ++ [.tuple [.int 3, .none]])]
  have hw : ∀ d ∈ oh, callF G (n + 9) i_fspider [.fr d] = some (.error 7, []) := fun d hd => by
    simp only [oh, List.mem_cons, List.not_mem_nil, or_false] at hd
    rcases hd with rfl | rfl | rfl | rfl | rfl | rfl
    · exact m_spider_no (n + 2) _ (fun ds e => by cases e) rfl
    · exact m_spider_no (n + 2) _ (fun ds e _ t ht => by injection e with e; rw [← e] at ht; cases ht) rfl
    · exact m_spider_no (n + 2) _ (fun ds e => by cases e) rfl
    · exact m_spider_no (n + 2) _ (fun ds e _ t ht => by
        injection e with e
        rw [← e] at ht
        rw [List.mem_singleton.mp ht]
        exact okD_4) (by decide +kernel)
    · have hl : (List.replicate 7 d1).flatten.length = 7 * ts.length := by rw [rep_len, hd1]
      refine m_spider_no (n + 2) _ (fun ds e h6 => ?_) ?_
      · injection e with e
        rw [← e, hl] at h6
        omega
      · unfold someD
        dsimp only
        rw [hl, decide_eq_false (p := ((7 * ts.length : Nat) : Int) ≤ 6) (by omega), Bool.and_false, Bool.false_and]
    · refine m_spider_no (n + 2) _ (fun ds e _ t ht => ?_) ?_
      · injection e with e
        rw [← e] at ht
        rcases List.mem_append.mp ht with ht | ht
        · exact hok t ht
        · rw [List.mem_singleton.mp ht]
          exact okD_3
      · unfold someD
        dsimp only
        have : (d1 ++ [PyData.tuple [.int 3, .none]]).all goodD = false := by
          rw [List.all_append]
          have : [PyData.tuple [.int 3, .none]].all goodD = false := by decide +kernel
          rw [this, Bool.and_false]
        rw [this, Bool.and_false]
  have ep := m_pick (n + 7) hs (.list oh) oh (.inl rfl) (by simp [oh]) (by simp [oh])
  obtain ⟨h7, h8⟩ := pick_all hs oh (by simp [oh]) (by simp [oh])
  have h9 := hw _ h7
  generalize oh.getD (take s oh.length).1.toNat .none = odd at ep h9
  generalize (take s oh.length).2 = s2 at ep
  have a1 : binO .mul (.fr (.tuple d1)) (.fr (.int 7)) = some (.fr (.tuple (List.replicate 7 d1).flatten)) := by
    show (if decide ((2 : Int) ≤ 7) && decide ((7 : Int) ≤ 1000) && !d1.isEmpty && decide (d1.length ≤ 1000) then some (OV.fr (.tuple (List.replicate (7 : Int).toNat d1).flatten)) else none) = _
    have h1 : d1.isEmpty = false := by
      cases hh : d1 with
      | nil => rw [hh] at hd1; simp at hd1; omega
      | cons _ _ => rfl
    rw [h1, decide_eq_true (p := d1.length ≤ 1000) (by omega)]
    rfl
  have a2 : small (d1.length + 1) = true := small_of (by omega)
  simp -implicitDefEqProofs only [oh] at ep
  have c2 : cmpD .eq (.str (Str.ofString "BadTrees")) (.str (Str.ofString "BadTrees")) = some true := by decide +kernel
  have hse : someE ts = .tuple d1 := rfl
  rw [hse]
  generalize d1 = d1 at a1 a2 ep
  generalize (List.replicate 7 d1).flatten = d7 at a1 ep
  refine ⟨?w, ?h⟩
  case h =>
    simp -implicitDefEqProofs [t_Lk09, a1, a2, ep, h9, c2, List.lookup]
    rfl
theorem law09 (n : Nat) (ns : List Int) : callF G (n + 10) i_flaw_k09 [.fr (.list (ns.map .int))] = some (.ok (.bool true), []) := by
  obtain ⟨ts, s, h, hs, e0⟩ := part0 n ns
  obtain ⟨ts1, s1, v7, v11, v12, h1, hs1, e1⟩ := part1 n (some (.fr (.list (ns.map .int)))) ts s h hs
  have e2 := part2 n (some (.fr (.list (ns.map .int)))) v7 v11 v12 ts1 s1 h1
  obtain ⟨b, v5, v13, fb, hb, e3⟩ := part3 n (some (.fr (.list (ns.map .int)))) v7 v11 v12 ts1 s1 h1
  obtain ⟨s2, ρr, hs2, e4⟩ := part4 n (some (.fr (.list (ns.map .int)))) v5 v7 v11 v12 v13 ts1 s1 h1 hs1 b fb hb
  obtain ⟨ρ', e5⟩ := tail9 n (some (.fr (.list (ns.map .int)))) (some (.fr (spidF ts1))) (some (.fr (fq b))) (some (.fr (tupI [2, 3]))) ρr ts1 s2 h1 hs2
  have hc : F_flaw_k09.body = h0_Lk09 (h1_Lk09 (h2_Lk09 (h3_Lk09 (h4_Lk09 t_Lk09)))) := cut_Lk09
  refine callF_of (F := F_flaw_k09) (r := .ok (.rt (.bool true))) (ρ := ρ') rfl rfl ?_ rfl
  rw [hc, e0, e1, e2, e3, e4, e5]
end DP

set_option Elab.async false
set_option linter.all false
set_option autoImplicit false
set_option maxRecDepth 100000
set_option maxHeartbeats 4000000
/-! DP, part Z: the law's def, the head. -/
namespace DP
open PySem PySem.Spec PyProof.Rows L2

theorem spF_er {K : PySem.W.Frag} {er er' : Nat → Value} {cf : CF} {id : Nat} {ps : List Bool} (he : ∀ c, c < 1000 → er' c = er c) {vs : List V} {H : Hp} {Q : VK} {E : XK} (h : spF K er' cf id ps vs H Q E) : spF K er cf id ps vs H Q E := by
  obtain ⟨h1, T, own, args, r, os, h2, h3, h4, h5, h6, h7, h8⟩ := h
  refine ⟨h1, T, own, args, r, os, h2, h3, h4, h5, h6, h7, fun H' own' a b c d => ?_⟩
  have z := h8 H' own' a b c d
  cases r with
  | ok d => exact z
  | error c' =>
    have z : E (er' c') none H' := z
    rw [he c' (h7 c' rfl)] at z
    exact z
/-! ### the text of the def that tells -/
def clzB (n : Str) : List ExceptHandler → List (Str × Str) → Bool
  | [], [] => true
  | h :: hs, y :: l => (match h with
    | .ExceptHandler (some (.Name x _)) (some m) [.Return (some (.Constant (.str s) _ _)) _] _ => decide (x = y.1) && (decide (m = n) && decide (s = y.2))
    | _ => false) && clzB n hs l
  | _, _ => false
theorem clzB_ok {n : Str} : ∀ {hs : List ExceptHandler} {l : List (Str × Str)}, clzB n hs l = true → ClzB n hs l
  | [], [], _ => .nil
  | [], _ :: _, h => by unfold clzB at h; cases h
  | _ :: _, [], h => by unfold clzB at h; cases h
  | h :: hs, y :: l, e => by
    unfold clzB at e
    rw [Bool.and_eq_true] at e
    obtain ⟨e1, e2⟩ := e
    split at e1
    · simp only [Bool.and_eq_true, decide_eq_true_eq] at e1
      obtain ⟨rfl, rfl, h3⟩ := e1
      obtain ⟨y1, y2⟩ := y
      have h3 : _ = y2 := h3
      subst h3
      exact .cons (clzB_ok e2)
    · cases e1
def toldB (a n : Str) (l : List (Str × Str)) : List Stmt → Bool
  | [.Try [.Expr (.Call (.Name b _) [] [] _) _] (h :: hs) [] [] _, .Return (some (.Constant (.str s) _ _)) _] => decide (b = a) && (decide (s = ("" : Str)) && clzB n (h :: hs) l)
  | _ => false
section
variable {P : Program} {w : World} {K : PySem.W.Frag} {mg : Str → Option Value} {base : Heap} {er : Nat → Value} {G : Nat → Option Fn}
/-- the law's promise -/
def spL (ok : List Int → Prop) (P' : Addr) : Sp := fun vs H Q _ => ∃ (a : Addr) (ns : List Int), vs = [.ref a] ∧ Rd H a (.lst (ns.map V.int)) ∧ H P' = some (.tbl #[]) ∧ ok ns ∧ ∀ H', Q (.bl true) H'
theorem ints_rd {F : Hp} : ∀ ns : List Int, RDs K F (ns.map V.int) (ns.map PyData.int)
  | [] => .nil
  | i :: r => .cons (.int i) (ints_rd r)
theorem law_step {Γ : Sg} {n iL : Nat} {F : Fn} {f : Addr} {params : Arguments} {body : List Stmt} {scope : Scope} {dV kV doc pm ct oc : Value} {an od : Option Addr} {osl : Array (Option Value)} {c P' : Addr} {ok : List Int → Prop} {er' : Nat → Value} (hG : G iL = some F) (hF : F.ps = [false])
    (lk : K.lookup f = some ⟨oc, od, .func (PySem.W.fnOf "law" "law" params body scope dV kV doc pm an (.ref c) ct), osl⟩) (hcd : PySem.W.codeIn K (.ref c) "law" = true) (S : FnScope Γ.N ["script"] scope) (hns : F.ns = Γ.N.length) (M : MC P w K mg base er' Γ)
    (htb : tbE er' = some P') (he : ∀ c, c < 1000 → er' c = er c)
    (hf : ∀ x id' ps', Γ.fns.lookup x = some (id', ps') → ∃ f' fd pn, FnOk P w K mg base (L2.CX P w) n f' fd pn (spF K er (callF G n) id' ps') ∧ mg x = some (.ref f') ∧ PySem.W.keepIn K (.ref f') = true ∧ L2.Binds K fd pn [])
    (TB : LamX.TabB base mg c P') {g : Addr} {fdg : FuncData} {pg : Arguments} {bg : List Stmt} {sg : Scope} {Ng : List Str} {a nm : Str} {i : Nat} {l : List (Str × Str)} (Fg : FunD K "_law_told" "_law_told" pg bg sg [] [] g fdg) (mgt : mg "_law_told" = some (.ref g)) (Sg' : FnScope Ng [a] sg)
    (hbd : ∀ (kV doc pm : Value) (an : Option Addr) (cdv ct : Value) (us : List Value), us.length = [a].length → bindArgs (PySem.W.fnOf "_law_told" "_law_told" pg bg sg .none kV doc pm an cdv ct) ⟨us, []⟩ = pure ([a].zip us))
    (hNg : Ng[0]? = some a) (hva : Vis sg a) (had : (a == ("__debug__" : Str)) = false) (hac : (a == ("__classdict__" : Str)) = false) (hi : Ng[i]? = some nm) (hln : sg.names.lookup nm = some .local) (hB : toldB a nm l bg = true) (hl : Γ.told.map (·.2) = l.map (·.2))
    (hnm : ∀ (k : Nat) (y : Str × Str) (v : Nat × Str), l[k]? = some y → Γ.told[k]? = some v → sg.names.lookup y.1 = some .globalImplicit ∧ (y.1 == ("__debug__" : Str)) = false ∧ mg y.1 = some (er' v.1))
    (hex : ∀ u ∈ Γ.told, ∀ v ∈ Γ.told, PySem.W.exmOne K (er' u.1) (er' v.1) = some (decide (u.1 = v.1)))
    (hck : ckSs Γ scope true true [] F.body body = true) (res : ∀ ns, ok ns → callF G (n + 1) iL [.fr (.list (ns.map .int))] = some (.ok (.bool true), [])) :
    FnOk P w K mg base (L2.CX P w) (n + 3) f (PySem.W.fnOf "law" "law" params body scope dV kV doc pm an (.ref c) ct) ["script"] (spL ok P') := by
  refine fn_of lk hcd S (fun vs H Q E h => by obtain ⟨a, ns, rfl, _⟩ := h; rfl) fun A outer s H vs Q E hr hsp => ?_
  obtain ⟨a0, ns, rfl, hS, hP, hok, hQ⟩ := hsp
  have hf' : ∀ x id' ps', Γ.fns.lookup x = some (id', ps') → ∃ f' fd pn, FnOk P w K mg base (L2.CX P w) n f' fd pn (spF K er' (callF G n) id' ps') ∧ mg x = some (.ref f') ∧ PySem.W.keepIn K (.ref f') = true ∧ L2.Binds K fd pn [] := fun x id' ps' hx => by
    obtain ⟨f', fd, pn, h1, h2⟩ := hf x id' ps' hx
    exact ⟨f', fd, pn, h1.imp fun vs H Q E q => spF_er he q, h2⟩
  generalize hX0 : cxOf (L2.CX P w) P w K mg base Γ.N "law" scope f (.ref c) A outer s H E = X0
  have hX : SC Γ (callF G n) er' scope true true X0 (fun cls d _ H => E cls d H) := by
    subst hX0
    refine ⟨⟨rfl, S.nd, rfl, rfl, ?_, takes_of rfl rfl rfl rfl, fun x id' ps' hl => ?_, M.nums, M.bl, M.bf, fun _ => ?_⟩, fun _ _ => rfl, passes_of rfl, fun x c hm hg hd p pos => ?_, fun _ => ⟨⟨rfl, rfl⟩, fun x c hm hg hd => ?_⟩⟩
    · have := hr.un
      show (A.deeper _).units + 70 < cLine
      omega
    · obtain ⟨f', fd, pn, h1, h2, h3, h4⟩ := hf' x id' ps' hl
      exact ⟨n, f', fd, pn, h1, hr.mono (by omega), h2, h3, h4⟩
    · obtain ⟨ocg, odg, dVg, kVg, docg, pmg, ang, cdvg, ctg, oslg, rfl, lkg, hcg, hDg, hKg⟩ := _root_.id Fg.ex
      have hb := Fg.bindsN hbd
      refine ⟨c, P', g, n, a, pg, bg, sg, dVg, kVg, docg, pmg, cdvg, ctg, ocg, ang, odg, oslg, Ng, htb, mgt, Fg.kp, lkg, hcg, hb, Sg', hNg, hva, ?_, TB, rfl, rfl, hr, had, hac, hex, hf'⟩
      unfold toldB at hB
      split at hB
      · simp only [Bool.and_eq_true, decide_eq_true_eq] at hB
        obtain ⟨rfl, rfl, hB⟩ := hB
        refine told_gives Sg'.nd hi hln (fun f => ?_) (clzB_ok hB) (by rw [List.map_map]; exact hl) fun k y v h1 h2 => ?_
        · unfold L2.start
          rfl
        · rw [List.getElem?_map] at h2
          cases ht : Γ.told[k]? with
          | none => rw [ht] at h2; cases h2
          | some v0 =>
            rw [ht] at h2
            cases h2
            exact hnm k y v0 h1 ht
      · cases hB
    · obtain ⟨C, bmB, B, newId, initId, e1, h1, h2, h3, h4, h5, _⟩ := M.ers x c hm
      rw [e1]
      exact pmk_own0 h1 h2 h3 h4 (h5 _ rfl rfl rfl rfl rfl) hg hd
    · obtain ⟨C, bmB, B, newId, initId, e1, h1, h2, h3, h4, h5, h6⟩ := M.ers x c hm
      exact ⟨⟨hg, hd, .inl (by rw [e1]; exact h3)⟩, h6⟩
  have hK : X0.K = K := by subst hX0; rfl
  have body_ok := sss F.body hX hck
  refine ⟨_, body_ok, ?_⟩
  have hc := res ns hok
  rw [callF_succ n iL _ hG] at hc
  split at hc
  rotate_left
  · cases hc
  split at hc
  · cases hc
  rename_i r' ρ' hev
  split at hc
  · cases hc
  rename_i os' ho
  rw [hK]
  have rd : ∀ Pw : OP, Pw = (fun b => b = P') → OR K H Pw (.ref a0) (.fr (.list (ns.map .int))) [] := fun Pw e => by
    subst e
    have ne : a0 ≠ P' := fun z => by
      subst z
      rcases hS with h | ⟨o, h⟩
      · rw [hP] at h; cases h
      · rw [hP] at h; cases h
    refine .fr (.lst ?_ (ints_rd ns))
    rcases hS with h | ⟨o, h⟩
    · exact .inl (mask_some.mpr ⟨ne, h⟩)
    · exact .inr ⟨o, mask_some.mpr ⟨ne, h⟩⟩
  have eP : Own (fun _ => False) [P'] = fun b => b = P' := by
    funext b
    unfold Own
    simp
  have pre : Pre K (tbE er') (fun _ => False) H (L2.start Γ.N [.ref a0]) (startE F [.fr (.list (ns.map .int))]) [P'] := by
    refine ⟨⟨[P'], ?_, .refl _⟩, by simp, fun _ _ z => z, fun _ z => z.elim⟩
    have bs : ESl K (tbE er') H (Own (fun _ => False) [P']) [] [] [P'] := .base htb ⟨#[], hP, True.intro, fun pos cv hc => by
      have z : codeAmong pos [] = some cv := hc
      simp [codeAmong] at z⟩
    have := ESl.start bs (vs := [.ref a0]) (os := [.fr (.list (ns.map .int))]) (as := []) (F.ns - 1) (.cons (as := []) (rd _ eP) .nil)
    rw [List.nil_append] at this
    unfold L2.start startE
    rw [hns] at this ⊢
    exact this
  refine ⟨fun _ => False, startE F [.fr (.list (ns.map .int))], [P'], (r', ρ'), pre, hev, ?_⟩
  cases r' with
  | error c => cases hc
  | ok fl =>
    cases fl with
    | nx => cases hc
    | rt d =>
      cases hc
      intro v σ' H' own' x p k rv
      have ev := rv.bl_inv
      subst ev
      exact hQ H'
end
end DP

set_option Elab.async false
set_option linter.all false
set_option autoImplicit false
set_option maxRecDepth 100000
set_option maxHeartbeats 4000000
/-! DP, part Z2: the hook and the walk. -/
namespace DP
open PySem PySem.Spec PyProof.Rows L2

/-- neither a list nor an object without a class -/
def keepO (g : Addr → Option Obj) (a : Addr) : Bool := match g a with
  | some o => (match o.cls with
    | .none => false
    | .type t => !(t == "list")
    | _ => true)
  | none => false
def frT (g : Addr → Option Obj) (n : Nat) : PySem.W.Frag := He.frG g ((He.asD g n).filter (keepO g))
theorem frG_mem {g : Addr → Option Obj} {a : Addr} {o : Obj} : ∀ {as : List Addr}, (He.frG g as).lookup a = some o → a ∈ as
  | [], e => by cases e
  | b :: r, e => by
    unfold He.frG at e
    rw [List.filterMap_cons] at e
    cases hb : g b with
    | none =>
      rw [hb] at e
      exact List.mem_cons_of_mem _ (frG_mem (g := g) (o := o) e)
    | some ob =>
      rw [hb] at e
      have e : List.lookup a ((b, ob) :: He.frG g r) = some o := e
      rw [List.lookup_cons] at e
      cases q : a == b with
      | true =>
        rw [beq_iff_eq.mp q]
        exact List.mem_cons_self
      | false =>
        rw [q] at e
        exact List.mem_cons_of_mem _ (frG_mem e)
/-- a part of the heap without lists and tables -/
def Bare (K : PySem.W.Frag) : Prop := ∀ a o, K.lookup a = some o → o.cls ≠ .none ∧ o.cls ≠ .type "list"
theorem frT_bare (g : Addr → Option Obj) (n : Nat) : Bare (frT g n) := fun a o e => by
  have hm := frG_mem e
  have hk := (List.mem_filter.mp hm).2
  have hg := He.frG_at _ e
  unfold keepO at hk
  rw [hg] at hk
  dsimp only at hk
  split at hk
  · cases hk
  · rename_i t ht
    rw [ht]
    refine And.intro (fun z => by cases z) fun z => ?_
    cases z
    cases hk
  · rename_i h1 h2
    exact And.intro h1 (h2 "list")
def lawT (K : PySem.W.Frag) : Bool := match PySem.W.tabIn K "law" with
  | some (c, P) => PySem.W.codeHdIn K c P
  | none => false
theorem lawT_ok {K : PySem.W.Frag} (h : lawT K = true) : ∃ c P, PySem.W.tabIn K "law" = some (c, P) ∧ PySem.W.codeHdIn K c P = true := by
  unfold lawT at h
  split at h
  · rename_i c P e
    exact ⟨c, P, e, h⟩
  · cases h
/-- names of the module that stand for built-ins -/
def bfB (bf : List (Str × String)) (K : PySem.W.Frag) : Bool := bf.all fun q => decide (PySem.W.nsIn K mainGlobals q.1 = some (some (.builtin q.2)))
def obsT (bf : List (Str × String)) (n : Nat) (fa : List He.Fa) (fn : List He.DefD) (g : Addr → Option Obj) : Bool × He.AlD := (lawT (frT g n) && bfB bf (frT g n), He.obsD fa fn (frT g n))
def hookT (bf : List (Str × String)) (n : Nat) (fa : List He.Fa) (fn : List He.DefD) : PySem.W.Hook where
  α := Bool × He.AlD
  obs := fun s => obsT bf n fa fn s.heap.get?
  val := fun _ => (true, He.valD fn)
  says := fun _ h => ∃ K : PySem.W.Frag, K.In h ∧ He.SaysD fa fn K ∧ Bare K ∧ (lawT K && bfB bf K) = true
  of := fun _ s e => ⟨frT s.heap.get? n, He.frG_in, congrArg (fun z : Bool × He.AlD => z.2) e, frT_bare _ _, congrArg (fun z : Bool × He.AlD => z.1) e⟩
  keeps := fun _ _ _ h k => let ⟨K, hK, c⟩ := h; ⟨K, PySem.W.Frag.In.keeps hK k, c⟩
theorem obsT_eq {bf : List (Str × String)} {n : Nat} {fa : List He.Fa} {fn : List He.DefD} {g : Addr → Option Obj} {s : Shared} (h : ∀ a, g a = s.heap.get? a) : obsT bf n fa fn g = (hookT bf n fa fn).obs s := by
  have e : g = s.heap.get? := funext h
  rw [e]
  rfl
/-- what is asked of a script -/
def okS (n : Nat) (ns : List Int) : Prop := ns.length ≤ n ∧ ∀ z ∈ ns, Builtin.Int.intBits z ≤ 1048576
theorem walk_dp {l : PySem.W.OpenLaw} {n k : Nat} {q : Program} {loose : List Str} {XP : (Str → Option Value) → Heap → Prop} {YP : World → Heap → Prop} {d d0 : DefRec} {x : Str}
    (hn : l.most = some n) (hn2 : n ≤ sizeLine) (hdf : d.params.defaults = []) (hr : Room k callerA) (hrec : (recsOf q).find? (fun e => e.name == ("law" : Str)) = some d0)
    (F : ∀ (w : World) (mg : Str → Option Value) (fa : Addr) (h : Heap), YP w h → h.Ns mainGlobals mg → mg d.name = some (.ref fa) → ∃ (K : PySem.W.Frag) (fd : FuncData) (c P' : Addr), K.In h ∧ Bare K ∧ PySem.W.tabIn K "law" = some (c, P') ∧ PySem.W.codeHdIn K c P' = true ∧
      (∀ (s : Shared) (u : Value), BindsTo s fd ⟨[u], []⟩ [(x, u)]) ∧ ∀ base : Heap, K.In base → base.Ns mainGlobals mg → LamX.TabB base mg c P' → FnOk l.prog w K mg base (L2.CX l.prog w) k fa fd [x] (spL (okS n) P')) :
    PySem.W.WalkO q loose XP YP l.row.toRowW d [] (fun f vs => PySem.call f vs) := by
  refine Att.attach_callB hn hdf fun w s₀ s₁ mg mb fa o pm cd doc a vs ns G Y ho hd hcd hmg hobj hints hlen hbits hg => ?_
  obtain ⟨K, fd, c, P', KX, bare, ht, hc, hb, hF⟩ := F w mg fa _ Y G.T.g hmg
  obtain ⟨hC, hP⟩ := PySem.W.tab_of G.T KX hrec ht
  have none_of : ∀ p ∈ [(c, P')], K.lookup p.2 = none := fun p hp => by
    rw [List.mem_singleton.mp hp]
    cases e : K.lookup P' with
    | none => rfl
    | some ob =>
      have e2 := KX _ _ e
      rw [hP] at e2
      cases e2
      exact absurd rfl (bare _ _ e).1
  refine LamX.law_callTs (cs := [(c, P')]) (CX := L2.CX l.prog w) (sp := spL (okS n) P') KX G.T.g G.T.b G.T.builtins G.T.nolimit hg (fun p hp => by rw [List.mem_singleton.mp hp]; exact hP) none_of (fun p hp => by rw [List.mem_singleton.mp hp]; exact hC) G.T.bmain hobj hints (Nat.le_trans hlen hn2) hr
    (fun base h1 h2 h3 => hF base h1 h2 (h3 _ List.mem_cons_self)) hb (fun H hH hS => ⟨a, ns, rfl, ?_, hH _ List.mem_cons_self, ⟨hlen, hbits⟩, fun _ => rfl⟩) fun H e s' z => ?_
  · rcases hS with h | ⟨ob, its, m, h1, h2, _⟩
    · exact h
    · exact absurd h2 (bare _ _ h1).2
  · obtain ⟨_, _, _, _, _, _, _, _, _, _, _, _, z⟩ := z
    exact z.elim
end DP

set_option Elab.async false
set_option linter.all false
set_option autoImplicit false
set_option maxRecDepth 100000
set_option maxHeartbeats 4000000
/-! DP, part Z3: all defs of a module. -/
namespace DP
open PySem PySem.Spec PyProof.Rows L2

structure DE where
  x : Str
  id : Nat
  F : Fn
  Γ : Sg
  ps : List Str
  st : Stmt
def DE.d (e : DE) : He.DefD := ⟨(e.x, none), e.x, e.x, defArgs e.st, defBody e.st, defScope e.st, [], []⟩
/-- the names that all defs of the module use -/
structure MN where
  nums : List (Str × Int)
  bl : List Str
  bf : List (Str × String)
  ers : List (Str × Nat)
def mcB (N : MN) (Γ : Sg) : Bool := (Γ.nums.all fun q => decide (q ∈ N.nums)) && ((Γ.bl.all fun q => decide (q ∈ N.bl)) && ((Γ.bf.all fun q => decide (q ∈ N.bf)) && Γ.ers.all fun q => decide (q ∈ N.ers)))
def fnB (l : List DE) (Γ : Sg) : Bool := Γ.fns.all fun q => l.any fun e => decide (e.x = q.1) && (decide (e.id = q.2.1) && decide (e.F.ps = q.2.2))
structure DEok (G : Nat → Option Fn) (N : MN) (l : List DE) (e : DE) : Prop where
  g : G e.id = some e.F
  sc : FnScope e.Γ.N e.ps (defScope e.st)
  len : e.F.ps.length = e.ps.length
  ns : e.F.ns = e.Γ.N.length
  mc : mcB N e.Γ = true
  fns : fnB l e.Γ = true
  told : e.Γ.told = []
  ck : ckSs e.Γ (defScope e.st) true true (fxOf e.F.ps 0) e.F.body (defBody e.st) = true
  bind : ∀ (kV doc pm : Value) (an : Option Addr) (cdv ct : Value) (us : List Value), us.length = e.ps.length → bindArgs (PySem.W.fnOf e.x e.x (defArgs e.st) (defBody e.st) (defScope e.st) .none kV doc pm an cdv ct) ⟨us, []⟩ = pure (e.ps.zip us)
theorem mem_lookup3 {α : Type} : ∀ {l : List (Str × α)} {x : Str} {v : α}, l.lookup x = some v → (x, v) ∈ l
  | (y, u) :: r, x, v, h => by
    rw [List.lookup_cons] at h
    cases q : x == y with
    | true =>
      rw [q] at h
      cases h
      rw [beq_iff_eq.mp q]
      exact List.mem_cons_self
    | false =>
      rw [q] at h
      exact List.mem_cons_of_mem _ (mem_lookup3 h)
section
variable {P : Program} {w : World} {K : PySem.W.Frag} {mg : Str → Option Value} {base : Heap} {er : Nat → Value} {G : Nat → Option Fn} {N : MN}
/-- what the head tells of these names -/
structure MNok (P : Program) (w : World) (K : PySem.W.Frag) (mg : Str → Option Value) (base : Heap) (er : Nat → Value) (N : MN) : Prop where
  nums : ∀ x i, (x, i) ∈ N.nums → ∃ t, mg x = some (.int i t)
  bl : ∀ x, x ∈ N.bl → mg x = none
  bf : ∀ x id, (x, id) ∈ N.bf → mg x = some (.builtin id)
  ers : ∀ x c, (x, c) ∈ N.ers → ∃ C : Addr, er c = .ref C ∧ PySem.W.excIn K C He.veBase "ValueError.__new__" = true ∧ mg x = some (.ref C) ∧ PySem.W.keepIn K (.ref C) = true ∧ PySem.W.subIn K (.ref C) (.type "BaseException") = some true ∧ PySem.W.typeIn K (.ref C) = some (.type "type") ∧ PySem.W.exmOne K (er c) (er c) = some true
theorem MNok.mc (M : MNok P w K mg base er N) {Γ : Sg} (h : mcB N Γ = true) : MC P w K mg base er Γ := by
  unfold mcB at h
  simp only [Bool.and_eq_true, List.all_eq_true, decide_eq_true_eq] at h
  obtain ⟨h1, h2, h3, h4⟩ := h
  refine ⟨fun x i hm => M.nums x i (h1 _ hm), fun x hm => M.bl x (h2 _ hm), fun x id hm => M.bf x id (h3 _ hm), fun x c hm => ?_⟩
  obtain ⟨C, e1, e2, e3, e4, e5, e6, e7⟩ := M.ers x c (h4 _ hm)
  refine ⟨C, He.veBase, "ValueError", "ValueError.__new__", "ValueError.__init__", e1, PySem.F.excBase_ValueError, e2, e3, e4, fun X _ _ hK _ _ => ?_, e7⟩
  subst hK
  exact raises_own e5 e6
theorem fns_of {l : List DE} {Γ : Sg} {n : Nat} {er : Nat → Value} (h : fnB l Γ = true) (A : ∀ e ∈ l, ∃ f fd pn, FnOk P w K mg base (L2.CX P w) n f fd pn (spF K er (callF G n) e.id e.F.ps) ∧ mg e.x = some (.ref f) ∧ PySem.W.keepIn K (.ref f) = true ∧ L2.Binds K fd pn []) :
    ∀ x id' ps', Γ.fns.lookup x = some (id', ps') → ∃ f' fd pn, FnOk P w K mg base (L2.CX P w) n f' fd pn (spF K er (callF G n) id' ps') ∧ mg x = some (.ref f') ∧ PySem.W.keepIn K (.ref f') = true ∧ L2.Binds K fd pn [] := fun x id' ps' hl => by
  unfold fnB at h
  have hm := List.all_eq_true.mp h _ (mem_lookup3 hl)
  obtain ⟨e, he, hb⟩ := List.any_eq_true.mp hm
  simp only [Bool.and_eq_true, decide_eq_true_eq] at hb
  obtain ⟨b1, b2, b3⟩ := hb
  obtain ⟨f, fd, pn, a1, a2, a3, a4⟩ := A e he
  rw [b2, b3] at a1
  rw [b1] at a2
  exact ⟨f, fd, pn, a1, a2, a3, a4⟩
theorem all_ok {l : List DE} (M : MNok P w K mg base er N) (htb : tbE er = none) (D : ∀ e ∈ l, DEok G N l e) (Fs : ∀ e ∈ l, ∃ f fd, FunD K e.x e.x (defArgs e.st) (defBody e.st) (defScope e.st) [] [] f fd ∧ mg e.x = some (.ref f)) :
    ∀ n, ∀ e ∈ l, ∃ f fd pn, FnOk P w K mg base (L2.CX P w) n f fd pn (spF K er (callF G n) e.id e.F.ps) ∧ mg e.x = some (.ref f) ∧ PySem.W.keepIn K (.ref f) = true ∧ L2.Binds K fd pn []
  | 0, e, he => by
    obtain ⟨f, fd, F, hm⟩ := Fs e he
    have d := D e he
    refine ⟨f, fd, e.ps, ⟨fun vs H Q E h => by rw [h.1, d.len], fun A outer s H args us vs Q E hr e0 hb r h => ?_⟩, hm, F.kp, F.bindsN d.bind⟩
    obtain ⟨_, _, _, _, _, _, _, _, _, _, hc, _⟩ := h
    cases hc
  | n + 1, e, he => by
    obtain ⟨f, fd, F, hm⟩ := Fs e he
    have d := D e he
    have hb := F.bindsN d.bind
    obtain ⟨oc, od, dV, kV, doc, pm, an, cdv, ct, osl, rfl, lk, hcd, hD, hK⟩ := F.ex
    exact ⟨f, _, e.ps, fn_step htb d.told d.g lk hcd d.sc d.len d.ns (M.mc d.mc) (fns_of d.fns (all_ok M htb D Fs n)) d.ck, hm, F.kp, hb⟩
end
end DP

set_option Elab.async false
set_option linter.all false
set_option autoImplicit false
set_option maxRecDepth 100000
set_option maxHeartbeats 4000000
/-! DP, part Z4: what the head tells. -/
namespace DP
open PySem PySem.Spec PyProof.Rows L2

theorem fact_mem {fa : List He.Fa} {fn : List He.DefD} {K : PySem.W.Frag} (c : He.SaysD fa fn K) {f : He.Fa} (h : f ∈ fa) : f.ok K = true := by
  obtain ⟨i, hi⟩ := List.mem_iff_getElem?.mp h
  exact c.fact i hi
theorem def_mem {fa : List He.Fa} {fn : List He.DefD} {K : PySem.W.Frag} (c : He.SaysD fa fn K) {e : DE} (h : e.d ∈ fn) : ∃ fd, FunD K e.x e.x (defArgs e.st) (defBody e.st) (defScope e.st) [] [] (He.fAd K (e.x, none)) fd := by
  obtain ⟨i, hi⟩ := List.mem_iff_getElem?.mp h
  exact c.def_ i hi
def faOf (xs : List Str) (N : MN) : List He.Fa := xs.map .glo ++ (N.bl.map .free ++ (N.nums.map (fun q => .int q.1 q.2) ++ (N.ers.map (fun q => .glo q.1) ++ (N.ers.map (fun q => .exc q.1) ++ N.ers.flatMap fun q => N.ers.map fun r => .exm q.1 r.1 (decide (q.2 = r.2))))))
def erK (N : MN) (K : PySem.W.Frag) (c : Nat) : Value := match N.ers.find? fun q => q.2 == c with
  | some q => .ref (He.ga K q.1)
  | none => .none
def ersB (N : MN) : Bool := N.ers.all fun q => decide (N.ers.find? (fun r => r.2 == q.2) = some q) && decide (q.2 < 1000)
section
variable {P : Program} {w : World} {K : PySem.W.Frag} {mg : Str → Option Value} {base h : Heap} {N : MN} {xs : List Str} {fn : List He.DefD}
theorem erK_at (hE : ersB N = true) {x : Str} {c : Nat} (hm : (x, c) ∈ N.ers) : erK N K c = .ref (He.ga K x) ∧ c < 1000 := by
  unfold ersB at hE
  have := List.all_eq_true.mp hE _ hm
  simp only [Bool.and_eq_true, decide_eq_true_eq] at this
  unfold erK
  rw [this.1]
  exact ⟨rfl, this.2⟩
theorem erK_none (hE : ersB N = true) : tbE (erK N K) = none := by
  unfold tbE
  have : N.ers.find? (fun q => q.2 == 1000000) = none := by
    rw [List.find?_eq_none]
    intro q hq z
    have := List.all_eq_true.mp hE _ hq
    simp only [Bool.and_eq_true, decide_eq_true_eq] at this
    have z := eq_of_beq z
    omega
  unfold erK
  rw [this]
theorem exm_at (c : He.SaysD (faOf xs N) fn K) {x y : Str} {i j : Nat} (h1 : (x, i) ∈ N.ers) (h2 : (y, j) ∈ N.ers) : PySem.W.exmOne K (.ref (He.ga K x)) (.ref (He.ga K y)) = some (decide (i = j)) := by
  refine He.exm_ok (fact_mem c ?_)
  unfold faOf
  refine List.mem_append_right _ (List.mem_append_right _ (List.mem_append_right _ (List.mem_append_right _ (List.mem_append_right _ ?_))))
  exact List.mem_flatMap.mpr ⟨(x, i), h1, List.mem_map.mpr ⟨(y, j), h2, rfl⟩⟩
theorem mn_ok (X : K.In h) (Gs : h.Ns mainGlobals mg) (c : He.SaysD (faOf xs N) fn K) (hE : ersB N = true) (hb : bfB N.bf K = true) : MNok P w K mg base (erK N K) N where
  nums := fun x i hm => He.int_ok X Gs (fact_mem c (by
    unfold faOf
    exact List.mem_append_right _ (List.mem_append_right _ (List.mem_append_left _ (List.mem_map.mpr ⟨(x, i), hm, rfl⟩)))))
  bl := fun x hm => He.free_ok X Gs (fact_mem c (by
    unfold faOf
    exact List.mem_append_right _ (List.mem_append_left _ (List.mem_map.mpr ⟨x, hm, rfl⟩))))
  bf := fun x id hm => by
    have := List.all_eq_true.mp hb _ hm
    exact PySem.W.mg_of X Gs (of_decide_eq_true this)
  ers := fun x i hm => by
    have g1 : (He.Fa.glo x).ok K = true := fact_mem c (by
      unfold faOf
      exact List.mem_append_right _ (List.mem_append_right _ (List.mem_append_right _ (List.mem_append_left _ (List.mem_map.mpr ⟨(x, i), hm, rfl⟩)))))
    have g2 : (He.Fa.exc x).ok K = true := fact_mem c (by
      unfold faOf
      exact List.mem_append_right _ (List.mem_append_right _ (List.mem_append_right _ (List.mem_append_right _ (List.mem_append_left _ (List.mem_map.mpr ⟨(x, i), hm, rfl⟩))))))
    obtain ⟨e1, e2, e3, e4⟩ := He.exc_ok g2
    have eK := (erK_at (K := K) hE hm).1
    refine ⟨He.ga K x, eK, e1, He.glo_ok X Gs g1, e2, e3, e4, ?_⟩
    rw [eK]
    have := exm_at c hm hm
    simpa using this
theorem glo_at (X : K.In h) (Gs : h.Ns mainGlobals mg) (c : He.SaysD (faOf xs N) fn K) {x : Str} (hx : x ∈ xs) : mg x = some (.ref (He.ga K x)) := He.glo_ok X Gs (fact_mem c (by
  unfold faOf
  exact List.mem_append_left _ (List.mem_map.mpr ⟨x, hx, rfl⟩)))
theorem funs_at (X : K.In h) (Gs : h.Ns mainGlobals mg) (c : He.SaysD (faOf xs N) fn K) {l : List DE} (h1 : ∀ e ∈ l, e.x ∈ xs) (h2 : ∀ e ∈ l, e.d ∈ fn) : ∀ e ∈ l, ∃ f fd, FunD K e.x e.x (defArgs e.st) (defBody e.st) (defScope e.st) [] [] f fd ∧ mg e.x = some (.ref f) := fun e he => by
  obtain ⟨fd, F⟩ := def_mem c (h2 e he)
  exact ⟨_, fd, F, glo_at X Gs c (h1 e he)⟩
end
end DP

set_option Elab.async false
set_option linter.all false
set_option autoImplicit false
set_option maxRecDepth 100000
set_option maxHeartbeats 4000000
/-! DP, part Z5: the law at the head. -/
namespace DP
open PySem PySem.Spec PyProof.Rows L2

theorem tabIn_code {K : PySem.W.Frag} {x : Str} {c P : Addr} {oc : Value} {od : Option Addr} {fd : FuncData} {osl : Array (Option Value)} (h : PySem.W.tabIn K x = some (c, P)) (lk : K.lookup (He.ga K x) = some ⟨oc, od, .func fd, osl⟩) : fd.code = .ref c := by
  unfold PySem.W.tabIn at h
  unfold He.ga at lk
  split at h
  · rename_i f hf
    rw [hf] at lk
    dsimp only at lk
    rw [lk] at h
    dsimp only at h
    split at h
    · rename_i c2 hc
      split at h
      · split at h
        · cases h
          exact hc
        · cases h
      · cases h
    · cases h
  · cases h
theorem MC.er {P : Program} {w : World} {K : PySem.W.Frag} {mg : Str → Option Value} {base : Heap} {er er' : Nat → Value} {Γ : Sg} (M : MC P w K mg base er Γ) (h : ∀ x c, (x, c) ∈ Γ.ers → er' c = er c) : MC P w K mg base er' Γ :=
  ⟨M.nums, M.bl, M.bf, fun x c hm => by rw [h x c hm]; exact M.ers x c hm⟩
/-- the clauses name errors of the module -/
def clB (N : MN) (sg : Scope) (l : List (Str × Str)) (t : List (Nat × Str)) : Bool := (l.zip t).all fun p => glB sg p.1.1 && (!(p.1.1 == ("__debug__" : Str)) && decide ((p.1.1, p.2.1) ∈ N.ers))
def exB (N : MN) (t : List (Nat × Str)) : Bool := t.all fun u => (N.ers.any fun q => decide (q.2 = u.1))
section
variable {P : Program} {w : World} {K : PySem.W.Frag} {mg : Str → Option Value} {h : Heap} {N : MN} {fn : List He.DefD} {G : Nat → Option Fn} {l : List DE} {xs : List Str}
/-- the whole: what a law's walk asks -/
theorem law_all {e t : DE} {n : Nat} {a nm : Str} {Ng : List Str} {i : Nat} {cl : List (Str × Str)} {ok : List Int → Prop} {fa c P' : Addr} (X : K.In h) (Gs : h.Ns mainGlobals mg) (S : He.SaysD (faOf xs N) fn K) (hE : ersB N = true) (hb : bfB N.bf K = true) (ht : PySem.W.tabIn K "law" = some (c, P')) (hmg : mg "law" = some (.ref fa))
    (D : ∀ e ∈ l, DEok G N l e) (h1 : ∀ e ∈ l, e.x ∈ xs) (h2 : ∀ e ∈ l, e.d ∈ fn) (hxL : ("law" : Str) ∈ xs) (hxT : ("_law_told" : Str) ∈ xs) (heL : e.d ∈ fn) (htL : t.d ∈ fn) (ex : e.x = "law") (tx : t.x = "_law_told")
    (hG : G e.id = some e.F) (hF : e.F.ps = [false]) (Sc : FnScope e.Γ.N ["script"] (defScope e.st)) (hns : e.F.ns = e.Γ.N.length) (hmc : mcB N e.Γ = true) (hfn : fnB l e.Γ = true) (hck : ckSs e.Γ (defScope e.st) true true [] e.F.body (defBody e.st) = true)
    (hbL : ∀ (kV doc pm : Value) (an : Option Addr) (cdv ct : Value) (us : List Value), us.length = ["script"].length → bindArgs (PySem.W.fnOf "law" "law" (defArgs e.st) (defBody e.st) (defScope e.st) .none kV doc pm an cdv ct) ⟨us, []⟩ = pure ((["script"] : List Str).zip us))
    (Sg' : FnScope Ng [a] (defScope t.st)) (hbd : ∀ (kV doc pm : Value) (an : Option Addr) (cdv ct : Value) (us : List Value), us.length = [a].length → bindArgs (PySem.W.fnOf "_law_told" "_law_told" (defArgs t.st) (defBody t.st) (defScope t.st) .none kV doc pm an cdv ct) ⟨us, []⟩ = pure ([a].zip us))
    (hNg : Ng[0]? = some a) (hva : Vis (defScope t.st) a) (had : (a == ("__debug__" : Str)) = false) (hac : (a == ("__classdict__" : Str)) = false) (hi : Ng[i]? = some nm) (hln : (defScope t.st).names.lookup nm = some .local) (hB : toldB a nm cl (defBody t.st) = true) (hl : e.Γ.told.map (·.2) = cl.map (·.2))
    (hnm : clB N (defScope t.st) cl e.Γ.told = true) (hex : exB N e.Γ.told = true) (res : ∀ ns, ok ns → callF G (n + 1) e.id [.fr (.list (ns.map .int))] = some (.ok (.bool true), [])) :
    ∃ fd, (∀ (s : Shared) (u : Value), BindsTo s fd ⟨[u], []⟩ [(("script" : Str), u)]) ∧ ∀ base : Heap, K.In base → base.Ns mainGlobals mg → LamX.TabB base mg c P' → FnOk P w K mg base (L2.CX P w) (n + 3) fa fd ["script"] (spL ok P') := by
  obtain ⟨fd, FL⟩ := def_mem S heL
  obtain ⟨fdT, FT⟩ := def_mem S htL
  rw [ex] at FL
  rw [tx] at FT
  have mL := glo_at X Gs S hxL
  rw [hmg] at mL
  have eL : fa = He.ga K "law" := by cases mL; rfl
  have eF : He.fAd K (("law" : Str), none) = He.ga K "law" := rfl
  refine ⟨fd, fun s u => FunD.bindsA (ps := ["script"]) FL hbL s [u] rfl, fun base h3 h4 TB => ?_⟩
  obtain ⟨oc, od, dV, kV, doc, pm, an, cdv, ct, osl, rfl, lk, hcd, hD, hK⟩ := FL.ex
  rw [eF] at lk
  have ec : cdv = .ref c := tabIn_code ht lk
  subst ec
  rw [eL]
  have M := mn_ok (P := P) (w := w) (base := base) X Gs S hE hb
  have hlt : ∀ {x : Str} {c : Nat}, (x, c) ∈ N.ers → c < 1000 := fun hm => (erK_at (K := K) hE hm).2
  have her : ∀ c, c < 1000 → (fun c => if c = 1000000 then Value.ref P' else erK N K c) c = erK N K c := fun c hc => if_neg (by omega)
  refine law_step (er := erK N K) (er' := fun c => if c = 1000000 then .ref P' else erK N K c) hG hF lk hcd Sc hns ((M.mc hmc).er fun x c hm => her c ?_) (by unfold tbE; simp) her (fns_of hfn (all_ok M (erK_none hE) D (funs_at X Gs S h1 h2) n)) TB FT (glo_at X Gs S hxT) Sg' hbd hNg hva had hac hi hln hB hl (fun k y v q1 q2 => ?_) (fun u hu v hv => ?_) hck res
  · unfold mcB at hmc
    simp only [Bool.and_eq_true, List.all_eq_true, decide_eq_true_eq] at hmc
    exact hlt (hmc.2.2.2 _ hm)
  · have hz : (y, v) ∈ cl.zip e.Γ.told := by
      refine List.mem_iff_getElem?.mpr ⟨k, ?_⟩
      rw [List.getElem?_zip_eq_some]
      exact ⟨q1, q2⟩
    have := List.all_eq_true.mp hnm _ hz
    simp only [Bool.and_eq_true, Bool.not_eq_true', decide_eq_true_eq] at this
    obtain ⟨z1, z2, z3⟩ := this
    refine ⟨?_, z2, ?_⟩
    · unfold glB at z1
      split at z1
      · rename_i hh; exact hh
      · cases z1
    · obtain ⟨C, e1, _, e3, _⟩ := M.ers _ _ z3
      have hv := hlt z3
      rw [if_neg (by omega), e1]
      exact e3
  · have look : ∀ u ∈ e.Γ.told, ∃ x, (x, u.1) ∈ N.ers := fun u hu => by
      have := List.all_eq_true.mp hex u hu
      obtain ⟨q, hq, he⟩ := List.any_eq_true.mp this
      have he := of_decide_eq_true he
      exact ⟨q.1, by rw [← he]; exact hq⟩
    obtain ⟨x, hx⟩ := look u hu
    obtain ⟨y, hy⟩ := look v hv
    have a1 := hlt hx
    have a2 := hlt hy
    rw [if_neg (by omega), if_neg (by omega), (erK_at (K := K) hE hx).1, (erK_at (K := K) hE hy).1]
    exact exm_at S hx hy
end
end DP

set_option Elab.async false
set_option linter.all false
set_option autoImplicit false
set_option maxRecDepth 100000
set_option maxHeartbeats 4000000
namespace DP
open PySem PySem.Spec PyProof.Rows L2
abbrev top (i : Nat) : Stmt := PySem.Challenge.pw_treespace_k09_whole_spiders.main.body.getD i (.Pass ⟨0, 0, 0, 0⟩)
def g_fis_integer : Sg := ⟨["thing"], [], [], ["bool", "int", "isinstance"], [], [], []⟩
abbrev s_fis_integer : Stmt := top 5
theorem sc_fis_integer : FnScope g_fis_integer.N ["thing"] (defScope s_fis_integer) := ⟨rfl, rfl, rfl, by decide +kernel, rfl, by decide +kernel, by decide +kernel⟩
theorem ck_fis_integer : ckSs g_fis_integer (defScope s_fis_integer) true true (fxOf F_fis_integer.ps 0) b_fis_integer (defBody s_fis_integer) = true := by decide +kernel
def g_fis_among : Sg := ⟨["thing", "least", "most"], [("is_integer", 0, [false])], [], [], [], [], []⟩
abbrev s_fis_among : Stmt := top 6
theorem sc_fis_among : FnScope g_fis_among.N ["thing", "least", "most"] (defScope s_fis_among) := ⟨rfl, rfl, rfl, by decide +kernel, rfl, by decide +kernel, by decide +kernel⟩
theorem ck_fis_among : ckSs g_fis_among (defScope s_fis_among) true true (fxOf F_fis_among.ps 0) b_fis_among (defBody s_fis_among) = true := by decide +kernel
def g_flowest : Sg := ⟨["top", "low", "part"], [], [], [], [("gcd", "math.gcd")], [], []⟩
abbrev s_flowest : Stmt := top 7
theorem sc_flowest : FnScope g_flowest.N ["top", "low"] (defScope s_flowest) := ⟨rfl, rfl, rfl, by decide +kernel, rfl, by decide +kernel, by decide +kernel⟩
theorem ck_flowest : ckSs g_flowest (defScope s_flowest) true true (fxOf F_flowest.ps 0) b_flowest (defBody s_flowest) = true := by decide +kernel
def g_fis_fraction : Sg := ⟨["thing", "part"], [("is_integer", 0, [false])], [], ["all", "isinstance", "len", "tuple"], [("gcd", "math.gcd")], [], []⟩
abbrev s_fis_fraction : Stmt := top 8
theorem sc_fis_fraction : FnScope g_fis_fraction.N ["thing"] (defScope s_fis_fraction) := ⟨rfl, rfl, rfl, by decide +kernel, rfl, by decide +kernel, by decide +kernel⟩
theorem ck_fis_fraction : ckSs g_fis_fraction (defScope s_fis_fraction) true true (fxOf F_fis_fraction.ps 0) b_fis_fraction (defBody s_fis_fraction) = true := by decide +kernel
def g_fadded : Sg := ⟨["one", "other"], [("lowest", 2, [false, false])], [], [], [], [], []⟩
abbrev s_fadded : Stmt := top 9
theorem sc_fadded : FnScope g_fadded.N ["one", "other"] (defScope s_fadded) := ⟨rfl, rfl, rfl, by decide +kernel, rfl, by decide +kernel, by decide +kernel⟩
theorem ck_fadded : ckSs g_fadded (defScope s_fadded) true true (fxOf F_fadded.ps 0) b_fadded (defBody s_fadded) = true := by decide +kernel
def g_fdivided : Sg := ⟨["one", "other"], [("lowest", 2, [false, false])], [], [], [], [], []⟩
abbrev s_fdivided : Stmt := top 10
theorem sc_fdivided : FnScope g_fdivided.N ["one", "other"] (defScope s_fdivided) := ⟨rfl, rfl, rfl, by decide +kernel, rfl, by decide +kernel, by decide +kernel⟩
theorem ck_fdivided : ckSs g_fdivided (defScope s_fdivided) true true (fxOf F_fdivided.ps 0) b_fdivided (defBody s_fdivided) = true := by decide +kernel
def g_fturned : Sg := ⟨["one"], [], [], [], [], [], []⟩
abbrev s_fturned : Stmt := top 11
theorem sc_fturned : FnScope g_fturned.N ["one"] (defScope s_fturned) := ⟨rfl, rfl, rfl, by decide +kernel, rfl, by decide +kernel, by decide +kernel⟩
theorem ck_fturned : ckSs g_fturned (defScope s_fturned) true true (fxOf F_fturned.ps 0) b_fturned (defBody s_fturned) = true := by decide +kernel
def g_fis_below : Sg := ⟨["one", "other"], [], [], [], [], [], []⟩
abbrev s_fis_below : Stmt := top 12
theorem sc_fis_below : FnScope g_fis_below.N ["one", "other"] (defScope s_fis_below) := ⟨rfl, rfl, rfl, by decide +kernel, rfl, by decide +kernel, by decide +kernel⟩
theorem ck_fis_below : ckSs g_fis_below (defScope s_fis_below) true true (fxOf F_fis_below.ps 0) b_fis_below (defBody s_fis_below) = true := by decide +kernel
def g_ftotal : Sg := ⟨["some", "found", "one"], [("added", 4, [false, false])], [], [], [], [], []⟩
abbrev s_ftotal : Stmt := top 13
theorem sc_ftotal : FnScope g_ftotal.N ["some"] (defScope s_ftotal) := ⟨rfl, rfl, rfl, by decide +kernel, rfl, by decide +kernel, by decide +kernel⟩
theorem ck_ftotal : ckSs g_ftotal (defScope s_ftotal) true true (fxOf F_ftotal.ps 0) b_ftotal (defBody s_ftotal) = true := by decide +kernel
def g_fis_lot : Sg := ⟨["many", "thing", "at", "tip"], [("is_among", 1, [false, false, false])], [], ["all", "isinstance", "len", "range", "tuple"], [], [], []⟩
abbrev s_fis_lot : Stmt := top 18
theorem sc_fis_lot : FnScope g_fis_lot.N ["many", "thing"] (defScope s_fis_lot) := ⟨rfl, rfl, rfl, by decide +kernel, rfl, by decide +kernel, by decide +kernel⟩
theorem ck_fis_lot : ckSs g_fis_lot (defScope s_fis_lot) true true (fxOf F_fis_lot.ps 0) b_fis_lot (defBody s_fis_lot) = true := by decide +kernel
def g_fdo_fit : Sg := ⟨["one", "other", "both", "tip"], [], [], ["len"], [], [], []⟩
abbrev s_fdo_fit : Stmt := top 19
theorem sc_fdo_fit : FnScope g_fdo_fit.N ["one", "other"] (defScope s_fdo_fit) := ⟨rfl, rfl, rfl, by decide +kernel, rfl, by decide +kernel, by decide +kernel⟩
theorem ck_fdo_fit : ckSs g_fdo_fit (defScope s_fdo_fit) true true (fxOf F_fdo_fit.ps 0) b_fdo_fit (defBody s_fdo_fit) = true := by decide +kernel
def g_ffits_all : Sg := ⟨["lot", "lots", "other"], [("do_fit", 38, [false, false])], [], ["all"], [], [], []⟩
abbrev s_ffits_all : Stmt := top 20
theorem sc_ffits_all : FnScope g_ffits_all.N ["lot", "lots"] (defScope s_ffits_all) := ⟨rfl, rfl, rfl, by decide +kernel, rfl, by decide +kernel, by decide +kernel⟩
theorem ck_ffits_all : ckSs g_ffits_all (defScope s_ffits_all) true true (fxOf F_ffits_all.ps 0) b_ffits_all (defBody s_ffits_all) = true := by decide +kernel
def g_fis_shape : Sg := ⟨["many", "thing", "at", "lot"], [("is_lot", 37, [false, false]), ("fits_all", 39, [false, false])], [], ["all", "isinstance", "len", "range", "tuple"], [], [], []⟩
abbrev s_fis_shape : Stmt := top 21
theorem sc_fis_shape : FnScope g_fis_shape.N ["many", "thing"] (defScope s_fis_shape) := ⟨rfl, rfl, rfl, by decide +kernel, rfl, by decide +kernel, by decide +kernel⟩
theorem ck_fis_shape : ckSs g_fis_shape (defScope s_fis_shape) true true (fxOf F_fis_shape.ps 0) b_fis_shape (defBody s_fis_shape) = true := by decide +kernel
def g_fis_length : Sg := ⟨["thing"], [("is_fraction", 3, [false])], [("MOST_LENGTH", 500)], [], [], [], []⟩
abbrev s_fis_length : Stmt := top 22
theorem sc_fis_length : FnScope g_fis_length.N ["thing"] (defScope s_fis_length) := ⟨rfl, rfl, rfl, by decide +kernel, rfl, by decide +kernel, by decide +kernel⟩
theorem ck_fis_length : ckSs g_fis_length (defScope s_fis_length) true true (fxOf F_fis_length.ps 0) b_fis_length (defBody s_fis_length) = true := by decide +kernel
def g_flots_of : Sg := ⟨["tree", "lot", "length"], [], [], ["tuple"], [], [], []⟩
abbrev s_flots_of : Stmt := top 23
theorem sc_flots_of : FnScope g_flots_of.N ["tree"] (defScope s_flots_of) := ⟨rfl, rfl, rfl, by decide +kernel, rfl, by decide +kernel, by decide +kernel⟩
theorem ck_flots_of : ckSs g_flots_of (defScope s_flots_of) true true (fxOf F_flots_of.ps 0) b_flots_of (defBody s_flots_of) = true := by decide +kernel
def g_fis_tree : Sg := ⟨["thing", "road", "lot", "length"], [("is_among", 1, [false, false, false]), ("is_shape", 40, [false, false]), ("is_length", 42, [false]), ("lots_of", 43, [false])], [("LEAST_TIPS", 3), ("MOST_TIPS", 6)], ["all", "isinstance", "len", "tuple"], [], [], []⟩
abbrev s_fis_tree : Stmt := top 24
theorem sc_fis_tree : FnScope g_fis_tree.N ["thing"] (defScope s_fis_tree) := ⟨rfl, rfl, rfl, by decide +kernel, rfl, by decide +kernel, by decide +kernel⟩
theorem ck_fis_tree : ckSs g_fis_tree (defScope s_fis_tree) true true (fxOf F_fis_tree.ps 0) b_fis_tree (defBody s_fis_tree) = true := by decide +kernel
def g_fneed_some : Sg := ⟨["many", "some", "tree"], [("is_tree", 44, [false])], [("MOST_TREES", 6)], ["all", "isinstance", "len", "tuple"], [], [("BadTrees", 7)], []⟩
abbrev s_fneed_some : Stmt := top 27
theorem sc_fneed_some : FnScope g_fneed_some.N ["many", "some"] (defScope s_fneed_some) := ⟨rfl, rfl, rfl, by decide +kernel, rfl, by decide +kernel, by decide +kernel⟩
theorem ck_fneed_some : ckSs g_fneed_some (defScope s_fneed_some) true true (fxOf F_fneed_some.ps 0) b_fneed_some (defBody s_fneed_some) = true := by decide +kernel
def g_fspider : Sg := ⟨["some", "whole", "lot", "own", "rest", "tree", "length", "more"], [("lowest", 2, [false, false]), ("added", 4, [false, false]), ("divided", 63, [false, false]), ("turned", 64, [false]), ("is_below", 65, [false, false]), ("total", 66, [false]), ("need_some", 154, [false, false])], [("LEAST_TIPS", 3)], ["len"], [], [], []⟩
abbrev s_fspider : Stmt := top 28
theorem sc_fspider : FnScope g_fspider.N ["some"] (defScope s_fspider) := ⟨rfl, rfl, rfl, by decide +kernel, rfl, by decide +kernel, by decide +kernel⟩
theorem ck_fspider : ckSs g_fspider (defScope s_fspider) true true (fxOf F_fspider.ps 0) b_fspider (defBody s_fspider) = true := by decide +kernel
def g_f_law_taken : Sg := ⟨["row", "many", "cell", "found"], [], [], ["int", "len"], [], [], []⟩
abbrev s_f_law_taken : Stmt := top 30
theorem sc_f_law_taken : FnScope g_f_law_taken.N ["row", "many"] (defScope s_f_law_taken) := ⟨rfl, rfl, rfl, by decide +kernel, rfl, by decide +kernel, by decide +kernel⟩
theorem ck_f_law_taken : ckSs g_f_law_taken (defScope s_f_law_taken) true true (fxOf F_f_law_taken.ps 0) b_f_law_taken (defBody s_f_law_taken) = true := by decide +kernel
def g_f_law_pick : Sg := ⟨["row", "things"], [("_law_taken", 20, [true, false])], [], ["len"], [], [], []⟩
abbrev s_f_law_pick : Stmt := top 31
theorem sc_f_law_pick : FnScope g_f_law_pick.N ["row", "things"] (defScope s_f_law_pick) := ⟨rfl, rfl, rfl, by decide +kernel, rfl, by decide +kernel, by decide +kernel⟩
theorem ck_f_law_pick : ckSs g_f_law_pick (defScope s_f_law_pick) true true (fxOf F_f_law_pick.ps 0) b_f_law_pick (defBody s_f_law_pick) = true := by decide +kernel
def g_f_law_fr : Sg := ⟨["top", "low", "a", "b"], [], [], ["max"], [], [], []⟩
abbrev s_f_law_fr : Stmt := top 32
theorem sc_f_law_fr : FnScope g_f_law_fr.N ["top", "low"] (defScope s_f_law_fr) := ⟨rfl, rfl, rfl, by decide +kernel, rfl, by decide +kernel, by decide +kernel⟩
theorem ck_f_law_fr : ckSs g_f_law_fr (defScope s_f_law_fr) true true (fxOf F_f_law_fr.ps 0) b_f_law_fr (defBody s_f_law_fr) = true := by decide +kernel
def g_f_law_plus : Sg := ⟨["one", "other"], [("_law_fr", 23, [false, false])], [], [], [], [], []⟩
abbrev s_f_law_plus : Stmt := top 33
theorem sc_f_law_plus : FnScope g_f_law_plus.N ["one", "other"] (defScope s_f_law_plus) := ⟨rfl, rfl, rfl, by decide +kernel, rfl, by decide +kernel, by decide +kernel⟩
theorem ck_f_law_plus : ckSs g_f_law_plus (defScope s_f_law_plus) true true (fxOf F_f_law_plus.ps 0) b_f_law_plus (defBody s_f_law_plus) = true := by decide +kernel
def g_f_law_times : Sg := ⟨["one", "other"], [("_law_fr", 23, [false, false])], [], [], [], [], []⟩
abbrev s_f_law_times : Stmt := top 34
theorem sc_f_law_times : FnScope g_f_law_times.N ["one", "other"] (defScope s_f_law_times) := ⟨rfl, rfl, rfl, by decide +kernel, rfl, by decide +kernel, by decide +kernel⟩
theorem ck_f_law_times : ckSs g_f_law_times (defScope s_f_law_times) true true (fxOf F_f_law_times.ps 0) b_f_law_times (defBody s_f_law_times) = true := by decide +kernel
def g_f_law_below : Sg := ⟨["one", "other"], [], [], [], [], [], []⟩
abbrev s_f_law_below : Stmt := top 35
theorem sc_f_law_below : FnScope g_f_law_below.N ["one", "other"] (defScope s_f_law_below) := ⟨rfl, rfl, rfl, by decide +kernel, rfl, by decide +kernel, by decide +kernel⟩
theorem ck_f_law_below : ckSs g_f_law_below (defScope s_f_law_below) true true (fxOf F_f_law_below.ps 0) b_f_law_below (defBody s_f_law_below) = true := by decide +kernel
def g_f_law_fit : Sg := ⟨["one", "other", "both", "tip"], [], [], ["len"], [], [], []⟩
abbrev s_f_law_fit : Stmt := top 36
theorem sc_f_law_fit : FnScope g_f_law_fit.N ["one", "other"] (defScope s_f_law_fit) := ⟨rfl, rfl, rfl, by decide +kernel, rfl, by decide +kernel, by decide +kernel⟩
theorem ck_f_law_fit : ckSs g_f_law_fit (defScope s_f_law_fit) true true (fxOf F_f_law_fit.ps 0) b_f_law_fit (defBody s_f_law_fit) = true := by decide +kernel
def g_f_law_all_fit : Sg := ⟨["lot", "lots", "other"], [("_law_fit", 55, [false, false])], [], [], [], [], []⟩
abbrev s_f_law_all_fit : Stmt := top 37
theorem sc_f_law_all_fit : FnScope g_f_law_all_fit.N ["lot", "lots"] (defScope s_f_law_all_fit) := ⟨rfl, rfl, rfl, by decide +kernel, rfl, by decide +kernel, by decide +kernel⟩
theorem ck_f_law_all_fit : ckSs g_f_law_all_fit (defScope s_f_law_all_fit) true true (fxOf F_f_law_all_fit.ps 0) b_f_law_all_fit (defBody s_f_law_all_fit) = true := by decide +kernel
def g_f_law_lots : Sg := ⟨["many", "found", "tip", "lot"], [], [], ["len", "range", "sorted"], [], [], []⟩
abbrev s_f_law_lots : Stmt := top 38
theorem sc_f_law_lots : FnScope g_f_law_lots.N ["many"] (defScope s_f_law_lots) := ⟨rfl, rfl, rfl, by decide +kernel, rfl, by decide +kernel, by decide +kernel⟩
theorem ck_f_law_lots : ckSs g_f_law_lots (defScope s_f_law_lots) true true (fxOf F_f_law_lots.ps 0) b_f_law_lots (defBody s_f_law_lots) = true := by decide +kernel
def g_f_law_length : Sg := ⟨["row", "way"], [("_law_taken", 20, [true, false]), ("_law_fr", 23, [false, false])], [], [], [], [], []⟩
abbrev s_f_law_length : Stmt := top 39
theorem sc_f_law_length : FnScope g_f_law_length.N ["row"] (defScope s_f_law_length) := ⟨rfl, rfl, rfl, by decide +kernel, rfl, by decide +kernel, by decide +kernel⟩
theorem ck_f_law_length : ckSs g_f_law_length (defScope s_f_law_length) true true (fxOf F_f_law_length.ps 0) b_f_law_length (defBody s_f_law_length) = true := by decide +kernel
def g_f_law_shape : Sg := ⟨["row", "many", "held", "roads", "found", "turn", "free", "lot"], [("_law_pick", 21, [true, false]), ("_law_all_fit", 56, [false, false]), ("_law_lots", 57, [false])], [], ["len", "list", "max", "range", "sorted", "tuple"], [], [], []⟩
abbrev s_f_law_shape : Stmt := top 40
theorem sc_f_law_shape : FnScope g_f_law_shape.N ["row", "many", "held", "roads"] (defScope s_f_law_shape) := ⟨rfl, rfl, rfl, by decide +kernel, rfl, by decide +kernel, by decide +kernel⟩
theorem ck_f_law_shape : ckSs g_f_law_shape (defScope s_f_law_shape) true true (fxOf F_f_law_shape.ps 0) b_f_law_shape (defBody s_f_law_shape) = true := by decide +kernel
def g_f_law_tree : Sg := ⟨["row", "many", "held", "roads", "lot"], [("_law_taken", 20, [true, false]), ("_law_length", 58, [true]), ("_law_shape", 59, [true, false, false, false])], [], ["tuple"], [], [], []⟩
abbrev s_f_law_tree : Stmt := top 41
theorem sc_f_law_tree : FnScope g_f_law_tree.N ["row", "many", "held"] (defScope s_f_law_tree) := ⟨rfl, rfl, rfl, by decide +kernel, rfl, by decide +kernel, by decide +kernel⟩
theorem ck_f_law_tree : ckSs g_f_law_tree (defScope s_f_law_tree) true true (fxOf F_f_law_tree.ps 0) b_f_law_tree (defBody s_f_law_tree) = true := by decide +kernel
def g_f_law_at : Sg := ⟨["some", "lot", "length", "found", "many", "roads", "part", "more", "own"], [("_law_plus", 24, [false, false]), ("_law_times", 25, [false, false])], [], [], [], [], []⟩
abbrev s_f_law_at : Stmt := top 42
theorem sc_f_law_at : FnScope g_f_law_at.N ["some", "lot", "length"] (defScope s_f_law_at) := ⟨rfl, rfl, rfl, by decide +kernel, rfl, by decide +kernel, by decide +kernel⟩
theorem ck_f_law_at : ckSs g_f_law_at (defScope s_f_law_at) true true (fxOf F_f_law_at.ps 0) b_f_law_at (defBody s_f_law_at) = true := by decide +kernel
def g_flaw_k09 : Sg := ⟨["script", "row", "some", "told", "best", "lot", "odd", "rows", "whole", "top", "turn", "tips", "roads", "length", "many", "more", "own", "part"], [("_law_taken", 20, [true, false]), ("_law_pick", 21, [true, false]), ("_law_fr", 23, [false, false]), ("_law_plus", 24, [false, false]), ("_law_times", 25, [false, false]), ("_law_tree", 60, [true, false, false]), ("_law_below", 85, [false, false]), ("spider", 165, [false]), ("_law_at", 166, [false, false, false])], [], ["isinstance", "len", "list", "range", "tuple"], [], [], [(7, ("BadTrees" : Str))]⟩
abbrev s_flaw_k09 : Stmt := top 44
theorem sc_flaw_k09 : FnScope g_flaw_k09.N ["script"] (defScope s_flaw_k09) := ⟨rfl, rfl, rfl, by decide +kernel, rfl, by decide +kernel, by decide +kernel⟩
theorem ck_flaw_k09 : ckSs g_flaw_k09 (defScope s_flaw_k09) true true (fxOf F_flaw_k09.ps 0) b_flaw_k09 (defBody s_flaw_k09) = true := by decide +kernel
def N0 : MN := ⟨[("LEAST_TIPS", 3), ("MOST_LENGTH", 500), ("MOST_TIPS", 6), ("MOST_TREES", 6)], ["all", "bool", "int", "isinstance", "len", "list", "max", "range", "sorted", "tuple"], [("gcd", "math.gcd")], [("BadTrees", 7)]⟩
def D_fis_integer : DE := ⟨"is_integer", 0, F_fis_integer, g_fis_integer, ["thing"], s_fis_integer⟩
def D_fis_among : DE := ⟨"is_among", 1, F_fis_among, g_fis_among, ["thing", "least", "most"], s_fis_among⟩
def D_flowest : DE := ⟨"lowest", 2, F_flowest, g_flowest, ["top", "low"], s_flowest⟩
def D_fis_fraction : DE := ⟨"is_fraction", 3, F_fis_fraction, g_fis_fraction, ["thing"], s_fis_fraction⟩
def D_fadded : DE := ⟨"added", 4, F_fadded, g_fadded, ["one", "other"], s_fadded⟩
def D_fdivided : DE := ⟨"divided", 63, F_fdivided, g_fdivided, ["one", "other"], s_fdivided⟩
def D_fturned : DE := ⟨"turned", 64, F_fturned, g_fturned, ["one"], s_fturned⟩
def D_fis_below : DE := ⟨"is_below", 65, F_fis_below, g_fis_below, ["one", "other"], s_fis_below⟩
def D_ftotal : DE := ⟨"total", 66, F_ftotal, g_ftotal, ["some"], s_ftotal⟩
def D_fis_lot : DE := ⟨"is_lot", 37, F_fis_lot, g_fis_lot, ["many", "thing"], s_fis_lot⟩
def D_fdo_fit : DE := ⟨"do_fit", 38, F_fdo_fit, g_fdo_fit, ["one", "other"], s_fdo_fit⟩
def D_ffits_all : DE := ⟨"fits_all", 39, F_ffits_all, g_ffits_all, ["lot", "lots"], s_ffits_all⟩
def D_fis_shape : DE := ⟨"is_shape", 40, F_fis_shape, g_fis_shape, ["many", "thing"], s_fis_shape⟩
def D_fis_length : DE := ⟨"is_length", 42, F_fis_length, g_fis_length, ["thing"], s_fis_length⟩
def D_flots_of : DE := ⟨"lots_of", 43, F_flots_of, g_flots_of, ["tree"], s_flots_of⟩
def D_fis_tree : DE := ⟨"is_tree", 44, F_fis_tree, g_fis_tree, ["thing"], s_fis_tree⟩
def D_fneed_some : DE := ⟨"need_some", 154, F_fneed_some, g_fneed_some, ["many", "some"], s_fneed_some⟩
def D_fspider : DE := ⟨"spider", 165, F_fspider, g_fspider, ["some"], s_fspider⟩
def D_f_law_taken : DE := ⟨"_law_taken", 20, F_f_law_taken, g_f_law_taken, ["row", "many"], s_f_law_taken⟩
def D_f_law_pick : DE := ⟨"_law_pick", 21, F_f_law_pick, g_f_law_pick, ["row", "things"], s_f_law_pick⟩
def D_f_law_fr : DE := ⟨"_law_fr", 23, F_f_law_fr, g_f_law_fr, ["top", "low"], s_f_law_fr⟩
def D_f_law_plus : DE := ⟨"_law_plus", 24, F_f_law_plus, g_f_law_plus, ["one", "other"], s_f_law_plus⟩
def D_f_law_times : DE := ⟨"_law_times", 25, F_f_law_times, g_f_law_times, ["one", "other"], s_f_law_times⟩
def D_f_law_below : DE := ⟨"_law_below", 85, F_f_law_below, g_f_law_below, ["one", "other"], s_f_law_below⟩
def D_f_law_fit : DE := ⟨"_law_fit", 55, F_f_law_fit, g_f_law_fit, ["one", "other"], s_f_law_fit⟩
def D_f_law_all_fit : DE := ⟨"_law_all_fit", 56, F_f_law_all_fit, g_f_law_all_fit, ["lot", "lots"], s_f_law_all_fit⟩
def D_f_law_lots : DE := ⟨"_law_lots", 57, F_f_law_lots, g_f_law_lots, ["many"], s_f_law_lots⟩
def D_f_law_length : DE := ⟨"_law_length", 58, F_f_law_length, g_f_law_length, ["row"], s_f_law_length⟩
def D_f_law_shape : DE := ⟨"_law_shape", 59, F_f_law_shape, g_f_law_shape, ["row", "many", "held", "roads"], s_f_law_shape⟩
def D_f_law_tree : DE := ⟨"_law_tree", 60, F_f_law_tree, g_f_law_tree, ["row", "many", "held"], s_f_law_tree⟩
def D_f_law_at : DE := ⟨"_law_at", 166, F_f_law_at, g_f_law_at, ["some", "lot", "length"], s_f_law_at⟩
def D_flaw_k09 : DE := ⟨"law", 167, F_flaw_k09, g_flaw_k09, ["script"], s_flaw_k09⟩
def DEs : List DE := [D_fis_integer, D_fis_among, D_flowest, D_fis_fraction, D_fadded, D_fdivided, D_fturned, D_fis_below, D_ftotal, D_fis_lot, D_fdo_fit, D_ffits_all, D_fis_shape, D_fis_length, D_flots_of, D_fis_tree, D_fneed_some, D_fspider, D_f_law_taken, D_f_law_pick, D_f_law_fr, D_f_law_plus, D_f_law_times, D_f_law_below, D_f_law_fit, D_f_law_all_fit, D_f_law_lots, D_f_law_length, D_f_law_shape, D_f_law_tree, D_f_law_at]
theorem ok_fis_integer : DEok G N0 DEs D_fis_integer := ⟨rfl, sc_fis_integer, rfl, rfl, by decide +kernel, by decide +kernel, rfl, ck_fis_integer, fun _ _ _ _ _ _ us hl => match us, hl with | [_], _ => rfl⟩
theorem ok_fis_among : DEok G N0 DEs D_fis_among := ⟨rfl, sc_fis_among, rfl, rfl, by decide +kernel, by decide +kernel, rfl, ck_fis_among, fun _ _ _ _ _ _ us hl => match us, hl with | [_, _, _], _ => rfl⟩
theorem ok_flowest : DEok G N0 DEs D_flowest := ⟨rfl, sc_flowest, rfl, rfl, by decide +kernel, by decide +kernel, rfl, ck_flowest, fun _ _ _ _ _ _ us hl => match us, hl with | [_, _], _ => rfl⟩
theorem ok_fis_fraction : DEok G N0 DEs D_fis_fraction := ⟨rfl, sc_fis_fraction, rfl, rfl, by decide +kernel, by decide +kernel, rfl, ck_fis_fraction, fun _ _ _ _ _ _ us hl => match us, hl with | [_], _ => rfl⟩
theorem ok_fadded : DEok G N0 DEs D_fadded := ⟨rfl, sc_fadded, rfl, rfl, by decide +kernel, by decide +kernel, rfl, ck_fadded, fun _ _ _ _ _ _ us hl => match us, hl with | [_, _], _ => rfl⟩
theorem ok_fdivided : DEok G N0 DEs D_fdivided := ⟨rfl, sc_fdivided, rfl, rfl, by decide +kernel, by decide +kernel, rfl, ck_fdivided, fun _ _ _ _ _ _ us hl => match us, hl with | [_, _], _ => rfl⟩
theorem ok_fturned : DEok G N0 DEs D_fturned := ⟨rfl, sc_fturned, rfl, rfl, by decide +kernel, by decide +kernel, rfl, ck_fturned, fun _ _ _ _ _ _ us hl => match us, hl with | [_], _ => rfl⟩
theorem ok_fis_below : DEok G N0 DEs D_fis_below := ⟨rfl, sc_fis_below, rfl, rfl, by decide +kernel, by decide +kernel, rfl, ck_fis_below, fun _ _ _ _ _ _ us hl => match us, hl with | [_, _], _ => rfl⟩
theorem ok_ftotal : DEok G N0 DEs D_ftotal := ⟨rfl, sc_ftotal, rfl, rfl, by decide +kernel, by decide +kernel, rfl, ck_ftotal, fun _ _ _ _ _ _ us hl => match us, hl with | [_], _ => rfl⟩
theorem ok_fis_lot : DEok G N0 DEs D_fis_lot := ⟨rfl, sc_fis_lot, rfl, rfl, by decide +kernel, by decide +kernel, rfl, ck_fis_lot, fun _ _ _ _ _ _ us hl => match us, hl with | [_, _], _ => rfl⟩
theorem ok_fdo_fit : DEok G N0 DEs D_fdo_fit := ⟨rfl, sc_fdo_fit, rfl, rfl, by decide +kernel, by decide +kernel, rfl, ck_fdo_fit, fun _ _ _ _ _ _ us hl => match us, hl with | [_, _], _ => rfl⟩
theorem ok_ffits_all : DEok G N0 DEs D_ffits_all := ⟨rfl, sc_ffits_all, rfl, rfl, by decide +kernel, by decide +kernel, rfl, ck_ffits_all, fun _ _ _ _ _ _ us hl => match us, hl with | [_, _], _ => rfl⟩
theorem ok_fis_shape : DEok G N0 DEs D_fis_shape := ⟨rfl, sc_fis_shape, rfl, rfl, by decide +kernel, by decide +kernel, rfl, ck_fis_shape, fun _ _ _ _ _ _ us hl => match us, hl with | [_, _], _ => rfl⟩
theorem ok_fis_length : DEok G N0 DEs D_fis_length := ⟨rfl, sc_fis_length, rfl, rfl, by decide +kernel, by decide +kernel, rfl, ck_fis_length, fun _ _ _ _ _ _ us hl => match us, hl with | [_], _ => rfl⟩
theorem ok_flots_of : DEok G N0 DEs D_flots_of := ⟨rfl, sc_flots_of, rfl, rfl, by decide +kernel, by decide +kernel, rfl, ck_flots_of, fun _ _ _ _ _ _ us hl => match us, hl with | [_], _ => rfl⟩
theorem ok_fis_tree : DEok G N0 DEs D_fis_tree := ⟨rfl, sc_fis_tree, rfl, rfl, by decide +kernel, by decide +kernel, rfl, ck_fis_tree, fun _ _ _ _ _ _ us hl => match us, hl with | [_], _ => rfl⟩
theorem ok_fneed_some : DEok G N0 DEs D_fneed_some := ⟨rfl, sc_fneed_some, rfl, rfl, by decide +kernel, by decide +kernel, rfl, ck_fneed_some, fun _ _ _ _ _ _ us hl => match us, hl with | [_, _], _ => rfl⟩
theorem ok_fspider : DEok G N0 DEs D_fspider := ⟨rfl, sc_fspider, rfl, rfl, by decide +kernel, by decide +kernel, rfl, ck_fspider, fun _ _ _ _ _ _ us hl => match us, hl with | [_], _ => rfl⟩
theorem ok_f_law_taken : DEok G N0 DEs D_f_law_taken := ⟨rfl, sc_f_law_taken, rfl, rfl, by decide +kernel, by decide +kernel, rfl, ck_f_law_taken, fun _ _ _ _ _ _ us hl => match us, hl with | [_, _], _ => rfl⟩
theorem ok_f_law_pick : DEok G N0 DEs D_f_law_pick := ⟨rfl, sc_f_law_pick, rfl, rfl, by decide +kernel, by decide +kernel, rfl, ck_f_law_pick, fun _ _ _ _ _ _ us hl => match us, hl with | [_, _], _ => rfl⟩
theorem ok_f_law_fr : DEok G N0 DEs D_f_law_fr := ⟨rfl, sc_f_law_fr, rfl, rfl, by decide +kernel, by decide +kernel, rfl, ck_f_law_fr, fun _ _ _ _ _ _ us hl => match us, hl with | [_, _], _ => rfl⟩
theorem ok_f_law_plus : DEok G N0 DEs D_f_law_plus := ⟨rfl, sc_f_law_plus, rfl, rfl, by decide +kernel, by decide +kernel, rfl, ck_f_law_plus, fun _ _ _ _ _ _ us hl => match us, hl with | [_, _], _ => rfl⟩
theorem ok_f_law_times : DEok G N0 DEs D_f_law_times := ⟨rfl, sc_f_law_times, rfl, rfl, by decide +kernel, by decide +kernel, rfl, ck_f_law_times, fun _ _ _ _ _ _ us hl => match us, hl with | [_, _], _ => rfl⟩
theorem ok_f_law_below : DEok G N0 DEs D_f_law_below := ⟨rfl, sc_f_law_below, rfl, rfl, by decide +kernel, by decide +kernel, rfl, ck_f_law_below, fun _ _ _ _ _ _ us hl => match us, hl with | [_, _], _ => rfl⟩
theorem ok_f_law_fit : DEok G N0 DEs D_f_law_fit := ⟨rfl, sc_f_law_fit, rfl, rfl, by decide +kernel, by decide +kernel, rfl, ck_f_law_fit, fun _ _ _ _ _ _ us hl => match us, hl with | [_, _], _ => rfl⟩
theorem ok_f_law_all_fit : DEok G N0 DEs D_f_law_all_fit := ⟨rfl, sc_f_law_all_fit, rfl, rfl, by decide +kernel, by decide +kernel, rfl, ck_f_law_all_fit, fun _ _ _ _ _ _ us hl => match us, hl with | [_, _], _ => rfl⟩
theorem ok_f_law_lots : DEok G N0 DEs D_f_law_lots := ⟨rfl, sc_f_law_lots, rfl, rfl, by decide +kernel, by decide +kernel, rfl, ck_f_law_lots, fun _ _ _ _ _ _ us hl => match us, hl with | [_], _ => rfl⟩
theorem ok_f_law_length : DEok G N0 DEs D_f_law_length := ⟨rfl, sc_f_law_length, rfl, rfl, by decide +kernel, by decide +kernel, rfl, ck_f_law_length, fun _ _ _ _ _ _ us hl => match us, hl with | [_], _ => rfl⟩
theorem ok_f_law_shape : DEok G N0 DEs D_f_law_shape := ⟨rfl, sc_f_law_shape, rfl, rfl, by decide +kernel, by decide +kernel, rfl, ck_f_law_shape, fun _ _ _ _ _ _ us hl => match us, hl with | [_, _, _, _], _ => rfl⟩
theorem ok_f_law_tree : DEok G N0 DEs D_f_law_tree := ⟨rfl, sc_f_law_tree, rfl, rfl, by decide +kernel, by decide +kernel, rfl, ck_f_law_tree, fun _ _ _ _ _ _ us hl => match us, hl with | [_, _, _], _ => rfl⟩
theorem ok_f_law_at : DEok G N0 DEs D_f_law_at := ⟨rfl, sc_f_law_at, rfl, rfl, by decide +kernel, by decide +kernel, rfl, ck_f_law_at, fun _ _ _ _ _ _ us hl => match us, hl with | [_, _, _], _ => rfl⟩
theorem ok_all : ∀ e ∈ DEs, DEok G N0 DEs e := List.forall_mem_cons.mpr ⟨ok_fis_integer, List.forall_mem_cons.mpr ⟨ok_fis_among, List.forall_mem_cons.mpr ⟨ok_flowest, List.forall_mem_cons.mpr ⟨ok_fis_fraction, List.forall_mem_cons.mpr ⟨ok_fadded, List.forall_mem_cons.mpr ⟨ok_fdivided, List.forall_mem_cons.mpr ⟨ok_fturned, List.forall_mem_cons.mpr ⟨ok_fis_below, List.forall_mem_cons.mpr ⟨ok_ftotal, List.forall_mem_cons.mpr ⟨ok_fis_lot, List.forall_mem_cons.mpr ⟨ok_fdo_fit, List.forall_mem_cons.mpr ⟨ok_ffits_all, List.forall_mem_cons.mpr ⟨ok_fis_shape, List.forall_mem_cons.mpr ⟨ok_fis_length, List.forall_mem_cons.mpr ⟨ok_flots_of, List.forall_mem_cons.mpr ⟨ok_fis_tree, List.forall_mem_cons.mpr ⟨ok_fneed_some, List.forall_mem_cons.mpr ⟨ok_fspider, List.forall_mem_cons.mpr ⟨ok_f_law_taken, List.forall_mem_cons.mpr ⟨ok_f_law_pick, List.forall_mem_cons.mpr ⟨ok_f_law_fr, List.forall_mem_cons.mpr ⟨ok_f_law_plus, List.forall_mem_cons.mpr ⟨ok_f_law_times, List.forall_mem_cons.mpr ⟨ok_f_law_below, List.forall_mem_cons.mpr ⟨ok_f_law_fit, List.forall_mem_cons.mpr ⟨ok_f_law_all_fit, List.forall_mem_cons.mpr ⟨ok_f_law_lots, List.forall_mem_cons.mpr ⟨ok_f_law_length, List.forall_mem_cons.mpr ⟨ok_f_law_shape, List.forall_mem_cons.mpr ⟨ok_f_law_tree, List.forall_mem_cons.mpr ⟨ok_f_law_at, fun _ h => absurd h (by simp)⟩⟩⟩⟩⟩⟩⟩⟩⟩⟩⟩⟩⟩⟩⟩⟩⟩⟩⟩⟩⟩⟩⟩⟩⟩⟩⟩⟩⟩⟩⟩
abbrev s_ftold : Stmt := top 43
def D_ftold : DE := ⟨"_law_told", 9999, ⟨[], 0, .nil⟩, ⟨[], [], [], [], [], [], []⟩, [], s_ftold⟩
def xs0 : List Str := DEs.map (·.x) ++ (["_law_told", "law"] : List Str)
def fn0 : List He.DefD := DEs.map DE.d ++ [D_ftold.d, D_flaw_k09.d]
def cl0 : List (Str × Str) := [("BadTrees", ("BadTrees" : Str))]
theorem sc_ftold : FnScope ["work", "e"] ["work"] (defScope s_ftold) := ⟨rfl, rfl, rfl, by decide +kernel, rfl, by decide +kernel, by decide +kernel⟩
theorem told0 : toldB "work" "e" cl0 (defBody s_ftold) = true := by decide +kernel
def lawN : Str := "e"
end DP

set_option Elab.async false
set_option linter.all false
set_option autoImplicit false
set_option maxRecDepth 100000
set_option maxHeartbeats 0
namespace DP
open PySem PySem.Spec PyProof.Rows L2
abbrev R0 : PySem.W.OpenRow := PySem.W.OpenLaw.row PySem.Challenge.rw_treespace_k09_whole_spiders
abbrev fa0 : List He.Fa := faOf xs0 N0
def loose1 : List Str := ["__name__", "TreeError", "BadTrees", "is_integer", "is_among", "lowest", "is_fraction", "added", "divided", "turned", "is_below", "total", "LEAST_TIPS", "MOST_TIPS", "MOST_LENGTH", "is_lot", "do_fit", "fits_all", "is_shape", "is_length"]
def loose2 : List Str := ["lots_of", "is_tree", "MOST_TREES", "need_some", "spider", "_law_taken", "_law_pick", "_law_fr", "_law_plus", "_law_times", "_law_below", "_law_fit", "_law_all_fit", "_law_lots", "_law_length", "_law_shape", "_law_tree", "_law_at", "_law_told"]
abbrev loose0 : List Str := loose1 ++ loose2
abbrev hk0 : PySem.W.Hook := hookT N0.bf 3 fa0 fn0
def ob0 (s : PySem.W.SharedT) : Bool × He.AlD := obsT N0.bf 3 fa0 fn0 (HandSHeadRun.getT s)
theorem ob0_eq (s : PySem.W.SharedT) : ob0 s = hk0.obs s.abs := obsT_eq (HandSHeadRun.getT_eq s)
theorem run0 (w : World) : HandSHeadRun.RunEqI R0 (PySem.W.view R0.prog [0, 44]) hk0 ob0 2000 loose0 w := by
  unfold HandSHeadRun.RunEqI
  kernel_rfl
end DP

set_option Elab.async false
set_option linter.all false
set_option autoImplicit false
set_option maxRecDepth 100000
set_option maxHeartbeats 0
namespace DP
open PySem PySem.Spec PyProof.Rows L2
theorem res_k09 : ∀ ns, okS 63 ns → callF G 41 D_flaw_k09.id [.fr (.list (ns.map .int))] = some (.ok (.bool true), []) := fun ns _ => law09 31 ns
theorem walk_k09 : PySem.W.WalkO (PySem.W.view R0.prog [0, 44]) loose0 (PySem.W.XL (PySem.W.view R0.prog [0, 44]) []) hk0.says R0.toRowW (HandSHeadRun.topDef R0.prog 44) [] (fun f vs => PySem.call f vs) := by
  refine walk_dp (l := PySem.Challenge.rw_treespace_k09_whole_spiders) (n := 63) (k := 43) (x := "script") (d0 := HandSHeadRun.topDef R0.prog 44) rfl (by decide) (by kernel_rfl) ⟨rfl, by decide, by decide⟩ (by kernel_rfl) ?F
  intro w mg fa h Y Gs hmg0
  obtain ⟨K, KX, c, bare, hb⟩ := Y
  obtain ⟨hb1, hb2⟩ := Bool.and_eq_true_iff.mp hb
  have hmg : mg ("law" : PySem.Str) = some (.ref fa) := by
    have e : (HandSHeadRun.topDef R0.prog 44).name = ("law" : PySem.Str) := by kernel_rfl
    rw [← e]
    exact hmg0
  obtain ⟨cc, P', t1, t2⟩ := lawT_ok hb1
  obtain ⟨fd, g1, g2⟩ := law_all (P := (PySem.Challenge.rw_treespace_k09_whole_spiders).prog) (w := w) (e := D_flaw_k09) (t := D_ftold) (n := 40) (a := "work") (nm := lawN) (Ng := ["work", "e"]) (i := 1) (cl := cl0) (ok := okS 63) (G := G) (l := DEs) KX Gs c (by decide +kernel) hb2 t1 hmg ok_all (fun e he => List.mem_append_left _ (List.mem_map.mpr ⟨e, he, rfl⟩)) (fun e he => List.mem_append_left _ (List.mem_map.mpr ⟨e, he, rfl⟩))
    (List.mem_append_right _ (by simp)) (List.mem_append_right _ (by simp)) (List.mem_append_right _ (List.mem_cons_of_mem _ List.mem_cons_self)) (List.mem_append_right _ List.mem_cons_self) rfl rfl rfl rfl sc_flaw_k09 rfl (by decide +kernel) (by decide +kernel) ck_flaw_k09 (fun _ _ _ _ _ _ us hl => match us, hl with | [_], _ => rfl) sc_ftold (fun _ _ _ _ _ _ us hl => match us, hl with | [_], _ => rfl)
    rfl (.inl rfl) (by decide) (by decide) rfl rfl told0 rfl (by decide +kernel) (by decide +kernel) res_k09
  exact ⟨K, fd, cc, P', KX, bare, t1, t2, g1, g2⟩
end DP
open PySem PySem.W PySem.Calls PyProof.Rows
theorem PySem.Challenge.cw_treespace_k09_whole_spiders_holds : PySem.Challenge.rw_treespace_k09_whole_spiders.Holds := by
  w_on; o_law
  refine HandSHeadRun.head_imp (r := OpenLaw.row PySem.Challenge.rw_treespace_k09_whole_spiders) (q := view (OpenLaw.row PySem.Challenge.rw_treespace_k09_whole_spiders).prog [0, 44]) (H := DP.hk0) (ob := DP.ob0) (M := 2000) (loose := DP.loose0) (d := HandSHeadRun.topDef (OpenLaw.row PySem.Challenge.rw_treespace_k09_whole_spiders).prog 44) (kwd := []) DP.ob0_eq
    DP.run0 (by kernel_rfl) (by kernel_rfl) (by kernel_rfl) (by rfl) (by first | assumption | decide +kernel) (by decide +kernel) ⟨rfl, rfl, rfl, rfl, rfl, by decide +kernel⟩ ?hw DP.walk_k09
  case hw => w_witness2
