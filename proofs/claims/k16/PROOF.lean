import PyProof.Rows.All
import Wide.All
import OpenK.AllK
import Wide.FinOn
import HandS.ForMost
import HandS.Style
import HandS.Wide
import HandS.Flow
import HandS.Zip
import HandS.Walk
import HandS.IsInst
import HandS.Exc
import HandS.ExcOwn
import HandS.ExcCtx
import HandS.TupAny
import HandS.Deep
import HandS.Conv
import HandS.HotCalls
import HandS.Comp
import HandS.Iter
import KE.GoesZip
import KE.GoesMore
import HandS.SetFor
import KE.GoesEnum
import HandS.CallLocal
import KE.KDictZip
import HandS.Text
import PyProof.Rows.StrCountLaw
import HandS.Star
import HandS.Property
import KE.KOpsOwn
import HandS.ExcIs
import HandS.Strs
import PyProof.Rows.SortStr
import PyProof.Rows.SortKeyStr
import PyProof.Rows.SortShellAny
import HandS.TupSets
import HandS.TupMul
import HandS.SortRule
import HandS.Words
import HandS.Defaults
import KE.KStateDown
import HandS.HeadEnd
import HandS.HeadHook1
import HandS.HeadHook2
import HandS.Codes
import HandS.Head0
import HandS.Head1
import HandS.Head2
import PySem.Challenge.RW_yarnpools_k16_whole_yarns_as_objects
section
set_option linter.all false
set_option maxRecDepth 100000
/-! Mini: a small language of our own: values as data, a store of own cells, expressions, statements, and what they evaluate to. -/
namespace Mn

/-- values: texts as code points; a list or tuple that is never changed is data; `own i` is a cell of the store; `fn f` a def of the table -/
inductive D where
  | non
  | bl (b : Bool)
  | int (i : Int)
  | str (x : List Nat)
  | lst (xs : List D)
  | tup (xs : List D)
  | own (i : Nat)
  | fn (f : Nat)
  | frz (xs : List D)
  /-- a dict with texts as keys that is never changed -/
  | dx (ks : List (List Nat)) (xs : List D)
  /-- an instance of the text's class k: its fields are never set anew -/
  | obj (k : Nat) (xs : List D)
  /-- an object that nobody looks at -/
  | any
  deriving Inhabited

/-- what a cell holds -/
inductive Cell where
  | lst (xs : List D)
  | dct (kvs : List (Int × D))

structure Sto where
  nx : Nat
  cs : List (Nat × Cell)

def Sto.get (S : Sto) (i : Nat) : Option Cell := S.cs.lookup i
def updC (i : Nat) (c : Cell) : List (Nat × Cell) → List (Nat × Cell)
  | [] => []
  | (j, e) :: r => if i = j then (j, c) :: r else (j, e) :: updC i c r
def Sto.put (S : Sto) (i : Nat) (c : Cell) : Sto := ⟨S.nx, updC i c S.cs⟩
def Sto.new (S : Sto) (c : Cell) : Sto := ⟨S.nx + 1, (S.nx, c) :: S.cs⟩
/-- a cell is let go: what it held is data by now -/
def Sto.del (S : Sto) (i : Nat) : Sto := ⟨S.nx, S.cs.filter fun p => !(p.1 == i)⟩
/-- the cells from n on are let go -/
def Sto.drop (S : Sto) (n : Nat) : Sto := ⟨S.nx, S.cs.filter fun p => decide (p.1 < n)⟩
/-- .. if any was made -/
def Sto.back (S : Sto) (n : Nat) : Sto := if S.nx = n then S else S.drop n

mutual
def D.noOwn (n : Nat) : D → Bool
  | .own i => decide (i < n)
  | .lst xs => D.noOwns n xs
  | .tup xs => D.noOwns n xs
  | .non => true
  | .bl _ => true
  | .int _ => true
  | .str _ => true
  | .fn _ => true
  | .frz xs => D.noOwns n xs
  | .dx _ xs => D.noOwns n xs
  | .obj _ xs => D.noOwns n xs
  | .any => true
def D.noOwns (n : Nat) : List D → Bool
  | [] => true
  | d :: r => D.noOwn n d && D.noOwns n r
end

inductive R (α : Type) where
  | ok (a : α) (S : Sto)
  | exc (c : Nat) (S : Sto)
  | bad

def R.bind {α β : Type} (x : R α) (f : α → Sto → R β) : R β :=
  match x with
  | .ok a S => f a S
  | .exc c S => .exc c S
  | .bad => .bad

/-- where no exception is carried -/
def R.nox {α : Type} : R α → R α
  | .ok a S => .ok a S
  | _ => .bad

def ofOpt {α : Type} (S : Sto) : Option α → R α
  | some a => .ok a S
  | none => .bad

abbrev Env := List (Option D)

inductive BOp where
  | add | sub | mul | mod | fdiv | pow
  deriving DecidableEq
inductive COp where
  | eq | ne | lt | le | gt | ge | isin | notin | isb | nisb
  deriving DecidableEq
/-- built-in functions -/
inductive BF where
  | len | min2 | max2 | all | sum | list | int | sortset | sorted | tuple | max1
  deriving DecidableEq
/-- methods of built-in types -/
inductive MF where
  | join | count | lcount | append | get2 | pop | index | split
  deriving DecidableEq
/-- the classes that isinstance is asked of -/
inductive TY where
  | str | int | bool | tuple
  deriving DecidableEq
/-- how a method of an instance is called: by name or as a function; by a subscript, - or a property; by +, <<, ==, !=, len -/
inductive MK where
  | call | sub | add | shl | eq | ne | len
  deriving DecidableEq
inductive Tgt where
  | nm (i : Nat)
  | tp (is : List Nat)

mutual
inductive ME where
  | var (i : Nat)
  | cst (d : D)
  | fnv (f : Nat)
  | bin (op : BOp) (a b : ME)
  | neg (a : ME)
  | not (a : ME)
  | and (a b : ME)
  | or (a b : ME)
  | cmp (op : COp) (a b : ME)
  | isN (a : ME)
  | notN (a : ME)
  | chn (o1 o2 : COp) (a b c : ME)
  | ite (c a b : ME)
  | tup (es : List ME)
  | lst (own : Bool) (es : List ME)
  | dct
  | idx (a i : ME)
  | slc (a : ME) (lo hi : Option ME)
  | rev (a : ME)
  | call (f : Nat) (args : List ME)
  | bcl (b : BF) (args : List ME)
  | isi (a : ME) (t : TY)
  | mth (m : MF) (o : ME) (args : List ME)
  | lcm (own : Bool) (elt : ME) (vs : List Nat) (t : Tgt) (it : MI) (c : Option ME)
  | frz (e : ME)
  | isx (b : Bool)
  | callv (ks : List Nat) (f : ME) (args : List ME)
  | lrg (tup : Bool) (a b : ME)
  | sset (a : ME)
  | srt (a : ME)
  | slen (a : ME)
  | dsp (ks : List (List Nat)) (es : List ME)
  | xc (f : Nat)
  | att (k j : Nat) (e : ME)
  | mcl (kd : MK) (k f : Nat) (o : ME) (args : List ME)
  | mcr (k f : Nat) (a o : ME)
  | mk (f : Nat) (args : List ME)
  | new (k : Nat) (es : List ME)
  | iso (k : Nat) (e : ME)
inductive MI where
  | seq (e : ME)
  | rng1 (a : ME)
  | rng2 (a b : ME)
  | zip (a b : ME)
  | enm (a : ME)
  | enz (a b : ME)
  | zipl (a b : ME)
end

inductive MS where
  | expr (e : ME)
  | asg (i : Nat) (e : ME)
  | asgT (is : List Nat) (e : ME)
  | par (is : List Nat) (es : List ME)
  | setI (o i e : ME)
  | aug (i : Nat) (op : BOp) (e : ME)
  | ite (c : ME) (a b : List MS)
  | forr (t : Tgt) (it : MI) (body : List MS)
  | whil (c : ME) (body : List MS)
  | ret (e : Option ME)
  | rais (c : Nat)
  | pass
  | brk
  | cnt
  | tri (body : List MS) (i cl : Nat) (suites : List (Nat × List MS))

/-! ### operations on values -/
def LIM : Nat := 1000000
/-- |i| < b; by natural numbers, so that the kernel never counts down from b -/
def ltN (i : Int) (b : Nat) : Bool := Nat.blt i.natAbs b
def B64 : Nat := 18446744073709551616
def B62 : Nat := 4611686018427387904
def B200 : Nat := 2 ^ 200

def smallI (i : Int) : Bool := ltN i B64

def binV : BOp → D → D → Option D
  | .add, .int i, .int j => some (.int (i + j))
  | .sub, .int i, .int j => some (.int (i - j))
  | .mul, .int i, .int j => if smallI i || smallI j then some (.int (i * j)) else none
  | .mod, .int i, .int j => if 0 < j then some (.int (i % j)) else none
  | .fdiv, .int i, .int j => if 0 < j ∧ ltN j B200 = true then some (.int (i / j)) else none
  | .pow, .int i, .int j => if 0 ≤ j ∧ j ≤ 1000 ∧ i.natAbs < 1000 then some (.int (i ^ j.toNat)) else none
  | .add, .str x, .str y => if x.length + y.length ≤ LIM then some (.str (x ++ y)) else none
  | .mul, .str x, .int n => if x.length ≤ 1000 ∧ ltN n 1001 = true then some (.str (List.replicate n.toNat x).flatten) else none
  | .add, .tup x, .tup y => if x.length + y.length ≤ LIM then some (.tup (x ++ y)) else none
  | .add, .lst x, .lst y => if x.length + y.length ≤ LIM then some (.lst (x ++ y)) else none
  | .mul, .lst x, .int n => if x.length ≤ 1000 ∧ ltN n 1001 = true then some (.lst (List.replicate n.toNat x).flatten) else none
  | _, _, _ => none

mutual
/-- == of data -/
def eqD : D → D → Bool
  | .non, .non => true
  | .bl a, .bl b => a == b
  | .bl a, .int j => (if a then 1 else 0) == j
  | .int i, .bl b => i == (if b then 1 else 0)
  | .int i, .int j => i == j
  | .str x, .str y => x == y
  | .lst xs, .lst ys => eqDs xs ys
  | .tup xs, .tup ys => eqDs xs ys
  | _, _ => false
def eqDs : List D → List D → Bool
  | [], [] => true
  | x :: xs, y :: ys => eqD x y && eqDs xs ys
  | _, _ => false
end

mutual
/-- data alone, at most n deep -/
def D.flat : Nat → D → Bool
  | 0, .lst _ => false
  | 0, .tup _ => false
  | n + 1, .lst xs => D.flats n xs
  | n + 1, .tup xs => D.flats n xs
  | _, .own _ => false
  | _, .fn _ => false
  | _, .frz _ => false
  | _, .dx _ _ => false
  | _, .obj _ _ => false
  | _, .any => false
  | _, .non => true
  | _, .bl _ => true
  | _, .int _ => true
  | _, .str _ => true
def D.flats : Nat → List D → Bool
  | _, [] => true
  | n, d :: r => D.flat n d && D.flats n r
end

def deref (S : Sto) : D → Option D
  | .own i => match S.get i with
    | some (.lst xs) => some (.lst xs)
    | _ => none
  | d => some d

def lexB (lt : Nat → Nat → Bool) : List Nat → List Nat → Bool
  | [], [] => false
  | [], _ :: _ => true
  | _ :: _, [] => false
  | x :: xs, y :: ys => if x = y then lexB lt xs ys else lt x y
def ltX : List Nat → List Nat → Bool := lexB fun a b => decide (a < b)
def ltI : List Int → List Int → Bool
  | [], [] => false
  | [], _ :: _ => true
  | _ :: _, [] => false
  | x :: xs, y :: ys => if x = y then ltI xs ys else decide (x < y)
def intsOf : List D → Option (List Int)
  | [] => some []
  | .int i :: r => (intsOf r).map (i :: ·)
  | _ :: _ => none
def strsOf : List D → Option (List (List Nat))
  | [] => some []
  | .str i :: r => (strsOf r).map (i :: ·)
  | _ :: _ => none
def blsOf : List D → Option (List Bool)
  | [] => some []
  | .bl i :: r => (blsOf r).map (i :: ·)
  | _ :: _ => none
/-- tuples of whole numbers -/
def tupsOf : List D → Option (List (List Int))
  | [] => some []
  | .tup xs :: r => match intsOf xs, tupsOf r with
    | some ns, some t => some (ns :: t)
    | _, _ => none
  | _ :: _ => none
def tupD (ns : List Int) : D := .tup (ns.map .int)
def scalarD : D → Bool
  | .non => true
  | .bl _ => true
  | .int _ => true
  | .str _ => true
  | _ => false

def ltV : D → D → Option Bool
  | .int i, .int j => some (decide (i < j))
  | .str x, .str y => some (ltX x y)
  | .tup xs, .tup ys => match intsOf xs, intsOf ys with
    | some a, some b => some (ltI a b)
    | _, _ => none
  | _, _ => none
def inV (S : Sto) : D → D → Option Bool
  | .str [c], .str y => some (decide (c ∈ y))
  | d, .tup ys => if scalarD d && ys.all scalarD then some (ys.any fun y => eqD y d) else none
  | d, .lst ys => if scalarD d && ys.all scalarD then some (ys.any fun y => eqD y d) else if d.flat 6 && D.flats 6 ys then some (ys.any fun y => eqD y d) else none
  | .int k, .own i => match S.get i with
    | some (.dct kvs) => some (kvs.any fun p => p.1 == k)
    | _ => none
  | _, _ => none
def eqO (S : Sto) (a b : D) : Option Bool :=
  match deref S a, deref S b with
  | some x, some y => if x.flat 8 && y.flat 8 then some (eqD x y) else none
  | _, _ => none
def ii (p : Int → Int → Bool) : D → D → Option Bool
  | .int i, .int j => some (p i j)
  | _, _ => none
/-- is, of truth values -/
def isB : D → D → Option Bool
  | .bl a, .bl b => some (decide (a = b))
  | _, _ => none
def cmpV (S : Sto) (op : COp) (a b : D) : Option Bool :=
  match op with
  | .eq => eqO S a b
  | .ne => (eqO S a b).map not
  | .lt => ltV a b
  | .le => ii (fun i j => decide (i ≤ j)) a b
  | .gt => ii (fun i j => decide (j < i)) a b
  | .ge => ii (fun i j => decide (j ≤ i)) a b
  | .isin => inV S a b
  | .notin => (inV S a b).map not
  | .isb => isB a b
  | .nisb => (isB a b).map not

def truthy : D → Option Bool
  | .bl b => some b
  | .int i => some (i != 0)
  | _ => none

def atD {α : Type} (xs : List α) (i : Int) : Option α :=
  if 0 ≤ i then xs[i.toNat]? else if -(xs.length : Int) ≤ i then xs[(i + xs.length).toNat]? else none
def idxV (S : Sto) : D → D → Option D
  | .lst xs, .int i => atD xs i
  | .tup xs, .int i => atD xs i
  | .frz xs, .int i => atD xs i
  | .str x, .int i => (atD x i).map fun c => .str [c]
  | .own o, .int i => match S.get o with
    | some (.lst xs) => atD xs i
    | some (.dct kvs) => kvs.lookup i
    | _ => none
  | _, _ => none
/-- a slice's bound as a place among n (d where it is left out) -/
def sIxD (n d : Nat) : Option Int → Nat
  | none => d
  | some v => if v < 0 then (v + n).toNat else min v.toNat n
def cutD {α : Type} (xs : List α) (lo hi : Option Int) : List α := (xs.drop (sIxD xs.length 0 lo)).take (sIxD xs.length xs.length hi - sIxD xs.length 0 lo)
def slcV : D → Option Int → Option Int → Option D
  | .str x, lo, hi => some (.str (cutD x lo hi))
  | .lst x, lo, hi => some (.lst (cutD x lo hi))
  | .tup x, lo, hi => some (.tup (cutD x lo hi))
  | _, _, _ => none
def revV : D → Option D
  | .str x => some (.str x.reverse)
  | .lst x => some (.lst x.reverse)
  | _ => none

def lenV (S : Sto) : D → Option Int
  | .str x => some x.length
  | .lst x => some x.length
  | .tup x => some x.length
  | .frz x => some x.length
  | .own i => match S.get i with
    | some (.lst x) => some x.length
    | some (.dct x) => some x.length
    | none => none
  | _ => none

def dedup {α : Type} [BEq α] : List α → List α
  | [] => []
  | x :: r => if r.elem x then dedup r else x :: dedup r
def sumI : List Int → Int
  | [] => 0
  | x :: r => x + sumI r
def insX (x : List Nat) : List (List Nat) → List (List Nat)
  | [] => [x]
  | y :: r => if ltX y x then y :: insX x r else x :: y :: r
def insI (x : Int) : List Int → List Int
  | [] => [x]
  | y :: r => if y < x then y :: insI x r else x :: y :: r
def insT (x : List Int) : List (List Int) → List (List Int)
  | [] => [x]
  | y :: r => if ltI y x then y :: insT x r else x :: y :: r
def sortT (l : List (List Int)) : List (List Int) := l.foldr insT []
/-- all of one length, the numbers from 0 on, below 2^62 -/
def okT (ts : List (List Int)) : Bool := match ts with
  | [] => true
  | t :: _ => Nat.blt 0 t.length && ts.all fun u => u.length == t.length && u.all fun i => decide (0 ≤ i) && ltN i B62
def sortX (l : List (List Nat)) : List (List Nat) := l.foldr insX []
def sortI (l : List Int) : List Int := l.foldr insI []

def bfV (S : Sto) : BF → List D → Option D
  | .len, [d] => (lenV S d).map .int
  | .min2, [.int i, .int j] => some (.int (if j < i then j else i))
  | .max2, [.int i, .int j] => some (.int (if j > i then j else i))
  | .all, [.lst xs] => (blsOf xs).map fun bs => .bl (bs.all id)
  | .sum, [.lst xs] => (intsOf xs).map fun ns => .int ns.sum
  | .list, [.lst xs] => some (.lst xs)
  | .list, [.tup xs] => some (.lst xs)
  | .list, [.str x] => some (.lst (x.map fun c => .str [c]))
  | .int, [.bl b] => some (.int (if b then 1 else 0))
  | .int, [.int i] => some (.int i)
  | .tuple, [.lst xs] => some (.tup xs)
  | .tuple, [.tup xs] => some (.tup xs)
  | .max1, [.lst xs] => match intsOf xs with
    | some (n :: r) => some (.int (r.foldl (fun a b => if b > a then b else a) n))
    | _ => none
  | _, _ => none
def isiV : D → TY → Option Bool
  | .str _, .str => some true
  | .str _, _ => some false
  | .int _, .int => some true
  | .int _, _ => some false
  | .bl _, .bool => some true
  | .bl _, .int => some true
  | .bl _, _ => some false
  | .tup _, .tuple => some true
  | .tup _, _ => some false
  | .lst _, _ => some false
  | .non, _ => some false
  | _, _ => none
/-- the receiver's type -/
def rcv (S : Sto) : MF → D → Bool
  | .join, .str _ => true
  | .count, .str _ => true
  | .lcount, .lst _ => true
  | .index, .lst _ => true
  | .split, .str _ => true
  | .get2, .dx _ _ => true
  | .append, .own i => match S.get i with
    | some (.lst _) => true
    | _ => false
  | .pop, .own i => match S.get i with
    | some (.lst _) => true
    | _ => false
  | .get2, .own i => match S.get i with
    | some (.dct _) => true
    | _ => false
  | _, _ => false
/-- x.split(c) -/
def splitX (x : List Nat) (c : Nat) : List (List Nat) := (PySem.Txt.split ⟨x.toArray⟩ ⟨#[c]⟩).map fun s => s.cps.toList
def okW (x : List Nat) : Bool := x.all (· < 0x110000) && decide (x.length ≤ LIM)
def mfV (S : Sto) : MF → D → List D → Option (D × Sto)
  | .join, .str sep, [.lst xs] => match sep, strsOf xs with
    | [], some ys => if ys.flatten.length ≤ LIM then some (.str ys.flatten, S) else none
    | _, _ => none
  | .append, .own i, [d] => match S.get i with
    | some (.lst xs) => if xs.length < LIM then some (.non, S.put i (.lst (xs ++ [d]))) else none
    | _ => none
  | .get2, .own i, [.int k, d] => match S.get i with
    | some (.dct kvs) => some ((kvs.lookup k).getD d, S)
    | _ => none
  | .get2, .dx ks xs, [.str k, d] => some (((ks.zip xs).lookup k).getD d, S)
  | .split, .str x, [.str [c]] => if (splitX x c).all okW && decide (x.length ≤ LIM) && decide ((splitX x c).length ≤ LIM) then some (.lst ((splitX x c).map .str), S) else none
  | .count, .str x, [.str [c]] => some (.int (x.count c), S)
  | .lcount, .lst xs, [.bl b] => (blsOf xs).map fun bs => (.int (bs.count b : Nat), S)
  | .index, .lst xs, [.str y] => match strsOf xs with
    | some ys => if y ∈ ys then some (.int (ys.idxOf y : Nat), S) else none
    | none => none
  | .pop, .own i, [] => match S.get i with
    | some (.lst xs) => match xs.getLast? with
      | some d => some (d, S.put i (.lst xs.dropLast))
      | none => none
    | _ => none
  | _, _, _ => none

/-! ### evaluation -/
def seqItems (S : Sto) : D → Option (List D)
  | .lst xs => some xs
  | .tup xs => some xs
  | .str x => some (x.map fun c => .str [c])
  | _ => none
def rngItems (lo hi : Int) : Option (List D) :=
  if ltN lo B62 = true ∧ ltN hi B62 = true then some ((List.range (hi - lo).toNat).map fun (i : Nat) => D.int (lo + i)) else none

def Tgt.set (ρ : Env) : Tgt → D → Option Env
  | .nm i, d => some (ρ.set i (some d))
  | .tp is, .tup ds => if is.length = ds.length then some ((is.zip ds).foldl (fun r p => r.set p.1 (some p.2)) ρ) else none
  | _, _ => none
def wipeD (ρ : Env) : List Nat → Env
  | [] => ρ
  | v :: vs => (wipeD ρ vs).set v none

/-- a comprehension's turns -/
def compL (set : D → Option Env) (tst : Env → Sto → R Bool) (elt : Env → Sto → R D) : List D → List D → Sto → R (List D)
  | [], acc, S => .ok acc S
  | d :: r, acc, S => match set d with
    | none => .bad
    | some ρ => (tst ρ S).nox.bind fun b S1 => if b then (elt ρ S1).nox.bind fun y S2 => compL set tst elt r (acc ++ [y]) S2 else compL set tst elt r acc S1

def allocIf (own : Bool) (xs : List D) (S : Sto) : R D :=
  if own then .ok (.own S.nx) (S.new (.lst xs)) else .ok (.lst xs) S

/-- a cell becomes data -/
def frzV (x : D) (S : Sto) : R D := match x with
  | .own i => match S.get i with
    | some (.lst xs) => .ok (.lst xs) (S.del i)
    | _ => .bad
  | d => .ok d S
/-- list(range(a, b)), tuple(range(a, b)) -/
def rngV (tup : Bool) : D → D → Option D
  | .int i, .int j => match rngItems i j with
    | some xs => if xs.length ≤ LIM then some (if tup then .tup xs else .lst xs) else none
    | none => none
  | _, _ => none
/-- sorted(set(..)) of whole numbers, of texts, of tuples of whole numbers -/
def ssetV : D → Option D
  | .lst xs => match intsOf xs with
    | some ns => if ns.length < 64 then some (.lst ((sortI (dedup ns)).map .int)) else none
    | none => match strsOf xs with
      | some ns => if ns.length < 1000 then some (.lst ((sortX (dedup ns)).map .str)) else none
      | none => match tupsOf xs with
        | some ts => if ts.length < 64 ∧ okT ts = true then some (.lst ((sortT (dedup ts)).map tupD)) else none
        | none => none
  | _ => none
/-- .. of what a cell holds, too -/
def ssetO (S : Sto) (d : D) : Option D := (deref S d).bind ssetV
/-- sorted(..) of pairs -/
def srtV : D → Option D
  | .lst xs => match tupsOf xs with
    | some ts => if ts.all (fun t => t.length == 2) then some (.lst ((sortT ts).map tupD)) else none
    | none => none
  | _ => none
/-- len(set(..)) of texts -/
def slenV : D → Option D
  | .lst xs => match strsOf xs with
    | some ns => if ns.length < 1000 then some (.int (dedup ns).length) else none
    | none => none
  | _ => none
/-! ### instances -/
def isO (k : Nat) : D → Bool
  | .obj j _ => j == k
  | _ => false
def attV (k j : Nat) : D → Option D
  | .obj i xs => if i = k then xs[j]? else none
  | _ => none
def isoV (k : Nat) : D → Option Bool
  | .obj j _ => if j = k then some true else none
  | .str _ => some false
  | .int _ => some false
  | .bl _ => some false
  | .non => some false
  | _ => none
/-- what a method's def may be handed -/
def okArg (k : Nat) : MK → List D → Bool
  | .call, _ => true
  | .sub, _ => true
  | .add, [d] => isO k d
  | .ne, [d] => isO k d
  | .shl, [.int _] => true
  | .eq, [.obj j _] => j == k
  | .eq, [.str _] => true
  | .len, [] => true
  | _, _ => false
def finB (r : R D) : R D := r.nox.bind fun d S => match d with
  | .bl b => .ok (.bl b) S
  | _ => .bad
/-- what becomes of its answer -/
def finM : MK → R D → R D
  | .call, r => r
  | .eq, r => finB r
  | .ne, r => r.nox.bind fun d S => match d with
    | .bl b => .ok (.bl (!b)) S
    | _ => .bad
  | .len, r => r.nox.bind fun d S => match d with
    | .int n => if 0 ≤ n ∧ ltN n B62 = true then .ok (.int n) S else .bad
    | _ => .bad
  | _, r => r.nox
def boolOf : D → Option Bool
  | .bl b => some b
  | _ => none
section
variable (C : Nat → List D → Sto → R D)
mutual
def ev : ME → Env → Sto → R D
  | .var i, ρ, S => match ρ[i]? with
    | some (some d) => .ok d S
    | _ => .bad
  | .cst d, _, S => .ok d S
  | .fnv f, _, S => .ok (.fn f) S
  | .isx b, _, S => .ok (.bl b) S
  | .bin op a b, ρ, S => (ev a ρ S).bind fun x S1 => (ev b ρ S1).bind fun y S2 => ofOpt S2 (binV op x y)
  | .neg a, ρ, S => (ev a ρ S).bind fun x S1 => match x with
    | .int i => .ok (.int (-i)) S1
    | _ => .bad
  | .not a, ρ, S => (ev a ρ S).bind fun x S1 => match x with
    | .bl c => .ok (.bl (!c)) S1
    | _ => .bad
  | .and a b, ρ, S => (ev a ρ S).bind fun x S1 => match x with
    | .bl c => if c then ev b ρ S1 else .ok (.bl false) S1
    | _ => .bad
  | .or a b, ρ, S => (ev a ρ S).bind fun x S1 => match x with
    | .bl c => if c then .ok (.bl true) S1 else ev b ρ S1
    | _ => .bad
  | .cmp op a b, ρ, S => (ev a ρ S).bind fun x S1 => (ev b ρ S1).bind fun y S2 => ofOpt S2 ((cmpV S2 op x y).map .bl)
  | .isN a, ρ, S => (ev a ρ S).bind fun x S1 => match x with
    | .non => .ok (.bl true) S1
    | _ => .ok (.bl false) S1
  | .notN a, ρ, S => (ev a ρ S).bind fun x S1 => match x with
    | .non => .ok (.bl false) S1
    | _ => .ok (.bl true) S1
  | .chn o1 o2 a b c, ρ, S => (ev a ρ S).bind fun x S1 => (ev b ρ S1).bind fun y S2 => (ofOpt S2 (cmpV S2 o1 x y)).bind fun t S3 =>
      if t then (ev c ρ S3).bind fun z S4 => ofOpt S4 ((cmpV S4 o2 y z).map .bl) else .ok (.bl false) S3
  | .ite c a b, ρ, S => (evT c ρ S).bind fun t S1 => if t then ev a ρ S1 else ev b ρ S1
  | .tup es, ρ, S => (evs es ρ S).bind fun xs S1 => .ok (.tup xs) S1
  | .lst own es, ρ, S => (evs es ρ S).bind fun xs S1 => allocIf own xs S1
  | .dct, _, S => .ok (.own S.nx) (S.new (.dct []))
  | .idx a i, ρ, S => (ev a ρ S).bind fun x S1 => (ev i ρ S1).bind fun y S2 => ofOpt S2 (idxV S2 x y)
  | .slc a lo hi, ρ, S => (ev a ρ S).bind fun x S1 => (evO lo ρ S1).bind fun l S2 => (evO hi ρ S2).bind fun h S3 => ofOpt S3 (slcV x l h)
  | .rev a, ρ, S => (ev a ρ S).bind fun x S1 => ofOpt S1 (revV x)
  | .call f args, ρ, S => (evs args ρ S).bind fun xs S1 => C f xs S1
  | .bcl b args, ρ, S => (evs args ρ S).bind fun xs S1 => ofOpt S1 (bfV S1 b xs)
  | .isi a t, ρ, S => (ev a ρ S).bind fun x S1 => ofOpt S1 ((isiV x t).map .bl)
  | .mth m o args, ρ, S => (ev o ρ S).bind fun x S1 => if rcv S1 m x then (evs args ρ S1).bind fun xs S2 => match mfV S2 m x xs with
    | some (d, S3) => .ok d S3
    | none => .bad
    else .bad
  | .lcm own elt vs t it c, ρ, S => (evI it ρ S).bind fun ds S1 =>
      if ds.length ≤ LIM then (compL (fun d => t.set (wipeD ρ vs) d) (fun ρ' S' => evC c ρ' S') (fun ρ' S' => ev elt ρ' S') ds [] S1).bind fun xs S2 => allocIf own xs S2 else .bad
  | .frz e, ρ, S => (ev e ρ S).bind fun x S1 => frzV x S1
  | .callv ks f args, ρ, S => (ev f ρ S).bind fun x S1 => match x with
    | .fn k => if ks.elem k then (evs args ρ S1).bind fun xs S2 => C k xs S2 else .bad
    | _ => .bad
  | .lrg tup a b, ρ, S => (ev a ρ S).bind fun x S1 => (ev b ρ S1).bind fun y S2 => ofOpt S2 (rngV tup x y)
  | .sset a, ρ, S => (ev a ρ S).bind fun x S1 => ofOpt S1 (ssetO S1 x)
  | .srt a, ρ, S => (ev a ρ S).bind fun x S1 => ofOpt S1 (srtV x)
  | .slen a, ρ, S => (ev a ρ S).bind fun x S1 => ofOpt S1 (slenV x)
  | .dsp ks es, ρ, S => (evs es ρ S).bind fun xs S1 => .ok (.dx ks xs) S1
  | .xc f, _, S => C f [] S
  | .att k j e, ρ, S => (ev e ρ S).bind fun x S1 => ofOpt S1 (attV k j x)
  | .mcl kd k f o args, ρ, S => (ev o ρ S).bind fun x S1 => if isO k x then (evs args ρ S1).bind fun xs S2 => if okArg k kd xs then finM kd (C f (x :: xs) S2) else .bad else .bad
  | .mcr k f a o, ρ, S => (ev a ρ S).bind fun y S1 => (ev o ρ S1).bind fun x S2 => if isO k x then finB (C f [x, y] S2) else .bad
  | .mk f args, ρ, S => (evs args ρ S).bind fun xs S1 => C f (.any :: xs) S1
  | .new k es, ρ, S => (evs es ρ S).nox.bind fun xs S1 => .ok (.obj k xs) S1
  | .iso k e, ρ, S => (ev e ρ S).bind fun x S1 => ofOpt S1 ((isoV k x).map .bl)
def evT : ME → Env → Sto → R Bool
  | .isx b, _, S => .ok b S
  | .not a, ρ, S => (evT a ρ S).bind fun c S1 => .ok (!c) S1
  | .and a b, ρ, S => (evT a ρ S).bind fun c S1 => if c then evT b ρ S1 else .ok false S1
  | .or a b, ρ, S => (evT a ρ S).bind fun c S1 => if c then .ok true S1 else evT b ρ S1
  | .cmp op a b, ρ, S => (ev a ρ S).bind fun x S1 => (ev b ρ S1).bind fun y S2 => ofOpt S2 (cmpV S2 op x y)
  | .isN a, ρ, S => (ev a ρ S).bind fun x S1 => match x with
    | .non => .ok true S1
    | _ => .ok false S1
  | .notN a, ρ, S => (ev a ρ S).bind fun x S1 => match x with
    | .non => .ok false S1
    | _ => .ok true S1
  | .chn o1 o2 a b c, ρ, S => (ev a ρ S).bind fun x S1 => (ev b ρ S1).bind fun y S2 => (ofOpt S2 (cmpV S2 o1 x y)).bind fun t S3 =>
      if t then (ev c ρ S3).bind fun z S4 => ofOpt S4 (cmpV S4 o2 y z) else .ok false S3
  | .var i, ρ, S => match ρ[i]? with
    | some (some d) => ofOpt S (truthy d)
    | _ => .bad
  | .bin op a b, ρ, S => ((ev a ρ S).bind fun x S1 => (ev b ρ S1).bind fun y S2 => ofOpt S2 (binV op x y)).bind fun x S1 => ofOpt S1 (truthy x)
  | .call f args, ρ, S => ((evs args ρ S).bind fun xs S1 => C f xs S1).bind fun x S1 => ofOpt S1 (truthy x)
  | .bcl b args, ρ, S => ((evs args ρ S).bind fun xs S1 => ofOpt S1 (bfV S1 b xs)).bind fun x S1 => ofOpt S1 (truthy x)
  | .isi a t, ρ, S => (ev a ρ S).bind fun x S1 => ofOpt S1 (isiV x t)
  | .att k j e, ρ, S => ((ev e ρ S).bind fun x S1 => ofOpt S1 (attV k j x)).bind fun x S1 => ofOpt S1 (boolOf x)
  | .mcl kd k f o args, ρ, S => ((ev o ρ S).bind fun x S1 => if isO k x then (evs args ρ S1).bind fun xs S2 => if okArg k kd xs then finM kd (C f (x :: xs) S2) else .bad else .bad).bind fun x S1 => ofOpt S1 (boolOf x)
  | .mcr k f a o, ρ, S => ((ev a ρ S).bind fun y S1 => (ev o ρ S1).bind fun x S2 => if isO k x then finB (C f [x, y] S2) else .bad).bind fun x S1 => ofOpt S1 (boolOf x)
  | .iso k e, ρ, S => ((ev e ρ S).bind fun x S1 => ofOpt S1 ((isoV k x).map .bl)).bind fun x S1 => ofOpt S1 (boolOf x)
  | _, _, _ => .bad
def evs : List ME → Env → Sto → R (List D)
  | [], _, S => .ok [] S
  | e :: r, ρ, S => (ev e ρ S).bind fun x S1 => (evs r ρ S1).bind fun xs S2 => .ok (x :: xs) S2
def evO : Option ME → Env → Sto → R (Option Int)
  | none, _, S => .ok none S
  | some e, ρ, S => (ev e ρ S).bind fun x S1 => match x with
    | .int i => .ok (some i) S1
    | _ => .bad
def evC : Option ME → Env → Sto → R Bool
  | none, _, S => .ok true S
  | some e, ρ, S => evT e ρ S
def evI : MI → Env → Sto → R (List D)
  | .seq e, ρ, S => (ev e ρ S).bind fun x S1 => ofOpt S1 (seqItems S1 x)
  | .rng1 a, ρ, S => (ev a ρ S).bind fun x S1 => match x with
    | .int j => ofOpt S1 (rngItems 0 j)
    | _ => .bad
  | .rng2 a b, ρ, S => (ev a ρ S).bind fun x S1 => (ev b ρ S1).bind fun y S2 => match x, y with
    | .int i, .int j => ofOpt S2 (rngItems i j)
    | _, _ => .bad
  | .zip a b, ρ, S => (ev a ρ S).bind fun x S1 => (ev b ρ S1).bind fun y S2 => match x, y with
    | .lst xs, .lst ys => .ok ((xs.zip ys).map fun p => .tup [p.1, p.2]) S2
    | .tup xs, .tup ys => .ok ((xs.zip ys).map fun p => .tup [p.1, p.2]) S2
    | .str xs, .str ys => .ok ((xs.zip ys).map fun p => .tup [.str [p.1], .str [p.2]]) S2
    | _, _ => .bad
  | .enm a, ρ, S => (ev a ρ S).bind fun x S1 => match x with
    | .lst xs => .ok (xs.zipIdx.map fun p => .tup [.int p.2, p.1]) S1
    | _ => .bad
  | .zipl a b, ρ, S => (ev a ρ S).bind fun x S1 => (ev b ρ S1).bind fun y S2 => match x, y with
    | .lst xs, .lst ys => .ok ((xs.zip ys).map fun p => .tup [p.1, p.2]) S2
    | _, _ => .bad
  | .enz a b, ρ, S => (ev a ρ S).bind fun x S1 => (ev b ρ S1).bind fun y S2 => match x, y with
    | .lst xs, .lst ys => .ok ((xs.zip ys).zipIdx.map fun p => .tup [.int p.2, .tup [p.1.1, p.1.2]]) S2
    | _, _ => .bad
end
end

/-- where a statement ends -/
inductive Fl where
  | nx (ρ : Env)
  | rt (d : D)
  | bk (ρ : Env)
  | ct (ρ : Env)
  | ex (c : Nat) (ρ : Env)

/-- an exception of an expression leaves the statement, the names as they stand -/
def R.bindS {α : Type} (ρ : Env) (x : R α) (f : α → Sto → R Fl) : R Fl :=
  match x with
  | .ok a S => f a S
  | .exc c S => .ok (.ex c ρ) S
  | .bad => .bad

def loopL (n : Nat) (set : Env → D → Option Env) (body : Env → Sto → R Fl) : List D → Env → Sto → R Fl
  | [], ρ, S => .ok (.nx ρ) S
  | d :: r, ρ, S => match set ρ d with
    | none => .bad
    | some ρ1 => (body ρ1 S).bind fun fl S1 => match fl with
      | .nx ρ2 => loopL n set body r ρ2 (S1.back n)
      | .ct ρ2 => loopL n set body r ρ2 (S1.back n)
      | .bk ρ2 => .ok (.nx ρ2) S1
      | .rt d => .ok (.rt d) S1
      | .ex c ρ2 => .ok (.ex c ρ2) S1
def whileL (tst : Env → Sto → R Bool) (body : Env → Sto → R Fl) : Nat → Env → Sto → R Fl
  | 0, _, _ => .bad
  | n + 1, ρ, S => (tst ρ S).bindS ρ fun b S1 => if b then (body ρ S1).bind fun fl S2 => match fl with
      | .nx ρ2 => whileL tst body n ρ2 S2
      | .ct ρ2 => whileL tst body n ρ2 S2
      | .bk ρ2 => .ok (.nx ρ2) S2
      | .rt d => .ok (.rt d) S2
      | .ex c ρ2 => .ok (.ex c ρ2) S2
    else .ok (.nx ρ) S1
def WF : Nat := 100000

def putK (i : Int) (d : D) (kvs : List (Int × D)) : List (Int × D) :=
  if (kvs.any fun p => decide (p.1 = i)) = true then kvs.map (fun p => if p.1 = i then (p.1, d) else p) else kvs ++ [(i, d)]
def setV (S : Sto) : D → D → D → Option Sto
  | .own o, .int i, d => match S.get o with
    | some (.lst xs) => if 0 ≤ i ∧ i < xs.length then some (S.put o (.lst (xs.set i.toNat d))) else none
    | some (.dct kvs) => if kvs.length < LIM then some (S.put o (.dct (putK i d kvs))) else none
    | none => none
  | _, _, _ => none

/-- x += y, numbers or texts -/
def augV (x y : D) (S : Sto) : R D := match x, y with
  | .int _, .int _ => ofOpt S (binV .add x y)
  | .str _, .str _ => ofOpt S (binV .add x y)
  | _, _ => .bad
/-- is the class k one of cl? (0: the base of all) -/
def subC (k cl : Nat) : Bool := cl == 0 || cl == k
/-- behind an except suite -/
def sufS (i : Nat) : Fl → Sto → R Fl
  | .nx ρ2, S2 => .ok (.nx (ρ2.set i none)) S2
  | .rt d, S2 => .ok (.rt d) S2
  | _, _ => .bad
section
variable (C : Nat → List D → Sto → R D)
mutual
def exec : MS → Env → Sto → R Fl
  | .expr e, ρ, S => (ev C e ρ S).bindS ρ fun _ S1 => .ok (.nx ρ) S1
  | .asg i e, ρ, S => (ev C e ρ S).bindS ρ fun x S1 => .ok (.nx (ρ.set i (some x))) S1
  | .asgT is e, ρ, S => (ev C e ρ S).bindS ρ fun x S1 => match (Tgt.tp is).set ρ x with
    | some ρ1 => .ok (.nx ρ1) S1
    | none => .bad
  | .par is es, ρ, S => (evs C es ρ S).bindS ρ fun xs S1 => match (Tgt.tp is).set ρ (.tup xs) with
    | some ρ1 => .ok (.nx ρ1) S1
    | none => .bad
  | .setI o i e, ρ, S => (ev C e ρ S).bindS ρ fun x S1 => (ev C o ρ S1).bindS ρ fun y S2 => (ev C i ρ S2).bindS ρ fun z S3 => match setV S3 y z x with
    | some S4 => .ok (.nx ρ) S4
    | none => .bad
  | .aug i _ e, ρ, S => match ρ[i]? with
    | some (some x) => (ev C e ρ S).bindS ρ fun y S1 => (augV x y S1).bindS ρ fun z S2 => .ok (.nx (ρ.set i (some z))) S2
    | _ => .bad
  | .ite c a b, ρ, S => (evT C c ρ S).bindS ρ fun t S1 => if t then execs a ρ S1 else execs b ρ S1
  | .forr t it body, ρ, S => (evI C it ρ S).bindS ρ fun ds S1 => loopL S1.nx (fun r d => t.set r d) (fun r s => execs body r s) ds ρ S1
  | .whil c body, ρ, S => whileL (fun r s => evT C c r s) (fun r s => execs body r s) WF ρ S
  | .ret none, _, S => .ok (.rt .non) S
  | .ret (some e), ρ, S => (ev C e ρ S).bindS ρ fun x S1 => .ok (.rt x) S1
  | .rais c, ρ, S => .ok (.ex c ρ) S
  | .pass, ρ, S => .ok (.nx ρ) S
  | .brk, ρ, S => .ok (.bk ρ) S
  | .cnt, ρ, S => .ok (.ct ρ) S
  | .tri body i cl suites, ρ, S => (execs body ρ S).bind fun fl S1 => match fl with
    | .ex k ρ1 => if i < ρ1.length ∧ cl = 0 then (execsAt k suites (ρ1.set i none) S1).bind (sufS i) else .bad
    | fl => .ok fl S1
def execsAt (k : Nat) : List (Nat × List MS) → Env → Sto → R Fl
  | [], _, _ => .bad
  | (j, su) :: r, ρ, S => if j = k then execs su ρ S else execsAt k r ρ S
def execs : List MS → Env → Sto → R Fl
  | [], ρ, S => .ok (.nx ρ) S
  | s :: r, ρ, S => (exec s ρ S).bind fun fl S1 => match fl with
    | .nx ρ1 => execs r ρ1 S1
    | .rt d => .ok (.rt d) S1
    | .bk ρ1 => .ok (.bk ρ1) S1
    | .ct ρ1 => .ok (.ct ρ1) S1
    | .ex c ρ1 => .ok (.ex c ρ1) S1
end
end

structure MDef where
  np : Nat
  ns : Nat
  body : List MS

def Cell.noOwn (n : Nat) : Cell → Bool
  | .lst xs => D.noOwns n xs
  | .dct kvs => kvs.all fun p => D.noOwn n p.2
/-- at a def's end: the cells that it made are let go, but the one that it hands back -/
def keeps (d : D) (j : Nat) : Bool := match d with
  | .own i => i == j
  | .obj _ xs => xs.any fun x => match x with
    | .own i => i == j
    | _ => false
  | _ => false
def retD (n0 : Nat) (d : D) (S : Sto) : R D :=
  if S.nx = n0 then .ok d S
  else if d.noOwn n0 && S.cs.all (fun p => !decide (p.1 < n0) || p.2.noOwn n0) then .ok d ⟨n0, S.cs.filter fun p => decide (p.1 < n0)⟩
  else .ok d ⟨S.nx, S.cs.filter fun p => decide (p.1 < n0) || keeps d p.1⟩
def startD (m : MDef) (args : List D) : Env := args.map some ++ List.replicate (m.ns - args.length) none
def callF (T : Nat → Option MDef) : Nat → Nat → List D → Sto → R D
  | 0, _, _, _ => .bad
  | n + 1, f, args, S => match T f with
    | none => .bad
    | some m => if args.length = m.np then (execs (callF T n) m.body (startD m args) S).nox.bind fun fl S' => match fl with
        | .rt d => retD S.nx d S'
        | .nx _ => retD S.nx .non S'
        | .ex c _ => .exc c (S'.back S.nx)
        | _ => .bad
      else .bad
end Mn
end
section
set_option Elab.async false
set_option linter.all false
set_option maxRecDepth 100000
/-! Snd0: how Mini's values and cells stand in the heap; what is wanted behind an evaluation. -/
namespace Mn
open PySem PySem.Spec PyProof.Rows L2

/-- what the text's top has left, as far as Mini asks -/
structure G where
  P : Program
  w : World
  K : PySem.W.Frag
  mg : Str → Option Value
  base : Heap
  T : Nat → Option MDef
  fa : Nat → Addr
  ca : Nat → Addr
  /-- in an except suite: the name's slot, the exception's address -/
  exs : Option (Nat × Addr)

/-- what is data by now: the addresses of the cells, the heap's part that is never changed -/
structure Wd where
  al : Nat → Option Addr
  H0 : Hp
structure Wd.le (a b : Wd) : Prop where
  al : ∀ i x, a.al i = some x → b.al i = some x
  hp : Same a.H0 b.H0
theorem Wd.le.refl (a : Wd) : a.le a := ⟨fun _ _ h => h, Same.refl _⟩
theorem Wd.le.trans {a b c : Wd} (x : a.le b) (y : b.le c) : a.le c := ⟨fun i z h => y.al i z (x.al i z h), x.hp.trans y.hp⟩

/-- the text's classes: their names, their fields -/
def cnm : Nat → Str
  | 0 => "Yarn"
  | _ => "Knitting"
def flds : Nat → List Str
  | 0 => ["colors"]
  | _ => ["repeat_of", "width", "flat", "past"]
def cAd (fa : Nat → Addr) (k : Nat) : Addr := fa (900 + k)
def mkS (x : List Nat) : Str := ⟨x.toArray⟩

mutual
inductive Rep (K : PySem.W.Frag) (fa : Nat → Addr) (w : Wd) : D → V → Prop
  | non : Rep K fa w .non .non
  | bl (b : Bool) : Rep K fa w (.bl b) (.bl b)
  | int (i : Int) : Rep K fa w (.int i) (.int i)
  | str (x : List Nat) : x.all (· < 0x110000) = true → x.length ≤ sizeLine → Rep K fa w (.str x) (.str (mkS x))
  | lst {xs : List D} {a : Addr} {vs : List V} : w.H0 a = some (.lst vs) → Reps K fa w xs vs → Rep K fa w (.lst xs) (.ref a)
  | frz {xs : List D} {a : Addr} {vs : List V} : SqL K w.H0 a vs → Reps K fa w xs vs → Rep K fa w (.frz xs) (.ref a)
  | dx {ks : List (List Nat)} {xs : List D} {a : Addr} {vs : List V} : w.H0 a = some (.dK ((ks.map fun k => (Sum.inr (mkS k) : Key)).zip vs)) → Reps K fa w xs vs → Rep K fa w (.dx ks xs) (.ref a)
  | obj {k : Nat} {xs : List D} {a dx : Addr} {vs : List V} : w.H0 a = some (.ins (cAd fa k) dx ((flds k).zip vs)) → Reps K fa w xs vs → Rep K fa w (.obj k xs) (.ref a)
  | any (a : Addr) : Rep K fa w .any (.ref a)
  | tup {xs : List D} {a : Addr} {vs : List V} : SqT K w.H0 a vs → Reps K fa w xs vs → Rep K fa w (.tup xs) (.ref a)
  | own {i : Nat} {a : Addr} : w.al i = some a → Rep K fa w (.own i) (.ref a)
  | fn (f : Nat) : Rep K fa w (.fn f) (.ref (fa f))
inductive Reps (K : PySem.W.Frag) (fa : Nat → Addr) (w : Wd) : List D → List V → Prop
  | nil : Reps K fa w [] []
  | cons {d : D} {v : V} {ds : List D} {vs : List V} : Rep K fa w d v → Reps K fa w ds vs → Reps K fa w (d :: ds) (v :: vs)
end

section
variable {K : PySem.W.Frag} {fa : Nat → Addr} {w w' : Wd}
theorem sqT_same {H H' : Hp} {a : Addr} {xs : List V} (e : Same H H') (h : SqT K H a xs) : SqT K H' a xs := by
  rcases h with (h | ⟨o, h⟩) | h
  · exact .inl (.inl (e _ _ h))
  · exact .inl (.inr ⟨o, e _ _ h⟩)
  · exact .inr h
mutual
theorem Rep.mono (l : w.le w') : ∀ {d : D} {v : V}, Rep K fa w d v → Rep K fa w' d v
  | _, _, .non => .non
  | _, _, .bl b => .bl b
  | _, _, .int i => .int i
  | _, _, .str x h1 h2 => .str x h1 h2
  | _, _, .lst h r => .lst (l.hp _ _ h) (Reps.mono l r)
  | _, _, .frz h r => .frz (l.hp.seq h) (Reps.mono l r)
  | _, _, .dx h r => .dx (l.hp _ _ h) (Reps.mono l r)
  | _, _, .obj h r => .obj (l.hp _ _ h) (Reps.mono l r)
  | _, _, .any a => .any a
  | _, _, .tup h r => .tup (sqT_same l.hp h) (Reps.mono l r)
  | _, _, .own h => .own (l.al _ _ h)
  | _, _, .fn f => .fn f
theorem Reps.mono (l : w.le w') : ∀ {ds : List D} {vs : List V}, Reps K fa w ds vs → Reps K fa w' ds vs
  | _, _, .nil => .nil
  | _, _, .cons h r => .cons (Rep.mono l h) (Reps.mono l r)
end
theorem Reps.length : ∀ {ds : List D} {vs : List V}, Reps K fa w ds vs → ds.length = vs.length
  | _, _, .nil => rfl
  | _, _, .cons _ r => by rw [List.length_cons, List.length_cons, Reps.length r]
theorem Reps.get : ∀ {ds : List D} {vs : List V} {i : Nat} {d : D}, Reps K fa w ds vs → ds[i]? = some d → ∃ v, vs[i]? = some v ∧ Rep K fa w d v
  | _, _, _, _, .nil, e => by simp at e
  | _, _, 0, _, .cons h _, e => by simp at e; subst e; exact ⟨_, rfl, h⟩
  | _, _, i + 1, d, .cons _ r, e => by
    obtain ⟨v, h1, h2⟩ := Reps.get (i := i) (d := d) r (by simpa using e)
    exact ⟨v, by simpa using h1, h2⟩
theorem Reps.append : ∀ {a b : List D} {x y : List V}, Reps K fa w a x → Reps K fa w b y → Reps K fa w (a ++ b) (x ++ y)
  | _, _, _, _, .nil, s => s
  | _, _, _, _, .cons h r, s => .cons h (Reps.append r s)
theorem Reps.take : ∀ {a : List D} {x : List V} (n : Nat), Reps K fa w a x → Reps K fa w (a.take n) (x.take n)
  | _, _, 0, _ => .nil
  | _, _, _ + 1, .nil => .nil
  | _, _, n + 1, .cons h r => .cons h (Reps.take n r)
theorem Reps.drop : ∀ {a : List D} {x : List V} (n : Nat), Reps K fa w a x → Reps K fa w (a.drop n) (x.drop n)
  | _, _, 0, r => r
  | _, _, _ + 1, .nil => .nil
  | _, _, n + 1, .cons _ r => Reps.drop n r
theorem Reps.set : ∀ {a : List D} {x : List V} {d : D} {v : V} (i : Nat), Rep K fa w d v → Reps K fa w a x → Reps K fa w (a.set i d) (x.set i v)
  | _, _, _, _, _, _, .nil => .nil
  | _, _, _, _, 0, h, .cons _ r => .cons h r
  | _, _, _, _, i + 1, h, .cons q r => .cons q (Reps.set i h r)
theorem Reps.flatten : ∀ {a : List D} {x : List V} (k : Nat), Reps K fa w a x → Reps K fa w (List.replicate k a).flatten (List.replicate k x).flatten
  | _, _, 0, _ => .nil
  | _, _, k + 1, r => by
    rw [List.replicate_succ, List.replicate_succ, List.flatten_cons, List.flatten_cons]
    exact Reps.append r (Reps.flatten k r)
end

/-! ### the store in the heap -/
def KReps (K : PySem.W.Frag) (fa : Nat → Addr) (w : Wd) (kvs : List (Int × D)) (vs : List (Key × V)) : Prop :=
  Paired (fun (p : Int × D) (q : Key × V) => q.1 = Sum.inl p.1 ∧ Rep K fa w p.2 q.2) kvs vs
def CellOk (g : G) (w : Wd) (H : Hp) (a : Addr) : Cell → Prop
  | .lst xs => ∃ vs, H a = some (.lst vs) ∧ Reps g.K g.fa w xs vs
  | .dct kvs => ∃ vs, H a = some (.dK vs) ∧ KReps g.K g.fa w kvs vs
theorem KReps.mono {K : PySem.W.Frag} {fa : Nat → Addr} {w w' : Wd} (l : w.le w') {kvs : List (Int × D)} {vs : List (Key × V)} (h : KReps K fa w kvs vs) : KReps K fa w' kvs vs :=
  Paired.mapP h fun _ _ z => ⟨z.1, z.2.mono l⟩
theorem CellOk.mono {g : G} {w w' : Wd} {H H' : Hp} {a : Addr} {c : Cell} (l : w.le w') (e : ∀ o, H a = some o → H' a = some o) (h : CellOk g w H a c) : CellOk g w' H' a c := by
  cases c with
  | lst xs => obtain ⟨vs, h1, h2⟩ := h; exact ⟨vs, e _ h1, h2.mono l⟩
  | dct kvs => obtain ⟨vs, h1, h2⟩ := h; exact ⟨vs, e _ h1, h2.mono l⟩
theorem CellOk.there {g : G} {w : Wd} {H : Hp} {a : Addr} {c : Cell} (h : CellOk g w H a c) : ∃ o, H a = some o := by
  cases c with
  | lst xs => obtain ⟨vs, h1, _⟩ := h; exact ⟨_, h1⟩
  | dct kvs => obtain ⟨vs, h1, _⟩ := h; exact ⟨_, h1⟩

structure StOk (g : G) (w : Wd) (Fr H : Hp) (S : Sto) : Prop where
  h0 : Same w.H0 H
  fr : Same Fr H
  dj : ∀ a o, Fr a = some o → w.H0 a = none
  lt : ∀ i a, w.al i = some a → i < S.nx
  live : ∀ i c, S.get i = some c → ∃ a, w.al i = some a ∧ w.H0 a = none ∧ Fr a = none ∧ CellOk g w H a c
  inj : ∀ i j c d a, S.get i = some c → S.get j = some d → w.al i = some a → w.al j = some a → i = j
  lv : ∀ i c, (i, c) ∈ S.cs → i < S.nx

abbrev Rg (g : G) (w : Wd) : D → V → Prop := Rep g.K g.fa w
abbrev Rgs (g : G) (w : Wd) : List D → List V → Prop := Reps g.K g.fa w

theorem free_of {H H' : Hp} {a : Addr} (e : Same H H') (h : H' a = none) : H a = none := e.free h

section
variable {g : G} {w : Wd} {Fr H : Hp} {S : Sto}
/-- new data is laid -/
theorem StOk.data (s : StOk g w Fr H S) {p : Addr} {o : HO} (n : H p = none) : StOk g ⟨w.al, upd w.H0 p o⟩ Fr (upd H p o) S ∧ w.le ⟨w.al, upd w.H0 p o⟩ := by
  have n0 : w.H0 p = none := free_of s.h0 n
  have nf : Fr p = none := free_of s.fr n
  have le : w.le ⟨w.al, upd w.H0 p o⟩ := ⟨fun _ _ h => h, fun b u e => by
    show upd w.H0 p o b = some u
    rw [upd_ne (ne_of_none e n0)]; exact e⟩
  refine ⟨⟨fun b u e => ?_, fun b u e => ?_, fun a u e => ?_, s.lt, fun i c e => ?_, s.inj, s.lv⟩, le⟩
  · have e : upd w.H0 p o b = some u := e
    by_cases hb : b = p
    · subst hb
      rw [upd_same] at e ⊢; exact e
    · rw [upd_ne hb] at e ⊢; exact s.h0 _ _ e
  · rw [upd_ne (ne_of_none e nf)]; exact s.fr _ _ e
  · show upd w.H0 p o a = none
    rw [upd_ne (ne_of_none e nf)]; exact s.dj _ _ e
  · obtain ⟨a, h1, h2, h3, h4⟩ := s.live i c e
    obtain ⟨u, hu⟩ := h4.there
    have ne : a ≠ p := ne_of_none hu n
    refine ⟨a, h1, ?_, h3, h4.mono le fun z hz => ?_⟩
    · show upd w.H0 p o a = none
      rw [upd_ne ne]; exact h2
    · rw [upd_ne ne]; exact hz
theorem get_new {S : Sto} {c : Cell} {i : Nat} : (S.new c).get i = if i = S.nx then some c else S.get i := by
  unfold Sto.new Sto.get
  show List.lookup i ((S.nx, c) :: S.cs) = _
  rw [List.lookup_cons]
  by_cases h : i = S.nx
  · subst h; simp
  · have : (i == S.nx) = false := by simpa using h
    rw [this, if_neg h]
/-- a new cell is laid -/
theorem StOk.cell (s : StOk g w Fr H S) {p : Addr} {o : HO} {c : Cell} (n : H p = none) (hc : ∀ w' H', w.le w' → H' p = some o → CellOk g w' H' p c) :
    StOk g ⟨fun i => if i = S.nx then some p else w.al i, w.H0⟩ Fr (upd H p o) (S.new c) ∧ w.le ⟨fun i => if i = S.nx then some p else w.al i, w.H0⟩ := by
  have n0 : w.H0 p = none := free_of s.h0 n
  have nf : Fr p = none := free_of s.fr n
  have le : w.le ⟨fun i => if i = S.nx then some p else w.al i, w.H0⟩ := ⟨fun i x h => by
    show (if i = S.nx then some p else w.al i) = some x
    rw [if_neg (Nat.ne_of_lt (s.lt i x h))]; exact h, Same.refl _⟩
  have nl : ∀ i d, S.get i = some d → i ≠ S.nx := fun i d e => by
    obtain ⟨a, h1, _⟩ := s.live i d e
    exact Nat.ne_of_lt (s.lt i a h1)
  have na : ∀ i d a, S.get i = some d → w.al i = some a → a ≠ p := fun i d a e h => by
    obtain ⟨b, h1, _, _, h4⟩ := s.live i d e
    rw [h] at h1; cases h1
    obtain ⟨u, hu⟩ := h4.there
    exact ne_of_none hu n
  refine ⟨⟨fun b u e => ?_, fun b u e => ?_, s.dj, fun i a e => ?_, fun i d e => ?_, fun i j d1 d2 a e1 e2 h1 h2 => ?_, fun i d e => ?_⟩, le⟩
  · rw [upd_ne (ne_of_none e n0)]; exact s.h0 _ _ e
  · rw [upd_ne (ne_of_none e nf)]; exact s.fr _ _ e
  · show i < S.nx + 1
    have e : (if i = S.nx then some p else w.al i) = some a := e
    by_cases h : i = S.nx
    · omega
    · rw [if_neg h] at e
      have := s.lt i a e
      omega
  · rw [get_new] at e
    by_cases h : i = S.nx
    · rw [if_pos h] at e; cases e
      refine ⟨p, by show (if i = S.nx then some p else w.al i) = some p; rw [if_pos h], n0, nf, hc _ _ le upd_same⟩
    · rw [if_neg h] at e
      obtain ⟨a, h1, h2, h3, h4⟩ := s.live i d e
      refine ⟨a, le.al _ _ h1, h2, h3, h4.mono le fun z hz => ?_⟩
      rw [upd_ne (na i d a e h1)]; exact hz
  · have h1 : (if i = S.nx then some p else w.al i) = some a := h1
    have h2 : (if j = S.nx then some p else w.al j) = some a := h2
    rw [get_new] at e1 e2
    by_cases hi : i = S.nx
    · by_cases hj : j = S.nx
      · omega
      · rw [if_pos hi] at h1; cases h1
        rw [if_neg hj] at h2 e2
        exact absurd rfl (na j d2 p e2 h2)
    · by_cases hj : j = S.nx
      · rw [if_pos hj] at h2; cases h2
        rw [if_neg hi] at h1 e1
        exact absurd rfl (na i d1 p e1 h1)
      · rw [if_neg hi] at h1 e1
        rw [if_neg hj] at h2 e2
        exact s.inj i j d1 d2 a e1 e2 h1 h2
  · show i < S.nx + 1
    rcases List.mem_cons.mp e with e | e
    · cases e; omega
    · have := s.lv i d e; omega
theorem get_updC {i j : Nat} {c : Cell} : ∀ {l : List (Nat × Cell)}, List.lookup j (updC i c l) = if i = j then (List.lookup j l).map fun _ => c else List.lookup j l
  | [] => by simp [updC]
  | (k, e) :: r => by
    unfold updC
    by_cases h : i = k
    · subst h
      rw [if_pos rfl, List.lookup_cons, List.lookup_cons]
      by_cases hj : j = i
      · subst hj; simp
      · have : (j == i) = false := by simpa using hj
        rw [this, if_neg (fun z => hj z.symm)]
    · rw [if_neg h, List.lookup_cons, List.lookup_cons]
      by_cases hj : j = k
      · subst hj
        simp [h]
      · have : (j == k) = false := by simpa using hj
        rw [this]
        exact get_updC
theorem get_put {S : Sto} {i j : Nat} {c : Cell} : (S.put i c).get j = if i = j then (S.get j).map fun _ => c else S.get j := get_updC
theorem mem_updC {i : Nat} {c : Cell} : ∀ {l : List (Nat × Cell)} {j : Nat} {e : Cell}, (j, e) ∈ updC i c l → ∃ e', (j, e') ∈ l
  | [], _, _, h => by simp [updC] at h
  | (k, x) :: r, j, e, h => by
    unfold updC at h
    split at h
    · rcases List.mem_cons.mp h with q | q
      · cases q; exact ⟨x, List.mem_cons_self⟩
      · exact ⟨e, List.mem_cons_of_mem _ q⟩
    · rcases List.mem_cons.mp h with q | q
      · cases q; exact ⟨x, List.mem_cons_self⟩
      · obtain ⟨e', h'⟩ := mem_updC q
        exact ⟨e', List.mem_cons_of_mem _ h'⟩
/-- a cell is written -/
theorem StOk.put (s : StOk g w Fr H S) {i : Nat} {a : Addr} {o : HO} {c c' : Cell} (hi : S.get i = some c) (ha : w.al i = some a) (hc : ∀ H', H' a = some o → CellOk g w H' a c') :
    StOk g w Fr (upd H a o) (S.put i c') := by
  obtain ⟨b, h1, h2, h3, h4⟩ := s.live i c hi
  rw [ha] at h1; cases h1
  refine ⟨fun b u e => ?_, fun b u e => ?_, s.dj, s.lt, fun j d e => ?_, fun j k d1 d2 b e1 e2 q1 q2 => ?_, fun j d e => ?_⟩
  · rw [upd_ne (ne_of_none e h2)]; exact s.h0 _ _ e
  · rw [upd_ne (ne_of_none e h3)]; exact s.fr _ _ e
  · rw [get_put] at e
    by_cases hj : i = j
    · subst hj
      rw [if_pos rfl, hi] at e
      cases e
      exact ⟨a, ha, h2, h3, hc _ upd_same⟩
    · rw [if_neg hj] at e
      obtain ⟨b, q1, q2, q3, q4⟩ := s.live j d e
      have ne : b ≠ a := fun z => hj (s.inj i j c d a hi e ha (z ▸ q1))
      exact ⟨b, q1, q2, q3, q4.mono (Wd.le.refl _) fun z hz => by rw [upd_ne ne]; exact hz⟩
  · have back : ∀ {j d}, (S.put i c').get j = some d → ∃ d', S.get j = some d' := fun {j d} e => by
      rw [get_put] at e
      split at e
      · cases q : S.get j with
        | none => rw [q] at e; cases e
        | some x => exact ⟨x, rfl⟩
      · exact ⟨d, e⟩
    obtain ⟨_, z1⟩ := back e1
    obtain ⟨_, z2⟩ := back e2
    exact s.inj j k _ _ b z1 z2 q1 q2
  · obtain ⟨d', h'⟩ := mem_updC e
    exact s.lv j d' h'
theorem lookup_filter {p : Nat × Cell → Bool} {i : Nat} {c : Cell} : ∀ {l : List (Nat × Cell)}, (∀ c c', p (i, c) = p (i, c')) → List.lookup i (l.filter p) = some c → List.lookup i l = some c
  | [], _, h => by simp at h
  | (k, e) :: r, hp, h => by
    rw [List.lookup_cons]
    by_cases hk : i = k
    · subst hk
      cases q : p (i, e) with
      | true =>
        rw [List.filter_cons_of_pos q, List.lookup_cons] at h
        simpa using h
      | false =>
        exfalso
        have : ∀ {l : List (Nat × Cell)}, List.lookup i (l.filter p) = none := fun {l} => by
          induction l with
          | nil => rfl
          | cons x r ih =>
            obtain ⟨k, y⟩ := x
            by_cases hx : p (k, y) = true
            · rw [List.filter_cons_of_pos hx, List.lookup_cons]
              have ne : (i == k) = false := by
                simp only [beq_eq_false_iff_ne, ne_eq]
                rintro rfl
                rw [hp y e, q] at hx; cases hx
              rw [ne]; exact ih
            · rw [List.filter_cons_of_neg hx]; exact ih
        rw [this] at h; cases h
    · have ne : (i == k) = false := by simpa using hk
      rw [ne]
      by_cases hx : p (k, e) = true
      · rw [List.filter_cons_of_pos hx, List.lookup_cons, ne] at h
        exact lookup_filter hp h
      · rw [List.filter_cons_of_neg hx] at h
        exact lookup_filter hp h
/-- cells are let go -/
theorem StOk.let_go (s : StOk g w Fr H S) {p : Nat × Cell → Bool} (hp : ∀ i c c', p (i, c) = p (i, c')) : StOk g w Fr H ⟨S.nx, S.cs.filter p⟩ :=
  ⟨s.h0, s.fr, s.dj, s.lt, fun i c e => s.live i c (lookup_filter (hp i) e), fun i j c d a e1 e2 => s.inj i j c d a (lookup_filter (hp i) e1) (lookup_filter (hp j) e2), fun i c e => s.lv i c (List.mem_filter.mp e).1⟩
theorem StOk.drop (s : StOk g w Fr H S) (n : Nat) : StOk g w Fr H (S.drop n) := s.let_go (p := fun p => decide (p.1 < n)) fun _ _ _ => rfl
theorem StOk.back (s : StOk g w Fr H S) (n : Nat) : StOk g w Fr H (S.back n) := by
  unfold Sto.back
  split
  · exact s
  · exact s.drop n
/-- the frame grows by what is no data and no cell -/
theorem StOk.toFrame (s : StOk g w Fr H S) {p : Addr} {o : HO} (n : H p = none) : StOk g w (upd Fr p o) (upd H p o) S := by
  have n0 : w.H0 p = none := free_of s.h0 n
  refine ⟨fun b u e => ?_, fun b u e => ?_, fun a u e => ?_, s.lt, fun i c e => ?_, s.inj, s.lv⟩
  · rw [upd_ne (ne_of_none e n0)]; exact s.h0 _ _ e
  · by_cases hb : b = p
    · subst hb; rw [upd_same] at e ⊢; exact e
    · rw [upd_ne hb] at e ⊢; exact s.fr _ _ e
  · by_cases hb : a = p
    · subst hb; exact n0
    · rw [upd_ne hb] at e; exact s.dj _ _ e
  · obtain ⟨a, h1, h2, h3, h4⟩ := s.live i c e
    obtain ⟨u, hu⟩ := h4.there
    have ne : a ≠ p := ne_of_none hu n
    refine ⟨a, h1, h2, ?_, h4.mono (Wd.le.refl _) fun z hz => ?_⟩
    · rw [upd_ne ne]; exact h3
    · rw [upd_ne ne]; exact hz
/-- a list's cell is let go: its items are data by now -/
theorem StOk.del (s : StOk g w Fr H S) {i : Nat} {a : Addr} {xs : List D} {vs : List V} (hi : S.get i = some (.lst xs)) (ha : w.al i = some a) (hH : H a = some (.lst vs)) :
    StOk g ⟨w.al, upd w.H0 a (.lst vs)⟩ Fr H (S.del i) ∧ w.le ⟨w.al, upd w.H0 a (.lst vs)⟩ := by
  obtain ⟨b, h1, h2, h3, h4⟩ := s.live i _ hi
  rw [ha] at h1; cases h1
  have le : w.le ⟨w.al, upd w.H0 a (.lst vs)⟩ := ⟨fun _ _ h => h, fun b u e => by
    show upd w.H0 a (.lst vs) b = some u
    rw [upd_ne (ne_of_none e h2)]; exact e⟩
  have hp : ∀ (j : Nat) (c c' : Cell), (fun p : Nat × Cell => !(p.1 == i)) (j, c) = (fun p : Nat × Cell => !(p.1 == i)) (j, c') := fun _ _ _ => rfl
  have back : ∀ {j c}, (S.del i).get j = some c → S.get j = some c := fun {j c} e => lookup_filter (hp j) e
  have nei : ∀ {j c}, (S.del i).get j = some c → j ≠ i := fun {j c} e z => by
    subst z
    have : ∀ l : List (Nat × Cell), List.lookup j (l.filter fun p => !(p.1 == j)) = none := fun l => by
      induction l with
      | nil => rfl
      | cons x r ih =>
        obtain ⟨k, y⟩ := x
        by_cases hk : j = k
        · subst hk
          rw [List.filter_cons_of_neg (by simp)]; exact ih
        · rw [List.filter_cons_of_pos (by simpa using fun z => hk z.symm), List.lookup_cons]
          have ne : (j == k) = false := by simpa using hk
          rw [ne]; exact ih
    have e : List.lookup j (S.cs.filter fun p => !(p.1 == j)) = some c := e
    rw [this] at e; cases e
  refine ⟨⟨fun b u e => ?_, s.fr, fun b u e => ?_, s.lt, fun j c e => ?_, fun j k c d b e1 e2 q1 q2 => s.inj j k c d b (back e1) (back e2) q1 q2, fun j c e => s.lv j c (List.mem_filter.mp e).1⟩, le⟩
  · have e : upd w.H0 a (.lst vs) b = some u := e
    by_cases hb : b = a
    · subst hb; rw [upd_same] at e; cases e; exact hH
    · rw [upd_ne hb] at e; exact s.h0 _ _ e
  · show upd w.H0 a (.lst vs) b = none
    have ne : b ≠ a := fun z => by rw [z, h3] at e; cases e
    rw [upd_ne ne]; exact s.dj _ _ e
  · obtain ⟨b, q1, q2, q3, q4⟩ := s.live j c (back e)
    have ne : b ≠ a := fun z => nei e (s.inj j i c _ a (back e) hi (z ▸ q1) ha)
    refine ⟨b, q1, ?_, q3, q4.mono le fun _ hz => hz⟩
    show upd w.H0 a (.lst vs) b = none
    rw [upd_ne ne]; exact q2
end
end Mn
end
section
set_option Elab.async false
set_option linter.all false
set_option maxRecDepth 100000
set_option maxHeartbeats 1000000
/-! Snd1: what is wanted behind an evaluation; operators by values. -/
namespace Mn
open PySem PySem.Spec PyProof.Rows L2

/-- what is wanted behind an evaluation that gives r -/
def Post {α β : Type} (g : G) (Wx : WX) (rep : Wd → α → β → Prop) (w : Wd) (Fr : Hp) (σ : L2.St) (r : R α) (Q : β → Hp → Prop) : Prop :=
  match r with
  | .ok a S' => ∀ w' H' b, w.le w' → StOk g w' Fr H' S' → rep w' a b → Q b H'
  | .exc c S' => ∀ w' H', w.le w' → StOk g w' Fr H' S' → Wx (.ref (g.ca c)) none σ H'
  | .bad => False
section
variable {α β γ δ : Type} {g : G} {Wx : WX} {rep : Wd → α → β → Prop} {rep2 : Wd → γ → δ → Prop} {w w' : Wd} {Fr H : Hp} {S : Sto} {σ : L2.St} {r : R α} {Q : β → Hp → Prop} {Q2 : δ → Hp → Prop}
theorem Post.mono (l : w.le w') (h : Post g Wx rep w Fr σ r Q) : Post g Wx rep w' Fr σ r Q := by
  cases r with
  | ok a S' => exact fun w2 H' b l2 s q => h w2 H' b (l.trans l2) s q
  | exc c S' => exact fun w2 H' l2 s => h w2 H' (l.trans l2) s
  | bad => exact h
theorem Post.bind {f : α → Sto → R γ} (h : Post g Wx rep2 w Fr σ (r.bind f) Q2) (k : ∀ a S1 w1 H1 b, w.le w1 → StOk g w1 Fr H1 S1 → rep w1 a b → Post g Wx rep2 w1 Fr σ (f a S1) Q2 → Q b H1) : Post g Wx rep w Fr σ r Q := by
  cases r with
  | ok a S' => exact fun w2 H' b l2 s q => k a S' w2 H' b l2 s q (Post.mono l2 h)
  | exc c S' => exact h
  | bad => exact h
theorem Post.ok {a : α} {b : β} (h : Post g Wx rep w Fr σ (.ok a S) Q) (s : StOk g w Fr H S) (q : rep w a b) : Q b H := h w H b (Wd.le.refl w) s q
end

/-- the slots hold what the names hold -/
structure EnvOk (g : G) (w : Wd) (ρ : Env) (σ : L2.St) : Prop where
  len : ρ.length = σ.length
  at_ : ∀ (i : Nat) (d : D), ρ[i]? = some (some d) → ∃ v, σ[i]? = some (some v) ∧ Rg g w d v
  ex : ∀ (j : Nat) (a : Addr), g.exs = some (j, a) → σ[j]? = some (some (.ref a))
theorem EnvOk.mono {g : G} {w w' : Wd} {ρ : Env} {σ : L2.St} (e : EnvOk g w ρ σ) (l : w.le w') : EnvOk g w' ρ σ :=
  ⟨e.len, fun i d h => let ⟨v, a, b⟩ := e.at_ i d h; ⟨v, a, b.mono l⟩, e.ex⟩
theorem EnvOk.set {g : G} {w : Wd} {ρ : Env} {σ : L2.St} (e : EnvOk g w ρ σ) (i : Nat) {d : D} {v : V} (h : Rg g w d v) (hx : ∀ j a, g.exs = some (j, a) → j ≠ i) : EnvOk g w (ρ.set i (some d)) (σ.set i (some v)) := by
  refine ⟨by rw [List.length_set, List.length_set]; exact e.len, fun j d' hj => ?_, fun j a q => by rw [List.getElem?_set_ne (fun z => hx j a q z.symm)]; exact e.ex j a q⟩
  by_cases hij : i = j
  · subst hij
    have hl : i < ρ.length := by
      by_cases q : i < ρ.length
      · exact q
      · rw [List.getElem?_eq_none (by rw [List.length_set]; omega)] at hj; cases hj
    rw [List.getElem?_set_self hl] at hj; cases hj
    exact ⟨v, List.getElem?_set_self (by rw [← e.len]; exact hl), h⟩
  · rw [List.getElem?_set_ne hij] at hj ⊢
    exact e.at_ j d' hj
theorem EnvOk.wipe {g : G} {w : Wd} {ρ : Env} {σ : L2.St} (e : EnvOk g w ρ σ) : ∀ vs : List Nat, (∀ j a, g.exs = some (j, a) → j ∉ vs) → EnvOk g w (wipeD ρ vs) (L2.wipe σ vs)
  | [], _ => e
  | v :: vs, hx => by
    have ih := EnvOk.wipe e vs fun j a q m => hx j a q (List.mem_cons_of_mem _ m)
    refine ⟨by unfold wipeD L2.wipe; rw [List.length_set, List.length_set]; exact ih.len, fun j d' hj => ?_, fun j a q => by
      have hne : v ≠ j := fun z => hx j a q (List.mem_cons.mpr (.inl z.symm))
      unfold L2.wipe
      rw [List.getElem?_set_ne hne]
      exact ih.ex j a q⟩
    unfold wipeD at hj
    unfold L2.wipe
    by_cases hij : v = j
    · subst hij
      by_cases hl : v < (wipeD ρ vs).length
      · rw [List.getElem?_set_self hl] at hj; cases hj
      · rw [List.getElem?_eq_none (by rw [List.length_set]; omega)] at hj; cases hj
    · rw [List.getElem?_set_ne hij] at hj ⊢
      exact ih.at_ j d' hj

/-- no longer in an except suite -/
theorem EnvOk.out {g : G} {w : Wd} {ρ : Env} {σ : L2.St} {x : Option (Nat × Addr)} (e : EnvOk { g with exs := x } w ρ σ) (h : g.exs = none) : EnvOk g w ρ σ := ⟨e.len, e.at_, fun j a q => by rw [h] at q; cases q⟩
theorem EnvOk.clear {g : G} {w : Wd} {ρ : Env} {σ : L2.St} (e : EnvOk g w ρ σ) (i : Nat) (hx : ∀ j a, g.exs = some (j, a) → j ≠ i) (o : Option V) : EnvOk g w (ρ.set i none) (σ.set i o) := by
  refine ⟨by rw [List.length_set, List.length_set]; exact e.len, fun j d' hj => ?_, fun j a q => by rw [List.getElem?_set_ne (fun z => hx j a q z.symm)]; exact e.ex j a q⟩
  by_cases hij : i = j
  · subst hij
    by_cases hl : i < ρ.length
    · rw [List.getElem?_set_self hl] at hj; cases hj
    · rw [List.getElem?_eq_none (by rw [List.length_set]; omega)] at hj; cases hj
  · rw [List.getElem?_set_ne hij] at hj ⊢
    exact e.at_ j d' hj
abbrev RE (_ : Wd) (b b' : Bool) : Prop := b' = b
abbrev RO (_ : Wd) (b b' : Option Int) : Prop := b' = b

/-! ### readings -/
section
variable (g : G) (C : Nat → List D → Sto → R D) (Wx : WX)
/-- a state that Mini's (ρ, S) tells -/
def At (w : Wd) (Fr : Hp) (ρ : Env) (S : Sto) (σ : L2.St) (H : Hp) : Prop := StOk g w Fr H S ∧ EnvOk g w ρ σ
def tE (m : ME) : TE := fun σ H Q => ∃ w Fr ρ S, StOk g w Fr H S ∧ EnvOk g w ρ σ ∧ Post g Wx (Rg g) w Fr σ (ev C m ρ S) Q
def tT (m : ME) : TT := fun σ H Q => ∃ w Fr ρ S, StOk g w Fr H S ∧ EnvOk g w ρ σ ∧ Post g Wx RE w Fr σ (evT C m ρ S) Q
def tA (ms : List ME) : TA := fun σ H Q => ∃ w Fr ρ S, StOk g w Fr H S ∧ EnvOk g w ρ σ ∧ Post g Wx (Rgs g) w Fr σ (evs C ms ρ S) Q
def tO (m : Option ME) : TO := fun σ H Q => ∃ w Fr ρ S, StOk g w Fr H S ∧ EnvOk g w ρ σ ∧ Post g Wx RO w Fr σ (evO C m ρ S) Q
def tC' (m : Option ME) : TT := fun σ H Q => ∃ w Fr ρ S, StOk g w Fr H S ∧ EnvOk g w ρ σ ∧ Post g Wx RE w Fr σ (evC C m ρ S) Q
/-- an operation on two values -/
def r2 (f : D → D → Sto → R D) : L2.R2 := fun vx vy H Q => ∃ w Fr σ S x y, StOk g w Fr H S ∧ Rg g w x vx ∧ Rg g w y vy ∧ Post g Wx (Rg g) w Fr σ (f x y S) Q
end

/-! ### weaker readings -/
section
variable {X : Cx}
theorem PE.imp {e : Expr} {t t' : TE} (h : PE X e t) (k : ∀ σ H Q, t' σ H Q → t σ H Q) : PE X e t' := ⟨fun pins s σ H Q I q => h.run pins s σ H Q I (k σ H Q q)⟩
theorem PT.imp {e : Expr} {t t' : TT} (h : PT X e t) (k : ∀ σ H Q, t' σ H Q → t σ H Q) : PT X e t' := ⟨fun pins s σ H Q I q => h.run pins s σ H Q I (k σ H Q q)⟩
theorem PW.imp {e : Expr} {t t' : TT} (h : PW X e t) (k : ∀ σ H Q, t' σ H Q → t σ H Q) : PW X e t' := ⟨fun wh pins s σ H Q I q => h.run wh pins s σ H Q I (k σ H Q q)⟩
theorem PA.imp {es : List Expr} {t t' : TA} (h : PA X es t) (k : ∀ σ H Q, t' σ H Q → t σ H Q) : PA X es t' := ⟨fun pos pins s σ H Q I q => h.run pos pins s σ H Q I (k σ H Q q)⟩
theorem PO.imp {e : Option Expr} {t t' : TO} (h : PO X e t) (k : ∀ σ H Q, t' σ H Q → t σ H Q) : PO X e t' := ⟨fun pins s σ H Q I q => h.run pins s σ H Q I (k σ H Q q)⟩
theorem PS.imp {e : Stmt} {t t' : TS} (h : PS X e t) (k : ∀ D σ H, t' D σ H → t D σ H) : PS X e t' := ⟨fun pins s σ H D I q => h.run pins s σ H D I (k D σ H q)⟩
theorem PSs.imp {e : List Stmt} {t t' : TS} (h : PSs X e t) (k : ∀ D σ H, t' D σ H → t D σ H) : PSs X e t' := ⟨fun pins s σ H D I q => h.run pins s σ H D I (k D σ H q)⟩
theorem OpR.imp {f : Value → Value → Sem Value} {r r' : L2.R2} (h : OpR X f r) (k : ∀ x y H Q, r' x y H Q → r x y H Q) : OpR X f r' := fun pins s σ H x y v u Q I r1 r2 q => h pins s σ H x y v u Q I r1 r2 (k x y H Q q)
theorem IxR.imp {r r' : L2.R2} (h : IxR X r) (k : ∀ x y H Q, r' x y H Q → r x y H Q) : IxR X r' := fun va sl pins s σ H x y v u Q I r1 r2 q hs => h va sl pins s σ H x y v u Q I r1 r2 (k x y H Q q) hs
theorem SlR.imp {r r' : V → Option Int → Option Int → Hp → VK → Prop} (h : SlR X r) (k : ∀ x l u H Q, r' x l u H Q → r x l u H Q) : SlR X r' := fun pins s σ H x v vl vu lo hi sl Q I rx hs pl pu q => h pins s σ H x v vl vu lo hi sl Q I rx hs pl pu (k x lo hi H Q q)
theorem UnR.imp {f : Value → Sem Value} {r r' : V → Hp → VK → Prop} (h : UnR X f r) (k : ∀ x H Q, r' x H Q → r x H Q) : UnR X f r' := fun pins s σ H x v Q I rx q => h pins s σ H x v Q I rx (k x H Q q)
theorem MtR.imp {id : String} {r r' : V → List V → Hp → VK → Prop} (h : MtR X id r) (k : ∀ x xs H Q, r' x xs H Q → r x xs H Q) : MtR X id r' := fun pins s σ H x xs v us Q I rx rs q => h pins s σ H x xs v us Q I rx rs (k x xs H Q q)
theorem CallR.imp {f : Value} {r r' : List V → Hp → VK → Prop} (h : CallR X f r) (k : ∀ xs H Q, r' xs H Q → r xs H Q) : CallR X f r' := fun pins s σ H xs us Q I r1 q => h pins s σ H xs us Q I r1 (k xs H Q q)
end

/-! ### operators -/
section
variable {X : Cx} {g : G} {Wx : WX}
theorem ltN_ok {i : Int} {b : Nat} (h : ltN i b = true) : i.natAbs < b := by
  unfold ltN at h
  exact Nat.le_of_ble_eq_true h
theorem smallI_ok {i : Int} (h : smallI i = true) : -(2 ^ 64) < i ∧ i < 2 ^ 64 := by
  have := ltN_ok h
  have e : B64 = 2 ^ 64 := by decide
  rw [e] at this
  omega
theorem sizeLine_ge : 16000000 ≤ sizeLine := by rw [sizeLine_eq]; decide
theorem LIM_le : LIM ≤ sizeLine := Nat.le_trans (by decide) sizeLine_ge
theorem mkS_len (x : List Nat) : (mkS x).length = x.length := by simp [mkS, Str.length]
theorem mkS_app (x y : List Nat) : mkS x ++ mkS y = mkS (x ++ y) := by
  apply Str.ext'
  show x.toArray ++ y.toArray = (x ++ y).toArray
  simp
theorem rep_str {w : Wd} {x : List Nat} (h1 : x.all (· < 0x110000) = true) (h2 : x.length ≤ sizeLine) : Rg g w (.str x) (.str (mkS x)) := .str x h1 h2
theorem all_app {p : Nat → Bool} {x y : List Nat} (h1 : x.all p = true) (h2 : y.all p = true) : (x ++ y).all p = true := by rw [List.all_append, h1, h2]; rfl
theorem all_sub {p : Nat → Bool} {x y : List Nat} (h1 : x.all p = true) (h2 : ∀ c ∈ y, c ∈ x) : y.all p = true := by
  rw [List.all_eq_true] at h1 ⊢
  exact fun c hc => h1 c (h2 c hc)

theorem ok_add (hK : X.K = g.K) : OpR X (binaryOp .Add) (r2 g Wx fun x y S => ofOpt S (binV .add x y)) := by
  refine OpR.imp (op_add.or (op_add_str.or (op_cat.or op_catA))) fun vx vy H Q h => ?_
  obtain ⟨w, Fr, σ, S, x, y, hs, hx, hy, hp⟩ := h
  cases hx <;> cases hy <;> first
    | exact False.elim hp
    | (refine .inl ⟨_, _, rfl, rfl, ?_⟩; exact hp.ok hs (.int _))
    | (rename_i x1 x2 x3 y1 y2 y3
       refine .inr (.inl ⟨_, _, rfl, rfl, ?_, ?_⟩)
       all_goals (
         simp only [binV] at hp
         split at hp
         · rename_i hl
           have hz : (x1 ++ y1).length ≤ sizeLine := by rw [List.length_append]; exact Nat.le_trans hl LIM_le
           first
             | (rw [mkS_len, mkS_len]; exact Nat.le_trans hl LIM_le)
             | (rw [mkS_app]; exact hp.ok hs (rep_str (all_app x2 y2) hz))
         · exact False.elim hp))
    | (rename_i h1 h2 _ _ _ h3 h4
       simp only [binV] at hp
       split at hp
       · rename_i hl
         first
           | (refine .inr (.inr (.inl ⟨_, _, _, _, rfl, rfl, hs.h0 _ _ h1, hs.h0 _ _ h3, ?_, fun p np => ?_⟩))
              · rw [← h2.length, ← h4.length]; exact Nat.le_trans hl LIM_le
              · obtain ⟨s2, le⟩ := hs.data (o := .lst _) np
                exact hp _ _ _ le s2 (.lst upd_same (Reps.append (h2.mono le) (h4.mono le))))
           | (refine .inr (.inr (.inr ⟨_, _, _, _, rfl, rfl, by rw [hK]; exact sqT_same hs.h0 h1, by rw [hK]; exact sqT_same hs.h0 h3, ?_, fun e1 => ?_, fun _ e2 => ?_, fun _ _ p np => ?_⟩))
              · rw [← h2.length, ← h4.length]; exact Nat.le_trans hl LIM_le
              · subst e1
                cases h2
                exact hp.ok hs (.tup h3 h4)
              · subst e2
                cases h4
                rw [List.append_nil] at hp
                exact hp.ok hs (.tup h1 h2)
              · obtain ⟨s2, le⟩ := hs.data (o := .tup _) np
                exact hp _ _ _ le s2 (.tup (.of upd_same) (Reps.append (h2.mono le) (h4.mono le))))
       · exact False.elim hp)
theorem ok_sub : OpR X (binaryOp .Sub) (r2 g Wx fun x y S => ofOpt S (binV .sub x y)) := by
  refine OpR.imp op_sub fun vx vy H Q h => ?_
  obtain ⟨w, Fr, σ, S, x, y, hs, hx, hy, hp⟩ := h
  cases hx <;> cases hy <;> first
    | exact False.elim hp
    | (refine ⟨_, _, rfl, rfl, ?_⟩; exact hp.ok hs (.int _))
theorem ok_mod : OpR X (binaryOp .Mod) (r2 g Wx fun x y S => ofOpt S (binV .mod x y)) := by
  refine OpR.imp op_mod fun vx vy H Q h => ?_
  obtain ⟨w, Fr, σ, S, x, y, hs, hx, hy, hp⟩ := h
  cases hx <;> cases hy <;> first
    | exact False.elim hp
    | (simp only [binV] at hp
       split at hp
       · rename_i hl
         exact ⟨_, _, rfl, rfl, hl, hp.ok hs (.int _)⟩
       · exact False.elim hp)
theorem ok_fdiv : OpR X (binaryOp .FloorDiv) (r2 g Wx fun x y S => ofOpt S (binV .fdiv x y)) := by
  refine OpR.imp op_fdivW fun vx vy H Q h => ?_
  obtain ⟨w, Fr, σ, S, x, y, hs, hx, hy, hp⟩ := h
  cases hx <;> cases hy <;> first
    | exact False.elim hp
    | (simp only [binV] at hp
       split at hp
       · rename_i hl
         exact ⟨_, _, rfl, rfl, wide_div (b := 200) hl.1 (ltN_ok hl.2) (by decide) (by decide), hp.ok hs (.int _)⟩
       · exact False.elim hp)
theorem ok_pow : OpR X (binaryOp .Pow) (r2 g Wx fun x y S => ofOpt S (binV .pow x y)) := by
  refine OpR.imp op_pow fun vx vy H Q h => ?_
  obtain ⟨w, Fr, σ, S, x, y, hs, hx, hy, hp⟩ := h
  cases hx <;> cases hy <;> first
    | exact False.elim hp
    | (simp only [binV] at hp
       split at hp
       · rename_i hl
         exact ⟨_, _, rfl, rfl, ⟨hl.1, by omega, by omega⟩, hp.ok hs (.int _)⟩
       · exact False.elim hp)
/-- a text, so many times -/
theorem op_mul_str : OpR X (binaryOp .Mult) (fun vx vy H Q => ∃ x n, vx = .str (mkS x) ∧ vy = .int n ∧ x.length ≤ 1000 ∧ n ≤ 1000 ∧ -(2 ^ 62) < n ∧ Q (.str (mkS (List.replicate n.toNat x).flatten)) H) := by
  intro pins s σ H vx vy v u Q I q1 q2 h
  obtain ⟨x, n, rfl, rfl, hl, hn, hlo, q⟩ := h
  obtain ⟨t, rfl⟩ := q1
  obtain ⟨t', rfl⟩ := q2
  have fold : ∀ (k : Nat) (a : Array Nat), (List.replicate k x.toArray).foldl (· ++ ·) a = a ++ (List.replicate k x).flatten.toArray := by
    intro k
    induction k with
    | zero => intro a; simp
    | succ k ih => intro a; rw [List.replicate_succ, List.foldl_cons, ih, List.replicate_succ, List.flatten_cons]; simp
  have e1 : ∀ s' : Shared, (∃ tk, s' = { s with toks := tk }) → ∀ z : Str, z = mkS (List.replicate n.toNat x).flatten → ∀ tk, EP X pins σ Q (.str z tk) s' := fun s' ⟨tk', e⟩ z ez tk => by
    subst e ez
    exact ⟨.str _, H, I.tok tk', ⟨tk, rfl⟩, q⟩
  refine PySem.P.mul_str ?_ (fun h1 h2 => ?_) (fun h1 h2 => ?_) ?_
  · have h1 : ¬ n < -(2 ^ 63 : Int) := by omega
    have h2 : ¬ n ≥ 2 ^ 63 := by omega
    rw [decide_eq_false h1, decide_eq_false h2]; rfl
  · rw [mkS_len]
    intro hgt
    have h3 : ((2 : Int) ^ 63 - 1) / n ≥ (2 ^ 63 - 1) / 1000 := by
      have e := Int.ediv_mul_le (2 ^ 63 - 1) (b := 1000) (by decide)
      refine (Int.le_ediv_iff_mul_le (by omega)).mpr ?_
      refine Int.le_trans (Int.mul_le_mul_of_nonneg_left hn (by decide)) e
    have h4 : ((2 : Int) ^ 63 - 1) / 1000 = 9223372036854775 := by decide
    omega
  · unfold Builtin.Str.tooLong
    rw [mkS_len]
    have : x.length * n.toNat ≤ 1000 * 1000 := Nat.mul_le_mul hl (by omega)
    have h5 := sizeLine_ge
    simp only [decide_eq_false_iff_not, gt_iff_lt, Nat.not_lt]
    omega
  · have tok : ∀ z : Str, z.length ≤ sizeLine → z = mkS (List.replicate n.toNat x).flatten → (Made.str z).post (EP X pins σ Q) s := fun z hz ez => by
      exact ⟨hz, e1 _ ⟨_, rfl⟩ z ez _⟩
    have hbig : (List.replicate n.toNat x).flatten.length ≤ sizeLine := by
      rw [List.length_flatten, List.map_replicate, List.sum_replicate_nat]
      have : n.toNat * x.length ≤ 1000 * 1000 := Nat.mul_le_mul (by omega) hl
      have h5 := sizeLine_ge
      omega
    by_cases h1 : n < 1
    · rw [if_pos h1]
      refine tok _ (Nat.zero_le _) ?_
      have : n.toNat = 0 := by omega
      rw [this]; rfl
    · rw [if_neg h1]
      by_cases h2 : (n == 1 || (mkS x).length == 0) = true
      · rw [if_pos h2]
        show EP X pins σ Q _ _
        refine e1 _ ⟨_, rfl⟩ _ ?_ _
        simp only [Bool.or_eq_true, beq_iff_eq, mkS_len] at h2
        rcases h2 with h2 | h2
        · subst h2; simp
        · have : x = [] := List.length_eq_zero_iff.mp h2
          subst this
          simp
      · rw [if_neg h2]
        have e : (⟨(List.replicate n.toNat (mkS x).cps).foldl (· ++ ·) #[]⟩ : Str) = mkS (List.replicate n.toNat x).flatten := by
          apply Str.ext'
          show (List.replicate n.toNat x.toArray).foldl (· ++ ·) #[] = _
          rw [fold]; simp [mkS]
        rw [e]
        exact tok _ (by rw [mkS_len]; exact hbig) rfl
theorem ok_mul : OpR X (binaryOp .Mult) (r2 g Wx fun x y S => ofOpt S (binV .mul x y)) := by
  refine OpR.imp (op_mul.or (op_mul_str.or op_rep)) fun vx vy H Q h => ?_
  obtain ⟨w, Fr, σ, S, x, y, hs, hx, hy, hp⟩ := h
  cases hx <;> cases hy <;> first
    | exact False.elim hp
    | (rename_i i j
       simp only [binV] at hp
       split at hp
       · rename_i hl
         refine .inl ⟨_, _, rfl, rfl, ?_, hp.ok hs (.int _)⟩
         rw [Bool.or_eq_true] at hl
         exact hl.elim (fun z => .inl (smallI_ok z)) fun z => .inr (smallI_ok z)
       · exact False.elim hp)
    | (rename_i x1 x2 x3 n
       simp only [binV] at hp
       split at hp
       · rename_i hl
         have hn := ltN_ok hl.2
         refine .inr (.inl ⟨_, _, rfl, rfl, hl.1, by omega, by omega, hp.ok hs (rep_str (all_sub x2 fun c hc => ?_) ?_)⟩)
         · obtain ⟨l, h1, h2⟩ := List.mem_flatten.mp hc
           rw [List.eq_of_mem_replicate h1] at h2
           exact h2
         · rw [List.length_flatten, List.map_replicate, List.sum_replicate_nat]
           have : n.toNat * x1.length ≤ 1000 * 1000 := Nat.mul_le_mul (by omega) hl.1
           have h5 := sizeLine_ge
           omega
       · exact False.elim hp)
    | (rename_i h1 h2 n
       simp only [binV] at hp
       split at hp
       · rename_i hl
         have hn := ltN_ok hl.2
         refine .inr (.inr ⟨_, _, _, rfl, rfl, hs.h0 _ _ h1, by omega, by omega, ?_, fun p np => ?_⟩)
         · rw [← h2.length]
           refine Nat.le_trans (Nat.mul_le_mul hl.1 (show n.toNat ≤ 1000 by omega)) ?_
           exact Nat.le_trans (by decide) sizeLine_ge
         · obtain ⟨s2, le⟩ := hs.data (o := .lst _) np
           exact hp _ _ _ le s2 (.lst upd_same (Reps.flatten _ (h2.mono le)))
       · exact False.elim hp)
end
end Mn
end
section
set_option Elab.async false
set_option linter.all false
set_option maxRecDepth 100000
set_option maxHeartbeats 1000000
/-! Snd2: comparisons by values. -/
namespace Mn
open PySem PySem.Spec PyProof.Rows L2

mutual
def toPy : D → PyData
  | .non => .none
  | .bl b => .bool b
  | .int i => .int i
  | .str x => .str (mkS x)
  | .lst xs => .list (toPys xs)
  | .tup xs => .tuple (toPys xs)
  | .own _ => .none
  | .fn _ => .none
  | .frz _ => .none
  | .dx _ _ => .none
  | .obj _ _ => .none
  | .any => .none
def toPys : List D → List PyData
  | [] => []
  | d :: r => toPy d :: toPys r
end
theorem mkS_inj {x y : List Nat} : (mkS x == mkS y) = (x == y) := by
  by_cases h : x = y
  · subst h; simp
  · have h2 : mkS x ≠ mkS y := fun e => h (by
      have := congrArg (fun s : Str => s.cps.toList) e
      simpa [mkS] using this)
    rw [beq_eq_false_iff_ne.mpr h, beq_eq_false_iff_ne.mpr h2]
mutual
theorem eqv_toPy : ∀ (n : Nat) (a b : D), a.flat n = true → b.flat n = true → PyData.eqv (toPy a) (toPy b) = eqD a b
  | n, .non, b, _, h => by cases b <;> first | rfl | (cases n <;> exact absurd h (by simp [D.flat]))
  | n, .bl _, b, _, h => by cases b <;> first | rfl | (cases n <;> exact absurd h (by simp [D.flat]))
  | n, .int _, b, _, h => by cases b <;> first | rfl | (cases n <;> exact absurd h (by simp [D.flat]))
  | n, .str x, b, _, h => by cases b <;> first | rfl | (rename_i y; exact mkS_inj) | (cases n <;> exact absurd h (by simp [D.flat]))
  | 0, .lst _, _, h, _ => absurd h (by simp [D.flat])
  | 0, .tup _, _, h, _ => absurd h (by simp [D.flat])
  | n + 1, .lst xs, b, h, h2 => by
    cases b <;> first
      | rfl
      | (rename_i ys; exact eqv_toPys n xs ys h h2)
      | exact absurd h2 (by simp [D.flat])
  | n + 1, .tup xs, b, h, h2 => by
    cases b <;> first
      | rfl
      | (rename_i ys; exact eqv_toPys n xs ys h h2)
      | exact absurd h2 (by simp [D.flat])
  | n, .own _, _, h, _ => by cases n <;> exact absurd h (by simp [D.flat])
  | n, .fn _, _, h, _ => by cases n <;> exact absurd h (by simp [D.flat])
  | n, .frz _, _, h, _ => by cases n <;> exact absurd h (by simp [D.flat])
  | n, .dx _ _, _, h, _ => by cases n <;> exact absurd h (by simp [D.flat])
  | n, .obj _ _, _, h, _ => by cases n <;> exact absurd h (by simp [D.flat])
  | n, .any, _, h, _ => by cases n <;> exact absurd h (by simp [D.flat])
theorem eqv_toPys : ∀ (n : Nat) (a b : List D), D.flats n a = true → D.flats n b = true → PyData.eqvAll (toPys a) (toPys b) = eqDs a b
  | _, [], [], _, _ => rfl
  | _, [], _ :: _, _, _ => rfl
  | _, _ :: _, [], _, _ => rfl
  | n, x :: xs, y :: ys, h, h2 => by
    simp only [D.flats, Bool.and_eq_true] at h h2
    show (PyData.eqv (toPy x) (toPy y) && PyData.eqvAll (toPys xs) (toPys ys)) = (eqD x y && eqDs xs ys)
    rw [eqv_toPy n x y h.1 h2.1, eqv_toPys n xs ys h.2 h2.2]
end
section
variable {K : PySem.W.Frag} {fa : Nat → Addr} {w : Wd} {H : Hp}
mutual
theorem dp_of (e : Same w.H0 H) : ∀ (n : Nat) (d : D) (v : V), d.flat n = true → Rep K fa w d v → Dp K H v (toPy d) ∧ (toPy d).canLay0 = true ∧ (toPy d).depth ≤ n
  | n, .non, _, _, .non => ⟨.non, rfl, Nat.zero_le _⟩
  | n, .bl _, _, _, .bl _ => ⟨.bl _, rfl, Nat.zero_le _⟩
  | n, .int _, _, _, .int _ => ⟨.int _, rfl, Nat.zero_le _⟩
  | n, .str x, _, _, .str _ h1 _ => ⟨.str _, by
      show PyData.canLay0 (.str (mkS x)) = true
      simp only [PyData.canLay0, PyData.strOk, mkS]
      simpa using h1, Nat.zero_le _⟩
  | 0, .lst _, _, h, _ => absurd h (by simp [D.flat])
  | 0, .tup _, _, h, _ => absurd h (by simp [D.flat])
  | n + 1, .lst xs, _, h, .lst ha r => by
    obtain ⟨h1, h2, h3⟩ := dps_of e n xs _ h r
    exact ⟨.lst (.of (e _ _ ha)) h1, h2, Nat.succ_le_succ h3⟩
  | n + 1, .tup xs, _, h, .tup ha r => by
    obtain ⟨h1, h2, h3⟩ := dps_of e n xs _ h r
    exact ⟨.tup (sqT_same e ha) h1, h2, Nat.succ_le_succ h3⟩
  | n, .own _, _, h, _ => by cases n <;> exact absurd h (by simp [D.flat])
  | n, .fn _, _, h, _ => by cases n <;> exact absurd h (by simp [D.flat])
  | n, .frz _, _, h, _ => by cases n <;> exact absurd h (by simp [D.flat])
  | n, .dx _ _, _, h, _ => by cases n <;> exact absurd h (by simp [D.flat])
  | n, .obj _ _, _, h, _ => by cases n <;> exact absurd h (by simp [D.flat])
  | n, .any, _, h, _ => by cases n <;> exact absurd h (by simp [D.flat])
theorem dps_of (e : Same w.H0 H) : ∀ (n : Nat) (ds : List D) (vs : List V), D.flats n ds = true → Reps K fa w ds vs → DpAll K H vs (toPys ds) ∧ PyData.canLayAll0 (toPys ds) = true ∧ PyData.depthAll (toPys ds) ≤ n
  | _, [], _, _, .nil => ⟨.nil, rfl, Nat.zero_le _⟩
  | n, d :: ds, _, h, .cons q r => by
    simp only [D.flats, Bool.and_eq_true] at h
    obtain ⟨a1, a2, a3⟩ := dp_of e n d _ h.1 q
    obtain ⟨b1, b2, b3⟩ := dps_of e n ds _ h.2 r
    refine ⟨.cons a1 b1, ?_, ?_⟩
    · show (PyData.canLay0 (toPy d) && PyData.canLayAll0 (toPys ds)) = true
      rw [a2, b2]; rfl
    · show max (toPy d).depth (PyData.depthAll (toPys ds)) ≤ n
      exact Nat.max_le.mpr ⟨a3, b3⟩
end
end
theorem deref_dp {g : G} {w : Wd} {Fr H : Hp} {S : Sto} {d x : D} {v : V} (hs : StOk g w Fr H S) (h : Rg g w d v) (e : deref S d = some x) (f : x.flat 8 = true) : Dp g.K H v (toPy x) ∧ SeqAt.shaped (toPy x) = true := by
  have fin : ∀ {v : V}, Dp g.K H v (toPy x) → (toPy x).canLay0 = true → (toPy x).depth ≤ 8 → Dp g.K H v (toPy x) ∧ SeqAt.shaped (toPy x) = true := fun {v} h1 h2 h3 => by
    refine ⟨h1, ?_⟩
    unfold SeqAt.shaped
    rw [h2, decide_eq_true (show (toPy x).depth ≤ 64 by omega)]; rfl
  have gen : deref S d = some d → x = d → Dp g.K H v (toPy x) ∧ SeqAt.shaped (toPy x) = true := fun _ ex => by
    subst ex
    obtain ⟨h1, h2, h3⟩ := dp_of hs.h0 8 x v f h
    exact fin h1 h2 h3
  cases h with
  | @own i a ha =>
    simp only [deref] at e
    split at e
    · rename_i xs hg
      cases e
      obtain ⟨b, h1, h2, h3, vs, h4, h5⟩ := hs.live i _ hg
      rw [ha] at h1; cases h1
      obtain ⟨a1, a2, a3⟩ := dps_of hs.h0 7 xs vs f h5
      exact fin (.lst (.of h4) a1) a2 (Nat.succ_le_succ a3)
    · cases e
  | non => exact gen rfl (Option.some.inj e).symm
  | bl _ => exact gen rfl (Option.some.inj e).symm
  | int _ => exact gen rfl (Option.some.inj e).symm
  | str _ _ _ => exact gen rfl (Option.some.inj e).symm
  | lst _ _ => exact gen rfl (Option.some.inj e).symm
  | tup _ _ => exact gen rfl (Option.some.inj e).symm
  | frz _ _ => exact gen rfl (Option.some.inj e).symm
  | dx _ _ => exact gen rfl (Option.some.inj e).symm
  | obj _ _ => exact gen rfl (Option.some.inj e).symm
  | any _ => exact gen rfl (Option.some.inj e).symm
  | fn _ => exact gen rfl (Option.some.inj e).symm

abbrev fC (op : COp) : D → D → Sto → R D := fun x y S => ofOpt S ((cmpV S op x y).map .bl)
section
variable {X : Cx} {g : G} {Wx : WX}
theorem eqO_some {S : Sto} {x y : D} {b : Bool} (h : eqO S x y = some b) : ∃ x' y', deref S x = some x' ∧ deref S y = some y' ∧ x'.flat 8 = true ∧ y'.flat 8 = true ∧ eqD x' y' = b := by
  unfold eqO at h
  split at h
  · rename_i x' y' e1 e2
    split at h
    · rename_i hf
      rw [Bool.and_eq_true] at hf
      exact ⟨x', y', e1, e2, hf.1, hf.2, Option.some.inj h⟩
    · cases h
  · cases h
theorem post_opt {α β : Type} {rep : Wd → α → β → Prop} {w : Wd} {Fr : Hp} {σ : L2.St} {S : Sto} {o : Option α} {Q : β → Hp → Prop} (h : Post g Wx rep w Fr σ (ofOpt S o) Q) : ∃ a, o = some a ∧ Post g Wx rep w Fr σ (.ok a S) Q := by
  cases o with
  | none => exact False.elim h
  | some a => exact ⟨a, rfl, h⟩
theorem map_some {α β : Type} {f : α → β} {o : Option α} {b : β} (h : o.map f = some b) : ∃ a, o = some a ∧ f a = b := by
  cases o with
  | none => cases h
  | some a => exact ⟨a, rfl, Option.some.inj h⟩
theorem ok_eq (hK : X.K = g.K) (hu : X.A.units + 64 < cLine) : OpR X (compareOp .Eq) (r2 g Wx (fC .eq)) := by
  refine OpR.imp (op_eqD hu) fun vx vy H Q h => ?_
  obtain ⟨w, Fr, σ, S, x, y, hs, hx, hy, hp⟩ := h
  obtain ⟨d, q1, hp⟩ := post_opt hp
  obtain ⟨b, q2, rfl⟩ := map_some q1
  obtain ⟨x', y', e1, e2, f1, f2, rfl⟩ := eqO_some q2
  obtain ⟨a1, a2⟩ := deref_dp hs hx e1 f1
  obtain ⟨b1, b2⟩ := deref_dp hs hy e2 f2
  rw [← hK] at a1 b1
  refine ⟨_, _, a1, b1, a2, b2, ?_⟩
  rw [eqv_toPy 8 x' y' f1 f2]
  exact hp.ok hs (.bl _)
theorem ok_ne (hK : X.K = g.K) (hu : X.A.units + 64 < cLine) : OpR X (compareOp .NotEq) (r2 g Wx (fC .ne)) := by
  refine OpR.imp (op_neD hu) fun vx vy H Q h => ?_
  obtain ⟨w, Fr, σ, S, x, y, hs, hx, hy, hp⟩ := h
  obtain ⟨d, q1, hp⟩ := post_opt hp
  obtain ⟨b, q2, rfl⟩ := map_some q1
  obtain ⟨b, q3, rfl⟩ := map_some q2
  obtain ⟨x', y', e1, e2, f1, f2, rfl⟩ := eqO_some q3
  obtain ⟨a1, a2⟩ := deref_dp hs hx e1 f1
  obtain ⟨b1, b2⟩ := deref_dp hs hy e2 f2
  rw [← hK] at a1 b1
  refine ⟨_, _, a1, b1, a2, b2, ?_⟩
  rw [eqv_toPy 8 x' y' f1 f2]
  exact hp.ok hs (.bl _)
theorem ok_ii {f : Value → Value → Sem Value} {p : Int → Int → Bool} (h : OpR X f (rI0 fun i j => .bl (p i j))) : OpR X f (r2 g Wx fun x y S => ofOpt S ((ii p x y).map .bl)) := by
  refine OpR.imp h fun vx vy H Q h => ?_
  obtain ⟨w, Fr, σ, S, x, y, hs, hx, hy, hp⟩ := h
  cases hx <;> cases hy <;> first
    | exact False.elim hp
    | (refine ⟨_, _, rfl, rfl, ?_⟩; exact hp.ok hs (.bl _))
theorem ok_le : OpR X (compareOp .LtE) (r2 g Wx (fC .le)) := ok_ii op_le
theorem ok_gt : OpR X (compareOp .Gt) (r2 g Wx (fC .gt)) := ok_ii op_gt
theorem ok_ge : OpR X (compareOp .GtE) (r2 g Wx (fC .ge)) := ok_ii op_ge
theorem ltX_eq : ∀ x y : List Nat, ltX x y = decide (x < y)
  | [], [] => by simp [ltX, lexB]
  | [], b :: y => by simp [ltX, lexB]
  | a :: x, [] => by simp [ltX, lexB]
  | a :: x, b :: y => by
    have ih := ltX_eq x y
    unfold ltX at ih ⊢
    unfold lexB
    by_cases h : a = b
    · subst h
      rw [if_pos rfl, ih]
      simp [List.cons_lt_cons_iff]
    · rw [if_neg h]
      simp [List.cons_lt_cons_iff, h]
theorem ltI_eq : ∀ x y : List Int, ltI x y = HT.lexLt x y
  | [], [] => rfl
  | [], b :: y => rfl
  | a :: x, [] => rfl
  | a :: x, b :: y => by
    unfold ltI
    rw [HT.lexLt_cons, ltI_eq x y]
theorem intsOf_rep {K : PySem.W.Frag} {fa : Nat → Addr} {w : Wd} : ∀ {ds : List D} {vs : List V} {ns : List Int}, Reps K fa w ds vs → intsOf ds = some ns → vs = ns.map V.int
  | _, _, _, .nil, e => by cases e; rfl
  | _, _, _, .cons h r, e => by
    cases h <;> first
      | (simp only [intsOf] at e
         obtain ⟨m, e1, e2⟩ := map_some e
         subst e2
         rw [intsOf_rep r e1]; rfl)
      | cases e
theorem strsOf_rep {K : PySem.W.Frag} {fa : Nat → Addr} {w : Wd} : ∀ {ds : List D} {vs : List V} {ns : List (List Nat)}, Reps K fa w ds vs → strsOf ds = some ns → vs = (ns.map mkS).map V.str ∧ ∀ n ∈ ns, n.all (· < 0x110000) = true ∧ n.length ≤ sizeLine
  | _, _, _, .nil, e => by cases e; exact ⟨rfl, fun _ h => nomatch h⟩
  | _, _, _, .cons h r, e => by
    cases h <;> first
      | (simp only [strsOf] at e
         obtain ⟨m, e1, e2⟩ := map_some e
         subst e2
         obtain ⟨q1, q2⟩ := strsOf_rep r e1
         rw [q1]
         refine ⟨rfl, fun n hn => ?_⟩
         rcases List.mem_cons.mp hn with rfl | hn
         · exact ⟨by assumption, by assumption⟩
         · exact q2 n hn)
      | cases e
theorem blsOf_rep {K : PySem.W.Frag} {fa : Nat → Addr} {w : Wd} : ∀ {ds : List D} {vs : List V} {ns : List Bool}, Reps K fa w ds vs → blsOf ds = some ns → vs = ns.map V.bl
  | _, _, _, .nil, e => by cases e; rfl
  | _, _, _, .cons h r, e => by
    cases h <;> first
      | (simp only [blsOf] at e
         obtain ⟨m, e1, e2⟩ := map_some e
         subst e2
         rw [blsOf_rep r e1]; rfl)
      | cases e
theorem ok_lt (hK : X.K = g.K) (hu : X.A.units + 64 < cLine) : OpR X (compareOp .Lt) (r2 g Wx (fC .lt)) := by
  refine OpR.imp (op_lt.or (op_lt_str.or (op_ltT (by omega)))) fun vx vy H Q h => ?_
  obtain ⟨w, Fr, σ, S, x, y, hs, hx, hy, hp⟩ := h
  obtain ⟨d, q1, hp⟩ := post_opt hp
  obtain ⟨b, q2, rfl⟩ := map_some q1
  have e : ltV x y = some b := q2
  clear q1 q2
  cases hx <;> cases hy <;> first
    | (cases e; done)
    | (cases e; refine .inl ⟨_, _, rfl, rfl, hp.ok hs (.bl _)⟩)
    | (rename_i x _ _ y _ _
       have e := Option.some.inj e
       subst e
       refine .inr (.inl ⟨_, _, rfl, rfl, ?_⟩)
       show Q (.bl (decide (x < y))) H
       rw [← ltX_eq]
       exact hp.ok hs (.bl _))
    | (rename_i xs a1 v1 h1 h2 ys a2 v2 h3 h4
       simp only [ltV] at e
       split at e
       · rename_i a b e1 e2
         have e := Option.some.inj e
         subst e
         rw [intsOf_rep h2 e1] at h1
         rw [intsOf_rep h4 e2] at h3
         refine .inr (.inr ⟨_, _, a, b, rfl, rfl, ?_, ?_, ?_⟩)
         · rw [hK]; exact sqT_same hs.h0 h1
         · rw [hK]; exact sqT_same hs.h0 h3
         · rw [← ltI_eq]
           exact hp.ok hs (.bl _)
       · cases e)
theorem scalar_rep {K : PySem.W.Frag} {fa : Nat → Addr} {w : Wd} {d : D} {v : V} (h : Rep K fa w d v) (s : scalarD d = true) : flatV v = true := by
  cases h <;> first | rfl | cases s
theorem scalars_rep {K : PySem.W.Frag} {fa : Nat → Addr} {w : Wd} : ∀ {ds : List D} {vs : List V}, Reps K fa w ds vs → ds.all scalarD = true → vs.all flatV = true
  | _, _, .nil, _ => rfl
  | _, _, .cons h r, s => by
    rw [List.all_cons, Bool.and_eq_true] at s ⊢
    exact ⟨scalar_rep h s.1, scalars_rep r s.2⟩
theorem eq_rep {K : PySem.W.Frag} {fa : Nat → Addr} {w : Wd} {d e : D} {v u : V} (h : Rep K fa w d v) (h2 : Rep K fa w e u) (s : scalarD d = true) (s2 : scalarD e = true) : eqV v u = eqD d e := by
  cases h <;> first
    | (cases h2 <;> first
        | rfl
        | exact mkS_inj
        | cases s2)
    | cases s
theorem any_rep {K : PySem.W.Frag} {fa : Nat → Addr} {w : Wd} {d : D} {v : V} (h : Rep K fa w d v) (s : scalarD d = true) : ∀ {ds : List D} {vs : List V}, Reps K fa w ds vs → ds.all scalarD = true → L2.inV v vs = ds.any fun y => eqD y d
  | _, _, .nil, _ => rfl
  | _, _, .cons q r, s2 => by
    rw [List.all_cons, Bool.and_eq_true] at s2
    unfold L2.inV
    rw [List.any_cons, List.any_cons, eq_rep q h s2.1 s]
    exact congrArg _ (any_rep h s r s2.2)
end
end Mn
end
section
set_option Elab.async false
set_option linter.all false
set_option maxRecDepth 100000
set_option maxHeartbeats 1000000
/-! Snd3: in, subscripts, slices, built-in calls and methods, by values. -/
namespace Mn
open PySem PySem.Spec PyProof.Rows L2

theorem krep_lookup {K : PySem.W.Frag} {fa : Nat → Addr} {w : Wd} {k : Int} : ∀ {kvs : List (Int × D)} {vs : List (Key × V)}, KReps K fa w kvs vs →
    (match kvs.lookup k with | some d => ∃ v, valV vs (Sum.inl k : Key) = some v ∧ Rep K fa w d v | none => valV vs (Sum.inl k : Key) = none)
  | _, _, .nil => rfl
  | (j, d) :: r, (q, v) :: vs, .cons h t => by
    obtain ⟨e, hr⟩ := h
    have e : q = Sum.inl j := e
    subst e
    rw [List.lookup_cons]
    by_cases hk : k = j
    · subst hk
      rw [beq_self_eq_true]
      exact ⟨v, valV_pos rfl, hr⟩
    · have ne : (k == j) = false := by simpa using hk
      rw [ne, valV_neg (p := ((Sum.inl j : Key), v)) (fun z => hk (Sum.inl.inj z).symm)]
      exact krep_lookup t
theorem lookup_any {k : Int} : ∀ kvs : List (Int × D), (kvs.any fun p => p.1 == k) = (kvs.lookup k).isSome
  | [] => rfl
  | (j, d) :: r => by
    rw [List.any_cons, List.lookup_cons, lookup_any r]
    by_cases hk : k = j
    · subst hk; simp
    · have n1 : (k == j) = false := by simpa using hk
      have n2 : (j == k) = false := by simpa using fun z => hk z.symm
      rw [n1, n2]; rfl
theorem krep_len {K : PySem.W.Frag} {fa : Nat → Addr} {w : Wd} {kvs : List (Int × D)} {vs : List (Key × V)} (h : KReps K fa w kvs vs) : kvs.length = vs.length := Paired.length h

section
variable {X : Cx} {g : G} {Wx : WX}
theorem op_in_dict (hu : X.A.units + 64 < cLine) : OpR X (compareOp .In) (fun x y H Q => ∃ a o, y = .ref a ∧ DGet H a x o ∧ Q (.bl o.isSome) H) := by
  intro pins s σ H x y v u Q I rx ry h
  obtain ⟨a, o, rfl, gg, q⟩ := h
  cases ry
  exact d_in (by omega) I gg rx fun s' I' => ⟨.bl _, H, I', rfl, q⟩
theorem op_notIn_dict (hu : X.A.units + 64 < cLine) : OpR X (compareOp .NotIn) (fun x y H Q => ∃ a o, y = .ref a ∧ DGet H a x o ∧ Q (.bl (!o.isSome)) H) := by
  intro pins s σ H x y v u Q I rx ry h
  obtain ⟨a, o, rfl, gg, q⟩ := h
  cases ry
  exact d_notIn (by omega) I gg rx fun s' I' => ⟨.bl _, H, I', rfl, q⟩
theorem inV_cases {w : Wd} {Fr H : Hp} {S : Sto} {x y : D} {vx vy : V} {b : Bool} (hs : StOk g w Fr H S) (hx : Rg g w x vx) (hy : Rg g w y vy) (e : inV S x y = some b) :
    (∃ (c : Nat) (z : Str), vx = .str ⟨#[c]⟩ ∧ vy = .str z ∧ decide (c ∈ z.cps.toList) = b) ∨
    (∃ p xs, vy = .ref p ∧ (SqL g.K H p xs ∨ SqT g.K H p xs) ∧ flatV vx = true ∧ xs.all flatV = true ∧ L2.inV vx xs = b) ∨
    (∃ a o, vy = .ref a ∧ DGet H a vx o ∧ o.isSome = b) ∨
    (∃ d ds, Dp g.K H vx d ∧ Dp g.K H vy (.list ds) ∧ SeqAt.shaped d = true ∧ SeqAt.shaped (.list ds) = true ∧ (ds.any fun z => PyData.eqv z d) = b) := by
  unfold inV at e
  split at e
  · rename_i c y
    cases hx
    cases hy
    exact .inl ⟨c, mkS y, rfl, rfl, Option.some.inj e⟩
  · rename_i ys _
    split at e
    · rename_i hf
      rw [Bool.and_eq_true] at hf
      cases hy with
      | tup h r =>
        refine .inr (.inl ⟨_, _, rfl, .inr (sqT_same hs.h0 h), scalar_rep hx hf.1, scalars_rep r hf.2, ?_⟩)
        rw [any_rep hx hf.1 r hf.2]
        exact Option.some.inj e
    · cases e
  · rename_i ys _
    split at e
    · rename_i hf
      rw [Bool.and_eq_true] at hf
      cases hy with
      | lst h r =>
        refine .inr (.inl ⟨_, _, rfl, .inl (.of (hs.h0 _ _ h)), scalar_rep hx hf.1, scalars_rep r hf.2, ?_⟩)
        rw [any_rep hx hf.1 r hf.2]
        exact Option.some.inj e
    · split at e
      · rename_i hf
        rw [Bool.and_eq_true] at hf
        cases hy with
        | lst h r =>
          obtain ⟨p1, p2, p3⟩ := dp_of hs.h0 6 x _ hf.1 hx
          obtain ⟨q1, q2, q3⟩ := dps_of hs.h0 6 _ _ hf.2 r
          refine .inr (.inr (.inr ⟨toPy _, toPys _, p1, .lst (.of (hs.h0 _ _ h)) q1, ?_, ?_, ?_⟩))
          · unfold SeqAt.shaped
            rw [p2, decide_eq_true (show (toPy x).depth ≤ 64 by omega)]; rfl
          · have gen : ∀ l : List PyData, PyData.canLayAll0 l = true → PyData.depthAll l ≤ 6 → SeqAt.shaped (.list l) = true := fun l h1 h2 => by
              unfold SeqAt.shaped
              have d1 : (PyData.list l).depth ≤ 64 := by show PyData.depthAll l + 1 ≤ 64; omega
              have d2 : (PyData.list l).canLay0 = true := h1
              rw [d2, decide_eq_true d1]; rfl
            exact gen _ q2 q3
          · rw [← Option.some.inj e]
            have gen : ∀ ys : List D, D.flats 6 ys = true → ((toPys ys).any fun z => PyData.eqv z (toPy x)) = ys.any fun y => eqD y x := fun ys => by
              induction ys with
              | nil => intro _; rfl
              | cons a r ih =>
                intro hfl
                simp only [D.flats, Bool.and_eq_true] at hfl
                show (PyData.eqv (toPy a) (toPy x) || (toPys r).any _) = _
                rw [eqv_toPy 6 a x hfl.1 hf.1, ih hfl.2]; rfl
            exact gen _ hf.2
      · cases e
  · rename_i k i
    split at e
    · rename_i kvs hg
      cases hx
      cases hy with
      | own ha =>
        obtain ⟨a, h1, h2, h3, vs, h4, h5⟩ := hs.live i _ hg
        rw [ha] at h1; cases h1
        have q := krep_lookup (k := k) h5
        have e := Option.some.inj e
        rw [lookup_any] at e
        refine .inr (.inr (.inl ⟨_, valV vs (Sum.inl k : Key), rfl, DGet.k (k := (Sum.inl k : Key)) h4, ?_⟩))
        rw [← e]
        cases hl : kvs.lookup k with
        | none => rw [hl] at q; rw [q]; rfl
        | some d => rw [hl] at q; obtain ⟨v, q, _⟩ := q; rw [q]; rfl
    · cases e
  · cases e
theorem ok_in (hK : X.K = g.K) (hu : X.A.units + 65 < cLine) : OpR X (compareOp .In) (r2 g Wx (fC .isin)) := by
  refine OpR.imp (op_in_sign.or (op_in_seq.or ((op_in_dict (by omega)).or (op_inD hu)))) fun vx vy H Q h => ?_
  obtain ⟨w, Fr, σ, S, x, y, hs, hx, hy, hp⟩ := h
  obtain ⟨d, q1, hp⟩ := post_opt hp
  obtain ⟨b, q2, rfl⟩ := map_some q1
  rcases inV_cases hs hx hy q2 with ⟨c, z, rfl, rfl, e⟩ | ⟨p, xs, rfl, h1, h2, h3, e⟩ | ⟨a, o, rfl, h1, e⟩ | ⟨d, ds, h1, h2, h3, h4, e⟩
  · refine .inl ⟨c, z, rfl, rfl, ?_⟩
    rw [e]; exact hp.ok hs (.bl _)
  · refine .inr (.inl ⟨p, xs, rfl, by rw [hK]; exact h1, h2, h3, ?_⟩)
    rw [if_neg Bool.false_ne_true, e]; exact hp.ok hs (.bl _)
  · refine .inr (.inr (.inl ⟨a, o, rfl, h1, ?_⟩))
    rw [e]; exact hp.ok hs (.bl _)
  · refine .inr (.inr (.inr ⟨d, ds, by rw [hK]; exact h1, by rw [hK]; exact h2, h3, h4, ?_⟩))
    rw [e]; exact hp.ok hs (.bl _)
theorem ok_isb : OpR X (compareOp .Is) (r2 g Wx (fC .isb)) := by
  refine OpR.imp op_isBl fun vx vy H Q h => ?_
  obtain ⟨w, Fr, σ, S, x, y, hs, hx, hy, hp⟩ := h
  cases hx <;> cases hy <;> first
    | exact False.elim hp
    | exact ⟨_, _, rfl, rfl, hp.ok hs (.bl _)⟩
theorem ok_nisb : OpR X (compareOp .IsNot) (r2 g Wx (fC .nisb)) := by
  refine OpR.imp op_notBl fun vx vy H Q h => ?_
  obtain ⟨w, Fr, σ, S, x, y, hs, hx, hy, hp⟩ := h
  cases hx <;> cases hy <;> first
    | exact False.elim hp
    | exact ⟨_, _, rfl, rfl, hp.ok hs (.bl _)⟩
theorem ok_notin (hK : X.K = g.K) (hu : X.A.units + 65 < cLine) : OpR X (compareOp .NotIn) (r2 g Wx (fC .notin)) := by
  refine OpR.imp (op_notIn_sign.or (op_notIn_seq.or ((op_notIn_dict (by omega)).or (op_notInD hu)))) fun vx vy H Q h => ?_
  obtain ⟨w, Fr, σ, S, x, y, hs, hx, hy, hp⟩ := h
  obtain ⟨d, q1, hp⟩ := post_opt hp
  obtain ⟨b, q2, rfl⟩ := map_some q1
  obtain ⟨b, q3, rfl⟩ := map_some q2
  rcases inV_cases hs hx hy q3 with ⟨c, z, rfl, rfl, e⟩ | ⟨p, xs, rfl, h1, h2, h3, e⟩ | ⟨a, o, rfl, h1, e⟩ | ⟨d, ds, h1, h2, h3, h4, e⟩
  · refine .inl ⟨c, z, rfl, rfl, ?_⟩
    rw [e]; exact hp.ok hs (.bl _)
  · refine .inr (.inl ⟨p, xs, rfl, by rw [hK]; exact h1, h2, h3, ?_⟩)
    rw [if_pos rfl, e]; exact hp.ok hs (.bl _)
  · refine .inr (.inr (.inl ⟨a, o, rfl, h1, ?_⟩))
    rw [e]; exact hp.ok hs (.bl _)
  · refine .inr (.inr (.inr ⟨d, ds, by rw [hK]; exact h1, by rw [hK]; exact h2, h3, h4, ?_⟩))
    rw [e]; exact hp.ok hs (.bl _)

/-! ### subscripts -/
theorem ix_dict (hu : X.A.units + 64 < cLine) : IxR X (fun x y H Q => ∃ a v, x = .ref a ∧ DGet H a y (some v) ∧ Q v H) := by
  intro value slice pins s σ H x y v u Q I rx ry h hs
  obtain ⟨a, z, rfl, gg, q⟩ := h
  cases rx
  unfold subscriptTail
  refine wpAny_bind ?_
  have hT := dict_typeIs I gg
  rw [getitemInPython_of_ne hT.not_modules]
  refine wpAny_bind (wpAny_specialOf hT PySem.F.slot_dict_getitem.lookup ?_)
  have fin : wpAny (model X.prog X.w) X.A (subscripted slice false (.ref a) u) (fun r s₃ => wpAny (model X.prog X.w) X.A (letTemporaryGo value (.ref a) r >>= fun _ => pure r) (EP X pins σ Q) X.xe s₃) X.xe s := by
    rw [hs]
    exact wpAny_operating (wpAny_mono (d_getItem (by omega) I gg ry fun w' s3 I3 rw' => (⟨z, H, I3, rw', q⟩ : EP X pins σ Q w' s3)) (fun r s₃ h₃ => wpAny_bind (wpAny_letTemporaryGo (wpAny_pure h₃))) fun _ _ x => x)
  first
    | exact wpAny_pure (wpAny_bind fin)
    | exact wpAny_bind (wpAny_pure (wpAny_bind fin))
    | exact wpAny_bind fin
theorem atD_eq {α : Type} (xs : List α) (i : Int) {d : α} (h : atD xs i = some d) : atI xs i = some d := by
  unfold atD at h
  unfold atI ixN
  split at h
  · rename_i h0
    rw [if_pos h0]
    have hl : i.toNat < xs.length := by
      by_cases q : i.toNat < xs.length
      · exact q
      · rw [List.getElem?_eq_none (by omega)] at h; cases h
    rw [if_pos (show i < xs.length by omega)]
    exact h
  · rename_i h0
    split at h
    · rename_i h1
      rw [if_neg h0, if_pos h1]
      exact h
    · cases h
theorem atI_rep {K : PySem.W.Frag} {fa : Nat → Addr} {w : Wd} {ds : List D} {vs : List V} {i : Int} {d : D} (r : Reps K fa w ds vs) (h : atD ds i = some d) : ∃ v, atI vs i = some v ∧ Rep K fa w d v := by
  have h := atD_eq ds i h
  unfold atI at h ⊢
  rw [← r.length]
  cases q : ixN ds.length i with
  | none => rw [q] at h; cases h
  | some j =>
    rw [q] at h
    exact r.get h
abbrev fI : D → D → Sto → R D := fun x y S => ofOpt S (idxV S x y)
theorem ok_idx (hK : X.K = g.K) (hu : X.A.units + 64 < cLine) : IxR X (r2 g Wx fI) := by
  refine IxR.imp (ix_list.or (ix_tup.or (ix_str.or (ix_dict hu)))) fun vx vy H Q h => ?_
  obtain ⟨w, Fr, σ, S, x, y, hs, hx, hy, hp⟩ := h
  obtain ⟨d, e, hq⟩ := post_opt hp
  clear hp
  unfold idxV at e
  split at e
  · rename_i xs i
    cases hy
    cases hx with
    | lst h r =>
      obtain ⟨v, h1, h2⟩ := atI_rep r e
      exact .inl ⟨_, _, _, v, rfl, rfl, .of (hs.h0 _ _ h), h1, Post.ok hq hs h2⟩
  · rename_i xs i
    cases hy
    cases hx with
    | tup h r =>
      obtain ⟨v, h1, h2⟩ := atI_rep r e
      exact .inr (.inl ⟨_, _, _, v, rfl, rfl, by rw [hK]; exact sqT_same hs.h0 h, h1, Post.ok hq hs h2⟩)
  · rename_i xs i
    cases hy
    cases hx with
    | frz h r =>
      obtain ⟨v, h1, h2⟩ := atI_rep r e
      exact .inl ⟨_, _, _, v, rfl, rfl, by rw [hK]; exact hs.h0.seq h, h1, Post.ok hq hs h2⟩
  · rename_i xs i
    cases hy
    cases hx with
    | str _ h1 h2 =>
      obtain ⟨c, e1, rfl⟩ := map_some e
      have e2 := atD_eq xs i e1
      have hc : [c].all (· < 0x110000) = true := all_sub h1 fun z hz => by
        rw [List.mem_singleton] at hz
        subst hz
        unfold atI at e2
        cases q : ixN xs.length i with
        | none => rw [q] at e2; cases e2
        | some j => rw [q] at e2; exact List.mem_of_getElem? e2
      refine .inr (.inr (.inl ⟨mkS xs, _, c, rfl, rfl, by rw [mkS_len]; exact h2, e2, ?_⟩))
      exact Post.ok hq hs (rep_str hc (Nat.le_trans (show 1 ≤ 16000000 by decide) sizeLine_ge))
  · rename_i o i
    cases hy
    cases hx with
    | own ha =>
      split at e
      · rename_i xs hg
        obtain ⟨a, h1, h2, h3, vs, h4, h5⟩ := hs.live o _ hg
        rw [ha] at h1; cases h1
        obtain ⟨v, q1, q2⟩ := atI_rep h5 e
        exact .inl ⟨_, _, _, v, rfl, rfl, .of h4, q1, Post.ok hq hs q2⟩
      · rename_i kvs hg
        obtain ⟨a, h1, h2, h3, vs, h4, h5⟩ := hs.live o _ hg
        rw [ha] at h1; cases h1
        have q := krep_lookup (k := i) h5
        rw [e] at q
        obtain ⟨v, q1, q2⟩ := q
        refine .inr (.inr (.inr ⟨_, v, rfl, ?_, Post.ok hq hs q2⟩))
        rw [← q1]
        exact DGet.k (k := (Sum.inl i : Key)) h4
      · cases e
  · cases e
/-! ### slices -/
theorem sIxD_eq (n d : Nat) (o : Option Int) : sIxD n d o = HT.sIx n d o := by cases o <;> rfl
theorem cutD_V (vs : List V) (lo hi : Option Int) : cutD vs lo hi = cutV vs lo hi := by
  unfold cutD cutV
  rw [sIxD_eq, sIxD_eq]
theorem cut_rep {K : PySem.W.Frag} {fa : Nat → Addr} {w : Wd} {ds : List D} {vs : List V} (r : Reps K fa w ds vs) (lo hi : Option Int) : Reps K fa w (cutD ds lo hi) (cutV vs lo hi) := by
  rw [← cutD_V]
  unfold cutD
  rw [r.length]
  exact (r.drop _).take _
theorem cut_mem {α : Type} {xs : List α} {lo hi : Option Int} {c : α} (h : c ∈ cutD xs lo hi) : c ∈ xs := List.mem_of_mem_drop (List.mem_of_mem_take h)
theorem cut_len {α : Type} (xs : List α) (lo hi : Option Int) : (cutD xs lo hi).length ≤ xs.length := by
  unfold cutD
  rw [List.length_take, List.length_drop]
  omega
theorem cutS_mk (x : List Nat) (lo hi : Option Int) : cutS (mkS x) lo hi = mkS (cutD x lo hi) := by
  unfold cutS cutD
  rw [mkS_len, sIxD_eq, sIxD_eq]
  rfl
def rSlc (g : G) (Wx : WX) : V → Option Int → Option Int → Hp → VK → Prop := fun vx lo hi H Q => ∃ w Fr σ S x, StOk g w Fr H S ∧ Rg g w x vx ∧ Post g Wx (Rg g) w Fr σ (ofOpt S (slcV x lo hi)) Q
theorem ok_slc (hK : X.K = g.K) : SlR X (rSlc g Wx) := by
  refine SlR.imp (sl_list.or (sl_tupA.or sl_str)) fun vx lo hi H Q h => ?_
  obtain ⟨w, Fr, σ, S, x, hs, hx, hp⟩ := h
  obtain ⟨d, e, hq⟩ := post_opt hp
  clear hp
  unfold slcV at e
  split at e
  · cases e
    cases hx with
    | str _ h1 h2 =>
      refine .inr (.inr ⟨_, rfl, by rw [mkS_len]; exact h2, ?_⟩)
      rw [cutS_mk]
      exact Post.ok hq hs (rep_str (all_sub h1 fun c hc => cut_mem hc) (Nat.le_trans (cut_len _ _ _) h2))
  · cases e
    cases hx with
    | lst h r =>
      refine .inl ⟨_, _, rfl, .of (hs.h0 _ _ h), fun p np => ?_⟩
      obtain ⟨s2, le⟩ := hs.data (o := .lst _) np
      exact hq _ _ _ le s2 (.lst upd_same ((cut_rep r lo hi).mono le))
  · cases e
    cases hx with
    | tup h r =>
      refine .inr (.inl ⟨_, _, rfl, by rw [hK]; exact sqT_same hs.h0 h, fun hw => ?_, fun hw p np => ?_⟩)
      · refine Post.ok hq hs (.tup h ?_)
        have z := cut_rep r lo hi
        unfold cutV at z
        rw [hw.1, hw.2, List.drop_zero, Nat.sub_zero, List.take_length] at z
        exact z
      · obtain ⟨s2, le⟩ := hs.data (o := .tup _) np
        exact hq _ _ _ le s2 (.tup (.of upd_same) ((cut_rep r lo hi).mono le))
  · cases e
/-- s[::-1] of a text -/
theorem rev_ix (n : Nat) : Builtin.Str.strSliceIndices none none (-1) n = (List.range n).map fun k => n - 1 - k := by
  have e : ((if (-1 : Int) > 0 then (if (n : Int) - 1 < -1 then (-1 - ((n : Int) - 1) + -1 - 1) / -1 else 0) else (if (n : Int) - 1 > -1 then ((n : Int) - 1 - -1 - -1 - 1) / (-(-1)) else 0) : Int)).toNat = n := by
    rw [if_neg (by decide)]
    by_cases h : (n : Int) - 1 > -1
    · rw [if_pos h, show (-(-1) : Int) = 1 from rfl, Int.ediv_one]; omega
    · rw [if_neg h]; omega
  show ((List.range ((if (-1 : Int) > 0 then (if (n : Int) - 1 < -1 then (-1 - ((n : Int) - 1) + -1 - 1) / -1 else 0) else (if (n : Int) - 1 > -1 then ((n : Int) - 1 - -1 - -1 - 1) / (-(-1)) else 0) : Int)).toNat).map fun (k : Nat) => ((n : Int) - 1 + (-1) * (k : Int)).toNat) = _
  rw [e]
  refine List.map_congr_left fun k _ => ?_
  omega
theorem fm_congr {α β : Type} {f g : α → Option β} : ∀ {l : List α}, (∀ a ∈ l, f a = g a) → l.filterMap f = l.filterMap g
  | [], _ => rfl
  | a :: r, h => by
    rw [List.filterMap_cons, List.filterMap_cons, h a List.mem_cons_self, fm_congr fun b hb => h b (List.mem_cons_of_mem _ hb)]
theorem rev_pick {α : Type} (x : List α) : ((List.range x.length).map fun k => x.length - 1 - k).filterMap (fun i => x.toArray[i]?) = x.reverse := by
  rw [List.filterMap_map]
  have e : (List.range x.length).filterMap ((fun i => x.toArray[i]?) ∘ fun k => x.length - 1 - k) = (List.range x.length).filterMap fun k => x.reverse[k]? := by
    refine fm_congr fun k hk => ?_
    have hk := List.mem_range.mp hk
    show x.toArray[x.length - 1 - k]? = x.reverse[k]?
    rw [List.getElem?_reverse hk]
    simp
  rw [e]
  have gen : ∀ l : List α, (List.range l.length).filterMap (fun k => l[k]?) = l := fun l => by
    induction l with
    | nil => rfl
    | cons a r ih =>
      rw [List.length_cons, List.range_succ_eq_map, List.filterMap_cons]
      simp only [List.getElem?_cons_zero]
      rw [List.filterMap_map]
      have : (List.range r.length).filterMap ((fun k => (a :: r)[k]?) ∘ Nat.succ) = (List.range r.length).filterMap fun k => r[k]? := fm_congr fun k _ => by simp
      rw [this, ih]
  have := gen x.reverse
  rw [List.length_reverse] at this
  exact this
theorem reps_rev {K : PySem.W.Frag} {fa : Nat → Addr} {w : Wd} : ∀ {ds : List D} {vs : List V}, Reps K fa w ds vs → Reps K fa w ds.reverse vs.reverse
  | _, _, .nil => .nil
  | _, _, .cons a r => by
    rw [List.reverse_cons, List.reverse_cons]
    exact (reps_rev r).append (.cons a .nil)
theorem vals_rev : ∀ {vs : List V} {its : List Value}, Vals vs its → Vals vs.reverse its.reverse
  | _, _, .nil => .nil
  | _, _, .cons a r => by
    rw [List.reverse_cons, List.reverse_cons]
    exact (vals_rev r).append (.cons a .nil)
theorem slice_rev (its : List Value) : slicePick its.toArray none none (some (-1)) = its.reverse.toArray := by
  have e : sliceRange (sliceBounds none none (some (-1)) its.toArray.size).1 (sliceBounds none none (some (-1)) its.toArray.size).2.1 (sliceBounds none none (some (-1)) its.toArray.size).2.2 = (List.range its.length).map fun k => its.length - 1 - k := by
    rw [List.size_toArray]
    exact rev_ix its.length
  unfold slicePick
  rw [e, rev_pick]
def tRevS (K : PySem.W.Frag) (te : TE) : TE := fun σ H Q => te σ H fun x H1 => (∃ z, x = .str (mkS z) ∧ z.length ≤ sizeLine ∧ Q (.str (mkS z.reverse)) H1) ∨ ∃ a xs, x = .ref a ∧ SqL K H1 a xs ∧ ∀ p, H1 p = none → Q (.ref p) (upd H1 p (.lst xs.reverse))
theorem pe_revS {e : Expr} {te : TE} {k : Nat} {p1 p2 p3 pos : Pos} (he : PE X e te) : PE X (.Subscript e (.Slice none none (some (.UnaryOp .USub (.Constant (.int 1) k p1) p2)) p3) pos) (tRevS X.K te) := by
  refine ⟨fun pins s σ H Q I h => ?_⟩
  refine Subscript_ (thn (he.run pins s σ H _ I h) fun v s1 ⟨x, H1, I1, r1, q1⟩ => ?_)
  have hst : PO X (some (.UnaryOp .USub (.Constant (.int 1) k p1) p2)) (tPart (tUn (rU fun i => .int (-i)) (tC (.int 1)))) := po_some (pe_un un_neg pe_int)
  refine wpAny_Slice (thn (po_none.run pins s1 σ H1 (fun o H2 => o = none ∧ H2 = H1) I1 ⟨rfl, rfl⟩) fun vl s2 ⟨l, H2, I2, pl, el, e2⟩ => ?_)
  subst el e2
  refine thn (po_none.run pins s2 σ H2 (fun o H3 => o = none ∧ H3 = H2) I2 ⟨rfl, rfl⟩) fun vu s3 ⟨u, H3, I3, pu, eu, e3⟩ => ?_
  subst eu e3
  refine thn (hst.run pins s3 σ H3 (fun o H4 => o = some (-1) ∧ H4 = H3) I3 ⟨1, rfl, -1, rfl, rfl, rfl⟩) fun vs s4 ⟨o, H4, I4, ps, eo, e4⟩ => ?_
  subst eo e4
  have I5 : Inv X pins σ H4 { s4 with heap := s4.heap.push { cls := .type "slice", data := .fields #[vl, vu, vs] } } := I4.kept (t' := s4.toks) fun b ob q => Heap.get?_push_of_some _ q
  rcases q1 with ⟨z, ex, hz, q⟩ | ⟨a, xs, ex, hx, q⟩
  · subst ex
    obtain ⟨tz, rfl⟩ := r1
    show wpAny (model X.prog X.w) X.A (subscriptTail e (.Slice none none (some (.UnaryOp .USub (.Constant (.int 1) k p1) p2)) p3) (.str (mkS z) tz) (.ref s4.heap.objs.size)) (EP X pins σ Q) X.xe { s4 with heap := s4.heap.push { cls := .type "slice", data := .fields #[vl, vu, vs] } }
    refine tail_any (ops := [.str (mkS z) tz, .ref s4.heap.objs.size]) (typeIs_str _ _ _) F.slot_str_getitem.lookup ?_ (by with_unfolding_all rfl)
    obtain ⟨l, rfl, el⟩ := IsPart.raw pl
    obtain ⟨u, rfl, eu⟩ := IsPart.raw pu
    obtain ⟨t, rfl, et⟩ := IsPart.raw ps
    refine wpAny_getItem_str_slice (l := l) (u := u) (st := t) ⟨_, Heap.get?_push_size _ rfl, rfl, rfl⟩ (by rw [et]; rfl) ?_
    have e0 : Builtin.Str.strSliceIndices (l.map (·.1)) (u.map (·.1)) ((t.map (·.1)).getD 1) (mkS z).length = (List.range z.length).map fun k => z.length - 1 - k := by
      rw [el, eu, et, mkS_len]; exact rev_ix z.length
    have e6 : sliceMade (mkS z) tz l u t = Made.str (mkS z.reverse) := by
      unfold sliceMade slicePicked
      rw [e0, et, if_neg (by rw [show ((some (-1 : Int)).getD 1 == 1) = false from rfl, Bool.false_and]; exact Bool.false_ne_true)]
      show Made.str ⟨(List.filterMap (fun i => z.toArray[i]?) _).toArray⟩ = _
      rw [rev_pick]
      rfl
    rw [e6]
    exact ⟨by rw [mkS_len, List.length_reverse]; exact hz, .str _, _, I5.tok _, ⟨_, rfl⟩, q⟩
  · subst ex
    cases r1
    obtain ⟨its, r, ht, hz⟩ := I5.list hx
    have hlen := r.length
    show wpAny (model X.prog X.w) X.A (subscriptTail e (.Slice none none (some (.UnaryOp .USub (.Constant (.int 1) k p1) p2)) p3) (.ref a) (.ref s4.heap.objs.size)) (EP X pins σ Q) X.xe { s4 with heap := s4.heap.push { cls := .type "slice", data := .fields #[vl, vu, vs] } }
    refine tail_any (ops := [.ref a, .ref s4.heap.objs.size]) ht.isList.typeIs slot_list_getitem.lookup ?_ (by with_unfolding_all rfl)
    refine wpAny_getItem_list_slice ht.isList (Heap.IsSliceOf.new ..) pl pu ps (by simp) ?_ (by rw [List.size_toArray] <;> omega)
    rw [slice_rev]
    refine ⟨.ref (s4.heap.push { cls := .type "slice", data := .fields #[vl, vu, vs] }).objs.size, _, I5.laid (t' := s4.toks) (o := .lst xs.reverse) (fun b ob q => Heap.get?_push_of_some _ q) (Nat.le_refl _) ?_, rfl, q _ (I5.hok.fresh (Nat.le_refl _))⟩
    exact ⟨by rw [List.length_reverse]; exact hz, _, 0, vals_rev r, Heap.get?_push_size _ rfl⟩
end
end Mn
end
section
set_option Elab.async false
set_option linter.all false
set_option maxRecDepth 100000
set_option maxHeartbeats 1000000
/-! Snd4: what is walked; built-in functions and methods, by values. -/
namespace Mn
open PySem PySem.Spec PyProof.Rows L2

/-! ### what is walked -/
/-- an iterator over a value -/
def PIV (X : Cx) (tg : Expr) (r : V → Hp → (It → Hp → Prop) → Prop) : Prop :=
  ∀ (pins : List (Addr × Obj)) (s : Shared) (σ : L2.St) (H : Hp) (x : V) (v : Value) (R : It → Hp → Prop), Inv X pins σ H s → RelV x v → r x H R → wpAny (model X.prog X.w) X.A (pyIter v) (PIE X pins σ tg R) X.xe s
/-- one iterator object has been pushed -/
theorem piv_list {X : Cx} {tg : Expr} : PIV X tg (fun x H R => ∃ a xs, x = .ref a ∧ SqL X.K H a xs ∧ R (Itl X.K a) H) := by
  intro pins s σ H x v R I r h
  obtain ⟨a, xs, rfl, hq, q⟩ := h
  cases r
  obtain ⟨its, rv, p, hz⟩ := I.list hq
  exact wpAny_pyIter_list p.isList (pi_one (tk := s.toks) I _ (turn_list a _) ⟨_, Heap.get?_push_size _ rfl, rfl, rfl⟩ q)
theorem piv_tup {X : Cx} {tg : Expr} : PIV X tg (fun x H R => ∃ a xs, x = .ref a ∧ SqT X.K H a xs ∧ R (Itt X.K a) H) := by
  intro pins s σ H x v R I r h
  obtain ⟨a, xs, rfl, hq, q⟩ := h
  cases r
  obtain ⟨its, rv, p, hz⟩ := I.tuple hq
  exact wpAny_pyIter_tuple (show s.heap.IsTuple a its.toArray from p) (pi_one (tk := s.toks) I _ (turn_tuple a _) ⟨_, Heap.get?_push_size _ rfl, rfl, rfl⟩ q)
theorem piv_str {X : Cx} {tg : Expr} : PIV X tg (fun x H R => ∃ z, x = .str z ∧ R (Its z) H) := by
  intro pins s σ H x v R I r h
  obtain ⟨z, rfl, q⟩ := h
  obtain ⟨t, rfl⟩ := r
  cases ha : z.cps.all (· < 128)
  · exact wpAny_pyIter_wide ha (pi_one (tk := s.toks) I _ (turn_str _ z t "str_iterator" (.inr rfl)) ⟨_, Heap.get?_push_size _ rfl, rfl, rfl⟩ q)
  · exact wpAny_pyIter_ascii ha (pi_one (tk := s.toks) I _ (turn_str _ z t "str_ascii_iterator" (.inl rfl)) ⟨_, Heap.get?_push_size _ rfl, rfl, rfl⟩ q)
theorem PIV.or {X : Cx} {tg : Expr} {r r' : V → Hp → (It → Hp → Prop) → Prop} (h : PIV X tg r) (h' : PIV X tg r') : PIV X tg (fun x H R => r x H R ∨ r' x H R) := fun pins s σ H x v R I rx q =>
  q.elim (h pins s σ H x v R I rx) (h' pins s σ H x v R I rx)
theorem pi_val {X : Cx} {tg e : Expr} {te : TE} {r : V → Hp → (It → Hp → Prop) → Prop} (h : PIV X tg r) (he : PE X e te) : PI X tg e (fun σ H R => te σ H fun x H1 => r x H1 R) :=
  ⟨fun pins s σ H R I q => thn (he.run pins s σ H _ I q) fun v s1 ⟨x, H1, I1, r1, q1⟩ => h pins s1 σ H1 x v R I1 r1 q1⟩
theorem PI.imp {X : Cx} {tg e : Expr} {t t' : TI} (h : PI X tg e t) (k : ∀ σ H R, t' σ H R → t σ H R) : PI X tg e t' := ⟨fun pins s σ H R I q => h.run pins s σ H R I (k σ H R q)⟩

/-- an item has come: as it stood; a new tuple; a new pair of a number and a new pair -/
def NewIt (g : G) (w : Wd) (H H' : Hp) (d : D) (x : V) : Prop :=
  (H' = H ∧ Rg g w d x) ∨ (∃ T es vs, x = .ref T ∧ H T = none ∧ H' = upd H T (.tup vs) ∧ d = .tup es ∧ Rgs g w es vs) ∨
  ∃ P T k y z e1 e2, x = .ref T ∧ H P = none ∧ H T = none ∧ T ≠ P ∧ H' = upd (upd H P (.tup [y, z])) T (.tup [.int k, .ref P]) ∧ d = .tup [.int k, .tup [e1, e2]] ∧ Rg g w e1 y ∧ Rg g w e2 z
theorem NewIt.mono {g : G} {w w' : Wd} {H H' : Hp} {d : D} {x : V} (l : w.le w') (h : NewIt g w H H' d x) : NewIt g w' H H' d x := by
  rcases h with ⟨e, q⟩ | ⟨T, es, vs, e1, e2, e3, e4, e5⟩ | ⟨P, T, k, y, z, e1, e2, q1, q2, q3, q4, q5, q6, q7, q8⟩
  · exact .inl ⟨e, q.mono l⟩
  · exact .inr (.inl ⟨T, es, vs, e1, e2, e3, e4, e5.mono l⟩)
  · exact .inr (.inr ⟨P, T, k, y, z, e1, e2, q1, q2, q3, q4, q5, q6, q7.mono l, q8.mono l⟩)
/-- the iterator J gives the items ds, whatever the heap becomes as long as the data of w stands -/
structure Gives (g : G) (w : Wd) (J : It) (ds : List D) : Prop where
  goes : ∀ i H, i < ds.length → Same w.H0 H → J.go i H
  stops : ∀ H, Same w.H0 H → J.stop ds.length H
  yields : ∀ i H x H', i < ds.length → Same w.H0 H → J.yld i H x H' → ∃ d, ds[i]? = some d ∧ NewIt g w H H' d x
theorem Gives.mono {g : G} {w w' : Wd} {J : It} {ds : List D} (l : w.le w') (h : Gives g w J ds) : Gives g w' J ds :=
  ⟨fun i H hi s => h.goes i H hi (l.hp.trans s), fun H s => h.stops H (l.hp.trans s), fun i H x H' hi s y => by
    obtain ⟨d, e, q⟩ := h.yields i H x H' hi (l.hp.trans s) y
    exact ⟨d, e, q.mono l⟩⟩
section
variable {g : G} {w : Wd} {X : Cx}
theorem gives_list {a : Addr} {xs : List V} {ds : List D} (h : SqL g.K w.H0 a xs) (r : Rgs g w ds xs) : Gives g w (Itl g.K a) ds := by
  have W := walk_list (K := g.K) (a := a) (xs := xs)
  refine ⟨fun i H hi s => W.goes i H (by rw [← r.length]; exact hi) (s.seq h), fun H s => by rw [r.length]; exact W.stops H (s.seq h), fun i H x H' hi s y => ?_⟩
  obtain ⟨e, z⟩ := W.yields i H x H' (by rw [← r.length]; exact hi) (s.seq h) y
  have hd : ds[i]? = some ds[i] := by simp [hi]
  obtain ⟨v, h1, h2⟩ := r.get hd
  rw [z] at h1; cases h1
  exact ⟨_, hd, .inl ⟨e, h2⟩⟩
theorem gives_tup {a : Addr} {xs : List V} {ds : List D} (h : SqT g.K w.H0 a xs) (r : Rgs g w ds xs) : Gives g w (Itt g.K a) ds := by
  have W := walk_tup (K := g.K) (a := a) (xs := xs)
  refine ⟨fun i H hi s => W.goes i H (by rw [← r.length]; exact hi) (sqT_same s h), fun H s => by rw [r.length]; exact W.stops H (sqT_same s h), fun i H x H' hi s y => ?_⟩
  obtain ⟨e, z⟩ := W.yields i H x H' (by rw [← r.length]; exact hi) (sqT_same s h) y
  have hd : ds[i]? = some ds[i] := by simp [hi]
  obtain ⟨v, h1, h2⟩ := r.get hd
  rw [z] at h1; cases h1
  exact ⟨_, hd, .inl ⟨e, h2⟩⟩
theorem gives_str {x : List Nat} (h1 : x.all (· < 0x110000) = true) : Gives g w (Its (mkS x)) (x.map fun c => .str [c]) := by
  have W := walk_str (z := mkS x)
  have el : (mkS x).cps.size = (x.map fun c => D.str [c]).length := by simp [mkS]
  refine ⟨fun i H hi s => W.goes i H (by rw [el]; exact hi) trivial, fun H s => by rw [← el]; exact W.stops H trivial, fun i H v H' hi s y => ?_⟩
  obtain ⟨e, c, z, ev⟩ := W.yields i H v H' (by rw [el]; exact hi) trivial y
  have hc : x[i]? = some c := by simpa [mkS] using z
  refine ⟨.str [c], by rw [List.getElem?_map, hc]; rfl, .inl ⟨e, ?_⟩⟩
  subst ev
  exact .str [c] (all_sub h1 fun z hz => by rw [List.mem_singleton] at hz; subst hz; exact List.mem_of_getElem? hc) (Nat.le_trans (show 1 ≤ 16000000 by decide) sizeLine_ge)
theorem gives_range {lo : Int} {n : Nat} : Gives g w (Itr lo n) ((List.range n).map fun (i : Nat) => D.int (lo + i)) := by
  have W := walk_range (lo := lo) (n := n)
  have el : ((List.range n).map fun (i : Nat) => D.int (lo + i)).length = n := by rw [List.length_map, List.length_range]
  refine ⟨fun i H hi s => W.goes i H (by rw [el] at hi; exact hi) trivial, fun H s => by rw [el]; exact W.stops H trivial, fun i H v H' hi s y => ?_⟩
  rw [el] at hi
  obtain ⟨e, ev⟩ := W.yields i H v H' hi trivial y
  refine ⟨.int (lo + i), ?_, .inl ⟨e, by subst ev; exact .int _⟩⟩
  rw [List.getElem?_map, List.getElem?_range hi]
  rfl
theorem Reps.get' {ds : List D} {vs : List V} {i : Nat} {x : V} (r : Rgs g w ds vs) (h : vs[i]? = some x) : ∃ d, ds[i]? = some d ∧ Rg g w d x := by
  obtain ⟨hi, e⟩ := List.getElem?_eq_some_iff.mp h
  have hd : ds[i]? = some (ds[i]'(by rw [r.length]; exact hi)) := by simp [show i < ds.length by rw [r.length]; exact hi]
  obtain ⟨v, h1, h2⟩ := r.get hd
  rw [h] at h1; cases h1
  exact ⟨_, hd, h2⟩
theorem gives_pair {J : It} {n : Nat} {P : Hp → Prop} {xs ys : Nat → Option V} {f : Nat → D} (W : Walk J n P (YPair xs ys)) (hP : ∀ H, Same w.H0 H → P H)
    (hf : ∀ i x y, i < n → xs i = some x → ys i = some y → ∃ a b, f i = .tup [a, b] ∧ Rg g w a x ∧ Rg g w b y) : Gives g w J ((List.range n).map f) := by
  have el : ((List.range n).map f).length = n := by rw [List.length_map, List.length_range]
  refine ⟨fun i H hi s => W.goes i H (by rw [el] at hi; exact hi) (hP H s), fun H s => by rw [el]; exact W.stops H (hP H s), fun i H v H' hi s y => ?_⟩
  rw [el] at hi
  obtain ⟨T, x, z, e1, e2, e3, e4, e5⟩ := W.yields i H v H' hi (hP H s) y
  obtain ⟨a, b, ef, ra, rb⟩ := hf i x z hi e4 e5
  refine ⟨f i, ?_, .inr (.inl ⟨T, [a, b], [x, z], e1, e2, e3, ef, .cons ra (.cons rb .nil)⟩)⟩
  rw [List.getElem?_map, List.getElem?_range hi]
  rfl
theorem zip_range {α β γ : Type} (f : α × β → γ) (d : γ) (xs : List α) (ys : List β) : (xs.zip ys).map f = (List.range (min xs.length ys.length)).map fun i => ((xs.zip ys)[i]?.map f).getD d := by
  apply List.ext_getElem?
  intro i
  rw [List.getElem?_map, List.getElem?_map]
  by_cases h : i < min xs.length ys.length
  · rw [List.getElem?_range h]
    have hz : i < (xs.zip ys).length := by rw [List.length_zip]; exact h
    rw [Option.map_some]
    show _ = some (((xs.zip ys)[i]?.map f).getD d)
    rw [List.getElem?_eq_getElem hz]
    rfl
  · have hz : (xs.zip ys).length ≤ i := by rw [List.length_zip]; omega
    rw [List.getElem?_eq_none hz, List.getElem?_eq_none (by rw [List.length_range]; omega)]
    rfl
theorem gives_zipL {a b : Addr} {xs ys : List V} {ds es : List D} (h : SqL g.K w.H0 a xs) (h' : SqL g.K w.H0 b ys) (r : Rgs g w ds xs) (r' : Rgs g w es ys) : Gives g w (Itz g.K a b) ((ds.zip es).map fun p => .tup [p.1, p.2]) := by
  rw [zip_range _ .non]
  refine gives_pair (walk_zip (K := g.K) (a := a) (b := b) (xs := xs) (ys := ys) (by rw [r.length, r'.length])) (fun H s => ⟨s.seq h, s.seq h'⟩) fun i x y hi e1 e2 => ?_
  obtain ⟨d, q1, q2⟩ := Reps.get' r e1
  obtain ⟨e, q3, q4⟩ := Reps.get' r' e2
  refine ⟨d, e, ?_, q2, q4⟩
  have : (ds.zip es)[i]? = some (d, e) := by rw [List.getElem?_zip_eq_some]; exact ⟨q1, q3⟩
  rw [this]; rfl
theorem walk_zipT {K : PySem.W.Frag} {a b : Addr} {xs ys : List V} {n : Nat} (hn : n = min xs.length ys.length) : Walk (RZ.ItzT K a b) n (fun H => SqT K H a xs ∧ SqT K H b ys) (YPair (fun i => xs[i]?) (fun i => ys[i]?)) := by
  subst hn
  refine ⟨fun i _ hi q => ?_, fun _ q => ⟨xs, ys, q.1, q.2, by omega⟩, fun i H v H' _ q y => ?_⟩
  · have h1 : i < xs.length := by omega
    have h2 : i < ys.length := by omega
    exact ⟨xs, ys, xs[i], ys[i], q.1, q.2, by simp [h1], by simp [h2]⟩
  · obtain ⟨T, x, z, h1, h2, h3, h4, h5⟩ := y
    exact ⟨T, x, z, h1, h2, h3, h4 xs q.1, h5 ys q.2⟩
theorem gives_zipT {a b : Addr} {xs ys : List V} {ds es : List D} (h : SqT g.K w.H0 a xs) (h' : SqT g.K w.H0 b ys) (r : Rgs g w ds xs) (r' : Rgs g w es ys) : Gives g w (RZ.ItzT g.K a b) ((ds.zip es).map fun p => .tup [p.1, p.2]) := by
  rw [zip_range _ .non]
  refine gives_pair (walk_zipT (K := g.K) (a := a) (b := b) (xs := xs) (ys := ys) (by rw [r.length, r'.length])) (fun H s => ⟨sqT_same s h, sqT_same s h'⟩) fun i x y hi e1 e2 => ?_
  obtain ⟨d, q1, q2⟩ := Reps.get' r e1
  obtain ⟨e, q3, q4⟩ := Reps.get' r' e2
  refine ⟨d, e, ?_, q2, q4⟩
  have : (ds.zip es)[i]? = some (d, e) := by rw [List.getElem?_zip_eq_some]; exact ⟨q1, q3⟩
  rw [this]; rfl
theorem enum_range {α γ : Type} (f : α × Nat → γ) (d : γ) (xs : List α) : xs.zipIdx.map f = (List.range xs.length).map fun i => (xs[i]?.map fun x => f (x, i)).getD d := by
  apply List.ext_getElem?
  intro i
  rw [List.getElem?_map, List.getElem?_map, List.getElem?_zipIdx]
  by_cases h : i < xs.length
  · rw [List.getElem?_range h]
    simp [h]
  · rw [List.getElem?_eq_none (show xs.length ≤ i by omega), List.getElem?_eq_none (by rw [List.length_range]; omega)]
    rfl
theorem gives_enum {a : Addr} {xs : List V} {ds : List D} (h : SqL g.K w.H0 a xs) (r : Rgs g w ds xs) : Gives g w (Ite g.K a) (ds.zipIdx.map fun p => .tup [.int p.2, p.1]) := by
  rw [enum_range _ .non]
  have W := walk_enum (K := g.K) (a := a) (xs := xs)
  rw [← r.length] at W
  refine gives_pair W (fun H s => s.seq h) fun i x y hi e1 e2 => ?_
  obtain ⟨d, q1, q2⟩ := Reps.get' r e2
  cases e1
  refine ⟨.int i, d, ?_, .int _, q2⟩
  rw [q1]; rfl
end
end Mn
end
section
set_option Elab.async false
set_option linter.all false
set_option maxRecDepth 100000
set_option maxHeartbeats 1000000
/-! Snd5: built-in functions and methods, by values. -/
namespace Mn
open PySem PySem.Spec PyProof.Rows L2

def rB (g : G) (Wx : WX) (b : BF) : List V → Hp → VK → Prop := fun vs H Q => ∃ w Fr σ S ds, StOk g w Fr H S ∧ Rgs g w ds vs ∧ Post g Wx (Rg g) w Fr σ (ofOpt S (bfV S b ds)) Q
section
variable {X : Cx} {g : G} {Wx : WX}
theorem call_len_dict' : CallR X (.builtin "len") (fun xs H Q => ∃ a kvs, xs = [.ref a] ∧ H a = some (.dK kvs) ∧ Q (.int kvs.length) H) := by
  intro pins s σ H xs us Q I r h
  obtain ⟨a, kvs, rfl, e, q⟩ := h
  obtain ⟨u, rfl, rx⟩ := vals1 r
  cases rx
  exact d_len I (.inl e) fun t s' I' => ⟨.int kvs.length, H, I', ⟨t, rfl⟩, q⟩
theorem reps1 {K : PySem.W.Frag} {fa : Nat → Addr} {w : Wd} {d : D} {vs : List V} (h : Reps K fa w [d] vs) : ∃ v, vs = [v] ∧ Rep K fa w d v := by
  cases h with
  | cons a b => cases b; exact ⟨_, rfl, a⟩
theorem reps2 {K : PySem.W.Frag} {fa : Nat → Addr} {w : Wd} {d e : D} {vs : List V} (h : Reps K fa w [d, e] vs) : ∃ v u, vs = [v, u] ∧ Rep K fa w d v ∧ Rep K fa w e u := by
  cases h with
  | cons a b => obtain ⟨u, rfl, q⟩ := reps1 b; exact ⟨_, u, rfl, a, q⟩
theorem ok_len (hK : X.K = g.K) : CallR X (.builtin "len") (rB g Wx .len) := by
  refine CallR.imp (call_len.or call_len_dict') fun vs H Q h => ?_
  obtain ⟨w, Fr, σ, S, ds, hs, hr, hp⟩ := h
  obtain ⟨d, e, hq⟩ := post_opt hp
  clear hp
  match ds, hr, e with
  | [x], hr, e =>
    obtain ⟨v, rfl, hx⟩ := reps1 hr
    have e : (lenV S x).map .int = some d := e
    obtain ⟨n, e1, rfl⟩ := map_some e
    cases hx with
    | str _ h1 h2 =>
      cases e1
      refine .inl ⟨_, _, rfl, ⟨by rw [mkS_len]; exact h2, by rw [mkS_len]⟩, hq.ok hs (.int _)⟩
    | lst h r =>
      cases e1
      exact .inl ⟨_, _, rfl, .inl ⟨_, .of (hs.h0 _ _ h), r.length⟩, hq.ok hs (.int _)⟩
    | frz h r =>
      cases e1
      exact .inl ⟨_, _, rfl, .inl ⟨_, by rw [hK]; exact hs.h0.seq h, r.length⟩, hq.ok hs (.int _)⟩
    | tup h r =>
      cases e1
      exact .inl ⟨_, _, rfl, .inr ⟨_, by rw [hK]; exact sqT_same hs.h0 h, r.length⟩, hq.ok hs (.int _)⟩
    | own ha =>
      simp only [lenV] at e1
      split at e1
      · rename_i xs hg
        cases e1
        obtain ⟨a, h1, h2, h3, vs, h4, h5⟩ := hs.live _ _ hg
        rw [ha] at h1; cases h1
        exact .inl ⟨_, _, rfl, .inl ⟨_, .of h4, h5.length⟩, hq.ok hs (.int _)⟩
      · rename_i xs hg
        cases e1
        obtain ⟨a, h1, h2, h3, vs, h4, h5⟩ := hs.live _ _ hg
        rw [ha] at h1; cases h1
        refine .inr ⟨_, _, rfl, h4, ?_⟩
        rw [← krep_len h5]
        exact hq.ok hs (.int _)
      · cases e1
    | non => cases e1
    | bl _ => cases e1
    | int _ => cases e1
    | dx _ _ => cases e1
    | obj _ _ => cases e1
    | any _ => cases e1
    | fn _ => cases e1
theorem ok_min2 (hc : X.calm = true) : CallR X (.builtin "min") (rB g Wx .min2) := by
  refine CallR.imp (call_min2 hc) fun vs H Q h => ?_
  obtain ⟨w, Fr, σ, S, ds, hs, hr, hp⟩ := h
  obtain ⟨d, e, hq⟩ := post_opt hp
  unfold bfV at e
  split at e <;> first
    | (rename_i heq; cases heq; done)
    | (cases e; done)
    | (cases e
       obtain ⟨v, u, rfl, h1, h2⟩ := reps2 hr
       cases h1
       cases h2
       exact ⟨_, _, rfl, hq.ok hs (.int _)⟩)
theorem ok_max2 (hc : X.calm = true) : CallR X (.builtin "max") (rB g Wx .max2) := by
  refine CallR.imp (call_max2 hc) fun vs H Q h => ?_
  obtain ⟨w, Fr, σ, S, ds, hs, hr, hp⟩ := h
  obtain ⟨d, e, hq⟩ := post_opt hp
  unfold bfV at e
  split at e <;> first
    | (rename_i heq; cases heq; done)
    | (cases e; done)
    | (cases e
       obtain ⟨v, u, rfl, h1, h2⟩ := reps2 hr
       cases h1
       cases h2
       exact ⟨_, _, rfl, hq.ok hs (.int _)⟩)
theorem ok_all (hc : X.calm = true) : CallR X (.builtin "all") (rB g Wx .all) := by
  refine CallR.imp (cr_all hc) fun vs H Q h => ?_
  obtain ⟨w, Fr, σ, S, ds, hs, hr, hp⟩ := h
  obtain ⟨d, e, hq⟩ := post_opt hp
  unfold bfV at e
  split at e <;> first
    | (rename_i heq; cases heq; done)
    | (cases e; done)
    | (obtain ⟨bs, e1, rfl⟩ := map_some e
       obtain ⟨v, rfl, h1⟩ := reps1 hr
       cases h1 with
       | lst h r =>
         have ev := blsOf_rep r e1
         subst ev
         exact ⟨_, bs, rfl, .of (hs.h0 _ _ h), hq.ok hs (.bl _)⟩)
theorem ok_sum (hc : X.calm = true) : CallR X (.builtin "sum") (rB g Wx .sum) := by
  refine CallR.imp (cr_sum hc) fun vs H Q h => ?_
  obtain ⟨w, Fr, σ, S, ds, hs, hr, hp⟩ := h
  obtain ⟨d, e, hq⟩ := post_opt hp
  unfold bfV at e
  split at e <;> first
    | (rename_i heq; cases heq; done)
    | (cases e; done)
    | (obtain ⟨bs, e1, rfl⟩ := map_some e
       obtain ⟨v, rfl, h1⟩ := reps1 hr
       cases h1 with
       | lst h r =>
         have ev := intsOf_rep r e1
         subst ev
         exact ⟨_, bs, rfl, .of (hs.h0 _ _ h), hq.ok hs (.int _)⟩)
theorem call_list_str' (hc : X.calm = true) : CallR X (.type "list") (fun xs H Q => ∃ z, xs = [.str (mkS z)] ∧ z.length ≤ sizeLine ∧ ∀ l, H l = none → Q (.ref l) (upd H l (.lst (z.map fun c => V.str ⟨#[c]⟩)))) := by
  intro pins s σ H xs us Q I r h
  obtain ⟨z, rfl, hz, q⟩ := h
  obtain ⟨u, rfl, rx⟩ := vals1 r
  obtain ⟨t, rfl⟩ := rx
  have hsz : (mkS z).cps.size = z.length := by simp [mkS]
  refine call_list_str (I.ok.hd hc) (mkS z) t (fun h' tk acc' c' k e ia => ?_) (by rw [hsz]; exact hz)
  have hv : Vals (z.map fun c => V.str ⟨#[c]⟩) acc'.toList := by
    have e1 : (z.map fun c => V.str ⟨#[c]⟩) = (List.range acc'.toList.length).map fun i => V.str ⟨#[z.getD i 0]⟩ := by
      apply List.ext_getElem?
      intro i
      rw [List.getElem?_map, List.getElem?_map, Array.length_toList, ia.1, hsz]
      by_cases hi : i < z.length
      · rw [List.getElem?_range hi]
        simp [hi]
      · rw [List.getElem?_eq_none (show z.length ≤ i by omega), List.getElem?_eq_none (by rw [List.length_range]; omega)]
        rfl
    rw [e1]
    refine vals_of_get acc'.toList _ fun j u hj => ?_
    obtain ⟨c, t', hc', rfl⟩ := ia.2 j u (by rw [← hj, Array.getElem?_toList])
    refine ⟨t', ?_⟩
    have : z[j]? = some c := by simpa [mkS] using hc'
    rw [List.getD_eq_getElem?_getD, this]
    rfl
  exact ⟨.ref _, _, I.laid (o := .lst _) (t' := tk) k (Nat.le_refl _) ⟨by rw [List.length_map]; exact hz, acc'.toList, c', hv, by simpa using e⟩, rfl, q _ (I.hok.fresh (Nat.le_refl _))⟩
theorem signs_rep {w : Wd} : ∀ {z : List Nat}, z.all (· < 0x110000) = true → Rgs g w (z.map fun c => D.str [c]) (z.map fun c => V.str ⟨#[c]⟩)
  | [], _ => .nil
  | c :: r, h => by
    rw [List.all_cons, Bool.and_eq_true] at h
    exact .cons (.str [c] (by rw [List.all_cons, h.1]; rfl) (Nat.le_trans (show 1 ≤ 16000000 by decide) sizeLine_ge)) (signs_rep h.2)
theorem ok_list (hc : X.calm = true) (hK : X.K = g.K) : CallR X (.type "list") (rB g Wx .list) := by
  refine CallR.imp (call_list_of.or (call_list_str' hc)) fun vs H Q h => ?_
  obtain ⟨w, Fr, σ, S, ds, hs, hr, hp⟩ := h
  obtain ⟨d, e, hq⟩ := post_opt hp
  unfold bfV at e
  split at e <;> first
    | (rename_i heq; cases heq; done)
    | (cases e; done)
    | (cases e
       obtain ⟨v, rfl, h1⟩ := reps1 hr
       first
         | (cases h1 with
            | lst h r =>
              refine .inl ⟨_, _, rfl, .inl (.of (hs.h0 _ _ h)), fun l nl => ?_⟩
              obtain ⟨s2, le⟩ := hs.data (o := .lst _) nl
              exact hq _ _ _ le s2 (.lst upd_same (r.mono le)))
         | (cases h1 with
            | tup h r =>
              refine .inl ⟨_, _, rfl, .inr (by rw [hK]; exact sqT_same hs.h0 h), fun l nl => ?_⟩
              obtain ⟨s2, le⟩ := hs.data (o := .lst _) nl
              exact hq _ _ _ le s2 (.lst upd_same (r.mono le)))
         | (cases h1 with
            | str _ h1 h2 =>
              refine .inr ⟨_, rfl, h2, fun l nl => ?_⟩
              obtain ⟨s2, le⟩ := hs.data (o := .lst _) nl
              exact hq _ _ _ le s2 (.lst upd_same (signs_rep h1))))
theorem ok_int : CallR X (.type "int") (rB g Wx .int) := by
  refine CallR.imp call_int1 fun vs H Q h => ?_
  obtain ⟨w, Fr, σ, S, ds, hs, hr, hp⟩ := h
  obtain ⟨d, e, hq⟩ := post_opt hp
  unfold bfV at e
  split at e <;> first
    | (rename_i heq; cases heq; done)
    | (cases e; done)
    | (cases e
       obtain ⟨v, rfl, h1⟩ := reps1 hr
       cases h1
       first
         | exact .inr ⟨_, rfl, hq.ok hs (.int _)⟩
         | exact .inl ⟨_, rfl, hq.ok hs (.int _)⟩)

/-! ### isinstance -/
def tyN : TY → String
  | .str => "str"
  | .int => "int"
  | .bool => "bool"
  | .tuple => "tuple"
theorem tyX_of {w : Wd} {Fr H : Hp} {S : Sto} {d : D} {v : V} {t : TY} {b : Bool} (hK : X.K = g.K) (hs : StOk g w Fr H S) (h : Rg g w d v) (e : isiV d t = some b) : ∃ T : String, TyX X.K H v (.type T) ∧ kitB T (tyN t) = some b := by
  have tupX : ∀ {a vs}, SqT g.K w.H0 a vs → TyX X.K H (.ref a) (.type "tuple") := fun {a vs} h => by
    rcases h with (h | ⟨o, h⟩) | ⟨o, its, n, h1, h2, _⟩
    · exact .base (.tup (hs.h0 _ _ h))
    · exact .fTuple (hs.h0 _ _ h)
    · exact .kTuple (by rw [hK]; exact h1) h2
  cases h with
  | non => cases t <;> cases e <;> exact ⟨_, .base .non, by decide +kernel⟩
  | bl _ => cases t <;> cases e <;> exact ⟨_, .base (.bl _), by decide +kernel⟩
  | int _ => cases t <;> cases e <;> exact ⟨_, .base (.int _), by decide +kernel⟩
  | str _ _ _ => cases t <;> cases e <;> exact ⟨_, .base (.str _), by decide +kernel⟩
  | lst h _ => cases t <;> cases e <;> exact ⟨_, .base (.lst (hs.h0 _ _ h)), by decide +kernel⟩
  | tup h _ => cases t <;> cases e <;> exact ⟨_, tupX h, by decide +kernel⟩
  | frz _ _ => cases t <;> cases e
  | dx _ _ => cases t <;> cases e
  | obj _ _ => cases t <;> cases e
  | any _ => cases t <;> cases e
  | own _ => cases t <;> cases e
  | fn _ => cases t <;> cases e

/-! ### methods -/
def rM (g : G) (Wx : WX) (m : MF) : V → List V → Hp → VK → Prop := fun v vs H Q => ∃ w Fr σ S x ds, StOk g w Fr H S ∧ Rg g w x v ∧ Rgs g w ds vs ∧
  Post g Wx (Rg g) w Fr σ (match mfV S m x ds with | some (d, S3) => .ok d S3 | none => .bad) Q
theorem post_mf {m : MF} {w : Wd} {Fr : Hp} {σ : L2.St} {S : Sto} {x : D} {ds : List D} {Q : VK} (h : Post g Wx (Rg g) w Fr σ (match mfV S m x ds with | some (d, S3) => .ok d S3 | none => .bad) Q) : ∃ d S3, mfV S m x ds = some (d, S3) ∧ Post g Wx (Rg g) w Fr σ (.ok d S3) Q := by
  cases e : mfV S m x ds with
  | none => rw [e] at h; exact False.elim h
  | some p => rw [e] at h; exact ⟨p.1, p.2, rfl, h⟩
theorem join_mk (ys : List (List Nat)) : Txt.join (mkS []) (ys.map mkS) = mkS ys.flatten := by
  apply TL.ext_tl
  rw [TL.join_eq, TL.tl_join]
  have e1 : (ys.map mkS).map TL.tl = ys := by
    rw [List.map_map]
    have : (TL.tl ∘ mkS) = id := by funext x; rfl
    rw [this, List.map_id]
  rw [e1]
  show TL.joinL [] ys = ys.flatten
  have : ∀ ys : List (List Nat), TL.joinL [] ys = ys.flatten := by
    intro ys
    induction ys with
    | nil => rfl
    | cons a r ih =>
      cases r with
      | nil => simp [TL.joinL]
      | cons b r => rw [TL.joinL, ih]; simp
  exact this ys
theorem ok_join (hK : X.K = g.K) : MtR X "str.join" (rM g Wx .join) := by
  refine MtR.imp mt_join fun v vs H Q h => ?_
  obtain ⟨w, Fr, σ, S, x, ds, hs, hx, hr, hp⟩ := h
  obtain ⟨d, S3, e, hq⟩ := post_mf hp
  unfold mfV at e
  split at e <;> first
    | (rename_i heq _ _; cases heq; done)
    | (rename_i heq; cases heq; done)
    | (cases e; done)
    | (rename_i sep xs _
       split at e
       · rename_i ys e1
         split at e
         · rename_i hl
           cases e
           obtain ⟨u, rfl, h1⟩ := reps1 hr
           cases hx
           cases h1 with
           | lst h r =>
             obtain ⟨ev, ha⟩ := strsOf_rep r e1
             subst ev
             have hall : ys.flatten.all (· < 0x110000) = true := by
               rw [List.all_eq_true]
               intro c hc
               obtain ⟨l, h1, h2⟩ := List.mem_flatten.mp hc
               exact List.all_eq_true.mp (ha l h1).1 c h2
             have hz : ((ys.map mkS).map (·.length)).sum = ys.flatten.length := by
               rw [List.length_flatten, List.map_map]
               exact congrArg List.sum (List.map_congr_left fun y _ => mkS_len y)
             refine ⟨mkS [], _, ys.map mkS, rfl, rfl, .inl (.of (hs.h0 _ _ h)), ?_, ?_⟩
             · rw [hz]
               show _ + _ * 0 ≤ _
               rw [Nat.mul_zero]
               exact Nat.le_trans hl (by decide)
             · rw [join_mk]
               exact hq.ok hs (rep_str hall (Nat.le_trans hl LIM_le))
         · cases e
       · cases e)
theorem ok_append : MtR X "list.append" (rM g Wx .append) := by
  refine MtR.imp (show MtR X "list.append" rAppend from mt_append) fun v vs H Q h => ?_
  obtain ⟨w, Fr, σ, S, x, ds, hs, hx, hr, hp⟩ := h
  obtain ⟨d, S3, e, hq⟩ := post_mf hp
  unfold mfV at e
  split at e <;> first
    | (rename_i heq _ _; cases heq; done)
    | (rename_i heq; cases heq; done)
    | (cases e; done)
    | (rename_i i y _
       split at e
       · rename_i xs hg
         split at e
         · rename_i hl
           cases e
           obtain ⟨u, rfl, h1⟩ := reps1 hr
           cases hx with
           | own ha =>
             obtain ⟨a, h1', h2, h3, vs, h4, h5⟩ := hs.live _ _ hg
             rw [ha] at h1'; cases h1'
             refine ⟨_, _, _, rfl, rfl, h4, ?_, ?_⟩
             · rw [← h5.length]; exact Nat.lt_of_lt_of_le hl LIM_le
             · exact hq _ _ _ (Wd.le.refl _) (hs.put hg ha fun H' e => ⟨_, e, h5.append (.cons h1 .nil)⟩) .non
         · cases e
       · cases e)
end
end Mn
end
section
set_option Elab.async false
set_option linter.all false
set_option maxRecDepth 100000
set_option maxHeartbeats 2000000
/-! Hot2: while an exception is handled: ends of iterators, zip walked, pairs taken apart, comprehensions. -/
namespace HotZ
open PySem PySem.Spec PyProof.Rows HotX
section
variable {prog : Program} {w : World} {A : Around} {E : Value → Shared → Prop} {s : Shared}
theorem stop_hot {α : Type} {y : Addr} {Q : α → Shared → Prop} (hot : HotAt A y s.heap)
    (hE : ∀ h' e, (∀ b o, s.heap.get? b = some o → h'.get? b = some o) → (∃ o, h'.get? e = some o ∧ o.cls = .type "StopIteration") → E (.ref e) { s with heap := h' }) :
    wpAny (model prog w) A (newExc (.type "StopIteration") [] >>= fun e => (raiseNew e : Sem α)) Q E s := by
  obtain ⟨hh, ob, us, g1, g2, g3⟩ := hot
  refine wpAny_bind ?_; simp only [newExc, newTuple]; refine wpAny_bind (wpAny_newObj_type ?_ (by size_fits))
  refine wpAny_bind (m := firstArgMember _ _) (wpAny_of_eq (a := Value.none) (by first | rfl | (simp only [firstArgMember]; rfl)) (wpAny_newObj_type ?_ (by size_fits)))
  refine raiseNew_hot ⟨hh, ob, us, Heap.get?_push_of_some _ (Heap.get?_push_of_some _ g1), g2, g3⟩ (Nat.ne_of_lt (Heap.lt_size (Heap.get?_push_of_some _ g1))) (Heap.get?_push_size _ rfl) rfl (by simp; omega) (hE _ _ (fun b o e => ?_) ⟨_, Heap.get?_update_self _ (Heap.get?_push_size _ rfl) rfl, rfl⟩)
  rw [Heap.get?_update_other _ _ (Nat.ne_of_gt (Heap.lt_size (Heap.get?_push_of_some _ e)))]; exact Heap.get?_push_of_some _ (Heap.get?_push_of_some _ e)
theorem hot_upd {y it : Addr} {h : Heap} {f : Obj → Obj} (hot : HotAt A y h) (hne : it ≠ y) : HotAt A y (h.update it f) := by
  obtain ⟨hh, ob, us, g1, g2, g3⟩ := hot
  exact ⟨hh, ob, us, by rw [Heap.get?_update_other _ _ hne]; exact g1, g2, g3⟩
theorem list_stop {it l y : Addr} {i : Nat} {items : Array Value} {Q : Value → Shared → Prop} (hot : HotAt A y s.heap) (hne : it ≠ y) (hit : s.heap.IsListIter it l i) (hl : s.heap.IsList l items) (hx : items[i]? = none)
    (hE : ∀ h' e, Heap.ExtBut it s.heap h' → (∃ o, h'.get? e = some o ∧ o.cls = .type "StopIteration") → E (.ref e) { s with heap := h' }) : wpAny (model prog w) A (Builtin.SmallTypes.nextOf (.ref it)) Q E s := by
  obtain ⟨o, ho, hc, hd⟩ := id hit
  obtain ⟨ol, hol, _, nl, hdl⟩ := hl
  unfold Builtin.SmallTypes.nextOf
  refine wpAny_bind (wpAny_callSpecial?_slot (name := Str.ofString "__next__") hit.typeIs slot_listiter_next (wpAny_call_entry slot_listiter_next hit.typeIs entry_listiter_next ?_ (args_listiter_next _)))
  show wpAny _ _ (field (.ref it) 0 >>= _) _ _ s; refine wpAny_bind (wpAny_field ho hd (x := .ref l) rfl ?_)
  show wpAny _ _ (if (Value.ref l == Value.none) = true then _ else _) _ _ s; rw [if_neg (show ¬ ((Value.ref l == Value.none) = true) from Bool.false_ne_true)]
  show wpAny _ _ (field (.ref it) 1 >>= _) _ _ s; refine wpAny_bind (wpAny_field ho hd (x := .int i 0) rfl ?_)
  show wpAny _ _ (seqItems? (.ref l) >>= _) _ _ s; refine wpAny_bind (wpAny_seqItems hol hdl ?_)
  simp only [Int.toNat_natCast, hx]
  refine wpAny_bind (wpAny_rule (wpAny_bind (wpAny_setField ho hd (by simp) (stop_hot (y := y) (hot_upd ⟨hot.1, hot.2⟩ hne) fun h' e k q => hE _ _ (fun b ob hb z => k b ob ?_) q))))
  rw [Heap.get?_update_other _ _ (Ne.symm hb)]; exact z
theorem draws_listH (it l y : Addr) (hne : l ≠ it) (hy : it ≠ y) (items : Array Value) :
    Draws prog w A it [it, l, y] items.size (fun i v => items[i]? = some v) (fun i h => h.IsListIter it l i ∧ h.IsList l items ∧ HotAt A y h) where
  live := fun _ _ st => let ⟨o, ho, _⟩ := st.1; ⟨o, ho⟩
  frame := fun _ _ _ st hk => ⟨st.1.at fun o e => hk it (by simp) o e, st.2.1.at fun o e => hk l (by simp) o e, by
    obtain ⟨hh, ob, us, g1, g2, g3⟩ := st.2.2
    exact ⟨hh, ob, us, hk y (by simp) _ g1, g2, g3⟩⟩
  item := fun i s Q E hi st hQ => by
    refine wpAny_nextOf_list_item st.1 st.2.1 (x := items[i]) (by simp [hi]) fun h' a b => hQ _ h' s.toks (by simp [hi]) ⟨a, st.2.1.extBut b.extBut hne, ?_⟩ b
    obtain ⟨hh, ob, us, g1, g2, g3⟩ := st.2.2
    exact ⟨hh, ob, us, b.extBut y _ (Ne.symm hy) g1, g2, g3⟩
  done := fun s Q E st hE => list_stop st.2.2 hy st.1 st.2.1 (by simp) hE
/-- a tuple's iterator at its end -/
theorem tup_stop {it t y : Addr} {i : Nat} {items : Array Value} {Q : Option Value → Shared → Prop} (hot : HotAt A y s.heap) (hne : it ≠ y) (hit : IsTupIter s.heap it t i) (ht : IsTup s.heap t items) (hx : items[i]? = none)
    (hQ : ∀ h', Heap.ExtBut it s.heap h' → Q none { s with heap := h' }) : wpAny (model prog w) A (pyNext (.ref it)) Q E s := by
  obtain ⟨o, ho, hc, hd⟩ := id hit
  obtain ⟨ol, hol, _, nl, hdl⟩ := ht
  unfold pyNext
  refine wpAny_bind (wpAny_attempt (wpAny_callSpecial?_slot (name := Str.ofString "__next__") hit.typeIs slot_tupleiter_next (wpAny_call_entry slot_tupleiter_next hit.typeIs entry_tupleiter_next ?_ (args_tupleiter_next _))))
  show wpAny _ _ (field (.ref it) 0 >>= _) _ _ s; refine wpAny_bind (wpAny_field ho hd (x := .ref t) rfl ?_)
  show wpAny _ _ (if (Value.ref t == Value.none) = true then _ else _) _ _ s; rw [if_neg (show ¬ ((Value.ref t == Value.none) = true) from Bool.false_ne_true)]
  show wpAny _ _ (field (.ref it) 1 >>= _) _ _ s; refine wpAny_bind (wpAny_field ho hd (x := .int i 0) rfl ?_)
  show wpAny _ _ (seqItems? (.ref t) >>= _) _ _ s; refine wpAny_bind (wpAny_seqItems hol hdl ?_)
  simp only [Int.toNat_natCast, hx]
  refine wpAny_bind (wpAny_rule (wpAny_bind (wpAny_setField ho hd (by simp) (stop_hot (y := y) (hot_upd ⟨hot.1, hot.2⟩ hne) fun h' e k q => ?_))))
  obtain ⟨o', ho', hc'⟩ := q
  refine wpAny_bind (wpAny_isInstance (T := "StopIteration") (b := true) ⟨o', ho', hc'⟩ isSubtype_stop (wpAny_pure (hQ _ fun b ob hb z => k b ob ?_)))
  rw [Heap.get?_update_other _ _ (Ne.symm hb)]; exact z
theorem hot_ext {y : Addr} {h h' : Heap} (hot : HotAt A y h) (k : ∀ o, h.get? y = some o → h'.get? y = some o) : HotAt A y h' := by
  obtain ⟨hh, ob, us, g1, g2, g3⟩ := hot
  exact ⟨hh, ob, us, k _ g1, g2, g3⟩
theorem items_tupH {t y : Addr} {items : Array Value} {Q : List Value → Shared → Prop} (hot : HotAt A y s.heap) (ht : IsTup s.heap t items) (hQ : ∀ h', Heap.ExtBut s.heap.objs.size s.heap h' → Q items.toList { s with heap := h' }) : wpAny (model prog w) A (unpackItems (.ref t) items.size none) Q E s := by
  have hlt : t ≠ s.heap.objs.size := by obtain ⟨o, ho, _⟩ := ht; exact Nat.ne_of_lt (Heap.lt_size ho)
  have hyl : y < s.heap.objs.size := by obtain ⟨_, ob, us, g1, _⟩ := hot; exact Heap.lt_size g1
  unfold unpackItems; refine wpAny_bind ?_; unfold notIterableAtAll
  refine wpAny_bind (wpAny_specialOf ht.typeIs slot_tuple_iter.lookup (wpAny_pure ?_)); simp only [Bool.false_eq_true, if_false]
  refine wpAny_bind (wpAny_holding (iter_tuple ht (wpAny_bind (wpAny_holding (draw_tuple hlt items.size 0 _ _ ⟨_, Heap.get?_push_size _ rfl, rfl, rfl⟩ (ht.push _) (by omega) fun h1 i1 k1 => ?_)))))
  have all : List.take items.size (List.drop 0 items.toList) = items.toList := by rw [List.drop_zero]; exact List.take_of_length_le (by simp)
  rw [all, if_neg (by simp)]
  refine wpAny_bind (wpAny_holding (tup_stop (y := y) (hot_ext hot fun o e => k1.extBut _ _ (Nat.ne_of_lt hyl) (Heap.get?_push_of_some _ e)) (Nat.ne_of_gt hyl) i1 ((ht.push _).extBut k1.extBut hlt) (by simp) fun h2 k2 => ?_))
  simp only [Option.isSome_none, Bool.false_eq_true, if_false]
  exact wpAny_pure (hQ h2 fun b o hb e => k2 b o hb (k1.extBut b o hb (Heap.get?_push_of_some _ e)))
theorem assign_tupH {env : Env} {elts : List Expr} {k : Nat} {pos : Pos} {t y : Addr} {items : Array Value} {Q : Unit → Shared → Prop} (hot : HotAt A y s.heap) (ht : IsTup s.heap t items) (hn : (assignEach elts env).length = items.size) (hst : (assignEach elts env).findIdx? (·.1) = none)
    (h : ∀ h', Heap.ExtBut s.heap.objs.size s.heap h' → wpAny (model prog w) A (assignInOrder ((assignEach elts env).map (·.2)) items.toList) Q E { s with heap := h' }) : wpAny (model prog w) A (assign (.Tuple elts k pos) env (.ref t)) Q E s := by
  rw [assign_Tuple]; refine wpAny_bind (wpAny_standAt ?_); unfold unpack; rw [hn, hst]
  exact wpAny_bind (wpAny_holding (items_tupH hot ht h))
end
open L2 L2H
/-- as Itz, its end told closer -/
def ItzH (K : PySem.W.Frag) (a b : Addr) : It :=
  ⟨(Itz K a b).go, (Itz K a b).yld, fun i H => ∃ xs ys : List V, SqL K H a xs ∧ SqL K H b ys ∧ i ≤ xs.length ∧ i ≤ ys.length ∧ (i = xs.length ∨ i = ys.length)⟩
/-- zip of two lists walked -/
theorem turn_zipH {P : Program} {w : World} {K : PySem.W.Frag} {elts : List Expr} {kk : Nat} {tpos : Pos} {a b z TI TO i1 i2 : Addr} (D : ZipApart z TI TO i1 i2 a b) :
    TurnH P w K (.Tuple elts kk tpos) (ItzH K a b) [z, TI, TO, i1, i2] z (fun i h => IsZip h z TI TO .none ∧ IsPair h TI (.ref i1) (.ref i2) ∧ (∃ x y, IsPair h TO x y) ∧ h.IsListIter i1 a i ∧ h.IsListIter i2 b i) where
  mem := by simp
  obj := fun i h st => (turn_zip (P := P) (w := w) (K := K) (elts := elts) (kk := kk) (tpos := tpos) D).obj i h st
  keep := fun i h h' st => (turn_zip (P := P) (w := w) (K := K) (elts := elts) (kk := kk) (tpos := tpos) D).keep i h h' st
  self := fun A i s Q E st => (turn_zip (P := P) (w := w) (K := K) (elts := elts) (kk := kk) (tpos := tpos) D).self A i s Q E st
  item := by
    intro X eP ew eK hc i pins s σ H E I hf st hg
    subst eP ew eK
    obtain ⟨hz, hTI, ⟨x0, y0, hTO⟩, h1, h2⟩ := st
    obtain ⟨xs, ys, x, y, qx, qy, ex, ey⟩ := hg
    obtain ⟨us, r1, p1, _⟩ := I.list qx
    obtain ⟨ws, r2, p2, _⟩ := I.list qy
    obtain ⟨u, eu, ru⟩ := r1.get ex
    obtain ⟨u2, eu2, ru2⟩ := r2.get ey
    have zl : z < s.heap.objs.size := Heap.lt_size hz
    refine wpAny_pyNext_zip_item D hz hTI hTO h1 h2 p1.isList p2.isList (x := u) (y := u2) (by simpa using eu) (by simpa using eu2) fun g1 zz tt k1 k2 hT _ hk => ?_
    refine ⟨_, rfl, wpAny_letOwnedTupleGo_zip (s := { s with heap := g1 }) zz fun g2 z2 sb => ?_⟩
    have hT2 : g2.get? s.heap.objs.size = some { cls := .type "tuple", data := .seq #[u, u2] } := (sb.2 _ (Nat.ne_of_gt zl)).trans hT
    have new : ObjOk X.prog X.w (upd H s.heap.objs.size (.tup [x, y])) g2 s.heap.objs.size (.tup [x, y]) := ⟨by show 2 ≤ sizeLine; decide, [u, u2], .cons ru (.cons ru2 .nil), ⟨_, hT2, rfl, _, rfl⟩⟩
    have I1 : Inv X pins σ (upd H s.heap.objs.size (.tup [x, y])) { s with heap := g2 } :=
      I.turnedNew (t' := s.toks) (ch := [z, TI, TO, i1, i2]) (fun c o hb q => by
        simp only [List.mem_cons, List.not_mem_nil, or_false, not_or] at hb
        exact (sb.2 c hb.1).trans (hk c o hb.1 hb.2.2.1 hb.2.2.2.1 hb.2.2.2.2 q)) hf (Nat.le_refl _) new
    refine ⟨.ref s.heap.objs.size, _, I1, rfl, ⟨_, x, y, rfl, I.hok.fresh (Nat.le_refl _), rfl, fun l hl => by rw [I.list_inj hl qx]; exact ex, fun l hl => by rw [I.list_inj hl qy]; exact ey⟩, ⟨z2, ?_, ⟨u, u2, ?_⟩, ?_, ?_⟩, fun c hcm => ?_⟩
    · exact (sb.2 _ D.TIz).trans (hk _ _ D.TIz D.TITO D.TIi1 D.TIi2 hTI)
    · exact (sb.2 _ D.TOz).trans tt
    · exact k1.at fun o q => (sb.2 _ D.i1z).trans q
    · exact k2.at fun o q => (sb.2 _ D.i2z).trans q
    · obtain ⟨o, eo, _⟩ := (turn_zip (P := X.prog) (w := X.w) (K := X.K) (elts := elts) (kk := kk) (tpos := tpos) D).obj i s.heap ⟨hz, hTI, ⟨x0, y0, hTO⟩, h1, h2⟩ c hcm
      rw [upd_ne (Nat.ne_of_lt (Heap.lt_size eo))]
      exact (hf c hcm).1
  done := by
    intro X eP ew eK hc i pins s σ H E I hf st hg
    subst eP ew eK
    obtain ⟨hz, hTI, ⟨x0, y0, hTO⟩, h1, h2⟩ := st
    obtain ⟨xs, ys, qx, qy, le1, le2, hend⟩ := hg
    obtain ⟨us, r1, p1, _⟩ := I.list qx
    obtain ⟨ws, r2, p2, _⟩ := I.list qy
    have l1 := r1.length
    have l2 := r2.length
    obtain ⟨⟨y, oy⟩, h1y, hp⟩ := hc
    have py := (I.pin (y, oy) (List.mem_append_left _ hp)).1
    have hot : HotAt X.A y s.heap := by
      obtain ⟨hh, vs, d, c⟩ := h1y
      exact ⟨hh, oy, vs, py, d, c⟩
    have ny : ∀ c ∈ [z, TI, TO, i1, i2], c ≠ y := fun c hcm q => (hf c hcm).2.2.2.2.2 (y, oy) (List.mem_append_left _ hp) q.symm
    have S : ZipSep2 z TI TO i1 i2 [i1, a, y] [i2, b, y] :=
      { TIz := D.TIz, TOz := D.TOz, TITO := D.TITO, TIi1 := D.TIi1, mem1 := by simp, TIi2 := D.TIi2, mem2 := by simp
        zf1 := by simp only [List.mem_cons, List.not_mem_nil, or_false, not_or]; exact ⟨D.i1z.symm, D.l1z.symm, ny z (by simp)⟩
        zf2 := by simp only [List.mem_cons, List.not_mem_nil, or_false, not_or]; exact ⟨D.i2z.symm, D.l2z.symm, ny z (by simp)⟩
        Tf1 := by simp only [List.mem_cons, List.not_mem_nil, or_false, not_or]; exact ⟨D.TOi1, D.l1TO.symm, ny TO (by simp)⟩
        Tf2 := by simp only [List.mem_cons, List.not_mem_nil, or_false, not_or]; exact ⟨D.TOi2, D.l2TO.symm, ny TO (by simp)⟩
        sep1_2 := by simp only [List.mem_cons, List.not_mem_nil, or_false, not_or]; exact ⟨D.i12, D.l2i1.symm, ny i1 (by simp)⟩
        sep2_1 := by simp only [List.mem_cons, List.not_mem_nil, or_false, not_or]; exact ⟨D.i12.symm, D.l1i2.symm, ny i2 (by simp)⟩ }
    refine wpAny_pyNext_zipD2_end S (draws_listH i1 a y D.l1i1 (ny i1 (by simp)) us.toArray) (draws_listH i2 b y D.l2i2 (ny i2 (by simp)) ws.toArray) hz hTI hTO ⟨h1, p1.isList, hot⟩ ⟨h2, p2.isList, hot⟩ (by simp; omega) (by simp; omega) (by simp; omega) fun h' tk hk => ⟨rfl, ?_⟩
    refine I.turnedL (t' := tk) (ch := [z, TI, TO, i1, i2]) (fun c o hb q => ?_) hf
    simp only [List.mem_cons, List.not_mem_nil, or_false, not_or] at hb
    exact hk c o hb.1 hb.2.2.1 hb.2.2.2.1 hb.2.2.2.2 q
section
variable {X : Cx} {tg : Expr}
theorem HotC.tr {X : Cx} {s : Shared} {H : Hp} {scope : Scope} {ce : Env} {fp : List Addr} {p : Addr × Obj} (h : Hot1 X.A p) : HotC ((X.blk s H scope ce fp).tr [p] fun _ _ => False) := ⟨p, h, List.mem_cons_self⟩
theorem pi_zipH {e e2 : Expr} {ta : TA} {p pos tpos : Pos} {elts : List Expr} {kk : Nat} (hg : Gl X "zip") (hm : X.mg "zip" = none) (ha : PA X [e, e2] ta)
    (hs : starEach [e, e2] X.env = (false, eval e X.env) :: starEach [e2] X.env) (hpl : (backTo pos (starEach [e2] X.env)).any (·.1) = false) :
    PIH X (.Tuple elts kk tpos) (.Call (.Name "zip" p) [e, e2] [] pos) (fun σ H R => ta σ H fun vs H1 => ∃ a b xs ys, vs = [.ref a, .ref b] ∧ SqL X.K H1 a xs ∧ SqL X.K H1 b ys ∧ R (ItzH X.K a b) H1) := by
  refine ⟨fun pins s σ H R I h => Call_ (ld_blt I hg hm PyProof.Rows.boot_zip (PyProof.Rows.callWith_type1 (thn (ha.run pos pins s σ H _ I h) fun us s1 ⟨vs, H1, I1, r1, q1⟩ => ?_) hs hpl))⟩
  obtain ⟨a, b, xs, ys, rfl, qx, qy, q⟩ := q1
  obtain ⟨v1, v2, rfl, k1, k2⟩ := vals2 r1
  cases k1
  cases k2
  obtain ⟨us, rx, p1, _⟩ := I1.list qx
  obtain ⟨ws, ry, p2, _⟩ := I1.list qy
  refine call_zip_2 p1.isList p2.isList fun h' hz hTI hTO h1 h2 hsz hk => wpAny_pyIter_zip hz ⟨s1.heap.objs.size + 4, [s1.heap.objs.size + 4, s1.heap.objs.size + 2, s1.heap.objs.size + 3, s1.heap.objs.size, s1.heap.objs.size + 1], _, _, H1, rfl, I1.kept (t' := s1.toks) hk, turn_zipH (PySem.W.ktu_apart s1.heap.objs.size a b p1.lt p2.lt), ⟨hz, hTI, ⟨_, _, hTO⟩, h1, h2⟩, fun c hcm => ?_, q⟩
  have hle : s1.heap.objs.size ≤ c := by
    simp only [List.mem_cons, List.not_mem_nil, or_false] at hcm
    rcases hcm with rfl | rfl | rfl | rfl | rfl
    iterate 3 exact Nat.le_add_right _ _
    · exact Nat.le_refl _
    · exact Nat.le_add_right _ _
  exact I1.fpOk hle (I1.hok.fresh hle)
theorem pg_tupH {es : List Expr} {k : Nat} {pos : Pos} {t : TGs} {n : Nat} (hc : HotC X) (h : PGs X es t) (hn : (assignEach es X.env).length = n) (hst : (assignEach es X.env).findIdx? (·.1) = none) : PG X (.Tuple es k pos) (gTup X.K n t) := by
  refine ⟨fun pins s σ H v u Q I r hw => ?_⟩
  obtain ⟨a, xs, rfl, hq, hl, hw⟩ := hw
  cases r
  obtain ⟨its, rv, ht, hz⟩ := I.tuple hq
  obtain ⟨y, hot⟩ := hc.at I
  refine assign_tupH hot ht (by simp [hn, ← hl, rv.length]) hst fun h' hx => ?_
  exact h.run pins _ σ H xs _ Q (I.kept (t' := s.toks) fun b o e => hx b o (Nat.ne_of_lt (Heap.lt_size e)) e) (by simpa using rv) hw
theorem pe_lcH {elt iter : Expr} {ifs : List Expr} {scope : Scope} {own : List (Str × Nat)} {pos : Pos} {wi : TI} {g : TG} {tt : TT} {te : TE} (hc : HotC X) (hN : X.N.Nodup) (hi : PIH X tg iter wi) (ok : BlkOk X.N X.env.scope scope own)
    (hg : ∀ (s : Shared) (H : Hp) (C : Addr) (cl : List (Str × Addr)) (fp : List Addr) (p : Addr × Obj), Hot1 X.A p → PG ((X.blk s H scope (compEnvC scope cl C X.env) fp).tr [p] fun _ _ => False) tg g)
    (ht : ∀ (s : Shared) (H : Hp) (C : Addr) (cl : List (Str × Addr)) (fp : List Addr) (p : Addr × Obj), Hot1 X.A p → PTs ((X.blk s H scope (compEnvC scope cl C X.env) fp).tr [p] fun _ _ => False) ifs tt)
    (he : ∀ (s : Shared) (H : Hp) (C : Addr) (cl : List (Str × Addr)) (fp : List Addr) (p : Addr × Obj), Hot1 X.A p → PE ((X.blk s H scope (compEnvC scope cl C X.env) fp).tr [p] fun _ _ => False) elt te) (hs : ∀ x, foldedSetIterable iter X.env x = pure x) :
    PE X (.ListComp elt [⟨tg, iter, ifs, 0⟩] scope pos) (tLc wi g tt te (own.map (·.2))) := by
  refine ⟨fun pins s σ H Q I h => ?_⟩
  obtain ⟨p, hot1, hpn⟩ := hc
  have hfree : ∀ y ∈ scope.names, y.2 = .free → ∃ c, X.env.cells.lookup y.1 = some c := fun y hy e => (ok.free y hy e).elim (fun k => I.ok.has _ (.inl k)) fun k => I.ok.has _ (.inr k)
  rw [eval_ListComp]
  refine wpAny_comprehension_free (use := none) rfl hs (closure_ok hfree) ok.kind (fun y hy e => by rw [ok.uniq y hy, e]) (thn (hi.run pins s σ H _ I h) fun xv s1 hx => thn hx fun itv s2 h2 => ?_)
  obtain ⟨it, fp, tn, J, H2, rfl, I2, T, st2, f2, q⟩ := h2
  refine wpAny_newObj_type (newEnv_comp ?_) (by show 0 ≤ sizeLine; decide)
  generalize hD : s2.heap.objs.size = Da
  have hDn : H2 Da = none := I2.hok.fresh (Nat.le_of_eq hD)
  obtain ⟨W, ⟨m0, w0⟩, turn⟩ := q Da hDn
  generalize hs3 : ({ s2 with heap := s2.heap.push { cls := .type "list", data := .seq ([] : List Value).toArray } } : Shared) = s3
  have I3 : Inv X pins σ (upd H2 Da (.lst [])) s3 := by
    rw [← hs3]; refine I2.laid (t' := s2.toks) (fun b o e => Heap.get?_push_of_some _ e) (Nat.le_of_eq hD) ⟨Nat.zero_le _, [], 0, .nil, ?_⟩
    rw [← hD]; exact Heap.get?_push_size _ rfl
  have h3 : s3.heap = s2.heap.push { cls := .type "list", data := .seq ([] : List Value).toArray } := by rw [← hs3]
  have f3 : ∀ b ∈ fp, FpOk X pins (upd H2 Da (.lst [])) b ∧ b < s3.heap.objs.size := fun b hb => by
    obtain ⟨o, e, _⟩ := T.obj _ _ st2 b hb
    have hlt := Heap.lt_size e
    exact ⟨⟨by rw [upd_ne (by rw [← hD]; exact Nat.ne_of_lt hlt)]; exact (f2 b hb).1, (f2 b hb).2⟩, by rw [h3, Heap.size_push]; exact Nat.lt_succ_of_lt hlt⟩
  have st3 : tn 0 s3.heap := T.keep _ _ _ st2 fun b _ o e => by rw [h3]; exact Heap.get?_push_of_some _ e
  have I4 := block_start I3 ok hN f3
  obtain ⟨p1, p2, p3, p4, p5⟩ := I3.pin p (List.mem_append_left _ hpn)
  have pl : p.1 < s3.heap.objs.size := Heap.lt_size p1
  have pstk : p.1 ∉ frs X.stack := by
    rcases I3.ok.stk with e | ⟨e, ef⟩
    · rw [e]; exact p4
    · rw [e]
      intro hm
      obtain ⟨ev, hev, qe⟩ := List.mem_filterMap.mp hm
      rcases List.mem_cons.mp hev with rfl | hev
      · rw [ef] at qe; exact p3 (Option.some.inj qe).symm
      · exact p4 (List.mem_filterMap.mpr ⟨ev, hev, qe⟩)
  show codeAny _ _ (.compStart (.ListComp elt [⟨tg, iter, ifs, 0⟩] scope pos) 0 (.ref it) (.ref Da) (compEnvC scope (cellsFrom (s3.heap.objs.size + 1) scope.names (cloFrom X.env.cells scope.names [])) s3.heap.objs.size X.env)) _ _
  have pg := hg s3 (upd H2 Da (.lst [])) s3.heap.objs.size (cellsFrom (s3.heap.objs.size + 1) scope.names (cloFrom X.env.cells scope.names [])) fp p hot1
  have pt := ht s3 (upd H2 Da (.lst [])) s3.heap.objs.size (cellsFrom (s3.heap.objs.size + 1) scope.names (cloFrom X.env.cells scope.names [])) fp p hot1
  have pe := he s3 (upd H2 Da (.lst [])) s3.heap.objs.size (cellsFrom (s3.heap.objs.size + 1) scope.names (cloFrom X.env.cells scope.names [])) fp p hot1
  generalize hce : compEnvC scope (cellsFrom (s3.heap.objs.size + 1) scope.names (cloFrom X.env.cells scope.names [])) s3.heap.objs.size X.env = ce at I4 pg pt pe ⊢
  have cL : ce.locals = s3.heap.objs.size := by subst hce; rfl
  generalize hH3 : upd H2 Da (.lst []) = H3 at I3 I4 pg pt pe w0 f3 p2
  generalize hs4 : ({ s3 with heap := pushCells (s3.heap.push { cls := .type "dict", data := .dict #[] }) scope.names } : Shared) = s4 at I4 ⊢
  have kp4 : ∀ b o, s3.heap.get? b = some o → s4.heap.get? b = some o := fun b o e => by rw [← hs4]; exact pushCells_keeps _ _ _ _ (Heap.get?_push_of_some _ e)
  have I5 : Inv ((X.blk s3 H3 scope ce fp).tr [p] fun _ _ => False) [] (wipe σ (own.map (·.2))) H3 s4 :=
    (I4.pins_of (pins' := [p]) fun p' hp' => by
      obtain rfl : p' = p := by simpa using hp'
      exact ⟨kp4 _ _ p1, p2, by show p'.1 ≠ ce.locals; rw [cL]; exact Nat.ne_of_lt pl, pstk, p5⟩).toTry _
  have nfp : ∀ b ∈ fp, H3 b = none := fun b hb => (f3 b hb).1.1
  have st4 : tn 0 s4.heap := T.keep _ _ _ st3 fun b _ o e => kp4 b o e
  have hotB : HotC ((X.blk s3 H3 scope ce fp).tr [p] fun _ _ => False) := HotC.tr hot1
  have stat : ∀ {σ' : L2.St} {H' : Hp} {s' : Shared}, Inv ((X.blk s3 H3 scope ce fp).tr [p] fun _ _ => False) [] σ' H' s' → (∀ b ∈ fp, H' b = none) → ∀ b ∈ fp, FpOk ((X.blk s3 H3 scope ce fp).tr [p] fun _ _ => False) [] H' b := fun {σ' H' s'} I' hn b hb =>
    ⟨hn b hb, (I'.ok.exf b hb).1, I'.ok.exfs b hb, .inl hb, fun x c e => (I'.ok.exf b hb).2 x c e, fun q hq => by
      obtain rfl : q = p := by simpa using hq
      exact (f3 b hb).1.2.2.2.2.2 q (List.mem_append_left _ hpn)⟩
  have loop : codeAny (model X.prog X.w) X.A (.compLoop (.ListComp elt [⟨tg, iter, ifs, 0⟩] scope pos) 0 (.ref it) (.ref Da) ce) (compPost (model X.prog X.w) X.A X.xe none (EP X pins σ Q) (.ref Da) s3.heap.objs.size) s4 := by
    refine compLoop_any (fun n s' => ∃ i H', Inv ((X.blk s3 H3 scope ce fp).tr [p] fun _ _ => False) [] (wipe σ (own.map (·.2))) H' s' ∧ tn i s'.heap ∧ (∀ b ∈ fp, H' b = none) ∧ W i n H') ?_ m0 ⟨0, H3, I5, st4, nfp, w0⟩
    rintro n s5 ⟨i, H5, J5, st5, n5, w5⟩
    rcases turn i n H5 w5 with ⟨stop, qq⟩ | ⟨go, Nx, hNx, step⟩
    · refine thnF (T.done ((X.blk s3 H3 scope ce fp).tr [p] fun _ _ => False) rfl rfl rfl hotB i [] s5 _ H5 (fun _ _ => False) J5 (stat J5 n5) st5 stop) fun r s6 ⟨hr, J6⟩ => ?_
      subst hr
      have I7 : Inv X pins σ H5 s6 := I3.call' (ch := fp) J6.os J6.base J6.hok J6.bare fun b hb => ⟨(f3 b hb).1.2.2.2.1, (f3 b hb).1.2.1, (f3 b hb).1.2.2.2.2.1, (f3 b hb).1.2.2.2.2.2⟩
      have nC : H5 s3.heap.objs.size = none := by rw [← cL]; exact J6.free
      obtain ⟨m, hn, _⟩ := J6.loc
      have hn : s6.heap.Ns ce.locals m := hn
      rw [cL] at hn
      obtain ⟨f0, f1, f2', f3', f4, f5⟩ := I3.fpOk (H' := H5) (Nat.le_refl _) nC
      exact ⟨m, hn, fun h'' sb => ⟨.ref Da, H5, I7.turned (t' := s6.toks) (fun b o hb e => (sb.2 b hb).trans e) f0 f1 f3' f4 f5, rfl, qq⟩⟩
    · refine thnF (T.item ((X.blk s3 H3 scope ce fp).tr [p] fun _ _ => False) rfl rfl rfl hotB i [] s5 _ H5 (fun _ _ => False) J5 (stat J5 n5) st5 go) fun r s6 ⟨u, hr, h6⟩ => ?_
      subst hr
      refine thnF h6 fun _ s7 ⟨x, H7, J7, r7, y7, st7, n7⟩ => ?_
      have J7' := J7.pinned (stat J7 n7) (T.obj _ _ st7)
      refine thnF (pg.run _ s7 _ H7 x u _ J7' r7 (step x H7 y7)) fun _ s8 ⟨σ8, H8, J8, hw8, q8⟩ => ?_
      refine thnF (pt.run _ s8 σ8 H8 _ J8 q8) fun b s9 ⟨H9, J9, q9⟩ => ?_
      have fin : ∀ {s' : Shared} {H' : Hp}, Inv ((X.blk s3 H3 scope ce fp).tr [p] fun _ _ => False) ([] ++ pinsAt fp s7.heap) σ8 H' s' → Nx H' → ∃ m, m < n ∧ ∃ i H', Inv ((X.blk s3 H3 scope ce fp).tr [p] fun _ _ => False) [] (wipe σ (own.map (·.2))) H' s' ∧ tn i s'.heap ∧ (∀ b ∈ fp, H' b = none) ∧ W i m H' := fun {s' H'} I' nx => by
        obtain ⟨m', hm, w'⟩ := hNx H' nx
        have pin' : ∀ b ∈ fp, ∀ o, s7.heap.get? b = some o → s'.heap.get? b = some o ∧ H' b = none := fun b hb o e =>
          let z := I'.pin (b, o) (List.mem_append_right _ (List.mem_append_right _ (mem_pinsAt hb e)))
          ⟨z.1, z.2.1⟩
        refine ⟨m', hm, i + 1, H', (I'.unpinned (pins := [])).weak (by rw [← hw8, wipe_length]) (fun j v e => ?_), T.keep _ _ _ st7 fun b hb o e => (pin' b hb o e).1, fun b hb => ?_, w'⟩
        · rw [← hw8] at e; exact (wipe_some e).1
        · obtain ⟨o, e, _⟩ := T.obj _ _ st7 b hb
          exact (pin' b hb o e).2
      cases b with
      | false => simp only [Bool.false_eq_true, if_false] at q9 ⊢; exact fin J9 q9
      | true =>
        simp only [if_true] at q9 ⊢
        refine thnF (pe.run _ s9 σ8 H9 _ J9 q9) fun z s10 ⟨yv, H10, J10, r10, acc, hD10, hz10, nx⟩ => ?_
        exact app_ok (X := (X.blk s3 H3 scope ce fp).tr [p] fun _ _ => False) J10 hD10 hz10 r10 fun s11 J11 => fin J11 nx
  exact codeAny_compStart_list loop (T.self X.A 0 _ _ _ st4 loop)
end
end HotZ
end
section
set_option Elab.async false
set_option linter.all false
set_option maxRecDepth 100000
set_option maxHeartbeats 2000000
/-! Hand2: zip of two texts walked; a call by an expression that gives a def; list.count of truth values. -/
namespace HotZ
open PySem PySem.Spec PyProof.Rows HotX L2 L2H

/-! ### zip of texts -/
def ItzS (x y : Str) : It :=
  ⟨fun i _ => i < x.cps.size ∧ i < y.cps.size, fun i H v H' => ∃ (T : Addr) (c d : Nat), v = .ref T ∧ H T = none ∧ H' = upd H T (.tup [.str ⟨#[c]⟩, .str ⟨#[d]⟩]) ∧ x.cps[i]? = some c ∧ y.cps[i]? = some d,
    fun i _ => i ≤ x.cps.size ∧ i ≤ y.cps.size ∧ (i = x.cps.size ∨ i = y.cps.size)⟩
theorem sep_five {N : Nat} : ZipSep2 (N + 4) (N + 2) (N + 3) N (N + 1) [N] [N + 1] :=
  zip_sep2 (fp1 := []) (fp2 := []) (fun _ h => nomatch h) (fun _ h => nomatch h)
theorem turn_zipS {P : Program} {w : World} {K : PySem.W.Frag} {elts : List Expr} {kk : Nat} {tpos : Pos} {z TI TO i1 i2 : Addr} {x y : Str} {t u : Tok} (D : ZipSep2 z TI TO i1 i2 [i1] [i2]) :
    Turn P w K (.Tuple elts kk tpos) (ItzS x y) [z, TI, TO, i1, i2] z (fun i h => IsZip h z TI TO .none ∧ IsPair h TI (.ref i1) (.ref i2) ∧ (∃ a b, IsPair h TO a b) ∧ h.IsStrIter i1 (strIterType x) x t i ∧ h.IsStrIter i2 (strIterType y) y u i) where
  mem := by simp
  obj := fun i h st c hc => by
    obtain ⟨hz, hTI, ⟨a, b, hTO⟩, ⟨o1, e1, _, d1⟩, ⟨o2, e2, _, d2⟩⟩ := st
    simp only [List.mem_cons, List.not_mem_nil, or_false] at hc
    rcases hc with rfl | rfl | rfl | rfl | rfl
    · exact ⟨_, hz, fun v q => nomatch q⟩
    · exact ⟨_, hTI, fun v q => nomatch q⟩
    · exact ⟨_, hTO, fun v q => nomatch q⟩
    · exact ⟨o1, e1, fun v q => by rw [d1] at q; cases q⟩
    · exact ⟨o2, e2, fun v q => by rw [d2] at q; cases q⟩
  keep := fun i h h' st k => by
    obtain ⟨hz, hTI, ⟨a, b, hTO⟩, ⟨o1, e1, r1⟩, ⟨o2, e2, r2⟩⟩ := st
    exact ⟨k z (by simp) _ hz, k TI (by simp) _ hTI, ⟨a, b, k TO (by simp) _ hTO⟩, ⟨o1, k i1 (by simp) _ e1, r1⟩, ⟨o2, k i2 (by simp) _ e2, r2⟩⟩
  self := fun A i s Q E st h => wpAny_pyIter_zip st.1 h
  item := by
    intro X eP ew eK hc i pins s σ H E I hf st hg
    subst eP ew eK
    obtain ⟨hz, hTI, ⟨x0, y0, hTO⟩, h1, h2⟩ := st
    have hh : X.A.in1.handled = none := I.ok.hd hc
    have zl : z < s.heap.objs.size := Heap.lt_size hz
    refine wpAny_pyNext_zipD2_item D (Draws.text hh i1 x t) (Draws.text hh i2 y u) hz hTI hTO h1 h2 hg.1 hg.2 fun v1 v2 g1 tk ⟨c, t1, ec, ev⟩ ⟨d, t2, ed, ew⟩ zz tt k1 k2 hT _ hk => ?_
    subst ev ew
    refine ⟨_, rfl, wpAny_letOwnedTupleGo_zip (s := { s with heap := g1, toks := tk }) zz fun g2 z2 sb => ?_⟩
    have hT2 : g2.get? s.heap.objs.size = some { cls := .type "tuple", data := .seq #[.str ⟨#[c]⟩ t1, .str ⟨#[d]⟩ t2] } := (sb.2 _ (Nat.ne_of_gt zl)).trans hT
    have new : ObjOk X.prog X.w (upd H s.heap.objs.size (.tup [.str ⟨#[c]⟩, .str ⟨#[d]⟩])) g2 s.heap.objs.size (.tup [.str ⟨#[c]⟩, .str ⟨#[d]⟩]) :=
      ⟨by show 2 ≤ sizeLine; decide, [.str ⟨#[c]⟩ t1, .str ⟨#[d]⟩ t2], .cons ⟨_, rfl⟩ (.cons ⟨_, rfl⟩ .nil), ⟨_, hT2, rfl, _, rfl⟩⟩
    have I1 : Inv X pins σ (upd H s.heap.objs.size (.tup [.str ⟨#[c]⟩, .str ⟨#[d]⟩])) { s with heap := g2, toks := tk } :=
      I.turnedNew (t' := tk) (ch := [z, TI, TO, i1, i2]) (fun b o hb q => by
        simp only [List.mem_cons, List.not_mem_nil, or_false, not_or] at hb
        exact (sb.2 b hb.1).trans (hk b o hb.1 hb.2.2.1 hb.2.2.2.1 hb.2.2.2.2 q)) hf (Nat.le_refl _) new
    refine ⟨.ref s.heap.objs.size, _, I1, rfl, ⟨_, c, d, rfl, I.hok.fresh (Nat.le_refl _), rfl, ec, ed⟩, ⟨z2, (sb.2 _ D.TIz).trans (hk _ _ D.TIz D.TITO D.TIi1 D.TIi2 hTI), ⟨_, _, (sb.2 _ D.TOz).trans tt⟩, ?_, ?_⟩, fun b hb => ?_⟩
    · obtain ⟨o, e, r⟩ := k1
      exact ⟨o, (sb.2 _ D.zi1.symm).trans e, r⟩
    · obtain ⟨o, e, r⟩ := k2
      exact ⟨o, (sb.2 _ D.zi2.symm).trans e, r⟩
    · have hlt : b < s.heap.objs.size := by
        simp only [List.mem_cons, List.not_mem_nil, or_false] at hb
        obtain ⟨_, e1, _⟩ := h1
        obtain ⟨_, e2, _⟩ := h2
        rcases hb with rfl | rfl | rfl | rfl | rfl <;> exact Heap.lt_size (by assumption)
      rw [upd_ne (Nat.ne_of_lt hlt)]
      exact (hf b hb).1
  done := by
    intro X eP ew eK hc i pins s σ H E I hf st hg
    subst eP ew eK
    obtain ⟨hz, hTI, ⟨x0, y0, hTO⟩, h1, h2⟩ := st
    have hh : X.A.in1.handled = none := I.ok.hd hc
    refine wpAny_pyNext_zipD2_end D (Draws.text hh i1 x t) (Draws.text hh i2 y u) hz hTI hTO h1 h2 hg.1 hg.2.1 hg.2.2 fun h' tk hk => ⟨rfl, I.turnedL (t' := tk) (ch := [z, TI, TO, i1, i2]) (fun b o hb q => ?_) hf⟩
    simp only [List.mem_cons, List.not_mem_nil, or_false, not_or] at hb
    exact hk b o hb.1 hb.2.2.1 hb.2.2.2.1 hb.2.2.2.2 q
/-- zip of two lists, two tuples or two texts -/
def iZip3 (K : PySem.W.Frag) (ta : TA) : TI := fun σ H R => ta σ H fun vs H1 => (∃ a b xs ys, vs = [.ref a, .ref b] ∧ ((SqL K H1 a xs ∧ SqL K H1 b ys ∧ R (Itz K a b) H1) ∨ (SqT K H1 a xs ∧ SqT K H1 b ys ∧ R (RZ.ItzT K a b) H1))) ∨ ∃ x y, vs = [.str x, .str y] ∧ R (ItzS x y) H1
theorem pi_zip3 {X : Cx} {e e2 : Expr} {ta : TA} {p pos tpos : Pos} {elts : List Expr} {kk : Nat} (hg : Gl X "zip") (hm : X.mg "zip" = none) (ha : PA X [e, e2] ta)
    (hs : starEach [e, e2] X.env = (false, eval e X.env) :: starEach [e2] X.env) (hpl : (backTo pos (starEach [e2] X.env)).any (·.1) = false) :
    PI X (.Tuple elts kk tpos) (.Call (.Name "zip" p) [e, e2] [] pos) (iZip3 X.K ta) := by
  refine ⟨fun pins s σ H R I h => Call_ (ld_blt I hg hm PyProof.Rows.boot_zip (PyProof.Rows.callWith_type1 (thn (ha.run pos pins s σ H _ I h) fun us s1 ⟨vs, H1, I1, r1, q1⟩ => ?_) hs hpl))⟩
  have fresh5 : ∀ c, c ∈ [s1.heap.objs.size + 4, s1.heap.objs.size + 2, s1.heap.objs.size + 3, s1.heap.objs.size, s1.heap.objs.size + 1] → FpOk X pins H1 c := fun c hcm => by
    have hle : s1.heap.objs.size ≤ c := by
      simp only [List.mem_cons, List.not_mem_nil, or_false] at hcm
      rcases hcm with rfl | rfl | rfl | rfl | rfl
      iterate 3 exact Nat.le_add_right _ _
      · exact Nat.le_refl _
      · exact Nat.le_add_right _ _
    exact I1.fpOk hle (I1.hok.fresh hle)
  rcases q1 with ⟨a, b, xs, ys, rfl, q1⟩ | ⟨x, y, rfl, q⟩
  · obtain ⟨v1, v2, rfl, k1, k2⟩ := vals2 r1
    cases k1
    cases k2
    rcases q1 with ⟨qx, qy, q⟩ | ⟨qx, qy, q⟩
    · obtain ⟨_, _, p1, _⟩ := I1.list qx
      obtain ⟨_, _, p2, _⟩ := I1.list qy
      exact call_zip_2 p1.isList p2.isList fun h' hz hTI hTO h1 h2 hsz hk => wpAny_pyIter_zip hz ⟨s1.heap.objs.size + 4, [s1.heap.objs.size + 4, s1.heap.objs.size + 2, s1.heap.objs.size + 3, s1.heap.objs.size, s1.heap.objs.size + 1], _, _, H1, rfl, I1.kept (t' := s1.toks) hk, turn_zip (PySem.W.ktu_apart s1.heap.objs.size a b p1.lt p2.lt), ⟨hz, hTI, ⟨_, _, hTO⟩, h1, h2⟩, fresh5, q⟩
    · obtain ⟨u1, _, p1, _⟩ := I1.tuple qx
      obtain ⟨u2, _, p2, _⟩ := I1.tuple qy
      obtain ⟨o1, ho1, _⟩ := id p1
      obtain ⟨o2, ho2, _⟩ := id p2
      exact RZ.call_zipT (show s1.heap.IsTuple a u1.toArray from p1) (show s1.heap.IsTuple b u2.toArray from p2) fun h' hz hTI hTO h1 h2 hsz hk => wpAny_pyIter_zip hz ⟨s1.heap.objs.size + 4, [s1.heap.objs.size + 4, s1.heap.objs.size + 2, s1.heap.objs.size + 3, s1.heap.objs.size, s1.heap.objs.size + 1], _, _, H1, rfl, I1.kept (t' := s1.toks) hk, RZ.turn_zipT (PySem.W.ktu_apart s1.heap.objs.size a b (Heap.lt_size ho1) (Heap.lt_size ho2)), ⟨hz, hTI, ⟨_, _, hTO⟩, h1, h2⟩, fresh5, q⟩
  · obtain ⟨v1, v2, rfl, ⟨t, rfl⟩, ⟨u, rfl⟩⟩ := vals2 r1
    exact zip_begins2 (begins_text x t) (begins_text y u) trivial trivial fun h' hz hTI hTO h1 h2 hsz hk => wpAny_pyIter_zip hz ⟨s1.heap.objs.size + 4, [s1.heap.objs.size + 4, s1.heap.objs.size + 2, s1.heap.objs.size + 3, s1.heap.objs.size, s1.heap.objs.size + 1], _, _, H1, rfl, I1.kept (t' := s1.toks) hk, turn_zipS (t := t) (u := u) sep_five, ⟨hz, hTI, ⟨_, _, hTO⟩, ⟨_, h1, rfl, rfl⟩, ⟨_, h2, rfl, rfl⟩⟩, fresh5, q⟩

/-! ### a def by an expression -/
section
variable {X : Cx} {CX : CXT} {k : Nat} {E : L2.St → XK} {fe e : Expr} {es : List Expr} {tf : TE} {t : TA} {pos : Pos}
theorem pe_callF {ι : Type} {at_ : ι → Addr} {sp : ι → Sp} {ok : ι → Prop} (F : ∀ j, ok j → ∃ fd ps, FnOk X.prog X.w X.K X.mg X.base CX k (at_ j) fd ps (sp j) ∧ PySem.W.keepIn X.K (.ref (at_ j)) = true ∧ Binds X.K fd ps []) (hr : Room k X.A) (hf : PE X fe tf) (hx : ∀ σ, PassesAt CX X σ (E σ)) (ha : PA X (e :: es) t)
    (ht : eval (.Call fe (e :: es) [] pos) X.env = (do callWith pos (← eval fe X.env) [] (backTo pos (starEach (e :: es) X.env)) (backToKw pos (keywordEach [] X.env))))
    (he : starEach (e :: es) X.env = (false, eval e X.env) :: starEach es X.env) (hpl : (backTo pos (starEach es X.env)).any (·.1) = false) :
    PE X (.Call fe (e :: es) [] pos) (fun σ H Q => tf σ H fun x H1 => ∃ j, ok j ∧ x = .ref (at_ j) ∧ t σ H1 fun vs H2 => sp j vs H2 Q (E σ)) := by
  refine ⟨fun pins s σ H Q I h => Call_ (thn (hf.run pins s σ H _ I h) fun u s1 ⟨y, H1, I1, ry, j, oj, ey, q⟩ => ?_) ht⟩
  subst ey
  cases ry
  obtain ⟨fd, ps, Fj, kj, bj⟩ := F j oj
  exact PySem.W.callWith_K (h₀ := X.base) I.ok.mod.kin kj (thn (ha.run pos pins s1 σ H1 _ I1 q) fun us s2 ⟨vs, H2, I2, r, q2⟩ => ⟨I2.kIn, run_fnS Fj hr bj (hx σ) I2 r q2⟩) he hpl
theorem pe_callN {ι : Type} {at_ : ι → Addr} {sp : ι → Sp} {ok : ι → Prop} {x : Str} {p : Pos} (F : ∀ j, ok j → ∃ fd ps, FnOk X.prog X.w X.K X.mg X.base CX k (at_ j) fd ps (sp j) ∧ PySem.W.keepIn X.K (.ref (at_ j)) = true ∧ Binds X.K fd ps []) (hr : Room k X.A) (hf : PE X (.Name x p) tf) (hx : ∀ σ, PassesAt CX X σ (E σ)) (ha : PA X (e :: es) t)
    (he : starEach (e :: es) X.env = (false, eval e X.env) :: starEach es X.env) (hpl : (backTo pos (starEach es X.env)).any (·.1) = false) :
    PE X (.Call (.Name x p) (e :: es) [] pos) (fun σ H Q => tf σ H fun y H1 => ∃ j, ok j ∧ y = .ref (at_ j) ∧ t σ H1 fun vs H2 => sp j vs H2 Q (E σ)) := by
  refine ⟨fun pins s σ H Q I h => wpAny_Call_Name_kw (thn (hf.run pins s σ H _ I h) fun u s1 ⟨y, H1, I1, ry, j, oj, ey, q⟩ => ?_)⟩
  subst ey
  cases ry
  obtain ⟨fd, ps, Fj, kj, bj⟩ := F j oj
  exact PySem.W.callWith_K (h₀ := X.base) I.ok.mod.kin kj (thn (ha.run pos pins s1 σ H1 _ I1 q) fun us s2 ⟨vs, H2, I2, r, q2⟩ => ⟨I2.kIn, run_fnS Fj hr bj (hx σ) I2 r q2⟩) he hpl
end

/-! ### list.count of truth values -/
def eqb (b : Bool) (v : Value) : Bool := match v with
  | .bool c => c == b
  | _ => false
theorem bools_of : ∀ {bs : List Bool} {us : List Value}, Vals (bs.map V.bl) us → us = bs.map Value.bool
  | [], _, .nil => rfl
  | b :: r, _, .cons h t => by
    cases h
    rw [bools_of t]; rfl
theorem eqb_count (b : Bool) : ∀ bs : List Bool, (bs.map Value.bool).countP (eqb b) = bs.count b
  | [] => rfl
  | c :: r => by
    have ih := eqb_count b r
    rw [List.map_cons, List.countP_cons, List.count_cons, ih]; rfl
theorem mt_bcount {X : Cx} : MtR X "list.count" (fun x xs H Q => ∃ (p : Addr) (bs : List Bool) (b : Bool), x = .ref p ∧ xs = [.bl b] ∧ SqL X.K H p (bs.map V.bl) ∧ Q (.int (bs.count b : Nat)) H) := by
  intro pins s σ H x xs v us Q I rx rxs h
  obtain ⟨p, bs, b, rfl, rfl, hs, q⟩ := h
  cases rx
  obtain ⟨u, rfl, ru⟩ := rxs.one
  cases ru
  obtain ⟨its, rv, ⟨⟨cls, dd, data, sl⟩, n, ho, hc, hdn, hd⟩, hlen⟩ := I.list hs
  simp only at hc hd
  subst hc hd
  have hi := bools_of rv
  subst hi
  refine call_meets PySem.F.slot_list_count ⟨_, ho, rfl⟩ PySem.F.entry_list_count (PySem.F.args_list_count_2 _ _) (SeqAt.list_countAt p (bs.map Value.bool).toArray n dd sl (.bool b) (eqb b)) ⟨ho, fun y hy => ?_, ?_⟩
  · simp only [List.mem_toArray, Array.mem_toList_iff, List.mem_map] at hy
    obtain ⟨c, _, rfl⟩ := hy
    exact SeqAt.EqAt.bool_bool c b
  · refine ⟨.int (bs.count b : Nat), H, I.tok _, ⟨s.toks, ?_⟩, q⟩
    show Value.int (((bs.map Value.bool).toArray.toList.countP (eqb b) : Nat) : Int) s.toks = _
    rw [List.toList_toArray, eqb_count]
theorem eval_sub_call (a b e : Expr) (p pos : Pos) (es : List Expr) (env : PySem.Env) : eval (.Call (.Subscript a b p) (e :: es) [] pos) env = (do callWith pos (← eval (.Subscript a b p) env) [] (backTo pos (starEach (e :: es) env)) (backToKw pos (keywordEach [] env))) := by
  first | (with_unfolding_all rfl) | (simp only [eval]; done) | (unfold eval; rfl)
end HotZ
end
section
set_option Elab.async false
set_option linter.all false
set_option maxRecDepth 100000
/-! Cmp: from Python's text to Mini's, with the checks that the rules ask. -/
namespace Mn
open PySem PySem.Spec PyProof.Rows L2

inductive GV where
  | fn (f : Nat)
  | cst (d : D)
  | blt
  | exc (c : Nat)
  /-- a def that is handed the exception in hand -/
  | xfn (f : Nat)
  /-- a class of the text, its __init__ -/
  | cls (k f : Nat)

structure CC where
  ge : Str → Option GV
  N : List Str
  sc : Scope
  blk : Bool
  ow : Pos → Bool
  /-- within an except suite -/
  hot : Bool
  /-- its name, the name's slot, the exception's class -/
  ex : Option (Str × Nat × Nat)
  /-- the text's classes of exceptions -/
  xs : List Nat
  /-- defs that stand as values -/
  fl : List Str
  /-- calls whose list is data by then -/
  fz : Pos → Bool
  /-- names that hold instances: of which class (a guess that is looked at again when it runs) -/
  ob : Str → Option Nat
  /-- methods, properties of the text's classes -/
  mt : Nat → Str → Option Nat
  pr : Nat → Str → Option Nat

def ixOf : List Str → Str → Option Nat
  | [], _ => none
  | y :: r, x => if y = x then some 0 else (ixOf r x).map (· + 1)
def badN (x : Str) : Bool := x == ("__debug__" : Str) || x == ("__classdict__" : Str) || x == ("__name__" : Str)
/-- the name of the exception in hand -/
def isEx (c : CC) (x : Str) : Bool := match c.ex with
  | some (n, _, _) => n == x
  | none => false
/-- a name of the def: its slot -/
def cVar (c : CC) (x : Str) : Option Nat :=
  if badN x || isEx c x then none else match c.sc.names.lookup x with
    | some .local => ixOf c.N x
    | some .cell => ixOf c.N x
    | some .free => ixOf c.N x
    | _ => none
/-- a name of the module or a built-in one -/
def cGlo (c : CC) (x : Str) : Option GV :=
  if badN x then none else match c.sc.names.lookup x with
    | some .globalImplicit => c.ge x
    | _ => none
/-- a name that is stored -/
def cSto (c : CC) (x : Str) : Option Nat :=
  if isEx c x then none else match c.sc.names.lookup x with
    | some .local => ixOf c.N x
    | some .cell => if c.blk then none else ixOf c.N x
    | _ => none
def opOf : Operator → Option BOp
  | .Add => some .add
  | .Sub => some .sub
  | .Mult => some .mul
  | .Mod => some .mod
  | .FloorDiv => some .fdiv
  | .Pow => some .pow
  | _ => none
def cmpOf : CmpOp → Option COp
  | .Eq => some .eq
  | .NotEq => some .ne
  | .Lt => some .lt
  | .LtE => some .le
  | .Gt => some .gt
  | .GtE => some .ge
  | .In => some .isin
  | .NotIn => some .notin
  | .Is => some .isb
  | .IsNot => some .nisb
def cConst : Const → Option D
  | .none => some .non
  | .bool b => some (.bl b)
  | .int i => some (.int i)
  | .str x => if x.cps.toList.all (· < 0x110000) && decide (x.cps.toList.length ≤ LIM) then some (.str x.cps.toList) else none
  | _ => none
def foldAnd : List ME → Option ME
  | [] => none
  | [a] => some a
  | a :: r => (foldAnd r).map (.and a)
def foldOr : List ME → Option ME
  | [] => none
  | [a] => some a
  | a :: r => (foldOr r).map (.or a)
def tyOfN (x : Str) : Option TY :=
  if x = ("str" : Str) then some .str else if x = ("int" : Str) then some .int else if x = ("bool" : Str) then some .bool else if x = ("tuple" : Str) then some .tuple else none
def isSlice : Expr → Bool
  | .Slice .. => true
  | _ => false
/-- built-in functions by name and number of arguments -/
def bfOf (x : Str) (n : Nat) : Option BF :=
  if x = ("len" : Str) ∧ n = 1 then some .len
  else if x = ("min" : Str) ∧ n = 2 then some .min2
  else if x = ("max" : Str) ∧ n = 2 then some .max2
  else if x = ("all" : Str) ∧ n = 1 then some .all
  else if x = ("sum" : Str) ∧ n = 1 then some .sum
  else if x = ("list" : Str) ∧ n = 1 then some .list
  else if x = ("int" : Str) ∧ n = 1 then some .int
  else if x = ("tuple" : Str) ∧ n = 1 then some .tuple
  else if x = ("max" : Str) ∧ n = 1 then some .max1
  else none
/-- those that may stand in an except suite -/
def hotBF : BF → Bool
  | .len => true
  | .int => true
  | .tuple => true
  | _ => false
def isBoolC : Expr → Bool
  | .Constant (.bool _) _ _ => true
  | _ => false
def mfOf (m : Str) (n : Nat) (b : Bool) : Option MF :=
  if m = ("join" : Str) ∧ n = 1 then some .join
  else if m = ("append" : Str) ∧ n = 1 then some .append
  else if m = ("count" : Str) ∧ n = 1 then some (if b then .lcount else .count)
  else if m = ("index" : Str) ∧ n = 1 then some .index
  else if m = ("split" : Str) ∧ n = 1 then some .split
  else none
def ownOf (N : List Str) (scope : Scope) : List (Str × Nat) :=
  scope.names.filterMap fun (x, k) => if k == .local || k == .cell then (ixOf N x).map fun i => (x, i) else none
def cTgts (c : CC) : List Expr → Option (List Nat)
  | [] => some []
  | .Name x _ :: r => match cSto c x, cTgts c r with
    | some i, some is => some (i :: is)
    | _, _ => none
  | _ :: _ => none
def cTgt (c : CC) : Expr → Option Tgt
  | .Name x _ => (cSto c x).map .nm
  | .Tuple es _ _ => (cTgts c es).map .tp
  | _ => none
def Tgt.within (vs : List Nat) : Tgt → Bool
  | .nm i => vs.elem i
  | .tp is => is.all fun i => vs.elem i
def isTupT : Expr → Bool
  | .Tuple .. => true
  | _ => false
def cAll {α β : Type} (f : α → Option β) : List α → Option (List β)
  | [] => some []
  | a :: r => match f a, cAll f r with
    | some b, some bs => some (b :: bs)
    | _, _ => none
/-- zip(a, b) -/
def cZip (cE : Expr → Option ME) (c : CC) (e : Expr) : Option (ME × ME) :=
  match e with
  | .Call (.Name y _) [a, b] [] _ => if y = ("zip" : Str) then match cGlo c y, cE a, cE b with
      | some .blt, some m1, some m2 => some (m1, m2)
      | _, _, _ => none
    else none
  | _ => none
/-- what is walked; tup: the target is written as a tuple -/
def cI (cE : Expr → Option ME) (c : CC) (tup : Bool) (e : Expr) : Option MI :=
  match e with
  | .Call (.Name x _) args [] _ =>
    match cGlo c x with
    | some .blt =>
      if x = ("range" : Str) then match args with
        | [a] => (cE a).map .rng1
        | [a, b] => match cE a, cE b with
          | some a, some b => some (.rng2 a b)
          | _, _ => none
        | _ => none
      else if x = ("zip" : Str) ∧ tup = true then match args with
        | [a, b] => match cE a, cE b with
          | some a, some b => some (.zip a b)
          | _, _ => none
        | _ => none
      else if x = ("enumerate" : Str) ∧ tup = true then match args with
        | [a] => match cZip cE c a with
          | some (m1, m2) => some (.enz m1 m2)
          | none => (cE a).map .enm
        | _ => none
      else (cE e).map .seq
    | _ => (cE e).map .seq
  | _ => (cE e).map .seq
/-- .. in an except suite: zip of two lists -/
def cIH (cE : Expr → Option ME) (c : CC) (tup : Bool) (e : Expr) : Option MI :=
  match e with
  | .Call (.Name x _) [a, b] [] _ =>
    match cGlo c x with
    | some .blt => if x = ("zip" : Str) ∧ tup = true then match cE a, cE b with
          | some a, some b => some (.zipl a b)
          | _, _ => none
        else none
    | _ => none
  | _ => none
def isNone : Expr → Bool
  | .Constant .none _ _ => true
  | _ => false
def isM1 : Expr → Bool
  | .UnaryOp .USub (.Constant (.int 1) _ _) _ => true
  | _ => false
def cO (f : Expr → Option ME) : Option Expr → Option (Option ME)
  | none => some none
  | some e => (f e).map some
def cIfs (f : Expr → Option ME) : List Expr → Option (Option ME)
  | [] => some none
  | [e] => (f e).map some
  | _ => none
def cCmp (f : Expr → Option ME) (a : Expr) (ops : List CmpOp) (bs : List Expr) : Option ME :=
  match ops, bs with
  | [op], [b] => if op = .Is ∧ isNone b = true then (f a).map .isN
    else if op = .IsNot ∧ isNone b = true then (f a).map .notN
    else match cmpOf op, f a, f b with
      | some op, some a, some b => some (.cmp op a b)
      | _, _, _ => none
  | [o1, o2], [b, d] => match cmpOf o1, cmpOf o2, f a, f b, f d with
      | some o1, some o2, some a, some b, some d => some (.chn o1 o2 a b d)
      | _, _, _, _, _ => none
  | _, _ => none
def asSlice : Expr → Option (Option Expr × Option Expr × Option Expr)
  | .Slice lo hi st _ => some (lo, hi, st)
  | _ => none
def cSub (f : Expr → Option ME) (a i : Expr) : Option ME :=
  match asSlice i with
  | some (lo, hi, none) => match f a, cO f lo, cO f hi with
      | some a, some lo, some hi => some (.slc a lo hi)
      | _, _, _ => none
  | some (none, none, some st) => if isM1 st then (f a).map .rev else none
  | some _ => none
  | none => match f a, f i with
      | some a, some i => some (.idx a i)
      | _, _ => none
def nameOf : Expr → Option Str
  | .Name x _ => some x
  | _ => none
/-- isinstance of the exception in hand: its class is known -/
def isxOf (c : CC) (a b : Expr) : Option Bool :=
  match c.ex, nameOf a, (nameOf b).bind (cGlo c) with
  | some (n, _, k), some x, some (.exc j) => if n = x ∧ c.blk = false ∧ k < 900 then some (subC k j) else none
  | _, _, _ => none
def fnsOf (c : CC) (xs : List Str) : Option (List Nat) := cAll (fun x => match cGlo c x with
  | some (.fn k) => some k
  | _ => none) xs
def isSub : Expr → Bool
  | .Subscript .. => true
  | _ => false
/-- a call by an expression that gives a def -/
def cCallv (f : Expr → Option ME) (c : CC) (fn : Expr) (args : List Expr) : Option ME :=
  if c.hot || args.isEmpty then none else match fnsOf c c.fl, f fn, cAll f args with
    | some ks, some m, some ms => some (.callv ks m ms)
    | _, _, _ => none
/-- range(..) as a value -/
def cRng (f : Expr → Option ME) (c : CC) (e : Expr) : Option (ME × ME) :=
  match e with
  | .Call (.Name x _) args [] _ => if x = ("range" : Str) then match cGlo c x with
    | some .blt => match args with
      | [a] => (f a).map fun m => (.cst (.int 0), m)
      | [a, b] => match f a, f b with
        | some a, some b => some (a, b)
        | _, _ => none
      | _ => none
    | _ => none
    else none
  | _ => none
def cBlt (f : Expr → Option ME) (c : CC) (x : Str) (args : List Expr) : Option ME :=
  match bfOf x args.length, cAll f args with
    | some b, some ms => if c.hot && !(hotBF b) then none else some (.bcl b ms)
    | _, _ => none
/-- sorted(set(..)), len(set(..)) -/
def cSet (f : Expr → Option ME) (c : CC) (x : Str) (a : Expr) : Option ME :=
  if c.hot then none else match a with
  | .Call (.Name y _) [e] [] _ => if y = ("set" : Str) then match cGlo c y, f e with
      | some .blt, some m => if x = ("sorted" : Str) then some (.sset m) else if x = ("len" : Str) then some (.slen m) else none
      | _, _ => none
    else none
  | _ => none
/-- d.get(k, x) -/
def cGet (f : Expr → Option ME) (m : Str) (o : Expr) (args : List Expr) : Option ME :=
  if m = ("get" : Str) then match args with
    | [a, b] => match f o, f a, f b with
      | some o, some a, some b => some (.mth .get2 o [a, b])
      | _, _, _ => none
    | _ => none
  else none
/-- sorted(e) -/
def cSrt (f : Expr → Option ME) (c : CC) (x : Str) (a : Expr) : Option ME :=
  if c.hot then none else if x = ("sorted" : Str) then (f a).map .srt else none
/-- the number of a def that is handed an exception of the class k -/
def xnum (f k : Nat) : Nat := 1000 * (f + 1) + k
/-- a def is handed the exception in hand -/
def cXc (c : CC) (f : Nat) (args : List Expr) : Option ME := match c.ex, args with
  | some (nm, _, k), [a] => if nameOf a = some nm ∧ c.hot = true ∧ c.blk = false ∧ k < 900 then some (.xc (xnum f k)) else none
  | _, _ => none
def keyOf : Option Expr → Option (List Nat)
  | some (.Constant (.str x) _ _) => if okW x.cps.toList then some x.cps.toList else none
  | _ => none
def nodupX : List (List Nat) → Bool
  | [] => true
  | a :: r => !(r.elem a) && nodupX r
/-- {"a": x, ..} -/
def cDsp (f : Expr → Option ME) (ks : List (Option Expr)) (es : List Expr) : Option ME :=
  if ks.isEmpty && es.isEmpty then some .dct
  else if ks.isEmpty || !(decide (ks.length = es.length)) || !(decide (ks.length ≤ 15)) then none
  else match cAll keyOf ks, cAll f es with
    | some ks, some ms => if nodupX ks then some (.dsp ks ms) else none
    | _, _ => none
/-- a call: of a name, of a member -/
def cCall (f : Expr → Option ME) (c : CC) (fn : Expr) (args : List Expr) (pos : Pos) : Option ME :=
  match fn with
  | .Name x _ => match cGlo c x with
    | some (.fn k) => if args.isEmpty || c.hot then none else (cAll f args).map (.call k)
    | some (.xfn k) => cXc c k args
    | some .blt => if x = ("isinstance" : Str) then match args with
        | [a, b] => match isxOf c a b with
          | some t => some (.isx t)
          | none => match (nameOf b).bind (cGlo c), (nameOf b).bind tyOfN, f a with
            | some .blt, some t, some a => some (.isi a t)
            | _, _, _ => none
        | _ => none
      else match args with
        | [a] => match (if (x = ("list" : Str) ∨ x = ("tuple" : Str)) ∧ c.hot = false then cRng f c a else none) with
          | some (lo, hi) => some (.lrg (x == ("tuple" : Str)) lo hi)
          | none => match cSet f c x a with
            | some m => some m
            | none => match cSrt f c x a with
              | some m => some m
              | none => cBlt f c x args
        | _ => cBlt f c x args
    | none => cCallv f c fn args
    | _ => none
  | .Attribute o m apos => if apos.endLine == pos.line then match cGet f m o args with
        | some e => some e
        | none => match mfOf m args.length (args.any isBoolC), f o, cAll f args with
          | some m, some o, some ms => some (.mth m o ms)
          | _, _, _ => none
      else none
  | fn => if isSub fn then cCallv f c fn args else none
/-! ### instances -/
abbrev mtOf (c : CC) (k : Nat) (m : Str) : Option Nat := c.mt k m
abbrev prOf (c : CC) (k : Nat) (m : Str) : Option Nat := c.pr k m
/-- the class's own name stands for the class -/
def clsIn (c : CC) (k : Nat) : Bool := match c.ge (cnm k) with
  | some (.cls j _) => j == k
  | _ => false
/-- which class an expression's value is of -/
def obE : Nat → CC → Expr → Option Nat
  | 0, _, _ => none
  | n + 1, c, e => match e with
    | .Name x _ => c.ob x
    | .UnaryOp .USub a _ => obE n c a
    | .BinOp a .Add _ _ => obE n c a
    | .BinOp a .LShift _ _ => obE n c a
    | .Call (.Name x _) _ _ _ => match cGlo c x with
      | some (.cls k _) => some k
      | _ => none
    | _ => none
def ob8 (c : CC) (e : Expr) : Option Nat := match obE 8 c e with
  | some k => if clsIn c k then some k else none
  | none => none
/-- a call that an instance or its class answers -/
def cObC (F : Expr → Option ME) (c : CC) (fn : Expr) (args : List Expr) (pos : Pos) : Option ME := match fn with
  | .Attribute o m apos => match ob8 c o with
    | some k => if (apos.endLine == pos.line) && (ixOf (flds k) m).isNone && decide (args.length ≤ 8) then match mtOf c k m, F o, cAll F args with
      | some f, some mo, some ms => some (.mcl .call k f mo ms)
      | _, _, _ => none
      else none
    | none => none
  | .Name x p => match cGlo c x with
    | some (.cls k f) => if args.isEmpty || !(clsIn c k) then none else (cAll F args).map (.mk f)
    | some .blt => match args with
      | [a] => if x = ("len" : Str) then match ob8 c a with
        | some k => match mtOf c k "__len__", F a with
          | some f, some m => some (.mcl .len k f m [])
          | _, _ => none
        | none => none
        else none
      | [a, .Name y _] => if x = ("isinstance" : Str) then match cGlo c y, F a with
        | some (.cls k _), some m => if clsIn c k then some (.iso k m) else none
        | _, _ => none
        else none
      | _ => none
    | none => match ob8 c (.Name x p) with
      | some k => if args.isEmpty then none else match mtOf c k "__call__", F (.Name x p), cAll F args with
        | some f, some mo, some ms => some (.mcl .call k f mo ms)
        | _, _, _ => none
      | none => none
    | _ => none
  | .BinOp a op b p => match ob8 c (.BinOp a op b p) with
    | some k => if args.isEmpty then none else match mtOf c k "__call__", F (.BinOp a op b p), cAll F args with
      | some f, some mo, some ms => some (.mcl .call k f mo ms)
      | _, _, _ => none
    | none => none
  | .UnaryOp op a p => match ob8 c (.UnaryOp op a p) with
    | some k => if args.isEmpty then none else match mtOf c k "__call__", F (.UnaryOp op a p), cAll F args with
      | some f, some mo, some ms => some (.mcl .call k f mo ms)
      | _, _, _ => none
    | none => none
  | _ => none
/-- two operands -/
def cOb2 (F : Expr → Option ME) (c : CC) (kd : MK) (m : Str) (a b : Expr) : Option ME := match ob8 c a with
  | some k => match mtOf c k m, F a, F b with
    | some f, some m1, some m2 => some (.mcl kd k f m1 [m2])
    | _, _, _ => none
  | none => none
def cObA (F : Expr → Option ME) (c : CC) (o : Expr) (a : Str) : Option ME := match ob8 c o with
  | some k => match ixOf (flds k) a with
    | some j => (F o).map (.att k j)
    | none => match prOf c k a, F o with
      | some f, some m => some (.mcl .sub k f m [])
      | _, _ => none
  | none => none
/-- whatever an instance answers -/
def cOb (F : Expr → Option ME) (c : CC) (e : Expr) : Option ME :=
  if c.hot then none else match e with
  | .Attribute o a _ => cObA F c o a
  | .UnaryOp .USub a _ => match ob8 c a with
    | some k => match mtOf c k "__neg__", F a with
      | some f, some m => some (.mcl .sub k f m [])
      | _, _ => none
    | none => none
  | .BinOp a .Add b _ => cOb2 F c .add "__add__" a b
  | .BinOp a .LShift b _ => cOb2 F c .shl "__lshift__" a b
  | .Subscript a i _ => if isSlice i then none else cOb2 F c .sub "__getitem__" a i
  | .Compare a [.Eq] [b] _ => cOb2 F c .eq "__eq__" a b
  | .Compare a [.NotEq] [b] _ => cOb2 F c .ne "__eq__" a b
  | .Compare a [.In] [b] _ => match ob8 c b with
    | some k => match mtOf c k "__contains__", F a, F b with
      | some f, some m1, some m2 => some (.mcr k f m1 m2)
      | _, _, _ => none
    | none => none
  | .Call fn args kws pos => if kws.isEmpty then cObC F c fn args pos else none
  | _ => none
def cE1 (cE : CC → Expr → Option ME) (c : CC) (e : Expr) : Option ME :=
    match e with
    | .Name x _ => match cVar c x with
      | some i => some (.var i)
      | none => match cGlo c x with
        | some (.cst d) => some (.cst d)
        | some (.fn f) => some (.fnv f)
        | _ => none
    | .Constant k _ _ => (cConst k).map .cst
    | .BinOp a op b _ => match opOf op, cE c a, cE c b with
      | some op, some a, some b => some (.bin op a b)
      | _, _, _ => none
    | .UnaryOp .Not a _ => (cE c a).map .not
    | .UnaryOp .USub a _ => (cE c a).map .neg
    | .BoolOp .And vs _ => (cAll (cE c) vs).bind foldAnd
    | .BoolOp .Or vs _ => (cAll (cE c) vs).bind foldOr
    | .Compare a ops bs _ => cCmp (cE c) a ops bs
    | .IfExp t a b _ => match cE c t, cE c a, cE c b with
      | some t, some a, some b => some (.ite t a b)
      | _, _, _ => none
    | .Tuple es _ _ => (cAll (cE c) es).bind fun ms => if ms.length ≤ LIM then some (.tup ms) else none
    | .List es pos => (cAll (cE c) es).bind fun ms => if ms.length ≤ LIM then some (.lst (c.ow pos) ms) else none
    | .Dict ks es _ => cDsp (cE c) ks es
    | .Subscript a i _ => cSub (cE c) a i
    | .Call f args kws pos => if kws.isEmpty then (cCall (cE c) c f args pos).map fun m => if c.fz pos then .frz m else m else none
    | .ListComp elt gens scope pos => match gens with
      | [⟨tg, iter, ifs, a⟩] => if a = 0 then
          let own := ownOf c.N scope
          let vs := own.map (·.2)
          let c' : CC := { c with sc := relS scope c.sc, blk := true }
          if blkC c.N c.sc scope own && own.all (fun p => !(isEx c p.1)) then match cTgt c' tg, (if c.hot then cIH (cE c) c (isTupT tg) iter else cI (cE c) c (isTupT tg) iter), cE c' elt, cIfs (cE c') ifs with
            | some t, some it, some el, some cd => if t.within vs then some (.lcm (c.ow pos) el vs t it cd) else none
            | _, _, _, _ => none
          else none
        else none
      | _ => none
    | _ => none

def cE : Nat → CC → Expr → Option ME
  | 0, _, _ => none
  | n + 1, c, e => match cOb (fun e => cE n c e) c e with
    | some m => some m
    | none => cE1 (fun c e => cE n c e) c e

/-! ### statements -/
def isCallE : Expr → Bool
  | .Call .. => true
  | _ => false
/-- the comprehension's scope and line -/
def lcOf : Expr → Option (Scope × Nat)
  | .ListComp _ _ scope pos => some (scope, pos.line)
  | _ => none
def tupOf : Expr → Option (List Expr)
  | .Tuple es _ _ => some es
  | _ => none
def starred : Expr → Bool
  | .Starred .. => true
  | _ => false
def nmLine (c : CC) (line : Nat) : Expr → Option Str
  | .Name id pos => if c.sc.names.lookup id == some .local && pos.line == line then some id else none
  | _ => none
/-- how a pair's stores go: none: not known; some none: one after another -/
def swB (c : CC) (ts vs : List Expr) : Option (Option (List Str)) :=
  if !(ts.length == 2 || ts.length == 3) || vs.length != ts.length then some none
  else if vs.any starred then some none
  else
    let line := (ts.head?.map (·.pos.line)).getD 0
    let names := ts.filterMap (nmLine c line)
    if names.length != ts.length || names.eraseDups.length != names.length then some none
    else if vs.all (foldedForSure 8) then some none
    else if vs.all (constantsAlone 8) then none
    else some (some names)
def nodupB : List Nat → Bool
  | [] => true
  | a :: r => !(r.elem a) && nodupB r
def namesOf : List Expr → List Str
  | [] => []
  | .Name x _ :: r => x :: namesOf r
  | _ :: r => namesOf r
def allNames : List Expr → Bool
  | [] => true
  | .Name _ _ :: r => allNames r
  | _ :: _ => false
def cAsg (K : Nat) (c : CC) (t e : Expr) : Option MS :=
  match t with
  | .Name x _ => if c.hot && (lcOf e).isSome then none else match cSto c x, cE K c e with
    | some i, some m => some (.asg i m)
    | _, _ => none
  | .Tuple ts _ _ => if c.hot then none else match tupOf e with
    | some vs => match cTgts c ts, cAll (cE K c) vs, swB c ts vs with
      | some is, some ms, some none => if ms.length ≤ LIM then some (.par is ms) else none
      | some is, some ms, some (some ns) => if nodupB is && decide (ns = namesOf ts) && decide (ts.length = vs.length) && (ts.all fun e => match nameOf e with | some x => c.sc.names.lookup x == some .local | none => false) then some (.par is ms) else none
      | _, _, _ => none
    | none => match cTgts c ts, cE K c e with
      | some is, some m => some (.asgT is m)
      | _, _ => none
  | .Subscript o i _ => if isSlice i then none else match cE K c o, cE K c i, cE K c e with
    | some o, some i, some e => some (.setI o i e)
    | _, _, _ => none
  | _ => none
def excOf (c : CC) : Expr → Option Nat
  | .Call (.Name x _) [.Constant (.str _) _ _] [] _ => match cGlo c x with
    | some (.exc k) => some k
    | _ => none
  | _ => none
/-- no defs -/
def noFn (ge : Str → Option GV) (x : Str) : Option GV := match ge x with
  | some (.fn _) => none
  | v => v
/-- within an except suite: the exception is of the class k -/
def CC.suite (c : CC) (nm : Str) (i k : Nat) : CC := { c with hot := true, ex := some (nm, i, k), ge := noFn c.ge }
/-- one clause: except x as nm -/
def hdOf : List ExceptHandler → Option (Str × Str × List Stmt)
  | [.ExceptHandler (some (.Name x _)) (some nm) (b :: su) _] => some (x, nm, b :: su)
  | _ => none
def cSuite (f : Nat → Stmt → Option MS) (su : List Stmt) (k : Nat) : Option (Nat × List MS) := (cAll (f k) su).map fun m => (k, m)
def cS : Nat → CC → Stmt → Option MS
  | 0, _, _ => none
  | n + 1, c, s =>
    match s with
    | .Expr e _ => if isCallE e then (cE (n + 1) c e).map .expr else none
    | .Assign ts e _ => match ts with
      | [t] => cAsg (n + 1) c t e
      | _ => none
    | .AugAssign t op e _ => match (nameOf t).bind (cSto c), (nameOf t).bind (cVar c), opOf op, cE (n + 1) c e with
      | some i, some j, some op, some m => if i = j ∧ op = .add then some (.aug i op m) else none
      | _, _, _, _ => none
    | .If t a b _ => match cE (n + 1) c t, cAll (cS n c) a, cAll (cS n c) b with
      | some t, some a, some b => some (.ite t a b)
      | _, _, _ => none
    | .For tg iter body els _ => if els.isEmpty && !c.hot then match cTgt c tg, cI (cE (n + 1) c) c (isTupT tg) iter, cAll (cS n c) body with
        | some t, some it, some b => some (.forr t it b)
        | _, _, _ => none
      else none
    | .While t body els _ => if els.isEmpty && !c.hot then match cE (n + 1) c t, cAll (cS n c) body with
        | some t, some b => some (.whil t b)
        | _, _ => none
      else none
    | .Return e _ => match e with
      | none => some (.ret none)
      | some e => (cE (n + 1) c e).map fun m => .ret (some m)
    | .Raise e cause _ => if cause.isNone && !c.hot then (e.bind (excOf c)).map .rais else none
    | .Try body hs els fin _ => if c.hot || c.blk || c.ex.isSome || !els.isEmpty || !fin.isEmpty then none else match hdOf hs with
      | some (x, nm, su) => if badN nm then none else match cGlo c x, ixOf c.N nm, cAll (cS n c) body, cAll (cSuite (fun k => cS n (c.suite nm ((ixOf c.N nm).getD 0) k)) su) c.xs with
        | some (.exc 0), some i, some mb, some sus => if c.sc.names.lookup nm = some .local then some (.tri mb i 0 sus) else none
        | _, _, _, _ => none
      | none => none
    | .Pass _ => some .pass
    | .Break _ => some .brk
    | .Continue _ => some .cnt
    | _ => none
end Mn
end
section
set_option Elab.async false
set_option linter.all false
set_option maxRecDepth 100000
set_option maxHeartbeats 2000000
/-! Enz: enumerate over zip of two lists, the pairs held by a name. -/
namespace HotZ
open PySem PySem.Spec PyProof.Rows L2
/-- zip at zp, its first two fields -/
abbrev ZipS (h : Heap) (zp TI TO : Addr) (f0 f1 : Value) : Prop :=
  h.get? zp = some { cls := .type "zip", dict := none, data := .fields #[f0, f1, .bool false, .ref TI, .ref TO], slots := #[] }
/-- zip, k items drawn; its pair was never handed out, or was and may live or not -/
def ZSt (zp TI TO i1 i2 l1 l2 : Addr) (k : Nat) (h : Heap) : Prop :=
  ((ZipS h zp TI TO .none (.bool false)) ∨ ∃ (T : Addr) (f : Bool), ZipS h zp TI TO (rawInt (T : Nat)) (.bool f)) ∧ IsPair h TI (.ref i1) (.ref i2) ∧ (∃ a b, IsPair h TO a b) ∧ h.IsListIter i1 l1 k ∧ h.IsListIter i2 l2 k
section
variable {prog : Program} {w : World} {A : Around} {E : Value → Shared → Prop} {s : Shared}
theorem wp_alive {a : Addr} {Q : Option Obj → Shared → Prop} (h : Q (s.heap.get? a) s) : wpAny (model prog w) A (loadIfAlive a) Q E s := fun Γ p _ => by
  show Sem.wp (model prog w) Γ (.loadIfAlive a .pure) _ _ p s
  rw [Sem.wp_loadIfAlive]
  exact (Sem.wp_pure ..).mpr h
/-- the pair that was handed out is gone -/
theorem own_gone {zp TI TO T : Addr} {f1 : Value} {Q : Bool → Shared → Prop} (hzp : ZipS s.heap zp TI TO (rawInt (T : Nat)) f1) (hT : s.heap.get? T = none) (h : Q true s) :
    wpAny (model prog w) A (Builtin.SmallTypes.ownedTupleIsFree (.ref zp)) Q E s := by
  unfold Builtin.SmallTypes.ownedTupleIsFree
  refine wpAny_bind (wpAny_field hzp rfl (x := rawInt (T : Nat)) rfl ?_)
  show wpAny _ _ (loadIfAlive (((T : Nat) : Int).toNat) >>= _) _ _ _
  rw [Int.toNat_natCast]
  refine wpAny_bind (wp_alive ?_)
  rw [hT]
  simp only [Option.isNone_none, if_true]
  exact wpAny_pure h
theorem zip_gone {zp TI TO T i1 i2 l1 l2 : Addr} {k1 k2 : Nat} {xs ys : Array Value} {x y a b f1 : Value} {Q : Value → Shared → Prop} (D : ZipApart zp TI TO i1 i2 l1 l2)
    (hzp : ZipS s.heap zp TI TO (rawInt (T : Nat)) f1) (hT : s.heap.get? T = none) (hTI : IsPair s.heap TI (.ref i1) (.ref i2)) (hTO : IsPair s.heap TO a b)
    (it1 : s.heap.IsListIter i1 l1 k1) (it2 : s.heap.IsListIter i2 l2 k2) (hl1 : s.heap.IsList l1 xs) (hl2 : s.heap.IsList l2 ys) (hx : xs[k1]? = some x) (hy : ys[k2]? = some y)
    (hQ : ∀ h', IsZip h' zp TI TO (rawInt s.heap.objs.size) → IsPair h' TO x y → h'.IsListIter i1 l1 (k1 + 1) → h'.IsListIter i2 l2 (k2 + 1) → IsPair h' s.heap.objs.size x y → h'.objs.size = s.heap.objs.size + 1 →
      (∀ c u, c ≠ zp → c ≠ TO → c ≠ i1 → c ≠ i2 → s.heap.get? c = some u → h'.get? c = some u) → Q (.ref s.heap.objs.size) { s with heap := h' }) :
    wpAny (model prog w) A (Builtin.«zip.__next__» ⟨[.ref zp], []⟩) (fun fin s' => ∃ v, fin = .done (.ret v) ∧ Q v s') E s := by
  show wpAny _ _ (field (.ref zp) 2 >>= _) _ _ _
  refine wpAny_bind (wpAny_field hzp rfl (x := .bool false) rfl ?_)
  show wpAny _ _ (field (.ref zp) 3 >>= _) _ _ _
  refine wpAny_bind (wpAny_field hzp rfl (x := .ref TI) rfl ?_)
  refine wpAny_bind (wpAny_seqItems hTI rfl ?_)
  show wpAny _ _ (Builtin.SmallTypes.ownedTupleIsFree (.ref zp) >>= _) _ _ _
  refine wpAny_bind (own_gone hzp hT ?_)
  simp only [if_true]
  refine wpAny_bind (wpAny_rule ?_)
  refine wpAny_bind (wpAny_field hzp rfl (x := .ref TO) rfl ?_)
  refine wpAny_bind (wpAny_setField_rec hzp (by simp) fun g1 hg1 sb1 => ?_)
  replace hg1 : ZipS g1 zp TI TO .ellipsis f1 := hg1
  refine wpAny_bind ?_
  simp only [List.zipIdx_cons, List.zipIdx_nil, List.forIn_cons, List.forIn_nil]
  refine wpAny_bind (wpAny_bind (wpAny_onRaise ?_))
  show wpAny _ _ (Builtin.SmallTypes.nextOf (.ref i1) >>= _) _ _ _
  refine wpAny_bind (wpAny_nextOf_list_item (it1.extBut sb1.extBut D.i1z) (hl1.extBut sb1.extBut D.l1z) hx fun g2 j1 sb2 => wpAny_pure ?_)
  have o2 : IsPair g2 TO a b := sb2.extBut _ _ D.TOi1 (sb1.extBut _ _ D.TOz hTO)
  refine wpAny_bind (wpAny_seqItems o2 rfl ?_)
  refine wpAny_bind (wpAny_updateSeq_pair o2 fun g3 o3 sb3 => ?_)
  replace o3 : IsPair g3 TO x b := o3
  refine wpAny_bind (wpAny_letGo (wpAny_pure ?_))
  refine wpAny_bind (wpAny_bind (wpAny_onRaise ?_))
  show wpAny _ _ (Builtin.SmallTypes.nextOf (.ref i2) >>= _) _ _ _
  refine wpAny_bind (wpAny_nextOf_list_item (((it2.extBut sb1.extBut D.i2z).extBut sb2.extBut D.i12.symm).extBut sb3.extBut D.TOi2.symm) (((hl2.extBut sb1.extBut D.l2z).extBut sb2.extBut D.l2i1).extBut sb3.extBut D.l2TO) hy fun g4 j2 sb4 => wpAny_pure ?_)
  have o4 : IsPair g4 TO x b := sb4.extBut _ _ D.TOi2 o3
  refine wpAny_bind (wpAny_seqItems o4 rfl ?_)
  refine wpAny_bind (wpAny_updateSeq_pair o4 fun g5 o5 sb5 => ?_)
  replace o5 : IsPair g5 TO x y := o5
  refine wpAny_bind (wpAny_letGo (wpAny_pure (wpAny_pure ?_)))
  refine wpAny_bind (wpAny_seqItems o5 rfl ?_)
  refine wpAny_bind (wpAny_newTuple ?_)
  have sz : g5.objs.size = s.heap.objs.size := by rw [sb5.1, sb4.1, sb3.1, sb2.1, sb1.1]
  have z5 : ZipS g5 zp TI TO .ellipsis f1 := sb5.extBut _ _ D.TOz.symm (sb4.extBut _ _ D.i2z.symm (sb3.extBut _ _ D.TOz.symm (sb2.extBut _ _ D.i1z.symm hg1)))
  have kp : ∀ c u, c ≠ zp → c ≠ TO → c ≠ i1 → c ≠ i2 → s.heap.get? c = some u → g5.get? c = some u := fun c u c1 c2 c3 c4 e =>
    sb5.extBut _ _ c2 (sb4.extBut _ _ c4 (sb3.extBut _ _ c2 (sb2.extBut _ _ c3 (sb1.extBut _ _ c1 e))))
  have n1 : g5.IsListIter i1 l1 (k1 + 1) := ((j1.extBut sb3.extBut D.TOi1.symm).extBut sb4.extBut D.i12).extBut sb5.extBut D.TOi1.symm
  have n2 : g5.IsListIter i2 l2 (k2 + 1) := j2.extBut sb5.extBut D.TOi2.symm
  have zlt : zp < g5.objs.size := Heap.lt_size z5
  show wpAny _ _ (Builtin.SmallTypes.ownedTupleHandOut (.ref zp) (.ref g5.objs.size) >>= _) _ _ _
  refine wpAny_bind ?_
  unfold Builtin.SmallTypes.ownedTupleHandOut
  have z6 : ZipS (g5.push { cls := .type "tuple", data := .seq #[x, y] }) zp TI TO .ellipsis f1 := Heap.get?_push_of_some _ z5
  refine wpAny_bind (wpAny_setField_rec z6 (by simp) fun g7 z7 sb7 => ?_)
  replace z7 : ZipS g7 zp TI TO (rawInt g5.objs.size) f1 := z7
  refine wpAny_setField_rec z7 (by simp) fun g8 z8 sb8 => ?_
  replace z8 : IsZip g8 zp TI TO (rawInt g5.objs.size) := z8
  have up : ∀ c u, c ≠ zp → g5.get? c = some u → g8.get? c = some u := fun c u c1 e => sb8.extBut _ _ c1 (sb7.extBut _ _ c1 (Heap.get?_push_of_some _ e))
  have t8 : IsPair g8 g5.objs.size x y := sb8.extBut _ _ (Nat.ne_of_gt zlt) (sb7.extBut _ _ (Nat.ne_of_gt zlt) (Heap.get?_push_size _ rfl))
  have s8 : g8.objs.size = g5.objs.size + 1 := by rw [sb8.1, sb7.1, Heap.size_push]
  rw [sz] at z8 t8 s8
  refine wpAny_pure ⟨_, rfl, ?_⟩
  show Q (.ref g5.objs.size) _
  rw [sz]
  exact hQ g8 z8 (up _ _ D.TOz o5) (n1.at fun o e => up _ o D.i1z e) (n2.at fun o e => up _ o D.i2z e) t8 s8 fun c u c1 c2 c3 c4 e => up c u c1 (kp c u c1 c2 c3 c4 e)
theorem zip_gone_end {zp TI TO T i1 i2 l1 l2 : Addr} {k1 k2 : Nat} {xs ys : Array Value} {a b f1 : Value} {Q : Fin → Shared → Prop} (hh : A.handled = none) (D : ZipApart zp TI TO i1 i2 l1 l2)
    (hzp : ZipS s.heap zp TI TO (rawInt (T : Nat)) f1) (hT : s.heap.get? T = none) (hTI : IsPair s.heap TI (.ref i1) (.ref i2)) (hTO : IsPair s.heap TO a b)
    (it1 : s.heap.IsListIter i1 l1 k1) (it2 : s.heap.IsListIter i2 l2 k2) (hl1 : s.heap.IsList l1 xs) (hl2 : s.heap.IsList l2 ys) (hend : xs[k1]? = none ∨ ys[k2]? = none)
    (hE : ∀ h' e, (∀ c u, c ≠ zp → c ≠ TO → c ≠ i1 → c ≠ i2 → s.heap.get? c = some u → h'.get? c = some u) → (∃ o, h'.get? e = some o ∧ o.cls = .type "StopIteration") → E (.ref e) { s with heap := h' }) :
    wpAny (model prog w) A (Builtin.«zip.__next__» ⟨[.ref zp], []⟩) Q E s := by
  show wpAny _ _ (field (.ref zp) 2 >>= _) _ _ _
  refine wpAny_bind (wpAny_field hzp rfl (x := .bool false) rfl ?_)
  show wpAny _ _ (field (.ref zp) 3 >>= _) _ _ _
  refine wpAny_bind (wpAny_field hzp rfl (x := .ref TI) rfl ?_)
  refine wpAny_bind (wpAny_seqItems hTI rfl ?_)
  show wpAny _ _ (Builtin.SmallTypes.ownedTupleIsFree (.ref zp) >>= _) _ _ _
  refine wpAny_bind (own_gone hzp hT ?_)
  simp only [if_true]
  refine wpAny_bind (wpAny_rule ?_)
  refine wpAny_bind (wpAny_field hzp rfl (x := .ref TO) rfl ?_)
  refine wpAny_bind (wpAny_setField_rec hzp (by simp) fun g1 hg1 sb1 => ?_)
  replace hg1 : ZipS g1 zp TI TO .ellipsis f1 := hg1
  refine wpAny_bind ?_
  simp only [List.zipIdx_cons, List.zipIdx_nil, List.forIn_cons, List.forIn_nil]
  refine wpAny_bind (wpAny_bind (wpAny_onRaise ?_))
  show wpAny _ _ (Builtin.SmallTypes.nextOf (.ref i1) >>= _) _ _ _
  cases ex : xs[k1]? with
  | none =>
    refine wpAny_bind (wpAny_nextOf_list_end hh (it1.extBut sb1.extBut D.i1z) (hl1.extBut sb1.extBut D.l1z) ex fun g2 e sb2 he => ?_)
    obtain ⟨oe, e1, e2⟩ := he
    have z2 : ZipS g2 zp TI TO .ellipsis f1 := sb2 _ _ D.i1z.symm hg1
    have ne : e ≠ zp := fun q => by subst q; rw [z2] at e1; cases e1; simp at e2
    refine wpAny_setField_rec z2 (by simp) fun g3 _ sb3 => hE g3 e (fun c u c1 _ c3 _ q => sb3.extBut _ _ c1 (sb2 _ _ c3 (sb1.extBut _ _ c1 q))) ⟨oe, sb3.extBut _ _ ne e1, e2⟩
  | some x =>
    have ey : ys[k2]? = none := hend.resolve_left (by rw [ex]; exact fun q => nomatch q)
    refine wpAny_bind (wpAny_nextOf_list_item (it1.extBut sb1.extBut D.i1z) (hl1.extBut sb1.extBut D.l1z) ex fun g2 j1 sb2 => wpAny_pure ?_)
    have o2 : IsPair g2 TO a b := sb2.extBut _ _ D.TOi1 (sb1.extBut _ _ D.TOz hTO)
    refine wpAny_bind (wpAny_seqItems o2 rfl ?_)
    refine wpAny_bind (wpAny_updateSeq_pair o2 fun g3 o3 sb3 => ?_)
    refine wpAny_bind (wpAny_letGo (wpAny_pure ?_))
    refine wpAny_bind (wpAny_bind (wpAny_onRaise ?_))
    show wpAny _ _ (Builtin.SmallTypes.nextOf (.ref i2) >>= _) _ _ _
    refine wpAny_bind (wpAny_nextOf_list_end hh (((it2.extBut sb1.extBut D.i2z).extBut sb2.extBut D.i12.symm).extBut sb3.extBut D.TOi2.symm) (((hl2.extBut sb1.extBut D.l2z).extBut sb2.extBut D.l2i1).extBut sb3.extBut D.l2TO) ey fun g4 e sb4 he => ?_)
    obtain ⟨oe, e1, e2⟩ := he
    have z4 : ZipS g4 zp TI TO .ellipsis f1 := sb4 _ _ D.i2z.symm (sb3.extBut _ _ D.TOz.symm (sb2.extBut _ _ D.i1z.symm hg1))
    have ne : e ≠ zp := fun q => by subst q; rw [z4] at e1; cases e1; simp at e2
    refine wpAny_setField_rec z4 (by simp) fun g5 _ sb5 => hE g5 e (fun c u c1 c2 c3 c4 q => sb5.extBut _ _ c1 (sb4 _ _ c4 (sb3.extBut _ _ c2 (sb2.extBut _ _ c3 (sb1.extBut _ _ c1 q))))) ⟨oe, sb5.extBut _ _ ne e1, e2⟩
/-- zip's next, however its own pair stands -/
theorem zst_next {zp TI TO i1 i2 l1 l2 : Addr} {k : Nat} {xs ys : Array Value} {x y : Value} {Q : Value → Shared → Prop} (D : ZipApart zp TI TO i1 i2 l1 l2) (st : ZSt zp TI TO i1 i2 l1 l2 k s.heap)
    (hl1 : s.heap.IsList l1 xs) (hl2 : s.heap.IsList l2 ys) (hx : xs[k]? = some x) (hy : ys[k]? = some y)
    (hQ : ∀ h', ZSt zp TI TO i1 i2 l1 l2 (k + 1) h' → IsPair h' s.heap.objs.size x y → h'.objs.size = s.heap.objs.size + 1 →
      (∀ c u, c ≠ zp → c ≠ TO → c ≠ i1 → c ≠ i2 → s.heap.get? c = some u → h'.get? c = some u) → Q (.ref s.heap.objs.size) { s with heap := h' }) :
    wpAny (model prog w) A (Builtin.SmallTypes.nextOf (.ref zp)) Q E s := by
  obtain ⟨hz, hTI, ⟨a, b, hTO⟩, it1, it2⟩ := st
  have ty : s.TypeIs (.ref zp) "zip" := by
    rcases hz with hz | ⟨T, f, hz⟩
    · exact ⟨_, hz, rfl⟩
    · exact ⟨_, hz, rfl⟩
  have core : wpAny (model prog w) A.in1 (Builtin.«zip.__next__» ⟨[.ref zp], []⟩) (fun fin s' => ∃ v, fin = .done (.ret v) ∧ Q v s') E s := by
    rcases hz with hz | ⟨T, f, hz⟩
    · exact zip_next_item D hz hTI hTO it1 it2 hl1 hl2 hx hy fun h' q1 q2 q3 q4 q5 q6 q7 => hQ h' ⟨.inr ⟨_, false, q1⟩, q7 _ _ D.TIz D.TITO D.TIi1 D.TIi2 hTI, ⟨_, _, q2⟩, q3, q4⟩ q5 q6 q7
    · cases eT : s.heap.get? T with
      | none => exact zip_gone D hz eT hTI hTO it1 it2 hl1 hl2 hx hy fun h' q1 q2 q3 q4 q5 q6 q7 => hQ h' ⟨.inr ⟨_, false, q1⟩, q7 _ _ D.TIz D.TITO D.TIi1 D.TIi2 hTI, ⟨_, _, q2⟩, q3, q4⟩ q5 q6 q7
      | some o => exact zip_next_item_held D hz eT hTI it1 it2 hl1 hl2 hx hy fun h' q1 q3 q4 q5 q6 q7 => hQ h' ⟨.inr ⟨T, true, q1⟩, q7 _ _ D.TIz D.TIi1 D.TIi2 hTI, ⟨_, _, q7 _ _ D.TOz D.TOi1 D.TOi2 hTO⟩, q3, q4⟩ q5 q6 fun c u c1 _ c3 c4 => q7 c u c1 c3 c4
  unfold Builtin.SmallTypes.nextOf
  refine wpAny_bind (wpAny_callSpecial?_slot (name := Str.ofString "__next__") ty F.slot_zip_next (wpAny_call_entry F.slot_zip_next ty F.entry_zip_next ?_ (F.args_zip_next_1 _)))
  refine wpAny_mono core (fun fin s' ⟨v, e, q⟩ => ⟨v, e, wpAny_pure q⟩) fun _ _ q => q
theorem zst_end {zp TI TO i1 i2 l1 l2 : Addr} {k : Nat} {xs ys : Array Value} {Q : Value → Shared → Prop} (hh : A.handled = none) (D : ZipApart zp TI TO i1 i2 l1 l2) (st : ZSt zp TI TO i1 i2 l1 l2 k s.heap)
    (hl1 : s.heap.IsList l1 xs) (hl2 : s.heap.IsList l2 ys) (hend : xs[k]? = none ∨ ys[k]? = none)
    (hE : ∀ h' e, (∀ c u, c ≠ zp → c ≠ TO → c ≠ i1 → c ≠ i2 → s.heap.get? c = some u → h'.get? c = some u) → (∃ o, h'.get? e = some o ∧ o.cls = .type "StopIteration") → E (.ref e) { s with heap := h' }) :
    wpAny (model prog w) A (Builtin.SmallTypes.nextOf (.ref zp)) Q E s := by
  obtain ⟨hz, hTI, ⟨a, b, hTO⟩, it1, it2⟩ := st
  have ty : s.TypeIs (.ref zp) "zip" := by
    rcases hz with hz | ⟨T, f, hz⟩
    · exact ⟨_, hz, rfl⟩
    · exact ⟨_, hz, rfl⟩
  have core : ∀ {Q' : Fin → Shared → Prop}, wpAny (model prog w) A.in1 (Builtin.«zip.__next__» ⟨[.ref zp], []⟩) Q' E s := fun {Q'} => by
    rcases hz with hz | ⟨T, f, hz⟩
    · exact zip_next_end hh D hz hTI hTO it1 it2 hl1 hl2 hend hE
    · cases eT : s.heap.get? T with
      | none => exact zip_gone_end hh D hz eT hTI hTO it1 it2 hl1 hl2 hend hE
      | some o => exact zip_next_end_held hh D hz eT hTI it1 it2 hl1 hl2 hend fun h' e k q => hE h' e (fun c u c1 _ c3 c4 => k c u c1 c3 c4) q
  unfold Builtin.SmallTypes.nextOf
  exact wpAny_bind (wpAny_callSpecial?_slot (name := Str.ofString "__next__") ty F.slot_zip_next (wpAny_call_entry F.slot_zip_next ty F.entry_zip_next core (F.args_zip_next_1 _)))
theorem enz_item {e zp TI TO i1 i2 l1 l2 : Addr} {i : Nat} {xs ys : Array Value} {x y old : Value} {Q : Option Value → Shared → Prop} (D : ZipApart zp TI TO i1 i2 l1 l2) (n0 : e ≠ zp) (n1 : e ≠ TI) (n2 : e ≠ TO) (n3 : e ≠ i1) (n4 : e ≠ i2) (ee : IsEnum s.heap e zp ((i : Nat) : Int) old)
    (st : ZSt zp TI TO i1 i2 l1 l2 i s.heap) (hl1 : s.heap.IsList l1 xs) (hl2 : s.heap.IsList l2 ys) (hx : xs[i]? = some x) (hy : ys[i]? = some y)
    (hQ : ∀ g1 g2 tk, IsPair g1 s.heap.objs.size x y → g1.objs.size = s.heap.objs.size + 1 → (∀ c u, c ≠ zp → c ≠ TO → c ≠ i1 → c ≠ i2 → s.heap.get? c = some u → g1.get? c = some u) →
      ZSt zp TI TO i1 i2 l1 l2 (i + 1) g2 → IsEnumOut g2 e zp ((i : Int) + 1) (.ref s.heap.objs.size) (s.heap.objs.size + 1) → g2.get? (s.heap.objs.size + 1) = some { cls := .type "tuple", data := .seq #[.int i tk, .ref s.heap.objs.size] } →
      g2.objs.size = s.heap.objs.size + 2 → (∀ c u, c ≠ e → g1.get? c = some u → g2.get? c = some u) → Q (some (.ref (s.heap.objs.size + 1))) { s with heap := g2, toks := tk + 1 }) :
    wpAny (model prog w) A (pyNext (.ref e)) Q E s := by
  have ty : s.TypeIs (.ref e) "enumerate" := ⟨_, ee, rfl⟩
  have core : wpAny (model prog w) A.in1 (Builtin.«enumerate.__next__» ⟨[.ref e], []⟩) (fun fin s' => ∃ v, fin = .done (.ret v) ∧ Q (some v) s') (fun _ _ => False) s := by
    obtain ⟨hp, gn, dr, tk, os⟩ := s
    show wpAny _ _ (field (.ref e) 2 >>= _) _ _ _
    refine wpAny_bind (wpAny_field ee rfl (x := .ref zp) rfl ?_)
    refine wpAny_bind (zst_next D st hl1 hl2 hx hy fun g1 st1 pr1 sz1 kp1 => ?_)
    replace pr1 : IsPair g1 hp.objs.size x y := pr1
    replace sz1 : g1.objs.size = hp.objs.size + 1 := sz1
    have ee1 : IsEnum g1 e zp ((i : Nat) : Int) old := kp1 _ _ n0 n2 n3 n4 ee
    show wpAny _ _ (field (.ref e) 3 >>= _) _ _ ⟨g1, gn, dr, tk, os⟩
    refine wpAny_bind (wpAny_field ee1 rfl (x := rawInt ((i : Nat) : Int)) rfl ?_)
    show wpAny _ _ (field (.ref e) 4 >>= _) _ _ ⟨g1, gn, dr, tk, os⟩
    refine wpAny_bind (wpAny_field ee1 rfl (x := .none) rfl ?_)
    show wpAny _ _ (mkInt ((i : Nat) : Int) >>= _) _ _ ⟨g1, gn, dr, tk, os⟩
    refine wpAny_bind (wpAny_mkInt ?_)
    show wpAny _ _ (setField (.ref e) 3 (rawInt (((i : Nat) : Int) + 1)) >>= _) _ _ ⟨g1, gn, dr, tk + 1, os⟩
    refine wpAny_bind (wpAny_setField_rec ee1 (by simp) fun g2 ee2 sb2 => ?_)
    replace sb2 : Heap.SameBut e g1 g2 := sb2
    replace ee2 : IsEnum g2 e zp ((i : Int) + 1) old := ee2
    show wpAny _ _ (setField (.ref e) 4 .none >>= _) _ _ ⟨g2, gn, dr, tk + 1, os⟩
    refine wpAny_bind (wpAny_setField_rec ee2 (by simp) fun g3 ee3 sb3 => ?_)
    replace sb3 : Heap.SameBut e g2 g3 := sb3
    replace ee3 : IsEnum g3 e zp ((i : Int) + 1) old := ee3
    show wpAny _ _ (newTuple [.int i tk, .ref hp.objs.size] >>= _) _ _ ⟨g3, gn, dr, tk + 1, os⟩
    refine wpAny_bind (wpAny_newTuple ?_)
    have sz3 : g3.objs.size = hp.objs.size + 1 := by rw [sb3.1, sb2.1, sz1]
    have ee4 : IsEnum (g3.push { cls := .type "tuple", data := .seq #[.int i tk, .ref hp.objs.size] }) e zp ((i : Int) + 1) old := Heap.get?_push_of_some _ ee3
    have kp4 : ∀ c u, c ≠ e → g1.get? c = some u → (g3.push { cls := .type "tuple", data := .seq #[.int i tk, .ref hp.objs.size] }).get? c = some u := fun c u c1 q => Heap.get?_push_of_some _ (sb3.extBut c u c1 (sb2.extBut c u c1 q))
    have tu4 : (g3.push { cls := .type "tuple", data := .seq #[.int i tk, .ref hp.objs.size] }).get? (hp.objs.size + 1) = some { cls := .type "tuple", data := .seq #[.int i tk, .ref hp.objs.size] } := by rw [← sz3]; exact Heap.get?_push_size _ rfl
    have sz4 : (g3.push { cls := .type "tuple", data := .seq #[.int i tk, .ref hp.objs.size] }).objs.size = hp.objs.size + 2 := by rw [Heap.size_push, sz3]
    generalize g3.push { cls := .type "tuple", data := .seq #[.int i tk, .ref hp.objs.size] } = g4 at ee4 kp4 tu4 sz4
    have el : e ≠ hp.objs.size + 1 := Nat.ne_of_lt (Nat.lt_succ_of_lt (Heap.lt_size ee))
    show wpAny _ _ (Builtin.SmallTypes.ownedTupleIsFree (.ref e) >>= _) _ _ ⟨g4, gn, dr, tk + 1, os⟩
    rw [sz3]
    refine wpAny_bind ?_
    unfold Builtin.SmallTypes.ownedTupleIsFree
    refine wpAny_bind (wpAny_field ee4 rfl (x := .none) rfl (wpAny_pure ?_))
    simp only [if_true]
    refine wpAny_bind (wpAny_rule ?_)
    refine wpAny_bind (wpAny_field ee4 rfl (x := old) rfl ?_)
    refine wpAny_bind (wpAny_setField_rec ee4 (by simp) fun g5 ee5 sb5 => ?_)
    replace sb5 : Heap.SameBut e g4 g5 := sb5
    replace ee5 : IsEnum g5 e zp ((i : Int) + 1) (.ref hp.objs.size) := ee5
    show wpAny _ _ (Builtin.SmallTypes.ownedTupleHandOut (.ref e) (.ref (hp.objs.size + 1)) >>= _) _ _ ⟨g5, gn, dr, tk + 1, os⟩
    refine wpAny_bind ?_
    unfold Builtin.SmallTypes.ownedTupleHandOut
    refine wpAny_bind (wpAny_setField_rec ee5 (by simp) fun g6 ee6 sb6 => ?_)
    replace sb6 : Heap.SameBut e g5 g6 := sb6
    replace ee6 : IsEnumOut g6 e zp ((i : Int) + 1) (.ref hp.objs.size) (hp.objs.size + 1) := ee6
    refine wpAny_setField_rec ee6 (by simp) fun g7 ee7 sb7 => ?_
    replace sb7 : Heap.SameBut e g6 g7 := sb7
    replace ee7 : IsEnumOut g7 e zp ((i : Int) + 1) (.ref hp.objs.size) (hp.objs.size + 1) := ee7
    have kp7 : ∀ c u, c ≠ e → g4.get? c = some u → g7.get? c = some u := fun c u c1 q => sb7.extBut c u c1 (sb6.extBut c u c1 (sb5.extBut c u c1 q))
    refine wpAny_bind (wpAny_letGo (wpAny_pure ⟨_, rfl, hQ g1 g7 tk pr1 sz1 kp1 ?_ ee7 (kp7 _ _ (Ne.symm el) tu4) ?_ fun c u c1 q => kp7 c u c1 (kp4 c u c1 q)⟩))
    · obtain ⟨hz, hTI, ⟨a, b, hTO⟩, it1, it2⟩ := st1
      have up : ∀ c u, c ≠ e → g1.get? c = some u → g7.get? c = some u := fun c u c1 q => kp7 c u c1 (kp4 c u c1 q)
      refine ⟨?_, up _ _ n1.symm hTI, ⟨a, b, up _ _ n2.symm hTO⟩, it1.at fun o q => up _ o n3.symm q, it2.at fun o q => up _ o n4.symm q⟩
      rcases hz with hz | ⟨T, f, hz⟩
      · exact .inl (up _ _ n0.symm hz)
      · exact .inr ⟨T, f, up _ _ n0.symm hz⟩
    · show g7.objs.size = hp.objs.size + 2
      rw [sb7.1, sb6.1, sb5.1, sz4]
  unfold pyNext
  refine wpAny_bind (wpAny_attempt (wpAny_callSpecial?_slot (name := Str.ofString "__next__") ty F.slot_enumerate_next (wpAny_call_entry F.slot_enumerate_next ty F.entry_enumerate_next ?_ (F.args_enumerate_next_1 _))))
  exact wpAny_mono core (fun fin s' ⟨v, q1, q2⟩ => ⟨v, q1, wpAny_pure q2⟩) fun _ _ q => q.elim
theorem enz_end {e zp TI TO i1 i2 l1 l2 : Addr} {i : Nat} {xs ys : Array Value} {old : Value} {Q : Option Value → Shared → Prop} (hh : A.handled = none) (D : ZipApart zp TI TO i1 i2 l1 l2) (ee : IsEnum s.heap e zp ((i : Nat) : Int) old)
    (st : ZSt zp TI TO i1 i2 l1 l2 i s.heap) (hl1 : s.heap.IsList l1 xs) (hl2 : s.heap.IsList l2 ys) (hend : xs[i]? = none ∨ ys[i]? = none)
    (hQ : ∀ h', (∀ c u, c ≠ zp → c ≠ TO → c ≠ i1 → c ≠ i2 → s.heap.get? c = some u → h'.get? c = some u) → Q none { s with heap := h' }) : wpAny (model prog w) A (pyNext (.ref e)) Q E s := by
  have ty : s.TypeIs (.ref e) "enumerate" := ⟨_, ee, rfl⟩
  unfold pyNext
  refine wpAny_bind (wpAny_attempt (wpAny_callSpecial?_slot (name := Str.ofString "__next__") ty F.slot_enumerate_next (wpAny_call_entry F.slot_enumerate_next ty F.entry_enumerate_next ?_ (F.args_enumerate_next_1 _))))
  show wpAny _ _ (field (.ref e) 2 >>= _) _ _ _
  refine wpAny_bind (wpAny_field ee rfl (x := .ref zp) rfl ?_)
  refine wpAny_bind (zst_end hh D st hl1 hl2 hend fun h' x kp hx => ?_)
  obtain ⟨o, ho, hc⟩ := hx
  exact wpAny_bind (wpAny_isInstance (T := "StopIteration") (b := true) ⟨o, ho, hc⟩ isSubtype_stop (wpAny_pure (hQ _ kp)))
end
/-- the lists at a and b: at each turn a new pair of its number and a new pair of their items -/
def Itez (K : PySem.W.Frag) (a b : Addr) : It :=
  ⟨fun i H => ∃ (xs ys : List V) (x y : V), SqL K H a xs ∧ SqL K H b ys ∧ xs[i]? = some x ∧ ys[i]? = some y,
    fun i H v H' => ∃ P T x y, v = .ref T ∧ H P = none ∧ H T = none ∧ T ≠ P ∧ H' = upd (upd H P (.tup [x, y])) T (.tup [.int (i : Nat), .ref P]) ∧ (∀ xs, SqL K H a xs → xs[i]? = some x) ∧ ∀ ys, SqL K H b ys → ys[i]? = some y,
    fun i H => ∃ xs ys : List V, SqL K H a xs ∧ SqL K H b ys ∧ (xs.length ≤ i ∨ ys.length ≤ i)⟩
theorem turn_enz {P : Program} {w : World} {K : PySem.W.Frag} {elts : List Expr} {kk : Nat} {tpos : Pos} {a b e zp TI TO i1 i2 : Addr} (D : ZipApart zp TI TO i1 i2 a b) (n0 : e ≠ zp) (n1 : e ≠ TI) (n2 : e ≠ TO) (n3 : e ≠ i1) (n4 : e ≠ i2) :
    Turn P w K (.Tuple elts kk tpos) (Itez K a b) [e, zp, TI, TO, i1, i2] e (fun i h => (∃ old, IsEnum h e zp ((i : Nat) : Int) old) ∧ ZSt zp TI TO i1 i2 a b i h) where
  mem := by simp
  obj := fun i h st c hc => by
    obtain ⟨⟨old, ee⟩, hz, hTI, ⟨x, y, hTO⟩, ⟨o1, e1, _, d1⟩, ⟨o2, e2, _, d2⟩⟩ := st
    simp only [List.mem_cons, List.not_mem_nil, or_false] at hc
    rcases hc with rfl | rfl | rfl | rfl | rfl | rfl
    · exact ⟨_, ee, fun v q => nomatch q⟩
    · rcases hz with hz | ⟨T, f, hz⟩
      · exact ⟨_, hz, fun v q => nomatch q⟩
      · exact ⟨_, hz, fun v q => nomatch q⟩
    · exact ⟨_, hTI, fun v q => nomatch q⟩
    · exact ⟨_, hTO, fun v q => nomatch q⟩
    · exact ⟨o1, e1, fun v q => by rw [d1] at q; cases q⟩
    · exact ⟨o2, e2, fun v q => by rw [d2] at q; cases q⟩
  keep := fun i h h' st k => by
    obtain ⟨⟨old, ee⟩, hz, hTI, ⟨x, y, hTO⟩, it1, it2⟩ := st
    refine ⟨⟨old, k e (by simp) _ ee⟩, ?_, k TI (by simp) _ hTI, ⟨x, y, k TO (by simp) _ hTO⟩, it1.at fun o q => k i1 (by simp) o q, it2.at fun o q => k i2 (by simp) o q⟩
    rcases hz with hz | ⟨T, f, hz⟩
    · exact .inl (k zp (by simp) _ hz)
    · exact .inr ⟨T, f, k zp (by simp) _ hz⟩
  self := fun A i s Q E st h => let ⟨⟨_, ee⟩, _⟩ := st; wpAny_pyIter_enum ee h
  item := by
    intro X eP ew eK hc i pins s σ H E I hf st hg
    subst eP ew eK
    obtain ⟨⟨old, ee⟩, zs⟩ := st
    obtain ⟨xs, ys, x, y, qx, qy, ex, ey⟩ := hg
    obtain ⟨us, r1, p1, _⟩ := I.list qx
    obtain ⟨ws, r2, p2, _⟩ := I.list qy
    obtain ⟨u, eu, ru⟩ := r1.get ex
    obtain ⟨u2, eu2, ru2⟩ := r2.get ey
    have el : e < s.heap.objs.size := Heap.lt_size ee
    refine enz_item D n0 n1 n2 n3 n4 ee zs p1.isList p2.isList (x := u) (y := u2) (by simpa using eu) (by simpa using eu2) fun g1 g2 tk pr1 sz1 kp1 zs2 eo2 tu2 sz2 kp2 => ?_
    refine ⟨_, rfl, wpAny_letOwnedTupleGo_enum (s := { s with heap := g2, toks := tk + 1 }) eo2 fun g3 ee3 sb3 => ?_⟩
    have new1 : ObjOk X.prog X.w (upd H s.heap.objs.size (.tup [x, y])) g1 s.heap.objs.size (.tup [x, y]) := ⟨by show 2 ≤ sizeLine; decide, [u, u2], .cons ru (.cons ru2 .nil), ⟨_, pr1, rfl, _, rfl⟩⟩
    have I1 : Inv X pins σ (upd H s.heap.objs.size (.tup [x, y])) { s with heap := g1, toks := tk } :=
      I.turnedNew (t' := tk) (ch := [e, zp, TI, TO, i1, i2]) (fun c o hb q => by
        simp only [List.mem_cons, List.not_mem_nil, or_false, not_or] at hb
        exact kp1 c o hb.2.1 hb.2.2.2.1 hb.2.2.2.2.1 hb.2.2.2.2.2 q) hf (Nat.le_refl _) new1
    have nP : H s.heap.objs.size = none := I.hok.fresh (Nat.le_refl _)
    have nT : H (s.heap.objs.size + 1) = none := I.hok.fresh (Nat.le_succ _)
    have lt_of : ∀ c ∈ [e, zp, TI, TO, i1, i2], c < s.heap.objs.size := fun c hcm => by
      obtain ⟨hz, hTI, ⟨x0, y0, hTO⟩, ⟨o1, e1, _⟩, ⟨o2, e2, _⟩⟩ := zs
      simp only [List.mem_cons, List.not_mem_nil, or_false] at hcm
      rcases hcm with rfl | rfl | rfl | rfl | rfl | rfl
      · exact el
      · rcases hz with hz | ⟨T, f, hz⟩ <;> exact Heap.lt_size hz
      · exact Heap.lt_size hTI
      · exact Heap.lt_size hTO
      · exact Heap.lt_size e1
      · exact Heap.lt_size e2
    have hf1 : ∀ c ∈ [e, zp, TI, TO, i1, i2], FpOk X pins (upd H s.heap.objs.size (.tup [x, y])) c := fun c hcm => by
      obtain ⟨f0, fr⟩ := hf c hcm
      refine ⟨?_, fr⟩
      rw [upd_ne (Nat.ne_of_lt (lt_of c hcm))]; exact f0
    have tu3 : g3.get? (s.heap.objs.size + 1) = some { cls := .type "tuple", data := .seq #[.int i tk, .ref s.heap.objs.size] } := (sb3.2 _ (Nat.ne_of_gt (Nat.lt_succ_of_lt el))).trans tu2
    have new2 : ObjOk X.prog X.w (upd (upd H s.heap.objs.size (.tup [x, y])) (s.heap.objs.size + 1) (.tup [.int (i : Nat), .ref s.heap.objs.size])) g3 (s.heap.objs.size + 1) (.tup [.int (i : Nat), .ref s.heap.objs.size]) :=
      ⟨by show 2 ≤ sizeLine; decide, [.int i tk, .ref s.heap.objs.size], .cons ⟨_, rfl⟩ (.cons rfl .nil), ⟨_, tu3, rfl, _, rfl⟩⟩
    have I2 : Inv X pins σ (upd (upd H s.heap.objs.size (.tup [x, y])) (s.heap.objs.size + 1) (.tup [.int (i : Nat), .ref s.heap.objs.size])) { s with heap := g3, toks := tk + 1 } :=
      I1.turnedNew (t' := tk + 1) (h' := g3) (ch := [e, zp, TI, TO, i1, i2]) (fun c o hb q => by
        simp only [List.mem_cons, List.not_mem_nil, or_false, not_or] at hb
        exact (sb3.2 c hb.1).trans (kp2 c o hb.1 q)) hf1 (Nat.le_of_eq sz1) new2
    refine ⟨.ref (s.heap.objs.size + 1), _, I2, rfl, ⟨s.heap.objs.size, s.heap.objs.size + 1, x, y, rfl, nP, nT, Nat.succ_ne_self _, rfl, fun l hl => by rw [I.list_inj hl qx]; exact ex, fun l hl => by rw [I.list_inj hl qy]; exact ey⟩, ⟨⟨.ref s.heap.objs.size, ?_⟩, ?_⟩, fun c hcm => ?_⟩
    · have e1 : ((i + 1 : Nat) : Int) = (i : Int) + 1 := by omega
      rw [e1]; exact ee3
    · obtain ⟨hz, hTI, ⟨x0, y0, hTO⟩, it1, it2⟩ := zs2
      refine ⟨?_, (sb3.2 _ n1.symm).trans hTI, ⟨_, _, (sb3.2 _ n2.symm).trans hTO⟩, it1.at fun o q => (sb3.2 _ n3.symm).trans q, it2.at fun o q => (sb3.2 _ n4.symm).trans q⟩
      rcases hz with hz | ⟨T, f, hz⟩
      · exact .inl ((sb3.2 _ n0.symm).trans hz)
      · exact .inr ⟨T, f, (sb3.2 _ n0.symm).trans hz⟩
    · have l := lt_of c hcm
      rw [upd_ne (Nat.ne_of_lt (Nat.lt_succ_of_lt l)), upd_ne (Nat.ne_of_lt l)]
      exact (hf c hcm).1
  done := by
    intro X eP ew eK hc i pins s σ H E I hf st hg
    subst eP ew eK
    obtain ⟨⟨old, ee⟩, zs⟩ := st
    obtain ⟨xs, ys, qx, qy, hend⟩ := hg
    obtain ⟨us, r1, p1, _⟩ := I.list qx
    obtain ⟨ws, r2, p2, _⟩ := I.list qy
    have l1 := r1.length
    have l2 := r2.length
    refine enz_end (I.ok.hd hc) D ee zs p1.isList p2.isList (hend.imp (fun q => by simp; omega) fun q => by simp; omega) fun h' kp => ⟨rfl, ?_⟩
    refine I.turnedL (t' := s.toks) (ch := [e, zp, TI, TO, i1, i2]) (fun c o hb q => ?_) hf
    simp only [List.mem_cons, List.not_mem_nil, or_false, not_or] at hb
    exact kp c o hb.2.1 hb.2.2.2.1 hb.2.2.2.2.1 hb.2.2.2.2.2 q
/-- enumerate(v), v its own iterator -/
theorem meets_enum_own {v : Value} {P : Heap → Prop} (hit : ∀ (prog : Program) (w : World) (A : Around) (E : Value → Shared → Prop) (s : Shared) (Q : Value → Shared → Prop), P s.heap → Q v s → wpAny (model prog w) A (pyIter v) Q E s) :
    Meets (Builtin.«enumerate.__new__» ⟨[.type "enumerate", v], []⟩) (fun _ R s => P s.heap ∧ R (.ok (.ret (.ref s.heap.objs.size))) { s with heap := s.heap.push { cls := .type "enumerate", data := .fields #[.none, .bool false, v, rawInt 0, .none, .none] } }) :=
  .of_wp fun prog w A R s h => by
    obtain ⟨hp, gn, dr, tk, os⟩ := s
    obtain ⟨hP, h⟩ := h
    have sub := sub_enumerate
    have own : ∀ {A' : Around} {E : Value → Shared → Prop} {Q : Value → Shared → Prop}, Q v ⟨hp, gn, dr, tk, os⟩ → wpAny (model prog w) A' (pyIter v) Q E ⟨hp, gn, dr, tk, os⟩ := fun q => hit prog w _ _ ⟨hp, gn, dr, tk, os⟩ _ hP q
    wp_walk using own
    refine wpAny_stack_any fun stk => wpAny_pure ?_
    split
    · rename_i c _ _ _ _ _
      cases (c == Value.type "enumerate") <;> (wp_walk using own; exact ⟨_, rfl, h⟩)
    · wp_walk using own
      exact ⟨_, rfl, h⟩
section
variable {prog : Program} {w : World} {A : Around} {E : Value → Shared → Prop} {s : Shared}
theorem call_enum_own {z : Addr} {P : Heap → Prop} {Q : Value → Shared → Prop} (hit : ∀ (prog : Program) (w : World) (A : Around) (E : Value → Shared → Prop) (s : Shared) (Q : Value → Shared → Prop), P s.heap → Q (.ref z) s → wpAny (model prog w) A (pyIter (.ref z)) Q E s) (hP : P s.heap)
    (h : ∀ h', IsEnum h' s.heap.objs.size z 0 .none → (∀ b o, s.heap.get? b = some o → h'.get? b = some o) → Q (.ref s.heap.objs.size) { s with heap := h' }) : wpAny (model prog w) A (call (.type "enumerate") [.ref z]) Q E s := by
  refine callType_new F.called_enumerate (by decide) (F.typeCall_enumerate_1 _) (F.newCall_enumerate_1 _) (fun obj => F.args_object_init_2 obj _) F.entry_enumerate_new (meets_enum_own hit) ⟨hP, ?_⟩
  have he : IsEnum (s.heap.push { cls := .type "enumerate", data := .fields #[.none, .bool false, .ref z, rawInt 0, .none, .none] }) s.heap.objs.size z 0 .none := Heap.get?_push_size _ rfl
  exact ⟨⟨_, he, rfl⟩, h _ he fun b o x => Heap.get?_push_of_some _ x⟩
end
theorem pi_enz {X : Cx} {e e2 : Expr} {ta : TA} {p p2 pos pos2 tpos : Pos} {elts : List Expr} {kk : Nat} (hg : Gl X "enumerate") (hm : X.mg "enumerate" = none) (hg2 : Gl X "zip") (hm2 : X.mg "zip" = none) (ha : PA X [e, e2] ta)
    (hs : starEach [e, e2] X.env = (false, eval e X.env) :: starEach [e2] X.env) (hpl : (backTo pos2 (starEach [e2] X.env)).any (·.1) = false) :
    PI X (.Tuple elts kk tpos) (.Call (.Name "enumerate" p) [.Call (.Name "zip" p2) [e, e2] [] pos2] [] pos) (fun σ H R => ta σ H fun vs H1 => ∃ a b xs ys, vs = [.ref a, .ref b] ∧ SqL X.K H1 a xs ∧ SqL X.K H1 b ys ∧ R (Itez X.K a b) H1) := by
  refine ⟨fun pins s σ H R I h => Call_ (ld_blt I hg hm boot_enumerate (PyProof.Rows.callWith_type1 (Calls.spliced_cons (Call_ (ld_blt I hg2 hm2 PyProof.Rows.boot_zip (PyProof.Rows.callWith_type1 (thn (ha.run pos2 pins s σ H _ I h) fun us s1 ⟨vs, H1, I1, r1, q1⟩ => ?_) hs hpl)))) rfl rfl))⟩
  obtain ⟨a, b, xs, ys, rfl, qx, qy, q⟩ := q1
  obtain ⟨v1, v2, rfl, k1, k2⟩ := vals2 r1
  cases k1
  cases k2
  obtain ⟨us, rx, p1, _⟩ := I1.list qx
  obtain ⟨ws, ry, p2, _⟩ := I1.list qy
  refine call_zip_2 p1.isList p2.isList fun h' hz hTI hTO h1 h2 hsz hk => Calls.spliced_nil ?_
  refine call_enum_own (P := fun h => IsZip h (s1.heap.objs.size + 4) (s1.heap.objs.size + 2) (s1.heap.objs.size + 3) .none) (fun prog w A E s Q hz q => wpAny_pyIter_zip hz q) hz fun g he hk2 => wpAny_pyIter_enum he ?_
  have hsz : h'.objs.size = s1.heap.objs.size + 5 := hsz
  replace he : IsEnum g (s1.heap.objs.size + 5) (s1.heap.objs.size + 4) 0 .none := by rw [← hsz]; exact he
  have nn : ∀ {a b : Nat}, a > b → a ≠ b := fun h => by omega
  have D := PySem.W.ktu_apart s1.heap.objs.size a b p1.lt p2.lt
  have I2 : Inv X pins σ H1 { s1 with heap := g } := I1.kept (t' := s1.toks) fun b o q => hk2 b o (hk b o q)
  refine ⟨s1.heap.objs.size + 5, [s1.heap.objs.size + 5, s1.heap.objs.size + 4, s1.heap.objs.size + 2, s1.heap.objs.size + 3, s1.heap.objs.size, s1.heap.objs.size + 1], _, _, H1, by show Value.ref h'.objs.size = _; rw [hsz], I2, turn_enz D (nn (by omega)) (nn (by omega)) (nn (by omega)) (nn (by omega)) (nn (by omega)), ⟨⟨.none, he⟩, .inl (hk2 _ _ hz), hk2 _ _ hTI, ⟨_, _, hk2 _ _ hTO⟩, h1.at fun o q => hk2 _ o q, h2.at fun o q => hk2 _ o q⟩, fun c hcm => ?_, q⟩
  have hle : s1.heap.objs.size ≤ c := by
    simp only [List.mem_cons, List.not_mem_nil, or_false] at hcm
    rcases hcm with rfl | rfl | rfl | rfl | rfl | rfl <;> omega
  exact I1.fpOk hle (I1.hok.fresh hle)
end HotZ
end
section
set_option Elab.async false
set_option linter.all false
set_option maxRecDepth 100000
set_option maxHeartbeats 1000000
/-! SndA: more built-in functions and methods, what is walked, by values. -/
namespace Mn
open PySem PySem.Spec PyProof.Rows L2 HotZ
section
variable {X : Cx} {g : G} {Wx : WX}
theorem ok_tuple (hK : X.K = g.K) : CallR X (.type "tuple") (rB g Wx .tuple) := by
  refine CallR.imp call_tuple_of fun vs H Q h => ?_
  obtain ⟨w, Fr, σ, S, ds, hs, hr, hp⟩ := h
  obtain ⟨d, e, hq⟩ := post_opt hp
  unfold bfV at e
  split at e <;> first
    | (rename_i heq; cases heq; done)
    | (cases e; done)
    | (cases e
       obtain ⟨v, rfl, h1⟩ := reps1 hr
       first
         | (cases h1 with
            | lst h r =>
              refine ⟨_, _, rfl, .inl ⟨.of (hs.h0 _ _ h), fun l nl => ?_⟩⟩
              obtain ⟨s2, le⟩ := hs.data (o := .tup _) nl
              exact hq _ _ _ le s2 (.tup (.of upd_same) (r.mono le)))
         | (cases h1 with
            | tup h r => exact ⟨_, _, rfl, .inr ⟨by rw [hK]; exact sqT_same hs.h0 h, hq.ok hs (.tup h r)⟩⟩))
theorem foldmax : ∀ (r : List Int) (n : Int), (r.foldl (fun a b => if b > a then b else a) n) ∈ n :: r ∧ ∀ y ∈ n :: r, y ≤ r.foldl (fun a b => if b > a then b else a) n
  | [], n => ⟨by simp, by simp⟩
  | b :: r, n => by
    obtain ⟨h1, h2⟩ := foldmax r (if b > n then b else n)
    rw [List.foldl_cons]
    refine ⟨?_, fun y hy => ?_⟩
    · rcases List.mem_cons.mp h1 with h | h
      · rw [h]; split <;> simp
      · exact List.mem_cons_of_mem _ (List.mem_cons_of_mem _ h)
    · have h3 := h2 _ List.mem_cons_self
      rcases List.mem_cons.mp hy with rfl | hy
      · refine Int.le_trans ?_ h3; split <;> omega
      · rcases List.mem_cons.mp hy with rfl | hy
        · refine Int.le_trans ?_ h3; split <;> omega
        · exact h2 _ (List.mem_cons_of_mem _ hy)
theorem ok_max1 (hc : X.calm = true) : CallR X (.builtin "max") (rB g Wx .max1) := by
  refine CallR.imp (cr_max hc) fun vs H Q h => ?_
  obtain ⟨w, Fr, σ, S, ds, hs, hr, hp⟩ := h
  obtain ⟨d, e, hq⟩ := post_opt hp
  unfold bfV at e
  split at e <;> first
    | (rename_i heq; cases heq; done)
    | (cases e; done)
    | (split at e
       · rename_i n r e1
         cases e
         obtain ⟨v, rfl, h1⟩ := reps1 hr
         cases h1 with
         | lst h r' =>
           have ev := intsOf_rep r' e1
           subst ev
           refine ⟨_, n :: r, rfl, .of (hs.h0 _ _ h), Nat.succ_pos _, fun m hm hl => ?_⟩
           obtain ⟨f1, f2⟩ := foldmax r n
           have : m = r.foldl (fun a b => if b > a then b else a) n := Int.le_antisymm (f2 m hm) (hl _ f1)
           rw [this]
           exact hq.ok hs (.int _)
       · cases e)
theorem ok_lcount (hK : X.K = g.K) : MtR X "list.count" (rM g Wx .lcount) := by
  refine MtR.imp mt_bcount fun v vs H Q h => ?_
  obtain ⟨w, Fr, σ, S, x, ds, hs, hx, hr, hp⟩ := h
  obtain ⟨d, S3, e, hq⟩ := post_mf hp
  unfold mfV at e
  split at e <;> first
    | (rename_i heq _ _; cases heq; done)
    | (rename_i heq; cases heq; done)
    | (cases e; done)
    | (rename_i xs b _
       obtain ⟨bs, e1, e2⟩ := map_some e
       cases e2
       obtain ⟨u, rfl, h1⟩ := reps1 hr
       cases h1
       cases hx with
       | lst h r =>
         have ev := blsOf_rep r e1
         subst ev
         exact ⟨_, bs, b, rfl, rfl, .of (hs.h0 _ _ h), hq.ok hs (.int _)⟩)
theorem count_in (c : Nat) : ∀ l : List Nat, countIn (.str ⟨#[c]⟩) (l.map fun n => PyData.str ⟨#[n]⟩) = (l.count c : Int)
  | [] => rfl
  | n :: r => by
    rw [List.map_cons, List.count_cons]
    show (if PyData.eqv (.str ⟨#[n]⟩) (.str ⟨#[c]⟩) then (1 : Int) else 0) + countIn (.str ⟨#[c]⟩) (r.map fun n => PyData.str ⟨#[n]⟩) = _
    rw [count_in c r]
    have e : PyData.eqv (.str ⟨#[n]⟩) (.str ⟨#[c]⟩) = (n == c) := by
      show (mkS [n] == mkS [c]) = _
      rw [mkS_inj]; simp
    rw [e]
    by_cases h : (n == c) = true
    · rw [if_pos h, if_pos h]; omega
    · rw [if_neg h, if_neg h]; omega
theorem ok_count : MtR X "str.count" (rM g Wx .count) := by
  refine MtR.imp mt_count fun v vs H Q h => ?_
  obtain ⟨w, Fr, σ, S, x, ds, hs, hx, hr, hp⟩ := h
  obtain ⟨d, S3, e, hq⟩ := post_mf hp
  unfold mfV at e
  split at e <;> first
    | (rename_i heq _ _; cases heq; done)
    | (rename_i heq; cases heq; done)
    | (cases e; done)
    | (rename_i xs c _
       cases e
       obtain ⟨u, rfl, h1⟩ := reps1 hr
       cases h1
       cases hx
       refine ⟨mkS xs, mkS [c], rfl, rfl, ?_⟩
       have z := count_is (mkS xs) c
       have z2 : Txt.count (mkS xs) (mkS [c]) = (xs.count c : Int) := z.trans (count_in c xs)
       rw [z2]
       exact hq.ok hs (.int _))
theorem idx_first {y : List Nat} : ∀ {ys : List (List Nat)}, y ∈ ys → ys[ys.idxOf y]? = some y ∧ ∀ m z, m < ys.idxOf y → ys[m]? = some z → z ≠ y
  | [], h => nomatch h
  | a :: r, h => by
    by_cases ha : a = y
    · subst ha
      rw [List.idxOf_cons_self]
      exact ⟨rfl, fun m z hm => absurd hm (Nat.not_lt_zero _)⟩
    · have e0 : (a :: r).idxOf y = r.idxOf y + 1 := by
        rw [List.idxOf_cons]
        have : (a == y) = false := by simpa using ha
        rw [this]; rfl
      rw [e0]
      have hr : y ∈ r := (List.mem_cons.mp h).resolve_left (fun z => ha z.symm)
      obtain ⟨h1, h2⟩ := idx_first hr
      refine ⟨by simpa using h1, fun m z hm hz => ?_⟩
      cases m with
      | zero => simp at hz; subst hz; exact ha
      | succ m => exact h2 m z (by omega) (by simpa using hz)
theorem ok_split : MtR X "str.split" (rM g Wx .split) := by
  refine MtR.imp mt_split fun v vs H Q h => ?_
  obtain ⟨w, Fr, σ, S, x, ds, hs, hx, hr, hp⟩ := h
  obtain ⟨d, S3, e, hq⟩ := post_mf hp
  have z : ∃ y c, x = .str y ∧ ds = [.str [c]] := by
    unfold mfV at e
    split at e <;> first
      | (rename_i heq _ _; cases heq; done)
      | (rename_i heq _; cases heq; done)
      | (rename_i heq; cases heq; done)
      | (cases e; done)
      | exact ⟨_, _, rfl, rfl⟩
  obtain ⟨y, c, rfl, rfl⟩ := z
  have e : (if ((splitX y c).all okW && decide (y.length ≤ LIM) && decide ((splitX y c).length ≤ LIM)) = true then some (D.lst ((splitX y c).map .str), S) else none) = some (d, S3) := e
  split at e
  · rename_i hc
    cases e
    simp only [Bool.and_eq_true, decide_eq_true_eq] at hc
    obtain ⟨⟨h1, h2⟩, h3⟩ := hc
    cases hx with
    | str _ y1 y2 =>
    cases hr with
    | cons r1 rr =>
    cases rr
    cases r1 with
    | str _ c1 c2 =>
    refine ⟨mkS y, mkS [c], rfl, rfl, rfl, ?_, fun p np => ?_⟩
    · rw [mkS_len]
      have := sizeLine_ge
      have : LIM = 1000000 := rfl
      omega
    · obtain ⟨s2, le⟩ := hs.data (o := .lst ((Txt.split (mkS y) (mkS [c])).map V.str)) np
      refine hq _ _ _ le s2 (.lst upd_same ?_)
      have gen : ∀ l : List Str, (l.map fun s => s.cps.toList).all okW = true → Rgs g ⟨w.al, upd w.H0 p (.lst ((Txt.split (mkS y) (mkS [c])).map V.str))⟩ ((l.map fun s => s.cps.toList).map D.str) (l.map V.str) := fun l => by
        induction l with
        | nil => intro _; exact .nil
        | cons a r ih =>
          intro h
          rw [List.map_cons, List.all_cons, Bool.and_eq_true] at h
          have ha := h.1
          unfold okW at ha
          rw [Bool.and_eq_true, decide_eq_true_eq] at ha
          have q : Rg g ⟨w.al, upd w.H0 p (.lst ((Txt.split (mkS y) (mkS [c])).map V.str))⟩ (.str a.cps.toList) (.str (mkS a.cps.toList)) := .str _ ha.1 (Nat.le_trans ha.2 LIM_le)
          have ea : mkS a.cps.toList = a := by
            apply Str.ext'
            show a.cps.toList.toArray = a.cps
            simp
          rw [ea] at q
          exact .cons q (ih h.2)
      exact gen _ h1
  · cases e
theorem ok_index (hK : X.K = g.K) : MtR X "list.index" (rM g Wx .index) := by
  refine MtR.imp mt_index fun v vs H Q h => ?_
  obtain ⟨w, Fr, σ, S, x, ds, hs, hx, hr, hp⟩ := h
  obtain ⟨d, S3, e, hq⟩ := post_mf hp
  unfold mfV at e
  split at e <;> first
    | (rename_i heq _ _; cases heq; done)
    | (rename_i heq; cases heq; done)
    | (cases e; done)
    | (rename_i xs y _
       split at e
       · rename_i ys e1
         split at e
         · rename_i hy
           cases e
           obtain ⟨u, rfl, h1⟩ := reps1 hr
           cases h1
           cases hx with
           | lst h r =>
             obtain ⟨ev, _⟩ := strsOf_rep r e1
             subst ev
             obtain ⟨f1, f2⟩ := idx_first hy
             have fl : ∀ l : List (List Nat), ((l.map mkS).map V.str).all flatV = true := fun l => by
               rw [List.all_eq_true]
               intro z hz
               rw [List.map_map] at hz
               obtain ⟨_, _, rfl⟩ := List.mem_map.mp hz
               rfl
             have at_ : ∀ (m : Nat), ((ys.map mkS).map V.str)[m]? = (ys[m]?).map fun z => V.str (mkS z) := fun m => by rw [List.getElem?_map, List.getElem?_map, Option.map_map]; rfl
             refine ⟨_, _, .str (mkS y), ys.idxOf y, .str (mkS y), rfl, rfl, .of (hs.h0 _ _ h), rfl, fl ys, ?_, ?_, fun m z hm hz => ?_, hq.ok hs (.int _)⟩
             · rw [at_, f1]; rfl
             · show (mkS y == mkS y) = true
               simp
             · rw [at_] at hz
               cases q : ys[m]? with
               | none => rw [q] at hz; cases hz
               | some z' =>
                 rw [q] at hz
                 cases hz
                 show (mkS z' == mkS y) = false
                 rw [mkS_inj]
                 simpa using f2 m z' hm q
         · cases e
       · cases e)
end

/-! ### what is walked -/
section
variable {g : G} {w : Wd} {X : Cx}
theorem gives_zipH {a b : Addr} {xs ys : List V} {ds es : List D} (h : SqL g.K w.H0 a xs) (h' : SqL g.K w.H0 b ys) (r : Rgs g w ds xs) (r' : Rgs g w es ys) : Gives g w (ItzH g.K a b) ((ds.zip es).map fun p => .tup [p.1, p.2]) := by
  obtain ⟨z1, _, z3⟩ := gives_zipL h h' r r'
  refine ⟨z1, fun H s => ⟨xs, ys, s.seq h, s.seq h', ?_⟩, z3⟩
  rw [List.length_map, List.length_zip, r.length, r'.length]
  omega
theorem gives_zipS {x y : List Nat} (h1 : x.all (· < 0x110000) = true) (h2 : y.all (· < 0x110000) = true) : Gives g w (ItzS (mkS x) (mkS y)) ((x.zip y).map fun p => .tup [.str [p.1], .str [p.2]]) := by
  have el : ((x.zip y).map fun p => D.tup [.str [p.1], .str [p.2]]).length = min x.length y.length := by rw [List.length_map, List.length_zip]
  have sx : (mkS x).cps.size = x.length := by simp [mkS]
  have sy : (mkS y).cps.size = y.length := by simp [mkS]
  refine ⟨fun i H hi s => ?_, fun H s => ?_, fun i H v H' hi s yl => ?_⟩
  · rw [el] at hi
    exact ⟨by rw [sx]; omega, by rw [sy]; omega⟩
  · rw [el]
    exact ⟨by rw [sx]; omega, by rw [sy]; omega, by rw [sx, sy]; omega⟩
  · obtain ⟨T, c, d, rfl, nT, rfl, ec, ed⟩ := yl
    have hc : x[i]? = some c := by simpa [mkS] using ec
    have hd : y[i]? = some d := by simpa [mkS] using ed
    have one : ∀ {z : List Nat} {k : Nat}, z.all (· < 0x110000) = true → z[i]? = some k → Rg g w (.str [k]) (.str ⟨#[k]⟩) := fun {z k} hz hk =>
      .str [k] (all_sub hz fun q hq => by rw [List.mem_singleton] at hq; subst hq; exact List.mem_of_getElem? hk) (Nat.le_trans (show 1 ≤ 16000000 by decide) sizeLine_ge)
    refine ⟨.tup [.str [c], .str [d]], ?_, .inr (.inl ⟨T, _, _, rfl, nT, rfl, rfl, .cons (one h1 hc) (.cons (one h2 hd) .nil)⟩)⟩
    rw [List.getElem?_map]
    have : (x.zip y)[i]? = some (c, d) := by rw [List.getElem?_zip_eq_some]; exact ⟨hc, hd⟩
    rw [this]; rfl
theorem gives_enz {a b : Addr} {xs ys : List V} {ds es : List D} (h : SqL g.K w.H0 a xs) (h' : SqL g.K w.H0 b ys) (r : Rgs g w ds xs) (r' : Rgs g w es ys) : Gives g w (Itez g.K a b) ((ds.zip es).zipIdx.map fun p => .tup [.int p.2, .tup [p.1.1, p.1.2]]) := by
  have el : ((ds.zip es).zipIdx.map fun p => D.tup [.int p.2, .tup [p.1.1, p.1.2]]).length = min ds.length es.length := by rw [List.length_map, List.length_zipIdx, List.length_zip]
  have l1 := r.length
  have l2 := r'.length
  refine ⟨fun i H hi s => ?_, fun H s => ⟨xs, ys, s.seq h, s.seq h', by rw [el]; omega⟩, fun i H v H' hi s y => ?_⟩
  · rw [el] at hi
    have h1 : i < xs.length := by omega
    have h2 : i < ys.length := by omega
    exact ⟨xs, ys, xs[i], ys[i], s.seq h, s.seq h', by simp [h1], by simp [h2]⟩
  · rw [el] at hi
    obtain ⟨P, T, x, z, e1, e2, e3, e4, e5, e6, e7⟩ := y
    obtain ⟨d, q1, q2⟩ := Reps.get' r (e6 xs (s.seq h))
    obtain ⟨e, q3, q4⟩ := Reps.get' r' (e7 ys (s.seq h'))
    refine ⟨.tup [.int (i : Nat), .tup [d, e]], ?_, .inr (.inr ⟨P, T, (i : Nat), x, z, d, e, e1, e2, e3, e4, e5, rfl, q2, q4⟩)⟩
    have : (ds.zip es)[i]? = some (d, e) := by rw [List.getElem?_zip_eq_some]; exact ⟨q1, q3⟩
    rw [List.getElem?_map, List.getElem?_zipIdx, this]
    simp
end
end Mn
end
section
set_option Elab.async false
set_option linter.all false
set_option maxRecDepth 100000
set_option maxHeartbeats 2000000
/-! Obj: instances of the text's classes: made, asked, called, compared. -/
namespace ObX
open PySem PySem.Spec PyProof.Rows L2
/-- no exception -/
abbrev E0 : XK := fun _ _ _ => False
/-- room for a def that a built-in calls -/
structure RoomP (k : Nat) (A : Around) : Prop where
  rm : Room k A
  dp : A.depth + 3 * k + 6 < recursionLimit
  un : A.units + 16 * k + 202 < cLine
theorem RoomP.one {k : Nat} {A : Around} (r : RoomP k A) : Room k A.in1 :=
  ⟨r.rm.hd, by have := r.dp; show A.depth + 3 * k + 5 < _; omega, by have := r.un; show A.units + 1 + 16 * k + 200 < _; omega⟩
theorem RoomP.make {k : Nat} {A : Around} (r : RoomP k A) (C : Addr) (us : List Value) (kw : List (Str × Value)) : Room k (A.under (.builtin "type.__call__" ⟨.ref C :: us, kw⟩)) :=
  ⟨r.rm.hd, by have := r.dp; rw [make_depth]; omega, by have := r.un; rw [make_units]; omega⟩
section
variable {X : Cx} {k : Nat} {f C : Addr} {fd : FuncData} {ps : List Str} {sp : Sp} {pins : List (Addr × Obj)} {σ : L2.St} {H : Hp} {s : Shared} {Q : VK} {a dx : Addr} {fs : List (Str × V)} {us : List Value} {vs : List V}
theorem inst_at (J : Inv X pins σ H s) (e : H a = some (.ins C dx fs)) : ∃ od, PySem.W.InstAt s.heap a (PySem.W.instObj C dx) C (some od) := by
  obtain ⟨_, O, _⟩ := ins_get J.hok e
  obtain ⟨od, q, _⟩ := O.look
  exact ⟨od, q⟩
theorem no_exc {E' : Prop} {outer : List Env} {H : Hp} {s : Shared} {e : Value} {s' : Shared} (h : L2N.CX X.prog X.w outer H s E0 e s') : E' := by
  obtain ⟨_, _, _, _, _, _, _, _, _, _, _, _, z⟩ := h
  exact z.elim
/-- a def called within a built-in, no exception -/
theorem run_in1 {E' : Value → Shared → Prop} (F : FnOk X.prog X.w X.K X.mg X.base (L2N.CX X.prog X.w) k f fd ps sp) (rm : Room k X.A.in1) (bd : Binds X.K fd ps []) (J : Inv X pins σ H s) (rv : Vals vs us) (q : sp vs H Q E0) :
    wpAny (model X.prog X.w) X.A.in1 (call (.ref f) us) (EP X pins σ Q) E' s := by
  have lu : us.length = ps.length := by rw [← rv.length]; exact F.len _ _ _ _ q
  have bu := bd s us J.kIn (by rw [List.append_nil]; exact lu)
  rw [List.append_nil] at bu
  refine wpAny_call (codeAny_mono (F.run X.A.in1 X.stack s H ⟨us, []⟩ us vs Q E0 rm J.env0.in1 bu rv q) fun res s2 z => ?_)
  rcases res with e | fl
  · exact no_exc z
  · rcases fl with _ | _ | _ | u
    all_goals first
      | exact J.after z
      | exact False.elim z
/-- .. by an operator -/
theorem run_0 {E' : Value → Shared → Prop} (F : FnOk X.prog X.w X.K X.mg X.base (L2N.CX X.prog X.w) k f fd ps sp) (rm : Room k X.A) (bd : Binds X.K fd ps []) (J : Inv X pins σ H s) (rv : Vals vs us) (q : sp vs H Q E0) :
    wpAny (model X.prog X.w) X.A (call (.ref f) us) (EP X pins σ Q) E' s := by
  have lu : us.length = ps.length := by rw [← rv.length]; exact F.len _ _ _ _ q
  have bu := bd s us J.kIn (by rw [List.append_nil]; exact lu)
  rw [List.append_nil] at bu
  refine wpAny_call (codeAny_mono (F.run X.A X.stack s H ⟨us, []⟩ us vs Q E0 rm J.env0 bu rv q) fun res s2 z => ?_)
  rcases res with e | fl
  · exact no_exc z
  · rcases fl with _ | _ | _ | u
    all_goals first
      | exact J.after z
      | exact False.elim z
theorem valsP {x : Addr} {y : V} {u : Value} (r : RelV y u) : Vals [V.ref x, y] [Value.ref x, u] := .cons rfl (.cons r .nil)
theorem vals1 {x : Addr} : Vals [V.ref x] [Value.ref x] := .cons rfl .nil
/-- len(o) -/
theorem call_lenO (hs : PySem.W.findIn X.K (.ref C) "__len__" = some (some (.ref f))) (hf : PySem.W.isFn X.K (.ref f) = true) (F : FnOk X.prog X.w X.K X.mg X.base (L2N.CX X.prog X.w) k f fd ps sp) (rm : RoomP k X.A) (bd : Binds X.K fd ps []) :
    CallR X (.builtin "len") (fun xs H Q => ∃ a dx fs, xs = [V.ref a] ∧ H a = some (.ins C dx fs) ∧ sp [V.ref a] H (fun v H2 => ∃ n : Int, v = .int n ∧ (0 ≤ n ∧ n < 2 ^ 63) ∧ Q (.int n) H2) E0) := by
  intro pins s σ H xs us Q J rv h
  obtain ⟨a, dx, fs, rfl, e, q⟩ := h
  cases rv with
  | cons r1 rr =>
  cases rr
  cases r1
  obtain ⟨od, I⟩ := inst_at J e
  obtain ⟨m, hF⟩ := J.fr
  refine PySem.W.len_K hF J.ok.mod.kin I hs hf (wpAny_mono (run_in1 F rm.one bd J vals1 q) (fun u s2 z => ?_) fun _ _ z => z)
  obtain ⟨v, H2, J2, rv, n, rfl, hn, z⟩ := z
  obtain ⟨t, rfl⟩ := rv
  exact ⟨hn, .int n, H2, J2.tok _, ⟨_, rfl⟩, z⟩
/-- -o -/
theorem un_negO (hs : PySem.W.findIn X.K (.ref C) "__neg__" = some (some (.ref f))) (hf : PySem.W.isFn X.K (.ref f) = true) (F : FnOk X.prog X.w X.K X.mg X.base (L2N.CX X.prog X.w) k f fd ps sp) (rm : RoomP k X.A) (bd : Binds X.K fd ps []) :
    UnR X (unaryOp .USub) (fun x H Q => ∃ a dx fs, x = V.ref a ∧ H a = some (.ins C dx fs) ∧ sp [V.ref a] H Q E0) := by
  intro pins s σ H x v Q J rx h
  obtain ⟨a, dx, fs, rfl, e, q⟩ := h
  cases rx
  obtain ⟨od, I⟩ := inst_at J e
  obtain ⟨m, hF⟩ := J.fr
  exact PySem.W.ksp_neg hF J.ok.mod.kin I hs hf (run_0 F rm.rm bd J vals1 q)
/-- what an operator's def hands back: anything but NotImplemented -/
theorem cmpBack_of {u : Value} {s2 : Shared} (h : EP X pins σ Q u s2) : PySem.W.CmpBack (EP X pins σ Q) u s2 := by
  obtain ⟨v, H2, J2, rv, z⟩ := h
  cases u <;> first
    | exact ⟨v, H2, J2, rv, z⟩
    | (exfalso
       cases v <;> first
         | (cases rv; done)
         | (obtain ⟨_, rv⟩ := rv; exact Value.noConfusion rv))
/-- o op x, x of a built-in type -/
theorem op_binO {op : Operator} {T : String} {fo ro rc : Option Value} (hc : PySem.W.selfFirst X.K C = true) (hs : PySem.W.findIn X.K (.ref C) (PySem.dunder op.info.2) = some (some (.ref f))) (hf : PySem.W.isFn X.K (.ref f) = true)
    (hr : PySem.W.findIn X.K (.ref C) (dunderR op.info.2) = some rc) (hp : rc = none ∨ ∃ g : Addr, rc = some (.ref g)) (h1 : PySem.W.findIn X.K (.type T) (PySem.dunder op.info.2) = some fo) (h2 : PySem.W.findIn X.K (.type T) (dunderR op.info.2) = some ro)
    (hsub : PySem.W.subIn X.K (.type T) (.ref C) = some false) (F : FnOk X.prog X.w X.K X.mg X.base (L2N.CX X.prog X.w) k f fd ps sp) (rm : RoomP k X.A) (bd : Binds X.K fd ps []) :
    OpR X (binaryOp op) (fun x y H Q => ∃ a dx fs, x = V.ref a ∧ H a = some (.ins C dx fs) ∧ (∀ u, RelV y u → typeOf u = pure (.type T)) ∧ sp [V.ref a, y] H Q E0) := by
  intro pins s σ H x y v u Q J rx ry h
  obtain ⟨a, dx, fs, rfl, e, ty, q⟩ := h
  cases rx
  obtain ⟨od, I⟩ := inst_at J e
  obtain ⟨m, hF⟩ := J.fr
  exact PySem.W.ksp_binT hF J.ok.mod.kin I (ty u ry) hc hs hf hr hp h1 h2 hsub (wpAny_mono (run_0 F rm.rm bd J (valsP ry) q) (fun _ _ z => cmpBack_of z) fun _ _ z => z)
/-- o op o2, of one class -/
theorem op_sameO {op : Operator} (hc : PySem.W.selfFirst X.K C = true) (hs : PySem.W.findIn X.K (.ref C) (PySem.dunder op.info.2) = some (some (.ref f))) (hf : PySem.W.isFn X.K (.ref f) = true)
    (F : FnOk X.prog X.w X.K X.mg X.base (L2N.CX X.prog X.w) k f fd ps sp) (rm : RoomP k X.A) (bd : Binds X.K fd ps []) :
    OpR X (binaryOp op) (fun x y H Q => ∃ a dx fs b dy gs, x = V.ref a ∧ y = V.ref b ∧ H a = some (.ins C dx fs) ∧ H b = some (.ins C dy gs) ∧ sp [V.ref a, V.ref b] H Q E0) := by
  intro pins s σ H x y v u Q J rx ry h
  obtain ⟨a, dx, fs, b, dy, gs, rfl, rfl, e, e2, q⟩ := h
  cases rx
  cases ry
  obtain ⟨od, I⟩ := inst_at J e
  obtain ⟨od2, I2⟩ := inst_at J e2
  obtain ⟨m, hF⟩ := J.fr
  exact PySem.W.binop_K hF J.ok.mod.kin I I2.type hc hs hf (wpAny_mono (run_0 F rm.rm bd J (valsP (y := V.ref b) (u := .ref b) rfl) q) (fun _ _ z => cmpBack_of z) fun _ _ z => z)
/-- x in o -/
theorem op_inO (hs : PySem.W.findIn X.K (.ref C) "__contains__" = some (some (.ref f))) (hf : PySem.W.isFn X.K (.ref f) = true) (F : FnOk X.prog X.w X.K X.mg X.base (L2N.CX X.prog X.w) k f fd ps sp) (rm : RoomP k X.A) (bd : Binds X.K fd ps []) :
    OpR X (compareOp .In) (fun x y H Q => ∃ a dx fs, y = V.ref a ∧ H a = some (.ins C dx fs) ∧ sp [V.ref a, x] H (fun v H2 => ∃ b, v = .bl b ∧ Q (.bl b) H2) E0) := by
  intro pins s σ H x y v u Q J rx ry h
  obtain ⟨a, dx, fs, rfl, e, q⟩ := h
  cases ry
  obtain ⟨od, I⟩ := inst_at J e
  obtain ⟨m, hF⟩ := J.fr
  refine PySem.W.in_K hF J.ok.mod.kin I hs hf (wpAny_mono (run_0 F rm.rm bd J (valsP rx) q) (fun w s2 z => ?_) fun _ _ z => z)
  obtain ⟨d, H2, J2, rv, b, rfl, z⟩ := z
  cases rv
  exact wpAny_truthy_bool ⟨.bl b, H2, J2, rfl, z⟩
/-- o == x: what x's type must be -/
def NotF (K : PySem.W.Frag) (C : Addr) (H : Hp) (y : V) : Prop := (∃ b dy gs, y = V.ref b ∧ H b = some (.ins C dy gs)) ∨ ∃ T : String, PySem.W.subIn K (.type T) (.ref C) = some false ∧ ∀ u, RelV y u → typeOf u = pure (.type T)
theorem notF_at {y : V} {u : Value} (J : Inv X pins σ H s) (ry : RelV y u) (h : NotF X.K C H y) : ∃ tb, PySem.W.Looks (model X.prog X.w) s.heap (typeOf u) tb ∧ PySem.W.notFirst X.K C tb = true := by
  rcases h with ⟨b, dy, gs, rfl, e⟩ | ⟨T, e, ty⟩
  · cases ry
    obtain ⟨od, I⟩ := inst_at J e
    exact ⟨_, I.type, by simp [PySem.W.notFirst]⟩
  · refine ⟨.type T, PySem.W.Looks.of_pure (ty u ry), ?_⟩
    unfold PySem.W.notFirst
    rw [e]; simp
theorem op_eqO (hs : PySem.W.findIn X.K (.ref C) "__eq__" = some (some (.ref f))) (hf : PySem.W.isFn X.K (.ref f) = true) (F : FnOk X.prog X.w X.K X.mg X.base (L2N.CX X.prog X.w) k f fd ps sp) (rm : RoomP k X.A) (bd : Binds X.K fd ps []) :
    OpR X (compareOp .Eq) (fun x y H Q => ∃ a dx fs, x = V.ref a ∧ H a = some (.ins C dx fs) ∧ NotF X.K C H y ∧ sp [V.ref a, y] H Q E0) := by
  intro pins s σ H x y v u Q J rx ry h
  obtain ⟨a, dx, fs, rfl, e, nf, q⟩ := h
  cases rx
  obtain ⟨od, I⟩ := inst_at J e
  obtain ⟨m, hF⟩ := J.fr
  obtain ⟨tb, t1, t2⟩ := notF_at J ry nf
  show wpAny (model X.prog X.w) X.A (richCompare .Eq (.ref a) u) _ _ _
  exact PySem.W.cmp_K (op := .Eq) rm.rm.units0 hF J.ok.mod.kin I t1 t2 hs hf (wpAny_mono (run_0 F rm.rm bd J (valsP ry) q) (fun _ _ z => cmpBack_of z) fun _ _ z => z)
/-- o.f, a property -/
theorem pe_propO {p : Addr} {nm : Str} {e : Expr} {pos : Pos} {ta : TE} (he : PE X e ta) (c : Cls X.K C) (hp : PropOf X.K C nm p f) (F : FnOk X.prog X.w X.K X.mg X.base (L2N.CX X.prog X.w) k f fd ps sp) (rm : RoomP k X.A) (bd : Binds X.K fd ps [])
    (hab : attributeBase e nm X.env (eval e X.env) = eval e X.env) : PE X (.Attribute e nm pos) (fun σ H Q => ta σ H fun x H1 => ∃ a dx fs, x = V.ref a ∧ H1 a = some (.ins C dx fs) ∧ sp [V.ref a] H1 Q E0) := by
  refine ⟨fun pins s σ H Q J h => ?_⟩
  refine attr_of hab (thn (he.run pins s σ H _ J h) fun u s1 ⟨x, H1, J1, rx, a, dx, fs, ex, ea, q⟩ => ?_)
  subst ex
  cases rx
  obtain ⟨od, I⟩ := inst_at J1 ea
  obtain ⟨rest, hrec⟩ := hp.rec_
  have J2 := J1.tok (s1.toks + 1)
  have hc : (PySem.W.clsIn X.K C).isSome = true := by
    obtain ⟨cd, hc, _⟩ := PySem.W.any_some c.hd
    rw [hc]; rfl
  have lu : ([Value.ref a] : List Value).length = ps.length := F.len _ _ _ _ q
  have bu := bd { s1 with toks := s1.toks + 1 } [.ref a] J2.kIn (by rw [List.append_nil]; exact lu)
  rw [List.append_nil] at bu
  refine PySem.W.get_bind J1.kIn I (PySem.W.plainGet_of (c.get nm)).1 (PySem.W.findObj_data hc hp.at_ hp.get hp.tak) (PySem.W.plainGet_of (c.get nm)).2 (wpAny_call (PySem.W.prop_get (s := { s1 with toks := s1.toks + 1 }) J1.kIn hrec ?_))
  refine codeAny_mono (F.run X.A.in1 X.stack _ H1 ⟨[.ref a], []⟩ [.ref a] [.ref a] Q E0 rm.one J2.env0.in1 bu vals1 q) fun res s2 z => ?_
  rcases res with er | fl
  · exact no_exc z
  · rcases fl with _ | _ | _ | u
    all_goals first
      | (obtain ⟨v, H', J3, rv, q3⟩ := J2.after z
         show wpAny _ _ (handedOut u) _ _ _
         rw [PySem.W.handedOut_of (handed_of rv)]
         exact wpAny_pure ⟨v, H', J3, rv, q3⟩)
      | exact False.elim z
/-- o != o2, of one class, by the class's own == -/
theorem op_neO (hn : PySem.W.findIn X.K (.ref C) "__ne__" = some (some (.builtin "object.__ne__"))) (hm : PySem.W.mroIn X.K C (.type "object") = some true) (hs : PySem.W.findIn X.K (.ref C) "__eq__" = some (some (.ref f))) (hf : PySem.W.isFn X.K (.ref f) = true)
    (F : FnOk X.prog X.w X.K X.mg X.base (L2N.CX X.prog X.w) k f fd ps sp) (rm : RoomP k X.A) (bd : Binds X.K fd ps []) :
    OpR X (compareOp .NotEq) (fun x y H Q => ∃ a dx fs b dy gs, x = V.ref a ∧ y = V.ref b ∧ H a = some (.ins C dx fs) ∧ H b = some (.ins C dy gs) ∧ sp [V.ref a, V.ref b] H (fun v H2 => ∃ t, v = .bl t ∧ Q (.bl (!t)) H2) E0) := by
  intro pins s σ H x y v u Q J rx ry h
  obtain ⟨a, dx, fs, b, dy, gs, rfl, rfl, e, e2, q⟩ := h
  cases rx
  cases ry
  obtain ⟨od, I⟩ := inst_at J e
  obtain ⟨od2, I2⟩ := inst_at J e2
  have hu : X.A.units < cLine := rm.rm.units0
  have hu1 : X.A.in1.units < cLine := rm.one.units0
  have bound : ∀ self, bindSpecial (.builtin "object.__ne__") self = pure (.builtin "object.__ne__", [self]) := fun self => PySem.F.cmp_object.ne.bind self
  have call_ : wpAny (model X.prog X.w) X.A (call (.builtin "object.__ne__") [.ref a, .ref b]) (EP X pins σ Q) X.xe s := by
    refine wpAny_call (codeAny_call_builtin PySem.F.cmp_object.ne.plain PySem.F.cmpEntry_ne (PySem.W.check_slot (i := "object.__ne__") (owner := "object") (n := "__ne__") PySem.F.cmpKind_ne PySem.F.cmpSplit_ne (I.type.andThen (PySem.W.looks_mroIn J.kIn hm)) (PySem.F.cmpArgs_ne _ _) ?_))
    unfold Builtin.«object.__ne__»
    refine wpAny_bind (m := slotArgs "__ne__" 1 _) (wpAny_pure ?_)
    refine wpAny_bind (m := cRoomFor _ _) (wpAny_cRoomFor hu1 ?_)
    refine wpAny_bind (m := callSpecialIfBound? (.ref a) (Str.ofString "__eq__") _) (PySem.W.ifBound_K J.kIn I hs hf (wpAny_mono (run_in1 F rm.one bd J (valsP (y := V.ref b) (u := .ref b) rfl) q) (fun w s2 z => ?_) fun _ _ z => z))
    obtain ⟨d, H2, J2, rv, t, rfl, z⟩ := z
    cases rv
    refine wpAny_bind (wpAny_truthy_bool ?_)
    exact wpAny_pure ⟨.bl (!t), H2, J2, rfl, z⟩
  have one : wpAny (model X.prog X.w) X.A (tryCompare (.ref a) "__ne__" (.ref b)) (fun r s2 => ∃ w, r = some w ∧ EP X pins σ Q w s2) X.xe s := by
    unfold tryCompare
    have fin : wpAny (model X.prog X.w) X.A (callSpecialIfBound? (.ref a) "__ne__" [.ref b]) (fun r s2 => ∃ w, r = some w ∧ EP X pins σ Q w s2) X.xe s := by
      simp only [callSpecialIfBound?, bindSpecialIfBound?]
      refine wpAny_holding (wpAny_bind (wpAny_bind (wpAny_bind (I.type.here ((PySem.W.looks_findIn J.kIn hn).here ?_)))))
      refine wpAny_bind (wpAny_askSetting (wpAny_ite ?_))
      have go : wpAny (model X.prog X.w) X.A (call (.builtin "object.__ne__") ([.ref a] ++ [.ref b]) >>= fun v => pure (some v)) (fun r s2 => ∃ w, r = some w ∧ EP X pins σ Q w s2) X.xe s := wpAny_bind (wpAny_mono call_ (fun w s2 z => wpAny_pure ⟨w, rfl, z⟩) fun _ _ z => z)
      split
      · exact wpAny_bind ((PySem.W.Looks.of_pure (bound _)).here (wpAny_pure (by exact go)))
      · exact wpAny_tryCatch (wpAny_bind ((PySem.W.Looks.of_pure (bound _)).here (wpAny_pure (by exact go))))
    refine wpAny_bind (wpAny_mono fin (fun r s2 z => ?_) fun _ _ z => z)
    obtain ⟨w, rfl, z⟩ := z
    have z2 := cmpBack_of z
    cases w <;> first
      | exact z2.elim
      | exact wpAny_pure ⟨_, rfl, z⟩
  show wpAny (model X.prog X.w) X.A (richCompare .NotEq (.ref a) (.ref b)) _ _ _
  unfold richCompare
  simp only [oneThing_ref]
  refine wpAny_holding (wpAny_bind (wpAny_cRoomFor hu ?_))
  rw [cmpInfo_NotEq]
  dsimp only
  refine wpAny_bind (I.type.here (wpAny_bind (I2.type.here ?_)))
  rw [show (Value.ref C != Value.ref C) = false from by simp]
  simp only [Bool.false_eq_true, if_false]
  refine wpAny_bind (wpAny_pure ?_)
  simp only [Bool.false_eq_true, if_false]
  refine wpAny_bind (wpAny_mono one (fun r s2 z => ?_) fun _ _ z => z)
  obtain ⟨w, rfl, z⟩ := z
  exact wpAny_pure z
/-- o[i] -/
theorem pe_subO {o i : Expr} {pos : Pos} {to ti : TE} (ho : PE X o to) (hi : PE X i ti) (hq : PySem.W.noSeq X.K C = true) (hs : PySem.W.findIn X.K (.ref C) "__getitem__" = some (some (.ref f))) (hf : PySem.W.isFn X.K (.ref f) = true) (hfn : PySem.W.fnIn X.K f = true)
    (F : FnOk X.prog X.w X.K X.mg X.base (L2N.CX X.prog X.w) k f fd ps sp) (rm : RoomP k X.A) (bd : Binds X.K fd ps []) (hsl : ∀ v u, subscripted i true v u = runValue (.builtin "lifetime.subscript" ⟨[v, u], []⟩)) :
    PE X (.Subscript o i pos) (tOp (fun x y H Q => ∃ a dx fs, x = V.ref a ∧ H a = some (.ins C dx fs) ∧ sp [V.ref a, y] H Q E0) to ti) := by
  refine ⟨fun pins s σ H Q J h => Subscript_ (binT ho hi J h fun v u s2 x y H2 J2 rx ry q => ?_)⟩
  obtain ⟨a, dx, fs, rfl, e, q⟩ := q
  cases rx
  obtain ⟨od, I⟩ := inst_at J2 e
  obtain ⟨m, hF⟩ := J2.fr
  exact PySem.W.sub_K hF J2.ok.mod.kin I hs hfn hf (run_in1 F rm.one bd J2 (valsP ry) q) (hsl _ _)
/-- a def called, its exceptions let out -/
theorem run_x {xk : XK} (F : FnOk X.prog X.w X.K X.mg X.base (L2N.CX X.prog X.w) k f fd ps sp) (rm : Room k X.A) (bd : Binds X.K fd ps []) (pa : PassesAt (L2N.CX X.prog X.w) X σ xk) (J : Inv X pins σ H s) (rv : Vals vs us) (q : sp vs H Q xk) :
    codeAny (model X.prog X.w) X.A (.call (.ref f) ⟨us, []⟩) (fun r s2 => match r with | .ok (.ret v) => EP X pins σ Q v s2 | .ok _ => False | .error e => X.xe e s2) s := by
  have lu : us.length = ps.length := by rw [← rv.length]; exact F.len _ _ _ _ q
  have bu := bd s us J.kIn (by rw [List.append_nil]; exact lu)
  rw [List.append_nil] at bu
  refine codeAny_mono (F.run X.A X.stack s H ⟨us, []⟩ us vs Q xk rm J.env0 bu rv q) fun res s2 z => ?_
  rcases res with e | fl
  · exact pa pins H s e s2 J z
  · rcases fl with _ | _ | _ | u
    all_goals first
      | exact J.after z
      | exact False.elim z
/-- f(e, ..), f an instance -/
theorem pe_actO {fe e : Expr} {es : List Expr} {pos : Pos} {tf : TE} {t : TA} {E : L2.St → XK} (hf : PE X fe tf) (c : StX.CallO X.K C f) (F : FnOk X.prog X.w X.K X.mg X.base (L2N.CX X.prog X.w) k f fd ps sp) (rm : Room k X.A) (bd : Binds X.K fd ps []) (pa : ∀ σ, PassesAt (L2N.CX X.prog X.w) X σ (E σ)) (ha : PA X (e :: es) t)
    (ht : eval (.Call fe (e :: es) [] pos) X.env = (do callWith pos (← eval fe X.env) [] (backTo pos (starEach (e :: es) X.env)) (backToKw pos (keywordEach [] X.env))))
    (he : starEach (e :: es) X.env = (false, eval e X.env) :: starEach es X.env) (hpl : (backTo pos (starEach es X.env)).any (·.1) = false) :
    PE X (.Call fe (e :: es) [] pos) (fun σ H Q => tf σ H fun x H1 => ∃ a dx fs, x = V.ref a ∧ t σ H1 fun vs H2 => H2 a = some (.ins C dx fs) ∧ sp (V.ref a :: vs) H2 Q (E σ)) := by
  refine ⟨fun pins s σ H Q J h => ?_⟩
  refine Call_ (thn (hf.run pins s σ H _ J h) fun u s1 ⟨x, H1, J1, rx, a, dx, fs, ex, q⟩ => ?_) ht
  subst ex
  cases rx
  refine StX.callO_with (thn (ha.run pos pins s1 σ H1 _ J1 q) fun us s2 ⟨vs, H2, J2, rv, ea, q2⟩ => ?_) he hpl
  obtain ⟨od, I⟩ := inst_at J2 ea
  exact ⟨⟨C, _, _, I, rfl⟩, wpAny_call (PySem.W.kco_code J2.kIn I rfl c.at_ c.fn c.fi (run_x (us := .ref a :: us) (vs := V.ref a :: vs) F rm bd (pa σ) J2 (.cons rfl rv) q2))⟩
/-- o.m(e, ..) -/
theorem pe_methO {o e : Expr} {es : List Expr} {m : Str} {apos pos : Pos} {ta : TE} {t : TA} {E : L2.St → XK} {pl : Sem Bool} (he : PE X o ta) (c : Cls X.K C) (hm : Meth X.K C m f) (F : FnOk X.prog X.w X.K X.mg X.base (L2N.CX X.prog X.w) k f fd ps sp) (rm : Room k X.A) (bd : Binds X.K fd ps [])
    (pa : ∀ σ, PassesAt (L2N.CX X.prog X.w) X σ (E σ)) (ha : PA X (e :: es) t) (hst : starEach (e :: es) X.env = (false, eval e X.env) :: starEach es X.env) (hpl : (backTo pos (starEach es X.env)).any (·.1) = false)
    (ht : eval (.Call (.Attribute o m apos) (e :: es) [] pos) X.env = (do
      let ov ← eval o X.env
      standAt apos.atName
      let (f, first) ← holding [ov] (getMethod ov m pl)
      callWith pos f first (backTo pos (starEach (e :: es) X.env)) (backToKw pos (keywordEach [] X.env)))) :
    PE X (.Call (.Attribute o m apos) (e :: es) [] pos) (L2H.tMethH C m sp E ta t) := by
  refine ⟨fun pins s σ H Q J h => PySem.W.methodCall_KW (pl := pl) (thn (he.run pins s σ H _ J h) fun u s1 ⟨x, H1, J1, rx, a, dx, fs, ex, ea, l, q⟩ => ?_) ht⟩
  subst ex
  cases rx
  refine getmeth_ok J1 ea c hm l (PySem.W.callWith_K (first := [.ref a]) (h₀ := X.base) J.ok.mod.kin hm.kp (thn (ha.run pos pins s1 σ H1 _ J1 q) fun us s2 ⟨vs, H2, J2, rv, q2⟩ => ⟨J2.kIn, ?_⟩) hst hpl)
  exact wpAny_call (run_x (us := .ref a :: us) (vs := .ref a :: vs) F rm bd (pa σ) J2 (.cons rfl rv) q2)
/-- o.m() -/
theorem pe_methO0 {o : Expr} {m : Str} {apos pos : Pos} {ta : TE} {E : L2.St → XK} {pl : Sem Bool} (he : PE X o ta) (c : Cls X.K C) (hm : Meth X.K C m f) (F : FnOk X.prog X.w X.K X.mg X.base (L2N.CX X.prog X.w) k f fd ps sp) (rm : Room k X.A) (bd : Binds X.K fd ps [])
    (pa : ∀ σ, PassesAt (L2N.CX X.prog X.w) X σ (E σ))
    (ht : eval (.Call (.Attribute o m apos) [] [] pos) X.env = (do
      let ov ← eval o X.env
      standAt apos.atName
      let (f, first) ← holding [ov] (getMethod ov m pl)
      callWith pos f first (backTo pos (starEach [] X.env)) (backToKw pos (keywordEach [] X.env)))) :
    PE X (.Call (.Attribute o m apos) [] [] pos) (L2H.tMethH C m sp E ta tNil) := by
  refine ⟨fun pins s σ H Q J h => PySem.W.methodCall_KW (pl := pl) (thn (he.run pins s σ H _ J h) fun u s1 ⟨x, H1, J1, rx, a, dx, fs, ex, ea, l, q⟩ => ?_) ht⟩
  subst ex
  cases rx
  exact getmeth_ok J1 ea c hm l (PySem.W.callWith_K0 (first := [.ref a]) J1.kIn hm.kp (wpAny_call (run_x (us := [.ref a]) (vs := [.ref a]) F rm bd (pa σ) J1 vals1 q)))
/-- C(e, ..): the reading -/
def tMakeO (C : Addr) (sp : Sp) (E : L2.St → XK) (t : TA) : TE := fun σ H Q => t σ H fun vs H1 => ∀ x dx, H1 x = none → H1 dx = none → dx ≠ x → sp (.ref x :: vs) (upd (upd H1 dx (.own x)) x (.ins C dx [])) (fun v H2 => v = .non ∧ Q (.ref x) H2) (E σ)
theorem pe_makeO {nm : Str} {e : Expr} {es : List Expr} {p pos : Pos} {t : TA} {E : L2.St → XK} (M : Mk X.K C f) (F : FnOk X.prog X.w X.K X.mg X.base (L2N.CX X.prog X.w) k f fd ps sp) (rm : RoomP k X.A) (hg : Gl X nm) (hm : X.mg nm = some (.ref C)) (bd : Binds X.K fd ps []) (pa : ∀ σ, PassesAt (L2N.CX X.prog X.w) X σ (E σ))
    (ha : PA X (e :: es) t) (hdb : (nm == ("__debug__" : Str)) = false) (he : starEach (e :: es) X.env = (false, eval e X.env) :: starEach es X.env) (hpl : (backTo pos (starEach es X.env)).any (·.1) = false) : PE X (.Call (.Name nm p) (e :: es) [] pos) (tMakeO C sp E t) := by
  refine ⟨fun pins s σ H Q J h => wpAny_Call_Name_kw (ld_glob J hg hm ?_ hdb)⟩
  refine PySem.W.callWith_K (h₀ := X.base) J.ok.mod.kin M.kp (thn (ha.run pos pins s σ H _ J h) fun us s1 ⟨vs, H1, J1, rv, q⟩ => ⟨J1.kIn, ?_⟩) he hpl
  have hq := q (s1.heap.objs.size + 1) s1.heap.objs.size (J1.hok.fresh (Nat.le_succ _)) (J1.hok.fresh (Nat.le_refl _)) (Nat.ne_of_lt (Nat.lt_succ_self _))
  have J2 := Inv.made (C := C) J1
  have r2 : Vals (V.ref (s1.heap.objs.size + 1) :: vs) (Value.ref (s1.heap.objs.size + 1) :: us) := .cons rfl rv
  have lu : (Value.ref (s1.heap.objs.size + 1) :: us).length = ps.length := by rw [← r2.length]; exact F.len _ _ _ _ hq
  have bu := bd { s1 with heap := (s1.heap.push PySem.W.emptyDict).push (PySem.W.instObj C s1.heap.objs.size) } (Value.ref (s1.heap.objs.size + 1) :: us) J2.kIn (by rw [List.append_nil]; exact lu)
  rw [List.append_nil] at bu
  refine wpAny_call (make_map (f := f) J1.kIn M.makes M.init (beq_iff_eq.mp M.fn) (codeAny_mono (F.run _ X.stack _ _ ⟨Value.ref (s1.heap.objs.size + 1) :: us, []⟩ (Value.ref (s1.heap.objs.size + 1) :: us) _ _ (E σ) (rm.make C us []) (J2.env0.make C us []) bu r2 hq) fun res s2 z => ?_))
  rcases res with er | fl
  · exact pa σ pins _ _ er s2 J2 z
  · rcases fl with _ | _ | _ | u
    all_goals first
      | (obtain ⟨v, H', J3, rv2, ev, q3⟩ := J2.after z
         subst ev
         exact ⟨rv2, ⟨V.ref (s1.heap.objs.size + 1), H', J3, rfl, q3⟩⟩)
      | exact False.elim z
end
end ObX
end
section
set_option Elab.async false
set_option linter.all false
set_option maxRecDepth 100000
set_option maxHeartbeats 1000000
/-! Snd6: a rule for each construct of an expression. -/
namespace Mn
open PySem PySem.Spec PyProof.Rows L2

abbrev W0 : WX := fun _ _ _ _ => False
/-- the promise of the def f, at level n -/
def SpF (g : G) (n f : Nat) : Sp := fun vs H Q E => ∃ w Fr S ds, StOk g w Fr H S ∧ Rgs g w ds vs ∧ Post g (fun cls d _ H => E cls d H) (Rg g) w Fr [] (callF g.T n f ds S) Q
def FnAt (g : G) (n f : Nat) : Prop := ∃ fd ps, Binds g.K fd ps [] ∧ FnOk g.P g.w g.K g.mg g.base (L2N.CX g.P g.w) n (g.fa f) fd ps (SpF g n f)
/-- the bases behind the text's own errors -/
def bmV : List Value := [.type "ValueError", .type "Exception", .type "BaseException", .type "object"]
/-- the built-in types that an instance is held beside -/
def tysN : List String := ["int", "str", "bool", "NoneType"]
/-- what a class of the text must have -/
structure ClsF (K : PySem.W.Frag) (C : Addr) (k : Nat) : Prop where
  cls : Cls K C
  na : ∀ x ∈ flds k, NoAttr K C x
  sf : PySem.W.selfFirst K C = true
  nq : PySem.W.noSeq K C = true
  sub : ∀ T ∈ tysN, PySem.W.subIn K (.type T) (.ref C) = some false
  kit : ∀ T ∈ tysN, PySem.W.kitOne K (.type T) (.ref C) = some false
  kts : PySem.W.kitOne K (.ref C) (.ref C) = some true
  ca : PySem.W.findIn K (.ref C) "__class__" = some (some (.builtin "object.__class__"))
  cb : PySem.W.specialIn K (.builtin "object.__class__") "__get__" = some (some (.builtin "getset_descriptor.__get__"))
  ct : PySem.W.takesIn K (.builtin "object.__class__") = some true
  mro : PySem.W.mroIn K C (.type "object") = some true
  ne : PySem.W.findIn K (.ref C) "__ne__" = some (some (.builtin "object.__ne__"))
  shl : ∃ fo ro, PySem.W.findIn K (.type "int") (PySem.dunder Operator.LShift.info.2) = some fo ∧ PySem.W.findIn K (.type "int") (dunderR Operator.LShift.info.2) = some ro ∧ PySem.W.findIn K (.ref C) (dunderR Operator.LShift.info.2) = some none
/-- .. a method -/
structure MetF (K : PySem.W.Frag) (C : Addr) (m : Str) (f : Addr) : Prop where
  at_ : PySem.W.findIn K (.ref C) m = some (some (.ref f))
  fn : PySem.W.isFn K (.ref f) = true
  fi : PySem.W.fnIn K f = true
  kp : PySem.W.keepIn K (.ref f) = true
/-- what the names of the module stand for -/
structure GeOk (g : G) (ge : Str → Option GV) : Prop where
  fn : ∀ x f, ge x = some (.fn f) → g.mg x = some (.ref (g.fa f)) ∧ PySem.W.keepIn g.K (.ref (g.fa f)) = true
  cst : ∀ x d, ge x = some (.cst d) → ∃ u v, g.mg x = some u ∧ RelV v u ∧ ∀ w, Rg g w d v
  blt : ∀ x, ge x = some .blt → g.mg x = none
  xfn : ∀ x f, ge x = some (.xfn f) → g.mg x = some (.ref (g.fa f)) ∧ PySem.W.keepIn g.K (.ref (g.fa f)) = true
  exc : ∀ x k, ge x = some (.exc k) → g.mg x = some (.ref (g.ca k)) ∧ PySem.W.keepIn g.K (.ref (g.ca k)) = true ∧ PySem.W.excIn g.K (g.ca k) bmV "ValueError.__new__" = true ∧
    PySem.W.subIn g.K (.ref (g.ca k)) (.type "BaseException") = some true ∧ PySem.W.typeIn g.K (.ref (g.ca k)) = some (.type "type") ∧ ExcC g.K (g.ca k)
  cls : ∀ x k f, ge x = some (.cls k f) → g.mg x = some (.ref (cAd g.fa k)) ∧ Mk g.K (cAd g.fa k) (g.fa f) ∧ ClsF g.K (cAd g.fa k) k
  kit : ∀ x y k j, ge x = some (.exc k) → ge y = some (.exc j) → PySem.W.kitOne g.K (.ref (g.ca k)) (.ref (g.ca j)) = some (subC k j) ∧ PySem.W.exmOne g.K (.ref (g.ca k)) (.ref (g.ca j)) = some (subC k j)
/-- a def that is handed the exception in hand, of the class D: its promise -/
structure FnX (P : Program) (w : World) (K : PySem.W.Frag) (mg : Str → Option Value) (base : Heap) (CX : CXT) (k : Nat) (f : Addr) (fd : FuncData) (ps : List Str) (D : Addr) (sp : Sp) : Prop where
  len : ∀ vs H Q E, sp vs H Q E → vs.length = ps.length
  run : ∀ (A : Around) (outer : List PySem.Env) (s : Shared) (H : Hp) (args : Args) (us : List Value) (vs : List V) (Q : VK) (E : XK) (p : Addr × Obj), L2H.RoomH k A → L2H.Hot1 A p → L2H.PinOk outer H s p → Zc (.ref D) none p.2 → vs = [V.ref p.1] →
    Env0 P w K mg base A outer s H → BindsTo s fd args (ps.zip us) → Vals vs us → sp vs H Q E → codeAny (model P w) A (.call (.ref f) args) (CR CX outer P w H s Q E) s
/-- .. as Mini has it -/
def SpX (g : G) (n f : Nat) : Sp := fun vs H Q E => vs.length = 1 ∧ ∃ w Fr S, StOk { g with exs := none } w Fr H S ∧ Post { g with exs := none } (fun cls d _ H => E cls d H) (Rg { g with exs := none }) w Fr [] (callF g.T n f [] S) Q
/-- an __init__ of the text: the instance stands in the frame, without fields; it is data at the end -/
def SpI (g : G) (n k f : Nat) : Sp := fun vs H Q E => ∃ x dx w Fr S ds vs', vs = V.ref x :: vs' ∧ Fr x = none ∧ StOk g w (upd Fr x (.ins (cAd g.fa k) dx [])) H S ∧ Rgs g w ds vs' ∧
  Post g (fun cls d _ H => E cls d H) (fun w a b => b = V.non ∧ Rg g w a (.ref x)) w Fr [] (callF g.T n f (.any :: ds) S) Q
def IniAt (g : G) (n k f : Nat) : Prop := ∃ fd ps, Binds g.K fd ps [] ∧ FnOk g.P g.w g.K g.mg g.base (L2N.CX g.P g.w) n (g.fa f) fd ps (SpI g n k f)
structure XOk (g : G) (n : Nat) (Wx : WX) (c : CC) (X : Cx) : Prop where
  hP : X.prog = g.P
  hw : X.w = g.w
  hK : X.K = g.K
  hmg : X.mg = g.mg
  hbase : X.base = g.base
  hN : X.N = c.N
  nd : c.N.Nodup
  hsc : X.env.scope = c.sc
  kind : c.sc.kind = .function
  calm : c.hot = false → X.calm = true
  hotC : c.hot = true → L2H.HotC X
  room : c.hot = false → ObX.RoomP n X.A
  units : X.A.units + 100 < cLine
  pass : PassesOwn (model X.prog X.w) X.A X.env X.xe
  tk : L2N.Takes X Wx
  wr : c.blk = false → X.fn = fun _ => true
  ge : GeOk g c.ge
  fns : ∀ x f, c.ge x = some (.fn f) → FnAt g n f
  exn : ∀ j a, g.exs = some (j, a) → ∃ nm k, c.ex = some (nm, j, k) ∧ c.N[j]? = some nm
  isx : c.blk = false → ∀ nm j k, k < 900 → c.ex = some (nm, j, k) → ∃ a, g.exs = some (j, a) ∧ c.N[j]? = some nm ∧ Vis c.sc nm ∧ badN nm = false ∧ (∃ y, c.ge y = some (.exc k)) ∧ CallR X (.builtin "isinstance") (rIsE X.K (g.ca k) a)
  xs : ∀ k, k ∈ c.xs → ∃ x, c.ge x = some (.exc k)
  xf : ∀ x f, c.ge x = some (.xfn f) → ∀ k y, c.ge y = some (.exc k) → ∃ fd ps, Binds g.K fd ps [] ∧ FnX g.P g.w g.K g.mg g.base (L2N.CX g.P g.w) n (g.fa f) fd ps (g.ca k) (SpX g n (xnum f k))
  px : c.blk = false → ∀ nm j k, k < 900 → c.ex = some (nm, j, k) → ∃ p, p ∈ X.pn ∧ L2H.Hot1 X.A p ∧ g.exs = some (j, p.1) ∧ Zc (.ref (g.ca k)) none p.2
  rmH : c.hot = true → L2H.RoomH n X.A
  mts : c.hot = false → ∀ k m f, c.mt k m = some f → MetF g.K (cAd g.fa k) m (g.fa f) ∧ FnAt g n f
  prs : c.hot = false → ∀ k m f, c.pr k m = some f → (∃ p, PropOf g.K (cAd g.fa k) m p (g.fa f)) ∧ FnAt g n f
  ini : c.hot = false → ∀ x k f, c.ge x = some (.cls k f) → IniAt g n k f
  fr : c.blk = false → X.stack = X.env :: X.outer ∧ X.env.frame = some X.env.locals
theorem XOk.hu {g : G} {n : Nat} {Wx : WX} {c : CC} {X : Cx} (h : XOk g n Wx c X) : X.A.units + 64 < cLine := by have := h.units; omega
theorem XOk.hu65 {g : G} {n : Nat} {Wx : WX} {c : CC} {X : Cx} (h : XOk g n Wx c X) : X.A.units + 65 < cLine := by have := h.units; omega

/-- not starred -/
def NoStar (e : Expr) : Prop := ∀ es env, starEach (e :: es) env = (false, eval e env) :: starEach es env
theorem noStar_of {n : Nat} {c : CC} {e : Expr} {m : ME} (h : cE n c e = some m) : NoStar e := by
  cases n with
  | zero => cases h
  | succ n => cases e <;> first
    | (intro es env; rfl)
    | (simp [cE, cE1, cOb] at h; done)
theorem noSet_of {n : Nat} {c : CC} {e : Expr} {m : ME} (h : cE n c e = some m) (op : CmpOp) : behindInMarks op e = false := by
  cases n with
  | zero => cases h
  | succ n => cases e <;> first
    | rfl
    | (simp [cE, cE1, cOb] at h; done)
theorem cAll_cons {α β : Type} {f : α → Option β} {a : α} {r : List α} {bs : List β} (h : cAll f (a :: r) = some bs) : ∃ b bs', f a = some b ∧ cAll f r = some bs' ∧ bs = b :: bs' := by
  unfold cAll at h
  split at h
  · rename_i b bs' e1 e2
    cases h
    exact ⟨b, bs', e1, e2, rfl⟩
  · cases h
theorem plain_of {n : Nat} {c : CC} : ∀ {es : List Expr} {ms : List ME} {env : PySem.Env}, cAll (cE n c) es = some ms → starEach es env = es.map fun e => (false, eval e env)
  | [], _, _, _ => rfl
  | e :: r, ms, env, h => by
    obtain ⟨b, bs', e1, e2, _⟩ := cAll_cons h
    rw [noStar_of e1, plain_of e2]; rfl
theorem nostars {n : Nat} {c : CC} {es : List Expr} {ms : List ME} {env : PySem.Env} {pos : Pos} (h : cAll (cE n c) es = some ms) : (backTo pos (starEach es env)).any (·.1) = false := by
  rw [plain_of h]
  unfold backTo
  rw [List.map_map, List.any_map]
  rw [List.any_eq_false]
  intro e _
  exact Bool.false_ne_true

theorem ixOf_get : ∀ {N : List Str} {x : Str} {i : Nat}, ixOf N x = some i → N[i]? = some x
  | [], _, _, h => by cases h
  | y :: r, x, i, h => by
    unfold ixOf at h
    split at h
    · rename_i e; cases h; rw [e]; rfl
    · obtain ⟨j, e, rfl⟩ := map_some h
      have e : ixOf r x = some j := e
      have q : r[j]? = some x := ixOf_get e
      rw [List.getElem?_cons_succ]; exact q
theorem badN_ok {x : Str} (h : ¬ badN x = true) : (x == ("__debug__" : Str)) = false ∧ (x == ("__classdict__" : Str)) = false ∧ x ≠ "__name__" := by
  unfold badN at h
  simp only [Bool.or_eq_true, not_or] at h
  exact ⟨by simpa using h.1.1, by simpa using h.1.2, by simpa using h.2⟩
theorem cVar_ok {c : CC} {x : Str} {i : Nat} (h : cVar c x = some i) : c.N[i]? = some x ∧ Vis c.sc x ∧ (x == ("__debug__" : Str)) = false ∧ (x == ("__classdict__" : Str)) = false := by
  unfold cVar at h
  split at h
  · cases h
  · rename_i hb
    rw [Bool.or_eq_true, not_or] at hb
    obtain ⟨h1, h2, _⟩ := badN_ok hb.1
    split at h <;> first
      | cases h
      | (rename_i e; exact ⟨ixOf_get h, by first | exact .inl e | exact .inr (.inl e) | exact .inr (.inr e), h1, h2⟩)
theorem cGlo_ok {c : CC} {x : Str} {v : GV} (h : cGlo c x = some v) : c.sc.names.lookup x = some .globalImplicit ∧ c.ge x = some v ∧ (x == ("__debug__" : Str)) = false ∧ x ≠ "__name__" := by
  unfold cGlo at h
  split at h
  · cases h
  · rename_i hb
    obtain ⟨h1, _, h2⟩ := badN_ok hb
    split at h
    · rename_i e; exact ⟨e, h, h1, h2⟩
    · cases h
theorem cSto_ok {c : CC} {x : Str} {i : Nat} (h : cSto c x = some i) : c.N[i]? = some x ∧ Loc c.sc x ∧ (c.sc.names.lookup x = some .local ∨ c.blk = false) := by
  unfold cSto at h
  split at h
  · cases h
  split at h
  · rename_i e; exact ⟨ixOf_get h, .inl e, .inl e⟩
  · rename_i e
    split at h
    · cases h
    · rename_i hb; exact ⟨ixOf_get h, .inr e, .inr (by simpa using hb)⟩
  · cases h

theorem cSto_ne {c : CC} {x : Str} {i : Nat} (h : cSto c x = some i) : isEx c x = false := by
  unfold cSto at h
  split at h
  · cases h
  · rename_i hb; simpa using hb
section
variable {g : G} {n : Nat} {Wx : WX} {c : CC} {X : Cx}
/-- a slot that is stored is not the exception's -/
theorem XOk.nex (h : XOk g n Wx c X) {x : Str} {i : Nat} (hi : cSto c x = some i) : ∀ j a, g.exs = some (j, a) → j ≠ i := fun j a e z => by
  subst z
  obtain ⟨nm, k, e1, e2⟩ := h.exn j a e
  have h1 := (cSto_ok hi).1
  rw [e2] at h1
  cases h1
  have h2 := cSto_ne hi
  unfold isEx at h2
  rw [e1] at h2
  simp at h2
theorem XOk.gl (h : XOk g n Wx c X) {x : Str} (e : c.sc.names.lookup x = some .globalImplicit) : Gl X x := by
  show X.env.scope.names.lookup x = some .globalImplicit
  rw [h.hsc]; exact e

/-- a reading as Mini has it: values, tests, arguments -/
abbrev SE (g : G) (n : Nat) (Wx : WX) (X : Cx) (e : Expr) (m : ME) : Prop := PE X e (tE g (callF g.T n) Wx m)
abbrev ST (g : G) (n : Nat) (Wx : WX) (X : Cx) (e : Expr) (m : ME) : Prop := PT X e (tT g (callF g.T n) Wx m)
abbrev SW (g : G) (n : Nat) (Wx : WX) (X : Cx) (e : Expr) (m : ME) : Prop := PW X e (tT g (callF g.T n) Wx m)
abbrev SA (g : G) (n : Nat) (Wx : WX) (X : Cx) (es : List Expr) (ms : List ME) : Prop := PA X es (tA g (callF g.T n) Wx ms)
abbrev SO (g : G) (n : Nat) (Wx : WX) (X : Cx) (e : Option Expr) (m : Option ME) : Prop := PO X e (tO g (callF g.T n) Wx m)

theorem se_var (ho : XOk g n Wx c X) {x : Str} {i : Nat} {pos : Pos} (h : cVar c x = some i) : SE g n Wx X (.Name x pos) (.var i) := by
  obtain ⟨h1, h2, h3, h4⟩ := cVar_ok h
  refine PE.imp (pe_var (i := i) (by rw [ho.hN]; exact h1) (by rw [ho.hsc]; exact h2) h3 h4) fun σ H Q q => ?_
  obtain ⟨w, Fr, ρ, S, hs, he, hp⟩ := q
  simp only [ev] at hp
  split at hp
  · rename_i d e
    obtain ⟨v, q1, q2⟩ := he.at_ i d e
    exact ⟨v, q1, hp.ok hs q2⟩
  · exact False.elim hp
theorem se_cst (ho : XOk g n Wx c X) {x : Str} {d : D} {pos : Pos} (h : cGlo c x = some (.cst d)) : SE g n Wx X (.Name x pos) (.cst d) := by
  obtain ⟨h1, h2, h3, h4⟩ := cGlo_ok h
  obtain ⟨u, v, e1, r, q⟩ := ho.ge.cst x d h2
  refine PE.imp (pe_glob (v := v) (ho.gl h1) (by rw [ho.hmg]; exact e1) r h3) fun σ H Q z => ?_
  obtain ⟨w, Fr, ρ, S, hs, he, hp⟩ := z
  exact Post.ok hp hs (q w)
theorem se_fnv (ho : XOk g n Wx c X) {x : Str} {f : Nat} {pos : Pos} (h : cGlo c x = some (.fn f)) : SE g n Wx X (.Name x pos) (.fnv f) := by
  obtain ⟨h1, h2, h3, h4⟩ := cGlo_ok h
  obtain ⟨e1, _⟩ := ho.ge.fn x f h2
  refine PE.imp (pe_glob (v := .ref (g.fa f)) (ho.gl h1) (by rw [ho.hmg]; exact e1) rfl h3) fun σ H Q z => ?_
  obtain ⟨w, Fr, ρ, S, hs, he, hp⟩ := z
  exact Post.ok hp hs (.fn f)
theorem mkS_tl (x : Str) : mkS x.cps.toList = x := by
  apply Str.ext'
  show x.cps.toList.toArray = x.cps
  simp
theorem se_const {k : Const} {j : Nat} {pos : Pos} {d : D} (h : cConst k = some d) : SE g n Wx X (.Constant k j pos) (.cst d) := by
  cases k with
  | none =>
    cases h
    exact PE.imp pe_non fun σ H Q ⟨w, Fr, ρ, S, hs, he, hp⟩ => Post.ok hp hs .non
  | bool b =>
    cases h
    exact PE.imp pe_bl fun σ H Q ⟨w, Fr, ρ, S, hs, he, hp⟩ => Post.ok hp hs (.bl b)
  | int i =>
    cases h
    exact PE.imp pe_int fun σ H Q ⟨w, Fr, ρ, S, hs, he, hp⟩ => Post.ok hp hs (.int i)
  | str x =>
    simp only [cConst] at h
    split at h
    · rename_i hc
      cases h
      rw [Bool.and_eq_true, decide_eq_true_eq] at hc
      refine PE.imp pe_str fun σ H Q ⟨w, Fr, ρ, S, hs, he, hp⟩ => ?_
      have z : Rg g w (.str x.cps.toList) (.str (mkS x.cps.toList)) := .str _ hc.1 (Nat.le_trans hc.2 LIM_le)
      rw [mkS_tl] at z
      exact Post.ok hp hs z
    · cases h
  | _ => cases h
theorem se_bin (ho : XOk g n Wx c X) {a b : Expr} {ma mb : ME} {op : Operator} {bop : BOp} {pos : Pos} (hop : opOf op = some bop) (ha : SE g n Wx X a ma) (hb : SE g n Wx X b mb) : SE g n Wx X (.BinOp a op b pos) (.bin bop ma mb) := by
  have ok : OpR X (binaryOp op) (r2 g Wx fun x y S => ofOpt S (binV bop x y)) := by
    cases op <;> cases hop
    · exact ok_add ho.hK
    · exact ok_sub
    · exact ok_mul
    · exact ok_mod
    · exact ok_pow
    · exact ok_fdiv
  refine PE.imp (pe_op ok ha hb) fun σ H Q q => ?_
  obtain ⟨w, Fr, ρ, S, hs, he, hp⟩ := q
  refine ⟨w, Fr, ρ, S, hs, he, Post.bind hp fun x S1 w1 H1 vx l1 hs1 rx hp1 => ?_⟩
  refine ⟨w1, Fr, ρ, S1, hs1, he.mono l1, Post.bind hp1 fun y S2 w2 H2 vy l2 hs2 ry hp2 => ?_⟩
  exact ⟨w2, Fr, σ, S2, x, y, hs2, rx.mono l2, ry, hp2⟩
theorem op_cmp (ho : XOk g n Wx c X) {op : CmpOp} {cop : COp} (hop : cmpOf op = some cop) : OpR X (compareOp op) (r2 g Wx (fC cop)) := by
  cases op <;> cases hop
  · exact ok_eq ho.hK ho.hu
  · exact ok_ne ho.hK ho.hu
  · exact ok_lt ho.hK ho.hu
  · exact ok_le
  · exact ok_gt
  · exact ok_ge
  · exact ok_isb
  · exact ok_nisb
  · exact ok_in ho.hK ho.hu65
  · exact ok_notin ho.hK ho.hu65
theorem se_cmp (ho : XOk g n Wx c X) {a b : Expr} {ma mb : ME} {op : CmpOp} {cop : COp} {pos : Pos} (hop : cmpOf op = some cop) (ha : SE g n Wx X a ma) (hb : SE g n Wx X b mb) (hm : behindInMarks op b = false) : SE g n Wx X (.Compare a [op] [b] pos) (.cmp cop ma mb) := by
  refine PE.imp (pe_cmpR (op_cmp ho hop) ha hb hm) fun σ H Q q => ?_
  obtain ⟨w, Fr, ρ, S, hs, he, hp⟩ := q
  refine ⟨w, Fr, ρ, S, hs, he, Post.bind hp fun x S1 w1 H1 vx l1 hs1 rx hp1 => ?_⟩
  refine ⟨w1, Fr, ρ, S1, hs1, he.mono l1, Post.bind hp1 fun y S2 w2 H2 vy l2 hs2 ry hp2 => ?_⟩
  exact ⟨w2, Fr, σ, S2, x, y, hs2, rx.mono l2, ry, hp2⟩
theorem st_cmp (ho : XOk g n Wx c X) {a b : Expr} {ma mb : ME} {op : CmpOp} {cop : COp} {pos : Pos} (hop : cmpOf op = some cop) (ha : SE g n Wx X a ma) (hb : SE g n Wx X b mb) (hm : behindInMarks op b = false) : ST g n Wx X (.Compare a [op] [b] pos) (.cmp cop ma mb) := by
  refine PT.imp (pt_cmpR (op_cmp ho hop) ha hb hm) fun σ H Q q => ?_
  obtain ⟨w, Fr, ρ, S, hs, he, hp⟩ := q
  refine ⟨w, Fr, ρ, S, hs, he, Post.bind hp fun x S1 w1 H1 vx l1 hs1 rx hp1 => ?_⟩
  refine ⟨w1, Fr, ρ, S1, hs1, he.mono l1, Post.bind hp1 fun y S2 w2 H2 vy l2 hs2 ry hp2 => ?_⟩
  refine ⟨w2, Fr, σ, S2, x, y, hs2, rx.mono l2, ry, ?_⟩
  obtain ⟨b, e, hq⟩ := post_opt hp2
  rw [fC, e]
  intro w' H' b' l s r
  cases r
  exact ⟨b, rfl, hq w' H' b l s rfl⟩
theorem isN_bl {w : Wd} {d : D} {v : V} (r : Rg g w d v) : decide (v = .non) = (match d with | .non => true | _ => false) := by
  cases r <;> first | rfl | exact decide_eq_false (fun z => nomatch z)
theorem se_isN {a : Expr} {ma : ME} {j : Nat} {pos pos' : Pos} (ha : SE g n Wx X a ma) : SE g n Wx X (.Compare a [.Is] [.Constant .none j pos'] pos) (.isN ma) := by
  refine PE.imp (pe_cmp (pc_isN ha) rfl) fun σ H Q q => ?_
  obtain ⟨w, Fr, ρ, S, hs, he, hp⟩ := q
  refine ⟨w, Fr, ρ, S, hs, he, Post.bind hp fun x S1 w1 H1 vx l1 hs1 rx hp1 => ?_⟩
  show Q (.bl (decide (vx = .non))) H1
  rw [isN_bl rx]
  cases x <;> exact Post.ok hp1 hs1 (.bl _)
theorem se_notN {a : Expr} {ma : ME} {j : Nat} {pos pos' : Pos} (ha : SE g n Wx X a ma) : SE g n Wx X (.Compare a [.IsNot] [.Constant .none j pos'] pos) (.notN ma) := by
  refine PE.imp (pe_cmp (pc_notN ha) rfl) fun σ H Q q => ?_
  obtain ⟨w, Fr, ρ, S, hs, he, hp⟩ := q
  refine ⟨w, Fr, ρ, S, hs, he, Post.bind hp fun x S1 w1 H1 vx l1 hs1 rx hp1 => ?_⟩
  show Q (.bl (!decide (vx = .non))) H1
  rw [isN_bl rx]
  cases x <;> exact Post.ok hp1 hs1 (.bl _)
theorem st_isN {a : Expr} {ma : ME} {j : Nat} {pos pos' : Pos} (ha : SE g n Wx X a ma) : ST g n Wx X (.Compare a [.Is] [.Constant .none j pos'] pos) (.isN ma) := by
  refine PT.imp (pt_cmp (pc_isN ha) rfl) fun σ H Q q => ?_
  obtain ⟨w, Fr, ρ, S, hs, he, hp⟩ := q
  refine ⟨w, Fr, ρ, S, hs, he, Post.bind hp fun x S1 w1 H1 vx l1 hs1 rx hp1 => ⟨_, rfl, ?_⟩⟩
  rw [isN_bl rx]
  cases x <;> exact Post.ok hp1 hs1 rfl
theorem st_notN {a : Expr} {ma : ME} {j : Nat} {pos pos' : Pos} (ha : SE g n Wx X a ma) : ST g n Wx X (.Compare a [.IsNot] [.Constant .none j pos'] pos) (.notN ma) := by
  refine PT.imp (pt_cmp (pc_notN ha) rfl) fun σ H Q q => ?_
  obtain ⟨w, Fr, ρ, S, hs, he, hp⟩ := q
  refine ⟨w, Fr, ρ, S, hs, he, Post.bind hp fun x S1 w1 H1 vx l1 hs1 rx hp1 => ⟨_, rfl, ?_⟩⟩
  rw [isN_bl rx]
  cases x <;> exact Post.ok hp1 hs1 rfl
theorem se_neg {a : Expr} {ma : ME} {pos : Pos} (ha : SE g n Wx X a ma) : SE g n Wx X (.UnaryOp .USub a pos) (.neg ma) := by
  refine PE.imp (pe_un un_neg ha) fun σ H Q q => ?_
  obtain ⟨w, Fr, ρ, S, hs, he, hp⟩ := q
  refine ⟨w, Fr, ρ, S, hs, he, Post.bind hp fun x S1 w1 H1 vx l1 hs1 rx hp1 => ?_⟩
  cases rx <;> first
    | exact False.elim hp1
    | exact ⟨_, rfl, Post.ok hp1 hs1 (.int _)⟩
theorem se_not {a : Expr} {ma : ME} {pos : Pos} (ha : SE g n Wx X a ma) : SE g n Wx X (.UnaryOp .Not a pos) (.not ma) := by
  refine PE.imp (pe_not ha) fun σ H Q q => ?_
  obtain ⟨w, Fr, ρ, S, hs, he, hp⟩ := q
  refine ⟨w, Fr, ρ, S, hs, he, Post.bind hp fun x S1 w1 H1 vx l1 hs1 rx hp1 => ?_⟩
  cases rx <;> first
    | exact False.elim hp1
    | exact ⟨_, rfl, Post.ok hp1 hs1 (.bl _)⟩
theorem st_not {a : Expr} {ma : ME} {pos : Pos} (ha : ST g n Wx X a ma) : ST g n Wx X (.UnaryOp .Not a pos) (.not ma) := by
  refine PT.imp (pt_not ha) fun σ H Q q => ?_
  obtain ⟨w, Fr, ρ, S, hs, he, hp⟩ := q
  refine ⟨w, Fr, ρ, S, hs, he, Post.bind hp fun x S1 w1 H1 vx l1 hs1 rx hp1 => ?_⟩
  cases rx
  exact Post.ok hp1 hs1 rfl
theorem se_and {a b : Expr} {r : List Expr} {ma mb : ME} {pos : Pos} (ha : SE g n Wx X a ma) (hb : SE g n Wx X (.BoolOp .And (b :: r) pos) mb) : SE g n Wx X (.BoolOp .And (a :: b :: r) pos) (.and ma mb) := by
  refine PE.imp (pe_and ha hb) fun σ H Q q => ?_
  obtain ⟨w, Fr, ρ, S, hs, he, hp⟩ := q
  refine ⟨w, Fr, ρ, S, hs, he, Post.bind hp fun x S1 w1 H1 vx l1 hs1 rx hp1 => ?_⟩
  cases rx <;> first
    | exact False.elim hp1
    | (rename_i k
       refine ⟨k, rfl, ?_⟩
       cases k with
       | true => exact ⟨w1, Fr, ρ, S1, hs1, he.mono l1, hp1⟩
       | false => exact Post.ok hp1 hs1 (.bl _))
theorem se_or {a b : Expr} {r : List Expr} {ma mb : ME} {pos : Pos} (ha : SE g n Wx X a ma) (hb : SE g n Wx X (.BoolOp .Or (b :: r) pos) mb) : SE g n Wx X (.BoolOp .Or (a :: b :: r) pos) (.or ma mb) := by
  refine PE.imp (pe_or ha hb) fun σ H Q q => ?_
  obtain ⟨w, Fr, ρ, S, hs, he, hp⟩ := q
  refine ⟨w, Fr, ρ, S, hs, he, Post.bind hp fun x S1 w1 H1 vx l1 hs1 rx hp1 => ?_⟩
  cases rx <;> first
    | exact False.elim hp1
    | (rename_i k
       refine ⟨k, rfl, ?_⟩
       cases k with
       | true => exact Post.ok hp1 hs1 (.bl _)
       | false => exact ⟨w1, Fr, ρ, S1, hs1, he.mono l1, hp1⟩)
theorem sw_and {a b : Expr} {r : List Expr} {ma mb : ME} {pos : Pos} (ha : ST g n Wx X a ma) (hb : SW g n Wx X (.BoolOp .And (b :: r) pos) mb) : SW g n Wx X (.BoolOp .And (a :: b :: r) pos) (.and ma mb) := by
  refine PW.imp (pw_and ha hb) fun σ H Q q => ?_
  obtain ⟨w, Fr, ρ, S, hs, he, hp⟩ := q
  refine ⟨w, Fr, ρ, S, hs, he, Post.bind hp fun k S1 w1 H1 vx l1 hs1 rx hp1 => ?_⟩
  cases rx
  cases k with
  | true => exact ⟨w1, Fr, ρ, S1, hs1, he.mono l1, hp1⟩
  | false => exact Post.ok hp1 hs1 rfl
theorem sw_or {a b : Expr} {r : List Expr} {ma mb : ME} {pos : Pos} (ha : ST g n Wx X a ma) (hb : SW g n Wx X (.BoolOp .Or (b :: r) pos) mb) : SW g n Wx X (.BoolOp .Or (a :: b :: r) pos) (.or ma mb) := by
  refine PW.imp (pw_or ha hb) fun σ H Q q => ?_
  obtain ⟨w, Fr, ρ, S, hs, he, hp⟩ := q
  refine ⟨w, Fr, ρ, S, hs, he, Post.bind hp fun k S1 w1 H1 vx l1 hs1 rx hp1 => ?_⟩
  cases rx
  cases k with
  | true => exact Post.ok hp1 hs1 rfl
  | false => exact ⟨w1, Fr, ρ, S1, hs1, he.mono l1, hp1⟩
theorem se_chn (ho : XOk g n Wx c X) {a b d : Expr} {ma mb md : ME} {o1 o2 : CmpOp} {c1 c2 : COp} {pos : Pos} (h1 : cmpOf o1 = some c1) (h2 : cmpOf o2 = some c2) (ha : SE g n Wx X a ma) (hb : SE g n Wx X b mb) (hd : SE g n Wx X d md) (hm : lastMarks [o1, o2] [b, d] = false) :
    SE g n Wx X (.Compare a [o1, o2] [b, d] pos) (.chn c1 c2 ma mb md) := by
  refine PE.imp (pe_chain (op_cmp ho h1) (op_cmp ho h2) ha hb hd hm) fun σ H Q q => ?_
  obtain ⟨w, Fr, ρ, S, hs, he, hp⟩ := q
  refine ⟨w, Fr, ρ, S, hs, he, Post.bind hp fun x S1 w1 H1 vx l1 hs1 rx hp1 => ?_⟩
  refine ⟨w1, Fr, ρ, S1, hs1, he.mono l1, Post.bind hp1 fun y S2 w2 H2 vy l2 hs2 ry hp2 => ?_⟩
  refine ⟨w2, Fr, σ, S2, x, y, hs2, rx.mono l2, ry, ?_⟩
  cases e : cmpV S2 c1 x y with
  | none => rw [e] at hp2; exact False.elim hp2
  | some t =>
    rw [e] at hp2
    rw [fC, e]
    intro w3 H3 v3 l3 hs3 r3
    cases r3
    refine ⟨t, rfl, ?_⟩
    cases t with
    | true =>
      have hp3 : Post g Wx (Rg g) w2 Fr σ ((ev (callF g.T n) md ρ S2).bind fun z S4 => ofOpt S4 ((cmpV S4 c2 y z).map .bl)) Q := hp2
      refine ⟨w3, Fr, ρ, S2, hs3, (he.mono l1).mono (l2.trans l3), Post.bind (hp3.mono l3) fun z S4 w4 H4 vz l4 hs4 rz hp4 => ?_⟩
      exact ⟨w4, Fr, σ, S4, y, z, hs4, ry.mono (l3.trans l4), rz, hp4⟩
    | false => exact hp2 w3 H3 _ l3 hs3 (.bl _)
theorem st_chn (ho : XOk g n Wx c X) {a b d : Expr} {ma mb md : ME} {o1 o2 : CmpOp} {c1 c2 : COp} {pos : Pos} (h1 : cmpOf o1 = some c1) (h2 : cmpOf o2 = some c2) (ha : SE g n Wx X a ma) (hb : SE g n Wx X b mb) (hd : SE g n Wx X d md) (hm : lastMarks [o1, o2] [b, d] = false) :
    ST g n Wx X (.Compare a [o1, o2] [b, d] pos) (.chn c1 c2 ma mb md) := by
  refine PT.imp (pt_chain (op_cmp ho h1) (op_cmp ho h2) ha hb hd hm) fun σ H Q q => ?_
  obtain ⟨w, Fr, ρ, S, hs, he, hp⟩ := q
  refine ⟨w, Fr, ρ, S, hs, he, Post.bind hp fun x S1 w1 H1 vx l1 hs1 rx hp1 => ?_⟩
  refine ⟨w1, Fr, ρ, S1, hs1, he.mono l1, Post.bind hp1 fun y S2 w2 H2 vy l2 hs2 ry hp2 => ?_⟩
  refine ⟨w2, Fr, σ, S2, x, y, hs2, rx.mono l2, ry, ?_⟩
  cases e : cmpV S2 c1 x y with
  | none => rw [e] at hp2; exact False.elim hp2
  | some t =>
    rw [e] at hp2
    rw [fC, e]
    intro w3 H3 v3 l3 hs3 r3
    cases r3
    refine ⟨t, rfl, ?_⟩
    cases t with
    | true =>
      have hp3 : Post g Wx RE w2 Fr σ ((ev (callF g.T n) md ρ S2).bind fun z S4 => ofOpt S4 (cmpV S4 c2 y z)) Q := hp2
      refine ⟨w3, Fr, ρ, S2, hs3, (he.mono l1).mono (l2.trans l3), Post.bind (hp3.mono l3) fun z S4 w4 H4 vz l4 hs4 rz hp4 => ?_⟩
      refine ⟨w4, Fr, σ, S4, y, z, hs4, ry.mono (l3.trans l4), rz, ?_⟩
      obtain ⟨b, e, hq⟩ := post_opt hp4
      rw [fC, e]
      intro w' H' b' l s r
      cases r
      exact ⟨b, rfl, hq w' H' b l s rfl⟩
    | false => exact ⟨false, rfl, hp2 w3 H3 _ l3 hs3 rfl⟩
theorem se_ite {t a b : Expr} {mt ma mb : ME} {pos : Pos} (ht : ST g n Wx X t mt) (ha : SE g n Wx X a ma) (hb : SE g n Wx X b mb) : SE g n Wx X (.IfExp t a b pos) (.ite mt ma mb) := by
  refine PE.imp (pe_ifExp ht ha hb) fun σ H Q q => ?_
  obtain ⟨w, Fr, ρ, S, hs, he, hp⟩ := q
  refine ⟨w, Fr, ρ, S, hs, he, Post.bind hp fun k S1 w1 H1 vx l1 hs1 rx hp1 => ?_⟩
  cases rx
  cases k with
  | true => exact ⟨w1, Fr, ρ, S1, hs1, he.mono l1, hp1⟩
  | false => exact ⟨w1, Fr, ρ, S1, hs1, he.mono l1, hp1⟩
theorem sa_nil : SA g n Wx X [] [] := by
  refine PA.imp pa_nil fun σ H Q q => ?_
  obtain ⟨w, Fr, ρ, S, hs, he, hp⟩ := q
  exact Post.ok hp hs .nil
theorem sa_cons {e : Expr} {es : List Expr} {m : ME} {ms : List ME} (ns : NoStar e) (h : SE g n Wx X e m) (hr : SA g n Wx X es ms) : SA g n Wx X (e :: es) (m :: ms) := by
  refine PA.imp (pa_cons h hr (ns _ _)) fun σ H Q q => ?_
  obtain ⟨w, Fr, ρ, S, hs, he, hp⟩ := q
  refine ⟨w, Fr, ρ, S, hs, he, Post.bind hp fun x S1 w1 H1 vx l1 hs1 rx hp1 => ?_⟩
  refine ⟨w1, Fr, ρ, S1, hs1, he.mono l1, Post.bind hp1 fun ys S2 w2 H2 vy l2 hs2 ry hp2 => ?_⟩
  exact Post.ok hp2 hs2 (.cons (rx.mono l2) ry)
theorem Post.bindE {α β γ δ : Type} {rep : Wd → α → β → Prop} {rep2 : Wd → γ → δ → Prop} {w : Wd} {Fr : Hp} {σ : L2.St} {r : R α} {Q : β → Hp → Prop} {Q2 : δ → Hp → Prop}
    {f : α → Sto → R γ} (h : Post g Wx rep2 w Fr σ (r.bind f) Q2) (k : ∀ a S1 w1 H1 b, r = .ok a S1 → w.le w1 → StOk g w1 Fr H1 S1 → rep w1 a b → Post g Wx rep2 w1 Fr σ (f a S1) Q2 → Q b H1) : Post g Wx rep w Fr σ r Q := by
  cases r with
  | ok a S' => exact fun w2 H' b l2 s q => k a S' w2 H' b rfl l2 s q (Post.mono l2 h)
  | exc c S' => exact h
  | bad => exact h
theorem evs_length {C : Nat → List D → Sto → R D} : ∀ {ms : List ME} {ρ : Env} {S S' : Sto} {ds : List D}, evs C ms ρ S = .ok ds S' → ds.length = ms.length
  | [], _, _, _, _, h => by simp only [evs] at h; cases h; rfl
  | m :: ms, ρ, S, S', ds, h => by
    simp only [evs] at h
    cases e1 : ev C m ρ S with
    | ok a S1 =>
      rw [e1] at h
      simp only [R.bind] at h
      cases e2 : evs C ms ρ S1 with
      | ok as S2 =>
        rw [e2] at h
        cases h
        rw [List.length_cons, List.length_cons, evs_length e2]
      | exc _ _ => rw [e2] at h; cases h
      | bad => rw [e2] at h; cases h
    | exc _ _ => rw [e1] at h; cases h
    | bad => rw [e1] at h; cases h
theorem se_tup {es : List Expr} {ms : List ME} {k : Nat} {pos : Pos} (hl : ms.length ≤ LIM) (h : SA g n Wx X es ms) : SE g n Wx X (.Tuple es k pos) (.tup ms) := by
  refine PE.imp (pe_tup h) fun σ H Q q => ?_
  obtain ⟨w, Fr, ρ, S, hs, he, hp⟩ := q
  refine ⟨w, Fr, ρ, S, hs, he, Post.bindE hp fun xs S1 w1 H1 vs e l1 hs1 rx hp1 => ⟨?_, fun p np => ?_⟩⟩
  · rw [← rx.length, evs_length e]; exact Nat.le_trans hl LIM_le
  · obtain ⟨s2, le⟩ := hs1.data (o := .tup vs) np
    exact hp1 _ _ _ le s2 (.tup (.of upd_same) (rx.mono le))
/-- a new list: data, or a cell -/
theorem new_list {w : Wd} {Fr H : Hp} {S : Sto} {own : Bool} {xs : List D} {vs : List V} {σ : L2.St} {Q : VK} (hs : StOk g w Fr H S) (rx : Rgs g w xs vs) (hp : Post g Wx (Rg g) w Fr σ (allocIf own xs S) Q) {p : Addr} (np : H p = none) : Q (.ref p) (upd H p (.lst vs)) := by
  cases own with
  | false =>
    obtain ⟨s2, le⟩ := hs.data (o := .lst vs) np
    exact hp _ _ _ le s2 (.lst upd_same (rx.mono le))
  | true =>
    obtain ⟨s2, le⟩ := hs.cell (o := .lst vs) (c := .lst xs) np fun w' H' le e => ⟨vs, e, rx.mono le⟩
    exact hp _ _ _ le s2 (.own (by show (if S.nx = S.nx then some p else w.al S.nx) = some p; rw [if_pos rfl]))
theorem se_lst {es : List Expr} {ms : List ME} {own : Bool} {pos : Pos} (hl : ms.length ≤ LIM) (h : SA g n Wx X es ms) : SE g n Wx X (.List es pos) (.lst own ms) := by
  refine PE.imp (pe_lst h) fun σ H Q q => ?_
  obtain ⟨w, Fr, ρ, S, hs, he, hp⟩ := q
  refine ⟨w, Fr, ρ, S, hs, he, Post.bindE hp fun xs S1 w1 H1 vs e l1 hs1 rx hp1 => ⟨?_, fun p np => ?_⟩⟩
  · rw [← rx.length, evs_length e]; exact Nat.le_trans hl LIM_le
  · exact new_list hs1 rx hp1 np
theorem se_dct {pos : Pos} : SE g n Wx X (.Dict [] [] pos) .dct := by
  refine PE.imp pe_dnewK fun σ H Q q => ?_
  obtain ⟨w, Fr, ρ, S, hs, he, hp⟩ := q
  intro p np
  obtain ⟨s2, le⟩ := hs.cell (o := .dK []) (c := .dct []) np fun w' H' le e => ⟨[], e, .nil⟩
  exact hp _ _ _ le s2 (.own (by show (if S.nx = S.nx then some p else w.al S.nx) = some p; rw [if_pos rfl]))
theorem plainIx_of {e : Expr} (h : isSlice e = false) : PlainIx e := by
  intro o i
  cases e <;> first | rfl | cases h
theorem se_idx (ho : XOk g n Wx c X) {a b : Expr} {ma mb : ME} {pos : Pos} (hb' : isSlice b = false) (ha : SE g n Wx X a ma) (hb : SE g n Wx X b mb) : SE g n Wx X (.Subscript a b pos) (.idx ma mb) := by
  refine PE.imp (pe_ix (ok_idx (Wx := Wx) ho.hK ho.hu) ha hb (plainIx_of hb')) fun σ H Q q => ?_
  obtain ⟨w, Fr, ρ, S, hs, he, hp⟩ := q
  refine ⟨w, Fr, ρ, S, hs, he, Post.bind hp fun x S1 w1 H1 vx l1 hs1 rx hp1 => ?_⟩
  refine ⟨w1, Fr, ρ, S1, hs1, he.mono l1, Post.bind hp1 fun y S2 w2 H2 vy l2 hs2 ry hp2 => ?_⟩
  exact ⟨w2, Fr, σ, S2, x, y, hs2, rx.mono l2, ry, hp2⟩
theorem so_none : SO g n Wx X none none := by
  refine PO.imp po_none fun σ H Q q => ?_
  obtain ⟨w, Fr, ρ, S, hs, he, hp⟩ := q
  exact Post.ok hp hs rfl
theorem so_some {e : Expr} {m : ME} (h : SE g n Wx X e m) : SO g n Wx X (some e) (some m) := by
  refine PO.imp (po_some h) fun σ H Q q => ?_
  obtain ⟨w, Fr, ρ, S, hs, he, hp⟩ := q
  refine ⟨w, Fr, ρ, S, hs, he, Post.bind hp fun x S1 w1 H1 vx l1 hs1 rx hp1 => ?_⟩
  cases rx <;> first
    | exact False.elim hp1
    | exact ⟨_, rfl, Post.ok hp1 hs1 rfl⟩
theorem se_slc (ho : XOk g n Wx c X) {a : Expr} {lo hi : Option Expr} {ma : ME} {ml mh : Option ME} {p2 pos : Pos} (ha : SE g n Wx X a ma) (hl : SO g n Wx X lo ml) (hh : SO g n Wx X hi mh) : SE g n Wx X (.Subscript a (.Slice lo hi none p2) pos) (.slc ma ml mh) := by
  refine PE.imp (pe_slice (ok_slc (Wx := Wx) ho.hK) ha hl hh) fun σ H Q q => ?_
  obtain ⟨w, Fr, ρ, S, hs, he, hp⟩ := q
  refine ⟨w, Fr, ρ, S, hs, he, Post.bind hp fun x S1 w1 H1 vx l1 hs1 rx hp1 => ?_⟩
  refine ⟨w1, Fr, ρ, S1, hs1, he.mono l1, Post.bind hp1 fun y S2 w2 H2 vy l2 hs2 ry hp2 => ?_⟩
  refine ⟨w2, Fr, ρ, S2, hs2, (he.mono l1).mono l2, Post.bind hp2 fun z S3 w3 H3 vz l3 hs3 rz hp3 => ?_⟩
  cases ry
  cases rz
  exact ⟨w3, Fr, σ, S3, x, hs3, rx.mono (l2.trans l3), hp3⟩
theorem se_rev {a : Expr} {ma : ME} {k : Nat} {p1 p2 p3 pos : Pos} (ha : SE g n Wx X a ma) : SE g n Wx X (.Subscript a (.Slice none none (some (.UnaryOp .USub (.Constant (.int 1) k p1) p2)) p3) pos) (.rev ma) := by
  refine PE.imp (pe_revS ha) fun σ H Q q => ?_
  obtain ⟨w, Fr, ρ, S, hs, he, hp⟩ := q
  refine ⟨w, Fr, ρ, S, hs, he, Post.bind hp fun x S1 w1 H1 vx l1 hs1 rx hp1 => ?_⟩
  cases rx <;> first
    | exact False.elim hp1
    | (rename_i x h1 h2
       exact .inl ⟨x, rfl, h2, Post.ok hp1 hs1 (.str _ (all_sub h1 fun c hc => List.mem_reverse.mp hc) (by rw [List.length_reverse]; exact h2))⟩)
    | (rename_i h r
       refine .inr ⟨_, _, rfl, .of (hs1.h0 _ _ h), fun p np => ?_⟩
       obtain ⟨s2, le⟩ := hs1.data (o := .lst _) np
       exact hp1 _ _ _ le s2 (.lst upd_same ((reps_rev r).mono le)))
theorem se_call (ho : XOk g n Wx c X) (hh : c.hot = false) {x : Str} {f : Nat} {e : Expr} {es : List Expr} {ms : List ME} {p pos : Pos} (h : cGlo c x = some (.fn f)) (ns : NoStar e) (hpl : (backTo pos (starEach es X.env)).any (·.1) = false) (ha : SA g n Wx X (e :: es) ms) :
    SE g n Wx X (.Call (.Name x p) (e :: es) [] pos) (.call f ms) := by
  obtain ⟨h1, h2, h3, h4⟩ := cGlo_ok h
  obtain ⟨e1, kp⟩ := ho.ge.fn x f h2
  obtain ⟨fd, ps, hb, F⟩ := ho.fns x f h2
  have F' : FnOk X.prog X.w X.K X.mg X.base (L2N.CX X.prog X.w) n (g.fa f) fd ps (SpF g n f) := by
    rw [ho.hP, ho.hw, ho.hK, ho.hmg, ho.hbase]; exact F
  refine PE.imp (pe_callS (E := WE Wx) F' (ho.room hh).rm (ho.gl h1) (by rw [ho.hmg]; exact e1) (by rw [ho.hK]; exact kp) (by rw [ho.hK]; exact hb) (fun σ => L2N.passAt ho.tk σ) ha h3 (ns _ _) hpl) fun σ H Q q => ?_
  obtain ⟨w, Fr, ρ, S, hs, he, hp⟩ := q
  refine ⟨w, Fr, ρ, S, hs, he, Post.bind hp fun xs S1 w1 H1 vs l1 hs1 rx hp1 => ?_⟩
  refine ⟨w1, Fr, S1, xs, hs1, rx, ?_⟩
  revert hp1
  cases callF g.T n f xs S1 <;> exact fun z => z
theorem rB_of {w : Wd} {Fr H : Hp} {S : Sto} {b : BF} {ds : List D} {vs : List V} {σ : L2.St} {Q : VK} (hs : StOk g w Fr H S) (r : Rgs g w ds vs) (hp : Post g Wx (Rg g) w Fr σ (ofOpt S (bfV S b ds)) Q) : rB g Wx b vs H Q := ⟨w, Fr, σ, S, ds, hs, r, hp⟩
theorem se_bcl (ho : XOk g n Wx c X) {x : Str} {b : BF} {e : Expr} {es : List Expr} {ms : List ME} {p pos : Pos} (h : cGlo c x = some .blt) (hb : bfOf x (e :: es).length = some b) (hh : c.hot = false ∨ hotBF b = true) (ns : NoStar e) (hpl : (backTo pos (starEach es X.env)).any (·.1) = false) (ha : SA g n Wx X (e :: es) ms) :
    SE g n Wx X (.Call (.Name x p) (e :: es) [] pos) (.bcl b ms) := by
  obtain ⟨h1, h2, h3, h4⟩ := cGlo_ok h
  have m : X.mg x = none := by rw [ho.hmg]; exact ho.ge.blt x h2
  have gx := ho.gl h1
  have fin : ∀ σ H Q, tE g (callF g.T n) Wx (.bcl b ms) σ H Q → tCB (rB g Wx b) (tA g (callF g.T n) Wx ms) σ H Q := fun σ H Q q => by
    obtain ⟨w, Fr, ρ, S, hs, he, hp⟩ := q
    exact ⟨w, Fr, ρ, S, hs, he, Post.bind hp fun xs S1 w1 H1 vs l1 hs1 rx hp1 => rB_of hs1 rx hp1⟩
  have cm : hotBF b = false → X.calm = true := fun z => ho.calm (hh.elim id fun q => by rw [q] at z; cases z)
  unfold bfOf at hb
  split at hb
  · rename_i z; cases hb; obtain ⟨rfl, _⟩ := z
    exact PE.imp (pe_callB (ok_len ho.hK) gx m PySem.boot_len ha h4 h3 (ns _ _) hpl) fin
  split at hb
  · rename_i z; cases hb; obtain ⟨rfl, _⟩ := z
    exact PE.imp (pe_callB (ok_min2 (cm rfl)) gx m (by decide +kernel) ha h4 h3 (ns _ _) hpl) fin
  split at hb
  · rename_i z; cases hb; obtain ⟨rfl, _⟩ := z
    exact PE.imp (pe_callB (ok_max2 (cm rfl)) gx m (by decide +kernel) ha h4 h3 (ns _ _) hpl) fin
  split at hb
  · rename_i z; cases hb; obtain ⟨rfl, _⟩ := z
    exact PE.imp (pe_callB (ok_all (cm rfl)) gx m (by decide +kernel) ha h4 h3 (ns _ _) hpl) fin
  split at hb
  · rename_i z; cases hb; obtain ⟨rfl, _⟩ := z
    exact PE.imp (pe_callB (ok_sum (cm rfl)) gx m (by decide +kernel) ha h4 h3 (ns _ _) hpl) fin
  split at hb
  · rename_i z; cases hb; obtain ⟨rfl, _⟩ := z
    exact PE.imp (pe_callTy (ok_list (cm rfl) ho.hK) gx m (by decide +kernel) ha h4 h3 (ns _ _) hpl) fin
  split at hb
  · rename_i z; cases hb; obtain ⟨rfl, _⟩ := z
    exact PE.imp (pe_callTy ok_int gx m (by decide +kernel) ha h4 h3 (ns _ _) hpl) fin
  split at hb
  · rename_i z; cases hb; obtain ⟨rfl, _⟩ := z
    exact PE.imp (pe_callTy (ok_tuple ho.hK) gx m (by decide +kernel) ha h4 h3 (ns _ _) hpl) fin
  split at hb
  · rename_i z; cases hb; obtain ⟨rfl, _⟩ := z
    exact PE.imp (pe_callB (ok_max1 (cm rfl)) gx m (by decide +kernel) ha h4 h3 (ns _ _) hpl) fin
  cases hb
theorem ty_boot {t : Str} {y : TY} (h : tyOfN t = some y) : bootBuiltins t = some (.type (tyN y)) := by
  unfold tyOfN at h
  split at h
  · rename_i e; subst e; cases h; decide +kernel
  split at h
  · rename_i e; subst e; cases h; decide +kernel
  split at h
  · rename_i e; subst e; cases h; decide +kernel
  split at h
  · rename_i e; subst e; cases h; decide +kernel
  cases h
theorem se_isi (ho : XOk g n Wx c X) {t : Str} {y : TY} {e : Expr} {m : ME} {p p2 pos : Pos} (h : cGlo c "isinstance" = some .blt) (ht : cGlo c t = some .blt) (hy : tyOfN t = some y) (ns : NoStar e) (he : SE g n Wx X e m) :
    SE g n Wx X (.Call (.Name "isinstance" p) [e, .Name t p2] [] pos) (.isi m y) := by
  obtain ⟨h1, h2, h3, h4⟩ := cGlo_ok h
  obtain ⟨t1, t2, t3, t4⟩ := cGlo_ok ht
  have m1 : X.mg "isinstance" = none := by rw [ho.hmg]; exact ho.ge.blt _ h2
  have m2 : X.mg t = none := by rw [ho.hmg]; exact ho.ge.blt _ t2
  refine PE.imp (pe_callB call_isi (ho.gl h1) m1 (by decide +kernel) (pa_cons he (pa_cons (pe_bltn (v := .ty (tyN y)) (ho.gl t1) m2 (ty_boot hy) rfl t4 t3) pa_nil) (ns _ _)) h4 h3 (ns _ _) rfl) fun σ H Q q => ?_
  obtain ⟨w, Fr, ρ, S, hs, he, hp⟩ := q
  refine ⟨w, Fr, ρ, S, hs, he, Post.bind hp fun x S1 w1 H1 vx l1 hs1 rx hp1 => ?_⟩
  obtain ⟨d, e1, hq⟩ := post_opt hp1
  obtain ⟨b, e2, rfl⟩ := map_some e1
  obtain ⟨T, q1, q2⟩ := tyX_of ho.hK hs1 rx e2
  exact ⟨vx, .ty (tyN y), .type T, .type (tyN y), b, rfl, .ty _, q1, kit_ty q2, hq.ok hs1 (.bl _)⟩
theorem se_frz {e : Expr} {m : ME} (h : SE g n Wx X e m) : SE g n Wx X e (.frz m) := by
  refine PE.imp h fun σ H Q q => ?_
  obtain ⟨w, Fr, ρ, S, hs, he, hp⟩ := q
  refine ⟨w, Fr, ρ, S, hs, he, Post.bind hp fun x S1 w1 H1 vx l1 hs1 rx hp1 => ?_⟩
  cases rx <;> first
    | exact Post.ok hp1 hs1 .non
    | exact Post.ok hp1 hs1 (.bl _)
    | exact Post.ok hp1 hs1 (.int _)
    | exact Post.ok hp1 hs1 (.fn _)
    | exact Post.ok hp1 hs1 (.str _ (by assumption) (by assumption))
    | exact Post.ok hp1 hs1 (.lst (by assumption) (by assumption))
    | exact Post.ok hp1 hs1 (.tup (by assumption) (by assumption))
    | exact Post.ok hp1 hs1 (.frz (by assumption) (by assumption))
    | exact Post.ok hp1 hs1 (.dx (by assumption) (by assumption))
    | exact Post.ok hp1 hs1 (.obj (by assumption) (by assumption))
    | exact Post.ok hp1 hs1 (.any _)
    | (rename_i i a ha
       simp only [frzV] at hp1
       split at hp1
       · rename_i xs hg
         obtain ⟨b, h1, h2, h3, vs, h4, h5⟩ := hs1.live i _ hg
         rw [ha] at h1; cases h1
         obtain ⟨s2, le⟩ := hs1.del hg ha h4
         exact hp1 _ _ _ le s2 (.lst upd_same (h5.mono le))
       · exact False.elim hp1)
theorem fnsOf_ok {c : CC} : ∀ {xs : List Str} {ks : List Nat}, fnsOf c xs = some ks → ∀ k ∈ ks, ∃ x, cGlo c x = some (.fn k)
  | [], ks, h, k, hk => by cases h; exact nomatch hk
  | x :: r, ks, h, k, hk => by
    obtain ⟨b, bs, e1, e2, rfl⟩ := cAll_cons h
    rcases List.mem_cons.mp hk with rfl | hk
    · split at e1
      · rename_i k' e; cases e1; exact ⟨x, e⟩
      · cases e1
    · exact fnsOf_ok e2 k hk
theorem callv_rd (ho : XOk g n Wx c X) {ks : List Nat} {mf : ME} {ms : List ME} : ∀ σ H Q, tE g (callF g.T n) Wx (.callv ks mf ms) σ H Q →
    tE g (callF g.T n) Wx mf σ H fun x H1 => ∃ j, ks.elem j = true ∧ x = .ref (g.fa j) ∧ tA g (callF g.T n) Wx ms σ H1 fun vs H2 => SpF g n j vs H2 Q (WE Wx σ) := fun σ H Q q => by
  obtain ⟨w, Fr, ρ, S, hs, he, hp⟩ := q
  refine ⟨w, Fr, ρ, S, hs, he, Post.bind hp fun x S1 w1 H1 vx l1 hs1 rx hp1 => ?_⟩
  cases rx with
  | fn k =>
    by_cases hk : ks.elem k = true
    · simp only [hk, if_true] at hp1
      refine ⟨k, hk, rfl, w1, Fr, ρ, S1, hs1, he.mono l1, Post.bind hp1 fun ys S2 w2 H2 vy l2 hs2 ry hp2 => ⟨w2, Fr, S2, ys, hs2, ry, ?_⟩⟩
      revert hp2
      cases callF g.T n k ys S2 <;> exact fun z => z
    · simp only [hk] at hp1
      exact False.elim hp1
  | non => exact False.elim hp1
  | bl _ => exact False.elim hp1
  | int _ => exact False.elim hp1
  | str _ _ _ => exact False.elim hp1
  | lst _ _ => exact False.elim hp1
  | tup _ _ => exact False.elim hp1
  | frz _ _ => exact False.elim hp1
  | dx _ _ => exact False.elim hp1
  | obj _ _ => exact False.elim hp1
  | any _ => exact False.elim hp1
  | own _ => exact False.elim hp1
/-- the defs that may stand as values -/
theorem fns_at (ho : XOk g n Wx c X) {xs : List Str} {ks : List Nat} (hk : fnsOf c xs = some ks) : ∀ j, ks.elem j = true → ∃ fd ps, FnOk X.prog X.w X.K X.mg X.base (L2N.CX X.prog X.w) n (g.fa j) fd ps (SpF g n j) ∧ PySem.W.keepIn X.K (.ref (g.fa j)) = true ∧ Binds X.K fd ps [] := fun j hj => by
  obtain ⟨x, e⟩ := fnsOf_ok hk j (List.elem_iff.mp hj)
  obtain ⟨_, h2, _, _⟩ := cGlo_ok e
  obtain ⟨_, kp⟩ := ho.ge.fn x j h2
  obtain ⟨fd, ps, hb, F⟩ := ho.fns x j h2
  refine ⟨fd, ps, ?_, by rw [ho.hK]; exact kp, by rw [ho.hK]; exact hb⟩
  rw [ho.hP, ho.hw, ho.hK, ho.hmg, ho.hbase]; exact F
theorem se_callvN (ho : XOk g n Wx c X) (hh : c.hot = false) {xs : List Str} {ks : List Nat} {x : Str} {p pos : Pos} {e : Expr} {es : List Expr} {mf : ME} {ms : List ME} (hk : fnsOf c xs = some ks) (hf : SE g n Wx X (.Name x p) mf) (ns : NoStar e) (hpl : (backTo pos (starEach es X.env)).any (·.1) = false) (ha : SA g n Wx X (e :: es) ms) :
    SE g n Wx X (.Call (.Name x p) (e :: es) [] pos) (.callv ks mf ms) :=
  PE.imp (HotZ.pe_callN (E := WE Wx) (ok := fun j => ks.elem j = true) (at_ := g.fa) (sp := SpF g n) (fns_at ho hk) (ho.room hh).rm hf (fun σ => L2N.passAt ho.tk σ) ha (ns _ _) hpl) (callv_rd ho)
theorem se_callvF (ho : XOk g n Wx c X) (hh : c.hot = false) {xs : List Str} {ks : List Nat} {fe : Expr} {pos : Pos} {e : Expr} {es : List Expr} {mf : ME} {ms : List ME} (hs : isSub fe = true) (hk : fnsOf c xs = some ks) (hf : SE g n Wx X fe mf) (ns : NoStar e) (hpl : (backTo pos (starEach es X.env)).any (·.1) = false) (ha : SA g n Wx X (e :: es) ms) :
    SE g n Wx X (.Call fe (e :: es) [] pos) (.callv ks mf ms) := by
  refine PE.imp (HotZ.pe_callF (E := WE Wx) (ok := fun j => ks.elem j = true) (at_ := g.fa) (sp := SpF g n) (fns_at ho hk) (ho.room hh).rm hf (fun σ => L2N.passAt ho.tk σ) ha ?_ (ns _ _) hpl) (callv_rd ho)
  cases fe <;> first
    | exact HotZ.eval_sub_call _ _ _ _ _ _ _
    | (cases hs; done)
/-- isinstance of the exception in hand -/
theorem se_isx (ho : XOk g n Wx c X) {a b : Expr} {t : Bool} {p pos : Pos} (h : cGlo c "isinstance" = some .blt) (hi : isxOf c a b = some t) : SE g n Wx X (.Call (.Name "isinstance" p) [a, b] [] pos) (.isx t) := by
  obtain ⟨h1, h2, h3, h4⟩ := cGlo_ok h
  have m1 : X.mg "isinstance" = none := by rw [ho.hmg]; exact ho.ge.blt _ h2
  unfold isxOf at hi
  split at hi
  · rename_i nm j0 k x j e1 e2 e3
    split at hi
    · rename_i hc
      obtain ⟨rfl, hblk, hk9⟩ := hc
      cases hi
      cases a <;> first
        | (cases e2; done)
        | skip
      cases e2
      cases b <;> first
        | (cases e3; done)
        | skip
      rename_i ap yb bp
      have e3 : cGlo c yb = some (.exc j) := e3
      obtain ⟨g1, g2, g3, g4⟩ := cGlo_ok e3
      obtain ⟨hx1, hx2, _⟩ := ho.ge.exc _ _ g2
      obtain ⟨ad, q1, q2, q3, q4, ⟨y, q5⟩, q6⟩ := ho.isx hblk _ _ _ hk9 e1
      have kit := (ho.ge.kit y yb k j q5 g2).1
      obtain ⟨b1, b2, _⟩ := badN_ok (by rw [q4]; simp)
      refine PE.imp (pe_callB q6 (ho.gl h1) m1 (by decide +kernel) (pa_cons (pe_var (i := j0) (by rw [ho.hN]; exact q2) (by rw [ho.hsc]; exact q3) b1 b2) (pa_cons (pe_glob (v := .ref (g.ca j)) (ho.gl g1) (by rw [ho.hmg]; exact hx1) rfl g3) pa_nil rfl) rfl) h4 h3 rfl rfl) fun σ H Q q => ?_
      obtain ⟨w, Fr, ρ, S, hs, he, hp⟩ := q
      refine ⟨.ref ad, he.ex _ _ q1, .ref (g.ca j), .ref (g.ca j), subC k j, rfl, fun u r => by cases r; rfl, by rw [ho.hK]; exact kit, Post.ok hp hs (.bl _)⟩
    · cases hi
  · cases hi
/-- list(range(..)), tuple(range(..)) -/
theorem prg_of (ho : XOk g n Wx c X) {k : Nat} {e : Expr} {lo hi : ME} (ih : ∀ e m, cE k c e = some m → SE g n Wx X e m) (h : cRng (cE k c) c e = some (lo, hi)) : NoStar e ∧ PRg X e (fun σ H Q => ∃ w Fr ρ S, StOk g w Fr H S ∧ EnvOk g w ρ σ ∧ Post g Wx (fun _ (p q : D × D) => q = p) w Fr σ ((ev (callF g.T n) lo ρ S).bind fun x S1 => (ev (callF g.T n) hi ρ S1).bind fun y S2 => .ok (x, y) S2) fun p H' => ∃ i j, p = (.int i, .int j) ∧ Q i j H') := by
  unfold cRng at h
  split at h
  · rename_i x p args pos
    refine ⟨fun es env => rfl, ?_⟩
    split at h
    · rename_i hx
      subst hx
      split at h
      · rename_i hg
        obtain ⟨h1, h2, h3, h4⟩ := cGlo_ok hg
        have m1 : X.mg "range" = none := by rw [ho.hmg]; exact ho.ge.blt _ h2
        split at h
        · rename_i a
          obtain ⟨m, e1, e2⟩ := map_some h
          cases e2
          have hp := prg_1 (p := p) (pos := pos) (ho.gl h1) m1 (ih _ _ e1) (noStar_of e1 _ _)
          intro pins s σ H Q I q
          refine hp pins s σ H Q I ?_
          obtain ⟨w, Fr, ρ, S, hs, he, hq⟩ := q
          refine ⟨w, Fr, ρ, S, hs, he, Post.bind (Q2 := fun p H' => ∃ i j, p = (.int i, .int j) ∧ Q i j H') (rep2 := fun _ (p q : D × D) => q = p) (f := fun y S2 => .ok (.int 0, y) S2) hq fun y S1 w1 H1 vy l1 hs1 ry hp1 => ?_⟩
          obtain ⟨i, j, ee, hq⟩ := hp1 w1 H1 _ (Wd.le.refl _) hs1 rfl
          cases ee
          cases ry
          exact ⟨j, rfl, hq⟩
        · rename_i a b
          split at h
          · rename_i ma mb e1 e2
            cases h
            have hp := prg_2 (p := p) (pos := pos) (ho.gl h1) m1 (ih _ _ e1) (ih _ _ e2) (noStar_of e1 _ _) (noStar_of e2 _ _) (by rw [noStar_of e2]; rfl)
            intro pins s σ H Q I q
            refine hp pins s σ H Q I ?_
            obtain ⟨w, Fr, ρ, S, hs, he, hq⟩ := q
            refine ⟨w, Fr, ρ, S, hs, he, Post.bind hq fun x S1 w1 H1 vx l1 hs1 rx hp1 => ?_⟩
            refine ⟨w1, Fr, ρ, S1, hs1, he.mono l1, Post.bind hp1 fun y S2 w2 H2 vy l2 hs2 ry hp2 => ?_⟩
            obtain ⟨i, j, ee, hq⟩ := hp2 w2 H2 _ (Wd.le.refl _) hs2 rfl
            cases ee
            cases rx
            cases ry
            exact ⟨i, j, rfl, rfl, hq⟩
          · cases h
        · cases h
      · cases h
    · cases h
  · cases h
theorem rgV_reps {w : Wd} (i : Int) : ∀ k : Nat, Rgs g w ((List.range k).map fun (j : Nat) => D.int (i + j)) ((List.range k).map fun j => V.int (i + (j : Nat)))
  | k => by
    have gen : ∀ l : List Nat, Rgs g w (l.map fun (j : Nat) => D.int (i + j)) (l.map fun (j : Nat) => V.int (i + (j : Nat))) := fun l => by
      induction l with
      | nil => exact .nil
      | cons a r ih => exact .cons (.int _) ih
    exact gen _
theorem rngItems_some {i j : Int} {xs : List D} (h : rngItems i j = some xs) : (-(2 ^ 62) < i ∧ i < 2 ^ 62 ∧ -(2 ^ 62) < j ∧ j < 2 ^ 62) ∧ xs = (List.range (j - i).toNat).map fun (k : Nat) => D.int (i + k) := by
  unfold rngItems at h
  split at h
  · rename_i q
    have q1 := ltN_ok q.1
    have q2 := ltN_ok q.2
    have e : B62 = 2 ^ 62 := by decide
    rw [e] at q1 q2
    cases h
    exact ⟨⟨by omega, by omega, by omega, by omega⟩, rfl⟩
  · cases h
theorem se_lrg (ho : XOk g n Wx c X) (hh : c.hot = false) {k : Nat} {x : Str} {p pos : Pos} {e : Expr} {lo hi : ME} (hx : x = ("list" : Str) ∨ x = ("tuple" : Str)) (h : cGlo c x = some .blt) (ih : ∀ e m, cE k c e = some m → SE g n Wx X e m) (hr : cRng (cE k c) c e = some (lo, hi)) :
    SE g n Wx X (.Call (.Name x p) [e] [] pos) (.lrg (x == ("tuple" : Str)) lo hi) := by
  obtain ⟨h1, h2, h3, h4⟩ := cGlo_ok h
  have m1 : X.mg x = none := by rw [ho.hmg]; exact ho.ge.blt _ h2
  obtain ⟨ns, pr⟩ := prg_of ho ih hr
  have key : ∀ {tup : Bool} {σ : L2.St} {H : Hp} {Q : VK}, tE g (callF g.T n) Wx (.lrg tup lo hi) σ H Q → ∃ w Fr ρ S, StOk g w Fr H S ∧ EnvOk g w ρ σ ∧ Post g Wx (fun _ (p q : D × D) => q = p) w Fr σ ((ev (callF g.T n) lo ρ S).bind fun x S1 => (ev (callF g.T n) hi ρ S1).bind fun y S2 => .ok (x, y) S2) fun p H' => ∃ i j, p = (.int i, .int j) ∧
      (RgOk i j ∧ ∀ q, H' q = none → Q (.ref q) (upd H' q (if tup = true then .tup (rgV i j) else .lst (rgV i j)))) := fun {tup σ H Q} q => by
    obtain ⟨w, Fr, ρ, S, hs, he, hp⟩ := q
    refine ⟨w, Fr, ρ, S, hs, he, ?_⟩
    have hp : Post g Wx (Rg g) w Fr σ ((ev (callF g.T n) lo ρ S).bind fun x S1 => (ev (callF g.T n) hi ρ S1).bind fun y S2 => ofOpt S2 (rngV tup x y)) Q := hp
    have e : ((ev (callF g.T n) lo ρ S).bind fun x S1 => (ev (callF g.T n) hi ρ S1).bind fun y S2 => ofOpt S2 (rngV tup x y)) = (((ev (callF g.T n) lo ρ S).bind fun x S1 => (ev (callF g.T n) hi ρ S1).bind fun y S2 => .ok (x, y) S2).bind fun p S2 => ofOpt S2 (rngV tup p.1 p.2)) := by
      cases ev (callF g.T n) lo ρ S with
      | ok a S1 => simp only [R.bind]; cases ev (callF g.T n) hi ρ S1 <;> rfl
      | exc _ _ => rfl
      | bad => rfl
    rw [e] at hp
    refine Post.bind hp fun p0 S1 w1 H1 q l1 hs1 rx hp1 => ?_
    obtain ⟨a, b⟩ := p0
    subst rx
    obtain ⟨d, e2, hq⟩ := post_opt hp1
    cases a <;> first
      | (cases e2; done)
      | (cases b <;> first
          | (cases e2; done)
          | (rename_i i j
             simp only [rngV] at e2
             split at e2
             · rename_i xs hxs
               split at e2
               · rename_i hl
                 cases e2
                 obtain ⟨⟨b1, b2, b3, b4⟩, rfl⟩ := rngItems_some hxs
                 rw [List.length_map, List.length_range] at hl
                 have lim : LIM = 1000000 := rfl
                 refine ⟨i, j, rfl, ⟨by omega, by omega, by omega, by omega, by omega⟩, fun q nq => ?_⟩
                 cases tup with
                 | true =>
                   obtain ⟨s2, le⟩ := hs1.data (o := .tup (rgV i j)) nq
                   exact hq _ _ _ le s2 (.tup (.of upd_same) (rgV_reps i _))
                 | false =>
                   obtain ⟨s2, le⟩ := hs1.data (o := .lst (rgV i j)) nq
                   exact hq _ _ _ le s2 (.lst upd_same (rgV_reps i _))
               · cases e2
             · cases e2))
  rcases hx with rfl | rfl
  · refine PE.imp (pe_listRg (ho.calm hh) (ho.gl h1) m1 pr (ns _ _)) fun σ H Q q => ?_
    exact key (tup := false) q
  · refine PE.imp (pe_tupRg (ho.calm hh) (ho.gl h1) m1 pr (ns _ _)) fun σ H Q q => ?_
    exact key (tup := true) q
end
end Mn
end
section
set_option Elab.async false
set_option linter.all false
set_option maxRecDepth 100000
set_option maxHeartbeats 3200000
/-! SetG: sets of whole numbers or of texts that are made of a list. -/
namespace HotZ
open PySem PySem.Spec PyProof.Rows L2
/-- what may be a member -/
structure Mb (P : Program) (w : World) (κ : Type) [DecidableEq κ] where
  kd : PySem.KeyKind P w κ
  put : κ → Tok → Value
  key : Value → κ
  key_put : ∀ k u, key (put k u) = k
  is_put : ∀ k j u, kd.is k (put j u) = true ↔ j = k
  scan : ∀ k u, (put k u).scannable = true
section
variable {P : Program} {w : World} {κ : Type} [DecidableEq κ] (M : Mb P w κ)
def GoodM (z : Int × Value) : Prop := ∃ j u, z.2 = M.put j u ∧ z.1 = M.kd.hash j
/-- the set at a: S tells its members, n their number -/
def SetM (h : Heap) (a : Addr) (S : κ → Bool) (n : Nat) : Prop :=
  ∃ ob zs ep tb, h.get? a = some ob ∧ ob.ExactSet ∧ ob.data = .set zs ep tb ∧ (∀ z ∈ zs.toList, GoodM M z) ∧ (zs.toList.map fun z => M.key z.2).Nodup ∧ (∀ k, S k = true ↔ k ∈ zs.toList.map fun z => M.key z.2) ∧
    zs.size < scanBound ∧ tb.fits zs.size = true ∧ zs.size = n ∧ Ris tb.place.toList ∧ (w.params.followText "set-order" = true ∨ tb.led = true)
variable {M} {h h' : Heap} {a : Addr} {S : κ → Bool} {n : Nat}
theorem SetM.move (R : SetM M h a S n) (k : ∀ ob, h.get? a = some ob → h'.get? a = some ob) : SetM M h' a S n := by
  obtain ⟨ob, zs, ep, tb, g, r⟩ := R
  exact ⟨ob, zs, ep, tb, k ob g, r⟩
theorem SetM.same {S' : κ → Bool} (R : SetM M h a S n) (e : ∀ k, S' k = S k) : SetM M h a S' n := by
  cases (funext e : S' = S)
  exact R
theorem goodM_els {l : List (Int × Value)} (g : ∀ z ∈ l, GoodM M z) : ElemsOf M.kd l := fun z hz => by
  obtain ⟨j, u, e1, e2⟩ := g z hz
  refine ⟨⟨j, by rw [e1]; exact (M.is_put j j u).mpr rfl, e2⟩, ?_⟩
  rw [e1]; exact M.scan j u
theorem goodM_is {z : Int × Value} (g : GoodM M z) (k : κ) : M.kd.is k z.2 = true ↔ M.key z.2 = k := by
  obtain ⟨j, u, e1, _⟩ := g
  rw [e1, M.key_put]
  exact M.is_put k j u
theorem goodM_mem {l : List (Int × Value)} (g : ∀ z ∈ l, GoodM M z) (k : κ) : (k ∈ l.map fun z => M.key z.2) ↔ ∃ z ∈ l, M.kd.is k z.2 = true := by
  constructor
  · intro q
    obtain ⟨z, hz, e⟩ := List.mem_map.mp q
    exact ⟨z, hz, (goodM_is (g z hz) k).mpr e⟩
  · rintro ⟨z, hz, e⟩
    exact List.mem_map.mpr ⟨z, hz, (goodM_is (g z hz) k).mp e⟩
end
section
variable {P : Program} {w : World} {κ : Type} [DecidableEq κ] {M : Mb P w κ} {A : Around} {E : Value → Shared → Prop} {s : Shared} {a : Addr} {S : κ → Bool} {n : Nat}
theorem setM_tail {gv : Bool → Sem Unit} (hgv : ∀ (b : Bool) (s' : Shared) (Q' : Unit → Shared → Prop), Q' () s' → wpAny (model P w) A (gv b) Q' E s')
    {ob : Obj} {zs : Array (Int × Value)} {ep : Nat} {tb : SetTable} (g : s.heap.get? a = some ob) (ex : ob.ExactSet) (dt : ob.data = .set zs ep tb)
    {zs1 : Array (Int × Value)} {tb2 : SetTable} {S' : κ → Bool} (gd : ∀ z ∈ zs1.toList, GoodM M z) (nod : (zs1.toList.map fun z => M.key z.2).Nodup) (mem : ∀ k, S' k = true ↔ k ∈ zs1.toList.map fun z => M.key z.2)
    (bd : zs1.size < scanBound) (ft : tb2.fits zs1.size = true) (rs : Ris tb2.place.toList) (ld : w.params.followText "set-order" = true ∨ tb2.led = true) {wd : Bool} {R : Option Bool → Shared → Prop}
    (hR : ∀ h', Heap.SameBut a s.heap h' → SetM M h' a S' zs1.size → R (some true) { s with heap := h' }) :
    wpAny (model P w) A (do
        storeSet a zs1 tb2
        if (!wd && tb2.tooFull) = true then do
            gv (relayAll tb2 zs1 (SetTable.grown zs1.size)).2.2
            storeSet a (relayAll tb2 zs1 (SetTable.grown zs1.size)).1 (relayAll tb2 zs1 (SetTable.grown zs1.size)).2.1
            pure (some true)
          else pure (some true)) R E s := by
  refine wpAny_bind (wpAny_storeSet_of g dt ?_ (fits_of_scanBound bd))
  have g1 := store_at (es' := zs1) (t' := tb2) g dt
  have same1 := Heap.SameBut.update s.heap a (Obj.putSet zs1 tb2)
  split
  · have pm := relayAll_perm tb2 zs1 (SetTable.grown zs1.size)
    have ft3 := relayAll_fits tb2 zs1 (SetTable.grown zs1.size)
    have rs3 := relayAll_ris tb2 zs1 (SetTable.grown zs1.size)
    have ld3 := relayAll_led tb2 zs1 (SetTable.grown zs1.size)
    generalize relayAll tb2 zs1 (SetTable.grown zs1.size) = Y at pm ft3 rs3 ld3 ⊢
    obtain ⟨zs2, tb3, gave⟩ := Y
    dsimp only at pm ft3 rs3 ld3 ⊢
    have sz : zs2.size = zs1.size := by rw [← Array.length_toList, pm.length_eq, Array.length_toList]
    have bd2 : zs2.size < scanBound := by rw [sz]; exact bd
    refine wpAny_bind (hgv _ _ _ (wpAny_bind (wpAny_storeSet_of g1 rfl ?_ (fits_of_scanBound bd2))))
    have g2 := store_at (es' := zs2) (t' := tb3) g1 rfl
    have pk : (zs2.toList.map fun z => M.key z.2).Perm (zs1.toList.map fun z => M.key z.2) := pm.map _
    refine wpAny_pure (hR _ (same1.trans (Heap.SameBut.update _ a _)) ⟨_, zs2, _, tb3, g2, ex, rfl, fun z hz => gd z (pm.mem_iff.mp hz), pk.nodup_iff.mpr nod, fun k => (mem k).trans pk.mem_iff.symm, bd2, ft3, sz, rs3, ?_⟩)
    rcases ld with q | q
    · exact .inl q
    · exact .inr (by rw [ld3]; exact q)
  · exact wpAny_pure (hR _ same1 ⟨_, zs1, _, tb2, g1, ex, rfl, gd, nod, mem, bd, ft, rfl, rs, ld⟩)
theorem setM_hashed {k : κ} {u : Tok} {Q : Bool → Shared → Prop} (R : SetM M s.heap a S n) (room : n + 1 < scanBound)
    (hQ : ∀ h', Heap.SameBut a s.heap h' → SetM M h' a (fun j => S j || decide (j = k)) (if S k = true then n else n + 1) → Q (!S k) { s with heap := h' }) :
    wpAny (model P w) A (setAddHashed a (M.put k u) (M.kd.hash k)) Q E s := by
  obtain ⟨ob, zs, ep, tb, g, ex, dt, gd, nod, mem, bd, ft, sz, rs, ld⟩ := R
  have kk : M.kd.is k (M.put k u) = true := (M.is_put k k u).mpr rfl
  have sc := M.scan k u
  have els : ElemsOf M.kd zs.toList := goodM_els gd
  unfold setAddHashed setAddHashedIn
  refine wpAny_holding (wpAny_bind (wpAny_setState_of g dt ft ?_))
  dsimp only
  rw [byScan_of sc bd els]
  simp only [↓reduceIte]
  unfold setAddByScan
  refine wpAny_bind (wpAny_bind (wpAny_rule (wpAny_bind (wpAny_setScan_of kk g dt ft els ?_))))
  cases fi : List.findIdx? (fun z => M.kd.is k z.2) zs.toList with
  | some j =>
    dsimp only
    obtain ⟨hj, pj, _⟩ := List.findIdx?_eq_some_iff_getElem.mp fi
    have Sk : S k = true := (mem k).mpr ((goodM_mem gd k).mpr ⟨zs.toList[j], List.getElem_mem hj, pj⟩)
    have q := hQ s.heap (Heap.SameBut.refl a s.heap) ⟨ob, zs, ep, tb, g, ex, dt, gd, nod, fun i => by
      rw [Bool.or_eq_true, decide_eq_true_eq, ← mem i]
      exact ⟨fun z => z.elim id (fun e => e ▸ Sk), .inl⟩, bd, ft, by rw [if_pos Sk]; exact sz, rs, ld⟩
    rw [Sk] at q
    exact wpAny_pure (wpAny_pure q)
  | none =>
    dsimp only
    have nk : k ∉ zs.toList.map fun z => M.key z.2 := fun q => by
      obtain ⟨z, hz, e⟩ := (goodM_mem gd k).mp q
      have c := List.findIdx?_eq_none_iff.mp fi z hz
      rw [e] at c
      cases c
    have Sk : S k = false := by
      cases q : S k with
      | false => rfl
      | true => exact absurd ((mem k).mp q) nk
    have gw : ∀ (b : Bool) {s' : Shared} {Q' : Unit → Shared → Prop}, Q' () s' → wpAny (model P w) A (match b with | true => rule "set.scan.the-table-gave-way" | false => pure ()) Q' E s' :=
      fun b s' Q' q => by cases b <;> first | exact wpAny_pure q | exact wpAny_rule q
    have pm := layNew_perm tb zs (M.kd.hash k) (M.put k u)
    have ft1 := layNew_fits tb zs (M.kd.hash k) (M.put k u)
    have rs1 := layNew_ris tb zs (M.kd.hash k) (M.put k u) rs
    have ld1 := layNew_led tb zs (M.kd.hash k) (M.put k u)
    generalize layNew tb zs (M.kd.hash k) (M.put k u) = Y at pm ft1 rs1 ld1 ⊢
    obtain ⟨zs1, tb1, wd, gave⟩ := Y
    dsimp only at pm ft1 rs1 ld1 ⊢
    rw [Array.toList_push] at pm
    have pc : zs1.toList.Perm ((M.kd.hash k, M.put k u) :: zs.toList) := pm.trans (List.perm_append_singleton _ _)
    have pk : (zs1.toList.map fun z => M.key z.2).Perm (k :: zs.toList.map fun z => M.key z.2) := by
      have q := pc.map fun z : Int × Value => M.key z.2
      rw [List.map_cons, M.key_put] at q
      exact q
    have gd1 : ∀ z ∈ zs1.toList, GoodM M z := fun z hz => by
      rcases List.mem_cons.mp (pc.mem_iff.mp hz) with q | q
      · rw [q]; exact ⟨k, u, rfl, rfl⟩
      · exact gd z q
    have nod1 := pk.nodup_iff.mpr (List.nodup_cons.mpr ⟨nk, nod⟩)
    have mem1 : ∀ i, (S i || decide (i = k)) = true ↔ i ∈ zs1.toList.map fun z => M.key z.2 := fun i => by
      rw [Bool.or_eq_true, decide_eq_true_eq, mem i, pk.mem_iff, List.mem_cons]
      exact Or.comm
    have sz1 : zs1.size = n + 1 := by rw [← Array.length_toList, pc.length_eq, List.length_cons, Array.length_toList, sz]
    have bd1 : zs1.size < scanBound := by rw [sz1]; exact room
    have led1 : w.params.followText "set-order" = true ∨ tb1.led = true := by
      rcases ld with q | q
      · exact .inl q
      · exact .inr (by rw [ld1]; exact q)
    have fin : ∀ h', Heap.SameBut a s.heap h' → SetM M h' a (fun j => S j || decide (j = k)) zs1.size → Q true { s with heap := h' } := fun h' sb r => by
      have q := hQ h' sb
      rw [Sk] at q
      rw [sz1] at r
      exact q r
    refine wpAny_bind (gw _ ?_)
    split
    · refine wpAny_bind ?_
      rw [hashByValue_scannable 8 sc]
      refine wpAny_pure ?_
      refine setM_tail ?_ g ex dt gd1 nod1 mem1 bd1 ?_ ?_ ?_ ?_
      · intro b s' Q' q; cases b <;> first | exact wpAny_pure q | exact wpAny_rule q
      · first | (split <;> first | exact ft1 | exact SetTable.fits_plain_off ft1) | exact ft1
      · first | (split <;> exact rs1) | exact rs1
      · first | (split <;> exact led1) | exact led1
      · intro h' sb r; dsimp only; exact wpAny_pure (fin h' sb r)
    · refine wpAny_bind (wpAny_pure ?_)
      simp only [↓reduceIte]
      refine setM_tail ?_ g ex dt gd1 nod1 mem1 bd1 ft1 rs1 led1 ?_
      · intro b s' Q' q; cases b <;> first | exact wpAny_pure q | exact wpAny_rule q
      · intro h' sb r; dsimp only; exact wpAny_pure (fin h' sb r)
/-- of the first i -/
def inTake (xs : List κ) (i : Nat) (k : κ) : Bool := decide (k ∈ xs.take i)
/-- how many unlike ones among the first i -/
def few (xs : List κ) : Nat → Nat
  | 0 => 0
  | i + 1 => match xs[i]? with
    | some x => if x ∈ xs.take i then few xs i else few xs i + 1
    | none => few xs i
theorem few_le (xs : List κ) : ∀ i, few xs i ≤ i
  | 0 => Nat.le_refl 0
  | i + 1 => by
    have := few_le xs i
    unfold few
    split
    · split <;> omega
    · omega
/-- an empty set's object -/
abbrev nwS (w : World) : Obj := { cls := .type "set", dict := none, data := .set #[] 0 (.fresh 0 0 (!w.params.followText "set-order")) }
theorem setM_new {h : Heap} {xs : List κ} (g : h.get? a = some { cls := .type "set", dict := none, data := .set #[] 0 (.fresh 0 0 (!w.params.followText "set-order")) }) : SetM M h a (inTake xs 0) 0 := by
  refine ⟨_, #[], 0, _, g, ⟨rfl, rfl, rfl⟩, rfl, fun z hz => by simp at hz, by simp, fun k => by simp [inTake], by decide, by rfl, rfl, List.Pairwise.nil, ?_⟩
  show _ ∨ (!w.params.followText "set-order") = true
  cases w.params.followText "set-order"
  · exact .inr rfl
  · exact .inl rfl
theorem upd_loop {I : Addr} {fp wr : List Addr} {G : Array GenState → Array GenState → Prop} {m : Nat} {Pv : Nat → Value → Prop} {St : Nat → Shared → Prop} {R : Result → Shared → Prop}
    (W : WalksS P w A.in1 I fp wr G m Pv St) (D : Addr) (hD : D ∉ fp) (xs : List κ) (hm : m = xs.length) (room : xs.length + 1 < scanBound) (val : ∀ i v, Pv i v → ∃ k u, xs[i]? = some k ∧ v = M.put k u) :
    ∀ (left i : Nat) (s : Shared), m - i = left → i ≤ m → St i s → SetM M s.heap D (inTake xs i) (few xs i) →
      (∀ s', Moved (D :: wr) G s s' → SetM M s'.heap D (inTake xs m) (few xs m) → R (.ok (.ret .none)) s') →
      codeAny (model P w) A (.builtin "set.update.loop" ⟨[.ref D, .ref I], []⟩) R s := by
  have hDw : D ∉ wr := fun z => hD (W.sub _ z)
  have sub : ∀ b ∈ wr, b ∈ D :: wr := fun b hb => List.mem_cons_of_mem _ hb
  intro left
  induction left with
  | zero =>
    intro i s hl hi st RS hR
    obtain rfl : i = m := by omega
    refine codeAny_builtin F.entry_set_update_loop ?_
    rw [Around.under_plainId F.plain_set_update_loop _]
    show wpAny _ A.in1 (pyNext (.ref I) >>= _) _ _ s
    refine wpAny_bind (W.done s _ _ st fun s' mv => ?_)
    show wpAny _ A.in1 (ret Value.none) _ _ s'
    exact wpAny_pure (hR s' (mv.mono sub) (RS.move fun o e => mv.heap D o hDw e))
  | succ left ih =>
    intro i s hl hi st RS hR
    have lt : i < m := by omega
    refine codeAny_builtin F.entry_set_update_loop ?_
    rw [Around.under_plainId F.plain_set_update_loop _]
    show wpAny _ A.in1 (pyNext (.ref I) >>= _) _ _ s
    refine wpAny_bind (W.item i s _ _ lt st fun v s' hP st' mv => ?_)
    obtain ⟨x, u, hx, rfl⟩ := val i v hP
    have RS' : SetM M s'.heap D (inTake xs i) (few xs i) := RS.move fun o e => mv.heap D o hDw e
    show wpAny _ A.in1 (holding [M.put x u] (setAdd D (M.put x u)) >>= _) _ _ s'
    refine wpAny_bind (wpAny_holding ?_)
    unfold setAdd
    refine wpAny_holding (wpAny_bind (M.kd.pyHash (k := x) ((M.is_put x x u).mpr rfl) ?_))
    have fl := few_le xs i
    refine setM_hashed (s := { s' with toks := s'.toks + 1 }) RS' (by omega) fun h' sb RS2 => ?_
    have RS3 : SetM M h' D (inTake xs (i + 1)) (few xs (i + 1)) := by
      have e : few xs (i + 1) = if inTake xs i x = true then few xs i else few xs i + 1 := by
        show (match xs[i]? with | some x => if x ∈ xs.take i then few xs i else few xs i + 1 | none => few xs i) = _
        rw [hx]
        unfold inTake
        simp only [decide_eq_true_eq]
      rw [e]
      refine RS2.same fun j => ?_
      unfold inTake
      rw [List.take_add_one, hx]
      simp [List.mem_append]
    refine wpAny_pure ⟨plainId_quiet F.plain_set_update_loop _, ih (i + 1) _ (by omega) lt (W.frame _ s' _ _ st' (Nat.le_succ _) fun b hb o e => ?_) RS3 fun s2 mv2 RS4 => ?_⟩
    · rw [sb.2 b (fun z : b = D => hD (by rw [← z]; exact hb))]; exact e
    · refine hR s2 (Moved.trans W.gtrans ((mv.mono sub).then_heap (Nat.le_succ _) fun b o hb e => ?_) mv2) RS4
      rw [sb.2 b (fun z : b = D => hb (by rw [z]; exact List.mem_cons_self))]; exact e
set_option hygiene false in
theorem call_setM {l : Addr} {its : Array Value} (xs : List κ) {Q : Value → Shared → Prop} (hh : A.handled = none) (hl : s.heap.IsList l its) (sz : its.size = xs.length) (val : ∀ (i : Nat) (v : Value), its[i]? = some v → ∃ k u, xs[i]? = some k ∧ v = M.put k u) (room : xs.length + 1 < scanBound)
    (h : ∀ (h' : Heap) (tk : Nat), SetM M h' s.heap.objs.size (inTake xs xs.length) (few xs xs.length) → (∀ b o, s.heap.get? b = some o → h'.get? b = some o) → Q (.ref s.heap.objs.size) { s with heap := h', toks := tk }) :
    wpAny (model P w) A (call (.type "set") [.ref l]) Q E s := by
  obtain ⟨c, tl, hmro⟩ := F.called_set.mro
  have hmade := F.called_set.made
  have hsub := F.called_set.sub
  refine wpAny_call (codeAny_of_tree ?_)
  show wpAny _ _ (callAny (.type "set") _) _ _ _
  refine wpAny_pure ⟨Code.quiet_builtin _ (by decide +kernel), codeAny_builtin F.entry_type_call ?_⟩
  rw [Around.under_plain (weight_type_call_type "set" [.ref l] []) rfl]
  have h1 := F.called_set.notType
  have h2 := F.called_set.canCreate
  have hct := F.typeCall_set_1 (.ref l)
  repeat (any_goals (first | assumption | wp_step))
  refine codeAny_mono (code_set_led1 (.ref l) (E := E) (Q₁ := fun ob s1 => ob = .ref s.heap.objs.size ∧ s1 = { s with heap := s.heap.push (nwS w) }) ⟨rfl, rfl⟩) fun r s1 hr => ?_
  cases r with
  | error e => exact hr
  | ok fl =>
    cases fl with
    | ret ob =>
      obtain ⟨rfl, rfl⟩ := hr
      have hS : (s.heap.push (nwS w)).get? s.heap.objs.size = some (nwS w) := Heap.get?_push_size _ rfl
      have hT : Shared.TypeIs { s with heap := s.heap.push (nwS w) } (.ref s.heap.objs.size) "set" := ⟨_, hS, rfl⟩
      have hli := F.called_set.init.lookup
      have hbi := F.called_set.init.bind (.ref s.heap.objs.size)
      repeat (any_goals (first | assumption | wp_step))
      refine codeAny_mono (codeAny_call_builtin (R := wants (fun r s2 => r = .none ∧ ∃ h' tk, s2 = { s with heap := h', toks := tk } ∧ SetM M h' s.heap.objs.size (inTake xs xs.length) (few xs xs.length) ∧
          (∀ b o, s.heap.get? b = some o → h'.get? b = some o)) E) F.called_set.init.plain F.entry_set_init (check_set_init_1 hT ?_)) fun r2 s2 hr2 => ?_
      · obtain ⟨ol, hol, hcl, nl, hdl⟩ := hl
        obtain ⟨ocls, odict, odata, oslots⟩ := ol
        simp only at hcl hdl
        subst hcl; subst hdl
        have hol' : (s.heap.push (nwS w)).get? l = some { cls := .type "list", dict := odict, data := .seq its nl, slots := oslots } := Heap.get?_push_of_some _ hol
        have hsls := F.sub_list_set
        have hslf := F.sub_list_frozenset
        have hne : (Value.type "list" == Value.type "dict") = false := by decide
        have hl1 : (s.heap.push (nwS w)).IsList l its := ⟨_, hol', rfl, nl, rfl⟩
        unfold Builtin.«set.__init__» noKeywords Builtin.Frozenset.updateFrom
        generalize hPI : pyIter = PI
        wp_walk
        subst hPI
        refine wpAny_pyIter_list hl1 ?_; refine wpAny_bind (wpAny_runValue ?_)
        have lS : l < s.heap.objs.size := Heap.lt_size hol
        have hh3 : A.in1.in1.in1.handled = none := by simp [hh]
        have neI : l ≠ (s.heap.push (nwS w)).objs.size := by
          rw [Heap.size_push]; exact Nat.ne_of_lt (Nat.lt_succ_of_lt lS)
        have nf : s.heap.objs.size ∉ [(s.heap.push (nwS w)).objs.size, l] := by
          rw [Heap.size_push]
          simp only [List.mem_cons, List.mem_singleton, List.not_mem_nil, or_false, not_or]
          exact ⟨Nat.ne_of_lt (Nat.lt_succ_self _), Nat.ne_of_gt lS⟩
        refine upd_loop (M := M) ((Walks.list hh3 _ l neI its).toS) s.heap.objs.size nf xs sz room val (its.size - 0) 0 _ (by omega) (Nat.zero_le _) ⟨⟨_, Heap.get?_push_size _ rfl, rfl, rfl⟩, (hl1.push _)⟩ ?_ ?_
        · have hget : ((s.heap.push (nwS w)).push { cls := .type "list_iterator", data := .fields #[.ref l, .int 0 0] }).get? s.heap.objs.size = some (nwS w) := Heap.get?_push_of_some _ hS
          exact setM_new hget
        · intro s' mv RS
          obtain ⟨h', g2, d', tk', os'⟩ := s'
          have eg : g2 = s.gens := mv.gens
          have ed : d' = s.drawn := mv.drawn
          have eo : os' = s.os := mv.os
          subst eg; subst ed; subst eo
          show wpAny _ _ _ _ _ _
          refine wpAny_pure ?_
          show wpAny _ _ (ret Value.none) _ _ _
          rw [sz] at RS
          refine wpAny_pure ⟨rfl, h', tk', rfl, RS, fun b o e => ?_⟩
          have b0 : b < s.heap.objs.size := Heap.lt_size e
          have b2 : b ≠ (s.heap.push (nwS w)).objs.size := by
            rw [Heap.size_push]; exact Nat.ne_of_lt (Nat.lt_succ_of_lt b0)
          refine mv.heap b o ?_ (Heap.get?_push_of_some _ (Heap.get?_push_of_some _ e))
          simp only [List.mem_cons, List.mem_singleton, List.not_mem_nil, or_false, not_or]
          exact ⟨Nat.ne_of_lt b0, b2⟩
      · cases r2 with
        | error e => exact hr2
        | ok fl2 =>
          cases fl2 with
          | ret r =>
            obtain ⟨rfl, h', tk, rfl, RS, hk'⟩ := hr2
            repeat (any_goals (first | assumption | wp_step))
            exact h _ _ RS hk'
          | _ => exact hr2.elim
    | _ => exact hr.elim
end
end HotZ
end
section
set_option Elab.async false
set_option linter.all false
set_option maxRecDepth 100000
set_option maxHeartbeats 3200000
/-! SetH: set(xs), sorted and len of it, as calls. -/
namespace HotZ
open PySem PySem.Spec PyProof.Rows L2
def mbI (P : Program) (w : World) : Mb P w Int where
  kd := intKind P w
  put := fun k u => .int k u
  key := fun v => match v with
    | .int k _ => k
    | _ => 0
  key_put := fun _ _ => rfl
  is_put := fun k j u => by
    show ((j == k) = true) ↔ j = k
    exact beq_iff_eq
  scan := fun _ _ => rfl
def mbX (P : Program) (w : World) : Mb P w PySem.Str where
  kd := PySem.strKind P w
  put := fun k u => .str k u
  key := fun v => match v with
    | .str k _ => k
    | _ => Str.empty
  key_put := fun _ _ => rfl
  is_put := fun k j u => by
    show ((j == k) = true) ↔ j = k
    exact beq_iff_eq
  scan := fun _ _ => rfl
/-- the set at a, as what the heap holds -/
def SetMO {P : Program} {w : World} {κ : Type} [DecidableEq κ] (M : Mb P w κ) (a : Addr) (S : κ → Bool) (n : Nat) : HO := .ext fun h => SetM M h a S n
section
variable {X : Cx} {κ : Type} [DecidableEq κ] {M : Mb X.prog X.w κ}
theorem setMO_new {H : Hp} {h : Heap} {a : Addr} {S : κ → Bool} {n : Nat} (R : SetM M h a S n) : ObjOk X.prog X.w H h a (SetMO M a S n) := by
  obtain ⟨ob, zs, ep, tb, g, r⟩ := id R
  exact ⟨R, ⟨ob, g⟩, fun h1 h2 p k => SetM.move p k⟩
theorem setMO_get {pins : List (Addr × Obj)} {σ : L2.St} {H : Hp} {s : Shared} {a : Addr} {S : κ → Bool} {n : Nat} (I : Inv X pins σ H s) (ha : H a = some (SetMO M a S n)) : SetM M s.heap a S n := (I.hok a _ ha).1
/-- set(xs), a list -/
def rSetM (K : PySem.W.Frag) {P : Program} {w : World} (M : Mb P w κ) (tv : κ → V) : List V → Hp → VK → Prop := fun vs H Q => ∃ (l : Addr) (xs : List κ), vs = [V.ref l] ∧ SqL K H l (xs.map tv) ∧ xs.length < 4000 ∧ ∀ p, H p = none → Q (.ref p) (upd H p (SetMO M p (inTake xs xs.length) (few xs xs.length)))
theorem vals_at {tv : κ → V} {rel : ∀ k v, RelV (tv k) v → ∃ u, v = M.put k u} : ∀ {xs : List κ} {us : List Value}, Vals (xs.map tv) us → ∀ (i : Nat) (v : Value), us[i]? = some v → ∃ k u, xs[i]? = some k ∧ v = M.put k u
  | [], _, .nil, i, v, e => by simp at e
  | x :: xs, _, .cons a r, 0, v, e => by
    simp only [List.getElem?_cons_zero, Option.some.injEq] at e
    subst e
    obtain ⟨u, e⟩ := rel _ _ a
    exact ⟨x, u, rfl, e⟩
  | x :: xs, _, .cons a r, i + 1, v, e => by
    simp only [List.getElem?_cons_succ] at e ⊢
    exact vals_at (rel := rel) r i v e
theorem cr_setM (hc : X.calm = true) {tv : κ → V} (rel : ∀ k v, RelV (tv k) v → ∃ u, v = M.put k u) : CallR X (.type "set") (rSetM X.K M tv) := by
  intro pins s σ H vs us Q I r h
  obtain ⟨l, xs, rfl, hl, few4, q⟩ := h
  rw [Vals.ref1 r]
  obtain ⟨its, rv, pl, hz⟩ := I.list hl
  have hlen := rv.length
  refine call_setM (M := M) xs (I.ok.hd hc) pl.isList (by rw [List.size_toArray, ← hlen, List.length_map]) (fun i v e => vals_at (rel := rel) rv i v (by simpa using e)) (by unfold scanBound; omega) fun h' tk R k => ?_
  exact ⟨.ref s.heap.objs.size, _, I.laid (t' := tk) k (Nat.le_refl _) (setMO_new R), rfl, q _ (I.hok.fresh (Nat.le_refl _))⟩
/-- its number of members -/
def rLenM {P : Program} {w : World} (M : Mb P w κ) : List V → Hp → VK → Prop := fun vs H Q => ∃ (a : Addr) (S : κ → Bool) (n : Nat), vs = [V.ref a] ∧ H a = some (SetMO M a S n) ∧ ∀ ks : List κ, ks.Nodup → (∀ k, k ∈ ks ↔ S k = true) → Q (.int ks.length) H
theorem cr_lenM : CallR X (.builtin "len") (rLenM M) := by
  intro pins s σ H vs us Q I r h
  obtain ⟨a, S, n, rfl, ha, q⟩ := h
  have R := setMO_get I ha
  rw [Vals.ref1 r]
  obtain ⟨ob, zs, ep, tb, g, ex, dt, gd, nod, mem, bd, ft, sz, rs, ld⟩ := R
  have q1 := q _ nod fun k => (mem k).symm
  rw [List.length_map, Array.length_toList] at q1
  unfold scanBound at bd
  refine call_len_set g ex dt ft (by omega) ⟨.int zs.size, H, (I.tok _), ⟨_, rfl⟩, q1⟩
end
section
variable {X : Cx}
/-- sorted of a set of whole numbers -/
def rSortedM {P : Program} {w : World} (M : Mb P w Int) : List V → Hp → VK → Prop := fun vs H Q => ∃ (a : Addr) (S : Int → Bool) (n : Nat), vs = [V.ref a] ∧ H a = some (SetMO M a S n) ∧ n < 64 ∧
  ∀ (ns : List Int) (p : Addr), ns.Pairwise (· < ·) → (∀ k : Int, k ∈ ns ↔ S k = true) → H p = none → Q (.ref p) (upd H p (.lst (ns.map V.int)))
theorem setM_int {P : Program} {w : World} {h : Heap} {a : Addr} {S : Int → Bool} {n : Nat} (R : SetM (mbI P w) h a S n) : SetR w h a S n := by
  obtain ⟨ob, zs, ep, tb, g, ex, dt, gd, nod, mem, bd, ft, sz, rs, ld⟩ := R
  exact ⟨ob, zs, ep, tb, g, ex, dt, gd, nod, mem, bd, ft, sz, rs, ld⟩
theorem cr_sortedM (hc : X.calm = true) : CallR X (.builtin "sorted") (rSortedM (mbI X.prog X.w)) := by
  intro pins s σ H vs us Q I r h
  obtain ⟨a, S, n, rfl, ha, h64, q⟩ := h
  have R := setM_int (setMO_get I ha)
  rw [Vals.ref1 r]
  refine sorted_set R (I.ok.hd hc) h64 fun s' p out c ns k g o hp hg hi hs hm hl => ?_
  have len : (ns.map V.int).length ≤ sizeLine := by rw [List.length_map, hl, sizeLine_eq]; omega
  have hn : H p = none := I.hok.fresh hp
  have e : s' = { s with heap := s'.heap, gens := s'.gens, drawn := s'.drawn, toks := s'.toks } := by cases s'; cases s; cases o; rfl
  rw [e]
  exact ⟨.ref p, upd H p (.lst (ns.map V.int)), I.call (ch := []) (Un.laid k hp hn) (I.hok.laid k hp ⟨len, out.toList, c, vals_of_ints hi, hg⟩) (by rw [g]; exact I.bare) (fun _ z => nomatch z), rfl, q ns p hs hm hn⟩
theorem strs_of : ∀ (l : List Value), (∀ v ∈ l, ∃ k u, v = Value.str k u) → StrsAre l (l.map fun v => match v with | .str k _ => k | _ => Str.empty)
  | [], _ => .nil
  | v :: l, h => by
    obtain ⟨k, u, rfl⟩ := h v List.mem_cons_self
    exact .cons k u (strs_of l fun z hz => h z (List.mem_cons_of_mem _ hz))
/-- sorted of a set of texts -/
def rSortedX {P : Program} {w : World} (M : Mb P w PySem.Str) : List V → Hp → VK → Prop := fun vs H Q => ∃ (a : Addr) (S : PySem.Str → Bool) (n : Nat), vs = [V.ref a] ∧ H a = some (SetMO M a S n) ∧
  ∀ (ss : List PySem.Str) (p : Addr), sortedS ss = true → ss.Nodup → (∀ k, k ∈ ss ↔ S k = true) → H p = none → Q (.ref p) (upd H p (.lst (ss.map V.str)))
theorem vals_of_strs : ∀ {us : List Value} {ss : List PySem.Str}, StrsAre us ss → Vals (ss.map V.str) us
  | _, _, .nil => .nil
  | _, _, .cons k u r => .cons ⟨u, rfl⟩ (vals_of_strs r)
theorem sorted_setX {P : Program} {w : World} {A : Around} {E : Value → Shared → Prop} {s : Shared} {a : Addr} {S : PySem.Str → Bool} {n : Nat} {Q : Value → Shared → Prop} (R : SetM (mbX P w) s.heap a S n) (hh : A.handled = none)
    (hQ : ∀ s' p (out : Array Value) (c : Nat) (ss : List PySem.Str), (∀ b o, s.heap.get? b = some o → s'.heap.get? b = some o) → s'.gens = s.gens → s'.os = s.os → s.heap.objs.size ≤ p →
      s'.heap.get? p = some (seqObj "list" out c) → StrsAre out.toList ss → sortedS ss = true → ss.Nodup → (∀ k, k ∈ ss ↔ S k = true) → ss.length = n → n < scanBound → Q (.ref p) s') :
    wpAny (model P w) A (call (.builtin "sorted") [.ref a]) Q E s := by
  obtain ⟨ob, zs, ep, tb, g, ex, dt, gd, nod, mem, bd, ft, sz, rs, ld⟩ := R
  refine Calls.call_function_entry kind_sorted plain_sorted entry_sorted (args_sorted1 _) ?_
  unfold Builtin.«sorted»
  refine wpAny_bind (m := checkCount "sorted" 1 1 _) (wpAny_pure ?_)
  refine wpAny_bind (collect_set (A := A.in1) hh ⟨ob, g, ex.1, dt⟩ ft bd rs ld fun s1 vs k1 hz g1 o1 pm => ?_)
  have vl : vs.length = n := by rw [pm.length_eq, List.length_map, Array.length_toList]; exact sz
  have vl2 : vs.length ≤ sizeLine := by
    unfold scanBound at bd
    rw [vl, sizeLine_eq]; omega
  have SA := strs_of vs fun v hv => by
    obtain ⟨z, hz, q⟩ := List.mem_map.mp (pm.mem_iff.mp hv)
    obtain ⟨j, u, e1, _⟩ := gd z hz
    exact ⟨j, u, by rw [← q]; exact e1⟩
  have pk : (vs.map fun v => match v with | .str k _ => k | _ => Str.empty).Perm (zs.toList.map fun z => (mbX P w).key z.2) := by
    have q := pm.map fun v : Value => match v with | .str k _ => k | _ => Str.empty
    rw [List.map_map] at q
    exact q
  refine wpAny_bind (wpAny_newList ?_ vl2)
  have hoL : (s1.heap.push (seqObj "list" vs.toArray 0)).get? s1.heap.objs.size = some (seqObj "list" vs.toArray 0) := Heap.get?_push_size _ rfl
  refine wpAny_bind (wpAny_holding (wpAny_call_entry slot_list_sort ⟨_, hoL, rfl⟩ entry_list_sort (list_sort_treeKAny strKind_oneLt hoL SA.keysOf (fun v₁ v₂ rest e => keyKind_strs (by rw [← e]; exact SA)) vl2 fun st' hp hs => ⟨_, rfl, ?_⟩) (args_list_sort _)))
  obtain ⟨ss, q1, q2, q3⟩ := sorted_out_str SA hp hs
  obtain ⟨c, hc⟩ := sortedHeap_at (vs := vs) (out := (arrOf st').map (·.2)) hoL
  have pn : ss.Perm (zs.toList.map fun z => (mbX P w).key z.2) := q2.trans pk
  refine wpAny_pure ⟨_, rfl, hQ _ s1.heap.objs.size ((arrOf st').map (·.2)) c ss (fun b u e => ?_) g1 o1 hz hc q1 q3 (pn.nodup_iff.mpr nod) (fun k => by rw [pn.mem_iff, ← mem k]) ?_ (by rw [← sz]; exact bd)⟩
  · have q := k1 b u e
    have lt := Heap.lt_size q
    show (sortedHeap (s1.heap.push (seqObj "list" vs.toArray 0)) s1.heap.objs.size vs ((arrOf st').map (·.2))).get? b = some u
    rw [sortedHeap_old (Nat.ne_of_lt lt) (by rw [size_push']; exact Nat.lt_succ_of_lt lt)]
    exact Heap.get?_push_of_some _ q
  · rw [pn.length_eq, List.length_map, Array.length_toList]; exact sz
theorem cr_sortedX (hc : X.calm = true) : CallR X (.builtin "sorted") (rSortedX (mbX X.prog X.w)) := by
  intro pins s σ H vs us Q I r h
  obtain ⟨a, S, n, rfl, ha, q⟩ := h
  have R := setMO_get I ha
  rw [Vals.ref1 r]
  refine sorted_setX R (I.ok.hd hc) fun s' p out c ss k g o hp hg hi hs nd hm hl hb => ?_
  unfold scanBound at hb
  have len : (ss.map V.str).length ≤ sizeLine := by rw [List.length_map, hl, sizeLine_eq]; omega
  have hn : H p = none := I.hok.fresh hp
  have e : s' = { s with heap := s'.heap, gens := s'.gens, drawn := s'.drawn, toks := s'.toks } := by cases s'; cases s; cases o; rfl
  rw [e]
  exact ⟨.ref p, upd H p (.lst (ss.map V.str)), I.call (ch := []) (Un.laid k hp hn) (I.hok.laid k hp ⟨len, out.toList, c, vals_of_strs hi, hg⟩) (by rw [g]; exact I.bare) (fun _ z => nomatch z), rfl, q ss p hs nd hm hn⟩
end
end HotZ
end
section
set_option Elab.async false
set_option linter.all false
set_option maxRecDepth 100000
set_option maxHeartbeats 2000000
/-! SortD: sorted(d) of a dict whose keys are tuples of whole numbers. -/
namespace HotZ
open PySem PySem.Spec PyProof.Rows L2
section
variable {X : Cx}
theorem isKeys_ints {H : Hp} {kvs : List (List Key × V)} {bs : List Addr} (r : IsKeys H kvs bs) : bs.length = kvs.length ∧ ∀ b ∈ bs, ∃ p ∈ kvs, H b = some (.tup (p.1.map kV)) := by
  unfold IsKeys at r
  induction r with
  | nil => exact ⟨rfl, fun b hb => nomatch hb⟩
  | cons h t ih =>
    refine ⟨by rw [List.length_cons, List.length_cons, ih.1], fun b hb => ?_⟩
    rcases List.mem_cons.mp hb with rfl | hb
    · exact ⟨_, List.mem_cons_self, h⟩
    · obtain ⟨p, hp, e⟩ := ih.2 b hb
      exact ⟨p, List.mem_cons_of_mem _ hp, e⟩
theorem call_sortedDT {n : Nat} {B : Int} (hn : 1 ≤ n) (hc : X.calm = true) : CallR X (.builtin "sorted") (fun xs H Q => ∃ (a : Addr) (kvs : List (List Key × V)), xs = [V.ref a] ∧ Rd H a (.dT kvs) ∧ kvs.length < 64 ∧ (∀ p ∈ kvs, ∃ ns : List Int, p.1 = ns.map Sum.inl ∧ ns.length = n ∧ TS.Bd B ns) ∧
    ∀ (ys : List V) (p : Addr) (bs : List Addr), IsKeys H kvs bs → ys.Perm (bs.map V.ref) → ys.Pairwise (fun x y => ∀ i j, TupI X.K H x i → TupI X.K H y j → TS.code B i ≤ TS.code B j) → H p = none → Q (.ref p) (upd H p (.lst ys))) := by
  intro pins s σ H xs us Q I r h
  obtain ⟨a, kvs, rfl, hd, h64, hk, q⟩ := h
  obtain ⟨u, rfl, rx⟩ := r.one
  cases rx
  obtain ⟨z, hs, ks, pr, o, es, ep, ho, hx, hdt, he, _⟩ := (show ObjOk X.prog X.w H s.heap a (.dT kvs) from hd.ok I.hok)
  have l1 : es.size = ks.length := size_of_entries he
  have l2 : kvs.length = ks.length := Paired.length pr
  refine Calls.call_function_entry PyProof.Rows.kind_sorted PyProof.Rows.plain_sorted PyProof.Rows.entry_sorted (PyProof.Rows.args_sorted1 _) ?_
  unfold Builtin.«sorted»
  refine wpAny_bind (m := checkCount "sorted" 1 1 _) (wpAny_pure ?_)
  refine wpAny_bind (PySem.W.kdu_collect (A := X.A.in1) (kdl_raw hs hx hdt) (I.ok.hd hc) ho (by omega) fun h' tk acc hkp it => ?_)
  have ea : acc.toList = (ks.map fun x => x.2.1).map Value.ref := by
    have hl : acc.toList.length = ks.length := by rw [Array.length_toList, it.1]; exact l1
    rw [List.map_map]
    apply List.ext_getElem?
    intro j
    rw [List.getElem?_map]
    cases hj : acc.toList[j]? with
    | none => rw [List.getElem?_eq_none (by have := List.getElem?_eq_none_iff.mp hj; omega)]; rfl
    | some v =>
      obtain ⟨en, hen, hv⟩ := it.2 j v (by rw [← Array.getElem?_toList]; exact hj)
      have qe := entry_at he j
      rw [hen] at qe
      cases hb : ks[j]? with
      | none => rw [hb] at qe; exact nomatch (show some en = none from qe)
      | some b =>
        rw [hb] at qe
        have e2 : en = entryOfKey (tupleKind (mixKind X.prog X.w)) b := Option.some.inj qe
        rw [hv, e2]; rfl
  have I1 : Inv X pins σ H { s with heap := h', toks := tk } := I.kept hkp
  have keys := isKeys_of pr
  obtain ⟨kl, kt⟩ := isKeys_ints keys
  generalize hbs : (ks.map fun x => x.2.1) = bs at ea keys kl kt
  have tup : ∀ b ∈ bs, ∃ ns : List Int, SqT X.K H b (ns.map V.int) ∧ ns.length = n ∧ TS.Bd B ns := fun b hb => by
    obtain ⟨p, hp, e⟩ := kt b hb
    obtain ⟨ns, e1, e2, e3⟩ := hk p hp
    refine ⟨ns, .of ?_, e2, e3⟩
    rw [e, e1, List.map_map]; rfl
  have hlen : acc.toList.length < 64 := by rw [ea, List.length_map]; omega
  refine wpAny_bind (wpAny_newList ?_ (by rw [sizeLine_eq]; omega))
  have hoL : (h'.push (seqObj "list" acc.toList.toArray 0)).get? h'.objs.size = some (seqObj "list" acc.toList.toArray 0) := Heap.get?_push_size _ rfl
  have keep : ∀ b o, h'.get? b = some o → (h'.push (seqObj "list" acc.toList.toArray 0)).get? b = some o := fun b o e => Heap.get?_push_of_some _ e
  have I2 : Inv X pins σ H { s with heap := h'.push (seqObj "list" acc.toList.toArray 0), toks := tk } := I1.kept (t' := tk) keep
  have raw : ∀ v ∈ acc.toList, ∃ ns b, v = .ref b ∧ b ∈ bs ∧ SqT X.K H b (ns.map V.int) ∧ TS.TupInts (h'.push (seqObj "list" acc.toList.toArray 0)) v ns ∧ ns.length = n ∧ TS.Bd B ns := fun v hv => by
    rw [ea] at hv
    obtain ⟨b, hb, rfl⟩ := List.mem_map.mp hv
    obtain ⟨ns, t1, t2, t3⟩ := tup b hb
    exact ⟨ns, b, rfl, hb, t1, tupI_raw I2 t1, t2, t3⟩
  show wpAny _ _ _ _ _ { s with heap := h'.push (seqObj "list" acc.toList.toArray 0), toks := tk }
  refine wpAny_bind (wpAny_holding (wpAny_call_entry slot_list_sort ⟨_, hoL, rfl⟩ entry_list_sort (TS.sort_tups (s := { s with heap := h'.push (seqObj "list" acc.toList.toArray 0), toks := tk }) (B := B) hoL hlen hn (fun v hv => ?_) (fun v => TS.code B (TS.intsOf (h'.push (seqObj "list" acc.toList.toArray 0)) v)) (fun v hv ns t => ?_) fun out a1 a2 => ⟨_, rfl, ?_⟩) (args_list_sort _)))
  · obtain ⟨ns, b, _, _, _, t, t2, t3⟩ := raw v hv
    exact ⟨ns, t, t2, t3⟩
  · show TS.code B (TS.intsOf (h'.push (seqObj "list" acc.toList.toArray 0)) v) = TS.code B ns
    rw [t.ints]
  · obtain ⟨e', he'⟩ := PyProof.Rows.sortedHeap_at (vs := acc.toList) (out := out) hoL
    have refs : ∀ v ∈ out.toList, ∃ b, v = Value.ref b ∧ b ∈ bs := fun v hv => by
      obtain ⟨ns, b, e, hb, _⟩ := raw v (a1.mem_iff.mp hv)
      exact ⟨b, e, hb⟩
    have pm : (out.toList.map bkV).Perm (bs.map V.ref) := by
      have e1 : bs.map V.ref = acc.toList.map bkV := by rw [ea, List.map_map]; rfl
      rw [e1]
      exact a1.map bkV
    have hz : (out.toList.map bkV).length ≤ sizeLine := by
      rw [pm.length_eq, List.length_map, sizeLine_eq]; omega
    refine wpAny_pure ⟨_, rfl, .ref h'.objs.size, upd H h'.objs.size (.lst (out.toList.map bkV)), I1.laid (t' := tk) (fun b u e => ?_) (Nat.le_refl _)
      ⟨hz, out.toList, e', bkV_vals (fun v hv => (refs v hv).imp fun _ y => y.1), by rw [Array.toArray_toList]; exact he'⟩, rfl, q _ _ bs keys pm ?_ (I1.hok.fresh (Nat.le_refl _))⟩
    · have hb : b < h'.objs.size := Heap.lt_size e
      rw [PyProof.Rows.sortedHeap_old (Nat.ne_of_lt hb) (by rw [size_push']; exact Nat.lt_succ_of_lt hb)]
      exact keep b u e
    · rw [List.pairwise_map]
      refine List.Pairwise.imp (fun {u v} huv i j hi hj => ?_) a2
      obtain ⟨t, et, ht⟩ := hi
      obtain ⟨t', et', ht'⟩ := hj
      have i1 : TS.intsOf (h'.push (seqObj "list" acc.toList.toArray 0)) u = i := by rw [bkV_ref et]; exact (tupI_raw I2 ht).ints
      have i2 : TS.intsOf (h'.push (seqObj "list" acc.toList.toArray 0)) v = j := by rw [bkV_ref et']; exact (tupI_raw I2 ht').ints
      rw [← i1, ← i2]
      exact huv
end
end HotZ
end
section
set_option Elab.async false
set_option linter.all false
set_option maxRecDepth 100000
set_option maxHeartbeats 2000000
/-! SortP: sorted(xs) of any number of pairs of whole numbers, wherever the pairs stand. -/
namespace HotZ
open PySem PySem.Spec PyProof.Rows L2
theorem perm_lift {α β : Type} {f : α → β} {l m : List β} (h : l.Perm m) : ∀ {k : List α}, k.map f = m → ∃ k' : List α, k'.Perm k ∧ k'.map f = l := by
  induction h with
  | nil => intro k e; exact ⟨k, List.Perm.refl _, e⟩
  | cons x p ih =>
    intro k e
    match k, e with
    | a :: k, e =>
      rw [List.map_cons] at e
      injection e with e1 e2
      obtain ⟨k', p', e'⟩ := ih e2
      exact ⟨a :: k', p'.cons a, by rw [List.map_cons, e', e1]⟩
  | swap x y l =>
    intro k e
    match k, e with
    | a :: b :: k, e =>
      rw [List.map_cons, List.map_cons] at e
      injection e with e1 e2
      injection e2 with e2 e3
      exact ⟨b :: a :: k, List.Perm.swap a b k, by rw [List.map_cons, List.map_cons, e1, e2, e3]⟩
  | trans p1 p2 ih1 ih2 =>
    intro k e
    obtain ⟨k2, q2, e2⟩ := ih2 e
    obtain ⟨k1, q1, e1⟩ := ih1 e2
    exact ⟨k1, q1.trans q2, e1⟩
theorem vals_of_refs : ∀ {as : List Addr} {us : List Value}, Vals (as.map V.ref) us → us = as.map Value.ref
  | [], _, .nil => rfl
  | a :: r, _, .cons h t => by
    cases h
    rw [vals_of_refs t]; rfl
def pairOf : List Int → Int × Int
  | [i, j] => (i, j)
  | _ => (0, 0)
section
variable {X : Cx}
/-- sorted of pairs -/
def rSortedPT (K : PySem.W.Frag) : List V → Hp → VK → Prop := fun vs H Q => ∃ (a : Addr) (ks : List (Addr × Int × Int)), vs = [V.ref a] ∧ SqL K H a (ks.map fun p => V.ref p.1) ∧ (∀ p ∈ ks, SqT K H p.1 [.int p.2.1, .int p.2.2]) ∧
  ∀ (L : List (Addr × Int × Int)) (p : Addr), L.Perm ks → L.Pairwise (fun x y => SrtO.lexB y.2 x.2 = false) → H p = none → Q (.ref p) (upd H p (.lst (L.map fun p => V.ref p.1)))
theorem cr_sortedPT : CallR X (.builtin "sorted") (rSortedPT X.K) := by
  intro pins s σ H vs us Q I r h
  obtain ⟨a, ks, rfl, hs, hx, q⟩ := h
  obtain ⟨its, rv, hl, hz⟩ := I.list hs
  rw [Vals.ref1 r]
  have ei : its = ks.map fun p => Value.ref p.1 := by
    have rv' : Vals ((ks.map (·.1)).map V.ref) its := by rw [List.map_map]; exact rv
    rw [vals_of_refs rv', List.map_map]; rfl
  have raw : ∀ p ∈ ks, TS.TupInts s.heap (.ref p.1) [p.2.1, p.2.2] := fun p hp => tupI_raw I (hx p hp)
  have kp : ∀ p ∈ ks, pairOf (TS.intsOf s.heap (.ref p.1)) = p.2 := fun p hp => by rw [(raw p hp).ints]; rfl
  refine SrtO.sorted_pairsO (k := fun u => pairOf (TS.intsOf s.heap u)) hl.isList (by rw [← rv.length]; exact hz) (fun v hv => ?_) fun h' d out h1 h2 kk hd hn => ?_
  · rw [ei] at hv
    obtain ⟨p, hp, rfl⟩ := List.mem_map.mp hv
    rw [kp p hp]
    obtain ⟨b, xs, e, ⟨o, ho, hc, n, hdt⟩, ia⟩ := raw p hp
    cases e
    cases hxs : xs.toList with
    | nil => rw [hxs] at ia; cases ia
    | cons u1 r1 =>
      rw [hxs] at ia
      cases ia with
      | cons i1 t1 ia =>
        cases ia with
        | cons i2 t2 ia =>
          cases ia
          have : xs = #[Value.int p.2.1 t1, Value.int p.2.2 t2] := by
            apply Array.toList_inj.mp
            rw [hxs]
          subst this
          exact ⟨_, o, t1, t2, n, rfl, ho, hc, hdt⟩
  · obtain ⟨n, hn⟩ := hn
    obtain ⟨L, pm, e⟩ := perm_lift h2.perm (k := ks) (f := fun p => Value.ref p.1) ei.symm
    have ve : Vals (L.map fun p => V.ref p.1) out := by
      rw [← e]
      have gen : ∀ l : List (Addr × Int × Int), Vals (l.map fun p => V.ref p.1) (l.map fun p => Value.ref p.1) := fun l => by
        induction l with
        | nil => exact .nil
        | cons a r ih => exact .cons rfl ih
      exact gen L
    have len : (L.map fun p => V.ref p.1).length ≤ sizeLine := by
      rw [List.length_map, pm.length_eq]
      rw [List.length_map] at hz
      exact hz
    refine ⟨.ref d, upd H d (.lst (L.map fun p => V.ref p.1)), I.laid (t' := s.toks) kk hd ⟨len, out, n, ve, hn⟩, rfl, q L d pm ?_ (I.hok.fresh hd)⟩
    rw [← e] at h1
    have h1 := List.pairwise_map.mp h1
    refine List.Pairwise.imp_of_mem (fun {x y} hx hy z => ?_) h1
    have z : SrtO.lexB (pairOf (TS.intsOf s.heap (.ref y.1))) (pairOf (TS.intsOf s.heap (.ref x.1))) = false := z
    rw [kp x (pm.mem_iff.mp hx), kp y (pm.mem_iff.mp hy)] at z
    exact z
end
end HotZ
end
section
set_option Elab.async false
set_option linter.all false
set_option maxRecDepth 100000
set_option maxHeartbeats 1000000
/-! SetI: sorted(set(..)), len(set(..)) as Mini has them. -/
namespace Mn
open PySem PySem.Spec PyProof.Rows L2 HotZ
theorem uniq_sorted {α : Type} (lt : α → α → Prop) (anti : ∀ a b, ¬ lt a b → ¬ lt b a → a = b) : ∀ (l m : List α), l.Pairwise (fun a b => ¬ lt b a) → m.Pairwise (fun a b => ¬ lt b a) → l.Nodup → m.Nodup → (∀ x, x ∈ l ↔ x ∈ m) → l = m
  | [], [], _, _, _, _, _ => rfl
  | [], b :: m, _, _, _, _, h => by have := (h b).mpr List.mem_cons_self; simp at this
  | a :: l, [], _, _, _, _, h => by have := (h a).mp List.mem_cons_self; simp at this
  | a :: l, b :: m, p, q, nl, nm, h => by
    obtain ⟨p1, p2⟩ := List.pairwise_cons.mp p
    obtain ⟨q1, q2⟩ := List.pairwise_cons.mp q
    obtain ⟨n1, n2⟩ := List.nodup_cons.mp nl
    obtain ⟨n3, n4⟩ := List.nodup_cons.mp nm
    have e : a = b := by
      rcases List.mem_cons.mp ((h a).mp List.mem_cons_self) with z | z
      · exact z
      · rcases List.mem_cons.mp ((h b).mpr List.mem_cons_self) with y | y
        · exact y.symm
        · exact anti a b (q1 a z) (p1 b y)
    subst e
    congr 1
    refine uniq_sorted lt anti l m p2 q2 n2 n4 fun x => ?_
    constructor
    · intro hx
      rcases List.mem_cons.mp ((h x).mp (List.mem_cons_of_mem _ hx)) with z | z
      · subst z; exact absurd hx n1
      · exact z
    · intro hx
      rcases List.mem_cons.mp ((h x).mpr (List.mem_cons_of_mem _ hx)) with z | z
      · subst z; exact absurd hx n3
      · exact z
theorem dedup_mem {α : Type} [BEq α] [LawfulBEq α] : ∀ (l : List α) (x : α), x ∈ dedup l ↔ x ∈ l
  | [], x => by simp [dedup]
  | a :: r, x => by
    unfold dedup
    by_cases h : r.elem a = true
    · rw [if_pos h, dedup_mem r x, List.mem_cons]
      have ha : a ∈ r := List.elem_iff.mp h
      constructor
      · exact .inr
      · rintro (z | z)
        · subst z; exact ha
        · exact z
    · rw [if_neg h, List.mem_cons, dedup_mem r x, List.mem_cons]
theorem dedup_nodup {α : Type} [BEq α] [LawfulBEq α] : ∀ l : List α, (dedup l).Nodup
  | [] => by simp [dedup]
  | a :: r => by
    unfold dedup
    by_cases h : r.elem a = true
    · rw [if_pos h]; exact dedup_nodup r
    · rw [if_neg h]
      exact List.nodup_cons.mpr ⟨fun z => h (List.elem_iff.mpr ((dedup_mem r a).mp z)), dedup_nodup r⟩
theorem insI_perm (x : Int) : ∀ l : List Int, (insI x l).Perm (x :: l)
  | [] => List.Perm.refl _
  | y :: r => by
    unfold insI
    by_cases h : y < x
    · rw [if_pos h]; exact (List.Perm.cons y (insI_perm x r)).trans (List.Perm.swap x y r)
    · rw [if_neg h]
theorem insI_sorted (x : Int) : ∀ l : List Int, l.Pairwise (fun a b => ¬ b < a) → (insI x l).Pairwise (fun a b => ¬ b < a)
  | [], _ => by simp [insI]
  | y :: r, p => by
    obtain ⟨p1, p2⟩ := List.pairwise_cons.mp p
    unfold insI
    by_cases h : y < x
    · rw [if_pos h]
      refine List.pairwise_cons.mpr ⟨fun z hz => ?_, insI_sorted x r p2⟩
      rcases List.mem_cons.mp ((insI_perm x r).mem_iff.mp hz) with q | q
      · subst q; omega
      · exact p1 z q
    · rw [if_neg h]
      refine List.pairwise_cons.mpr ⟨fun z hz => ?_, p⟩
      rcases List.mem_cons.mp hz with q | q
      · subst q; exact h
      · have := p1 z q; omega
theorem sortI_perm : ∀ l : List Int, (sortI l).Perm l
  | [] => List.Perm.refl _
  | a :: r => (insI_perm a (sortI r)).trans (List.Perm.cons a (sortI_perm r))
theorem sortI_sorted : ∀ l : List Int, (sortI l).Pairwise (fun a b => ¬ b < a)
  | [] => List.Pairwise.nil
  | a :: r => insI_sorted a (sortI r) (sortI_sorted r)
theorem insX_perm (x : List Nat) : ∀ l : List (List Nat), (insX x l).Perm (x :: l)
  | [] => List.Perm.refl _
  | y :: r => by
    unfold insX
    by_cases h : ltX y x = true
    · rw [if_pos h]; exact (List.Perm.cons y (insX_perm x r)).trans (List.Perm.swap x y r)
    · rw [if_neg h]
theorem insX_sorted (x : List Nat) : ∀ l : List (List Nat), l.Pairwise (fun a b => ¬ b < a) → (insX x l).Pairwise (fun a b => ¬ b < a)
  | [], _ => by simp [insX]
  | y :: r, p => by
    obtain ⟨p1, p2⟩ := List.pairwise_cons.mp p
    unfold insX
    rw [ltX_eq]
    by_cases h : y < x
    · rw [if_pos (decide_eq_true h)]
      refine List.pairwise_cons.mpr ⟨fun z hz => ?_, insX_sorted x r p2⟩
      rcases List.mem_cons.mp ((insX_perm x r).mem_iff.mp hz) with q | q
      · subst q; exact fun k => List.lt_irrefl _ (List.lt_trans h k)
      · exact p1 z q
    · rw [if_neg (by rw [decide_eq_true_eq]; exact h)]
      refine List.pairwise_cons.mpr ⟨fun z hz => ?_, p⟩
      rcases List.mem_cons.mp hz with q | q
      · subst q; exact h
      · have a : x ≤ y := h
        have b : y ≤ z := p1 z q
        exact List.le_trans a b
theorem sortX_perm : ∀ l : List (List Nat), (sortX l).Perm l
  | [] => List.Perm.refl _
  | a :: r => (insX_perm a (sortX r)).trans (List.Perm.cons a (sortX_perm r))
theorem sortX_sorted : ∀ l : List (List Nat), (sortX l).Pairwise (fun a b => ¬ b < a)
  | [] => List.Pairwise.nil
  | a :: r => insX_sorted a (sortX r) (sortX_sorted r)
/-- a sorted list of texts, by code points -/
theorem rising_pw : ∀ (l : List PySem.Str) (p : PySem.Str), risingS p l = true → (p :: l).Pairwise (fun a b => ¬ b.cps.toList < a.cps.toList)
  | [], p, _ => by simp
  | x :: r, p, h => by
    have h : (!ltCps x.cps.toList p.cps.toList && risingS x r) = true := h
    rw [Bool.and_eq_true, Bool.not_eq_true', ltCps_eq, decide_eq_false_iff_not] at h
    have ih := rising_pw r x h.2
    refine List.pairwise_cons.mpr ⟨fun z hz => ?_, ih⟩
    rcases List.mem_cons.mp hz with q | q
    · subst q; exact h.1
    · have a : p.cps.toList ≤ x.cps.toList := h.1
      have b : x.cps.toList ≤ z.cps.toList := (List.pairwise_cons.mp ih).1 z q
      exact List.le_trans a b
theorem sorted_pw : ∀ l : List PySem.Str, sortedS l = true → l.Pairwise (fun a b => ¬ b.cps.toList < a.cps.toList)
  | [], _ => List.Pairwise.nil
  | p :: l, h => rising_pw l p h
theorem mkS_cps {x y : List Nat} (h : mkS x = mkS y) : x = y := by
  have := congrArg (fun s : PySem.Str => s.cps.toList) h
  exact this
theorem inTake_all {κ : Type} [DecidableEq κ] (xs : List κ) (k : κ) : inTake xs xs.length k = true ↔ k ∈ xs := by
  unfold inTake
  rw [decide_eq_true_eq, List.take_length]
theorem ltI_trans : ∀ {a b c : List Int}, ltI b a = false → ltI c b = false → ltI c a = false
  | a, b, [], h1, h2 => by
    cases a with
    | nil => rfl
    | cons x a =>
      exfalso
      cases b with
      | nil => simp [ltI] at h1
      | cons y b => simp [ltI] at h2
  | [], b, z :: c, _, _ => rfl
  | x :: a, [], z :: c, h1, h2 => by simp [ltI] at h1
  | x :: a, y :: b, z :: c, h1, h2 => by
    unfold ltI at h1 h2 ⊢
    by_cases e1 : y = x
    · subst e1
      rw [if_pos rfl] at h1
      by_cases e2 : z = y
      · subst e2
        rw [if_pos rfl] at h2 ⊢
        exact ltI_trans h1 h2
      · rw [if_neg e2] at h2 ⊢
        exact h2
    · rw [if_neg e1] at h1
      have h1 := of_decide_eq_false h1
      by_cases e2 : z = y
      · subst e2
        rw [if_neg e1]
        exact decide_eq_false h1
      · rw [if_neg e2] at h2
        have h2 := of_decide_eq_false h2
        rw [if_neg (by omega)]
        exact decide_eq_false (by omega)
theorem ltI_irr : ∀ a : List Int, ltI a a = false
  | [] => rfl
  | x :: a => by unfold ltI; rw [if_pos rfl]; exact ltI_irr a
theorem ltI_anti : ∀ {a b : List Int}, ltI a b = false → ltI b a = false → a = b
  | [], [], _, _ => rfl
  | [], b :: y, h, _ => by simp [ltI] at h
  | a :: x, [], _, h => by simp [ltI] at h
  | a :: x, b :: y, h1, h2 => by
    unfold ltI at h1 h2
    by_cases e : a = b
    · subst e
      rw [if_pos rfl] at h1 h2
      rw [ltI_anti h1 h2]
    · rw [if_neg e] at h1
      rw [if_neg (Ne.symm e)] at h2
      have h1 := of_decide_eq_false h1
      have h2 := of_decide_eq_false h2
      omega
theorem ltI_asym {a b : List Int} (h : ltI a b = true) : ltI b a = false := by
  cases q : ltI b a with
  | false => rfl
  | true =>
    exfalso
    have gen : ∀ a b : List Int, ltI a b = true → ltI b a = true → False := fun a => by
      induction a with
      | nil => intro b h1 h2; cases b <;> simp [ltI] at h1 h2
      | cons x a ih =>
        intro b h1 h2
        cases b with
        | nil => simp [ltI] at h1
        | cons y b =>
          unfold ltI at h1 h2
          by_cases e : x = y
          · subst e
            rw [if_pos rfl] at h1 h2
            exact ih b h1 h2
          · rw [if_neg e] at h1
            rw [if_neg (Ne.symm e)] at h2
            have h1 := of_decide_eq_true h1
            have h2 := of_decide_eq_true h2
            omega
    exact gen a b h q
theorem insT_perm (x : List Int) : ∀ l : List (List Int), (insT x l).Perm (x :: l)
  | [] => List.Perm.refl _
  | y :: r => by
    unfold insT
    by_cases h : ltI y x = true
    · rw [if_pos h]; exact (List.Perm.cons y (insT_perm x r)).trans (List.Perm.swap x y r)
    · rw [if_neg h]
theorem insT_sorted (x : List Int) : ∀ l : List (List Int), l.Pairwise (fun a b => ltI b a = false) → (insT x l).Pairwise (fun a b => ltI b a = false)
  | [], _ => by simp [insT]
  | y :: r, p => by
    obtain ⟨p1, p2⟩ := List.pairwise_cons.mp p
    unfold insT
    by_cases h : ltI y x = true
    · rw [if_pos h]
      refine List.pairwise_cons.mpr ⟨fun z hz => ?_, insT_sorted x r p2⟩
      rcases List.mem_cons.mp ((insT_perm x r).mem_iff.mp hz) with q | q
      · subst q; exact ltI_asym h
      · exact p1 z q
    · rw [if_neg h]
      have h : ltI y x = false := by simpa using h
      refine List.pairwise_cons.mpr ⟨fun z hz => ?_, p⟩
      rcases List.mem_cons.mp hz with q | q
      · subst q; exact h
      · exact ltI_trans h (p1 z q)
theorem sortT_perm : ∀ l : List (List Int), (sortT l).Perm l
  | [] => List.Perm.refl _
  | a :: r => (insT_perm a (sortT r)).trans (List.Perm.cons a (sortT_perm r))
theorem sortT_sorted : ∀ l : List (List Int), (sortT l).Pairwise (fun a b => ltI b a = false)
  | [] => List.Pairwise.nil
  | a :: r => insT_sorted a (sortT r) (sortT_sorted r)
theorem uniq_perm : ∀ (l m : List (List Int)), l.Pairwise (fun a b => ltI b a = false) → m.Pairwise (fun a b => ltI b a = false) → l.Perm m → l = m
  | [], m, _, _, p => (List.Perm.eq_nil p.symm).symm
  | a :: l, [], _, _, p => by have := p.length_eq; simp at this
  | a :: l, b :: m, hl, hm, p => by
    obtain ⟨p1, p2⟩ := List.pairwise_cons.mp hl
    obtain ⟨q1, q2⟩ := List.pairwise_cons.mp hm
    have e : a = b := by
      refine ltI_anti ?_ ?_
      · rcases List.mem_cons.mp (p.mem_iff.mp List.mem_cons_self : a ∈ b :: m) with z | z
        · subst z; exact ltI_irr _
        · exact q1 a z
      · rcases List.mem_cons.mp (p.mem_iff.mpr List.mem_cons_self : b ∈ a :: l) with z | z
        · subst z; exact ltI_irr _
        · exact p1 b z
    subst e
    rw [uniq_perm l m p2 q2 (List.Perm.cons_inv p)]
theorem code_of {B : Int} : ∀ {a b : List Int}, a.length = b.length → TS.Bd B a → TS.Bd B b → ltI a b = true → TS.code B a < TS.code B b
  | [], [], _, _, _, h => by simp [ltI] at h
  | [], b :: y, h, _, _, _ => by simp at h
  | a :: x, [], h, _, _, _ => by simp at h
  | a :: x, b :: y, hl, h1, h2, h => by
    have hl2 : x.length = y.length := by simpa using hl
    unfold ltI at h
    by_cases e : a = b
    · subst e
      rw [if_pos rfl] at h
      exact (TS.code_same (B := B) (d := a) (r := x) (q := y) hl2).mpr (code_of hl2 h1.tail h2.tail h)
    · rw [if_neg e] at h
      exact TS.code_lt hl2 h1.tail h2.tail (of_decide_eq_true h)
/-- what sorted(set(..)) of texts is -/
theorem sortX_is {ns : List (List Nat)} {ss : List PySem.Str} (h1 : sortedS ss = true) (h2 : ss.Nodup) (h3 : ∀ k, k ∈ ss ↔ k ∈ ns.map mkS) : ss = (sortX (dedup ns)).map mkS := by
  have e : ∀ k ∈ ss, ∃ x ∈ ns, k = mkS x := fun k hk => by
    obtain ⟨x, hx, rfl⟩ := List.mem_map.mp ((h3 k).mp hk)
    exact ⟨x, hx, rfl⟩
  refine uniq_sorted (fun a b : PySem.Str => a.cps.toList < b.cps.toList) (fun a b p q => ?_) ss _ (sorted_pw ss h1) ?_ h2 ?_ fun k => ?_
  · have z : a.cps.toList = b.cps.toList := List.le_antisymm q p
    cases a; cases b
    congr 1
    exact Array.toList_inj.mp z
  · rw [List.pairwise_map]
    exact (sortX_sorted (dedup ns)).imp fun z => z
  · have nd := (sortX_perm (dedup ns)).nodup_iff.mpr (dedup_nodup ns)
    rw [List.nodup_iff_pairwise_ne, List.pairwise_map]
    rw [List.nodup_iff_pairwise_ne] at nd
    exact nd.imp fun z q => z (mkS_cps q)
  · rw [h3 k, List.mem_map, List.mem_map]
    constructor
    · rintro ⟨x, hx, rfl⟩
      exact ⟨x, (sortX_perm _).mem_iff.mpr ((dedup_mem ns x).mpr hx), rfl⟩
    · rintro ⟨x, hx, rfl⟩
      exact ⟨x, (dedup_mem ns x).mp ((sortX_perm _).mem_iff.mp hx), rfl⟩
theorem sortI_is {ns is : List Int} (h1 : is.Pairwise (· < ·)) (h3 : ∀ k, k ∈ is ↔ k ∈ ns) : is = sortI (dedup ns) := by
  refine uniq_sorted (fun a b : Int => a < b) (fun a b p q => by omega) is _ (h1.imp fun z => by omega) (sortI_sorted _) ?_ ?_ fun k => ?_
  · rw [List.nodup_iff_pairwise_ne]
    exact h1.imp fun z => by omega
  · exact (sortI_perm _).nodup_iff.mpr (dedup_nodup ns)
  · rw [h3 k, (sortI_perm _).mem_iff, dedup_mem]
section
variable {X : Cx} {g : G} {n : Nat} {Wx : WX} {c : CC}
theorem relI (P : Program) (w : World) (k : Int) (v : Value) (h : RelV (V.int k) v) : ∃ u, v = (mbI P w).put k u := by
  obtain ⟨u, rfl⟩ := h
  exact ⟨u, rfl⟩
theorem relX (P : Program) (w : World) (k : PySem.Str) (v : Value) (h : RelV (V.str k) v) : ∃ u, v = (mbX P w).put k u := by
  obtain ⟨u, rfl⟩ := h
  exact ⟨u, rfl⟩
theorem reps_ints {w : Wd} : ∀ ns : List Int, Rgs g w (ns.map .int) (ns.map V.int)
  | [] => .nil
  | a :: r => .cons (.int a) (reps_ints r)
theorem reps_txts {w : Wd} : ∀ ns : List (List Nat), (∀ x ∈ ns, x.all (· < 0x110000) = true ∧ x.length ≤ sizeLine) → Rgs g w (ns.map .str) ((ns.map mkS).map V.str)
  | [], _ => .nil
  | a :: r, h => .cons (.str a (h a List.mem_cons_self).1 (h a List.mem_cons_self).2) (reps_txts r fun x hx => h x (List.mem_cons_of_mem _ hx))
theorem seq_of {w : Wd} {Fr H : Hp} {S : Sto} {x : D} {vx : V} {ds : List D} (hs : StOk g w Fr H S) (rx : Rg g w x vx) (e : deref S x = some (.lst ds)) : ∃ a vs, vx = .ref a ∧ SqL g.K H a vs ∧ Rgs g w ds vs := by
  cases rx with
  | lst h r =>
    cases e
    exact ⟨_, _, rfl, .of (hs.h0 _ _ h), r⟩
  | own ha =>
    simp only [deref] at e
    split at e
    · rename_i xs hg
      cases e
      obtain ⟨b, h1, h2, h3, vs, h4, h5⟩ := hs.live _ _ hg
      rw [ha] at h1; cases h1
      exact ⟨_, vs, rfl, .of h4, h5⟩
    · cases e
  | non => cases e
  | bl _ => cases e
  | int _ => cases e
  | str _ _ _ => cases e
  | tup _ _ => cases e
  | frz _ _ => cases e
  | dx _ _ => cases e
  | obj _ _ => cases e
  | any _ => cases e
  | fn _ => cases e
theorem tups_rep {K : PySem.W.Frag} {fa : Nat → Addr} {w : Wd} : ∀ {ds : List D} {vs : List V} {ts : List (List Int)}, Reps K fa w ds vs → tupsOf ds = some ts →
    ∃ as : List Addr, vs = as.map V.ref ∧ as.length = ts.length ∧ ∀ p ∈ as.zip ts, SqT K w.H0 p.1 (p.2.map V.int)
  | _, _, ts, .nil, e => by cases e; exact ⟨[], rfl, rfl, fun p hp => by simp at hp⟩
  | d :: ds, _, ts, .cons h r, e => by
    cases h <;> first
      | (cases e; done)
      | (rename_i xs a us ht hr
         simp only [tupsOf] at e
         split at e
         · rename_i ns t e1 e2
           cases e
           obtain ⟨as, q1, q2, q3⟩ := tups_rep r e2
           have eu := intsOf_rep hr e1
           subst eu
           refine ⟨a :: as, by rw [q1]; rfl, by rw [List.length_cons, List.length_cons, q2], fun p hp => ?_⟩
           rw [List.zip_cons_cons] at hp
           rcases List.mem_cons.mp hp with rfl | hp
           · exact ht
           · exact q3 p hp
         · cases e)
theorem okT_ok {ts : List (List Int)} (h : okT ts = true) : ∃ d, 1 ≤ d ∧ ∀ u ∈ ts, u.length = d ∧ TS.Bd (B62 : Int) u := by
  cases ts with
  | nil => exact ⟨1, Nat.le_refl _, fun u hu => nomatch hu⟩
  | cons t r =>
    unfold okT at h
    rw [Bool.and_eq_true] at h
    refine ⟨t.length, Nat.le_of_ble_eq_true h.1, fun u hu => ?_⟩
    have z := List.all_eq_true.mp h.2 u hu
    rw [Bool.and_eq_true] at z
    refine ⟨by simpa using z.1, fun i hi => ?_⟩
    have y := List.all_eq_true.mp z.2 i hi
    rw [Bool.and_eq_true, decide_eq_true_eq] at y
    have y2 := ltN_ok y.2
    exact ⟨y.1, by omega⟩
theorem reps_tups {w : Wd} : ∀ {L : List (Addr × List Int)}, (∀ p ∈ L, SqT g.K w.H0 p.1 (p.2.map V.int)) → Rgs g w ((L.map (·.2)).map tupD) (L.map fun q => V.ref q.1)
  | [], _ => .nil
  | p :: L, h => .cons (.tup (h p List.mem_cons_self) (reps_ints _)) (reps_tups fun q hq => h q (List.mem_cons_of_mem _ hq))
theorem se_sset (ho : XOk g n Wx c X) (hh : c.hot = false) {e : Expr} {m : ME} {p p2 q pos : Pos} (h : cGlo c "sorted" = some .blt) (h' : cGlo c "set" = some .blt) (ns : NoStar e) (he : SE g n Wx X e m) :
    SE g n Wx X (.Call (.Name "sorted" p) [.Call (.Name "set" p2) [e] [] q] [] pos) (.sset m) := by
  obtain ⟨h1, h2, h3, h4⟩ := cGlo_ok h
  obtain ⟨t1, t2, t3, t4⟩ := cGlo_ok h'
  have m1 : X.mg "sorted" = none := by rw [ho.hmg]; exact ho.ge.blt _ h2
  have m2 : X.mg "set" = none := by rw [ho.hmg]; exact ho.ge.blt _ t2
  have cm := ho.calm hh
  have inner := pe_callTy (p := p2) (pos := q) ((cr_setM (M := mbI X.prog X.w) cm (relI _ _)).or ((cr_setM (M := mbX X.prog X.w) cm (relX _ _)).or (cr_setOfT cm ho.hu))) (ho.gl t1) m2 PyProof.Rows.boot_set (pa_cons he pa_nil (ns _ _)) t4 t3 (ns _ _) rfl
  refine PE.imp (pe_callB ((cr_sortedM cm).or ((cr_sortedX cm).or (cr_sortedT cm))) (ho.gl h1) m1 (by decide +kernel) (pa_cons inner pa_nil rfl) h4 h3 rfl rfl) fun σ H Q q => ?_
  obtain ⟨w, Fr, ρ, S, hs, hen, hp⟩ := q
  refine ⟨w, Fr, ρ, S, hs, hen, Post.bind hp fun x S1 w1 H1 vx l1 hs1 rx hp1 => ?_⟩
  obtain ⟨d, e1, hq⟩ := post_opt hp1
  clear hp1
  unfold ssetO at e1
  cases ed : deref S1 x with
  | none => rw [ed] at e1; cases e1
  | some y =>
  rw [ed] at e1
  have e1 : ssetV y = some d := e1
  cases y <;> first
    | (cases e1; done)
    | skip
  rename_i ds
  obtain ⟨l, vs, rfl, hl, r⟩ := seq_of hs1 rx ed
  simp only [ssetV] at e1
  split at e1
  · rename_i is hi
    split at e1
    · rename_i hb
      cases e1
      have ev := intsOf_rep r hi
      subst ev
      refine .inl ⟨_, is, rfl, by rw [ho.hK]; exact hl, by omega, fun a na => .inl ⟨a, _, _, rfl, upd_same, ?_, fun js b hj hm nb => ?_⟩⟩
      · exact Nat.lt_of_le_of_lt (few_le is is.length) hb
      · obtain ⟨s2, le2⟩ := hs1.data (o := SetMO (mbI X.prog X.w) a (inTake is is.length) (few is is.length)) na
        obtain ⟨s3, le3⟩ := s2.data (o := .lst (js.map V.int)) nb
        have ej : js = sortI (dedup is) := sortI_is hj fun k => by rw [hm k]; exact inTake_all is k
        rw [ej] at s3 le3 ⊢
        exact hq _ _ _ (le2.trans le3) s3 (.lst upd_same (reps_ints _))
    · cases e1
  · split at e1
    · rename_i xs hx
      split at e1
      · rename_i hb
        cases e1
        obtain ⟨ev, ok⟩ := strsOf_rep r hx
        subst ev
        refine .inr (.inl ⟨_, xs.map mkS, rfl, by rw [ho.hK]; exact hl, by rw [List.length_map]; omega, fun a na => .inr (.inl ⟨a, _, _, rfl, upd_same, fun ss b hj nd hm nb => ?_⟩)⟩)
        obtain ⟨s2, le2⟩ := hs1.data (o := SetMO (mbX X.prog X.w) a (inTake (xs.map mkS) (xs.map mkS).length) (few (xs.map mkS) (xs.map mkS).length)) na
        obtain ⟨s3, le3⟩ := s2.data (o := .lst (ss.map V.str)) nb
        have ej : ss = (sortX (dedup xs)).map mkS := sortX_is hj nd fun k => by rw [hm k]; exact inTake_all _ k
        rw [ej] at s3 le3 ⊢
        refine hq _ _ _ (le2.trans le3) s3 (.lst upd_same (reps_txts _ fun x hx => ok x ?_))
        exact (dedup_mem xs x).mp ((sortX_perm _).mem_iff.mp hx)
      · cases e1
    · split at e1
      · rename_i ts ht
        split at e1
        · rename_i hb
          cases e1
          obtain ⟨as, q1, q2, q3⟩ := tups_rep r ht
          subst q1
          obtain ⟨dm, d1, d2⟩ := okT_ok hb.2
          have zfst : (as.zip ts).map (fun p => V.ref p.1) = as.map V.ref := by
            have z := List.map_fst_zip (l₁ := as) (l₂ := ts) (by omega)
            rw [show (as.zip ts).map (fun p => V.ref p.1) = ((as.zip ts).map Prod.fst).map V.ref by rw [List.map_map]; rfl, z]
          have zsnd : (as.zip ts).map (·.2) = ts := List.map_snd_zip (by omega)
          have zmem : ∀ p ∈ as.zip ts, p.2 ∈ ts := fun p hp => by rw [← zsnd]; exact List.mem_map_of_mem hp
          refine .inr (.inr ⟨l, as.zip ts, rfl, by rw [ho.hK, zfst]; exact hl, fun p hp => by rw [ho.hK]; exact sqT_same hs1.h0 (q3 p hp), by rw [List.length_zip]; omega, fun a L na hL1 hL2 => ?_⟩)
          obtain ⟨s2, le2⟩ := hs1.data (o := SetTO X.prog X.w a L) na
          refine .inr (.inr ⟨a, L, dm, (B62 : Int), rfl, upd_same, fun p hp => by rw [ho.hK]; exact sqT_same s2.h0 (sqT_same le2.hp (q3 p (hL1 p hp))), d1, fun p hp => d2 _ (zmem p (hL1 p hp)), fun L' b pm nd _ srt nb => ?_⟩)
          obtain ⟨s3, le3⟩ := s2.data (o := .lst (L'.map fun q => V.ref q.1)) nb
          have inks : ∀ p ∈ L', p ∈ as.zip ts := fun p hp => hL1 p (pm.mem_iff.mp hp)
          have eL : L'.map (·.2) = sortT (dedup ts) := by
            refine uniq_perm _ _ ?_ (sortT_sorted _) ((List.perm_ext_iff_of_nodup nd ((sortT_perm _).nodup_iff.mpr (dedup_nodup ts))).mpr fun u => ?_)
            · rw [List.pairwise_map]
              refine List.Pairwise.imp_of_mem (fun {x y} hx hy z => ?_) srt
              cases hlt : ltI y.2 x.2 with
              | false => rfl
              | true =>
                exfalso
                have a1 := d2 _ (zmem x (inks x hx))
                have a2 := d2 _ (zmem y (inks y hy))
                have := code_of (by rw [a1.1, a2.1]) a2.2 a1.2 hlt
                omega
            · rw [(sortT_perm _).mem_iff, dedup_mem]
              constructor
              · intro hu
                obtain ⟨p, hp, rfl⟩ := List.mem_map.mp hu
                exact zmem p (inks p hp)
              · intro hu
                rw [← zsnd] at hu
                obtain ⟨p, hp, rfl⟩ := List.mem_map.mp hu
                exact (pm.map _).mem_iff.mpr (hL2 p hp)
          rw [← eL] at hq
          exact hq _ _ _ (le2.trans le3) s3 (.lst upd_same (reps_tups fun p hp => sqT_same (le2.trans le3).hp (q3 p (inks p hp))))
        · cases e1
      · cases e1
theorem lexB_ltI {i j k l : Int} : SrtO.lexB (i, j) (k, l) = ltI [i, j] [k, l] := by
  unfold SrtO.lexB ltI
  by_cases h : i = k
  · subst h
    rw [if_pos rfl, if_pos rfl]
    unfold ltI
    by_cases h2 : j = l
    · subst h2
      rw [if_pos rfl]
      exact decide_eq_false (by omega)
    · rw [if_neg h2]
  · rw [if_neg h, if_neg h]
theorem se_srt (ho : XOk g n Wx c X) {e : Expr} {m : ME} {p pos : Pos} (h : cGlo c "sorted" = some .blt) (ns : NoStar e) (he : SE g n Wx X e m) : SE g n Wx X (.Call (.Name "sorted" p) [e] [] pos) (.srt m) := by
  obtain ⟨h1, h2, h3, h4⟩ := cGlo_ok h
  have m1 : X.mg "sorted" = none := by rw [ho.hmg]; exact ho.ge.blt _ h2
  refine PE.imp (pe_callB cr_sortedPT (ho.gl h1) m1 (by decide +kernel) (pa_cons he pa_nil (ns _ _)) h4 h3 (ns _ _) rfl) fun σ H Q q => ?_
  obtain ⟨w, Fr, ρ, S, hs, hen, hp⟩ := q
  refine ⟨w, Fr, ρ, S, hs, hen, Post.bind hp fun x S1 w1 H1 vx l1 hs1 rx hp1 => ?_⟩
  obtain ⟨d, e1, hq⟩ := post_opt hp1
  clear hp1
  cases x <;> first
    | (cases e1; done)
    | skip
  rename_i ds
  obtain ⟨l, vs, rfl, hl, r⟩ := seq_of hs1 rx rfl
  simp only [srtV] at e1
  split at e1
  · rename_i ts ht
    split at e1
    · rename_i hb
      cases e1
      obtain ⟨as, q1, q2, q3⟩ := tups_rep r ht
      subst q1
      have two : ∀ t ∈ ts, t = [t.getD 0 0, t.getD 1 0] := fun t htm => by
        have z := List.all_eq_true.mp hb t htm
        match t, z with
        | [i, j], _ => rfl
        | [], z => simp at z
        | [_], z => simp at z
        | _ :: _ :: _ :: _, z => simp at z
      have zfst : (as.zip ts).map (fun p => V.ref p.1) = as.map V.ref := by
        have z := List.map_fst_zip (l₁ := as) (l₂ := ts) (by omega)
        rw [show (as.zip ts).map (fun p => V.ref p.1) = ((as.zip ts).map Prod.fst).map V.ref by rw [List.map_map]; rfl, z]
      have zsnd : (as.zip ts).map (·.2) = ts := List.map_snd_zip (by omega)
      have zmem : ∀ p ∈ as.zip ts, p.2 ∈ ts := fun p hp => by rw [← zsnd]; exact List.mem_map_of_mem hp
      have inK : ∀ q ∈ (as.zip ts).map (fun p => (p.1, p.2.getD 0 0, p.2.getD 1 0)), SqT g.K w1.H0 q.1 [.int q.2.1, .int q.2.2] := fun q hq => by
        obtain ⟨p, hp, rfl⟩ := List.mem_map.mp hq
        have z := q3 p hp
        rw [two _ (zmem p hp)] at z
        exact z
      refine ⟨l, (as.zip ts).map fun p => (p.1, p.2.getD 0 0, p.2.getD 1 0), rfl, by rw [ho.hK, List.map_map]; show SqL _ _ _ ((as.zip ts).map fun p => V.ref p.1); rw [zfst]; exact hl, fun q hq => by rw [ho.hK]; exact sqT_same hs1.h0 (inK q hq), fun L b pm srt nb => ?_⟩
      obtain ⟨s2, le2⟩ := hs1.data (o := .lst (L.map fun q => V.ref q.1)) nb
      have eL : L.map (fun q => [q.2.1, q.2.2]) = sortT ts := by
        refine uniq_perm _ _ ?_ (sortT_sorted _) ?_
        · rw [List.pairwise_map]
          refine srt.imp fun {x y} z => ?_
          rw [← lexB_ltI]; exact z
        · refine (pm.map _).trans ?_
          rw [List.map_map]
          have : (as.zip ts).map ((fun q : Addr × Int × Int => [q.2.1, q.2.2]) ∘ fun p => (p.1, p.2.getD 0 0, p.2.getD 1 0)) = ts := by
            rw [← zsnd]
            rw [zsnd]
            conv => rhs; rw [← zsnd]
            refine List.map_congr_left fun p hp => ?_
            exact (two _ (zmem p hp)).symm
          rw [this]
          exact (sortT_perm ts).symm
      rw [← eL] at hq
      refine hq _ _ _ le2 s2 (.lst upd_same ?_)
      have gen : ∀ L' : List (Addr × Int × Int), (∀ q ∈ L', SqT g.K w1.H0 q.1 [.int q.2.1, .int q.2.2]) → Rgs g ⟨w1.al, upd w1.H0 b (.lst (L.map fun q => V.ref q.1))⟩ ((L'.map fun q => [q.2.1, q.2.2]).map tupD) (L'.map fun q => V.ref q.1) := fun L' => by
        induction L' with
        | nil => intro _; exact .nil
        | cons q L' ih =>
          intro hq'
          exact .cons (.tup (sqT_same le2.hp (hq' q List.mem_cons_self)) (.cons (.int _) (.cons (.int _) .nil))) (ih fun z hz => hq' z (List.mem_cons_of_mem _ hz))
      exact gen L fun q hq' => inK q (pm.mem_iff.mp hq')
    · cases e1
  · cases e1
theorem se_slen (ho : XOk g n Wx c X) (hh : c.hot = false) {e : Expr} {m : ME} {p p2 q pos : Pos} (h : cGlo c "len" = some .blt) (h' : cGlo c "set" = some .blt) (ns : NoStar e) (he : SE g n Wx X e m) :
    SE g n Wx X (.Call (.Name "len" p) [.Call (.Name "set" p2) [e] [] q] [] pos) (.slen m) := by
  obtain ⟨h1, h2, h3, h4⟩ := cGlo_ok h
  obtain ⟨t1, t2, t3, t4⟩ := cGlo_ok h'
  have m1 : X.mg "len" = none := by rw [ho.hmg]; exact ho.ge.blt _ h2
  have m2 : X.mg "set" = none := by rw [ho.hmg]; exact ho.ge.blt _ t2
  have cm := ho.calm hh
  have inner := pe_callTy (p := p2) (pos := q) (cr_setM (M := mbX X.prog X.w) cm (relX _ _)) (ho.gl t1) m2 PyProof.Rows.boot_set (pa_cons he pa_nil (ns _ _)) t4 t3 (ns _ _) rfl
  refine PE.imp (pe_callB (cr_lenM (M := mbX X.prog X.w)) (ho.gl h1) m1 PySem.boot_len (pa_cons inner pa_nil rfl) h4 h3 rfl rfl) fun σ H Q q => ?_
  obtain ⟨w, Fr, ρ, S, hs, hen, hp⟩ := q
  refine ⟨w, Fr, ρ, S, hs, hen, Post.bind hp fun x S1 w1 H1 vx l1 hs1 rx hp1 => ?_⟩
  obtain ⟨d, e1, hq⟩ := post_opt hp1
  cases x <;> first
    | (cases e1; done)
    | skip
  rename_i ds
  cases rx with
  | lst hl r =>
    simp only [slenV] at e1
    split at e1
    · rename_i xs hx
      split at e1
      · rename_i hb
        cases e1
        obtain ⟨ev, ok⟩ := strsOf_rep r hx
        subst ev
        refine ⟨_, xs.map mkS, rfl, .of (hs1.h0 _ _ hl), by rw [List.length_map]; omega, fun a na => ⟨a, _, _, rfl, upd_same, fun ks nd hm => ?_⟩⟩
        obtain ⟨s2, le2⟩ := hs1.data (o := SetMO (mbX X.prog X.w) a (inTake (xs.map mkS) (xs.map mkS).length) (few (xs.map mkS) (xs.map mkS).length)) na
        have len : ks.length = (dedup xs).length := by
          have nd2 : ((dedup xs).map mkS).Nodup := by
            have q := dedup_nodup xs
            rw [List.nodup_iff_pairwise_ne] at q
            rw [List.nodup_iff_pairwise_ne, List.pairwise_map]
            exact q.imp fun z y => z (mkS_cps y)
          have pm : ks.Perm ((dedup xs).map mkS) := (List.perm_ext_iff_of_nodup nd nd2).mpr fun k => by
            rw [hm k, inTake_all, List.mem_map, List.mem_map]
            exact ⟨fun ⟨x, hx, e⟩ => ⟨x, (dedup_mem xs x).mpr hx, e⟩, fun ⟨x, hx, e⟩ => ⟨x, (dedup_mem xs x).mp hx, e⟩⟩
          rw [pm.length_eq, List.length_map]
        rw [len]
        exact hq _ _ _ le2 s2 (.int _)
      · cases e1
    · cases e1
end
end Mn
end
section
set_option Elab.async false
set_option linter.all false
set_option maxRecDepth 100000
set_option maxHeartbeats 1000000
/-! Snd7: methods, truth, what is walked, comprehensions. -/
namespace Mn
open PySem PySem.Spec PyProof.Rows L2
section
variable {g : G} {n : Nat} {Wx : WX} {c : CC} {X : Cx}
theorem no_call0 {k : Nat} {c : CC} {x : Str} {p pos : Pos} : cE k c (.Call (.Name x p) [] [] pos) = none := by
  cases k with
  | zero => rfl
  | succ k =>
    have e : bfOf x ([] : List Expr).length = none := by simp [bfOf]
    have e2 : cBlt (cE k c) c x [] = none := by unfold cBlt; rw [e]
    have e3 : ∀ fn, cCallv (cE k c) c fn [] = none := fun fn => by unfold cCallv; rw [if_pos (by simp)]
    have e5 : ∀ f, cXc c f [] = none := fun f => by unfold cXc; cases c.ex <;> rfl
    have e4 : cCall (cE k c) c (.Name x p) [] pos = none := by
      simp only [cCall, e2, e3, e5]
      split <;> first
        | rfl
        | (split <;> rfl)
    have e6 : cOb (fun e => cE k c e) c (.Call (.Name x p) [] [] pos) = none := by
      unfold cOb
      split
      · rfl
      · simp only [List.isEmpty_nil, if_true, cObC]
        split <;> first
          | rfl
          | (split <;> first
              | rfl
              | simp)
          | simp
    show (match cOb (fun e => cE k c e) c (.Call (.Name x p) [] [] pos) with
      | some m => some m
      | none => cE1 (fun c e => cE k c e) c (.Call (.Name x p) [] [] pos)) = none
    rw [e6]
    show (cCall (cE k c) c (.Name x p) [] pos).map _ = none
    rw [e4]; rfl
/-- o is no bare super() -/
theorem base_of {k : Nat} {c : CC} {o : Expr} {m : ME} (h : cE k c o = some m) (f : Str) (env : PySem.Env) : attributeBase o f env (eval o env) = eval o env := by
  cases o <;> first
    | rfl
    | (rename_i fn args kws pos
       cases fn <;> first
         | rfl
         | (cases args <;> first
             | rfl
             | (cases kws <;> first
                 | rfl
                 | (rw [no_call0] at h; cases h)))
         | (cases args <;> cases kws <;> rfl))

def mfN : MF → String
  | .join => "join"
  | .count => "count"
  | .lcount => "count"
  | .index => "index"
  | .append => "append"
  | .get2 => "get"
  | .pop => "pop"
  | .split => "split"
theorem mt_tyV {w : Wd} {Fr H : Hp} {S : Sto} {m : MF} {x : D} {v : V} (hK : X.K = g.K) (hs : StOk g w Fr H S) (h : Rg g w x v) (e : rcv S m x = true) :
    (m = .join ∨ m = .count ∨ m = .split → tyV X.K "str" v H) ∧ (m = .append → tyV X.K "list" v H) ∧ (m = .lcount ∨ m = .index → tyV X.K "list" v H) := by
  refine ⟨fun em => ?_, fun em => ?_, fun em => ?_⟩
  · rcases em with rfl | rfl | rfl <;> cases h <;> first
      | rfl
      | cases e
  · subst em
    cases h <;> first
      | cases e
      | (rename_i i a ha
         simp only [rcv] at e
         split at e
         · rename_i xs hg
           obtain ⟨b, h1, h2, h3, vs, h4, h5⟩ := hs.live _ _ hg
           rw [ha] at h1; cases h1
           exact .inl ⟨rfl, _, .of h4⟩
         · cases e)
  · rcases em with rfl | rfl <;> cases h <;> first
      | (cases e; done)
      | (rename_i xs a vs ha r
         exact .inl ⟨rfl, _, .of (hs.h0 _ _ ha)⟩)
theorem se_mth (ho : XOk g n Wx c X) {k : Nat} {c' : CC} {o e : Expr} {es : List Expr} {mo : ME} {ms : List ME} {mf : MF} {f : Str} {apos pos : Pos} {b : Bool} (hf : mfOf f (e :: es).length b = some mf) (hline : (apos.endLine == pos.line) = true) (hc : cE k c' o = some mo) (h1 : SE g n Wx X o mo) (ns : NoStar e)
    (hpl : starEach es X.env = es.map fun e => (false, eval e X.env)) (hlen : es.length < 20) (ha : SA g n Wx X (e :: es) ms) :
    SE g n Wx X (.Call (.Attribute o f apos) (e :: es) [] pos) (.mth mf mo ms) := by
  have fin : ∀ σ H Q (T : String) (r : V → List V → Hp → VK → Prop), (∀ w Fr H S x v, StOk g w Fr H S → Rg g w x v → rcv S mf x = true → tyV X.K T v H) → (∀ v vs H Q, rM g Wx mf v vs H Q → r v vs H Q) →
      tE g (callF g.T n) Wx (.mth mf mo ms) σ H Q → tBM X.K T r (tE g (callF g.T n) Wx mo) (tA g (callF g.T n) Wx ms) σ H Q := fun σ H Q T r hT hr q => by
    obtain ⟨w, Fr, ρ, S, hs, he, hp⟩ := q
    refine ⟨w, Fr, ρ, S, hs, he, Post.bind hp fun x S1 w1 H1 vx l1 hs1 rx hp1 => ?_⟩
    split at hp1
    · rename_i hc
      refine ⟨hT _ _ _ _ _ _ hs1 rx hc, w1, Fr, ρ, S1, hs1, he.mono l1, Post.bind hp1 fun ys S2 w2 H2 vy l2 hs2 ry hp2 => ?_⟩
      exact hr _ _ _ _ ⟨w2, Fr, σ, S2, x, ys, hs2, rx.mono l2, ry, hp2⟩
    · exact False.elim hp1
  have plain : ∀ p : Pos, (backTo p (starEach es X.env)).any (·.1) = false := fun p => by
    rw [hpl]
    unfold backTo
    rw [List.map_map, List.any_map, List.any_eq_false]
    intro e _
    exact Bool.false_ne_true
  have few : ((backTo pos (starEach (e :: es) X.env)).all (fun x => !x.1) && (backToKw pos (keywordEach [] X.env)).all (fun x => x.1.isSome)
      && decide ((e :: es).length + ([] : List Keyword).length + (if ([] : List Keyword).isEmpty then 0 else 1) < 30)) = true := by
    rw [Bool.and_eq_true, Bool.and_eq_true]
    refine ⟨⟨?_, rfl⟩, ?_⟩
    · rw [ns, hpl]
      unfold backTo
      rw [List.all_map, List.all_cons, List.all_map]
      rw [Bool.and_eq_true]
      refine ⟨rfl, ?_⟩
      rw [List.all_eq_true]
      intro e _
      rfl
    · rw [decide_eq_true_eq]
      simp
      omega
  unfold mfOf at hf
  split at hf
  · rename_i z; obtain ⟨rfl, _⟩ := z; cases hf
    exact PE.imp (pe_bm PySem.F.plainAttrs_str PySem.F.slot_str_join PySem.F.type_str_join (ok_join (Wx := Wx) ho.hK) h1 ha (base_of hc _ _) few hline (ns _ _) (plain _)) fun σ H Q q => fin σ H Q _ _ (fun w Fr H S x v a b d => (mt_tyV ho.hK a b d).1 (.inl rfl)) (fun _ _ _ _ z => z) q
  split at hf
  · rename_i z; obtain ⟨rfl, _⟩ := z; cases hf
    exact PE.imp (pe_bm PySem.F.plainAttrs_list PySem.F.slot_list_append PySem.F.type_list_append (ok_append (g := g) (Wx := Wx)) h1 ha (base_of hc _ _) few hline (ns _ _) (plain _)) fun σ H Q q => fin σ H Q _ _ (fun w Fr H S x v a b d => (mt_tyV ho.hK a b d).2.1 rfl) (fun _ _ _ _ z => z) q
  split at hf
  · rename_i z; obtain ⟨rfl, _⟩ := z
    cases b with
    | true =>
      cases hf
      exact PE.imp (pe_bm PySem.F.plainAttrs_list PySem.F.slot_list_count PySem.F.type_list_count (ok_lcount (g := g) (Wx := Wx) ho.hK) h1 ha (base_of hc _ _) few hline (ns _ _) (plain _)) fun σ H Q q => fin σ H Q _ _ (fun w Fr H S x v a b d => (mt_tyV ho.hK a b d).2.2 (.inl rfl)) (fun _ _ _ _ z => z) q
    | false =>
      cases hf
      exact PE.imp (pe_bm PySem.F.plainAttrs_str PySem.F.slot_str_count PySem.F.type_str_count (ok_count (g := g) (Wx := Wx)) h1 ha (base_of hc _ _) few hline (ns _ _) (plain _)) fun σ H Q q => fin σ H Q _ _ (fun w Fr H S x v a b d => (mt_tyV ho.hK a b d).1 (.inr (.inl rfl))) (fun _ _ _ _ z => z) q
  split at hf
  · rename_i z; obtain ⟨rfl, _⟩ := z; cases hf
    exact PE.imp (pe_bm PySem.F.plainAttrs_list PySem.F.slot_list_index PySem.F.type_list_index (ok_index (g := g) (Wx := Wx) ho.hK) h1 ha (base_of hc _ _) few hline (ns _ _) (plain _)) fun σ H Q q => fin σ H Q _ _ (fun w Fr H S x v a b d => (mt_tyV ho.hK a b d).2.2 (.inr rfl)) (fun _ _ _ _ z => z) q
  split at hf
  · rename_i z; obtain ⟨rfl, _⟩ := z; cases hf
    exact PE.imp (pe_bm PySem.F.plainAttrs_str PySem.F.slot_str_split PySem.F.type_str_split (ok_split (g := g) (Wx := Wx)) h1 ha (base_of hc _ _) few hline (ns _ _) (plain _)) fun σ H Q q => fin σ H Q _ _ (fun w Fr H S x v a b d => (mt_tyV ho.hK a b d).1 (.inr (.inr rfl))) (fun _ _ _ _ z => z) q
  cases hf

theorem evs2 {C : Nat → List D → Sto → R D} {a b : ME} {ρ : Env} {S : Sto} {β : Type} (F : List D → Sto → R β) : (evs C [a, b] ρ S).bind F = (ev C a ρ S).bind fun x S1 => (ev C b ρ S1).bind fun y S2 => F [x, y] S2 := by
  simp only [evs]
  cases ev C a ρ S with
  | ok x S1 =>
    simp only [R.bind]
    cases ev C b ρ S1 <;> rfl
  | exc _ _ => rfl
  | bad => rfl
/-- a dict with texts as keys is asked -/
theorem dx_lookup {K : PySem.W.Frag} {fa : Nat → Addr} {w : Wd} {k : List Nat} : ∀ {ks : List (List Nat)} {xs : List D} {vs : List V}, Reps K fa w xs vs → match (ks.zip xs).lookup k with
    | none => valV ((ks.map fun k => (Sum.inr (mkS k) : Key)).zip vs) (Sum.inr (mkS k)) = none
    | some d => ∃ v, valV ((ks.map fun k => (Sum.inr (mkS k) : Key)).zip vs) (Sum.inr (mkS k)) = some v ∧ Rep K fa w d v
  | [], _, _, _ => rfl
  | _ :: _, [], _, .nil => rfl
  | a :: ks, d :: xs, v :: vs, .cons r rs => by
    have ih := dx_lookup (k := k) (ks := ks) rs
    rw [List.zip_cons_cons, List.map_cons, List.zip_cons_cons, List.lookup_cons]
    unfold valV at ih ⊢
    by_cases h : k = a
    · subst h
      rw [beq_self_eq_true]
      refine ⟨v, ?_, r⟩
      rw [List.find?_cons_of_pos (by simp)]; rfl
    · rw [beq_eq_false_iff_ne.mpr h]
      rw [List.find?_cons_of_neg (by
        simp only [decide_eq_true_eq]
        intro z
        have z := Sum.inr.inj z
        have := congrArg (fun s : Str => s.cps.toList) z
        exact h (by simpa [mkS] using this.symm))]
      exact ih
/-- d.get(k, x) -/
theorem se_get2 (ho : XOk g n Wx c X) {k : Nat} {c' : CC} {o a b : Expr} {mo ma mb : ME} {apos pos : Pos} (hline : (apos.endLine == pos.line) = true) (hc : cE k c' o = some mo) (h1 : SE g n Wx X o mo) (nsa : NoStar a) (nsb : NoStar b)
    (ha : SE g n Wx X a ma) (hb : SE g n Wx X b mb) : SE g n Wx X (.Call (.Attribute o "get" apos) [a, b] [] pos) (.mth .get2 mo [ma, mb]) := by
  have hu := ho.hu
  have trees : backTo pos (starEach [a, b] X.env) = [(false, eval a X.env), (false, eval b X.env)] := by rw [nsa, nsb]; rfl
  refine PE.imp (pe_dget2 (by omega) h1 ha hb ⟨base_of hc _ _, by rw [trees]; rfl, hline, trees⟩) fun σ H Q q => ?_
  obtain ⟨w, Fr, ρ, S, hs, he, hp⟩ := q
  refine ⟨w, Fr, ρ, S, hs, he, Post.bind hp fun x S1 w1 H1 vx l1 hs1 rx hp1 => ?_⟩
  split at hp1
  · rename_i hr
    rw [evs2] at hp1
    cases rx <;> first
      | (cases hr; done)
      | skip
    case dx ks xs ad vs hH rr =>
      refine ⟨ad, rfl, .inl ⟨_, .inl (hs1.h0 _ _ hH)⟩, w1, Fr, ρ, S1, hs1, he.mono l1, Post.bind hp1 fun y S2 w2 H2 vy l2 hs2 ry hp2 => ?_⟩
      refine ⟨w2, Fr, ρ, S2, hs2, (he.mono l1).mono l2, Post.bind hp2 fun z S3 w3 H3 vz l3 hs3 rz hp3 => ?_⟩
      cases ry <;> first
        | exact False.elim hp3
        | skip
      rename_i kx _ _
      have hp3 : Post g Wx (Rg g) w3 Fr σ (.ok (((ks.zip xs).lookup kx).getD z) S3) Q := hp3
      have hH3 := hs3.h0 _ _ (l3.hp _ _ (l2.hp _ _ hH))
      have kl := dx_lookup (k := kx) (ks := ks) ((rr.mono l2).mono l3)
      refine ⟨_, DGet.k (k := (Sum.inr (mkS kx) : Key)) hH3, ?_⟩
      cases hl : (ks.zip xs).lookup kx with
      | none =>
        rw [hl] at kl
        rw [kl]
        rw [hl] at hp3
        exact Post.ok hp3 hs3 rz
      | some d =>
        rw [hl] at kl
        obtain ⟨v, e1, e2⟩ := kl
        rw [e1]
        rw [hl] at hp3
        exact Post.ok hp3 hs3 e2
    rename_i i ad ha'
    simp only [rcv] at hr
    split at hr
    · rename_i kvs hg
      obtain ⟨b', q1, q2, q3, vs, q4, q5⟩ := hs1.live _ _ hg
      rw [ha'] at q1; cases q1
      refine ⟨ad, rfl, .inl ⟨vs, .inl q4⟩, w1, Fr, ρ, S1, hs1, he.mono l1, Post.bind hp1 fun y S2 w2 H2 vy l2 hs2 ry hp2 => ?_⟩
      refine ⟨w2, Fr, ρ, S2, hs2, (he.mono l1).mono l2, Post.bind hp2 fun z S3 w3 H3 vz l3 hs3 rz hp3 => ?_⟩
      cases ry <;> first
        | exact False.elim hp3
        | skip
      rename_i kk
      simp only [mfV] at hp3
      cases hg3 : S3.get i with
      | none => rw [hg3] at hp3; exact False.elim hp3
      | some cc =>
        rw [hg3] at hp3
        cases cc with
        | lst _ => exact False.elim hp3
        | dct kvs3 =>
          obtain ⟨b3, r1, r2, r3, vs3, r4, r5⟩ := hs3.live _ _ hg3
          have al3 : w3.al i = some ad := l3.al _ _ (l2.al _ _ ha')
          rw [al3] at r1; cases r1
          have kl := krep_lookup (k := kk) r5
          have hp3 : Post g Wx (Rg g) w3 Fr σ (.ok ((kvs3.lookup kk).getD z) S3) Q := hp3
          refine ⟨valV vs3 (Sum.inl kk : Key), DGet.k (k := (Sum.inl kk : Key)) r4, ?_⟩
          cases hl : kvs3.lookup kk with
          | none =>
            rw [hl] at kl
            rw [kl]
            rw [hl] at hp3
            exact Post.ok hp3 hs3 rz
          | some d =>
            rw [hl] at kl
            obtain ⟨v, e1, e2⟩ := kl
            rw [e1]
            rw [hl] at hp3
            exact Post.ok hp3 hs3 e2
    · cases hr
  · exact False.elim hp1
/-! ### truth -/
theorem truthy_rep {w : Wd} {d : D} {v : V} {b : Bool} {H : Hp} (r : Rg g w d v) (e : truthy d = some b) : TruV X.K v H b := by
  cases r <;> first
    | (cases e; done)
    | (cases e; rfl)
theorem st_truth {e : Expr} {m : ME} (h : SE g n Wx X e m) (he : ∀ whole, isTrue e X.env whole = (do let v ← whole; standAt e.pos; holding [v] (PySem.truthy v))) (hm : ∀ ρ S, evT (callF g.T n) m ρ S = (ev (callF g.T n) m ρ S).bind fun x S1 => ofOpt S1 (truthy x)) : ST g n Wx X e m := by
  refine PT.imp (pt_truth h he) fun σ H Q q => ?_
  obtain ⟨w, Fr, ρ, S, hs, he, hp⟩ := q
  rw [hm] at hp
  refine ⟨w, Fr, ρ, S, hs, he, Post.bind hp fun x S1 w1 H1 vx l1 hs1 rx hp1 => ?_⟩
  obtain ⟨b, e, hq⟩ := post_opt hp1
  exact ⟨b, truthy_rep rx e, hq.ok hs1 rfl⟩
end
end Mn
end
section
set_option Elab.async false
set_option linter.all false
set_option maxRecDepth 100000
set_option maxHeartbeats 1000000
/-! Snd8: targets, what is walked, comprehensions. -/
namespace Mn
open PySem PySem.Spec PyProof.Rows L2
section
variable {g : G} {w : Wd} {Fr H : Hp} {S : Sto} {p : Addr} {o o' : HO}
theorem StOk.frameData (s : StOk g w (upd Fr p o) H S) (nf : Fr p = none) : StOk g ⟨w.al, upd w.H0 p o⟩ Fr H S ∧ w.le ⟨w.al, upd w.H0 p o⟩ := by
  have n0 : w.H0 p = none := s.dj p o upd_same
  have hp : H p = some o := s.fr p o upd_same
  have le : w.le ⟨w.al, upd w.H0 p o⟩ := ⟨fun _ _ h => h, fun b u e => by
    show upd w.H0 p o b = some u
    rw [upd_ne (ne_of_none e n0)]; exact e⟩
  refine ⟨⟨fun b u e => ?_, fun b u e => ?_, fun a u e => ?_, s.lt, fun i c e => ?_, s.inj, s.lv⟩, le⟩
  · have e : upd w.H0 p o b = some u := e
    by_cases hb : b = p
    · subst hb; rw [upd_same] at e; cases e; exact hp
    · rw [upd_ne hb] at e; exact s.h0 _ _ e
  · exact s.fr _ _ (by rw [upd_ne (ne_of_none e nf)]; exact e)
  · show upd w.H0 p o a = none
    have ne := ne_of_none e nf
    rw [upd_ne ne]; exact s.dj a u (by rw [upd_ne ne]; exact e)
  · obtain ⟨a, h1, h2, h3, h4⟩ := s.live i c e
    have ne : a ≠ p := fun z => by rw [z, upd_same] at h3; cases h3
    refine ⟨a, h1, ?_, ?_, h4.mono le fun _ hz => hz⟩
    · show upd w.H0 p o a = none
      rw [upd_ne ne]; exact h2
    · rw [upd_ne ne] at h3; exact h3
theorem StOk.frameCell {c : Cell} (s : StOk g w (upd Fr p o) H S) (nf : Fr p = none) (hc : ∀ w', w.le w' → CellOk g w' H p c) :
    StOk g ⟨fun i => if i = S.nx then some p else w.al i, w.H0⟩ Fr H (S.new c) ∧ w.le ⟨fun i => if i = S.nx then some p else w.al i, w.H0⟩ := by
  have n0 : w.H0 p = none := s.dj p o upd_same
  have le : w.le ⟨fun i => if i = S.nx then some p else w.al i, w.H0⟩ := ⟨fun i x h => by
    show (if i = S.nx then some p else w.al i) = some x
    rw [if_neg (Nat.ne_of_lt (s.lt i x h))]; exact h, Same.refl _⟩
  have na : ∀ i d a, S.get i = some d → w.al i = some a → a ≠ p := fun i d a e h z => by
    obtain ⟨b, h1, _, h3, _⟩ := s.live i d e
    rw [h] at h1; cases h1
    rw [z, upd_same] at h3; cases h3
  refine ⟨⟨s.h0, fun b u e => ?_, fun a u e => ?_, fun i a e => ?_, fun i d e => ?_, fun i j d1 d2 a e1 e2 h1 h2 => ?_, fun i d e => ?_⟩, le⟩
  · exact s.fr _ _ (by rw [upd_ne (ne_of_none e nf)]; exact e)
  · exact s.dj a u (by rw [upd_ne (ne_of_none e nf)]; exact e)
  · show i < S.nx + 1
    have e : (if i = S.nx then some p else w.al i) = some a := e
    by_cases h : i = S.nx
    · omega
    · rw [if_neg h] at e
      have := s.lt i a e
      omega
  · rw [get_new] at e
    by_cases h : i = S.nx
    · rw [if_pos h] at e; cases e
      exact ⟨p, by show (if i = S.nx then some p else w.al i) = some p; rw [if_pos h], n0, nf, hc _ le⟩
    · rw [if_neg h] at e
      obtain ⟨a, h1, h2, h3, h4⟩ := s.live i d e
      have ne := na i d a e h1
      exact ⟨a, le.al _ _ h1, h2, by rw [upd_ne ne] at h3; exact h3, h4.mono le fun _ hz => hz⟩
  · have h1 : (if i = S.nx then some p else w.al i) = some a := h1
    have h2 : (if j = S.nx then some p else w.al j) = some a := h2
    rw [get_new] at e1 e2
    by_cases hi : i = S.nx
    · by_cases hj : j = S.nx
      · omega
      · rw [if_pos hi] at h1; cases h1
        rw [if_neg hj] at h2 e2
        exact absurd rfl (na j d2 p e2 h2)
    · by_cases hj : j = S.nx
      · rw [if_pos hj] at h2; cases h2
        rw [if_neg hi] at h1 e1
        exact absurd rfl (na i d1 p e1 h1)
      · rw [if_neg hi] at h1 e1
        rw [if_neg hj] at h2 e2
        exact s.inj i j d1 d2 a e1 e2 h1 h2
  · show i < S.nx + 1
    rcases List.mem_cons.mp e with e | e
    · cases e; omega
    · have := s.lv i d e; omega
theorem StOk.frameSet (s : StOk g w (upd Fr p o) H S) (nf : Fr p = none) : StOk g w (upd Fr p o') (upd H p o') S := by
  have n0 : w.H0 p = none := s.dj p o upd_same
  refine ⟨fun b u e => ?_, fun b u e => ?_, fun a u e => ?_, s.lt, fun i c e => ?_, s.inj, s.lv⟩
  · rw [upd_ne (ne_of_none e n0)]; exact s.h0 _ _ e
  · by_cases hb : b = p
    · subst hb; rw [upd_same] at e ⊢; exact e
    · rw [upd_ne hb] at e ⊢; exact s.fr _ _ (by rw [upd_ne hb]; exact e)
  · by_cases hb : a = p
    · subst hb; exact n0
    · rw [upd_ne hb] at e; exact s.dj a u (by rw [upd_ne hb]; exact e)
  · obtain ⟨a, h1, h2, h3, h4⟩ := s.live i c e
    have ne : a ≠ p := fun z => by rw [z, upd_same] at h3; cases h3
    refine ⟨a, h1, h2, ?_, h4.mono (Wd.le.refl _) fun z hz => ?_⟩
    · rw [upd_ne ne] at h3 ⊢; exact h3
    · rw [upd_ne ne]; exact hz
end

section
variable {g : G} {n : Nat} {Wx : WX} {c : CC} {X : Cx}
/-! ### targets -/
/-- a target as Mini has it -/
def gT (g : G) (t : Tgt) : TG := fun v σ H Q => ∃ w Fr S d ρ, StOk g w Fr H S ∧ Rg g w d v ∧ EnvOk g w ρ σ ∧
  (match t.set ρ d with
    | some ρ' => ∀ σ2, EnvOk g w ρ' σ2 → (∀ vs, t.within vs = true → wipe σ2 vs = wipe σ vs) → Q σ2 H
    | none => False)
theorem wipe_set {σ : L2.St} {i : Nat} {o : Option V} : ∀ {vs : List Nat}, i ∈ vs → wipe (σ.set i o) vs = wipe σ vs
  | [], h => nomatch h
  | v :: vs, h => by
    unfold L2.wipe
    by_cases hv : i ∈ vs
    · rw [wipe_set hv]
    · have hi : i = v := (List.mem_cons.mp h).resolve_right hv
      subst hi
      have gen : ∀ (ws : List Nat) (σ : L2.St), i ∉ ws → wipe (σ.set i o) ws = (wipe σ ws).set i o := fun ws => by
        induction ws with
        | nil => intro σ _; rfl
        | cons a r ih =>
          intro σ hn
          have hn' : i ≠ a ∧ i ∉ r := ⟨fun e => hn (e ▸ List.mem_cons_self), fun e => hn (List.mem_cons_of_mem _ e)⟩
          show (wipe (σ.set i o) r).set a none = ((wipe σ r).set a none).set i o
          rw [ih σ hn'.2, List.set_comm _ _ hn'.1]
      rw [gen vs σ hv, List.set_set]
theorem sg_name (ho : XOk g n Wx c X) {x : Str} {i : Nat} {pos : Pos} (h : cSto c x = some i) (hl : c.sc.names.lookup x = some .local ∨ X.fn x = true) : PG X (.Name x pos) (gName i) := by
  obtain ⟨h1, h2, _⟩ := cSto_ok h
  exact pg_name (by rw [ho.hN]; exact ho.nd) (by rw [ho.hN]; exact h1) (by rw [ho.hsc]; exact h2) (hl.elim (fun z => .inr (by rw [ho.hsc]; exact z)) .inl)
theorem sto_fn (ho : XOk g n Wx c X) {x : Str} {i : Nat} (h : cSto c x = some i) : c.sc.names.lookup x = some .local ∨ X.fn x = true := by
  obtain ⟨_, _, h3⟩ := cSto_ok h
  exact h3.elim .inl fun z => .inr (by rw [ho.wr z])
def gNs : List Nat → TGs
  | [] => gNil
  | i :: is => gCons (gName i) (gNs is)
theorem cTgts_cons {e : Expr} {r : List Expr} {is : List Nat} (h : cTgts c (e :: r) = some is) : ∃ x pos i is', e = .Name x pos ∧ cSto c x = some i ∧ cTgts c r = some is' ∧ is = i :: is' := by
  unfold cTgts at h
  split at h
  · rename_i heq; cases heq
  · rename_i x pos r' heq
    cases heq
    split at h
    · rename_i i is' e1 e2
      cases h
      exact ⟨x, pos, i, is', rfl, e1, e2, rfl⟩
    · cases h
  · cases h
theorem sgs_names (ho : XOk g n Wx c X) : ∀ {es : List Expr} {is : List Nat}, cTgts c es = some is → PGs X es (gNs is) ∧ (assignEach es X.env).length = is.length ∧ (assignEach es X.env).findIdx? (·.1) = none
  | [], is, h => by cases h; exact ⟨pgs_nil, rfl, rfl⟩
  | e :: r, is, h => by
    obtain ⟨x, pos, i, is', rfl, e1, e2, rfl⟩ := cTgts_cons h
    obtain ⟨h1, h2, h3⟩ := sgs_names ho e2
    refine ⟨pgs_cons (sg_name ho e1 (sto_fn ho e1)) h1 rfl, ?_, ?_⟩
    · show (assignEach r X.env).length + 1 = is'.length + 1
      rw [h2]
    · show List.findIdx? (·.1) ((false, _) :: assignEach r X.env) = none
      rw [List.findIdx?_cons, h3]
      rfl
theorem gNs_ok {g : G} : ∀ {is : List Nat} {ds : List D} {vs : List V} {w : Wd} {ρ : Env} {σ : L2.St} {H : Hp} {Q : L2.St → Hp → Prop}, is.length = ds.length → (∀ i ∈ is, ∀ j a, g.exs = some (j, a) → j ≠ i) → Rgs g w ds vs → EnvOk g w ρ σ →
    (∀ σ2, EnvOk g w ((is.zip ds).foldl (fun r p => r.set p.1 (some p.2)) ρ) σ2 → (∀ ws : List Nat, (∀ i ∈ is, i ∈ ws) → wipe σ2 ws = wipe σ ws) → Q σ2 H) → gNs is vs σ H Q
  | [], [], _, _, _, _, _, _, _, _, .nil, he, k => ⟨rfl, k _ he fun _ _ => rfl⟩
  | [], _ :: _, _, _, _, _, _, _, h, _, _, _, _ => by cases h
  | _ :: _, [], _, _, _, _, _, _, h, _, _, _, _ => by cases h
  | i :: is, d :: ds, _, w, ρ, σ, H, Q, h, hn, .cons r rs, he, k => by
    refine ⟨_, _, rfl, gNs_ok (is := is) (Nat.succ.inj h) (fun i' hi => hn i' (List.mem_cons_of_mem _ hi)) rs (he.set i r (hn i List.mem_cons_self)) fun σ2 e2 hw => k σ2 e2 fun ws hs => ?_⟩
    rw [hw ws fun j hj => hs j (List.mem_cons_of_mem _ hj)]
    exact wipe_set (hs i List.mem_cons_self)
theorem cTgts_nex (ho : XOk g n Wx c X) : ∀ {es : List Expr} {is : List Nat}, cTgts c es = some is → ∀ i ∈ is, ∀ j a, g.exs = some (j, a) → j ≠ i
  | [], is, h, i, hi => by cases h; exact nomatch hi
  | e :: r, is, h, i, hi => by
    obtain ⟨x, pos, i0, is', rfl, e1, e2, rfl⟩ := cTgts_cons h
    rcases List.mem_cons.mp hi with rfl | hi
    · exact ho.nex e1
    · exact cTgts_nex ho e2 i hi
theorem sg_of (ho : XOk g n Wx c X) {e : Expr} {t : Tgt} (h : cTgt c e = some t) : PG X e (gT g t) := by
  cases e <;> first
    | (unfold cTgt at h; cases h; done)
    | skip
  · rename_i x pos
    obtain ⟨i, e1, rfl⟩ := map_some (show (cSto c x).map Tgt.nm = some t from h)
    refine ⟨fun pins s σ H v u Q I r q => ?_⟩
    refine (sg_name ho e1 (sto_fn ho e1)).run pins s σ H v u Q I r ?_
    obtain ⟨w, Fr, S, d, ρ, hs, hr, he, k⟩ := q
    refine k (σ.set i (some v)) (he.set i hr (ho.nex e1)) fun vs hv => wipe_set ?_
    exact List.elem_iff.mp hv
  · rename_i es kk pos
    obtain ⟨is, e1, rfl⟩ := map_some (show (cTgts c es).map Tgt.tp = some t from h)
    obtain ⟨h1, h2, h3⟩ := sgs_names ho e1
    refine ⟨fun pins s σ H v u Q I r q => ?_⟩
    have hpg : PG X (.Tuple es kk pos) (gTup X.K is.length (gNs is)) := by
      cases hh : c.hot with
      | false => exact pg_tup (ho.calm hh) h1 h2 h3
      | true => exact HotZ.pg_tupH (ho.hotC hh) h1 h2 h3
    refine hpg.run pins s σ H v u Q I r ?_
    obtain ⟨w, Fr, S, d, ρ, hs, hr, he, k⟩ := q
    cases hr with
    | tup ha rs =>
      rename_i ds a vs
      simp only [Tgt.set] at k
      split at k
      · rename_i ρ' eq
        split at eq
        · rename_i hl
          cases eq
          refine ⟨a, vs, rfl, by rw [ho.hK]; exact sqT_same hs.h0 ha, by rw [← rs.length, hl], gNs_ok hl (cTgts_nex ho e1) rs he fun σ2 e2 hw => k σ2 e2 fun ws hin => hw ws fun j hj => ?_⟩
          exact List.elem_iff.mp (List.all_eq_true.mp hin j hj)
        · cases eq
      · exact False.elim k
    | _ => exact False.elim k

/-! ### what is walked -/
abbrev RI (g : G) (w : Wd) (ds : List D) (J : It) : Prop := Gives g w J ds
def tI (g : G) (C : Nat → List D → Sto → R D) (Wx : WX) (m : MI) : TI := fun σ H Q => ∃ w Fr ρ S, StOk g w Fr H S ∧ EnvOk g w ρ σ ∧ Post g Wx (RI g) w Fr σ (evI C m ρ S) Q
abbrev SI (g : G) (n : Nat) (Wx : WX) (X : Cx) (tg e : Expr) (m : MI) : Prop := PI X tg e (tI g (callF g.T n) Wx m)
theorem si_seq (ho : XOk g n Wx c X) {tg e : Expr} {m : ME} (h : SE g n Wx X e m) : SI g n Wx X tg e (.seq m) := by
  refine PI.imp (pi_val (piv_list.or (piv_tup.or piv_str)) h) fun σ H R q => ?_
  obtain ⟨w, Fr, ρ, S, hs, he, hp⟩ := q
  refine ⟨w, Fr, ρ, S, hs, he, Post.bind hp fun x S1 w1 H1 vx l1 hs1 rx hp1 => ?_⟩
  obtain ⟨ds, e, hq⟩ := post_opt hp1
  cases rx <;> first
    | (cases e; done)
    | (rename_i xs a vs ha r
       cases e
       first
         | exact .inl ⟨_, _, rfl, .of (hs1.h0 _ _ ha), by rw [ho.hK]; exact Post.ok hq hs1 (gives_list (.of ha) r)⟩
         | exact .inr (.inl ⟨_, _, rfl, by rw [ho.hK]; exact sqT_same hs1.h0 ha, by rw [ho.hK]; exact Post.ok hq hs1 (gives_tup ha r)⟩))
    | (rename_i x h1 h2
       cases e
       exact .inr (.inr ⟨_, rfl, Post.ok hq hs1 (gives_str h1)⟩))
theorem B62_eq : B62 = 2 ^ 62 := by decide
theorem rng_some {lo hi : Int} {ds : List D} (h : rngItems lo hi = some ds) : (-(2 ^ 62) ≤ lo ∧ lo < 2 ^ 62 ∧ -(2 ^ 62) ≤ hi ∧ hi < 2 ^ 62) ∧ ds = (List.range (hi - lo).toNat).map fun (i : Nat) => D.int (lo + i) := by
  unfold rngItems at h
  split at h
  · rename_i q
    have q1 := ltN_ok q.1
    have q2 := ltN_ok q.2
    rw [B62_eq] at q1 q2
    cases h
    exact ⟨⟨by omega, by omega, by omega, by omega⟩, rfl⟩
  · cases h
theorem si_rng1 (ho : XOk g n Wx c X) {tg a : Expr} {m : ME} {p pos : Pos} (h : cGlo c "range" = some .blt) (ns : NoStar a) (ha : SE g n Wx X a m) : SI g n Wx X tg (.Call (.Name "range" p) [a] [] pos) (.rng1 m) := by
  obtain ⟨h1, h2, h3, h4⟩ := cGlo_ok h
  have m1 : X.mg "range" = none := by rw [ho.hmg]; exact ho.ge.blt _ h2
  refine PI.imp (pi_range1 (ho.gl h1) m1 (pa_cons ha pa_nil (ns _ _)) (ns _ _)) fun σ H R q => ?_
  obtain ⟨w, Fr, ρ, S, hs, he, hp⟩ := q
  refine ⟨w, Fr, ρ, S, hs, he, Post.bind hp fun x S1 w1 H1 vx l1 hs1 rx hp1 => ?_⟩
  cases rx <;> first
    | exact False.elim hp1
    | (rename_i j
       obtain ⟨ds, e, hq⟩ := post_opt hp1
       obtain ⟨⟨_, _, b3, b4⟩, rfl⟩ := rng_some e
       refine ⟨j, rfl, b3, b4, ?_⟩
       rw [Int.sub_zero] at hq
       exact Post.ok hq hs1 gives_range)
theorem si_rng2 (ho : XOk g n Wx c X) {tg a b : Expr} {m m2 : ME} {p pos : Pos} (h : cGlo c "range" = some .blt) (ns : NoStar a) (ns2 : NoStar b) (ha : SE g n Wx X a m) (hb : SE g n Wx X b m2) : SI g n Wx X tg (.Call (.Name "range" p) [a, b] [] pos) (.rng2 m m2) := by
  obtain ⟨h1, h2, h3, h4⟩ := cGlo_ok h
  have m1 : X.mg "range" = none := by rw [ho.hmg]; exact ho.ge.blt _ h2
  refine PI.imp (pi_range2 (ho.gl h1) m1 (pa_cons ha (pa_cons hb pa_nil (ns2 _ _)) (ns _ _)) (by rw [ns, ns2]; rfl) (ns2 _ _)) fun σ H R q => ?_
  obtain ⟨w, Fr, ρ, S, hs, he, hp⟩ := q
  refine ⟨w, Fr, ρ, S, hs, he, Post.bind hp fun x S1 w1 H1 vx l1 hs1 rx hp1 => ?_⟩
  refine ⟨w1, Fr, ρ, S1, hs1, he.mono l1, Post.bind hp1 fun y S2 w2 H2 vy l2 hs2 ry hp2 => ?_⟩
  cases rx <;> first
    | exact False.elim hp2
    | (cases ry <;> first
        | exact False.elim hp2
        | (rename_i i j
           obtain ⟨ds, e, hq⟩ := post_opt hp2
           obtain ⟨b, rfl⟩ := rng_some e
           exact ⟨i, j, rfl, b, Post.ok hq hs2 gives_range⟩))
theorem si_zip (ho : XOk g n Wx c X) {elts : List Expr} {kk : Nat} {tpos : Pos} {a b : Expr} {m m2 : ME} {p pos : Pos} (h : cGlo c "zip" = some .blt) (ns : NoStar a) (ns2 : NoStar b) (ha : SE g n Wx X a m) (hb : SE g n Wx X b m2) :
    SI g n Wx X (.Tuple elts kk tpos) (.Call (.Name "zip" p) [a, b] [] pos) (.zip m m2) := by
  obtain ⟨h1, h2, h3, h4⟩ := cGlo_ok h
  have m1 : X.mg "zip" = none := by rw [ho.hmg]; exact ho.ge.blt _ h2
  refine PI.imp (HotZ.pi_zip3 (ho.gl h1) m1 (pa_cons ha (pa_cons hb pa_nil (ns2 _ _)) (ns _ _)) (ns _ _) (by rw [ns2]; rfl)) fun σ H R q => ?_
  obtain ⟨w, Fr, ρ, S, hs, he, hp⟩ := q
  refine ⟨w, Fr, ρ, S, hs, he, Post.bind hp fun x S1 w1 H1 vx l1 hs1 rx hp1 => ?_⟩
  refine ⟨w1, Fr, ρ, S1, hs1, he.mono l1, Post.bind hp1 fun y S2 w2 H2 vy l2 hs2 ry hp2 => ?_⟩
  have rx := rx.mono l2
  cases rx <;> first
    | exact False.elim hp2
    | (cases ry <;> first
        | exact False.elim hp2
        | (rename_i xs a vs ha r ys b us hb r2
           first
             | exact .inl ⟨_, _, _, _, rfl, .inl ⟨.of (hs2.h0 _ _ ha), .of (hs2.h0 _ _ hb), by rw [ho.hK]; exact Post.ok hp2 hs2 (gives_zipL (.of ha) (.of hb) r r2)⟩⟩
             | exact .inl ⟨_, _, _, _, rfl, .inr ⟨by rw [ho.hK]; exact sqT_same hs2.h0 ha, by rw [ho.hK]; exact sqT_same hs2.h0 hb, by rw [ho.hK]; exact Post.ok hp2 hs2 (gives_zipT ha hb r r2)⟩⟩)
        | (rename_i x h1 h2 y h3 h4
           exact .inr ⟨_, _, rfl, Post.ok hp2 hs2 (gives_zipS h1 h3)⟩))
theorem si_enm (ho : XOk g n Wx c X) {elts : List Expr} {kk : Nat} {tpos : Pos} {a : Expr} {m : ME} {p pos : Pos} (h : cGlo c "enumerate" = some .blt) (ns : NoStar a) (ha : SE g n Wx X a m) :
    SI g n Wx X (.Tuple elts kk tpos) (.Call (.Name "enumerate" p) [a] [] pos) (.enm m) := by
  obtain ⟨h1, h2, h3, h4⟩ := cGlo_ok h
  have m1 : X.mg "enumerate" = none := by rw [ho.hmg]; exact ho.ge.blt _ h2
  refine PI.imp (pi_enum (ho.gl h1) m1 (pa_cons ha pa_nil (ns _ _)) (ns _ _)) fun σ H R q => ?_
  obtain ⟨w, Fr, ρ, S, hs, he, hp⟩ := q
  refine ⟨w, Fr, ρ, S, hs, he, Post.bind hp fun x S1 w1 H1 vx l1 hs1 rx hp1 => ?_⟩
  cases rx <;> first
    | exact False.elim hp1
    | (rename_i xs a vs ha r
       exact ⟨_, _, rfl, .of (hs1.h0 _ _ ha), by rw [ho.hK]; exact Post.ok hp1 hs1 (gives_enum (.of ha) r)⟩)
theorem si_enz (ho : XOk g n Wx c X) {elts : List Expr} {kk : Nat} {tpos : Pos} {a b : Expr} {m m2 : ME} {p p2 pos pos2 : Pos} (h : cGlo c "enumerate" = some .blt) (hz : cGlo c "zip" = some .blt) (ns : NoStar a) (ns2 : NoStar b) (ha : SE g n Wx X a m) (hb : SE g n Wx X b m2) :
    SI g n Wx X (.Tuple elts kk tpos) (.Call (.Name "enumerate" p) [.Call (.Name "zip" p2) [a, b] [] pos2] [] pos) (.enz m m2) := by
  obtain ⟨h1, h2, h3, h4⟩ := cGlo_ok h
  obtain ⟨t1, t2, t3, t4⟩ := cGlo_ok hz
  have m1 : X.mg "enumerate" = none := by rw [ho.hmg]; exact ho.ge.blt _ h2
  have m3 : X.mg "zip" = none := by rw [ho.hmg]; exact ho.ge.blt _ t2
  refine PI.imp (HotZ.pi_enz (ho.gl h1) m1 (ho.gl t1) m3 (pa_cons ha (pa_cons hb pa_nil (ns2 _ _)) (ns _ _)) (ns _ _) (by rw [ns2]; rfl)) fun σ H R q => ?_
  obtain ⟨w, Fr, ρ, S, hs, he, hp⟩ := q
  refine ⟨w, Fr, ρ, S, hs, he, Post.bind hp fun x S1 w1 H1 vx l1 hs1 rx hp1 => ?_⟩
  refine ⟨w1, Fr, ρ, S1, hs1, he.mono l1, Post.bind hp1 fun y S2 w2 H2 vy l2 hs2 ry hp2 => ?_⟩
  have rx := rx.mono l2
  cases rx <;> first
    | exact False.elim hp2
    | (cases ry <;> first
        | exact False.elim hp2
        | (rename_i xs a vs ha r ys b us hb r2
           exact ⟨_, _, _, _, rfl, .of (hs2.h0 _ _ ha), .of (hs2.h0 _ _ hb), by rw [ho.hK]; exact Post.ok hp2 hs2 (gives_enz (.of ha) (.of hb) r r2)⟩))
abbrev SIH (g : G) (n : Nat) (Wx : WX) (X : Cx) (tg e : Expr) (m : MI) : Prop := L2H.PIH X tg e (tI g (callF g.T n) Wx m)
theorem si_zipl (ho : XOk g n Wx c X) {elts : List Expr} {kk : Nat} {tpos : Pos} {a b : Expr} {m m2 : ME} {p pos : Pos} (h : cGlo c "zip" = some .blt) (ns : NoStar a) (ns2 : NoStar b) (ha : SE g n Wx X a m) (hb : SE g n Wx X b m2) :
    SIH g n Wx X (.Tuple elts kk tpos) (.Call (.Name "zip" p) [a, b] [] pos) (.zipl m m2) := by
  obtain ⟨h1, h2, h3, h4⟩ := cGlo_ok h
  have m1 : X.mg "zip" = none := by rw [ho.hmg]; exact ho.ge.blt _ h2
  have z := HotZ.pi_zipH (X := X) (p := p) (pos := pos) (tpos := tpos) (elts := elts) (kk := kk) (ho.gl h1) m1 (pa_cons ha (pa_cons hb pa_nil (ns2 _ _)) (ns _ _)) (ns _ _) (by rw [ns2]; rfl)
  refine ⟨fun pins s σ H R I q => z.run pins s σ H R I ?_⟩
  obtain ⟨w, Fr, ρ, S, hs, he, hp⟩ := q
  refine ⟨w, Fr, ρ, S, hs, he, Post.bind hp fun x S1 w1 H1 vx l1 hs1 rx hp1 => ?_⟩
  refine ⟨w1, Fr, ρ, S1, hs1, he.mono l1, Post.bind hp1 fun y S2 w2 H2 vy l2 hs2 ry hp2 => ?_⟩
  have rx := rx.mono l2
  cases rx <;> first
    | exact False.elim hp2
    | (cases ry <;> first
        | exact False.elim hp2
        | (rename_i xs a vs ha r ys b us hb r2
           exact ⟨_, _, _, _, rfl, .of (hs2.h0 _ _ ha), .of (hs2.h0 _ _ hb), by rw [ho.hK]; exact Post.ok hp2 hs2 (gives_zipH (.of ha) (.of hb) r r2)⟩))
end
end Mn
end
section
set_option Elab.async false
set_option linter.all false
set_option maxRecDepth 100000
set_option maxHeartbeats 2000000
/-! Snd9: comprehensions; every expression that Cmp takes. -/
namespace Mn
open PySem PySem.Spec PyProof.Rows L2
section
variable {g : G} {n : Nat} {Wx : WX} {c : CC} {X : Cx}
/-- the walk of an iterator that gives ds -/
theorem walk_of' {w : Wd} {J : It} {ds : List D} (h : Gives g w J ds) : Walk J ds.length (fun H => Same w.H0 H) (fun i H x H' => ∃ d, ds[i]? = some d ∧ NewIt g w H H' d x) := ⟨h.goes, h.stops, h.yields⟩
/-- an item has come: data as before, or new ones -/
theorem item_in {w w1 : Wd} {Fr H H' : Hp} {S : Sto} {d : D} {x : V} (l : w.le w1) (hs : StOk g w1 Fr H S) (h : NewIt g w H H' d x) :
    ∃ w2, w1.le w2 ∧ StOk g w2 Fr H' S ∧ Rg g w2 d x := by
  rcases h with ⟨rfl, r⟩ | ⟨T, es, vs, rfl, nT, rfl, rfl, r⟩ | ⟨P, T, k, y, z, e1, e2, rfl, nP, nT, ne, rfl, rfl, r1, r2⟩
  · exact ⟨w1, Wd.le.refl _, hs, r.mono l⟩
  · obtain ⟨s2, le⟩ := hs.data (o := .tup vs) nT
    exact ⟨_, le, s2, .tup (.of upd_same) ((r.mono l).mono le)⟩
  · obtain ⟨s2, le⟩ := hs.data (o := .tup [y, z]) nP
    obtain ⟨s3, le3⟩ := s2.data (p := T) (o := .tup [.int k, .ref P]) (by rw [upd_ne ne]; exact nT)
    have q1 : Rg g ⟨w1.al, upd w1.H0 P (.tup [y, z])⟩ (.tup [e1, e2]) (.ref P) := .tup (.of upd_same) (.cons ((r1.mono l).mono le) (.cons ((r2.mono l).mono le) .nil))
    exact ⟨_, le.trans le3, s3, .tup (.of upd_same) (.cons (.int k) (.cons (q1.mono le3) .nil))⟩
theorem post_nox {α β γ δ : Type} {rep : Wd → α → β → Prop} {rep2 : Wd → γ → δ → Prop} {w : Wd} {Fr : Hp} {σ : L2.St} {r : R α} {Q : β → Hp → Prop} {Q2 : δ → Hp → Prop} {f : α → Sto → R γ}
    (h : Post g Wx rep2 w Fr σ (r.nox.bind f) Q2) (k : ∀ a S1 w1 H1 b, w.le w1 → StOk g w1 Fr H1 S1 → rep w1 a b → Post g Wx rep2 w1 Fr σ (f a S1) Q2 → Q b H1) {σ' : L2.St} : Post g W0 rep w Fr σ' r Q := by
  cases r with
  | ok a S' => exact fun w2 H' b l2 s q => k a S' w2 H' b l2 s q (Post.mono l2 h)
  | exc c S' => exact False.elim h
  | bad => exact h
abbrev SCd (g : G) (n : Nat) (Wx : WX) (X : Cx) (ifs : List Expr) (m : Option ME) : Prop := PTs X ifs (tC' g (callF g.T n) Wx m)
theorem PTs.imp {ifs : List Expr} {t t' : TT} (h : PTs X ifs t) (k : ∀ σ H Q, t' σ H Q → t σ H Q) : PTs X ifs t' := ⟨fun pins s σ H Q I q => h.run pins s σ H Q I (k σ H Q q)⟩
theorem scd_nil : SCd g n Wx X [] none := by
  refine PTs.imp pts_nil fun σ H Q q => ?_
  obtain ⟨w, Fr, ρ, S, hs, he, hp⟩ := q
  exact Post.ok hp hs rfl
theorem scd_one {e : Expr} {m : ME} (h : ST g n Wx X e m) : SCd g n Wx X [e] (some m) := PTs.imp (pts_one h) fun _ _ _ q => q

theorem XOk.blk (ho : XOk g n Wx c X) (hh : c.hot = false) {scope : Scope} (hk : scope.kind = .function) (s : Shared) (H : Hp) (C : Addr) (cl : List (Str × Addr)) (fp : List Addr) :
    XOk g n W0 { c with sc := relS scope c.sc, blk := true } (X.blk s H scope (compEnvC scope cl C X.env) fp) where
  hP := ho.hP
  hw := ho.hw
  hK := ho.hK
  hmg := ho.hmg
  hbase := ho.hbase
  hN := ho.hN
  nd := ho.nd
  hsc := by rw [← ho.hsc]; rfl
  kind := hk
  calm := fun _ => ho.calm hh
  hotC := fun z => by rw [show c.hot = true from z] at hh; cases hh
  room := fun _ => ho.room hh
  units := ho.units
  pass := PassesOwn.never
  tk := fun _ _ x => by
    obtain ⟨_, _, _, _, _, _, _, _, _, _, _, _, _, _, _, _, z⟩ := x
    exact z.elim
  wr := fun z => by cases z
  ge := ho.ge
  fns := ho.fns
  exn := ho.exn
  isx := fun z => by cases z
  xf := ho.xf
  px := fun z => by cases z
  rmH := fun z => by rw [show c.hot = true from z] at hh; cases hh
  xs := ho.xs
  mts := fun _ => ho.mts hh
  prs := fun _ => ho.prs hh
  ini := fun _ => ho.ini hh
  fr := fun z => by cases z
/-- .. in an except suite -/
theorem XOk.blkH (ho : XOk g n Wx c X) (hh : c.hot = true) {scope : Scope} (hk : scope.kind = .function) (s : Shared) (H : Hp) (C : Addr) (cl : List (Str × Addr)) (fp : List Addr) (p : Addr × Obj) (hp : L2H.Hot1 X.A p) :
    XOk g n W0 { c with sc := relS scope c.sc, blk := true } ((X.blk s H scope (compEnvC scope cl C X.env) fp).tr [p] fun _ _ => False) where
  hP := ho.hP
  hw := ho.hw
  hK := ho.hK
  hmg := ho.hmg
  hbase := ho.hbase
  hN := ho.hN
  nd := ho.nd
  hsc := by rw [← ho.hsc]; rfl
  kind := hk
  calm := fun z => by rw [show c.hot = false from z] at hh; cases hh
  hotC := fun _ => HotZ.HotC.tr hp
  room := fun z => by rw [show c.hot = false from z] at hh; cases hh
  units := ho.units
  pass := PassesOwn.never
  tk := fun _ _ x => by
    obtain ⟨_, _, _, _, _, _, _, _, _, _, _, _, _, _, _, _, z⟩ := x
    exact z.elim
  wr := fun z => by cases z
  ge := ho.ge
  fns := ho.fns
  exn := ho.exn
  isx := fun z => by cases z
  xf := ho.xf
  px := fun z => by cases z
  rmH := fun _ => ho.rmH hh
  xs := ho.xs
  mts := fun z => by rw [show c.hot = false from z] at hh; cases hh
  prs := fun z => by rw [show c.hot = false from z] at hh; cases hh
  ini := fun z => by rw [show c.hot = false from z] at hh; cases hh
  fr := fun z => by cases z
theorem own_nex (ho : XOk g n Wx c X) {scope : Scope} (h : ((ownOf c.N scope).all fun p => !(isEx c p.1)) = true) : ∀ j a, g.exs = some (j, a) → j ∉ (ownOf c.N scope).map (·.2) := fun j a e hm => by
  obtain ⟨nm, k, e1, e2⟩ := ho.exn j a e
  obtain ⟨p, hp, rfl⟩ := List.mem_map.mp hm
  have hx := List.all_eq_true.mp h p hp
  unfold ownOf at hp
  obtain ⟨⟨x, kd⟩, _, hq⟩ := List.mem_filterMap.mp hp
  dsimp only at hq
  split at hq
  · obtain ⟨i, hi, rfl⟩ := map_some hq
    have := ixOf_get hi
    rw [e2] at this
    cases this
    unfold isEx at hx
    rw [e1] at hx
    simp at hx
  · cases hq

/-- what the comprehension's turn i holds -/
def LcInv (g : G) (Wx : WX) (w1 : Wd) (Fr : Hp) (Da : Addr) (σ : L2.St) (Q : V → Hp → Prop) (F : List D → List D → Sto → R D) (ds : List D) (i : Nat) (H : Hp) : Prop :=
  ∃ wi Si acc vs, w1.le wi ∧ StOk g wi (upd Fr Da (.lst vs)) H Si ∧ Rgs g wi acc vs ∧ acc.length ≤ i ∧ Post g Wx (Rg g) wi Fr σ (F (ds.drop i) acc Si) Q
theorem se_lcm (ho : XOk g n Wx c X) {own : List (Str × Nat)} {t : Tgt} {mi : MI} {me : ME} {mc : Option ME} {flag : Bool} (hw : t.within (own.map (·.2)) = true) (hnx : ∀ j a, g.exs = some (j, a) → j ∉ own.map (·.2)) :
    ∀ σ H Q, tE g (callF g.T n) Wx (.lcm flag me (own.map (·.2)) t mi mc) σ H Q → tLc (tI g (callF g.T n) Wx mi) (gT g t) (tC' g (callF g.T n) W0 mc) (tE g (callF g.T n) W0 me) (own.map (·.2)) σ H Q := by
  intro σ H Q q
  generalize hvs : own.map (·.2) = vs0 at q hw hnx ⊢
  obtain ⟨w, Fr, ρ, S, hs, hee, hp⟩ := q
  refine ⟨w, Fr, ρ, S, hs, hee, Post.bind hp fun ds S1 w1 H1 J l1 hs1 rJ hp1 => ?_⟩
  split at hp1
  · rename_i hlen
    intro Da nD
    have nf : Fr Da = none := free_of hs1.fr nD
    refine lc_it (walk_of' rJ) (LcInv g Wx w1 Fr Da σ Q (fun r acc S' => (compL (fun d => t.set (wipeD ρ vs0) d) (fun ρ' S' => evC (callF g.T n) mc ρ' S') (fun ρ' S' => ev (callF g.T n) me ρ' S') r acc S').bind fun xs S2 => allocIf flag xs S2) ds)
      ⟨w1, S1, [], [], Wd.le.refl _, hs1.toFrame nD, .nil, Nat.le_refl _, hp1⟩ (fun i H hi z => ?_) (fun i x H H' hi z y => ?_) fun H z => ?_
    · obtain ⟨wi, Si, acc, vs, l, s', _⟩ := z
      exact l.hp.trans s'.h0
    · obtain ⟨wi, Si, acc, vs, l, s', ra, hl, hP⟩ := z
      obtain ⟨d, hd, it⟩ := y
      obtain ⟨w2, l2, s2, rx⟩ := item_in l s' it
      have hdrop : ds.drop i = d :: ds.drop (i + 1) := by
        obtain ⟨hi', e⟩ := List.getElem?_eq_some_iff.mp hd
        rw [← e]; exact List.drop_eq_getElem_cons hi'
      rw [hdrop] at hP
      simp only [compL] at hP
      have env2 : EnvOk g w2 (wipeD ρ vs0) (wipe σ vs0) := (((hee.mono l1).mono l).mono l2).wipe vs0 hnx
      refine ⟨w2, _, Si, d, wipeD ρ vs0, s2, rx, env2, ?_⟩
      cases e : t.set (wipeD ρ vs0) d with
      | none => rw [e] at hP; exact False.elim hP
      | some ρ' =>
        rw [e] at hP
        intro σ2 e2 hwp
        have hww : wipe σ2 vs0 = wipe (wipe σ vs0) vs0 := hwp vs0 hw
        have idem : wipe (wipe σ vs0) vs0 = wipe σ vs0 := by
          have gen : ∀ (ws us : List Nat) (τ : L2.St), (∀ i ∈ ws, i ∈ us) → wipe (wipe τ us) ws = wipe τ us := by
            intro ws
            induction ws with
            | nil => intro us τ _; rfl
            | cons a r ih =>
              intro us τ hin
              show (wipe (wipe τ us) r).set a none = wipe τ us
              rw [ih us τ fun i hi => hin i (List.mem_cons_of_mem _ hi)]
              have ha := hin a List.mem_cons_self
              have z : ∀ (us : List Nat) (τ : L2.St), a ∈ us → (wipe τ us).set a none = wipe τ us := by
                intro us
                induction us with
                | nil => intro τ h; exact nomatch h
                | cons b r ih =>
                  intro τ h
                  show ((wipe τ r).set b none).set a none = (wipe τ r).set b none
                  by_cases hab : a = b
                  · subst hab; rw [List.set_set]
                  · rw [List.set_comm _ _ (Ne.symm hab), ih τ ((List.mem_cons.mp h).resolve_left hab)]
              exact z us τ ha
          exact gen vs0 vs0 σ fun i hi => hi
        refine ⟨hww.trans idem, w2, _, ρ', Si, s2, e2, ?_⟩
        -- the test, then the element
        have hP2 : Post g Wx (Rg g) w2 Fr σ (((evC (callF g.T n) mc ρ' Si).nox.bind fun b S1 => if b then ((ev (callF g.T n) me ρ' S1).nox.bind fun y S2 => compL (fun d => t.set (wipeD ρ vs0) d) (fun ρ' S' => evC (callF g.T n) mc ρ' S') (fun ρ' S' => ev (callF g.T n) me ρ' S') (ds.drop (i + 1)) (acc ++ [y]) S2) else compL (fun d => t.set (wipeD ρ vs0) d) (fun ρ' S' => evC (callF g.T n) mc ρ' S') (fun ρ' S' => ev (callF g.T n) me ρ' S') (ds.drop (i + 1)) acc S1).bind fun xs S2 => allocIf flag xs S2) Q := hP.mono l2
        cases ec : evC (callF g.T n) mc ρ' Si with
        | bad => rw [ec] at hP2; exact False.elim hP2
        | exc _ _ => rw [ec] at hP2; exact False.elim hP2
        | ok b S3 =>
          rw [ec] at hP2
          intro w3 H3 b' l3 s3 eb
          cases eb
          cases b with
          | false =>
            refine ⟨w3, S3, acc, vs, ((l.trans l2).trans l3), s3, (ra.mono l2).mono l3, by omega, ?_⟩
            exact Post.mono l3 hP2
          | true =>
            refine ⟨w3, _, ρ', S3, s3, e2.mono l3, ?_⟩
            have hP3 : Post g Wx (Rg g) w2 Fr σ (((ev (callF g.T n) me ρ' S3).nox.bind fun y S2 => compL (fun d => t.set (wipeD ρ vs0) d) (fun ρ' S' => evC (callF g.T n) mc ρ' S') (fun ρ' S' => ev (callF g.T n) me ρ' S') (ds.drop (i + 1)) (acc ++ [y]) S2).bind fun xs S2 => allocIf flag xs S2) Q := hP2
            cases ee : ev (callF g.T n) me ρ' S3 with
            | bad => rw [ee] at hP3; exact False.elim hP3
            | exc _ _ => rw [ee] at hP3; exact False.elim hP3
            | ok y S4 =>
              rw [ee] at hP3
              intro w4 H4 vy l4 s4 ry
              refine ⟨vs, s4.fr Da _ upd_same, ?_, w4, S4, acc ++ [y], vs ++ [vy], ((l.trans l2).trans l3).trans l4, s4.frameSet nf, (((ra.mono l2).mono l3).mono l4).append (.cons ry .nil), ?_, ?_⟩
              · rw [← ra.length]
                exact Nat.lt_of_lt_of_le (Nat.lt_of_le_of_lt hl hi) (Nat.le_trans hlen LIM_le)
              · rw [List.length_append, List.length_singleton]; omega
              · exact Post.mono (l3.trans l4) hP3
    · obtain ⟨wi, Si, acc, vs, l, s', ra, hl, hP⟩ := z
      rw [List.drop_length] at hP
      have hP : Post g Wx (Rg g) wi Fr σ (allocIf flag acc Si) Q := hP
      cases flag with
      | false =>
        obtain ⟨s2, le⟩ := s'.frameData nf
        exact hP _ _ _ le s2 (.lst upd_same (ra.mono le))
      | true =>
        obtain ⟨s2, le⟩ := s'.frameCell (c := .lst acc) nf fun w' l' => ⟨vs, s'.fr Da _ upd_same, ra.mono l'⟩
        exact hP _ _ _ le s2 (.own (by show (if Si.nx = Si.nx then some Da else wi.al Si.nx) = some Da; rw [if_pos rfl]))
  · exact False.elim hp1
end
end Mn
end
section
set_option Elab.async false
set_option linter.all false
set_option maxRecDepth 100000
set_option maxHeartbeats 2000000
/-! SndB: dicts with texts as keys that are displayed; defs that are handed the exception in hand. -/
namespace Mn
open PySem PySem.Spec PyProof.Rows L2
section
variable {g : G} {n : Nat} {Wx : WX} {c : CC} {X : Cx}
/-- the pairs of a display as Mini reads them -/
def trK (g : G) (n : Nat) (Wx : WX) : List (List Nat) → List ME → List (TE × TE)
  | k :: ks, m :: ms => ((fun _ H Q => Q (.str (mkS k)) H), tE g (callF g.T n) Wx m) :: trK g n Wx ks ms
  | _, _ => []
theorem keyOf_ok {e : Option Expr} {k : List Nat} (h : keyOf e = some k) : ∃ x j pos, e = some (.Constant (.str x) j pos) ∧ mkS k = x ∧ okW k = true := by
  unfold keyOf at h
  split at h
  · rename_i x j pos
    split at h
    · rename_i hc
      cases h
      refine ⟨x, j, pos, rfl, ?_, hc⟩
      apply Str.ext'
      show x.cps.toList.toArray = x.cps
      simp
    · cases h
  · cases h
theorem pps_of {kk : Nat} {pos : Pos} : ∀ {keys : List (Option Expr)} {vals : List Expr} {ks : List (List Nat)} {ms : List ME}, keys.length = vals.length → cAll keyOf keys = some ks → (∀ (i : Nat) e m, e ∈ vals → cE kk c e = some m → SE g n Wx X e m) → cAll (cE kk c) vals = some ms →
    PPs X pos keys vals (trK g n Wx ks ms) ∧ ks.length = keys.length ∧ ms.length = vals.length
  | [], [], _, _, _, h1, _, h2 => by cases h1; cases h2; exact ⟨pps_nil, rfl, rfl⟩
  | [], _ :: _, _, _, hl, _, _, _ => by cases hl
  | _ :: _, [], _, _, hl, _, _, _ => by cases hl
  | a :: keys, v :: vals, _, _, hl, h1, hv, h2 => by
    obtain ⟨k, ks, q1, q2, rfl⟩ := cAll_cons h1
    obtain ⟨m, ms, q3, q4, rfl⟩ := cAll_cons h2
    obtain ⟨x, j, p, rfl, ex, _⟩ := keyOf_ok q1
    obtain ⟨r1, r2, r3⟩ := pps_of (pos := pos) (Nat.succ.inj hl) q2 (fun i e m he hm => hv i e m (List.mem_cons_of_mem _ he) hm) q4
    refine ⟨pps_cons (PE.imp pe_str fun σ H Q q => ?_) (hv 0 v m List.mem_cons_self q3) r1, by rw [List.length_cons, List.length_cons, r2], by rw [List.length_cons, List.length_cons, r3]⟩
    subst ex
    exact q
theorem pairs_rd : ∀ (ks : List (List Nat)) (ms : List ME), ks.length = ms.length → ∀ σ H (Q : List (V × V) → Hp → Prop), (∃ w Fr ρ S, StOk g w Fr H S ∧ EnvOk g w ρ σ ∧ Post g Wx (Rgs g) w Fr σ (evs (callF g.T n) ms ρ S) fun vs H' => Q ((ks.map fun k => V.str (mkS k)).zip vs) H') → tPairs (trK g n Wx ks ms) σ H Q
  | [], [], _, σ, H, Q, q => by
    obtain ⟨w, Fr, ρ, S, hs, he, hp⟩ := q
    simp only [evs] at hp
    have z := Post.ok (rep := Rgs g) (b := ([] : List V)) hp hs Reps.nil
    exact z
  | [], _ :: _, hl, _, _, _, _ => by cases hl
  | _ :: _, [], hl, _, _, _, _ => by cases hl
  | k :: ks, m :: ms, hl, σ, H, Q, q => by
    obtain ⟨w, Fr, ρ, S, hs, he, hp⟩ := q
    simp only [evs] at hp
    show tE g (callF g.T n) Wx m σ H fun y H2 => tPairs (trK g n Wx ks ms) σ H2 fun ps H3 => Q ((.str (mkS k), y) :: ps) H3
    refine ⟨w, Fr, ρ, S, hs, he, Post.bind hp fun x S1 w1 H1 vx l1 hs1 rx hp1 => ?_⟩
    refine pairs_rd ks ms (Nat.succ.inj hl) σ H1 _ ⟨w1, Fr, ρ, S1, hs1, he.mono l1, Post.bind hp1 fun xs S2 w2 H2 vs l2 hs2 rxs hp2 => ?_⟩
    have z := Post.ok (rep := Rgs g) (b := vx :: vs) hp2 hs2 (Reps.cons (rx.mono l2) rxs)
    exact z
theorem nodupX_ok : ∀ {ks : List (List Nat)}, nodupX ks = true → ks.Nodup
  | [], _ => .nil
  | a :: r, h => by
    unfold nodupX at h
    simp only [Bool.and_eq_true, Bool.not_eq_true'] at h
    exact List.nodup_cons.mpr ⟨fun m => by rw [List.elem_eq_true_of_mem m] at h; exact absurd h.1 (by simp), nodupX_ok h.2⟩
theorem merge_app : ∀ (more acc : List (Key × V)), (more.map (·.1)).Nodup → (∀ k, k ∈ more.map (·.1) → k ∉ acc.map (·.1)) → mergeK acc more = acc ++ more
  | [], acc, _, _ => by rw [List.append_nil]; rfl
  | p :: r, acc, nd, h => by
    rw [List.map_cons, List.nodup_cons] at nd
    have e : L2.putK acc p.1 p.2 = acc ++ [p] := by
      unfold L2.putK
      have na : (acc.any fun kv => decide (kv.1 = p.1)) = false := by
        rw [List.any_eq_false]
        intro q hq z
        exact h p.1 (by simp) (List.mem_map.mpr ⟨q, hq, of_decide_eq_true z⟩)
      rw [na]; rfl
    show mergeK (L2.putK acc p.1 p.2) r = _
    rw [e, merge_app r (acc ++ [p]) nd.2 fun k hk hm => ?_, List.append_assoc]; rfl
    rw [List.map_append, List.mem_append] at hm
    rcases hm with hm | hm
    · exact h k (by rw [List.map_cons]; exact List.mem_cons_of_mem _ hk) hm
    · have : k = p.1 := by simpa using hm
      subst this
      exact nd.1 hk
theorem mkS_in {x y : List Nat} (h : mkS x = mkS y) : x = y := by
  have := congrArg (fun s : Str => s.cps.toList) h
  simpa [mkS] using this
theorem se_dsp {kk : Nat} {pos : Pos} {keys : List (Option Expr)} {vals : List Expr} {ks : List (List Nat)} {ms : List ME} (h0 : keys ≠ []) (hl : keys.length = vals.length) (h15 : keys.length ≤ 15) (h1 : cAll keyOf keys = some ks)
    (hv : ∀ (i : Nat) e m, e ∈ vals → cE kk c e = some m → SE g n Wx X e m) (h2 : cAll (cE kk c) vals = some ms) (nd : nodupX ks = true) : SE g n Wx X (.Dict keys vals pos) (.dsp ks ms) := by
  obtain ⟨pp, l1, l2⟩ := pps_of (pos := pos) hl h1 hv h2
  have hall : keys.all (·.isSome) = true := by
    have gen : ∀ {keys : List (Option Expr)} {ks : List (List Nat)}, cAll keyOf keys = some ks → keys.all (·.isSome) = true := fun {keys} => by
      induction keys with
      | nil => intro _ _; rfl
      | cons a r ih =>
        intro ks h
        obtain ⟨k, ks, q1, q2, _⟩ := cAll_cons h
        obtain ⟨x, j, p, rfl, _⟩ := keyOf_ok q1
        rw [List.all_cons, ih q2]; rfl
    exact gen h1
  refine PE.imp (pe_disp pp hall hl h0 h15) fun σ H Q q => ?_
  obtain ⟨w, Fr, ρ, S, hs, he, hp⟩ := q
  intro p np
  have nf : Fr p = none := free_of hs.fr np
  refine pairs_rd ks ms (by rw [l1, l2]; exact hl) σ _ _ ⟨w, upd Fr p (.dK []), ρ, S, hs.toFrame np, he, ?_⟩
  have hp : Post g Wx (Rg g) w Fr σ ((evs (callF g.T n) ms ρ S).bind fun xs S1 => .ok (D.dx ks xs) S1) Q := by simpa only [ev] using hp
  cases e : evs (callF g.T n) ms ρ S with
  | bad => rw [e] at hp; exact hp
  | exc k S' =>
    rw [e] at hp
    intro w' H' l s
    obtain ⟨s2, le⟩ := s.frameData nf
    exact hp _ _ (l.trans le) s2
  | ok xs S' =>
    rw [e] at hp
    intro w' H' vs l s r
    have lx : xs.length = ms.length := evs_length e
    have lv := r.length
    have kn : ((ks.map fun k => (Sum.inr (mkS k) : Key)).zip vs).map (·.1) = ks.map fun k => (Sum.inr (mkS k) : Key) := by
      rw [List.map_fst_zip]
      rw [List.length_map]; omega
    have nk : (((ks.map fun k => (Sum.inr (mkS k) : Key)).zip vs).map (·.1)).Nodup := by
      rw [kn]
      refine (List.pairwise_map).mpr ((nodupX_ok nd).imp fun {a b} h z => h (mkS_in (Sum.inr.inj z)))
    have me : mergeK [] ((ks.map fun k => (Sum.inr (mkS k) : Key)).zip vs) = (ks.map fun k => (Sum.inr (mkS k) : Key)).zip vs := by
      rw [merge_app _ [] nk (fun k _ z => nomatch z)]; rfl
    refine ⟨s.fr p _ upd_same, (ks.map fun k => (Sum.inr (mkS k) : Key)).zip vs, ?_, ?_, ?_⟩
    · rw [List.zip_map_left, List.zip_map_left, List.map_map]
      rfl
    · rw [List.length_zip, List.length_map]; omega
    · rw [me]
      have s1 := s.frameSet (o' := .dK ((ks.map fun k => (Sum.inr (mkS k) : Key)).zip vs)) nf
      obtain ⟨s2, le⟩ := s1.frameData nf
      exact hp _ _ _ (l.trans le) s2 (.dx upd_same (r.mono le))

/-! ### a def that is handed the exception in hand -/
theorem run_fnx {CX : CXT} {k : Nat} {f D : Addr} {fd : FuncData} {ps : List Str} {sp : Sp} {xk : XK} {pins : List (Addr × Obj)} {σ : L2.St} {H : Hp} {s : Shared} {Q : VK} {us : List Value} {p : Addr × Obj} (F : FnX X.prog X.w X.K X.mg X.base CX k f fd ps D sp) (rm : L2H.RoomH k X.A) (hp : p ∈ X.pn)
    (h1 : L2H.Hot1 X.A p) (hz : Zc (.ref D) none p.2) (bd : Binds X.K fd ps []) (pa : PassesAt CX X σ xk) (J : Inv X pins σ H s) (rv : Vals [V.ref p.1] us) (q : sp [.ref p.1] H Q xk) : wpAny (model X.prog X.w) X.A (call (.ref f) us) (EP X pins σ Q) X.xe s := by
  have lu : us.length = ps.length := by rw [← rv.length]; exact F.len _ _ _ _ q
  have bu := bd s us J.kIn (by rw [List.append_nil]; exact lu)
  rw [List.append_nil] at bu
  obtain ⟨g1, g2, g3, g4, g5⟩ := J.pin p (List.mem_append_left _ hp)
  have pk : L2H.PinOk X.stack H s p := ⟨g1, g2, fun hm => (List.mem_cons.mp (J.stkSub p.1 hm)).elim g3 g4, g5⟩
  refine wpAny_call (codeAny_mono (F.run X.A X.stack s H ⟨us, []⟩ us _ Q xk p rm h1 pk hz rfl J.env0 bu rv q) fun res s2 z => ?_)
  rcases res with e | fl
  · exact pa pins H s e s2 J z
  · rcases fl with _ | _ | _ | u
    all_goals first
      | exact J.after z
      | exact False.elim z
theorem xc_eq {f : Nat} {args : List Expr} {m : ME} (h : cXc c f args = some m) : ∃ nm j k p, c.ex = some (nm, j, k) ∧ args = [.Name nm p] ∧ c.hot = true ∧ c.blk = false ∧ k < 900 ∧ m = .xc (xnum f k) := by
  unfold cXc at h
  split at h
  · rename_i nm j k a e
    split at h
    · rename_i hc
      cases h
      obtain ⟨h1, h2, h3, h4⟩ := hc
      cases a <;> first
        | (cases h1; done)
        | skip
      rename_i x p
      cases h1
      exact ⟨_, j, k, p, e, rfl, h2, h3, h4, rfl⟩
    · cases h
  · cases h
theorem se_xcall (ho : XOk g n Wx c X) {x : Str} {f : Nat} {args : List Expr} {m : ME} {p pos : Pos} (hg : cGlo c x = some (.xfn f)) (h : cXc c f args = some m) : SE g n Wx X (.Call (.Name x p) args [] pos) m := by
  obtain ⟨nm, j, k, p2, ex, rfl, hh, hb, hk9, rfl⟩ := xc_eq h
  obtain ⟨h1, h2, h3, h4⟩ := cGlo_ok hg
  obtain ⟨e1, kp⟩ := ho.ge.xfn x f h2
  obtain ⟨ad, q1, q2, q3, q4, ⟨y, q5⟩, q6⟩ := ho.isx hb _ _ _ hk9 ex
  obtain ⟨po, m1, m2, m3, m4⟩ := ho.px hb _ _ _ hk9 ex
  obtain ⟨fd, ps, bd, F⟩ := ho.xf x f h2 k y q5
  obtain ⟨b1, b2, _⟩ := badN_ok (by rw [q4]; simp)
  have F' : FnX X.prog X.w X.K X.mg X.base (L2N.CX X.prog X.w) n (g.fa f) fd ps (g.ca k) (SpX g n (xnum f k)) := by
    rw [ho.hP, ho.hw, ho.hK, ho.hmg, ho.hbase]; exact F
  have ha := pa_cons (pe_var (X := X) (pos := p2) (i := j) (by rw [ho.hN]; exact q2) (by rw [ho.hsc]; exact q3) b1 b2) pa_nil rfl
  refine ⟨fun pins s σ H Q J q => ?_⟩
  obtain ⟨w, Fr, ρ, S, hs, he, hp⟩ := q
  have ev0 : σ[j]? = some (some (.ref po.1)) := he.ex _ _ m3
  refine wpAny_Call_Name_kw (ld_glob J (ho.gl h1) (by rw [ho.hmg]; exact e1) ?_ h3)
  refine PySem.W.callWith_K (h₀ := X.base) J.ok.mod.kin (by rw [ho.hK]; exact kp) (thn (ha.run pos pins s σ H (fun vs H1 => vs = [.ref po.1] ∧ H1 = H) J ⟨_, ev0, rfl, rfl⟩) fun us s1 ⟨vs, H1, J1, r, ev1, eh⟩ => ⟨J1.kIn, ?_⟩) rfl rfl
  subst ev1 eh
  refine run_fnx F' (ho.rmH hh) m1 m2 m4 (by rw [ho.hK]; exact bd) (L2N.passAt ho.tk σ) J1 r ⟨rfl, w, Fr, S, ⟨hs.h0, hs.fr, hs.dj, hs.lt, hs.live, hs.inj, hs.lv⟩, ?_⟩
  have hp : Post g Wx (Rg g) w Fr σ (callF g.T n (xnum f k) [] S) Q := by simpa only [ev] using hp
  revert hp
  cases callF g.T n (xnum f k) [] S with
  | ok a S' => exact fun z w' H' b l s' r' => z w' H' b l ⟨s'.h0, s'.fr, s'.dj, s'.lt, s'.live, s'.inj, s'.lv⟩ r'
  | exc e S' => exact fun z w' H' l s' => z w' H' l ⟨s'.h0, s'.fr, s'.dj, s'.lt, s'.live, s'.inj, s'.lv⟩
  | bad => exact fun z => z
end
end Mn
end
section
set_option Elab.async false
set_option linter.all false
set_option maxRecDepth 100000
set_option maxHeartbeats 2000000
/-! SndC: instances: their fields, methods, operators; made anew. -/
namespace Mn
open PySem PySem.Spec PyProof.Rows L2
section
variable {g : G} {n : Nat} {Wx : WX} {c : CC} {X : Cx}
theorem unox {α β : Type} {rep : Wd → α → β → Prop} {w : Wd} {Fr : Hp} {σ σ' : L2.St} {W' : WX} {r : R α} {Q : β → Hp → Prop} (h : Post g Wx rep w Fr σ r.nox Q) : Post g W' rep w Fr σ' r Q := by
  cases r with
  | ok a S => exact h
  | exc c S => exact False.elim h
  | bad => exact False.elim h
theorem isO_rep {k : Nat} {x : D} {w : Wd} {v : V} (h : isO k x = true) (r : Rg g w x v) : ∃ xs a dx vs, x = .obj k xs ∧ v = .ref a ∧ w.H0 a = some (.ins (cAd g.fa k) dx ((flds k).zip vs)) ∧ Rgs g w xs vs := by
  cases r <;> first
    | (cases h; done)
    | (rename_i j xs a dx vs e r
       have z : j = k := by simpa [isO] using h
       subst z
       exact ⟨_, _, _, _, rfl, rfl, e, r⟩)
theorem zip_lookup {a : Str} : ∀ {N : List Str} {vs : List V} {j : Nat} {v : V}, ixOf N a = some j → vs[j]? = some v → (N.zip vs).lookup a = some v
  | [], _, _, _, h, _ => by cases h
  | y :: r, [], j, v, _, h => by simp at h
  | y :: r, u :: vs, j, v, h, e => by
    unfold ixOf at h
    rw [List.zip_cons_cons, List.lookup_cons]
    split at h
    · rename_i q
      cases h; subst q
      simp at e ⊢; exact e
    · rename_i q
      obtain ⟨i, h1, rfl⟩ := map_some h
      have z : (a == y) = false := beq_eq_false_iff_ne.mpr fun z => q z.symm
      rw [z]
      exact zip_lookup h1 (by simpa using e)
theorem zip_none {a : Str} : ∀ {N : List Str} {vs : List V}, ixOf N a = none → (N.zip vs).lookup a = none
  | [], _, _ => rfl
  | y :: r, [], _ => rfl
  | y :: r, u :: vs, h => by
    unfold ixOf at h
    rw [List.zip_cons_cons, List.lookup_cons]
    split at h
    · cases h
    · rename_i q
      have z : (a == y) = false := beq_eq_false_iff_ne.mpr fun z => q z.symm
      rw [z]
      refine zip_none ?_
      cases e : ixOf r a with
      | none => rfl
      | some _ => rw [e] at h; cases h
theorem XOk.clf (ho : XOk g n Wx c X) {k : Nat} (h : clsIn c k = true) : ClsF X.K (cAd g.fa k) k := by
  unfold clsIn at h
  split at h
  · rename_i j f e
    have z : j = k := by simpa using h
    subst z
    rw [ho.hK]; exact (ho.ge.cls _ _ _ e).2.2
  · cases h
theorem ob8_ok {e : Expr} {k : Nat} (h : ob8 c e = some k) : clsIn c k = true := by
  unfold ob8 at h
  split at h
  · split at h
    · rename_i q; cases h; exact q
    · cases h
  · cases h
theorem XOk.met (ho : XOk g n Wx c X) (hh : c.hot = false) {k : Nat} {m : Str} {f : Nat} (h : c.mt k m = some f) : ∃ fd ps, MetF X.K (cAd g.fa k) m (g.fa f) ∧ Binds X.K fd ps [] ∧ FnOk X.prog X.w X.K X.mg X.base (L2N.CX X.prog X.w) n (g.fa f) fd ps (SpF g n f) := by
  obtain ⟨h1, fd, ps, hb, F⟩ := ho.mts hh k m f h
  refine ⟨fd, ps, by rw [ho.hK]; exact h1, by rw [ho.hK]; exact hb, ?_⟩
  rw [ho.hP, ho.hw, ho.hK, ho.hmg, ho.hbase]; exact F
/-- o.a, a field -/
theorem se_att (ho : XOk g n Wx c X) {k : Nat} {o : Expr} {a : Str} {j : Nat} {m : ME} {pos : Pos} (hk : clsIn c k = true) (hj : ixOf (flds k) a = some j) (hb : attributeBase o a X.env (eval o X.env) = eval o X.env) (h : SE g n Wx X o m) : SE g n Wx X (.Attribute o a pos) (.att k j m) := by
  have cf := ho.clf hk
  refine PE.imp (pe_fld h hb) fun σ H Q q => ?_
  obtain ⟨w, Fr, ρ, S, hs, he, hp⟩ := q
  refine ⟨w, Fr, ρ, S, hs, he, Post.bind hp fun x S1 w1 H1 vx l1 hs1 rx hp1 => ?_⟩
  obtain ⟨d, e1, hq⟩ := post_opt hp1
  unfold attV at e1
  split at e1
  · rename_i i xs
    split at e1
    · rename_i ei
      subst ei
      cases rx with
      | obj hH rr =>
        obtain ⟨v, q1, q2⟩ := rr.get e1
        exact ⟨_, _, _, _, v, rfl, hs1.h0 _ _ hH, cf.cls, cf.na a (List.mem_of_getElem? (ixOf_get hj)), zip_lookup hj q1, hq.ok hs1 q2⟩
    · cases e1
  · cases e1
/-- o.a, a property -/
theorem se_prp (ho : XOk g n Wx c X) (hh : c.hot = false) {k : Nat} {o : Expr} {a : Str} {f : Nat} {m : ME} {pos : Pos} (hk : clsIn c k = true) (hf : c.pr k a = some f) (hb : attributeBase o a X.env (eval o X.env) = eval o X.env) (h : SE g n Wx X o m) :
    SE g n Wx X (.Attribute o a pos) (.mcl .sub k f m []) := by
  have cf := ho.clf hk
  obtain ⟨⟨p, hp0⟩, fd, ps, bd, F⟩ := ho.prs hh k a f hf
  have F' : FnOk X.prog X.w X.K X.mg X.base (L2N.CX X.prog X.w) n (g.fa f) fd ps (SpF g n f) := by
    rw [ho.hP, ho.hw, ho.hK, ho.hmg, ho.hbase]; exact F
  refine PE.imp (ObX.pe_propO h cf.cls (by rw [ho.hK]; exact hp0) F' (ho.room hh) (by rw [ho.hK]; exact bd) hb) fun σ H Q q => ?_
  obtain ⟨w, Fr, ρ, S, hs, he, hp⟩ := q
  refine ⟨w, Fr, ρ, S, hs, he, Post.bind hp fun x S1 w1 H1 vx l1 hs1 rx hp1 => ?_⟩
  split at hp1
  · rename_i hx
    obtain ⟨xs, ad, dx, vs, rfl, rfl, hH, rr⟩ := isO_rep hx rx
    have hp1 : Post g Wx (Rg g) w1 Fr σ (callF g.T n f [.obj k xs] S1).nox Q := hp1
    exact ⟨ad, dx, _, rfl, hs1.h0 _ _ hH, w1, Fr, S1, [.obj k xs], hs1, .cons rx .nil, unox hp1⟩
  · exact False.elim hp1
/-- what an operator of an instance wants -/
def rO (g : G) (n : Nat) (Wx : WX) (kd : MK) (k f : Nat) : L2.R2 := fun vx vy H Q => ∃ w Fr σ S x y, StOk g w Fr H S ∧ Rg g w x vx ∧ Rg g w y vy ∧ isO k x = true ∧ okArg k kd [y] = true ∧ Post g Wx (Rg g) w Fr σ (finM kd (callF g.T n f [x, y] S)) Q
theorem op_rd {kd : MK} {k f : Nat} {ma mb : ME} : ∀ σ H Q, tE g (callF g.T n) Wx (.mcl kd k f ma [mb]) σ H Q → tE g (callF g.T n) Wx ma σ H fun vx H1 => tE g (callF g.T n) Wx mb σ H1 fun vy H2 => rO g n Wx kd k f vx vy H2 Q := fun σ H Q q => by
  obtain ⟨w, Fr, ρ, S, hs, he, hp⟩ := q
  refine ⟨w, Fr, ρ, S, hs, he, Post.bind hp fun x S1 w1 H1 vx l1 hs1 rx hp1 => ?_⟩
  split at hp1
  · rename_i hx
    have e : evs (callF g.T n) [mb] ρ S1 = (ev (callF g.T n) mb ρ S1).bind fun y S2 => .ok [y] S2 := by simp only [evs, R.bind]
    rw [e] at hp1
    have hp1 : Post g Wx (Rg g) w1 Fr σ (((ev (callF g.T n) mb ρ S1).bind fun y S2 => if okArg k kd [y] then finM kd (callF g.T n f [x, y] S2) else .bad)) Q := by
      revert hp1
      cases ev (callF g.T n) mb ρ S1 <;> exact fun z => z
    refine ⟨w1, Fr, ρ, S1, hs1, he.mono l1, Post.bind hp1 fun y S2 w2 H2 vy l2 hs2 ry hp2 => ?_⟩
    split at hp2
    · rename_i ha
      exact ⟨w2, Fr, σ, S2, x, y, hs2, rx.mono l2, ry, hx, ha, hp2⟩
    · exact False.elim hp2
  · exact False.elim hp1
theorem se_add (ho : XOk g n Wx c X) (hh : c.hot = false) {k f : Nat} {a b : Expr} {ma mb : ME} {pos : Pos} (hk : clsIn c k = true) (hf : c.mt k "__add__" = some f) (ha : SE g n Wx X a ma) (hb : SE g n Wx X b mb) : SE g n Wx X (.BinOp a .Add b pos) (.mcl .add k f ma [mb]) := by
  have cf := ho.clf hk
  obtain ⟨fd, ps, mf, bd, F⟩ := ho.met hh hf
  have nm : PySem.dunder (Operator.Add).info.2 = ("__add__" : Str) := by decide +kernel
  have ok : OpR X (binaryOp .Add) (rO g n Wx .add k f) := OpR.imp (ObX.op_sameO (op := .Add) cf.sf (by rw [nm]; exact mf.at_) mf.fn F (ho.room hh) bd) fun vx vy H Q q => by
    obtain ⟨w, Fr, σ, S, x, y, hs, rx, ry, hx, hy, hp⟩ := q
    obtain ⟨xs, ad, dx, vs, rfl, rfl, hH, rr⟩ := isO_rep hx rx
    obtain ⟨ys, bd, dy, us, rfl, rfl, hH2, rr2⟩ := isO_rep (show isO k y = true from hy) ry
    exact ⟨ad, dx, _, bd, dy, _, rfl, rfl, hs.h0 _ _ hH, hs.h0 _ _ hH2, w, Fr, S, _, hs, .cons rx (.cons ry .nil), unox hp⟩
  exact PE.imp (pe_op ok ha hb) op_rd
theorem se_shl (ho : XOk g n Wx c X) (hh : c.hot = false) {k f : Nat} {a b : Expr} {ma mb : ME} {pos : Pos} (hk : clsIn c k = true) (hf : c.mt k "__lshift__" = some f) (ha : SE g n Wx X a ma) (hb : SE g n Wx X b mb) : SE g n Wx X (.BinOp a .LShift b pos) (.mcl .shl k f ma [mb]) := by
  have cf := ho.clf hk
  obtain ⟨fd, ps, mf, bd, F⟩ := ho.met hh hf
  have nm : PySem.dunder (Operator.LShift).info.2 = ("__lshift__" : Str) := by decide +kernel
  obtain ⟨fo, ro, q1, q2, q3⟩ := cf.shl
  have ok : OpR X (binaryOp .LShift) (rO g n Wx .shl k f) := OpR.imp (ObX.op_binO (op := .LShift) (T := "int") cf.sf (by rw [nm]; exact mf.at_) mf.fn q3 (.inl rfl) q1 q2 (cf.sub "int" (by decide)) F (ho.room hh) bd) fun vx vy H Q q => by
    obtain ⟨w, Fr, σ, S, x, y, hs, rx, ry, hx, hy, hp⟩ := q
    obtain ⟨xs, ad, dx, vs, rfl, rfl, hH, rr⟩ := isO_rep hx rx
    cases ry <;> first
      | (cases hy; done)
      | skip
    refine ⟨ad, dx, _, rfl, hs.h0 _ _ hH, fun u ru => ?_, w, Fr, S, _, hs, .cons rx (.cons (.int _) .nil), unox hp⟩
    obtain ⟨t, rfl⟩ := ru
    rfl
  exact PE.imp (pe_op ok ha hb) op_rd
theorem se_sub (ho : XOk g n Wx c X) (hh : c.hot = false) {k f : Nat} {a b : Expr} {ma mb : ME} {pos : Pos} (hsl : isSlice b = false) (hk : clsIn c k = true) (hf : c.mt k "__getitem__" = some f) (ha : SE g n Wx X a ma) (hb : SE g n Wx X b mb) :
    SE g n Wx X (.Subscript a b pos) (.mcl .sub k f ma [mb]) := by
  have cf := ho.clf hk
  obtain ⟨fd, ps, mf, bd, F⟩ := ho.met hh hf
  have sl : ∀ v u, subscripted b true v u = runValue (.builtin "lifetime.subscript" ⟨[v, u], []⟩) := fun v u => by
    cases b <;> first
      | rfl
      | (cases hsl; done)
  refine PE.imp (ObX.pe_subO ha hb cf.nq mf.at_ mf.fn mf.fi F (ho.room hh) bd sl) fun σ H Q q => ?_
  obtain ⟨w, Fr, ρ, S, hs, he, hp⟩ := op_rd _ _ _ q
  refine ⟨w, Fr, ρ, S, hs, he, ?_⟩
  revert hp
  cases ev (callF g.T n) ma ρ S with
  | bad => exact fun z => z
  | exc _ _ => exact fun z => z
  | ok d S1 =>
    intro hp w1 H1 vx l1 hs1 rx
    obtain ⟨w', Fr', ρ', S', hs', he', hp'⟩ := hp w1 H1 vx l1 hs1 rx
    refine ⟨w', Fr', ρ', S', hs', he', ?_⟩
    revert hp'
    cases ev (callF g.T n) mb ρ' S' with
    | bad => exact fun z => z
    | exc _ _ => exact fun z => z
    | ok d2 S2 =>
      intro hp' w2 H2 vy l2 hs2 ry
      obtain ⟨w3, Fr3, σ3, S3, x, y, hs3, rx3, ry3, hx, hy, hp3⟩ := hp' w2 H2 vy l2 hs2 ry
      obtain ⟨xs, ad, dx, vs, rfl, rfl, hH, rr⟩ := isO_rep hx rx3
      exact ⟨ad, dx, _, rfl, hs3.h0 _ _ hH, w3, Fr3, S3, _, hs3, .cons rx3 (.cons ry3 .nil), unox hp3⟩
theorem notF_rep {k : Nat} {w : Wd} {Fr H : Hp} {S : Sto} {y : D} {vy : V} (cf : ClsF X.K (cAd g.fa k) k) (hs : StOk g w Fr H S) (ry : Rg g w y vy) (hy : okArg k .eq [y] = true) : ObX.NotF X.K (cAd g.fa k) H vy := by
  cases ry <;> first
    | (cases hy; done)
    | skip
  · exact .inr ⟨"str", cf.sub "str" (by decide), fun u ru => by obtain ⟨t, rfl⟩ := ru; rfl⟩
  · rename_i j xs a dx vs hH rr
    have z : j = k := by simpa [okArg] using hy
    subst z
    exact .inl ⟨a, dx, _, rfl, hs.h0 _ _ hH⟩
theorem op_eq' (ho : XOk g n Wx c X) (hh : c.hot = false) {k f : Nat} (hk : clsIn c k = true) (hf : c.mt k "__eq__" = some f) : OpR X (compareOp .Eq) (rO g n Wx .eq k f) := by
  have cf := ho.clf hk
  obtain ⟨fd, ps, mf, bd, F⟩ := ho.met hh hf
  refine OpR.imp (ObX.op_eqO mf.at_ mf.fn F (ho.room hh) bd) fun vx vy H Q q => ?_
  obtain ⟨w, Fr, σ, S, x, y, hs, rx, ry, hx, hy, hp⟩ := q
  obtain ⟨xs, ad, dx, vs, rfl, rfl, hH, rr⟩ := isO_rep hx rx
  refine ⟨ad, dx, _, rfl, hs.h0 _ _ hH, notF_rep cf hs ry hy, w, Fr, S, _, hs, .cons rx (.cons ry .nil), ?_⟩
  refine post_nox (rep := Rg g) (show Post g Wx (Rg g) w Fr σ ((callF g.T n f [.obj k xs, y] S).nox.bind _) Q from hp) fun d S1 w1 H1 v l1 hs1 rd hp1 => ?_
  cases rd <;> first
    | (exact False.elim hp1; done)
    | exact Post.ok hp1 hs1 (.bl _)
/-- a test by a truth value -/
theorem tT_to {m : ME} (hm : ∀ ρ S, evT (callF g.T n) m ρ S = (ev (callF g.T n) m ρ S).bind fun x S1 => ofOpt S1 (boolOf x)) : ∀ σ H Q, tT g (callF g.T n) Wx m σ H Q → tE g (callF g.T n) Wx m σ H fun z H' => ∃ k, z = .bl k ∧ Q k H' := fun σ H Q q => by
  obtain ⟨w, Fr, ρ, S, hs, he, hp⟩ := q
  rw [hm] at hp
  refine ⟨w, Fr, ρ, S, hs, he, Post.bind hp fun x S1 w1 H1 vx l1 hs1 rx hp1 => ?_⟩
  obtain ⟨b, e, hq⟩ := post_opt hp1
  cases rx <;> first
    | (cases e; done)
    | (cases e; exact ⟨_, rfl, hq.ok hs1 rfl⟩)
theorem st_b {e : Expr} {m : ME} (h : SE g n Wx X e m) (he : ∀ whole, isTrue e X.env whole = (do let v ← whole; standAt e.pos; holding [v] (PySem.truthy v))) (hm : ∀ ρ S, evT (callF g.T n) m ρ S = (ev (callF g.T n) m ρ S).bind fun x S1 => ofOpt S1 (boolOf x)) : ST g n Wx X e m := by
  refine PT.imp (pt_truth h he) fun σ H Q q => ?_
  obtain ⟨w, Fr, ρ, S, hs, he, hp⟩ := tT_to hm σ H Q q
  refine ⟨w, Fr, ρ, S, hs, he, ?_⟩
  revert hp
  cases ev (callF g.T n) m ρ S with
  | bad => exact fun z => z
  | exc _ _ => exact fun z => z
  | ok d S1 =>
    intro hp w1 H1 vx l1 hs1 rx
    obtain ⟨b, rfl, q⟩ := hp w1 H1 vx l1 hs1 rx
    exact ⟨b, rfl, q⟩
theorem se_eq' (ho : XOk g n Wx c X) (hh : c.hot = false) {k f : Nat} {a b : Expr} {ma mb : ME} {pos : Pos} (hk : clsIn c k = true) (hf : c.mt k "__eq__" = some f) (ha : SE g n Wx X a ma) (hb : SE g n Wx X b mb) (hm : behindInMarks .Eq b = false) :
    SE g n Wx X (.Compare a [.Eq] [b] pos) (.mcl .eq k f ma [mb]) ∧ ST g n Wx X (.Compare a [.Eq] [b] pos) (.mcl .eq k f ma [mb]) :=
  ⟨PE.imp (pe_cmpR (op_eq' ho hh hk hf) ha hb hm) op_rd, PT.imp (pt_cmpR (op_eq' ho hh hk hf) ha hb hm) fun σ H Q q => op_rd _ _ _ (tT_to (fun _ _ => rfl) σ H Q q)⟩
theorem op_ne' (ho : XOk g n Wx c X) (hh : c.hot = false) {k f : Nat} (hk : clsIn c k = true) (hf : c.mt k "__eq__" = some f) : OpR X (compareOp .NotEq) (rO g n Wx .ne k f) := by
  have cf := ho.clf hk
  obtain ⟨fd, ps, mf, bd, F⟩ := ho.met hh hf
  refine OpR.imp (ObX.op_neO cf.ne cf.mro mf.at_ mf.fn F (ho.room hh) bd) fun vx vy H Q q => ?_
  obtain ⟨w, Fr, σ, S, x, y, hs, rx, ry, hx, hy, hp⟩ := q
  obtain ⟨xs, ad, dx, vs, rfl, rfl, hH, rr⟩ := isO_rep hx rx
  obtain ⟨ys, bd, dy, us, rfl, rfl, hH2, rr2⟩ := isO_rep (show isO k y = true from hy) ry
  refine ⟨ad, dx, _, bd, dy, _, rfl, rfl, hs.h0 _ _ hH, hs.h0 _ _ hH2, w, Fr, S, _, hs, .cons rx (.cons ry .nil), ?_⟩
  refine post_nox (rep := Rg g) (show Post g Wx (Rg g) w Fr σ ((callF g.T n f [.obj k xs, .obj k ys] S).nox.bind _) Q from hp) fun d S1 w1 H1 v l1 hs1 rd hp1 => ?_
  cases rd <;> first
    | (exact False.elim hp1; done)
    | exact ⟨_, rfl, Post.ok hp1 hs1 (.bl _)⟩
theorem se_ne' (ho : XOk g n Wx c X) (hh : c.hot = false) {k f : Nat} {a b : Expr} {ma mb : ME} {pos : Pos} (hk : clsIn c k = true) (hf : c.mt k "__eq__" = some f) (ha : SE g n Wx X a ma) (hb : SE g n Wx X b mb) (hm : behindInMarks .NotEq b = false) :
    SE g n Wx X (.Compare a [.NotEq] [b] pos) (.mcl .ne k f ma [mb]) ∧ ST g n Wx X (.Compare a [.NotEq] [b] pos) (.mcl .ne k f ma [mb]) :=
  ⟨PE.imp (pe_cmpR (op_ne' ho hh hk hf) ha hb hm) op_rd, PT.imp (pt_cmpR (op_ne' ho hh hk hf) ha hb hm) fun σ H Q q => op_rd _ _ _ (tT_to (fun _ _ => rfl) σ H Q q)⟩
def rIn (g : G) (n : Nat) (Wx : WX) (k f : Nat) : L2.R2 := fun vy vx H Q => ∃ w Fr σ S x y, StOk g w Fr H S ∧ Rg g w x vx ∧ Rg g w y vy ∧ isO k x = true ∧ Post g Wx (Rg g) w Fr σ (finB (callF g.T n f [x, y] S)) Q
theorem in_rd {k f : Nat} {ma mb : ME} : ∀ σ H Q, tE g (callF g.T n) Wx (.mcr k f ma mb) σ H Q → tE g (callF g.T n) Wx ma σ H fun vy H1 => tE g (callF g.T n) Wx mb σ H1 fun vx H2 => rIn g n Wx k f vy vx H2 Q := fun σ H Q q => by
  obtain ⟨w, Fr, ρ, S, hs, he, hp⟩ := q
  refine ⟨w, Fr, ρ, S, hs, he, Post.bind hp fun y S1 w1 H1 vy l1 hs1 ry hp1 => ?_⟩
  refine ⟨w1, Fr, ρ, S1, hs1, he.mono l1, Post.bind hp1 fun x S2 w2 H2 vx l2 hs2 rx hp2 => ?_⟩
  split at hp2
  · rename_i hx
    exact ⟨w2, Fr, σ, S2, x, y, hs2, rx, ry.mono l2, hx, hp2⟩
  · exact False.elim hp2
theorem op_in' (ho : XOk g n Wx c X) (hh : c.hot = false) {k f : Nat} (hk : clsIn c k = true) (hf : c.mt k "__contains__" = some f) : OpR X (compareOp .In) (rIn g n Wx k f) := by
  have cf := ho.clf hk
  obtain ⟨fd, ps, mf, bd, F⟩ := ho.met hh hf
  refine OpR.imp (ObX.op_inO mf.at_ mf.fn F (ho.room hh) bd) fun vy vx H Q q => ?_
  obtain ⟨w, Fr, σ, S, x, y, hs, rx, ry, hx, hp⟩ := q
  obtain ⟨xs, ad, dx, vs, rfl, rfl, hH, rr⟩ := isO_rep hx rx
  refine ⟨ad, dx, _, rfl, hs.h0 _ _ hH, w, Fr, S, _, hs, .cons rx (.cons ry .nil), ?_⟩
  refine post_nox (rep := Rg g) (show Post g Wx (Rg g) w Fr σ ((callF g.T n f [.obj k xs, y] S).nox.bind _) Q from hp) fun d S3 w3 H3 v l3 hs3 rd hp3 => ?_
  cases rd <;> first
    | (exact False.elim hp3; done)
    | exact ⟨_, rfl, Post.ok hp3 hs3 (.bl _)⟩
theorem se_in' (ho : XOk g n Wx c X) (hh : c.hot = false) {k f : Nat} {a b : Expr} {ma mb : ME} {pos : Pos} (hk : clsIn c k = true) (hf : c.mt k "__contains__" = some f) (ha : SE g n Wx X a ma) (hb : SE g n Wx X b mb) (hm : behindInMarks .In b = false) :
    SE g n Wx X (.Compare a [.In] [b] pos) (.mcr k f ma mb) ∧ ST g n Wx X (.Compare a [.In] [b] pos) (.mcr k f ma mb) :=
  ⟨PE.imp (pe_cmpR (op_in' ho hh hk hf) ha hb hm) in_rd, PT.imp (pt_cmpR (op_in' ho hh hk hf) ha hb hm) fun σ H Q q => in_rd _ _ _ (tT_to (fun _ _ => rfl) σ H Q q)⟩
theorem se_neg' (ho : XOk g n Wx c X) (hh : c.hot = false) {k f : Nat} {a : Expr} {ma : ME} {pos : Pos} (hk : clsIn c k = true) (hf : c.mt k "__neg__" = some f) (ha : SE g n Wx X a ma) : SE g n Wx X (.UnaryOp .USub a pos) (.mcl .sub k f ma []) := by
  have cf := ho.clf hk
  obtain ⟨fd, ps, mf, bd, F⟩ := ho.met hh hf
  refine PE.imp (pe_un (ObX.un_negO mf.at_ mf.fn F (ho.room hh) bd) ha) fun σ H Q q => ?_
  obtain ⟨w, Fr, ρ, S, hs, he, hp⟩ := q
  refine ⟨w, Fr, ρ, S, hs, he, Post.bind hp fun x S1 w1 H1 vx l1 hs1 rx hp1 => ?_⟩
  split at hp1
  · rename_i hx
    obtain ⟨xs, ad, dx, vs, rfl, rfl, hH, rr⟩ := isO_rep hx rx
    have hp1 : Post g Wx (Rg g) w1 Fr σ (callF g.T n f [.obj k xs] S1).nox Q := hp1
    exact ⟨ad, dx, _, rfl, hs1.h0 _ _ hH, w1, Fr, S1, [.obj k xs], hs1, .cons rx .nil, unox hp1⟩
  · exact False.elim hp1
theorem se_len' (ho : XOk g n Wx c X) (hh : c.hot = false) {k f : Nat} {a : Expr} {ma : ME} {p pos : Pos} (h : cGlo c "len" = some .blt) (hk : clsIn c k = true) (hf : c.mt k "__len__" = some f) (ns : NoStar a) (ha : SE g n Wx X a ma) :
    SE g n Wx X (.Call (.Name "len" p) [a] [] pos) (.mcl .len k f ma []) := by
  have cf := ho.clf hk
  obtain ⟨h1, h2, h3, h4⟩ := cGlo_ok h
  have m1 : X.mg "len" = none := by rw [ho.hmg]; exact ho.ge.blt _ h2
  obtain ⟨fd, ps, mf, bd, F⟩ := ho.met hh hf
  refine PE.imp (pe_callB (ObX.call_lenO mf.at_ mf.fn F (ho.room hh) bd) (ho.gl h1) m1 (by decide +kernel) (pa_cons ha pa_nil (ns _ _)) h4 h3 (ns _ _) rfl) fun σ H Q q => ?_
  obtain ⟨w, Fr, ρ, S, hs, he, hp⟩ := q
  refine ⟨w, Fr, ρ, S, hs, he, Post.bind hp fun x S1 w1 H1 vx l1 hs1 rx hp1 => ?_⟩
  split at hp1
  · rename_i hx
    obtain ⟨xs, ad, dx, vs, rfl, rfl, hH, rr⟩ := isO_rep hx rx
    have hp1 : Post g Wx (Rg g) w1 Fr σ ((callF g.T n f [.obj k xs] S1).nox.bind fun d S => match d with
      | .int n => if 0 ≤ n ∧ ltN n B62 = true then .ok (.int n) S else .bad
      | _ => .bad) Q := hp1
    refine ⟨ad, dx, _, rfl, hs1.h0 _ _ hH, w1, Fr, S1, [.obj k xs], hs1, .cons rx .nil, ?_⟩
    refine post_nox (rep := Rg g) hp1 fun d S3 w3 H3 v l3 hs3 rd hp3 => ?_
    cases rd <;> first
      | (exact False.elim hp3; done)
      | (rename_i i
         dsimp only at hp3
         split at hp3
         · rename_i hi
           have hb := ltN_ok hi.2
           have e62 : B62 = 2 ^ 62 := by decide
           rw [e62] at hb
           exact ⟨i, rfl, ⟨hi.1, by omega⟩, Post.ok hp3 hs3 (.int _)⟩
         · exact False.elim hp3)
  · exact False.elim hp1
/-- a call by name: what it does -/
theorem ht_of {o : Expr} {m : Str} {apos pos : Pos} {args : List Expr} {env : PySem.Env} (hbase : attributeBase o m env (eval o env) = eval o env)
    (few : ((backTo pos (starEach args env)).all (fun x => !x.1) && (backToKw pos (keywordEach [] env)).all (fun x => x.1.isSome) && decide (args.length + ([] : List Keyword).length + (if ([] : List Keyword).isEmpty then 0 else 1) < 30)) = true) (hline : (apos.endLine == pos.line) = true) :
    eval (.Call (.Attribute o m apos) args [] pos) env = (do
      let ov ← eval o env
      standAt apos.atName
      let (f, first) ← holding [ov] (getMethod ov m (do return (← importBound o env).getD true))
      callWith pos f first (backTo pos (starEach args env)) (backToKw pos (keywordEach [] env))) := by
  have hform : methodCallForm (args.length + ([] : List Keyword).length) (backTo pos (starEach args env)) (backToKw pos (keywordEach [] env)) = true := few
  have hpos : methodCallPos true o env apos pos = pure pos := by unfold methodCallPos; simp [hline]
  rw [arm_eval_Call, hbase]
  unfold methodCall
  rw [hform, hpos]
  rfl
theorem few_of {args : List Expr} {env : PySem.Env} {pos : Pos} (hpl : starEach args env = args.map fun e => (false, eval e env)) (hl : args.length ≤ 8) :
    ((backTo pos (starEach args env)).all (fun x => !x.1) && (backToKw pos (keywordEach [] env)).all (fun x => x.1.isSome) && decide (args.length + ([] : List Keyword).length + (if ([] : List Keyword).isEmpty then 0 else 1) < 30)) = true := by
  rw [Bool.and_eq_true, Bool.and_eq_true]
  refine ⟨⟨?_, rfl⟩, ?_⟩
  · rw [hpl]
    unfold backTo
    rw [List.all_map, List.all_map, List.all_eq_true]
    intro e _
    rfl
  · rw [decide_eq_true_eq]
    simp
    omega
theorem se_meth (ho : XOk g n Wx c X) (hh : c.hot = false) {kk k f : Nat} {o e : Expr} {es : List Expr} {mo : ME} {ms : List ME} {m : Str} {apos pos : Pos} (hk : clsIn c k = true) (hf : c.mt k m = some f) (hx : ixOf (flds k) m = none) (hline : (apos.endLine == pos.line) = true) (hl : (e :: es).length ≤ 8) (hc : cE kk c o = some mo) (h1 : SE g n Wx X o mo) (ns : NoStar e)
    (hpl : starEach (e :: es) X.env = (e :: es).map fun e => (false, eval e X.env)) (hpl2 : (backTo pos (starEach es X.env)).any (·.1) = false) (ha : SA g n Wx X (e :: es) ms) : SE g n Wx X (.Call (.Attribute o m apos) (e :: es) [] pos) (.mcl .call k f mo ms) := by
  have cf := ho.clf hk
  obtain ⟨fd, ps, mf, bd, F⟩ := ho.met hh hf
  refine PE.imp (ObX.pe_methO (E := WE Wx) h1 cf.cls ⟨mf.at_, mf.fn, mf.kp⟩ F (ho.room hh).rm bd (fun σ => L2N.passAt ho.tk σ) ha (ns _ _) hpl2 (ht_of (base_of hc _ _) (few_of hpl hl) hline)) fun σ H Q q => ?_
  obtain ⟨w, Fr, ρ, S, hs, he, hp⟩ := q
  refine ⟨w, Fr, ρ, S, hs, he, Post.bind hp fun x S1 w1 H1 vx l1 hs1 rx hp1 => ?_⟩
  split at hp1
  · rename_i hxo
    obtain ⟨xs, ad, dx, vs, rfl, rfl, hH, rr⟩ := isO_rep hxo rx
    refine ⟨ad, dx, _, rfl, hs1.h0 _ _ hH, zip_none hx, w1, Fr, ρ, S1, hs1, he.mono l1, Post.bind hp1 fun ys S2 w2 H2 vy l2 hs2 ry hp2 => ?_⟩
    have hp2 : Post g Wx (Rg g) w2 Fr σ (callF g.T n f (.obj k xs :: ys) S2) Q := hp2
    refine ⟨w2, Fr, S2, _, hs2, .cons (rx.mono l2) ry, ?_⟩
    revert hp2
    cases callF g.T n f (.obj k xs :: ys) S2 <;> exact fun z => z
  · exact False.elim hp1
theorem se_meth0 (ho : XOk g n Wx c X) (hh : c.hot = false) {kk k f : Nat} {o : Expr} {mo : ME} {m : Str} {apos pos : Pos} (hk : clsIn c k = true) (hf : c.mt k m = some f) (hx : ixOf (flds k) m = none) (hline : (apos.endLine == pos.line) = true) (hc : cE kk c o = some mo) (h1 : SE g n Wx X o mo) :
    SE g n Wx X (.Call (.Attribute o m apos) [] [] pos) (.mcl .call k f mo []) := by
  have cf := ho.clf hk
  obtain ⟨fd, ps, mf, bd, F⟩ := ho.met hh hf
  refine PE.imp (ObX.pe_methO0 (E := WE Wx) h1 cf.cls ⟨mf.at_, mf.fn, mf.kp⟩ F (ho.room hh).rm bd (fun σ => L2N.passAt ho.tk σ) (ht_of (base_of hc _ _) (few_of rfl (Nat.zero_le _)) hline)) fun σ H Q q => ?_
  obtain ⟨w, Fr, ρ, S, hs, he, hp⟩ := q
  refine ⟨w, Fr, ρ, S, hs, he, Post.bind hp fun x S1 w1 H1 vx l1 hs1 rx hp1 => ?_⟩
  split at hp1
  · rename_i hxo
    obtain ⟨xs, ad, dx, vs, rfl, rfl, hH, rr⟩ := isO_rep hxo rx
    have hp1 : Post g Wx (Rg g) w1 Fr σ (callF g.T n f [.obj k xs] S1) Q := hp1
    refine ⟨ad, dx, _, rfl, hs1.h0 _ _ hH, zip_none hx, w1, Fr, S1, _, hs1, .cons rx .nil, ?_⟩
    revert hp1
    cases callF g.T n f [.obj k xs] S1 <;> exact fun z => z
  · exact False.elim hp1
/-- f(e, ..), f an instance -/
theorem se_act (ho : XOk g n Wx c X) (hh : c.hot = false) {k f : Nat} {fe e : Expr} {es : List Expr} {mo : ME} {ms : List ME} {pos : Pos} (hk : clsIn c k = true) (hf : c.mt k "__call__" = some f) (h1 : SE g n Wx X fe mo) (ns : NoStar e) (hpl2 : (backTo pos (starEach es X.env)).any (·.1) = false) (ha : SA g n Wx X (e :: es) ms)
    (ht : eval (.Call fe (e :: es) [] pos) X.env = (do callWith pos (← eval fe X.env) [] (backTo pos (starEach (e :: es) X.env)) (backToKw pos (keywordEach [] X.env)))) : SE g n Wx X (.Call fe (e :: es) [] pos) (.mcl .call k f mo ms) := by
  have cf := ho.clf hk
  obtain ⟨fd, ps, mf, bd, F⟩ := ho.met hh hf
  refine PE.imp (ObX.pe_actO (E := WE Wx) h1 ⟨mf.at_, mf.fn, mf.fi⟩ F (ho.room hh).rm bd (fun σ => L2N.passAt ho.tk σ) ha ht (ns _ _) hpl2) fun σ H Q q => ?_
  obtain ⟨w, Fr, ρ, S, hs, he, hp⟩ := q
  refine ⟨w, Fr, ρ, S, hs, he, Post.bind hp fun x S1 w1 H1 vx l1 hs1 rx hp1 => ?_⟩
  split at hp1
  · rename_i hxo
    obtain ⟨xs, ad, dx, vs, rfl, rfl, hH, rr⟩ := isO_rep hxo rx
    refine ⟨ad, dx, (flds k).zip vs, rfl, w1, Fr, ρ, S1, hs1, he.mono l1, Post.bind hp1 fun ys S2 w2 H2 vy l2 hs2 ry hp2 => ?_⟩
    have hp2 : Post g Wx (Rg g) w2 Fr σ (callF g.T n f (.obj k xs :: ys) S2) Q := hp2
    refine ⟨hs2.h0 _ _ (l2.hp _ _ hH), w2, Fr, S2, _, hs2, .cons (rx.mono l2) ry, ?_⟩
    revert hp2
    cases callF g.T n f (.obj k xs :: ys) S2 <;> exact fun z => z
  · exact False.elim hp1
/-- C(e, ..) -/
theorem se_mk (ho : XOk g n Wx c X) (hh : c.hot = false) {x : Str} {k f : Nat} {e : Expr} {es : List Expr} {ms : List ME} {p pos : Pos} (h : cGlo c x = some (.cls k f)) (ns : NoStar e) (hpl : (backTo pos (starEach es X.env)).any (·.1) = false) (ha : SA g n Wx X (e :: es) ms) :
    SE g n Wx X (.Call (.Name x p) (e :: es) [] pos) (.mk f ms) := by
  obtain ⟨h1, h2, h3, h4⟩ := cGlo_ok h
  obtain ⟨e1, M, _⟩ := ho.ge.cls x k f h2
  obtain ⟨fd, ps, hb, F⟩ := ho.ini hh x k f h2
  have F' : FnOk X.prog X.w X.K X.mg X.base (L2N.CX X.prog X.w) n (g.fa f) fd ps (SpI g n k f) := by
    rw [ho.hP, ho.hw, ho.hK, ho.hmg, ho.hbase]; exact F
  refine PE.imp (ObX.pe_makeO (E := WE Wx) (by rw [ho.hK]; exact M) F' (ho.room hh) (ho.gl h1) (by rw [ho.hmg]; exact e1) (by rw [ho.hK]; exact hb) (fun σ => L2N.passAt ho.tk σ) ha h3 (ns _ _) hpl) fun σ H Q q => ?_
  obtain ⟨w, Fr, ρ, S, hs, he, hp⟩ := q
  refine ⟨w, Fr, ρ, S, hs, he, Post.bind hp fun xs S1 w1 H1 vs l1 hs1 rx hp1 => ?_⟩
  intro y dx ny ndx ne
  have ne' : y ≠ dx := fun z => ne z.symm
  have s2 := hs1.toFrame (o := .own y) ndx
  have s3 := s2.toFrame (p := y) (o := .ins (cAd g.fa k) dx []) (by rw [upd_ne ne']; exact ny)
  refine ⟨y, dx, w1, upd Fr dx (.own y), S1, xs, vs, rfl, by rw [upd_ne ne']; exact free_of hs1.fr ny, s3, rx, ?_⟩
  have nf : Fr dx = none := free_of hs1.fr ndx
  revert hp1
  cases callF g.T n f (.any :: xs) S1 with
  | bad => exact fun z => z
  | exc e S' =>
    intro hp1 w' H' l s'
    obtain ⟨s4, l4⟩ := s'.frameData nf
    exact hp1 _ _ (l.trans l4) s4
  | ok d S' =>
    intro hp1 w' H' b l s' r
    obtain ⟨s4, l4⟩ := s'.frameData nf
    exact ⟨r.1, hp1 _ _ _ (l.trans l4) s4 (r.2.mono l4)⟩
/-- isinstance(e, C) -/
theorem se_iso (ho : XOk g n Wx c X) {y : Str} {k f : Nat} {e : Expr} {m : ME} {p p2 pos : Pos} (h : cGlo c "isinstance" = some .blt) (hy : cGlo c y = some (.cls k f)) (ns : NoStar e) (he : SE g n Wx X e m) : SE g n Wx X (.Call (.Name "isinstance" p) [e, .Name y p2] [] pos) (.iso k m) := by
  obtain ⟨h1, h2, h3, h4⟩ := cGlo_ok h
  obtain ⟨t1, t2, t3, t4⟩ := cGlo_ok hy
  have m1 : X.mg "isinstance" = none := by rw [ho.hmg]; exact ho.ge.blt _ h2
  obtain ⟨e1, _, cf⟩ := ho.ge.cls y k f t2
  rw [← ho.hK] at cf
  refine PE.imp (pe_callB call_isi (ho.gl h1) m1 (by decide +kernel) (pa_cons he (pa_cons (pe_glob (v := .ref (cAd g.fa k)) (ho.gl t1) (by rw [ho.hmg]; exact e1) rfl t3) pa_nil) (ns _ _)) h4 h3 (ns _ _) rfl) fun σ H Q q => ?_
  obtain ⟨w, Fr, ρ, S, hs, he, hp⟩ := q
  refine ⟨w, Fr, ρ, S, hs, he, Post.bind hp fun x S1 w1 H1 vx l1 hs1 rx hp1 => ?_⟩
  obtain ⟨d, e1, hq⟩ := post_opt hp1
  obtain ⟨b, e2, rfl⟩ := map_some e1
  refine ⟨vx, .ref (cAd g.fa k), ?_⟩
  cases rx <;> first
    | (cases e2; done)
    | (cases e2; exact ⟨_, _, _, rfl, .own _, .base .non, cf.kit "NoneType" (by decide), hq.ok hs1 (.bl _)⟩)
    | (cases e2; exact ⟨_, _, _, rfl, .own _, .base (.bl _), cf.kit "bool" (by decide), hq.ok hs1 (.bl _)⟩)
    | (cases e2; exact ⟨_, _, _, rfl, .own _, .base (.int _), cf.kit "int" (by decide), hq.ok hs1 (.bl _)⟩)
    | (cases e2; exact ⟨_, _, _, rfl, .own _, .base (.str _), cf.kit "str" (by decide), hq.ok hs1 (.bl _)⟩)
    | (rename_i j xs a dx vs hH rr
       simp only [isoV] at e2
       split at e2
       · rename_i ej
         subst ej
         cases e2
         exact ⟨_, _, _, rfl, .own _, .base (.ins (hs1.h0 _ _ hH) cf.cls cf.ca cf.cb cf.ct cf.mro), cf.kts, hq.ok hs1 (.bl _)⟩
       · cases e2)
/-! ### the name that holds the instance in the making -/
theorem st_in {x : Option (Nat × Addr)} {w : Wd} {Fr H : Hp} {S : Sto} (s : StOk { g with exs := x } w Fr H S) : StOk g w Fr H S := ⟨s.h0, s.fr, s.dj, s.lt, s.live, s.inj, s.lv⟩
theorem st_out {x : Option (Nat × Addr)} {w : Wd} {Fr H : Hp} {S : Sto} (s : StOk g w Fr H S) : StOk { g with exs := x } w Fr H S := ⟨s.h0, s.fr, s.dj, s.lt, s.live, s.inj, s.lv⟩
theorem spf_in {x : Option (Nat × Addr)} {f : Nat} {vs : List V} {H : Hp} {Q : VK} {E : XK} (h : SpF { g with exs := x } n f vs H Q E) : SpF g n f vs H Q E := by
  obtain ⟨w, Fr, S, ds, hs, r, hp⟩ := h
  refine ⟨w, Fr, S, ds, st_in hs, r, ?_⟩
  have hp : Post { g with exs := x } (fun cls d _ H => E cls d H) (Rg g) w Fr [] (callF g.T n f ds S) Q := hp
  revert hp
  cases callF g.T n f ds S with
  | ok a S' => exact fun z w' H' b l s r => z w' H' b l (st_out s) r
  | exc k S' => exact fun z w' H' l s => z w' H' l (st_out s)
  | bad => exact fun z => z
theorem spi_in {x : Option (Nat × Addr)} {k f : Nat} {vs : List V} {H : Hp} {Q : VK} {E : XK} (h : SpI { g with exs := x } n k f vs H Q E) : SpI g n k f vs H Q E := by
  obtain ⟨y, dx, w, Fr, S, ds, vs', e, hn, hs, r, hp⟩ := h
  refine ⟨y, dx, w, Fr, S, ds, vs', e, hn, st_in hs, r, ?_⟩
  have hp : Post { g with exs := x } (fun cls d _ H => E cls d H) (fun w a b => b = V.non ∧ Rg g w a (.ref y)) w Fr [] (callF g.T n f (.any :: ds) S) Q := hp
  revert hp
  cases callF g.T n f (.any :: ds) S with
  | ok a S' => exact fun z w' H' b l s r => z w' H' b l (st_out s) r
  | exc k S' => exact fun z w' H' l s => z w' H' l (st_out s)
  | bad => exact fun z => z
theorem fnAt_in {x : Option (Nat × Addr)} {f : Nat} (h : FnAt g n f) : FnAt { g with exs := x } n f := by
  obtain ⟨fd, ps, hb, F⟩ := h
  exact ⟨fd, ps, hb, FnOk.imp F fun vs H Q E z => spf_in z⟩
theorem iniAt_in {x : Option (Nat × Addr)} {k f : Nat} (h : IniAt g n k f) : IniAt { g with exs := x } n k f := by
  obtain ⟨fd, ps, hb, F⟩ := h
  exact ⟨fd, ps, hb, FnOk.imp F fun vs H Q E z => spi_in z⟩
theorem geOk_in {x : Option (Nat × Addr)} {ge : Str → Option GV} (h : GeOk g ge) : GeOk { g with exs := x } ge := ⟨h.fn, h.cst, h.blt, h.xfn, h.exc, h.cls, h.kit⟩
end
end Mn
end
section
set_option Elab.async false
set_option linter.all false
set_option maxRecDepth 100000
set_option maxHeartbeats 4000000
/-! Snd10: every expression that Cmp takes evaluates as Mini says. -/
namespace Mn
open PySem PySem.Spec PyProof.Rows L2
section
variable {g : G} {n : Nat}

/-- a test that Mini does not know -/
theorem st_bad {Wx : WX} {X : Cx} {e : Expr} {m : ME} (h : ∀ ρ S, evT (callF g.T n) m ρ S = .bad) : ST g n Wx X e m :=
  ⟨fun pins s σ H Q I q => by
    obtain ⟨w, Fr, ρ, S, _, _, hp⟩ := q
    rw [h] at hp
    exact False.elim hp⟩
theorem isTrue_call {env : PySem.Env} {f : Expr} {args : List Expr} {kws : List Keyword} {pos : Pos} (whole : Sem Value) : isTrue (.Call f args kws pos) env whole = (do let v ← whole; standAt pos; holding [v] (PySem.truthy v)) := rfl

def Good (g : G) (n k : Nat) : Prop := ∀ (Wx : WX) (c : CC) (X : Cx) (e : Expr) (m : ME), XOk g n Wx c X → cE k c e = some m → SE g n Wx X e m ∧ ST g n Wx X e m
theorem sa_all {k : Nat} (ih : Good g n k) {Wx : WX} {c : CC} {X : Cx} (ho : XOk g n Wx c X) : ∀ {es : List Expr} {ms : List ME}, cAll (cE k c) es = some ms → SA g n Wx X es ms
  | [], ms, h => by cases h; exact sa_nil
  | e :: r, ms, h => by
    obtain ⟨b, bs', e1, e2, rfl⟩ := cAll_cons h
    exact sa_cons (noStar_of e1) (ih _ _ _ _ _ ho e1).1 (sa_all ih ho e2)
theorem and_chain {k : Nat} (ih : Good g n k) {Wx : WX} {c : CC} {X : Cx} (ho : XOk g n Wx c X) {pos : Pos} : ∀ {es : List Expr} {ms : List ME} {m : ME}, cAll (cE k c) es = some ms → foldAnd ms = some m → SE g n Wx X (.BoolOp .And es pos) m ∧ SW g n Wx X (.BoolOp .And es pos) m
  | [], ms, m, h, h2 => by cases h; cases h2
  | [e], ms, m, h, h2 => by
    obtain ⟨b, bs', e1, e2, rfl⟩ := cAll_cons h
    cases e2
    cases h2
    obtain ⟨h1, h2⟩ := ih _ _ _ _ _ ho e1
    exact ⟨pe_one h1, pw_and1 h2⟩
  | e :: e' :: r, ms, m, h, h2 => by
    obtain ⟨b, bs', e1, e2, rfl⟩ := cAll_cons h
    obtain ⟨b2, bs2, e3, e4, rfl⟩ := cAll_cons e2
    obtain ⟨m', q, rfl⟩ := map_some (show (foldAnd (b2 :: bs2)).map (ME.and b) = some m from h2)
    obtain ⟨i1, i2⟩ := and_chain ih ho e2 q
    obtain ⟨h1, h2⟩ := ih _ _ _ _ _ ho e1
    exact ⟨se_and h1 i1, sw_and h2 i2⟩
theorem or_chain {k : Nat} (ih : Good g n k) {Wx : WX} {c : CC} {X : Cx} (ho : XOk g n Wx c X) {pos : Pos} : ∀ {es : List Expr} {ms : List ME} {m : ME}, cAll (cE k c) es = some ms → foldOr ms = some m → SE g n Wx X (.BoolOp .Or es pos) m ∧ SW g n Wx X (.BoolOp .Or es pos) m
  | [], ms, m, h, h2 => by cases h; cases h2
  | [e], ms, m, h, h2 => by
    obtain ⟨b, bs', e1, e2, rfl⟩ := cAll_cons h
    cases e2
    cases h2
    obtain ⟨h1, h2⟩ := ih _ _ _ _ _ ho e1
    exact ⟨pe_one h1, pw_or1 h2⟩
  | e :: e' :: r, ms, m, h, h2 => by
    obtain ⟨b, bs', e1, e2, rfl⟩ := cAll_cons h
    obtain ⟨b2, bs2, e3, e4, rfl⟩ := cAll_cons e2
    obtain ⟨m', q, rfl⟩ := map_some (show (foldOr (b2 :: bs2)).map (ME.or b) = some m from h2)
    obtain ⟨i1, i2⟩ := or_chain ih ho e2 q
    obtain ⟨h1, h2⟩ := ih _ _ _ _ _ ho e1
    exact ⟨se_or h1 i1, sw_or h2 i2⟩
theorem lastMarks2 {o1 o2 : CmpOp} {b d : Expr} : lastMarks [o1, o2] [b, d] = behindInMarks o2 d := rfl
theorem cI_ok {k : Nat} (ih : Good g n k) {Wx : WX} {c : CC} {X : Cx} (ho : XOk g n Wx c X) {tg e : Expr} {m : MI} (h : cI (cE k c) c (isTupT tg) e = some m) : SI g n Wx X tg e m := by
  have seq : ∀ {m}, (cE k c e).map MI.seq = some m → SI g n Wx X tg e m := fun {m} h => by
    obtain ⟨m', e1, rfl⟩ := map_some h
    exact si_seq ho (ih _ _ _ _ _ ho e1).1
  unfold cI at h
  split at h
  · rename_i x p args pos
    split at h
    · rename_i hb
      split at h
      · rename_i hx
        subst hx
        split at h
        · rename_i a
          obtain ⟨m', e1, rfl⟩ := map_some h
          exact si_rng1 ho hb (noStar_of e1) (ih _ _ _ _ _ ho e1).1
        · rename_i a b
          split at h
          · rename_i ma mb e1 e2
            cases h
            exact si_rng2 ho hb (noStar_of e1) (noStar_of e2) (ih _ _ _ _ _ ho e1).1 (ih _ _ _ _ _ ho e2).1
          · cases h
        · cases h
      split at h
      · rename_i hx
        obtain ⟨rfl, htup⟩ := hx
        cases tg <;> first
          | (cases htup; done)
          | (split at h
             · rename_i a b
               split at h
               · rename_i ma mb e1 e2
                 cases h
                 exact si_zip ho hb (noStar_of e1) (noStar_of e2) (ih _ _ _ _ _ ho e1).1 (ih _ _ _ _ _ ho e2).1
               · cases h
             · cases h)
      split at h
      · rename_i hx
        obtain ⟨rfl, htup⟩ := hx
        cases tg <;> first
          | (cases htup; done)
          | (split at h
             · rename_i a
               split at h
               · rename_i m1 m2 q
                 cases h
                 unfold cZip at q
                 split at q
                 · split at q
                   · rename_i hy
                     subst hy
                     split at q
                     · rename_i hz e1 e2
                       cases q
                       exact si_enz ho hb hz (noStar_of e1) (noStar_of e2) (ih _ _ _ _ _ ho e1).1 (ih _ _ _ _ _ ho e2).1
                     · cases q
                   · cases q
                 · cases q
               · obtain ⟨m', e1, rfl⟩ := map_some h
                 exact si_enm ho hb (noStar_of e1) (ih _ _ _ _ _ ho e1).1
             · cases h)
      exact seq h
    · exact seq h
  · exact seq h
theorem cIH_ok {k : Nat} (ih : Good g n k) {Wx : WX} {c : CC} {X : Cx} (ho : XOk g n Wx c X) {tg e : Expr} {m : MI} (h : cIH (cE k c) c (isTupT tg) e = some m) : SIH g n Wx X tg e m ∧ ∀ env x, foldedSetIterable e env x = pure x := by
  unfold cIH at h
  split at h
  · rename_i x p a b pos
    split at h
    · rename_i hb
      split at h
      · rename_i hx
        obtain ⟨rfl, htup⟩ := hx
        split at h
        · rename_i ma mb e1 e2
          cases h
          cases tg <;> first
            | (cases htup; done)
            | exact ⟨si_zipl ho hb (noStar_of e1) (noStar_of e2) (ih _ _ _ _ _ ho e1).1 (ih _ _ _ _ _ ho e2).1, fun _ _ => rfl⟩
        · cases h
      · cases h
    · cases h
  · cases h
theorem notSet_cI {k : Nat} {c : CC} {tup : Bool} {e : Expr} {m : MI} (h : cI (cE k c) c tup e = some m) (env : PySem.Env) (x : Value) : foldedSetIterable e env x = pure x := by
  cases e <;> first
    | rfl
    | (exfalso
       have h : (cE k c (.Set _ _ _)).map MI.seq = some m := h
       obtain ⟨m', e1, _⟩ := map_some h
       cases k with
       | zero => cases e1
       | succ k => simp [cE, cE1, cOb] at e1)
theorem blk_ok {N : List Str} {sc scope : Scope} {own : List (Str × Nat)} (h : blkC N sc scope own = true) : scope.kind = .function := (blkOk_by h).kind
theorem cO_ok {k : Nat} (ih : Good g n k) {Wx : WX} {c : CC} {X : Cx} (ho : XOk g n Wx c X) {e : Option Expr} {m : Option ME} (h : cO (cE k c) e = some m) : SO g n Wx X e m := by
  cases e with
  | none => cases h; exact so_none
  | some e =>
    obtain ⟨m', e1, rfl⟩ := map_some (show (cE k c e).map some = some m from h)
    exact so_some (ih _ _ _ _ _ ho e1).1
theorem cIfs_ok {k : Nat} (ih : Good g n k) {Wx : WX} {c : CC} {X : Cx} (ho : XOk g n Wx c X) {es : List Expr} {m : Option ME} (h : cIfs (cE k c) es = some m) : SCd g n Wx X es m := by
  match es, h with
  | [], h => cases h; exact scd_nil
  | [e], h =>
    obtain ⟨m', e1, rfl⟩ := map_some (show (cE k c e).map some = some m from h)
    exact scd_one (ih _ _ _ _ _ ho e1).2
  | _ :: _ :: _, h => cases h
theorem cE_lc {k : Nat} {c : CC} {elt : Expr} {gens : List Comprehension} {scope : Scope} {pos : Pos} : cE (k + 1) c (.ListComp elt gens scope pos) = cE1 (cE k) c (.ListComp elt gens scope pos) := by
  show (match cOb (cE k c) c (.ListComp elt gens scope pos) with
    | some m => some m
    | none => cE1 (cE k) c (.ListComp elt gens scope pos)) = _
  have z : cOb (cE k c) c (.ListComp elt gens scope pos) = none := by unfold cOb; split <;> rfl
  rw [z]
/-- the parts of a comprehension, as both rules ask them -/
theorem lcm_parts {k : Nat} (ih : Good g n k) {Wx : WX} {c : CC} {X : Cx} (ho : XOk g n Wx c X) (hh : c.hot = false) {elt tg iter : Expr} {ifs : List Expr} {scope : Scope} {pos : Pos} {m : ME}
    (h : cE1 (cE k) c (.ListComp elt [⟨tg, iter, ifs, 0⟩] scope pos) = some m) :
    ∃ t mi me mc, m = .lcm (c.ow pos) me ((ownOf c.N scope).map (·.2)) t mi mc ∧ blkC c.N c.sc scope (ownOf c.N scope) = true ∧ (∀ x, foldedSetIterable iter X.env x = pure x) ∧ SI g n Wx X tg iter mi ∧ t.within ((ownOf c.N scope).map (·.2)) = true ∧
      (∀ j a, g.exs = some (j, a) → j ∉ (ownOf c.N scope).map (·.2)) ∧
      (∀ (s : Shared) (H : Hp) (C : Addr) (cl : List (Str × Addr)) (fp : List Addr), PG (X.blk s H scope (compEnvC scope cl C X.env) fp) tg (gT g t)) ∧
      (∀ (s : Shared) (H : Hp) (C : Addr) (cl : List (Str × Addr)) (fp : List Addr), SCd g n W0 (X.blk s H scope (compEnvC scope cl C X.env) fp) ifs mc) ∧
      (∀ (s : Shared) (H : Hp) (C : Addr) (cl : List (Str × Addr)) (fp : List Addr), SE g n W0 (X.blk s H scope (compEnvC scope cl C X.env) fp) elt me) := by
  simp only [cE1] at h
  rw [if_pos trivial] at h
  split at h
  · rename_i hb
    rw [Bool.and_eq_true] at hb
    split at h
    · rename_i t it el cd e1 e2 e3 e4
      rw [if_neg (by rw [hh]; simp)] at e2
      split at h
      · rename_i hw
        cases h
        have hx := fun s H C cl fp => ho.blk hh (blk_ok hb.1) s H C cl fp
        exact ⟨t, it, el, cd, rfl, hb.1, notSet_cI e2 X.env, cI_ok ih ho e2, hw, own_nex ho hb.2, fun s H C cl fp => sg_of (hx s H C cl fp) e1, fun s H C cl fp => cIfs_ok ih (hx s H C cl fp) e4, fun s H C cl fp => (ih _ _ _ _ _ (hx s H C cl fp) e3).1⟩
      · cases h
    · cases h
  · cases h
/-- .. in an except suite -/
theorem lcm_hot {k : Nat} (ih : Good g n k) {Wx : WX} {c : CC} {X : Cx} (ho : XOk g n Wx c X) (hh : c.hot = true) {elt tg iter : Expr} {ifs : List Expr} {scope : Scope} {pos : Pos} {m : ME}
    (h : cE1 (cE k) c (.ListComp elt [⟨tg, iter, ifs, 0⟩] scope pos) = some m) : SE g n Wx X (.ListComp elt [⟨tg, iter, ifs, 0⟩] scope pos) m := by
  simp only [cE1] at h
  rw [if_pos trivial] at h
  split at h
  · rename_i hb
    rw [Bool.and_eq_true] at hb
    split at h
    · rename_i t it el cd e1 e2 e3 e4
      split at h
      · rename_i hw
        cases h
        have hx := fun s H C cl fp p hp => ho.blkH hh (blk_ok hb.1) s H C cl fp p hp
        obtain ⟨hI, hset⟩ := cIH_ok ih ho e2
        have okb : BlkOk X.N X.env.scope scope (ownOf c.N scope) := by rw [ho.hN, ho.hsc]; exact blkOk_by hb.1
        refine PE.imp (HotZ.pe_lcH (ho.hotC hh) (by rw [ho.hN]; exact ho.nd) hI okb (fun s H C cl fp p hp => sg_of (hx s H C cl fp p hp) e1) (fun s H C cl fp p hp => cIfs_ok ih (hx s H C cl fp p hp) e4) (fun s H C cl fp p hp => (ih _ _ _ _ _ (hx s H C cl fp p hp) e3).1) (hset _)) ?_
        exact se_lcm ho hw (own_nex ho hb.2)
      · cases h
    · cases h
  · cases h
theorem bcl_ok {k : Nat} (ih : Good g n k) {Wx : WX} {c : CC} {X : Cx} (ho : XOk g n Wx c X) {x : Str} {args : List Expr} {p pos : Pos} {m : ME} (hg : cGlo c x = some .blt) (h : cBlt (cE k c) c x args = some m) : SE g n Wx X (.Call (.Name x p) args [] pos) m ∧ ST g n Wx X (.Call (.Name x p) args [] pos) m := by
  unfold cBlt at h
  split at h
  · rename_i b ms q1 q2
    split at h
    · cases h
    · rename_i hh
      cases h
      have hh' : c.hot = false ∨ hotBF b = true := by
        cases q : c.hot with
        | false => exact .inl rfl
        | true => right; rw [q] at hh; simpa using hh
      cases args with
      | nil =>
        exfalso
        simp [bfOf] at q1
      | cons a r =>
        obtain ⟨b', bs', q3, q4, _⟩ := cAll_cons q2
        have z := se_bcl ho (p := p) (pos := pos) hg q1 hh' (noStar_of q3) (nostars q4) (sa_all ih ho q2)
        exact ⟨z, st_truth z (fun _ => rfl) fun _ _ => rfl⟩
  · cases h
theorem set_ok {k : Nat} (ih : Good g n k) {Wx : WX} {c : CC} {X : Cx} (ho : XOk g n Wx c X) {x : Str} {a : Expr} {p pos : Pos} {m : ME} (hg : cGlo c x = some .blt) (h : cSet (cE k c) c x a = some m) : SE g n Wx X (.Call (.Name x p) [a] [] pos) m ∧ ST g n Wx X (.Call (.Name x p) [a] [] pos) m := by
  unfold cSet at h
  split at h
  · cases h
  · rename_i hc
    have hh : c.hot = false := by simpa using hc
    split at h
    · rename_i y p2 e q
      split at h
      · rename_i hy
        subst hy
        split at h
        · rename_i m' q1 q2
          split at h
          · rename_i hx
            subst hx
            cases h
            exact ⟨se_sset ho hh hg q1 (noStar_of q2) (ih _ _ _ _ _ ho q2).1, st_bad fun _ _ => rfl⟩
          · split at h
            · rename_i hx
              subst hx
              cases h
              exact ⟨se_slen ho hh hg q1 (noStar_of q2) (ih _ _ _ _ _ ho q2).1, st_bad fun _ _ => rfl⟩
            · cases h
        · cases h
      · cases h
    · cases h
theorem callv_ok {k : Nat} (ih : Good g n k) {Wx : WX} {c : CC} {X : Cx} (ho : XOk g n Wx c X) {fe : Expr} {args : List Expr} {pos : Pos} {m : ME} (hf : isSub fe = true ∨ ∃ x p, fe = .Name x p) (h : cCallv (cE k c) c fe args = some m) : SE g n Wx X (.Call fe args [] pos) m ∧ ST g n Wx X (.Call fe args [] pos) m := by
  unfold cCallv at h
  split at h
  · cases h
  · rename_i hc
    rw [Bool.or_eq_true, not_or] at hc
    have hh : c.hot = false := by simpa using hc.1
    split at h
    · rename_i ks mf ms q1 q2 q3
      cases h
      cases args with
      | nil => exact absurd rfl hc.2
      | cons a r =>
        obtain ⟨b', bs', q4, q5, _⟩ := cAll_cons q3
        have sf := (ih _ _ _ _ _ ho q2).1
        refine ⟨?_, st_bad fun _ _ => rfl⟩
        rcases hf with hf | ⟨x, p, rfl⟩
        · exact se_callvF ho hh hf q1 sf (noStar_of q4) (nostars q5) (sa_all ih ho q3)
        · exact se_callvN ho hh q1 sf (noStar_of q4) (nostars q5) (sa_all ih ho q3)
    · cases h
theorem call_ok {k : Nat} (ih : Good g n k) {Wx : WX} {c : CC} {X : Cx} (ho : XOk g n Wx c X) {f : Expr} {args : List Expr} {pos : Pos} {m : ME} (h : cCall (cE k c) c f args pos = some m) : SE g n Wx X (.Call f args [] pos) m ∧ ST g n Wx X (.Call f args [] pos) m := by
  have h0 := h
  unfold cCall at h
  split at h
  · rename_i x p
    split at h
    · rename_i fk hg
      split at h
      · cases h
      · rename_i hne
        rw [Bool.or_eq_true, not_or] at hne
        obtain ⟨ms, e1, rfl⟩ := map_some h
        cases args with
        | nil => exact absurd rfl hne.1
        | cons a r =>
          obtain ⟨b, bs', q1, q2, _⟩ := cAll_cons e1
          have z := se_call ho (by simpa using hne.2) (p := p) (pos := pos) hg (noStar_of q1) (nostars q2) (sa_all ih ho e1)
          exact ⟨z, st_truth z (fun _ => rfl) fun _ _ => rfl⟩
    · rename_i fk hg
      refine ⟨se_xcall ho hg h, ?_⟩
      obtain ⟨_, _, _, _, _, _, _, _, _, rfl⟩ := xc_eq h
      exact st_bad fun _ _ => rfl
    · rename_i hg
      split at h
      · rename_i hx
        subst hx
        split at h
        · rename_i a b
          split at h
          · rename_i t q
            cases h
            have z := se_isx ho (p := p) (pos := pos) hg q
            exact ⟨z, st_truth z (fun _ => rfl) fun _ _ => rfl⟩
          · split at h
            · rename_i ty ma q1 q2 q3
              cases h
              cases b <;> first
                | (cases q1; done)
                | skip
              rename_i tn tp _
              have z := se_isi ho (p := p) (p2 := tp) (pos := pos) hg q1 q2 (noStar_of q3) (ih _ _ _ _ _ ho q3).1
              refine ⟨z, st_truth z (fun _ => rfl) fun ρ S => ?_⟩
              simp only [evT, ev]
              cases ev (callF g.T n) ma ρ S with
              | ok x S1 => show ofOpt S1 (isiV x ty) = (ofOpt S1 ((isiV x ty).map D.bl)).bind _; cases isiV x ty <;> rfl
              | exc _ _ => rfl
              | bad => rfl
            · cases h
        · cases h
      · split at h
        · rename_i a
          split at h
          · rename_i lo hi q
            cases h
            split at q
            · rename_i hc
              have z := se_lrg ho hc.2 (p := p) (pos := pos) hc.1 hg (fun e m hm => (ih _ _ _ _ _ ho hm).1) q
              exact ⟨z, st_bad fun _ _ => rfl⟩
            · cases q
          · split at h
            · rename_i m' q
              cases h
              exact set_ok ih ho hg q
            · split at h
              · rename_i m' q
                cases h
                unfold cSrt at q
                split at q
                · cases q
                · split at q
                  · rename_i hx
                    subst hx
                    obtain ⟨m2, e1, rfl⟩ := map_some q
                    exact ⟨se_srt ho hg (noStar_of e1) (ih _ _ _ _ _ ho e1).1, st_bad fun _ _ => rfl⟩
                  · cases q
              · exact bcl_ok ih ho hg h
        · exact bcl_ok ih ho hg h
    · exact callv_ok ih ho (.inr ⟨x, p, rfl⟩) h
    · cases h
  · rename_i o mn apos
    split at h
    · rename_i hl
      split at h
      · rename_i e q
        cases h
        unfold cGet at q
        split at q
        · rename_i hm
          subst hm
          split at q
          · rename_i a b
            split at q
            · rename_i mo ma mb q1 q2 q3
              cases q
              exact ⟨se_get2 ho hl q1 (ih _ _ _ _ _ ho q1).1 (noStar_of q2) (noStar_of q3) (ih _ _ _ _ _ ho q2).1 (ih _ _ _ _ _ ho q3).1, st_bad fun _ _ => rfl⟩
            · cases q
          · cases q
        · cases q
      · split at h
        · rename_i mf mo ms q1 q2 q3
          cases h
          cases args with
          | nil =>
            exfalso
            simp [mfOf] at q1
          | cons a r =>
            obtain ⟨b', bs', q4, q5, _⟩ := cAll_cons q3
            have hlen : r.length < 20 := by
              have : (a :: r).length = 1 := by
                unfold mfOf at q1
                split at q1
                · rename_i z; exact z.2
                split at q1
                · rename_i z; exact z.2
                split at q1
                · rename_i z; exact z.2
                split at q1
                · rename_i z; exact z.2
                split at q1
                · rename_i z; exact z.2
                cases q1
              rw [List.length_cons] at this
              omega
            exact ⟨se_mth ho q1 hl q2 (ih _ _ _ _ _ ho q2).1 (noStar_of q4) (plain_of q5) hlen (sa_all ih ho q3), st_bad fun _ _ => rfl⟩
        · cases h
    · cases h
  · split at h
    · rename_i hs
      exact callv_ok ih ho (.inl hs) h
    · cases h
theorem act_ok {k : Nat} (ih : Good g n k) {Wx : WX} {c : CC} {X : Cx} (ho : XOk g n Wx c X) (hh : c.hot = false) {fe : Expr} {args : List Expr} {pos : Pos} {m : ME} (ht : ∀ es, eval (.Call fe es [] pos) X.env = (do callWith pos (← eval fe X.env) [] (backTo pos (starEach es X.env)) (backToKw pos (keywordEach [] X.env))))
    (h : (match ob8 c fe with
      | some j => if args.isEmpty then none else match mtOf c j "__call__", cE k c fe, cAll (cE k c) args with
        | some f, some mo, some ms => some (ME.mcl .call j f mo ms)
        | _, _, _ => none
      | none => none) = some m) : SE g n Wx X (.Call fe args [] pos) m ∧ ST g n Wx X (.Call fe args [] pos) m := by
  split at h
  · rename_i j e1
    split at h
    · cases h
    · rename_i ha
      split at h
      · rename_i f mo ms e2 e3 e4
        cases h
        cases args with
        | nil => exact absurd rfl ha
        | cons e r =>
          obtain ⟨b, bs', q1, q2, _⟩ := cAll_cons e4
          have z := se_act (pos := pos) ho hh (ob8_ok e1) e2 (ih _ _ _ _ _ ho e3).1 (noStar_of q1) (nostars q2) (sa_all ih ho e4) (ht _)
          exact ⟨z, st_b z (fun _ => rfl) fun _ _ => rfl⟩
      · cases h
  · cases h
theorem two_ok {k : Nat} {c : CC} {kd : MK} {nm : Str} {a b : Expr} {m : ME} (h : cOb2 (cE k c) c kd nm a b = some m) : ∃ j f m1 m2, clsIn c j = true ∧ c.mt j nm = some f ∧ cE k c a = some m1 ∧ cE k c b = some m2 ∧ m = .mcl kd j f m1 [m2] := by
  unfold cOb2 at h
  split at h
  · rename_i j e1
    split at h
    · rename_i f m1 m2 e2 e3 e4
      cases h
      exact ⟨j, f, m1, m2, ob8_ok e1, e2, e3, e4, rfl⟩
    · cases h
  · cases h
theorem obC_ok {k : Nat} (ih : Good g n k) {Wx : WX} {c : CC} {X : Cx} (ho : XOk g n Wx c X) (hh : c.hot = false) {fn : Expr} {args : List Expr} {pos : Pos} {m : ME} (h : cObC (cE k c) c fn args pos = some m) : SE g n Wx X (.Call fn args [] pos) m ∧ ST g n Wx X (.Call fn args [] pos) m := by
  unfold cObC at h
  split at h
  · rename_i o a apos
    split at h
    · rename_i j e1
      split at h
      · rename_i hc
        simp only [Bool.and_eq_true, decide_eq_true_eq, Option.isNone_iff_eq_none] at hc
        obtain ⟨⟨c1, c2⟩, c3⟩ := hc
        split at h
        · rename_i f mo ms e2 e3 e4
          cases h
          cases args with
          | nil =>
            cases e4
            have z := se_meth0 (pos := pos) ho hh (ob8_ok e1) e2 c2 c1 e3 (ih _ _ _ _ _ ho e3).1
            exact ⟨z, st_b z (fun _ => rfl) fun _ _ => rfl⟩
          | cons e r =>
            obtain ⟨b, bs', q1, q2, _⟩ := cAll_cons e4
            have z := se_meth (pos := pos) ho hh (ob8_ok e1) e2 c2 c1 c3 e3 (ih _ _ _ _ _ ho e3).1 (noStar_of q1) (plain_of e4) (nostars q2) (sa_all ih ho e4)
            exact ⟨z, st_b z (fun _ => rfl) fun _ _ => rfl⟩
        · cases h
      · cases h
    · cases h
  · rename_i x p
    split at h
    · rename_i j f e1
      split at h
      · cases h
      · rename_i hc
        rw [Bool.or_eq_true, not_or] at hc
        obtain ⟨ms, e2, rfl⟩ := map_some h
        cases args with
        | nil => exact absurd rfl hc.1
        | cons e r =>
          obtain ⟨b, bs', q1, q2, _⟩ := cAll_cons e2
          exact ⟨se_mk ho hh e1 (noStar_of q1) (nostars q2) (sa_all ih ho e2), st_bad fun _ _ => rfl⟩
    · rename_i e1
      split at h
      · rename_i a
        split at h
        · rename_i hx
          subst hx
          split at h
          · rename_i j e2
            split at h
            · rename_i f m1 e3 e4
              cases h
              have z := se_len' (p := p) (pos := pos) ho hh e1 (ob8_ok e2) e3 (noStar_of e4) (ih _ _ _ _ _ ho e4).1
              exact ⟨z, st_b z (fun _ => rfl) fun _ _ => rfl⟩
            · cases h
          · cases h
        · cases h
      · rename_i a y p2
        split at h
        · rename_i hx
          subst hx
          split at h
          · rename_i j f m1 e2 e3
            split at h
            · cases h
              have z := se_iso (p := p) (p2 := p2) (pos := pos) ho e1 e2 (noStar_of e3) (ih _ _ _ _ _ ho e3).1
              exact ⟨z, st_b z (fun _ => rfl) fun _ _ => rfl⟩
            · cases h
          · cases h
        · cases h
      · cases h
    · exact act_ok ih ho hh (fun _ => rfl) h
    · cases h
  · exact act_ok ih ho hh (fun _ => rfl) h
  · exact act_ok ih ho hh (fun _ => rfl) h
  · cases h
theorem ob_ok {k : Nat} (ih : Good g n k) {Wx : WX} {c : CC} {X : Cx} (ho : XOk g n Wx c X) {e : Expr} {m : ME} (h : cOb (cE k c) c e = some m) : SE g n Wx X e m ∧ ST g n Wx X e m := by
  unfold cOb at h
  split at h
  · cases h
  · rename_i hh
    have hh : c.hot = false := by simpa using hh
    split at h
    · rename_i o a pos
      unfold cObA at h
      split at h
      · rename_i j e1
        split at h
        · rename_i i e2
          obtain ⟨mo, e3, rfl⟩ := map_some h
          have z := se_att (pos := pos) ho (ob8_ok e1) e2 (base_of e3 _ _) (ih _ _ _ _ _ ho e3).1
          exact ⟨z, st_b z (fun _ => rfl) fun _ _ => rfl⟩
        · split at h
          · rename_i f mo e2 e3
            cases h
            have z := se_prp (pos := pos) ho hh (ob8_ok e1) e2 (base_of e3 _ _) (ih _ _ _ _ _ ho e3).1
            exact ⟨z, st_b z (fun _ => rfl) fun _ _ => rfl⟩
          · cases h
      · cases h
    · rename_i a pos
      split at h
      · rename_i j e1
        split at h
        · rename_i f mo e2 e3
          cases h
          have z := se_neg' (pos := pos) ho hh (ob8_ok e1) e2 (ih _ _ _ _ _ ho e3).1
          exact ⟨z, st_b z (fun _ => rfl) fun _ _ => rfl⟩
        · cases h
      · cases h
    · rename_i a b pos
      obtain ⟨j, f, m1, m2, q1, q2, q3, q4, rfl⟩ := two_ok h
      have z := se_add (pos := pos) ho hh q1 q2 (ih _ _ _ _ _ ho q3).1 (ih _ _ _ _ _ ho q4).1
      exact ⟨z, st_b z (fun _ => rfl) fun _ _ => rfl⟩
    · rename_i a b pos
      obtain ⟨j, f, m1, m2, q1, q2, q3, q4, rfl⟩ := two_ok h
      have z := se_shl (pos := pos) ho hh q1 q2 (ih _ _ _ _ _ ho q3).1 (ih _ _ _ _ _ ho q4).1
      exact ⟨z, st_b z (fun _ => rfl) fun _ _ => rfl⟩
    · rename_i a i pos
      split at h
      · cases h
      · rename_i hs
        obtain ⟨j, f, m1, m2, q1, q2, q3, q4, rfl⟩ := two_ok h
        have z := se_sub (pos := pos) ho hh (by simpa using hs) q1 q2 (ih _ _ _ _ _ ho q3).1 (ih _ _ _ _ _ ho q4).1
        exact ⟨z, st_b z (fun _ => rfl) fun _ _ => rfl⟩
    · obtain ⟨j, f, m1, m2, q1, q2, q3, q4, rfl⟩ := two_ok h
      exact se_eq' ho hh q1 q2 (ih _ _ _ _ _ ho q3).1 (ih _ _ _ _ _ ho q4).1 (noSet_of q4 _)
    · obtain ⟨j, f, m1, m2, q1, q2, q3, q4, rfl⟩ := two_ok h
      exact se_ne' ho hh q1 q2 (ih _ _ _ _ _ ho q3).1 (ih _ _ _ _ _ ho q4).1 (noSet_of q4 _)
    · rename_i a b pos
      split at h
      · rename_i j e1
        split at h
        · rename_i f m1 m2 e2 e3 e4
          cases h
          exact se_in' ho hh (ob8_ok e1) e2 (ih _ _ _ _ _ ho e3).1 (ih _ _ _ _ _ ho e4).1 (noSet_of e4 _)
        · cases h
      · cases h
    · rename_i fn args kws pos
      split at h
      · rename_i hk
        have hk : kws = [] := List.isEmpty_iff.mp hk
        subst hk
        exact obC_ok ih ho hh h
      · cases h
    · cases h
theorem good_succ {k : Nat} (ih : Good g n k) : Good g n (k + 1) := by
  intro Wx c X e m ho h
  change (match cOb (cE k c) c e with
    | some m => some m
    | none => cE1 (cE k) c e) = some m at h
  cases q : cOb (cE k c) c e with
  | some m' =>
    rw [q] at h
    cases h
    exact ob_ok ih ho q
  | none =>
  rw [q] at h
  change cE1 (cE k) c e = some m at h
  clear q
  have h0 := h
  cases e <;> first
    | (simp only [cE1] at h; cases h; done)
    | skip
  case BoolOp op vs pos =>
    cases op with
    | And =>
      simp only [cE1] at h
      cases e1 : cAll (cE k c) vs with
      | none => rw [e1] at h; cases h
      | some ms =>
        rw [e1] at h
        obtain ⟨a, b⟩ := and_chain ih ho (pos := pos) e1 h
        exact ⟨a, b.pt⟩
    | Or =>
      simp only [cE1] at h
      cases e1 : cAll (cE k c) vs with
      | none => rw [e1] at h; cases h
      | some ms =>
        rw [e1] at h
        obtain ⟨a, b⟩ := or_chain ih ho (pos := pos) e1 h
        exact ⟨a, b.pt⟩
  case BinOp a op b pos =>
    simp only [cE1] at h
    split at h
    · rename_i o ma mb e1 e2 e3
      cases h
      have z := se_bin (g := g) (n := n) (Wx := Wx) (X := X) (pos := pos) ho e1 (ih _ _ _ _ _ ho e2).1 (ih _ _ _ _ _ ho e3).1
      exact ⟨z, st_truth z (fun _ => rfl) fun _ _ => rfl⟩
    · cases h
  case UnaryOp op a pos =>
    cases op with
    | Not =>
      obtain ⟨ma, e1, rfl⟩ := map_some (show (cE k c a).map ME.not = some m from h)
      exact ⟨se_not (ih _ _ _ _ _ ho e1).1, st_not (ih _ _ _ _ _ ho e1).2⟩
    | USub =>
      obtain ⟨ma, e1, rfl⟩ := map_some (show (cE k c a).map ME.neg = some m from h)
      exact ⟨se_neg (ih _ _ _ _ _ ho e1).1, st_bad fun _ _ => rfl⟩
    | Invert => cases h
    | UAdd => cases h
  case IfExp t a b pos =>
    simp only [cE1] at h
    split at h
    · rename_i mt ma mb e1 e2 e3
      cases h
      exact ⟨se_ite (ih _ _ _ _ _ ho e1).2 (ih _ _ _ _ _ ho e2).1 (ih _ _ _ _ _ ho e3).1, st_bad fun _ _ => rfl⟩
    · cases h
  case Dict ks vs pos =>
    have h : cDsp (cE k c) ks vs = some m := h
    unfold cDsp at h
    split at h
    · rename_i hc
      rw [Bool.and_eq_true] at hc
      cases ks with
      | cons _ _ => cases hc.1
      | nil =>
        cases vs with
        | cons _ _ => cases hc.2
        | nil => cases h; exact ⟨se_dct, st_bad fun _ _ => rfl⟩
    · split at h
      · cases h
      · rename_i hc
        simp only [Bool.or_eq_true, not_or, Bool.not_eq_true', Bool.not_eq_false, decide_eq_true_eq] at hc
        obtain ⟨⟨c1, c2⟩, c3⟩ := hc
        split at h
        · rename_i kx ms q1 q2
          split at h
          · rename_i nd
            cases h
            exact ⟨se_dsp (by simpa using c1) c2 c3 q1 (fun i e m he hm => (ih _ _ _ _ _ ho hm).1) q2 nd, st_bad fun _ _ => rfl⟩
          · cases h
        · cases h
  case ListComp elt gens scope pos =>
    match gens, h with
    | [], h => simp only [cE1] at h; cases h
    | _ :: _ :: _, h => simp only [cE1] at h; cases h
    | [⟨tg, iter, ifs, as⟩], h =>
      by_cases ha : as = 0
      · subst ha
        cases hh : c.hot with
        | true =>
          have z := lcm_hot ih ho hh h0
          refine ⟨z, st_bad fun _ _ => ?_⟩
          obtain ⟨_, _, _, _, _, _, rfl⟩ : ∃ a b v t i cd, m = .lcm a b v t i cd := by
            simp only [cE1] at h
            rw [if_pos trivial] at h
            split at h
            · split at h
              · split at h
                · cases h; exact ⟨_, _, _, _, _, _, rfl⟩
                · cases h
              · cases h
            · cases h
          rfl
        | false =>
          obtain ⟨t, mi, me, mc, rfl, hb, hset, hI, hw, hnx, hG, hC, hE⟩ := lcm_parts ih ho hh h0
          have hN : X.N.Nodup := by rw [ho.hN]; exact ho.nd
          have okb : BlkOk X.N X.env.scope scope (ownOf c.N scope) := by rw [ho.hN, ho.hsc]; exact blkOk_by hb
          exact ⟨PE.imp (pe_lc (ho.calm hh) hN hI okb hG hC hE hset) (se_lcm ho hw hnx), st_bad fun _ _ => rfl⟩
      · exfalso
        simp only [cE1] at h
        rw [if_neg ha] at h
        cases h
  case Compare a ops bs pos =>
    have h : cCmp (cE k c) a ops bs = some m := h
    unfold cCmp at h
    split at h
    · rename_i op b
      split at h
      · rename_i hop
        obtain ⟨hop, hn⟩ := hop
        subst hop
        obtain ⟨ma, e1, rfl⟩ := map_some h
        unfold isNone at hn
        split at hn
        · exact ⟨se_isN (ih _ _ _ _ _ ho e1).1, st_isN (ih _ _ _ _ _ ho e1).1⟩
        · cases hn
      split at h
      · rename_i hop
        obtain ⟨hop, hn⟩ := hop
        subst hop
        obtain ⟨ma, e1, rfl⟩ := map_some h
        unfold isNone at hn
        split at hn
        · exact ⟨se_notN (ih _ _ _ _ _ ho e1).1, st_notN (ih _ _ _ _ _ ho e1).1⟩
        · cases hn
      split at h
      · rename_i o ma mb e1 e2 e3
        cases h
        exact ⟨se_cmp ho e1 (ih _ _ _ _ _ ho e2).1 (ih _ _ _ _ _ ho e3).1 (noSet_of e3 _), st_cmp ho e1 (ih _ _ _ _ _ ho e2).1 (ih _ _ _ _ _ ho e3).1 (noSet_of e3 _)⟩
      · cases h
    · rename_i o1 o2 b d
      split at h
      · rename_i p1 p2 ma mb md e1 e2 e3 e4 e5
        cases h
        exact ⟨se_chn ho e1 e2 (ih _ _ _ _ _ ho e3).1 (ih _ _ _ _ _ ho e4).1 (ih _ _ _ _ _ ho e5).1 (noSet_of e5 _), st_chn ho e1 e2 (ih _ _ _ _ _ ho e3).1 (ih _ _ _ _ _ ho e4).1 (ih _ _ _ _ _ ho e5).1 (noSet_of e5 _)⟩
      · cases h
    · cases h
  case Call f args kws pos =>
    simp only [cE1] at h
    split at h
    · rename_i hk
      have hk : kws = [] := List.isEmpty_iff.mp hk
      subst hk
      obtain ⟨m0, hc0, hm0⟩ := map_some h
      have base := call_ok ih ho hc0
      subst hm0
      split
      · exact ⟨se_frz base.1, st_bad fun _ _ => rfl⟩
      · exact base
    · cases h
  case Constant kc j pos =>
    obtain ⟨d, e1, rfl⟩ := map_some (show (cConst kc).map ME.cst = some m from h)
    exact ⟨se_const e1, st_bad fun _ _ => rfl⟩
  case Subscript a i pos =>
    clear h
    have h : cSub (cE k c) a i = some m := h0
    clear h0
    unfold cSub at h
    split at h
    · rename_i lo hi q
      cases i <;> first
        | (cases q; done)
        | skip
      rename_i lo' hi' st' p2
      cases q
      split at h
      · rename_i ma ml mh e1 e2 e3
        cases h
        exact ⟨se_slc ho (ih _ _ _ _ _ ho e1).1 (cO_ok ih ho e2) (cO_ok ih ho e3), st_bad fun _ _ => rfl⟩
      · cases h
    · rename_i st q
      cases i <;> first
        | (cases q; done)
        | skip
      rename_i lo' hi' st' p2
      cases q
      split at h
      · rename_i hn
        obtain ⟨ma, e1, rfl⟩ := map_some h
        unfold isM1 at hn
        split at hn
        · exact ⟨se_rev (ih _ _ _ _ _ ho e1).1, st_bad fun _ _ => rfl⟩
        · cases hn
      · cases h
    · cases h
    · rename_i q
      split at h
      · rename_i ma mi e1 e2
        cases h
        have hb : isSlice i = false := by cases i <;> first | rfl | cases q
        exact ⟨se_idx ho hb (ih _ _ _ _ _ ho e1).1 (ih _ _ _ _ _ ho e2).1, st_bad fun _ _ => rfl⟩
      · cases h
  case Name x pos =>
    simp only [cE1] at h
    split at h
    · rename_i i e1
      cases h
      have z := se_var ho (pos := pos) e1
      refine ⟨z, st_truth z (fun _ => rfl) fun ρ S => ?_⟩
      simp only [evT, ev]
      split <;> rfl
    · split at h
      · rename_i d e1
        cases h
        exact ⟨se_cst ho e1, st_bad fun _ _ => rfl⟩
      · rename_i f e1
        cases h
        exact ⟨se_fnv ho e1, st_bad fun _ _ => rfl⟩
      · cases h
  case List es pos =>
    simp only [cE1] at h
    cases e1 : cAll (cE k c) es with
    | none => rw [e1] at h; cases h
    | some ms =>
      rw [e1] at h
      simp only [Option.bind_some] at h
      split at h
      · rename_i hl
        cases h
        exact ⟨se_lst hl (sa_all ih ho e1), st_bad fun _ _ => rfl⟩
      · cases h
  case Tuple es kk pos =>
    simp only [cE1] at h
    cases e1 : cAll (cE k c) es with
    | none => rw [e1] at h; cases h
    | some ms =>
      rw [e1] at h
      simp only [Option.bind_some] at h
      split at h
      · rename_i hl
        cases h
        exact ⟨se_tup hl (sa_all ih ho e1), st_bad fun _ _ => rfl⟩
      · cases h
end
end Mn
end
section
set_option Elab.async false
set_option linter.all false
set_option maxRecDepth 100000
set_option maxHeartbeats 2000000
/-! Snd11: a rule for each statement. -/
namespace Mn
open PySem PySem.Spec PyProof.Rows L2
section
variable {g : G} {n : Nat} {Wx : WX} {c : CC} {X : Cx}

/-- what is wanted behind a statement that ends as r says -/
def PostS (g : G) (Wx : WX) (w : Wd) (Fr : Hp) (r : R Fl) (D : Ends) : Prop :=
  match r with
  | .ok (.nx ρ') S' => ∀ w' H' σ', w.le w' → StOk g w' Fr H' S' → EnvOk g w' ρ' σ' → D.nx σ' H'
  | .ok (.bk ρ') S' => ∀ w' H' σ', w.le w' → StOk g w' Fr H' S' → EnvOk g w' ρ' σ' → D.bk σ' H'
  | .ok (.ct ρ') S' => ∀ w' H' σ', w.le w' → StOk g w' Fr H' S' → EnvOk g w' ρ' σ' → D.ct σ' H'
  | .ok (.rt d) S' => ∀ w' H' v, w.le w' → StOk g w' Fr H' S' → Rg g w' d v → D.rt v H'
  | .ok (.ex k ρ') S' => ∀ w' H' σ', w.le w' → StOk g w' Fr H' S' → EnvOk g w' ρ' σ' → Wx (.ref (g.ca k)) none σ' H'
  | .exc _ _ => False
  | .bad => False
theorem PostS.mono {w w' : Wd} {Fr : Hp} {r : R Fl} {D : Ends} (l : w.le w') (h : PostS g Wx w Fr r D) : PostS g Wx w' Fr r D := by
  cases r with
  | ok fl S' =>
    cases fl with
    | nx ρ' => exact fun w2 H' σ' l2 s e => h w2 H' σ' (l.trans l2) s e
    | bk ρ' => exact fun w2 H' σ' l2 s e => h w2 H' σ' (l.trans l2) s e
    | ct ρ' => exact fun w2 H' σ' l2 s e => h w2 H' σ' (l.trans l2) s e
    | rt d => exact fun w2 H' σ' l2 s e => h w2 H' σ' (l.trans l2) s e
    | ex k ρ' => exact fun w2 H' σ' l2 s e => h w2 H' σ' (l.trans l2) s e
  | exc _ _ => exact h
  | bad => exact h
theorem PostS.bindS {α β : Type} {rep : Wd → α → β → Prop} {w : Wd} {Fr : Hp} {σ : L2.St} {ρ : Env} {x : R α} {f : α → Sto → R Fl} {D : Ends} {Q : β → Hp → Prop} (he : EnvOk g w ρ σ) (h : PostS g Wx w Fr (x.bindS ρ f) D)
    (k : ∀ a S1 w1 H1 b, x = .ok a S1 → w.le w1 → StOk g w1 Fr H1 S1 → rep w1 a b → PostS g Wx w1 Fr (f a S1) D → Q b H1) : Post g Wx rep w Fr σ x Q := by
  cases x with
  | ok a S' => exact fun w2 H' b l2 s q => k a S' w2 H' b rfl l2 s q (PostS.mono l2 h)
  | exc c S' => exact fun w2 H' l2 s => h w2 H' σ l2 s (he.mono l2)
  | bad => exact h
def tS (g : G) (C : Nat → List D → Sto → R D) (Wx : WX) (m : MS) : TS := fun D σ H => ∃ w Fr ρ S, StOk g w Fr H S ∧ EnvOk g w ρ σ ∧ PostS g Wx w Fr (exec C m ρ S) D
def tSs (g : G) (C : Nat → List D → Sto → R D) (Wx : WX) (m : List MS) : TS := fun D σ H => ∃ w Fr ρ S, StOk g w Fr H S ∧ EnvOk g w ρ σ ∧ PostS g Wx w Fr (execs C m ρ S) D
abbrev SS (g : G) (n : Nat) (Wx : WX) (X : Cx) (s : Stmt) (m : MS) : Prop := PS X s (tS g (callF g.T n) Wx m)
abbrev SSs (g : G) (n : Nat) (Wx : WX) (X : Cx) (s : List Stmt) (m : List MS) : Prop := PSs X s (tSs g (callF g.T n) Wx m)

theorem ss_pass {pos : Pos} : SS g n Wx X (.Pass pos) .pass :=
  PS.imp ps_pass fun D σ H ⟨w, Fr, ρ, S, hs, he, hp⟩ => hp w H σ (Wd.le.refl _) hs he
theorem ss_brk {pos : Pos} : SS g n Wx X (.Break pos) .brk :=
  PS.imp ps_break fun D σ H ⟨w, Fr, ρ, S, hs, he, hp⟩ => hp w H σ (Wd.le.refl _) hs he
theorem ss_cnt {pos : Pos} : SS g n Wx X (.Continue pos) .cnt :=
  PS.imp ps_continue fun D σ H ⟨w, Fr, ρ, S, hs, he, hp⟩ => hp w H σ (Wd.le.refl _) hs he
theorem ss_expr {e : Expr} {m : ME} {pos : Pos} (hc : isCallE e = true) (h : SE g n Wx X e m) : SS g n Wx X (.Expr e pos) (.expr m) := by
  refine PS.imp (ps_expr h (by cases e <;> first | rfl | cases hc)) fun D σ H q => ?_
  obtain ⟨w, Fr, ρ, S, hs, he, hp⟩ := q
  exact ⟨w, Fr, ρ, S, hs, he, PostS.bindS (rep := Rg g) he hp fun x S1 w1 H1 vx _ l1 hs1 rx hp1 => hp1 w1 H1 σ (Wd.le.refl _) hs1 (he.mono l1)⟩
theorem ss_ret {e : Expr} {m : ME} {pos : Pos} (h : SE g n Wx X e m) : SS g n Wx X (.Return (some e) pos) (.ret (some m)) := by
  refine PS.imp (ps_ret h) fun D σ H q => ?_
  obtain ⟨w, Fr, ρ, S, hs, he, hp⟩ := q
  exact ⟨w, Fr, ρ, S, hs, he, PostS.bindS (rep := Rg g) he hp fun x S1 w1 H1 vx _ l1 hs1 rx hp1 => hp1 w1 H1 vx (Wd.le.refl _) hs1 rx⟩
theorem ss_retN {pos : Pos} : SS g n Wx X (.Return none pos) (.ret none) :=
  PS.imp ps_retN fun D σ H ⟨w, Fr, ρ, S, hs, he, hp⟩ => hp w H .non (Wd.le.refl _) hs .non
theorem ss_ite {t : Expr} {a b : List Stmt} {mt : ME} {ma mb : List MS} {pos : Pos} (ht : ST g n Wx X t mt) (ha : SSs g n Wx X a ma) (hb : SSs g n Wx X b mb) : SS g n Wx X (.If t a b pos) (.ite mt ma mb) := by
  refine PS.imp (ps_if ht ha hb) fun D σ H q => ?_
  obtain ⟨w, Fr, ρ, S, hs, he, hp⟩ := q
  refine ⟨w, Fr, ρ, S, hs, he, PostS.bindS he hp fun k S1 w1 H1 vx _ l1 hs1 rx hp1 => ?_⟩
  cases rx
  cases k with
  | true => exact ⟨w1, Fr, ρ, S1, hs1, he.mono l1, hp1⟩
  | false => exact ⟨w1, Fr, ρ, S1, hs1, he.mono l1, hp1⟩
theorem sss_nil : SSs g n Wx X [] [] :=
  PSs.imp pss_nil fun D σ H ⟨w, Fr, ρ, S, hs, he, hp⟩ => hp w H σ (Wd.le.refl _) hs he
theorem sss_cons {s : Stmt} {r : List Stmt} {m : MS} {ms : List MS} (h : SS g n Wx X s m) (hr : SSs g n Wx X r ms) : SSs g n Wx X (s :: r) (m :: ms) := by
  refine PSs.imp (pss_cons h hr) fun D σ H q => ?_
  obtain ⟨w, Fr, ρ, S, hs, he, hp⟩ := q
  refine ⟨w, Fr, ρ, S, hs, he, ?_⟩
  have hp : PostS g Wx w Fr ((exec (callF g.T n) m ρ S).bind fun fl S1 => match fl with
    | .nx ρ1 => execs (callF g.T n) ms ρ1 S1
    | .rt d => .ok (.rt d) S1
    | .bk ρ1 => .ok (.bk ρ1) S1
    | .ct ρ1 => .ok (.ct ρ1) S1
    | .ex c ρ1 => .ok (.ex c ρ1) S1) D := hp
  cases e : exec (callF g.T n) m ρ S with
  | ok fl S1 =>
    rw [e] at hp
    cases fl with
    | nx ρ1 => exact fun w1 H1 σ1 l1 s1 e1 => ⟨w1, Fr, ρ1, S1, s1, e1, PostS.mono l1 hp⟩
    | rt d => exact hp
    | bk ρ1 => exact hp
    | ct ρ1 => exact hp
    | ex k ρ1 => exact hp
  | exc _ _ => rw [e] at hp; exact hp
  | bad => rw [e] at hp; exact hp

/-! ### stores -/
theorem kindOf_eq {env : PySem.Env} {x : Str} : env.kindOf x = env.scope.names.lookup x := rfl
theorem blockKind_fn {env : PySem.Env} (h : env.scope.kind = .function) : env.blockKind = .function := by unfold Env.blockKind; rw [h]; rfl
/-- a store of what is no comprehension -/
theorem swaps_no {e : Expr} (h : lcOf e = none) {k : Nat} {c' : CC} {m : ME} (hc : cE k c' e = some m) (t : Option Expr) (line : Nat) (env : PySem.Env) : swapsWith e t line env = pure false := by
  cases e <;> first
    | rfl
    | (cases h; done)
    | (exfalso
       cases k with
       | zero => cases hc
       | succ k => simp [cE, cE1, cOb] at hc)
theorem ss_asg (ho : XOk g n Wx c X) {k : Nat} (ih : Good g n k) {x : Str} {e : Expr} {i : Nat} {m : ME} {p pos : Pos} (hh : c.hot = false ∨ (lcOf e).isSome = false) (hi : cSto c x = some i) (he : cE (k + 1) c e = some m) : SS g n Wx X (.Assign [.Name x p] e pos) (.asg i m) := by
  obtain ⟨h1, h2, h3⟩ := cSto_ok hi
  have hN : X.N.Nodup := by rw [ho.hN]; exact ho.nd
  have hxi : X.N[i]? = some x := by rw [ho.hN]; exact h1
  have hloc : Loc X.env.scope x := by rw [ho.hsc]; exact h2
  have hf : X.fn x = true ∨ X.env.scope.names.lookup x = some .local := (sto_fn ho hi).elim (fun z => .inr (by rw [ho.hsc]; exact z)) .inl
  have hk : X.env.scope.kind = .function := by rw [ho.hsc]; exact ho.kind
  have gen : ∀ (te : TE), (∀ σ H Q, tE g (callF g.T n) Wx m σ H Q → te σ H Q) → ∀ D σ H, tS g (callF g.T n) Wx (.asg i m) D σ H → tAsg te (gName i) D σ H := fun te imp D σ H q => by
    obtain ⟨w, Fr, ρ, S, hs, hee, hp⟩ := q
    refine imp σ H _ ⟨w, Fr, ρ, S, hs, hee, PostS.bindS (rep := Rg g) hee hp fun y S1 w1 H1 vx _ l1 hs1 rx hp1 => ?_⟩
    exact hp1 w1 H1 _ (Wd.le.refl _) hs1 ((hee.mono l1).set i rx (ho.nex hi))
  have plain : swapsWith e (some (.Name x p)) pos.line X.env = pure false → SS g n Wx X (.Assign [.Name x p] e pos) (.asg i m) := fun hsw =>
    PS.imp (ps_set hN hxi hloc (good_succ ih _ _ _ _ _ ho he).1 hsw hf) (gen _ fun _ _ _ z => z)
  cases hl : lcOf e with
  | none => exact plain (swaps_no hl he _ _ _)
  | some sl =>
    cases e <;> first
      | (cases hl; done)
      | skip
    rename_i elt gens scope lpos
    cases hl
    by_cases hsw : (c.sc.names.lookup x == some NameKind.local && p.line == lpos.line && !(scope.names.any fun (n, k) => n == x && (k == .local || k == .cell))) = true
    · simp only [Bool.and_eq_true, Bool.not_eq_true', beq_iff_eq] at hsw
      obtain ⟨⟨q1, q2⟩, q3⟩ := hsw
      have hyl : X.env.scope.names.lookup x = some .local := by rw [ho.hsc]; exact q1
      have sw := sw_true (elt := elt) (gs := gens) (scope := scope) (pos := lpos) (py := p) (y := x) (l := pos.line) hk hyl (by rw [q2]; simp) q3
      have he2 := he
      rw [cE_lc] at he2
      match gens, he2, sw with
      | [], he, _ => simp only [cE1] at he; cases he
      | _ :: _ :: _, he, _ => simp only [cE1] at he; cases he
      | [⟨tg, iter, ifs, as⟩], he, sw =>
        by_cases ha : as = 0
        · subst ha
          have hh' : c.hot = false := hh.elim id fun z => by cases z
          obtain ⟨t, mi, me, mc, rfl, hb, hset, hI, hw, hnx, hG, hC, hE⟩ := lcm_parts ih ho hh' he
          have okb : BlkOk X.N X.env.scope scope (ownOf c.N scope) := by rw [ho.hN, ho.hsc]; exact blkOk_by hb
          exact PS.imp (ps_setLc (ho.calm hh') hN hxi hyl sw hI okb hG hC hE hset) (gen _ (se_lcm ho hw hnx))
        · simp only [cE1] at he
          rw [if_neg ha] at he
          cases he
    · refine plain ?_
      have : (X.env.blockKind == ScopeKind.function && X.env.kindOf x == some .local && p.line == lpos.line && !(scope.names.any fun (n, k) => n == x && (k == .local || k == .cell))) = false := by
        rw [blockKind_fn hk, kindOf_eq, ho.hsc]
        exact Bool.eq_false_iff.mpr hsw
      show (pure (X.env.blockKind == ScopeKind.function && X.env.kindOf x == some .local && p.line == lpos.line && !(scope.names.any fun (n, k) => n == x && (k == .local || k == .cell))) : Sem Bool) = pure false
      rw [this]
theorem set_tp_ok {is : List Nat} {ds : List D} {ρ ρ' : Env} (h : (Tgt.tp is).set ρ (.tup ds) = some ρ') : is.length = ds.length ∧ ρ' = (is.zip ds).foldl (fun r p => r.set p.1 (some p.2)) ρ := by
  simp only [Tgt.set] at h
  split at h
  · rename_i hl; cases h; exact ⟨hl, rfl⟩
  · cases h
theorem swapsTup (ts : List Expr) (k : Nat) (p : Pos) (e : Expr) (line : Nat) (env : PySem.Env) : swapsWithSole [.Tuple ts k p] e line env = pure false := by
  cases e <;> rfl
theorem stores_no {ts : List Expr} {k : Nat} {p : Pos} {e : Expr} (h : tupOf e = none) (env : PySem.Env) : swappedStores [.Tuple ts k p] e env = pure none := by
  cases e <;> first
    | rfl
    | cases h
theorem ss_asgT (ho : XOk g n Wx c X) {ts : List Expr} {e : Expr} {is : List Nat} {m : ME} {k : Nat} {p pos : Pos} (hi : cTgts c ts = some is) (ht : tupOf e = none) (he : SE g n Wx X e m) : SS g n Wx X (.Assign [.Tuple ts k p] e pos) (.asgT is m) := by
  have hg : PG X (.Tuple ts k p) (gT g (.tp is)) := sg_of ho (by show (cTgts c ts).map Tgt.tp = _; rw [hi]; rfl)
  refine PS.imp (ps_asg he hg (swapsTup _ _ _ _ _ _) (stores_no ht _)) fun D σ H q => ?_
  obtain ⟨w, Fr, ρ, S, hs, hee, hp⟩ := q
  refine ⟨w, Fr, ρ, S, hs, hee, PostS.bindS (rep := Rg g) hee hp fun y S1 w1 H1 vx _ l1 hs1 rx hp1 => ?_⟩
  refine ⟨w1, Fr, S1, y, ρ, hs1, rx, hee.mono l1, ?_⟩
  cases e2 : (Tgt.tp is).set ρ y with
  | none => rw [e2] at hp1; exact hp1
  | some ρ1 => rw [e2] at hp1; exact fun σ2 e3 _ => hp1 w1 H1 σ2 (Wd.le.refl _) hs1 e3
end
end Mn
end
section
set_option Elab.async false
set_option linter.all false
set_option maxRecDepth 100000
set_option maxHeartbeats 2000000
/-! Snd12: parallel stores, stores at an index, augmented ones. -/
namespace Mn
open PySem PySem.Spec PyProof.Rows L2
section
variable {g : G} {n : Nat} {Wx : WX} {c : CC} {X : Cx}

def nmEnv (env : PySem.Env) (line : Nat) : Expr → Option Str
  | .Name id pos => if env.kindOf id == some .local && pos.line == line then some id else none
  | _ => none
theorem sw_eq {env : PySem.Env} {ts vs : List Expr} {k k2 : Nat} {p p2 : Pos} : swappedStores [.Tuple ts k p] (.Tuple vs k2 p2) env =
    (if (!(ts.length == 2 || ts.length == 3) || vs.length != ts.length || env.blockKind != .function) = true then pure none
    else if (vs.any starred) = true then pure none
    else if ((ts.filterMap (nmEnv env ((ts.head?.map (·.pos.line)).getD 0))).length != ts.length || (ts.filterMap (nmEnv env ((ts.head?.map (·.pos.line)).getD 0))).eraseDups.length != (ts.filterMap (nmEnv env ((ts.head?.map (·.pos.line)).getD 0))).length) = true then pure none
    else if (vs.all (foldedForSure 8)) = true then pure none
    else if (vs.all (constantsAlone 8)) = true then (do unsupported "assign.tuple-of-constant-expressions:order-of-the-stores"; pure (some (ts.filterMap (nmEnv env ((ts.head?.map (·.pos.line)).getD 0)))))
    else pure (some (ts.filterMap (nmEnv env ((ts.head?.map (·.pos.line)).getD 0))))) := by
  have e1 : (fun e : Expr => match e with | .Starred .. => true | _ => false) = starred := by funext e; cases e <;> rfl
  have e2 : ∀ line, (fun e : Expr => match e with
    | .Name id pos => if env.kindOf id == some .local && pos.line == line then some id else none
    | _ => none) = nmEnv env line := by intro line; funext e; cases e <;> rfl
  rw [← e1]
  simp only [← e2]
  rfl
theorem sw_of {env : PySem.Env} {c : CC} (hk : env.scope.kind = .function) (hsc : env.scope = c.sc) {ts vs : List Expr} {k k2 : Nat} {p p2 : Pos} {r : Option (List Str)} (h : swB c ts vs = some r) :
    swappedStores [.Tuple ts k p] (.Tuple vs k2 p2) env = pure r := by
  have hn : ∀ line, nmEnv env line = nmLine c line := by
    intro line
    funext e
    cases e <;> first
      | rfl
      | (unfold nmEnv nmLine; rw [← hsc]; rfl)
  have hb : (env.blockKind != ScopeKind.function) = false := by rw [blockKind_fn hk]; rfl
  rw [sw_eq]
  unfold swB at h
  simp only [hb, Bool.or_false, hn]
  dsimp only at h
  by_cases h1 : (!(ts.length == 2 || ts.length == 3) || vs.length != ts.length) = true
  · rw [if_pos h1] at h; cases h; rw [if_pos h1]
  rw [if_neg h1] at h ⊢
  by_cases h2 : vs.any starred = true
  · rw [if_pos h2] at h; cases h; rw [if_pos h2]
  rw [if_neg h2] at h ⊢
  split at h
  · rename_i h3; cases h; rw [if_pos h3]
  rename_i h3
  rw [if_neg h3]
  by_cases h4 : vs.all (foldedForSure 8) = true
  · rw [if_pos h4] at h; cases h; rw [if_pos h4]
  rw [if_neg h4] at h ⊢
  by_cases h5 : vs.all (constantsAlone 8) = true
  · rw [if_pos h5] at h; cases h
  rw [if_neg h5] at h ⊢
  cases h
  rfl
theorem sw_len {ts vs : List Expr} {ns : List Str} (h : swB c ts vs = some (some ns)) : ts.length = 2 ∨ ts.length = 3 := by
  unfold swB at h
  dsimp only at h
  by_cases h1 : (!(ts.length == 2 || ts.length == 3) || vs.length != ts.length) = true
  · rw [if_pos h1] at h; cases h
  simp only [Bool.or_eq_true, Bool.not_eq_true', not_or, Bool.not_eq_false] at h1
  simpa using h1.1
theorem swSole2 (ts vs : List Expr) (k k2 : Nat) (p p2 : Pos) (line : Nat) (env : PySem.Env) : swapsWithSole [.Tuple ts k p] (.Tuple vs k2 p2) line env = pure false := rfl
theorem nodupB_ok : ∀ {is : List Nat}, nodupB is = true → is.Nodup
  | [], _ => .nil
  | a :: r, h => by
    unfold nodupB at h
    simp only [Bool.and_eq_true, Bool.not_eq_true'] at h
    exact List.nodup_cons.mpr ⟨fun m => by rw [List.elem_eq_true_of_mem m] at h; exact absurd h.1 (by simp), nodupB_ok h.2⟩
/-- all of a parallel store -/
theorem ss_par (ho : XOk g n Wx c X) (hh : c.hot = false) {ts vs : List Expr} {is : List Nat} {ms : List ME} {r : Option (List Str)} {k k2 kk : Nat} {p p2 pos : Pos} (ih : Good g n kk) (hi : cTgts c ts = some is) (hv : cAll (cE kk c) vs = some ms) (hs : swB c ts vs = some r)
    (hl : ms.length ≤ LIM) (hr : ∀ ns, r = some ns → nodupB is = true ∧ ns = namesOf ts ∧ ts.length = vs.length ∧ ∀ e ∈ ts, ∃ x, nameOf e = some x ∧ c.sc.names.lookup x = some .local) : SS g n Wx X (.Assign [.Tuple ts k p] (.Tuple vs k2 p2) pos) (.par is ms) := by
  have hk : X.env.scope.kind = .function := by rw [ho.hsc]; exact ho.kind
  have sw := sw_of (k := k) (k2 := k2) (p := p) (p2 := p2) hk ho.hsc hs
  have ha := sa_all ih ho hv
  cases r with
  | none =>
    have hg : PG X (.Tuple ts k p) (gT g (.tp is)) := sg_of ho (by show (cTgts c ts).map Tgt.tp = _; rw [hi]; rfl)
    refine PS.imp (ps_asg (se_tup (k := k2) (pos := p2) hl ha) hg (swSole2 _ _ _ _ _ _ _ _) sw) fun D σ H q => ?_
    obtain ⟨w, Fr, ρ, S, hs, hee, hp⟩ := q
    refine ⟨w, Fr, ρ, S, hs, hee, ?_⟩
    refine PostS.bindS (Wx := Wx) (D := D) (rep := Rg g) (f := fun y S1 => match (Tgt.tp is).set ρ y with
      | some ρ1 => .ok (.nx ρ1) S1
      | none => .bad) hee ?_ fun y S1 w1 H1 vx _ l1 hs1 rx hp1 => ?_
    · show PostS g Wx w Fr (((evs (callF g.T n) ms ρ S).bind fun xs S1 => .ok (Mn.D.tup xs) S1).bindS ρ _) D
      have hp : PostS g Wx w Fr ((evs (callF g.T n) ms ρ S).bindS ρ fun xs S1 => match (Tgt.tp is).set ρ (.tup xs) with
        | some ρ1 => .ok (.nx ρ1) S1
        | none => .bad) D := hp
      cases e : evs (callF g.T n) ms ρ S with
      | ok a S1 => rw [e] at hp; exact hp
      | exc c S1 => rw [e] at hp; exact hp
      | bad => rw [e] at hp; exact hp
    · refine ⟨w1, Fr, S1, y, ρ, hs1, rx, hee.mono l1, ?_⟩
      cases e2 : (Tgt.tp is).set ρ y with
      | none => simp only [e2] at hp1; exact hp1
      | some ρ1 => simp only [e2] at hp1; exact fun σ2 e3 _ => hp1 w1 H1 σ2 (Wd.le.refl _) hs1 e3
  | some ns =>
    obtain ⟨hd, hns, hlen, hloc⟩ := hr ns rfl
    subst hns
    have hN : X.N.Nodup := by rw [ho.hN]; exact ho.nd
    have nd := nodupB_ok hd
    rcases sw_len hs with h2 | h3
    · match ts, vs, hi, hv, hs, h2, hlen, hloc, sw, ha with
      | [t1, t2], [a, b], hi, hv, hs, _, _, hloc, sw, ha =>
        obtain ⟨x, px, i, is1, rfl, si, hi1, rfl⟩ := cTgts_cons hi
        obtain ⟨y, py, j, is2, rfl, sj, hi2, rfl⟩ := cTgts_cons hi1
        cases hi2
        obtain ⟨_, e1, lx⟩ := hloc _ List.mem_cons_self
        obtain ⟨_, e2, ly⟩ := hloc _ (List.mem_cons_of_mem _ List.mem_cons_self)
        cases e1; cases e2
        have hij : i ≠ j := by simpa using nd
        refine PS.imp (ps_par (ho.calm hh) hN (by rw [ho.hN]; exact (cSto_ok si).1) (by rw [ho.hN]; exact (cSto_ok sj).1) hij (by rw [ho.hsc]; exact lx) (by rw [ho.hsc]; exact ly) ha sw (swSole2 _ _ _ _ _ _ _ _)) fun D σ H q => ?_
        obtain ⟨w, Fr, ρ, S, hs, hee, hp⟩ := q
        refine ⟨w, Fr, ρ, S, hs, hee, PostS.bindS (rep := Rgs g) hee hp fun ds S1 w1 H1 vx _ l1 hs1 rx hp1 => ?_⟩
        cases e2 : (Tgt.tp [i, j]).set ρ (.tup ds) with
        | none => simp only [e2] at hp1; exact False.elim hp1
        | some ρ1 =>
          simp only [e2] at hp1
          obtain ⟨l1', rfl⟩ := set_tp_ok e2
          match ds, rx, l1' with
          | [d1, d2], .cons r1 (.cons r2 .nil), _ =>
            exact ⟨_, _, rfl, hp1 w1 H1 _ (Wd.le.refl _) hs1 (((hee.mono l1).set i r1 (ho.nex si)).set j r2 (ho.nex sj))⟩
    · match ts, vs, hi, hv, hs, h3, hlen, hloc, sw, ha with
      | [t1, t2, t3], [a, b, d], hi, hv, hs, _, _, hloc, sw, ha =>
        obtain ⟨x, px, i, is1, rfl, si, hi1, rfl⟩ := cTgts_cons hi
        obtain ⟨y, py, j, is2, rfl, sj, hi2, rfl⟩ := cTgts_cons hi1
        obtain ⟨z, pz, l, is3, rfl, sl, hi3, rfl⟩ := cTgts_cons hi2
        cases hi3
        obtain ⟨_, e1, lx⟩ := hloc _ List.mem_cons_self
        obtain ⟨_, e2, ly⟩ := hloc _ (List.mem_cons_of_mem _ List.mem_cons_self)
        obtain ⟨_, e3, lz⟩ := hloc _ (List.mem_cons_of_mem _ (List.mem_cons_of_mem _ List.mem_cons_self))
        cases e1; cases e2; cases e3
        have hd3 : (i ≠ j ∧ i ≠ l) ∧ j ≠ l := by simpa using nd
        refine PS.imp (ps_par3 (ho.calm hh) hN (by rw [ho.hN]; exact (cSto_ok si).1) (by rw [ho.hN]; exact (cSto_ok sj).1) (by rw [ho.hN]; exact (cSto_ok sl).1) hd3.1.1 hd3.1.2 hd3.2 (by rw [ho.hsc]; exact lx) (by rw [ho.hsc]; exact ly) (by rw [ho.hsc]; exact lz) ha sw (swSole2 _ _ _ _ _ _ _ _)) fun D σ H q => ?_
        obtain ⟨w, Fr, ρ, S, hs, hee, hp⟩ := q
        refine ⟨w, Fr, ρ, S, hs, hee, PostS.bindS (rep := Rgs g) hee hp fun ds S1 w1 H1 vx _ l1 hs1 rx hp1 => ?_⟩
        cases e2 : (Tgt.tp [i, j, l]).set ρ (.tup ds) with
        | none => simp only [e2] at hp1; exact False.elim hp1
        | some ρ1 =>
          simp only [e2] at hp1
          obtain ⟨l1', rfl⟩ := set_tp_ok e2
          match ds, rx, l1' with
          | [d1, d2, d3], .cons r1 (.cons r2 (.cons r3 .nil)), _ =>
            exact ⟨_, _, _, rfl, hp1 w1 H1 _ (Wd.le.refl _) hs1 ((((hee.mono l1).set i r1 (ho.nex si)).set j r2 (ho.nex sj)).set l r3 (ho.nex sl))⟩

/-! ### o[i] = e -/
theorem Paired.anyP {α β : Type} {R : α → β → Prop} {p : α → Bool} {q : β → Bool} (h : ∀ a b, R a b → p a = q b) : ∀ {x : List α} {y : List β}, Paired R x y → x.any p = y.any q
  | _, _, .nil => rfl
  | _, _, .cons r t => by rw [List.any_cons, List.any_cons, h _ _ r, Paired.anyP h t]
theorem Paired.map2 {α β : Type} {R : α → β → Prop} {f : α → α} {k : β → β} (h : ∀ a b, R a b → R (f a) (k b)) : ∀ {x : List α} {y : List β}, Paired R x y → Paired R (x.map f) (y.map k)
  | _, _, .nil => .nil
  | _, _, .cons r t => .cons (h _ _ r) (Paired.map2 h t)
theorem Paired.app {α β : Type} {R : α → β → Prop} {a : α} {b : β} (h : R a b) : ∀ {x : List α} {y : List β}, Paired R x y → Paired R (x ++ [a]) (y ++ [b])
  | _, _, .nil => .cons h .nil
  | _, _, .cons r t => .cons r (Paired.app h t)
theorem KReps.put {K : PySem.W.Frag} {fa : Nat → Addr} {w : Wd} {kvs : List (Int × D)} {vs : List (Key × V)} (h : KReps K fa w kvs vs) (i : Int) {d : D} {v : V} (r : Rep K fa w d v) : KReps K fa w (putK i d kvs) (L2.putK vs (Sum.inl i) v) := by
  have keyEq : ∀ (p : Int × D) (q : Key × V), q.1 = Sum.inl p.1 ∧ Rep K fa w p.2 q.2 → (p.1 = i ↔ q.1 = Sum.inl i) := fun p q z => by
    rw [z.1]
    exact ⟨fun e => by rw [e], fun e => Sum.inl.inj e⟩
  have e : (kvs.any fun p => decide (p.1 = i)) = (vs.any fun q => decide (q.1 = Sum.inl i)) := Paired.anyP (fun p q z => by rw [decide_eq_decide]; exact keyEq p q z) h
  unfold putK L2.putK
  rw [e]
  split
  · refine Paired.map2 (fun p q z => ?_) h
    by_cases hk : p.1 = i
    · rw [if_pos hk, if_pos ((keyEq p q z).mp hk)]; exact ⟨z.1, r⟩
    · rw [if_neg hk, if_neg fun y => hk ((keyEq p q z).mpr y)]; exact z
  · exact Paired.app ⟨rfl, r⟩ h
def rSetM (g : G) : TSet := fun o i v H Q => ∃ w Fr S S4 d1 d2 d3, StOk g w Fr H S ∧ Rg g w d1 o ∧ Rg g w d2 i ∧ Rg g w d3 v ∧ setV S d1 d2 d3 = some S4 ∧ ∀ H', StOk g w Fr H' S4 → Q H'
theorem set_m (hu : X.A.units + 1 < cLine) : PSet X (rSetM g) := by
  intro pins s σ H o i v ov iv u Q I ro ri rv h
  obtain ⟨w, Fr, S, S4, d1, d2, d3, hs, r1, r2, r3, e, q⟩ := h
  unfold setV at e
  split at e
  · rename_i oi z
    split at e
    · rename_i xs hg
      split at e
      · rename_i hb
        cases e
        cases r1 with
        | own ha =>
        cases r2
        obtain ⟨a, h1, h2, h3, vs, h4, h5⟩ := hs.live _ _ hg
        rw [ha] at h1; cases h1
        refine set_list pins s σ H _ _ v ov iv u Q I ro ri rv ⟨_, vs, z, z.toNat, rfl, rfl, h4, ?_, q _ (hs.put hg ha fun H' e' => ⟨_, e', h5.set _ r3⟩)⟩
        unfold ixN
        rw [h5.length] at hb
        rw [if_pos (by omega)]
        first
          | rw [if_pos (by omega)]
          | skip
      · cases e
    · rename_i kvs hg
      split at e
      · rename_i hb
        cases e
        cases r1 with
        | own ha =>
        cases r2
        obtain ⟨a, h1, h2, h3, vs, h4, h5⟩ := hs.live _ _ hg
        rw [ha] at h1; cases h1
        cases ro
        refine d_setItem (y := kV (Sum.inl z)) hu I (DPut.k (k := Sum.inl z) (v := v) h4 ?_) ri rv fun s' I' => ⟨_, I', q _ (hs.put hg ha fun H' e' => ⟨_, e', h5.put z r3⟩)⟩
        rw [← Paired.length h5]; exact Nat.lt_of_lt_of_le hb LIM_le
      · cases e
    · cases e
  · cases e
theorem swapsSub (e o i : Expr) (p : Pos) (line : Nat) (env : PySem.Env) : swapsWithSole [.Subscript o i p] e line env = pure false := by
  cases e <;> rfl
theorem ss_setI (ho : XOk g n Wx c X) {o i e : Expr} {mo mi me : ME} {p pos : Pos} (hix : isSlice i = false) (h1 : SE g n Wx X o mo) (h2 : SE g n Wx X i mi) (h3 : SE g n Wx X e me) : SS g n Wx X (.Assign [.Subscript o i p] e pos) (.setI mo mi me) := by
  have hu := ho.hu
  have hg := pg_sub (pos := p) h1 h2 (set_m (g := g) (X := X) (by omega)) (by cases i <;> first | (intro v; rfl) | cases hix)
  refine PS.imp (ps_asg h3 hg (swapsSub _ _ _ _ _ _) (by cases e <;> rfl)) fun D σ H q => ?_
  obtain ⟨w, Fr, ρ, S, hs, hee, hp⟩ := q
  refine ⟨w, Fr, ρ, S, hs, hee, PostS.bindS (rep := Rg g) hee hp fun y S1 w1 H1 vx _ l1 hs1 rx hp1 => ?_⟩
  refine ⟨w1, Fr, ρ, S1, hs1, hee.mono l1, PostS.bindS (rep := Rg g) (hee.mono l1) hp1 fun y2 S2 w2 H2 vx2 _ l2 hs2 rx2 hp2 => ?_⟩
  refine ⟨w2, Fr, ρ, S2, hs2, (hee.mono l1).mono l2, PostS.bindS (rep := Rg g) ((hee.mono l1).mono l2) hp2 fun y3 S3 w3 H3 vx3 _ l3 hs3 rx3 hp3 => ?_⟩
  cases e4 : setV S3 y2 y3 y with
  | none => simp only [e4] at hp3; exact False.elim hp3
  | some S4 =>
    simp only [e4] at hp3
    exact ⟨w3, Fr, S3, S4, y2, y3, y, hs3, rx2.mono l3, rx3, (rx.mono l2).mono l3, e4, fun H' s4 => hp3 w3 H' σ (Wd.le.refl _) s4 (((hee.mono l1).mono l2).mono l3)⟩

/-! ### x += e -/
theorem iop_m : OpR X (inplaceOp .Add) (r2 g Wx augV) := by
  refine OpR.imp (iop_add.or iop_add_str) fun vx vy H Q h => ?_
  obtain ⟨w, Fr, σ, S, x, y, hs, hx, hy, hp⟩ := h
  cases hx <;> cases hy <;> first
    | exact False.elim hp
    | (refine .inl ⟨_, _, rfl, rfl, ?_⟩; exact hp.ok hs (.int _))
    | (rename_i x1 x2 x3 y1 y2 y3
       simp only [augV, binV] at hp
       split at hp
       · rename_i hl
         refine .inr ⟨_, _, rfl, rfl, ?_, ?_⟩
         · rw [mkS_len, mkS_len]
           exact Nat.le_trans hl LIM_le
         · rw [mkS_app]
           refine hp.ok hs (rep_str (all_app x2 y2) ?_)
           rw [List.length_append]; exact Nat.le_trans hl LIM_le
       · exact False.elim hp)
end
end Mn
end
section
set_option Elab.async false
set_option linter.all false
set_option maxRecDepth 100000
set_option maxHeartbeats 2000000
/-! Snd13: loops, raise; every statement; a def by its body. -/
namespace Mn
open PySem PySem.Spec PyProof.Rows L2
section
variable {g : G} {n : Nat} {Wx : WX} {c : CC} {X : Cx}
theorem ss_aug (ho : XOk g n Wx c X) {x : Str} {e : Expr} {i : Nat} {m : ME} {bop : BOp} {p pos : Pos} (hi : cSto c x = some i) (h : SE g n Wx X e m) : SS g n Wx X (.AugAssign (.Name x p) .Add e pos) (.aug i bop m) := by
  obtain ⟨h1, h2, h3⟩ := cSto_ok hi
  have hf : X.fn x = true ∨ X.env.scope.names.lookup x = some .local := (sto_fn ho hi).elim (fun z => .inr (by rw [ho.hsc]; exact z)) .inl
  refine PS.imp (ps_aug (by rw [ho.hN]; exact ho.nd) (by rw [ho.hN]; exact h1) (by rw [ho.hsc]; exact h2) h (show PIp X .Add _ from iop_m (g := g) (Wx := Wx)) hf) fun D σ H q => ?_
  obtain ⟨w, Fr, ρ, S, hs, hee, hp⟩ := q
  simp only [exec] at hp
  split at hp
  · rename_i x0 hx
    obtain ⟨v, ev, rv⟩ := hee.at_ _ _ hx
    refine ⟨v, ev, w, Fr, ρ, S, hs, hee, PostS.bindS (rep := Rg g) hee hp fun y S1 w1 H1 vx _ l1 hs1 rx hp1 => ?_⟩
    refine ⟨w1, Fr, σ, S1, x0, y, hs1, rv.mono l1, rx, PostS.bindS (rep := Rg g) (hee.mono l1) hp1 fun z S2 w2 H2 vz _ l2 hs2 rz hp2 => ?_⟩
    exact hp2 w2 H2 _ (Wd.le.refl _) hs2 (((hee.mono l1).mono l2).set i rz (ho.nex hi))
  · exact False.elim hp
theorem ss_for (ho : XOk g n Wx c X) (hh : c.hot = false) {tg iter : Expr} {body : List Stmt} {t : Tgt} {mi : MI} {mb : List MS} {pos : Pos} (ht : cTgt c tg = some t) (hi : SI g n Wx X tg iter mi) (hb : SSs g n Wx X body mb)
    (hf : ∀ x, foldedSetIterable iter X.env x = pure x) : SS g n Wx X (.For tg iter body [] pos) (.forr t mi mb) := by
  refine PS.imp (ps_for ho.pass (ho.calm hh) hi (sg_of ho ht) hb hf) fun D σ H q => ?_
  obtain ⟨w, Fr, ρ, S, hs, hee, hp⟩ := q
  refine ⟨w, Fr, ρ, S, hs, hee, PostS.bindS (rep := RI g) hee hp fun ds S1 w1 H1 J _ l1 hs1 rJ hp1 => ?_⟩
  refine for_it (walk_of' rJ) (fun i σ H => ∃ wi ρi Si, w1.le wi ∧ StOk g wi Fr H Si ∧ EnvOk g wi ρi σ ∧ PostS g Wx wi Fr (loopL S1.nx (fun r d => t.set r d) (fun r s => execs (callF g.T n) mb r s) (ds.drop i) ρi Si) D)
    ⟨w1, ρ, S1, Wd.le.refl _, hs1, hee.mono l1, hp1⟩ (fun i σ H hi ⟨wi, ρi, Si, l, s', _, _⟩ => l.hp.trans s'.h0) (fun i x σ H H' hi z y => ?_) fun σ H z => ?_
  · obtain ⟨wi, ρi, Si, l, s', e', hP⟩ := z
    obtain ⟨d, hd, it⟩ := y
    obtain ⟨w2, l2, s2, rx⟩ := item_in l s' it
    have hdrop : ds.drop i = d :: ds.drop (i + 1) := by
      obtain ⟨hi', e⟩ := List.getElem?_eq_some_iff.mp hd
      rw [← e]; exact List.drop_eq_getElem_cons hi'
    rw [hdrop] at hP
    simp only [loopL] at hP
    refine ⟨w2, Fr, Si, d, ρi, s2, rx, e'.mono l2, ?_⟩
    cases e : t.set ρi d with
    | none => rw [e] at hP; exact False.elim hP
    | some ρ' =>
      rw [e] at hP
      intro σ2 e2 _
      refine ⟨w2, Fr, ρ', Si, s2, e2, ?_⟩
      have hP := PostS.mono l2 hP
      cases er : execs (callF g.T n) mb ρ' Si with
      | ok fl S3 =>
        simp only [er, R.bind] at hP
        cases fl with
        | nx ρ3 => exact fun w3 H3 σ3 l3 s3 e3 => ⟨w3, ρ3, S3.back S1.nx, (l.trans l2).trans l3, s3.back _, e3, PostS.mono l3 hP⟩
        | ct ρ3 => exact fun w3 H3 σ3 l3 s3 e3 => ⟨w3, ρ3, S3.back S1.nx, (l.trans l2).trans l3, s3.back _, e3, PostS.mono l3 hP⟩
        | bk ρ3 => exact hP
        | rt d => exact hP
        | ex k ρ3 => exact hP
      | exc _ _ => simp only [er, R.bind] at hP; exact hP
      | bad => simp only [er, R.bind] at hP; exact hP
  · obtain ⟨wi, ρi, Si, l, s', e', hP⟩ := z
    rw [List.drop_length] at hP
    exact hP wi H σ (Wd.le.refl _) s' e'
theorem ss_whil (ho : XOk g n Wx c X) {t : Expr} {body : List Stmt} {mt : ME} {mb : List MS} {pos : Pos} (ht : ST g n Wx X t mt) (hb : SSs g n Wx X body mb) : SS g n Wx X (.While t body [] pos) (.whil mt mb) := by
  refine PS.imp (ps_while ho.pass ht hb) fun D σ H q => ?_
  obtain ⟨w, Fr, ρ, S, hs, hee, hp⟩ := q
  refine ⟨fun m σ H => ∃ wi ρi Si, StOk g wi Fr H Si ∧ EnvOk g wi ρi σ ∧ PostS g Wx wi Fr (whileL (fun r s => evT (callF g.T n) mt r s) (fun r s => execs (callF g.T n) mb r s) m ρi Si) D, ⟨WF, w, ρ, S, hs, hee, hp⟩, fun m σ H z => ?_⟩
  obtain ⟨wi, ρi, Si, s', e', hP⟩ := z
  cases m with
  | zero => exact False.elim hP
  | succ m =>
    simp only [whileL] at hP
    refine ⟨wi, Fr, ρi, Si, s', e', PostS.bindS e' hP fun b S1 w1 H1 vx _ l1 hs1 rx hp1 => ?_⟩
    cases rx
    cases b with
    | false => exact hp1 w1 H1 σ (Wd.le.refl _) hs1 (e'.mono l1)
    | true =>
      refine ⟨fun σ H => ∃ wi ρi Si, StOk g wi Fr H Si ∧ EnvOk g wi ρi σ ∧ PostS g Wx wi Fr (whileL (fun r s => evT (callF g.T n) mt r s) (fun r s => execs (callF g.T n) mb r s) m ρi Si) D, fun σ' H' z => ⟨m, Nat.lt_succ_self _, z⟩, ?_⟩
      refine ⟨w1, Fr, ρi, S1, hs1, e'.mono l1, ?_⟩
      have hp1 : PostS g Wx w1 Fr ((execs (callF g.T n) mb ρi S1).bind fun fl S2 => match fl with
        | .nx ρ2 => whileL (fun r s => evT (callF g.T n) mt r s) (fun r s => execs (callF g.T n) mb r s) m ρ2 S2
        | .ct ρ2 => whileL (fun r s => evT (callF g.T n) mt r s) (fun r s => execs (callF g.T n) mb r s) m ρ2 S2
        | .bk ρ2 => .ok (.nx ρ2) S2
        | .rt d => .ok (.rt d) S2
        | .ex c ρ2 => .ok (.ex c ρ2) S2) D := hp1
      cases er : execs (callF g.T n) mb ρi S1 with
      | ok fl S3 =>
        simp only [er, R.bind] at hp1
        cases fl with
        | nx ρ3 => exact fun w3 H3 σ3 l3 s3 e3 => ⟨w3, ρ3, S3, s3, e3, PostS.mono l3 hp1⟩
        | ct ρ3 => exact fun w3 H3 σ3 l3 s3 e3 => ⟨w3, ρ3, S3, s3, e3, PostS.mono l3 hp1⟩
        | bk ρ3 => exact hp1
        | rt d => exact hp1
        | ex k ρ3 => exact hp1
      | exc _ _ => simp only [er, R.bind] at hp1; exact hp1
      | bad => simp only [er, R.bind] at hp1; exact hp1
theorem ss_rais (ho : XOk g n Wx c X) (hh : c.hot = false) {e : Expr} {k : Nat} {pos : Pos} (h : excOf c e = some k) : SS g n Wx X (.Raise (some e) none pos) (.rais k) := by
  unfold excOf at h
  split at h
  · rename_i x p m j p2 pos'
    split at h
    · rename_i k' hg
      cases h
      obtain ⟨hl, hge, hdb, hn⟩ := cGlo_ok hg
      obtain ⟨h1, h2, h3, h4, h5, _⟩ := ho.ge.exc _ _ hge
      have r : Raises X (.ref (g.ca k)) := raises_own (by rw [ho.hK]; exact h4) (by rw [ho.hK]; exact h5)
      refine PS.imp (L2N.ps_raise (W := Wx) (ho.calm hh) ho.tk (L2N.pmk_own PySem.F.excBase_ValueError (by rw [ho.hK]; exact h3) (by rw [ho.hmg]; exact h1) (by rw [ho.hK]; exact h2) r (ho.gl hl) hdb)) fun D σ H q => ?_
      obtain ⟨w, Fr, ρ, S, hs, hee, hp⟩ := q
      exact hp w H σ (Wd.le.refl _) hs hee
    · cases h
  · cases h
end
end Mn
end
section
set_option Elab.async false
set_option linter.all false
set_option maxRecDepth 100000
set_option maxHeartbeats 2000000
/-! Snd14: every statement that Cmp takes; a def by its body; all defs. -/
namespace Mn
open PySem PySem.Spec PyProof.Rows L2
section
variable {g : G} {n : Nat}
theorem room100 {k : Nat} {A : Around} (r : Room k A) : A.units + 100 < cLine := by have := r.un; omega
theorem good_all : ∀ k, Good g n k
  | 0 => fun _ _ _ _ _ _ h => by cases h
  | k + 1 => good_succ (good_all k)
def GoodS (g : G) (n k : Nat) : Prop := ∀ (Wx : WX) (c : CC) (X : Cx) (s : Stmt) (m : MS), XOk g n Wx c X → cS k c s = some m → SS g n Wx X s m
theorem sss_all {k : Nat} (ih : GoodS g n k) {Wx : WX} {c : CC} {X : Cx} (ho : XOk g n Wx c X) : ∀ {ss : List Stmt} {ms : List MS}, cAll (cS k c) ss = some ms → SSs g n Wx X ss ms
  | [], _, h => by cases h; exact sss_nil
  | s :: r, _, h => by
    obtain ⟨b, bs', e1, e2, rfl⟩ := cAll_cons h
    exact sss_cons (ih _ _ _ _ _ ho e1) (sss_all ih ho e2)
theorem all_loc {sc : Scope} {ts : List Expr} (h : (ts.all fun e => match nameOf e with | some x => sc.names.lookup x == some .local | none => false) = true) : ∀ e ∈ ts, ∃ x, nameOf e = some x ∧ sc.names.lookup x = some .local := fun e he => by
  have z := List.all_eq_true.mp h e he
  cases q : nameOf e with
  | none => rw [q] at z; cases z
  | some x => rw [q] at z; exact ⟨x, rfl, by simpa using z⟩
theorem execsAt_ok {C : Nat → List D → Sto → R D} {k : Nat} {ρ : Env} {S : Sto} : ∀ {sus : List (Nat × List MS)}, (∃ su, (k, su) ∈ sus ∧ execsAt C k sus ρ S = execs C su ρ S) ∨ execsAt C k sus ρ S = .bad
  | [] => .inr (by simp only [execsAt])
  | (j, su) :: r => by
    by_cases h : j = k
    · subst h
      exact .inl ⟨su, List.mem_cons_self, by simp only [execsAt, if_true]⟩
    · rcases execsAt_ok (k := k) (ρ := ρ) (S := S) (sus := r) with ⟨su', hm, e⟩ | e
      · exact .inl ⟨su', List.mem_cons_of_mem _ hm, by simp only [execsAt, if_neg h]; exact e⟩
      · exact .inr (by simp only [execsAt, if_neg h]; exact e)
/-- the reading of an except suite -/
def tSuite (g : G) (n : Nat) (i : Nat) (sus : List (Nat × List MS)) (a : Addr) (cls : Value) (d : Option Addr) : TS := fun D σ H => ∃ k su, (k, su) ∈ sus ∧ cls = .ref (g.ca k) ∧ d = none ∧ tSs { g with exs := some (i, a) } (callF g.T n) W0 su D σ H
theorem noFn_keep {ge : Str → Option GV} {y : Str} {v : GV} (e : noFn ge y = some v) : ge y = some v := by
  unfold noFn at e
  split at e
  · cases e
  · exact e
theorem noFn_ge {g : G} {x : Option (Nat × Addr)} {ge : Str → Option GV} (h : GeOk g ge) : GeOk { g with exs := x } (noFn ge) := by
  have keep : ∀ {y v}, noFn ge y = some v → ge y = some v := fun {y v} e => by
    unfold noFn at e
    split at e
    · cases e
    · exact e
  exact ⟨fun y f e => h.fn y f (keep e), fun y d e => h.cst y d (keep e), fun y e => h.blt y (keep e), fun y f e => h.xfn y f (keep e), fun y k e => h.exc y k (keep e), fun y k f e => h.cls y k f (keep e), fun y z k j e1 e2 => h.kit y z k j (keep e1) (keep e2)⟩
theorem noFn_exc {ge : Str → Option GV} {y : Str} {k : Nat} (h : ge y = some (.exc k)) : noFn ge y = some (.exc k) := by unfold noFn; rw [h]
theorem ss_try {Wx : WX} {c : CC} {X : Cx} (ho : XOk g n Wx c X) (hh : c.hot = false) (hb : c.blk = false) (hex : c.ex = none) {x nm : Str} {i : Nat} {body suite : List Stmt} {b₀ : Stmt} {mb : List MS} {sus : List (Nat × List MS)} {np pos pos' : Pos}
    (hx : cGlo c x = some (.exc 0)) (hi : ixOf c.N nm = some i) (hl : c.sc.names.lookup nm = some .local) (hbad : badN nm = false)
    (hB : ∀ Wx X, XOk g n Wx c X → SSs g n Wx X body mb) (hS : ∀ k su, (k, su) ∈ sus → k ∈ c.xs ∧ ∀ (g' : G) Wx X, g'.T = g.T → XOk g' n Wx (c.suite nm i k) X → SSs g' n Wx X (b₀ :: suite) su) :
    SS g n Wx X (.Try body [.ExceptHandler (some (.Name x np)) (some nm) (b₀ :: suite) pos'] [] [] pos) (.tri mb i 0 sus) := by
  obtain ⟨h1, h2, h3, h4⟩ := cGlo_ok hx
  obtain ⟨x1, x2, _⟩ := ho.ge.exc _ _ h2
  obtain ⟨f1, f2⟩ := ho.fr hb
  have gex : g.exs = none := by
    cases q : g.exs with
    | none => rfl
    | some p => obtain ⟨_, _, z, _⟩ := ho.exn p.1 p.2 q; rw [hex] at z; cases z
  have hNi := ixOf_get hi
  have nex : ∀ j a, g.exs = some (j, a) → j ≠ i := fun j a e => by rw [gex] at e; cases e
  refine PS.imp (L2N.ps_try_as (Wout := Wx) (i := i) (c := .ref (g.ca 0)) (tb := fun W => tSs g (callF g.T n) W mb) (ts := tSuite g n i sus) f1 f2 (by rw [ho.hN]; exact ho.nd) (by rw [ho.hN]; exact hNi) (by show X.env.scope.names.lookup nm = _; rw [ho.hsc]; exact hl) ⟨ho.gl h1, h3, .inl (by rw [ho.hmg]; exact x1)⟩ ho.tk
    (fun W pn xe tk pa => hB W (X.tr pn xe) { hP := ho.hP, hw := ho.hw, hK := ho.hK, hmg := ho.hmg, hbase := ho.hbase, hN := ho.hN, nd := ho.nd, hsc := ho.hsc, kind := ho.kind, calm := ho.calm, hotC := fun z => (by rw [hh] at z; cases z), room := ho.room, mts := ho.mts, prs := ho.prs, ini := ho.ini, units := ho.units, pass := pa, tk := tk, wr := ho.wr, ge := ho.ge, fns := ho.fns, exn := ho.exn, isx := fun _ nm' j k _ z => (by rw [hex] at z; cases z), xs := ho.xs, xf := ho.xf, px := fun _ nm' j k _ z => (by rw [hex] at z; cases z), rmH := fun z => (by rw [hh] at z; cases z), fr := ho.fr })
    (fun a oe cls d pn hz hf => ⟨fun pins s σ H D I q => ?_⟩)) fun D σ H q => ?_
  · obtain ⟨k, su, hm, rfl, rfl, q⟩ := q
    obtain ⟨hk, hsu⟩ := hS k su hm
    obtain ⟨y, hy⟩ := ho.xs k hk
    have xc := (ho.ge.exc y k hy).2.2.2.2.2
    refine (hsu { g with exs := some (i, a) } W0 (X.suite a ((a, oe) :: pn)) rfl
      { hP := ho.hP, hw := ho.hw, hK := ho.hK, hmg := ho.hmg, hbase := ho.hbase, hN := ho.hN, nd := ho.nd, hsc := ho.hsc, kind := ho.kind, calm := fun z => (by cases z), hotC := fun _ => ⟨(a, oe), ⟨rfl, ?_⟩, List.mem_cons_self⟩, room := fun z => (by cases z), mts := fun z => (by cases z), prs := fun z => (by cases z), ini := fun z => (by cases z), units := ho.units, pass := PassesOwn.never,
        tk := fun _ _ x => by
          obtain ⟨_, _, _, _, _, _, _, _, _, _, _, _, _, _, _, _, z⟩ := x
          exact z.elim
        wr := ho.wr, ge := noFn_ge ho.ge, fns := fun z f e => by
          have e : noFn c.ge z = some (.fn f) := e
          unfold noFn at e
          split at e
          · cases e
          · rename_i hne
            exact absurd e (hne f)
        exn := fun j b e => by
          cases e
          exact ⟨nm, k, rfl, hNi⟩
        isx := fun _ nm' j k' _ e => by
          cases e
          exact ⟨a, rfl, hNi, .inl hl, hbad, ⟨y, noFn_exc hy⟩, call_isE (by rw [ho.hK]; exact xc) hz.zc hf⟩
        xs := fun k' hk' => by
          obtain ⟨z, e⟩ := ho.xs k' hk'
          exact ⟨z, noFn_exc e⟩
        xf := fun z f e k' y' e' => ho.xf z f (noFn_keep e) k' y' (noFn_keep e')
        px := fun _ nm' j k' _ e => by
          cases e
          obtain ⟨vs, hv⟩ := hf
          exact ⟨(a, oe), List.mem_cons_self, ⟨rfl, vs, hv, hz.2.2 vs hv⟩, rfl, hz.zc⟩
        rmH := fun _ => ⟨(ho.room hh).rm.dp, (ho.room hh).rm.un⟩
        fr := ho.fr }).run pins s σ H D I q
    obtain ⟨vs, hv⟩ := hf
    exact ⟨vs, hv, hz.2.2 vs hv⟩
  · obtain ⟨w, Fr, ρ, S, hs, he, hp⟩ := q
    refine ⟨w, Fr, ρ, S, hs, he, ?_⟩
    have hp : PostS g Wx w Fr ((execs (callF g.T n) mb ρ S).bind fun fl S1 => match fl with
      | .ex k ρ1 => if i < ρ1.length ∧ 0 = 0 then (execsAt (callF g.T n) k sus (ρ1.set i none) S1).bind (sufS i) else .bad
      | fl => .ok fl S1) D := hp
    cases er : execs (callF g.T n) mb ρ S with
    | exc _ _ => rw [er] at hp; exact hp
    | bad => rw [er] at hp; exact hp
    | ok fl S1 =>
      rw [er] at hp
      simp only [R.bind] at hp
      cases fl with
      | nx ρ' => exact hp
      | bk ρ' => exact hp
      | ct ρ' => exact hp
      | rt d => exact hp
      | ex k ρ1 =>
        dsimp only at hp
        split at hp
        · rename_i hlt
          rcases execsAt_ok (C := callF g.T n) (k := k) (ρ := ρ1.set i none) (S := S1) (sus := sus) with ⟨su, hm, e⟩ | e
          · rw [e] at hp
            intro w' H' σ' l s' e'
            obtain ⟨hk, _⟩ := hS k su hm
            obtain ⟨y, hy⟩ := ho.xs k hk
            refine ⟨true, by rw [ho.hK]; exact (ho.ge.kit y x k 0 hy h2).2, fun _ a na => ⟨k, su, hm, rfl, rfl, w', Fr, ρ1.set i none, S1, ⟨s'.h0, s'.fr, s'.dj, s'.lt, s'.live, s'.inj, s'.lv⟩, ?_, ?_⟩, fun z => by cases z⟩
            · have ec := e'.clear i nex (some (.ref a))
              refine ⟨ec.len, ec.at_, fun j b q => ?_⟩
              cases q
              exact List.getElem?_set_self (by rw [← e'.len]; exact hlt.1)
            · have hp := PostS.mono l hp
              cases es : execs (callF g.T n) su (ρ1.set i none) S1 with
              | exc _ _ => rw [es] at hp; exact hp
              | bad => rw [es] at hp; exact hp
              | ok fl S2 =>
                rw [es] at hp
                simp only [R.bind] at hp
                cases fl with
                | nx ρ2 => exact fun w2 H2 σ2 l2 s2 e2 => hp w2 H2 _ l2 ⟨s2.h0, s2.fr, s2.dj, s2.lt, s2.live, s2.inj, s2.lv⟩ ((e2.out gex).clear i nex none)
                | rt d => exact fun w2 H2 v l2 s2 r2 => hp w2 H2 v l2 ⟨s2.h0, s2.fr, s2.dj, s2.lt, s2.live, s2.inj, s2.lv⟩ r2
                | bk _ => exact False.elim hp
                | ct _ => exact False.elim hp
                | ex _ _ => exact False.elim hp
          · rw [e] at hp
            exact False.elim hp
        · exact False.elim hp
theorem cAsg_ok {k : Nat} {Wx : WX} {c : CC} {X : Cx} (ho : XOk g n Wx c X) {t e : Expr} {m : MS} {pos : Pos} (h : cAsg (k + 1) c t e = some m) : SS g n Wx X (.Assign [t] e pos) m := by
  unfold cAsg at h
  split at h
  · split at h
    · cases h
    · rename_i hc
      split at h
      · rename_i i m' e1 e2
        cases h
        refine ss_asg ho (good_all k) ?_ e1 e2
        cases q : c.hot with
        | false => exact .inl rfl
        | true =>
          right
          rw [q] at hc
          simpa using hc
      · cases h
  · rename_i ts k2 p
    split at h
    · cases h
    rename_i hh
    have hh : c.hot = false := by simpa using hh
    split at h
    · rename_i vs hv
      split at h
      · rename_i is ms e1 e2 e3
        split at h
        · rename_i hl
          cases h
          cases e <;> first
            | (cases hv; done)
            | skip
          cases hv
          exact ss_par ho hh (good_all (k + 1)) e1 e2 e3 hl fun ns z => by cases z
        · cases h
      · rename_i is ms ns e1 e2 e3
        split at h
        · rename_i hc
          cases h
          simp only [Bool.and_eq_true, decide_eq_true_eq] at hc
          obtain ⟨⟨⟨h1, h2⟩, h3⟩, h4⟩ := hc
          cases e <;> first
            | (cases hv; done)
            | skip
          cases hv
          refine ss_par ho hh (good_all (k + 1)) e1 e2 e3 ?_ fun ns' z => ?_
          · have l1 := sw_len e3
            have l2 : ms.length = vs.length := by
              have gen : ∀ {vs : List Expr} {ms : List ME}, cAll (cE (k + 1) c) vs = some ms → ms.length = vs.length := fun {vs} => by
                induction vs with
                | nil => intro ms h; cases h; rfl
                | cons a r ih => intro ms h; obtain ⟨b, bs', _, e2, rfl⟩ := cAll_cons h; rw [List.length_cons, List.length_cons, ih e2]
              exact gen e2
            rw [l2, ← h3]
            have : (3 : Nat) ≤ LIM := by decide
            omega
          · cases z
            exact ⟨h1, h2, h3, all_loc h4⟩
        · cases h
      · cases h
    · rename_i hv
      split at h
      · rename_i is m' e1 e2
        cases h
        exact ss_asgT ho e1 hv (good_all _ _ _ _ _ _ ho e2).1
      · cases h
  · split at h
    · cases h
    · rename_i hix
      split at h
      · rename_i o i e' e1 e2 e3
        cases h
        exact ss_setI ho (by simpa using hix) (good_all _ _ _ _ _ _ ho e1).1 (good_all _ _ _ _ _ _ ho e2).1 (good_all _ _ _ _ _ _ ho e3).1
      · cases h
  · cases h
theorem cSuites_ok {f : Nat → Stmt → Option MS} {su : List Stmt} : ∀ {xs : List Nat} {sus : List (Nat × List MS)}, cAll (cSuite f su) xs = some sus → ∀ k ms, (k, ms) ∈ sus → k ∈ xs ∧ cAll (f k) su = some ms
  | [], sus, h, k, ms, hm => by cases h; exact nomatch hm
  | a :: r, sus, h, k, ms, hm => by
    obtain ⟨b, bs, e1, e2, rfl⟩ := cAll_cons h
    rcases List.mem_cons.mp hm with hm | hm
    · subst hm
      obtain ⟨m, q1, q2⟩ := map_some e1
      cases q2
      exact ⟨List.mem_cons_self, q1⟩
    · obtain ⟨z1, z2⟩ := cSuites_ok e2 k ms hm
      exact ⟨List.mem_cons_of_mem _ z1, z2⟩
theorem hdOf_ok {hs : List ExceptHandler} {x nm : Str} {su : List Stmt} (h : hdOf hs = some (x, nm, su)) : ∃ np b r pos, hs = [.ExceptHandler (some (.Name x np)) (some nm) (b :: r) pos] ∧ su = b :: r := by
  unfold hdOf at h
  split at h
  · cases h; exact ⟨_, _, _, _, rfl, rfl⟩
  · cases h
theorem goodS : ∀ k (g : G), GoodS g n k
  | 0, g => fun _ _ _ _ _ _ h => by cases h
  | k + 1, g => fun Wx c X s m ho h => by
    have ihs := goodS k g
    cases s <;> simp only [cS] at h <;> first
      | (cases h; done)
      | skip
    case Expr e pos =>
      split at h
      · rename_i hc
        obtain ⟨m', e1, rfl⟩ := map_some h
        exact ss_expr hc (good_all _ _ _ _ _ _ ho e1).1
      · cases h
    case Assign ts e pos =>
      split at h
      · exact cAsg_ok ho h
      · cases h
    case AugAssign t op e pos =>
      split at h
      · rename_i i j bop m' e1 e2 e3 e4
        split at h
        · rename_i hc
          cases h
          obtain ⟨rfl, rfl⟩ := hc
          cases op <;> first
            | (cases e3; done)
            | skip
          cases t <;> first
            | (cases e1; done)
            | skip
          exact ss_aug ho e1 (good_all _ _ _ _ _ _ ho e4).1
        · cases h
      · cases h
    case If t a b pos =>
      split at h
      · rename_i mt ma mb e1 e2 e3
        cases h
        exact ss_ite (good_all _ _ _ _ _ _ ho e1).2 (sss_all ihs ho e2) (sss_all ihs ho e3)
      · cases h
    case For tg iter body els pos =>
      split at h
      · rename_i hels
        rw [Bool.and_eq_true] at hels
        have hh : c.hot = false := by simpa using hels.2
        have hels := hels.1
        split at h
        · rename_i t it b e1 e2 e3
          cases h
          cases els with
          | nil => exact ss_for ho hh e1 (cI_ok (good_all _) ho e2) (sss_all ihs ho e3) (notSet_cI e2 _)
          | cons _ _ => cases hels
        · cases h
      · cases h
    case While t body els pos =>
      split at h
      · rename_i hels
        rw [Bool.and_eq_true] at hels
        have hels := hels.1
        split at h
        · rename_i mt b e1 e2
          cases h
          cases els with
          | nil => exact ss_whil ho (good_all _ _ _ _ _ _ ho e1).2 (sss_all ihs ho e2)
          | cons _ _ => cases hels
        · cases h
      · cases h
    case Return e pos =>
      cases e with
      | none => cases h; exact ss_retN
      | some e =>
        obtain ⟨m', e1, rfl⟩ := map_some (show (cE (k + 1) c e).map _ = some m from h)
        exact ss_ret (good_all _ _ _ _ _ _ ho e1).1
    case Raise e cause pos =>
      split at h
      · rename_i hc
        rw [Bool.and_eq_true] at hc
        have hh : c.hot = false := by simpa using hc.2
        have hc := hc.1
        cases cause with
        | some _ => cases hc
        | none =>
          cases e with
          | none => cases h
          | some e =>
            obtain ⟨m', e1, rfl⟩ := map_some (show (excOf c e).map _ = some m from h)
            exact ss_rais ho hh e1
      · cases h
    case Try body hs els fin pos =>
      split at h
      · cases h
      · rename_i hc
        simp only [Bool.or_eq_true, not_or, Bool.not_eq_true, Bool.not_eq_true'] at hc
        obtain ⟨⟨⟨⟨c1, c2⟩, c3⟩, c4⟩, c5⟩ := hc
        split at h
        · rename_i x nm su hd
          split at h
          · cases h
          · rename_i hbad
            split at h
            · rename_i i mb sus e1 e2 e3 e4
              split at h
              · rename_i hl
                cases h
                obtain ⟨np, b, r, p', rfl, rfl⟩ := hdOf_ok hd
                have c4 : els = [] := by cases els <;> first | rfl | (simp at c4)
                have c5 : fin = [] := by cases fin <;> first | rfl | (simp at c5)
                subst c4
                subst c5
                have hex : c.ex = none := by cases q : c.ex <;> first | rfl | (rw [q] at c3; simp at c3)
                rw [e2] at e4
                refine ss_try ho (by simpa using c1) (by simpa using c2) hex e1 e2 hl (by simpa using hbad) (fun Wx' X' ho' => sss_all ihs ho' e3) fun k' su' hm => ?_
                obtain ⟨z1, z2⟩ := cSuites_ok e4 k' su' hm
                exact ⟨z1, fun g' Wx' X' hT ho' => sss_all (goodS k g') ho' z2⟩
              · cases h
            · cases h
        · cases h
    case Pass => cases h; exact ss_pass
    case Break => cases h; exact ss_brk
    case Continue => cases h; exact ss_cnt

/-! ### a def -/
mutual
theorem rep_cut {K : PySem.W.Frag} {fa : Nat → Addr} {w : Wd} {n0 : Nat} : ∀ {d : D} {v : V}, D.noOwn n0 d = true → Rep K fa w d v → Rep K fa ⟨fun i => if i < n0 then w.al i else none, w.H0⟩ d v
  | _, _, _, .non => .non
  | _, _, _, .bl b => .bl b
  | _, _, _, .int i => .int i
  | _, _, _, .str x h1 h2 => .str x h1 h2
  | _, _, h, .lst e r => .lst e (reps_cut h r)
  | _, _, h, .frz e r => .frz e (reps_cut h r)
  | _, _, h, .dx e r => .dx e (reps_cut h r)
  | _, _, h, .obj e r => .obj e (reps_cut h r)
  | _, _, h, .any a => .any a
  | _, _, h, .tup e r => .tup e (reps_cut h r)
  | .own i, _, h, .own e => .own (by
    have h : decide (i < n0) = true := h
    show (if i < n0 then w.al i else none) = _
    rw [if_pos (of_decide_eq_true h)]; exact e)
  | _, _, _, .fn f => .fn f
theorem reps_cut {K : PySem.W.Frag} {fa : Nat → Addr} {w : Wd} {n0 : Nat} : ∀ {ds : List D} {vs : List V}, D.noOwns n0 ds = true → Reps K fa w ds vs → Reps K fa ⟨fun i => if i < n0 then w.al i else none, w.H0⟩ ds vs
  | _, _, _, .nil => .nil
  | d :: ds, _, h, .cons r rs => by
    have h : (D.noOwn n0 d && D.noOwns n0 ds) = true := h
    rw [Bool.and_eq_true] at h
    exact .cons (rep_cut h.1 r) (reps_cut h.2 rs)
end
theorem paired_cut {K : PySem.W.Frag} {fa : Nat → Addr} {w : Wd} {n0 : Nat} : ∀ {kvs : List (Int × D)} {vs : List (Key × V)}, (kvs.all fun p => D.noOwn n0 p.2) = true → KReps K fa w kvs vs → KReps K fa ⟨fun i => if i < n0 then w.al i else none, w.H0⟩ kvs vs
  | _, _, _, .nil => .nil
  | d :: ds, _, h, .cons r rs => by
    rw [List.all_cons, Bool.and_eq_true] at h
    exact .cons ⟨r.1, rep_cut h.1 r.2⟩ (paired_cut h.2 rs)
theorem lookup_mem {i : Nat} {c : Cell} : ∀ {l : List (Nat × Cell)}, List.lookup i l = some c → (i, c) ∈ l
  | [], h => by cases h
  | (k, e) :: r, h => by
    rw [List.lookup_cons] at h
    by_cases hk : i = k
    · subst hk
      simp only [beq_self_eq_true] at h
      cases h
      exact List.mem_cons_self
    · have ne : (i == k) = false := by simpa using hk
      rw [ne] at h
      exact List.mem_cons_of_mem _ (lookup_mem h)
theorem get_mem {S : Sto} {i : Nat} {c : Cell} (h : S.get i = some c) : (i, c) ∈ S.cs := lookup_mem h
theorem get_filter_lt {n0 i : Nat} {c : Cell} : ∀ {l : List (Nat × Cell)}, List.lookup i (l.filter fun p => decide (p.1 < n0)) = some c → i < n0 := fun {l} h => by
  have m := lookup_mem h
  exact of_decide_eq_true (List.mem_filter.mp m).2
/-- what was made is let go, the ids with it -/
theorem StOk.cut {w0 w : Wd} {Fr H : Hp} {S : Sto} {n0 : Nat} (s : StOk g w Fr H S) (hs : ∀ i a, w0.al i = some a → i < n0) (l : w0.le w) (hc : S.cs.all (fun p => !decide (p.1 < n0) || p.2.noOwn n0) = true) :
    StOk g ⟨fun i => if i < n0 then w.al i else none, w.H0⟩ Fr H ⟨n0, S.cs.filter fun p => decide (p.1 < n0)⟩ ∧ w0.le ⟨fun i => if i < n0 then w.al i else none, w.H0⟩ := by
  have alE : ∀ {i a}, (if i < n0 then w.al i else none) = some a → i < n0 ∧ w.al i = some a := fun {i a} h => by
    split at h
    · rename_i z; exact ⟨z, h⟩
    · cases h
  refine ⟨⟨s.h0, s.fr, s.dj, fun i a h => (alE h).1, fun i c e => ?_, fun i j c d a e1 e2 h1 h2 => ?_, fun i c e => ?_⟩, ⟨fun i a h => ?_, l.hp⟩⟩
  · have hi : i < n0 := get_filter_lt e
    have e' : S.get i = some c := lookup_filter (fun _ _ => rfl) e
    obtain ⟨a, h1, h2, h3, h4⟩ := s.live i c e'
    refine ⟨a, by show (if i < n0 then w.al i else none) = some a; rw [if_pos hi]; exact h1, h2, h3, ?_⟩
    have z := List.all_eq_true.mp hc _ (get_mem e')
    simp only [decide_eq_true hi, Bool.not_true, Bool.false_or] at z
    cases c with
    | lst xs => obtain ⟨vs, q1, q2⟩ := h4; exact ⟨vs, q1, reps_cut z q2⟩
    | dct kvs => obtain ⟨vs, q1, q2⟩ := h4; exact ⟨vs, q1, paired_cut z q2⟩
  · exact s.inj i j c d a (lookup_filter (fun _ _ => rfl) e1) (lookup_filter (fun _ _ => rfl) e2) (alE h1).2 (alE h2).2
  · exact of_decide_eq_true (List.mem_filter.mp e).2
  · show (if i < n0 then w.al i else none) = some a
    rw [if_pos (hs i a h)]; exact l.al _ _ h
/-- what is wanted behind a def's end -/
theorem post_ret {Wx : WX} {w0 w' : Wd} {Fr H' : Hp} {S S' : Sto} {σ : L2.St} {d : D} {v : V} {Q : V → Hp → Prop} (hs : ∀ i a, w0.al i = some a → i < S.nx) (h : Post g Wx (Rg g) w0 Fr σ (retD S.nx d S') Q) (l : w0.le w') (s' : StOk g w' Fr H' S') (r : Rg g w' d v) : Q v H' := by
  unfold retD at h
  split at h
  · exact h w' H' v l s' r
  · split at h
    · rename_i hc
      rw [Bool.and_eq_true] at hc
      obtain ⟨s2, l2⟩ := s'.cut hs l hc.2
      exact h _ H' v l2 s2 (rep_cut hc.1 r)
    · exact h w' H' v l (StOk.let_go s' (by intros; rfl)) r
theorem env_start (gx : g.exs = none) {w : Wd} {md : MDef} {N : List Str} {ds : List D} {vs : List V} (hN : N.length = md.ns) (r : Rgs g w ds vs) : EnvOk g w (startD md ds) (L2.start N vs) := by
  have hl := r.length
  refine ⟨?_, fun i d h => ?_, fun j a z => by rw [gx] at z; cases z⟩
  · unfold startD L2.start
    rw [List.length_append, List.length_append, List.length_map, List.length_map, List.length_replicate, List.length_replicate, hN, hl]
  · unfold startD at h
    unfold L2.start
    by_cases hi : i < ds.length
    · rw [List.getElem?_append_left (by rw [List.length_map]; exact hi), List.getElem?_map] at h
      rw [List.getElem?_append_left (by rw [List.length_map, ← hl]; exact hi), List.getElem?_map]
      cases e : ds[i]? with
      | none => rw [e] at h; cases h
      | some d' =>
        rw [e] at h
        cases h
        obtain ⟨v, h1, h2⟩ := r.get e
        exact ⟨v, by rw [h1]; rfl, h2⟩
    · rw [List.getElem?_append_right (by rw [List.length_map]; omega)] at h
      rw [List.getElem?_replicate] at h
      split at h <;> cases h
/-- a def of the table, as Cmp has read it -/
structure DefAt (g : G) (ge : Str → Option GV) (mt pr : Nat → Str → Option Nat) (f : Nat) (fd : FuncData) (ps : List Str) : Prop where
  ex : ∃ (x qual : Str) (st : Stmt) (md : MDef) (k : Nat) (cc : CC) (dv : List V) (kw : List (Str × V)), FunD g.K x qual (defArgs st) (defBody st) (defScope st) dv kw (g.fa f) fd ∧ g.T f = some md ∧ Binds g.K fd ps [] ∧ FnScope cc.N ps (defScope st) ∧ ps.length = md.np ∧ cc.N.length = md.ns ∧
    cAll (cS k cc) (defBody st) = some md.body ∧ cc.ge = ge ∧ cc.sc = defScope st ∧ cc.blk = false ∧ cc.hot = false ∧ cc.ex = none ∧ (∀ k, k ∈ cc.xs → ∃ x, ge x = some (.exc k)) ∧ cc.mt = mt ∧ cc.pr = pr
def DefOk (g : G) (ge : Str → Option GV) (mt pr : Nat → Str → Option Nat) (f : Nat) : Prop := ∃ fd ps, DefAt g ge mt pr f fd ps
/-- self.f = e, one field behind the other -/
def cSets (F : Expr → Option ME) (nm : Str) : List Str → List Stmt → Option (List ME)
  | [], [] => some []
  | f :: fs, .Assign [.Attribute (.Name x _) a _] e _ :: r => if x = nm ∧ a = f ∧ (lcOf e).isNone = true then match F e, cSets F nm fs r with
      | some m, some ms => some (m :: ms)
      | _, _ => none
    else none
  | _, _ => none
/-- a statement that returns nothing -/
def plainS : MS → Bool
  | .expr _ => true
  | .ite _ [.rais _] [] => true
  | _ => false
theorem plain_rt {C : Nat → List D → Sto → R D} {s : MS} (h : plainS s = true) {ρ : Env} {S S' : Sto} {d : D} : exec C s ρ S ≠ .ok (.rt d) S' := by
  intro e
  unfold plainS at h
  split at h
  · rename_i x
    simp only [exec] at e
    cases q : ev C x ρ S <;> rw [q] at e <;> cases e
  · rename_i x k
    simp only [exec] at e
    cases q : evT C x ρ S with
    | ok b S1 => rw [q] at e; cases b <;> cases e
    | exc _ _ => rw [q] at e; cases e
    | bad => rw [q] at e; cases e
  · cases h
theorem plains_rt {C : Nat → List D → Sto → R D} : ∀ {ss : List MS}, ss.all plainS = true → ∀ {ρ : Env} {S S' : Sto} {d : D}, execs C ss ρ S ≠ .ok (.rt d) S'
  | [], _, _, _, _, _, e => by simp only [execs] at e; cases e
  | s :: r, h, ρ, S, S', d, e => by
    rw [List.all_cons, Bool.and_eq_true] at h
    simp only [execs] at e
    cases q : exec C s ρ S with
    | bad => rw [q] at e; cases e
    | exc _ _ => rw [q] at e; cases e
    | ok fl S1 =>
      rw [q] at e
      cases fl with
      | nx ρ1 => exact plains_rt h.2 e
      | rt d => exact plain_rt h.1 q
      | bk _ => cases e
      | ct _ => cases e
      | ex _ _ => cases e
/-- an __init__ of the text, as Cmp has read it: what goes ahead, then the fields -/
structure IDefAt (g : G) (ge : Str → Option GV) (mt pr : Nat → Str → Option Nat) (k f : Nat) (fd : FuncData) (ps : List Str) : Prop where
  ex : ∃ (x qual : Str) (st : Stmt) (md : MDef) (kk : Nat) (cc : CC) (dv : List V) (kw : List (Str × V)) (nm : Str) (ps' : List Str) (pre sets : List Stmt) (mp : List MS) (ms : List ME), mp.all plainS = true ∧ FunD g.K x qual (defArgs st) (defBody st) (defScope st) dv kw (g.fa f) fd ∧ g.T f = some md ∧ Binds g.K fd ps [] ∧ FnScope cc.N ps (defScope st) ∧ ps.length = md.np ∧ cc.N.length = md.ns ∧
    defBody st = pre ++ sets ∧ cAll (cS kk cc) pre = some mp ∧ cSets (cE kk cc) nm (flds k) sets = some ms ∧ md.body = mp ++ [.ret (some (.new k ms))] ∧ cc.ge = ge ∧ cc.sc = defScope st ∧ cc.blk = false ∧ cc.hot = false ∧ cc.ex = some (nm, 0, 999) ∧ (∀ k, k ∈ cc.xs → ∃ x, ge x = some (.exc k)) ∧ cc.mt = mt ∧ cc.pr = pr ∧
    ps = nm :: ps' ∧ cc.N[0]? = some nm ∧ Vis (defScope st) nm ∧ badN nm = false ∧ ClsF g.K (cAd g.fa k) k
/-- such a def of the table, as Cmp has read it for the class k -/
structure XDefAt (g : G) (ge : Str → Option GV) (f k : Nat) (fd : FuncData) (ps : List Str) : Prop where
  ex : ∃ (x qual : Str) (st : Stmt) (md : MDef) (kk : Nat) (cc : CC) (nm : Str), FunD g.K x qual (defArgs st) (defBody st) (defScope st) [] [] (g.fa f) fd ∧ g.T (xnum f k) = some md ∧ Binds g.K fd ps [] ∧ FnScope cc.N ps (defScope st) ∧ ps = [nm] ∧ md.np = 0 ∧ cc.N.length = md.ns ∧
    cAll (cS kk cc) (defBody st) = some md.body ∧ cc.ge = noFn ge ∧ cc.sc = defScope st ∧ cc.blk = false ∧ cc.hot = true ∧ cc.ex = some (nm, 0, k) ∧ cc.N[0]? = some nm ∧ Vis (defScope st) nm ∧ badN nm = false ∧ (∀ j, j ∈ cc.xs → ∃ x, cc.ge x = some (.exc j)) ∧ ∃ y, ge y = some (.exc k)
/-- all that Cmp knows of a text -/
structure Tab (g : G) (ge : Str → Option GV) (mt pr : Nat → Str → Option Nat) : Prop where
  gx : g.exs = none
  hge : GeOk g ge
  tx : ∀ x f, ge x = some (.xfn f) → ∀ k y, ge y = some (.exc k) → ∃ fd ps, XDefAt g ge f k fd ps
  tb : ∀ x f, ge x = some (.fn f) → DefOk g ge mt pr f
  tm : ∀ k m f, mt k m = some f → MetF g.K (cAd g.fa k) m (g.fa f) ∧ DefOk g ge mt pr f
  tp : ∀ k m f, pr k m = some f → (∃ p, PropOf g.K (cAd g.fa k) m p (g.fa f)) ∧ DefOk g ge mt pr f
  ti : ∀ x k f, ge x = some (.cls k f) → ∃ fd ps, IDefAt g ge mt pr k f fd ps
theorem spf_len {n f : Nat} {md : MDef} (hT : g.T f = some md) {vs : List V} {H : Hp} {Q : VK} {E : XK} (h : SpF g n f vs H Q E) : vs.length = md.np := by
  obtain ⟨w, Fr, S, ds, hs, hr, hp⟩ := h
  cases n with
  | zero => exact False.elim hp
  | succ n =>
    simp only [callF, hT] at hp
    split at hp
    · rename_i hl
      rw [← hr.length]; exact hl
    · exact False.elim hp
/-- isinstance of an exception that stands among the pins -/
theorem call_isP {X : Cx} {D : Addr} {q : Addr × Obj} (C : ExcC X.K D) (hz : Zc (.ref D) none q.2) (hf : ∃ vs, q.2.data = .fields vs) (hm : q ∈ X.pn) : CallR X (.builtin "isinstance") (rIsE X.K D q.1) := by
  intro pins s σ H xs us Q J rv z
  obtain ⟨d, dv, b, rfl, hd, ek, fin⟩ := z
  cases rv with
  | cons r1 rr =>
  cases rr with
  | cons r2 rr =>
  cases rr
  cases r1
  obtain rfl := hd _ r2
  have gp := (J.pin q (List.mem_append_left _ hm)).1
  have at_ : PySem.W.InstAt s.heap q.1 q.2 D none := by
    obtain ⟨w, hw⟩ := hf
    obtain ⟨ad, oc, od, oda, osl⟩ := q
    obtain ⟨z1, z2⟩ := hz
    dsimp only at z1 z2 hw gp
    subst z1 z2 hw
    exact ⟨gp, rfl, rfl, trivial⟩
  refine PySem.W.kia_one (PySem.W.handS_kitx_exc C.hg C.hk C.hs C.hd C.ha C.hn C.ht C.hm) J.kIn at_ ek (fun y => nomatch y) fun tk => ?_
  exact ⟨.bl b, H, J.kept (t' := tk) fun _ _ y => y, rfl, fin⟩
/-- THE RULE for a def that is handed the exception in hand -/
theorem fnx_of {CX : CXT} {P : Program} {w : World} {K : PySem.W.Frag} {mg : Str → Option Value} {base : Heap} {k : Nat} {f D : Addr} {nm qual : Str} {prm : Arguments} {body : List Stmt} {sc : Scope} {dV kV doc pm cdv ct oc : Value} {an od : Option Addr}
    {osl : Array (Option Value)} {N ps : List Str} {sp : Sp} (lk : K.lookup f = some ⟨oc, od, .func (PySem.W.fnOf nm qual prm body sc dV kV doc pm an cdv ct), osl⟩) (hcd : PySem.W.codeIn K cdv qual = true) (S : FnScope N ps sc) (ln : ∀ vs H Q E, sp vs H Q E → vs.length = ps.length)
    (hb : ∀ (A : Around) (outer : List PySem.Env) (s : Shared) (H : Hp) (vs : List V) (Q : VK) (E : XK) (p : Addr × Obj), L2H.Hot1 A p → L2H.RoomH k (A.deeper (envOfC qual sc s.heap.objs.size f cdv)) → Zc (.ref D) none p.2 → vs = [V.ref p.1] → sp vs H Q E →
      ∃ t, PSs (L2H.cxH CX P w K mg base N qual sc f cdv A outer s H E p) body t ∧ t { nx := fun _ H' => Q .non H', rt := Q } (L2.start N vs) H) :
    FnX P w K mg base CX (k + 1) f (PySem.W.fnOf nm qual prm body sc dV kV doc pm an cdv ct) ps D sp := by
  constructor
  · exact ln
  intro A outer s H args us vs Q E p rm hot pk hz hv e0 bt rv q
  have lv := ln _ _ _ _ q
  have kin : K.In s.heap := e0.mod.kin.keeps fun b o z => (e0.bs b o z).1
  have nol : s.heap.NoLimit := e0.mod.nolimit.keeps fun b o z => (e0.bs b o z).1
  have kinds : ∀ y ∈ ps.zip us, sc.names.lookup y.1 = some .local ∨ (sc.names.lookup y.1 = some .cell ∧ ((cellsFrom (s.heap.objs.size + 1) sc.names []).lookup y.1).isSome = true) := fun y hy => by
    have hm : y.1 ∈ ps := (List.of_mem_zip (a := y.1) (b := y.2) hy).1
    exact (S.par y.1 hm).imp id fun z => ⟨z, PySem.W.cellsFrom_some _ _ _ (.inl z)⟩
  refine codeAny_call_function rm.depth (kin _ _ lk) rfl S.co S.gen rfl (PySem.W.codeRec_of kin hcd) (bt _ _ _ _ (wpAny_newFunctionEnv_cells S.kind kinds fun env he s1 x => ?_))
  cases he
  refine ⟨nol.keeps x.toInCall.keep, codeAny_func ?_⟩
  obtain ⟨t, ht, hq⟩ := hb A outer s H vs Q E p hot (rm.deeper _) hz hv q
  have J0 : Inv (L2H.cxH CX P w K mg base N qual sc f cdv A outer s H E p) [] (L2.start N vs) H s1 := L2H.inv_startH S pk e0 lv rv x
  refine wpAny_mono (ht.run [] s1 (L2.start N vs) H _ J0 hq) (fun fl s2 z => ?_) (fun _ _ z => z)
  rcases fl with _ | _ | _ | u
  all_goals first
    | (obtain ⟨σ2, H2, J2, z⟩ := z
       exact ⟨V.non, H2, J2.os, J2.bare, J2.base, J2.hok, rfl, z⟩)
    | (obtain ⟨v, σ2, H2, J2, r2, z⟩ := z
       exact ⟨v, H2, J2.os, J2.bare, J2.base, J2.hok, r2, z⟩)
    | (obtain ⟨_, _, _, z⟩ := z
       exact False.elim z)
theorem fnx_at {ge : Str → Option GV} (hge : GeOk g ge) (tb : ∀ x f, ge x = some (.xfn f) → ∀ k y, ge y = some (.exc k) → ∃ fd ps, XDefAt g ge f k fd ps) : ∀ n f k fd ps, XDefAt g ge f k fd ps → FnX g.P g.w g.K g.mg g.base (L2N.CX g.P g.w) n (g.fa f) fd ps (g.ca k) (SpX g n (xnum f k))
  | 0, f, k, fd, ps, D => by
    obtain ⟨x, qual, st, md, kk, cc, nm, F, hT, hb, sc, hps, hnp, hns, hC, e1, e2, e3, e4, e5, e6, e7, e8, e9, y, e10⟩ := D.ex
    refine ⟨fun vs H Q E h => by rw [h.1, hps]; rfl, fun A outer s H args us vs Q E p _ _ _ _ _ _ _ _ h => ?_⟩
    obtain ⟨_, w, Fr, S, _, hp⟩ := h
    exact False.elim hp
  | n + 1, f, k, fd, ps, D => by
    obtain ⟨x, qual, st, md, kk, cc, nm, F, hT, hb, sc, hps, hnp, hns, hC, e1, e2, e3, e4, e5, e6, e7, e8, e9, y, e10⟩ := D.ex
    have lo := fnx_at hge tb n
    obtain ⟨oc, od, dV, kV, doc, pm, an, cdv, ct, osl, rfl, lk, hcd, _, _⟩ := F.ex
    refine fnx_of lk hcd sc (fun vs H Q E h => by rw [h.1, hps]; rfl) fun A outer s H vs Q E p hot rm hz hv hsp => ?_
    have xc := (hge.exc y k e10).2.2.2.2.2
    have hot' : L2H.Hot1 (A.deeper (envOfC qual (defScope st) s.heap.objs.size (g.fa f) cdv)) p := ⟨hot.1, hot.2⟩
    have ho : XOk { g with exs := some (0, p.1) } n (fun cls d _ H => E cls d H) cc (L2H.cxH (L2N.CX g.P g.w) g.P g.w g.K g.mg g.base cc.N qual (defScope st) (g.fa f) cdv A outer s H E p) :=
      { hP := rfl, hw := rfl, hK := rfl, hmg := rfl, hbase := rfl, hN := rfl, nd := sc.nd, hsc := e2.symm, kind := by rw [e2]; exact sc.kind, calm := fun z => (by rw [e4] at z; cases z), hotC := fun _ => ⟨p, hot', List.mem_cons_self⟩, room := fun z => (by rw [e4] at z; cases z), mts := fun z => (by rw [e4] at z; cases z), prs := fun z => (by rw [e4] at z; cases z), ini := fun z => (by rw [e4] at z; cases z),
        units := by have := rm.un; show (A.deeper _).units + 100 < _; omega
        pass := L2.passes_of rfl, tk := L2N.takes_of rfl rfl rfl rfl, wr := fun _ => rfl, ge := by rw [e1]; exact noFn_ge hge
        fns := fun z f' e => by
          rw [e1] at e
          unfold noFn at e
          split at e
          · cases e
          · rename_i hne; exact absurd e (hne f')
        exn := fun j b e => by
          cases e
          exact ⟨nm, k, e5, e6⟩
        isx := fun _ nm' j k' _ e => by
          rw [e5] at e
          cases e
          refine ⟨p.1, rfl, e6, by rw [e2]; exact e7, e8, ⟨y, by rw [e1]; exact noFn_exc e10⟩, ?_⟩
          obtain ⟨_, vs', q1, _⟩ := hot
          exact call_isP xc hz ⟨vs', q1⟩ List.mem_cons_self
        xs := e9
        xf := fun z f' e k' y' e' => by
          rw [e1] at e e'
          obtain ⟨fd', ps', D'⟩ := tb z f' (noFn_keep e) k' y' (noFn_keep e')
          refine ⟨fd', ps', ?_, lo f' k' fd' ps' D'⟩
          obtain ⟨_, _, _, _, _, _, _, _, _, hb', _⟩ := D'.ex
          exact hb'
        px := fun _ nm' j k' _ e => by
          rw [e5] at e
          cases e
          exact ⟨p, List.mem_cons_self, hot', rfl, hz⟩
        rmH := fun _ => rm
        fr := fun _ => ⟨rfl, rfl⟩ }
    refine ⟨_, sss_all (goodS kk { g with exs := some (0, p.1) }) ho hC, ?_⟩
    obtain ⟨_, w, Fr, S, hs, hp⟩ := hsp
    simp only [callF, hT] at hp
    split at hp
    · rename_i hl
      refine ⟨w, Fr, startD md [], S, ⟨hs.h0, hs.fr, hs.dj, hs.lt, hs.live, hs.inj, hs.lv⟩, ⟨?_, ?_, ?_⟩, ?_⟩
      · unfold startD L2.start
        rw [hv]
        have l0 : 0 < cc.N.length := (List.getElem?_eq_some_iff.mp e6).1
        simp
        omega
      · intro i d e
        unfold startD at e
        rw [List.map_nil, List.nil_append, List.getElem?_replicate] at e
        split at e <;> cases e
      · intro j a e
        cases e
        rw [hv]
        rfl
      · cases er : execs (callF g.T n) md.body (startD md []) S with
        | bad => rw [er] at hp; exact hp
        | exc c' S' => rw [er] at hp; exact hp
        | ok fl S' =>
          rw [er] at hp
          simp only [R.nox, R.bind] at hp
          cases fl with
          | nx ρ' => exact fun w' H' σ' l s' e' => post_ret (g := { g with exs := none }) hs.lt hp l ⟨s'.h0, s'.fr, s'.dj, s'.lt, s'.live, s'.inj, s'.lv⟩ .non
          | rt d => exact fun w' H' v l s' r => post_ret (g := { g with exs := none }) hs.lt hp l ⟨s'.h0, s'.fr, s'.dj, s'.lt, s'.live, s'.inj, s'.lv⟩ r
          | bk ρ' => exact False.elim hp
          | ct ρ' => exact False.elim hp
          | ex k ρ' =>
            intro w' H' σ' l s' e'
            exact hp w' H' l (StOk.back (g := { g with exs := none }) ⟨s'.h0, s'.fr, s'.dj, s'.lt, s'.live, s'.inj, s'.lv⟩ _)
    · exact False.elim hp
/-- THE RULE for a def by its body, with the room that a built-in's calls want -/
theorem fnp_of {CX : CXT} {P : Program} {w : World} {K : PySem.W.Frag} {mg : Str → Option Value} {base : Heap} {k : Nat} {f : Addr} {nm qual : Str} {prm : Arguments} {body : List Stmt} {sc : Scope} {dV kV doc pm cdv ct oc : Value} {an od : Option Addr}
    {osl : Array (Option Value)} {N ps : List Str} {sp : Sp} (lk : K.lookup f = some ⟨oc, od, .func (PySem.W.fnOf nm qual prm body sc dV kV doc pm an cdv ct), osl⟩) (hcd : PySem.W.codeIn K cdv qual = true) (S : FnScope N ps sc) (ln : ∀ vs H Q E, sp vs H Q E → vs.length = ps.length)
    (hb : ∀ (A : Around) (outer : List PySem.Env) (s : Shared) (H : Hp) (vs : List V) (Q : VK) (E : XK), ObX.RoomP k (A.deeper (envOfC qual sc s.heap.objs.size f cdv)) → sp vs H Q E →
      ∃ t, PSs (cxOf CX P w K mg base N qual sc f cdv A outer s H E) body t ∧ t { nx := fun _ H' => Q .non H', rt := Q } (L2.start N vs) H) :
    FnOk P w K mg base CX (k + 1) f (PySem.W.fnOf nm qual prm body sc dV kV doc pm an cdv ct) ps sp := by
  refine ⟨ln, fun A outer s H args us vs Q E rm e0 bt rv q => ?_⟩
  have lv := ln _ _ _ _ q
  have kin : K.In s.heap := e0.mod.kin.keeps fun b o z => (e0.bs b o z).1
  have nol : s.heap.NoLimit := e0.mod.nolimit.keeps fun b o z => (e0.bs b o z).1
  have kinds : ∀ y ∈ ps.zip us, sc.names.lookup y.1 = some .local ∨ (sc.names.lookup y.1 = some .cell ∧ ((cellsFrom (s.heap.objs.size + 1) sc.names []).lookup y.1).isSome = true) := fun y hy => by
    have hm : y.1 ∈ ps := (List.of_mem_zip (a := y.1) (b := y.2) hy).1
    exact (S.par y.1 hm).imp id fun z => ⟨z, PySem.W.cellsFrom_some _ _ _ (.inl z)⟩
  refine codeAny_call_function rm.depth (kin _ _ lk) rfl S.co S.gen rfl (PySem.W.codeRec_of kin hcd) (bt _ _ _ _ (wpAny_newFunctionEnv_cells S.kind kinds fun env he s1 x => ?_))
  cases he
  refine ⟨nol.keeps x.toInCall.keep, codeAny_func ?_⟩
  have rp : ObX.RoomP k (A.deeper (envOfC qual sc s.heap.objs.size f cdv)) := ⟨rm.deeper _, by have := rm.dp; show A.depth + 1 + 3 * k + 6 < _; omega, by have := rm.un; show A.units + 3 + 16 * k + 202 < _; omega⟩
  obtain ⟨t, ht, hq⟩ := hb A outer s H vs Q E rp q
  have J0 : Inv (cxOf CX P w K mg base N qual sc f cdv A outer s H E) [] (L2.start N vs) H s1 := inv_start S rm.hd e0 lv rv x
  refine wpAny_mono (ht.run [] s1 (L2.start N vs) H _ J0 hq) (fun fl s2 z => ?_) (fun _ _ z => z)
  rcases fl with _ | _ | _ | u
  all_goals first
    | (obtain ⟨σ2, H2, J2, z⟩ := z
       exact ⟨V.non, H2, J2.os, J2.bare, J2.base, J2.hok, rfl, z⟩)
    | (obtain ⟨v, σ2, H2, J2, r2, z⟩ := z
       exact ⟨v, H2, J2.os, J2.bare, J2.base, J2.hok, r2, z⟩)
    | (obtain ⟨_, _, _, z⟩ := z
       exact False.elim z)
/-- statements ahead of others -/
theorem sss_then {kk : Nat} {Wx : WX} {c : CC} {X : Cx} (ho : XOk g n Wx c X) {tail : List Stmt} {tb : TS} (hb : PSs X tail tb) : ∀ {ss : List Stmt} {ms : List MS}, cAll (cS kk c) ss = some ms →
    PSs X (ss ++ tail) (fun D σ H => ∃ w Fr ρ S, StOk g w Fr H S ∧ EnvOk g w ρ σ ∧ PostS g Wx w Fr (execs (callF g.T n) ms ρ S) { D with nx := tb D })
  | [], _, h => by
    cases h
    refine PSs.imp hb fun D σ H q => ?_
    obtain ⟨w, Fr, ρ, S, hs, he, hp⟩ := q
    exact hp w H σ (Wd.le.refl _) hs he
  | s :: r, _, h => by
    obtain ⟨m, ms, e1, e2, rfl⟩ := cAll_cons h
    refine PSs.imp (pss_cons (goodS kk g Wx c X s m ho e1) (sss_then ho hb e2)) fun D σ H q => ?_
    obtain ⟨w, Fr, ρ, S, hs, he, hp⟩ := q
    refine ⟨w, Fr, ρ, S, hs, he, ?_⟩
    have hp : PostS g Wx w Fr ((exec (callF g.T n) m ρ S).bind fun fl S1 => match fl with
      | .nx ρ1 => execs (callF g.T n) ms ρ1 S1
      | .rt d => .ok (.rt d) S1
      | .bk ρ1 => .ok (.bk ρ1) S1
      | .ct ρ1 => .ok (.ct ρ1) S1
      | .ex c ρ1 => .ok (.ex c ρ1) S1) { D with nx := tb D } := hp
    cases e : exec (callF g.T n) m ρ S with
    | ok fl S1 =>
      rw [e] at hp
      cases fl with
      | nx ρ1 => exact fun w1 H1 σ1 l1 s1 e1 => ⟨w1, Fr, ρ1, S1, s1, e1, PostS.mono l1 hp⟩
      | rt d => exact hp
      | bk ρ1 => exact hp
      | ct ρ1 => exact hp
      | ex c ρ1 => exact hp
    | exc c S1 => rw [e] at hp; exact hp
    | bad => rw [e] at hp; exact hp
theorem putF_app {f : Str} {v : V} : ∀ {N : List Str} {vs : List V}, f ∉ N → vs.length = N.length → L2.putF f v (N.zip vs) = (N ++ [f]).zip (vs ++ [v])
  | [], [], _, _ => rfl
  | [], _ :: _, _, h => by cases h
  | _ :: _, [], _, h => by cases h
  | y :: r, u :: vs, h, hl => by
    rw [List.mem_cons, not_or] at h
    show (if y = f then (y, v) :: r.zip vs else (y, u) :: L2.putF f v (r.zip vs)) = (y, u) :: (r ++ [f]).zip (vs ++ [v])
    rw [if_neg fun z => h.1 z.symm, putF_app h.2 (Nat.succ.inj hl)]
/-- the fields are set -/
theorem sets_ok {kk : Nat} {Wx : WX} {c : CC} {X : Cx} (ho : XOk g n Wx c X) {k : Nat} {nm : Str} (cf : ClsF X.K (cAd g.fa k) k) (h0 : c.N[0]? = some nm) (hv : Vis c.sc nm) (hbad : badN nm = false) : ∀ {fs : List Str} {ss : List Stmt} {ms : List ME} (dn : List Str), cSets (cE kk c) nm fs ss = some ms → (∀ f ∈ fs, f ∈ flds k) → (dn ++ fs).Nodup → (dn ++ fs).length < 900 →
    PSs X ss (fun D σ H => ∃ x dx w Fr ρ S ds vs, σ[0]? = some (some (V.ref x)) ∧ Fr x = none ∧ StOk g w (upd Fr x (.ins (cAd g.fa k) dx (dn.zip vs))) H S ∧ vs.length = dn.length ∧ EnvOk g w ρ σ ∧ Rgs g w ds vs ∧
      match evs (callF g.T n) ms ρ S with
      | .ok xs S' => ∀ w' H' us, w.le w' → StOk g w' (upd Fr x (.ins (cAd g.fa k) dx ((dn ++ fs).zip us))) H' S' → Rgs g w' (ds ++ xs) us → D.nx σ H'
      | _ => False)
  | [], [], _, dn, h, _, _, _ => by
    cases h
    refine PSs.imp pss_nil fun D σ H q => ?_
    obtain ⟨x, dx, w, Fr, ρ, S, ds, vs, h1, h2, hs, hl, he, hr, q⟩ := q
    simp only [evs] at q
    refine q w H vs (Wd.le.refl _) ?_ ?_
    · rw [List.append_nil]; exact hs
    · rw [List.append_nil]; exact hr
  | [], _ :: _, _, _, h, _, _, _ => by cases h
  | f :: fs, [], _, dn, h, _, _, _ => by cases h
  | f :: fs, s :: r, ms, dn, h, hm, nd, hlen => by
    unfold cSets at h
    split at h
    · rename_i h1 h2; cases h1
    · rename_i f' fs' x p a p2 e p3 r' h1 h2
      cases h1; cases h2
      split at h
      · rename_i hc
        obtain ⟨rfl, rfl, hc⟩ := hc
        split at h
        · rename_i m ms' e1 e2
          cases h
          have hN := ho.hN
          obtain ⟨b1, b2, _⟩ := badN_ok (x := x) (by rw [hbad]; simp)
          have hsw : swapsWith e (some (.Attribute (.Name x p) a p2)) p3.line X.env = pure false := swaps_no (by simpa using hc) e1 _ _ _
          have nd' : (dn ++ [a] ++ fs).Nodup := by rw [List.append_assoc]; exact nd
          have hna : a ∉ dn := fun z => (List.nodup_append.mp nd).2.2 a z a List.mem_cons_self rfl
          refine PSs.imp (pss_cons (ps_fld (pe_var (i := 0) (by rw [hN]; exact h0) (by rw [ho.hsc]; exact hv) b1 b2) (good_all kk Wx c X e m ho e1).1 hsw) (sets_ok ho cf h0 hv hbad (dn ++ [a]) e2 (fun f hf => hm f (List.mem_cons_of_mem _ hf)) nd' (by rw [List.append_assoc]; exact hlen))) fun D σ H q => ?_
          obtain ⟨x', dx, w, Fr, ρ, S, ds, vs, h1, h2, hs, hl, he, hr, q⟩ := q
          simp only [evs] at q
          refine ⟨w, _, ρ, S, hs, he, ?_⟩
          cases ee : ev (callF g.T n) m ρ S with
          | bad => rw [ee] at q; exact q
          | exc k2 S1 => rw [ee] at q; exact q.elim
          | ok d S1 =>
            rw [ee] at q
            simp only [R.bind] at q
            intro w1 H1 vx l1 hs1 rx
            refine ⟨V.ref x', h1, x', _, dx, _, rfl, hs1.fr _ _ upd_same, cf.cls, cf.na _ (hm _ List.mem_cons_self), ?_, ?_⟩
            · rw [List.length_zip]
              rw [List.length_append] at hlen
              omega
            · rw [putF_app hna hl]
              refine ⟨x', dx, w1, Fr, ρ, S1, ds ++ [d], vs ++ [vx], h1, h2, hs1.frameSet h2, by rw [List.length_append, List.length_append, hl]; rfl, he.mono l1, Reps.append (hr.mono l1) (.cons rx .nil), ?_⟩
              cases ee2 : evs (callF g.T n) ms' ρ S1 with
              | bad => rw [ee2] at q; exact q
              | exc k2 S2 => rw [ee2] at q; exact q
              | ok xs S2 =>
                rw [ee2] at q
                dsimp only at q ⊢
                intro w' H' us l2 s2 r2
                refine q w' H' us (l1.trans l2) ?_ ?_
                · rw [List.append_assoc] at s2; exact s2
                · rw [List.append_assoc] at r2; exact r2
        · cases h
      · cases h
    · cases h
theorem spi_len {n k f : Nat} {md : MDef} (hT : g.T f = some md) {vs : List V} {H : Hp} {Q : VK} {E : XK} (h : SpI g n k f vs H Q E) : vs.length = md.np := by
  obtain ⟨x, dx, w, Fr, S, ds, vs', rfl, _, hs, hr, hp⟩ := h
  cases n with
  | zero => exact False.elim hp
  | succ n =>
    simp only [callF, hT] at hp
    split at hp
    · rename_i hl
      rw [List.length_cons, ← hr.length]; exact hl
    · exact False.elim hp
theorem execs_app {C : Nat → List D → Sto → R D} {b : List MS} : ∀ {a : List MS} {ρ : Env} {S : Sto}, execs C (a ++ b) ρ S = (execs C a ρ S).bind fun fl S1 => match fl with
    | .nx ρ1 => execs C b ρ1 S1
    | .rt d => .ok (.rt d) S1
    | .bk ρ1 => .ok (.bk ρ1) S1
    | .ct ρ1 => .ok (.ct ρ1) S1
    | .ex c ρ1 => .ok (.ex c ρ1) S1
  | [], ρ, S => by simp only [List.nil_append, execs, R.bind]
  | s :: a, ρ, S => by
    simp only [List.cons_append, execs]
    cases exec C s ρ S with
    | bad => rfl
    | exc _ _ => rfl
    | ok fl S1 =>
      cases fl <;> first
        | rfl
        | (simp only [R.bind]
           exact execs_app)
theorem envx {w : Wd} {md : MDef} {N : List Str} {ds : List D} {xa : Addr} {vs : List V} (hN : N.length = md.ns) (r : Rgs g w ds (.ref xa :: vs)) : EnvOk { g with exs := some (0, xa) } w (startD md ds) (L2.start N (.ref xa :: vs)) := by
  have z := env_start (g := { g with exs := none }) rfl (md := md) hN r
  exact ⟨z.len, z.at_, fun j a e => by cases e; rfl⟩
mutual
theorem fn_at {ge : Str → Option GV} {mt pr : Nat → Str → Option Nat} (tb : Tab g ge mt pr) : ∀ n f, DefOk g ge mt pr f → FnAt g n f
  | n, f, ⟨fd, ps, D⟩ => ⟨fd, ps, let ⟨_, _, _, _, _, _, _, _, _, _, hb, _⟩ := D.ex; hb, fn_at_fd tb n f fd ps D⟩
termination_by n => (n, 1)
theorem ini_at {ge : Str → Option GV} {mt pr : Nat → Str → Option Nat} (tb : Tab g ge mt pr) : ∀ n k f fd ps, IDefAt g ge mt pr k f fd ps → FnOk g.P g.w g.K g.mg g.base (L2N.CX g.P g.w) n (g.fa f) fd ps (SpI g n k f)
  | 0, k, f, fd, ps, D => by
    obtain ⟨x, qual, st, md, kk, cc, dv, kw, nm, ps', pre, sets, mp, ms, hpl, F, hT, hb, sc, hnp, _⟩ := D.ex
    exact ⟨fun vs H Q E h => by rw [spi_len hT h, hnp], fun A outer s H args us vs Q E hr e0 hb r h => by
      obtain ⟨_, _, w, Fr, S, ds, _, _, _, _, _, hp⟩ := h
      exact False.elim hp⟩
  | n + 1, k, f, fd, ps, D => by
    obtain ⟨x, qual, st, md, kk, cc, dv, kw, nm, ps', pre, sets, mp, ms, hpl, F, hT, hb, sc, hnp, hns, hB, hC, hS, hM, e1, e2, e3, e4, e5, e6, e7, e8, eps, h0, hv, hbad, cf⟩ := D.ex
    have lo := fn_at tb n
    have li := ini_at tb n
    obtain ⟨oc, od, dV, kV, doc, pm, an, cdv, ct, osl, rfl, lk, hcd, _, _⟩ := F.ex
    refine fnp_of lk hcd sc (fun vs H Q E h => by rw [spi_len hT h, hnp]) fun A outer s H vs Q E hr hsp => ?_
    have ho : ∀ xa : Addr, XOk { g with exs := some (0, xa) } n (fun cls d _ H => E cls d H) cc (cxOf (L2N.CX g.P g.w) g.P g.w g.K g.mg g.base cc.N qual (defScope st) (g.fa f) cdv A outer s H E) :=
      fun xa =>
      { hP := rfl, hw := rfl, hK := rfl, hmg := rfl, hbase := rfl, hN := rfl, nd := sc.nd, hsc := e2.symm, kind := by rw [e2]; exact sc.kind, calm := fun _ => rfl, room := fun _ => hr, pass := L2.passes_of rfl, tk := L2N.takes_of rfl rfl rfl rfl,
        wr := fun _ => rfl, ge := by rw [e1]; exact geOk_in tb.hge, fns := fun y f' z => fnAt_in (lo f' (tb.tb y f' (by rw [← e1]; exact z))),
        hotC := fun z => (by rw [e4] at z; cases z), units := room100 hr.rm, exn := fun j a z => (by cases z; exact ⟨nm, 999, e5, h0⟩), isx := fun _ nm j k hk9 z => (by rw [e5] at z; cases z; exact absurd hk9 (by decide)), xs := fun k hk => (by rw [e1]; exact e6 k hk)
        xf := fun z f' e k' y' e' => by
          rw [e1] at e e'
          obtain ⟨fd', ps', D'⟩ := tb.tx z f' e k' y' e'
          refine ⟨fd', ps', ?_, fnx_at tb.hge tb.tx n f' k' fd' ps' D'⟩
          obtain ⟨_, _, _, _, _, _, _, _, _, hb', _⟩ := D'.ex
          exact hb'
        px := fun _ nm j k hk9 z => (by rw [e5] at z; cases z; exact absurd hk9 (by decide)), rmH := fun z => (by rw [e4] at z; cases z), fr := fun _ => ⟨rfl, rfl⟩
        mts := fun _ k' m f' z => (by rw [e7] at z; exact ⟨(tb.tm k' m f' z).1, fnAt_in (lo f' (tb.tm k' m f' z).2)⟩)
        prs := fun _ k' m f' z => (by rw [e8] at z; exact ⟨(tb.tp k' m f' z).1, fnAt_in (lo f' (tb.tp k' m f' z).2)⟩)
        ini := fun _ y k' f' z => (by
          rw [e1] at z
          obtain ⟨fd', ps', D'⟩ := tb.ti y k' f' z
          exact iniAt_in ⟨fd', ps', (let ⟨_, _, _, _, _, _, _, _, _, _, _, _, _, _, _, _, _, hb', _⟩ := D'.ex; hb'), li k' f' fd' ps' D'⟩) }
    rw [hB]
    have fl4 : (flds k).Nodup ∧ (flds k).length < 900 := by
      cases k with
      | zero => exact ⟨by decide +kernel, by decide⟩
      | succ k => exact ⟨(by decide +kernel : (["repeat_of", "width", "flat", "past"] : List Str).Nodup), (by decide : 4 < 900)⟩
    obtain ⟨xa, dx, w, Fr, S, ds, vs', rfl, hfx, hs, hrs, hp⟩ := hsp
    refine ⟨_, sss_then (g := { g with exs := some (0, xa) }) (ho xa) (sets_ok (g := { g with exs := some (0, xa) }) (ho xa) (k := k) (fs := flds k) cf h0 (by rw [e2]; exact hv) hbad [] hS (fun _ h => h) fl4.1 fl4.2) hC, ?_⟩
    simp only [callF, hT] at hp
    split at hp
    · rename_i hl
      have hrs2 : Rgs g w (.any :: ds) (.ref xa :: vs') := .cons (.any _) hrs
      refine ⟨w, upd Fr xa (.ins (cAd g.fa k) dx []), startD md (.any :: ds), S, st_out hs, envx hns hrs2, ?_⟩
      rw [hM, execs_app] at hp
      have post : ∀ {w' : Wd} {H' : Hp} {d : Mn.D} {S' : Sto}, w.le w' → StOk g w' Fr H' S' → Rg g w' d (.ref xa) → Post g (fun cls d _ H => E cls d H) (fun w a b => b = V.non ∧ Rg g w a (.ref xa)) w Fr [] (retD S.nx d S') Q → Q .non H' := fun {w' H' d S'} l s' r h => by
        unfold retD at h
        split at h
        · exact h w' H' .non l s' ⟨rfl, r⟩
        · split at h
          · rename_i hc
            rw [Bool.and_eq_true] at hc
            obtain ⟨s2, l2⟩ := s'.cut (fun i a z => hs.lt i a z) l hc.2
            exact h _ H' .non l2 s2 ⟨rfl, rep_cut hc.1 r⟩
          · exact h w' H' .non l (StOk.let_go s' (by intros; rfl)) ⟨rfl, r⟩
      cases er : execs (callF g.T n) mp (startD md (.any :: ds)) S with
      | bad => rw [er] at hp; exact hp
      | exc c' S' => rw [er] at hp; exact hp
      | ok fl S' =>
        rw [er] at hp
        simp only [R.nox, R.bind] at hp
        cases fl with
        | nx ρ' =>
          intro w' H' σ' l s' e'
          have hsl : σ'[0]? = some (some (V.ref xa)) := e'.ex 0 xa rfl
          have lx : w'.H0 xa = none := s'.dj xa _ upd_same
          refine ⟨xa, dx, w', Fr, ρ', S', [], [], hsl, hfx, s', rfl, e', .nil, ?_⟩
          simp only [execs, exec, ev] at hp
          cases ee : evs (callF g.T n) ms ρ' S' with
          | bad => rw [ee] at hp; exact hp
          | exc k2 S2 => rw [ee] at hp; exact hp.elim
          | ok xs S2 =>
            rw [ee] at hp
            dsimp only
            intro w2 H2 us l2 s2 r2
            obtain ⟨s3, l3⟩ := (st_in s2).frameData hfx
            exact post (l.trans (l2.trans l3)) s3 (.obj upd_same (r2.mono l3)) hp
        | rt d => exact absurd er (plains_rt hpl)
        | bk ρ' => exact False.elim hp
        | ct ρ' => exact False.elim hp
        | ex k ρ' =>
          intro w' H' σ' l s' e'
          obtain ⟨s3, l3⟩ := (st_in s').frameData hfx
          exact hp _ _ (l.trans l3) (s3.back _)
    · exact False.elim hp
termination_by n => (n, 0)
theorem fn_at_fd {ge : Str → Option GV} {mt pr : Nat → Str → Option Nat} (tb : Tab g ge mt pr) : ∀ n f fd ps, DefAt g ge mt pr f fd ps → FnOk g.P g.w g.K g.mg g.base (L2N.CX g.P g.w) n (g.fa f) fd ps (SpF g n f)
  | 0, f, fd, ps, D => by
    obtain ⟨x, qual, st, md, k, cc, dv, kw, F, hT, hb, sc, hnp, hns, hC, _⟩ := D.ex
    exact ⟨fun vs H Q E h => by rw [spf_len hT h, hnp], fun A outer s H args us vs Q E hr e0 hb r h => by
      obtain ⟨w, Fr, S, ds, _, _, hp⟩ := h
      exact False.elim hp⟩
  | n + 1, f, fd, ps, D => by
    obtain ⟨x, qual, st, md, k, cc, dv, kw, F, hT, hb, sc, hnp, hns, hC, e1, e2, e3, e4, e5, e6, e7, e8⟩ := D.ex
    have lo := fn_at tb n
    have li := ini_at tb n
    obtain ⟨oc, od, dV, kV, doc, pm, an, cdv, ct, osl, rfl, lk, hcd, _, _⟩ := F.ex
    refine fnp_of lk hcd sc (fun vs H Q E h => by rw [spf_len hT h, hnp]) fun A outer s H vs Q E hr hsp => ?_
    have ho : XOk g n (fun cls d _ H => E cls d H) cc (cxOf (L2N.CX g.P g.w) g.P g.w g.K g.mg g.base cc.N qual (defScope st) (g.fa f) cdv A outer s H E) :=
      { hP := rfl, hw := rfl, hK := rfl, hmg := rfl, hbase := rfl, hN := rfl, nd := sc.nd, hsc := e2.symm, kind := by rw [e2]; exact sc.kind, calm := fun _ => rfl, room := fun _ => hr, pass := L2.passes_of rfl, tk := L2N.takes_of rfl rfl rfl rfl,
        wr := fun _ => rfl, ge := by rw [e1]; exact tb.hge, fns := fun y f' z => lo f' (tb.tb y f' (by rw [← e1]; exact z)),
        hotC := fun z => (by rw [e4] at z; cases z), units := room100 hr.rm, exn := fun j a z => (by rw [tb.gx] at z; cases z), isx := fun _ nm j k _ z => (by rw [e5] at z; cases z), xs := fun k hk => (by rw [e1]; exact e6 k hk)
        xf := fun z f' e k' y' e' => by
          rw [e1] at e e'
          obtain ⟨fd', ps', D'⟩ := tb.tx z f' e k' y' e'
          refine ⟨fd', ps', ?_, fnx_at tb.hge tb.tx n f' k' fd' ps' D'⟩
          obtain ⟨_, _, _, _, _, _, _, _, _, hb', _⟩ := D'.ex
          exact hb'
        px := fun _ nm j k _ z => (by rw [e5] at z; cases z), rmH := fun z => (by rw [e4] at z; cases z), fr := fun _ => ⟨rfl, rfl⟩
        mts := fun _ k' m f' z => (by rw [e7] at z; exact ⟨(tb.tm k' m f' z).1, lo f' (tb.tm k' m f' z).2⟩)
        prs := fun _ k' m f' z => (by rw [e8] at z; exact ⟨(tb.tp k' m f' z).1, lo f' (tb.tp k' m f' z).2⟩)
        ini := fun _ y k' f' z => (by
          rw [e1] at z
          obtain ⟨fd', ps', D'⟩ := tb.ti y k' f' z
          exact ⟨fd', ps', (let ⟨_, _, _, _, _, _, _, _, _, _, _, _, _, _, _, _, _, hb', _⟩ := D'.ex; hb'), li k' f' fd' ps' D'⟩) }
    refine ⟨_, sss_all (goodS k g) ho hC, ?_⟩
    obtain ⟨w, Fr, S, ds, hs, hrs, hp⟩ := hsp
    simp only [callF, hT] at hp
    split at hp
    · rename_i hl
      refine ⟨w, Fr, startD md ds, S, hs, env_start tb.gx hns hrs, ?_⟩
      cases er : execs (callF g.T n) md.body (startD md ds) S with
      | bad => rw [er] at hp; exact hp
      | exc c' S' => rw [er] at hp; exact hp
      | ok fl S' =>
        rw [er] at hp
        simp only [R.nox, R.bind] at hp
        cases fl with
        | nx ρ' => exact fun w' H' σ' l s' e' => post_ret hs.lt hp l s' .non
        | rt d => exact fun w' H' v l s' r => post_ret hs.lt hp l s' r
        | bk ρ' => exact False.elim hp
        | ct ρ' => exact False.elim hp
        | ex k ρ' =>
          intro w' H' σ' l s' e'
          exact hp w' H' l (s'.back _)
    · exact False.elim hp
termination_by n => (n, 0)
end
end
end Mn
end
section
set_option Elab.async false
set_option linter.all false
set_option maxRecDepth 100000
set_option maxHeartbeats 2000000
/-! Snd15: a law of the text from what Mini computes. -/
namespace Mn
open PySem PySem.Spec PyProof.Rows L2

/-- what a name of the module stands for -/
inductive Nm where
  | fn (f : Nat)
  | int (i : Int)
  | str (x : List Nat)
  | tup (xs : List (List Nat))
  | blt
  | exc (k : Nat)
  | xfn (f : Nat)
  | cls (k f : Nat)
def Nm.gv : Nm → GV
  | .fn f => .fn f
  | .int i => .cst (.int i)
  | .str x => .cst (.str x)
  | .tup xs => .cst (.tup (xs.map .str))
  | .blt => .blt
  | .exc k => .exc k
  | .xfn f => .xfn f
  | .cls k f => .cls k f
abbrev Ents := List (Str × Nm)
def geOf (es : Ents) (x : Str) : Option GV := (es.lookup x).map Nm.gv
def okStr (x : List Nat) : Bool := x.all (· < 0x110000) && decide (x.length ≤ LIM)
/-- what isinstance asks of an exception's class -/
def excCB (K : PySem.W.Frag) (C : Addr) : Bool := He.eqO (PySem.W.findIn K (.ref C) "__getattribute__") (some (some (.builtin "BaseException.__getattribute__"))) && He.eqO (PySem.W.findIn K (.ref C) "__getattr__") (some none) &&
  decide (PySem.W.subIn K (.ref C) (.type "BaseException") = some true) && PySem.W.hasDictIn K C && He.eqO (PySem.W.findIn K (.ref C) "__class__") (some (some (.builtin "object.__class__"))) &&
  He.eqO (PySem.W.specialIn K (.builtin "object.__class__") "__get__") (some (some (.builtin "getset_descriptor.__get__"))) && decide (PySem.W.takesIn K (.builtin "object.__class__") = some true) && decide (PySem.W.mroIn K C (.type "object") = some true)
theorem excCB_ok {K : PySem.W.Frag} {C : Addr} (h : excCB K C = true) : ExcC K C := by
  unfold excCB at h
  simp only [Bool.and_eq_true, decide_eq_true_eq] at h
  obtain ⟨⟨⟨⟨⟨⟨⟨h1, h2⟩, h3⟩, h4⟩, h5⟩, h6⟩, h7⟩, h8⟩ := h
  exact ⟨He.eqO_ok h1, He.eqO_ok h2, h3, h4, He.eqO_ok h5, He.eqO_ok h6, h7, h8⟩
/-- the classes of exceptions: their names and codes -/
def excs : Ents → List (Str × Nat)
  | [] => []
  | (x, .exc k) :: r => (x, k) :: excs r
  | _ :: r => excs r
/-- which of them is one of which -/
def kitB (K : PySem.W.Frag) (es : Ents) : Bool := (excs es).all fun p => (excs es).all fun q =>
  decide (PySem.W.kitOne K (.ref (He.ga K p.1)) (.ref (He.ga K q.1)) = some (subC p.2 q.2)) && decide (PySem.W.exmOne K (.ref (He.ga K p.1)) (.ref (He.ga K q.1)) = some (subC p.2 q.2))
theorem excs_mem {x : Str} {k : Nat} : ∀ {es : Ents}, (x, Nm.exc k) ∈ es → (x, k) ∈ excs es
  | [], h => nomatch h
  | (y, nm) :: r, h => by
    rcases List.mem_cons.mp h with h | h
    · cases h; exact List.mem_cons_self
    · have ih := excs_mem h
      cases nm <;> first
        | exact ih
        | exact List.mem_cons_of_mem _ ih
/-! ### classes -/
/-- where a def stands: a global's name; a class, a method's name (true: a property's getter) -/
abbrev At' : Type := Str × Option (Bool × Str)
def prA (K : PySem.W.Frag) (C : Addr) (m : Str) : Addr := match PySem.W.findIn K (.ref C) m with
  | some (some (.ref p)) => (match PySem.W.recIn K p "property" with
    | some (.ref z :: _) => z
    | _ => 0)
  | _ => 0
def adM (K : PySem.W.Frag) : At' → Addr
  | (x, none) => He.ga K x
  | (x, some (false, m)) => He.ma K (He.ga K x) m
  | (x, some (true, m)) => prA K (He.ga K x) m
def prB (K : PySem.W.Frag) (C : Addr) (m : Str) : Bool := match PySem.W.findIn K (.ref C) m with
  | some (some (.ref p)) => He.eqO (PySem.W.specialIn K (.ref p) "__get__") (some (some (.builtin "property.__get__"))) && decide (PySem.W.takesIn K (.ref p) = some true) && (match PySem.W.recIn K p "property" with
    | some (.ref z :: _) => decide (z = prA K C m)
    | _ => false)
  | _ => false
theorem prB_ok {K : PySem.W.Frag} {C : Addr} {m : Str} (h : prB K C m = true) : ∃ p, PropOf K C m p (prA K C m) := by
  unfold prB at h
  split at h
  · rename_i p e
    simp only [Bool.and_eq_true, decide_eq_true_eq] at h
    obtain ⟨⟨h1, h2⟩, h3⟩ := h
    split at h3
    · rename_i z r e2
      have e3 : z = prA K C m := of_decide_eq_true h3
      exact ⟨p, e, He.eqO_ok h1, h2, r, by rw [e2, e3]⟩
    · cases h3
  · cases h
def metB (K : PySem.W.Frag) (C : Addr) (m : Str) : Bool := He.eqO (PySem.W.findIn K (.ref C) m) (some (some (.ref (He.ma K C m)))) && PySem.W.isFn K (.ref (He.ma K C m)) && PySem.W.fnIn K (He.ma K C m) && PySem.W.keepIn K (.ref (He.ma K C m))
theorem metB_ok {K : PySem.W.Frag} {C : Addr} {m : Str} (h : metB K C m = true) : MetF K C m (He.ma K C m) := by
  unfold metB at h
  simp only [Bool.and_eq_true] at h
  exact ⟨He.eqO_ok h.1.1.1, h.1.1.2, h.1.2, h.2⟩
def isSomeO (a : Option (Option Value)) : Bool := a.isSome
def clsB (K : PySem.W.Frag) (C : Addr) (k : Nat) : Bool := PySem.W.plainGet K C Str.empty && PySem.W.hasDictIn K C && PySem.W.plainOver K C && He.eqO (PySem.W.findIn K (.ref C) "__setattr__") (some (some (.builtin "object.__setattr__"))) &&
  ((flds k).all fun x => He.eqO (PySem.W.findIn K (.ref C) x) (some none)) && PySem.W.selfFirst K C && PySem.W.noSeq K C && (tysN.all fun T => decide (PySem.W.subIn K (.type T) (.ref C) = some false)) && (tysN.all fun T => decide (PySem.W.kitOne K (.type T) (.ref C) = some false)) &&
  decide (PySem.W.kitOne K (.ref C) (.ref C) = some true) && He.eqO (PySem.W.findIn K (.ref C) "__class__") (some (some (.builtin "object.__class__"))) && He.eqO (PySem.W.specialIn K (.builtin "object.__class__") "__get__") (some (some (.builtin "getset_descriptor.__get__"))) &&
  decide (PySem.W.takesIn K (.builtin "object.__class__") = some true) && decide (PySem.W.mroIn K C (.type "object") = some true) && He.eqO (PySem.W.findIn K (.ref C) "__ne__") (some (some (.builtin "object.__ne__"))) &&
  isSomeO (PySem.W.findIn K (.type "int") (PySem.dunder Operator.LShift.info.2)) && isSomeO (PySem.W.findIn K (.type "int") (dunderR Operator.LShift.info.2)) && He.eqO (PySem.W.findIn K (.ref C) (dunderR Operator.LShift.info.2)) (some none)
theorem clsB_ok {K : PySem.W.Frag} {C : Addr} {k : Nat} (h : clsB K C k = true) : ClsF K C k := by
  unfold clsB at h
  simp only [Bool.and_eq_true, decide_eq_true_eq, List.all_eq_true] at h
  obtain ⟨⟨⟨⟨⟨⟨⟨⟨⟨⟨⟨⟨⟨⟨⟨⟨⟨h1, h2⟩, h3⟩, h4⟩, h5⟩, h6⟩, h7⟩, h8⟩, h9⟩, h10⟩, h11⟩, h12⟩, h13⟩, h14⟩, h15⟩, h16⟩, h17⟩, h18⟩ := h
  have some_of : ∀ {o : Option (Option Value)}, isSomeO o = true → ∃ v, o = some v := fun {o} h => by
    cases o with
    | none => cases h
    | some v => exact ⟨v, rfl⟩
  obtain ⟨fo, q1⟩ := some_of h16
  obtain ⟨ro, q2⟩ := some_of h17
  exact ⟨⟨h1, h2, h3, He.eqO_ok h4⟩, fun x hx => He.eqO_ok (h5 x hx), h6, h7, h8, h9, h10, He.eqO_ok h11, He.eqO_ok h12, h13, h14, He.eqO_ok h15, fo, ro, q1, q2, He.eqO_ok h18⟩
/-- a look at the written part, for one name -/
def entOk (K : PySem.W.Frag) (fid : Nat → At') (eid : Nat → Str) (x : Str) : Nm → Bool
  | .fn f => (He.Fa.glo x).ok K && decide (fid f = (x, none)) && (He.Fa.keep x).ok K
  | .int i => (He.Fa.int x i).ok K
  | .str z => (He.Fa.str x (mkS z)).ok K && okStr z
  | .tup zs => (He.Fa.glo x).ok K && He.tupB K x (zs.map fun z => .str (mkS z)) && zs.all okStr
  | .blt => (He.Fa.free x).ok K
  | .xfn f => (He.Fa.glo x).ok K && decide (fid f = (x, none)) && (He.Fa.keep x).ok K
  | .cls k f => (He.Fa.glo x).ok K && decide (fid (900 + k) = (x, none)) && decide (fid f = (x, some (false, ("__init__" : Str)))) && (He.Fa.mkr x).ok K && clsB K (He.ga K x) k
  | .exc k => (He.Fa.glo x).ok K && (He.Fa.exc x).ok K && decide (eid k = x) && excCB K (He.ga K x)
theorem lookup_mem' {α : Type} {x : Str} {v : α} : ∀ {l : List (Str × α)}, l.lookup x = some v → (x, v) ∈ l
  | [], h => by cases h
  | (k, e) :: r, h => by
    rw [List.lookup_cons] at h
    by_cases hk : x = k
    · subst hk
      simp only [beq_self_eq_true] at h
      cases h
      exact List.mem_cons_self
    · have ne : (x == k) = false := by simpa using hk
      rw [ne] at h
      exact List.mem_cons_of_mem _ (lookup_mem' h)
theorem okStr_ok {x : List Nat} (h : okStr x = true) : x.all (· < 0x110000) = true ∧ x.length ≤ sizeLine := by
  unfold okStr at h
  rw [Bool.and_eq_true] at h
  exact ⟨h.1, Nat.le_trans (of_decide_eq_true h.2) LIM_le⟩
theorem reps_strs {g : G} {w : Wd} : ∀ {zs : List (List Nat)}, zs.all okStr = true → Rgs g w (zs.map .str) (zs.map fun z => .str (mkS z))
  | [], _ => .nil
  | z :: r, h => by
    rw [List.all_cons, Bool.and_eq_true] at h
    obtain ⟨h1, h2⟩ := okStr_ok h.1
    exact .cons (.str z h1 h2) (reps_strs h.2)
theorem geOk_of {g : G} {es : Ents} {fid : Nat → At'} {eid : Nat → Str} {h : Heap} (X : g.K.In h) (N : h.Ns mainGlobals g.mg) (hfa : ∀ f, g.fa f = adM g.K (fid f)) (hca : ∀ k, g.ca k = He.ga g.K (eid k))
    (c : (es.all fun e => entOk g.K fid eid e.1 e.2) = true) (ck : kitB g.K es = true) : GeOk g (geOf es) := by
  have get : ∀ {x v}, geOf es x = some v → ∃ nm, Nm.gv nm = v ∧ entOk g.K fid eid x nm = true := fun {x v} e => by
    obtain ⟨nm, e1, e2⟩ := map_some (show (es.lookup x).map Nm.gv = some v from e)
    exact ⟨nm, e2, List.all_eq_true.mp c _ (lookup_mem' e1)⟩
  have exc : ∀ {x k}, geOf es x = some (.exc k) → (x, k) ∈ excs es ∧ g.ca k = He.ga g.K x := fun {x k} e => by
    obtain ⟨nm, e1, e2⟩ := map_some (show (es.lookup x).map Nm.gv = some _ from e)
    have hm := lookup_mem' e1
    cases nm <;> first
      | (cases e2; done)
      | skip
    cases e2
    have z := List.all_eq_true.mp c _ hm
    have z : ((He.Fa.glo x).ok g.K && (He.Fa.exc x).ok g.K && decide (eid k = x) && excCB g.K (He.ga g.K x)) = true := z
    simp only [Bool.and_eq_true, decide_eq_true_eq] at z
    exact ⟨excs_mem hm, by rw [hca, z.1.2]⟩
  refine ⟨fun x f e => ?_, fun x d e => ?_, fun x e => ?_, fun x f e => ?_, fun x k e => ?_, fun x k f e => ?_, fun x y k j e1 e2 => ?_⟩
  · obtain ⟨nm, e1, e2⟩ := get e
    cases nm <;> first
      | (cases e1; done)
      | skip
    cases e1
    have e2 : ((He.Fa.glo x).ok g.K && decide (fid f = (x, none)) && (He.Fa.keep x).ok g.K) = true := e2
    simp only [Bool.and_eq_true, decide_eq_true_eq] at e2
    rw [hfa, e2.1.2]
    exact ⟨He.glo_ok X N e2.1.1, He.keep_ok e2.2⟩
  · obtain ⟨nm, e1, e2⟩ := get e
    cases nm <;> first
      | (cases e1; done)
      | skip
    · cases e1
      obtain ⟨t, h1⟩ := He.int_ok X N e2
      exact ⟨_, .int _, h1, ⟨t, rfl⟩, fun w => .int _⟩
    · rename_i z
      cases e1
      have e2 : ((He.Fa.str x (mkS z)).ok g.K && okStr z) = true := e2
      rw [Bool.and_eq_true] at e2
      obtain ⟨t, h1⟩ := He.str_ok X N e2.1
      obtain ⟨h2, h3⟩ := okStr_ok e2.2
      exact ⟨_, .str (mkS z), h1, ⟨t, rfl⟩, fun w => .str z h2 h3⟩
    · rename_i zs
      cases e1
      have e2 : ((He.Fa.glo x).ok g.K && He.tupB g.K x (zs.map fun z => .str (mkS z)) && zs.all okStr) = true := e2
      simp only [Bool.and_eq_true] at e2
      refine ⟨_, .ref (He.ga g.K x), He.glo_ok X N e2.1.1, rfl, fun w => .tup (vs := zs.map fun z => .str (mkS z)) ?_ (reps_strs e2.2)⟩
      have q := He.tupB_ok e2.1.2 w.H0
      rw [List.map_map] at q
      exact q
  · obtain ⟨nm, e1, e2⟩ := get e
    cases nm <;> first
      | (cases e1; done)
      | skip
    exact He.free_ok X N e2
  · obtain ⟨nm, e1, e2⟩ := get e
    cases nm <;> first
      | (cases e1; done)
      | skip
    cases e1
    have e2 : ((He.Fa.glo x).ok g.K && decide (fid f = (x, none)) && (He.Fa.keep x).ok g.K) = true := e2
    simp only [Bool.and_eq_true, decide_eq_true_eq] at e2
    rw [hfa, e2.1.2]
    exact ⟨He.glo_ok X N e2.1.1, He.keep_ok e2.2⟩
  · obtain ⟨nm, e1, e2⟩ := get e
    cases nm <;> first
      | (cases e1; done)
      | skip
    cases e1
    have e2 : ((He.Fa.glo x).ok g.K && (He.Fa.exc x).ok g.K && decide (eid k = x) && excCB g.K (He.ga g.K x)) = true := e2
    simp only [Bool.and_eq_true, decide_eq_true_eq] at e2
    rw [hca, e2.1.2]
    obtain ⟨h1, h2, h3, h4⟩ := He.exc_ok e2.1.1.2
    exact ⟨He.glo_ok X N e2.1.1.1, h2, h1, h3, h4, excCB_ok e2.2⟩
  · obtain ⟨nm, e1, e2⟩ := get e
    cases nm <;> first
      | (cases e1; done)
      | skip
    cases e1
    have e2 : ((He.Fa.glo x).ok g.K && decide (fid (900 + k) = (x, none)) && decide (fid f = (x, some (false, ("__init__" : Str)))) && (He.Fa.mkr x).ok g.K && clsB g.K (He.ga g.K x) k) = true := e2
    simp only [Bool.and_eq_true, decide_eq_true_eq] at e2
    obtain ⟨⟨⟨⟨q1, q2⟩, q3⟩, q4⟩, q5⟩ := e2
    have a1 : cAd g.fa k = He.ga g.K x := by show g.fa (900 + k) = _; rw [hfa, q2]; rfl
    have a2 : g.fa f = He.ma g.K (He.ga g.K x) "__init__" := by rw [hfa, q3]; rfl
    rw [a1, a2]
    exact ⟨He.glo_ok X N q1, He.mkr_ok q4, clsB_ok q5⟩
  · obtain ⟨m1, c1⟩ := exc e1
    obtain ⟨m2, c2⟩ := exc e2
    have z := List.all_eq_true.mp (List.all_eq_true.mp ck _ m1) _ m2
    simp only [Bool.and_eq_true, decide_eq_true_eq] at z
    rw [c1, c2]
    exact z

/-! ### the defs -/
structure DRec where
  f : Nat
  x : Str
  /-- a method, a property's getter of the class x -/
  mm : Option (Bool × Str)
  st : Stmt
  ps : List Str
  N : List Str
  ow : Pos → Bool
  fl : List Str
  fz : Pos → Bool
  ob : List (Str × Nat)
  dv : List V
  kw : List (Str × V)
  m : MDef
/-- methods: class, property or not, name, number -/
abbrev Mts : Type := List (Nat × Bool × Str × Nat)
def mtF (b : Bool) (ms : Mts) (k : Nat) (m : Str) : Option Nat := (ms.find? fun e => e.1 == k && e.2.1 == b && e.2.2.1 == m).map (·.2.2.2)
theorem mtF_ok {b : Bool} {ms : Mts} {k : Nat} {m : Str} {f : Nat} (h : mtF b ms k m = some f) : (k, b, m, f) ∈ ms := by
  unfold mtF at h
  obtain ⟨e, h1, h2⟩ := map_some h
  have hm := List.mem_of_find?_eq_some h1
  have hp := List.find?_some h1
  simp only [Bool.and_eq_true, beq_iff_eq] at hp
  obtain ⟨⟨p1, p2⟩, p3⟩ := hp
  obtain ⟨a, b', c, d⟩ := e
  dsimp only at p1 p2 p3 h2
  subst p1 p2 p3 h2
  exact hm
def DRec.nm (d : DRec) : Str := match d.mm with
  | none => d.x
  | some p => p.2
def DRec.qual (d : DRec) : Str := match d.mm with
  | none => d.x
  | some p => d.x ++ ("." : Str) ++ p.2
def DRec.at_ (d : DRec) : At' := (d.x, d.mm)
def DRec.cc (es : Ents) (ms : Mts) (d : DRec) : CC := ⟨geOf es, d.N, defScope d.st, false, d.ow, false, none, (excs es).map (·.2), d.fl, d.fz, fun x => d.ob.lookup x, mtF false ms, mtF true ms⟩
abbrev DRec.Fun (d : DRec) (K : PySem.W.Frag) (a : Addr) (fd : FuncData) : Prop := FunD K d.nm d.qual (defArgs d.st) (defBody d.st) (defScope d.st) d.dv d.kw a fd
/-- what stands of a def -/
def fnO (K : PySem.W.Frag) (a : Addr) : He.FnW := match K.lookup a with
  | some ⟨_, _, .func v, _⟩ => some (v.name, v.qualname, v.params, v.body, v.scope, v.globals, v.closure, v.builtins)
  | _ => none
def okO (K : PySem.W.Frag) (d : DRec) : Bool := PySem.W.keepIn K (.ref (adM K d.at_)) && (match K.lookup (adM K d.at_) with
  | some ⟨_, _, .func v, _⟩ => PySem.W.codeIn K v.code d.qual && (He.dflB K v.defaults d.dv && He.kwdB K v.kwdefaults d.kw)
  | _ => false)
def DRec.val (d : DRec) : He.FnW := some (d.nm, d.qual, defArgs d.st, .stmts (defBody d.st), defScope d.st, mainGlobals, [], builtinsNs)
theorem funO {K : PySem.W.Frag} {d : DRec} (e : fnO K (adM K d.at_) = d.val) (c : okO K d = true) : ∃ fd, d.Fun K (adM K d.at_) fd := by
  unfold okO at c
  rw [Bool.and_eq_true] at c
  obtain ⟨kp, c2⟩ := c
  unfold fnO at e
  cases q : K.lookup (adM K d.at_) with
  | none => rw [q] at c2; cases c2
  | some o =>
    obtain ⟨oc, od, dt, osl⟩ := o
    rw [q] at c2 e
    cases dt <;> first
      | (cases c2; done)
      | skip
    rename_i v
    obtain ⟨n1, n2, n3, n4, n5, n6, n7, n8, n9, n10, n11, n12, n13, n14, n15⟩ := v
    have e2 : (some (n1, n2, n3, n4, n5, n6, n7, n15) : He.FnW) = some (d.nm, d.qual, defArgs d.st, .stmts (defBody d.st), defScope d.st, mainGlobals, [], builtinsNs) := e
    simp only [Option.some.injEq, Prod.mk.injEq] at e2
    obtain ⟨rfl, rfl, rfl, rfl, rfl, rfl, rfl, rfl⟩ := e2
    have c3 : (PySem.W.codeIn K n13 d.qual && (He.dflB K n8 d.dv && He.kwdB K n9 d.kw)) = true := c2
    simp only [Bool.and_eq_true] at c3
    exact ⟨_, ⟨oc, od, n8, n9, n10, n11, n12, n13, n14, osl, rfl, q, c3.1, He.dflB_ok c3.2.1, He.kwdB_ok c3.2.2⟩, kp⟩
/-- what is checked of a def of the text -/
structure DGood (es : Ents) (ms : Mts) (d : DRec) : Prop where
  sc : C8.scC d.N d.ps (defScope d.st) = true
  np : d.ps.length = d.m.np
  ns : d.N.length = d.m.ns
  c : cAll (cS 64 (d.cc es ms)) (defBody d.st) = some d.m.body
  b : ∀ (K : PySem.W.Frag) (a : Addr) (fd : FuncData), d.Fun K a fd → L2.Binds K fd d.ps []
theorem defOk_of {g : G} {es : Ents} {ms : Mts} {d : DRec} (xs : ∀ k, k ∈ (excs es).map (·.2) → ∃ x, geOf es x = some (.exc k)) (q : DGood es ms d) (hT : g.T d.f = some d.m) {fd : FuncData} (F : d.Fun g.K (g.fa d.f) fd) : DefAt g (geOf es) (mtF false ms) (mtF true ms) d.f fd d.ps :=
  ⟨d.nm, d.qual, d.st, d.m, 64, d.cc es ms, d.dv, d.kw, F, hT, q.b _ _ _ F, C8.fnScope_by q.sc, q.np, q.ns, q.c, rfl, rfl, rfl, rfl, rfl, xs, rfl, rfl⟩
/-- .. of an __init__: the class k, so many statements ahead of the fields -/
structure IGood (es : Ents) (ms : Mts) (d : DRec) (k p : Nat) : Prop where
  sc : C8.scC d.N d.ps (defScope d.st) = true
  np : d.ps.length = d.m.np
  ns : d.N.length = d.m.ns
  c : ∃ nm ps' mp mf, d.ps = nm :: ps' ∧ d.N[0]? = some nm ∧ (defScope d.st).names.lookup nm = some .local ∧ badN nm = false ∧ mp.all plainS = true ∧ cAll (cS 64 { d.cc es ms with ex := some (nm, 0, 999) }) ((defBody d.st).take p) = some mp ∧
    cSets (cE 64 { d.cc es ms with ex := some (nm, 0, 999) }) nm (flds k) ((defBody d.st).drop p) = some mf ∧ d.m.body = mp ++ [.ret (some (.new k mf))]
  b : ∀ (K : PySem.W.Frag) (a : Addr) (fd : FuncData), d.Fun K a fd → L2.Binds K fd d.ps []
theorem iniOk_of {g : G} {es : Ents} {ms : Mts} {d : DRec} {k p : Nat} (cf : ClsF g.K (cAd g.fa k) k) (xs : ∀ k, k ∈ (excs es).map (·.2) → ∃ x, geOf es x = some (.exc k)) (q : IGood es ms d k p) (hT : g.T d.f = some d.m) {fd : FuncData} (F : d.Fun g.K (g.fa d.f) fd) : IDefAt g (geOf es) (mtF false ms) (mtF true ms) k d.f fd d.ps := by
  obtain ⟨nm, ps', mp, mf, h1, h2, h3, h4, h5, h6, h7, h8⟩ := q.c
  exact ⟨d.nm, d.qual, d.st, d.m, 64, { d.cc es ms with ex := some (nm, 0, 999) }, d.dv, d.kw, nm, ps', (defBody d.st).take p, (defBody d.st).drop p, mp, mf, h5, F, hT, q.b _ _ _ F, C8.fnScope_by q.sc, q.np, q.ns, (List.take_append_drop p _).symm, h6, h7, h8, rfl, rfl, rfl, rfl, rfl, xs, rfl, rfl, h1, h2, .inl h3, h4, cf⟩

/-- .. of a def that is handed the exception in hand, of the class k -/
def DRec.xcc (es : Ents) (d : DRec) (nm : Str) (k : Nat) : CC := ⟨noFn (geOf es), d.N, defScope d.st, false, d.ow, true, some (nm, 0, k), (excs es).map (·.2), d.fl, d.fz, fun _ => none, fun _ _ => none, fun _ _ => none⟩
structure XGood (es : Ents) (T : Nat → Option MDef) (d : DRec) : Prop where
  sc : C8.scC d.N d.ps (defScope d.st) = true
  ex : ∃ nm, d.ps = [nm] ∧ d.N[0]? = some nm ∧ (defScope d.st).names.lookup nm = some .local ∧ badN nm = false ∧ ∀ k, k ∈ (excs es).map (·.2) → ∃ md, T (xnum d.f k) = some md ∧ md.np = 0 ∧ d.N.length = md.ns ∧ cAll (cS 64 (d.xcc es nm k)) (defBody d.st) = some md.body
  b : ∀ (K : PySem.W.Frag) (a : Addr) (fd : FuncData), d.Fun K a fd → L2.Binds K fd d.ps []
  b0 : d.dv = [] ∧ d.kw = []
theorem xdefAt_of {g : G} {es : Ents} {d : DRec} (xs : ∀ k, k ∈ (excs es).map (·.2) → ∃ x, geOf es x = some (.exc k)) (q : XGood es g.T d) {fd : FuncData} (F : d.Fun g.K (g.fa d.f) fd) {k : Nat} {y : Str} (hy : geOf es y = some (.exc k)) : XDefAt g (geOf es) d.f k fd d.ps := by
  obtain ⟨nm, h1, h2, h3, h4, h5⟩ := q.ex
  have hk : k ∈ (excs es).map (·.2) := by
    obtain ⟨n, e1, e2⟩ := map_some (show (es.lookup y).map Nm.gv = some _ from hy)
    have hm := lookup_mem' e1
    cases n <;> first
      | (cases e2; done)
      | skip
    cases e2
    exact List.mem_map.mpr ⟨(y, k), excs_mem hm, rfl⟩
  obtain ⟨md, m1, m2, m3, m4⟩ := h5 k hk
  have F0 : FunD g.K d.nm d.qual (defArgs d.st) (defBody d.st) (defScope d.st) [] [] (g.fa d.f) fd := by
    have z := F
    unfold DRec.Fun at z
    rw [q.b0.1, q.b0.2] at z
    exact z
  refine ⟨d.nm, d.qual, d.st, md, 64, d.xcc es nm k, nm, F0, m1, q.b _ _ _ F, C8.fnScope_by q.sc, h1, m2, m3, m4, rfl, rfl, rfl, rfl, rfl, h2, .inl h3, h4, fun j hj => ?_, y, hy⟩
  obtain ⟨x, e⟩ := xs j hj
  exact ⟨x, noFn_exc e⟩

/-! ### the hook -/
def fidOf (ds : List DRec) (f : Nat) : At' := if 900 ≤ f then (cnm (f - 900), none) else match ds.find? fun d => d.f == f with
  | some d => d.at_
  | none => (Str.empty, none)
/-- all that is looked at -/
structure TX where
  es : Ents
  ms : Mts
  ds : List DRec
  eid : Nat → Str
def metOk (K : PySem.W.Frag) (fid : Nat → At') (e : Nat × Bool × Str × Nat) : Bool := decide (fid e.2.2.2 = (cnm e.1, some (e.2.1, e.2.2.1))) && decide (fid (900 + e.1) = (cnm e.1, none)) && (if e.2.1 then prB K (He.ga K (cnm e.1)) e.2.2.1 else metB K (He.ga K (cnm e.1)) e.2.2.1)
abbrev AlM : Type := (Bool × List He.FnW) × Bool
def obsM (t : TX) (K : PySem.W.Frag) : AlM := ((t.ds.all fun d => okO K d, t.ds.map fun d => fnO K (adM K d.at_)), (t.es.all fun e => entOk K (fidOf t.ds) t.eid e.1 e.2) && kitB K t.es && t.ms.all fun e => metOk K (fidOf t.ds) e)
def valM (t : TX) : AlM := ((true, t.ds.map DRec.val), true)
def obsMG (n : Nat) (t : TX) (at_ : Addr → Option Obj) : AlM := obsM t (He.frG at_ (He.asD at_ n))
def hookM (n : Nat) (t : TX) : PySem.W.Hook where
  α := AlM
  obs := fun s => obsMG n t s.heap.get?
  val := fun _ => valM t
  says := fun _ h => ∃ K : PySem.W.Frag, K.In h ∧ obsM t K = valM t
  of := fun _ _ e => ⟨_, He.frG_in, e⟩
  keeps := fun _ _ _ ⟨K, hK, c⟩ k => ⟨K, PySem.W.Frag.In.keeps hK k, c⟩
theorem obsMG_eq {n : Nat} {t : TX} {at_ : Addr → Option Obj} {s : Shared} (h : ∀ a, at_ a = s.heap.get? a) : obsMG n t at_ = (hookM n t).obs s := by
  cases (funext h : at_ = s.heap.get?)
  rfl
def gOf (P : Program) (w : World) (K : PySem.W.Frag) (mg : Str → Option Value) (base : Heap) (T : Nat → Option MDef) (t : TX) : G :=
  ⟨P, w, K, mg, base, T, fun f => adM K (fidOf t.ds f), fun k => He.ga K (t.eid k), none⟩
theorem fid_at {ds : List DRec} (lt : ∀ d ∈ ds, d.f < 900) (nd : (ds.map (·.f)).Nodup) {d : DRec} (h : d ∈ ds) : fidOf ds d.f = d.at_ := by
  unfold fidOf
  rw [if_neg (by have := lt d h; omega)]
  have : ds.find? (fun e => e.f == d.f) = some d := by
    clear lt
    induction ds with
    | nil => cases h
    | cons a r ih =>
      rw [List.map_cons, List.nodup_cons] at nd
      rw [List.find?_cons]
      rcases List.mem_cons.mp h with rfl | h
      · simp
      · have ne : (a.f == d.f) = false := by
          simp only [beq_eq_false_iff_ne, ne_eq]
          intro z
          exact nd.1 (z ▸ List.mem_map_of_mem h)
        rw [ne]; exact ih nd.2 h
  rw [this]
/-- what the head has checked of a text -/
structure TGood (t : TX) (T : Nat → Option MDef) : Prop where
  lt : ∀ d ∈ t.ds, d.f < 900
  nd : (t.ds.map (·.f)).Nodup
  xs : ∀ k, k ∈ (excs t.es).map (·.2) → ∃ x, geOf t.es x = some (.exc k)
  hes : ∀ x f, geOf t.es x = some (.fn f) → ∃ d ∈ t.ds, d.f = f ∧ DGood t.es t.ms d ∧ T d.f = some d.m
  hxf : ∀ x f, geOf t.es x = some (.xfn f) → ∃ d ∈ t.ds, d.f = f ∧ XGood t.es T d
  hms : ∀ k b m f, (k, b, m, f) ∈ t.ms → ∃ d ∈ t.ds, d.f = f ∧ DGood t.es t.ms d ∧ T d.f = some d.m
  hci : ∀ x k f, geOf t.es x = some (.cls k f) → ∃ d ∈ t.ds, d.f = f ∧ (∃ p, IGood t.es t.ms d k p) ∧ T d.f = some d.m
/-- all of the text's defs hold their promises -/
theorem all_of {P : Program} {w : World} {K : PySem.W.Frag} {h : Heap} {mg : Str → Option Value} {t : TX} {T : Nat → Option MDef} (X : K.In h) (N : h.Ns mainGlobals mg) (c : obsM t K = valM t)
    (tg : TGood t T) (base : Heap) (n : Nat) {d : DRec} (hd : d ∈ t.ds) (hg : DGood t.es t.ms d) (hT : T d.f = some d.m) :
    ∃ fd, d.Fun K (adM K d.at_) fd ∧ FnOk P w K mg base (L2N.CX P w) n (adM K d.at_) fd d.ps (SpF (gOf P w K mg base T t) n d.f) := by
  have c1 : (t.ds.all (fun d => okO K d), t.ds.map fun d => fnO K (adM K d.at_)) = (true, t.ds.map DRec.val) := congrArg Prod.fst c
  have c23 : ((t.es.all fun e => entOk K (fidOf t.ds) t.eid e.1 e.2) && kitB K t.es && t.ms.all fun e => metOk K (fidOf t.ds) e) = true := congrArg Prod.snd c
  simp only [Bool.and_eq_true] at c23
  obtain ⟨⟨c2, c3⟩, c4⟩ := c23
  have k1 : (t.ds.all fun d => okO K d) = true := congrArg Prod.fst c1
  have k2 : (t.ds.map fun d => fnO K (adM K d.at_)) = t.ds.map DRec.val := congrArg Prod.snd c1
  have F : ∀ d ∈ t.ds, ∃ fd, d.Fun K (adM K d.at_) fd := fun d hd => by
    obtain ⟨i, hi, e⟩ := List.mem_iff_getElem.mp hd
    have e2 : t.ds[i]? = some d := by rw [List.getElem?_eq_getElem hi, e]
    have e3 : (t.ds.map fun d => fnO K (adM K d.at_))[i]? = (t.ds.map DRec.val)[i]? := by rw [k2]
    rw [List.getElem?_map, List.getElem?_map, e2] at e3
    exact funO (Option.some.inj e3) (List.all_eq_true.mp k1 d hd)
  have ge := geOk_of (g := gOf P w K mg base T t) X N (fun _ => rfl) (fun _ => rfl) c2 c3
  have adr : ∀ d ∈ t.ds, (gOf P w K mg base T t).fa d.f = adM K d.at_ := fun d hd => by
    show adM K (fidOf t.ds d.f) = _
    rw [fid_at tg.lt tg.nd hd]
  have ok : ∀ d ∈ t.ds, DGood t.es t.ms d → T d.f = some d.m → ∀ fd, d.Fun K (adM K d.at_) fd → DefAt (gOf P w K mg base T t) (geOf t.es) (mtF false t.ms) (mtF true t.ms) d.f fd d.ps := fun d hd hg hT fd hF => defOk_of tg.xs hg hT (fd := fd) (by
    rw [adr d hd]; exact hF)
  have ok2 : ∀ d ∈ t.ds, ∀ f, d.f = f → DGood t.es t.ms d → T d.f = some d.m → DefOk (gOf P w K mg base T t) (geOf t.es) (mtF false t.ms) (mtF true t.ms) f := fun d hd f e hg hT => by
    obtain ⟨fd, hF⟩ := F d hd
    rw [← e]
    exact ⟨fd, d.ps, ok d hd hg hT fd hF⟩
  have met : ∀ k b m f, (k, b, m, f) ∈ t.ms → (gOf P w K mg base T t).fa f = adM K (cnm k, some (b, m)) ∧ cAd (gOf P w K mg base T t).fa k = He.ga K (cnm k) ∧ (if b then prB K (He.ga K (cnm k)) m else metB K (He.ga K (cnm k)) m) = true := fun k b m f hm => by
    have z := List.all_eq_true.mp c4 _ hm
    unfold metOk at z
    simp only [Bool.and_eq_true, decide_eq_true_eq] at z
    refine ⟨?_, ?_, z.2⟩
    · show adM K (fidOf t.ds f) = _
      rw [z.1.1]
    · show adM K (fidOf t.ds (900 + k)) = _
      rw [z.1.2]; rfl
  have tab : Tab (gOf P w K mg base T t) (geOf t.es) (mtF false t.ms) (mtF true t.ms) :=
    { gx := rfl
      hge := ge
      tx := fun x f e k y e2 => by
        obtain ⟨d', hd', e', q'⟩ := tg.hxf x f e
        obtain ⟨fd', hF'⟩ := F d' hd'
        rw [← e']
        exact ⟨fd', d'.ps, xdefAt_of tg.xs q' (by rw [adr d' hd']; exact hF') e2⟩
      tb := fun x f e => by
        obtain ⟨d', hd', e', q1, q2⟩ := tg.hes x f e
        exact ok2 d' hd' f e' q1 q2
      tm := fun k m f e => by
        have hm := mtF_ok e
        obtain ⟨a1, a2, a3⟩ := met _ _ _ _ hm
        obtain ⟨d', hd', e', q1, q2⟩ := tg.hms _ _ _ _ hm
        refine ⟨?_, ok2 d' hd' f e' q1 q2⟩
        rw [a1, a2]
        exact metB_ok a3
      tp := fun k m f e => by
        have hm := mtF_ok e
        obtain ⟨a1, a2, a3⟩ := met _ _ _ _ hm
        obtain ⟨d', hd', e', q1, q2⟩ := tg.hms _ _ _ _ hm
        refine ⟨?_, ok2 d' hd' f e' q1 q2⟩
        rw [a1, a2]
        exact prB_ok a3
      ti := fun x k f e => by
        obtain ⟨d', hd', e', ⟨p, q1⟩, q2⟩ := tg.hci x k f e
        obtain ⟨fd', hF'⟩ := F d' hd'
        have cf := (ge.cls x k f e).2.2
        rw [← e']
        exact ⟨fd', d'.ps, iniOk_of cf tg.xs q1 q2 (by rw [adr d' hd']; exact hF')⟩ }
  obtain ⟨fd, hF⟩ := F d hd
  refine ⟨fd, hF, ?_⟩
  have z := fn_at_fd tab n d.f fd d.ps (ok d hd hg hT fd hF)
  rw [adr d hd] at z
  exact z
/-- the law's promise, from what Mini computes of the script -/
theorem spf_law {P : Program} {w : World} {K : PySem.W.Frag} {mg : Str → Option Value} {base : Heap} {T : Nat → Option MDef} {t : TX} {n f : Nat} {H : Hp} {a : Addr} {ns : List Int}
    (hS : SqL K H a (ns.map V.int)) {Q : VK} {E : XK} (q : ∀ H', Q (.bl true) H') (h : ∃ S', callF T n f [.frz (ns.map .int)] ⟨0, []⟩ = .ok (.bl true) S') : SpF (gOf P w K mg base T t) n f [.ref a] H Q E := by
  obtain ⟨S', e⟩ := h
  have allI : ∀ (w0 : Wd) (l : List Int), Reps K (gOf P w K mg base T t).fa w0 (l.map D.int) (l.map V.int) := fun w0 l => by
    induction l with
    | nil => exact .nil
    | cons i r ih => exact .cons (.int i) ih
  have st : StOk (gOf P w K mg base T t) ⟨fun _ => none, H⟩ (fun _ => none) H ⟨0, []⟩ :=
    { h0 := Same.refl _, fr := (fun _ _ z => nomatch z), dj := (fun _ _ z => nomatch z), lt := (fun _ _ z => nomatch z), live := (fun _ _ z => nomatch z), inj := (fun _ _ _ _ _ z => nomatch z), lv := (fun _ _ z => nomatch z) }
  refine ⟨⟨fun _ => none, H⟩, fun _ => none, ⟨0, []⟩, [.frz (ns.map .int)], st, .cons (.frz hS (allI _ ns)) .nil, ?_⟩
  show Post _ _ _ _ _ _ (callF T n f [.frz (ns.map .int)] ⟨0, []⟩) _
  rw [e]
  intro w' H' v _ _ r
  cases r
  exact q _

theorem fnOk_cx {P : Program} {w : World} {K : PySem.W.Frag} {mg : Str → Option Value} {base : Heap} {CX CX' : CXT} {k : Nat} {f : Addr} {fd : FuncData} {ps : List Str} {sp : Sp} (F : FnOk P w K mg base CX k f fd ps sp)
    (h : ∀ a b c d e f, CX a b c d e f → CX' a b c d e f) : FnOk P w K mg base CX' k f fd ps sp := by
  refine ⟨F.len, fun A outer s H args us vs Q E hr e0 hb r hsp => codeAny_mono (F.run A outer s H args us vs Q E hr e0 hb r hsp) fun res s' z => ?_⟩
  cases res with
  | ok v => cases v <;> exact z
  | error e => exact h _ _ _ _ _ _ z
def spScript (K : PySem.W.Frag) : Sp := fun vs H Q _ => ∃ (a : Addr) (ns : List Int), vs = [.ref a] ∧ ns.length ≤ 63 ∧ SqL K H a (ns.map V.int) ∧ ∀ H', Q (.bl true) H'
theorem law_end {P : Program} {w : World} {K : PySem.W.Frag} {h : Heap} {mg : Str → Option Value} {t : TX} {T : Nat → Option MDef} {fa : Addr} (X : K.In h) (N : h.Ns mainGlobals mg) (c : obsM t K = valM t)
    (tg : TGood t T) {n : Nat} {d : DRec} (hd : d ∈ t.ds) (hg : DGood t.es t.ms d) (hT : T d.f = some d.m) (hps : d.ps = [("script" : Str)]) (hmm : d.mm = none) (hx : geOf t.es d.x = some (.fn d.f))
    (hbA : ∀ (K : PySem.W.Frag) (a : Addr) (fd : FuncData), d.Fun K a fd → ∀ s (u : Value), BindsTo s fd ⟨[u], []⟩ [(("script" : Str), u)])
    (hmg : mg d.x = some (.ref fa)) (main : ∀ ns : List Int, ns.length ≤ 63 → ∃ S, callF T n d.f [.frz (ns.map .int)] ⟨0, []⟩ = .ok (.bl true) S) :
    ∃ (K : PySem.W.Frag) (fd : FuncData) (sp : Sp), K.In h ∧ (∀ (s : Shared) (u : Value), BindsTo s fd ⟨[u], []⟩ [(("script" : Str), u)]) ∧
      (∀ (H : Hp) (a : Addr) (ns : List Int), ns.length ≤ 63 → Only H → SqL K H a (ns.map V.int) → sp [.ref a] H (fun v _ => v = .bl true) fun _ _ _ => False) ∧
      ∀ base : Heap, K.In base → base.Ns mainGlobals mg → FnOk P w K mg base (fun a b c d e f => ∃ w, L2N.CX P w a b c d e f) n fa fd [("script" : Str)] sp := by
  have c23 : ((t.es.all fun e => entOk K (fidOf t.ds) t.eid e.1 e.2) && kitB K t.es && t.ms.all fun e => metOk K (fidOf t.ds) e) = true := congrArg Prod.snd c
  simp only [Bool.and_eq_true] at c23
  have hat : adM K d.at_ = He.ga K d.x := by unfold DRec.at_; rw [hmm]; rfl
  have hfa : adM K d.at_ = fa := by
    have ge := geOk_of (g := gOf P w K mg h T t) X N (fun _ => rfl) (fun _ => rfl) c23.1.1 c23.1.2
    have z : mg d.x = some (.ref (adM K (fidOf t.ds d.f))) := (ge.fn _ _ hx).1
    rw [fid_at tg.lt tg.nd hd, hmg] at z
    exact (Value.ref.inj (Option.some.inj z)).symm
  obtain ⟨fd0, F0, _⟩ := all_of (P := P) (w := w) (n := n) X N c tg h hd hg hT
  refine ⟨K, fd0, spScript K, X, fun s u => hbA _ _ _ F0 s u, fun H a ns hl _ hS => ⟨a, ns, rfl, hl, hS, fun _ => rfl⟩, fun base _ _ => ?_⟩
  obtain ⟨fd1, F1, ok⟩ := all_of (P := P) (w := w) (n := n) X N c tg base hd hg hT
  have e : fd1 = fd0 := by
    obtain ⟨_, _, _, _, _, _, _, _, _, _, e1, l1, _⟩ := F0.ex
    obtain ⟨_, _, _, _, _, _, _, _, _, _, e2, l2, _⟩ := F1.ex
    rw [l1] at l2
    injection l2 with l2
    injection l2 with _ _ l2 _
    injection l2 with l2
    exact l2.symm
  subst e
  rw [hps, hfa] at ok
  refine fnOk_cx (FnOk.imp ok fun vs H Q E z => ?_) fun _ _ _ _ _ _ z => ⟨w, z⟩
  obtain ⟨a, ns, rfl, hl, hS, q⟩ := z
  exact spf_law hS q (main ns hl)
theorem es_in {es : Ents} {ds : List DRec} (h : (es.all fun e => match e.2 with | .fn f => ds.any fun d => d.f == f | _ => true) = true) : ∀ x f, geOf es x = some (.fn f) → ∃ d ∈ ds, d.f = f := fun x f e => by
  obtain ⟨nm, e1, e2⟩ := map_some (show (es.lookup x).map Nm.gv = some _ from e)
  have z := List.all_eq_true.mp h _ (lookup_mem' e1)
  cases nm <;> first
    | (cases e2; done)
    | skip
  cases e2
  obtain ⟨d, hd, q⟩ := List.any_eq_true.mp z
  exact ⟨d, hd, by simpa using q⟩
/-- the codes of exceptions are names' -/
theorem xs_in {es : Ents} (h : ((excs es).all fun p => match es.lookup p.1 with | some (.exc k) => k == p.2 | _ => false) = true) : ∀ k, k ∈ (excs es).map (·.2) → ∃ x, geOf es x = some (.exc k) := fun k hk => by
  obtain ⟨p, hp, rfl⟩ := List.mem_map.mp hk
  have z := List.all_eq_true.mp h p hp
  refine ⟨p.1, ?_⟩
  unfold geOf
  split at z
  · rename_i j e
    have e2 : j = p.2 := by simpa using z
    rw [e, ← e2]; rfl
  · cases z
theorem es_good {es : Ents} {ms : Mts} {dg ds : List DRec} {T : Nat → Option MDef} (sub : ∀ d ∈ dg, d ∈ ds) (h : (es.all fun e => match e.2 with | .fn f => dg.any fun d => d.f == f | _ => true) = true) (good : ∀ d ∈ dg, DGood es ms d) (tabs : ∀ d ∈ dg, T d.f = some d.m) :
    ∀ x f, geOf es x = some (.fn f) → ∃ d ∈ ds, d.f = f ∧ DGood es ms d ∧ T d.f = some d.m := fun x f e => by
  obtain ⟨d, hd, q⟩ := es_in h x f e
  exact ⟨d, sub d hd, q, good d hd, tabs d hd⟩
theorem es_met {es : Ents} {ms : Mts} {dg ds : List DRec} {T : Nat → Option MDef} (sub : ∀ d ∈ dg, d ∈ ds) (h : (ms.all fun e => dg.any fun d => d.f == e.2.2.2) = true) (good : ∀ d ∈ dg, DGood es ms d) (tabs : ∀ d ∈ dg, T d.f = some d.m) :
    ∀ k b m f, (k, b, m, f) ∈ ms → ∃ d ∈ ds, d.f = f ∧ DGood es ms d ∧ T d.f = some d.m := fun k b m f hm => by
  have z := List.all_eq_true.mp h _ hm
  obtain ⟨d, hd, q⟩ := List.any_eq_true.mp z
  exact ⟨d, sub d hd, by simpa using q, good d hd, tabs d hd⟩
theorem es_cls {es : Ents} {ms : Mts} {ds : List DRec} {T : Nat → Option MDef} {ins : List (Nat × DRec)} (sub : ∀ p ∈ ins, p.2 ∈ ds) (h : (es.all fun e => match e.2 with | .cls k f => ins.any fun p => p.1 == k && p.2.f == f | _ => true) = true) (good : ∀ p ∈ ins, (∃ q, IGood es ms p.2 p.1 q) ∧ T p.2.f = some p.2.m) :
    ∀ x k f, geOf es x = some (.cls k f) → ∃ d ∈ ds, d.f = f ∧ (∃ p, IGood es ms d k p) ∧ T d.f = some d.m := fun x k f e => by
  obtain ⟨nm, e1, e2⟩ := map_some (show (es.lookup x).map Nm.gv = some _ from e)
  have z := List.all_eq_true.mp h _ (lookup_mem' e1)
  cases nm <;> first
    | (cases e2; done)
    | skip
  cases e2
  obtain ⟨p, hp, q⟩ := List.any_eq_true.mp z
  simp only [Bool.and_eq_true, beq_iff_eq] at q
  obtain ⟨q1, q2⟩ := q
  obtain ⟨g1, g2⟩ := good p hp
  rw [q1] at g1
  exact ⟨p.2, sub p hp, q2, g1, g2⟩
theorem es_xgood {es : Ents} {dx ds : List DRec} {T : Nat → Option MDef} (sub : ∀ d ∈ dx, d ∈ ds) (h : (es.all fun e => match e.2 with | .xfn f => dx.any fun d => d.f == f | _ => true) = true) (good : ∀ d ∈ dx, XGood es T d) :
    ∀ x f, geOf es x = some (.xfn f) → ∃ d ∈ ds, d.f = f ∧ XGood es T d := fun x f e => by
  obtain ⟨nm, e1, e2⟩ := map_some (show (es.lookup x).map Nm.gv = some _ from e)
  have z := List.all_eq_true.mp h _ (lookup_mem' e1)
  cases nm <;> first
    | (cases e2; done)
    | skip
  cases e2
  obtain ⟨d, hd, q⟩ := List.any_eq_true.mp z
  exact ⟨d, sub d hd, by simpa using q, good d hd⟩
end Mn
end
section
set_option Elab.async false
set_option linter.all false
set_option maxRecDepth 100000
set_option maxHeartbeats 0
/-! Core: the defs of the program and the helpers that laws share, as Mini has them (written by gen.py). -/
namespace Mn
def m_is_integer : MDef := ⟨3, 3, [
    .ret (some (.and (.isi (.var 0) .int) (.and (.not (.isi (.var 0) .bool)) (.chn .le .le (.var 1) (.var 0) (.var 2)))))]⟩
def m_require_number : MDef := ⟨3, 3, [
    .ite (.not (.call 0 [(.var 0), (.var 1), (.var 2)])) [.rais 6] []]⟩
def m_is_color : MDef := ⟨1, 1, [
    .ret (some (.and (.isi (.var 0) .str) (.and (.cmp .eq (.bcl .len [(.var 0)]) (.cst (.int (1)))) (.cmp .isin (.var 0) (.cst (.str [97, 98, 99, 100, 101, 102, 103, 104, 105, 106, 107, 108, 109, 110, 111, 112, 113, 114, 115, 116, 117, 118, 119, 120, 121, 122]))))))]⟩
def m_require_color : MDef := ⟨1, 1, [
    .ite (.not (.call 2 [(.var 0)])) [.rais 5] []]⟩
def m_is_repeat : MDef := ⟨1, 2, [
    .ite (.or (.not (.isi (.var 0) .str)) (.not (.chn .le .le (.cst (.int (1))) (.bcl .len [(.var 0)]) (.cst (.int (20)))))) [.ret (some (.cst (.bl false)))] [],
    .ret (some (.bcl .all [(.lcm false (.cmp .isin (.var 1) (.cst (.str [97, 98, 99, 100, 101, 102, 103, 104, 105, 106, 107, 108, 109, 110, 111, 112, 113, 114, 115, 116, 117, 118, 119, 120, 121, 122]))) [1] (.nm 1) (.seq (.var 0)) none)]))]⟩
def m_require_repeat : MDef := ⟨1, 1, [
    .ite (.not (.call 4 [(.var 0)])) [.rais 1] []]⟩
def m_root : MDef := ⟨1, 2, [
    .forr (.nm 1) (.rng2 (.cst (.int (1))) (.bcl .len [(.var 0)])) [.ite (.and (.cmp .eq (.bin .mod (.bcl .len [(.var 0)]) (.var 1)) (.cst (.int (0)))) (.cmp .eq (.bin .mul (.slc (.var 0) none (some (.var 1))) (.bin .fdiv (.bcl .len [(.var 0)]) (.var 1))) (.var 0))) [.ret (some (.slc (.var 0) none (some (.var 1))))] []],
    .ret (some (.var 0))]⟩
def m_shortest : MDef := ⟨1, 1, [
    .expr (.call 5 [(.var 0)]),
    .ret (some (.call 6 [(.var 0)]))]⟩
def m_turned : MDef := ⟨2, 3, [
    .asg 2 (.bin .mod (.var 1) (.bcl .len [(.var 0)])),
    .ret (some (.bin .add (.slc (.var 0) (some (.var 2)) none) (.slc (.var 0) none (some (.var 2)))))]⟩
def m_shift_of : MDef := ⟨2, 3, [
    .par [0, 1] [(.call 6 [(.var 0)]), (.call 6 [(.var 1)])],
    .forr (.nm 2) (.rng1 (.bcl .len [(.var 0)])) [.ite (.cmp .eq (.call 8 [(.var 0), (.var 2)]) (.var 1)) [.ret (some (.var 2))] []],
    .ret (some (.cst .non))]⟩
def m_shift : MDef := ⟨2, 2, [
    .expr (.call 5 [(.var 0)]),
    .expr (.call 5 [(.var 1)]),
    .ret (some (.call 9 [(.var 0), (.var 1)]))]⟩
def m_is_mirror : MDef := ⟨1, 1, [
    .expr (.call 5 [(.var 0)]),
    .ret (some (.notN (.call 9 [(.var 0), (.rev (.var 0))])))]⟩
def m_is_kind : MDef := ⟨1, 1, [
    .ret (some (.and (.isi (.var 0) .str) (.cmp .isin (.var 0) (.cst (.tup [(.str [102, 108, 97, 116]), (.str [114, 111, 117, 110, 100])])))))]⟩
def m_is_work : MDef := ⟨1, 5, [
    .ite (.or (.not (.isi (.var 0) .tuple)) (.cmp .ne (.bcl .len [(.var 0)]) (.cst (.int (4))))) [.ret (some (.cst (.bl false)))] [],
    .asgT [1, 2, 3, 4] (.var 0),
    .ite (.or (.not (.call 4 [(.var 1)])) (.not (.call 0 [(.var 2), (.cst (.int (0))), (.bin .sub (.bcl .len [(.var 1)]) (.cst (.int (1))))]))) [.ret (some (.cst (.bl false)))] [],
    .ret (some (.and (.call 0 [(.var 3), (.cst (.int (1))), (.cst (.int (1000000000000)))]) (.call 12 [(.var 4)])))]⟩
def m_require_work : MDef := ⟨1, 1, [
    .ite (.not (.call 13 [(.var 0)])) [.rais 2] []]⟩
def m_require_row : MDef := ⟨1, 1, [
    .ite (.not (.call 0 [(.var 0), (.cst (.int (0))), (.cst (.int (1000000000000000)))])) [.rais 3] []]⟩
def m_require_column : MDef := ⟨2, 2, [
    .ite (.not (.call 0 [(.var 1), (.cst (.int (0))), (.bin .sub (.idx (.var 0) (.cst (.int (2)))) (.cst (.int (1))))])) [.rais 4] []]⟩
def m_require_columns : MDef := ⟨2, 2, [
    .ite (.not (.call 0 [(.var 1), (.cst (.int (1))), (.idx (.var 0) (.cst (.int (2))))])) [.rais 6] []]⟩
def m_number_at : MDef := ⟨3, 7, [
    .asgT [3, 4, 5, 6] (.var 0),
    .ite (.and (.cmp .eq (.var 6) (.cst (.str [102, 108, 97, 116]))) (.cmp .eq (.bin .mod (.var 1) (.cst (.int (2)))) (.cst (.int (1))))) [.asg 2 (.bin .sub (.bin .sub (.var 5) (.cst (.int (1)))) (.var 2))] [],
    .ret (some (.bin .add (.bin .add (.var 4) (.bin .mul (.var 1) (.var 5))) (.var 2)))]⟩
def m_color_of : MDef := ⟨3, 3, [
    .ret (some (.idx (.idx (.var 0) (.cst (.int (0)))) (.bin .mod (.call 18 [(.var 0), (.var 1), (.var 2)]) (.bcl .len [(.idx (.var 0) (.cst (.int (0))))]))))]⟩
def m_stitch_at : MDef := ⟨3, 3, [
    .expr (.call 14 [(.var 0)]),
    .expr (.call 15 [(.var 1)]),
    .expr (.call 16 [(.var 0), (.var 2)]),
    .ret (some (.call 18 [(.var 0), (.var 1), (.var 2)]))]⟩
def m_color_at : MDef := ⟨3, 3, [
    .expr (.call 14 [(.var 0)]),
    .expr (.call 15 [(.var 1)]),
    .expr (.call 16 [(.var 0), (.var 2)]),
    .ret (some (.call 19 [(.var 0), (.var 1), (.var 2)]))]⟩
def m_text_of : MDef := ⟨3, 4, [
    .ret (some (.mth .join (.cst (.str [])) [(.lcm false (.call 19 [(.var 0), (.var 1), (.var 3)]) [3] (.nm 3) (.rng1 (.var 2)) none)]))]⟩
def m_row_text : MDef := ⟨3, 3, [
    .expr (.call 14 [(.var 0)]),
    .expr (.call 15 [(.var 1)]),
    .expr (.call 17 [(.var 0), (.var 2)]),
    .ite (.cmp .gt (.var 2) (.cst (.int (1000)))) [.rais 6] [],
    .ret (some (.call 22 [(.var 0), (.var 1), (.var 2)]))]⟩
def m_move_of : MDef := ⟨3, 3, [
    .ret (some (.bin .mod (.ite (.cmp .eq (.var 2) (.cst (.str [102, 108, 97, 116]))) (.bin .mul (.cst (.int (2))) (.var 1)) (.var 1)) (.var 0)))]⟩
def m_move : MDef := ⟨1, 1, [
    .expr (.call 14 [(.var 0)]),
    .ret (some (.call 24 [(.bcl .len [(.idx (.var 0) (.cst (.int (0))))]), (.idx (.var 0) (.cst (.int (2)))), (.idx (.var 0) (.cst (.int (3))))]))]⟩
def m_in_row : MDef := ⟨4, 8, [
    .asg 4 (.bcl .len [(.idx (.var 0) (.cst (.int (0))))]),
    .asg 5 (.bcl .len [(.lcm false (.var 6) [6] (.nm 6) (.rng1 (.bcl .min2 [(.var 4), (.var 3)])) (some (.cmp .eq (.call 19 [(.var 0), (.var 2), (.var 6)]) (.var 1))))]),
    .ite (.cmp .le (.var 3) (.var 4)) [.ret (some (.var 5))] [],
    .asg 7 (.bcl .len [(.lcm false (.var 6) [6] (.nm 6) (.rng1 (.bin .mod (.var 3) (.var 4))) (some (.cmp .eq (.call 19 [(.var 0), (.var 2), (.var 6)]) (.var 1))))]),
    .ret (some (.bin .add (.bin .mul (.bin .fdiv (.var 3) (.var 4)) (.var 5)) (.var 7)))]⟩
def m_count_color : MDef := ⟨4, 7, [
    .expr (.call 14 [(.var 0)]),
    .expr (.call 3 [(.var 1)]),
    .expr (.call 15 [(.var 2)]),
    .expr (.call 17 [(.var 0), (.var 3)]),
    .asg 4 (.bin .mul (.cst (.int (2))) (.bcl .len [(.idx (.var 0) (.cst (.int (0))))])),
    .asg 5 (.lcm false (.call 26 [(.var 0), (.var 1), (.var 6), (.var 3)]) [6] (.nm 6) (.rng1 (.bcl .min2 [(.var 4), (.var 2)])) none),
    .ret (some (.bin .add (.bin .mul (.bin .fdiv (.var 2) (.var 4)) (.bcl .sum [(.var 5)])) (.bcl .sum [(.slc (.var 5) none (some (.bin .mod (.var 2) (.var 4))))])))]⟩
def m_first_row : MDef := ⟨3, 4, [
    .expr (.call 14 [(.var 0)]),
    .expr (.call 16 [(.var 0), (.var 1)]),
    .expr (.call 3 [(.var 2)]),
    .forr (.nm 3) (.rng1 (.bin .mul (.cst (.int (2))) (.bcl .len [(.idx (.var 0) (.cst (.int (0))))]))) [.ite (.cmp .eq (.call 19 [(.var 0), (.var 3), (.var 1)]) (.var 2)) [.ret (some (.var 3))] []],
    .ret (some (.cst .non))]⟩
def m_made_up : MDef := ⟨2, 2, [
    .expr (.call 5 [(.var 0)]),
    .expr (.call 1 [(.var 1), (.cst (.int (0))), (.cst (.int (1000000000000)))]),
    .ret (some (.bin .mod (.neg (.var 1)) (.bcl .len [(.call 6 [(.var 0)])])))]⟩
def m_wrong_stitches : MDef := ⟨4, 7, [
    .expr (.call 5 [(.var 0)]),
    .expr (.call 1 [(.var 1), (.cst (.int (0))), (.cst (.int (1000000000000000)))]),
    .expr (.call 1 [(.var 2), (.cst (.int (0))), (.cst (.int (1000000000000)))]),
    .expr (.call 1 [(.var 3), (.cst (.int (0))), (.cst (.int (1000000000000000)))]),
    .asg 4 (.bcl .len [(.var 0)]),
    .asg 5 (.lcm false (.cmp .ne (.idx (.var 0) (.bin .mod (.bin .add (.var 1) (.var 6)) (.var 4))) (.idx (.var 0) (.bin .mod (.bin .add (.bin .add (.var 1) (.var 6)) (.var 2)) (.var 4)))) [6] (.nm 6) (.rng1 (.var 4)) none),
    .ret (some (.bin .add (.bin .mul (.bin .fdiv (.var 3) (.var 4)) (.mth .lcount (.var 5) [(.cst (.bl true))])) (.mth .lcount (.slc (.var 5) none (some (.bin .mod (.var 3) (.var 4)))) [(.cst (.bl true))])))]⟩
def m_smallest_multiple : MDef := ⟨2, 3, [
    .asg 2 (.var 0),
    .whil (.bin .mod (.var 2) (.var 1)) [.aug 2 .add (.var 0)],
    .ret (some (.var 2))]⟩
def m_compared : MDef := ⟨3, 6, [
    .asg 3 (.call 31 [(.bin .mul (.cst (.int (2))) (.bcl .len [(.idx (.var 0) (.cst (.int (0))))])), (.bin .mul (.cst (.int (2))) (.bcl .len [(.idx (.var 1) (.cst (.int (0))))]))]),
    .asg 2 (.bcl .min2 [(.var 2), (.call 31 [(.bcl .len [(.idx (.var 0) (.cst (.int (0))))]), (.bcl .len [(.idx (.var 1) (.cst (.int (0))))])])]),
    .forr (.nm 4) (.rng1 (.var 3)) [.forr (.nm 5) (.rng1 (.var 2)) [.ite (.cmp .ne (.call 19 [(.var 0), (.var 4), (.var 5)]) (.call 19 [(.var 1), (.var 4), (.var 5)])) [.ret (some (.tup [(.var 4), (.var 5)]))] []]],
    .ret (some (.cst .non))]⟩
def m_require_both : MDef := ⟨3, 3, [
    .expr (.call 14 [(.var 0)]),
    .expr (.call 14 [(.var 1)]),
    .expr (.call 17 [(.var 0), (.var 2)]),
    .expr (.call 17 [(.var 1), (.var 2)])]⟩
def m_alike : MDef := ⟨3, 3, [
    .expr (.call 33 [(.var 0), (.var 1), (.var 2)]),
    .ret (some (.isN (.call 32 [(.var 0), (.var 1), (.var 2)])))]⟩
def m_first_unlike : MDef := ⟨3, 3, [
    .expr (.call 33 [(.var 0), (.var 1), (.var 2)]),
    .ret (some (.call 32 [(.var 0), (.var 1), (.var 2)]))]⟩
def m_row_period : MDef := ⟨2, 6, [
    .expr (.call 14 [(.var 0)]),
    .expr (.call 17 [(.var 0), (.var 1)]),
    .asg 2 (.bcl .len [(.idx (.var 0) (.cst (.int (0))))]),
    .asg 3 (.lcm false (.call 22 [(.var 0), (.var 4), (.bcl .min2 [(.var 1), (.var 2)])]) [4] (.nm 4) (.rng1 (.bin .mul (.cst (.int (4))) (.var 2))) none),
    .forr (.nm 5) (.rng2 (.cst (.int (1))) (.bin .mul (.cst (.int (2))) (.var 2))) [.ite (.bcl .all [(.lcm false (.cmp .eq (.idx (.var 3) (.var 4)) (.idx (.var 3) (.bin .add (.var 4) (.var 5)))) [4] (.nm 4) (.rng1 (.bin .mul (.cst (.int (2))) (.var 2))) none)]) [.ret (some (.var 5))] []],
    .ret (some (.bin .mul (.cst (.int (2))) (.var 2)))]⟩
def m_longest_run : MDef := ⟨2, 7, [
    .expr (.call 14 [(.var 0)]),
    .expr (.call 16 [(.var 0), (.var 1)]),
    .asg 2 (.lcm false (.call 19 [(.var 0), (.var 3), (.var 1)]) [3] (.nm 3) (.rng1 (.bin .mul (.cst (.int (4))) (.bcl .len [(.idx (.var 0) (.cst (.int (0))))]))) none),
    .ite (.cmp .eq (.slen (.var 2)) (.cst (.int (1)))) [.ret (some (.cst .non))] [],
    .par [4, 5] [(.cst (.int (0))), (.cst (.int (0)))],
    .forr (.tp [3, 6]) (.enm (.var 2)) [.asg 5 (.ite (.and (.cmp .gt (.var 3) (.cst (.int (0)))) (.cmp .eq (.var 6) (.idx (.var 2) (.bin .sub (.var 3) (.cst (.int (1))))))) (.bin .add (.var 5) (.cst (.int (1)))) (.cst (.int (1)))), .asg 4 (.bcl .max2 [(.var 4), (.var 5)])],
    .ret (some (.var 4))]⟩
def m_require_kind : MDef := ⟨1, 1, [
    .ite (.not (.call 12 [(.var 0)])) [.rais 7] []]⟩
def m_is_calm : MDef := ⟨1, 4, [
    .asg 1 (.bcl .len [(.idx (.var 0) (.cst (.int (0))))]),
    .forr (.nm 2) (.rng1 (.bin .mul (.cst (.int (2))) (.var 1))) [.forr (.nm 3) (.rng1 (.var 1)) [.ite (.cmp .eq (.call 19 [(.var 0), (.var 2), (.var 3)]) (.call 19 [(.var 0), (.bin .add (.var 2) (.cst (.int (1)))), (.var 3)])) [.ret (some (.cst (.bl false)))] []]],
    .ret (some (.cst (.bl true)))]⟩
def m_calm_widths : MDef := ⟨3, 5, [
    .expr (.call 5 [(.var 0)]),
    .expr (.call 1 [(.var 1), (.cst (.int (0))), (.bin .sub (.bcl .len [(.var 0)]) (.cst (.int (1))))]),
    .expr (.call 38 [(.var 2)]),
    .asg 3 (.bcl .len [(.var 0)]),
    .ret (some (.lcm true (.var 4) [4] (.nm 4) (.rng1 (.var 3)) (some (.call 39 [(.tup [(.var 0), (.var 1), (.bin .add (.var 4) (.var 3)), (.var 2)])]))))]⟩
def m_are_seen : MDef := ⟨1, 4, [
    .ite (.or (.not (.isi (.var 0) .tuple)) (.not (.chn .le .le (.cst (.int (1))) (.bcl .len [(.var 0)]) (.cst (.int (30)))))) [.ret (some (.cst (.bl false)))] [],
    .forr (.nm 1) (.seq (.var 0)) [.ite (.or (.not (.isi (.var 1) .tuple)) (.or (.cmp .ne (.bcl .len [(.var 1)]) (.cst (.int (3)))) (.not (.call 2 [(.idx (.var 1) (.cst (.int (2))))])))) [.ret (some (.cst (.bl false)))] [], .ite (.or (.not (.call 0 [(.idx (.var 1) (.cst (.int (0)))), (.cst (.int (0))), (.cst (.int (1000000000000000)))])) (.not (.call 0 [(.idx (.var 1) (.cst (.int (1)))), (.cst (.int (0))), (.cst (.int (1000000000000)))]))) [.ret (some (.cst (.bl false)))] []],
    .ret (some (.bcl .all [(.lcm false (.cmp .lt (.slc (.var 2) none (some (.cst (.int (2))))) (.slc (.var 3) none (some (.cst (.int (2)))))) [2, 3] (.tp [2, 3]) (.zip (.var 0) (.slc (.var 0) (some (.cst (.int (1)))) none)) none)]))]⟩
def m_require_seen : MDef := ⟨1, 1, [
    .ite (.not (.call 41 [(.var 0)])) [.rais 8] []]⟩
def m_place_shown : MDef := ⟨5, 8, [
    .asgT [5, 6, 7] (.var 4),
    .ite (.cmp .eq (.var 1) (.cst (.str [114, 111, 117, 110, 100]))) [.ret (some (.bin .mod (.bin .add (.bin .add (.var 2) (.bin .mul (.var 5) (.var 3))) (.var 6)) (.var 0)))] [],
    .ite (.cmp .eq (.bin .mod (.var 5) (.cst (.int (2)))) (.cst (.int (0)))) [.ret (some (.bin .mod (.bin .add (.bin .add (.var 2) (.bin .mul (.bin .fdiv (.var 5) (.cst (.int (2)))) (.var 3))) (.var 6)) (.var 0)))] [],
    .ret (some (.bin .mod (.bin .sub (.bin .sub (.bin .add (.var 2) (.bin .mul (.bin .add (.bin .fdiv (.var 5) (.cst (.int (2)))) (.cst (.int (1)))) (.var 3))) (.cst (.int (1)))) (.var 6)) (.var 0)))]⟩
def m_moves : MDef := ⟨2, 3, [
    .ret (some (.sset (.lcm false (.call 24 [(.var 0), (.var 2), (.var 1)]) [2] (.nm 2) (.rng1 (.var 0)) none)))]⟩
def m_possible_works : MDef := ⟨3, 8, [
    .expr (.call 5 [(.var 0)]),
    .expr (.call 38 [(.var 1)]),
    .expr (.call 42 [(.var 2)]),
    .par [3, 4] [(.bcl .len [(.var 0)]), (.lst true [])],
    .forr (.nm 5) (.rng1 (.var 3)) [.forr (.nm 6) (.seq (.call 44 [(.var 3), (.var 1)])) [.ite (.bcl .all [(.lcm false (.cmp .eq (.idx (.var 0) (.call 43 [(.var 3), (.var 1), (.var 5), (.var 6), (.var 7)])) (.idx (.var 7) (.cst (.int (2))))) [7] (.nm 7) (.seq (.var 2)) none)]) [.expr (.mth .append (.var 4) [(.tup [(.var 5), (.var 6)])])] []]],
    .ret (some (.var 4))]⟩
def m_moved_widths : MDef := ⟨3, 4, [
    .expr (.call 1 [(.var 0), (.cst (.int (1))), (.cst (.int (20)))]),
    .expr (.call 38 [(.var 1)]),
    .expr (.call 1 [(.var 2), (.cst (.int (0))), (.bin .sub (.var 0) (.cst (.int (1))))]),
    .ret (some (.lcm true (.var 3) [3] (.nm 3) (.rng1 (.var 0)) (some (.cmp .eq (.call 24 [(.var 0), (.var 3), (.var 1)]) (.var 2)))))]⟩
def m_count_widths : MDef := ⟨4, 6, [
    .expr (.call 1 [(.var 0), (.cst (.int (1))), (.cst (.int (20)))]),
    .ite (.or (.not (.isi (.var 1) .tuple)) (.not (.bcl .all [(.lcm false (.call 0 [(.var 4), (.cst (.int (0))), (.bin .sub (.var 0) (.cst (.int (1))))]) [4] (.nm 4) (.seq (.var 1)) none)]))) [.rais 6] [],
    .ite (.not (.bcl .all [(.lcm false (.cmp .lt (.var 4) (.var 5)) [4, 5] (.tp [4, 5]) (.zip (.var 1) (.slc (.var 1) (some (.cst (.int (1)))) none)) none)])) [.rais 6] [],
    .expr (.call 1 [(.var 2), (.cst (.int (1))), (.cst (.int (1000000000000)))]),
    .expr (.call 1 [(.var 3), (.var 2), (.cst (.int (1000000000000)))]),
    .ret (some (.bcl .sum [(.lcm false (.bin .sub (.bin .fdiv (.bin .sub (.var 3) (.var 4)) (.var 0)) (.bin .fdiv (.bin .sub (.bin .sub (.var 2) (.cst (.int (1)))) (.var 4)) (.var 0))) [4] (.nm 4) (.seq (.var 1)) none)]))]⟩
def m_colors_of : MDef := ⟨4, 7, [
    .asg 4 .dct,
    .forr (.nm 5) (.seq (.var 3)) [.asg 6 (.call 43 [(.var 0), (.var 1), (.cst (.int (0))), (.var 2), (.var 5)]), .ite (.cmp .ne (.mth .get2 (.var 4) [(.var 6), (.idx (.var 5) (.cst (.int (2))))]) (.idx (.var 5) (.cst (.int (2))))) [.ret (some (.cst .non))] [], .setI (.var 4) (.var 6) (.idx (.var 5) (.cst (.int (2))))],
    .ret (some (.var 4))]⟩
def m_possible_lengths : MDef := ⟨3, 6, [
    .expr (.call 38 [(.var 0)]),
    .expr (.call 42 [(.var 1)]),
    .expr (.call 1 [(.var 2), (.cst (.int (1))), (.cst (.int (20)))]),
    .asg 3 (.lst true []),
    .forr (.nm 4) (.rng2 (.cst (.int (1))) (.bin .add (.var 2) (.cst (.int (1))))) [.forr (.nm 5) (.seq (.call 44 [(.var 4), (.var 0)])) [.ite (.notN (.call 48 [(.var 4), (.var 0), (.var 5), (.var 1)])) [.expr (.mth .append (.var 3) [(.tup [(.var 4), (.var 5)])])] []]],
    .ret (some (.var 3))]⟩
def m_require_colors : MDef := ⟨1, 4, [
    .ite (.or (.not (.isi (.var 0) .str)) (.not (.chn .le .le (.cst (.int (1))) (.bcl .len [(.var 0)]) (.cst (.int (5)))))) [.rais 5] [],
    .ite (.not (.bcl .all [(.lcm false (.call 2 [(.var 1)]) [1] (.nm 1) (.seq (.var 0)) none)])) [.rais 5] [],
    .ite (.not (.bcl .all [(.lcm false (.cmp .lt (.var 2) (.var 3)) [2, 3] (.tp [2, 3]) (.zip (.var 0) (.slc (.var 0) (some (.cst (.int (1)))) none)) none)])) [.rais 5] []]⟩
def m_count_repeats : MDef := ⟨5, 11, [
    .expr (.call 38 [(.var 0)]),
    .expr (.call 42 [(.var 1)]),
    .expr (.call 1 [(.var 2), (.cst (.int (1))), (.cst (.int (20)))]),
    .expr (.call 1 [(.var 3), (.cst (.int (0))), (.bin .sub (.var 2) (.cst (.int (1))))]),
    .expr (.call 50 [(.var 4)]),
    .asg 5 (.call 48 [(.var 2), (.var 0), (.var 3), (.var 1)]),
    .ite (.or (.cmp .notin (.var 3) (.call 44 [(.var 2), (.var 0)])) (.isN (.var 5))) [.ret (some (.cst (.int (0))))] [],
    .ite (.not (.bcl .all [(.lcm false (.cmp .isin (.var 8) (.var 4)) [6, 7, 8] (.tp [6, 7, 8]) (.seq (.var 1)) none)])) [.ret (some (.cst (.int (0))))] [],
    .asg 9 (.cst (.int (1))),
    .forr (.nm 10) (.rng1 (.bin .sub (.var 2) (.bcl .len [(.var 5)]))) [.asg 9 (.bin .mul (.var 9) (.bcl .len [(.var 4)]))],
    .ret (some (.var 9))]⟩
def m__law_bag : MDef := ⟨2, 4, [
    .asg 2 (.cst (.int (0))),
    .ite (.cmp .lt (.var 1) (.bcl .len [(.var 0)])) [.asg 2 (.bin .mod (.idx (.var 0) (.var 1)) (.bin .pow (.cst (.int (10))) (.cst (.int (60)))))] [],
    .asg 3 (.bin .add (.cst (.int (1))) (.bin .mod (.bin .add (.bin .add (.bin .add (.bin .mul (.bin .mod (.var 2) (.cst (.int (2147483629)))) (.cst (.int (16807)))) (.bin .mul (.bin .mul (.cst (.int (40009))) (.var 1)) (.var 1))) (.bin .mul (.cst (.int (7919))) (.var 1))) (.cst (.int (1009)))) (.cst (.int (2147483645))))),
    .ite (.cmp .lt (.var 2) (.bin .pow (.cst (.int (10))) (.cst (.int (18))))) [.ret (some (.lst true [(.cst (.int (0))), (.var 3)]))] [],
    .ret (some (.lst true [(.var 2), (.var 3)]))]⟩
def m__law_take : MDef := ⟨2, 3, [
    .ite (.cmp .gt (.idx (.var 0) (.cst (.int (0)))) (.cst (.int (0)))) [.asg 2 (.bin .mod (.idx (.var 0) (.cst (.int (0)))) (.var 1)), .setI (.var 0) (.cst (.int (0))) (.bin .fdiv (.idx (.var 0) (.cst (.int (0)))) (.var 1)), .ret (some (.var 2))] [],
    .setI (.var 0) (.cst (.int (1))) (.bin .mod (.bin .mul (.idx (.var 0) (.cst (.int (1)))) (.cst (.int (48271)))) (.cst (.int (2147483647)))),
    .ret (some (.bin .mod (.bin .fdiv (.bin .mod (.bin .mul (.bin .fdiv (.idx (.var 0) (.cst (.int (1)))) (.cst (.int (13)))) (.bin .add (.bin .mod (.idx (.var 0) (.cst (.int (1)))) (.cst (.int (32749)))) (.cst (.int (17))))) (.cst (.int (2147483629)))) (.cst (.int (32)))) (.var 1)))]⟩
def m__law_of : MDef := ⟨2, 2, [
    .ret (some (.idx (.var 1) (.call 53 [(.var 0), (.bcl .len [(.var 1)])])))]⟩
def m__law_repeat : MDef := ⟨2, 7, [
    .asg 2 (.call 54 [(.var 0), (.lst false [(.cst (.str [97, 98])), (.cst (.str [97, 98, 99])), (.cst (.str [97, 122, 113, 102])), (.cst (.str [97, 98, 99, 100, 101, 102, 103, 104]))])]),
    .asg 3 (.bin .add (.cst (.int (1))) (.call 53 [(.var 0), (.var 1)])),
    .asg 4 (.mth .join (.cst (.str [])) [(.lcm false (.idx (.var 2) (.call 53 [(.var 0), (.bcl .len [(.var 2)])])) [5] (.nm 5) (.rng1 (.var 3)) none)]),
    .asg 6 (.call 53 [(.var 0), (.cst (.int (6)))]),
    .ite (.and (.cmp .eq (.var 6) (.cst (.int (0)))) (.cmp .gt (.var 3) (.cst (.int (1))))) [.asg 4 (.slc (.bin .mul (.slc (.var 4) none (some (.bin .fdiv (.bin .add (.var 3) (.cst (.int (1)))) (.cst (.int (2)))))) (.cst (.int (2)))) none (some (.var 3)))] [],
    .ite (.cmp .eq (.var 6) (.cst (.int (1)))) [.asg 4 (.slc (.bin .add (.slc (.var 4) none (some (.bin .fdiv (.bin .add (.var 3) (.cst (.int (1)))) (.cst (.int (2)))))) (.rev (.slc (.var 4) none (some (.bin .fdiv (.var 3) (.cst (.int (2)))))))) none (some (.var 3)))] [],
    .ret (some (.var 4))]⟩
def m__law_work : MDef := ⟨3, 6, [
    .asg 3 (.call 55 [(.var 0), (.var 1)]),
    .asg 4 (.call 54 [(.var 0), (.lst false [(.cst (.str [102, 108, 97, 116])), (.cst (.str [114, 111, 117, 110, 100]))])]),
    .asg 5 (.lst false [(.call 53 [(.var 0), (.var 2)]), (.bin .sub (.bin .add (.bcl .len [(.var 3)]) (.call 53 [(.var 0), (.cst (.int (3)))])) (.cst (.int (1)))), (.call 53 [(.var 0), (.bin .add (.bin .mul (.cst (.int (2))) (.bcl .len [(.var 3)])) (.cst (.int (2))))])]),
    .ret (some (.tup [(.var 3), (.call 53 [(.var 0), (.bcl .len [(.var 3)])]), (.bcl .min2 [(.var 2), (.bin .add (.cst (.int (1))) (.bcl .max2 [(.cst (.int (0))), (.call 54 [(.var 0), (.var 5)])]))]), (.var 4)]))]⟩
def m__law_huge : MDef := ⟨1, 3, [
    .asg 1 (.call 55 [(.var 0), (.cst (.int (20)))]),
    .asg 2 (.bin .add (.bin .add (.bin .mul (.call 53 [(.var 0), (.cst (.int (1000)))]) (.bin .pow (.cst (.int (10))) (.cst (.int (9))))) (.bin .mul (.call 53 [(.var 0), (.cst (.int (1000)))]) (.cst (.int (1000))))) (.call 53 [(.var 0), (.cst (.int (1000)))])),
    .ret (some (.tup [(.var 1), (.call 53 [(.var 0), (.bcl .len [(.var 1)])]), (.bin .add (.bcl .len [(.var 1)]) (.var 2)), (.call 54 [(.var 0), (.lst false [(.cst (.str [102, 108, 97, 116])), (.cst (.str [114, 111, 117, 110, 100]))])])]))]⟩
def m__law_long : MDef := ⟨3, 4, [
    .ret (some (.mth .join (.cst (.str [])) [(.lcm false (.idx (.var 0) (.bin .mod (.var 3) (.bcl .len [(.var 0)]))) [3] (.nm 3) (.rng2 (.var 1) (.bin .add (.var 1) (.var 2))) none)]))]⟩
def m__law_rows : MDef := ⟨2, 10, [
    .asgT [2, 3, 4, 5] (.var 0),
    .asg 6 (.lst true []),
    .forr (.nm 7) (.rng1 (.var 1)) [.asg 8 (.cst (.str [])), .forr (.nm 9) (.rng1 (.var 4)) [.asg 8 (.bin .add (.var 8) (.idx (.var 2) (.bin .mod (.var 3) (.bcl .len [(.var 2)])))), .asg 3 (.bin .add (.var 3) (.cst (.int (1))))], .expr (.mth .append (.var 6) [(.ite (.and (.cmp .eq (.var 5) (.cst (.str [102, 108, 97, 116]))) (.cmp .eq (.bin .mod (.var 7) (.cst (.int (2)))) (.cst (.int (1))))) (.rev (.var 8)) (.var 8))])],
    .ret (some (.var 6))]⟩
def m__law_seen : MDef := ⟨3, 14, [
    .asgT [3, 4, 5, 6] (.var 1),
    .asg 7 .dct,
    .forr (.nm 8) (.rng1 (.bin .add (.cst (.int (1))) (.call 53 [(.var 0), (.cst (.int (9)))]))) [.par [9, 10] [(.call 53 [(.var 0), (.var 2)]), (.call 53 [(.var 0), (.var 5)])], .asg 11 (.and (.cmp .eq (.var 6) (.cst (.str [102, 108, 97, 116]))) (.cmp .eq (.bin .mod (.var 9) (.cst (.int (2)))) (.cst (.int (1))))), .asg 12 (.bin .add (.bin .add (.var 4) (.bin .mul (.var 9) (.var 5))) (.ite (.var 11) (.bin .sub (.bin .sub (.var 5) (.cst (.int (1)))) (.var 10)) (.var 10))), .setI (.var 7) (.tup [(.var 9), (.var 10)]) (.idx (.var 3) (.bin .mod (.var 12) (.bcl .len [(.var 3)])))],
    .ite (.cmp .eq (.call 53 [(.var 0), (.cst (.int (4)))]) (.cst (.int (0)))) [.setI (.var 7) (.idx (.srt (.var 7)) (.cst (.int (0)))) (.call 54 [(.var 0), (.bin .add (.bcl .list [(.var 3)]) (.lst false [(.cst (.str [98]))]))])] [],
    .ret (some (.bcl .tuple [(.lcm false (.tup [(.idx (.var 13) (.cst (.int (0)))), (.idx (.var 13) (.cst (.int (1)))), (.idx (.var 7) (.var 13))]) [13] (.nm 13) (.seq (.srt (.var 7))) none)]))]⟩
def m_Yarn___init__ : MDef := ⟨2, 2, [
    .expr (.call 5 [(.var 1)]),
    .ret (some (.new 0 [(.var 1)]))]⟩
def m_Yarn_repeat : MDef := ⟨1, 1, [
    .ret (some (.att 0 0 (.var 0)))]⟩
def m_Yarn___len__ : MDef := ⟨1, 1, [
    .ret (some (.bcl .len [(.att 0 0 (.var 0))]))]⟩
def m_Yarn___getitem__ : MDef := ⟨2, 2, [
    .expr (.call 1 [(.var 1), (.cst (.int (0))), (.cst (.int (1000000000000000)))]),
    .ret (some (.idx (.att 0 0 (.var 0)) (.bin .mod (.var 1) (.bcl .len [(.att 0 0 (.var 0))]))))]⟩
def m_Yarn___call__ : MDef := ⟨2, 2, [
    .expr (.call 1 [(.var 1), (.cst (.int (0))), (.cst (.int (1000)))]),
    .ret (some (.slc (.bin .mul (.att 0 0 (.var 0)) (.bin .add (.bin .fdiv (.var 1) (.bcl .len [(.att 0 0 (.var 0))])) (.cst (.int (1))))) none (some (.var 1))))]⟩
def m_Yarn___add__ : MDef := ⟨2, 2, [
    .ite (.cmp .gt (.bin .add (.bcl .len [(.att 0 0 (.var 0))]) (.bcl .len [(.att 0 0 (.var 1))])) (.cst (.int (20)))) [.rais 9] [],
    .ret (some (.mk 61 [(.bin .add (.att 0 0 (.var 0)) (.att 0 0 (.var 1)))]))]⟩
def m_Yarn___neg__ : MDef := ⟨1, 1, [
    .ret (some (.mk 61 [(.rev (.att 0 0 (.var 0)))]))]⟩
def m_Yarn___lshift__ : MDef := ⟨2, 2, [
    .expr (.call 1 [(.var 1), (.cst (.int (0))), (.cst (.int (1000000000000000)))]),
    .ret (some (.mk 61 [(.call 8 [(.att 0 0 (.var 0)), (.var 1)])]))]⟩
def m_Yarn___eq__ : MDef := ⟨2, 2, [
    .ret (some (.and (.iso 0 (.var 1)) (.cmp .eq (.call 6 [(.att 0 0 (.var 0))]) (.call 6 [(.att 0 0 (.var 1))]))))]⟩
def m_Yarn___contains__ : MDef := ⟨2, 2, [
    .ret (some (.and (.isi (.var 1) .str) (.and (.cmp .eq (.bcl .len [(.var 1)]) (.cst (.int (1)))) (.cmp .isin (.var 1) (.att 0 0 (.var 0))))))]⟩
def coreT (f : Nat) : Option MDef :=
  match f with
  | 0 => some m_is_integer
  | 1 => some m_require_number
  | 2 => some m_is_color
  | 3 => some m_require_color
  | 4 => some m_is_repeat
  | 5 => some m_require_repeat
  | 6 => some m_root
  | 7 => some m_shortest
  | 8 => some m_turned
  | 9 => some m_shift_of
  | 10 => some m_shift
  | 11 => some m_is_mirror
  | 12 => some m_is_kind
  | 13 => some m_is_work
  | 14 => some m_require_work
  | 15 => some m_require_row
  | 16 => some m_require_column
  | 17 => some m_require_columns
  | 18 => some m_number_at
  | 19 => some m_color_of
  | 20 => some m_stitch_at
  | 21 => some m_color_at
  | 22 => some m_text_of
  | 23 => some m_row_text
  | 24 => some m_move_of
  | 25 => some m_move
  | 26 => some m_in_row
  | 27 => some m_count_color
  | 28 => some m_first_row
  | 29 => some m_made_up
  | 30 => some m_wrong_stitches
  | 31 => some m_smallest_multiple
  | 32 => some m_compared
  | 33 => some m_require_both
  | 34 => some m_alike
  | 35 => some m_first_unlike
  | 36 => some m_row_period
  | 37 => some m_longest_run
  | 38 => some m_require_kind
  | 39 => some m_is_calm
  | 40 => some m_calm_widths
  | 41 => some m_are_seen
  | 42 => some m_require_seen
  | 43 => some m_place_shown
  | 44 => some m_moves
  | 45 => some m_possible_works
  | 46 => some m_moved_widths
  | 47 => some m_count_widths
  | 48 => some m_colors_of
  | 49 => some m_possible_lengths
  | 50 => some m_require_colors
  | 51 => some m_count_repeats
  | 52 => some m__law_bag
  | 53 => some m__law_take
  | 54 => some m__law_of
  | 55 => some m__law_repeat
  | 56 => some m__law_work
  | 57 => some m__law_huge
  | 58 => some m__law_long
  | 59 => some m__law_rows
  | 60 => some m__law_seen
  | 61 => some m_Yarn___init__
  | 62 => some m_Yarn_repeat
  | 63 => some m_Yarn___len__
  | 64 => some m_Yarn___getitem__
  | 65 => some m_Yarn___call__
  | 66 => some m_Yarn___add__
  | 67 => some m_Yarn___neg__
  | 68 => some m_Yarn___lshift__
  | 69 => some m_Yarn___eq__
  | 70 => some m_Yarn___contains__
  | _ => none
end Mn
end
section
set_option Elab.async false
set_option linter.all false
set_option maxRecDepth 100000
set_option maxHeartbeats 0
/-! D16: the defs of the law (written by gen.py). -/
namespace Lk16
open Mn
def m__law_signs_right : MDef := ⟨2, 9, [
    .par [2, 3, 4] [(.mk 61 [(.var 0)]), (.mk 61 [(.var 1)]), (.bin .mul (.bcl .len [(.var 0)]) (.bcl .len [(.var 1)]))],
    .ite (.or (.cmp .ne (.mcl .len 0 63 (.var 2) []) (.bcl .len [(.var 0)])) (.or (.cmp .ne (.mcl .sub 0 62 (.var 2) []) (.var 0)) (.or (.cmp .ne (.mcl .call 0 65 (.var 2) [(.cst (.int (0)))]) (.cst (.str []))) (.cmp .ne (.mcl .call 0 65 (.var 2) [(.cst (.int (70)))]) (.call 58 [(.var 0), (.cst (.int (0))), (.cst (.int (70)))]))))) [.ret (some (.cst (.bl false)))] [],
    .ite (.cmp .ne (.lcm false (.mcl .sub 0 64 (.var 2) [(.var 5)]) [5] (.nm 5) (.rng1 (.cst (.int (45)))) none) (.bcl .list [(.call 58 [(.var 0), (.cst (.int (0))), (.cst (.int (45)))])])) [.ret (some (.cst (.bl false)))] [],
    .ite (.cmp .ne (.lcm false (.var 6) [6] (.nm 6) (.seq (.cst (.str [97, 98, 99, 100, 101, 102, 103, 104, 109, 113, 122]))) (some (.cmp .ne (.mcr 0 70 (.var 6) (.var 2)) (.cmp .isin (.var 6) (.bcl .list [(.var 0)]))))) (.lst false [])) [.ret (some (.cst (.bl false)))] [],
    .ite (.or (.mcr 0 70 (.cst (.str [])) (.var 2)) (.or (.mcr 0 70 (.cst .non) (.var 2)) (.or (.and (.cmp .gt (.bcl .len [(.var 0)]) (.cst (.int (1)))) (.mcr 0 70 (.var 0) (.var 2))) (.mcr 0 70 (.cst (.int (0))) (.var 2))))) [.ret (some (.cst (.bl false)))] [],
    .asg 7 (.cmp .eq (.call 58 [(.var 0), (.cst (.int (0))), (.var 4)]) (.call 58 [(.var 1), (.cst (.int (0))), (.var 4)])),
    .ite (.or (.cmp .ne (.mcl .eq 0 69 (.var 2) [(.var 3)]) (.var 7)) (.or (.cmp .eq (.mcl .ne 0 69 (.var 2) [(.var 3)]) (.var 7)) (.or (.mcl .eq 0 69 (.var 2) [(.var 0)]) (.not (.mcl .eq 0 69 (.var 2) [(.mk 61 [(.var 0)])]))))) [.ret (some (.cst (.bl false)))] [],
    .ite (.or (.cmp .ne (.mcl .sub 0 62 (.mcl .sub 0 67 (.var 2) []) []) (.rev (.var 0))) (.or (.mcl .ne 0 69 (.mcl .sub 0 67 (.mcl .sub 0 67 (.var 2) []) []) [(.var 2)]) (.cmp .ne (.mcl .sub 0 62 (.var 2) []) (.var 0)))) [.ret (some (.cst (.bl false)))] [],
    .ite (.cmp .le (.bin .add (.bcl .len [(.var 0)]) (.bcl .len [(.var 1)])) (.cst (.int (20)))) [.asg 8 (.mcl .add 0 66 (.var 2) [(.var 3)]), .ite (.or (.cmp .ne (.mcl .sub 0 62 (.var 8) []) (.bin .add (.var 0) (.var 1))) (.or (.cmp .ne (.mcl .call 0 65 (.var 8) [(.cst (.int (60)))]) (.call 58 [(.bin .add (.var 0) (.var 1)), (.cst (.int (0))), (.cst (.int (60)))])) (.cmp .ne (.mcl .sub 0 62 (.var 2) []) (.var 0)))) [.ret (some (.cst (.bl false)))] []] [],
    .ret (some (.cst (.bl true)))]⟩
def m_law : MDef := ⟨1, 11, [
    .forr (.nm 1) (.rng1 (.bin .add (.bcl .min2 [(.bcl .len [(.var 0)]), (.cst (.int (8)))]) (.cst (.int (2))))) [.asg 2 (.call 52 [(.var 0), (.var 1)]), .asg 3 (.call 55 [(.var 2), (.cst (.int (20)))]), .asg 4 (.call 53 [(.var 2), (.cst (.int (60)))]), .asg 5 (.call 58 [(.var 3), (.var 4), (.bcl .len [(.var 3)])]), .asg 6 (.lst false [(.call 55 [(.var 2), (.cst (.int (20)))]), (.call 55 [(.var 2), (.cst (.int (3)))]), (.var 5), (.rev (.var 3)), (.slc (.bin .mul (.var 3) (.cst (.int (2)))) none (some (.cst (.int (20)))))]), .ite (.cmp .ne (.lcm false (.var 7) [7] (.nm 7) (.seq (.var 6)) (some (.not (.call 100 [(.var 3), (.var 7)])))) (.lst false [])) [.ret (some (.cst (.bl false)))] [], .asg 8 (.mk 61 [(.var 3)]), .ite (.or (.cmp .ne (.mcl .sub 0 62 (.mcl .shl 0 68 (.var 8) [(.var 4)]) []) (.var 5)) (.or (.cmp .ne (.mcl .call 0 65 (.mcl .shl 0 68 (.var 8) [(.var 4)]) [(.cst (.int (50)))]) (.call 58 [(.var 3), (.var 4), (.cst (.int (50)))])) (.mcl .ne 0 69 (.mcl .shl 0 68 (.var 8) [(.cst (.int (0)))]) [(.var 8)]))) [.ret (some (.cst (.bl false)))] [], .asg 9 (.bin .mul (.call 53 [(.var 2), (.cst (.int (1000)))]) (.bin .pow (.cst (.int (10))) (.cst (.int (12))))), .ite (.or (.cmp .ne (.mcl .sub 0 64 (.mcl .shl 0 68 (.var 8) [(.var 9)]) [(.var 4)]) (.mcl .sub 0 64 (.var 8) [(.bin .add (.var 9) (.var 4))])) (.mcl .ne 0 69 (.mcl .shl 0 68 (.mcl .shl 0 68 (.var 8) [(.var 4)]) [(.cst (.int (7)))]) [(.mcl .shl 0 68 (.var 8) [(.bin .add (.var 4) (.cst (.int (7))))])])) [.ret (some (.cst (.bl false)))] [], .ite (.or (.cmp .ne (.mcl .sub 0 62 (.mcl .shl 0 68 (.var 8) [(.bcl .len [(.var 3)])]) []) (.var 3)) (.mcl .ne 0 69 (.mk 61 [(.bin .add (.var 3) (.slc (.var 3) none (some (.cst (.int (0))))))]) [(.var 8)])) [.ret (some (.cst (.bl false)))] []],
    .asg 10 (.mk 61 [(.cst (.str [97, 97, 98, 98]))]),
    .ite (.cmp .ne (.lst false [(.mcl .sub 0 64 (.var 10) [(.cst (.int (6)))]), (.mcl .len 0 63 (.var 10) []), (.mcl .call 0 65 (.mcl .shl 0 68 (.var 10) [(.cst (.int (1)))]) [(.cst (.int (6)))]), (.mcr 0 70 (.cst (.str [99])) (.var 10)), (.mcl .eq 0 69 (.var 10) [(.mk 61 [(.cst (.str [97, 97, 98, 98, 97, 97, 98, 98]))])])]) (.lst false [(.cst (.str [98])), (.cst (.int (4))), (.cst (.str [97, 98, 98, 97, 97, 98])), (.cst (.bl false)), (.cst (.bl true))])) [.ret (some (.cst (.bl false)))] [],
    .ret (some (.cmp .eq (.lst false [(.mcl .call 0 65 (.mcl .sub 0 67 (.var 10) []) [(.cst (.int (4)))]), (.mcl .call 0 65 (.mcl .add 0 66 (.var 10) [(.mk 61 [(.cst (.str [99]))])]) [(.cst (.int (7)))]), (.mcl .sub 0 62 (.mcl .shl 0 68 (.var 10) [(.cst (.int (6)))]) [])]) (.lst false [(.cst (.str [98, 98, 97, 97])), (.cst (.str [97, 97, 98, 98, 99, 97, 97])), (.cst (.str [98, 98, 97, 97]))])))]⟩
def lawT (f : Nat) : Option MDef :=
  match f with
  | 100 => some m__law_signs_right
  | 101 => some m_law
  | _ => none
def T (f : Nat) : Option MDef := if f < 100 then coreT f else lawT f
theorem hT (f : Nat) (h : f < 100) : T f = coreT f := if_pos h
end Lk16
end
section
set_option Elab.async false
set_option linter.all false
set_option maxRecDepth 100000
set_option maxHeartbeats 0
namespace Lk16
open PySem PySem.Spec PyProof.Rows L2 Mn
abbrev prg : Program := PySem.Challenge.pw_yarnpools_k16_whole_yarns_as_objects
def top (i : Nat) : Stmt := prg.main.body.getD i (.Pass ⟨0, 0, 0, 0⟩)
def topC (i j : Nat) : Stmt := match top i with
  | .ClassDef _ _ _ b _ _ _ _ _ _ _ => b.getD j (.Pass ⟨0, 0, 0, 0⟩)
  | s => s
def ms : Mts := [(0, true, "repeat", 62), (0, false, "__len__", 63), (0, false, "__getitem__", 64), (0, false, "__call__", 65), (0, false, "__add__", 66), (0, false, "__neg__", 67), (0, false, "__lshift__", 68), (0, false, "__eq__", 69), (0, false, "__contains__", 70)]
def es0 : Ents := [("InvalidNumber", .exc 6), ("InvalidRepeat", .exc 1), ("LETTERS", .str [97, 98, 99, 100, 101, 102, 103, 104, 105, 106, 107, 108, 109, 110, 111, 112, 113, 114, 115, 116, 117, 118, 119, 120, 121, 122]), ("LONGEST", .int 20), ("SHOWN", .int 1000), ("STITCHES", .int 1000000000000000), ("TooMany", .exc 9), ("Yarn", .cls 0 61), ("_law_bag", .fn 52), ("_law_long", .fn 58), ("_law_of", .fn 54), ("_law_repeat", .fn 55), ("_law_signs_right", .fn 100), ("_law_take", .fn 53), ("all", .blt), ("bool", .blt), ("int", .blt), ("is_integer", .fn 0), ("is_repeat", .fn 4), ("isinstance", .blt)]
def es1 : Ents := [("law", .fn 101), ("len", .blt), ("list", .blt), ("max", .blt), ("min", .blt), ("range", .blt), ("require_number", .fn 1), ("require_repeat", .fn 5), ("root", .fn 6), ("str", .blt), ("turned", .fn 8)]
def es : Ents := es0 ++ es1
theorem codes_eq : (excs es).map (·.2) = [6, 1, 9] := by decide +kernel
def d_is_integer : DRec := ⟨0, "is_integer", none, top 8, ["value", "low", "high"], ["value", "low", "high"], fun _ => false, [], fun _ => false, [], [], [], m_is_integer⟩
theorem g_is_integer : DGood es ms d_is_integer := ⟨by decide +kernel, rfl, rfl, by kernel_rfl, fun _ _ _ F => FunD.bindsN F fun _ _ _ _ _ _ us hl => match us, hl with | [_, _, _], _ => rfl⟩
def d_require_number : DRec := ⟨1, "require_number", none, top 9, ["value", "low", "high"], ["value", "low", "high"], fun _ => false, [], fun _ => false, [], [], [], m_require_number⟩
theorem g_require_number : DGood es ms d_require_number := ⟨by decide +kernel, rfl, rfl, by kernel_rfl, fun _ _ _ F => FunD.bindsN F fun _ _ _ _ _ _ us hl => match us, hl with | [_, _, _], _ => rfl⟩
def d_is_repeat : DRec := ⟨4, "is_repeat", none, top 10, ["value"], ["value", "letter"], fun _ => false, [], fun _ => false, [], [], [], m_is_repeat⟩
theorem g_is_repeat : DGood es ms d_is_repeat := ⟨by decide +kernel, rfl, rfl, by kernel_rfl, fun _ _ _ F => FunD.bindsN F fun _ _ _ _ _ _ us hl => match us, hl with | [_], _ => rfl⟩
def d_require_repeat : DRec := ⟨5, "require_repeat", none, top 11, ["repeat"], ["repeat"], fun _ => false, [], fun _ => false, [], [], [], m_require_repeat⟩
theorem g_require_repeat : DGood es ms d_require_repeat := ⟨by decide +kernel, rfl, rfl, by kernel_rfl, fun _ _ _ F => FunD.bindsN F fun _ _ _ _ _ _ us hl => match us, hl with | [_], _ => rfl⟩
def d_root : DRec := ⟨6, "root", none, top 12, ["repeat"], ["repeat", "length"], fun _ => false, [], fun _ => false, [], [], [], m_root⟩
theorem g_root : DGood es ms d_root := ⟨by decide +kernel, rfl, rfl, by kernel_rfl, fun _ _ _ F => FunD.bindsN F fun _ _ _ _ _ _ us hl => match us, hl with | [_], _ => rfl⟩
def d_turned : DRec := ⟨8, "turned", none, top 13, ["repeat", "number"], ["repeat", "number", "at"], fun _ => false, [], fun _ => false, [], [], [], m_turned⟩
theorem g_turned : DGood es ms d_turned := ⟨by decide +kernel, rfl, rfl, by kernel_rfl, fun _ _ _ F => FunD.bindsN F fun _ _ _ _ _ _ us hl => match us, hl with | [_, _], _ => rfl⟩
def d__law_bag : DRec := ⟨52, "_law_bag", none, top 19, ["script", "k"], ["script", "k", "cell", "seed"], fun p => (p.line == 85 && p.col == 11) || (p.line == 84 && p.col == 15), [], fun _ => false, [], [], [], m__law_bag⟩
theorem g__law_bag : DGood es ms d__law_bag := ⟨by decide +kernel, rfl, rfl, by kernel_rfl, fun _ _ _ F => FunD.bindsN F fun _ _ _ _ _ _ us hl => match us, hl with | [_, _], _ => rfl⟩
def d__law_take : DRec := ⟨53, "_law_take", none, top 20, ["bag", "count"], ["bag", "count", "found"], fun _ => false, [], fun _ => false, [], [], [], m__law_take⟩
theorem g__law_take : DGood es ms d__law_take := ⟨by decide +kernel, rfl, rfl, by kernel_rfl, fun _ _ _ F => FunD.bindsN F fun _ _ _ _ _ _ us hl => match us, hl with | [_, _], _ => rfl⟩
def d__law_of : DRec := ⟨54, "_law_of", none, top 21, ["bag", "some"], ["bag", "some"], fun _ => false, [], fun _ => false, [], [], [], m__law_of⟩
theorem g__law_of : DGood es ms d__law_of := ⟨by decide +kernel, rfl, rfl, by kernel_rfl, fun _ _ _ F => FunD.bindsN F fun _ _ _ _ _ _ us hl => match us, hl with | [_, _], _ => rfl⟩
def d__law_repeat : DRec := ⟨55, "_law_repeat", none, top 22, ["bag", "most"], ["bag", "most", "letters", "size", "text", "turn", "way"], fun _ => false, [], fun _ => false, [], [], [], m__law_repeat⟩
theorem g__law_repeat : DGood es ms d__law_repeat := ⟨by decide +kernel, rfl, rfl, by kernel_rfl, fun _ _ _ F => FunD.bindsN F fun _ _ _ _ _ _ us hl => match us, hl with | [_, _], _ => rfl⟩
def d__law_work : DRec := ⟨56, "_law_work", none, top 23, ["bag", "most", "wide"], ["bag", "most", "wide", "text", "kind", "some"], fun _ => false, [], fun _ => false, [], [], [], m__law_work⟩
theorem g__law_work : DGood es ms d__law_work := ⟨by decide +kernel, rfl, rfl, by kernel_rfl, fun _ _ _ F => FunD.bindsN F fun _ _ _ _ _ _ us hl => match us, hl with | [_, _, _], _ => rfl⟩
def d__law_huge : DRec := ⟨57, "_law_huge", none, top 24, ["bag"], ["bag", "text", "width"], fun _ => false, [], fun _ => false, [], [], [], m__law_huge⟩
theorem g__law_huge : DGood es ms d__law_huge := ⟨by decide +kernel, rfl, rfl, by kernel_rfl, fun _ _ _ F => FunD.bindsN F fun _ _ _ _ _ _ us hl => match us, hl with | [_], _ => rfl⟩
def d__law_long : DRec := ⟨58, "_law_long", none, top 25, ["text", "first", "size"], ["text", "first", "size", "at"], fun _ => false, [], fun _ => false, [], [], [], m__law_long⟩
theorem g__law_long : DGood es ms d__law_long := ⟨by decide +kernel, rfl, rfl, by kernel_rfl, fun _ _ _ F => FunD.bindsN F fun _ _ _ _ _ _ us hl => match us, hl with | [_, _, _], _ => rfl⟩
def d__law_signs_right : DRec := ⟨100, "_law_signs_right", none, top 26, ["text", "other"], ["text", "other", "one", "two", "many", "at", "color", "same", "both_so"], fun _ => false, [], fun _ => false, [("one", 0), ("two", 0), ("both_so", 0)], [], [], m__law_signs_right⟩
theorem g__law_signs_right : DGood es ms d__law_signs_right := ⟨by decide +kernel, rfl, rfl, by kernel_rfl, fun _ _ _ F => FunD.bindsN F fun _ _ _ _ _ _ us hl => match us, hl with | [_, _], _ => rfl⟩
def d_law : DRec := ⟨101, "law", none, top 27, ["script"], ["script", "k", "bag", "text", "at", "turned_so", "some", "other", "one", "more", "y"], fun _ => false, [], fun _ => false, [("one", 0), ("y", 0)], [], [], m_law⟩
theorem g_law : DGood es ms d_law := ⟨by decide +kernel, rfl, rfl, by kernel_rfl, fun _ _ _ F => FunD.bindsN F fun _ _ _ _ _ _ us hl => match us, hl with | [_], _ => rfl⟩
def d_Yarn___init__ : DRec := ⟨61, "Yarn", some (false, "__init__"), topC 17 0, ["self", "repeat"], ["self", "repeat"], fun _ => false, [], fun _ => false, [("self", 0)], [], [], m_Yarn___init__⟩
def x_Yarn___init__ : CC := { d_Yarn___init__.cc es ms with ex := some ("self", 0, 999) }
def mp_Yarn___init__ : List MS := m_Yarn___init__.body.dropLast
def mf_Yarn___init__ : List ME := match m_Yarn___init__.body.getLast? with
  | some (.ret (some (.new _ b))) => b
  | _ => []
theorem g_Yarn___init__ : IGood es ms d_Yarn___init__ 0 1 := ⟨by decide +kernel, rfl, rfl, ⟨"self", ["repeat"], mp_Yarn___init__, mf_Yarn___init__, rfl, rfl, by decide +kernel, by decide +kernel, by decide +kernel, by kernel_rfl, by kernel_rfl, rfl⟩, fun _ _ _ F => FunD.bindsN F fun _ _ _ _ _ _ us hl => match us, hl with | [_, _], _ => rfl⟩
def d_Yarn_repeat : DRec := ⟨62, "Yarn", some (true, "repeat"), topC 17 1, ["self"], ["self"], fun _ => false, [], fun _ => false, [("self", 0)], [], [], m_Yarn_repeat⟩
theorem g_Yarn_repeat : DGood es ms d_Yarn_repeat := ⟨by decide +kernel, rfl, rfl, by kernel_rfl, fun _ _ _ F => FunD.bindsN F fun _ _ _ _ _ _ us hl => match us, hl with | [_], _ => rfl⟩
def d_Yarn___len__ : DRec := ⟨63, "Yarn", some (false, "__len__"), topC 17 2, ["self"], ["self"], fun _ => false, [], fun _ => false, [("self", 0)], [], [], m_Yarn___len__⟩
theorem g_Yarn___len__ : DGood es ms d_Yarn___len__ := ⟨by decide +kernel, rfl, rfl, by kernel_rfl, fun _ _ _ F => FunD.bindsN F fun _ _ _ _ _ _ us hl => match us, hl with | [_], _ => rfl⟩
def d_Yarn___getitem__ : DRec := ⟨64, "Yarn", some (false, "__getitem__"), topC 17 4, ["self", "number"], ["self", "number"], fun _ => false, [], fun _ => false, [("self", 0)], [], [], m_Yarn___getitem__⟩
theorem g_Yarn___getitem__ : DGood es ms d_Yarn___getitem__ := ⟨by decide +kernel, rfl, rfl, by kernel_rfl, fun _ _ _ F => FunD.bindsN F fun _ _ _ _ _ _ us hl => match us, hl with | [_, _], _ => rfl⟩
def d_Yarn___call__ : DRec := ⟨65, "Yarn", some (false, "__call__"), topC 17 5, ["self", "number"], ["self", "number"], fun _ => false, [], fun _ => false, [("self", 0)], [], [], m_Yarn___call__⟩
theorem g_Yarn___call__ : DGood es ms d_Yarn___call__ := ⟨by decide +kernel, rfl, rfl, by kernel_rfl, fun _ _ _ F => FunD.bindsN F fun _ _ _ _ _ _ us hl => match us, hl with | [_, _], _ => rfl⟩
def d_Yarn___add__ : DRec := ⟨66, "Yarn", some (false, "__add__"), topC 17 6, ["self", "other"], ["self", "other"], fun _ => false, [], fun _ => false, [("self", 0), ("other", 0)], [], [], m_Yarn___add__⟩
theorem g_Yarn___add__ : DGood es ms d_Yarn___add__ := ⟨by decide +kernel, rfl, rfl, by kernel_rfl, fun _ _ _ F => FunD.bindsN F fun _ _ _ _ _ _ us hl => match us, hl with | [_, _], _ => rfl⟩
def d_Yarn___neg__ : DRec := ⟨67, "Yarn", some (false, "__neg__"), topC 17 7, ["self"], ["self"], fun _ => false, [], fun _ => false, [("self", 0)], [], [], m_Yarn___neg__⟩
theorem g_Yarn___neg__ : DGood es ms d_Yarn___neg__ := ⟨by decide +kernel, rfl, rfl, by kernel_rfl, fun _ _ _ F => FunD.bindsN F fun _ _ _ _ _ _ us hl => match us, hl with | [_], _ => rfl⟩
def d_Yarn___lshift__ : DRec := ⟨68, "Yarn", some (false, "__lshift__"), topC 17 8, ["self", "number"], ["self", "number"], fun _ => false, [], fun _ => false, [("self", 0)], [], [], m_Yarn___lshift__⟩
theorem g_Yarn___lshift__ : DGood es ms d_Yarn___lshift__ := ⟨by decide +kernel, rfl, rfl, by kernel_rfl, fun _ _ _ F => FunD.bindsN F fun _ _ _ _ _ _ us hl => match us, hl with | [_, _], _ => rfl⟩
def d_Yarn___eq__ : DRec := ⟨69, "Yarn", some (false, "__eq__"), topC 17 9, ["self", "other"], ["self", "other"], fun _ => false, [], fun _ => false, [("self", 0), ("other", 0)], [], [], m_Yarn___eq__⟩
theorem g_Yarn___eq__ : DGood es ms d_Yarn___eq__ := ⟨by decide +kernel, rfl, rfl, by kernel_rfl, fun _ _ _ F => FunD.bindsN F fun _ _ _ _ _ _ us hl => match us, hl with | [_, _], _ => rfl⟩
def d_Yarn___contains__ : DRec := ⟨70, "Yarn", some (false, "__contains__"), topC 17 10, ["self", "value"], ["self", "value"], fun _ => false, [], fun _ => false, [("self", 0)], [], [], m_Yarn___contains__⟩
theorem g_Yarn___contains__ : DGood es ms d_Yarn___contains__ := ⟨by decide +kernel, rfl, rfl, by kernel_rfl, fun _ _ _ F => FunD.bindsN F fun _ _ _ _ _ _ us hl => match us, hl with | [_, _], _ => rfl⟩
def dg : List DRec := [d_is_integer, d_require_number, d_is_repeat, d_require_repeat, d_root, d_turned, d__law_bag, d__law_take, d__law_of, d__law_repeat, d__law_work, d__law_huge, d__law_long, d__law_signs_right, d_law, d_Yarn_repeat, d_Yarn___len__, d_Yarn___getitem__, d_Yarn___call__, d_Yarn___add__, d_Yarn___neg__, d_Yarn___lshift__, d_Yarn___eq__, d_Yarn___contains__]
def dx : List DRec := []
def di : List (Nat × DRec) := [(0, d_Yarn___init__)]
def ds : List DRec := dg ++ (dx ++ di.map (·.2))
def eid (k : Nat) : PySem.Str :=
  match k with
  | 0 => "YarnError"
  | 1 => "InvalidRepeat"
  | 6 => "InvalidNumber"
  | 9 => "TooMany"
  | _ => Str.empty
def nm0 : List PySem.Str := ["YarnError", "InvalidRepeat", "InvalidNumber", "TooMany", "LETTERS", "LONGEST", "is_integer", "require_number", "is_repeat", "require_repeat", "root", "turned", "STITCHES", "SHOWN", "Yarn", "_law_bag", "_law_take", "_law_of", "_law_repeat", "_law_work", "_law_huge", "_law_long", "_law_signs_right"]
def names : List PySem.Str := nm0
abbrev hdR : PySem.W.OpenRow := PySem.W.OpenLaw.row PySem.Challenge.rw_yarnpools_k16_whole_yarns_as_objects
def tx : TX := ⟨es, ms, ds, eid⟩
abbrev hk : PySem.W.Hook := hookM 7 tx
def ob (s : PySem.W.SharedT) : AlM := obsMG 7 tx (HandSHeadRun.getT s)
theorem ob_eq (s : PySem.W.SharedT) : ob s = hk.obs s.abs := obsMG_eq (HandSHeadRun.getT_eq s)
theorem run (w : World) : HandSHeadRun.RunEq hdR (PySem.W.view hdR.prog [27]) hk ob 9000 names w := by
  intro os
  kernel_rfl
theorem good : ∀ d ∈ dg, DGood es ms d := by
  intro d hd
  simp only [dg, List.mem_cons, List.not_mem_nil, or_false] at hd
  rcases hd with rfl | rfl | rfl | rfl | rfl | rfl | rfl | rfl | rfl | rfl | rfl | rfl | rfl | rfl | rfl | rfl | rfl | rfl | rfl | rfl | rfl | rfl | rfl | rfl
  · exact g_is_integer
  · exact g_require_number
  · exact g_is_repeat
  · exact g_require_repeat
  · exact g_root
  · exact g_turned
  · exact g__law_bag
  · exact g__law_take
  · exact g__law_of
  · exact g__law_repeat
  · exact g__law_work
  · exact g__law_huge
  · exact g__law_long
  · exact g__law_signs_right
  · exact g_law
  · exact g_Yarn_repeat
  · exact g_Yarn___len__
  · exact g_Yarn___getitem__
  · exact g_Yarn___call__
  · exact g_Yarn___add__
  · exact g_Yarn___neg__
  · exact g_Yarn___lshift__
  · exact g_Yarn___eq__
  · exact g_Yarn___contains__
theorem tabs : ∀ d ∈ dg, T d.f = some d.m := by
  intro d hd
  simp only [dg, List.mem_cons, List.not_mem_nil, or_false] at hd
  rcases hd with rfl | rfl | rfl | rfl | rfl | rfl | rfl | rfl | rfl | rfl | rfl | rfl | rfl | rfl | rfl | rfl | rfl | rfl | rfl | rfl | rfl | rfl | rfl | rfl <;> rfl
theorem law_in : d_law ∈ ds := List.mem_append_left _ (by unfold dg; simp only [List.mem_cons, true_or, or_true])
theorem sub_g : ∀ d ∈ dg, d ∈ ds := fun d hd => List.mem_append_left _ hd
theorem sub_x : ∀ d ∈ dx, d ∈ ds := fun d hd => List.mem_append_right _ (List.mem_append_left _ hd)
theorem sub_i : ∀ p ∈ di, p.2 ∈ ds := fun p hp => List.mem_append_right _ (List.mem_append_right _ (List.mem_map_of_mem hp))
theorem goodI : ∀ p ∈ di, (∃ q, IGood es ms p.2 p.1 q) ∧ T p.2.f = some p.2.m := by
  intro p hp
  simp only [di, List.mem_cons, List.not_mem_nil, or_false] at hp
  rcases hp with rfl
  · exact ⟨⟨1, g_Yarn___init__⟩, rfl⟩
theorem goodX : ∀ d ∈ dx, XGood es T d := by
  intro d hd
  exact nomatch hd
theorem esIn : ∀ x f, geOf es x = some (.fn f) → ∃ d ∈ ds, d.f = f ∧ DGood es ms d ∧ T d.f = some d.m := es_good sub_g (by decide +kernel) good tabs
theorem esX : ∀ x f, geOf es x = some (.xfn f) → ∃ d ∈ ds, d.f = f ∧ XGood es T d := es_xgood sub_x (by decide +kernel) goodX
theorem xsIn : ∀ k, k ∈ (excs es).map (·.2) → ∃ x, geOf es x = some (.exc k) := xs_in (by decide +kernel)
theorem msIn : ∀ k b m f, (k, b, m, f) ∈ ms → ∃ d ∈ ds, d.f = f ∧ DGood es ms d ∧ T d.f = some d.m := es_met sub_g (by decide +kernel) good tabs
theorem ciIn : ∀ x k f, geOf es x = some (.cls k f) → ∃ d ∈ ds, d.f = f ∧ (∃ p, IGood es ms d k p) ∧ T d.f = some d.m := es_cls sub_i (by decide +kernel) goodI
theorem tg : TGood tx T := ⟨by decide +kernel, by decide +kernel, xsIn, esIn, esX, msIn, ciIn⟩
end Lk16
open PySem PySem.W PySem.Calls PyProof.Rows Mn
theorem Lk16.holds (main : ∀ ns : List Int, ns.length ≤ 63 → ∃ S, callF Lk16.T 40 101 [.frz (ns.map .int)] ⟨0, []⟩ = .ok (.bl true) S) : PySem.Challenge.rw_yarnpools_k16_whole_yarns_as_objects.Holds := by
  w_on; o_law
  refine HandSHeadRun.head_any (r := Lk16.hdR) (q := view Lk16.hdR.prog [27]) (H := Lk16.hk) (ob := Lk16.ob) (M := 9000) (loose := Lk16.names) (d := HandSHeadRun.topDef Lk16.hdR.prog 27) (kwd := []) Lk16.ob_eq
    (by kernel_rfl) (fun s => by kernel_rfl) Lk16.run (by kernel_rfl) (by kernel_rfl) (by kernel_rfl) (by rfl) (by first | assumption | decide +kernel) (by decide +kernel) ⟨rfl, rfl, rfl, rfl, rfl, by decide +kernel⟩ ?hw ?hc
  case hw => w_witness2
  case hc =>
    refine L2.walk_ofE (l := PySem.Challenge.rw_yarnpools_k16_whole_yarns_as_objects) (n := 63) (k := 40) (x := "script") (CX := fun a b c d e f => ∃ w, L2N.CX (PySem.Challenge.rw_yarnpools_k16_whole_yarns_as_objects).prog w a b c d e f) rfl (by decide) (by kernel_rfl) ⟨rfl, by decide, by decide⟩ ?F ?C
    case C =>
      intro H s e s' z
      obtain ⟨w, _, _, _, _, _, _, _, _, _, _, _, _, z⟩ := z
      exact z
    intro w mg fa h Y N hmg0
    obtain ⟨K, X, c⟩ := Y
    have hmg : mg ("law" : PySem.Str) = some (.ref fa) := by
      have e : (HandSHeadRun.topDef Lk16.hdR.prog 27).name = ("law" : PySem.Str) := by kernel_rfl
      rw [← e]
      exact hmg0
    exact law_end (t := Lk16.tx) (T := Lk16.T) X N c Lk16.tg (d := Lk16.d_law) Lk16.law_in Lk16.g_law rfl rfl rfl (by kernel_rfl) (fun _ _ _ F s u => L2.FunD.bindsA (ps := [("script" : PySem.Str)]) F (fun _ _ _ _ _ _ us hl => match us, hl with | [_], _ => rfl) s [u] rfl) hmg main
end
section
set_option Elab.async false
set_option linter.all false
set_option maxRecDepth 100000
set_option maxHeartbeats 1000000
/-! Mean0: how what Mini computes is told; the helpers that laws share. -/
namespace Mn
/-- r ends well, and Q holds of it -/
def Ok {α : Type} (r : R α) (Q : α → Sto → Prop) : Prop := match r with
  | .ok a S => Q a S
  | _ => False
theorem ok_ok {α : Type} {a : α} {S : Sto} {Q : α → Sto → Prop} : Ok (.ok a S) Q = Q a S := rfl
theorem ok_bind {α β : Type} {x : R α} {f : α → Sto → R β} {Q : β → Sto → Prop} : Ok (x.bind f) Q = Ok x fun a S => Ok (f a S) Q := by cases x <;> rfl
theorem ok_bindS {α : Type} {x : R α} {ρ : Env} {f : α → Sto → R Fl} {Q : Fl → Sto → Prop} (h : Ok x fun a S => Ok (f a S) Q) : Ok (x.bindS ρ f) Q := by
  cases x with
  | ok a S => exact h
  | exc c S => exact False.elim h
  | bad => exact False.elim h
theorem Ok.mono {α : Type} {r : R α} {Q Q' : α → Sto → Prop} (h : Ok r Q) (k : ∀ a S, Q a S → Q' a S) : Ok r Q' := by
  cases r with
  | ok a S => exact k _ _ h
  | exc c S => exact h
  | bad => exact h
theorem ok_is {α : Type} {r : R α} {a : α} {S : Sto} {Q : α → Sto → Prop} (e : r = .ok a S) (h : Q a S) : Ok r Q := by rw [e]; exact h
theorem Ok.ex {α : Type} {r : R α} {Q : α → Sto → Prop} (h : Ok r Q) : ∃ a S, r = .ok a S ∧ Q a S := by
  cases r with
  | ok a S => exact ⟨a, S, rfl, h⟩
  | exc c S => exact False.elim h
  | bad => exact False.elim h
@[simp] theorem back_same {S : Sto} {n : Nat} (h : S.nx = n) : S.back n = S := by unfold Sto.back; rw [if_pos h]
/-- a for that looks for something and changes nothing -/
theorem loop_find {n x : Nat} {body : Env → Sto → R Fl} {S : Sto} (hn : S.nx = n) (p : D → Bool) (v : D → D) (ρ0 : Env) : ∀ (ds : List D) (ρ : Env), (∀ d : D, ρ.set x (some d) = ρ0.set x (some d)) →
    (∀ d ∈ ds, body (ρ0.set x (some d)) S = if p d = true then .ok (.rt (v d)) S else .ok (.nx (ρ0.set x (some d))) S) →
    ∃ ρ', (∀ d : D, ρ'.set x (some d) = ρ0.set x (some d)) ∧ (ρ' = ρ ∨ ∃ d, ρ' = ρ0.set x (some d)) ∧ loopL n (fun r d => (Tgt.nm x).set r d) body ds ρ S = match ds.find? p with
      | some d => .ok (.rt (v d)) S
      | none => .ok (.nx ρ') S
  | [], ρ, h, _ => ⟨ρ, h, .inl rfl, rfl⟩
  | d :: r, ρ, h, hb => by
    have e := hb d List.mem_cons_self
    have hs : (ρ0.set x (some d)).set x = ρ0.set x := by funext y; exact (by simp)
    by_cases hp : p d = true
    · refine ⟨ρ, h, .inl rfl, ?_⟩
      rw [List.find?_cons_of_pos hp]
      unfold loopL
      show ((body (ρ.set x (some d)) S).bind _) = _
      rw [h d, e, if_pos hp]
      rfl
    · obtain ⟨ρ', h1, h2, h3⟩ := loop_find hn p v ρ0 r (ρ0.set x (some d)) (fun d' => by simp) fun d' hd' => hb d' (List.mem_cons_of_mem _ hd')
      refine ⟨ρ', h1, .inr ?_, ?_⟩
      · rcases h2 with rfl | h2
        · exact ⟨d, rfl⟩
        · exact h2
      · rw [List.find?_cons_of_neg hp]
        unfold loopL
        show ((body (ρ.set x (some d)) S).bind _) = _
        rw [h d, e, if_neg hp]
        show loopL n _ body r (ρ0.set x (some d)) (S.back n) = _
        rw [back_same hn]
        exact h3
/-- a for, by an invariant -/
theorem loop_ok {n : Nat} {set : Env → D → Option Env} {body : Env → Sto → R Fl} {Q : Fl → Sto → Prop} (I : Nat → Env → Sto → Prop) : ∀ (ds : List D) (j : Nat) (ρ : Env) (S : Sto), I j ρ S →
    (∀ i d ρ S, ds[i]? = some d → I (j + i) ρ S → ∃ ρ1, set ρ d = some ρ1 ∧ Ok (body ρ1 S) fun fl S' => match fl with
      | .nx ρ' => I (j + i + 1) ρ' (S'.back n)
      | .ct ρ' => I (j + i + 1) ρ' (S'.back n)
      | .bk ρ' => Q (.nx ρ') S'
      | .rt d => Q (.rt d) S'
      | .ex c ρ' => Q (.ex c ρ') S') →
    (∀ ρ S, I (j + ds.length) ρ S → Q (.nx ρ) S) → Ok (loopL n set body ds ρ S) Q
  | [], j, ρ, S, h0, _, hd => hd ρ S h0
  | d :: r, j, ρ, S, h0, hb, hd => by
    obtain ⟨ρ1, e, h⟩ := hb 0 d ρ S rfl h0
    have ih : ∀ ρ S, I (j + 1) ρ S → Ok (loopL n set body r ρ S) Q := fun ρ S h => loop_ok I r (j + 1) ρ S h
      (fun i d' ρ S hi hI => by
        have z := hb (i + 1) d' ρ S (by simpa using hi) (by rw [show j + (i + 1) = j + 1 + i by omega]; exact hI)
        rw [show j + (i + 1) + 1 = j + 1 + i + 1 by omega] at z
        exact z)
      fun ρ S h => hd ρ S (by rw [List.length_cons, show j + (r.length + 1) = j + 1 + r.length by omega]; exact h)
    unfold loopL
    rw [e]
    show Ok ((body ρ1 S).bind _) Q
    rw [ok_bind]
    refine h.mono fun fl S' z => ?_
    cases fl with
    | nx ρ' => exact ih _ _ z
    | ct ρ' => exact ih _ _ z
    | bk ρ' => exact z
    | rt d => exact z
    | ex c ρ' => exact z
/-- a comprehension without a test whose turns change nothing -/
theorem comp_map {set : D → Option Env} {tst : Env → Sto → R Bool} {elt : Env → Sto → R D} {S : Sto} (f : D → D) : ∀ (ds acc : List D), (∀ d ∈ ds, ∃ ρ, set d = some ρ ∧ tst ρ S = .ok true S ∧ elt ρ S = .ok (f d) S) → compL set tst elt ds acc S = .ok (acc ++ ds.map f) S
  | [], acc, _ => by simp [compL]
  | d :: r, acc, h => by
    obtain ⟨ρ, e1, e2, e3⟩ := h d List.mem_cons_self
    unfold compL
    rw [e1]
    simp only [e2, e3, R.nox, R.bind, if_true]
    rw [comp_map f r _ fun d' hd => h d' (List.mem_cons_of_mem _ hd)]
    simp
/-- .. with a test -/
theorem comp_filter {set : D → Option Env} {tst : Env → Sto → R Bool} {elt : Env → Sto → R D} {S : Sto} (f : D → D) (p : D → Bool) : ∀ (ds acc : List D), (∀ d ∈ ds, ∃ ρ, set d = some ρ ∧ tst ρ S = .ok (p d) S ∧ (p d = true → elt ρ S = .ok (f d) S)) → compL set tst elt ds acc S = .ok (acc ++ (ds.filter p).map f) S
  | [], acc, _ => by simp [compL]
  | d :: r, acc, h => by
    obtain ⟨ρ, e1, e2, e3⟩ := h d List.mem_cons_self
    unfold compL
    rw [e1]
    cases hp : p d with
    | true =>
      simp only [e2, hp, e3 hp, R.nox, R.bind, if_true]
      rw [comp_filter f p r _ fun d' hd => h d' (List.mem_cons_of_mem _ hd)]
      simp [List.filter_cons, hp]
    | false =>
      simp only [e2, hp, R.nox, R.bind]
      rw [if_neg (by simp), comp_filter f p r _ fun d' hd => h d' (List.mem_cons_of_mem _ hd)]
      simp [List.filter_cons, hp]
/-- .. whose elements change the store -/
theorem comp_ok {set : D → Option Env} {tst : Env → Sto → R Bool} {elt : Env → Sto → R D} {Q : List D → Sto → Prop} (I : List D → Sto → Prop) : ∀ (ds acc : List D) (S : Sto), I acc S →
    (∀ d ∈ ds, ∀ acc S, I acc S → ∃ ρ, set d = some ρ ∧ tst ρ S = .ok true S ∧ Ok (elt ρ S) fun y S' => I (acc ++ [y]) S') → (∀ acc' S, acc'.length = acc.length + ds.length → I acc' S → Q acc' S) → Ok (compL set tst elt ds acc S) Q
  | [], acc, S, h0, _, hd => hd acc S (by simp) h0
  | d :: r, acc, S, h0, h, hd => by
    obtain ⟨ρ, e1, e2, e3⟩ := h d List.mem_cons_self acc S h0
    obtain ⟨y, S', e4, e5⟩ := e3.ex
    unfold compL
    rw [e1]
    simp only [e2, e4, R.nox, R.bind, if_true]
    exact comp_ok I r (acc ++ [y]) S' e5 (fun d' hd' => h d' (List.mem_cons_of_mem _ hd')) fun acc' S hl hI => hd acc' S (by rw [hl]; simp; omega) hI

/-! ### the store -/
theorem get_put_self {S : Sto} {b : Nat} {c c' : Cell} (h : S.get b = some c) : (S.put b c').get b = some c' := by
  unfold Sto.get Sto.put at *
  generalize S.cs = l at h
  induction l with
  | nil => cases h
  | cons p r ih =>
    obtain ⟨k, e⟩ := p
    unfold updC
    by_cases hk : b = k
    · subst hk; simp
    · rw [if_neg hk]
      have ne : (b == k) = false := by simpa using hk
      simp only [List.lookup_cons, ne] at h ⊢
      exact ih h
theorem updC_updC {b : Nat} {c c' : Cell} : ∀ l : List (Nat × Cell), updC b c' (updC b c l) = updC b c' l
  | [] => rfl
  | (k, e) :: r => by
    by_cases h : b = k
    · simp [updC, h]
    · simp only [updC, if_neg h]
      rw [updC_updC r]
theorem put_put {S : Sto} {b : Nat} {c c' : Cell} : (S.put b c).put b c' = S.put b c' := by
  unfold Sto.put
  simp only [Sto.mk.injEq, true_and]
  exact updC_updC _
theorem put_nx {S : Sto} {b : Nat} {c : Cell} : (S.put b c).nx = S.nx := rfl

/-! ### evaluation, a step at a time -/
/-- a def's end -/
def fin (n0 : Nat) : Fl → Sto → R D
  | .rt d, S' => retD n0 d S'
  | .nx _, S' => retD n0 .non S'
  | .ex c _, S' => .exc c (S'.back n0)
  | _, _ => .bad
theorem callF_eq {T : Nat → Option MDef} {n f : Nat} {m : MDef} (h : T f = some m) {args : List D} (hl : args.length = m.np) {S : Sto} : callF T (n + 1) f args S = (execs (callF T n) m.body (startD m args) S).nox.bind (fin S.nx) := by
  unfold callF
  rw [h]
  show (if args.length = m.np then _ else _) = _
  rw [if_pos hl]
  congr 1
  funext fl S'
  cases fl <;> rfl
theorem ret_same {S S' : Sto} {d : D} (h : S'.nx = S.nx) : retD S.nx d S' = .ok d S' := by unfold retD; rw [if_pos h]
/-- is it None -/
def isNonD : D → Bool
  | .non => true
  | _ => false
@[simp] theorem isNon_non : isNonD .non = true := rfl
@[simp] theorem isNon_int {i : Int} : isNonD (.int i) = false := rfl
@[simp] theorem isNon_str {i : List Nat} : isNonD (.str i) = false := rfl
@[simp] theorem isNon_tup {i : List D} : isNonD (.tup i) = false := rfl
@[simp] theorem isNon_lst {i : List D} : isNonD (.lst i) = false := rfl
@[simp] theorem isNon_own {i : Nat} : isNonD (.own i) = false := rfl
@[simp] theorem isNon_bl {i : Bool} : isNonD (.bl i) = false := rfl
section
variable {C : Nat → List D → Sto → R D} {ρ : Env} {S : Sto}
@[simp] theorem bind_ok {α β : Type} {a : α} {f : α → Sto → R β} : (R.ok a S).bind f = f a S := (rfl)
@[simp] theorem bindS_ok {α : Type} {a : α} {f : α → Sto → R Fl} : (R.ok a S).bindS ρ f = f a S := (rfl)
@[simp] theorem bindS_exc {α : Type} {c : Nat} {f : α → Sto → R Fl} : (R.exc c S : R α).bindS ρ f = .ok (.ex c ρ) S := (rfl)
@[simp] theorem nox_ok {α : Type} {a : α} : (R.ok a S).nox = .ok a S := (rfl)
@[simp] theorem ofOpt_some {α : Type} {a : α} : ofOpt S (some a) = .ok a S := (rfl)
@[simp] theorem alloc_no {xs : List D} : allocIf false xs S = .ok (.lst xs) S := (rfl)
@[simp] theorem alloc_yes {xs : List D} : allocIf true xs S = .ok (.own S.nx) (S.new (.lst xs)) := (rfl)
@[simp] theorem fin_rt {n0 : Nat} {d : D} : fin n0 (.rt d) S = retD n0 d S := (rfl)
@[simp] theorem fin_nx {n0 : Nat} {ρ : Env} : fin n0 (.nx ρ) S = retD n0 .non S := (rfl)
@[simp] theorem retD_same {d : D} : retD S.nx d S = .ok d S := ret_same rfl
@[simp] theorem retD_put {d : D} {b : Nat} {c : Cell} : retD S.nx d (S.put b c) = .ok d (S.put b c) := ret_same rfl
@[simp] theorem ev_var {i : Nat} : ev C (.var i) ρ S = match ρ[i]? with | some (some d) => .ok d S | _ => .bad := by simp only [ev] <;> rfl
@[simp] theorem ev_cst {d : D} : ev C (.cst d) ρ S = .ok d S := by simp only [ev] <;> rfl
@[simp] theorem ev_fnv {f : Nat} : ev C (.fnv f) ρ S = .ok (.fn f) S := by simp only [ev] <;> rfl
@[simp] theorem ev_bin {op : BOp} {a b : ME} : ev C (.bin op a b) ρ S = (ev C a ρ S).bind fun x S1 => (ev C b ρ S1).bind fun y S2 => ofOpt S2 (binV op x y) := by simp only [ev] <;> rfl
@[simp] theorem ev_cmp {op : COp} {a b : ME} : ev C (.cmp op a b) ρ S = (ev C a ρ S).bind fun x S1 => (ev C b ρ S1).bind fun y S2 => ofOpt S2 ((cmpV S2 op x y).map .bl) := by simp only [ev] <;> rfl
@[simp] theorem ev_ite {c a b : ME} : ev C (.ite c a b) ρ S = (evT C c ρ S).bind fun t S1 => if t then ev C a ρ S1 else ev C b ρ S1 := by simp only [ev] <;> rfl
@[simp] theorem ev_tup {es : List ME} : ev C (.tup es) ρ S = (evs C es ρ S).bind fun xs S1 => .ok (.tup xs) S1 := by simp only [ev] <;> rfl
@[simp] theorem ev_lst {o : Bool} {es : List ME} : ev C (.lst o es) ρ S = (evs C es ρ S).bind fun xs S1 => allocIf o xs S1 := by simp only [ev] <;> rfl
@[simp] theorem ev_idx {a i : ME} : ev C (.idx a i) ρ S = (ev C a ρ S).bind fun x S1 => (ev C i ρ S1).bind fun y S2 => ofOpt S2 (idxV S2 x y) := by simp only [ev] <;> rfl
@[simp] theorem ev_slc {a : ME} {lo hi : Option ME} : ev C (.slc a lo hi) ρ S = (ev C a ρ S).bind fun x S1 => (evO C lo ρ S1).bind fun l S2 => (evO C hi ρ S2).bind fun h S3 => ofOpt S3 (slcV x l h) := by simp only [ev] <;> rfl
@[simp] theorem ev_rev {a : ME} : ev C (.rev a) ρ S = (ev C a ρ S).bind fun x S1 => ofOpt S1 (revV x) := by simp only [ev] <;> rfl
@[simp] theorem ev_call {f : Nat} {as : List ME} : ev C (.call f as) ρ S = (evs C as ρ S).bind fun xs S1 => C f xs S1 := by simp only [ev] <;> rfl
@[simp] theorem ev_bcl {b : BF} {as : List ME} : ev C (.bcl b as) ρ S = (evs C as ρ S).bind fun xs S1 => ofOpt S1 (bfV S1 b xs) := by simp only [ev] <;> rfl
@[simp] theorem ev_isi {a : ME} {t : TY} : ev C (.isi a t) ρ S = (ev C a ρ S).bind fun x S1 => ofOpt S1 ((isiV x t).map .bl) := by simp only [ev] <;> rfl
@[simp] theorem ev_isN {a : ME} : ev C (.isN a) ρ S = (ev C a ρ S).bind fun x S1 => .ok (.bl (isNonD x)) S1 := by
  simp only [ev]
  congr 1
  funext x S1
  cases x <;> rfl
@[simp] theorem ev_notN {a : ME} : ev C (.notN a) ρ S = (ev C a ρ S).bind fun x S1 => .ok (.bl (!isNonD x)) S1 := by
  simp only [ev]
  congr 1
  funext x S1
  cases x <;> rfl
@[simp] theorem ev_neg {a : ME} : ev C (.neg a) ρ S = (ev C a ρ S).bind fun x S1 => match x with | .int i => .ok (.int (-i)) S1 | _ => .bad := by simp only [ev] <;> rfl
@[simp] theorem ev_not {a : ME} : ev C (.not a) ρ S = (ev C a ρ S).bind fun x S1 => match x with | .bl c => .ok (.bl (!c)) S1 | _ => .bad := by simp only [ev] <;> rfl
@[simp] theorem ev_and {a b : ME} : ev C (.and a b) ρ S = (ev C a ρ S).bind fun x S1 => match x with | .bl c => if c then ev C b ρ S1 else .ok (.bl false) S1 | _ => .bad := by simp only [ev] <;> rfl
@[simp] theorem ev_or {a b : ME} : ev C (.or a b) ρ S = (ev C a ρ S).bind fun x S1 => match x with | .bl c => if c then .ok (.bl true) S1 else ev C b ρ S1 | _ => .bad := by simp only [ev] <;> rfl
@[simp] theorem ev_chn {o1 o2 : COp} {a b c : ME} : ev C (.chn o1 o2 a b c) ρ S = (ev C a ρ S).bind fun x S1 => (ev C b ρ S1).bind fun y S2 => (ofOpt S2 (cmpV S2 o1 x y)).bind fun t S3 => if t then (ev C c ρ S3).bind fun z S4 => ofOpt S4 ((cmpV S4 o2 y z).map .bl) else .ok (.bl false) S3 := by simp only [ev] <;> rfl
@[simp] theorem ev_dct : ev C .dct ρ S = .ok (.own S.nx) (S.new (.dct [])) := by simp only [ev] <;> rfl
theorem ev_mth {m : MF} {o : ME} {as : List ME} : ev C (.mth m o as) ρ S = (ev C o ρ S).bind fun x S1 => if rcv S1 m x then (evs C as ρ S1).bind fun xs S2 => match mfV S2 m x xs with | some (d, S3) => .ok d S3 | none => .bad else .bad := by simp only [ev] <;> rfl
theorem ev_lcm {own : Bool} {elt : ME} {vs : List Nat} {t : Tgt} {it : MI} {c : Option ME} : ev C (.lcm own elt vs t it c) ρ S = (evI C it ρ S).bind fun ds S1 =>
      if ds.length ≤ LIM then (compL (fun d => t.set (wipeD ρ vs) d) (fun ρ' S' => evC C c ρ' S') (fun ρ' S' => ev C elt ρ' S') ds [] S1).bind fun xs S2 => allocIf own xs S2 else .bad := by simp only [ev] <;> rfl
@[simp] theorem evT_not {a : ME} : evT C (.not a) ρ S = (evT C a ρ S).bind fun c S1 => .ok (!c) S1 := by simp only [evT] <;> rfl
@[simp] theorem evT_and {a b : ME} : evT C (.and a b) ρ S = (evT C a ρ S).bind fun c S1 => if c then evT C b ρ S1 else .ok false S1 := by simp only [evT] <;> rfl
@[simp] theorem evT_or {a b : ME} : evT C (.or a b) ρ S = (evT C a ρ S).bind fun c S1 => if c then .ok true S1 else evT C b ρ S1 := by simp only [evT] <;> rfl
@[simp] theorem evT_cmp {op : COp} {a b : ME} : evT C (.cmp op a b) ρ S = (ev C a ρ S).bind fun x S1 => (ev C b ρ S1).bind fun y S2 => ofOpt S2 (cmpV S2 op x y) := by simp only [evT] <;> rfl
@[simp] theorem evT_isN {a : ME} : evT C (.isN a) ρ S = (ev C a ρ S).bind fun x S1 => .ok (isNonD x) S1 := by
  simp only [evT]
  congr 1
  funext x S1
  cases x <;> rfl
@[simp] theorem evT_notN {a : ME} : evT C (.notN a) ρ S = (ev C a ρ S).bind fun x S1 => .ok (!isNonD x) S1 := by
  simp only [evT]
  congr 1
  funext x S1
  cases x <;> rfl
@[simp] theorem evT_chn {o1 o2 : COp} {a b c : ME} : evT C (.chn o1 o2 a b c) ρ S = (ev C a ρ S).bind fun x S1 => (ev C b ρ S1).bind fun y S2 => (ofOpt S2 (cmpV S2 o1 x y)).bind fun t S3 => if t then (ev C c ρ S3).bind fun z S4 => ofOpt S4 (cmpV S4 o2 y z) else .ok false S3 := by simp only [evT] <;> rfl
@[simp] theorem evT_var {i : Nat} : evT C (.var i) ρ S = match ρ[i]? with | some (some d) => ofOpt S (truthy d) | _ => .bad := by simp only [evT] <;> rfl
@[simp] theorem evT_bin {op : BOp} {a b : ME} : evT C (.bin op a b) ρ S = ((ev C a ρ S).bind fun x S1 => (ev C b ρ S1).bind fun y S2 => ofOpt S2 (binV op x y)).bind fun x S1 => ofOpt S1 (truthy x) := by simp only [evT] <;> rfl
@[simp] theorem evT_call {f : Nat} {as : List ME} : evT C (.call f as) ρ S = ((evs C as ρ S).bind fun xs S1 => C f xs S1).bind fun x S1 => ofOpt S1 (truthy x) := by simp only [evT] <;> rfl
@[simp] theorem evT_bcl {b : BF} {as : List ME} : evT C (.bcl b as) ρ S = ((evs C as ρ S).bind fun xs S1 => ofOpt S1 (bfV S1 b xs)).bind fun x S1 => ofOpt S1 (truthy x) := by simp only [evT] <;> rfl
@[simp] theorem evT_isi {a : ME} {t : TY} : evT C (.isi a t) ρ S = (ev C a ρ S).bind fun x S1 => ofOpt S1 (isiV x t) := by simp only [evT] <;> rfl
@[simp] theorem evs_nil : evs C [] ρ S = .ok [] S := by simp only [evs] <;> rfl
@[simp] theorem evs_cons {e : ME} {r : List ME} : evs C (e :: r) ρ S = (ev C e ρ S).bind fun x S1 => (evs C r ρ S1).bind fun xs S2 => .ok (x :: xs) S2 := by simp only [evs] <;> rfl
@[simp] theorem evO_none : evO C none ρ S = .ok none S := by simp only [evO] <;> rfl
@[simp] theorem evO_some {e : ME} : evO C (some e) ρ S = (ev C e ρ S).bind fun x S1 => match x with | .int i => .ok (some i) S1 | _ => .bad := by simp only [evO] <;> rfl
@[simp] theorem evC_none : evC C none ρ S = .ok true S := by simp only [evC] <;> rfl
@[simp] theorem evC_some {e : ME} : evC C (some e) ρ S = evT C e ρ S := by simp only [evC] <;> rfl
@[simp] theorem evI_seq {e : ME} : evI C (.seq e) ρ S = (ev C e ρ S).bind fun x S1 => ofOpt S1 (seqItems S1 x) := by simp only [evI] <;> rfl
@[simp] theorem evI_rng1 {a : ME} : evI C (.rng1 a) ρ S = (ev C a ρ S).bind fun x S1 => match x with | .int j => ofOpt S1 (rngItems 0 j) | _ => .bad := by simp only [evI] <;> rfl
@[simp] theorem evI_rng2 {a b : ME} : evI C (.rng2 a b) ρ S = (ev C a ρ S).bind fun x S1 => (ev C b ρ S1).bind fun y S2 => match x, y with | .int i, .int j => ofOpt S2 (rngItems i j) | _, _ => .bad := by simp only [evI] <;> rfl
@[simp] theorem exec_expr {e : ME} : exec C (.expr e) ρ S = (ev C e ρ S).bindS ρ fun _ S1 => .ok (.nx ρ) S1 := by simp only [exec] <;> rfl
@[simp] theorem exec_asg {i : Nat} {e : ME} : exec C (.asg i e) ρ S = (ev C e ρ S).bindS ρ fun x S1 => .ok (.nx (ρ.set i (some x))) S1 := by simp only [exec] <;> rfl
@[simp] theorem exec_asgT {is : List Nat} {e : ME} : exec C (.asgT is e) ρ S = (ev C e ρ S).bindS ρ fun x S1 => match (Tgt.tp is).set ρ x with | some ρ1 => .ok (.nx ρ1) S1 | none => .bad := by simp only [exec] <;> rfl
@[simp] theorem exec_par {is : List Nat} {es : List ME} : exec C (.par is es) ρ S = (evs C es ρ S).bindS ρ fun xs S1 => match (Tgt.tp is).set ρ (.tup xs) with | some ρ1 => .ok (.nx ρ1) S1 | none => .bad := by simp only [exec] <;> rfl
@[simp] theorem exec_setI {o i e : ME} : exec C (.setI o i e) ρ S = (ev C e ρ S).bindS ρ fun x S1 => (ev C o ρ S1).bindS ρ fun y S2 => (ev C i ρ S2).bindS ρ fun z S3 => match setV S3 y z x with | some S4 => .ok (.nx ρ) S4 | none => .bad := by simp only [exec] <;> rfl
@[simp] theorem exec_ite {c : ME} {a b : List MS} : exec C (.ite c a b) ρ S = (evT C c ρ S).bindS ρ fun t S1 => if t then execs C a ρ S1 else execs C b ρ S1 := by simp only [exec] <;> rfl
theorem exec_forr {t : Tgt} {it : MI} {body : List MS} : exec C (.forr t it body) ρ S = (evI C it ρ S).bindS ρ fun ds S1 => loopL S1.nx (fun r d => t.set r d) (fun r s => execs C body r s) ds ρ S1 := by simp only [exec] <;> rfl
@[simp] theorem exec_retN : exec C (.ret none) ρ S = .ok (.rt .non) S := by simp only [exec] <;> rfl
@[simp] theorem exec_ret {e : ME} : exec C (.ret (some e)) ρ S = (ev C e ρ S).bindS ρ fun x S1 => .ok (.rt x) S1 := by simp only [exec] <;> rfl
@[simp] theorem exec_rais {c : Nat} : exec C (.rais c) ρ S = .ok (.ex c ρ) S := by simp only [exec] <;> rfl
@[simp] theorem execs_nil : execs C [] ρ S = .ok (.nx ρ) S := by simp only [execs] <;> rfl
/-- the next statement -/
def nextS (C : Nat → List D → Sto → R D) (r : List MS) : Fl → Sto → R Fl
  | .nx ρ1, S1 => execs C r ρ1 S1
  | .rt d, S1 => .ok (.rt d) S1
  | .bk ρ1, S1 => .ok (.bk ρ1) S1
  | .ct ρ1, S1 => .ok (.ct ρ1) S1
  | .ex c ρ1, S1 => .ok (.ex c ρ1) S1
@[simp] theorem execs_cons {s : MS} {r : List MS} : execs C (s :: r) ρ S = (exec C s ρ S).bind (nextS C r) := by
  simp only [execs]
  congr 1
  funext fl S'
  cases fl <;> rfl
@[simp] theorem nextS_nx {r : List MS} {ρ1 : Env} : nextS C r (.nx ρ1) S = execs C r ρ1 S := (rfl)
@[simp] theorem nextS_rt {r : List MS} {d : D} : nextS C r (.rt d) S = .ok (.rt d) S := (rfl)
@[simp] theorem nextS_ex {r : List MS} {c : Nat} {ρ1 : Env} : nextS C r (.ex c ρ1) S = .ok (.ex c ρ1) S := (rfl)
end
theorem lcm_of {C : Nat → List D → Sto → R D} {elt : ME} {vs : List Nat} {t : Tgt} {it : MI} {c : Option ME} {ρ : Env} {S S1 S2 : Sto} {ds xs : List D} (h1 : evI C it ρ S = .ok ds S1) (h2 : ds.length ≤ LIM)
    (h3 : compL (fun d => t.set (wipeD ρ vs) d) (fun ρ' S' => evC C c ρ' S') (fun ρ' S' => ev C elt ρ' S') ds [] S1 = .ok xs S2) : ev C (.lcm false elt vs t it c) ρ S = .ok (.lst xs) S2 := by
  rw [ev_lcm, h1, bind_ok, if_pos h2, h3]; rfl
theorem for_eq {C : Nat → List D → Sto → R D} {t : Tgt} {it : MI} {body : List MS} {ρ : Env} {S S1 : Sto} {ds : List D} {r : R Fl} (h1 : evI C it ρ S = .ok ds S1) (h2 : loopL S1.nx (fun r d => t.set r d) (fun r s => execs C body r s) ds ρ S1 = r) : exec C (.forr t it body) ρ S = r := by
  rw [exec_forr, h1, bindS_ok, h2]
theorem LIM_val : LIM = 1000000 := rfl
/-! values -/
@[simp] theorem binV_add {i j : Int} : binV .add (.int i) (.int j) = some (.int (i + j)) := rfl
@[simp] theorem binV_sub {i j : Int} : binV .sub (.int i) (.int j) = some (.int (i - j)) := rfl
theorem binV_mul {i j : Int} (h : smallI i = true ∨ smallI j = true) : binV .mul (.int i) (.int j) = some (.int (i * j)) := by
  show (if (smallI i || smallI j) = true then _ else _) = _
  rw [if_pos (by rw [Bool.or_eq_true]; exact h)]
@[simp] theorem binV_mulL {i j : Int} (h : smallI i = true) : binV .mul (.int i) (.int j) = some (.int (i * j)) := binV_mul (.inl h)
@[simp] theorem binV_mulR {i j : Int} (h : smallI j = true) : binV .mul (.int i) (.int j) = some (.int (i * j)) := binV_mul (.inr h)
@[simp] theorem binV_mod {i j : Int} (h : 0 < j) : binV .mod (.int i) (.int j) = some (.int (i % j)) := by
  show (if 0 < j then _ else _) = _
  rw [if_pos h]
/-- a divisor of a fair size -/
def Dv (j : Int) : Prop := ltN j B200 = true
@[simp] theorem binV_fdiv {i j : Int} (h : 0 < j) (h2 : Dv j) : binV .fdiv (.int i) (.int j) = some (.int (i / j)) := by
  show (if 0 < j ∧ ltN j B200 = true then _ else _) = _
  rw [if_pos ⟨h, h2⟩]
theorem ltN_of {i : Int} {b : Nat} (h : i.natAbs < b) : ltN i b = true := by
  unfold ltN
  exact Nat.ble_eq_true_of_le h
theorem B64_eq : B64 = 2 ^ 64 := by decide
theorem B62_eq' : B62 = 2 ^ 62 := by decide
theorem smallI_of {i : Int} (h1 : -(2 ^ 64) < i) (h2 : i < 2 ^ 64) : smallI i = true := by
  unfold smallI
  exact ltN_of (by rw [B64_eq]; omega)
theorem Dv_of {c : Int} (h0 : 0 ≤ c) (h : c < 2 ^ 64) : Dv c := by
  have : (2 : Nat) ^ 64 ≤ B200 := by decide
  exact ltN_of (by omega)
@[simp] theorem cmp_gt {S : Sto} {i j : Int} : cmpV S .gt (.int i) (.int j) = some (decide (j < i)) := rfl
@[simp] theorem cmp_ge {S : Sto} {i j : Int} : cmpV S .ge (.int i) (.int j) = some (decide (j ≤ i)) := rfl
@[simp] theorem cmp_le {S : Sto} {i j : Int} : cmpV S .le (.int i) (.int j) = some (decide (i ≤ j)) := rfl
@[simp] theorem cmp_lt {S : Sto} {i j : Int} : cmpV S .lt (.int i) (.int j) = some (decide (i < j)) := rfl
theorem eqO_int {S : Sto} {i j : Int} : eqO S (.int i) (.int j) = some (decide (i = j)) := by
  simp [eqO, deref, D.flat, eqD]
  by_cases h : i = j <;> simp [h]
theorem eqO_str {S : Sto} {i j : List Nat} : eqO S (.str i) (.str j) = some (decide (i = j)) := by
  simp [eqO, deref, D.flat, eqD]
  by_cases h : i = j <;> simp [h]
theorem eqO_bl {S : Sto} {i j : Bool} : eqO S (.bl i) (.bl j) = some (decide (i = j)) := by
  cases i <;> cases j <;> rfl
@[simp] theorem cmp_eqI {S : Sto} {i j : Int} : cmpV S .eq (.int i) (.int j) = some (decide (i = j)) := by simp only [cmpV, eqO_int]
@[simp] theorem cmp_neI {S : Sto} {i j : Int} : cmpV S .ne (.int i) (.int j) = some (!decide (i = j)) := by simp only [cmpV, eqO_int]; rfl
@[simp] theorem cmp_eqX {S : Sto} {x y : List Nat} : cmpV S .eq (.str x) (.str y) = some (decide (x = y)) := by simp only [cmpV, eqO_str]
@[simp] theorem cmp_neX {S : Sto} {x y : List Nat} : cmpV S .ne (.str x) (.str y) = some (!decide (x = y)) := by simp only [cmpV, eqO_str]; rfl
@[simp] theorem cmp_eqB {S : Sto} {x y : Bool} : cmpV S .eq (.bl x) (.bl y) = some (decide (x = y)) := by simp only [cmpV, eqO_bl]
@[simp] theorem cmp_neB {S : Sto} {x y : Bool} : cmpV S .ne (.bl x) (.bl y) = some (!decide (x = y)) := by simp only [cmpV, eqO_bl]; rfl
@[simp] theorem len_str {S : Sto} {x : List Nat} : bfV S .len [.str x] = some (.int x.length) := rfl
@[simp] theorem len_lst {S : Sto} {x : List D} : bfV S .len [.lst x] = some (.int x.length) := rfl
@[simp] theorem len_tup {S : Sto} {x : List D} : bfV S .len [.tup x] = some (.int x.length) := rfl
@[simp] theorem len_frz {S : Sto} {x : List D} : bfV S .len [.frz x] = some (.int x.length) := rfl
@[simp] theorem min_i {S : Sto} {i j : Int} : bfV S .min2 [.int i, .int j] = some (.int (min i j)) := by
  show some (D.int (if j < i then j else i)) = _
  congr 2; split <;> omega
@[simp] theorem max_i {S : Sto} {i j : Int} : bfV S .max2 [.int i, .int j] = some (.int (max i j)) := by
  show some (D.int (if j > i then j else i)) = _
  congr 2; split <;> omega
theorem setV_lst {S : Sto} {o : Nat} {i : Int} {d : D} {xs : List D} (h : S.get o = some (.lst xs)) (h0 : 0 ≤ i) (hi : i < xs.length) : setV S (.own o) (.int i) d = some (S.put o (.lst (xs.set i.toNat d))) := by
  unfold setV
  simp only [h]
  rw [if_pos ⟨h0, hi⟩]
theorem atD_nat {α : Type} {xs : List α} {i : Nat} : atD xs (i : Int) = xs[i]? := by
  unfold atD
  rw [if_pos (by omega)]; rfl
theorem cut_to {α : Type} {xs : List α} {v : Int} (h : 0 ≤ v) : cutD xs none (some v) = xs.take v.toNat := by
  have e : sIxD xs.length xs.length (some v) = min v.toNat xs.length := by
    show (if v < 0 then _ else _) = _
    rw [if_neg (by omega)]
  unfold cutD
  rw [e]
  show List.take (min v.toNat xs.length - 0) (List.drop 0 xs) = _
  rw [Nat.sub_zero, List.drop_zero, List.take_eq_take_iff]
  omega
theorem cut_from {α : Type} {xs : List α} {v : Int} (h : 0 ≤ v) : cutD xs (some v) none = xs.drop v.toNat := by
  have e : sIxD xs.length 0 (some v) = min v.toNat xs.length := by
    show (if v < 0 then _ else _) = _
    rw [if_neg (by omega)]
  unfold cutD
  rw [e]
  show List.take (xs.length - min v.toNat xs.length) (List.drop (min v.toNat xs.length) xs) = _
  by_cases hv : v.toNat ≤ xs.length
  · rw [Nat.min_eq_left hv, List.take_of_length_le (by rw [List.length_drop]; omega)]
  · rw [Nat.min_eq_right (by omega), Nat.sub_self, List.take_zero, List.drop_of_length_le (by omega)]
@[simp] theorem slc_to {x : List Nat} {v : Int} (h : 0 ≤ v) : slcV (.str x) none (some v) = some (.str (x.take v.toNat)) := by
  show some (D.str (cutD x none (some v))) = _
  rw [cut_to h]
@[simp] theorem slc_from {x : List Nat} {v : Int} (h : 0 ≤ v) : slcV (.str x) (some v) none = some (.str (x.drop v.toNat)) := by
  show some (D.str (cutD x (some v) none)) = _
  rw [cut_from h]
@[simp] theorem add_str {x y : List Nat} (h : x.length + y.length ≤ LIM) : binV .add (.str x) (.str y) = some (.str (x ++ y)) := by
  show (if x.length + y.length ≤ LIM then _ else _) = _
  rw [if_pos h]
@[simp] theorem mul_str {x : List Nat} {n : Int} (h : x.length ≤ 1000) (h1 : ltN n 1001 = true) : binV .mul (.str x) (.int n) = some (.str (List.replicate n.toNat x).flatten) := by
  show (if x.length ≤ 1000 ∧ ltN n 1001 = true then _ else _) = _
  rw [if_pos ⟨h, h1⟩]
@[simp] theorem rev_str {x : List Nat} : revV (.str x) = some (.str x.reverse) := rfl
theorem idx_lst {S : Sto} {xs : List D} {i : Nat} {d : D} (h : xs[i]? = some d) : idxV S (.lst xs) (.int i) = some d := by
  show atD xs (i : Int) = _
  rw [atD_nat, h]
theorem idx_str {S : Sto} {xs : List Nat} {i : Nat} {d : Nat} (h : xs[i]? = some d) : idxV S (.str xs) (.int i) = some (.str [d]) := by
  show (atD xs (i : Int)).map _ = _
  rw [atD_nat, h]; rfl
theorem rng_nat {n : Int} (h : n < 2 ^ 62) (h0 : -(2 ^ 62) < n) : rngItems 0 n = some ((List.range n.toNat).map fun (i : Nat) => D.int i) := by
  unfold rngItems
  rw [if_pos ⟨ltN_of (b := B62) (by decide), ltN_of (i := n) (b := B62) (by rw [B62_eq']; omega)⟩]
  simp
theorem rng_two {a b : Int} (h : b < 2 ^ 62) (h0 : -(2 ^ 62) < b) (h1 : a < 2 ^ 62) (h2 : -(2 ^ 62) < a) : rngItems a b = some ((List.range (b - a).toNat).map fun (i : Nat) => D.int (a + i)) := by
  unfold rngItems
  rw [if_pos ⟨ltN_of (i := a) (b := B62) (by rw [B62_eq']; omega), ltN_of (i := b) (b := B62) (by rw [B62_eq']; omega)⟩]
theorem strsOf_map : ∀ (l : List (List Nat)), strsOf (l.map .str) = some l
  | [] => rfl
  | a :: r => by show (strsOf (r.map .str)).map _ = _; rw [strsOf_map r]; rfl
theorem join_strs {S : Sto} {l : List (List Nat)} (h : l.flatten.length ≤ LIM) : mfV S .join (.str []) [.lst (l.map .str)] = some (.str l.flatten, S) := by
  unfold mfV
  simp only [strsOf_map]
  rw [if_pos h]
theorem flatten_single : ∀ (l : List Nat), (l.map fun c => [c]).flatten = l
  | [] => rfl
  | a :: r => by rw [List.map_cons, List.flatten_cons, flatten_single r]; rfl
theorem join_chars {S : Sto} {t : List Nat} (h : t.length ≤ LIM) : mfV S .join (.str []) [.lst (t.map fun c => .str [c])] = some (.str t, S) := by
  have e := join_strs (S := S) (l := t.map fun c => [c]) (by rw [flatten_single]; exact h)
  rw [flatten_single, List.map_map] at e
  exact e
/-- the bag's cell is written, nothing else -/
def Bg (b : Nat) (S S' : Sto) : Prop := ∃ x y, S' = S.put b (.lst [.int x, .int y])
def Bag (b : Nat) (S : Sto) : Prop := ∃ x y, S.get b = some (.lst [.int x, .int y])
theorem Bag.step {b : Nat} {S S' : Sto} (h : Bag b S) (k : Bg b S S') : Bag b S' := by
  obtain ⟨x, y, h⟩ := h
  obtain ⟨x', y', rfl⟩ := k
  exact ⟨x', y', get_put_self h⟩
theorem Bg.trans {b : Nat} {S S' S2 : Sto} (h : Bg b S S') (k : Bg b S' S2) : Bg b S S2 := by
  obtain ⟨x, y, rfl⟩ := h
  obtain ⟨x', y', rfl⟩ := k
  exact ⟨x', y', put_put⟩
theorem Bg.nx {b : Nat} {S S' : Sto} (h : Bg b S S') : S'.nx = S.nx := by
  obtain ⟨x, y, rfl⟩ := h
  rfl
@[simp] theorem retD_nx {n0 : Nat} {S : Sto} {d : D} (h : S.nx = n0) : retD n0 d S = .ok d S := by unfold retD; rw [if_pos h]
def Ltr (t : List Nat) : Prop := ∀ c ∈ t, 97 ≤ c ∧ c ≤ 122
/-- .. and no m -/
def LtrM (t : List Nat) : Prop := ∀ c ∈ t, 97 ≤ c ∧ c ≤ 122 ∧ c ≠ 109
theorem LtrM.ltr {t : List Nat} (h : LtrM t) : Ltr t := fun c hc => ⟨(h c hc).1, (h c hc).2.1⟩
theorem LtrM.no {t : List Nat} (h : LtrM t) : 109 ∉ t := fun z => (h _ z).2.2 rfl
theorem ret_ex {n0 : Nat} {d : D} {S : Sto} : ∃ S', retD n0 d S = .ok d S' := by
  unfold retD
  split
  · exact ⟨_, rfl⟩
  · split
    · exact ⟨_, rfl⟩
    · exact ⟨_, rfl⟩
theorem main_of {T : Nat → Option MDef} {n f : Nat} {m : MDef} {args : List D} {S : Sto} {d : D} (h : T f = some m) (hl : args.length = m.np) (k : Ok (execs (callF T n) m.body (startD m args) S) fun fl _ => fl = .rt d) : ∃ S', callF T (n + 1) f args S = .ok d S' := by
  obtain ⟨fl, S', e, rfl⟩ := k.ex
  rw [callF_eq h hl, e]
  exact ret_ex
/-- the statements one behind another -/
theorem ok_cons {C : Nat → List D → Sto → R D} {s : MS} {r : List MS} {ρ : Env} {S : Sto} {Q : Fl → Sto → Prop} (h : Ok (exec C s ρ S) fun fl S' => Ok (nextS C r fl S') Q) : Ok (execs C (s :: r) ρ S) Q := by
  rw [execs_cons, ok_bind]; exact h
theorem ok_for {C : Nat → List D → Sto → R D} {t : Tgt} {it : MI} {body : List MS} {ρ : Env} {S S1 : Sto} {ds : List D} {Q : Fl → Sto → Prop} (h1 : evI C it ρ S = .ok ds S1) (h2 : Ok (loopL S1.nx (fun r d => t.set r d) (fun r s => execs C body r s) ds ρ S1) Q) : Ok (exec C (.forr t it body) ρ S) Q := by
  rw [exec_forr, h1, bindS_ok]; exact h2
theorem whileL_step {tst : Env → Sto → R Bool} {body : Env → Sto → R Fl} {n : Nat} {ρ ρ2 : Env} {S S1 S2 : Sto} (h1 : tst ρ S = .ok true S1) (h2 : body ρ S1 = .ok (.nx ρ2) S2) : whileL tst body (n + 1) ρ S = whileL tst body n ρ2 S2 := by
  rw [whileL, h1, bindS_ok, if_pos rfl, h2]; rfl
theorem whileL_stop {tst : Env → Sto → R Bool} {body : Env → Sto → R Fl} {n : Nat} {ρ : Env} {S S1 : Sto} (h1 : tst ρ S = .ok false S1) : whileL tst body (n + 1) ρ S = .ok (.nx ρ) S1 := by
  rw [whileL, h1, bindS_ok, if_neg (by simp)]
section
variable {T : Nat → Option MDef} (hT : ∀ f, f < 100 → T f = coreT f)
include hT
theorem take_ok0 {n b : Nat} {S : Sto} {x y c : Int} (hb : S.get b = some (.lst [.int x, .int y])) (h0 : 0 < c) (h1 : Dv c) :
    ∃ v x' y', 0 ≤ v ∧ v < c ∧ callF T (n + 1) 53 [.own b, .int c] S = .ok (.int v) (S.put b (.lst [.int x', .int y'])) := by
  rw [callF_eq (m := m__law_take) (by rw [hT _ (by decide)]; rfl) rfl]
  by_cases hx : 0 < x
  · refine ⟨x % c, x / c, y, Int.emod_nonneg _ (by omega), Int.emod_lt_of_pos _ h0, ?_⟩
    have s1 := setV_lst (d := .int (x / c)) (i := 0) hb (by decide) (by simp)
    simp [m__law_take, startD, idxV, hb, atD, hx, h0, h1, s1]
  · have hy : ∀ z : Int, (S.put b (.lst [.int x, .int z])).get b = some (.lst [.int x, .int z]) := fun z => get_put_self hb
    have s1 := setV_lst (d := .int (y * 48271 % 2147483647)) (i := 1) hb (by decide) (by simp)
    have k1 : smallI 48271 = true := by decide
    have p1 : Dv 13 := Dv_of (by decide) (by decide)
    have p2 : Dv 32 := Dv_of (by decide) (by decide)
    have k2 : ∀ z : Int, smallI (z % 32749 + 17) = true := fun z => smallI_of (by have := Int.emod_nonneg z (show (32749 : Int) ≠ 0 by decide); omega) (by have := Int.emod_lt_of_pos z (show (0 : Int) < 32749 by decide); omega)
    refine ⟨(y * 48271 % 2147483647 / 13 * (y * 48271 % 2147483647 % 32749 + 17) % 2147483629 / 32) % c, x, y * 48271 % 2147483647, Int.emod_nonneg _ (by omega), Int.emod_lt_of_pos _ h0, ?_⟩
    simp [m__law_take, startD, idxV, hb, atD, hx, h0, h1, s1, k1, k2, hy, p1, p2]
theorem take_ok {n b : Nat} {S : Sto} {c : Int} (hb : Bag b S) (h0 : 0 < c) (h1 : Dv c) : ∃ (v : Nat) (S' : Sto), v < c.toNat ∧ Bg b S S' ∧ Bag b S' ∧ callF T (n + 1) 53 [.own b, .int c] S = .ok (.int v) S' := by
  obtain ⟨x, y, hb'⟩ := hb
  obtain ⟨v, x', y', v0, v1, e⟩ := take_ok0 hT hb' h0 h1 (n := n)
  refine ⟨v.toNat, _, by omega, ⟨x', y', rfl⟩, Bag.step ⟨x, y, hb'⟩ ⟨x', y', rfl⟩, ?_⟩
  rw [e, Int.toNat_of_nonneg v0]
theorem of_ok {n b : Nat} {S : Sto} {xs : List D} (hb : Bag b S) (h0 : 0 < xs.length) (h1 : xs.length < 2 ^ 60) : ∃ (i : Nat) (d : D) (S' : Sto), xs[i]? = some d ∧ Bg b S S' ∧ Bag b S' ∧ callF T (n + 2) 54 [.own b, .lst xs] S = .ok d S' := by
  obtain ⟨v, S', v1, bg, bag, e⟩ := take_ok hT (n := n) (c := xs.length) hb (by omega) (Dv_of (by omega) (by omega))
  have hv : v < xs.length := by omega
  have hd : xs[v]? = some xs[v] := List.getElem?_eq_getElem hv
  refine ⟨v, xs[v], S', hd, bg, bag, ?_⟩
  rw [callF_eq (m := m__law_of) (by rw [hT _ (by decide)]; rfl) rfl]
  simp [m__law_of, startD, e, idx_lst hd, bg.nx]
end
end Mn
end
section
set_option Elab.async false
set_option linter.all false
set_option maxRecDepth 100000
set_option maxHeartbeats 1000000
/-! Mean1: the helpers that laws share. -/
namespace Mn
section
variable {T : Nat → Option MDef} (hT : ∀ f, f < 100 → T f = coreT f)
include hT
theorem repeat_okM {n b : Nat} {S : Sto} {most : Int} (hb : Bag b S) (h0 : 0 < most) (h1 : most ≤ 1000) :
    ∃ (t : List Nat) (S' : Sto), t ≠ [] ∧ t.length ≤ most ∧ LtrM t ∧ Bg b S S' ∧ Bag b S' ∧ callF T (n + 3) 55 [.own b, .int most] S = .ok (.str t) S' := by
  obtain ⟨i, d, S1, hi, b1, bag1, e1⟩ := of_ok hT (n := n) (S := S) (b := b) (xs := [.str [97, 98], .str [97, 98, 99], .str [97, 122, 113, 102], .str [97, 98, 99, 100, 101, 102, 103, 104]]) hb (by simp) (by simp)
  obtain ⟨ls, rfl, hl0, hl1, hl2⟩ : ∃ ls : List Nat, d = .str ls ∧ 0 < ls.length ∧ ls.length ≤ 8 ∧ LtrM ls := by
    have hm := List.mem_of_getElem? hi
    simp only [List.mem_cons, List.not_mem_nil, or_false] at hm
    rcases hm with rfl | rfl | rfl | rfl <;> exact ⟨_, rfl, by simp, by simp, by unfold LtrM; decide⟩
  obtain ⟨v, S2, hv, b2, bag2, e2⟩ := take_ok hT (n := n + 1) (c := most) bag1 h0 (Dv_of (by omega) (by omega))
  -- the letters
  have key : Ok (compL (fun d => (Tgt.nm 5).set (wipeD [some (.own b), some (.int most), some (.str ls), some (.int (1 + (v : Int))), none, none, none] [5]) d) (fun ρ' S' => evC (callF T (n + 2)) none ρ' S')
      (fun ρ' S' => ev (callF T (n + 2)) (.idx (.var 2) (.call 53 [.var 0, .bcl .len [.var 2]])) ρ' S') ((List.range (v + 1)).map fun (i : Nat) => D.int i) [] S2)
      fun xs S3 => ∃ t : List Nat, xs = t.map (fun c => D.str [c]) ∧ t.length = v + 1 ∧ LtrM t ∧ Bg b S S3 ∧ Bag b S3 := by
    refine comp_ok (fun acc S3 => ∃ t : List Nat, acc = t.map (fun c => D.str [c]) ∧ LtrM t ∧ Bg b S S3 ∧ Bag b S3) _ _ _ ⟨[], rfl, by unfold LtrM; simp, b1.trans b2, bag2⟩ ?_ ?_
    · rintro d hd acc S3 ⟨t, rfl, ht, bg, bag⟩
      obtain ⟨u, S4, hu, b4, bag4, e4⟩ := take_ok hT (n := n + 1) (c := ls.length) bag (by omega) (Dv_of (by omega) (by omega))
      have hu' : u < ls.length := by omega
      refine ⟨_, rfl, by simp, ?_⟩
      simp [wipeD, e4, idx_str (List.getElem?_eq_getElem hu'), Ok]
      refine ⟨t ++ [ls[u]], by simp, ?_, bg.trans b4, bag4⟩
      intro c hc
      rcases List.mem_append.mp hc with h | h
      · exact ht c h
      · rw [List.mem_singleton.mp h]; exact hl2 _ (List.getElem_mem _)
    · rintro acc S3 hlen ⟨t, rfl, ht, bg, bag⟩
      refine ⟨t, rfl, ?_, ht, bg, bag⟩
      simpa using hlen
  obtain ⟨xs, S3, e3, t, rfl, tl, ht, b3, bag3⟩ := key.ex
  obtain ⟨w, S4, hw, b4, bag4, e4⟩ := take_ok hT (n := n + 1) (c := 6) bag3 (by decide) (Dv_of (by decide) (by decide))
  have hv' : v < 1000 := by omega
  have hrng : rngItems 0 (1 + (v : Int)) = some ((List.range (v + 1)).map fun (i : Nat) => D.int i) := by
    rw [rng_nat (by omega) (by omega), show (1 + (v : Int)).toNat = v + 1 by omega]
  have hjoin := join_chars (S := S3) (t := t) (by rw [tl, LIM_val]; omega)
  have nx4 : S4.nx = S.nx := by rw [b4.nx, b3.nx]
  have bgf : Bg b S S4 := b3.trans b4
  have two : Dv 2 := Dv_of (by decide) (by decide)
  have z0 : (0 : Int) ≤ (1 + (v : Int) + 1) / 2 := by omega
  have z1 : (0 : Int) ≤ (1 + (v : Int)) / 2 := by omega
  have z2 : (0 : Int) ≤ 1 + (v : Int) := by omega
  have hI : evI (callF T (n + 2)) (.rng1 (.var 3)) [some (.own b), some (.int most), some (.str ls), some (.int (1 + (v : Int))), none, none, none] S2 = .ok ((List.range (v + 1)).map fun (i : Nat) => D.int i) S2 := by
    simp only [evI_rng1, ev_var, List.getElem?_cons_succ, List.getElem?_cons_zero, bind_ok, hrng, ofOpt_some]
  have L := lcm_of (C := callF T (n + 2)) (it := .rng1 (.var 3)) (S := S2) hI (by rw [List.length_map, List.length_range, LIM_val]; omega) e3
  by_cases c1 : w = 0 ∧ 1 < 1 + v
  · have h2 : (List.replicate 2 (t.take ((1 + (v : Int) + 1) / 2).toNat)).flatten = t.take ((1 + (v : Int) + 1) / 2).toNat ++ t.take ((1 + (v : Int) + 1) / 2).toNat := by simp [List.replicate]
    refine ⟨((List.replicate 2 (t.take ((1 + (v : Int) + 1) / 2).toNat)).flatten).take (1 + (v : Int)).toNat, S4, ?_, ?_, ?_, bgf, bag4, ?_⟩
    · intro z
      have := congrArg List.length z
      rw [h2, List.length_take, List.length_append, List.length_take, tl] at this
      simp only [List.length_nil] at this
      omega
    · rw [List.length_take]; omega
    · intro c hc
      have := List.mem_of_mem_take hc
      rw [h2] at this
      rcases List.mem_append.mp this with h | h <;> exact ht c (List.mem_of_mem_take h)
    · have c2 : (1 : Int) < 1 + (v : Int) := by omega
      have hm : binV .mul (.str (t.take ((1 + (v : Int) + 1) / 2).toNat)) (.int 2) = some (.str (List.replicate 2 (t.take ((1 + (v : Int) + 1) / 2).toNat)).flatten) := mul_str (by rw [List.length_take]; omega) (by decide)
      rw [callF_eq (m := m__law_repeat) (by rw [hT _ (by decide)]; rfl) rfl]
      simp [m__law_repeat, startD, e1, e2, ev_mth, rcv, L, hjoin, e4, c1.1, c2, z0, z2, two, nx4, hm]
  · by_cases c3 : w = 1
    · have hlen : (t.take ((1 + (v : Int) + 1) / 2).toNat).length + (t.take ((1 + (v : Int)) / 2).toNat).reverse.length ≤ LIM := by
        rw [List.length_reverse, List.length_take, List.length_take, LIM_val]; omega
      refine ⟨(t.take ((1 + (v : Int) + 1) / 2).toNat ++ (t.take ((1 + (v : Int)) / 2).toNat).reverse).take (1 + (v : Int)).toNat, S4, ?_, ?_, ?_, bgf, bag4, ?_⟩
      · intro z
        have := congrArg List.length z
        rw [List.length_take, List.length_append, List.length_reverse, List.length_take, List.length_take, tl] at this
        simp only [List.length_nil] at this
        omega
      · rw [List.length_take]; omega
      · intro c hc
        rcases List.mem_append.mp (List.mem_of_mem_take hc) with h | h
        · exact ht c (List.mem_of_mem_take h)
        · exact ht c (List.mem_of_mem_take (List.mem_reverse.mp h))
      · have hadd := add_str hlen
        rw [callF_eq (m := m__law_repeat) (by rw [hT _ (by decide)]; rfl) rfl]
        simp only [m__law_repeat, startD]
        simp [e1, e2, ev_mth, rcv, L, hjoin, e4, c3, z0, z1, z2, two, nx4, hadd, -List.length_append, -List.length_reverse, -List.length_take]
    · refine ⟨t, S4, ?_, ?_, ht, bgf, bag4, ?_⟩
      · intro z; rw [z] at tl; simp at tl
      · omega
      · have c4 : ¬ (w : Int) = 1 := by omega
        have c5 : ¬ ((w : Int) = 0 ∧ (1 : Int) < 1 + (v : Int)) := by omega
        rw [callF_eq (m := m__law_repeat) (by rw [hT _ (by decide)]; rfl) rfl]
        simp only [m__law_repeat, startD]
        by_cases c6 : w = 0
        · have c7 : ¬ (1 : Int) < 1 + (v : Int) := by omega
          simp [e1, e2, ev_mth, rcv, L, hjoin, e4, c4, c6, c7, z0, z1, z2, two, nx4]
        · simp [e1, e2, ev_mth, rcv, L, hjoin, e4, c3, c4, c6, z0, z1, z2, two, nx4]
theorem repeat_ok {n b : Nat} {S : Sto} {most : Int} (hb : Bag b S) (h0 : 0 < most) (h1 : most ≤ 1000) :
    ∃ (t : List Nat) (S' : Sto), t ≠ [] ∧ t.length ≤ most ∧ Ltr t ∧ Bg b S S' ∧ Bag b S' ∧ callF T (n + 3) 55 [.own b, .int most] S = .ok (.str t) S' := by
  obtain ⟨t, S', h2, h3, h4, h5⟩ := repeat_okM hT (n := n) hb h0 h1
  exact ⟨t, S', h2, h3, h4.ltr, h5⟩
end
end Mn
end
section
set_option Elab.async false
set_option linter.all false
set_option maxRecDepth 100000
set_option maxHeartbeats 1000000
/-! Mean2: the bag; texts round about. -/
namespace Mn
theorem get_new' {S : Sto} {c : Cell} {i : Nat} : (S.new c).get i = if i = S.nx then some c else S.get i := by
  unfold Sto.new Sto.get
  show List.lookup i ((S.nx, c) :: S.cs) = _
  rw [List.lookup_cons]
  by_cases h : i = S.nx
  · subst h; simp
  · have : (i == S.nx) = false := by simpa using h
    rw [this, if_neg h]
theorem lookup_keep {p : Nat × Cell → Bool} {i : Nat} (h : ∀ c, p (i, c) = true) : ∀ l : List (Nat × Cell), List.lookup i (l.filter p) = List.lookup i l
  | [] => rfl
  | (k, e) :: r => by
    rw [List.filter_cons]
    by_cases hk : i = k
    · subst hk
      rw [if_pos (h e), List.lookup_cons, List.lookup_cons]; simp
    · have ne : (i == k) = false := by simpa using hk
      rw [List.lookup_cons, ne]
      split
      · rw [List.lookup_cons, ne]; exact lookup_keep h r
      · exact lookup_keep h r
/-- a def hands back a new cell -/
theorem ret_new {S : Sto} {c : Cell} : ∃ S', retD S.nx (.own S.nx) (S.new c) = .ok (.own S.nx) S' ∧ S'.get S.nx = some c ∧ S'.nx = S.nx + 1 ∧ ∀ i, i < S.nx → S'.get i = S.get i := by
  unfold retD
  rw [if_neg (by show ¬ S.nx + 1 = S.nx; omega)]
  have e : D.noOwn S.nx (.own S.nx) = false := by
    show decide (S.nx < S.nx) = false
    exact decide_eq_false (Nat.lt_irrefl _)
  rw [e, Bool.false_and, if_neg (by simp)]
  refine ⟨_, rfl, ?_, rfl, fun i hi => ?_⟩
  · show List.lookup S.nx (List.filter _ _) = _
    rw [lookup_keep (by intro c; simp [keeps])]
    have := get_new' (S := S) (c := c) (i := S.nx)
    rw [if_pos rfl] at this
    exact this
  · show List.lookup i (List.filter _ _) = _
    rw [lookup_keep (by intro c; simp [hi])]
    have := get_new' (S := S) (c := c) (i := i)
    rw [if_neg (by omega)] at this
    exact this
theorem idx_frz {S : Sto} {xs : List D} {i : Nat} {d : D} (h : xs[i]? = some d) : idxV S (.frz xs) (.int i) = some d := by
  show atD xs (i : Int) = _
  rw [atD_nat, h]
theorem pow60 : binV .pow (.int 10) (.int 60) = some (.int (10 ^ 60)) := by rfl
theorem pow18 : binV .pow (.int 10) (.int 18) = some (.int (10 ^ 18)) := by rfl
theorem flat_singles (f : Nat → Nat) (l : List Nat) : (l.map fun i => [f i]).flatten = l.map f := by
  induction l with
  | nil => rfl
  | cons a r ih => rw [List.map_cons, List.flatten_cons, ih]; rfl
/-- the color at a place of the yarn that is dyed so again and again -/
def cyc (s : List Nat) (i : Nat) : Nat := s.getD (i % s.length) 0
theorem cyc_get {s : List Nat} (h : s ≠ []) (i : Nat) : s[i % s.length]? = some (cyc s i) := by
  have hl : 0 < s.length := List.length_pos_iff.mpr h
  have : i % s.length < s.length := Nat.mod_lt _ hl
  unfold cyc
  rw [List.getD_eq_getElem?_getD, List.getElem?_eq_getElem this]; rfl
section
variable {T : Nat → Option MDef} (hT : ∀ f, f < 100 → T f = coreT f)
include hT
theorem bag_ok {n : Nat} {S : Sto} {ns : List Int} {k : Nat} (hk : k < 1000) (hn : ns.length < 1000) : ∃ S', callF T (n + 1) 52 [.frz (ns.map .int), .int k] S = .ok (.own S.nx) S' ∧ Bag S.nx S' ∧ S'.nx = S.nx + 1 ∧ ∀ i, i < S.nx → S'.get i = S.get i := by
  have s1 : smallI 16807 = true := by decide
  have s2 : smallI 40009 = true := by decide
  have s3 : smallI 7919 = true := by decide
  have s4 : smallI (k : Int) = true := smallI_of (by omega) (by omega)
  have fin : ∀ x y : Int, ∃ S', retD S.nx (.own S.nx) (S.new (.lst [.int x, .int y])) = .ok (.own S.nx) S' ∧ Bag S.nx S' ∧ S'.nx = S.nx + 1 ∧ ∀ i, i < S.nx → S'.get i = S.get i := fun x y => by
    obtain ⟨S', e, h1, h2, h3⟩ := ret_new (S := S) (c := .lst [.int x, .int y])
    exact ⟨S', e, ⟨x, y, h1⟩, h2, h3⟩
  rw [callF_eq (m := m__law_bag) (by rw [hT _ (by decide)]; rfl) rfl]
  simp only [m__law_bag, startD]
  have p60 : (0 : Int) < 10 ^ 60 := by decide
  by_cases h : k < ns.length
  · have hi : (ns.map D.int)[k]? = some (.int ns[k]) := by rw [List.getElem?_map, List.getElem?_eq_getElem h]; rfl
    by_cases h2 : ns[k] % 1000000000000000000000000000000000000000000000000000000000000 < 1000000000000000000
    · simp [h, idx_frz hi, pow60, pow18, s1, s2, s3, s4, h2, p60]
      exact fin _ _
    · simp [h, idx_frz hi, pow60, pow18, s1, s2, s3, s4, h2, p60]
      exact fin _ _
  · simp [h, pow60, pow18, s1, s2, s3, s4]
    exact fin _ _
/-- _law_long -/
theorem long_ok {n : Nat} {S : Sto} {t : List Nat} {a z : Nat} (ht : t ≠ []) (hl : t.length < 2 ^ 60) (ha : a < 2 ^ 60) (hz : z ≤ LIM) : callF T (n + 1) 58 [.str t, .int a, .int z] S = .ok (.str ((List.range z).map fun i => cyc t (a + i))) S := by
  have hz' : z ≤ 1000000 := hz
  have hrng : rngItems (a : Int) (a + z : Int) = some ((List.range z).map fun (i : Nat) => D.int ((a : Int) + i)) := by
    rw [rng_two (by omega) (by omega) (by omega) (by omega), show ((a : Int) + z - a).toNat = z by omega]
  have hlen : 0 < t.length := List.length_pos_iff.mpr ht
  have L : ∀ ρ : Env, ρ[0]? = some (some (.str t)) → ρ[1]? = some (some (.int a)) → ρ[2]? = some (some (.int z)) → ρ.length = 4 → ev (callF T n) (.lcm false (.idx (.var 0) (.bin .mod (.var 3) (.bcl .len [.var 0]))) [3] (.nm 3) (.rng2 (.var 1) (.bin .add (.var 1) (.var 2))) none) ρ S =
      .ok (.lst (((List.range z).map fun i => cyc t (a + i)).map fun c => .str [c])) S := fun ρ h0 h1 h2 hlen => by
    refine lcm_of (S1 := S) (ds := (List.range z).map fun (i : Nat) => D.int ((a : Int) + i)) ?_ (by rw [List.length_map, List.length_range]; exact hz) ?_
    · simp only [evI_rng2, ev_var, ev_bin, h1, h2, bind_ok, binV_add, ofOpt_some, hrng]
    · rw [comp_map (fun d => match d with | .int i => .str [cyc t i.toNat] | d => d) _ _ fun d hd => ?_]
      · simp only [List.nil_append, List.map_map]
        congr 2
      · obtain ⟨i, hi, rfl⟩ := List.mem_map.mp hd
        refine ⟨_, rfl, by simp, ?_⟩
        have e0 : ((wipeD ρ [3]).set 3 (some (.int ((a : Int) + i))))[0]? = some (some (.str t)) := by simp [wipeD, h0]
        have e3 : ((wipeD ρ [3]).set 3 (some (.int ((a : Int) + i))))[3]? = some (some (.int ((a : Int) + i))) := by simp [wipeD, hlen]
        have em : ((a : Int) + i) % (t.length : Int) = (((a + i) % t.length : Nat) : Int) := by rw [Int.natCast_emod, Int.natCast_add]
        have hp : (0 : Int) < t.length := by omega
        simp only [ev_idx, ev_var, ev_bin, ev_bcl, evs_cons, evs_nil, e0, e3, bind_ok, len_str, ofOpt_some, binV_mod hp, em, idx_str (cyc_get ht (a + i))]
        rfl
  have hjoin := join_chars (S := S) (t := (List.range z).map fun i => cyc t (a + i)) (by rw [List.length_map, List.length_range]; exact hz)
  rw [callF_eq (m := m__law_long) (by rw [hT _ (by decide)]; rfl) rfl]
  have L' := L (startD m__law_long [.str t, .int a, .int z]) rfl rfl rfl rfl
  simp only [m__law_long]
  simp only [m__law_long, execs_cons, exec_ret, ev_mth, ev_cst, bind_ok, rcv, if_true, evs_cons, evs_nil, bindS_ok] at L' ⊢
  rw [L']
  simp only [bind_ok, hjoin, bindS_ok, nextS_rt, nox_ok, fin_rt, retD_same]
end
end Mn
end
section
set_option Elab.async false
set_option linter.all false
set_option maxRecDepth 100000
set_option maxHeartbeats 1000000
/-! Cyc: yarns that are dyed again and again: periods, the shortest part, turns. Plain Lean. -/
namespace Mn
/-- p is a period of f -/
def Per {α : Type} (f : Nat → α) (p : Nat) : Prop := ∀ i, f (i + p) = f i
theorem Per.mul {α : Type} {f : Nat → α} {p : Nat} (h : Per f p) : ∀ k i, f (i + k * p) = f i
  | 0, i => by simp
  | k + 1, i => by rw [Nat.succ_mul, ← Nat.add_assoc, h, Per.mul h k]
theorem Per.dvd {α : Type} {f : Nat → α} {p q : Nat} (h : Per f p) (d : p ∣ q) : Per f q := by
  obtain ⟨k, rfl⟩ := d
  intro i
  rw [Nat.mul_comm]; exact h.mul k i
theorem Per.mod {α : Type} {f : Nat → α} {p : Nat} (h : Per f p) (i : Nat) : f (i % p) = f i := by
  conv => rhs; rw [← Nat.mod_add_div i p, Nat.mul_comm]
  rw [h.mul]
theorem Per.sub {α : Type} {f : Nat → α} {p q : Nat} (hp : Per f p) (hq : Per f q) (h : p ≤ q) : Per f (q - p) := fun i => by
  have := hq i
  rw [← hp (i + (q - p)), show i + (q - p) + p = i + q by omega]; exact this
theorem Per.gcd {α : Type} {f : Nat → α} : ∀ {p q : Nat}, Per f p → Per f q → Per f (Nat.gcd p q) := by
  intro p
  induction p using Nat.strongRecOn with
  | _ p ih =>
    intro q hp hq
    cases p with
    | zero => rw [Nat.gcd_zero_left]; exact hq
    | succ p =>
      rw [Nat.gcd_rec]
      refine ih _ (Nat.mod_lt _ (Nat.succ_pos _)) ?_ hp
      intro i
      have e := Nat.mod_add_div q (p + 1)
      have := hq i
      rw [← e, ← Nat.add_assoc, Nat.mul_comm (p + 1), hp.mul] at this
      exact this
theorem per_one {α : Type} {f : Nat → α} (h : Per f 1) (i : Nat) : f i = f 0 := by
  induction i with
  | zero => rfl
  | succ i ih => rw [h i, ih]

theorem cyc_per (s : List Nat) : Per (cyc s) s.length := fun i => by unfold cyc; rw [Nat.add_mod_right]
theorem cyc_lt {s : List Nat} {i : Nat} (h : i < s.length) : cyc s i = s[i] := by
  unfold cyc
  rw [Nat.mod_eq_of_lt h, List.getD_eq_getElem?_getD, List.getElem?_eq_getElem h]; rfl
theorem cyc_mem {s : List Nat} (h : s ≠ []) (i : Nat) : cyc s i ∈ s := by
  have hl : 0 < s.length := List.length_pos_iff.mpr h
  have := Nat.mod_lt i hl
  rw [← (cyc_per s).mod, cyc_lt this]
  exact List.getElem_mem _
/-- a text by its cyclic letters -/
theorem cyc_ext {s t : List Nat} (hl : s.length = t.length) (h : ∀ i, i < s.length → cyc s i = cyc t i) : s = t := by
  apply List.ext_getElem hl
  intro i h1 h2
  have := h i h1
  rw [cyc_lt h1, cyc_lt h2] at this
  exact this
theorem cyc_map {n : Nat} {f : Nat → Nat} {i : Nat} (h : i < n) : cyc ((List.range n).map f) i = f i := by
  rw [cyc_lt (by simpa using h)]
  simp
theorem cyc_mapP {n : Nat} {f : Nat → Nat} (hn : 0 < n) (hp : Per f n) (i : Nat) : cyc ((List.range n).map f) i = f i := by
  have e := cyc_per ((List.range n).map f)
  rw [List.length_map, List.length_range] at e
  rw [← e.mod, cyc_map (Nat.mod_lt _ hn), hp.mod]
/-- equal far enough, equal for good -/
theorem eq_far {f g : Nat → Nat} {p q N : Nat} (hp : Per f p) (hq : Per g q) (h0 : 0 < p) (h1 : 0 < q) (hN : p * q ≤ N) (h : ∀ i, i < N → f i = g i) (i : Nat) : f i = g i := by
  have hpq : 0 < p * q := Nat.mul_pos h0 h1
  have hf : Per f (p * q) := hp.dvd (Nat.dvd_mul_right p q)
  have hg : Per g (p * q) := hq.dvd (Nat.dvd_mul_left q p)
  rw [← hf.mod i, ← hg.mod i]
  exact h _ (Nat.lt_of_lt_of_le (Nat.mod_lt _ hpq) hN)
/-- p and q as periods of f and g, equal on p + q: equal for good -/
theorem eq_near {f g : Nat → Nat} {p q N : Nat} (hp : Per f p) (hq : Per g q) (h0 : 0 < p) (h1 : 0 < q) (hN : p + q ≤ N) (h : ∀ i, i < N → f i = g i) : ∀ i, f i = g i := by
  intro i
  induction i using Nat.strongRecOn with
  | _ i ih =>
    by_cases hi : i < N
    · exact h i hi
    · -- f i = f (i - p) = g (i - p) = g (i - p - q) = f (i - p - q) = f (i - q) = g (i - q) = g i
      have a1 : f i = f (i - p) := by rw [← hp (i - p)]; congr 1; omega
      have a2 : g i = g (i - q) := by rw [← hq (i - q)]; congr 1; omega
      have a3 : g (i - p) = g (i - p - q) := by rw [← hq (i - p - q)]; congr 1; omega
      have a4 : f (i - q) = f (i - p - q) := by rw [← hp (i - p - q)]; congr 1; omega
      rw [a1, ih (i - p) (by omega), a3, a2, ← ih (i - q) (by omega), a4, ih (i - p - q) (by omega)]

/-! ### the shortest part -/
/-- s is its first p again and again -/
def Part (s : List Nat) (p : Nat) : Prop := s.length % p = 0 ∧ (List.replicate (s.length / p) (s.take p)).flatten = s
theorem flat_get {a : List Nat} (h : a ≠ []) : ∀ (k i : Nat), i < k * a.length → (List.replicate k a).flatten[i]? = some (cyc a i)
  | 0, i, hi => by simp at hi
  | k + 1, i, hi => by
    rw [List.replicate_succ, List.flatten_cons]
    by_cases hl : i < a.length
    · rw [List.getElem?_append_left hl, cyc_lt hl, List.getElem?_eq_getElem hl]
    · rw [List.getElem?_append_right (by omega), flat_get h k (i - a.length) (by rw [Nat.succ_mul] at hi; omega)]
      congr 1
      have := cyc_per a (i - a.length)
      rw [show i - a.length + a.length = i by omega] at this
      exact this.symm
theorem part_iff {s : List Nat} {p : Nat} (h0 : 0 < p) (h1 : p ≤ s.length) : Part s p ↔ p ∣ s.length ∧ Per (cyc s) p := by
  have hs : s ≠ [] := by intro z; subst z; simp at h1; omega
  have ht : s.take p ≠ [] := by
    intro z
    have := congrArg List.length z
    rw [List.length_take, List.length_nil] at this
    omega
  have htl : (s.take p).length = p := by rw [List.length_take]; omega
  have hcyc : ∀ i, cyc (s.take p) i = cyc s (i % p) := fun i => by
    have := Nat.mod_lt i h0
    have e := (cyc_per (s.take p)).mod i
    rw [htl] at e
    rw [← e, cyc_lt (by rw [htl]; exact this), cyc_lt (by omega)]
    simp
  constructor
  · rintro ⟨h2, h3⟩
    have hd : p ∣ s.length := Nat.dvd_of_mod_eq_zero h2
    refine ⟨hd, ?_⟩
    have key : ∀ i, cyc s i = cyc (s.take p) i := by
      refine eq_far (N := s.length * s.length) (cyc_per s) (q := p) (by intro i; have := cyc_per (s.take p) i; rw [htl] at this; exact this) (by omega) h0 (Nat.mul_le_mul_left _ h1) ?_
      intro i hi
      have hi' := Nat.mod_lt i (show 0 < s.length by omega)
      have g := flat_get ht (s.length / p) (i % s.length) (by rw [htl, Nat.div_mul_cancel hd]; exact hi')
      rw [h3, List.getElem?_eq_getElem hi'] at g
      rw [← (cyc_per s).mod, cyc_lt hi']
      rw [Option.some.inj g, hcyc, hcyc i, Nat.mod_mod_of_dvd _ hd]
    intro i
    rw [key, key i, hcyc, hcyc i, Nat.add_mod_right]
  · rintro ⟨hd, hp⟩
    refine ⟨Nat.mod_eq_zero_of_dvd hd, ?_⟩
    apply List.ext_getElem?
    intro i
    by_cases hi : i < s.length
    · rw [flat_get ht _ _ (by rw [htl, Nat.div_mul_cancel hd]; exact hi), List.getElem?_eq_getElem hi, hcyc, hp.mod, cyc_lt hi]
    · rw [List.getElem?_eq_none (l := s) (by omega)]
      apply List.getElem?_eq_none
      rw [List.length_flatten, List.map_replicate, List.sum_replicate_nat, htl, Nat.div_mul_cancel hd]
      omega

/-- r is the length of the shortest part -/
structure IsRoot (s : List Nat) (r : Nat) : Prop where
  pos : 0 < r
  le : r ≤ s.length
  dvd : r ∣ s.length
  per : Per (cyc s) r
  least : ∀ p, 0 < p → Per (cyc s) p → r ≤ p
theorem IsRoot.dvdP {s : List Nat} {r p : Nat} (h : IsRoot s r) (h0 : 0 < p) (hp : Per (cyc s) p) : r ∣ p := by
  have g := Per.gcd h.per hp
  have g0 : 0 < Nat.gcd r p := Nat.gcd_pos_of_pos_left _ h.pos
  have l := h.least _ g0 g
  have d := Nat.gcd_dvd_left r p
  have e : Nat.gcd r p = r := Nat.le_antisymm (Nat.le_of_dvd h.pos d) l
  rw [← e]; exact Nat.gcd_dvd_right r p
theorem root_first {s : List Nat} {r : Nat} (h0 : 0 < r) (h1 : r < s.length) (hp : Part s r) (hf : ∀ p, 0 < p → p < r → ¬ Part s p) : IsRoot s r := by
  obtain ⟨d, per⟩ := (part_iff h0 (by omega)).mp hp
  refine ⟨h0, by omega, d, per, fun p p0 pp => ?_⟩
  have g0 : 0 < Nat.gcd p s.length := Nat.gcd_pos_of_pos_left _ p0
  have gl : Nat.gcd p s.length ≤ p := Nat.le_of_dvd p0 (Nat.gcd_dvd_left _ _)
  by_cases hlt : r ≤ p
  · exact hlt
  · exact absurd ((part_iff g0 (by omega)).mpr ⟨Nat.gcd_dvd_right _ _, Per.gcd pp (cyc_per s)⟩) (hf _ g0 (by omega))
theorem root_whole {s : List Nat} (hs : s ≠ []) (hf : ∀ p, 0 < p → p < s.length → ¬ Part s p) : IsRoot s s.length := by
  have hl : 0 < s.length := List.length_pos_iff.mpr hs
  refine ⟨hl, Nat.le_refl _, Nat.dvd_refl _, cyc_per s, fun p p0 pp => ?_⟩
  have g0 : 0 < Nat.gcd p s.length := Nat.gcd_pos_of_pos_left _ p0
  have gl : Nat.gcd p s.length ≤ p := Nat.le_of_dvd p0 (Nat.gcd_dvd_left _ _)
  have g2 : Nat.gcd p s.length ≤ s.length := Nat.le_of_dvd hl (Nat.gcd_dvd_right _ _)
  by_cases hlt : s.length ≤ p
  · exact hlt
  · exact absurd ((part_iff g0 g2).mpr ⟨Nat.gcd_dvd_right _ _, Per.gcd pp (cyc_per s)⟩) (hf _ g0 (by omega))
theorem IsRoot.uniq {s : List Nat} {r q : Nat} (h : IsRoot s r) (k : IsRoot s q) : r = q := Nat.le_antisymm (h.least _ k.pos k.per) (k.least _ h.pos h.per)
theorem IsRoot.take_len {s : List Nat} {r : Nat} (h : IsRoot s r) : (s.take r).length = r := by rw [List.length_take]; have := h.le; omega
theorem IsRoot.ne {s : List Nat} {r : Nat} (h : IsRoot s r) : s.take r ≠ [] := fun z => by
  have := h.take_len
  rw [z] at this
  have := h.pos
  simp at *; omega
theorem IsRoot.cyc {s : List Nat} {r : Nat} (h : IsRoot s r) (i : Nat) : cyc (s.take r) i = cyc s i := by
  have e := (cyc_per (s.take r)).mod i
  rw [h.take_len] at e
  have := Nat.mod_lt i h.pos
  have hl := h.le
  rw [← e, ← h.per.mod, cyc_lt (by rw [h.take_len]; exact this), cyc_lt (by omega)]
  simp
/-- the shortest part's own shortest part is the whole -/
theorem IsRoot.again {s : List Nat} {r : Nat} (h : IsRoot s r) : IsRoot (s.take r) r := by
  have e : ∀ p, Per (Mn.cyc (s.take r)) p ↔ Per (Mn.cyc s) p := fun p => ⟨fun z i => by rw [← h.cyc, ← h.cyc]; exact z i, fun z i => by rw [h.cyc, h.cyc]; exact z i⟩
  exact ⟨h.pos, by rw [h.take_len]; exact Nat.le_refl _, by rw [h.take_len]; exact Nat.dvd_refl _, (e r).mpr h.per, fun p p0 z => h.least p p0 ((e p).mp z)⟩
theorem root_same {s t : List Nat} {r : Nat} (hs : IsRoot s r) (ht : t ≠ []) (a : Nat) (h : ∀ i, cyc t i = cyc s (a + i)) (hd : r ∣ t.length) : IsRoot t r := by
  have e : ∀ p, Per (cyc t) p → Per (cyc s) p := fun p z i => by
    -- i = a + j modulo r
    have k : ∃ j, Nat.le i (a + j) ∧ r ∣ a + j - i := by
      refine ⟨i + (r - 1) * a, by show i ≤ _; omega, ?_⟩
      have : a + (i + (r - 1) * a) - i = r * a := by
        have hr := hs.pos
        have : (r - 1) * a + a = r * a := by rw [← Nat.succ_mul]; congr 1; omega
        omega
      rw [this]; exact Nat.dvd_mul_right _ _
    obtain ⟨j, hj, d⟩ := k
    have hj : i ≤ a + j := hj
    have p1 := hs.per.dvd d
    have e1 : cyc s i = cyc s (a + j) := by rw [← p1 i]; congr 1; omega
    have e2 : cyc s (i + p) = cyc s (a + j + p) := by rw [← p1 (i + p)]; congr 1; omega
    rw [e1, e2, Nat.add_assoc, ← h, ← h]; exact z j
  have e' : ∀ p, Per (cyc s) p → Per (cyc t) p := fun p z i => by rw [h, h, ← Nat.add_assoc]; exact z _
  have hl : 0 < t.length := List.length_pos_iff.mpr ht
  exact ⟨hs.pos, Nat.le_of_dvd hl hd, hd, e' _ hs.per, fun p p0 z => hs.least p p0 (e p z)⟩
/-- the first of f 0, f 1, .. -/
theorem find_some {m : Nat} {f : Nat → D} {p : D → Bool} {d : D} (h : ((List.range m).map f).find? p = some d) : ∃ i, i < m ∧ d = f i ∧ p (f i) = true ∧ ∀ j, j < i → p (f j) = false := by
  rw [List.find?_map] at h
  obtain ⟨i, h1, h2⟩ := Option.map_eq_some_iff.mp h
  have h3 := List.find?_some h1
  have h4 := List.mem_of_find?_eq_some h1
  refine ⟨i, List.mem_range.mp h4, h2.symm, h3, fun j hj => ?_⟩
  rw [List.find?_range_eq_some] at h1
  have := h1.2.2 j hj
  simpa using this
theorem find_none {m : Nat} {f : Nat → D} {p : D → Bool} (h : ((List.range m).map f).find? p = none) : ∀ i, i < m → p (f i) = false := fun i hi => by
  have := List.find?_eq_none.mp h (f i) (List.mem_map_of_mem (List.mem_range.mpr hi))
  simpa using this
/-- the text from place a on -/
def turnL (s : List Nat) (a : Nat) : List Nat := s.drop (a % s.length) ++ s.take (a % s.length)
theorem turnL_len {s : List Nat} {a : Nat} : (turnL s a).length = s.length := by
  unfold turnL
  rw [List.length_append, List.length_drop, List.length_take]
  by_cases h : s = []
  · subst h; simp
  · have := Nat.mod_lt a (List.length_pos_iff.mpr h)
    omega
theorem turnL_cyc {s : List Nat} (hs : s ≠ []) (a i : Nat) : cyc (turnL s a) i = cyc s (a + i) := by
  have hl := List.length_pos_iff.mpr hs
  have hm := Nat.mod_lt a hl
  have e := (cyc_per (turnL s a)).mod i
  rw [turnL_len] at e
  have hi := Nat.mod_lt i hl
  rw [← e, ← (cyc_per s).mod (a + i), Nat.add_mod, cyc_lt (by rw [turnL_len]; exact hi)]
  have hg : (turnL s a)[i % s.length]? = some (cyc s ((a % s.length + i % s.length) % s.length)) := by
    unfold turnL
    by_cases h : i % s.length < s.length - a % s.length
    · rw [List.getElem?_append_left (by rw [List.length_drop]; omega), List.getElem?_drop, Nat.mod_eq_of_lt (show a % s.length + i % s.length < s.length by omega), cyc_lt (by omega), List.getElem?_eq_getElem]
    · have e2 : (a % s.length + i % s.length) % s.length = a % s.length + i % s.length - s.length := by
        rw [Nat.mod_eq_sub_mod (by omega), Nat.mod_eq_of_lt (by omega)]
      rw [List.getElem?_append_right (by rw [List.length_drop]; omega), List.length_drop, List.getElem?_take_of_lt (by omega), e2, cyc_lt (by omega)]
      rw [show i % s.length - (s.length - a % s.length) = a % s.length + i % s.length - s.length by omega, List.getElem?_eq_getElem]
  rw [List.getElem?_eq_getElem (by rw [turnL_len]; exact hi)] at hg
  exact Option.some.inj hg

/-! ### turns -/
theorem per_turn {f k : Nat → Nat} {r a : Nat} (hr : 0 < r) (hf : Per f r) (h : ∀ i, k i = f (a + i)) (p : Nat) : Per k p ↔ Per f p := by
  constructor
  · intro z i
    have e1 : f i = f (a + (i + (r - 1) * a)) := by
      have : a + (i + (r - 1) * a) = i + a * r := by
        have : (r - 1) * a + a = r * a := by rw [← Nat.succ_mul]; congr 1; omega
        rw [Nat.mul_comm a r]; omega
      rw [this, hf.mul]
    have e2 : f (i + p) = f (a + (i + (r - 1) * a + p)) := by
      have : a + (i + (r - 1) * a + p) = i + p + a * r := by
        have : (r - 1) * a + a = r * a := by rw [← Nat.succ_mul]; congr 1; omega
        rw [Nat.mul_comm a r]; omega
      rw [this, hf.mul]
    rw [e1, e2, ← h, ← h]; exact z _
  · intro z i
    rw [h, h, ← Nat.add_assoc]; exact z _
/-- other is one from place k on -/
def Sh (one other : List Nat) (k : Nat) : Prop := ∀ i, cyc one (k + i) = cyc other i
def ShiftIs (one other : List Nat) (d : D) : Prop := (∃ k : Nat, d = .int k ∧ Sh one other k ∧ ∀ j, j < k → ¬ Sh one other j) ∨ (d = .non ∧ ∀ k, ¬ Sh one other k)
theorem ShiftIs.uniq {a b : List Nat} {d e : D} (h : ShiftIs a b d) (k : ShiftIs a b e) : d = e := by
  rcases h with ⟨x, rfl, h1, h2⟩ | ⟨rfl, h⟩
  · rcases k with ⟨y, rfl, k1, k2⟩ | ⟨rfl, k⟩
    · have : x = y := by
        rcases Nat.lt_trichotomy x y with q | q | q
        · exact absurd h1 (k2 x q)
        · exact q
        · exact absurd k1 (h2 y q)
      rw [this]
    · exact absurd h1 (k x)
  · rcases k with ⟨y, rfl, k1, k2⟩ | ⟨rfl, k⟩
    · exact absurd k1 (h y)
    · rfl
theorem sh_root {one other : List Nat} {r q k : Nat} (h1 : IsRoot one r) (h2 : IsRoot other q) : turnL (one.take r) k = other.take q ↔ Sh one other k := by
  constructor
  · intro e i
    rw [← h1.cyc, ← h2.cyc, ← e, turnL_cyc h1.ne]
  · intro h
    have pt := per_turn (k := cyc other) h1.pos h1.per (a := k) (fun i => (h i).symm)
    have hq : q = r := Nat.le_antisymm (h2.least _ h1.pos ((pt _).mpr h1.per)) (h1.least _ h2.pos ((pt _).mp h2.per))
    subst hq
    refine cyc_ext (by rw [turnL_len, h1.take_len, h2.take_len]) fun i _ => ?_
    rw [turnL_cyc h1.ne, h1.cyc, h2.cyc]; exact h i
theorem sh_mod {one other : List Nat} {r k : Nat} (hp : Per (cyc one) r) : Sh one other (k % r) ↔ Sh one other k := by
  have e : ∀ i, cyc one (k % r + i) = cyc one (k + i) := fun i => by
    conv => rhs; rw [← Nat.mod_add_div k r]
    rw [Nat.add_right_comm, Nat.mul_comm r, hp.mul]
  exact ⟨fun h i => by rw [← e]; exact h i, fun h i => by rw [e]; exact h i⟩
/-- the shift by the first fitting place among the first r -/
theorem shiftIs_of {one other : List Nat} {r : Nat} {p : D → Bool} (hr : 0 < r) (hp : Per (cyc one) r) (h : ∀ i : Nat, i < r → (p (.int i) = true ↔ Sh one other i)) :
    ShiftIs one other (match ((List.range r).map fun (i : Nat) => D.int i).find? p with | some d => d | none => .non) := by
  cases hf : ((List.range r).map fun (i : Nat) => D.int i).find? p with
  | some d =>
    obtain ⟨i, hi, rfl, h1, h2⟩ := find_some hf
    exact .inl ⟨i, rfl, (h i hi).mp h1, fun j hj q => by
      have := h2 j hj
      rw [(h j (by omega)).mpr q] at this
      cases this⟩
  | none =>
    have hb := find_none hf
    refine .inr ⟨rfl, fun k q => ?_⟩
    have hk := Nat.mod_lt k hr
    have := hb (k % r) hk
    rw [(h _ hk).mpr ((sh_mod hp).mpr q)] at this
    cases this
/-- what is turned by a -/
theorem shift_turn {s t : List Nat} {r a : Nat} (h : IsRoot s r) (ht : ∀ i, cyc t i = cyc s (a + i)) : ShiftIs s t (.int ((a % r : Nat) : Int)) := by
  have ha : Sh s t a := fun i => (ht i).symm
  refine .inl ⟨a % r, rfl, (sh_mod h.per).mpr ha, fun j hj q => ?_⟩
  have hm := Nat.mod_lt a h.pos
  have e : ∀ i, cyc s (j + i) = cyc s (a % r + i) := fun i => by rw [q i, ← (sh_mod h.per).mpr ha i]
  have p : Per (cyc s) (a % r - j) := by
    refine (per_turn (k := fun i => cyc s (j + i)) h.pos h.per (a := j) (fun _ => rfl) _).mp fun i => ?_
    show cyc s (j + (i + (a % r - j))) = cyc s (j + i)
    rw [e i]; congr 1; omega
  have := h.least _ (by omega) p
  omega
theorem shift_self {s : List Nat} : ShiftIs s s (.int 0) := .inl ⟨0, rfl, fun i => by rw [Nat.zero_add], fun j hj => absurd hj (Nat.not_lt_zero _)⟩

/-! ### mirrors -/
theorem Per.eqM {α : Type} {f : Nat → α} {L A B a b : Nat} (h : Per f L) (e : A + a * L = B + b * L) : f A = f B := by
  rw [← h.mul a A, e, h.mul]
/-- f is the same backwards about c, round L -/
def Mir (f : Nat → Nat) (L c : Nat) : Prop := ∀ x y u v, x + y + u * L = c + v * L → f x = f y
theorem rev_cyc {t : List Nat} (ht : t ≠ []) (i : Nat) : cyc t.reverse i = cyc t (t.length - 1 - i % t.length) := by
  have hl := List.length_pos_iff.mpr ht
  have hi := Nat.mod_lt i hl
  have e := (cyc_per t.reverse).mod i
  rw [List.length_reverse] at e
  rw [← e, cyc_lt (by rw [List.length_reverse]; exact hi), cyc_lt (by omega)]
  rw [List.getElem_reverse]
theorem sh_rev {t : List Nat} (ht : t ≠ []) (k : Nat) : Sh t t.reverse k ↔ Mir (cyc t) t.length (k + (t.length - 1)) := by
  have hl := List.length_pos_iff.mpr ht
  have P := cyc_per t
  generalize hL : t.length = L at *
  constructor
  · intro h x y u v e
    have m1 : (L - 1) * k + k = L * k := by rw [← Nat.succ_mul]; congr 1; omega
    have hk : cyc t x = cyc t (k + (x + (L - 1) * k)) := by
      refine P.eqM (a := k) (b := 0) ?_
      rw [Nat.mul_comm k L]; omega
    have z := h (x + (L - 1) * k)
    rw [rev_cyc ht, hL] at z
    rw [hk, z]
    have hm := Nat.mod_lt (x + (L - 1) * k) hl
    have hd := Nat.mod_add_div (x + (L - 1) * k) L
    refine P.eqM (a := k + v) (b := (x + (L - 1) * k) / L + u) ?_
    rw [Nat.add_mul, Nat.add_mul, Nat.mul_comm k L, Nat.mul_comm ((x + (L - 1) * k) / L) L]
    omega
  · intro h i
    rw [rev_cyc ht, hL]
    have hm := Nat.mod_lt i hl
    have hd := Nat.mod_add_div i L
    refine h _ _ 0 (i / L) ?_
    rw [Nat.mul_comm (i / L) L]
    omega
theorem mir_turn {f k : Nat → Nat} {L a c : Nat} (h0 : 0 < L) (hf : Per f L) (h : ∀ i, k i = f (a + i)) : (∃ c, Mir k L c) ↔ ∃ c, Mir f L c := by
  constructor
  · rintro ⟨c, m⟩
    refine ⟨c + 2 * a, fun x y u v e => ?_⟩
    -- x = a + x', y = a + y' modulo L
    have m1 : (L - 1) * a + a = L * a := by rw [← Nat.succ_mul]; congr 1; omega
    have e1 : f x = k (x + (L - 1) * a) := by
      rw [h]
      refine hf.eqM (a := a) (b := 0) ?_
      rw [Nat.mul_comm a L]; omega
    have e2 : f y = k (y + (L - 1) * a) := by
      rw [h]
      refine hf.eqM (a := a) (b := 0) ?_
      rw [Nat.mul_comm a L]; omega
    rw [e1, e2]
    refine m _ _ u (v + 2 * a) ?_
    rw [Nat.add_mul, Nat.mul_assoc, Nat.mul_comm a L]
    omega
  · rintro ⟨c, m⟩
    refine ⟨c + 2 * (L - 1) * a, fun x y u v e => ?_⟩
    rw [h, h]
    have m1 : (L - 1) * a + a = L * a := by rw [← Nat.succ_mul]; congr 1; omega
    refine m _ _ u (v + 2 * a) ?_
    rw [Nat.mul_assoc] at e
    rw [Nat.add_mul, Nat.mul_assoc, Nat.mul_comm a L]
    omega
theorem mir_div {f : Nat → Nat} {L r : Nat} (hL : 0 < L) (hr : 0 < r) (hf : Per f r) (d : r ∣ L) : (∃ c, Mir f r c) ↔ ∃ c, Mir f L c := by
  obtain ⟨q, rfl⟩ := d
  constructor
  · rintro ⟨c, m⟩
    refine ⟨c, fun x y u v e => m x y (u * q) (v * q) ?_⟩
    rw [Nat.mul_assoc, Nat.mul_assoc, Nat.mul_comm q r]; exact e
  · rintro ⟨c, m⟩
    refine ⟨c, fun x y u v e => ?_⟩
    -- x + y + u r = c + v r; raise x by multiples of r until it fits
    have q0 : 0 < q := Nat.pos_of_mul_pos_left hL |> fun _ => by
      rcases Nat.eq_zero_or_pos q with z | z
      · subst z; simp at hL
      · exact z
    have m1 : (q - 1) * v + v = q * v := by rw [← Nat.succ_mul]; congr 1; omega
    have e1 : f x = f (x + (u + (q - 1) * v) * r) := by
      refine hf.eqM (a := u + (q - 1) * v) (b := 0) ?_
      omega
    rw [e1]
    refine m _ _ 0 v ?_
    have e2 : v * (r * q) = (q * v) * r := by rw [Nat.mul_comm r q, ← Nat.mul_assoc, Nat.mul_comm v q]
    rw [e2, ← m1, Nat.add_mul, Nat.add_mul]
    omega
/-- t is the same backwards, somewhere -/
def MirL (t : List Nat) : Prop := ∃ k, Sh t t.reverse k
theorem mirL_iff {t : List Nat} (ht : t ≠ []) : MirL t ↔ ∃ c, Mir (cyc t) t.length c := by
  have hl := List.length_pos_iff.mpr ht
  constructor
  · rintro ⟨k, h⟩
    exact ⟨_, (sh_rev ht k).mp h⟩
  · rintro ⟨c, m⟩
    refine ⟨c + 1, (sh_rev ht _).mpr fun x y u v e => m x y u (v + 1) ?_⟩
    rw [Nat.add_mul]; omega
theorem mirL_turn {s t : List Nat} {a : Nat} (hs : s ≠ []) (ht : t ≠ []) (hl : t.length = s.length) (h : ∀ i, cyc t i = cyc s (a + i)) : MirL t ↔ MirL s := by
  rw [mirL_iff hs, mirL_iff ht, hl]
  exact mir_turn (c := 0) (List.length_pos_iff.mpr hs) (cyc_per s) h
theorem mirL_root {s : List Nat} {r : Nat} (hs : s ≠ []) (h : IsRoot s r) : MirL (s.take r) ↔ MirL s := by
  rw [mirL_iff hs, mirL_iff h.ne, h.take_len, show Mn.cyc (s.take r) = Mn.cyc s from funext h.cyc]
  exact mir_div (List.length_pos_iff.mpr hs) h.pos h.per h.dvd

/-! ### by trial -/
def shB (one other : List Nat) (k : Nat) : Bool := (List.range (one.length * other.length)).all fun i => cyc one (k + i) == cyc other i
theorem shB_iff {one other : List Nat} (h1 : one ≠ []) (h2 : other ≠ []) (k : Nat) : shB one other k = true ↔ Sh one other k := by
  have l1 := List.length_pos_iff.mpr h1
  have l2 := List.length_pos_iff.mpr h2
  unfold shB
  rw [List.all_eq_true]
  constructor
  · intro h
    have p : Per (fun i => cyc one (k + i)) one.length := fun i => by show cyc one (k + (i + _)) = _; rw [← Nat.add_assoc]; exact cyc_per one _
    exact eq_far p (cyc_per other) l1 l2 (Nat.le_refl _) fun i hi => by simpa using h i (List.mem_range.mpr hi)
  · intro h i _
    simpa using h i
def shiftD (one other : List Nat) : D := match ((List.range one.length).map fun (i : Nat) => D.int i).find? (fun d : D => match d with | .int i => shB one other i.toNat | _ => false) with
  | some d => d
  | none => .non
theorem shiftD_is {one other : List Nat} (h1 : one ≠ []) (h2 : other ≠ []) : ShiftIs one other (shiftD one other) :=
  shiftIs_of (List.length_pos_iff.mpr h1) (cyc_per one) fun i _ => by
    simp only [Int.toNat_natCast]
    exact shB_iff h1 h2 i
instance (s : List Nat) (p : Nat) : Decidable (Part s p) := by unfold Part; exact inferInstance
def rootB (s : List Nat) (r : Nat) : Bool := decide (0 < r) && (decide (r = s.length) || decide (r < s.length ∧ Part s r)) && (List.range r).all fun p => decide (p = 0) || !decide (Part s p)
theorem rootB_ok {s : List Nat} {r : Nat} (h : rootB s r = true) : IsRoot s r := by
  unfold rootB at h
  simp only [Bool.and_eq_true, Bool.or_eq_true, decide_eq_true_eq, List.all_eq_true, List.mem_range, Bool.not_eq_true', decide_eq_false_iff_not] at h
  obtain ⟨⟨h0, h1⟩, h2⟩ := h
  have hf : ∀ p, 0 < p → p < r → ¬ Part s p := fun p p0 p1 => (h2 p p1).resolve_left (by omega)
  rcases h1 with rfl | ⟨h1, h3⟩
  · exact root_whole (List.length_pos_iff.mp h0) hf
  · exact root_first h0 h1 h3 hf
theorem mirL_iffD {t : List Nat} (ht : t ≠ []) : MirL t ↔ shiftD t t.reverse ≠ .non := by
  have hr : t.reverse ≠ [] := by simpa using ht
  constructor
  · rintro ⟨k, h⟩ e
    rcases shiftD_is ht hr with ⟨x, z, _⟩ | ⟨_, z⟩
    · rw [e] at z; cases z
    · exact z k h
  · intro h
    rcases shiftD_is ht hr with ⟨x, _, z, _⟩ | ⟨z, _⟩
    · exact ⟨x, z⟩
    · exact absurd z h
end Mn
end
section
set_option Elab.async false
set_option linter.all false
set_option maxRecDepth 100000
set_option maxHeartbeats 1000000
/-! Mean3: what the module of repeats computes. -/
namespace Mn
/-- a repeat -/
def Rp (t : List Nat) : Prop := t ≠ [] ∧ t.length ≤ 20 ∧ Ltr t
def LETT : List Nat := [97, 98, 99, 100, 101, 102, 103, 104, 105, 106, 107, 108, 109, 110, 111, 112, 113, 114, 115, 116, 117, 118, 119, 120, 121, 122]
theorem mem_lett {c : Nat} (h : 97 ≤ c ∧ c ≤ 122) : c ∈ LETT := by
  have : c = 97 + (c - 97) := by omega
  have h2 : c - 97 < 26 := by omega
  rw [this]
  generalize c - 97 = d at h2
  have : ∀ d, d < 26 → 97 + d ∈ LETT := by decide
  exact this d h2
theorem bls_true : ∀ (l : List D), (∀ d ∈ l, d = .bl true) → blsOf l = some (l.map fun _ => true)
  | [], _ => rfl
  | d :: r, h => by
    rw [h d List.mem_cons_self]
    show (blsOf r).map _ = _
    rw [bls_true r fun d hd => h d (List.mem_cons_of_mem _ hd)]; rfl
theorem all_true {S : Sto} {l : List D} (h : ∀ d ∈ l, d = .bl true) : bfV S .all [.lst l] = some (.bl true) := by
  show (blsOf l).map _ = _
  rw [bls_true l h]
  show some (D.bl _) = _
  congr 2
  rw [List.all_map, List.all_eq_true]
  intro _ _; rfl
theorem in_str {S : Sto} {c : Nat} {y : List Nat} : cmpV S .isin (.str [c]) (.str y) = some (decide (c ∈ y)) := rfl
theorem Rp.pos {t : List Nat} (h : Rp t) : 0 < t.length := List.length_pos_iff.mpr h.1
section
variable {T : Nat → Option MDef} (hT : ∀ f, f < 100 → T f = coreT f)
include hT
theorem is_repeat_ok {n : Nat} {S : Sto} {t : List Nat} (h : Rp t) : callF T (n + 1) 4 [.str t] S = .ok (.bl true) S := by
  have L : ∀ ρ : Env, ρ[0]? = some (some (.str t)) → ρ.length = 2 → ev (callF T n) (.lcm false (.cmp .isin (.var 1) (.cst (.str LETT))) [1] (.nm 1) (.seq (.var 0)) none) ρ S = .ok (.lst (t.map fun _ => .bl true)) S := fun ρ h0 hl => by
    refine lcm_of (S1 := S) (ds := t.map fun c => .str [c]) (by simp only [evI_seq, ev_var, h0, bind_ok]; rfl) (by rw [List.length_map, LIM_val]; have := h.2.1; omega) ?_
    rw [comp_map (fun _ => .bl true) _ _ fun d hd => ?_]
    · simp only [List.nil_append, List.map_map]; rfl
    · obtain ⟨c, hc, rfl⟩ := List.mem_map.mp hd
      refine ⟨_, rfl, by simp, ?_⟩
      have e1 : ((wipeD ρ [1]).set 1 (some (.str [c])))[1]? = some (some (.str [c])) := by simp [wipeD, hl]
      simp only [ev_cmp, ev_var, ev_cst, e1, bind_ok, in_str, decide_eq_true (mem_lett (h.2.2 c hc))]
      rfl
  have L' := L [some (.str t), none] rfl rfl
  have h1 := h.pos
  have h2 := h.2.1
  rw [callF_eq (m := m_is_repeat) (by rw [hT _ (by decide)]; rfl) rfl]
  simp only [m_is_repeat, startD]
  have al := all_true (S := S) (l := t.map fun _ => D.bl true) (by intro d hd; obtain ⟨_, _, rfl⟩ := List.mem_map.mp hd; rfl)
  simp only [LETT] at L'
  have c1 : (1 : Int) ≤ t.length := by omega
  have c2 : (t.length : Int) ≤ 20 := by omega
  simp [isiV, L', al, c1, c2]
theorem require_repeat_ok {n : Nat} {S : Sto} {t : List Nat} (h : Rp t) : callF T (n + 2) 5 [.str t] S = .ok .non S := by
  rw [callF_eq (m := m_require_repeat) (by rw [hT _ (by decide)]; rfl) rfl]
  simp [m_require_repeat, startD, is_repeat_ok hT (n := n) h, truthy]
theorem root_ok {n : Nat} {S : Sto} {t : List Nat} (h0 : t ≠ []) (h1 : t.length ≤ 1000) : ∃ r, IsRoot t r ∧ callF T (n + 1) 6 [.str t] S = .ok (.str (t.take r)) S := by
  have hl : 0 < t.length := List.length_pos_iff.mpr h0
  rw [callF_eq (m := m_root) (by rw [hT _ (by decide)]; rfl) rfl]
  simp only [m_root, startD]
  have hrng : rngItems 1 (t.length : Int) = some ((List.range (t.length - 1)).map fun (i : Nat) => D.int (1 + (i : Int))) := by
    rw [rng_two (by omega) (by omega) (by decide) (by decide), show ((t.length : Int) - 1).toNat = t.length - 1 by omega]
  have body : ∀ d ∈ (List.range (t.length - 1)).map fun (i : Nat) => D.int (1 + (i : Int)),
      execs (callF T n) [.ite (.and (.cmp .eq (.bin .mod (.bcl .len [.var 0]) (.var 1)) (.cst (.int 0))) (.cmp .eq (.bin .mul (.slc (.var 0) none (some (.var 1))) (.bin .fdiv (.bcl .len [.var 0]) (.var 1))) (.var 0))) [.ret (some (.slc (.var 0) none (some (.var 1))))] []]
        ([some (.str t), none].set 1 (some d)) S =
      if (fun d : D => match d with | .int i => decide (Part t i.toNat) | _ => false) d = true then .ok (.rt ((fun d : D => match d with | .int i => .str (t.take i.toNat) | _ => .non) d)) S else .ok (.nx ([some (.str t), none].set 1 (some d))) S := by
    intro d hd
    obtain ⟨i, hi, rfl⟩ := List.mem_map.mp hd
    have hi := List.mem_range.mp hi
    have e1 : (t.length : Int) % (1 + (i : Int)) = ((t.length % (1 + i) : Nat) : Int) := by rw [Int.natCast_emod]; rfl
    have e2 : (t.length : Int) / (1 + (i : Int)) = ((t.length / (1 + i) : Nat) : Int) := by rw [Int.natCast_ediv]; rfl
    have e3 : (1 + (i : Int)).toNat = 1 + i := by omega
    have p : (0 : Int) < 1 + i := by omega
    have p' : (0 : Int) ≤ 1 + i := by omega
    have dv : Dv (1 + (i : Int)) := Dv_of (by omega) (by omega)
    have hdl : t.length / (1 + i) ≤ 1000 := Nat.le_trans (Nat.div_le_self _ _) h1
    have hm : binV .mul (.str (t.take (1 + i))) (.int ((t.length / (1 + i) : Nat) : Int)) = some (.str (List.replicate (t.length / (1 + i)) (t.take (1 + i))).flatten) := by
      have := mul_str (x := t.take (1 + i)) (n := ((t.length / (1 + i) : Nat) : Int)) (by rw [List.length_take]; omega) (ltN_of (by rw [Int.natAbs_natCast]; exact Nat.lt_succ_of_le hdl))
      rw [Int.toNat_natCast] at this
      exact this
    have z : ((t.length % (1 + i) : Nat) : Int) = 0 ↔ t.length % (1 + i) = 0 := by omega
    by_cases c1 : t.length % (1 + i) = 0
    · by_cases c2 : (List.replicate (t.length / (1 + i)) (t.take (1 + i))).flatten = t
      · have pt : Part t (1 + i) := ⟨c1, c2⟩
        simp only [List.set_cons_succ, List.set_cons_zero, e3, decide_eq_true pt]
        simp [e1, e2, e3, p, p', dv, hm, c1, c2, truthy, -Int.natCast_emod, -Int.natCast_ediv]
      · have pt : ¬ Part t (1 + i) := fun q => c2 q.2
        simp only [List.set_cons_succ, List.set_cons_zero, e3, decide_eq_false pt]
        simp [e1, e2, e3, p, p', dv, hm, c1, c2, truthy, -Int.natCast_emod, -Int.natCast_ediv]
    · have pt : ¬ Part t (1 + i) := fun q => c1 q.1
      simp only [List.set_cons_succ, List.set_cons_zero, e3, decide_eq_false pt]
      simp [e1, e2, e3, p, p', dv, hm, c1, truthy, -Int.natCast_emod, -Int.natCast_ediv]
  obtain ⟨ρ', _, hρ, hloop⟩ := loop_find (n := S.nx) (x := 1) (S := S) rfl _ _ [some (.str t), none] _ [some (.str t), none] (fun _ => rfl) body
  have hI : evI (callF T n) (.rng2 (.cst (.int 1)) (.bcl .len [.var 0])) [some (.str t), none] S = .ok ((List.range (t.length - 1)).map fun (i : Nat) => D.int (1 + (i : Int))) S := by
    simp only [evI_rng2, ev_cst, ev_bcl, evs_cons, evs_nil, ev_var, List.getElem?_cons_zero, bind_ok, len_str, ofOpt_some, hrng]
  have hfor := for_eq hI hloop
  have e3 : ∀ j : Nat, (1 + (j : Int)).toNat = 1 + j := fun j => by omega
  cases hf : ((List.range (t.length - 1)).map fun (i : Nat) => D.int (1 + (i : Int))).find? (fun d : D => match d with | .int i => decide (Part t i.toNat) | _ => false) with
  | some d =>
    obtain ⟨i, hi, rfl, hp, hb⟩ := find_some hf
    simp only [e3, decide_eq_true_eq, decide_eq_false_iff_not] at hp hb
    refine ⟨1 + i, root_first (by omega) (by omega) hp fun p p0 p1 q => hb (p - 1) (by omega) (by rw [show 1 + (p - 1) = p by omega]; exact q), ?_⟩
    rw [hf] at hfor
    simp [hfor, e3]
  | none =>
    have hb := find_none hf
    simp only [e3, decide_eq_false_iff_not] at hb
    refine ⟨t.length, root_whole h0 fun p p0 p1 q => hb (p - 1) (by omega) (by rw [show 1 + (p - 1) = p by omega]; exact q), ?_⟩
    rw [hf] at hfor
    have h0' : ρ'[0]? = some (some (.str t)) := by rcases hρ with rfl | ⟨d, rfl⟩ <;> simp
    simp [hfor, h0']
theorem shortest_ok {n : Nat} {S : Sto} {t : List Nat} (h : Rp t) : ∃ r, IsRoot t r ∧ callF T (n + 3) 7 [.str t] S = .ok (.str (t.take r)) S := by
  obtain ⟨r, hr, e⟩ := root_ok hT (n := n + 1) (S := S) h.1 (by have := h.2.1; omega)
  refine ⟨r, hr, ?_⟩
  rw [callF_eq (m := m_shortest) (by rw [hT _ (by decide)]; rfl) rfl]
  simp [m_shortest, startD, require_repeat_ok hT (n := n) h, e]
theorem turned_ok {n : Nat} {S : Sto} {t : List Nat} {a : Nat} (h : t ≠ []) (hl : t.length ≤ 1000) : callF T (n + 1) 8 [.str t, .int a] S = .ok (.str (turnL t a)) S := by
  have h0 := List.length_pos_iff.mpr h
  have p : (0 : Int) < t.length := by omega
  have e : (a : Int) % (t.length : Int) = ((a % t.length : Nat) : Int) := by rw [Int.natCast_emod]
  have z : (0 : Int) ≤ ((a % t.length : Nat) : Int) := by omega
  have hadd := add_str (x := t.drop (a % t.length)) (y := t.take (a % t.length)) (by rw [List.length_drop, List.length_take, LIM_val]; omega)
  rw [callF_eq (m := m_turned) (by rw [hT _ (by decide)]; rfl) rfl]
  simp only [m_turned, startD]
  have hmod : binV .mod (.int (a : Int)) (.int (t.length : Int)) = some (.int ((a % t.length : Nat) : Int)) := by rw [binV_mod p, e]
  simp [hmod, z, hadd, turnL, -Int.natCast_emod]
theorem shift_of_ok {n : Nat} {S : Sto} {one other : List Nat} (h1 : one ≠ []) (l1 : one.length ≤ 1000) (h2 : other ≠ []) (l2 : other.length ≤ 1000) : ∃ d, ShiftIs one other d ∧ callF T (n + 2) 9 [.str one, .str other] S = .ok d S := by
  obtain ⟨r, hr, er⟩ := root_ok hT (n := n) (S := S) h1 l1
  obtain ⟨q, hq, eq⟩ := root_ok hT (n := n) (S := S) h2 l2
  have hrl := hr.le
  have body : ∀ d ∈ (List.range r).map fun (i : Nat) => D.int i,
      execs (callF T (n + 1)) [.ite (.cmp .eq (.call 8 [(.var 0), (.var 2)]) (.var 1)) [.ret (some (.var 2))] []] ([some (.str (one.take r)), some (.str (other.take q)), none].set 2 (some d)) S =
      if (fun d : D => match d with | .int i => decide (turnL (one.take r) i.toNat = other.take q) | _ => false) d = true then .ok (.rt ((fun d : D => d) d)) S else .ok (.nx ([some (.str (one.take r)), some (.str (other.take q)), none].set 2 (some d))) S := by
    intro d hd
    obtain ⟨i, hi, rfl⟩ := List.mem_map.mp hd
    have et := turned_ok hT (n := n) (S := S) (t := one.take r) (a := i) hr.ne (by rw [hr.take_len]; omega)
    by_cases c : turnL (one.take r) i = other.take q
    · simp only [List.set_cons_succ, List.set_cons_zero, Int.toNat_natCast, decide_eq_true c]
      simp [et, c]
    · simp only [List.set_cons_succ, List.set_cons_zero, Int.toNat_natCast, decide_eq_false c]
      simp [et, c]
  obtain ⟨ρ', _, hρ, hloop⟩ := loop_find (n := S.nx) (x := 2) (S := S) rfl _ _ [some (.str (one.take r)), some (.str (other.take q)), none] _ [some (.str (one.take r)), some (.str (other.take q)), none] (fun _ => rfl) body
  have hrng : rngItems 0 (r : Int) = some ((List.range r).map fun (i : Nat) => D.int i) := by rw [rng_nat (by omega) (by omega), Int.toNat_natCast]
  have hI : evI (callF T (n + 1)) (.rng1 (.bcl .len [.var 0])) [some (.str (one.take r)), some (.str (other.take q)), none] S = .ok ((List.range r).map fun (i : Nat) => D.int i) S := by
    simp only [evI_rng1, ev_bcl, evs_cons, evs_nil, ev_var, List.getElem?_cons_zero, bind_ok, len_str, ofOpt_some, hr.take_len, hrng]
  have hfor := for_eq hI hloop
  have hs := shiftIs_of (one := one) (other := other) (r := r) (p := fun d : D => match d with | .int i => decide (turnL (one.take r) i.toNat = other.take q) | _ => false) hr.pos hr.per fun i _ => by
    simp only [Int.toNat_natCast, decide_eq_true_eq]
    exact sh_root hr hq
  refine ⟨_, hs, ?_⟩
  rw [callF_eq (m := m_shift_of) (by rw [hT _ (by decide)]; rfl) rfl]
  simp only [m_shift_of, startD]
  cases hf : ((List.range r).map fun (i : Nat) => D.int i).find? (fun d : D => match d with | .int i => decide (turnL (one.take r) i.toNat = other.take q) | _ => false) with
  | some d =>
    rw [hf] at hfor
    simp [er, eq, Tgt.set, hfor]
  | none =>
    rw [hf] at hfor
    simp [er, eq, Tgt.set, hfor]
theorem shift_ok {n : Nat} {S : Sto} {one other : List Nat} (h1 : Rp one) (h2 : Rp other) : ∃ d, ShiftIs one other d ∧ callF T (n + 3) 10 [.str one, .str other] S = .ok d S := by
  obtain ⟨d, hd, e⟩ := shift_of_ok hT (n := n) (S := S) h1.1 (by have := h1.2.1; omega) h2.1 (by have := h2.2.1; omega)
  refine ⟨d, hd, ?_⟩
  rw [callF_eq (m := m_shift) (by rw [hT _ (by decide)]; rfl) rfl]
  simp [m_shift, startD, require_repeat_ok hT (n := n) h1, require_repeat_ok hT (n := n) h2, e]
open Classical in
theorem is_mirror_ok {n : Nat} {S : Sto} {t : List Nat} (h : Rp t) : callF T (n + 3) 11 [.str t] S = .ok (.bl (decide (MirL t))) S := by
  obtain ⟨d, hd, e⟩ := shift_of_ok hT (n := n) (S := S) h.1 (by have := h.2.1; omega) (other := t.reverse) (by simpa using h.1) (by rw [List.length_reverse]; have := h.2.1; omega)
  rw [callF_eq (m := m_is_mirror) (by rw [hT _ (by decide)]; rfl) rfl]
  rcases hd with ⟨k, rfl, h1, h2⟩ | ⟨rfl, h1⟩
  · have m : MirL t := ⟨k, h1⟩
    simp [m_is_mirror, startD, require_repeat_ok hT (n := n) h, e, m]
  · have m : ¬ MirL t := fun ⟨k, z⟩ => h1 k z
    simp [m_is_mirror, startD, require_repeat_ok hT (n := n) h, e, m]
theorem shortest_at {n : Nat} {S : Sto} {t : List Nat} {r : Nat} (h : Rp t) (hr : IsRoot t r) : callF T (n + 3) 7 [.str t] S = .ok (.str (t.take r)) S := by
  obtain ⟨q, hq, e⟩ := shortest_ok hT (n := n) (S := S) h
  rw [hr.uniq hq]; exact e
theorem shift_at {n : Nat} {S : Sto} {one other : List Nat} {d : D} (h1 : Rp one) (h2 : Rp other) (hd : ShiftIs one other d) : callF T (n + 3) 10 [.str one, .str other] S = .ok d S := by
  obtain ⟨e, he, q⟩ := shift_ok hT (n := n) (S := S) h1 h2
  rw [hd.uniq he]; exact q
end
instance (t : List Nat) : Decidable (Rp t) := by unfold Rp Ltr; exact inferInstance
theorem ne_self {S : Sto} {a b : List Nat} {d : D} (h : ShiftIs a b d) : cmpV S .ne d d = some false := by
  rcases h with ⟨k, rfl, _⟩ | ⟨rfl, _⟩
  · simp
  · rfl
end Mn
end
section
set_option Elab.async false
set_option linter.all false
set_option maxRecDepth 100000
set_option maxHeartbeats 1000000
/-! Mean4: what the module of works computes. -/
namespace Mn
def FLAT : List Nat := [102, 108, 97, 116]
def ROUND : List Nat := [114, 111, 117, 110, 100]
def kindL (fl : Bool) : List Nat := if fl then FLAT else ROUND
/-- a work -/
def wk (t : List Nat) (s w : Nat) (fl : Bool) : D := .tup [.str t, .int s, .int w, .str (kindL fl)]
structure WorkOk (t : List Nat) (s w : Nat) : Prop where
  rp : Rp t
  s : s < t.length
  w0 : 1 ≤ w
  w1 : w ≤ 10 ^ 12
/-- the stitch of a cell -/
def numAt (s w : Nat) (fl : Bool) (row col : Nat) : Nat := if fl = true ∧ row % 2 = 1 then s + row * w + (w - 1 - col) else s + row * w + col
def colAt (t : List Nat) (s w : Nat) (fl : Bool) (row col : Nat) : Nat := cyc t (numAt s w fl row col)
def moveN (L w : Nat) (fl : Bool) : Nat := (if fl then 2 * w else w) % L
theorem kind_flat {fl : Bool} : (kindL fl = FLAT) ↔ fl = true := by cases fl <;> decide
theorem kind_round {fl : Bool} : (kindL fl = ROUND) ↔ fl = false := by cases fl <;> decide
theorem idx_tup {S : Sto} {xs : List D} {i : Nat} {d : D} (h : xs[i]? = some d) : idxV S (.tup xs) (.int i) = some d := by
  show atD xs (i : Int) = _
  rw [atD_nat, h]
theorem idx_wk0 {S : Sto} {t : List Nat} {s w : Nat} {fl : Bool} : idxV S (wk t s w fl) (.int 0) = some (.str t) := rfl
theorem idx_wk2 {S : Sto} {t : List Nat} {s w : Nat} {fl : Bool} : idxV S (wk t s w fl) (.int 2) = some (.int w) := rfl
theorem idx_wk3 {S : Sto} {t : List Nat} {s w : Nat} {fl : Bool} : idxV S (wk t s w fl) (.int 3) = some (.str (kindL fl)) := rfl
theorem ne_wk {t : List Nat} {s w : Nat} {fl : Bool} {S : Sto} : bfV S .len [wk t s w fl] = some (.int 4) := rfl
theorem in_kinds {S : Sto} {fl : Bool} : cmpV S .isin (.str (kindL fl)) (.tup [.str [102, 108, 97, 116], .str [114, 111, 117, 110, 100]]) = some true := by cases fl <;> rfl
section
variable {T : Nat → Option MDef} (hT : ∀ f, f < 100 → T f = coreT f)
include hT
theorem is_integer_ok {n : Nat} {S : Sto} {v a b : Int} : callF T (n + 1) 0 [.int v, .int a, .int b] S = .ok (.bl (decide (a ≤ v ∧ v ≤ b))) S := by
  rw [callF_eq (m := m_is_integer) (by rw [hT _ (by decide)]; rfl) rfl]
  simp only [m_is_integer, startD]
  by_cases c : a ≤ v
  · simp [isiV, c]
  · simp [isiV, c]
theorem is_kind_ok {n : Nat} {S : Sto} {fl : Bool} : callF T (n + 1) 12 [.str (kindL fl)] S = .ok (.bl true) S := by
  rw [callF_eq (m := m_is_kind) (by rw [hT _ (by decide)]; rfl) rfl]
  simp [m_is_kind, startD, isiV, in_kinds]
theorem is_work_ok {n : Nat} {S : Sto} {t : List Nat} {s w : Nat} {fl : Bool} (h : WorkOk t s w) : callF T (n + 2) 13 [wk t s w fl] S = .ok (.bl true) S := by
  have h1 := h.s
  have h2 := h.w0
  have h3 := h.w1
  have h4 := h.rp.pos
  have i1 := is_integer_ok hT (n := n) (S := S) (v := s) (a := 0) (b := (t.length : Int) - 1)
  have i2 := is_integer_ok hT (n := n) (S := S) (v := w) (a := 1) (b := 1000000000000)
  rw [decide_eq_true (by omega)] at i1 i2
  rw [callF_eq (m := m_is_work) (by rw [hT _ (by decide)]; rfl) rfl]
  simp only [m_is_work, startD]
  have e : (Tgt.tp [1, 2, 3, 4]).set [some (wk t s w fl), none, none, none, none] (wk t s w fl) = some [some (wk t s w fl), some (.str t), some (.int s), some (.int w), some (.str (kindL fl))] := rfl
  have iw : isiV (wk t s w fl) .tuple = some true := rfl
  simp [iw, ne_wk, e, is_repeat_ok hT (n := n) h.rp, truthy, i1, i2, is_kind_ok hT (n := n)]
theorem require_work_ok {n : Nat} {S : Sto} {t : List Nat} {s w : Nat} {fl : Bool} (h : WorkOk t s w) : callF T (n + 3) 14 [wk t s w fl] S = .ok .non S := by
  rw [callF_eq (m := m_require_work) (by rw [hT _ (by decide)]; rfl) rfl]
  simp [m_require_work, startD, is_work_ok hT (n := n) h, truthy]
theorem require_row_ok {n : Nat} {S : Sto} {row : Nat} (h : row ≤ 10 ^ 15) : callF T (n + 2) 15 [.int row] S = .ok .non S := by
  have i1 := is_integer_ok hT (n := n) (S := S) (v := row) (a := 0) (b := 1000000000000000)
  rw [decide_eq_true (by omega)] at i1
  rw [callF_eq (m := m_require_row) (by rw [hT _ (by decide)]; rfl) rfl]
  simp [m_require_row, startD, i1, truthy]
theorem require_column_ok {n : Nat} {S : Sto} {t : List Nat} {s w col : Nat} {fl : Bool} (h : col < w) : callF T (n + 2) 16 [wk t s w fl, .int col] S = .ok .non S := by
  have i1 := is_integer_ok hT (n := n) (S := S) (v := col) (a := 0) (b := (w : Int) - 1)
  rw [decide_eq_true (by omega)] at i1
  rw [callF_eq (m := m_require_column) (by rw [hT _ (by decide)]; rfl) rfl]
  simp [m_require_column, startD, idx_wk2, i1, truthy]
theorem require_columns_ok {n : Nat} {S : Sto} {t : List Nat} {s w col : Nat} {fl : Bool} (h0 : 1 ≤ col) (h : col ≤ w) : callF T (n + 2) 17 [wk t s w fl, .int col] S = .ok .non S := by
  have i1 := is_integer_ok hT (n := n) (S := S) (v := col) (a := 1) (b := (w : Int))
  rw [decide_eq_true (by omega)] at i1
  rw [callF_eq (m := m_require_columns) (by rw [hT _ (by decide)]; rfl) rfl]
  simp [m_require_columns, startD, idx_wk2, i1, truthy]
theorem number_at_ok {n : Nat} {S : Sto} {t : List Nat} {s w row col : Nat} {fl : Bool} (hr : row < 2 ^ 60) (hc : col < w) : callF T (n + 1) 18 [wk t s w fl, .int row, .int col] S = .ok (.int (numAt s w fl row col)) S := by
  have e : (Tgt.tp [3, 4, 5, 6]).set [some (wk t s w fl), some (.int row), some (.int col), none, none, none, none] (wk t s w fl) = some [some (wk t s w fl), some (.int row), some (.int col), some (.str t), some (.int s), some (.int w), some (.str (kindL fl))] := rfl
  have sm : smallI (row : Int) = true := smallI_of (by omega) (by omega)
  have m2 : binV .mod (.int (row : Int)) (.int 2) = some (.int ((row % 2 : Nat) : Int)) := by rw [binV_mod (by decide), Int.natCast_emod]; rfl
  rw [callF_eq (m := m_number_at) (by rw [hT _ (by decide)]; rfl) rfl]
  simp only [m_number_at, startD]
  have kf : (kindL fl = [102, 108, 97, 116]) ↔ fl = true := kind_flat
  by_cases c1 : fl = true
  · by_cases c2 : row % 2 = 1
    · have r : numAt s w fl row col = s + row * w + (w - 1 - col) := by unfold numAt; rw [if_pos ⟨c1, c2⟩]
      have r2 : ((s : Int) + (row : Int) * (w : Int) + ((w : Int) - 1 - (col : Int))) = ((s + row * w + (w - 1 - col) : Nat) : Int) := by
        rw [Int.natCast_add, Int.natCast_add, Int.natCast_mul]; omega
      rw [r, ← r2]
      have c3 : ((row % 2 : Nat) : Int) = 1 := by omega
      simp [e, m2, c3, kf.mpr c1, sm, -Int.natCast_emod]
    · have r : numAt s w fl row col = s + row * w + col := by unfold numAt; rw [if_neg fun z => c2 z.2]
      have c3 : ¬ ((row % 2 : Nat) : Int) = 1 := by omega
      have c4 : ((row % 2 : Nat) : Int) = 0 := by omega
      rw [r, Int.natCast_add, Int.natCast_add, Int.natCast_mul]
      simp [e, m2, c4, kf.mpr c1, sm, -Int.natCast_emod]
  · have r : numAt s w fl row col = s + row * w + col := by unfold numAt; rw [if_neg fun z => c1 z.1]
    have k : ¬ kindL fl = [102, 108, 97, 116] := fun z => c1 (kf.mp z)
    rw [r, Int.natCast_add, Int.natCast_add, Int.natCast_mul]
    simp [e, k, sm]
theorem color_of_ok {n : Nat} {S : Sto} {t : List Nat} {s w row col : Nat} {fl : Bool} (ht : t ≠ []) (hr : row < 2 ^ 60) (hc : col < w) : callF T (n + 2) 19 [wk t s w fl, .int row, .int col] S = .ok (.str [colAt t s w fl row col]) S := by
  have h0 := List.length_pos_iff.mpr ht
  have m : binV .mod (.int ((numAt s w fl row col : Nat) : Int)) (.int (t.length : Int)) = some (.int ((numAt s w fl row col % t.length : Nat) : Int)) := by rw [binV_mod (by omega), Int.natCast_emod]
  rw [callF_eq (m := m_color_of) (by rw [hT _ (by decide)]; rfl) rfl]
  simp only [m_color_of, startD]
  simp only [execs_cons, exec_ret, ev_idx, ev_var, ev_cst, ev_bin, ev_call, ev_bcl, evs_cons, evs_nil, List.map_cons, List.map_nil, List.cons_append, List.nil_append, List.getElem?_cons_succ, List.getElem?_cons_zero, bind_ok, idx_wk0, ofOpt_some, number_at_ok hT (n := n) (S := S) (t := t) (s := s) (fl := fl) hr hc, len_str, m, idx_str (cyc_get ht (numAt s w fl row col)), bindS_ok, nextS_rt, nox_ok, fin_rt, retD_same]
  rfl
theorem stitch_at_ok {n : Nat} {S : Sto} {t : List Nat} {s w row col : Nat} {fl : Bool} (h : WorkOk t s w) (hr : row ≤ 10 ^ 15) (hc : col < w) : callF T (n + 4) 20 [wk t s w fl, .int row, .int col] S = .ok (.int (numAt s w fl row col)) S := by
  rw [callF_eq (m := m_stitch_at) (by rw [hT _ (by decide)]; rfl) rfl]
  simp [m_stitch_at, startD, require_work_ok hT (n := n) h, require_row_ok hT (n := n + 1) hr, require_column_ok hT (n := n + 1) hc, number_at_ok hT (n := n + 2) (t := t) (s := s) (fl := fl) (show row < 2 ^ 60 by omega) hc]
theorem color_at_ok {n : Nat} {S : Sto} {t : List Nat} {s w row col : Nat} {fl : Bool} (h : WorkOk t s w) (hr : row ≤ 10 ^ 15) (hc : col < w) : callF T (n + 4) 21 [wk t s w fl, .int row, .int col] S = .ok (.str [colAt t s w fl row col]) S := by
  rw [callF_eq (m := m_color_at) (by rw [hT _ (by decide)]; rfl) rfl]
  simp [m_color_at, startD, require_work_ok hT (n := n) h, require_row_ok hT (n := n + 1) hr, require_column_ok hT (n := n + 1) hc, color_of_ok hT (n := n + 1) (s := s) (fl := fl) h.rp.1 (show row < 2 ^ 60 by omega) hc]
theorem move_of_ok {n : Nat} {S : Sto} {L w : Nat} {fl : Bool} (h : 0 < L) : callF T (n + 1) 24 [.int L, .int w, .str (kindL fl)] S = .ok (.int (moveN L w fl)) S := by
  have kf : (kindL fl = [102, 108, 97, 116]) ↔ fl = true := kind_flat
  rw [callF_eq (m := m_move_of) (by rw [hT _ (by decide)]; rfl) rfl]
  simp only [m_move_of, startD]
  have k2 : binV .mul (.int 2) (.int (w : Int)) = some (.int ((2 * w : Nat) : Int)) := by rw [binV_mul (.inl (by decide))]; rfl
  have m1 : ∀ a : Nat, binV .mod (.int (a : Int)) (.int (L : Int)) = some (.int ((a % L : Nat) : Int)) := fun a => by rw [binV_mod (by omega), Int.natCast_emod]
  unfold moveN
  by_cases c : fl = true
  · rw [if_pos c]
    simp [kf.mpr c, k2, m1, -Int.natCast_emod, -Int.natCast_mul]
  · have k : ¬ kindL fl = [102, 108, 97, 116] := fun z => c (kf.mp z)
    rw [if_neg c]
    simp [k, m1, -Int.natCast_emod]
theorem move_ok {n : Nat} {S : Sto} {t : List Nat} {s w : Nat} {fl : Bool} (h : WorkOk t s w) : callF T (n + 4) 25 [wk t s w fl] S = .ok (.int (moveN t.length w fl)) S := by
  rw [callF_eq (m := m_move) (by rw [hT _ (by decide)]; rfl) rfl]
  simp [m_move, startD, require_work_ok hT (n := n) h, idx_wk0, idx_wk2, idx_wk3, move_of_ok hT (n := n + 2) (w := w) (fl := fl) h.rp.pos]
theorem text_of_ok {n : Nat} {S : Sto} {t : List Nat} {s w row cols : Nat} {fl : Bool} (ht : t ≠ []) (hr : row < 2 ^ 60) (hc : cols ≤ w) (hl : cols ≤ LIM) : callF T (n + 3) 22 [wk t s w fl, .int row, .int cols] S = .ok (.str ((List.range cols).map (colAt t s w fl row))) S := by
  have hl' : cols ≤ 1000000 := hl
  have hrng : rngItems 0 (cols : Int) = some ((List.range cols).map fun (i : Nat) => D.int i) := by rw [rng_nat (by omega) (by omega), Int.toNat_natCast]
  have hc1 : compL (fun d => (Tgt.nm 3).set (wipeD [some (wk t s w fl), some (.int row), some (.int cols), none] [3]) d) (fun ρ' S' => evC (callF T (n + 2)) none ρ' S') (fun ρ' S' => ev (callF T (n + 2)) (.call 19 [(.var 0), (.var 1), (.var 3)]) ρ' S') ((List.range cols).map fun (i : Nat) => D.int i) [] S = .ok (((List.range cols).map (colAt t s w fl row)).map fun c => .str [c]) S := by
    rw [comp_map (fun d => match d with | .int i => .str [colAt t s w fl row i.toNat] | d => d) _ _ fun d hd => ?_]
    · simp only [List.nil_append, List.map_map]; congr 2
    · obtain ⟨i, hi, rfl⟩ := List.mem_map.mp hd
      have hi := List.mem_range.mp hi
      refine ⟨_, rfl, by simp, ?_⟩
      simp [wipeD, color_of_ok hT (n := n) (s := s) (fl := fl) ht hr (show i < w by omega)]
  have L := lcm_of (C := callF T (n + 2)) (it := .rng1 (.var 2)) (S := S) (S1 := S) (by simp [hrng]) (by rw [List.length_map, List.length_range]; exact hl) hc1
  have hj := join_chars (S := S) (t := (List.range cols).map (colAt t s w fl row)) (by rw [List.length_map, List.length_range]; exact hl)
  rw [callF_eq (m := m_text_of) (by rw [hT _ (by decide)]; rfl) rfl]
  simp only [m_text_of, startD]
  simp only [execs_cons, exec_ret, ev_mth, ev_cst, evs_cons, evs_nil, bind_ok, rcv, if_true, List.map_cons, List.map_nil, List.cons_append, List.nil_append]
  have L' : ev (callF T (n + 2)) (.lcm false (.call 19 [(.var 0), (.var 1), (.var 3)]) [3] (.nm 3) (.rng1 (.var 2)) none) ([some (wk t s w fl), some (.int row), some (.int cols)] ++ List.replicate (4 - [wk t s w fl, D.int row, D.int cols].length) none) S = _ := L
  simp only [List.cons_append, List.nil_append] at L'
  rw [L']
  simp only [bind_ok, hj, bindS_ok, nextS_rt, nox_ok, fin_rt, retD_same]
theorem row_text_ok {n : Nat} {S : Sto} {t : List Nat} {s w row cols : Nat} {fl : Bool} (h : WorkOk t s w) (hr : row ≤ 10 ^ 15) (h0 : 1 ≤ cols) (hc : cols ≤ w) (hm : cols ≤ 1000) : callF T (n + 4) 23 [wk t s w fl, .int row, .int cols] S = .ok (.str ((List.range cols).map (colAt t s w fl row))) S := by
  have c : ¬ (1000 : Int) < (cols : Int) := by omega
  rw [callF_eq (m := m_row_text) (by rw [hT _ (by decide)]; rfl) rfl]
  simp [m_row_text, startD, require_work_ok hT (n := n) h, require_row_ok hT (n := n + 1) hr, require_columns_ok hT (n := n + 1) h0 hc, c, text_of_ok hT (n := n) (s := s) (fl := fl) h.rp.1 (show row < 2 ^ 60 by omega) hc (by rw [LIM_val]; omega)]
end
end Mn
end
section
set_option Elab.async false
set_option linter.all false
set_option maxRecDepth 100000
set_option maxHeartbeats 1000000
/-! Pure: evaluation where no cell is made or looked at: then the store does not matter, and the kernel can do it. -/
namespace Mn
inductive P (α : Type) where
  | ok (a : α)
  | exc (c : Nat)
  | bad
def P.bind {α β : Type} (x : P α) (f : α → P β) : P β := match x with
  | .ok a => f a
  | .exc c => .exc c
  | .bad => .bad
def P.nox {α : Type} : P α → P α
  | .ok a => .ok a
  | _ => .bad
def P.bindS {α : Type} (ρ : Env) (x : P α) (f : α → P Fl) : P Fl := match x with
  | .ok a => f a
  | .exc c => .ok (.ex c ρ)
  | .bad => .bad
def pOpt {α : Type} : Option α → P α
  | some a => .ok a
  | none => .bad
abbrev S0 : Sto := ⟨0, []⟩
def compP (set : D → Option Env) (tst : Env → P Bool) (elt : Env → P D) : List D → List D → P (List D)
  | [], acc => .ok acc
  | d :: r, acc => match set d with
    | none => .bad
    | some ρ => (tst ρ).nox.bind fun b => if b then (elt ρ).nox.bind fun y => compP set tst elt r (acc ++ [y]) else compP set tst elt r acc
def isOwn : D → Bool
  | .own _ => true
  | _ => false
def zipP : D → D → P (List D)
  | .lst xs, .lst ys => .ok ((xs.zip ys).map fun p => .tup [p.1, p.2])
  | .tup xs, .tup ys => .ok ((xs.zip ys).map fun p => .tup [p.1, p.2])
  | .str xs, .str ys => .ok ((xs.zip ys).map fun p => .tup [.str [p.1], .str [p.2]])
  | _, _ => .bad
def finPB (r : P D) : P D := r.nox.bind fun d => match d with
  | .bl b => .ok (.bl b)
  | _ => .bad
def finP : MK → P D → P D
  | .call, r => r
  | .eq, r => finPB r
  | .ne, r => r.nox.bind fun d => match d with
    | .bl b => .ok (.bl (!b))
    | _ => .bad
  | .len, r => r.nox.bind fun d => match d with
    | .int n => if 0 ≤ n ∧ ltN n B62 = true then .ok (.int n) else .bad
    | _ => .bad
  | .sub, r => r.nox
  | .add, r => r.nox
  | .shl, r => r.nox
section
variable (C : Nat → List D → P D)
mutual
def pv : ME → Env → P D
  | .var i, ρ => match ρ[i]? with
    | some (some d) => .ok d
    | _ => .bad
  | .cst d, _ => .ok d
  | .fnv f, _ => .ok (.fn f)
  | .isx b, _ => .ok (.bl b)
  | .bin op a b, ρ => (pv a ρ).bind fun x => (pv b ρ).bind fun y => pOpt (binV op x y)
  | .neg a, ρ => (pv a ρ).bind fun x => match x with
    | .int i => .ok (.int (-i))
    | _ => .bad
  | .not a, ρ => (pv a ρ).bind fun x => match x with
    | .bl c => .ok (.bl (!c))
    | _ => .bad
  | .and a b, ρ => (pv a ρ).bind fun x => match x with
    | .bl c => if c then pv b ρ else .ok (.bl false)
    | _ => .bad
  | .or a b, ρ => (pv a ρ).bind fun x => match x with
    | .bl c => if c then .ok (.bl true) else pv b ρ
    | _ => .bad
  | .cmp op a b, ρ => (pv a ρ).bind fun x => (pv b ρ).bind fun y => pOpt ((cmpV S0 op x y).map .bl)
  | .isN a, ρ => (pv a ρ).bind fun x => .ok (.bl (isNonD x))
  | .notN a, ρ => (pv a ρ).bind fun x => .ok (.bl (!isNonD x))
  | .chn o1 o2 a b c, ρ => (pv a ρ).bind fun x => (pv b ρ).bind fun y => (pOpt (cmpV S0 o1 x y)).bind fun t =>
      if t then (pv c ρ).bind fun z => pOpt ((cmpV S0 o2 y z).map .bl) else .ok (.bl false)
  | .ite c a b, ρ => (pvT c ρ).bind fun t => if t then pv a ρ else pv b ρ
  | .tup es, ρ => (pvs es ρ).bind fun xs => .ok (.tup xs)
  | .lst own es, ρ => if own then .bad else (pvs es ρ).bind fun xs => .ok (.lst xs)
  | .dct, _ => .bad
  | .idx a i, ρ => (pv a ρ).bind fun x => (pv i ρ).bind fun y => pOpt (idxV S0 x y)
  | .slc a lo hi, ρ => (pv a ρ).bind fun x => (pvO lo ρ).bind fun l => (pvO hi ρ).bind fun h => pOpt (slcV x l h)
  | .rev a, ρ => (pv a ρ).bind fun x => pOpt (revV x)
  | .call f args, ρ => (pvs args ρ).bind fun xs => C f xs
  | .bcl b args, ρ => (pvs args ρ).bind fun xs => pOpt (bfV S0 b xs)
  | .isi a t, ρ => (pv a ρ).bind fun x => pOpt ((isiV x t).map .bl)
  | .mth m o args, ρ => (pv o ρ).bind fun x => if rcv S0 m x then (pvs args ρ).bind fun xs => pOpt ((mfV S0 m x xs).map (·.1)) else .bad
  | .lcm own elt vs t it c, ρ => if own then .bad else (pvI it ρ).bind fun ds =>
      if ds.length ≤ LIM then (compP (fun d => t.set (wipeD ρ vs) d) (fun ρ' => pvC c ρ') (fun ρ' => pv elt ρ') ds []).bind fun xs => .ok (.lst xs) else .bad
  | .frz e, ρ => (pv e ρ).bind fun x => if isOwn x then .bad else .ok x
  | .callv ks f args, ρ => (pv f ρ).bind fun x => match x with
    | .fn k => if ks.elem k then (pvs args ρ).bind fun xs => C k xs else .bad
    | _ => .bad
  | .lrg tup a b, ρ => (pv a ρ).bind fun x => (pv b ρ).bind fun y => pOpt (rngV tup x y)
  | .sset a, ρ => (pv a ρ).bind fun x => pOpt (ssetO S0 x)
  | .srt a, ρ => (pv a ρ).bind fun x => pOpt (srtV x)
  | .slen a, ρ => (pv a ρ).bind fun x => pOpt (slenV x)
  | .dsp ks es, ρ => (pvs es ρ).bind fun xs => .ok (.dx ks xs)
  | .xc f, _ => C f []
  | .att k j e, ρ => (pv e ρ).bind fun x => pOpt (attV k j x)
  | .mcl kd k f o args, ρ => (pv o ρ).bind fun x => if isO k x then (pvs args ρ).bind fun xs => if okArg k kd xs then finP kd (C f (x :: xs)) else .bad else .bad
  | .mcr k f a o, ρ => (pv a ρ).bind fun y => (pv o ρ).bind fun x => if isO k x then finPB (C f [x, y]) else .bad
  | .mk f args, ρ => (pvs args ρ).bind fun xs => C f (.any :: xs)
  | .new k es, ρ => (pvs es ρ).nox.bind fun xs => .ok (.obj k xs)
  | .iso k e, ρ => (pv e ρ).bind fun x => pOpt ((isoV k x).map .bl)
def pvT : ME → Env → P Bool
  | .isx b, _ => .ok b
  | .not a, ρ => (pvT a ρ).bind fun c => .ok (!c)
  | .and a b, ρ => (pvT a ρ).bind fun c => if c then pvT b ρ else .ok false
  | .or a b, ρ => (pvT a ρ).bind fun c => if c then .ok true else pvT b ρ
  | .cmp op a b, ρ => (pv a ρ).bind fun x => (pv b ρ).bind fun y => pOpt (cmpV S0 op x y)
  | .isN a, ρ => (pv a ρ).bind fun x => .ok (isNonD x)
  | .notN a, ρ => (pv a ρ).bind fun x => .ok (!isNonD x)
  | .chn o1 o2 a b c, ρ => (pv a ρ).bind fun x => (pv b ρ).bind fun y => (pOpt (cmpV S0 o1 x y)).bind fun t =>
      if t then (pv c ρ).bind fun z => pOpt (cmpV S0 o2 y z) else .ok false
  | .var i, ρ => match ρ[i]? with
    | some (some d) => pOpt (truthy d)
    | _ => .bad
  | .bin op a b, ρ => ((pv a ρ).bind fun x => (pv b ρ).bind fun y => pOpt (binV op x y)).bind fun x => pOpt (truthy x)
  | .call f args, ρ => ((pvs args ρ).bind fun xs => C f xs).bind fun x => pOpt (truthy x)
  | .bcl b args, ρ => ((pvs args ρ).bind fun xs => pOpt (bfV S0 b xs)).bind fun x => pOpt (truthy x)
  | .isi a t, ρ => (pv a ρ).bind fun x => pOpt (isiV x t)
  | .att k j e, ρ => ((pv e ρ).bind fun x => pOpt (attV k j x)).bind fun x => pOpt (boolOf x)
  | .mcl kd k f o args, ρ => ((pv o ρ).bind fun x => if isO k x then (pvs args ρ).bind fun xs => if okArg k kd xs then finP kd (C f (x :: xs)) else .bad else .bad).bind fun x => pOpt (boolOf x)
  | .mcr k f a o, ρ => ((pv a ρ).bind fun y => (pv o ρ).bind fun x => if isO k x then finPB (C f [x, y]) else .bad).bind fun x => pOpt (boolOf x)
  | .iso k e, ρ => ((pv e ρ).bind fun x => pOpt ((isoV k x).map .bl)).bind fun x => pOpt (boolOf x)
  | _, _ => .bad
def pvs : List ME → Env → P (List D)
  | [], _ => .ok []
  | e :: r, ρ => (pv e ρ).bind fun x => (pvs r ρ).bind fun xs => .ok (x :: xs)
def pvO : Option ME → Env → P (Option Int)
  | none, _ => .ok none
  | some e, ρ => (pv e ρ).bind fun x => match x with
    | .int i => .ok (some i)
    | _ => .bad
def pvC : Option ME → Env → P Bool
  | none, _ => .ok true
  | some e, ρ => pvT e ρ
def pvI : MI → Env → P (List D)
  | .seq e, ρ => (pv e ρ).bind fun x => pOpt (seqItems S0 x)
  | .rng1 a, ρ => (pv a ρ).bind fun x => match x with
    | .int j => pOpt (rngItems 0 j)
    | _ => .bad
  | .rng2 a b, ρ => (pv a ρ).bind fun x => (pv b ρ).bind fun y => match x, y with
    | .int i, .int j => pOpt (rngItems i j)
    | _, _ => .bad
  | .zip a b, ρ => (pv a ρ).bind fun x => (pv b ρ).bind fun y => zipP x y
  | .enm a, ρ => (pv a ρ).bind fun x => match x with
    | .lst xs => .ok (xs.zipIdx.map fun p => .tup [.int p.2, p.1])
    | _ => .bad
  | .zipl a b, ρ => (pv a ρ).bind fun x => (pv b ρ).bind fun y => match x, y with
    | .lst xs, .lst ys => .ok ((xs.zip ys).map fun p => .tup [p.1, p.2])
    | _, _ => .bad
  | .enz _ _, _ => .bad
end
end
def loopP (set : Env → D → Option Env) (body : Env → P Fl) : List D → Env → P Fl
  | [], ρ => .ok (.nx ρ)
  | d :: r, ρ => match set ρ d with
    | none => .bad
    | some ρ1 => (body ρ1).bind fun fl => match fl with
      | .nx ρ2 => loopP set body r ρ2
      | .ct ρ2 => loopP set body r ρ2
      | .bk ρ2 => .ok (.nx ρ2)
      | .rt d => .ok (.rt d)
      | .ex c ρ2 => .ok (.ex c ρ2)
def whileP (tst : Env → P Bool) (body : Env → P Fl) : Nat → Env → P Fl
  | 0, _ => .bad
  | n + 1, ρ => (tst ρ).bindS ρ fun b => if b then (body ρ).bind fun fl => match fl with
      | .nx ρ2 => whileP tst body n ρ2
      | .ct ρ2 => whileP tst body n ρ2
      | .bk ρ2 => .ok (.nx ρ2)
      | .rt d => .ok (.rt d)
      | .ex c ρ2 => .ok (.ex c ρ2)
    else .ok (.nx ρ)
def augP (x y : D) : P D := match x, y with
  | .int _, .int _ => pOpt (binV .add x y)
  | .str _, .str _ => pOpt (binV .add x y)
  | _, _ => .bad
def sufP (i : Nat) : Fl → P Fl
  | .nx ρ2 => .ok (.nx (ρ2.set i none))
  | .rt d => .ok (.rt d)
  | _ => .bad
section
variable (C : Nat → List D → P D)
mutual
def px : MS → Env → P Fl
  | .expr e, ρ => (pv C e ρ).bindS ρ fun _ => .ok (.nx ρ)
  | .asg i e, ρ => (pv C e ρ).bindS ρ fun x => .ok (.nx (ρ.set i (some x)))
  | .asgT is e, ρ => (pv C e ρ).bindS ρ fun x => match (Tgt.tp is).set ρ x with
    | some ρ1 => .ok (.nx ρ1)
    | none => .bad
  | .par is es, ρ => (pvs C es ρ).bindS ρ fun xs => match (Tgt.tp is).set ρ (.tup xs) with
    | some ρ1 => .ok (.nx ρ1)
    | none => .bad
  | .setI _ _ _, _ => .bad
  | .aug i _ e, ρ => match ρ[i]? with
    | some (some x) => (pv C e ρ).bindS ρ fun y => (augP x y).bindS ρ fun z => .ok (.nx (ρ.set i (some z)))
    | _ => .bad
  | .ite c a b, ρ => (pvT C c ρ).bindS ρ fun t => if t then pxs a ρ else pxs b ρ
  | .forr t it body, ρ => (pvI C it ρ).bindS ρ fun ds => loopP (fun r d => t.set r d) (fun r => pxs body r) ds ρ
  | .whil c body, ρ => whileP (fun r => pvT C c r) (fun r => pxs body r) WF ρ
  | .ret none, _ => .ok (.rt .non)
  | .ret (some e), ρ => (pv C e ρ).bindS ρ fun x => .ok (.rt x)
  | .rais c, ρ => .ok (.ex c ρ)
  | .pass, ρ => .ok (.nx ρ)
  | .brk, ρ => .ok (.bk ρ)
  | .cnt, ρ => .ok (.ct ρ)
  | .tri body i cl suites, ρ => (pxs body ρ).bind fun fl => match fl with
    | .ex k ρ1 => if i < ρ1.length ∧ cl = 0 then (pxAt k suites (ρ1.set i none)).bind (sufP i) else .bad
    | fl => .ok fl
def pxAt (k : Nat) : List (Nat × List MS) → Env → P Fl
  | [], _ => .bad
  | (j, su) :: r, ρ => if j = k then pxs su ρ else pxAt k r ρ
def pxs : List MS → Env → P Fl
  | [], ρ => .ok (.nx ρ)
  | s :: r, ρ => (px s ρ).bind fun fl => match fl with
    | .nx ρ1 => pxs r ρ1
    | .rt d => .ok (.rt d)
    | .bk ρ1 => .ok (.bk ρ1)
    | .ct ρ1 => .ok (.ct ρ1)
    | .ex c ρ1 => .ok (.ex c ρ1)
end
end
def callP (T : Nat → Option MDef) : Nat → Nat → List D → P D
  | 0, _, _ => .bad
  | n + 1, f, args => match T f with
    | none => .bad
    | some m => if args.length = m.np then (pxs (callP T n) m.body (startD m args)).nox.bind fun fl => match fl with
        | .rt d => .ok d
        | .nx _ => .ok .non
        | .ex c _ => .exc c
        | _ => .bad
      else .bad

/-! ### the store does not matter -/
def Le {α : Type} (S : Sto) (p : P α) (r : R α) : Prop := match p with
  | .ok a => r = .ok a S
  | .exc c => r = .exc c S
  | .bad => True
variable {S : Sto}
theorem le_bind {α β : Type} {p : P α} {r : R α} {f : α → P β} {g : α → Sto → R β} (h : Le S p r) (k : ∀ a, Le S (f a) (g a S)) : Le S (p.bind f) (r.bind g) := by
  cases p with
  | ok a => rw [show r = .ok a S from h]; exact k a
  | exc c => rw [show r = .exc c S from h]; exact rfl
  | bad => trivial
theorem le_bindS {α : Type} {ρ : Env} {p : P α} {r : R α} {f : α → P Fl} {g : α → Sto → R Fl} (h : Le S p r) (k : ∀ a, Le S (f a) (g a S)) : Le S (p.bindS ρ f) (r.bindS ρ g) := by
  cases p with
  | ok a => rw [show r = .ok a S from h]; exact k a
  | exc c => rw [show r = .exc c S from h]; exact rfl
  | bad => trivial
theorem le_nox {α : Type} {p : P α} {r : R α} (h : Le S p r) : Le S p.nox r.nox := by
  cases p with
  | ok a => rw [show r = .ok a S from h]; exact rfl
  | exc c => trivial
  | bad => trivial
theorem le_opt {α : Type} {o o' : Option α} (h : ∀ a, o = some a → o' = some a) : Le S (pOpt o) (ofOpt S o') := by
  cases o with
  | none => trivial
  | some a => rw [h a rfl]; exact rfl
theorem le_same {α : Type} {o : Option α} : Le S (pOpt o) (ofOpt S o) := le_opt fun _ h => h
theorem le_map {α β : Type} {o o' : Option α} {f : α → β} (h : ∀ a, o = some a → o' = some a) : ∀ b, o.map f = some b → o'.map f = some b := fun b e => by
  cases o with
  | none => cases e
  | some a => rw [h a rfl]; exact e
theorem deref_mono {d x : D} (h : deref S0 d = some x) : deref S d = some x := by
  cases d with
  | own i => cases h
  | _ => exact h
theorem ssetO_mono {x : D} : ∀ c, ssetO S0 x = some c → ssetO S x = some c := fun c h => by
  unfold ssetO at h ⊢
  cases e : deref S0 x with
  | none => rw [e] at h; cases h
  | some y => rw [e] at h; rw [deref_mono e]; exact h
theorem eqO_mono {a b : D} : ∀ c, eqO S0 a b = some c → eqO S a b = some c := fun c h => by
  unfold eqO at h ⊢
  cases e1 : deref S0 a with
  | none => simp only [e1] at h; cases h
  | some x =>
    cases e2 : deref S0 b with
    | none => simp only [e1, e2] at h; cases h
    | some y => simp only [e1, e2] at h; simp only [deref_mono e1, deref_mono e2]; exact h
theorem inV_mono {a b : D} : ∀ c, inV S0 a b = some c → inV S a b = some c := fun c h => by
  unfold inV at h ⊢
  split at h <;> first
    | exact h
    | (cases h; done)
    | skip
theorem cmpV_mono {op : COp} {a b : D} : ∀ c, cmpV S0 op a b = some c → cmpV S op a b = some c := fun c h => by
  cases op with
  | eq => exact eqO_mono c h
  | ne => exact le_map eqO_mono c h
  | isin => exact inV_mono c h
  | notin => exact le_map inV_mono c h
  | _ => exact h
theorem idxV_mono {a b : D} : ∀ c, idxV S0 a b = some c → idxV S a b = some c := fun c h => by
  unfold idxV at h ⊢
  split at h <;> first
    | exact h
    | (cases h; done)
theorem lenV_mono {a : D} : ∀ c, lenV S0 a = some c → lenV S a = some c := fun c h => by
  cases a with
  | own i => cases h
  | _ => exact h
theorem bfV_mono {b : BF} {xs : List D} : ∀ c, bfV S0 b xs = some c → bfV S b xs = some c := fun c h => by
  unfold bfV at h ⊢
  split at h <;> first
    | exact le_map lenV_mono c h
    | exact h
    | (cases h; done)
theorem rcv_mono {m : MF} {d : D} (h : rcv S0 m d = true) : rcv S m d = true := by
  unfold rcv at h ⊢
  split at h <;> first
    | rfl
    | (cases h; done)
theorem mfV_mono {m : MF} {x : D} {xs : List D} {d : D} {S' : Sto} (h : mfV S0 m x xs = some (d, S')) : mfV S m x xs = some (d, S) := by
  unfold mfV at h ⊢
  split at h
  · split at h
    · split at h
      · rename_i ys e q
        cases h
        simp [e]
        simpa using q
      · cases h
    · cases h
  · cases h
  · cases h
  · cases h; rfl
  · split at h
    · rename_i q
      cases h
      rw [if_pos q]
    · cases h
  · cases h; rfl
  · rename_i xs' b
    cases e : blsOf xs' with
    | none => rw [e] at h; cases h
    | some bs => rw [e] at h; cases h; rfl
  · split at h
    · split at h
      · rename_i ys e q
        cases h
        simp [e, q]
      · cases h
    · cases h
  · cases h
  · cases h
theorem seq_mono {x : D} : ∀ c, seqItems S0 x = some c → seqItems S x = some c := fun c h => h
theorem le_comp {set : D → Option Env} {tst : Env → P Bool} {elt : Env → P D} {tst' : Env → Sto → R Bool} {elt' : Env → Sto → R D} (h1 : ∀ ρ, Le S (tst ρ) (tst' ρ S)) (h2 : ∀ ρ, Le S (elt ρ) (elt' ρ S)) : ∀ (ds acc : List D), Le S (compP set tst elt ds acc) (compL set tst' elt' ds acc S)
  | [], acc => rfl
  | d :: r, acc => by
    unfold compP compL
    cases set d with
    | none => trivial
    | some ρ =>
      refine le_bind (le_nox (h1 ρ)) fun b => ?_
      cases b with
      | true => exact le_bind (le_nox (h2 ρ)) fun y => le_comp h1 h2 r (acc ++ [y])
      | false => exact le_comp h1 h2 r acc
theorem le_loop {n : Nat} (hn : S.nx = n) {set : Env → D → Option Env} {body : Env → P Fl} {body' : Env → Sto → R Fl} (h : ∀ ρ, Le S (body ρ) (body' ρ S)) : ∀ (ds : List D) (ρ : Env), Le S (loopP set body ds ρ) (loopL n set body' ds ρ S)
  | [], ρ => rfl
  | d :: r, ρ => by
    unfold loopP loopL
    cases set ρ d with
    | none => trivial
    | some ρ1 =>
      refine le_bind (h ρ1) fun fl => ?_
      cases fl with
      | nx ρ2 => show Le S _ (loopL n set body' r ρ2 (S.back n)); rw [back_same hn]; exact le_loop hn h r ρ2
      | ct ρ2 => show Le S _ (loopL n set body' r ρ2 (S.back n)); rw [back_same hn]; exact le_loop hn h r ρ2
      | bk ρ2 => rfl
      | rt d => rfl
      | ex c ρ2 => rfl
theorem le_while {tst : Env → P Bool} {body : Env → P Fl} {tst' : Env → Sto → R Bool} {body' : Env → Sto → R Fl} (h1 : ∀ ρ, Le S (tst ρ) (tst' ρ S)) (h2 : ∀ ρ, Le S (body ρ) (body' ρ S)) : ∀ (n : Nat) (ρ : Env), Le S (whileP tst body n ρ) (whileL tst' body' n ρ S)
  | 0, ρ => trivial
  | n + 1, ρ => by
    unfold whileP whileL
    refine le_bindS (h1 ρ) fun b => ?_
    cases b with
    | false => rfl
    | true =>
      refine le_bind (h2 ρ) fun fl => ?_
      cases fl with
      | nx ρ2 => exact le_while h1 h2 n ρ2
      | ct ρ2 => exact le_while h1 h2 n ρ2
      | bk ρ2 => rfl
      | rt d => rfl
      | ex c ρ2 => rfl
section
variable {C : Nat → List D → P D} {C' : Nat → List D → Sto → R D} (hC : ∀ f xs, Le S (C f xs) (C' f xs S))
include hC
omit hC in
theorem le_finB {p : P D} {r : R D} (h : Le S p r) : Le S (finPB p) (finB r) := by
  refine le_bind (le_nox h) fun d => ?_
  cases d <;> first
    | trivial
    | rfl
omit hC in
theorem le_fin {kd : MK} {p : P D} {r : R D} (h : Le S p r) : Le S (finP kd p) (finM kd r) := by
  cases kd with
  | call => exact h
  | eq => exact le_finB h
  | ne =>
    refine le_bind (le_nox h) fun d => ?_
    cases d <;> first
      | trivial
      | rfl
  | len =>
    refine le_bind (le_nox h) fun d => ?_
    cases d <;> first
      | trivial
      | (rename_i i
         show Le S (if _ then _ else _) (if _ then _ else _)
         split <;> first
           | rfl
           | trivial)
  | sub => exact le_nox h
  | add => exact le_nox h
  | shl => exact le_nox h
mutual
theorem le_ev : ∀ (e : ME) (ρ : Env), Le S (pv C e ρ) (ev C' e ρ S)
  | .var i, ρ => by
    simp only [pv, ev_var]
    cases ρ[i]? with
    | none => trivial
    | some o => cases o <;> first
      | rfl
      | trivial
  | .cst d, ρ => by simp only [pv, ev_cst]; rfl
  | .fnv f, ρ => by simp only [pv, ev_fnv]; rfl
  | .isx b, ρ => by simp only [pv, ev]; rfl
  | .bin op a b, ρ => by
    simp only [pv, ev_bin]
    exact le_bind (le_ev a ρ) fun x => le_bind (le_ev b ρ) fun y => le_same
  | .neg a, ρ => by
    simp only [pv, ev_neg]
    refine le_bind (le_ev a ρ) fun x => ?_
    cases x <;> first
      | rfl
      | trivial
  | .not a, ρ => by
    simp only [pv, ev_not]
    refine le_bind (le_ev a ρ) fun x => ?_
    cases x <;> first
      | rfl
      | trivial
  | .and a b, ρ => by
    simp only [pv, ev_and]
    refine le_bind (le_ev a ρ) fun x => ?_
    cases x with
    | bl c => cases c with
      | true => exact le_ev b ρ
      | false => rfl
    | _ => trivial
  | .or a b, ρ => by
    simp only [pv, ev_or]
    refine le_bind (le_ev a ρ) fun x => ?_
    cases x with
    | bl c => cases c with
      | true => rfl
      | false => exact le_ev b ρ
    | _ => trivial
  | .cmp op a b, ρ => by
    simp only [pv, ev_cmp]
    exact le_bind (le_ev a ρ) fun x => le_bind (le_ev b ρ) fun y => le_opt (le_map cmpV_mono)
  | .isN a, ρ => by
    simp only [pv, ev_isN]
    exact le_bind (le_ev a ρ) fun x => rfl
  | .notN a, ρ => by
    simp only [pv, ev_notN]
    exact le_bind (le_ev a ρ) fun x => rfl
  | .chn o1 o2 a b c, ρ => by
    simp only [pv, ev_chn]
    refine le_bind (le_ev a ρ) fun x => le_bind (le_ev b ρ) fun y => le_bind (le_opt cmpV_mono) fun t => ?_
    cases t with
    | true => exact le_bind (le_ev c ρ) fun z => le_opt (le_map cmpV_mono)
    | false => rfl
  | .ite c a b, ρ => by
    simp only [pv, ev_ite]
    refine le_bind (le_evT c ρ) fun t => ?_
    cases t with
    | true => exact le_ev a ρ
    | false => exact le_ev b ρ
  | .tup es, ρ => by
    simp only [pv, ev_tup]
    exact le_bind (le_evs es ρ) fun xs => rfl
  | .lst own es, ρ => by
    cases own with
    | true => simp only [pv]; trivial
    | false => simp only [pv, ev_lst]; exact le_bind (le_evs es ρ) fun xs => rfl
  | .dct, ρ => by simp only [pv]; trivial
  | .idx a i, ρ => by
    simp only [pv, ev_idx]
    exact le_bind (le_ev a ρ) fun x => le_bind (le_ev i ρ) fun y => le_opt idxV_mono
  | .slc a lo hi, ρ => by
    simp only [pv, ev_slc]
    exact le_bind (le_ev a ρ) fun x => le_bind (le_evO lo ρ) fun l => le_bind (le_evO hi ρ) fun h => le_same
  | .rev a, ρ => by
    simp only [pv, ev_rev]
    exact le_bind (le_ev a ρ) fun x => le_same
  | .call f args, ρ => by
    simp only [pv, ev_call]
    exact le_bind (le_evs args ρ) fun xs => hC f xs
  | .bcl b args, ρ => by
    simp only [pv, ev_bcl]
    exact le_bind (le_evs args ρ) fun xs => le_opt bfV_mono
  | .isi a t, ρ => by
    simp only [pv, ev_isi]
    exact le_bind (le_ev a ρ) fun x => le_same
  | .mth m o args, ρ => by
    simp only [pv, ev_mth]
    refine le_bind (le_ev o ρ) fun x => ?_
    by_cases h : rcv S0 m x = true
    · rw [if_pos h, if_pos (rcv_mono h)]
      refine le_bind (le_evs args ρ) fun xs => ?_
      cases e : mfV S0 m x xs with
      | none => trivial
      | some p => obtain ⟨d, S'⟩ := p; rw [mfV_mono e]; rfl
    · rw [if_neg h]; trivial
  | .lcm own elt vs t it c, ρ => by
    cases own with
    | true => simp only [pv]; trivial
    | false =>
      simp only [pv, ev_lcm]
      refine le_bind (le_evI it ρ) fun ds => ?_
      by_cases h : ds.length ≤ LIM
      · rw [if_pos h, if_pos h]
        exact le_bind (le_comp (fun ρ' => le_evC c ρ') (fun ρ' => le_ev elt ρ') ds []) fun xs => rfl
      · rw [if_neg h]; trivial
  | .frz e, ρ => by
    simp only [pv, ev]
    refine le_bind (le_ev e ρ) fun x => ?_
    cases x <;> first
      | rfl
      | trivial
  | .callv ks f args, ρ => by
    simp only [pv, ev]
    refine le_bind (le_ev f ρ) fun x => ?_
    cases x <;> first
      | trivial
      | skip
    rename_i k
    show Le S (if ks.elem k then _ else _) (if ks.elem k then _ else _)
    by_cases h : ks.elem k = true
    · rw [if_pos h, if_pos h]
      exact le_bind (le_evs args ρ) fun xs => hC k xs
    · rw [if_neg h]; trivial
  | .lrg tup a b, ρ => by
    simp only [pv, ev]
    exact le_bind (le_ev a ρ) fun x => le_bind (le_ev b ρ) fun y => le_same
  | .sset a, ρ => by
    simp only [pv, ev]
    exact le_bind (le_ev a ρ) fun x => le_opt ssetO_mono
  | .srt a, ρ => by
    simp only [pv, ev]
    exact le_bind (le_ev a ρ) fun x => le_same
  | .dsp ks es, ρ => by
    simp only [pv, ev]
    exact le_bind (le_evs es ρ) fun xs => rfl
  | .xc f, ρ => by
    simp only [pv, ev]
    exact hC f []
  | .slen a, ρ => by
    simp only [pv, ev]
    exact le_bind (le_ev a ρ) fun x => le_same
  | .att k j e, ρ => by
    simp only [pv, ev]
    exact le_bind (le_ev e ρ) fun x => le_same
  | .mcl kd k f o args, ρ => by
    simp only [pv, ev]
    refine le_bind (le_ev o ρ) fun x => ?_
    by_cases h : isO k x = true
    · rw [if_pos h, if_pos h]
      refine le_bind (le_evs args ρ) fun xs => ?_
      by_cases h2 : okArg k kd xs = true
      · rw [if_pos h2, if_pos h2]; exact le_fin (hC f (x :: xs))
      · rw [if_neg h2]; trivial
    · rw [if_neg h]; trivial
  | .mcr k f a o, ρ => by
    simp only [pv, ev]
    refine le_bind (le_ev a ρ) fun y => le_bind (le_ev o ρ) fun x => ?_
    by_cases h : isO k x = true
    · rw [if_pos h, if_pos h]; exact le_finB (hC f [x, y])
    · rw [if_neg h]; trivial
  | .mk f args, ρ => by
    simp only [pv, ev]
    exact le_bind (le_evs args ρ) fun xs => hC f (.any :: xs)
  | .new k es, ρ => by
    simp only [pv, ev]
    exact le_bind (le_nox (le_evs es ρ)) fun xs => rfl
  | .iso k e, ρ => by
    simp only [pv, ev]
    exact le_bind (le_ev e ρ) fun x => le_same
theorem le_evT : ∀ (e : ME) (ρ : Env), Le S (pvT C e ρ) (evT C' e ρ S)
  | .isx b, ρ => by simp only [pvT, evT]; rfl
  | .not a, ρ => by
    simp only [pvT, evT_not]
    exact le_bind (le_evT a ρ) fun x => rfl
  | .and a b, ρ => by
    simp only [pvT, evT_and]
    refine le_bind (le_evT a ρ) fun c => ?_
    cases c with
    | true => exact le_evT b ρ
    | false => rfl
  | .or a b, ρ => by
    simp only [pvT, evT_or]
    refine le_bind (le_evT a ρ) fun c => ?_
    cases c with
    | true => rfl
    | false => exact le_evT b ρ
  | .cmp op a b, ρ => by
    simp only [pvT, evT_cmp]
    exact le_bind (le_ev a ρ) fun x => le_bind (le_ev b ρ) fun y => le_opt cmpV_mono
  | .isN a, ρ => by
    simp only [pvT, evT_isN]
    exact le_bind (le_ev a ρ) fun x => rfl
  | .notN a, ρ => by
    simp only [pvT, evT_notN]
    exact le_bind (le_ev a ρ) fun x => rfl
  | .chn o1 o2 a b c, ρ => by
    simp only [pvT, evT_chn]
    refine le_bind (le_ev a ρ) fun x => le_bind (le_ev b ρ) fun y => le_bind (le_opt cmpV_mono) fun t => ?_
    cases t with
    | true => exact le_bind (le_ev c ρ) fun z => le_opt cmpV_mono
    | false => rfl
  | .var i, ρ => by
    simp only [pvT, evT_var]
    cases ρ[i]? with
    | none => trivial
    | some o => cases o <;> first
      | exact le_same
      | trivial
  | .bin op a b, ρ => by
    simp only [pvT, evT_bin]
    exact le_bind (le_bind (le_ev a ρ) fun x => le_bind (le_ev b ρ) fun y => le_same) fun x => le_same
  | .call f args, ρ => by
    simp only [pvT, evT_call]
    exact le_bind (le_bind (le_evs args ρ) fun xs => hC f xs) fun x => le_same
  | .bcl b args, ρ => by
    simp only [pvT, evT_bcl]
    exact le_bind (le_bind (le_evs args ρ) fun xs => le_opt bfV_mono) fun x => le_same
  | .isi a t, ρ => by
    simp only [pvT, evT_isi]
    exact le_bind (le_ev a ρ) fun x => le_same
  | .cst d, ρ => by simp only [pvT]; trivial
  | .fnv f, ρ => by simp only [pvT]; trivial
  | .neg a, ρ => by simp only [pvT]; trivial
  | .ite c a b, ρ => by simp only [pvT]; trivial
  | .tup es, ρ => by simp only [pvT]; trivial
  | .lst own es, ρ => by simp only [pvT]; trivial
  | .dct, ρ => by simp only [pvT]; trivial
  | .idx a i, ρ => by simp only [pvT]; trivial
  | .slc a lo hi, ρ => by simp only [pvT]; trivial
  | .rev a, ρ => by simp only [pvT]; trivial
  | .mth m o args, ρ => by simp only [pvT]; trivial
  | .lcm own elt vs t it c, ρ => by simp only [pvT]; trivial
  | .frz e, ρ => by simp only [pvT]; trivial
  | .callv ks f args, ρ => by simp only [pvT]; trivial
  | .lrg tup a b, ρ => by simp only [pvT]; trivial
  | .sset a, ρ => by simp only [pvT]; trivial
  | .srt a, ρ => by simp only [pvT]; trivial
  | .slen a, ρ => by simp only [pvT]; trivial
  | .dsp ks es, ρ => by simp only [pvT]; trivial
  | .xc f, ρ => by simp only [pvT]; trivial
  | .att k j e, ρ => by
    simp only [pvT, evT]
    exact le_bind (le_bind (le_ev e ρ) fun x => le_same) fun x => le_same
  | .mcl kd k f o args, ρ => by
    simp only [pvT, evT]
    refine le_bind (le_bind (le_ev o ρ) fun x => ?_) fun x => le_same
    by_cases h : isO k x = true
    · rw [if_pos h, if_pos h]
      refine le_bind (le_evs args ρ) fun xs => ?_
      by_cases h2 : okArg k kd xs = true
      · rw [if_pos h2, if_pos h2]; exact le_fin (hC f (x :: xs))
      · rw [if_neg h2]; trivial
    · rw [if_neg h]; trivial
  | .mcr k f a o, ρ => by
    simp only [pvT, evT]
    refine le_bind (le_bind (le_ev a ρ) fun y => le_bind (le_ev o ρ) fun x => ?_) fun x => le_same
    by_cases h : isO k x = true
    · rw [if_pos h, if_pos h]; exact le_finB (hC f [x, y])
    · rw [if_neg h]; trivial
  | .iso k e, ρ => by
    simp only [pvT, evT]
    exact le_bind (le_bind (le_ev e ρ) fun x => le_same) fun x => le_same
  | .mk f args, ρ => by simp only [pvT]; trivial
  | .new k es, ρ => by simp only [pvT]; trivial
theorem le_evs : ∀ (es : List ME) (ρ : Env), Le S (pvs C es ρ) (evs C' es ρ S)
  | [], ρ => by simp only [pvs, evs_nil]; rfl
  | e :: r, ρ => by
    simp only [pvs, evs_cons]
    exact le_bind (le_ev e ρ) fun x => le_bind (le_evs r ρ) fun xs => rfl
theorem le_evO : ∀ (e : Option ME) (ρ : Env), Le S (pvO C e ρ) (evO C' e ρ S)
  | none, ρ => by simp only [pvO, evO_none]; rfl
  | some e, ρ => by
    simp only [pvO, evO_some]
    refine le_bind (le_ev e ρ) fun x => ?_
    cases x <;> first
      | rfl
      | trivial
theorem le_evC : ∀ (e : Option ME) (ρ : Env), Le S (pvC C e ρ) (evC C' e ρ S)
  | none, ρ => by simp only [pvC, evC_none]; rfl
  | some e, ρ => by simp only [pvC, evC_some]; exact le_evT e ρ
theorem le_evI : ∀ (e : MI) (ρ : Env), Le S (pvI C e ρ) (evI C' e ρ S)
  | .seq e, ρ => by
    simp only [pvI, evI_seq]
    exact le_bind (le_ev e ρ) fun x => le_opt seq_mono
  | .rng1 a, ρ => by
    simp only [pvI, evI_rng1]
    refine le_bind (le_ev a ρ) fun x => ?_
    cases x <;> first
      | exact le_same
      | trivial
  | .rng2 a b, ρ => by
    simp only [pvI, evI_rng2]
    refine le_bind (le_ev a ρ) fun x => le_bind (le_ev b ρ) fun y => ?_
    cases x <;> cases y <;> first
      | exact le_same
      | trivial
  | .zip a b, ρ => by
    simp only [pvI, evI]
    refine le_bind (le_ev a ρ) fun x => le_bind (le_ev b ρ) fun y => ?_
    cases x <;> cases y <;> first
      | rfl
      | trivial
  | .enm a, ρ => by
    simp only [pvI, evI]
    refine le_bind (le_ev a ρ) fun x => ?_
    cases x <;> first
      | rfl
      | trivial
  | .zipl a b, ρ => by
    simp only [pvI, evI]
    refine le_bind (le_ev a ρ) fun x => le_bind (le_ev b ρ) fun y => ?_
    cases x <;> cases y <;> first
      | rfl
      | trivial
  | .enz a b, ρ => by simp only [pvI]; trivial
end
mutual
theorem le_ex : ∀ (s : MS) (ρ : Env), Le S (px C s ρ) (exec C' s ρ S)
  | .expr e, ρ => by
    simp only [px, exec_expr]
    exact le_bindS (le_ev hC e ρ) fun _ => rfl
  | .asg i e, ρ => by
    simp only [px, exec_asg]
    exact le_bindS (le_ev hC e ρ) fun _ => rfl
  | .asgT is e, ρ => by
    simp only [px, exec_asgT]
    refine le_bindS (le_ev hC e ρ) fun x => ?_
    cases (Tgt.tp is).set ρ x <;> first
      | rfl
      | trivial
  | .par is es, ρ => by
    simp only [px, exec_par]
    refine le_bindS (le_evs hC es ρ) fun x => ?_
    cases (Tgt.tp is).set ρ (.tup x) <;> first
      | rfl
      | trivial
  | .setI o i e, ρ => by simp only [px]; trivial
  | .aug i op e, ρ => by
    simp only [px, exec]
    cases ρ[i]? with
    | none => trivial
    | some o => cases o with
      | none => trivial
      | some x =>
        refine le_bindS (le_ev hC e ρ) fun y => le_bindS (p := augP x y) (r := augV x y S) ?_ fun z => rfl
        cases x <;> cases y <;> first
          | exact le_same
          | trivial
  | .ite c a b, ρ => by
    simp only [px, exec_ite]
    refine le_bindS (le_evT hC c ρ) fun t => ?_
    cases t with
    | true => exact le_exs a ρ
    | false => exact le_exs b ρ
  | .forr t it body, ρ => by
    simp only [px, exec_forr]
    exact le_bindS (le_evI hC it ρ) fun ds => le_loop rfl (fun ρ' => le_exs body ρ') ds ρ
  | .whil c body, ρ => by
    simp only [px, exec]
    exact le_while (fun ρ' => le_evT hC c ρ') (fun ρ' => le_exs body ρ') WF ρ
  | .ret none, ρ => by simp only [px, exec_retN]; rfl
  | .ret (some e), ρ => by
    simp only [px, exec_ret]
    exact le_bindS (le_ev hC e ρ) fun _ => rfl
  | .rais c, ρ => by simp only [px, exec_rais]; rfl
  | .pass, ρ => by simp only [px, exec]; rfl
  | .brk, ρ => by simp only [px, exec]; rfl
  | .cnt, ρ => by simp only [px, exec]; rfl
  | .tri body i cl suites, ρ => by
    simp only [px, exec]
    refine le_bind (le_exs body ρ) fun fl => ?_
    cases fl with
    | ex k ρ1 =>
      show Le S (if _ then _ else _) (if _ then _ else _)
      by_cases h : i < ρ1.length ∧ cl = 0
      · rw [if_pos h, if_pos h]
        refine le_bind (le_exAt k suites _) fun fl => ?_
        cases fl <;> first
          | rfl
          | trivial
      · rw [if_neg h]; trivial
    | _ => rfl
theorem le_exAt (k : Nat) : ∀ (su : List (Nat × List MS)) (ρ : Env), Le S (pxAt C k su ρ) (execsAt C' k su ρ S)
  | [], ρ => by simp only [pxAt]; trivial
  | (j, b) :: r, ρ => by
    simp only [pxAt, execsAt]
    by_cases h : j = k
    · rw [if_pos h, if_pos h]; exact le_exs b ρ
    · rw [if_neg h, if_neg h]; exact le_exAt k r ρ
theorem le_exs : ∀ (l : List MS) (ρ : Env), Le S (pxs C l ρ) (execs C' l ρ S)
  | [], ρ => by simp only [pxs, execs_nil]; rfl
  | s :: r, ρ => by
    simp only [pxs, execs_cons]
    refine le_bind (le_ex s ρ) fun fl => ?_
    cases fl with
    | nx ρ1 => exact le_exs r ρ1
    | _ => rfl
end
end
theorem le_call {T : Nat → Option MDef} : ∀ (n f : Nat) (xs : List D), Le S (callP T n f xs) (callF T n f xs S)
  | 0, _, _ => trivial
  | n + 1, f, xs => by
    unfold callP
    cases e : T f with
    | none => trivial
    | some m =>
      show Le S (if xs.length = m.np then _ else _) _
      by_cases h : xs.length = m.np
      · rw [if_pos h, callF_eq e h]
        refine le_bind (le_nox (le_exs (le_call n) m.body _)) fun fl => ?_
        cases fl with
        | rt d => exact ret_same rfl
        | nx ρ => exact ret_same rfl
        | ex c ρ => show R.exc c (S.back S.nx) = _; rw [back_same rfl]
        | _ => trivial
      · rw [if_neg h]; trivial
/-- a call that the kernel has done -/
theorem call_by {T : Nat → Option MDef} {n f : Nat} {xs : List D} {d : D} (h : callP T n f xs = .ok d) (S : Sto) : callF T n f xs S = .ok d S := by
  have z := le_call (S := S) (T := T) n f xs
  rw [h] at z
  exact z
theorem ev_by {T : Nat → Option MDef} {n : Nat} {e : ME} {ρ : Env} {d : D} (h : pv (callP T n) e ρ = .ok d) (S : Sto) : ev (callF T n) e ρ S = .ok d S := by
  have z := le_ev (S := S) (C := callP T n) (C' := callF T n) (le_call n) e ρ
  rw [h] at z
  exact z
theorem evT_by {T : Nat → Option MDef} {n : Nat} {e : ME} {ρ : Env} {d : Bool} (h : pvT (callP T n) e ρ = .ok d) (S : Sto) : evT (callF T n) e ρ S = .ok d S := by
  have z := le_evT (S := S) (C := callP T n) (C' := callF T n) (le_call n) e ρ
  rw [h] at z
  exact z
theorem execs_by {T : Nat → Option MDef} {n : Nat} {l : List MS} {ρ : Env} {d : D} (h : pxs (callP T n) l ρ = .ok (.rt d)) (S : Sto) : execs (callF T n) l ρ S = .ok (.rt d) S := by
  have z := le_exs (S := S) (C := callP T n) (C' := callF T n) (le_call n) l ρ
  rw [h] at z
  exact z
theorem exec_by {T : Nat → Option MDef} {n : Nat} {s : MS} {ρ : Env} {fl : Fl} (h : px (callP T n) s ρ = .ok fl) (S : Sto) : exec (callF T n) s ρ S = .ok fl S := by
  have z := le_ex (S := S) (C := callP T n) (C' := callF T n) (le_call n) s ρ
  rw [h] at z
  exact z
end Mn
end
section
set_option Elab.async false
set_option linter.all false
set_option maxRecDepth 100000
set_option maxHeartbeats 1000000
/-! Cnt: counting what returns; numbers that are asked for; wrong stitches, stitches made up. -/
namespace Mn
/-- how many of 0 .. n-1 -/
def cnt (f : Nat → Bool) (n : Nat) : Nat := (List.range n).countP f
theorem cnt_add (f : Nat → Bool) (a b : Nat) : cnt f (a + b) = cnt f a + cnt (fun i => f (a + i)) b := by
  unfold cnt
  rw [List.range_add, List.countP_append, List.countP_map]
  rfl
theorem cnt_one (f : Nat → Bool) : cnt f 1 = if f 0 = true then 1 else 0 := by
  unfold cnt
  rw [show List.range 1 = [0] from rfl, List.countP_singleton]
theorem cnt_turns {f : Nat → Bool} {L : Nat} (h : Per f L) (q r : Nat) : cnt f (L * q + r) = q * cnt f L + cnt f r := by
  induction q with
  | zero => simp
  | succ q ih =>
    have e : (fun i => f (L + i)) = f := by funext i; rw [Nat.add_comm]; exact h i
    rw [show L * (q + 1) + r = L + (L * q + r) by rw [Nat.mul_add]; omega, cnt_add, e, ih, Nat.add_mul, Nat.one_mul]
    omega
theorem cnt_per {f : Nat → Bool} {L : Nat} (h : Per f L) (n : Nat) : cnt f n = n / L * cnt f L + cnt f (n % L) := by
  have := cnt_turns h (n / L) (n % L)
  rwa [Nat.div_add_mod] at this
theorem cnt_shift {f : Nat → Bool} {L : Nat} (h : Per f L) : ∀ a, cnt (fun i => f (a + i)) L = cnt f L
  | 0 => by congr 1; funext i; rw [Nat.zero_add]
  | a + 1 => by
    rw [← cnt_shift h a]
    have e1 := cnt_add (fun i => f (a + i)) 1 L
    have e2 := cnt_add (fun i => f (a + i)) L 1
    rw [Nat.add_comm L 1, e1, cnt_one, cnt_one] at e2
    have e3 : f (a + (L + 0)) = f (a + 0) := by rw [Nat.add_zero, Nat.add_zero]; exact h a
    simp only [e3] at e2
    have e4 : (fun i => f (a + 1 + i)) = fun i => f (a + (1 + i)) := by funext i; rw [Nat.add_assoc]
    rw [e4]
    omega
theorem cnt_zero {f : Nat → Bool} {n : Nat} : cnt f n = 0 ↔ ∀ i, i < n → f i = false := by
  unfold cnt
  rw [List.countP_eq_zero]
  simp only [List.mem_range, Bool.not_eq_true]
theorem cnt_filter {f : Nat → Bool} {n : Nat} : ((List.range n).filter f).length = cnt f n := by
  unfold cnt
  rw [List.countP_eq_length_filter]
theorem cnt_le (f : Nat → Bool) (n : Nat) : cnt f n ≤ n := by
  unfold cnt
  have := List.countP_le_length (p := f) (l := List.range n)
  rwa [List.length_range] at this
theorem count_true (f : Nat → Bool) (n : Nat) : ((List.range n).map f).count true = cnt f n := by
  unfold cnt List.count
  rw [List.countP_map]
  congr 1
  funext i
  simp
theorem bls_mapf (f : Nat → Bool) : ∀ l : List Nat, blsOf (l.map fun i => .bl (f i)) = some (l.map f)
  | [] => rfl
  | a :: r => by show (blsOf (r.map fun i => D.bl (f i))).map _ = _; rw [bls_mapf f r]; rfl
theorem lcount_true {S : Sto} (f : Nat → Bool) (n : Nat) : mfV S .lcount (.lst ((List.range n).map fun i => .bl (f i))) [.bl true] = some (.int (cnt f n), S) := by
  unfold mfV
  simp only [bls_mapf, Option.map_some, count_true]
theorem slc_lst_to {x : List D} {v : Int} (h : 0 ≤ v) : slcV (.lst x) none (some v) = some (.lst (x.take v.toNat)) := by
  show some (D.lst (cutD x none (some v))) = _
  rw [cut_to h]
theorem take_map_range {α : Type} (f : Nat → α) {k n : Nat} (h : k ≤ n) : ((List.range n).map f).take k = (List.range k).map f := by
  rw [← List.map_take, List.take_range, Nat.min_eq_left h]

/-! ### numbers that are asked for -/
/-- is v a whole number from a to b? -/
def intIn (v : D) (a b : Int) : Bool := match v with
  | .int i => decide (a ≤ i) && decide (i ≤ b)
  | _ => false
def plainD : D → Bool
  | .own _ => false
  | .fn _ => false
  | .frz _ => false
  | .dx _ _ => false
  | .obj _ _ => false
  | .any => false
  | _ => true
section
variable {T : Nat → Option MDef} (hT : ∀ f, f < 100 → T f = coreT f)
include hT
theorem is_integer_any {n : Nat} {S : Sto} {v : D} {a b : Int} (h : plainD v = true) : callF T (n + 1) 0 [v, .int a, .int b] S = .ok (.bl (intIn v a b)) S := by
  rw [callF_eq (m := m_is_integer) (by rw [hT _ (by decide)]; rfl) rfl]
  simp only [m_is_integer, startD]
  cases v with
  | int i =>
    by_cases c : a ≤ i
    · simp [isiV, c, intIn]
    · simp [isiV, c, intIn]
  | own i => cases h
  | fn i => cases h
  | frz i => cases h
  | dx i j => cases h
  | obj i j => cases h
  | any => cases h
  | _ => simp [isiV, intIn]
theorem require_number_any {n : Nat} {S : Sto} {v : D} {a b : Int} (h : plainD v = true) : callF T (n + 2) 1 [v, .int a, .int b] S = if intIn v a b = true then .ok .non S else .exc 6 S := by
  rw [callF_eq (m := m_require_number) (by rw [hT _ (by decide)]; rfl) rfl]
  simp only [m_require_number, startD]
  simp [is_integer_any hT (n := n) (S := S) h, truthy]
  cases intIn v a b with
  | true => simp
  | false => simp [R.nox, R.bind, fin, Sto.back]
theorem require_number_ok {n : Nat} {S : Sto} {v a b : Int} (h : a ≤ v) (h2 : v ≤ b) : callF T (n + 2) 1 [.int v, .int a, .int b] S = .ok .non S := by
  rw [require_number_any hT rfl, if_pos (by simp [intIn, h, h2])]
theorem require_number_bad {n : Nat} {S : Sto} {v : D} {a b : Int} (h : plainD v = true) (h2 : intIn v a b = false) : callF T (n + 2) 1 [v, .int a, .int b] S = .exc 6 S := by
  rw [require_number_any hT h, if_neg (by simp [h2])]
end

/-! ### stitches made up, wrong stitches -/
/-- how many are made up for -/
def madeN (r cut : Nat) : Nat := ((-(cut : Int)) % (r : Int)).toNat
theorem madeN_int {r cut : Nat} (h : 0 < r) : ((madeN r cut : Nat) : Int) = (-(cut : Int)) % (r : Int) := by
  unfold madeN
  rw [Int.toNat_of_nonneg (Int.emod_nonneg _ (by omega))]
theorem madeN_lt {r cut : Nat} (h : 0 < r) : madeN r cut < r := by
  have e := madeN_int (cut := cut) h
  have := Int.emod_lt_of_pos (-(cut : Int)) (show (0 : Int) < r by omega)
  omega
theorem madeN_dvd {r cut : Nat} (h : 0 < r) : r ∣ cut + madeN r cut := by
  have e := madeN_int (cut := cut) h
  have d := Int.emod_add_mul_ediv (-(cut : Int)) (r : Int)
  rw [← e] at d
  have : ((cut + madeN r cut : Nat) : Int) = (r : Int) * (-((-(cut : Int)) / (r : Int))) := by rw [Int.mul_neg]; omega
  exact Int.natCast_dvd_natCast.mp ⟨_, this⟩
theorem madeN_uniq {r cut m : Nat} (h : 0 < r) (hm : m < r) (d : r ∣ cut + m) : m = madeN r cut := by
  have h1 := madeN_lt (cut := cut) h
  have h2 := madeN_dvd (cut := cut) h
  have mm : ∀ a b, a ≤ b → b < r → r ∣ cut + a → r ∣ cut + b → a = b := fun a b hab hb d1 d2 => by
    have d3 := Nat.dvd_sub d2 d1
    rw [show cut + b - (cut + a) = b - a by omega] at d3
    by_cases z : b - a = 0
    · omega
    · have := Nat.le_of_dvd (by omega) d3
      omega
  rcases Nat.le_total m (madeN r cut) with q | q
  · exact mm _ _ q h1 d h2
  · exact (mm _ _ q hm h2 d).symm
/-- is the stitch wrong there? -/
def wrongB (t : List Nat) (cut i : Nat) : Bool := !decide (cyc t i = cyc t (i + cut))
theorem wrong_per (t : List Nat) (cut : Nat) : Per (wrongB t cut) t.length := fun i => by
  unfold wrongB
  rw [cyc_per t i, show i + t.length + cut = i + cut + t.length by omega, cyc_per t (i + cut)]
/-- the number of wrong stitches -/
def wrongN (t : List Nat) (first cut number : Nat) : Nat := cnt (fun i => wrongB t cut (first + i)) number
theorem wrongN_turns {t : List Nat} {first cut q r : Nat} : wrongN t first cut (t.length * q + r) = q * wrongN t 0 cut t.length + wrongN t first cut r := by
  unfold wrongN
  have p : Per (fun i => wrongB t cut (first + i)) t.length := fun i => by show wrongB t cut (first + (i + _)) = _; rw [← Nat.add_assoc]; exact wrong_per t cut _
  rw [cnt_turns p, cnt_shift (wrong_per t cut) first, cnt_shift (wrong_per t cut) 0]
theorem wrongN_zero {t : List Nat} {first cut number r : Nat} (h : IsRoot t r) (d : r ∣ cut) : wrongN t first cut number = 0 := by
  unfold wrongN
  rw [cnt_zero]
  intro i _
  unfold wrongB
  have := (h.per.dvd d) (first + i)
  rw [this]; simp
theorem wrong_iff {t : List Nat} {cut r : Nat} (h : IsRoot t r) : wrongN t 0 cut t.length = 0 ↔ r ∣ cut := by
  refine ⟨fun z => ?_, fun d => wrongN_zero h d⟩
  by_cases hc : cut = 0
  · rw [hc]; exact Nat.dvd_zero _
  have tl : 0 < t.length := Nat.lt_of_lt_of_le h.pos h.le
  refine h.dvdP (by omega) ?_
  unfold wrongN at z
  rw [cnt_zero] at z
  refine fun i => ?_
  have e := z (i % t.length) (Nat.mod_lt _ tl)
  unfold wrongB at e
  simp only [Nat.zero_add, Bool.not_eq_false', decide_eq_true_eq] at e
  have p : Per (fun i => cyc t (i + cut)) t.length := fun i => by show cyc t (i + _ + cut) = _; rw [show i + t.length + cut = i + cut + t.length by omega]; exact cyc_per t _
  have e1 := (cyc_per t).mod i
  have e2 : cyc t (i % t.length + cut) = cyc t (i + cut) := p.mod i
  rw [← e2, ← e, e1]
section
variable {T : Nat → Option MDef} (hT : ∀ f, f < 100 → T f = coreT f)
include hT
theorem made_up_ok {n : Nat} {S : Sto} {t : List Nat} {r cut : Nat} (h : Rp t) (hr : IsRoot t r) (hc : cut ≤ 10 ^ 12) : callF T (n + 3) 29 [.str t, .int cut] S = .ok (.int (madeN r cut)) S := by
  obtain ⟨r', hr', e⟩ := root_ok hT (n := n + 1) (S := S) h.1 (by have := h.2.1; omega)
  cases hr'.uniq hr
  have rp := hr.pos
  have q := require_number_ok hT (n := n) (S := S) (v := cut) (a := 0) (b := 1000000000000) (by omega) (by omega)
  rw [callF_eq (m := m_made_up) (by rw [hT _ (by decide)]; rfl) rfl]
  have m : binV .mod (.int (-(cut : Int))) (.int ((t.take r).length : Int)) = some (.int (madeN r cut)) := by rw [hr.take_len, binV_mod (by omega), madeN_int rp]
  simp [m_made_up, startD, require_repeat_ok hT (n := n) (S := S) h, q, e]
  rw [show (min r t.length : Nat) = r from Nat.min_eq_left hr.le, binV_mod (by omega), madeN_int rp]
  simp
theorem wrong_ok {n : Nat} {S : Sto} {t : List Nat} {first cut number : Nat} (h : Rp t) (h1 : first ≤ 10 ^ 15) (h2 : cut ≤ 10 ^ 12) (h3 : number ≤ 10 ^ 15) : callF T (n + 3) 30 [.str t, .int first, .int cut, .int number] S = .ok (.int (wrongN t first cut number)) S := by
  have tl := h.pos
  have tl2 := h.2.1
  have q1 := require_number_ok hT (n := n) (S := S) (v := first) (a := 0) (b := 1000000000000000) (by omega) (by omega)
  have q2 := require_number_ok hT (n := n) (S := S) (v := cut) (a := 0) (b := 1000000000000) (by omega) (by omega)
  have q3 := require_number_ok hT (n := n) (S := S) (v := number) (a := 0) (b := 1000000000000000) (by omega) (by omega)
  have L : ∀ ρ : Env, ρ[0]? = some (some (.str t)) → ρ[1]? = some (some (.int first)) → ρ[2]? = some (some (.int cut)) → ρ[4]? = some (some (.int t.length)) → ρ.length = 7 →
      ev (callF T (n + 2)) (.lcm false (.cmp .ne (.idx (.var 0) (.bin .mod (.bin .add (.var 1) (.var 6)) (.var 4))) (.idx (.var 0) (.bin .mod (.bin .add (.bin .add (.var 1) (.var 6)) (.var 2)) (.var 4)))) [6] (.nm 6) (.rng1 (.var 4)) none) ρ S =
        .ok (.lst ((List.range t.length).map fun i => .bl (wrongB t cut (first + i)))) S := fun ρ g0 g1 g2 g4 gl => by
    refine lcm_of (S1 := S) (ds := (List.range t.length).map fun (i : Nat) => D.int i) ?_ (by rw [List.length_map, List.length_range, LIM_val]; omega) ?_
    · simp only [evI_rng1, ev_var, g4, bind_ok]
      rw [rng_nat (by omega) (by omega), Int.toNat_natCast]; rfl
    · rw [comp_map (fun d => match d with | .int i => .bl (wrongB t cut (first + i.toNat)) | _ => .non) _ _ fun d hd => ?_]
      · simp only [List.nil_append, List.map_map]; rfl
      · obtain ⟨i, hi, rfl⟩ := List.mem_map.mp hd
        refine ⟨_, rfl, by simp, ?_⟩
        have y0 : ((wipeD ρ [6]).set 6 (some (.int (i : Int))))[0]? = some (some (.str t)) := by simp [wipeD, g0]
        have y1 : ((wipeD ρ [6]).set 6 (some (.int (i : Int))))[1]? = some (some (.int first)) := by simp [wipeD, g1]
        have y2 : ((wipeD ρ [6]).set 6 (some (.int (i : Int))))[2]? = some (some (.int cut)) := by simp [wipeD, g2]
        have y4 : ((wipeD ρ [6]).set 6 (some (.int (i : Int))))[4]? = some (some (.int t.length)) := by simp [wipeD, g4]
        have y6 : ((wipeD ρ [6]).set 6 (some (.int (i : Int))))[6]? = some (some (.int i)) := by simp [wipeD, gl]
        have a1 : ((first : Int) + (i : Int)) % (t.length : Int) = (((first + i) % t.length : Nat) : Int) := by rw [Int.natCast_emod, Int.natCast_add]
        have a2 : ((first : Int) + (i : Int) + (cut : Int)) % (t.length : Int) = (((first + i + cut) % t.length : Nat) : Int) := by rw [Int.natCast_emod, Int.natCast_add, Int.natCast_add]
        have b1 : idxV S (.str t) (.int (((first + i) % t.length : Nat) : Int)) = some (.str [cyc t (first + i)]) := idx_str (cyc_get h.1 _)
        have b2 : idxV S (.str t) (.int (((first + i + cut) % t.length : Nat) : Int)) = some (.str [cyc t (first + i + cut)]) := idx_str (cyc_get h.1 _)
        simp only [ev_cmp, ev_idx, ev_bin, ev_var, y0, y1, y2, y4, y6, bind_ok, binV_add, ofOpt_some, binV_mod (show (0 : Int) < t.length by omega), a1, a2, b1, b2, cmp_neX, Option.map_some, Int.toNat_natCast, wrongB]
        congr 3
        simp
  rw [callF_eq (m := m_wrong_stitches) (by rw [hT _ (by decide)]; rfl) rfl]
  simp only [m_wrong_stitches, startD]
  have d1 : binV .fdiv (.int (number : Int)) (.int (t.length : Int)) = some (.int ((number / t.length : Nat) : Int)) := by rw [binV_fdiv (by omega) (Dv_of (by omega) (by omega)), Int.natCast_ediv]
  have m1 : binV .mod (.int (number : Int)) (.int (t.length : Int)) = some (.int ((number % t.length : Nat) : Int)) := by rw [binV_mod (by omega), Int.natCast_emod]
  have cl := cnt_le (fun i => wrongB t cut (first + i)) t.length
  have e1 : binV .mul (.int ((number / t.length : Nat) : Int)) (.int ((cnt (fun i => wrongB t cut (first + i)) t.length : Nat) : Int)) = some (.int ((number / t.length * cnt (fun i => wrongB t cut (first + i)) t.length : Nat) : Int)) := by
    rw [binV_mulR (smallI_of (by omega) (by omega)), Int.natCast_mul]
  have e2 : slcV (.lst ((List.range t.length).map fun i => .bl (wrongB t cut (first + i)))) none (some ((number % t.length : Nat) : Int)) = some (.lst ((List.range (number % t.length)).map fun i => .bl (wrongB t cut (first + i)))) := by
    rw [slc_lst_to (by omega), Int.toNat_natCast, take_map_range _ (Nat.le_of_lt (Nat.mod_lt _ tl))]
  have lc : ∀ k, mfV S .lcount (.lst ((List.range k).map fun i => .bl (wrongB t cut (first + i)))) [.bl true] = some (.int (cnt (fun i => wrongB t cut (first + i)) k), S) := fun k => lcount_true (fun i => wrongB t cut (first + i)) k
  have rc : ∀ l, rcv S .lcount (.lst l) = true := fun _ => rfl
  have p : Per (fun i => wrongB t cut (first + i)) t.length := fun i => by show wrongB t cut (first + (i + _)) = _; rw [← Nat.add_assoc]; exact wrong_per t cut _
  have fine : (D.int (((number / t.length * cnt (fun i => wrongB t cut (first + i)) t.length : Nat) : Int) + ((cnt (fun i => wrongB t cut (first + i)) (number % t.length) : Nat) : Int))) = .int (wrongN t first cut number) := by
    unfold wrongN
    rw [cnt_per p number, Int.natCast_add]
  simp only [List.map_cons, List.map_nil, List.length_cons, List.length_nil, List.cons_append, List.nil_append, Nat.reduceSub, Nat.reduceAdd, List.replicate, execs_cons, execs_nil, exec_expr, exec_asg, exec_ret, ev_call, ev_bcl, evs_cons, evs_nil, ev_var, ev_cst, List.getElem?_cons_succ, List.getElem?_cons_zero, List.set_cons_succ, List.set_cons_zero, bind_ok, bindS_ok, nextS_nx, ofOpt_some,
    require_repeat_ok hT (n := n) (S := S) h, q1, q2, q3, len_str]
  rw [L _ rfl rfl rfl rfl rfl]
  simp only [bindS_ok, nextS_nx, nextS_rt, nox_ok, execs_cons, execs_nil, exec_ret, ev_bin, ev_mth, ev_slc, evO_none, evO_some, evs_cons, evs_nil, ev_var, ev_cst, List.getElem?_cons_succ, List.getElem?_cons_zero, List.set_cons_succ, List.set_cons_zero, bind_ok, ofOpt_some, rc, if_true, lc, d1, m1, e1, e2, binV_add, fine, fin_rt, retD_same]
end
end Mn
end
section
set_option Elab.async false
set_option linter.all false
set_option maxRecDepth 100000
set_option maxHeartbeats 1000000
/-! Mean5: works that the laws draw. -/
namespace Mn
section
variable {T : Nat → Option MDef} (hT : ∀ f, f < 100 → T f = coreT f)
include hT
theorem kind_of_ok {n b : Nat} {S : Sto} (hb : Bag b S) : ∃ (fl : Bool) (S' : Sto), Bg b S S' ∧ Bag b S' ∧ callF T (n + 2) 54 [.own b, .lst [.str [102, 108, 97, 116], .str [114, 111, 117, 110, 100]]] S = .ok (.str (kindL fl)) S' := by
  obtain ⟨i, d, S1, hi, b1, bag1, e1⟩ := of_ok hT (n := n) (S := S) (b := b) (xs := [.str [102, 108, 97, 116], .str [114, 111, 117, 110, 100]]) hb (by simp) (by simp)
  have hm := List.mem_of_getElem? hi
  simp only [List.mem_cons, List.not_mem_nil, or_false] at hm
  rcases hm with rfl | rfl
  · exact ⟨true, S1, b1, bag1, e1⟩
  · exact ⟨false, S1, b1, bag1, e1⟩
theorem work_okM {n b : Nat} {S : Sto} {most wide : Nat} (hb : Bag b S) (h0 : 0 < most) (h1 : most ≤ 20) (h2 : 0 < wide) (h3 : wide ≤ 10 ^ 12) :
    ∃ (t : List Nat) (s w : Nat) (fl : Bool) (S' : Sto), WorkOk t s w ∧ 109 ∉ t ∧ t.length ≤ most ∧ w ≤ wide ∧ Bg b S S' ∧ Bag b S' ∧ callF T (n + 4) 56 [.own b, .int most, .int wide] S = .ok (wk t s w fl) S' := by
  obtain ⟨t, S1, t0, t1, t2, b1, bag1, e1⟩ := repeat_okM hT (n := n) (most := (most : Int)) hb (by omega) (by omega)
  have tl := List.length_pos_iff.mpr t0
  obtain ⟨fl, S2, b2, bag2, e2⟩ := kind_of_ok hT (n := n + 1) bag1
  obtain ⟨x, S3, hx, b3, bag3, e3⟩ := take_ok hT (n := n + 2) (c := (wide : Int)) bag2 (by omega) (Dv_of (by omega) (by omega))
  obtain ⟨y, S4, hy, b4, bag4, e4⟩ := take_ok hT (n := n + 2) (c := 3) bag3 (by decide) (Dv_of (by decide) (by decide))
  obtain ⟨z, S5, hz, b5, bag5, e5⟩ := take_ok hT (n := n + 2) (c := 2 * (t.length : Int) + 2) bag4 (by omega) (Dv_of (by omega) (by omega))
  obtain ⟨s, S6, hs, b6, bag6, e6⟩ := take_ok hT (n := n + 2) (c := (t.length : Int)) bag5 (by omega) (Dv_of (by omega) (by omega))
  obtain ⟨i, d, S7, hi, b7, bag7, e7⟩ := of_ok hT (n := n + 1) (S := S6) (b := b) (xs := [.int x, .int ((t.length : Int) + y - 1), .int z]) bag6 (by simp) (by simp)
  obtain ⟨q, rfl, hq⟩ : ∃ q : Int, d = .int q ∧ q < 2 ^ 61 := by
    have hm := List.mem_of_getElem? hi
    simp only [List.mem_cons, List.not_mem_nil, or_false] at hm
    rcases hm with rfl | rfl | rfl
    · exact ⟨_, rfl, by omega⟩
    · exact ⟨_, rfl, by omega⟩
    · exact ⟨_, rfl, by omega⟩
  have wv : min (wide : Int) (1 + max 0 q) = (((min (wide : Int) (1 + max 0 q)).toNat : Nat) : Int) := by omega
  have mul2 : binV .mul (.int 2) (.int (t.length : Int)) = some (.int (2 * (t.length : Int))) := binV_mul (.inl (by decide))
  refine ⟨t, s, (min (wide : Int) (1 + max 0 q)).toNat, fl, S7, ⟨⟨t0, by omega, t2.ltr⟩, by omega, by omega, by omega⟩, t2.no, by omega, by omega, b1.trans (b2.trans (b3.trans (b4.trans (b5.trans (b6.trans b7))))), bag7, ?_⟩
  have nx : S7.nx = S.nx := by rw [b7.nx, b6.nx, b5.nx, b4.nx, b3.nx, b2.nx, b1.nx]
  rw [callF_eq (m := m__law_work) (by rw [hT _ (by decide)]; rfl) rfl]
  simp only [m__law_work, startD]
  unfold wk
  rw [← wv]
  simp [e1, e2, e3, e4, e5, mul2, e6, e7, nx]
theorem huge_okM {n b : Nat} {S : Sto} (hb : Bag b S) :
    ∃ (t : List Nat) (s w : Nat) (fl : Bool) (S' : Sto), WorkOk t s w ∧ 109 ∉ t ∧ t.length ≤ w ∧ w + 10 ^ 8 ≤ 10 ^ 12 ∧ Bg b S S' ∧ Bag b S' ∧ callF T (n + 4) 57 [.own b] S = .ok (wk t s w fl) S' := by
  obtain ⟨t, S1, t0, t1, t2, b1, bag1, e1⟩ := repeat_okM hT (n := n) (most := 20) hb (by decide) (by decide)
  have tl := List.length_pos_iff.mpr t0
  have dv : Dv 1000 := Dv_of (by decide) (by decide)
  obtain ⟨x, S2, hx, b2, bag2, e2⟩ := take_ok hT (n := n + 2) (c := 1000) bag1 (by decide) dv
  obtain ⟨y, S3, hy, b3, bag3, e3⟩ := take_ok hT (n := n + 2) (c := 1000) bag2 (by decide) dv
  obtain ⟨z, S4, hz, b4, bag4, e4⟩ := take_ok hT (n := n + 2) (c := 1000) bag3 (by decide) dv
  obtain ⟨s, S5, hs, b5, bag5, e5⟩ := take_ok hT (n := n + 2) (c := (t.length : Int)) bag4 (by omega) (Dv_of (by omega) (by omega))
  obtain ⟨fl, S6, b6, bag6, e6⟩ := kind_of_ok hT (n := n + 1) bag5
  have wv : (t.length : Int) + ((x : Int) * 1000000000 + (y : Int) * 1000 + (z : Int)) = ((t.length + (x * 1000000000 + y * 1000 + z) : Nat) : Int) := by omega
  have p9 : binV .pow (.int 10) (.int 9) = some (.int 1000000000) := by rfl
  have m1 : binV .mul (.int (x : Int)) (.int 1000000000) = some (.int ((x : Int) * 1000000000)) := binV_mul (.inr (by decide))
  have m2 : binV .mul (.int (y : Int)) (.int 1000) = some (.int ((y : Int) * 1000)) := binV_mul (.inr (by decide))
  have hx' : x < 1000 := hx
  have hy' : y < 1000 := hy
  have hz' : z < 1000 := hz
  refine ⟨t, s, t.length + (x * 1000000000 + y * 1000 + z), fl, S6, ⟨⟨t0, by omega, t2.ltr⟩, by omega, by omega, ?_⟩, t2.no, by omega, by omega, b1.trans (b2.trans (b3.trans (b4.trans (b5.trans b6)))), bag6, ?_⟩
  · have : t.length ≤ 20 := by omega
    omega
  have nx : S6.nx = S.nx := by rw [b6.nx, b5.nx, b4.nx, b3.nx, b2.nx, b1.nx]
  rw [callF_eq (m := m__law_huge) (by rw [hT _ (by decide)]; rfl) rfl]
  simp only [m__law_huge, startD]
  unfold wk
  rw [← wv]
  simp [e1, e2, e3, e4, e5, e6, p9, m1, m2, nx]
theorem work_ok {n b : Nat} {S : Sto} {most wide : Nat} (hb : Bag b S) (h0 : 0 < most) (h1 : most ≤ 20) (h2 : 0 < wide) (h3 : wide ≤ 10 ^ 12) :
    ∃ (t : List Nat) (s w : Nat) (fl : Bool) (S' : Sto), WorkOk t s w ∧ t.length ≤ most ∧ w ≤ wide ∧ Bg b S S' ∧ Bag b S' ∧ callF T (n + 4) 56 [.own b, .int most, .int wide] S = .ok (wk t s w fl) S' := by
  obtain ⟨t, s, w, fl, S', a, _, c⟩ := work_okM hT (n := n) hb h0 h1 h2 h3
  exact ⟨t, s, w, fl, S', a, c⟩
theorem huge_ok {n b : Nat} {S : Sto} (hb : Bag b S) :
    ∃ (t : List Nat) (s w : Nat) (fl : Bool) (S' : Sto), WorkOk t s w ∧ t.length ≤ w ∧ w + 10 ^ 8 ≤ 10 ^ 12 ∧ Bg b S S' ∧ Bag b S' ∧ callF T (n + 4) 57 [.own b] S = .ok (wk t s w fl) S' := by
  obtain ⟨t, s, w, fl, S', a, _, c⟩ := huge_okM hT (n := n) hb
  exact ⟨t, s, w, fl, S', a, c⟩
end
end Mn
end
section
set_option Elab.async false
set_option linter.all false
set_option maxRecDepth 100000
set_option maxHeartbeats 1000000
/-! WorkL: the colors of works by the move. Plain Lean. -/
namespace Mn
/-- where a cell's stitch stands, by the move; whole numbers -/
def place (s by_ : Int) (fl : Bool) (row col : Nat) : Int :=
  if fl = true then (if row % 2 = 1 then s + (((row + 1) / 2 : Nat) : Int) * by_ - 1 - col else s + ((row / 2 : Nat) : Int) * by_ + col) else s + row * by_ + col
theorem emod_of_eq {L a b m : Int} (h : a = b - L * m) : a % L = b % L := by
  rw [h, Int.sub_mul_emod_self_left]
theorem place_num {L s w : Nat} {fl : Bool} {row col : Nat} (hc : col < w) : place s (moveN L w fl) fl row col % L = ((numAt s w fl row col % L : Nat) : Int) := by
  unfold place numAt moveN
  cases fl with
  | false =>
    simp only [Bool.false_eq_true, if_false, false_and]
    have d : ((w % L : Nat) : Int) = w - L * (w / L : Nat) := by have := Nat.mod_add_div w L; omega
    rw [d, Int.natCast_emod]
    refine emod_of_eq (m := row * (w / L : Nat)) ?_
    grind
  | true =>
    simp only [if_true, true_and]
    have d : ((2 * w % L : Nat) : Int) = 2 * w - L * (2 * w / L : Nat) := by have := Nat.mod_add_div (2 * w) L; omega
    rw [d, Int.natCast_emod]
    by_cases h : row % 2 = 1
    · rw [if_pos h, if_pos h]
      obtain ⟨q, rfl⟩ : ∃ q, row = 2 * q + 1 := ⟨row / 2, by omega⟩
      rw [show (2 * q + 1 + 1) / 2 = q + 1 by omega]
      have : ((w - 1 - col : Nat) : Int) = w - 1 - col := by omega
      refine emod_of_eq (m := (q + 1) * (2 * w / L : Nat)) ?_
      rw [Int.natCast_add (s + (2 * q + 1) * w) (w - 1 - col), this]
      grind
    · rw [if_neg h, if_neg h]
      obtain ⟨q, rfl⟩ : ∃ q, row = 2 * q := ⟨row / 2, by omega⟩
      rw [show 2 * q / 2 = q by omega]
      refine emod_of_eq (m := q * (2 * w / L : Nat)) ?_
      grind
/-- the color by the move -/
theorem col_place {t : List Nat} {s w : Nat} {fl : Bool} {row col : Nat} (hc : col < w) : colAt t s w fl row col = cyc t (place s (moveN t.length w fl) fl row col % t.length).toNat := by
  rw [place_num hc, Int.toNat_natCast, (cyc_per t).mod]; rfl
theorem col_move {t : List Nat} {s w w' : Nat} {fl : Bool} {row col : Nat} (hc : col < w) (hc' : col < w') (h : moveN t.length w fl = moveN t.length w' fl) : colAt t s w fl row col = colAt t s w' fl row col := by
  rw [col_place hc, col_place hc', h]
/-- the rows' period -/
def perN (L : Nat) (fl : Bool) : Nat := if fl then 2 * L else L
theorem place_per {L s by_ : Nat} {fl : Bool} {row col : Nat} : place s by_ fl (row + perN L fl) col % L = place s by_ fl row col % L := by
  unfold place perN
  cases fl with
  | false =>
    simp only [Bool.false_eq_true, if_false]
    refine emod_of_eq (m := - by_) ?_
    grind
  | true =>
    simp only [if_true]
    by_cases h : row % 2 = 1
    · rw [if_pos (by omega), if_pos h, show (row + 2 * L + 1) / 2 = (row + 1) / 2 + L by omega]
      refine emod_of_eq (m := - by_) ?_
      grind
    · rw [if_neg (by omega), if_neg h, show (row + 2 * L) / 2 = row / 2 + L by omega]
      refine emod_of_eq (m := - by_) ?_
      grind
theorem col_per {t : List Nat} {s w : Nat} {fl : Bool} {row col : Nat} (hc : col < w) : colAt t s w fl (row + perN t.length fl) col = colAt t s w fl row col := by
  rw [col_place hc, col_place hc, place_per]
end Mn
end
section
set_option Elab.async false
set_option linter.all false
set_option maxRecDepth 100000
set_option maxHeartbeats 1000000
/-! Mean6: the outer loops of a law. -/
namespace Mn
/-- the law's names by now: the script, the bag; N names in all -/
def At0 (scr : D) (N : Nat) (ρ : Env) : Prop := ρ[0]? = some (some scr) ∧ ρ.length = N
def At2 (scr : D) (b N : Nat) (ρ : Env) : Prop := ρ[0]? = some (some scr) ∧ ρ[2]? = some (some (.own b)) ∧ ρ.length = N
theorem law_outer {T : Nat → Option MDef} (hT : ∀ f, f < 100 → T f = coreT f) {n N m : Nat} {ns : List Int} (hn : ns.length ≤ 63) (hm : m ≤ 100) (hN : 3 ≤ N) {rest tail : List MS}
    (hr : ∀ (ρ : Env) (S : Sto) (k : Nat), At2 (.frz (ns.map .int)) S.nx N ρ → ρ[1]? = some (some (.int k)) → ∀ S', Bag S.nx S' → S'.nx = S.nx + 1 → Ok (execs (callF T (n + 1)) rest ρ S') fun fl _ => ∃ ρ', fl = .nx ρ' ∧ At0 (.frz (ns.map .int)) N ρ')
    (ht : ∀ (ρ : Env) (S : Sto), At0 (.frz (ns.map .int)) N ρ → Ok (execs (callF T (n + 1)) tail ρ S) fun fl _ => fl = .rt (.bl true)) (ρ : Env) (S : Sto) (h0 : At0 (.frz (ns.map .int)) N ρ) :
    Ok (execs (callF T (n + 1)) (.forr (.nm 1) (.rng1 (.bin .add (.bcl .min2 [(.bcl .len [(.var 0)]), (.cst (.int m))]) (.cst (.int 2)))) (.asg 2 (.call 52 [(.var 0), (.var 1)]) :: rest) :: tail) ρ S) fun fl _ => fl = .rt (.bl true) := by
  refine ok_cons ?_
  have hrng : rngItems 0 (min (ns.length : Int) (m : Int) + 2) = some ((List.range (min ns.length m + 2)).map fun (i : Nat) => D.int i) := by
    rw [rng_nat (by omega) (by omega), show (min (ns.length : Int) (m : Int) + 2).toNat = min ns.length m + 2 by omega]
  refine ok_for (S1 := S) (ds := (List.range (min ns.length m + 2)).map fun (i : Nat) => D.int i) ?_ ?_
  · simp only [evI_rng1, ev_bin, ev_bcl, evs_cons, evs_nil, ev_var, ev_cst, h0.1, bind_ok, len_frz, List.length_map, ofOpt_some, min_i, binV_add, hrng]
  · refine loop_ok (fun _ ρ _ => At0 (.frz (ns.map .int)) N ρ) _ 0 _ _ h0 ?_ ?_
    · rintro i d ρ S hd ⟨q0, ql⟩
      obtain ⟨k, hk, rfl⟩ := List.mem_map.mp (List.mem_of_getElem? hd)
      have hk := List.mem_range.mp hk
      refine ⟨_, rfl, ?_⟩
      obtain ⟨S', eb, bag, nx, _⟩ := bag_ok hT (n := n) (S := S) (ns := ns) (k := k) (by omega) (by omega)
      have g0 : (ρ.set 1 (some (.int (k : Int))))[0]? = some (some (.frz (ns.map .int))) := by rw [List.getElem?_set_ne (by decide)]; exact q0
      have g1 : (ρ.set 1 (some (.int (k : Int))))[1]? = some (some (.int k)) := by rw [List.getElem?_set_self (by omega)]
      refine ok_cons ?_
      simp only [exec_asg, ev_call, evs_cons, evs_nil, ev_var, g0, g1, bind_ok, eb, bindS_ok, ok_ok, nextS_nx]
      refine (hr _ S k ⟨?_, ?_, ?_⟩ ?_ S' bag nx).mono fun fl S2 ⟨ρ', e, a⟩ => ?_
      · rw [List.getElem?_set_ne (by decide)]; exact g0
      · rw [List.getElem?_set_self (by rw [List.length_set]; omega)]
      · rw [List.length_set, List.length_set]; exact ql
      · rw [List.getElem?_set_ne (by decide)]; exact g1
      · subst e; exact a
    · rintro ρ S a
      exact ht ρ S a
/-- a loop so many times, the bag in hand -/
theorem bag_loop {C : Nat → List D → Sto → R D} {scr : D} {b N i m : Nat} (hi : 2 < i) (hiN : i < N) (hm : m < 2 ^ 60) {body more : List MS} {Q : Fl → Sto → Prop} {S0 : Sto}
    (hb : ∀ (ρ : Env) (S : Sto), At2 scr b N ρ → Bag b S → S.nx = S0.nx → Ok (execs C body ρ S) fun fl S' => Bg b S S' ∧ Bag b S' ∧ ∃ ρ', fl = .nx ρ' ∧ At2 scr b N ρ')
    (hd : ∀ (ρ : Env) (S : Sto), At2 scr b N ρ → Bag b S → S.nx = S0.nx → Ok (execs C more ρ S) Q) (ρ : Env) (h : At2 scr b N ρ) (bag : Bag b S0) : Ok (execs C (.forr (.nm i) (.rng1 (.cst (.int (m : Int)))) body :: more) ρ S0) Q := by
  refine ok_cons ?_
  refine ok_for (S1 := S0) (ds := (List.range m).map fun (i : Nat) => D.int i) ?_ ?_
  · simp only [evI_rng1, ev_cst, bind_ok]
    rw [rng_nat (by omega) (by omega), Int.toNat_natCast]; rfl
  · refine loop_ok (fun _ ρ S => At2 scr b N ρ ∧ Bag b S ∧ S.nx = S0.nx) _ 0 _ _ ⟨h, bag, rfl⟩ ?_ ?_
    · rintro j d ρ S _ ⟨⟨q0, q2, ql⟩, bag, nx⟩
      refine ⟨_, rfl, ?_⟩
      refine (hb _ S ⟨?_, ?_, ?_⟩ bag nx).mono fun fl S2 ⟨bg, bag2, ρ', e, a⟩ => ?_
      · rw [List.getElem?_set_ne (by omega)]; exact q0
      · rw [List.getElem?_set_ne (by omega)]; exact q2
      · rw [List.length_set]; exact ql
      · subst e
        have n2 : S2.nx = S0.nx := by rw [bg.nx, nx]
        exact ⟨a, by rw [back_same n2]; exact bag2, by rw [back_same n2]; exact n2⟩
    · rintro ρ S ⟨a, bag, nx⟩
      exact hd ρ S a bag nx
theorem At2.at0 {scr : D} {b N : Nat} {ρ : Env} (h : At2 scr b N ρ) : At0 scr N ρ := ⟨h.1, h.2.2⟩
end Mn
end
section
set_option Elab.async false
set_option linter.all false
set_option maxRecDepth 100000
set_option maxHeartbeats 1000000
/-! Wid: widths with a move; loops that tell nothing of the store. -/
namespace Mn
theorem loop_any {n : Nat} {set : Env → D → Option Env} {body : Env → Sto → R Fl} {ds : List D} (I : Env → Prop) (h : ∀ d ∈ ds, ∀ ρ S, I ρ → ∃ ρ1, set ρ d = some ρ1 ∧ Ok (body ρ1 S) fun fl _ => ∃ ρ', fl = .nx ρ' ∧ I ρ') (ρ : Env) (S : Sto) (h0 : I ρ) :
    Ok (loopL n set body ds ρ S) fun fl _ => ∃ ρ', fl = .nx ρ' ∧ I ρ' := by
  refine loop_ok (fun _ ρ _ => I ρ) ds 0 ρ S h0 (fun i d ρ S hd hI => ?_) fun ρ S hI => ⟨ρ, rfl, hI⟩
  obtain ⟨ρ1, e, q⟩ := h d (List.mem_of_getElem? hd) ρ S hI
  refine ⟨ρ1, e, q.mono fun fl S' ⟨ρ', e, hI⟩ => ?_⟩
  subst e
  exact hI
theorem lcm_own {C : Nat → List D → Sto → R D} {elt : ME} {vs : List Nat} {t : Tgt} {it : MI} {c : Option ME} {ρ : Env} {S S1 S2 : Sto} {ds xs : List D} (h1 : evI C it ρ S = .ok ds S1) (h2 : ds.length ≤ LIM)
    (h3 : compL (fun d => t.set (wipeD ρ vs) d) (fun ρ' S' => evC C c ρ' S') (fun ρ' S' => ev C elt ρ' S') ds [] S1 = .ok xs S2) : ev C (.lcm true elt vs t it c) ρ S = .ok (.own S2.nx) (S2.new (.lst xs)) := by
  rw [ev_lcm, h1, bind_ok, if_pos h2, h3]; rfl
/-- numbers as data -/
def dN (l : List Nat) : List D := l.map fun (n : Nat) => D.int n
theorem flats_N : ∀ (l : List Nat) (n : Nat), D.flats n (dN l) = true
  | [], n => by unfold dN; simp [D.flats]
  | a :: r, n => by
    show D.flats n (D.int a :: dN r) = true
    rw [D.flats, flats_N r n]
    cases n <;> rfl
theorem eqDs_N : ∀ (l m : List Nat), eqDs (dN l) (dN m) = decide (l = m)
  | [], [] => by rfl
  | [], _ :: _ => by rfl
  | _ :: _, [] => by rfl
  | a :: l, b :: m => by
    show eqDs (D.int a :: dN l) (D.int b :: dN m) = _
    rw [eqDs, eqDs_N l m]
    simp only [eqD]
    by_cases h : a = b
    · subst h; simp
    · have q : ((a : Int) == (b : Int)) = false := beq_eq_false_iff_ne.mpr fun z => h (by omega)
      rw [q, Bool.false_and]
      exact (decide_eq_false fun z => h (List.cons.inj z).1).symm
theorem eqO_N {S : Sto} {x : D} {l m : List Nat} (h : deref S x = some (.lst (dN l))) : eqO S x (.lst (dN m)) = some (decide (l = m)) := by
  unfold eqO
  rw [h, show deref S (.lst (dN m)) = some (.lst (dN m)) from rfl]
  have f : ∀ l, D.flat 8 (.lst (dN l)) = true := fun l => by rw [D.flat]; exact flats_N l _
  simp only [f, Bool.and_self, if_true]
  rw [eqD, eqDs_N]
theorem ne_N {S : Sto} {x : D} {l m : List Nat} (h : deref S x = some (.lst (dN l))) : cmpV S .ne x (.lst (dN m)) = some (!decide (l = m)) := by
  show (eqO S x (.lst (dN m))).map not = _
  rw [eqO_N h]; rfl
theorem deref_own {S : Sto} {i : Nat} {xs : List D} (h : S.get i = some (.lst xs)) : deref S (.own i) = some (.lst xs) := by
  show (match S.get i with | some (.lst xs) => some (D.lst xs) | _ => none) = _
  rw [h]
theorem intsOf_map {α : Type} (g : α → Int) : ∀ l : List α, intsOf (l.map fun x => .int (g x)) = some (l.map g)
  | [] => rfl
  | a :: r => by show (intsOf (r.map fun x => D.int (g x))).map _ = _; rw [intsOf_map g r]; rfl
theorem sum_ints {S : Sto} {α : Type} (g : α → Int) (l : List α) : bfV S .sum [.lst (l.map fun x => .int (g x))] = some (.int (l.map g).sum) := by
  show (intsOf _).map _ = _
  rw [intsOf_map]; rfl
theorem in_N {S : Sto} {k : Nat} {l : List Nat} : cmpV S .isin (.int k) (.tup (dN l)) = some (decide (k ∈ l)) := by
  show inV S (.int k) (.tup (dN l)) = _
  unfold inV
  have a : (dN l).all scalarD = true := by unfold dN; rw [List.all_map, List.all_eq_true]; intro _ _; rfl
  simp only [a, scalarD, Bool.and_self, if_true]
  congr 1
  rw [Bool.eq_iff_iff, List.any_eq_true, decide_eq_true_eq]
  unfold dN
  constructor
  · rintro ⟨y, hy, e⟩
    obtain ⟨m, hm, rfl⟩ := List.mem_map.mp hy
    simp only [eqD, beq_iff_eq] at e
    have : m = k := by omega
    subst this; exact hm
  · intro hk
    exact ⟨_, List.mem_map.mpr ⟨k, hk, rfl⟩, by simp [eqD]⟩
/-- the widths with a move -/
def mwN (L : Nat) (fl : Bool) (m : Nat) : List Nat := (List.range L).filter fun w => decide (moveN L w fl = m)
theorem mw_small : ∀ L, L < 21 → ∀ m, m < L → ∀ fl, (mwN L fl m).length ≤ 2 ∧ (fl = false → mwN L fl m = [m]) := by decide +kernel
theorem moveN_more {L w : Nat} {fl : Bool} : moveN L (w + L) fl = moveN L w fl := by
  unfold moveN
  cases fl with
  | false => simp
  | true => simp [Nat.mul_add]
section
variable {T : Nat → Option MDef} (hT : ∀ f, f < 100 → T f = coreT f)
include hT
theorem require_kind_ok {n : Nat} {S : Sto} {fl : Bool} : callF T (n + 2) 38 [.str (kindL fl)] S = .ok .non S := by
  rw [callF_eq (m := m_require_kind) (by rw [hT _ (by decide)]; rfl) rfl]
  simp [m_require_kind, startD, is_kind_ok hT (n := n), truthy]
theorem moved_ok {n : Nat} {S : Sto} {L m : Nat} {fl : Bool} (h0 : 0 < L) (h1 : L ≤ 20) (h2 : m < L) : ∃ S', callF T (n + 3) 46 [.int L, .str (kindL fl), .int m] S = .ok (.own S.nx) S' ∧ S'.get S.nx = some (.lst (dN (mwN L fl m))) ∧ S'.nx = S.nx + 1 ∧ ∀ i, i < S.nx → S'.get i = S.get i := by
  have q1 := require_number_ok hT (n := n) (S := S) (v := L) (a := 1) (b := 20) (by omega) (by omega)
  have q2 := require_number_ok hT (n := n) (S := S) (v := m) (a := 0) (b := (L : Int) - 1) (by omega) (by omega)
  have q3 := require_kind_ok hT (n := n) (S := S) (fl := fl)
  have Lc : ∀ ρ : Env, ρ[0]? = some (some (.int L)) → ρ[1]? = some (some (.str (kindL fl))) → ρ[2]? = some (some (.int m)) → ρ.length = 4 →
      ev (callF T (n + 2)) (.lcm true (.var 3) [3] (.nm 3) (.rng1 (.var 0)) (some (.cmp .eq (.call 24 [(.var 0), (.var 3), (.var 1)]) (.var 2)))) ρ S = .ok (.own S.nx) (S.new (.lst (dN (mwN L fl m)))) := fun ρ g0 g1 g2 gl => by
    refine lcm_own (S1 := S) (S2 := S) (ds := dN (List.range L)) ?_ (by unfold dN; rw [List.length_map, List.length_range, LIM_val]; omega) ?_
    · simp only [evI_rng1, ev_var, g0, bind_ok]
      rw [rng_nat (by omega) (by omega), Int.toNat_natCast]; rfl
    · unfold dN
      rw [comp_filter (fun d => d) (fun d => match d with | .int i => decide (moveN L i.toNat fl = m) | _ => false) _ _ fun d hd => ?_]
      · simp only [List.nil_append, List.filter_map, List.map_map]
        have e : ((fun d : D => match d with | .int i => decide (moveN L i.toNat fl = m) | _ => false) ∘ fun (i : Nat) => D.int i) = fun i => decide (moveN L i fl = m) := by funext i; simp
        rw [e]; rfl
      · obtain ⟨i, hi, rfl⟩ := List.mem_map.mp hd
        have y0 : ((wipeD ρ [3]).set 3 (some (.int (i : Int))))[0]? = some (some (.int L)) := by simp [wipeD, g0]
        have y1 : ((wipeD ρ [3]).set 3 (some (.int (i : Int))))[1]? = some (some (.str (kindL fl))) := by simp [wipeD, g1]
        have y2 : ((wipeD ρ [3]).set 3 (some (.int (i : Int))))[2]? = some (some (.int m)) := by simp [wipeD, g2]
        have y3 : ((wipeD ρ [3]).set 3 (some (.int (i : Int))))[3]? = some (some (.int i)) := by simp [wipeD, gl]
        have e := move_of_ok hT (n := n + 1) (S := S) (L := L) (w := i) (fl := fl) h0
        refine ⟨_, rfl, ?_, fun _ => by simp only [ev_var, y3]⟩
        simp only [evC_some, evT_cmp, ev_call, evs_cons, evs_nil, ev_var, y0, y1, y2, y3, bind_ok, e, cmp_eqI, ofOpt_some, Int.toNat_natCast]
        congr 1
        exact decide_eq_decide.mpr ⟨fun z => by omega, fun z => by omega⟩
  obtain ⟨S', e, h⟩ := ret_new (S := S) (c := .lst (dN (mwN L fl m)))
  refine ⟨S', ?_, h⟩
  rw [callF_eq (m := m_moved_widths) (by rw [hT _ (by decide)]; rfl) rfl]
  simp only [m_moved_widths, startD]
  simp only [List.map_cons, List.map_nil, List.length_cons, List.length_nil, List.cons_append, List.nil_append, Nat.reduceSub, Nat.reduceAdd, List.replicate, execs_cons, execs_nil, exec_expr, exec_ret, ev_call, ev_bin, evs_cons, evs_nil, ev_var, ev_cst, List.getElem?_cons_succ, List.getElem?_cons_zero, bind_ok, bindS_ok, nextS_nx, ofOpt_some, binV_sub, q1, q2, q3]
  rw [Lc _ rfl rfl rfl rfl]
  simp only [bindS_ok, nextS_rt, nox_ok, bind_ok, fin_rt, e]

/-! ### widths counted -/
end
/-- how often up to x -/
def gW (l : List Nat) (L : Nat) (x : Int) : Int := (l.map fun (one : Nat) => (x - (one : Int)) / (L : Int)).sum
theorem ediv_step {L : Nat} (h : 0 < L) (y : Int) : y / (L : Int) = (y - 1) / (L : Int) + if y % (L : Int) = 0 then 1 else 0 := by
  have hL : (0 : Int) < L := by omega
  have d := Int.mul_ediv_add_emod y (L : Int)
  have m0 := Int.emod_nonneg y (show (L : Int) ≠ 0 by omega)
  have m1 := Int.emod_lt_of_pos y hL
  by_cases c : y % (L : Int) = 0
  · rw [if_pos c]
    have : (y - 1) / (L : Int) = y / (L : Int) - 1 := by
      have e : y - 1 = ((L : Int) - 1) + (L : Int) * (y / (L : Int) - 1) := by rw [Int.mul_sub, Int.mul_one]; omega
      rw [e, Int.add_mul_ediv_left _ _ (by omega), Int.ediv_eq_zero_of_lt (by omega) (by omega)]
      omega
    omega
  · rw [if_neg c]
    have : (y - 1) / (L : Int) = y / (L : Int) := by
      have e : y - 1 = (y % (L : Int) - 1) + (L : Int) * (y / (L : Int)) := by omega
      conv => lhs; rw [e]
      rw [Int.add_mul_ediv_left _ _ (by omega), Int.ediv_eq_zero_of_lt (by omega) (by omega)]
      omega
    omega
theorem hit_iff {L one k : Nat} (h : 0 < L) (ho : one < L) : ((k : Int) - (one : Int)) % (L : Int) = 0 ↔ k % L = one := by
  constructor
  · intro z
    have d := Int.dvd_of_emod_eq_zero z
    obtain ⟨c, hc⟩ := d
    have a : (k : Int) % (L : Int) = (one : Int) := by
      have e : (k : Int) = (one : Int) + (L : Int) * c := by omega
      rw [e, Int.add_mul_emod_self_left, Int.emod_eq_of_lt (by omega) (by omega)]
    have b : ((k % L : Nat) : Int) = (one : Int) := by rw [Int.natCast_emod]; exact a
    omega
  · intro z
    have d := Nat.div_add_mod k L
    have : (k : Int) - (one : Int) = (L : Int) * ((k / L : Nat) : Int) := by
      have : ((L * (k / L) + k % L : Nat) : Int) = (k : Int) := by rw [d]
      rw [Int.natCast_add, Int.natCast_mul] at this
      omega
    rw [this, Int.mul_emod_right]
theorem gW_step {l : List Nat} {L : Nat} (h : 0 < L) (hl : ∀ x ∈ l, x < L) (nd : l.Nodup) (k : Nat) : gW l L k = gW l L ((k : Int) - 1) + if k % L ∈ l then 1 else 0 := by
  unfold gW
  induction l with
  | nil => simp
  | cons a r ih =>
    have nd' := List.nodup_cons.mp nd
    have ih := ih (fun x hx => hl x (List.mem_cons_of_mem _ hx)) nd'.2
    simp only [List.map_cons, List.sum_cons]
    rw [ih, ediv_step h ((k : Int) - (a : Int))]
    have e : (k : Int) - (a : Int) - 1 = (k : Int) - 1 - (a : Int) := by omega
    rw [e]
    have hi := hit_iff (k := k) h (hl a List.mem_cons_self)
    by_cases c : k % L = a
    · have m1 : k % L ∈ a :: r := by rw [c]; exact List.mem_cons_self
      have m2 : ¬ k % L ∈ r := by rw [c]; exact nd'.1
      rw [if_pos (hi.mpr c), if_pos m1, if_neg m2]
      omega
    · rw [if_neg (fun z => c (hi.mp z))]
      have : (k % L ∈ a :: r) ↔ (k % L ∈ r) := by rw [List.mem_cons]; exact ⟨fun z => z.resolve_left c, .inr⟩
      simp only [this]
      omega
theorem gW_cnt {l : List Nat} {L : Nat} (h : 0 < L) (hl : ∀ x ∈ l, x < L) (nd : l.Nodup) (low : Nat) : ∀ n : Nat, gW l L ((low : Int) + (n : Int) - 1) = gW l L ((low : Int) - 1) + (cnt (fun i => decide ((low + i) % L ∈ l)) n : Nat)
  | 0 => by simp [cnt]
  | n + 1 => by
    have s := gW_step h hl nd (low + n)
    have e1 : ((low : Int) + ((n + 1 : Nat) : Int) - 1) = ((low + n : Nat) : Int) := by omega
    have e2 : (((low + n : Nat) : Int) - 1) = ((low : Int) + (n : Int) - 1) := by omega
    rw [e1, s, e2, gW_cnt h hl nd low n, cnt_add, cnt_one]
    simp only [Nat.add_zero, decide_eq_true_eq]
    split <;> omega
theorem sum_sub {α : Type} (f g : α → Int) : ∀ l : List α, (l.map fun x => f x - g x).sum = (l.map f).sum - (l.map g).sum
  | [] => rfl
  | a :: r => by simp only [List.map_cons, List.sum_cons, sum_sub f g r]; omega
theorem zip_lt {l : List Nat} (h : l.Pairwise (· < ·)) : ∀ p ∈ l.zip (l.drop 1), p.1 < p.2 := fun p hp => by
  obtain ⟨i, hi, e⟩ := List.mem_iff_getElem.mp hp
  rw [List.length_zip, List.length_drop] at hi
  rw [List.getElem_zip] at e
  subst e
  have g : ∀ h : i < (l.drop 1).length, (l.drop 1)[i] = l[1 + i]'(by omega) := fun h => List.getElem_drop
  dsimp only
  rw [g]
  exact List.pairwise_iff_getElem.mp h i (1 + i) (by omega) (by omega) (by omega)
section
variable {T : Nat → Option MDef} (hT : ∀ f, f < 100 → T f = coreT f)
include hT
theorem count_widths_ok {n : Nat} {S : Sto} {L low high : Nat} {l : List Nat} (h0 : 0 < L) (h1 : L ≤ 20) (hl : ∀ x ∈ l, x < L) (hp : l.Pairwise (· < ·)) (hn : l.length ≤ 20) (w0 : 1 ≤ low) (w1 : low ≤ high) (w2 : high ≤ 10 ^ 12) :
    callF T (n + 3) 47 [.int L, .tup (dN l), .int low, .int high] S = .ok (.int (gW l L high - gW l L ((low : Int) - 1))) S := by
  have q1 := require_number_ok hT (n := n) (S := S) (v := L) (a := 1) (b := 20) (by omega) (by omega)
  have q2 := require_number_ok hT (n := n) (S := S) (v := low) (a := 1) (b := 1000000000000) (by omega) (by omega)
  have q3 := require_number_ok hT (n := n) (S := S) (v := high) (a := low) (b := 1000000000000) (by omega) (by omega)
  have dl : (dN l).length ≤ LIM := by unfold dN; rw [List.length_map, LIM_val]; omega
  have A : ∀ ρ : Env, ρ[0]? = some (some (.int L)) → ρ[1]? = some (some (.tup (dN l))) → ρ.length = 6 →
      ev (callF T (n + 2)) (.lcm false (.call 0 [(.var 4), (.cst (.int (0))), (.bin .sub (.var 0) (.cst (.int (1))))]) [4] (.nm 4) (.seq (.var 1)) none) ρ S = .ok (.lst (l.map fun _ => .bl true)) S := fun ρ g0 g1 gl => by
    refine lcm_of (S1 := S) (ds := dN l) (by simp only [evI_seq, ev_var, g1, bind_ok]; rfl) dl ?_
    rw [comp_map (fun _ => .bl true) _ _ fun d hd => ?_]
    · unfold dN; simp only [List.nil_append, List.map_map]; rfl
    · obtain ⟨i, hi, rfl⟩ := List.mem_map.mp hd
      have y0 : ((wipeD ρ [4]).set 4 (some (.int (i : Int))))[0]? = some (some (.int L)) := by simp [wipeD, g0]
      have y4 : ((wipeD ρ [4]).set 4 (some (.int (i : Int))))[4]? = some (some (.int i)) := by simp [wipeD, gl]
      have e := is_integer_ok hT (n := n + 1) (S := S) (v := i) (a := 0) (b := (L : Int) - 1)
      have := hl i hi
      rw [decide_eq_true (by omega)] at e
      refine ⟨_, rfl, by simp, ?_⟩
      simp only [ev_call, ev_bin, ev_cst, evs_cons, evs_nil, ev_var, y0, y4, bind_ok, binV_sub, ofOpt_some, e]
  have B : ∀ ρ : Env, ρ[1]? = some (some (.tup (dN l))) → ρ.length = 6 →
      ev (callF T (n + 2)) (.lcm false (.cmp .lt (.var 4) (.var 5)) [4, 5] (.tp [4, 5]) (.zip (.var 1) (.slc (.var 1) (some (.cst (.int (1)))) none)) none) ρ S = .ok (.lst (((l.zip (l.drop 1)).map fun p : Nat × Nat => D.tup [.int p.1, .int p.2]).map fun _ => .bl true)) S := fun ρ g1 gl => by
    have sl : slcV (.tup (dN l)) (some 1) none = some (.tup (dN (l.drop 1))) := by
      show some (D.tup (cutD (dN l) (some 1) none)) = _
      rw [cut_from (by decide)]
      unfold dN
      rw [← List.map_drop]; rfl
    have zz : ((dN l).zip (dN (l.drop 1))).map (fun p => D.tup [p.1, p.2]) = (l.zip (l.drop 1)).map fun p : Nat × Nat => D.tup [.int p.1, .int p.2] := by
      unfold dN
      rw [List.zip_map, List.map_map]; rfl
    refine lcm_of (S1 := S) (ds := (l.zip (l.drop 1)).map fun p : Nat × Nat => D.tup [.int p.1, .int p.2]) ?_ (by rw [List.length_map, List.length_zip, LIM_val]; omega) ?_
    · simp only [evI, ev_var, ev_slc, evO_none, evO_some, ev_cst, g1, bind_ok, sl, ofOpt_some, zz]
    · rw [comp_map (fun _ => .bl true) _ _ fun d hd => ?_]
      · simp only [List.nil_append]
      · obtain ⟨p, hpm, rfl⟩ := List.mem_map.mp hd
        have lt := zip_lt hp p hpm
        refine ⟨_, rfl, by simp, ?_⟩
        have y4 : (((wipeD ρ [4, 5]).set 4 (some (.int (p.1 : Int)))).set 5 (some (.int (p.2 : Int))))[4]? = some (some (.int p.1)) := by simp [wipeD, gl]
        have y5 : (((wipeD ρ [4, 5]).set 4 (some (.int (p.1 : Int)))).set 5 (some (.int (p.2 : Int))))[5]? = some (some (.int p.2)) := by simp [wipeD, gl]
        show ev _ _ (((wipeD ρ [4, 5]).set 4 (some (.int (p.1 : Int)))).set 5 (some (.int (p.2 : Int)))) S = _
        simp only [ev_cmp, ev_var, y4, y5, bind_ok, cmp_lt, ofOpt_some, Option.map_some]
        rw [decide_eq_true (by omega)]
  have Cc : ∀ ρ : Env, ρ[0]? = some (some (.int L)) → ρ[1]? = some (some (.tup (dN l))) → ρ[2]? = some (some (.int low)) → ρ[3]? = some (some (.int high)) → ρ.length = 6 →
      ev (callF T (n + 2)) (.lcm false (.bin .sub (.bin .fdiv (.bin .sub (.var 3) (.var 4)) (.var 0)) (.bin .fdiv (.bin .sub (.bin .sub (.var 2) (.cst (.int (1)))) (.var 4)) (.var 0))) [4] (.nm 4) (.seq (.var 1)) none) ρ S =
        .ok (.lst (l.map fun (i : Nat) => D.int (((high : Int) - (i : Int)) / (L : Int) - ((low : Int) - 1 - (i : Int)) / (L : Int)))) S := fun ρ g0 g1 g2 g3 gl => by
    refine lcm_of (S1 := S) (ds := dN l) (by simp only [evI_seq, ev_var, g1, bind_ok]; rfl) dl ?_
    rw [comp_map (fun d => match d with | .int i => D.int (((high : Int) - i) / (L : Int) - ((low : Int) - 1 - i) / (L : Int)) | _ => .non) _ _ fun d hd => ?_]
    · unfold dN; simp only [List.nil_append, List.map_map]; rfl
    · obtain ⟨i, hi, rfl⟩ := List.mem_map.mp hd
      have y0 : ((wipeD ρ [4]).set 4 (some (.int (i : Int))))[0]? = some (some (.int L)) := by simp [wipeD, g0]
      have y2 : ((wipeD ρ [4]).set 4 (some (.int (i : Int))))[2]? = some (some (.int low)) := by simp [wipeD, g2]
      have y3 : ((wipeD ρ [4]).set 4 (some (.int (i : Int))))[3]? = some (some (.int high)) := by simp [wipeD, g3]
      have y4 : ((wipeD ρ [4]).set 4 (some (.int (i : Int))))[4]? = some (some (.int i)) := by simp [wipeD, gl]
      have dv : ∀ x : Int, binV .fdiv (.int x) (.int (L : Int)) = some (.int (x / (L : Int))) := fun x => binV_fdiv (by omega) (Dv_of (by omega) (by omega))
      refine ⟨_, rfl, by simp, ?_⟩
      simp only [ev_bin, ev_cst, ev_var, y0, y2, y3, y4, bind_ok, binV_sub, dv, ofOpt_some]
  have al : ∀ (α : Type) (l : List α), bfV S .all [.lst (l.map fun _ => D.bl true)] = some (.bl true) := fun α l => all_true (by intro d hd; obtain ⟨_, _, rfl⟩ := List.mem_map.mp hd; rfl)
  have sm := sum_ints (S := S) (fun i : Nat => ((high : Int) - (i : Int)) / (L : Int) - ((low : Int) - 1 - (i : Int)) / (L : Int)) l
  rw [sum_sub] at sm
  have it : isiV (.tup (dN l)) .tuple = some true := rfl
  rw [callF_eq (m := m_count_widths) (by rw [hT _ (by decide)]; rfl) rfl]
  simp only [m_count_widths, startD]
  simp only [List.map_cons, List.map_nil, List.length_cons, List.length_nil, List.cons_append, List.nil_append, Nat.reduceSub, Nat.reduceAdd, List.replicate, execs_cons, execs_nil, exec_expr, exec_ite, exec_ret, evT_or, evT_not, evT_isi, evT_bcl, ev_bcl, ev_call, evs_cons, evs_nil, ev_var, ev_cst, List.getElem?_cons_succ, List.getElem?_cons_zero, bind_ok, bindS_ok, nextS_nx, ofOpt_some, it, q1, q2, q3,
    A [some (.int L), some (.tup (dN l)), some (.int low), some (.int high), none, none] rfl rfl rfl, B [some (.int L), some (.tup (dN l)), some (.int low), some (.int high), none, none] rfl rfl, Cc [some (.int L), some (.tup (dN l)), some (.int low), some (.int high), none, none] rfl rfl rfl rfl rfl, al, sm, Bool.not_true, Bool.false_eq_true, if_false, truthy, nextS_rt, nox_ok, fin_rt, retD_same]
  rfl
end
/-- a comprehension whose test changes the store -/
theorem comp_sel {set : D → Option Env} {tst : Env → Sto → R Bool} {elt : Env → Sto → R D} (f : D → D) (J : Sto → Prop) : ∀ (ds acc : List D) (S : Sto), J S → (∀ d ∈ ds, ∀ S, J S → ∃ ρ c S', set d = some ρ ∧ tst ρ S = .ok c S' ∧ J S' ∧ (c = true → elt ρ S' = .ok (f d) S')) →
    ∃ sub S', List.Sublist sub ds ∧ compL set tst elt ds acc S = .ok (acc ++ sub.map f) S' ∧ J S'
  | [], acc, S, h, _ => ⟨[], S, List.Sublist.refl _, by simp [compL], h⟩
  | d :: r, acc, S, h, k => by
    obtain ⟨ρ, c, S1, e1, e2, h1, e3⟩ := k d List.mem_cons_self S h
    cases c with
    | true =>
      obtain ⟨sub, S', q1, q2, q3⟩ := comp_sel f J r (acc ++ [f d]) S1 h1 fun d' hd' => k d' (List.mem_cons_of_mem _ hd')
      refine ⟨d :: sub, S', q1.cons₂ d, ?_, q3⟩
      unfold compL
      rw [e1]
      simp only [e2, e3 rfl, nox_ok, bind_ok, if_true, q2, List.map_cons, List.append_assoc, List.singleton_append]
    | false =>
      obtain ⟨sub, S', q1, q2, q3⟩ := comp_sel f J r acc S1 h1 fun d' hd' => k d' (List.mem_cons_of_mem _ hd')
      refine ⟨sub, S', q1.cons d, ?_, q3⟩
      unfold compL
      rw [e1]
      simp only [e2, nox_ok, bind_ok, Bool.false_eq_true, if_false, q2]
end Mn
end
section
set_option Elab.async false
set_option linter.all false
set_option maxRecDepth 100000
set_option maxHeartbeats 1000000
/-! RowP: the periods of rows. -/
namespace Mn
/-- p is the least period of f -/
structure LPer {α : Type} (f : Nat → α) (p : Nat) : Prop where
  pos : 0 < p
  per : Per f p
  least : ∀ q, 0 < q → Per f q → p ≤ q
theorem LPer.dvd {α : Type} {f : Nat → α} {p q : Nat} (h : LPer f p) (h0 : 0 < q) (hq : Per f q) : p ∣ q := by
  have g0 : 0 < Nat.gcd p q := Nat.gcd_pos_of_pos_left _ h.pos
  have l := h.least _ g0 (Per.gcd h.per hq)
  have d := Nat.gcd_dvd_left p q
  have e : Nat.gcd p q = p := Nat.le_antisymm (Nat.le_of_dvd h.pos d) l
  rw [← e]; exact Nat.gcd_dvd_right p q
theorem LPer.uniq {α : Type} {f : Nat → α} {p q : Nat} (h : LPer f p) (k : LPer f q) : p = q := Nat.le_antisymm (h.least _ k.pos k.per) (k.least _ h.pos h.per)
theorem LPer.congr {α β : Type} {f : Nat → α} {g : Nat → β} {p : Nat} (h : LPer f p) (e : ∀ q, Per f q ↔ Per g q) : LPer g p := ⟨h.pos, (e p).mp h.per, fun q q0 hq => h.least q q0 ((e q).mpr hq)⟩
theorem per_check {α : Type} {f : Nat → α} {M p : Nat} (h0 : 0 < M) (hM : Per f M) : Per f p ↔ ∀ r, r < M → f r = f (r + p) := by
  constructor
  · intro h r _; exact (h r).symm
  · intro h i
    have e := h (i % M) (Nat.mod_lt _ h0)
    rw [hM.mod] at e
    rw [e]
    refine hM.eqM (a := 0) (b := i / M) ?_
    have := Nat.mod_add_div i M
    rw [Nat.mul_comm (i / M) M]; omega
/-- the first that fits among 1 .. m - 1; else M -/
theorem lper_trial {α : Type} {f : Nat → α} {M m : Nat} {p : D → Bool} (h0 : 0 < M) (hM : Per f M) (hm : m = M - 1 ∨ m = M) (hp : ∀ i : Nat, i < m → (p (.int (1 + (i : Int))) = true ↔ ∀ r, r < M → f r = f (r + (1 + i)))) :
    ∃ q : Nat, LPer f q ∧ q ≤ M ∧ (match ((List.range m).map fun (i : Nat) => D.int (1 + (i : Int))).find? p with | some d => d | none => .int M) = .int q := by
  cases hf : ((List.range m).map fun (i : Nat) => D.int (1 + (i : Int))).find? p with
  | some d =>
    obtain ⟨i, hi, rfl, h1, h2⟩ := find_some hf
    refine ⟨1 + i, ⟨by omega, (per_check h0 hM).mpr ((hp i hi).mp h1), fun q q0 hq => ?_⟩, by omega, rfl⟩
    by_cases hlt : 1 + i ≤ q
    · exact hlt
    · have := h2 (q - 1) (by omega)
      rw [(hp (q - 1) (by omega)).mpr fun r hr => by rw [show 1 + (q - 1) = q by omega]; exact (hq r).symm] at this
      cases this
  | none =>
    have h2 := find_none hf
    refine ⟨M, ⟨h0, hM, fun q q0 hq => ?_⟩, Nat.le_refl _, rfl⟩
    by_cases hlt : M ≤ q
    · exact hlt
    · have := h2 (q - 1) (by omega)
      rw [(hp (q - 1) (by omega)).mpr fun r hr => by rw [show 1 + (q - 1) = q by omega]; exact (hq r).symm] at this
      cases this
def lperB (f : Nat → List Nat) (M p : Nat) : Bool := decide (0 < p) && ((List.range M).all fun r => decide (f r = f (r + p))) && (List.range p).all fun q => decide (q = 0) || !((List.range M).all fun r => decide (f r = f (r + q)))
theorem lperB_ok {f : Nat → List Nat} {M p : Nat} (h0 : 0 < M) (hM : Per f M) (h : lperB f M p = true) : LPer f p := by
  unfold lperB at h
  simp only [Bool.and_eq_true, decide_eq_true_eq, List.all_eq_true, List.mem_range, Bool.or_eq_true, Bool.not_eq_true'] at h
  obtain ⟨⟨h1, h2⟩, h3⟩ := h
  refine ⟨h1, (per_check h0 hM).mpr h2, fun q q0 hq => ?_⟩
  by_cases hlt : p ≤ q
  · exact hlt
  · have z := (h3 q (by omega)).resolve_left (by omega)
    have y : ((List.range M).all fun r => decide (f r = f (r + q))) = true := by
      rw [List.all_eq_true]
      intro r hr
      exact decide_eq_true ((per_check h0 hM).mp hq r (List.mem_range.mp hr))
    rw [y] at z; cases z
/-- a row's first columns -/
def rowT (t : List Nat) (s w : Nat) (fl : Bool) (cols r : Nat) : List Nat := (List.range cols).map (colAt t s w fl r)
theorem rowT_eq {t : List Nat} {s w cols r r' : Nat} {fl : Bool} : rowT t s w fl cols r = rowT t s w fl cols r' ↔ ∀ j, j < cols → colAt t s w fl r j = colAt t s w fl r' j := by
  unfold rowT
  rw [List.map_inj_left]
  exact ⟨fun h j hj => h j (List.mem_range.mpr hj), fun h j hj => h j (List.mem_range.mp hj)⟩
theorem place_mod {L : Nat} {s b : Int} {fl : Bool} {row col : Nat} : place s b fl row (col % L) % L = place s b fl row col % L := by
  have d : ((col % L : Nat) : Int) = col - L * (col / L : Nat) := by have := Nat.mod_add_div col L; omega
  unfold place
  rw [d]
  cases fl with
  | false =>
    simp only [Bool.false_eq_true, if_false]
    refine emod_of_eq (m := (col / L : Nat)) ?_
    omega
  | true =>
    simp only [if_true]
    by_cases h : row % 2 = 1
    · rw [if_pos h, if_pos h]
      refine emod_of_eq (m := -((col / L : Nat) : Int)) ?_
      grind
    · rw [if_neg h, if_neg h]
      refine emod_of_eq (m := (col / L : Nat)) ?_
      omega
theorem col_mod {t : List Nat} {s w row col : Nat} {fl : Bool} (hc : col < w) : colAt t s w fl row (col % t.length) = colAt t s w fl row col := by
  rw [col_place hc, col_place (Nat.lt_of_le_of_lt (Nat.mod_le _ _) hc), place_mod]
theorem rowT_min {t : List Nat} {s w cols r r' : Nat} {fl : Bool} (ht : t ≠ []) (hc : cols ≤ w) : rowT t s w fl (min cols t.length) r = rowT t s w fl (min cols t.length) r' ↔ rowT t s w fl cols r = rowT t s w fl cols r' := by
  have hl := List.length_pos_iff.mpr ht
  rw [rowT_eq, rowT_eq]
  constructor
  · intro h j hj
    have e := h (j % t.length) (by have := Nat.mod_lt j hl; have := Nat.mod_le j t.length; omega)
    rw [col_mod (by omega), col_mod (by omega)] at e
    exact e
  · intro h j hj
    exact h j (by omega)
theorem per_min {t : List Nat} {s w cols : Nat} {fl : Bool} (ht : t ≠ []) (hc : cols ≤ w) (q : Nat) : Per (rowT t s w fl (min cols t.length)) q ↔ Per (rowT t s w fl cols) q :=
  ⟨fun h i => (rowT_min ht hc).mp (h i), fun h i => (rowT_min ht hc).mpr (h i)⟩
theorem per_row {t : List Nat} {s w cols : Nat} {fl : Bool} (hc : cols ≤ w) : Per (rowT t s w fl cols) (perN t.length fl) := fun r => by
  rw [rowT_eq]
  intro j hj
  exact col_per (by omega)
theorem per_row2 {t : List Nat} {s w cols : Nat} {fl : Bool} (hc : cols ≤ w) : Per (rowT t s w fl cols) (2 * t.length) := (per_row hc).dvd (by unfold perN; split; exact Nat.dvd_refl _; exact Nat.dvd_mul_left _ _)
theorem bls_map : ∀ (l : List Bool), blsOf (l.map .bl) = some l
  | [] => rfl
  | b :: r => by show (blsOf (r.map .bl)).map _ = _; rw [bls_map r]; rfl
theorem all_bls {S : Sto} {l : List Bool} : bfV S .all [.lst (l.map .bl)] = some (.bl (l.all id)) := by
  show (blsOf (l.map .bl)).map _ = _
  rw [bls_map]; rfl
section
variable {T : Nat → Option MDef} (hT : ∀ f, f < 100 → T f = coreT f)
include hT
theorem row_period_ok {n : Nat} {S : Sto} {t : List Nat} {s w cols : Nat} {fl : Bool} (h : WorkOk t s w) (h0 : 1 ≤ cols) (hc : cols ≤ w) : ∃ p : Nat, LPer (rowT t s w fl cols) p ∧ p ≤ 2 * t.length ∧ callF T (n + 4) 36 [wk t s w fl, .int cols] S = .ok (.int p) S := by
  have tl := h.rp.pos
  have tl2 := h.rp.2.1
  have mn : min (cols : Int) (t.length : Int) = ((min cols t.length : Nat) : Int) := by omega
  have hmc : min cols t.length ≤ w := by omega
  have texts : ev (callF T (n + 3)) (.lcm false (.call 22 [(.var 0), (.var 4), (.bcl .min2 [(.var 1), (.var 2)])]) [4] (.nm 4) (.rng1 (.bin .mul (.cst (.int (4))) (.var 2))) none) [some (wk t s w fl), some (.int cols), some (.int t.length), none, none, none] S =
      .ok (.lst ((List.range (4 * t.length)).map fun r => .str (rowT t s w fl (min cols t.length) r))) S := by
    have m4 : binV .mul (.int 4) (.int (t.length : Int)) = some (.int ((4 * t.length : Nat) : Int)) := by rw [binV_mul (.inl (by decide))]; rfl
    refine lcm_of (S1 := S) (ds := (List.range (4 * t.length)).map fun (i : Nat) => D.int i) ?_ (by rw [List.length_map, List.length_range, LIM_val]; omega) ?_
    · simp only [evI_rng1, ev_bin, ev_cst, ev_var, List.getElem?_cons_succ, List.getElem?_cons_zero, bind_ok, m4, ofOpt_some]
      rw [rng_nat (by omega) (by omega), Int.toNat_natCast]; rfl
    · rw [comp_map (fun d => match d with | .int i => .str (rowT t s w fl (min cols t.length) i.toNat) | d => d) _ _ fun d hd => ?_]
      · simp only [List.nil_append, List.map_map]; congr 2
      · obtain ⟨j, hj, rfl⟩ := List.mem_map.mp hd
        have hj := List.mem_range.mp hj
        refine ⟨_, rfl, by simp, ?_⟩
        have e := text_of_ok hT (n := n) (S := S) (s := s) (fl := fl) (row := j) h.rp.1 (by omega) hmc (by rw [LIM_val]; omega)
        simp only [wipeD, List.set_cons_succ, List.set_cons_zero, ev_call, ev_bcl, evs_cons, evs_nil, ev_var, List.getElem?_cons_succ, List.getElem?_cons_zero, bind_ok, min_i, mn, ofOpt_some, e]
        rfl
  have ix : ∀ r, r < 4 * t.length → idxV S (.lst ((List.range (4 * t.length)).map fun r => .str (rowT t s w fl (min cols t.length) r))) (.int (r : Nat)) = some (.str (rowT t s w fl (min cols t.length) r)) := fun r hr => idx_lst (by
    rw [List.getElem?_map, List.getElem?_range hr]; rfl)
  have body : ∀ d ∈ (List.range (2 * t.length - 1)).map fun (i : Nat) => D.int (1 + (i : Int)),
      execs (callF T (n + 3)) [.ite (.bcl .all [(.lcm false (.cmp .eq (.idx (.var 3) (.var 4)) (.idx (.var 3) (.bin .add (.var 4) (.var 5)))) [4] (.nm 4) (.rng1 (.bin .mul (.cst (.int (2))) (.var 2))) none)]) [.ret (some (.var 5))] []] ([some (wk t s w fl), some (.int cols), some (.int t.length), some (.lst ((List.range (4 * t.length)).map fun r => .str (rowT t s w fl (min cols t.length) r))), none, none].set 5 (some d)) S =
      if (fun d : D => match d with | .int i => ((List.range (2 * t.length)).map fun r => decide (rowT t s w fl (min cols t.length) r = rowT t s w fl (min cols t.length) (r + i.toNat))).all id | _ => false) d = true then .ok (.rt ((fun d : D => d) d)) S else .ok (.nx ([some (wk t s w fl), some (.int cols), some (.int t.length), some (.lst ((List.range (4 * t.length)).map fun r => .str (rowT t s w fl (min cols t.length) r))), none, none].set 5 (some d))) S := by
    intro d hd
    obtain ⟨i, hi, rfl⟩ := List.mem_map.mp hd
    have hi := List.mem_range.mp hi
    have tn : (1 + (i : Int)).toNat = 1 + i := by omega
    have m2 : binV .mul (.int 2) (.int (t.length : Int)) = some (.int ((2 * t.length : Nat) : Int)) := by rw [binV_mul (.inl (by decide))]; rfl
    have L : ev (callF T (n + 3)) (.lcm false (.cmp .eq (.idx (.var 3) (.var 4)) (.idx (.var 3) (.bin .add (.var 4) (.var 5)))) [4] (.nm 4) (.rng1 (.bin .mul (.cst (.int (2))) (.var 2))) none) [some (wk t s w fl), some (.int cols), some (.int t.length), some (.lst ((List.range (4 * t.length)).map fun r => .str (rowT t s w fl (min cols t.length) r))), none, some (.int (1 + (i : Int)))] S =
        .ok (.lst (((List.range (2 * t.length)).map fun r => decide (rowT t s w fl (min cols t.length) r = rowT t s w fl (min cols t.length) (r + (1 + i)))).map .bl)) S := by
      refine lcm_of (S1 := S) (ds := (List.range (2 * t.length)).map fun (i : Nat) => D.int i) ?_ (by rw [List.length_map, List.length_range, LIM_val]; omega) ?_
      · simp only [evI_rng1, ev_bin, ev_cst, ev_var, List.getElem?_cons_succ, List.getElem?_cons_zero, bind_ok, m2, ofOpt_some]
        rw [rng_nat (by omega) (by omega), Int.toNat_natCast]; rfl
      · rw [comp_map (fun d => match d with | .int j => .bl (decide (rowT t s w fl (min cols t.length) j.toNat = rowT t s w fl (min cols t.length) (j.toNat + (1 + i)))) | d => d) _ _ fun d hd => ?_]
        · simp only [List.nil_append, List.map_map]; congr 2
        · obtain ⟨j, hj, rfl⟩ := List.mem_map.mp hd
          have hj := List.mem_range.mp hj
          refine ⟨_, rfl, by simp, ?_⟩
          have x1 := ix j (by omega)
          have x2 := ix (j + (1 + i)) (by omega)
          have ci : (j : Int) + (1 + (i : Int)) = ((j + (1 + i) : Nat) : Int) := by omega
          simp only [wipeD, List.set_cons_succ, List.set_cons_zero, ev_cmp, ev_idx, ev_bin, ev_var, List.getElem?_cons_succ, List.getElem?_cons_zero, bind_ok, x1, binV_add, ofOpt_some, ci, x2, cmp_eqX]
          rfl
    simp only [List.set_cons_succ, List.set_cons_zero, tn, execs_cons, execs_nil, exec_ite, evT_bcl, evs_cons, evs_nil, L, bind_ok, all_bls, ofOpt_some, truthy, bindS_ok]
    split
    · simp only [exec_ret, ev_var, List.getElem?_cons_succ, List.getElem?_cons_zero, bindS_ok, nextS_rt, bind_ok]
    · simp only [nextS_nx, bind_ok]
      simp
  obtain ⟨ρ', _, hρ, hloop⟩ := loop_find (n := S.nx) (x := 5) (S := S) rfl _ _ [some (wk t s w fl), some (.int cols), some (.int t.length), some (.lst ((List.range (4 * t.length)).map fun r => .str (rowT t s w fl (min cols t.length) r))), none, none] _ [some (wk t s w fl), some (.int cols), some (.int t.length), some (.lst ((List.range (4 * t.length)).map fun r => .str (rowT t s w fl (min cols t.length) r))), none, none] (fun _ => rfl) body
  obtain ⟨q, hq, ql, eq⟩ := lper_trial (f := rowT t s w fl (min cols t.length)) (M := 2 * t.length) (m := 2 * t.length - 1) (p := fun d : D => match d with | .int i => ((List.range (2 * t.length)).map fun r => decide (rowT t s w fl (min cols t.length) r = rowT t s w fl (min cols t.length) (r + i.toNat))).all id | _ => false) (by omega) (per_row2 hmc) (.inl rfl) fun i hi => by
    have tn : (1 + (i : Int)).toNat = 1 + i := by omega
    simp only [tn, List.all_map, List.all_eq_true, List.mem_range, Function.comp, id, decide_eq_true_eq]
  refine ⟨q, hq.congr (per_min h.rp.1 hc), ql, ?_⟩
  have m2 : binV .mul (.int 2) (.int (t.length : Int)) = some (.int ((2 * t.length : Nat) : Int)) := by rw [binV_mul (.inl (by decide))]; rfl
  have hI : evI (callF T (n + 3)) (.rng2 (.cst (.int 1)) (.bin .mul (.cst (.int (2))) (.var 2))) [some (wk t s w fl), some (.int cols), some (.int t.length), some (.lst ((List.range (4 * t.length)).map fun r => .str (rowT t s w fl (min cols t.length) r))), none, none] S = .ok ((List.range (2 * t.length - 1)).map fun (i : Nat) => D.int (1 + (i : Int))) S := by
    simp only [evI_rng2, ev_cst, ev_bin, ev_var, List.getElem?_cons_succ, List.getElem?_cons_zero, bind_ok, m2, ofOpt_some]
    rw [rng_two (by omega) (by omega) (by decide) (by decide), show (((2 * t.length : Nat) : Int) - 1).toNat = 2 * t.length - 1 by omega]; rfl
  have hfor := for_eq hI hloop
  rw [callF_eq (m := m_row_period) (by rw [hT _ (by decide)]; rfl) rfl]
  simp only [m_row_period, startD]
  simp only [execs_cons, execs_nil, exec_expr, exec_asg, ev_call, ev_bcl, ev_idx, evs_cons, evs_nil, ev_var, ev_cst, List.map_cons, List.map_nil, List.cons_append, List.nil_append, List.replicate, List.length_cons, List.length_nil, List.getElem?_cons_succ, List.getElem?_cons_zero, bind_ok, bindS_ok, nextS_nx, ofOpt_some, require_work_ok hT (n := n) h, require_columns_ok hT (n := n + 1) h0 hc, idx_wk0, len_str, List.set_cons_succ, List.set_cons_zero, texts, hfor]
  cases hf : ((List.range (2 * t.length - 1)).map fun (i : Nat) => D.int (1 + (i : Int))).find? (fun d : D => match d with | .int i => ((List.range (2 * t.length)).map fun r => decide (rowT t s w fl (min cols t.length) r = rowT t s w fl (min cols t.length) (r + i.toNat))).all id | _ => false) with
  | some d =>
    rw [hf] at eq
    simp only [] at eq
    subst eq
    simp
  | none =>
    rw [hf] at eq
    simp only [] at eq
    have h2 : ρ'[2]? = some (some (.int t.length)) := by rcases hρ with rfl | ⟨d, rfl⟩ <;> rfl
    simp only [nextS_nx, execs_cons, exec_ret, ev_bin, ev_cst, ev_var, h2, bind_ok, m2, ofOpt_some, bindS_ok, nextS_rt, nox_ok, fin_rt, retD_same, eq]
theorem row_period_at {n : Nat} {S : Sto} {t : List Nat} {s w cols p : Nat} {fl : Bool} (h : WorkOk t s w) (h0 : 1 ≤ cols) (hc : cols ≤ w) (hb : lperB (rowT t s w fl cols) (2 * t.length) p = true) : callF T (n + 4) 36 [wk t s w fl, .int cols] S = .ok (.int p) S := by
  obtain ⟨q, hq, _, e⟩ := row_period_ok hT (n := n) (S := S) (fl := fl) h h0 hc
  have := h.rp.pos
  rw [hq.uniq (lperB_ok (by omega) (per_row2 hc) hb)] at e
  exact e
end
end Mn
end
section
set_option Elab.async false
set_option linter.all false
set_option maxRecDepth 100000
set_option maxHeartbeats 1000000
/-! RowsL: _law_rows; seeking loops; calm works. -/
namespace Mn
theorem new_put {S : Sto} {c c' : Cell} : (S.new c).put S.nx c' = S.new c' := by
  unfold Sto.new Sto.put
  simp [updC]
theorem get_newS {S : Sto} {c : Cell} : (S.new c).get S.nx = some c := by rw [get_new', if_pos rfl]
/-- a for that looks for something, its names as I says -/
theorem loop_seek {n : Nat} {set : Env → D → Option Env} {body : Env → Sto → R Fl} {S : Sto} (hn : S.nx = n) (I : Env → Prop) (p : D → Bool) (v : D) : ∀ (ds : List D), (∀ d ∈ ds, ∀ ρ, I ρ → ∃ ρ1, set ρ d = some ρ1 ∧ (p d = true → body ρ1 S = .ok (.rt v) S) ∧ (p d = false → ∃ ρ', body ρ1 S = .ok (.nx ρ') S ∧ I ρ')) →
    ∀ ρ, I ρ → (ds.any p = true → loopL n set body ds ρ S = .ok (.rt v) S) ∧ (ds.any p = false → ∃ ρ', loopL n set body ds ρ S = .ok (.nx ρ') S ∧ I ρ')
  | [], _, ρ, hI => ⟨fun z => by simp at z, fun _ => ⟨ρ, rfl, hI⟩⟩
  | d :: r, h, ρ, hI => by
    obtain ⟨ρ1, e, h1, h2⟩ := h d List.mem_cons_self ρ hI
    rw [List.any_cons]
    unfold loopL
    rw [e]
    cases hp : p d with
    | true =>
      refine ⟨fun _ => ?_, fun z => by simp at z⟩
      show (body ρ1 S).bind _ = _
      rw [h1 hp]; rfl
    | false =>
      obtain ⟨ρ2, e2, hI2⟩ := h2 hp
      have ih := loop_seek hn I p v r (fun d' hd' => h d' (List.mem_cons_of_mem _ hd')) ρ2 hI2
      rw [Bool.false_or]
      have q : ((body ρ1 S).bind fun fl S1 => match fl with
        | .nx ρ2 => loopL n set body r ρ2 (S1.back n)
        | .ct ρ2 => loopL n set body r ρ2 (S1.back n)
        | .bk ρ2 => .ok (.nx ρ2) S1
        | .rt d => .ok (.rt d) S1
        | .ex c ρ2 => .ok (.ex c ρ2) S1) = loopL n set body r ρ2 S := by
        rw [e2]
        show loopL n set body r ρ2 (S.back n) = _
        rw [back_same hn]
      exact ⟨fun z => by rw [← ih.1 z]; exact q, fun z => by obtain ⟨ρ', e3, h3⟩ := ih.2 z; exact ⟨ρ', by rw [← e3]; exact q, h3⟩⟩
theorem rng_succ (f : Nat → Nat) (j : Nat) : (List.range (j + 1)).map f = (List.range j).map f ++ [f j] := by rw [List.range_succ, List.map_append]; rfl
theorem rowT_seg {t : List Nat} {s w r : Nat} {fl : Bool} : rowT t s w fl w r = if fl = true ∧ r % 2 = 1 then ((List.range w).map fun j => cyc t (s + r * w + j)).reverse else (List.range w).map fun j => cyc t (s + r * w + j) := by
  unfold rowT colAt numAt
  by_cases h : fl = true ∧ r % 2 = 1
  · simp only [if_pos h]
    apply List.ext_getElem
    · simp
    · intro i h1 h2
      simp only [List.length_map, List.length_range] at h1
      rw [List.getElem_reverse]
      simp
  · simp only [if_neg h]
section
variable {T : Nat → Option MDef} (hT : ∀ f, f < 100 → T f = coreT f)
include hT
theorem law_rows_ok {n : Nat} {S : Sto} {t : List Nat} {s w rows : Nat} {fl : Bool} (ht : t ≠ []) (hl : t.length ≤ 1000) (hw : w ≤ 10000) (hs : s < 2 ^ 40) (hr : rows ≤ 10000) :
    ∃ S', callF T (n + 1) 59 [wk t s w fl, .int rows] S = .ok (.own S.nx) S' ∧ S'.get S.nx = some (.lst ((List.range rows).map fun r => .str (rowT t s w fl w r))) ∧ S'.nx = S.nx + 1 ∧ ∀ i, i < S.nx → S'.get i = S.get i := by
  have tl : 0 < t.length := List.length_pos_iff.mpr ht
  obtain ⟨S', e, h⟩ := ret_new (S := S) (c := .lst ((List.range rows).map fun r => .str (rowT t s w fl w r)))
  refine ⟨S', ?_, h⟩
  -- a row
  have line : ∀ (S1 : Sto) (p : Nat) (x0 x1 x6 x7 x9 : Option D), p < 2 ^ 50 → Ok (exec (callF T n) (.forr (.nm 9) (.rng1 (.var 4)) [.asg 8 (.bin .add (.var 8) (.idx (.var 2) (.bin .mod (.var 3) (.bcl .len [(.var 2)])))), .asg 3 (.bin .add (.var 3) (.cst (.int (1))))])
      [x0, x1, some (.str t), some (.int p), some (.int w), some (.str (kindL fl)), x6, x7, some (.str []), x9] S1) fun f S2 => S2 = S1 ∧ ∃ y9, f = .nx [x0, x1, some (.str t), some (.int ((p + w : Nat) : Int)), some (.int w), some (.str (kindL fl)), x6, x7, some (.str ((List.range w).map fun j => cyc t (p + j))), y9] := fun S1 p x0 x1 x6 x7 x9 hp => by
    refine ok_for (S1 := S1) (ds := dN (List.range w)) (by simp only [evI_rng1, ev_var, List.getElem?_cons_succ, List.getElem?_cons_zero, bind_ok]; rw [rng_nat (by omega) (by omega), Int.toNat_natCast]; rfl) ?_
    refine loop_ok (fun j ρ S2 => S2 = S1 ∧ j ≤ w ∧ ∃ y9, ρ = [x0, x1, some (.str t), some (.int ((p + j : Nat) : Int)), some (.int w), some (.str (kindL fl)), x6, x7, some (.str ((List.range j).map fun i => cyc t (p + i))), y9]) _ 0 _ _ ⟨rfl, by omega, x9, rfl⟩ ?_ ?_
    · rintro j d ρ S2 hd ⟨rfl, hj, y9, rfl⟩
      have hjw : j < w := by
        obtain ⟨q, _⟩ := List.getElem?_eq_some_iff.mp hd
        unfold dN at q
        rw [List.length_map, List.length_range] at q
        exact q
      refine ⟨_, rfl, ?_⟩
      have m1 : binV .mod (.int ((p + (0 + j) : Nat) : Int)) (.int (t.length : Int)) = some (.int (((p + (0 + j)) % t.length : Nat) : Int)) := by rw [binV_mod (by omega), Int.natCast_emod]
      have b1 : idxV S2 (.str t) (.int (((p + (0 + j)) % t.length : Nat) : Int)) = some (.str [cyc t (p + (0 + j))]) := idx_str (cyc_get ht _)
      have a1 : binV .add (.str ((List.range (0 + j)).map fun i => cyc t (p + i))) (.str [cyc t (p + (0 + j))]) = some (.str ((List.range (0 + j + 1)).map fun i => cyc t (p + i))) := by
        rw [add_str (by rw [List.length_map, List.length_range, LIM_val]; simp; omega), rng_succ]
      have c1 : ((p + (0 + j) : Nat) : Int) + 1 = ((p + (0 + j + 1) : Nat) : Int) := by omega
      simp only [List.set_cons_succ, List.set_cons_zero, execs_cons, execs_nil, exec_asg, ev_bin, ev_idx, ev_bcl, ev_cst, evs_cons, evs_nil, ev_var, List.getElem?_cons_succ, List.getElem?_cons_zero, bind_ok, bindS_ok, nextS_nx, ofOpt_some, len_str, m1, b1, a1, binV_add, c1, ok_ok]
      exact ⟨back_same rfl, by omega, _, rfl⟩
    · rintro ρ S2 ⟨rfl, _, y9, rfl⟩
      unfold dN
      rw [List.length_map, List.length_range, Nat.zero_add]
      exact ⟨rfl, y9, rfl⟩
  have un : (Tgt.tp [2, 3, 4, 5]).set [some (wk t s w fl), some (.int rows), none, none, none, none, none, none, none, none] (wk t s w fl) = some [some (wk t s w fl), some (.int rows), some (.str t), some (.int s), some (.int w), some (.str (kindL fl)), none, none, none, none] := rfl
  have key : Ok (execs (callF T n) m__law_rows.body [some (wk t s w fl), some (.int rows), none, none, none, none, none, none, none, none] S) fun f S2 => f = .rt (.own S.nx) ∧ S2 = S.new (.lst ((List.range rows).map fun r => .str (rowT t s w fl w r))) := by
    simp only [m__law_rows]
    refine ok_cons ?_
    simp only [exec_asgT, ev_var, List.getElem?_cons_succ, List.getElem?_cons_zero, bindS_ok, un, ok_ok, nextS_nx]
    refine ok_cons ?_
    simp only [exec_asg, ev_lst, evs_nil, bind_ok, alloc_yes, bindS_ok, ok_ok, nextS_nx, List.set_cons_succ, List.set_cons_zero]
    refine ok_cons ?_
    refine ok_for (S1 := S.new (.lst [])) (ds := dN (List.range rows)) (by simp only [evI_rng1, ev_var, List.getElem?_cons_succ, List.getElem?_cons_zero, bind_ok]; rw [rng_nat (by omega) (by omega), Int.toNat_natCast]; rfl) ?_
    refine loop_ok (fun r ρ S2 => S2 = S.new (.lst ((List.range r).map fun r => .str (rowT t s w fl w r))) ∧ ∃ y7 y8 y9, ρ = [some (wk t s w fl), some (.int rows), some (.str t), some (.int ((s + r * w : Nat) : Int)), some (.int w), some (.str (kindL fl)), some (.own S.nx), y7, y8, y9]) _ 0 _ _ ⟨rfl, none, none, none, by simp⟩ ?_ ?_
    · rintro r d ρ S2 hd ⟨rfl, y7, y8, y9, rfl⟩
      rw [Nat.zero_add]
      have hrr : r < rows ∧ d = .int (r : Int) := by
        obtain ⟨q, e⟩ := List.getElem?_eq_some_iff.mp hd
        unfold dN at q e
        rw [List.length_map, List.length_range] at q
        rw [List.getElem_map, List.getElem_range] at e
        exact ⟨q, e.symm⟩
      obtain ⟨hrr, rfl⟩ := hrr
      have hw2 : r * w ≤ 10000 * 10000 := Nat.mul_le_mul (by omega) hw
      refine ⟨_, rfl, ?_⟩
      refine ok_cons ?_
      simp only [List.set_cons_succ, List.set_cons_zero, exec_asg, ev_cst, bindS_ok, ok_ok, nextS_nx]
      refine ok_cons ?_
      refine (line _ (s + r * w) (some (wk t s w fl)) (some (.int rows)) (some (.own S.nx)) (some (.int r)) y9 (by omega)).mono fun f S3 ⟨e3, z9, e4⟩ => ?_
      subst e3 e4
      rw [nextS_nx]
      have g1 : (S.new (.lst ((List.range r).map fun r => .str (rowT t s w fl w r)))).get S.nx = some (.lst ((List.range r).map fun r => .str (rowT t s w fl w r))) := get_newS
      have rc : rcv (S.new (.lst ((List.range r).map fun r => .str (rowT t s w fl w r)))) .append (.own S.nx) = true := by unfold rcv; simp only [g1]
      have mf : ∀ d, mfV (S.new (.lst ((List.range r).map fun r => .str (rowT t s w fl w r)))) .append (.own S.nx) [d] = some (.non, S.new (.lst (((List.range r).map fun r => .str (rowT t s w fl w r)) ++ [d]))) := fun d => by
        unfold mfV
        simp only [g1]
        rw [if_pos (by rw [List.length_map, List.length_range, LIM_val]; omega), new_put]
      have kf : ∀ S, cmpV S .eq (.str (kindL fl)) (.str [102, 108, 97, 116]) = some (decide (fl = true)) := fun S => by rw [cmp_eqX]; congr 1; exact decide_eq_decide.mpr kind_flat
      have m2 : binV .mod (.int (r : Int)) (.int 2) = some (.int ((r % 2 : Nat) : Int)) := by rw [binV_mod (by decide), Int.natCast_emod]; rfl
      have val : ev (callF T n) (.ite (.and (.cmp .eq (.var 5) (.cst (.str [102, 108, 97, 116]))) (.cmp .eq (.bin .mod (.var 7) (.cst (.int (2)))) (.cst (.int (1))))) (.rev (.var 8)) (.var 8)) [some (wk t s w fl), some (.int rows), some (.str t), some (.int ((s + r * w + w : Nat) : Int)), some (.int w), some (.str (kindL fl)), some (.own S.nx), some (.int r), some (.str ((List.range w).map fun j => cyc t (s + r * w + j))), z9] (S.new (.lst ((List.range r).map fun r => .str (rowT t s w fl w r)))) =
          .ok (.str (rowT t s w fl w r)) (S.new (.lst ((List.range r).map fun r => .str (rowT t s w fl w r)))) := by
        rw [rowT_seg]
        simp only [ev_ite, evT_and, evT_cmp, ev_bin, ev_cst, ev_var, List.getElem?_cons_succ, List.getElem?_cons_zero, bind_ok, ofOpt_some, kf, m2, cmp_eqI]
        by_cases hf : fl = true
        · rw [decide_eq_true hf, if_pos rfl]
          by_cases h2 : r % 2 = 1
          · rw [decide_eq_true (by omega), bind_ok, if_pos rfl, if_pos ⟨hf, h2⟩]
            simp only [ev_rev, ev_var, List.getElem?_cons_succ, List.getElem?_cons_zero, bind_ok, rev_str, ofOpt_some]
          · rw [decide_eq_false (by omega), bind_ok, if_neg (by simp), if_neg (fun z => h2 z.2)]
        · rw [decide_eq_false hf, if_neg (by simp), bind_ok, if_neg (by simp), if_neg (fun z => hf z.1)]
      refine ok_cons ?_
      rw [exec_expr, ev_mth]
      simp only [ev_var, List.getElem?_cons_succ, List.getElem?_cons_zero, bind_ok, rc, if_true, evs_cons, evs_nil]
      rw [val]
      simp only [bind_ok, mf, bindS_ok, ok_ok, nextS_nx, execs_nil]
      refine ⟨?_, some (.int r), some (.str ((List.range w).map fun j => cyc t (s + r * w + j))), z9, ?_⟩
      · rw [List.range_succ, List.map_append]
        exact back_same rfl
      · rw [show s + r * w + w = s + (r + 1) * w by rw [Nat.add_mul, Nat.one_mul]; omega]
    · rintro ρ S2 ⟨rfl, y7, y8, y9, rfl⟩
      rw [nextS_nx]
      unfold dN
      simp only [List.length_map, List.length_range, Nat.zero_add, execs_cons, execs_nil, exec_ret, ev_var, List.getElem?_cons_succ, List.getElem?_cons_zero, bindS_ok, nextS_rt, bind_ok, ok_ok]
      exact ⟨trivial, trivial⟩
  obtain ⟨f, S2, e2, rfl, rfl⟩ := key.ex
  rw [callF_eq (m := m__law_rows) (by rw [hT _ (by decide)]; rfl) rfl]
  rw [show startD m__law_rows [wk t s w fl, .int rows] = [some (wk t s w fl), some (.int rows), none, none, none, none, none, none, none, none] from rfl, e2, nox_ok, bind_ok, fin_rt, e]
end
end Mn
end
section
set_option Elab.async false
set_option linter.all false
set_option maxRecDepth 100000
set_option maxHeartbeats 1000000
/-! Helps: small things for laws. -/
namespace Mn
theorem execs_is {T : Nat → Option MDef} {n : Nat} {l : List MS} {ρ : Env} {fl : Fl} (h : pxs (callP T n) l ρ = .ok fl) (S : Sto) : execs (callF T n) l ρ S = .ok fl S := by
  have z := le_exs (S := S) (C := callP T n) (C' := callF T n) (le_call n) l ρ
  rw [h] at z
  exact z
theorem execsAt_is {T : Nat → Option MDef} {n k : Nat} {l : List (Nat × List MS)} {ρ : Env} {fl : Fl} (h : pxAt (callP T n) k l ρ = .ok fl) (S : Sto) : execsAt (callF T n) k l ρ S = .ok fl S := by
  have z := le_exAt (S := S) (C := callP T n) (C' := callF T n) (le_call n) k l ρ
  rw [h] at z
  exact z
theorem ok_two {C : Nat → List D → Sto → R D} {Q : Fl → Sto → Prop} : ∀ {a b : List MS} {ρ : Env} {S : Sto}, Ok (execs C a ρ S) (fun fl S' => Ok (nextS C b fl S') Q) → Ok (execs C (a ++ b) ρ S) Q
  | [], b, ρ, S, h => by
    rw [execs_nil] at h
    exact h
  | s :: a, b, ρ, S, h => by
    rw [List.cons_append, execs_cons, ok_bind]
    rw [execs_cons, ok_bind] at h
    refine h.mono fun fl S' z => ?_
    cases fl with
    | nx ρ' => exact ok_two (a := a) z
    | rt d => exact z
    | bk ρ' => exact z
    | ct ρ' => exact z
    | ex c ρ' => exact z
theorem frz_is {C : Nat → List D → Sto → R D} {e : ME} {ρ : Env} {S S1 : Sto} {i : Nat} {xs : List D} (h : ev C e ρ S = .ok (.own i) S1) (g : S1.get i = some (.lst xs)) : ev C (.frz e) ρ S = .ok (.lst xs) (S1.del i) := by
  simp only [ev]
  rw [h]
  show frzV (.own i) S1 = _
  unfold frzV
  simp only [g]
theorem del_get {S : Sto} {i j : Nat} (h : j ≠ i) : (S.del i).get j = S.get j := by
  unfold Sto.del Sto.get
  show List.lookup j (List.filter _ S.cs) = _
  exact lookup_keep (by intro c; simpa using h) _
theorem comp_mapT {set : D → Option Env} {tst : Env → Sto → R Bool} {elt : Env → Sto → R D} (f : D → D) (J : Sto → Prop) : ∀ (ds acc : List D) (S : Sto), J S → (∀ d ∈ ds, ∀ S, J S → ∃ ρ S', set d = some ρ ∧ tst ρ S = .ok true S ∧ elt ρ S = .ok (f d) S' ∧ J S') →
    ∃ S', compL set tst elt ds acc S = .ok (acc ++ ds.map f) S' ∧ J S'
  | [], acc, S, h, _ => ⟨S, by simp [compL], h⟩
  | d :: r, acc, S, h, k => by
    obtain ⟨ρ, S1, e1, e2, e3, h1⟩ := k d List.mem_cons_self S h
    obtain ⟨S', q2, q3⟩ := comp_mapT f J r (acc ++ [f d]) S1 h1 fun d' hd' => k d' (List.mem_cons_of_mem _ hd')
    refine ⟨S', ?_, q3⟩
    unfold compL
    rw [e1]
    simp only [e2, e3, nox_ok, bind_ok, if_true, q2, List.map_cons, List.append_assoc, List.singleton_append]
/-- texts as data -/
def dX (l : List (List Nat)) : List D := l.map .str
theorem flats_X : ∀ (l : List (List Nat)) (n : Nat), D.flats n (dX l) = true
  | [], n => by unfold dX; simp [D.flats]
  | a :: r, n => by
    show D.flats n (D.str a :: dX r) = true
    rw [D.flats, flats_X r n]
    cases n <;> rfl
theorem eqDs_X : ∀ (l m : List (List Nat)), eqDs (dX l) (dX m) = decide (l = m)
  | [], [] => by rfl
  | [], _ :: _ => by rfl
  | _ :: _, [] => by rfl
  | a :: l, b :: m => by
    show eqDs (D.str a :: dX l) (D.str b :: dX m) = _
    rw [eqDs, eqDs_X l m]
    simp only [eqD]
    by_cases h : a = b
    · subst h; simp
    · have q : (a == b) = false := beq_eq_false_iff_ne.mpr h
      rw [q, Bool.false_and]
      exact (decide_eq_false fun z => h (List.cons.inj z).1).symm
theorem eqO_X {S : Sto} {x y : D} {l m : List (List Nat)} (h : deref S x = some (.lst (dX l))) (k : deref S y = some (.lst (dX m))) : eqO S x y = some (decide (l = m)) := by
  unfold eqO
  rw [h, k]
  have f : ∀ l, D.flat 8 (.lst (dX l)) = true := fun l => by rw [D.flat]; exact flats_X l _
  simp only [f, Bool.and_self, if_true]
  rw [eqD, eqDs_X]
theorem eqO_dN {S : Sto} {x y : D} {l m : List Nat} (h : deref S x = some (.lst (dN l))) (k : deref S y = some (.lst (dN m))) : eqO S x y = some (decide (l = m)) := by
  unfold eqO
  rw [h, k]
  have f : ∀ l, D.flat 8 (.lst (dN l)) = true := fun l => by rw [D.flat]; exact flats_N l _
  simp only [f, Bool.and_self, if_true]
  rw [eqD, eqDs_N]
theorem cmp_eq_is {S : Sto} {x y : D} : cmpV S .eq x y = eqO S x y := by unfold cmpV; rfl
theorem cmp_ne_is {S : Sto} {x y : D} : cmpV S .ne x y = (eqO S x y).map not := by unfold cmpV; rfl
theorem exec_tri {C : Nat → List D → Sto → R D} {body : List MS} {i cl : Nat} {su : List (Nat × List MS)} {ρ : Env} {S : Sto} : exec C (.tri body i cl su) ρ S = (execs C body ρ S).bind fun fl S1 => match fl with
    | .ex k ρ1 => if i < ρ1.length ∧ cl = 0 then (execsAt C k su (ρ1.set i none) S1).bind (sufS i) else .bad
    | fl => .ok fl S1 := by simp only [exec] <;> rfl
/-- an exception that the clause takes -/
theorem tri_exc {C : Nat → List D → Sto → R D} {body : List MS} {i k : Nat} {su : List (Nat × List MS)} {ρ ρ1 : Env} {S S1 S2 : Sto} {d : D} (h : execs C body ρ S = .ok (.ex k ρ1) S1) (hi : i < ρ1.length) (e : execsAt C k su (ρ1.set i none) S1 = .ok (.rt d) S2) : exec C (.tri body i 0 su) ρ S = .ok (.rt d) S2 := by
  rw [exec_tri, h, bind_ok]
  show (if i < ρ1.length ∧ 0 = 0 then _ else _) = _
  rw [if_pos ⟨hi, rfl⟩, e]
  rfl
theorem tri_nx {C : Nat → List D → Sto → R D} {body : List MS} {i cl : Nat} {su : List (Nat × List MS)} {ρ ρ1 : Env} {S S1 : Sto} (h : execs C body ρ S = .ok (.nx ρ1) S1) : exec C (.tri body i cl su) ρ S = .ok (.nx ρ1) S1 := by
  rw [exec_tri, h, bind_ok]
/-! each of the module's askings, refused -/
section
variable {T : Nat → Option MDef} (hT : ∀ f, f < 100 → T f = coreT f)
include hT
theorem require_row_bad {n : Nat} {S : Sto} {v : D} (h : plainD v = true) (h2 : intIn v 0 1000000000000000 = false) : callF T (n + 2) 15 [v] S = .exc 3 S := by
  rw [callF_eq (m := m_require_row) (by rw [hT _ (by decide)]; rfl) rfl]
  simp only [m_require_row, startD]
  simp [is_integer_any hT (n := n) (S := S) h, truthy, h2, R.nox, R.bind, fin, Sto.back]
theorem require_column_bad {n : Nat} {S : Sto} {t : List Nat} {s w : Nat} {fl : Bool} {v : D} (h : plainD v = true) (h2 : intIn v 0 ((w : Int) - 1) = false) : callF T (n + 2) 16 [wk t s w fl, v] S = .exc 4 S := by
  rw [callF_eq (m := m_require_column) (by rw [hT _ (by decide)]; rfl) rfl]
  simp only [m_require_column, startD]
  simp [is_integer_any hT (n := n) (S := S) h, idx_wk2, truthy, h2, R.nox, R.bind, fin, Sto.back]
theorem require_columns_bad {n : Nat} {S : Sto} {t : List Nat} {s w : Nat} {fl : Bool} {v : D} (h : plainD v = true) (h2 : intIn v 1 (w : Int) = false) : callF T (n + 2) 17 [wk t s w fl, v] S = .exc 6 S := by
  rw [callF_eq (m := m_require_columns) (by rw [hT _ (by decide)]; rfl) rfl]
  simp only [m_require_columns, startD]
  simp [is_integer_any hT (n := n) (S := S) h, idx_wk2, truthy, h2, R.nox, R.bind, fin, Sto.back]
theorem stitch_row_bad {n : Nat} {S : Sto} {t : List Nat} {s w : Nat} {fl : Bool} {v c : D} (k : WorkOk t s w) (h : plainD v = true) (h2 : intIn v 0 1000000000000000 = false) : callF T (n + 4) 20 [wk t s w fl, v, c] S = .exc 3 S := by
  rw [callF_eq (m := m_stitch_at) (by rw [hT _ (by decide)]; rfl) rfl]
  simp only [m_stitch_at, startD]
  simp [require_work_ok hT (n := n) k, require_row_bad hT (n := n + 1) h h2, R.nox, R.bind, fin, Sto.back, nextS]
theorem color_row_bad {n : Nat} {S : Sto} {t : List Nat} {s w : Nat} {fl : Bool} {v c : D} (k : WorkOk t s w) (h : plainD v = true) (h2 : intIn v 0 1000000000000000 = false) : callF T (n + 4) 21 [wk t s w fl, v, c] S = .exc 3 S := by
  rw [callF_eq (m := m_color_at) (by rw [hT _ (by decide)]; rfl) rfl]
  simp only [m_color_at, startD]
  simp [require_work_ok hT (n := n) k, require_row_bad hT (n := n + 1) h h2, R.nox, R.bind, fin, Sto.back, nextS]
theorem text_row_bad {n : Nat} {S : Sto} {t : List Nat} {s w : Nat} {fl : Bool} {v c : D} (k : WorkOk t s w) (h : plainD v = true) (h2 : intIn v 0 1000000000000000 = false) : callF T (n + 4) 23 [wk t s w fl, v, c] S = .exc 3 S := by
  rw [callF_eq (m := m_row_text) (by rw [hT _ (by decide)]; rfl) rfl]
  simp only [m_row_text, startD]
  simp [require_work_ok hT (n := n) k, require_row_bad hT (n := n + 1) h h2, R.nox, R.bind, fin, Sto.back, nextS]
theorem stitch_col_bad {n : Nat} {S : Sto} {t : List Nat} {s w row : Nat} {fl : Bool} {v : D} (k : WorkOk t s w) (hr : row ≤ 10 ^ 15) (h : plainD v = true) (h2 : intIn v 0 ((w : Int) - 1) = false) : callF T (n + 4) 20 [wk t s w fl, .int row, v] S = .exc 4 S := by
  rw [callF_eq (m := m_stitch_at) (by rw [hT _ (by decide)]; rfl) rfl]
  simp only [m_stitch_at, startD]
  simp [require_work_ok hT (n := n) k, require_row_ok hT (n := n + 1) hr, require_column_bad hT (n := n + 1) h h2, R.nox, R.bind, fin, Sto.back, nextS]
theorem color_col_bad {n : Nat} {S : Sto} {t : List Nat} {s w row : Nat} {fl : Bool} {v : D} (k : WorkOk t s w) (hr : row ≤ 10 ^ 15) (h : plainD v = true) (h2 : intIn v 0 ((w : Int) - 1) = false) : callF T (n + 4) 21 [wk t s w fl, .int row, v] S = .exc 4 S := by
  rw [callF_eq (m := m_color_at) (by rw [hT _ (by decide)]; rfl) rfl]
  simp only [m_color_at, startD]
  simp [require_work_ok hT (n := n) k, require_row_ok hT (n := n + 1) hr, require_column_bad hT (n := n + 1) h h2, R.nox, R.bind, fin, Sto.back, nextS]
theorem text_cols_bad {n : Nat} {S : Sto} {t : List Nat} {s w row : Nat} {fl : Bool} {v : D} (k : WorkOk t s w) (hr : row ≤ 10 ^ 15) (h : plainD v = true) (h2 : intIn v 1 (w : Int) = false) : callF T (n + 4) 23 [wk t s w fl, .int row, v] S = .exc 6 S := by
  rw [callF_eq (m := m_row_text) (by rw [hT _ (by decide)]; rfl) rfl]
  simp only [m_row_text, startD]
  simp [require_work_ok hT (n := n) k, require_row_ok hT (n := n + 1) hr, require_columns_bad hT (n := n + 1) h h2, R.nox, R.bind, fin, Sto.back, nextS]
end
end Mn
end
section
set_option Elab.async false
set_option linter.all false
set_option maxRecDepth 100000
set_option maxHeartbeats 2000000
/-! YarnL: what the class Yarn computes. -/
namespace Mn
section
variable {C : Nat → List D → Sto → R D} {ρ : Env} {S : Sto}
theorem ev_att {k j : Nat} {e : ME} : ev C (.att k j e) ρ S = (ev C e ρ S).bind fun x S1 => ofOpt S1 (attV k j x) := by simp only [ev] <;> rfl
theorem ev_mcl {kd : MK} {k f : Nat} {o : ME} {as : List ME} : ev C (.mcl kd k f o as) ρ S = (ev C o ρ S).bind fun x S1 => if isO k x then (evs C as ρ S1).bind fun xs S2 => if okArg k kd xs then finM kd (C f (x :: xs) S2) else .bad else .bad := by simp only [ev] <;> rfl
theorem ev_mcr {k f : Nat} {a o : ME} : ev C (.mcr k f a o) ρ S = (ev C a ρ S).bind fun y S1 => (ev C o ρ S1).bind fun x S2 => if isO k x then finB (C f [x, y] S2) else .bad := by simp only [ev] <;> rfl
theorem ev_mk {f : Nat} {as : List ME} : ev C (.mk f as) ρ S = (evs C as ρ S).bind fun xs S1 => C f (.any :: xs) S1 := by simp only [ev] <;> rfl
theorem ev_new {k : Nat} {as : List ME} : ev C (.new k as) ρ S = (evs C as ρ S).nox.bind fun xs S1 => .ok (.obj k xs) S1 := by simp only [ev] <;> rfl
theorem ev_iso {k : Nat} {e : ME} : ev C (.iso k e) ρ S = (ev C e ρ S).bind fun x S1 => ofOpt S1 ((isoV k x).map .bl) := by simp only [ev] <;> rfl
theorem evT_mcl {kd : MK} {k f : Nat} {o : ME} {as : List ME} : evT C (.mcl kd k f o as) ρ S = (ev C (.mcl kd k f o as) ρ S).bind fun x S1 => ofOpt S1 (boolOf x) := by simp only [evT, ev] <;> rfl
theorem evT_mcr {k f : Nat} {a o : ME} : evT C (.mcr k f a o) ρ S = (ev C (.mcr k f a o) ρ S).bind fun x S1 => ofOpt S1 (boolOf x) := by simp only [evT, ev] <;> rfl
end
/-- an instance of Yarn -/
def yn (t : List Nat) : D := .obj 0 [.str t]
theorem isO_yn {t : List Nat} : isO 0 (yn t) = true := rfl
theorem att_yn {t : List Nat} : attV 0 0 (yn t) = some (.str t) := rfl
theorem isoV_yn {t : List Nat} : isoV 0 (yn t) = some true := rfl
theorem cut_cyc {t : List Nat} {k m : Nat} (h : t ≠ []) (hk : m ≤ k * t.length) : ((List.replicate k t).flatten).take m = (List.range m).map fun i => cyc t (0 + i) := by
  apply List.ext_getElem?
  intro i
  by_cases hi : i < m
  · rw [List.getElem?_take_of_lt hi, flat_get h k i (by omega), List.getElem?_map, List.getElem?_range hi]
    simp
  · rw [List.getElem?_eq_none (by rw [List.length_take]; omega), List.getElem?_eq_none (by rw [List.length_map, List.length_range]; omega)]
theorem lo_same {t u : List Nat} (ht : t ≠ []) (hu : u ≠ []) : ((List.range (t.length * u.length)).map fun i => cyc t (0 + i)) = ((List.range (t.length * u.length)).map fun i => cyc u (0 + i)) ↔ Sh t u 0 := by
  have tp := List.length_pos_iff.mpr ht
  have up := List.length_pos_iff.mpr hu
  constructor
  · intro e i
    have hm : 0 < t.length * u.length := Nat.mul_pos tp up
    have hi := Nat.mod_lt i hm
    have e2 := congrArg (fun l => l[i % (t.length * u.length)]?) e
    simp only [List.getElem?_map, List.getElem?_range hi, Option.map_some, Option.some.injEq, Nat.zero_add] at e2
    have a1 : cyc t (i % (t.length * u.length)) = cyc t i := by
      unfold cyc
      rw [Nat.mod_mod_of_dvd _ (Nat.dvd_mul_right _ _)]
    have a2 : cyc u (i % (t.length * u.length)) = cyc u i := by
      unfold cyc
      rw [Nat.mod_mod_of_dvd _ (Nat.dvd_mul_left _ _)]
    rw [Nat.zero_add, ← a1, ← a2]; exact e2
  · intro h
    apply List.map_congr_left
    intro i _
    have := h i
    rw [Nat.zero_add] at this ⊢
    rw [this]
theorem in_list {S : Sto} {c : Nat} : ∀ {t : List Nat}, cmpV S .isin (.str [c]) (.lst (t.map fun c => .str [c])) = some (decide (c ∈ t)) := fun {t} => by
  show (if (scalarD (.str [c]) && (t.map fun c => D.str [c]).all scalarD) = true then _ else _) = _
  have e1 : (t.map fun c => D.str [c]).all scalarD = true := by
    rw [List.all_map, List.all_eq_true]; intro x _; rfl
  rw [e1]
  show some ((t.map fun c => D.str [c]).any fun y => eqD y (.str [c])) = _
  congr 1
  rw [List.any_map]
  apply Bool.eq_iff_iff.mpr
  rw [List.any_eq_true, decide_eq_true_eq]
  constructor
  · rintro ⟨x, hx, e⟩
    have : x = c := by simpa [eqD] using e
    exact this ▸ hx
  · intro h
    exact ⟨c, h, by simp [eqD]⟩
section
variable {T : Nat → Option MDef} (hT : ∀ f, f < 100 → T f = coreT f)
include hT
theorem yarn_mk {n : Nat} {S : Sto} {t : List Nat} (h : Rp t) : callF T (n + 3) 61 [.any, .str t] S = .ok (yn t) S := by
  rw [callF_eq (m := m_Yarn___init__) (by rw [hT _ (by decide)]; rfl) rfl]
  simp [m_Yarn___init__, startD, require_repeat_ok hT (n := n) h, ev_new, yn]
theorem yarn_rep {n : Nat} {S : Sto} {t : List Nat} : callF T (n + 1) 62 [yn t] S = .ok (.str t) S := by
  rw [callF_eq (m := m_Yarn_repeat) (by rw [hT _ (by decide)]; rfl) rfl]
  simp [m_Yarn_repeat, startD, ev_att, att_yn]
theorem yarn_len {n : Nat} {S : Sto} {t : List Nat} : callF T (n + 1) 63 [yn t] S = .ok (.int t.length) S := by
  rw [callF_eq (m := m_Yarn___len__) (by rw [hT _ (by decide)]; rfl) rfl]
  simp [m_Yarn___len__, startD, ev_att, att_yn]
theorem yarn_get {n : Nat} {S : Sto} {t : List Nat} {a : Nat} (h : t ≠ []) (ha : a ≤ 10 ^ 15) : callF T (n + 3) 64 [yn t, .int a] S = .ok (.str [cyc t a]) S := by
  have h0 := List.length_pos_iff.mpr h
  have e0 := require_number_any hT (n := n) (S := S) (v := .int a) (a := 0) (b := 1000000000000000) rfl
  have e1 : intIn (.int (a : Int)) 0 1000000000000000 = true := by
    show (decide ((0 : Int) ≤ a) && decide ((a : Int) ≤ 1000000000000000)) = true
    rw [decide_eq_true (by omega), decide_eq_true (by omega)]; rfl
  rw [e1] at e0
  have hmod : binV .mod (.int (a : Int)) (.int (t.length : Int)) = some (.int ((a % t.length : Nat) : Int)) := by rw [binV_mod (by omega), Int.natCast_emod]
  rw [callF_eq (m := m_Yarn___getitem__) (by rw [hT _ (by decide)]; rfl) rfl]
  simp [m_Yarn___getitem__, startD, ev_att, att_yn, e0, hmod, idx_str (cyc_get h a), -Int.natCast_emod]
theorem yarn_call {n : Nat} {S : Sto} {t : List Nat} {k : Nat} (h : Rp t) (hk : k ≤ 100) : callF T (n + 3) 65 [yn t, .int k] S = .ok (.str ((List.range k).map fun i => cyc t (0 + i))) S := by
  have h0 := h.pos
  have hl := h.2.1
  have e0 := require_number_any hT (n := n) (S := S) (v := .int k) (a := 0) (b := 1000) rfl
  have e1 : intIn (.int (k : Int)) 0 1000 = true := by
    show (decide ((0 : Int) ≤ k) && decide ((k : Int) ≤ 1000)) = true
    rw [decide_eq_true (by omega), decide_eq_true (by omega)]; rfl
  rw [e1] at e0
  have hdv : binV .fdiv (.int (k : Int)) (.int (t.length : Int)) = some (.int ((k / t.length : Nat) : Int)) := by rw [binV_fdiv (by omega) (Dv_of (by omega) (by omega)), Int.natCast_ediv]
  have hd : k / t.length ≤ k := Nat.div_le_self _ _
  generalize hz : k / t.length = z at hd hdv
  have hm : binV .mul (.str t) (.int ((z : Int) + 1)) = some (.str (List.replicate (z + 1) t).flatten) := by
    rw [mul_str (by omega) (ltN_of (by omega)), show ((z : Int) + 1).toNat = z + 1 by omega]
  have hc : k ≤ (z + 1) * t.length := by
    have := Nat.div_add_mod k t.length
    have := Nat.mod_lt k h0
    rw [hz] at *
    rw [Nat.succ_mul, Nat.mul_comm]; omega
  rw [callF_eq (m := m_Yarn___call__) (by rw [hT _ (by decide)]; rfl) rfl]
  simp [m_Yarn___call__, startD, ev_att, att_yn, e0, hdv, hm, cut_cyc h.1 hc]
theorem yarn_add {n : Nat} {S : Sto} {t u : List Nat} (h : Rp t) (k : Rp u) (hl : t.length + u.length ≤ 20) : callF T (n + 4) 66 [yn t, yn u] S = .ok (yn (t ++ u)) S := by
  have rp : Rp (t ++ u) := ⟨by have := h.1; simp [this], by rw [List.length_append]; exact hl, fun c hc => (List.mem_append.mp hc).elim (h.2.2 c) (k.2.2 c)⟩
  have e0 : cmpV S .gt (.int ((t.length : Int) + (u.length : Int))) (.int 20) = some false := by
    show some (decide ((20 : Int) < (t.length : Int) + (u.length : Int))) = _
    rw [decide_eq_false (by omega)]
  have e1 := add_str (x := t) (y := u) (by rw [LIM_val]; omega)
  rw [callF_eq (m := m_Yarn___add__) (by rw [hT _ (by decide)]; rfl) rfl]
  simp [m_Yarn___add__, startD, ev_att, att_yn, e0, ev_mk, e1, yarn_mk hT (n := n) rp]
theorem yarn_neg {n : Nat} {S : Sto} {t : List Nat} (h : Rp t) : callF T (n + 4) 67 [yn t] S = .ok (yn t.reverse) S := by
  have rp : Rp t.reverse := ⟨by have := h.1; simp [this], by rw [List.length_reverse]; exact h.2.1, fun c hc => h.2.2 c (List.mem_reverse.mp hc)⟩
  rw [callF_eq (m := m_Yarn___neg__) (by rw [hT _ (by decide)]; rfl) rfl]
  simp [m_Yarn___neg__, startD, ev_att, att_yn, ev_mk, revV, yarn_mk hT (n := n) rp]
theorem turn_rp {t : List Nat} {a : Nat} (h : Rp t) : Rp (turnL t a) := by
  have hl := turnL_len (s := t) (a := a)
  refine ⟨fun z => ?_, by rw [hl]; exact h.2.1, fun c hc => ?_⟩
  · have := h.pos
    rw [z] at hl
    simp at hl
    omega
  · unfold turnL at hc
    rcases List.mem_append.mp hc with q | q
    · exact h.2.2 c (List.mem_of_mem_drop q)
    · exact h.2.2 c (List.mem_of_mem_take q)
theorem yarn_shl {n : Nat} {S : Sto} {t : List Nat} {a : Nat} (h : Rp t) (ha : a ≤ 10 ^ 15) : callF T (n + 4) 68 [yn t, .int a] S = .ok (yn (turnL t a)) S := by
  have hl := h.2.1
  have e0 := require_number_any hT (n := n + 1) (S := S) (v := .int a) (a := 0) (b := 1000000000000000) rfl
  have e1 : intIn (.int (a : Int)) 0 1000000000000000 = true := by
    show (decide ((0 : Int) ≤ a) && decide ((a : Int) ≤ 1000000000000000)) = true
    rw [decide_eq_true (by omega), decide_eq_true (by omega)]; rfl
  rw [e1] at e0
  have e2 := turned_ok hT (n := n + 2) (S := S) (a := a) h.1 (by omega)
  rw [callF_eq (m := m_Yarn___lshift__) (by rw [hT _ (by decide)]; rfl) rfl]
  simp [m_Yarn___lshift__, startD, ev_att, att_yn, ev_mk, e0, e2, yarn_mk hT (n := n) (turn_rp hT h)]
theorem root_at {n : Nat} {S : Sto} {t : List Nat} {r : Nat} (h : Rp t) (hr : IsRoot t r) : callF T (n + 1) 6 [.str t] S = .ok (.str (t.take r)) S := by
  obtain ⟨r', hr', e⟩ := root_ok hT (n := n) (S := S) h.1 (by have := h.2.1; omega)
  rw [hr.uniq hr']; exact e
theorem has_root {t : List Nat} (h : Rp t) : ∃ r, IsRoot t r := by
  obtain ⟨r, hr, _⟩ := root_ok hT (n := 0) (S := ⟨0, []⟩) h.1 (by have := h.2.1; omega)
  exact ⟨r, hr⟩
theorem yarn_eq {t u : List Nat} (h : Rp t) (k : Rp u) : ∃ b : Bool, (b = true ↔ Sh t u 0) ∧ ∀ (n : Nat) (S : Sto), callF T (n + 2) 69 [yn t, yn u] S = .ok (.bl b) S := by
  obtain ⟨r, hr⟩ := has_root hT h
  obtain ⟨q, hq⟩ := has_root hT k
  refine ⟨decide (t.take r = u.take q), ?_, fun n S => ?_⟩
  · rw [decide_eq_true_eq, ← sh_root hr hq]
    have e0 : turnL (t.take r) 0 = t.take r := by
      unfold turnL
      rw [Nat.zero_mod, List.drop_zero, List.take_zero, List.append_nil]
    rw [e0]
  · rw [callF_eq (m := m_Yarn___eq__) (by rw [hT _ (by decide)]; rfl) rfl]
    simp [m_Yarn___eq__, startD, ev_att, att_yn, ev_iso, isoV_yn, root_at hT (n := n) h hr, root_at hT (n := n) k hq]
theorem yarn_eqX {n : Nat} {S : Sto} {t x : List Nat} : callF T (n + 1) 69 [yn t, .str x] S = .ok (.bl false) S := by
  rw [callF_eq (m := m_Yarn___eq__) (by rw [hT _ (by decide)]; rfl) rfl]
  simp [m_Yarn___eq__, startD, ev_iso, isoV]
theorem yarn_in {n : Nat} {S : Sto} {t : List Nat} {c : Nat} : callF T (n + 1) 70 [yn t, .str [c]] S = .ok (.bl (decide (c ∈ t))) S := by
  rw [callF_eq (m := m_Yarn___contains__) (by rw [hT _ (by decide)]; rfl) rfl]
  simp [m_Yarn___contains__, startD, ev_att, att_yn, isiV, in_str]
theorem yarn_inX {n : Nat} {S : Sto} {t x : List Nat} (h : x.length ≠ 1) : callF T (n + 1) 70 [yn t, .str x] S = .ok (.bl false) S := by
  have e0 : ¬ ((x.length : Int) = 1) := by omega
  rw [callF_eq (m := m_Yarn___contains__) (by rw [hT _ (by decide)]; rfl) rfl]
  simp [m_Yarn___contains__, startD, isiV, e0]
theorem yarn_inN {n : Nat} {S : Sto} {t : List Nat} : callF T (n + 1) 70 [yn t, .non] S = .ok (.bl false) S := by
  rw [callF_eq (m := m_Yarn___contains__) (by rw [hT _ (by decide)]; rfl) rfl]
  simp [m_Yarn___contains__, startD, isiV]
theorem yarn_inI {n : Nat} {S : Sto} {t : List Nat} {i : Int} : callF T (n + 1) 70 [yn t, .int i] S = .ok (.bl false) S := by
  rw [callF_eq (m := m_Yarn___contains__) (by rw [hT _ (by decide)]; rfl) rfl]
  simp [m_Yarn___contains__, startD, isiV]
end
end Mn
end
section
set_option Elab.async false
set_option linter.all false
set_option maxRecDepth 100000
set_option maxHeartbeats 4000000
/-! P16: the law computes True. -/
namespace Lk16
open Mn
section
variable {k : Nat} {xs : List D} {S : Sto} {d : D} {r : R D} {b : Bool} {t : List Nat} {a : Int}
theorem okA_call : okArg k .call xs = true := (rfl)
theorem okA_sub : okArg k .sub xs = true := (rfl)
theorem okA_len : okArg k .len [] = true := (rfl)
theorem okA_eq : okArg 0 .eq [yn t] = true := (rfl)
theorem okA_eqX : okArg 0 .eq [.str t] = true := (rfl)
theorem okA_ne : okArg 0 .ne [yn t] = true := (rfl)
theorem okA_add : okArg 0 .add [yn t] = true := (rfl)
theorem okA_shl : okArg 0 .shl [.int a] = true := (rfl)
theorem fi_call : finM .call r = r := (rfl)
theorem fi_sub : finM .sub (.ok d S) = .ok d S := (rfl)
theorem fi_add : finM .add (.ok d S) = .ok d S := (rfl)
theorem fi_shl : finM .shl (.ok d S) = .ok d S := (rfl)
theorem fi_eq : finM .eq (.ok (.bl b) S) = .ok (.bl b) S := (rfl)
theorem fi_ne : finM .ne (.ok (.bl b) S) = .ok (.bl (!b)) S := (rfl)
theorem fi_B : finB (.ok (.bl b) S) = .ok (.bl b) S := (rfl)
theorem fi_len (h : t.length ≤ 1000) : finM .len (.ok (.int t.length) S) = .ok (.int t.length) S := by
  show (if 0 ≤ (t.length : Int) ∧ ltN (t.length : Int) B62 = true then _ else _) = _
  rw [if_pos ⟨by omega, ltN_of (by rw [B62_eq']; omega)⟩]
theorem bo_bl : boolOf (.bl b) = some b := (rfl)
theorem ld_list : bfV S .list [.str t] = some (.lst (dX (t.map fun c => [c]))) := by
  show some (D.lst (t.map fun c => .str [c])) = _
  unfold dX
  rw [List.map_map]; rfl
end
/-- so many colors of a yarn, from a stitch on -/
def lo (t : List Nat) (a z : Nat) : List Nat := (List.range z).map fun i => cyc t (a + i)
theorem lo_at {n : Nat} {S : Sto} {t : List Nat} {a z : Nat} (ht : Rp t) (ha : a < 2 ^ 60) (hz : z ≤ LIM) : callF T (n + 1) 58 [.str t, .int a, .int z] S = .ok (.str (lo t a z)) S := long_ok hT ht.1 (by have := ht.2.1; omega) ha hz
theorem seq_len {t : List Nat} {z : Nat} : (lo t 0 z).length = z := by unfold lo; simp
theorem lo_turn {t : List Nat} {v z : Nat} (h : t ≠ []) : lo (turnL t v) 0 z = lo t v z := by
  unfold lo
  apply List.map_congr_left
  intro i _
  rw [Nat.zero_add, turnL_cyc h]
theorem lo_len {t : List Nat} {v : Nat} (h : t ≠ []) : lo t v t.length = turnL t v := by
  refine cyc_ext (by rw [turnL_len]; unfold lo; simp) fun i hi => ?_
  have hi : i < t.length := by simpa [lo] using hi
  rw [turnL_cyc h, cyc_lt (by simpa [lo] using hi)]
  unfold lo
  simp
theorem sh_refl {t u : List Nat} (h : ∀ i, cyc t i = cyc u i) : Sh t u 0 := fun i => by rw [Nat.zero_add]; exact h i
theorem signs_ok {t u : List Nat} (h : Rp t) (k : Rp u) (S : Sto) : callF T 39 100 [.str t, .str u] S = .ok (.bl true) S := by
  have tp := h.pos
  have up := k.pos
  have tl := h.2.1
  have ul := k.2.1
  have rv : Rp t.reverse := ⟨by have := h.1; simp [this], by rw [List.length_reverse]; exact tl, fun c hc => h.2.2 c (List.mem_reverse.mp hc)⟩
  have m400 : t.length * u.length ≤ 20 * 20 := Nat.mul_le_mul tl ul
  obtain ⟨m, hm⟩ : ∃ m, m = t.length * u.length := ⟨_, rfl⟩
  have em : binV .mul (.int (t.length : Int)) (.int (u.length : Int)) = some (.int (m : Int)) := by rw [binV_mul (.inl (smallI_of (by omega) (by omega))), hm, Int.natCast_mul]
  have a1 := yarn_mk hT (n := 35) (S := S) h
  have a2 := yarn_mk hT (n := 35) (S := S) k
  have a3 := yarn_len hT (n := 37) (S := S) (t := t)
  have a4 := yarn_rep hT (n := 37) (S := S) (t := t)
  have a5 := yarn_call hT (n := 35) (S := S) (k := 0) h (by decide)
  have a6 := yarn_call hT (n := 35) (S := S) (k := 70) h (by decide)
  have a7 := lo_at (n := 37) (S := S) (a := 0) (z := 70) h (by decide) (by decide)
  have a8 := lo_at (n := 37) (S := S) (a := 0) (z := 45) h (by decide) (by decide)
  have a9 := lo_at (n := 37) (S := S) (a := 0) (z := m) h (by decide) (by rw [LIM_val]; omega)
  have a10 := lo_at (n := 37) (S := S) (a := 0) (z := m) k (by decide) (by rw [LIM_val]; omega)
  obtain ⟨b, hb, eb⟩ := yarn_eq hT h k
  have eb := eb 36 S
  obtain ⟨c, hc, ec⟩ := yarn_eq hT h h
  have ec := ec 36 S
  have hc : c = true := hc.mpr (sh_refl fun _ => rfl)
  subst hc
  have sm : decide (lo t 0 m = lo u 0 m) = b := by
    rw [hm]
    have := lo_same h.1 k.1
    cases b with
    | true => exact decide_eq_true (this.mpr (hb.mp rfl))
    | false => exact decide_eq_false fun z => absurd (hb.mpr (this.mp z)) (by simp)
  have a11 := yarn_eqX hT (n := 37) (S := S) (t := t) (x := t)
  have a12 := yarn_neg hT (n := 34) (S := S) h
  have a13 := yarn_neg hT (n := 34) (S := S) rv
  rw [List.reverse_reverse] at a13
  have a14 := yarn_rep hT (n := 37) (S := S) (t := t.reverse)
  have i1 := yarn_inX hT (n := 37) (S := S) (t := t) (x := []) (by decide)
  have i2 := yarn_inN hT (n := 37) (S := S) (t := t)
  have i3 := yarn_inI hT (n := 37) (S := S) (t := t) (i := 0)
  have l1 : ev (callF T 38) (.lcm false (.mcl .sub 0 64 (.var 2) [(.var 5)]) [5] (.nm 5) (.rng1 (.cst (.int (45)))) none) [some (.str t), some (.str u), some (yn t), some (yn u), some (.int m), none, none, none, none] S = .ok (.lst (dX ((lo t 0 45).map fun c => [c]))) S := by
    refine lcm_of (S1 := S) (ds := (List.range 45).map fun (i : Nat) => D.int i) (by simp only [evI_rng1, ev_cst, bind_ok]; rfl) (by decide) ?_
    rw [comp_map (fun d => match d with | .int i => .str [cyc t i.toNat] | _ => .non) _ _ fun d hd => ?_]
    · rw [List.nil_append, List.map_map]
      unfold dX lo
      rw [List.map_map, List.map_map]
      congr 2
      funext i
      simp
    · obtain ⟨i, hi, rfl⟩ := List.mem_map.mp hd
      have hi := List.mem_range.mp hi
      have g := yarn_get hT (n := 35) (S := S) (a := i) h.1 (by omega)
      refine ⟨_, rfl, by simp only [evC_none], ?_⟩
      simp only [wipeD, List.set_cons_succ, List.set_cons_zero, ev_mcl, ev_var, List.getElem?_cons_succ, List.getElem?_cons_zero, bind_ok, isO_yn, if_true, evs_cons, evs_nil, okA_sub, show callF T 38 64 [yn t, .int (i : Int)] S = .ok (.str [cyc t i]) S from g, fi_sub, Int.toNat_natCast]
  have l2 : ev (callF T 38) (.lcm false (.var 6) [6] (.nm 6) (.seq (.cst (.str [97, 98, 99, 100, 101, 102, 103, 104, 109, 113, 122]))) (some (.cmp .ne (.mcr 0 70 (.var 6) (.var 2)) (.cmp .isin (.var 6) (.bcl .list [(.var 0)]))))) [some (.str t), some (.str u), some (yn t), some (yn u), some (.int m), none, none, none, none] S = .ok (.lst []) S := by
    refine lcm_of (S1 := S) (ds := [97, 98, 99, 100, 101, 102, 103, 104, 109, 113, 122].map fun (i : Nat) => D.str [i]) (by simp only [evI_seq, ev_cst, bind_ok]; rfl) (by decide) ?_
    rw [comp_filter (fun d => d) (fun _ => false) _ _ fun d hd => ?_]
    · simp
    · obtain ⟨i, hi, rfl⟩ := List.mem_map.mp hd
      have g := yarn_in hT (n := 37) (S := S) (t := t) (c := i)
      have e0 : bfV S .list [.str t] = some (.lst (t.map fun c => .str [c])) := rfl
      refine ⟨_, rfl, ?_, fun z => by cases z⟩
      simp only [wipeD, List.set_cons_succ, List.set_cons_zero, evC_some, evT_cmp, ev_mcr, ev_cmp, ev_bcl, evs_cons, evs_nil, ev_var, List.getElem?_cons_succ, List.getElem?_cons_zero, bind_ok, isO_yn, if_true, show callF T 38 70 [yn t, .str [i]] S = .ok (.bl (decide (i ∈ t))) S from g, fi_B, e0, ofOpt_some, in_list, Option.map_some]
      rw [cmp_ne_is, eqO_bl]
      simp
  have n1 : cmpV S .ne (.lst (dX ((lo t 0 45).map fun c => [c]))) (.lst (dX ((lo t 0 45).map fun c => [c]))) = some false := by rw [cmp_ne_is, eqO_X (l := (lo t 0 45).map fun c => [c]) (m := (lo t 0 45).map fun c => [c]) rfl rfl]; simp
  have n2 : cmpV S .ne (.lst []) (.lst []) = some false := by rfl
  have z0 : ((List.range 0).map fun i => cyc t (0 + i)) = ([] : List Nat) := rfl
  have p0 : (t.length : Int) * (u.length : Int) = (m : Int) := by rw [hm, Int.natCast_mul]
  have inT : t.length > 1 → callF T 38 70 [yn t, .str t] S = .ok (.bl false) S := fun q => yarn_inX hT (n := 37) (by omega)
  rw [callF_eq (m := m__law_signs_right) rfl rfl]
  simp only [m__law_signs_right, startD]
  simp only [List.map_cons, List.map_nil, List.length_cons, List.length_nil, List.cons_append, List.nil_append, Nat.reduceSub, Nat.reduceAdd, List.replicate]
  have nb : ∀ S : Sto, cmpV S .ne (.bl b) (.bl b) = some false := fun S => by rw [cmp_ne_is, eqO_bl]; simp
  have nb2 : ∀ S : Sto, cmpV S .eq (.bl (!b)) (.bl b) = some false := fun S => by rw [cmp_eq_is, eqO_bl]; cases b <;> rfl
  have z5 : a5 = a5 := rfl
  by_cases big : t.length > 1
  · have it := inT big
    have bt : ((t.length : Int) > 1) := by omega
    have btd : cmpV S .gt (.int (t.length : Int)) (.int 1) = some true := by
      show some (decide ((1 : Int) < t.length)) = _
      rw [decide_eq_true (by omega)]
    by_cases sh : t.length + u.length ≤ 20
    · have shd : cmpV S .le (.int ((t.length : Int) + (u.length : Int))) (.int 20) = some true := by
        show some (decide ((t.length : Int) + (u.length : Int) ≤ 20)) = _
        rw [decide_eq_true (by omega)]
      have rpa : Rp (t ++ u) := ⟨by have := h.1; simp [this], by rw [List.length_append]; exact sh, fun c hc => (List.mem_append.mp hc).elim (h.2.2 c) (k.2.2 c)⟩
      have d1 := yarn_add hT (n := 34) (S := S) h k sh
      have d2 := yarn_rep hT (n := 37) (S := S) (t := t ++ u)
      have d3 := yarn_call hT (n := 35) (S := S) (k := 60) rpa (by decide)
      have d4 := lo_at (n := 37) (S := S) (a := 0) (z := 60) rpa (by decide) (by decide)
      have d5 := add_str (x := t) (y := u) (by rw [LIM_val]; omega)
      simp only [execs_cons, execs_nil, exec_par, exec_ite, exec_asg, exec_ret, evT_or, evT_and, evT_not, evT_cmp, evT_mcl, evT_mcr, ev_mcl, ev_mcr, ev_mk, ev_bin, ev_bcl, ev_call, ev_rev, ev_var, ev_cst, ev_lst, ev_cmp, evs_cons, evs_nil, List.getElem?_cons_succ, List.getElem?_cons_zero, List.set_cons_succ, List.set_cons_zero, bind_ok, bindS_ok, ofOpt_some, nextS_nx, nextS_rt, alloc_no,
        show callF T 38 61 [.any, .str t] S = .ok (yn t) S from a1, show callF T 38 61 [.any, .str u] S = .ok (yn u) S from a2, len_str, em, Tgt.set, List.zip_cons_cons, List.zip_nil_left, List.zip_nil_right, List.foldl_cons, List.foldl_nil, List.length_cons, List.length_nil, if_true, isO_yn, okA_len, okA_sub, okA_call, okA_eq, okA_eqX, okA_ne, okA_add, fi_call, fi_sub, fi_add, fi_eq, fi_ne, fi_B, bo_bl,
        show callF T 38 63 [yn t] S = .ok (.int t.length) S from a3, fi_len (show t.length ≤ 1000 by omega), cmp_neI, decide_true, Bool.not_true, Bool.false_eq_true, if_false, show callF T 38 62 [yn t] S = .ok (.str t) S from a4, cmp_neX, show callF T 38 65 [yn t, .int 0] S = .ok (.str []) S from a5, show callF T 38 65 [yn t, .int 70] S = .ok (.str (lo t 0 70)) S from a6, show callF T 38 58 [.str t, .int 0, .int 70] S = .ok (.str (lo t 0 70)) S from a7,
        l1, show callF T 38 58 [.str t, .int 0, .int 45] S = .ok (.str (lo t 0 45)) S from a8, ld_list, n1, Option.map_some, l2, n2, show callF T 38 70 [yn t, .str []] S = .ok (.bl false) S from i1, show callF T 38 70 [yn t, .non] S = .ok (.bl false) S from i2, show callF T 38 70 [yn t, .int 0] S = .ok (.bl false) S from i3,
        show callF T 38 58 [.str t, .int 0, .int (m : Int)] S = .ok (.str (lo t 0 m)) S from a9, show callF T 38 58 [.str u, .int 0, .int (m : Int)] S = .ok (.str (lo u 0 m)) S from a10, cmp_eqX, sm, show callF T 38 69 [yn t, yn u] S = .ok (.bl b) S from eb, nb, nb2, show callF T 38 69 [yn t, .str t] S = .ok (.bl false) S from a11, show callF T 38 69 [yn t, yn t] S = .ok (.bl true) S from ec,
        show callF T 38 67 [yn t] S = .ok (yn t.reverse) S from a12, show callF T 38 67 [yn t.reverse] S = .ok (yn t) S from a13, show callF T 38 62 [yn t.reverse] S = .ok (.str t.reverse) S from a14, rev_str, binV_add, show callF T 38 66 [yn t, yn u] S = .ok (yn (t ++ u)) S from d1, show callF T 38 62 [yn (t ++ u)] S = .ok (.str (t ++ u)) S from d2, show callF T 38 65 [yn (t ++ u), .int 60] S = .ok (.str (lo (t ++ u) 0 60)) S from d3, show callF T 38 58 [.str (t ++ u), .int 0, .int 60] S = .ok (.str (lo (t ++ u) 0 60)) S from d4, d5, btd, it, shd]
      simp only [nox_ok, bind_ok, fin_rt, retD_same]
    · have shd : cmpV S .le (.int ((t.length : Int) + (u.length : Int))) (.int 20) = some false := by
        show some (decide ((t.length : Int) + (u.length : Int) ≤ 20)) = _
        rw [decide_eq_false (by omega)]
      simp only [execs_cons, execs_nil, exec_par, exec_ite, exec_asg, exec_ret, evT_or, evT_and, evT_not, evT_cmp, evT_mcl, evT_mcr, ev_mcl, ev_mcr, ev_mk, ev_bin, ev_bcl, ev_call, ev_rev, ev_var, ev_cst, ev_lst, ev_cmp, evs_cons, evs_nil, List.getElem?_cons_succ, List.getElem?_cons_zero, List.set_cons_succ, List.set_cons_zero, bind_ok, bindS_ok, ofOpt_some, nextS_nx, nextS_rt, alloc_no,
        show callF T 38 61 [.any, .str t] S = .ok (yn t) S from a1, show callF T 38 61 [.any, .str u] S = .ok (yn u) S from a2, len_str, em, Tgt.set, List.zip_cons_cons, List.zip_nil_left, List.zip_nil_right, List.foldl_cons, List.foldl_nil, List.length_cons, List.length_nil, if_true, isO_yn, okA_len, okA_sub, okA_call, okA_eq, okA_eqX, okA_ne, okA_add, fi_call, fi_sub, fi_add, fi_eq, fi_ne, fi_B, bo_bl,
        show callF T 38 63 [yn t] S = .ok (.int t.length) S from a3, fi_len (show t.length ≤ 1000 by omega), cmp_neI, decide_true, Bool.not_true, Bool.false_eq_true, if_false, show callF T 38 62 [yn t] S = .ok (.str t) S from a4, cmp_neX, show callF T 38 65 [yn t, .int 0] S = .ok (.str []) S from a5, show callF T 38 65 [yn t, .int 70] S = .ok (.str (lo t 0 70)) S from a6, show callF T 38 58 [.str t, .int 0, .int 70] S = .ok (.str (lo t 0 70)) S from a7,
        l1, show callF T 38 58 [.str t, .int 0, .int 45] S = .ok (.str (lo t 0 45)) S from a8, ld_list, n1, Option.map_some, l2, n2, show callF T 38 70 [yn t, .str []] S = .ok (.bl false) S from i1, show callF T 38 70 [yn t, .non] S = .ok (.bl false) S from i2, show callF T 38 70 [yn t, .int 0] S = .ok (.bl false) S from i3,
        show callF T 38 58 [.str t, .int 0, .int (m : Int)] S = .ok (.str (lo t 0 m)) S from a9, show callF T 38 58 [.str u, .int 0, .int (m : Int)] S = .ok (.str (lo u 0 m)) S from a10, cmp_eqX, sm, show callF T 38 69 [yn t, yn u] S = .ok (.bl b) S from eb, nb, nb2, show callF T 38 69 [yn t, .str t] S = .ok (.bl false) S from a11, show callF T 38 69 [yn t, yn t] S = .ok (.bl true) S from ec,
        show callF T 38 67 [yn t] S = .ok (yn t.reverse) S from a12, show callF T 38 67 [yn t.reverse] S = .ok (yn t) S from a13, show callF T 38 62 [yn t.reverse] S = .ok (.str t.reverse) S from a14, rev_str, binV_add, btd, it, shd]
      simp only [nox_ok, bind_ok, fin_rt, retD_same]
  · have btd : cmpV S .gt (.int (t.length : Int)) (.int 1) = some false := by
      show some (decide ((1 : Int) < t.length)) = _
      rw [decide_eq_false (by omega)]
    by_cases sh : t.length + u.length ≤ 20
    · have shd : cmpV S .le (.int ((t.length : Int) + (u.length : Int))) (.int 20) = some true := by
        show some (decide ((t.length : Int) + (u.length : Int) ≤ 20)) = _
        rw [decide_eq_true (by omega)]
      have rpa : Rp (t ++ u) := ⟨by have := h.1; simp [this], by rw [List.length_append]; exact sh, fun c hc => (List.mem_append.mp hc).elim (h.2.2 c) (k.2.2 c)⟩
      have d1 := yarn_add hT (n := 34) (S := S) h k sh
      have d2 := yarn_rep hT (n := 37) (S := S) (t := t ++ u)
      have d3 := yarn_call hT (n := 35) (S := S) (k := 60) rpa (by decide)
      have d4 := lo_at (n := 37) (S := S) (a := 0) (z := 60) rpa (by decide) (by decide)
      have d5 := add_str (x := t) (y := u) (by rw [LIM_val]; omega)
      simp only [execs_cons, execs_nil, exec_par, exec_ite, exec_asg, exec_ret, evT_or, evT_and, evT_not, evT_cmp, evT_mcl, evT_mcr, ev_mcl, ev_mcr, ev_mk, ev_bin, ev_bcl, ev_call, ev_rev, ev_var, ev_cst, ev_lst, ev_cmp, evs_cons, evs_nil, List.getElem?_cons_succ, List.getElem?_cons_zero, List.set_cons_succ, List.set_cons_zero, bind_ok, bindS_ok, ofOpt_some, nextS_nx, nextS_rt, alloc_no,
        show callF T 38 61 [.any, .str t] S = .ok (yn t) S from a1, show callF T 38 61 [.any, .str u] S = .ok (yn u) S from a2, len_str, em, Tgt.set, List.zip_cons_cons, List.zip_nil_left, List.zip_nil_right, List.foldl_cons, List.foldl_nil, List.length_cons, List.length_nil, if_true, isO_yn, okA_len, okA_sub, okA_call, okA_eq, okA_eqX, okA_ne, okA_add, fi_call, fi_sub, fi_add, fi_eq, fi_ne, fi_B, bo_bl,
        show callF T 38 63 [yn t] S = .ok (.int t.length) S from a3, fi_len (show t.length ≤ 1000 by omega), cmp_neI, decide_true, Bool.not_true, Bool.false_eq_true, if_false, show callF T 38 62 [yn t] S = .ok (.str t) S from a4, cmp_neX, show callF T 38 65 [yn t, .int 0] S = .ok (.str []) S from a5, show callF T 38 65 [yn t, .int 70] S = .ok (.str (lo t 0 70)) S from a6, show callF T 38 58 [.str t, .int 0, .int 70] S = .ok (.str (lo t 0 70)) S from a7,
        l1, show callF T 38 58 [.str t, .int 0, .int 45] S = .ok (.str (lo t 0 45)) S from a8, ld_list, n1, Option.map_some, l2, n2, show callF T 38 70 [yn t, .str []] S = .ok (.bl false) S from i1, show callF T 38 70 [yn t, .non] S = .ok (.bl false) S from i2, show callF T 38 70 [yn t, .int 0] S = .ok (.bl false) S from i3,
        show callF T 38 58 [.str t, .int 0, .int (m : Int)] S = .ok (.str (lo t 0 m)) S from a9, show callF T 38 58 [.str u, .int 0, .int (m : Int)] S = .ok (.str (lo u 0 m)) S from a10, cmp_eqX, sm, show callF T 38 69 [yn t, yn u] S = .ok (.bl b) S from eb, nb, nb2, show callF T 38 69 [yn t, .str t] S = .ok (.bl false) S from a11, show callF T 38 69 [yn t, yn t] S = .ok (.bl true) S from ec,
        show callF T 38 67 [yn t] S = .ok (yn t.reverse) S from a12, show callF T 38 67 [yn t.reverse] S = .ok (yn t) S from a13, show callF T 38 62 [yn t.reverse] S = .ok (.str t.reverse) S from a14, rev_str, binV_add, show callF T 38 66 [yn t, yn u] S = .ok (yn (t ++ u)) S from d1, show callF T 38 62 [yn (t ++ u)] S = .ok (.str (t ++ u)) S from d2, show callF T 38 65 [yn (t ++ u), .int 60] S = .ok (.str (lo (t ++ u) 0 60)) S from d3, show callF T 38 58 [.str (t ++ u), .int 0, .int 60] S = .ok (.str (lo (t ++ u) 0 60)) S from d4, d5, btd, shd]
      simp only [nox_ok, bind_ok, fin_rt, retD_same]
    · have shd : cmpV S .le (.int ((t.length : Int) + (u.length : Int))) (.int 20) = some false := by
        show some (decide ((t.length : Int) + (u.length : Int) ≤ 20)) = _
        rw [decide_eq_false (by omega)]
      simp only [execs_cons, execs_nil, exec_par, exec_ite, exec_asg, exec_ret, evT_or, evT_and, evT_not, evT_cmp, evT_mcl, evT_mcr, ev_mcl, ev_mcr, ev_mk, ev_bin, ev_bcl, ev_call, ev_rev, ev_var, ev_cst, ev_lst, ev_cmp, evs_cons, evs_nil, List.getElem?_cons_succ, List.getElem?_cons_zero, List.set_cons_succ, List.set_cons_zero, bind_ok, bindS_ok, ofOpt_some, nextS_nx, nextS_rt, alloc_no,
        show callF T 38 61 [.any, .str t] S = .ok (yn t) S from a1, show callF T 38 61 [.any, .str u] S = .ok (yn u) S from a2, len_str, em, Tgt.set, List.zip_cons_cons, List.zip_nil_left, List.zip_nil_right, List.foldl_cons, List.foldl_nil, List.length_cons, List.length_nil, if_true, isO_yn, okA_len, okA_sub, okA_call, okA_eq, okA_eqX, okA_ne, okA_add, fi_call, fi_sub, fi_add, fi_eq, fi_ne, fi_B, bo_bl,
        show callF T 38 63 [yn t] S = .ok (.int t.length) S from a3, fi_len (show t.length ≤ 1000 by omega), cmp_neI, decide_true, Bool.not_true, Bool.false_eq_true, if_false, show callF T 38 62 [yn t] S = .ok (.str t) S from a4, cmp_neX, show callF T 38 65 [yn t, .int 0] S = .ok (.str []) S from a5, show callF T 38 65 [yn t, .int 70] S = .ok (.str (lo t 0 70)) S from a6, show callF T 38 58 [.str t, .int 0, .int 70] S = .ok (.str (lo t 0 70)) S from a7,
        l1, show callF T 38 58 [.str t, .int 0, .int 45] S = .ok (.str (lo t 0 45)) S from a8, ld_list, n1, Option.map_some, l2, n2, show callF T 38 70 [yn t, .str []] S = .ok (.bl false) S from i1, show callF T 38 70 [yn t, .non] S = .ok (.bl false) S from i2, show callF T 38 70 [yn t, .int 0] S = .ok (.bl false) S from i3,
        show callF T 38 58 [.str t, .int 0, .int (m : Int)] S = .ok (.str (lo t 0 m)) S from a9, show callF T 38 58 [.str u, .int 0, .int (m : Int)] S = .ok (.str (lo u 0 m)) S from a10, cmp_eqX, sm, show callF T 38 69 [yn t, yn u] S = .ok (.bl b) S from eb, nb, nb2, show callF T 38 69 [yn t, .str t] S = .ok (.bl false) S from a11, show callF T 38 69 [yn t, yn t] S = .ok (.bl true) S from ec,
        show callF T 38 67 [yn t] S = .ok (yn t.reverse) S from a12, show callF T 38 67 [yn t.reverse] S = .ok (yn t) S from a13, show callF T 38 62 [yn t.reverse] S = .ok (.str t.reverse) S from a14, rev_str, binV_add, btd, shd]
      simp only [nox_ok, bind_ok, fin_rt, retD_same]
theorem turn_turn {t : List Nat} {a b : Nat} (h : Rp t) : Sh (turnL (turnL t a) b) (turnL t (a + b)) 0 := sh_refl fun i => by
  rw [turnL_cyc (turn_rp hT h).1, turnL_cyc h.1, turnL_cyc h.1, Nat.add_assoc]
theorem turn_zero {t : List Nat} (h : Rp t) : Sh (turnL t 0) t 0 := sh_refl fun i => by rw [turnL_cyc h.1, Nat.zero_add]
theorem turn_all {t : List Nat} : turnL t t.length = t := by
  unfold turnL
  rw [Nat.mod_self, List.drop_zero, List.take_zero, List.append_nil]
def restM : List MS := match m_law.body with
  | .forr _ _ (_ :: b) :: _ => b
  | _ => []
def tailM : List MS := m_law.body.drop 1
theorem p12 : binV .pow (.int 10) (.int 12) = some (.int 1000000000000) := by rfl
theorem turn_ok {S : Sto} {b : Nat} (hb : Bag b S) (x0 x1 x3 x4 x5 x6 x7 x8 x9 x10 : Option D) :
    Ok (execs (callF T 39) restM [x0, x1, some (.own b), x3, x4, x5, x6, x7, x8, x9, x10] S) fun fl _ => ∃ y3 y4 y5 y6 y7 y8 y9 y10, fl = .nx [x0, x1, some (.own b), y3, y4, y5, y6, y7, y8, y9, y10] := by
  obtain ⟨t, S1, h0, h1, h2, b1, bag1, e1⟩ := repeat_ok hT (n := 36) (most := 20) hb (by decide) (by decide)
  have rp : Rp t := ⟨h0, by omega, h2⟩
  have tl := rp.pos
  have tl2 := rp.2.1
  obtain ⟨v, S2, hv, b2, bag2, e2⟩ := take_ok hT (n := 38) (c := 60) bag1 (by decide) (Dv_of (by decide) (by decide))
  have hv' : v < 60 := hv
  have e3 := lo_at (n := 38) (S := S2) (a := v) (z := t.length) rp (by omega) (by rw [LIM_val]; omega)
  rw [lo_len rp.1] at e3
  obtain ⟨t2, S3, q0, q1, q2, b3, bag3, e4⟩ := repeat_ok hT (n := 36) (most := 20) bag2 (by decide) (by decide)
  obtain ⟨t3, S4, r0, r1, r2, b4, bag4, e5⟩ := repeat_ok hT (n := 36) (most := 3) bag3 (by decide) (by decide)
  have rp2 : Rp t2 := ⟨q0, by omega, q2⟩
  have rp3 : Rp t3 := ⟨r0, by omega, r2⟩
  have rpt := turn_rp hT (a := v) rp
  have rpv : Rp t.reverse := ⟨by simp [h0], by rw [List.length_reverse]; exact tl2, fun c hc => h2 c (List.mem_reverse.mp hc)⟩
  have md : binV .mul (.str t) (.int 2) = some (.str (List.replicate 2 t).flatten) := mul_str (by omega) (by decide)
  have fl2 : (List.replicate 2 t).flatten = t ++ t := by simp [List.replicate]
  rw [fl2] at md
  have rp5 : Rp ((t ++ t).take 20) := by
    refine ⟨fun z => ?_, by rw [List.length_take]; omega, fun c hc => ?_⟩
    · have := congrArg List.length z
      rw [List.length_take, List.length_append, List.length_nil] at this
      omega
    · have := List.mem_of_mem_take hc
      exact h2 c ((List.mem_append.mp this).elim id id)
  obtain ⟨w, S5, hw, b5, bag5, e6⟩ := take_ok hT (n := 38) (c := 1000) bag4 (by decide) (Dv_of (by decide) (by decide))
  have hw' : w < 1000 := hw
  have cs : ev (callF T 39) (.lcm false (.var 7) [7] (.nm 7) (.seq (.var 6)) (some (.not (.call 100 [(.var 3), (.var 7)])))) [x0, x1, some (.own b), some (.str t), some (.int v), some (.str (turnL t v)), some (.lst [.str t2, .str t3, .str (turnL t v), .str t.reverse, .str ((t ++ t).take 20)]), x7, x8, x9, x10] S4 = .ok (.lst []) S4 := by
    refine lcm_of (S1 := S4) (ds := [.str t2, .str t3, .str (turnL t v), .str t.reverse, .str ((t ++ t).take 20)]) (by simp only [evI_seq, ev_var, List.getElem?_cons_succ, List.getElem?_cons_zero, bind_ok]; rfl) (by show 5 ≤ LIM; decide) ?_
    rw [comp_filter (fun d => d) (fun _ => false) _ _ fun d hd => ?_]
    · simp
    · obtain ⟨u, rfl, ru⟩ : ∃ u, d = .str u ∧ Rp u := by
        simp only [List.mem_cons, List.not_mem_nil, or_false] at hd
        rcases hd with rfl | rfl | rfl | rfl | rfl
        · exact ⟨_, rfl, rp2⟩
        · exact ⟨_, rfl, rp3⟩
        · exact ⟨_, rfl, rpt⟩
        · exact ⟨_, rfl, rpv⟩
        · exact ⟨_, rfl, rp5⟩
      refine ⟨_, rfl, ?_, fun z => by cases z⟩
      simp only [wipeD, List.set_cons_succ, List.set_cons_zero, evC_some, evT_not, evT_call, evs_cons, evs_nil, ev_var, List.getElem?_cons_succ, List.getElem?_cons_zero, bind_ok, signs_ok rp ru S4]
      rfl
  have n2 : ∀ S : Sto, cmpV S .ne (.lst []) (.lst []) = some false := fun S => by rfl
  have a1 := yarn_mk hT (n := 36) (S := S4) rp
  have a2 := yarn_shl hT (n := 35) (S := S4) (a := v) rp (by omega)
  have a3 := yarn_rep hT (n := 38) (S := S4) (t := turnL t v)
  have a4 := yarn_call hT (n := 36) (S := S4) (k := 50) rpt (by decide)
  have a5 := lo_at (n := 38) (S := S4) (a := v) (z := 50) rp (by omega) (by decide)
  have a6 := yarn_shl hT (n := 35) (S := S4) (a := 0) rp (by omega)
  obtain ⟨c0, hc0, ec0⟩ := yarn_eq hT (turn_rp hT (a := 0) rp) rp
  have hc0 : c0 = true := hc0.mpr (turn_zero rp)
  subst hc0
  have m1 : binV .mul (.int (w : Int)) (.int 1000000000000) = some (.int ((w * 1000000000000 : Nat) : Int)) := by rw [binV_mul (.inr (by decide)), Int.natCast_mul]; rfl
  obtain ⟨M, hM⟩ : ∃ M, M = w * 1000000000000 := ⟨_, rfl⟩
  rw [← hM] at m1
  have a7 := yarn_shl hT (n := 35) (S := S5) (a := M) rp (by omega)
  have a8 := yarn_get hT (n := 36) (S := S5) (a := v) (turn_rp hT (a := M) rp).1 (by omega)
  have a9 := yarn_get hT (n := 36) (S := S5) (a := M + v) rp.1 (by omega)
  rw [turnL_cyc rp.1] at a8
  have s1 : ((M : Int) + (v : Int)) = ((M + v : Nat) : Int) := by omega
  have s2 : ((v : Int) + 7) = ((v + 7 : Nat) : Int) := by omega
  have a10 := yarn_shl hT (n := 35) (S := S5) (a := v) rp (by omega)
  have a11 := yarn_shl hT (n := 35) (S := S5) (a := 7) rpt (by decide)
  have a12 := yarn_shl hT (n := 35) (S := S5) (a := v + 7) rp (by omega)
  obtain ⟨c1, hc1, ec1⟩ := yarn_eq hT (turn_rp hT (a := 7) rpt) (turn_rp hT (a := v + 7) rp)
  have hc1 : c1 = true := hc1.mpr (turn_turn rp)
  subst hc1
  have a13 := yarn_shl hT (n := 35) (S := S5) (a := t.length) rp (by omega)
  rw [turn_all] at a13
  have a14 := yarn_rep hT (n := 38) (S := S5) (t := t)
  have a15 := yarn_mk hT (n := 36) (S := S5) rp
  obtain ⟨c2, hc2, ec2⟩ := yarn_eq hT rp rp
  have hc2 : c2 = true := hc2.mpr (sh_refl fun _ => rfl)
  subst hc2
  have g1 : slcV (.str t) none (some 0) = some (.str []) := by show some (D.str (cutD t none (some 0))) = _; rw [cut_to (by decide)]; rfl
  have g2 : slcV (.str (t ++ t)) none (some 20) = some (.str ((t ++ t).take 20)) := by show some (D.str (cutD (t ++ t) none (some 20))) = _; rw [cut_to (by decide)]; rfl
  have g3 : binV .add (.str t) (.str []) = some (.str t) := by rw [add_str (by rw [LIM_val]; simp; omega), List.append_nil]
  simp only [restM, m_law]
  simp only [execs_cons, execs_nil, exec_asg, exec_ite, evT_or, evT_cmp, evT_mcl, ev_mcl, ev_mk, ev_bin, ev_bcl, ev_call, ev_rev, ev_slc, evO_none, evO_some, ev_var, ev_cst, ev_lst, evs_cons, evs_nil, List.getElem?_cons_succ, List.getElem?_cons_zero, List.set_cons_succ, List.set_cons_zero, bind_ok, bindS_ok, ofOpt_some, nextS_nx, alloc_no,
    show callF T 39 55 [.own b, .int 20] S = .ok (.str t) S1 from e1, e2, len_str, show callF T 39 58 [.str t, .int (v : Int), .int (t.length : Int)] S2 = .ok (.str (turnL t v)) S2 from e3, show callF T 39 55 [.own b, .int 20] S2 = .ok (.str t2) S3 from e4, show callF T 39 55 [.own b, .int 3] S3 = .ok (.str t3) S4 from e5, rev_str, md, g2,
    cs, n2, Option.map_some, Bool.false_eq_true, if_false, show callF T 39 61 [.any, .str t] S4 = .ok (yn t) S4 from a1, isO_yn, if_true, okA_shl, okA_sub, okA_call, okA_ne, okA_eq, fi_shl, fi_sub, fi_call, fi_ne, fi_eq, bo_bl,
    show callF T 39 68 [yn t, .int (v : Int)] S4 = .ok (yn (turnL t v)) S4 from a2, show callF T 39 62 [yn (turnL t v)] S4 = .ok (.str (turnL t v)) S4 from a3, cmp_neX, decide_true, Bool.not_true, show callF T 39 65 [yn (turnL t v), .int 50] S4 = .ok (.str (lo (turnL t v) 0 50)) S4 from a4, lo_turn rp.1, show callF T 39 58 [.str t, .int (v : Int), .int 50] S4 = .ok (.str (lo t v 50)) S4 from a5,
    show callF T 39 68 [yn t, .int 0] S4 = .ok (yn (turnL t 0)) S4 from a6, show callF T 39 69 [yn (turnL t 0), yn t] S4 = .ok (.bl true) S4 from ec0 37 S4, e6, p12, m1, show callF T 39 68 [yn t, .int (M : Int)] S5 = .ok (yn (turnL t M)) S5 from a7, show callF T 39 64 [yn (turnL t M), .int (v : Int)] S5 = .ok (.str [cyc t (M + v)]) S5 from a8, binV_add, s1, s2,
    show callF T 39 64 [yn t, .int ((M + v : Nat) : Int)] S5 = .ok (.str [cyc t (M + v)]) S5 from a9, show callF T 39 68 [yn t, .int (v : Int)] S5 = .ok (yn (turnL t v)) S5 from a10, show callF T 39 68 [yn (turnL t v), .int 7] S5 = .ok (yn (turnL (turnL t v) 7)) S5 from a11, show callF T 39 68 [yn t, .int ((v + 7 : Nat) : Int)] S5 = .ok (yn (turnL t (v + 7))) S5 from a12,
    show callF T 39 69 [yn (turnL (turnL t v) 7), yn (turnL t (v + 7))] S5 = .ok (.bl true) S5 from ec1 37 S5, show callF T 39 68 [yn t, .int (t.length : Int)] S5 = .ok (yn t) S5 from a13, show callF T 39 62 [yn t] S5 = .ok (.str t) S5 from a14, g1, g3, show callF T 39 61 [.any, .str t] S5 = .ok (yn t) S5 from a15, show callF T 39 69 [yn t, yn t] S5 = .ok (.bl true) S5 from ec2 37 S5, ok_ok]
  exact ⟨_, _, _, _, _, _, _, _, rfl⟩
theorem len11 {ρ : Env} (h : ρ.length = 11) : ∃ x0 x1 x2 x3 x4 x5 x6 x7 x8 x9 x10, ρ = [x0, x1, x2, x3, x4, x5, x6, x7, x8, x9, x10] := by
  match ρ, h with
  | [x0, x1, x2, x3, x4, x5, x6, x7, x8, x9, x10], _ => exact ⟨_, _, _, _, _, _, _, _, _, _, _, rfl⟩
theorem tail_by (x0 x1 x2 x3 x4 x5 x6 x7 x8 x9 x10 : Option D) : pxs (callP T 39) tailM [x0, x1, x2, x3, x4, x5, x6, x7, x8, x9, x10] = .ok (.rt (.bl true)) := by kernel_rfl
theorem main (ns : List Int) (hn : ns.length ≤ 63) : ∃ S, callF T 40 101 [.frz (ns.map .int)] ⟨0, []⟩ = .ok (.bl true) S := by
  refine main_of (m := m_law) rfl rfl ?_
  refine law_outer hT (n := 38) (N := 11) (m := 8) hn (by decide) (by decide) (fun ρ S k h h1 S' bag nx => ?_) (fun ρ S h => ?_) _ _ ⟨rfl, rfl⟩
  · show Ok (execs (callF T 39) restM ρ S') _
    obtain ⟨x0, x1, x2, x3, x4, x5, x6, x7, x8, x9, x10, rfl⟩ := len11 h.2.2
    have e0 : x0 = some (.frz (ns.map .int)) := by have := h.1; simpa using this
    have e2 : x2 = some (.own S.nx) := by have := h.2.1; simpa using this
    subst e0 e2
    refine (turn_ok bag _ x1 x3 x4 x5 x6 x7 x8 x9 x10).mono fun fl S2 ⟨_, _, _, _, _, _, _, _, e⟩ => ⟨_, e, rfl, rfl⟩
  · show Ok (execs (callF T 39) tailM ρ S) _
    obtain ⟨x0, x1, x2, x3, x4, x5, x6, x7, x8, x9, x10, rfl⟩ := len11 h.2
    rw [execs_is (tail_by x0 x1 x2 x3 x4 x5 x6 x7 x8 x9 x10)]
    rfl
end Lk16
end
theorem PySem.Challenge.cw_yarnpools_k16_whole_yarns_as_objects_holds : PySem.Challenge.rw_yarnpools_k16_whole_yarns_as_objects.Holds := by
  exact Lk16.holds Lk16.main
